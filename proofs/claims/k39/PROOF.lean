import PyProof.Rows.All
import Wide.All
import OpenK.AllK
import Wide.FinOn
import HandS.ForMost
import HandS.IsInst
import HandS.StrMore
import HandS.Walk
import HandS.Style
import HandS.Codes
import HandS.Conv
import HandS.More
import HandS.Evl
import PyProof.StrBlock2
import KE.KDictZip
import HandS.ListItems
import KE.GoesEnum
import KE.GoesMore
import HandS.ExcIs
import HandS.ExcValue
import HandS.ExcBuiltin
import HandS.WordsExc
import KE.KExcIs
import HandS.SetFor
import HandS.Strs
import PyProof.Rows.SortShellAny
import PyProof.StrWalks
import KE.LtSeq
import PyProof.StrLawsFirst
import HandS.Replace
import HandS.Wide
import HandS.SortInts
import PyProof.Rows.StrBetween
import PyProof.Rows.StrLast
import PyProof.ListStr
import PyProof.ReprRoads
import PyProof.ReprLen
import PyProof.Rows.RegStrFacts
import KE.DataMinMax
import KE.GoesZip
import HandS.DictTup
import HandS.Deep
import PyProof.Rows.TupDisplay
import KE.SortData
import HandS.NoneIn
import HandS.TryOnly
import HandS.SuiteRaise
import HandS.RaiseFrom
import PyProof.P3Eq
import PyProof.TupleOfStr
import KE.GoesComp
import PyProof.ReprBulk
import PySem.Challenge.RW_leavings_k39_papers_of_arches_judged
set_option Elab.async false
set_option linter.all false
set_option maxRecDepth 100000
set_option maxHeartbeats 2000000
namespace Lv
open PySem PySem.Spec PyProof.Rows L2 SX

/-! texts as lists of codes -/
theorem pe_strS {X : Cx} {x : Str} {j : Nat} {pos : Pos} {l : List Nat} (h : x = S l) : PE X (.Constant (.str x) j pos) (tC (.str (S l))) := by
  subst h
  exact pe_str
/-- s[::-1] of a text -/
def tRevS (te : TE) : TE := fun σ H Q => te σ H fun x H1 => ∃ l : List Nat, x = .str (S l) ∧ l.length ≤ sizeLine ∧ Q (.str (S l.reverse)) H1
theorem fm_some {α β : Type} {f : α → Option β} {g : α → β} : ∀ {l : List α}, (∀ k ∈ l, f k = some (g k)) → l.filterMap f = l.map g
  | [], _ => rfl
  | a :: l, h => by
    rw [List.filterMap_cons, h a List.mem_cons_self, List.map_cons, fm_some fun k hk => h k (List.mem_cons_of_mem _ hk)]
theorem range_getD {α : Type} (l : List α) (d : α) : (List.range l.length).map (fun k => l.getD k d) = l := by
  apply List.ext_getElem
  · simp
  · intro i h1 h2
    simp [List.getD_eq_getElem?_getD, h2]
theorem idx_rev (n : Nat) : Builtin.Str.strSliceIndices none none (-1) n = (List.range n).map (fun k => n - 1 - k) := by
  unfold Builtin.Str.strSliceIndices PySem.sliceRange
  simp only [show ¬ ((-1 : Int) > 0) by decide, if_false]
  by_cases h : (n : Int) - 1 > -1
  · rw [if_pos h]
    have e : (((n : Int) - 1 - -1 - -1 - 1) / - -1).toNat = n := by
      rw [show (- -1 : Int) = 1 by decide, Int.ediv_one]; omega
    rw [e]
    refine List.map_congr_left fun k hk => ?_
    have := List.mem_range.mp hk
    omega
  · have : n = 0 := by omega
    subst this
    rfl
theorem pick_rev (l : List Nat) : (((List.range l.length).map (fun k => l.length - 1 - k)).filterMap (fun i => l.toArray[i]?)) = l.reverse := by
  rw [List.filterMap_map, fm_some (g := fun k => l.reverse.getD k 0)]
  · have := range_getD l.reverse 0
    rw [List.length_reverse] at this
    exact this
  · intro k hk
    have hk := List.mem_range.mp hk
    have h1 : l.length - 1 - k < l.length := by omega
    show l.toArray[l.length - 1 - k]? = _
    rw [List.getElem?_toArray, List.getD_eq_getElem?_getD, List.getElem?_reverse hk, List.getElem?_eq_getElem h1]
    rfl
theorem pe_revS {X : Cx} {e : Expr} {te : TE} {k : Nat} {p1 p2 p3 pos : Pos} (he : PE X e te) : PE X (.Subscript e (.Slice none none (some (.UnaryOp .USub (.Constant (.int 1) k p1) p2)) p3) pos) (tRevS te) := by
  refine ⟨fun pins s σ H Q I h => ?_⟩
  refine Subscript_ (thn (he.run pins s σ H _ I h) fun v s1 ⟨x, H1, I1, r1, q1⟩ => ?_)
  obtain ⟨l, rfl, hz, q⟩ := q1
  obtain ⟨t, rfl⟩ := r1
  have hst : PO X (some (.UnaryOp .USub (.Constant (.int 1) k p1) p2)) (tPart (tUn (rU fun i => .int (-i)) (tC (.int 1)))) := po_some (pe_un un_neg pe_int)
  refine wpAny_Slice (thn (po_none.run pins s1 σ H1 (fun o H2 => o = none ∧ H2 = H1) I1 ⟨rfl, rfl⟩) fun vl s2 ⟨lo, H2, I2, pl, el, e2⟩ => ?_)
  subst el e2
  refine thn (po_none.run pins s2 σ H2 (fun o H3 => o = none ∧ H3 = H2) I2 ⟨rfl, rfl⟩) fun vu s3 ⟨u, H3, I3, pu, eu, e3⟩ => ?_
  subst eu e3
  refine thn (hst.run pins s3 σ H3 (fun o H4 => o = some (-1) ∧ H4 = H3) I3 ⟨1, rfl, -1, rfl, rfl, rfl⟩) fun vs s4 ⟨o, H4, I4, ps, eo, e4⟩ => ?_
  subst eo e4
  have I5 : Inv X pins σ H4 { s4 with heap := s4.heap.push { cls := .type "slice", data := .fields #[vl, vu, vs] } } := I4.kept (t' := s4.toks) fun b ob q => Heap.get?_push_of_some _ q
  obtain ⟨a1, rfl, e1⟩ := IsPart.raw pl
  obtain ⟨a2, rfl, e2⟩ := IsPart.raw pu
  obtain ⟨a3, rfl, e3⟩ := IsPart.raw ps
  show wpAny (model X.prog X.w) X.A (subscriptTail e (.Slice none none (some (.UnaryOp .USub (.Constant (.int 1) k p1) p2)) p3) (.str (S l) t) (.ref s4.heap.objs.size)) (EP X pins σ Q) X.xe { s4 with heap := s4.heap.push { cls := .type "slice", data := .fields #[partValue a1, partValue a2, partValue a3] } }
  refine tail_any (ops := [.str (S l) t, .ref s4.heap.objs.size]) (typeIs_str _ _ _) (F.slot_str_getitem.lookup) ?_ (by with_unfolding_all rfl)
  have e3' : (a3.map (·.1)).getD 1 = -1 := by rw [e3]; rfl
  refine wpAny_getItem_str_slice (l := a1) (u := a2) (st := a3) ⟨_, Heap.get?_push_size _ rfl, rfl, rfl⟩ (by rw [e3']; decide) ?_
  unfold sliceMade
  rw [if_neg (by rw [e3']; simp)]
  have ep : ((slicePicked (S l) a1 a2 a3).filterMap ((S l).cps[·]?)) = l.reverse := by
    unfold slicePicked
    rw [e3', e1, e2, S_len, idx_rev]
    exact pick_rev l
  rw [ep]
  refine ⟨?_, .str (S l.reverse), H4, I5.tok _, ⟨_, rfl⟩, q⟩
  show (S l.reverse).length ≤ sizeLine
  rw [S_len, List.length_reverse]
  exact hz
theorem foldl_app {α : Type} (n : Nat) (l : List α) : ∀ acc : Array α, ((List.replicate n l.toArray).foldl (· ++ ·) acc).toList = acc.toList ++ (List.replicate n l).flatten := by
  induction n with
  | zero => intro acc; simp
  | succ n ih =>
    intro acc
    rw [List.replicate_succ, List.foldl_cons, ih, List.replicate_succ, List.flatten_cons]
    simp
theorem mul_S (l : List Nat) (n : Int) : Txt.mul (S l) n = S (List.replicate n.toNat l).flatten := by
  unfold Txt.mul
  by_cases h : n < 1
  · rw [if_pos h, show n.toNat = 0 by omega]
    rfl
  · rw [if_neg h]
    by_cases h2 : (n == 1 || (S l).length == 0) = true
    · rw [if_pos h2]
      rw [Bool.or_eq_true] at h2
      rcases h2 with h2 | h2
      · have := eq_of_beq h2
        subst this
        simp
      · rw [S_len] at h2
        have : l = [] := List.length_eq_zero_iff.mp (eq_of_beq h2)
        subst this
        simp
    · rw [if_neg h2]
      refine TL.ext_tl ?_
      show ((List.replicate n.toNat l.toArray).foldl (· ++ ·) #[]).toList = _
      rw [foldl_app]
      simp [TL.tl]
theorem op_mulS {X : Cx} : OpR X (binaryOp .Mult) (fun x y H Q => ∃ (l : List Nat) (n : Int), x = .str (S l) ∧ y = .int n ∧ -(2 ^ 38) < n ∧ n < 2 ^ 38 ∧ l.length * n.toNat ≤ sizeLine ∧ Q (.str (S (List.replicate n.toNat l).flatten)) H) := by
  intro pins s σ H x y v u Q I rx ry h
  obtain ⟨l, n, rfl, rfl, h0, h1, hz, q⟩ := h
  obtain ⟨t, rfl⟩ := rx
  obtain ⟨t', rfl⟩ := ry
  refine SB.mul ⟨?_, ?_, ?_⟩ fun t2 k => ?_
  · rw [decide_eq_false (show ¬ n < -(2 ^ 63 : Int) by omega), decide_eq_false (show ¬ n ≥ (2 ^ 63 : Int) by omega)]; rfl
  · intro h2 h3 h4
    rw [S_len] at h4
    have h5 : (l.length : Int) ≤ 16777216 := by
      have : l.length * 1 ≤ l.length * n.toNat := Nat.mul_le_mul_left _ (by omega)
      have : sizeLine = 16777216 := by decide
      omega
    have h6 : (2 ^ 63 - 1 : Int) / n ≥ 16777216 := by
      have := Int.le_ediv_of_mul_le (show 0 < n by omega) (show 16777216 * n ≤ 2 ^ 63 - 1 by omega)
      exact this
    omega
  · intro _ _
    unfold Builtin.Str.tooLong
    rw [S_len]
    exact decide_eq_false (by omega)
  · rw [mul_S]
    exact ⟨.str _, H, I.tok _, ⟨_, rfl⟩, q⟩
end Lv

set_option Elab.async false
set_option linter.all false
set_option maxRecDepth 100000
set_option maxHeartbeats 2000000
namespace Lv
open PySem PySem.Spec PyProof.Rows L2 SX
/-! list(enumerate(list)) -/
theorem en_no_len : typeLookup (.type "enumerate") "__len__" = pure none := by rw [typeLookup_type, builtinLookup_eq_fast]; kernel_rfl
theorem en_no_hint : typeLookup (.type "enumerate") "__length_hint__" = pure none := by rw [typeLookup_type, builtinLookup_eq_fast]; kernel_rfl
def EnSt (h : Heap) (e it l S : Addr) (i : Nat) (items : Array Value) : Prop :=
  h.IsListIter it l i ∧ h.IsList l items ∧ ((∃ old, IsEnum h e it i old) ∨ ∃ old T f oT, IsEnumHeld h e it i old T f ∧ h.get? T = some oT ∧ T ≠ e ∧ T ≠ it ∧ T ≠ S)
structure EnG (items : Array Value) (lo : Addr) (h : Heap) (ts : List Addr) : Prop where
  rise : ts.Pairwise (· < ·)
  above : ∀ a ∈ ts, lo < a
  pairs : ∀ (j : Nat) (a : Addr), ts[j]? = some a → ∃ t x, items[j]? = some x ∧ h.get? a = some { cls := .type "tuple", data := .seq #[.int j t, x] }
theorem EnG.there {items : Array Value} {lo : Addr} {h : Heap} {ts : List Addr} (g : EnG items lo h ts) {a : Addr} (ha : a ∈ ts) : a < h.objs.size := by
  obtain ⟨j, hj⟩ := List.mem_iff_getElem?.mp ha
  obtain ⟨_, _, _, e⟩ := g.pairs j a hj
  exact Heap.lt_size e
theorem EnSt.keep {h h' : Heap} {e it l S : Addr} {i : Nat} {items : Array Value} (x : EnSt h e it l S i items) (hk : ∀ b o, b ≠ S → h.get? b = some o → h'.get? b = some o) (he : e ≠ S) (hi : it ≠ S) (hl : l ≠ S) : EnSt h' e it l S i items := by
  obtain ⟨a, b, c⟩ := x
  refine ⟨a.at fun o y => hk _ o hi y, b.at fun o y => hk _ o hl y, ?_⟩
  rcases c with ⟨old, c⟩ | ⟨old, T, f, oT, c, c1, c2, c3, c4⟩
  · exact .inl ⟨old, hk _ _ he c⟩
  · exact .inr ⟨old, T, f, oT, hk _ _ he c, hk _ _ c4 c1, c2, c3, c4⟩
section
variable {prog : Program} {w : World} {A : Around} {s : Shared} {R : Result → Shared → Prop} {E : Value → Shared → Prop} {e it l S : Addr} {items : Array Value}
theorem en_item {i : Nat} {x : Value} {Q : Option Value → Shared → Prop} (hst : EnSt s.heap e it l S i items) (hei : e ≠ it) (hle : l ≠ e) (hli : l ≠ it) (hS : S < s.heap.objs.size) (hx : items[i]? = some x)
    (hQ : ∀ h', EnSt h' e it l S (i + 1) items → h'.get? s.heap.objs.size = some { cls := .type "tuple", data := .seq #[.int i s.toks, x] } → h'.objs.size = s.heap.objs.size + 1 →
      (∀ b o, b ≠ e → b ≠ it → s.heap.get? b = some o → h'.get? b = some o) → Q (some (.ref s.heap.objs.size)) { s with heap := h', toks := s.toks + 1 }) :
    wpAny (model prog w) A (pyNext (.ref e)) Q E s := by
  obtain ⟨hit, hl, he⟩ := hst
  have ec : ((i + 1 : Nat) : Int) = (i : Int) + 1 := by omega
  have nit : s.heap.objs.size ≠ it := let ⟨_, x, _⟩ := hit; Nat.ne_of_gt (Heap.lt_size x)
  rcases he with ⟨old, he⟩ | ⟨old, T, f, oT, he, hT, r1, r2, r3⟩
  · refine wpAny_pyNext_enum_item he hit hl hx hei fun h' ho hit' hT hsz hk => ?_
    exact hQ h' ⟨hit', hl.at fun o x => hk l o hle hli x, .inr ⟨_, s.heap.objs.size, false, _, (by rw [ec]; exact ho), hT, Nat.ne_of_gt (Heap.lt_size he), nit, Nat.ne_of_gt hS⟩⟩ hT hsz hk
  · refine wpAny_pyNext_enum_item_held he hT r1 r2 hit hl hx hei fun h' ho hit' hT' hsz hk => ?_
    exact hQ h' ⟨hit', hl.at fun o x => hk l o hle hli x, .inr ⟨old, T, true, oT, (by rw [ec]; exact ho), hk _ _ r1 r2 hT, r1, r2, r3⟩⟩ hT' hsz hk
theorem en_done {i : Nat} {Q : Option Value → Shared → Prop} (hh : A.handled = none) (hst : EnSt s.heap e it l S i items) (hx : items[i]? = none)
    (hQ : ∀ h', Heap.ExtBut it s.heap h' → Q none { s with heap := h' }) : wpAny (model prog w) A (pyNext (.ref e)) Q E s := by
  obtain ⟨hit, hl, he⟩ := hst
  rcases he with ⟨old, he⟩ | ⟨old, T, f, oT, he, hT, r1, r2, r3⟩
  · exact wpAny_pyNext_enum_end hh he hit hl hx hQ
  · exact wpAny_pyNext_enum_end_held hh he hit hl hx hQ
theorem en_loop (hh : A.handled = none) (hei : e ≠ it) (hle : l ≠ e) (hli : l ≠ it) (hSe : e < S) (hSi : it < S) (hSl : l ≠ S) (hn : items.size ≤ sizeLine) (res : Value) {h₁ : Heap}
    (hR : ∀ h' tk acc c ts, (∀ b o, b ≠ S → b ≠ e → b ≠ it → h₁.get? b = some o → h'.get? b = some o) → h'.get? S = some { cls := .type "list", dict := none, data := .seq acc c, slots := #[] } → ts.length = items.size → EnG items S h' ts →
      acc.toList = ts.map Value.ref → R (.ok (.ret res)) { s with heap := h', toks := tk }) :
    ∀ (k i : Nat) (h : Heap) (tk c : Nat) (acc : Array Value) (ts : List Addr), items.size - i = k → i ≤ items.size → EnSt h e it l S i items → (∀ b o, b ≠ S → b ≠ e → b ≠ it → h₁.get? b = some o → h.get? b = some o) →
      h.get? S = some { cls := .type "list", dict := none, data := .seq acc c, slots := #[] } → acc.toList = ts.map Value.ref → ts.length = i → EnG items S h ts → S < h.objs.size →
      codeAny (model prog w) A (.builtin "list.extend.loop" ⟨[.ref S, .ref e, res], []⟩) R { s with heap := h, toks := tk } := by
  have nSe : S ≠ e := Nat.ne_of_gt hSe
  have nSi : S ≠ it := Nat.ne_of_gt hSi
  intro k
  induction k with
  | zero =>
    intro i h tk c acc ts hk hi hst hkeep hS hacc hal hG hIs
    have hin : i = items.size := by omega
    refine codeAny_builtin PySem.F.entry_extend_loop ?_
    rw [Around.under_plainId PySem.F.plain_extend_loop _]
    show wpAny _ A.in1 (pyNext (.ref e) >>= _) _ _ _
    refine wpAny_bind (en_done (s := { s with heap := h, toks := tk }) (A := A.in1) hh hst (Array.getElem?_eq_none (by omega)) fun h' he => ?_)
    refine wpAny_pure (hR h' tk acc c ts (fun b o h1 h2 h3 e => he b o h3 (hkeep b o h1 h2 h3 e)) (he S _ nSi hS) (by omega) ⟨hG.rise, hG.above, fun j a hj => ?_⟩ hacc)
    obtain ⟨t, x, e1, e3⟩ := hG.pairs j a hj
    exact ⟨t, x, e1, he a _ (Nat.ne_of_gt (Nat.lt_trans hSi (hG.above a (List.mem_of_getElem? hj)))) e3⟩
  | succ k ih =>
    intro i h tk c acc ts hk hi hst hkeep hS hacc hal hG hIs
    have hlt : i < items.size := by omega
    refine codeAny_builtin PySem.F.entry_extend_loop ?_
    rw [Around.under_plainId PySem.F.plain_extend_loop _]
    show wpAny _ A.in1 (pyNext (.ref e) >>= _) _ _ _
    refine wpAny_bind (en_item (s := { s with heap := h, toks := tk }) (A := A.in1) (x := items[i]) hst hei hle hli hIs (Array.getElem?_eq_getElem hlt) fun h' hst' hT hsz hk' => ?_)
    replace hT : h'.get? h.objs.size = some { cls := .type "tuple", data := .seq #[.int i tk, items[i]] } := hT
    replace hsz : h'.objs.size = h.objs.size + 1 := hsz
    replace hk' : ∀ b o, b ≠ e → b ≠ it → h.get? b = some o → h'.get? b = some o := hk'
    have hS' := hk' S _ nSe nSi hS
    have nSn : h.objs.size ≠ S := Nat.ne_of_gt hIs
    have hasz : acc.size = i := by rw [← hal, ← List.length_map (f := Value.ref), ← hacc, Array.length_toList]
    show wpAny _ A.in1 (updateSeq S (·.push (.ref h.objs.size)) >>= _) _ _ _
    refine wpAny_bind ?_
    have oth : ∀ b o, b ≠ S → h'.get? b = some o → (h'.update S (Obj.mapSeq (·.push (Value.ref h.objs.size)))).get? b = some o := fun b o hb e => (Heap.get?_update_other _ _ (Ne.symm hb)).trans e
    refine wpAny_updateSeq hS' rfl (wpAny_pure ⟨plainId_quiet PySem.F.plain_extend_loop _, ?_⟩) (by rw [hasz]; omega) (by show (acc.push _).size ≤ sizeLine + 1; rw [Array.size_push, hasz]; omega)
    refine ih (i + 1) (h'.update S (Obj.mapSeq (·.push (Value.ref h.objs.size)))) (tk + 1) _ (acc.push (.ref h.objs.size)) (ts ++ [h.objs.size]) (by omega) hlt (hst'.keep oth nSe.symm nSi.symm hSl) (fun b o h1 h2 h3 e1 => oth b o h1 (hk' b o h2 h3 (hkeep b o h1 h2 h3 e1))) (Heap.get?_update_self _ hS' rfl) ?_ ?_ ?_ ?_
    · rw [Array.toList_push, hacc, List.map_append]; rfl
    · rw [List.length_append, hal]; rfl
    · refine ⟨?_, ?_, ?_⟩
      · rw [List.pairwise_append]
        refine ⟨hG.rise, by simp, fun a ha b hb => ?_⟩
        rw [List.mem_singleton.mp hb]
        exact hG.there ha
      · intro a ha
        rcases List.mem_append.mp ha with ha | ha
        · exact hG.above a ha
        · rw [List.mem_singleton.mp ha]; exact hIs
      · intro j a hj
        by_cases hjl : j < ts.length
        · rw [List.getElem?_append_left hjl] at hj
          obtain ⟨t, x, e1, e3⟩ := hG.pairs j a hj
          have am := hG.above a (List.mem_of_getElem? hj)
          exact ⟨t, x, e1, oth a _ (Nat.ne_of_gt am) (hk' a _ (Nat.ne_of_gt (Nat.lt_trans hSe am)) (Nat.ne_of_gt (Nat.lt_trans hSi am)) e3)⟩
        · rw [List.getElem?_append_right (by omega)] at hj
          have hj0 : j - ts.length = 0 := by
            rcases Nat.eq_zero_or_pos (j - ts.length) with z | z
            · exact z
            · rw [List.getElem?_eq_none (by simp; omega)] at hj; cases hj
          rw [hj0] at hj
          have ea : h.objs.size = a := Option.some.inj hj
          have ej : j = i := by omega
          subst ej
          rw [← ea]
          exact ⟨tk, items[j], Array.getElem?_eq_getElem hlt, oth _ _ nSn hT⟩
    · have : (h'.update S (Obj.mapSeq (·.push (Value.ref h.objs.size)))).objs.size = h'.objs.size := by simp [Heap.update]
      rw [this, hsz]; exact Nat.lt_succ_of_lt hIs
theorem en_extend (hh : A.handled = none) (hei : e ≠ it) (hle : l ≠ e) (hli : l ≠ it) (hSe : e < S) (hSi : it < S) (hSl : l ≠ S) (hn : items.size ≤ sizeLine) (res : Value) (c₀ : Nat)
    (he : IsEnum s.heap e it 0 .none) (hit : s.heap.IsListIter it l 0) (hl : s.heap.IsList l items) (hS : s.heap.get? S = some { cls := .type "list", data := .seq #[] c₀ })
    (hR : ∀ h' tk acc c ts, (∀ b o, b ≠ S → b ≠ e → b ≠ it → s.heap.get? b = some o → h'.get? b = some o) → h'.get? S = some { cls := .type "list", dict := none, data := .seq acc c, slots := #[] } → ts.length = items.size → EnG items S h' ts →
      acc.toList = ts.map Value.ref → R (.ok (.ret res)) { s with heap := h', toks := tk }) :
    wpAny (model prog w) A.in1 (Builtin.List.listExtendWith (.ref S) (.ref e) res)
      (fun fin s' => match fin with | .done f => R (.ok f) s' | .again c' => c'.quiet = true ∧ codeAny (model prog w) A c' R s') (fun e s' => R (.error e) s') s := by
  have nSe : S ≠ e := Nat.ne_of_gt hSe
  have hTy : s.TypeIs (.ref e) "enumerate" := ⟨_, he, rfl⟩
  have hst : EnSt s.heap e it l S 0 items := ⟨hit, hl, .inl ⟨_, he⟩⟩
  unfold Builtin.List.listExtendWith
  refine wpAny_bind (wpAny_typeOf hTy ?_)
  have h1 : Builtin.List.listSameRef (.ref S) (.ref e) = false := by simp [Builtin.List.listSameRef, nSe]
  have h2 : (Value.type "enumerate" == Value.type "list") = false := by decide
  have h3 : (Value.type "enumerate" == Value.type "tuple") = false := by decide
  simp only [h1, h2, h3, Bool.or_false, Bool.false_eq_true, if_false]
  refine wpAny_bind (wpAny_pyIter_enum he ?_)
  refine wpAny_bind (wpAny_holding ?_)
  unfold Builtin.List.listLengthHint
  refine wpAny_bind (wpAny_specialOf hTy en_no_len ?_)
  show wpAny _ A.in1 (specialOf (Value.ref e) (Str.ofString "__length_hint__") >>= _) _ _ _
  refine wpAny_bind (wpAny_specialOf hTy en_no_hint ?_)
  refine wpAny_pure ?_
  show wpAny _ A.in1 (rule "list.extend.makes-room" >>= fun _ => Builtin.List.listTouch (.ref S) >>= fun _ =>
    again (.builtin "list.extend.loop" ⟨[.ref S, .ref e, res], []⟩)) _ _ _
  refine wpAny_bind (wpAny_rule ?_)
  refine wpAny_bind ?_
  show wpAny _ A.in1 (updateSeq S (·.push .none) >>= fun _ => updateSeq S (·.pop)) _ _ _
  refine wpAny_bind (wpAny_updateSeq hS rfl ?_)
  have hS₂ := Heap.get?_update_self (Obj.mapSeq (·.push Value.none)) hS rfl
  refine wpAny_updateSeq (hz := by seq_fits) hS₂ rfl ?_
  have hS₃ := Heap.get?_update_self (Obj.mapSeq (·.pop)) hS₂ rfl
  have oth : ∀ b o, b ≠ S → s.heap.get? b = some o → ((s.heap.update S (Obj.mapSeq (·.push Value.none))).update S (Obj.mapSeq (·.pop))).get? b = some o :=
    fun b o hb e => (Heap.get?_update_other _ _ (Ne.symm hb)).trans ((Heap.get?_update_other _ _ (Ne.symm hb)).trans e)
  have sz : ((s.heap.update S (Obj.mapSeq (·.push Value.none))).update S (Obj.mapSeq (·.pop))).objs.size = s.heap.objs.size := by simp [Heap.update]
  refine wpAny_pure ⟨plainId_quiet PySem.F.plain_extend_loop _, en_loop (s := s) hh hei hle hli hSe hSi hSl hn res (h₁ := s.heap) hR _ 0 _ s.toks _ _ [] rfl (Nat.zero_le _) (hst.keep oth nSe.symm (Nat.ne_of_lt hSi) hSl) (fun b o h1 _ _ e => oth b o h1 e) hS₃ rfl rfl ⟨by simp, by simp, by simp⟩ ?_⟩
  rw [sz]
  exact Heap.lt_size hS
theorem en_init (hh : A.handled = none) (hei : e ≠ it) (hle : l ≠ e) (hli : l ≠ it) (hSe : e < S) (hSi : it < S) (hSl : l ≠ S) (hn : items.size ≤ sizeLine)
    (he : IsEnum s.heap e it 0 .none) (hit : s.heap.IsListIter it l 0) (hl : s.heap.IsList l items) (hS : s.heap.get? S = some { cls := .type "list", data := .seq #[] })
    (hR : ∀ h' tk acc c ts, (∀ b o, b ≠ S → b ≠ e → b ≠ it → s.heap.get? b = some o → h'.get? b = some o) → h'.get? S = some { cls := .type "list", dict := none, data := .seq acc c, slots := #[] } → ts.length = items.size → EnG items S h' ts →
      acc.toList = ts.map Value.ref → R (.ok (.ret .none)) { s with heap := h', toks := tk }) :
    wpAny (model prog w) A.in1 (Builtin.«list.__init__» ⟨[.ref S, .ref e], []⟩)
      (fun fin s' => match fin with | .done f => R (.ok f) s' | .again c' => c'.quiet = true ∧ codeAny (model prog w) A c' R s') (fun e s' => R (.error e) s') s := by
  show wpAny _ _ (do let old ← Builtin.List.listItems (.ref S); Builtin.List.listUpdate (.ref S) (fun _ => #[]); letGo old.toList.reverse; Builtin.List.listExtendWith (.ref S) (.ref e) .none) _ _ s
  refine wpAny_bind ?_
  unfold Builtin.List.listItems
  refine wpAny_bind (wpAny_seqItems hS rfl (wpAny_pure ?_))
  show wpAny _ _ (updateSeq S (fun _ => #[]) >>= fun _ => letGo (#[] : Array Value).toList.reverse >>= fun _ => Builtin.List.listExtendWith (.ref S) (.ref e) .none) _ _ s
  refine wpAny_bind (wpAny_updateSeq hS rfl ?_)
  have hS₂ := Heap.get?_update_self (Obj.mapSeq (fun _ => (#[] : Array Value))) hS rfl
  have oth : ∀ b o, b ≠ S → s.heap.get? b = some o → (s.heap.update S (Obj.mapSeq (fun _ => (#[] : Array Value)))).get? b = some o :=
    fun b o hb e => (Heap.get?_update_other _ _ (Ne.symm hb)).trans e
  refine wpAny_bind (wpAny_letGo ?_)
  refine en_extend hh hei hle hli hSe hSi hSl hn .none _ (oth _ _ (Nat.ne_of_lt hSe) he) (hit.at fun o x => oth _ o (Nat.ne_of_lt hSi) x) (hl.at fun o x => oth _ o hSl x) hS₂ fun h' tk acc c ts hk hS' h1 h2 h3 => ?_
  exact hR h' tk acc c ts (fun b o a1 a2 a3 x => hk b o a1 a2 a3 (oth b o a1 x)) hS' h1 h2 h3
theorem call_list_enum {Q : Value → Shared → Prop} (hh : A.handled = none) (hei : e ≠ it) (hle : l ≠ e) (hli : l ≠ it) (hn : items.size ≤ sizeLine)
    (he : IsEnum s.heap e it 0 .none) (hit : s.heap.IsListIter it l 0) (hl : s.heap.IsList l items)
    (hQ : ∀ h' tk acc c ts, (∀ b o, b ≠ e → b ≠ it → s.heap.get? b = some o → h'.get? b = some o) → h'.get? s.heap.objs.size = some { cls := .type "list", dict := none, data := .seq acc c, slots := #[] } → ts.length = items.size → EnG items s.heap.objs.size h' ts →
      acc.toList = ts.map Value.ref → Q (.ref s.heap.objs.size) { s with heap := h', toks := tk }) :
    wpAny (model prog w) A (call (.type "list") [.ref e]) Q E s := by
  refine callType_codes (Q₁ := fun obj s₁ => obj = .ref s.heap.objs.size ∧ s₁ = { s with heap := s.heap.push { cls := .type "list", data := .seq #[] } }) F.called_list (F.typeCall_list_1 _) F.entry_list_init
    (code_list_new _ ⟨rfl, rfl⟩) fun obj s₁ h₁ => ?_
  obtain ⟨rfl, rfl⟩ := h₁
  have hS : (s.heap.push { cls := .type "list", data := .seq #[] }).get? s.heap.objs.size = some { cls := .type "list", data := .seq #[] } := Heap.get?_push_size _ rfl
  have kp : ∀ b o, s.heap.get? b = some o → (s.heap.push { cls := .type "list", data := .seq #[] }).get? b = some o := fun b o x => Heap.get?_push_of_some _ x
  have li : it < s.heap.objs.size := by obtain ⟨_, x, _⟩ := hit; exact Heap.lt_size x
  have ll : l < s.heap.objs.size := by obtain ⟨_, x, _⟩ := hl; exact Heap.lt_size x
  refine ⟨⟨_, hS, rfl⟩, F.args_list_init_2 _ _, en_init (A := A.in1) (S := s.heap.objs.size) hh hei hle hli (Heap.lt_size he) li (Nat.ne_of_lt ll) hn (kp _ _ he) (hit.at fun o x => kp _ o x) (hl.at fun o x => kp _ o x) hS fun h' tk acc c ts hk hS' h1 h2 h3 => ?_⟩
  exact ⟨rfl, hQ h' tk acc c ts (fun b o a2 a3 x => hk b o (Nat.ne_of_lt (Heap.lt_size x)) a2 a3 (kp b o x)) hS' h1 h2 h3⟩
end
/-- the tuples tracked at their addresses, numbered from k on -/
def putE : Hp → List Addr → Nat → List V → Hp
  | H, a :: as, k, x :: xs => putE (upd H a (.tup [.int (k : Nat), x])) as (k + 1) xs
  | H, _, _, _ => H
theorem putE_off {b : Addr} : ∀ (as : List Addr) (k : Nat) (xs : List V) (H : Hp), b ∉ as → putE H as k xs b = H b
  | [], _, _, _, _ => rfl
  | _ :: _, _, [], _, _ => rfl
  | a :: as, k, x :: xs, H, h => by
    show putE (upd H a (.tup [.int (k : Nat), x])) as (k + 1) xs b = H b
    rw [putE_off as (k + 1) xs _ (fun z => h (List.mem_cons_of_mem _ z)), upd_ne (fun z => h (by rw [z]; exact List.mem_cons_self))]
theorem putE_at : ∀ (as : List Addr) (k : Nat) (xs : List V) (H : Hp), as.length = xs.length → as.Nodup → ∀ (j : Nat) (a : Addr) (x : V), as[j]? = some a → xs[j]? = some x → putE H as k xs a = some (.tup [.int ((k + j : Nat) : Int), x])
  | [], _, [], _, _, _ => by simp
  | [], _, _ :: _, _, h, _ => by cases h
  | _ :: _, _, [], _, h, _ => by cases h
  | a :: as, k, x :: xs, H, h, hn => by
    have hn' := List.nodup_cons.mp hn
    intro j a' x' ha hx
    show putE (upd H a (.tup [.int (k : Nat), x])) as (k + 1) xs a' = _
    cases j with
    | zero =>
      have e1 : a = a' := Option.some.inj ha
      have e2 : x = x' := Option.some.inj hx
      subst e1 e2
      rw [putE_off as _ xs _ hn'.1, upd_same]
      rfl
    | succ j =>
      have ih := putE_at as (k + 1) xs (upd H a (.tup [.int (k : Nat), x])) (Nat.succ.inj h) hn'.2 j a' x' ha hx
      rw [ih]
      have : k + 1 + j = k + (j + 1) := by omega
      rw [this]
def rListEn (K : PySem.W.Frag) : V → Hp → VK → Prop := fun v H Q => ∃ (a : Addr) (xs : List V), v = .ref a ∧ SqL K H a xs ∧
  ∀ (H' : Hp) (p : Addr) (ts : List Addr), Same H H' → H p = none → ts.length = xs.length → H' p = some (.lst (ts.map V.ref)) → (∀ (j : Nat) (t : Addr) (x : V), ts[j]? = some t → xs[j]? = some x → H' t = some (.tup [.int (j : Int), x])) → Q (.ref p) H'
def tListEn (K : PySem.W.Frag) (te : TE) : TE := fun σ H Q => te σ H fun x H1 => rListEn K x H1 Q
section
variable {X : Cx} {e : Expr} {te : TE} {p p2 pos pos2 : Pos}
theorem pe_listEn (hc : X.calm = true) (he : PE X e te) (hg : Gl X "list") (hm : X.mg "list" = none) (hg2 : Gl X "enumerate") (hm2 : X.mg "enumerate" = none)
    (hs : starEach [.Call (.Name "enumerate" p2) [e] [] pos2] X.env = (false, eval (.Call (.Name "enumerate" p2) [e] [] pos2) X.env) :: starEach [] X.env := by rfl)
    (hs2 : starEach [e] X.env = (false, eval e X.env) :: starEach [] X.env := by rfl) :
    PE X (.Call (.Name "list" p) [.Call (.Name "enumerate" p2) [e] [] pos2] [] pos) (tListEn X.K te) := by
  refine ⟨fun pins s σ H Q I hq => ?_⟩
  refine wpAny_Call_Name_kw (ld_blt I hg hm (by decide +kernel : bootBuiltins "list" = some (.type "list")) ?_)
  refine PyProof.Rows.callWith_type1 ?_ hs rfl
  rw [hs]
  show wpAny _ _ (spliced ((false, eval (.Call (.Name "enumerate" p2) [e] [] pos2) X.env) :: backTo pos (starEach [] X.env))) _ _ s
  refine Calls.spliced_cons ?_
  refine wpAny_Call_Name_kw (ld_blt I hg2 hm2 (by decide +kernel : bootBuiltins "enumerate" = some (.type "enumerate")) ?_)
  refine PyProof.Rows.callWith_type1 ?_ hs2 rfl
  rw [hs2]
  show wpAny _ _ (spliced ((false, eval e X.env) :: backTo pos2 (starEach [] X.env))) _ _ s
  refine Calls.spliced_cons (thn (he.run pins s σ H _ I hq) fun u s1 ⟨x, H1, I1, rx, q1⟩ => ?_)
  obtain ⟨a, xs, rfl, hL, q⟩ := q1
  obtain rfl : u = Value.ref a := rx
  obtain ⟨its, r, ht, hz⟩ := I1.list hL
  refine Calls.spliced_nil ?_
  refine call_enumerate_list ht.isList fun h' hE hI hsz hk => ?_
  refine Calls.spliced_nil ?_
  have I2 : Inv X pins σ H1 { s1 with heap := h' } := I1.kept (t' := s1.toks) hk
  have hL2 : h'.IsList a its.toArray := ht.isList.at fun o y => hk _ o y
  have la : a < s1.heap.objs.size := by obtain ⟨_, y, _⟩ := ht.isList; exact Heap.lt_size y
  have hlen := r.length
  refine call_list_enum (s := { s1 with heap := h' }) (A := X.A) (I1.ok.hd hc) (Nat.succ_ne_self _) (Nat.ne_of_lt (Nat.lt_succ_of_lt la)) (Nat.ne_of_lt la) (by rw [List.size_toArray]; omega) hE hI hL2 fun h2 tk acc c ts hk2 hS h1 hG hacc => ?_
  replace hk2 : ∀ b o, b ≠ s1.heap.objs.size + 1 → b ≠ s1.heap.objs.size → h'.get? b = some o → h2.get? b = some o := hk2
  replace hG : EnG its.toArray h'.objs.size h2 ts := hG
  replace hS : h2.get? h'.objs.size = some { cls := .type "list", dict := none, data := .seq acc c, slots := #[] } := hS
  show EP X pins σ Q (.ref h'.objs.size) { s1 with heap := h2, toks := tk }
  have hk3 : ∀ b o, s1.heap.get? b = some o → h2.get? b = some o := fun b o y => hk2 b o (Nat.ne_of_lt (Nat.lt_succ_of_lt (Heap.lt_size y))) (Nat.ne_of_lt (Heap.lt_size y)) (hk b o y)
  have lowS : s1.heap.objs.size ≤ h'.objs.size := by rw [hsz]; exact Nat.le_add_right _ _
  rw [List.size_toArray] at h1
  have hSn : h'.objs.size ∉ ts := fun z => Nat.lt_irrefl _ (hG.above _ z)
  have nd : ts.Nodup := List.Pairwise.imp (fun {a b} (h : a < b) => Nat.ne_of_lt h) hG.rise
  have new : ∀ t ∈ ts, H1 t = none := fun t ht => I1.hok.fresh (Nat.le_trans lowS (Nat.le_of_lt (hG.above t ht)))
  have newS : H1 h'.objs.size = none := I1.hok.fresh lowS
  have hl : ts.length = xs.length := by omega
  have atP := putE_at ts 0 xs (upd H1 h'.objs.size (.lst (ts.map V.ref))) hl nd
  have off : ∀ b, b ∉ ts → b ≠ h'.objs.size → putE (upd H1 h'.objs.size (.lst (ts.map V.ref))) ts 0 xs b = H1 b := fun b h1 h2 => by rw [putE_off ts 0 xs _ h1, upd_ne h2]
  have low : ∀ b o, s1.heap.get? b = some o → b ∉ ts ∧ b ≠ h'.objs.size := fun b o e => ⟨fun z => absurd (Heap.lt_size e) (Nat.not_lt.mpr (Nat.le_trans lowS (Nat.le_of_lt (hG.above b z)))), Nat.ne_of_lt (Nat.lt_of_lt_of_le (Heap.lt_size e) lowS)⟩
  have kp : ∀ b u, H1 b = some u → (putE (upd H1 h'.objs.size (.lst (ts.map V.ref))) ts 0 xs) b = some u := fun b u e => by
    rw [off b (fun z => by rw [new b z] at e; cases e) (fun z => by rw [z, newS] at e; cases e)]
    exact e
  have eS : putE (upd H1 h'.objs.size (.lst (ts.map V.ref))) ts 0 xs h'.objs.size = some (.lst (ts.map V.ref)) := by rw [putE_off ts 0 xs _ hSn, upd_same]
  refine ⟨.ref h'.objs.size, putE (upd H1 h'.objs.size (.lst (ts.map V.ref))) ts 0 xs, ?_, rfl, q _ _ ts kp newS hl eS fun j t x e1 e2 => by rw [atP j t x e1 e2, Nat.zero_add]⟩
  refine I1.call' (ch := []) rfl ⟨fun b o q _ _ _ => hk3 b o q, fun b o q _ _ _ => ⟨o.slots, hk3 b o q⟩, fun b o q n _ => ?_, fun b o q _ => ⟨o, hk3 b o q⟩, fun b xs q => kp b _ q, fun b o u q => kp b _ q, fun b ps q => ⟨#[], by rw [kp b _ q]; simp⟩⟩ (fun b u q => ?_) I1.bare fun b z => by simp at z
  · obtain ⟨z1, z2⟩ := low b o q
    rw [off b z1 z2]
    exact n
  · by_cases hb : b ∈ ts
    · obtain ⟨j, hj⟩ := List.mem_iff_getElem?.mp hb
      obtain ⟨t, x, f1, f2⟩ := hG.pairs j b hj
      rw [List.getElem?_toArray] at f1
      have hjl : j < xs.length := by
        have := (List.getElem?_eq_some_iff.mp hj).1
        omega
      have ex : xs[j]? = some xs[j] := List.getElem?_eq_getElem hjl
      obtain ⟨x', g1, g2⟩ := r.get ex
      rw [f1] at g1
      cases g1
      rw [atP j b _ hj ex, Nat.zero_add] at q
      cases q
      exact ⟨by show 2 ≤ sizeLine; decide, [.int j t, x], .cons ⟨t, rfl⟩ (.cons g2 .nil), ⟨_, f2, rfl, _, rfl⟩⟩
    · by_cases hb2 : b = h'.objs.size
      · rw [hb2] at q ⊢
        rw [eS] at q
        cases q
        refine ⟨by rw [List.length_map]; omega, acc.toList, c, by rw [hacc]; exact LiI.vals_refs ts, ?_⟩
        rw [Array.toArray_toList]
        exact hS
      · rw [off b hb hb2] at q
        exact (I1.hok b u q).stay (fun d v _ y => hk3 d v y) (fun d y => kp d _ y) fun d xs y => kp d _ y
end
end Lv

set_option Elab.async false
set_option linter.all false
set_option maxRecDepth 100000
set_option maxHeartbeats 2000000
namespace Lv
open PySem PySem.Spec PyProof.Rows L2 SX
/-! for i, c in enumerate(text) -/
/-- turn i: a new tuple whose items are told by Y -/
def ItT (n : Nat) (Y : Nat → List V → Prop) : It :=
  ⟨fun i _ => i < n, fun i H v H' => ∃ T xs, v = .ref T ∧ H T = none ∧ H' = upd H T (.tup xs) ∧ Y i xs, fun i _ => n ≤ i⟩
theorem turn_walksT {P : Program} {w : World} {K : PySem.W.Frag} {elts : List Expr} {kk : Nat} {tpos : Pos} {I : Addr} {fp wr : List Addr} {n : Nat} {Pt : Nat → Array Value → Prop} {St : Nat → Heap → Prop} {Mid : Nat → Addr → Heap → Prop} {Y : Nat → List V → Prop}
    (W : ∀ A : Around, A.handled = none → WalksT P w A I fp wr n Pt St Mid) (hI : I ∈ fp) (hobj : ∀ i h, St i h → ∀ b ∈ fp, ∃ o, h.get? b = some o ∧ ∀ v, o.data ≠ .cell v)
    (hY : ∀ i vals, i < n → Pt i vals → ∃ xs, Vals xs vals.toList ∧ xs.length ≤ sizeLine ∧ Y i xs) (hself : ∀ (A : Around) (i : Nat) (s : Shared) (Q : Value → Shared → Prop) (E : Value → Shared → Prop), St i s.heap → Q (.ref I) s → wpAny (model P w) A (pyIter (.ref I)) Q E s) :
    Turn P w K (.Tuple elts kk tpos) (ItT n Y) fp I (fun i h => St i h ∧ i ≤ n) where
  mem := hI
  obj := fun i h st b hb => hobj i h st.1 b hb
  keep := fun i h h' st k => ⟨(W {} rfl).frame i h h' st.1 k, st.2⟩
  item := by
    intro X hP hw hK hc i pins s σ H E I1 hf st hg
    subst hP hw hK
    have WA := W X.A (I1.ok.hd hc)
    refine WA.item i s _ _ hg st.1 fun T vals h' tk hp hT hTup hm hk => ?_
    refine ⟨_, rfl, WA.go elts kk tpos i T { s with heap := h', toks := tk } _ _ hm fun h2 st2 hk2 => ?_⟩
    replace hk2 : ∀ b o, b ∉ wr → h'.get? b = some o → h2.get? b = some o := hk2
    obtain ⟨xs, rv, hz, y⟩ := hY i vals hg hp
    have hTup2 : h2.IsTuple T vals := hTup.at fun o q => hk2 T o (WA.apart i T h' hm) q
    have new : ObjOk X.prog X.w (upd H T (.tup xs)) h2 T (.tup xs) := by
      refine ⟨hz, vals.toList, rv, ?_⟩
      rw [Array.toArray_toList]
      exact hTup2
    have I2 : Inv X pins σ (upd H T (.tup xs)) { s with heap := h2, toks := tk } :=
      I1.turnedNew (ch := fp) (fun b ob hb q => hk2 b ob (fun z => hb (WA.sub b z)) (hk b ob (fun z => hb (WA.sub b z)) q)) hf hT new
    refine ⟨.ref T, _, I2, rfl, ⟨T, xs, rfl, I1.hok.fresh hT, rfl, y⟩, ⟨st2, hg⟩, fun b hb => ?_⟩
    obtain ⟨o, ho, _⟩ := hobj i s.heap st.1 b hb
    rw [upd_ne (Nat.ne_of_lt (Nat.lt_of_lt_of_le (Heap.lt_size ho) hT))]
    exact (hf b hb).1
  done := by
    intro X hP hw hK hc i pins s σ H E I1 hf st hg
    subst hP hw hK
    have hin : i = n := Nat.le_antisymm st.2 hg
    subst hin
    have WA := W X.A (I1.ok.hd hc)
    refine WA.done s _ _ st.1 fun h' tk hk => ⟨rfl, ?_⟩
    have off : ∀ b o, H b = some o → b ∉ fp := fun b o q z => by rw [(hf b z).1] at q; cases q
    have hk' : ∀ b o, b ∉ fp → s.heap.get? b = some o → h'.get? b = some o := fun b o hb q => hk b o (fun z => hb (WA.sub b z)) q
    refine I1.call' (ch := fp) rfl ⟨fun b o q _ _ z => hk' b o z q, fun b o q _ _ z => ⟨o.slots, hk' b o z q⟩, fun b o q n _ => n, fun b o q z => ⟨o, hk' b o z q⟩, fun b xs q => q, fun b o u q => q, fun b ps q => ⟨#[], by rw [q]; simp⟩⟩ (fun b u q => ?_) I1.bare fun b z => ?_
    · refine (I1.hok b u q).stay (fun c v hc y => hk' c v ?_ y) (fun d y => y) fun d xs y => y
      rcases hc with rfl | hc
      · exact off _ _ q
      · exact off _ _ hc
    · obtain ⟨f0, f1, f2, f3, f4, f5⟩ := hf b z
      exact ⟨f3, f1, f4, f5⟩
  self := fun A i s Q E st h => hself A i s Q E st.1 h
/-- enumerate(text) -/
def iEnumS (ta : TA) : TI := fun σ H R => ta σ H fun vs H1 => ∃ l : List Nat, vs = [.str (S l)] ∧ R (ItT l.length fun i xs => ∃ c, l[i]? = some c ∧ xs = [.int (i : Nat), .str (S [c])]) H1
theorem pi_enumS {X : Cx} {e : Expr} {ta : TA} {p pos tpos : Pos} {elts : List Expr} {kk : Nat} (hg : Gl X "enumerate") (hm : X.mg "enumerate" = none) (ha : PA X [e] ta) (hs : starEach [e] X.env = [(false, eval e X.env)] := by rfl) :
    PI X (.Tuple elts kk tpos) (.Call (.Name "enumerate" p) [e] [] pos) (iEnumS ta) := by
  refine ⟨fun pins s σ H R I h => ?_⟩
  refine Call_ (ld_blt I hg hm boot_enumerate (PyProof.Rows.callWith_type1 (thn (ha.run pos pins s σ H _ I h) fun us s1 ⟨vs, H1, I1, r1, q1⟩ => ?_) hs rfl))
  obtain ⟨l, rfl, q⟩ := q1
  cases r1 with
  | cons r rr =>
    cases rr
    obtain ⟨t, rfl⟩ := r
    refine call_enumerate_str fun h' he hit hsz hk => wpAny_pyIter_enum he ?_
    have I2 : Inv X pins σ H1 { s1 with heap := h' } := I1.kept (t' := s1.toks) hk
    have hne : s1.heap.objs.size + 1 ≠ s1.heap.objs.size := Nat.succ_ne_self _
    have hef : s1.heap.objs.size + 1 ∉ [s1.heap.objs.size] := fun z => hne (List.mem_singleton.mp z)
    have T := turn_walksT (P := X.prog) (w := X.w) (K := X.K) (elts := elts) (kk := kk) (tpos := tpos) (n := (S l).cps.size) (Y := fun i xs => ∃ c, l[i]? = some c ∧ xs = [.int (i : Nat), .str (S [c])])
      (fun A hA => WalksT.enumFrom 0 (Draws.text (A := A.in1) hA s1.heap.objs.size (S l) t) (s1.heap.objs.size + 1) hne hef List.mem_cons_self) List.mem_cons_self ?_ ?_ ?_
    · have e2 : (S l).cps.size = l.length := by simp
      rw [e2] at T
      refine ⟨s1.heap.objs.size + 1, _, _, _, H1, rfl, I2, T, ⟨⟨⟨.none, by simpa using he⟩, hit⟩, Nat.zero_le _⟩, fun b hb => ?_, q⟩
      have e' : b = s1.heap.objs.size + 1 ∨ b = s1.heap.objs.size := by simpa using hb
      have hle : s1.heap.objs.size ≤ b := by
        rcases e' with z | z
        · rw [z]; exact Nat.le_add_right _ _
        · rw [z]; exact Nat.le_refl _
      exact I1.fpOk hle (I1.hok.fresh hle)
    · intro i h st b hb
      obtain ⟨⟨old, he⟩, ho⟩ := st
      have e' : b = s1.heap.objs.size + 1 ∨ b = s1.heap.objs.size := by simpa using hb
      rcases e' with z | z
      · rw [z]; exact ⟨_, he, fun v q => nomatch q⟩
      · obtain ⟨o, ho, hc, hd⟩ := ho
        rw [z]; exact ⟨o, ho, fun v q => by rw [hd] at q; cases q⟩
    · rintro i vals hi ⟨tt, x, ⟨c, u, hc, rfl⟩, rfl⟩
      refine ⟨[.int (i : Nat), .str (S [c])], .cons ⟨tt, by rw [Int.zero_add]⟩ (.cons ⟨u, rfl⟩ .nil), by show 2 ≤ sizeLine; decide, c, by simpa using hc, rfl⟩
    · intro A i s Q E st hq
      obtain ⟨⟨old, he⟩, _⟩ := st
      exact wpAny_pyIter_enum he hq
theorem walk_enumS {n : Nat} {Y : Nat → List V → Prop} : Walk (ItT n Y) n (fun _ => True) (fun i H v H' => ∃ T xs, v = .ref T ∧ H T = none ∧ H' = upd H T (.tup xs) ∧ Y i xs) :=
  ⟨fun _ _ hi _ => hi, fun _ _ => Nat.le_refl _, fun _ _ _ _ _ _ y => y⟩
/-- xs[i] read for xs[i] += e -/
theorem get_list {X : Cx} : PGet X (rIxL X.K) := by
  intro pins s σ H x y v u Q I rx ry h
  obtain ⟨p, xs, i, z, rfl, rfl, hq, he, q⟩ := h
  cases rx
  obtain ⟨t, rfl⟩ := ry
  obtain ⟨its, r, pl, hz⟩ := I.list hq
  obtain ⟨j, h1, h2, h3, h4, h5⟩ := atI_get he
  obtain ⟨w, ew, rw'⟩ := r.get h2
  have hl := r.length
  have hn := line63
  have fin : EP X pins σ Q w s := ⟨z, H, I, rw', q⟩
  by_cases h0 : 0 ≤ i
  · have hj : i.toNat = j := by
      rw [seqIndex_of h0 h5] at h1
      exact Option.some.inj h1
    exact wpAny_getItem_list pl.isList h0 (by omega) (by rw [hj]; simpa using ew) fin
  · have hj : (i + (its.toArray.size : Int)).toNat = j := by
      rw [seqIndex_neg (by omega) h4] at h1
      rw [List.size_toArray, ← hl]
      exact Option.some.inj h1
    exact wpAny_getItem_list_neg pl.isList (by omega) (by rw [List.size_toArray] <;> omega) (by omega) (by rw [hj]; simpa using ew) fin
end Lv

set_option Elab.async false
set_option linter.all false
set_option maxRecDepth 100000
set_option maxHeartbeats 2000000
namespace Lv
open PySem PySem.Spec PyProof.Rows L2 SX
/-! ints -/
abbrev rAdd : R2 := rI0 fun i j => .int (i + j)
abbrev rSub : R2 := rI0 fun i j => .int (i - j)
abbrev rMul : R2 := rI CMul fun i j => .int (i * j)
abbrev rDiv : R2 := rI CDiv fun i j => .int (i / j)
abbrev rMod : R2 := rI (fun _ j => 0 < j) fun i j => .int (i % j)
abbrev rPow : R2 := rI CPow fun i j => .int (i ^ j.toNat)
abbrev rLt : R2 := rI0 fun i j => .bl (decide (i < j))
abbrev rLe : R2 := rI0 fun i j => .bl (decide (i ≤ j))
abbrev rGt : R2 := rI0 fun i j => .bl (decide (j < i))
abbrev rGe : R2 := rI0 fun i j => .bl (decide (j ≤ i))
abbrev rEqI : R2 := rI0 fun i j => .bl (decide (i = j))
abbrev rNeI : R2 := rI0 fun i j => .bl (!decide (i = j))
abbrev rNeg : V → Hp → VK → Prop := rU fun i => .int (-i)
section
variable {X : Cx}
theorem op_eqI : OpR X (compareOp .Eq) rEqI := by
  intro pins s σ H x y v u Q I rx ry h
  obtain ⟨i, j, rfl, rfl, q⟩ := h
  refine op_eq pins s σ H _ _ v u Q I rx ry ⟨rfl, ?_⟩
  rw [show decide (V.int i = V.int j) = decide (i = j) by simp]
  exact q
theorem op_neI : OpR X (compareOp .NotEq) rNeI := by
  intro pins s σ H x y v u Q I rx ry h
  obtain ⟨i, j, rfl, rfl, q⟩ := h
  refine op_ne pins s σ H _ _ v u Q I rx ry ⟨rfl, ?_⟩
  rw [show decide (V.int i = V.int j) = decide (i = j) by simp]
  exact q
/-! texts -/
def r2S (g : List Nat → List Nat → V) : R2 := fun x y H Q => ∃ a b : List Nat, x = .str (S a) ∧ y = .str (S b) ∧ Q (g a b) H
def rAddS : R2 := fun x y H Q => ∃ a b : List Nat, x = .str (S a) ∧ y = .str (S b) ∧ a.length + b.length ≤ sizeLine ∧ Q (.str (S (a ++ b))) H
abbrev rEqS : R2 := r2S fun a b => .bl (decide (a = b))
abbrev rNeS : R2 := r2S fun a b => .bl (!decide (a = b))
abbrev rLtS : R2 := r2S fun a b => .bl (decide (a < b))
abbrev rLeS : R2 := r2S fun a b => .bl (!decide (b < a))
abbrev rGtS : R2 := r2S fun a b => .bl (decide (b < a))
abbrev rGeS : R2 := r2S fun a b => .bl (!decide (a < b))
def rMulS : R2 := fun x y H Q => ∃ (l : List Nat) (n : Int), x = .str (S l) ∧ y = .int n ∧ -(2 ^ 38) < n ∧ n < 2 ^ 38 ∧ l.length * n.toNat ≤ sizeLine ∧ Q (.str (S (List.replicate n.toNat l).flatten)) H
theorem op_mulS1 : OpR X (binaryOp .Mult) rMulS := op_mulS
theorem op_addS : OpR X (binaryOp .Add) rAddS := by
  intro pins s σ H x y v u Q I rx ry h
  obtain ⟨a, b, rfl, rfl, hz, q⟩ := h
  refine op_add_str pins s σ H _ _ v u Q I rx ry ⟨_, _, rfl, rfl, ?_, ?_⟩
  · rw [S_len, S_len]; exact hz
  · rw [S_cat]; exact q
theorem dec_S (a b : List Nat) : decide (V.str (S a) = V.str (S b)) = decide (a = b) := by
  by_cases h : a = b
  · subst h; simp
  · have : ¬ (V.str (S a) = V.str (S b)) := fun z => h (S_inj (V.str.inj z))
    rw [decide_eq_false h, decide_eq_false this]
theorem op_eqS : OpR X (compareOp .Eq) rEqS := by
  intro pins s σ H x y v u Q I rx ry h
  obtain ⟨a, b, rfl, rfl, q⟩ := h
  refine op_eq pins s σ H _ _ v u Q I rx ry ⟨rfl, ?_⟩
  rw [dec_S]
  exact q
theorem op_neS : OpR X (compareOp .NotEq) rNeS := by
  intro pins s σ H x y v u Q I rx ry h
  obtain ⟨a, b, rfl, rfl, q⟩ := h
  refine op_ne pins s σ H _ _ v u Q I rx ry ⟨rfl, ?_⟩
  rw [dec_S]
  exact q
theorem op_ltS : OpR X (compareOp .Lt) rLtS := by
  intro pins s σ H x y v u Q I rx ry h
  obtain ⟨a, b, rfl, rfl, q⟩ := h
  exact op_lt_str pins s σ H _ _ v u Q I rx ry ⟨_, _, rfl, rfl, q⟩
theorem op_leS : OpR X (compareOp .LtE) rLeS := by
  intro pins s σ H x y v u Q I rx ry h
  obtain ⟨a, b, rfl, rfl, q⟩ := h
  exact op_le_str pins s σ H _ _ v u Q I rx ry ⟨_, _, rfl, rfl, q⟩
theorem op_gtS : OpR X (compareOp .Gt) rGtS := by
  intro pins s σ H x y v u Q I rx ry h
  obtain ⟨a, b, rfl, rfl, q⟩ := h
  exact op_gt_str pins s σ H _ _ v u Q I rx ry ⟨_, _, rfl, rfl, q⟩
theorem op_geS : OpR X (compareOp .GtE) rGeS := by
  intro pins s σ H x y v u Q I rx ry h
  obtain ⟨a, b, rfl, rfl, q⟩ := h
  exact op_ge_str pins s σ H _ _ v u Q I rx ry ⟨_, _, rfl, rfl, q⟩
/-- one sign in a text -/
def rIn1 (neg : Bool) : R2 := fun x y H Q => ∃ (c : Nat) (l : List Nat), x = .str (S [c]) ∧ y = .str (S l) ∧ Q (.bl (if neg then !decide (c ∈ l) else decide (c ∈ l))) H
theorem op_in1 : OpR X (compareOp .In) (rIn1 false) := by
  intro pins s σ H x y v u Q I rx ry h
  obtain ⟨a, b, rfl, rfl, q⟩ := h
  exact op_in_sign pins s σ H _ _ v u Q I rx ry ⟨_, _, rfl, rfl, q⟩
theorem op_notIn1 : OpR X (compareOp .NotIn) (rIn1 true) := by
  intro pins s σ H x y v u Q I rx ry h
  obtain ⟨a, b, rfl, rfl, q⟩ := h
  exact op_notIn_sign pins s σ H _ _ v u Q I rx ry ⟨_, _, rfl, rfl, q⟩
def rIxT1 : R2 := fun x y H Q => ∃ (l : List Nat) (i : Int) (c : Nat), x = .str (S l) ∧ y = .int i ∧ l.length ≤ sizeLine ∧ atI l i = some c ∧ Q (.str (S [c])) H
theorem ix_S : IxR X rIxT1 := by
  intro value slice pins s σ H x y v u Q I rx ry h hs
  obtain ⟨l, i, c, rfl, rfl, hz, he, q⟩ := h
  exact ix_str value slice pins s σ H _ _ v u Q I rx ry ⟨_, _, c, rfl, rfl, by rw [S_len]; exact hz, he, q⟩ hs
def cutL {α : Type} (l : List α) (lo hi : Option Int) : List α := (l.drop (HT.sIx l.length 0 lo)).take (HT.sIx l.length l.length hi - HT.sIx l.length 0 lo)
def rSlS1 : V → Option Int → Option Int → Hp → VK → Prop := fun x lo hi H Q => ∃ l : List Nat, x = .str (S l) ∧ l.length ≤ sizeLine ∧ Q (.str (S (cutL l lo hi))) H
theorem sl_S : SlR X rSlS1 := by
  intro pins s σ H x v vl vu lo hi sl Q I rx hs pl pu h
  obtain ⟨l, rfl, hz, q⟩ := h
  refine sl_str pins s σ H _ v vl vu lo hi sl Q I rx hs pl pu ⟨_, rfl, by rw [S_len]; exact hz, ?_⟩
  have : cutS (S l) lo hi = S (cutL l lo hi) := by
    unfold cutS cutL
    rw [S_len]
  rw [this]
  exact q
def rLenT : List V → Hp → VK → Prop := fun xs H Q => ∃ l : List Nat, xs = [.str (S l)] ∧ l.length ≤ sizeLine ∧ Q (.int (l.length : Nat)) H
theorem call_lenT : CallR X (.builtin "len") rLenT := by
  intro pins s σ H xs us Q I r h
  obtain ⟨l, rfl, hz, q⟩ := h
  refine call_len_str pins s σ H _ us Q I r ⟨_, rfl, by rw [S_len]; exact hz, ?_⟩
  rw [S_len]
  exact q
abbrev rLenL (K : PySem.W.Frag) : List V → Hp → VK → Prop := fun xs H Q => ∃ p ys, xs = [.ref p] ∧ (SqL K H p ys ∨ SqT K H p ys) ∧ Q (.int ys.length) H
abbrev rListOf (K : PySem.W.Frag) : List V → Hp → VK → Prop := fun xs H Q => ∃ p ys, xs = [.ref p] ∧ (SqL K H p ys ∨ SqT K H p ys) ∧ ∀ l, H l = none → Q (.ref l) (upd H l (.lst ys))
/-- the least place from i on that has c -/
def nextP (l : List Nat) (i c : Nat) : Option Nat := ((l.drop i).idxOf? c).map (· + i)
def findI (l : List Nat) (i c : Nat) : Int := match nextP l i c with | some k => (k : Int) | none => -1
theorem idxOf?_some {l : List Nat} {c k : Nat} : l.idxOf? c = some k ↔ l[k]? = some c ∧ ∀ j, j < k → l[j]? ≠ some c := by
  induction l generalizing k with
  | nil => simp
  | cons a l ih =>
    rw [List.idxOf?_cons]
    by_cases h : (a == c) = true
    · rw [if_pos h]
      have e := eq_of_beq h
      subst e
      constructor
      · intro z
        have := Option.some.inj z
        subst this
        exact ⟨rfl, fun j hj => absurd hj (Nat.not_lt_zero _)⟩
      · rintro ⟨z1, z2⟩
        cases k with
        | zero => rfl
        | succ k => exact absurd rfl (z2 0 (Nat.succ_pos _))
    · rw [if_neg h]
      have hne : a ≠ c := fun e => h (beq_iff_eq.mpr e)
      cases k with
      | zero =>
        constructor
        · intro z
          cases e : l.idxOf? c with
          | none => rw [e] at z; cases z
          | some j => rw [e] at z; cases z
        · rintro ⟨z1, _⟩
          exact absurd (Option.some.inj z1) hne
      | succ k =>
        have : (Option.map (fun x => x + 1) (l.idxOf? c) = some (k + 1)) ↔ l.idxOf? c = some k := by
          cases e : l.idxOf? c with
          | none => simp
          | some j => simp
        rw [this, ih]
        constructor
        · rintro ⟨z1, z2⟩
          refine ⟨z1, fun j hj => ?_⟩
          cases j with
          | zero => exact fun z => hne (Option.some.inj z)
          | succ j => exact z2 j (by omega)
        · rintro ⟨z1, z2⟩
          exact ⟨z1, fun j hj => z2 (j + 1) (by omega)⟩
theorem idxOf?_none {l : List Nat} {c : Nat} : l.idxOf? c = none ↔ ∀ j : Nat, l[j]? ≠ some c := by
  constructor
  · intro h j hj
    have hm := List.mem_of_getElem? hj
    cases e : l.idxOf? c with
    | some k => rw [e] at h; cases h
    | none =>
      rw [List.idxOf?_eq_none_iff] at e
      exact e hm
  · intro h
    rw [List.idxOf?_eq_none_iff]
    intro hm
    obtain ⟨j, hj⟩ := List.mem_iff_getElem?.mp hm
    exact h j hj
theorem nextP_some {l : List Nat} {i c k : Nat} : nextP l i c = some k ↔ i ≤ k ∧ l[k]? = some c ∧ ∀ j, i ≤ j → j < k → l[j]? ≠ some c := by
  unfold nextP
  constructor
  · intro h
    cases e : (l.drop i).idxOf? c with
    | none => rw [e] at h; cases h
    | some m =>
      rw [e] at h
      have hk : m + i = k := Option.some.inj h
      obtain ⟨h1, h2⟩ := idxOf?_some.mp e
      rw [List.getElem?_drop] at h1
      refine ⟨by omega, ?_, fun j hj hjk => ?_⟩
      · rw [← hk, Nat.add_comm m i]; exact h1
      · have := h2 (j - i) (by omega)
        rw [List.getElem?_drop, show i + (j - i) = j by omega] at this
        exact this
  · rintro ⟨h1, h2, h3⟩
    have e : (l.drop i).idxOf? c = some (k - i) := by
      rw [idxOf?_some]
      refine ⟨?_, fun j hj => ?_⟩
      · rw [List.getElem?_drop, show i + (k - i) = k by omega]; exact h2
      · rw [List.getElem?_drop]; exact h3 (i + j) (by omega) (by omega)
    rw [e]
    show some (k - i + i) = some k
    rw [show k - i + i = k by omega]
theorem nextP_none {l : List Nat} {i c : Nat} : nextP l i c = none ↔ ∀ j, i ≤ j → l[j]? ≠ some c := by
  unfold nextP
  rw [Option.map_eq_none_iff, idxOf?_none]
  constructor
  · intro h j hj
    have := h (j - i)
    rw [List.getElem?_drop, show i + (j - i) = j by omega] at this
    exact this
  · intro h j
    rw [List.getElem?_drop]
    exact h (i + j) (by omega)
theorem find3_S (l : List Nat) (c i : Nat) (hi : i ≤ l.length) : Txt.find3 (S l) (S [c]) (i : Int) = findI l i c := by
  have e0 : fromIndex (S l).length (i : Int) = i := by
    rw [S_len]
    unfold fromIndex
    rw [if_neg (by omega)]
    omega
  have gd : ∀ (v x : Nat), v < l.length → ((S l).cps.getD v 0 = x ↔ l[v]? = some x) := fun v x hv => by
    have : (S l).cps.getD v 0 = l.getD v 0 := by simp
    rw [this, List.getD_eq_getElem?_getD, List.getElem?_eq_getElem hv]
    simp
  unfold findI
  rcases StrLaws.find3_spec (S l) c (i : Int) with ⟨h1, h2⟩ | ⟨k, h1, h2, h3, h4, h5⟩
  · rw [e0, S_len] at h2
    have : nextP l i c = none := nextP_none.mpr fun j hj z => by
      have hjl : j < l.length := (List.getElem?_eq_some_iff.mp z).1
      exact h2 j hj hjl ((gd j c hjl).mpr z)
    rw [this]
    exact h1
  · rw [e0] at h2 h5
    rw [S_len] at h3
    have : nextP l i c = some k := nextP_some.mpr ⟨h2, (gd k c h3).mp h4, fun j hj hjk z => h5 j hj hjk ((gd j c (by omega)).mpr z)⟩
    rw [this]
    exact h1
def rFind (x : V) (xs : List V) (H : Hp) (Q : VK) : Prop := ∃ (l : List Nat) (c i : Nat), x = .str (S l) ∧ xs = [.str (S [c]), .int (i : Int)] ∧ i ≤ l.length ∧ Q (.int (findI l i c)) H
theorem mt_findS : MtR X "str.find" rFind := by
  intro pins s σ H x xs v us Q I rx r h
  obtain ⟨l, c, i, rfl, rfl, hi, q⟩ := h
  refine mt_find3 pins s σ H _ _ v us Q I rx r ⟨_, _, _, rfl, rfl, ?_⟩
  have : Txt.find3 (S l) (S [c]) (i : Int) = findI l i c := find3_S l c i hi
  rw [this]
  exact q
def rJoin (K : PySem.W.Frag) : V → List V → Hp → VK → Prop := fun x xs H Q => ∃ (p : Addr) (a : List Nat) (ys : List (List Nat)), x = .str (S a) ∧ xs = [.ref p] ∧ SqL K H p (ys.map fun l => .str (S l)) ∧ (ys.map List.length).sum + ys.length * a.length ≤ 16777216 ∧ Q (.str (S (TL.joinL a ys))) H
theorem mt_joinS : MtR X "str.join" (rJoin X.K) := by
  intro pins s σ H x xs v us Q I rx r h
  obtain ⟨p, a, ys, rfl, rfl, hL, hz, q⟩ := h
  refine mt_join pins s σ H _ _ v us Q I rx r ⟨_, p, ys.map S, rfl, rfl, .inl ?_, ?_, ?_⟩
  · rw [List.map_map]; exact hL
  · rw [lens, List.length_map, S_len]; exact hz
  · rw [join_S]; exact q
end
end Lv
/-! isinstance of any thing, errors too -/
namespace Lv
open PySem PySem.Spec PyProof.Rows L2
/-- an error's object, of the class cls, at a -/
def CgO (cls : Value) (a : Addr) : HO := .ext fun h => ∃ (oe : Obj) (vs : Array Value), h.get? a = some oe ∧ Zc cls none oe ∧ oe.data = .fields vs
theorem cgO_ok {P : Program} {w : World} {H : Hp} {h : Heap} {a : Addr} {cls : Value} {oe : Obj} {vs : Array Value} (e : h.get? a = some oe) (z : Zc cls none oe) (d : oe.data = .fields vs) : ObjOk P w H h a (CgO cls a) :=
  ⟨⟨oe, vs, e, z, d⟩, ⟨oe, e⟩, fun _ _ q k => by
    obtain ⟨o, v, q1, q2⟩ := q
    exact ⟨o, v, k o q1, q2⟩⟩
/-- classes of errors that isinstance knows -/
inductive ExT (K : PySem.W.Frag) : Value → Prop where
  | own {D : Addr} (c : ExcC K D) : ExT K (.ref D)
  | ve : ExT K (.type "ValueError")
inductive Ty2 (K : PySem.W.Frag) (H : Hp) : V → Value → Prop where
  | of {x : V} {t : Value} (h : TyX K H x t) : Ty2 K H x t
  | exc {a : Addr} {t : Value} (e : H a = some (CgO t a)) (c : ExT K t) : Ty2 K H (.ref a) t
theorem kit_of2 {X : Cx} {pins : List (Addr × Obj)} {σ : L2.St} {H : Hp} {s : Shared} {x : V} {u t : Value} (I : Inv X pins σ H s) (rx : RelV x u) (ty : Ty2 X.K H x t) : ∃ P : Heap → Prop, PySem.W.KitX X.K u t P ∧ P s.heap ∧ u ≠ .builtin "__main__.__loader__#opaque" := by
  cases ty with
  | of h => exact kit_of I rx h
  | @exc a _ e c =>
    cases (show u = Value.ref a from rx)
    obtain ⟨⟨oe, vs, he, hz, hd⟩, _, _⟩ := I.hok a _ e
    cases c with
    | own c =>
      refine ⟨_, PySem.W.handS_kitx_exc c.hg c.hk c.hs c.hd c.ha c.hn c.ht c.hm (ox := oe), ?_, fun z => nomatch z⟩
      obtain ⟨oc, od, oda, osl⟩ := oe
      obtain ⟨z1, z2⟩ := hz
      dsimp only at z1 z2 hd
      subst z1 z2 hd
      exact ⟨he, rfl, rfl, trivial⟩
    | ve => exact ⟨_, PySem.W.kitx_bexc PySem.F.excAttr_ValueError PySem.F.lkClass_ValueError PySem.F.soClass_ValueError (by decide +kernel), ⟨oe, he, hz.1⟩, fun z => nomatch z⟩
/-- isinstance(x, c) -/
def rIs1 (K : PySem.W.Frag) : List V → Hp → VK → Prop := fun xs H Q => ∃ (x c : V) (t u : Value) (b : Bool), xs = [x, c] ∧ ClsV c u ∧ Ty2 K H x t ∧ PySem.W.kitOne K t u = some b ∧ Q (.bl b) H
/-- isinstance(x, (c1, c2, ..)) -/
def rIsT (K : PySem.W.Frag) : List V → Hp → VK → Prop := fun xs H Q => ∃ (x : V) (tp : Addr) (cs : List V) (t : Value) (us : List Value) (b : Bool), xs = [x, .ref tp] ∧ H tp = some (.tup cs) ∧ Paired ClsV cs us ∧ Ty2 K H x t ∧ PySem.W.kitAny K t us = some b ∧ Q (.bl b) H
theorem call_is1 {X : Cx} : CallR X (.builtin "isinstance") (rIs1 X.K) := fun pins s σ H xs us Q I r h => by
  obtain ⟨x, c, t, u, b, rfl, hc, ty, e, q⟩ := h
  obtain ⟨v1, v2, rfl, r1, r2⟩ := vals2 r
  cases hc.eq r2
  obtain ⟨P, Z, p, nx⟩ := kit_of2 I r1 ty
  exact PySem.W.kia_one Z I.kIn p e nx fun tk => ⟨.bl b, H, I.tok tk, rfl, q⟩
theorem call_isT {X : Cx} : CallR X (.builtin "isinstance") (rIsT X.K) := fun pins s σ H xs us Q I r h => by
  obtain ⟨x, tp, cs, t, ws, b, rfl, hT, hc, ty, e, q⟩ := h
  obtain ⟨v1, v2, rfl, r1, r2⟩ := vals2 r
  cases (show v2 = Value.ref tp from r2)
  obtain ⟨P, Z, p, nx⟩ := kit_of2 I r1 ty
  have T0 : ObjOk X.prog X.w H s.heap tp (.tup cs) := I.hok tp _ hT
  obtain ⟨_, its, rv, ⟨oc, od, dt, sl⟩, g1, g2, n, g3⟩ := T0
  cases ClsV.all hc rv
  dsimp only at g2 g3
  cases g2
  cases g3
  exact PySem.W.kia_tup Z I.kIn p g1 e nx fun tk => ⟨.bl b, H, I.tok tk, rfl, q⟩
end Lv

set_option Elab.async false
set_option linter.all false
set_option maxRecDepth 100000
set_option maxHeartbeats 2000000
namespace Lv
open PySem PySem.Spec PyProof.Rows L2 SX
/-! steps of a reading -/
section
variable {K : PySem.W.Frag} {D : Ends} {σ : L2.St} {H : Hp} {Q : VK} {t u : TS} {te ta tb tc : TE} {tt tu : TT} {targs tr : TA} {i : Nat} {v x y : V} {g : TG} {ti : TIp}
theorem i_seq (h : t { D with nx := u D } σ H) : tSeq t u D σ H := h
theorem i_next (h : D.nx σ H) : tNext D σ H := h
theorem i_set (h : te σ H fun x H1 => D.nx (σ.set i (some x)) H1) : tAsg te (gName i) D σ H := h
theorem i_asg (h : te σ H fun x H1 => g x σ H1 D.nx) : tAsg te g D σ H := h
theorem i_drop (h : te σ H fun _ H1 => D.nx σ H1) : tDrop te D σ H := h
theorem i_ret (h : te σ H D.rt) : tRet te D σ H := h
theorem i_if (h : tt σ H fun b H1 => if b = true then t D σ H1 else u D σ H1) : tIfS tt t u D σ H := h
theorem i_brk (h : D.bk σ H) : tBreak D σ H := h
theorem i_cont (h : D.ct σ H) : tCont D σ H := h
theorem i_aug (hx : σ[i]? = some (some x)) (h : te σ H fun y H1 => ti x y H1 fun z H2 => D.nx (σ.set i (some z)) H2) : tAug i te ti D σ H := ⟨x, hx, h⟩
theorem i_ipI {f : Int → Int → Int} {a b : Int} (h : Q (.int (f a b)) H) : ipI f (.int a) (.int b) H Q := ⟨a, b, rfl, rfl, h⟩
theorem i_var (hv : σ[i]? = some (some v)) (h : Q v H) : tVar i σ H Q := ⟨v, hv, h⟩
theorem i_c (h : Q v H) : tC v σ H Q := h
theorem i_op {r : R2} (h : ta σ H fun x H1 => tb σ H1 fun y H2 => r x y H2 Q) : tOp r ta tb σ H Q := h
theorem i_un {r : V → Hp → VK → Prop} (h : ta σ H fun x H1 => r x H1 Q) : tUn r ta σ H Q := h
theorem i_cb {r : List V → Hp → VK → Prop} (h : targs σ H fun vs H1 => r vs H1 Q) : tCB r targs σ H Q := h
theorem i_call {sp : Sp} {dvs : List V} {E : XK} (h : targs σ H fun vs H1 => sp (vs ++ dvs) H1 Q E) : tCall sp dvs E targs σ H Q := h
theorem i_nil {QA : List V → Hp → Prop} (h : QA [] H) : tNil σ H QA := h
theorem i_cons {QA : List V → Hp → Prop} (h : ta σ H fun x H1 => tr σ H1 fun xs H2 => QA (x :: xs) H2) : tCons ta tr σ H QA := h
theorem i_lst (h : targs σ H fun xs H1 => xs.length ≤ sizeLine ∧ ∀ p, H1 p = none → Q (.ref p) (upd H1 p (.lst xs))) : tLst targs σ H Q := h
theorem i_tup (h : targs σ H fun xs H1 => xs.length ≤ sizeLine ∧ ∀ p, H1 p = none → Q (.ref p) (upd H1 p (.tup xs))) : tTup targs σ H Q := h
theorem i_bm {T : String} {r : V → List V → Hp → VK → Prop} (h : te σ H fun x H1 => tyV K T x H1 ∧ targs σ H1 fun xs H2 => r x xs H2 Q) : tBM K T r te targs σ H Q := h
theorem i_bm0 {T : String} {r : V → List V → Hp → VK → Prop} (h : te σ H fun x H1 => tyV K T x H1 ∧ r x [] H1 Q) : tBM0 K T r te σ H Q := h
theorem i_tyS {z : Str} {P : Prop} (h : P) : tyV K "str" (.str z) H ∧ P := ⟨rfl, h⟩
theorem i_sl {r : V → Option Int → Option Int → Hp → VK → Prop} {tl th : TO} (h : te σ H fun x H1 => tl σ H1 fun l H2 => th σ H2 fun u H3 => r x l u H3 Q) : tSl r te tl th σ H Q := h
theorem i_noPart {QO : Option Int → Hp → Prop} (h : QO none H) : tNoPart σ H QO := h
theorem i_part {QO : Option Int → Hp → Prop} (h : te σ H fun x H1 => ∃ i, x = .int i ∧ QO (some i) H1) : tPart te σ H QO := h
theorem i_exI {P : Int → Prop} {n : Int} (h : P n) : ∃ i, V.int n = .int i ∧ P i := ⟨n, rfl, h⟩
theorem i_bl {b : Bool} {P : Bool → Prop} (h : P b) : ∃ k, V.bl b = .bl k ∧ P k := ⟨b, rfl, h⟩
theorem i_test {QB : Bool → Hp → Prop} (h : te σ H fun x H' => ∃ k, x = .bl k ∧ QB k H') : tTest te σ H QB := h
theorem i_tB {QB : Bool → Hp → Prop} (h : te σ H fun x H' => ∃ k, x = .bl k ∧ QB k H') : tB te σ H QB := h
theorem i_not {QB : Bool → Hp → Prop} (h : tt σ H fun c H1 => QB (!c) H1) : tNot tt σ H QB := h
theorem i_and {QB : Bool → Hp → Prop} (h : tt σ H fun c H1 => if c = true then tu σ H1 QB else QB false H1) : tAnd tt tu σ H QB := h
theorem i_or {QB : Bool → Hp → Prop} (h : tt σ H fun c H1 => if c = true then QB true H1 else tu σ H1 QB) : tOr tt tu σ H QB := h
theorem i_andV (h : ta σ H fun x H1 => ∃ c, x = .bl c ∧ if c = true then tb σ H1 Q else Q (.bl false) H1) : tAndV ta tb σ H Q := h
theorem i_orV (h : ta σ H fun x H1 => ∃ c, x = .bl c ∧ if c = true then Q (.bl true) H1 else tb σ H1 Q) : tOrV ta tb σ H Q := h
theorem i_notV (h : ta σ H fun x H1 => ∃ c, x = .bl c ∧ Q (.bl (!c)) H1) : tNotV ta σ H Q := h
theorem i_ifE (h : tt σ H fun c H1 => if c = true then ta σ H1 Q else tb σ H1 Q) : tIf tt ta tb σ H Q := h
theorem i_rI0 {f : Int → Int → V} {a b : Int} (h : Q (f a b) H) : rI0 f (.int a) (.int b) H Q := ⟨a, b, rfl, rfl, h⟩
theorem i_rI {C : Int → Int → Prop} {f : Int → Int → V} {a b : Int} (hc : C a b) (h : Q (f a b) H) : rI C f (.int a) (.int b) H Q := ⟨a, b, rfl, rfl, hc, h⟩
theorem i_rU {f : Int → V} {a : Int} (h : Q (f a) H) : rU f (.int a) H Q := ⟨a, rfl, h⟩
theorem i_r2S {f : List Nat → List Nat → V} {a b : List Nat} (h : Q (f a b) H) : r2S f (.str (S a)) (.str (S b)) H Q := ⟨a, b, rfl, rfl, h⟩
theorem i_in1 {c : Nat} {l : List Nat} (h : Q (.bl (decide (c ∈ l))) H) : rIn1 false (.str (S [c])) (.str (S l)) H Q := ⟨c, l, rfl, rfl, h⟩
theorem i_notIn1 {c : Nat} {l : List Nat} (h : Q (.bl (!decide (c ∈ l))) H) : rIn1 true (.str (S [c])) (.str (S l)) H Q := ⟨c, l, rfl, rfl, h⟩
theorem i_addS {a b : List Nat} (hz : a.length + b.length ≤ sizeLine) (h : Q (.str (S (a ++ b))) H) : rAddS (.str (S a)) (.str (S b)) H Q := ⟨a, b, rfl, rfl, hz, h⟩
theorem i_mulS {l : List Nat} {n : Int} (h0 : -(2 ^ 38) < n) (h1 : n < 2 ^ 38) (hz : l.length * n.toNat ≤ sizeLine) (h : Q (.str (S (List.replicate n.toNat l).flatten)) H) : rMulS (.str (S l)) (.int n) H Q := ⟨l, n, rfl, rfl, h0, h1, hz, h⟩
theorem i_ixS {l : List Nat} {n : Int} {c : Nat} (hz : l.length ≤ sizeLine) (hc : atI l n = some c) (h : Q (.str (S [c])) H) : rIxT1 (.str (S l)) (.int n) H Q := ⟨l, n, c, rfl, rfl, hz, hc, h⟩
theorem i_slS {l : List Nat} {lo hi : Option Int} (hz : l.length ≤ sizeLine) (h : Q (.str (S (cutL l lo hi))) H) : rSlS1 (.str (S l)) lo hi H Q := ⟨l, rfl, hz, h⟩
theorem i_revS {R : List Nat → Prop} {l : List Nat} (hz : l.length ≤ sizeLine) (h : R l) : (∃ l' : List Nat, V.str (S l) = .str (S l') ∧ l'.length ≤ sizeLine ∧ R l') := ⟨l, rfl, hz, h⟩
theorem i_tRevS (h : te σ H fun x H1 => ∃ l : List Nat, x = .str (S l) ∧ l.length ≤ sizeLine ∧ Q (.str (S l.reverse)) H1) : tRevS te σ H Q := h
theorem i_lenT {l : List Nat} (hz : l.length ≤ sizeLine) (h : Q (.int (l.length : Nat)) H) : rLenT [.str (S l)] H Q := ⟨l, rfl, hz, h⟩
theorem i_find {l : List Nat} {c j : Nat} (hj : j ≤ l.length) (h : Q (.int (findI l j c)) H) : rFind (.str (S l)) [.str (S [c]), .int (j : Int)] H Q := ⟨l, c, j, rfl, rfl, hj, h⟩
theorem i_ixL {p : Addr} {xs : List V} {n : Int} (hp : SqL K H p xs) (hn : atI xs n = some v) (h : Q v H) : rIxL K (.ref p) (.int n) H Q := ⟨p, xs, n, v, rfl, rfl, hp, hn, h⟩
theorem i_ixU {p : Addr} {xs : List V} {n : Int} (hp : SqT K H p xs) (hn : atI xs n = some v) (h : Q v H) : rIxT K (.ref p) (.int n) H Q := ⟨p, xs, n, v, rfl, rfl, hp, hn, h⟩
end
theorem if_dec {p : Prop} [Decidable p] {A B : Prop} (h1 : p → A) (h2 : ¬ p → B) : if decide p = true then A else B := by
  by_cases h : p
  · rw [decide_eq_true h, if_pos rfl]; exact h1 h
  · rw [decide_eq_false h, if_neg Bool.false_ne_true]; exact h2 h
theorem if_ndec {p : Prop} [Decidable p] {A B : Prop} (h1 : ¬ p → A) (h2 : p → B) : if (!decide p) = true then A else B := by
  by_cases h : p
  · rw [decide_eq_true h]; exact iteF (h2 h)
  · rw [decide_eq_false h]; exact iteT (h1 h)
theorem if_yes {p : Prop} [Decidable p] {A B : Prop} (hp : p) (h1 : A) : if decide p = true then A else B := by
  rw [decide_eq_true hp, if_pos rfl]; exact h1
theorem if_no {p : Prop} [Decidable p] {A B : Prop} (hp : ¬ p) (h1 : B) : if decide p = true then A else B := by
  rw [decide_eq_false hp, if_neg Bool.false_ne_true]; exact h1
theorem le_line {n : Nat} (h : n ≤ 1000000) : n ≤ sizeLine := Nat.le_trans h (by decide)
theorem lt_line {n : Nat} (h : n ≤ 1000000) : n < sizeLine := Nat.lt_of_le_of_lt h (by decide)
/-! heaps -/
/-- all but what stands at h is as it was -/
def But (h : Addr) (H H' : Hp) : Prop := ∀ b o, b ≠ h → H b = some o → H' b = some o
theorem But.refl (h : Addr) (H : Hp) : But h H H := fun _ _ _ q => q
theorem But.trans {h : Addr} {H H1 H2 : Hp} (a : But h H H1) (b : But h H1 H2) : But h H H2 := fun c o n q => b c o n (a c o n q)
theorem _root_.L2.Same.but {h : Addr} {H H' : Hp} (a : Same H H') : But h H H' := fun c o _ q => a c o q
theorem But.same {h : Addr} {H H' : Hp} (a : But h H H') (n : H h = none) : Same H H' := fun c o q => a c o (ne_of_none q n) q
theorem But.upd {h : Addr} {H : Hp} {o : HO} : But h H (L2.upd H h o) := fun c o' n q => by rw [upd_ne n]; exact q
theorem same_new {H : Hp} {p : Addr} {o : HO} (n : H p = none) : Same H (upd H p o) := fun c o' q => by rw [upd_ne (ne_of_none q n)]; exact q
theorem But.seq {K : PySem.W.Frag} {h : Addr} {H H' : Hp} {a : Addr} {xs : List V} (e : But h H H') (n : a ≠ h) (q : SqL K H a xs) : SqL K H' a xs := by
  rcases q with (q | ⟨o, q⟩) | q
  · exact .inl (.inl (e _ _ n q))
  · exact .inl (.inr ⟨o, e _ _ n q⟩)
  · exact .inr q
theorem _root_.L2.Same.tup {K : PySem.W.Frag} {H H' : Hp} {a : Addr} {xs : List V} (e : Same H H') (q : SqT K H a xs) : SqT K H' a xs := by
  rcases q with (q | ⟨o, q⟩) | q
  · exact .inl (.inl (e _ _ q))
  · exact .inl (.inr ⟨o, e _ _ q⟩)
  · exact .inr q
theorem SqL.of1 {K : PySem.W.Frag} {H : Hp} {a : Addr} {xs : List V} (h : H a = some (.lst xs)) : SqL K H a xs := .inl (.inl h)
theorem SqT.of1 {K : PySem.W.Frag} {H : Hp} {a : Addr} {xs : List V} (h : H a = some (.tup xs)) : SqT K H a xs := .inl (.inl h)
/-- the hand: two whole numbers -/
def Hd (H : Hp) (h : Addr) : Prop := ∃ d m : Int, H h = some (.lst [.int d, .int m]) ∧ 0 ≤ d ∧ 0 ≤ m ∧ m < 2147483648
theorem Hd.same {H H' : Hp} {h : Addr} (e : Same H H') (x : Hd H h) : Hd H' h := by
  obtain ⟨d, m, a, b⟩ := x
  exact ⟨d, m, e _ _ a, b⟩

/-! int(truth), truths, lists of ints compared -/
def rIntB : List V → Hp → VK → Prop := fun xs H Q => ∃ k : Bool, xs = [.bl k] ∧ Q (.int (if k = true then 1 else 0)) H
theorem call_intB {X : Cx} : CallR X (.type "int") rIntB := by
  intro pins s σ H xs us Q I r h
  exact call_int1 pins s σ H xs us Q I r (.inr h)
theorem i_intB {H : Hp} {Q : VK} {k : Bool} (h : Q (.int (if k = true then 1 else 0)) H) : rIntB [.bl k] H Q := ⟨k, rfl, h⟩
def r2B (g : Bool → Bool → Bool) : R2 := fun x y H Q => ∃ a b : Bool, x = .bl a ∧ y = .bl b ∧ Q (.bl (g a b)) H
abbrev rEqB : R2 := r2B fun a b => decide (a = b)
abbrev rNeB : R2 := r2B fun a b => !decide (a = b)
theorem i_r2B {g : Bool → Bool → Bool} {a b : Bool} {H : Hp} {Q : VK} (h : Q (.bl (g a b)) H) : r2B g (.bl a) (.bl b) H Q := ⟨a, b, rfl, rfl, h⟩
section
variable {X : Cx}
theorem op_eqB : OpR X (compareOp .Eq) rEqB := by
  intro pins s σ H x y v u Q I rx ry h
  obtain ⟨i, j, rfl, rfl, q⟩ := h
  refine op_eq pins s σ H _ _ v u Q I rx ry ⟨rfl, ?_⟩
  rw [show decide (V.bl i = V.bl j) = decide (i = j) by simp]
  exact q
theorem op_neB : OpR X (compareOp .NotEq) rNeB := by
  intro pins s σ H x y v u Q I rx ry h
  obtain ⟨i, j, rfl, rfl, q⟩ := h
  refine op_ne pins s σ H _ _ v u Q I rx ry ⟨rfl, ?_⟩
  rw [show decide (V.bl i = V.bl j) = decide (i = j) by simp]
  exact q
theorem op_isB : OpR X (compareOp .Is) rEqB := by
  intro pins s σ H x y v u Q I rx ry h
  obtain ⟨i, j, rfl, rfl, q⟩ := h
  exact op_isBl pins s σ H _ _ v u Q I rx ry ⟨_, _, rfl, rfl, q⟩
theorem op_isNotB : OpR X (compareOp .IsNot) rNeB := by
  intro pins s σ H x y v u Q I rx ry h
  obtain ⟨i, j, rfl, rfl, q⟩ := h
  exact op_notBl pins s σ H _ _ v u Q I rx ry ⟨_, _, rfl, rfl, q⟩
theorem dp_ints {K : PySem.W.Frag} {H : Hp} : ∀ ns : List Int, DpAll K H (ns.map V.int) (ns.map PyData.int)
  | [] => .nil
  | n :: ns => .cons (.int n) (dp_ints ns)
theorem lay_ints : ∀ ns : List Int, PyData.canLayAll0 (ns.map PyData.int) = true
  | [] => by simp [PyData.canLayAll0]
  | n :: ns => by simp [PyData.canLayAll0, PyData.canLay0, lay_ints ns]
theorem depth_ints : ∀ ns : List Int, PyData.depthAll (ns.map PyData.int) = 0
  | [] => by simp [PyData.depthAll]
  | n :: ns => by simp [PyData.depthAll, PyData.depth, depth_ints ns]
theorem shaped_ints (ns : List Int) : SeqAt.shaped (.list (ns.map PyData.int)) = true := by
  unfold SeqAt.shaped
  rw [PyData.canLay0, lay_ints, PyData.depth, depth_ints]
  rfl
theorem eqv_ints : ∀ ns ms : List Int, PyData.eqvAll (ns.map PyData.int) (ms.map PyData.int) = decide (ns = ms)
  | [], [] => by simp [PyData.eqvAll]
  | [], _ :: _ => by simp [PyData.eqvAll]
  | _ :: _, [] => by simp [PyData.eqvAll]
  | n :: ns, m :: ms => by
    simp only [List.map_cons, PyData.eqvAll, PyData.eqv, eqv_ints ns ms, List.cons.injEq]
    by_cases h : n = m
    · subst h; simp
    · simp [h]
def r2L (K : PySem.W.Frag) (g : List Int → List Int → Bool) : R2 := fun x y H Q => ∃ (p q : Addr) (ns ms : List Int), x = .ref p ∧ y = .ref q ∧ SqL K H p (ns.map V.int) ∧ SqL K H q (ms.map V.int) ∧ Q (.bl (g ns ms)) H
abbrev rEqL (K : PySem.W.Frag) : R2 := r2L K fun a b => decide (a = b)
abbrev rNeL (K : PySem.W.Frag) : R2 := r2L K fun a b => !decide (a = b)
theorem op_eqL (hu : X.A.units + 64 < cLine) : OpR X (compareOp .Eq) (rEqL X.K) := by
  intro pins s σ H x y v u Q I rx ry h
  obtain ⟨p, q, ns, ms, rfl, rfl, h1, h2, k⟩ := h
  refine op_eqD hu pins s σ H _ _ v u Q I rx ry ⟨_, _, .lst h1 (dp_ints ns), .lst h2 (dp_ints ms), shaped_ints ns, shaped_ints ms, ?_⟩
  rw [PyData.eqv, eqv_ints]
  exact k
theorem op_neL (hu : X.A.units + 64 < cLine) : OpR X (compareOp .NotEq) (rNeL X.K) := by
  intro pins s σ H x y v u Q I rx ry h
  obtain ⟨p, q, ns, ms, rfl, rfl, h1, h2, k⟩ := h
  refine op_neD hu pins s σ H _ _ v u Q I rx ry ⟨_, _, .lst h1 (dp_ints ns), .lst h2 (dp_ints ms), shaped_ints ns, shaped_ints ms, ?_⟩
  rw [PyData.eqv, eqv_ints]
  exact k
end
theorem i_r2L {K : PySem.W.Frag} {g : List Int → List Int → Bool} {p q : Addr} {ns ms : List Int} {H : Hp} {Q : VK} (h1 : SqL K H p (ns.map V.int)) (h2 : SqL K H q (ms.map V.int)) (h : Q (.bl (g ns ms)) H) : r2L K g (.ref p) (.ref q) H Q := ⟨p, q, ns, ms, rfl, rfl, h1, h2, h⟩
section
variable {K : PySem.W.Frag} {H : Hp} {Q : VK}
theorem i_isi_int_int {n : Int} (q : Q (.bl true) H) : rIs1 K [.int n, .ty "int"] H Q := ⟨_, _, _, _, true, rfl, .ty _, .of <| .base (.int n), kit_ty (by decide +kernel), q⟩
theorem i_isi_int_bool {n : Int} (q : Q (.bl false) H) : rIs1 K [.int n, .ty "bool"] H Q := ⟨_, _, _, _, false, rfl, .ty _, .of <| .base (.int n), kit_ty (by decide +kernel), q⟩
theorem i_isi_bl_bool {b : Bool} (q : Q (.bl true) H) : rIs1 K [.bl b, .ty "bool"] H Q := ⟨_, _, _, _, true, rfl, .ty _, .of <| .base (.bl b), kit_ty (by decide +kernel), q⟩
end
section
variable {K : PySem.W.Frag} {σ : L2.St} {H : Hp} {v : V} {R : L2.St → Hp → Prop} {t : TG} {u : TGs}
theorem i_gSub {to ti : TE} {ts : TSet} (h : to σ H fun o H1 => ti σ H1 fun i H2 => ts o i v H2 fun H3 => R σ H3) : gSub to ti ts v σ H R := h
theorem i_setL {p : Addr} {xs : List V} {n : Int} {j : Nat} {P : Hp → Prop} (hp : H p = some (.lst xs)) (hj : ixN xs.length n = some j) (h : P (upd H p (.lst (xs.set j v)))) : rSetL (.ref p) (.int n) v H P := ⟨p, xs, n, j, rfl, rfl, hp, hj, h⟩
theorem i_gName {i : Nat} (h : R (σ.set i (some v)) H) : gName i v σ H R := h
theorem i_gTup {a : Addr} {xs : List V} {n : Nat} (ha : SqT K H a xs) (hn : xs.length = n) (h : u xs σ H R) : gTup K n u (.ref a) σ H R := ⟨a, xs, rfl, ha, hn, h⟩
theorem i_gCons {r : List V} (h : t v σ H fun σ' H' => u r σ' H' R) : gCons t u (v :: r) σ H R := ⟨v, r, rfl, h⟩
theorem i_gNil (h : R σ H) : gNil [] σ H R := ⟨rfl, h⟩
theorem i_par {i j : Nat} {ta : TA} {D : Ends} (h : ta σ H fun vs H1 => ∃ v w, vs = [v, w] ∧ D.nx ((σ.set i (some v)).set j (some w)) H1) : tPar i j ta D σ H := h
end
theorem i_app {l : Addr} {xs : List V} {y : V} {H : Hp} {Q : VK} (hl : H l = some (.lst xs)) (hz : xs.length < sizeLine) (h : Q .non (upd H l (.lst (xs ++ [y])))) : rAppend (.ref l) [y] H Q := ⟨l, xs, y, rfl, rfl, hl, hz, h⟩
theorem i_tyL {K : PySem.W.Frag} {H : Hp} {l : Addr} {xs : List V} {P : Prop} (hl : SqL K H l xs) (h : P) : tyV K "list" (.ref l) H ∧ P := ⟨.inl ⟨rfl, xs, hl⟩, h⟩
theorem i_cat {l b : Addr} {xs zs : List V} {H : Hp} {Q : VK} (h1 : H l = some (.lst xs)) (h2 : H b = some (.lst zs)) (hz : xs.length + zs.length ≤ sizeLine) (h : ∀ p, H p = none → Q (.ref p) (upd H p (.lst (xs ++ zs)))) : rCat (.ref l) (.ref b) H Q := ⟨l, b, xs, zs, rfl, rfl, h1, h2, hz, h⟩
theorem i_rep {l : Addr} {k : Int} {xs : List V} {H : Hp} {Q : VK} (h1 : H l = some (.lst xs)) (k0 : -(2 ^ 63) ≤ k) (k1 : k < 2 ^ 63) (hz : xs.length * k.toNat ≤ sizeLine) (h : ∀ p, H p = none → Q (.ref p) (upd H p (.lst (List.replicate k.toNat xs).flatten))) : rRep (.ref l) (.int k) H Q := ⟨l, k, xs, rfl, rfl, h1, k0, k1, hz, h⟩
theorem i_slL {K : PySem.W.Frag} {a : Addr} {xs : List V} {lo hi : Option Int} {H : Hp} {Q : VK} (h1 : SqL K H a xs) (h : ∀ p, H p = none → Q (.ref p) (upd H p (.lst (cutV xs lo hi)))) : rSlL K (.ref a) lo hi H Q := ⟨a, xs, rfl, h1, h⟩
theorem i_lenL {K : PySem.W.Frag} {a : Addr} {xs : List V} {H : Hp} {Q : VK} (h1 : SqL K H a xs) (h : Q (.int (xs.length : Nat)) H) : rLenL K [.ref a] H Q := ⟨a, xs, rfl, .inl h1, h⟩
theorem i_listOf {K : PySem.W.Frag} {a : Addr} {xs : List V} {H : Hp} {Q : VK} (h1 : SqL K H a xs) (h : ∀ l, H l = none → Q (.ref l) (upd H l (.lst xs))) : rListOf K [.ref a] H Q := ⟨a, xs, rfl, .inl h1, h⟩
theorem i_sum {K : PySem.W.Frag} {a : Addr} {ns : List Int} {H : Hp} {Q : VK} (h1 : SqL K H a (ns.map V.int)) (h : Q (.int ns.sum) H) : rSum K [.ref a] H Q := ⟨a, ns, rfl, h1, h⟩
theorem i_join {K : PySem.W.Frag} {p : Addr} {a : List Nat} {ys : List (List Nat)} {H : Hp} {Q : VK} (h1 : SqL K H p (ys.map fun l => .str (S l))) (hz : (ys.map List.length).sum + ys.length * a.length ≤ 16777216) (h : Q (.str (S (TL.joinL a ys))) H) : rJoin K (.str (S a)) [.ref p] H Q := ⟨p, a, ys, rfl, rfl, h1, hz, h⟩
theorem i_listEn {K : PySem.W.Frag} {te : TE} {σ : L2.St} {H : Hp} {Q : VK} (h : te σ H fun x H1 => rListEn K x H1 Q) : tListEn K te σ H Q := h
theorem i_rng1 {ta : TA} {σ : L2.St} {H : Hp} {R : It → Hp → Prop} (h : ta σ H fun vs H1 => ∃ j : Int, vs = [.int j] ∧ -(2 ^ 62) ≤ j ∧ j < 2 ^ 62 ∧ R (Itr 0 j.toNat) H1) : iRng1 ta σ H R := h
theorem i_rng1x {n : Int} {H : Hp} {R : It → Hp → Prop} (h0 : -(2 ^ 62) ≤ n) (h1 : n < 2 ^ 62) (h : R (Itr 0 n.toNat) H) : ∃ j : Int, [V.int n] = [.int j] ∧ -(2 ^ 62) ≤ j ∧ j < 2 ^ 62 ∧ R (Itr 0 j.toNat) H := ⟨n, rfl, h0, h1, h⟩
theorem cutV_map {α : Type} (f : α → V) (l : List α) (lo hi : Option Int) : cutV (l.map f) lo hi = (cutL l lo hi).map f := by
  unfold cutV cutL
  rw [List.length_map, List.map_take, List.map_drop]
theorem cutL_length {α : Type} (l : List α) (lo hi : Option Int) : (cutL l lo hi).length ≤ l.length := by
  unfold cutL
  rw [List.length_take, List.length_drop]
  omega
theorem cutL_to {α : Type} (l : List α) (n : Nat) : cutL l none (some (n : Int)) = l.take n := by
  unfold cutL
  rw [HT.sIx_nat, HT.sIx_none, List.drop_zero, Nat.sub_zero]
  by_cases h : n ≤ l.length
  · rw [Nat.min_eq_left h]
  · rw [Nat.min_eq_right (by omega), List.take_of_length_le (Nat.le_refl _), List.take_of_length_le (by omega)]
theorem cutL_from {α : Type} (l : List α) (n : Nat) : cutL l (some (n : Int)) none = l.drop n := by
  unfold cutL
  rw [HT.sIx_nat, HT.sIx_none]
  by_cases h : n ≤ l.length
  · rw [Nat.min_eq_left h, List.take_of_length_le (by rw [List.length_drop]; exact Nat.le_refl _)]
  · rw [Nat.min_eq_right (by omega), List.drop_of_length_le (Nat.le_refl _), List.drop_of_length_le (by omega), List.take_nil]
end Lv

set_option Elab.async false
set_option linter.all false
set_option maxRecDepth 100000
set_option maxHeartbeats 2000000
namespace Lv
open PySem PySem.Spec PyProof.Rows L2 SX
/-! more of heaps -/
theorem But.updN {h D : Addr} {H1 H : Hp} {o : HO} (e : But h H1 H) (n : H1 D = none) : But h H1 (L2.upd H D o) := fun b u nb q => by
  rw [upd_ne (ne_of_none q n)]
  exact e b u nb q
theorem But.at {h : Addr} {H1 H : Hp} {b : Addr} {o : HO} (e : But h H1 H) (q : H1 b = some o) (n : b ≠ h) : H b = some o := e b o n q
theorem _root_.L2.Same.updN {D : Addr} {H1 H : Hp} {o : HO} (e : Same H1 H) (n : H1 D = none) : Same H1 (L2.upd H D o) := fun b u q => by
  rw [upd_ne (ne_of_none q n)]
  exact e b u q
theorem Hd.updN {h D : Addr} {H : Hp} {o : HO} (x : Hd H h) (n : h ≠ D) : Hd (L2.upd H D o) h := by
  obtain ⟨d, m, a, b⟩ := x
  exact ⟨d, m, by rw [upd_ne n]; exact a, b⟩
theorem Hd.ne {h D : Addr} {H : Hp} (x : Hd H h) (n : H D = none) : h ≠ D := by
  obtain ⟨d, m, a, b⟩ := x
  exact ne_of_none a n
theorem Hd.is {h : Addr} {H : Hp} (x : Hd H h) : ∃ o, H h = some o := by
  obtain ⟨d, m, a, b⟩ := x
  exact ⟨_, a⟩
/-! picks -/
theorem atI_lt {α : Type} {xs : List α} {r : Int} (h0 : 0 ≤ r) (h1 : r < xs.length) : ∃ v, v ∈ xs ∧ atI xs r = some v := by
  have hl : r.toNat < xs.length := by omega
  refine ⟨xs[r.toNat], List.getElem_mem hl, ?_⟩
  have e := atI_nat (xs := xs) (j := r.toNat) (v := xs[r.toNat]) (List.getElem?_eq_getElem hl)
  rw [show ((r.toNat : Nat) : Int) = r by omega] at e
  exact e
theorem i_pick {K : PySem.W.Frag} {p : Addr} {xs : List V} {r : Int} {H : Hp} {Q : VK} (hp : SqL K H p xs) (h0 : 0 ≤ r) (h1 : r < xs.length) (h : ∀ v, v ∈ xs → Q v H) : rIxL K (.ref p) (.int r) H Q := by
  obtain ⟨v, hv, e⟩ := atI_lt h0 h1
  exact i_ixL hp e (h v hv)
theorem i_pickI {K : PySem.W.Frag} {p : Addr} {ns : List Int} {r : Int} {H : Hp} {Q : VK} (lo hi : Int) (hp : SqL K H p (ns.map V.int)) (h0 : 0 ≤ r) (h1 : r < ns.length) (hall : ∀ m ∈ ns, lo ≤ m ∧ m ≤ hi) (h : ∀ m, lo ≤ m → m ≤ hi → Q (.int m) H) : rIxL K (.ref p) (.int r) H Q := by
  refine i_pick hp h0 (by rw [List.length_map]; exact h1) fun v hv => ?_
  obtain ⟨m, hm, rfl⟩ := List.mem_map.mp hv
  exact h m (hall m hm).1 (hall m hm).2
/-- one sign -/
abbrev vc (c : Nat) : V := .str (S [c])
/-- all signs are small letters -/
def Low (l : List Nat) : Prop := ∀ c ∈ l, 97 ≤ c ∧ c ≤ 122
theorem i_pickC {K : PySem.W.Frag} {p : Addr} {cs : List Nat} {r : Int} {H : Hp} {Q : VK} (hp : SqL K H p (cs.map vc)) (h0 : 0 ≤ r) (h1 : r < cs.length) (h : ∀ c, c ∈ cs → Q (.str (S [c])) H) : rIxL K (.ref p) (.int r) H Q := by
  refine i_pick hp h0 (by rw [List.length_map]; exact h1) fun v hv => ?_
  obtain ⟨m, hm, rfl⟩ := List.mem_map.mp hv
  exact h m hm
theorem i_pickS {l : List Nat} {r : Int} {H : Hp} {Q : VK} (hz : l.length ≤ 1000000) (h0 : 0 ≤ r) (h1 : r < l.length) (h : ∀ c, c ∈ l → Q (.str (S [c])) H) : rIxT1 (.str (S l)) (.int r) H Q := by
  obtain ⟨v, hv, e⟩ := atI_lt h0 h1
  exact i_ixS (le_line hz) e (h v hv)
abbrev abc : List Nat := [97, 98, 99, 100, 101, 102, 103, 104, 105, 106, 107, 108, 109, 110, 111, 112, 113, 114, 115, 116, 117, 118, 119, 120, 121, 122]
theorem low_abc : Low abc := by unfold Low; decide
theorem Low.app {a b : List Nat} (h1 : Low a) (h2 : Low b) : Low (a ++ b) := fun c hc => by
  rcases List.mem_append.mp hc with h | h
  · exact h1 c h
  · exact h2 c h
theorem Low.one {c : Nat} (h : 97 ≤ c ∧ c ≤ 122) : Low [c] := fun d hd => by
  rw [List.mem_singleton.mp hd]; exact h
theorem Low.sub {a b : List Nat} (h1 : Low a) (h2 : ∀ c ∈ b, c ∈ a) : Low b := fun c hc => h1 c (h2 c hc)
theorem Low.nil : Low [] := fun c hc => nomatch hc
theorem Low.rev {a : List Nat} (h1 : Low a) : Low a.reverse := h1.sub fun c hc => List.mem_reverse.mp hc
theorem Low.cut {a : List Nat} {lo hi : Option Int} (h1 : Low a) : Low (cutL a lo hi) := h1.sub fun c hc => List.mem_of_mem_drop (List.mem_of_mem_take hc)
/-! comprehensions -/
/-- the list grown so far at D is acc, and Iv holds of it -/
def Pa (D : Addr) (Iv : Nat → List V → Hp → Prop) (i : Nat) (H : Hp) : Prop := ∃ acc : List V, acc.length ≤ i ∧ H D = some (.lst acc) ∧ Iv i acc H
theorem lc_acc {J : It} {n : Nat} {G : Hp → Prop} {Y : Nat → Hp → V → Hp → Prop} (w : Walk J n G Y) {g : TG} {tt : TT} {te : TE} {vs : List Nat} {σ : L2.St} {H1 : Hp} {D : Addr} {Qd : Hp → Prop} (Iv : Nat → List V → Hp → Prop)
    (h0 : Iv 0 [] (upd H1 D (.lst []))) (hG : ∀ i acc H, i ≤ n → H D = some (.lst acc) → Iv i acc H → G H)
    (hs : ∀ i acc x H H', i < n → acc.length ≤ i → H D = some (.lst acc) → Iv i acc H → Y i H x H' → g x (wipe σ vs) H' fun σ2 H2 => wipe σ2 vs = wipe σ vs ∧ tt σ2 H2 fun b H3 =>
      if b = true then te σ2 H3 fun y H4 => ∃ acc, H4 D = some (.lst acc) ∧ acc.length < sizeLine ∧ Pa D Iv (i + 1) (upd H4 D (.lst (acc ++ [y]))) else Pa D Iv (i + 1) H3)
    (hd : ∀ acc H, acc.length ≤ n → H D = some (.lst acc) → Iv n acc H → Qd H) :
    ∃ W : Nat → Nat → Hp → Prop, (∃ m, W 0 m (upd H1 D (.lst []))) ∧ ∀ i m H, W i m H →
      (J.stop i H ∧ Qd H) ∨ (J.go i H ∧ ∃ Nx : Hp → Prop, (∀ H', Nx H' → ∃ m', m' < m ∧ W (i + 1) m' H') ∧ ∀ x H', J.yld i H x H' → g x (wipe σ vs) H' fun σ2 H2 => wipe σ2 vs = wipe σ vs ∧ tt σ2 H2 fun b H3 =>
        if b = true then te σ2 H3 fun y H4 => ∃ acc, H4 D = some (.lst acc) ∧ acc.length < sizeLine ∧ Nx (upd H4 D (.lst (acc ++ [y]))) else Nx H3) := by
  refine lc_it w (Pa D Iv) ⟨[], Nat.le_refl _, upd_same, h0⟩ (fun i H hi ⟨acc, _, h1, h2⟩ => hG i acc H hi h1 h2) ?_ ?_
  · rintro i x H H' hi ⟨acc, hl, h1, h2⟩ y
    exact hs i acc x H H' hi hl h1 h2 y
  · rintro H ⟨acc, hl, h1, h2⟩
    exact hd acc H hl h1 h2
theorem lc_put {D : Addr} {Iv : Nat → List V → Hp → Prop} {i : Nat} {acc : List V} {y : V} {H4 : Hp} (e : H4 D = some (.lst acc)) (hl : acc.length ≤ i) (hi : i ≤ 1000000) (h : Iv (i + 1) (acc ++ [y]) (upd H4 D (.lst (acc ++ [y])))) :
    ∃ acc, H4 D = some (.lst acc) ∧ acc.length < sizeLine ∧ Pa D Iv (i + 1) (upd H4 D (.lst (acc ++ [y]))) :=
  ⟨acc, e, lt_line (by omega), acc ++ [y], by simp; omega, upd_same, h⟩
theorem lc_skip {D : Addr} {Iv : Nat → List V → Hp → Prop} {i : Nat} {acc : List V} {H3 : Hp} (e : H3 D = some (.lst acc)) (hl : acc.length ≤ i) (h : Iv (i + 1) acc H3) : Pa D Iv (i + 1) H3 := ⟨acc, by omega, e, h⟩
/-- [e for x in range(n)] -/
theorem i_lcR {n : Int} {g : TG} {tt : TT} {te : TE} {vs : List Nat} {σ : L2.St} {H : Hp} {Q : VK} (h0 : 0 ≤ n) (h1 : n ≤ 1000000) (h : ∀ D, H D = none → ∃ W : Nat → Nat → Hp → Prop, (∃ m, W 0 m (upd H D (.lst []))) ∧ ∀ i m H, W i m H →
      ((Itr 0 n.toNat).stop i H ∧ Q (.ref D) H) ∨ ((Itr 0 n.toNat).go i H ∧ ∃ Nx : Hp → Prop, (∀ H', Nx H' → ∃ m', m' < m ∧ W (i + 1) m' H') ∧ ∀ x H', (Itr 0 n.toNat).yld i H x H' → g x (wipe σ vs) H' fun σ2 H2 => wipe σ2 vs = wipe σ vs ∧ tt σ2 H2 fun b H3 =>
        if b = true then te σ2 H3 fun y H4 => ∃ acc, H4 D = some (.lst acc) ∧ acc.length < sizeLine ∧ Nx (upd H4 D (.lst (acc ++ [y]))) else Nx H3)) :
    ∃ j : Int, [V.int n] = [.int j] ∧ -(2 ^ 62) ≤ j ∧ j < 2 ^ 62 ∧ ∀ D, H D = none → ∃ W : Nat → Nat → Hp → Prop, (∃ m, W 0 m (upd H D (.lst []))) ∧ ∀ i m H, W i m H →
      ((Itr 0 j.toNat).stop i H ∧ Q (.ref D) H) ∨ ((Itr 0 j.toNat).go i H ∧ ∃ Nx : Hp → Prop, (∀ H', Nx H' → ∃ m', m' < m ∧ W (i + 1) m' H') ∧ ∀ x H', (Itr 0 j.toNat).yld i H x H' → g x (wipe σ vs) H' fun σ2 H2 => wipe σ2 vs = wipe σ vs ∧ tt σ2 H2 fun b H3 =>
        if b = true then te σ2 H3 fun y H4 => ∃ acc, H4 D = some (.lst acc) ∧ acc.length < sizeLine ∧ Nx (upd H4 D (.lst (acc ++ [y]))) else Nx H3) := ⟨n, rfl, by omega, by omega, h⟩
theorem i_tYes {σ : L2.St} {H : Hp} {QB : Bool → Hp → Prop} (h : QB true H) : tYes σ H QB := h
theorem i_lc {wi : TI} {g : TG} {tt : TT} {te : TE} {vs : List Nat} {σ : L2.St} {H : Hp} {Q : VK} (h : wi σ H fun J H1 => ∀ D, H1 D = none → ∃ W : Nat → Nat → Hp → Prop, (∃ m, W 0 m (upd H1 D (.lst []))) ∧ ∀ i m H, W i m H →
  (J.stop i H ∧ Q (.ref D) H) ∨ (J.go i H ∧ ∃ Nx : Hp → Prop, (∀ H', Nx H' → ∃ m', m' < m ∧ W (i + 1) m' H') ∧ ∀ x H', J.yld i H x H' → g x (wipe σ vs) H' fun σ2 H2 => wipe σ2 vs = wipe σ vs ∧ tt σ2 H2 fun b H3 =>
    if b = true then te σ2 H3 fun y H4 => ∃ acc, H4 D = some (.lst acc) ∧ acc.length < sizeLine ∧ Nx (upd H4 D (.lst (acc ++ [y]))) else Nx H3)) : tLc wi g tt te vs σ H Q := h
/-- [c for c in text] -/
theorem i_str {te : TE} {σ : L2.St} {H : Hp} {R : It → Hp → Prop} (h : te σ H fun v H1 => ∃ x, v = .str x ∧ R (Its x) H1) : iStr te σ H R := h
theorem i_strx {l : List Nat} {H : Hp} {R : It → Hp → Prop} (h : R (Its (S l)) H) : ∃ x, V.str (S l) = .str x ∧ R (Its x) H := ⟨_, rfl, h⟩
theorem walk_S {l : List Nat} : Walk (Its (S l)) l.length (fun _ => True) (fun i H v H' => H' = H ∧ ∃ c, l[i]? = some c ∧ v = .str (S [c])) := by
  have := walk_str (z := S l)
  have e : (S l).cps.size = l.length := by simp
  rw [e] at this
  refine this.mono (fun _ h => h) fun i H x H' _ _ y => ?_
  obtain ⟨y1, c, y2, y3⟩ := y
  exact ⟨y1, c, by simpa using y2, y3⟩
theorem i_list {K : PySem.W.Frag} {te : TE} {σ : L2.St} {H : Hp} {R : It → Hp → Prop} (h : te σ H fun x H1 => ∃ a, x = .ref a ∧ (∃ xs, SqL K H1 a xs) ∧ R (Itl K a) H1) : iList K te σ H R := h
theorem i_listx {K : PySem.W.Frag} {a : Addr} {xs : List V} {H : Hp} {R : It → Hp → Prop} (h1 : SqL K H a xs) (h : R (Itl K a) H) : ∃ b, V.ref a = .ref b ∧ (∃ xs, SqL K H b xs) ∧ R (Itl K b) H := ⟨a, rfl, ⟨xs, h1⟩, h⟩
theorem i_for {wi : TI} {g : TG} {tb : TS} {D : Ends} {σ : L2.St} {H : Hp} (h : wi σ H fun J H1 => ∃ W : Nat → Nat → L2.St → Hp → Prop, (∃ m, W 0 m σ H1) ∧ ∀ i m σ H, W i m σ H →
  (J.stop i H ∧ D.nx σ H) ∨ (J.go i H ∧ ∃ N : L2.St → Hp → Prop, (∀ σ' H', N σ' H' → ∃ m', m' < m ∧ W (i + 1) m' σ' H') ∧ ∀ x H', J.yld i H x H' → g x σ H' fun σ2 H2 => tb { D with nx := N, ct := N, bk := D.nx } σ2 H2)) : tFor wi g tb D σ H := h
theorem joinL_nil : ∀ ys : List (List Nat), TL.joinL [] ys = ys.flatten
  | [] => rfl
  | [p] => by simp [TL.joinL]
  | p :: q :: r => by
    have := joinL_nil (q :: r)
    simp only [TL.joinL, this, List.nil_append]
    simp
/-- a test by what it tells: M -/
theorem if_cut {tt : TT} {t u : TS} {D : Ends} {σ : L2.St} {H : Hp} (M : Bool → Hp → Prop) (h : ∀ Q' : Bool → Hp → Prop, (∀ b H1, M b H1 → Q' b H1) → tt σ H Q') (h1 : ∀ H1, M true H1 → t D σ H1) (h2 : ∀ H1, M false H1 → u D σ H1) : tIfS tt t u D σ H := by
  refine h _ fun b H1 m => ?_
  cases b with
  | true => exact iteT (h1 H1 m)
  | false => exact iteF (h2 H1 m)
theorem iteNF {A B : Prop} (h : A) : if (!false) = true then A else B := h
theorem iteNT {A B : Prop} (h : B) : if (!true) = true then A else B := h
theorem small_none {h : Addr} {H H1 : Hp} {D : Addr} (b : But h H H1) (n : D ≠ h) (e : H1 D = none) : H D = none := by
  cases q : H D with
  | none => rfl
  | some o => rw [b D o n q] at e; cases e
end Lv

set_option Elab.async false
set_option linter.all false
set_option maxRecDepth 100000
set_option maxHeartbeats 2000000
namespace Lv
open PySem PySem.Spec PyProof.Rows L2 SX
/-! loops: an invariant, its start, (what stands still,) a turn, the end -/
def ForJ (J : It) (g : TG) (tb : TS) (D : Ends) (σ : L2.St) (H : Hp) : Prop := ∃ W : Nat → Nat → L2.St → Hp → Prop, (∃ m, W 0 m σ H) ∧ ∀ i m σ H, W i m σ H →
  (J.stop i H ∧ D.nx σ H) ∨ (J.go i H ∧ ∃ N : L2.St → Hp → Prop, (∀ σ' H', N σ' H' → ∃ m', m' < m ∧ W (i + 1) m' σ' H') ∧ ∀ x H', J.yld i H x H' → g x σ H' fun σ2 H2 => tb { D with nx := N, ct := N, bk := D.nx } σ2 H2)
def LcJ (J : It) (g : TG) (tt : TT) (te : TE) (vs : List Nat) (σ : L2.St) (H1 : Hp) (Q : VK) : Prop := ∀ D, H1 D = none → ∃ W : Nat → Nat → Hp → Prop, (∃ m, W 0 m (upd H1 D (.lst []))) ∧ ∀ i m H, W i m H →
  (J.stop i H ∧ Q (.ref D) H) ∨ (J.go i H ∧ ∃ Nx : Hp → Prop, (∀ H', Nx H' → ∃ m', m' < m ∧ W (i + 1) m' H') ∧ ∀ x H', J.yld i H x H' → g x (wipe σ vs) H' fun σ2 H2 => wipe σ2 vs = wipe σ vs ∧ tt σ2 H2 fun b H3 =>
    if b = true then te σ2 H3 fun y H4 => ∃ acc, H4 D = some (.lst acc) ∧ acc.length < sizeLine ∧ Nx (upd H4 D (.lst (acc ++ [y]))) else Nx H3)
def ForN (n : Nat) (Y : Nat → Hp → V → Hp → Prop) (g : TG) (tb : TS) (D : Ends) (σ : L2.St) (H : Hp) : Prop := ∃ Pv : Nat → L2.St → Hp → Prop, Pv 0 σ H ∧
  (∀ i x σ H H', i < n → Pv i σ H → Y i H x H' → g x σ H' fun σ2 H2 => tb { D with nx := Pv (i + 1), ct := Pv (i + 1), bk := D.nx } σ2 H2) ∧ ∀ σ H, Pv n σ H → D.nx σ H
def ForG (G : Hp → Prop) (n : Nat) (Y : Nat → Hp → V → Hp → Prop) (g : TG) (tb : TS) (D : Ends) (σ : L2.St) (H : Hp) : Prop := ∃ Pv : Nat → L2.St → Hp → Prop, Pv 0 σ H ∧ (∀ i σ H, i ≤ n → Pv i σ H → G H) ∧
  (∀ i x σ H H', i < n → Pv i σ H → Y i H x H' → g x σ H' fun σ2 H2 => tb { D with nx := Pv (i + 1), ct := Pv (i + 1), bk := D.nx } σ2 H2) ∧ ∀ σ H, Pv n σ H → D.nx σ H
def LcN (n : Nat) (Y : Nat → Hp → V → Hp → Prop) (g : TG) (tt : TT) (te : TE) (vs : List Nat) (σ : L2.St) (H1 : Hp) (Q : VK) : Prop := ∀ D, H1 D = none → ∃ Iv : Nat → List V → Hp → Prop, Iv 0 [] (upd H1 D (.lst [])) ∧
  (∀ i acc x H H', i < n → acc.length ≤ i → H D = some (.lst acc) → Iv i acc H → Y i H x H' → g x (wipe σ vs) H' fun σ2 H2 => wipe σ2 vs = wipe σ vs ∧ tt σ2 H2 fun b H3 =>
      if b = true then te σ2 H3 fun y H4 => ∃ acc, H4 D = some (.lst acc) ∧ acc.length < sizeLine ∧ Pa D Iv (i + 1) (upd H4 D (.lst (acc ++ [y]))) else Pa D Iv (i + 1) H3) ∧
  ∀ acc H, acc.length ≤ n → H D = some (.lst acc) → Iv n acc H → Q (.ref D) H
def LcG (G : Hp → Prop) (n : Nat) (Y : Nat → Hp → V → Hp → Prop) (g : TG) (tt : TT) (te : TE) (vs : List Nat) (σ : L2.St) (H1 : Hp) (Q : VK) : Prop := ∀ D, H1 D = none → ∃ Iv : Nat → List V → Hp → Prop, Iv 0 [] (upd H1 D (.lst [])) ∧ (∀ i acc H, i ≤ n → H D = some (.lst acc) → Iv i acc H → G H) ∧
  (∀ i acc x H H', i < n → acc.length ≤ i → H D = some (.lst acc) → Iv i acc H → Y i H x H' → g x (wipe σ vs) H' fun σ2 H2 => wipe σ2 vs = wipe σ vs ∧ tt σ2 H2 fun b H3 =>
      if b = true then te σ2 H3 fun y H4 => ∃ acc, H4 D = some (.lst acc) ∧ acc.length < sizeLine ∧ Pa D Iv (i + 1) (upd H4 D (.lst (acc ++ [y]))) else Pa D Iv (i + 1) H3) ∧
  ∀ acc H, acc.length ≤ n → H D = some (.lst acc) → Iv n acc H → Q (.ref D) H
/-! what is walked -/
abbrev YR (lo : Int) : Nat → Hp → V → Hp → Prop := fun i H x H' => H' = H ∧ x = .int (lo + (i : Int))
abbrev YC (lo c : Int) : Nat → Hp → V → Hp → Prop := fun i H x H' => H' = H ∧ x = .int (lo + (i : Int) * c)
abbrev YS (l : List Nat) : Nat → Hp → V → Hp → Prop := fun i H v H' => H' = H ∧ ∃ c, l[i]? = some c ∧ v = .str (S [c])
abbrev YL (xs : List V) : Nat → Hp → V → Hp → Prop := fun i H v H' => H' = H ∧ xs[i]? = some v
/-- a new tuple -/
abbrev YT (Y : Nat → List V → Prop) : Nat → Hp → V → Hp → Prop := fun i H v H' => ∃ T xs, v = .ref T ∧ H T = none ∧ H' = upd H T (.tup xs) ∧ Y i xs
/-- the signs of a text with their places -/
abbrev YE (l : List Nat) : Nat → List V → Prop := fun i xs => ∃ c, l[i]? = some c ∧ xs = [.int (i : Nat), .str (S [c])]
section
variable {K : PySem.W.Frag} {g : TG} {tb : TS} {D : Ends} {σ : L2.St} {H H1 : Hp} {te : TE} {tt : TT} {vs : List Nat} {Q : VK} {n : Nat} {Y : Nat → Hp → V → Hp → Prop} {J : It} {G : Hp → Prop} {wi : TI} {R : It → Hp → Prop} {ta : TA}
theorem fo (h : ∀ R' : It → Hp → Prop, R' J H1 → wi σ H R') (k : ForJ J g tb D σ H1) : tFor wi g tb D σ H := h _ k
theorem foM (M : It → Hp → Prop) (h : ∀ R' : It → Hp → Prop, (∀ J H1, M J H1 → R' J H1) → wi σ H R') (k : ∀ J H1, M J H1 → ForJ J g tb D σ H1) : tFor wi g tb D σ H := h _ k
theorem lc (h : ∀ R' : It → Hp → Prop, R' J H1 → wi σ H R') (k : LcJ J g tt te vs σ H1 Q) : tLc wi g tt te vs σ H Q := h _ k
theorem lcM (M : It → Hp → Prop) (h : ∀ R' : It → Hp → Prop, (∀ J H1, M J H1 → R' J H1) → wi σ H R') (k : ∀ J H1, M J H1 → LcJ J g tt te vs σ H1 Q) : tLc wi g tt te vs σ H Q := h _ k
theorem forN_ok (w : Walk J n (fun _ => True) Y) (h : ForN n Y g tb D σ H) : ForJ J g tb D σ H := by
  obtain ⟨Pv, h0, hs, hd⟩ := h
  exact for_it w Pv h0 (fun _ _ _ _ _ => trivial) hs hd
theorem forG_ok (w : Walk J n G Y) (h : ForG G n Y g tb D σ H) : ForJ J g tb D σ H := by
  obtain ⟨Pv, h0, hG, hs, hd⟩ := h
  exact for_it w Pv h0 hG hs hd
theorem lcN_ok (w : Walk J n (fun _ => True) Y) (h : LcN n Y g tt te vs σ H Q) : LcJ J g tt te vs σ H Q := fun D nD => by
  obtain ⟨Iv, h0, hs, hd⟩ := h D nD
  exact lc_acc w Iv h0 (fun _ _ _ _ _ _ => trivial) hs hd
theorem lcG_ok (w : Walk J n G Y) (h : LcG G n Y g tt te vs σ H Q) : LcJ J g tt te vs σ H Q := fun D nD => by
  obtain ⟨Iv, h0, hG, hs, hd⟩ := h D nD
  exact lc_acc w Iv h0 hG hs hd
theorem f_r {lo : Int} (h : ForN n (YR lo) g tb D σ H) : ForJ (Itr lo n) g tb D σ H := forN_ok walk_range h
theorem f_c {lo c : Int} (h : ForN n (YC lo c) g tb D σ H) : ForJ (Itc lo c n) g tb D σ H := forN_ok walk_rangeC h
theorem f_s {l : List Nat} (h : ForN l.length (YS l) g tb D σ H) : ForJ (Its (S l)) g tb D σ H := forN_ok walk_S h
theorem f_l {a : Addr} {xs : List V} (h : ForG (fun H => SqL K H a xs) xs.length (YL xs) g tb D σ H) : ForJ (Itl K a) g tb D σ H := forG_ok walk_list h
theorem f_u {a : Addr} {xs : List V} (h : ForG (fun H => SqT K H a xs) xs.length (YL xs) g tb D σ H) : ForJ (Itt K a) g tb D σ H := forG_ok walk_tup h
theorem f_t {Y : Nat → List V → Prop} (h : ForN n (YT Y) g tb D σ H) : ForJ (ItT n Y) g tb D σ H := forN_ok walk_enumS h
theorem f_e {a : Addr} {xs : List V} (h : ForG (fun H => SqL K H a xs) xs.length (YT fun i zs => ∃ x, xs[i]? = some x ∧ zs = [.int (i : Nat), x]) g tb D σ H) : ForJ (Ite K a) g tb D σ H := by
  refine forG_ok (walk_enum.mono (fun _ h => h) fun i H x H' hi _ y => ?_) h
  obtain ⟨T, x1, x2, rfl, h2, rfl, h4, h5⟩ := y
  cases h4
  exact ⟨T, _, rfl, h2, rfl, x2, h5, rfl⟩
theorem c_r {lo : Int} (h : LcN n (YR lo) g tt te vs σ H Q) : LcJ (Itr lo n) g tt te vs σ H Q := lcN_ok walk_range h
theorem c_c {lo c : Int} (h : LcN n (YC lo c) g tt te vs σ H Q) : LcJ (Itc lo c n) g tt te vs σ H Q := lcN_ok walk_rangeC h
theorem c_s {l : List Nat} (h : LcN l.length (YS l) g tt te vs σ H Q) : LcJ (Its (S l)) g tt te vs σ H Q := lcN_ok walk_S h
theorem c_l {a : Addr} {xs : List V} (h : LcG (fun H => SqL K H a xs) xs.length (YL xs) g tt te vs σ H Q) : LcJ (Itl K a) g tt te vs σ H Q := lcG_ok walk_list h
theorem c_u {a : Addr} {xs : List V} (h : LcG (fun H => SqT K H a xs) xs.length (YL xs) g tt te vs σ H Q) : LcJ (Itt K a) g tt te vs σ H Q := lcG_ok walk_tup h
theorem c_t {Y : Nat → List V → Prop} (h : LcN n (YT Y) g tt te vs σ H Q) : LcJ (ItT n Y) g tt te vs σ H Q := lcN_ok walk_enumS h
theorem c_e {a : Addr} {xs : List V} (h : LcG (fun H => SqL K H a xs) xs.length (YT fun i zs => ∃ x, xs[i]? = some x ∧ zs = [.int (i : Nat), x]) g tt te vs σ H Q) : LcJ (Ite K a) g tt te vs σ H Q := by
  refine lcG_ok (walk_enum.mono (fun _ h => h) fun i H x H' hi _ y => ?_) h
  obtain ⟨T, x1, x2, rfl, h2, rfl, h4, h5⟩ := y
  cases h4
  exact ⟨T, _, rfl, h2, rfl, x2, h5, rfl⟩
/-! the steps to what is walked -/
theorem i_rng2 (h : ta σ H fun vs H1 => ∃ i j : Int, vs = [.int i, .int j] ∧ (-(2 ^ 62) ≤ i ∧ i < 2 ^ 62 ∧ -(2 ^ 62) ≤ j ∧ j < 2 ^ 62) ∧ R (Itr i (j - i).toNat) H1) : iRng2 ta σ H R := h
theorem i_rng3 (h : ta σ H fun vs H1 => ∃ (i j c : Int) (n : Nat), vs = [.int i, .int j, .int c] ∧ RgC i j c n ∧ R (Itc i c n) H1) : iRng3 ta σ H R := h
theorem i_enumS (h : ta σ H fun vs H1 => ∃ l : List Nat, vs = [.str (S l)] ∧ R (ItT l.length (YE l)) H1) : iEnumS ta σ H R := h
theorem i_enumL (h : ta σ H fun vs H1 => ∃ a xs, vs = [.ref a] ∧ SqL K H1 a xs ∧ R (Ite K a) H1) : iEnum K ta σ H R := h
theorem i_tupI (h : te σ H fun x H1 => ∃ a, x = .ref a ∧ (∃ xs, SqT K H1 a xs) ∧ R (Itt K a) H1) : iTup K te σ H R := h
theorem x_r1 {z : Int} (h0 : -(2 ^ 62) ≤ z) (h1 : z < 2 ^ 62) (h : R (Itr 0 z.toNat) H) : ∃ j : Int, [V.int z] = [.int j] ∧ -(2 ^ 62) ≤ j ∧ j < 2 ^ 62 ∧ R (Itr 0 j.toNat) H := ⟨z, rfl, h0, h1, h⟩
theorem x_r2 {x y : Int} (hb : -(2 ^ 62) ≤ x ∧ x < 2 ^ 62 ∧ -(2 ^ 62) ≤ y ∧ y < 2 ^ 62) (h : R (Itr x (y - x).toNat) H) : ∃ i j : Int, [V.int x, V.int y] = [.int i, .int j] ∧ (-(2 ^ 62) ≤ i ∧ i < 2 ^ 62 ∧ -(2 ^ 62) ≤ j ∧ j < 2 ^ 62) ∧ R (Itr i (j - i).toNat) H := ⟨x, y, rfl, hb, h⟩
theorem x_dn {x y : Int} (hb : -(2 ^ 62) ≤ x ∧ x < 2 ^ 62 ∧ -(2 ^ 62) ≤ y ∧ y < 2 ^ 62) (h : R (Itc x (-1) (x - y).toNat) H) : ∃ (i j c : Int) (n : Nat), [V.int x, V.int y, V.int (-1)] = [.int i, .int j, .int c] ∧ RgC i j c n ∧ R (Itc i c n) H := ⟨x, y, -1, _, rfl, RgC.neg hb.1 hb.2.1 hb.2.2.1 hb.2.2.2, h⟩
theorem x_str {l : List Nat} (h : R (Its (S l)) H) : ∃ x, V.str (S l) = .str x ∧ R (Its x) H := ⟨_, rfl, h⟩
theorem x_list {a : Addr} {xs : List V} (hL : SqL K H a xs) (h : R (Itl K a) H) : ∃ b, V.ref a = .ref b ∧ (∃ xs, SqL K H b xs) ∧ R (Itl K b) H := ⟨a, rfl, ⟨xs, hL⟩, h⟩
theorem x_tup {a : Addr} {xs : List V} (hL : SqT K H a xs) (h : R (Itt K a) H) : ∃ b, V.ref a = .ref b ∧ (∃ xs, SqT K H b xs) ∧ R (Itt K b) H := ⟨a, rfl, ⟨xs, hL⟩, h⟩
theorem x_enumS {l : List Nat} (h : R (ItT l.length (YE l)) H) : ∃ l' : List Nat, [V.str (S l)] = [.str (S l')] ∧ R (ItT l'.length (YE l')) H := ⟨l, rfl, h⟩
theorem x_enumL {a : Addr} {xs : List V} (hL : SqL K H a xs) (h : R (Ite K a) H) : ∃ b xs, [V.ref a] = [.ref b] ∧ SqL K H b xs ∧ R (Ite K b) H := ⟨a, xs, rfl, hL, h⟩
end
theorem i_augS {to ti te : TE} {tget : V → V → Hp → VK → Prop} {tip : TIp} {tset : TSet} {D : Ends} {σ : L2.St} {H : Hp} (h : to σ H fun o H1 => ti σ H1 fun i H2 => tget o i H2 fun x H3 => te σ H3 fun y H4 => tip x y H4 fun z H5 => tset o i z H5 fun H6 => D.nx σ H6) : tAugS to ti te tget tip tset D σ H := h
theorem x_nx {t b c : L2.St → Hp → Prop} {r : VK} {σ : L2.St} {H : Hp} (h : t σ H) : ({ nx := t, rt := r, bk := b, ct := c } : Ends).nx σ H := h
theorem ix_nat {n k : Nat} (h : k < n) : ixN n (k : Int) = some k := by
  unfold ixN
  rw [if_pos (by omega), if_pos (by omega)]
  rfl
end Lv

set_option Elab.async false
set_option linter.all false
set_option maxRecDepth 100000
set_option maxHeartbeats 2000000
namespace Lv
open PySem PySem.Spec PyProof.Rows L2 SX
theorem Hd.neC {H : Hp} {h p : Addr} {cs : List Nat} (hd : Hd H h) (hp : H p = some (.lst (cs.map vc))) (c1 : 1 ≤ cs.length) : p ≠ h := by
  obtain ⟨d, m, hh, _⟩ := hd
  refine ne_of hp hh fun z => ?_
  cases cs with
  | nil => simp at c1
  | cons c r =>
    injection z with z
    injection z with z1 z2
    cases z1
theorem sum_ones {α : Type} (l : List α) (f : α → List Nat) (hf : ∀ a, (f a).length = 1) : ((l.map f).map List.length).sum = l.length := by
  induction l with
  | nil => rfl
  | cons a l ih => rw [List.map_cons, List.map_cons, List.sum_cons, ih, hf, List.length_cons, Nat.add_comm]
theorem flat_ones (l : List Nat) : (l.map fun c => [c]).flatten = l := by
  induction l with
  | nil => rfl
  | cons a l ih => rw [List.map_cons, List.flatten_cons, ih]; rfl
/-- ''.join of single signs -/
theorem i_joinC {K : PySem.W.Frag} {p : Addr} {l : List Nat} {H : Hp} {Q : VK} (h1 : SqL K H p (l.map vc)) (hz : l.length ≤ 1000000) (h : Q (.str (S l)) H) : rJoin K (.str (S [])) [.ref p] H Q := by
  refine i_join (ys := l.map fun c => [c]) (by rw [List.map_map]; exact h1) ?_ ?_
  · rw [sum_ones l _ fun _ => rfl]; simp; omega
  · rw [joinL_nil]
    rw [flat_ones]
    exact h

theorem i_pickN {K : PySem.W.Frag} {p : Addr} {ns : List Int} {r : Int} {H : Hp} {Q : VK} (hp : SqL K H p (ns.map V.int)) (h0 : 0 ≤ r) (h1 : r < ns.length) (h : ∀ m, m ∈ ns → Q (.int m) H) : rIxL K (.ref p) (.int r) H Q := by
  refine i_pick hp h0 (by rw [List.length_map]; exact h1) fun v hv => ?_
  obtain ⟨m, hm, rfl⟩ := List.mem_map.mp hv
  exact h m hm
theorem low_az : Low [97, 122] := (Low.one (by decide : 97 ≤ 97 ∧ 97 ≤ 122)).app (Low.one (by decide : 97 ≤ 122 ∧ 122 ≤ 122))
theorem i_mulB {l : List Nat} {b : Bool} {H : Hp} {Q : VK} (hz : l.length ≤ 1000000) (h : Q (.str (S (if b = true then l else []))) H) : rMulS (.str (S l)) (.int (if b = true then 1 else 0)) H Q := by
  cases b
  · exact i_mulS (by decide) (by decide) (le_line (by simp)) h
  · refine i_mulS (by decide) (by decide) (le_line (by simp; omega)) ?_
    show Q (.str (S (List.replicate (Int.toNat 1) l).flatten)) H
    have e : (List.replicate (Int.toNat 1) l).flatten = l := by simp
    rw [e]
    exact h
theorem cutL_mid {α : Type} (l : List α) (a b : Nat) : cutL l (some (a : Int)) (some (((a : Nat) : Int) + (b : Nat))) = (l.drop a).take b := by
  unfold cutL
  rw [show HT.sIx l.length 0 (some (a : Int)) = min a l.length from HT.sIx_nat l.length 0 a, show ((a : Nat) : Int) + (b : Nat) = ((a + b : Nat) : Int) from rfl, show HT.sIx l.length l.length (some ((a + b : Nat) : Int)) = min (a + b) l.length from HT.sIx_nat l.length _ (a + b)]
  by_cases z : a ≤ l.length
  · rw [Nat.min_eq_left z]
    apply List.take_eq_take_iff.mpr
    rw [List.length_drop]
    omega
  · rw [List.drop_of_length_le (by omega), List.drop_of_length_le (by omega)]
    simp
theorem i_chain {r r' : R2} {ta tb tc : TE} {σ : L2.St} {H : Hp} {Q : VK} (h : ta σ H fun x H1 => tb σ H1 fun y H2 => r x y H2 fun z H3 => ∃ k, z = .bl k ∧ (if k = true then tc σ H3 fun w' H4 => r' y w' H4 Q else Q (.bl false) H3)) : tChain r r' ta tb tc σ H Q := h
theorem lt_one {a b : Nat} : ([a] < [b]) ↔ a < b := by
  constructor
  · intro h
    cases h with
    | rel h => exact h
    | cons h => cases h
  · exact fun h => .rel h
theorem iteNNF {a b : Prop} (h : b) : if (!!false) = true then a else b := h
theorem iteNNT {a b : Prop} (h : a) : if (!!true) = true then a else b := h
def rIsN : R2 := fun x y H Q => y = .non ∧ Q (.bl (decide (x = .non))) H
def rNotN : R2 := fun x y H Q => y = .non ∧ Q (.bl (!decide (x = .non))) H
theorem op_isN1 {X : Cx} : OpR X (compareOp .Is) rIsN := op_isN
theorem op_notN1 {X : Cx} : OpR X (compareOp .IsNot) rNotN := op_notN
section
variable {H : Hp} {Q : VK} {p : Addr} {n : Int} {x : Str}
theorem i_isN_n (h : Q (.bl true) H) : rIsN .non .non H Q := ⟨rfl, h⟩
theorem i_isN_r (h : Q (.bl false) H) : rIsN (.ref p) .non H Q := ⟨rfl, h⟩
theorem i_isN_i (h : Q (.bl false) H) : rIsN (.int n) .non H Q := ⟨rfl, h⟩
theorem i_isN_s (h : Q (.bl false) H) : rIsN (.str x) .non H Q := ⟨rfl, h⟩
theorem i_notN_n (h : Q (.bl false) H) : rNotN .non .non H Q := ⟨rfl, h⟩
theorem i_notN_r (h : Q (.bl true) H) : rNotN (.ref p) .non H Q := ⟨rfl, h⟩
theorem i_notN_i (h : Q (.bl true) H) : rNotN (.int n) .non H Q := ⟨rfl, h⟩
theorem i_notN_s (h : Q (.bl true) H) : rNotN (.str x) .non H Q := ⟨rfl, h⟩
end
theorem if_val {c : Bool} {t : TE} {σ : L2.St} {H : Hp} {Q : VK} (h : ∀ Q' : VK, (∀ b, Q' (.bl b) H) → t σ H Q') (k : ∀ b, Q (.bl b) H) : if c = true then t σ H Q else Q (.bl false) H := by
  cases c
  · exact k false
  · exact h Q k
def oV : Option Int → V
  | none => .non
  | some k => .int k
def oI (o : Option Nat) : V := oV (o.map fun k => (k : Int))
theorem i_ix1 {l : List Nat} {j c : Nat} {H : Hp} {Q : VK} (hz : l.length ≤ 1000000) (hc : l[j]? = some c) (h : Q (.str (S [c])) H) : rIxT1 (.str (S l)) (.int (j : Int)) H Q := i_ixS (le_line hz) (atI_nat hc) h
/-- isinstance of a thing of a built-in type -/
theorem i_isi {K : PySem.W.Frag} {H : Hp} {Q : VK} {x : V} {T U : String} {b : Bool} (t : TyOf K H x (.type T)) (h : kitB T U = some b) (q : Q (.bl b) H) : rIs1 K [x, .ty U] H Q := ⟨_, _, _, _, b, rfl, .ty _, .of <| .base t, kit_ty h, q⟩
/-- a place -/
def iv (k : Nat) : V := .int (k : Int)
theorem i_revL {K : PySem.W.Frag} {te : TE} {σ : L2.St} {H : Hp} {Q : VK} (h : te σ H fun x H1 => ∃ a xs, x = .ref a ∧ SqL K H1 a xs ∧ ∀ p, H1 p = none → Q (.ref p) (L2.upd H1 p (.lst xs.reverse))) : tRevL K te σ H Q := h
/-! lists of texts: == and != -/
section
variable {X : Cx}
abbrev vs (l : List Nat) : V := .str (S l)
theorem S_inj {l m : List Nat} : S l = S m ↔ l = m := ⟨fun h => by injection h with h; injection h, fun h => by rw [h]⟩
/-- signs that a text may hold -/
def Chr (l : List Nat) : Prop := ∀ c ∈ l, c < 1114112
theorem strOk_S {l : List Nat} (h : Chr l) : PyData.strOk (S l) = true := by
  unfold PyData.strOk
  rw [Array.all_eq_true']
  intro c hc
  exact decide_eq_true (h c (by simpa using hc))
theorem Low.chr {l : List Nat} (h : Low l) : Chr l := fun c hc => by have := h c hc; omega
theorem Chr.nil : Chr [] := fun c hc => nomatch hc
theorem Chr.one {c : Nat} (h : c < 1114112) : Chr [c] := fun d hd => by rw [List.mem_singleton.mp hd]; exact h
theorem dp_strs {K : PySem.W.Frag} {H : Hp} : ∀ ls : List (List Nat), DpAll K H (ls.map vs) (ls.map fun l => PyData.str (S l))
  | [] => .nil
  | l :: ls => .cons (.str _) (dp_strs ls)
theorem lay_strs : ∀ ls : List (List Nat), (∀ l ∈ ls, Chr l) → PyData.canLayAll0 (ls.map fun l => PyData.str (S l)) = true
  | [], _ => by simp [PyData.canLayAll0]
  | n :: ns, h => by
    simp only [List.map_cons, PyData.canLayAll0, PyData.canLay0, Bool.and_eq_true]
    exact ⟨strOk_S (h n (List.mem_cons_self ..)), lay_strs ns fun l hl => h l (List.mem_cons_of_mem _ hl)⟩
theorem depth_strs : ∀ ls : List (List Nat), PyData.depthAll (ls.map fun l => PyData.str (S l)) = 0
  | [] => by simp [PyData.depthAll]
  | n :: ns => by simp [PyData.depthAll, PyData.depth, depth_strs ns]
theorem shaped_strs {ls : List (List Nat)} (h : ∀ l ∈ ls, Chr l) : SeqAt.shaped (.list (ls.map fun l => PyData.str (S l))) = true := by
  unfold SeqAt.shaped
  rw [PyData.canLay0, lay_strs _ h, PyData.depth, depth_strs]
  rfl
theorem eqv_strs : ∀ ns ms : List (List Nat), PyData.eqvAll (ns.map fun l => PyData.str (S l)) (ms.map fun l => PyData.str (S l)) = decide (ns = ms)
  | [], [] => by simp [PyData.eqvAll]
  | [], _ :: _ => by simp [PyData.eqvAll]
  | _ :: _, [] => by simp [PyData.eqvAll]
  | n :: ns, m :: ms => by
    simp only [List.map_cons, PyData.eqvAll, PyData.eqv, eqv_strs ns ms, List.cons.injEq]
    by_cases h : n = m
    · subst h; simp
    · have : ¬ S n = S m := fun z => h (S_inj.mp z)
      simp [h, this]
def r2LS (K : PySem.W.Frag) (g : List (List Nat) → List (List Nat) → Bool) : R2 := fun x y H Q => ∃ (p q : Addr) (ns ms : List (List Nat)), x = .ref p ∧ y = .ref q ∧ SqL K H p (ns.map vs) ∧ SqL K H q (ms.map vs) ∧ (∀ l ∈ ns, Chr l) ∧ (∀ l ∈ ms, Chr l) ∧ Q (.bl (g ns ms)) H
abbrev rEqLS (K : PySem.W.Frag) : R2 := r2LS K fun a b => decide (a = b)
abbrev rNeLS (K : PySem.W.Frag) : R2 := r2LS K fun a b => !decide (a = b)
theorem op_eqLS (hu : X.A.units + 64 < cLine) : OpR X (compareOp .Eq) (rEqLS X.K) := by
  intro pins s σ H x y v u Q I rx ry h
  obtain ⟨p, q, ns, ms, rfl, rfl, h1, h2, c1, c2, k⟩ := h
  refine op_eqD hu pins s σ H _ _ v u Q I rx ry ⟨_, _, .lst h1 (dp_strs ns), .lst h2 (dp_strs ms), shaped_strs c1, shaped_strs c2, ?_⟩
  rw [PyData.eqv, eqv_strs]
  exact k
theorem op_neLS (hu : X.A.units + 64 < cLine) : OpR X (compareOp .NotEq) (rNeLS X.K) := by
  intro pins s σ H x y v u Q I rx ry h
  obtain ⟨p, q, ns, ms, rfl, rfl, h1, h2, c1, c2, k⟩ := h
  refine op_neD hu pins s σ H _ _ v u Q I rx ry ⟨_, _, .lst h1 (dp_strs ns), .lst h2 (dp_strs ms), shaped_strs c1, shaped_strs c2, ?_⟩
  rw [PyData.eqv, eqv_strs]
  exact k
/-! what is an int or None: == and != -/
def oD : Option Int → PyData
  | none => .none
  | some k => .int k
theorem oD_dp {K : PySem.W.Frag} {H : Hp} : ∀ o, Dp K H (oV o) (oD o)
  | none => .non
  | some k => .int k
theorem oD_shaped (o : Option Int) : SeqAt.shaped (oD o) = true := by cases o <;> simp [oD, SeqAt.shaped, PyData.canLay0, PyData.depth]
theorem oD_eqv (a b : Option Int) : PyData.eqv (oD a) (oD b) = decide (a = b) := by
  cases a <;> cases b <;> simp [oD, PyData.eqv, BEq.beq]
def r2O (g : Option Int → Option Int → Bool) : R2 := fun x y H Q => ∃ a b : Option Int, x = oV a ∧ y = oV b ∧ Q (.bl (g a b)) H
abbrev rEqO : R2 := r2O fun a b => decide (a = b)
abbrev rNeO : R2 := r2O fun a b => !decide (a = b)
theorem op_eqO (hu : X.A.units + 64 < cLine) : OpR X (compareOp .Eq) rEqO := by
  intro pins s σ H x y v u Q I rx ry h
  obtain ⟨a, b, rfl, rfl, k⟩ := h
  refine op_eqD hu pins s σ H _ _ v u Q I rx ry ⟨_, _, oD_dp a, oD_dp b, oD_shaped a, oD_shaped b, ?_⟩
  rw [oD_eqv]
  exact k
theorem op_neO (hu : X.A.units + 64 < cLine) : OpR X (compareOp .NotEq) rNeO := by
  intro pins s σ H x y v u Q I rx ry h
  obtain ⟨a, b, rfl, rfl, k⟩ := h
  refine op_neD hu pins s σ H _ _ v u Q I rx ry ⟨_, _, oD_dp a, oD_dp b, oD_shaped a, oD_shaped b, ?_⟩
  rw [oD_eqv]
  exact k
/-- a row that is never reached -/
def tNever : TS := fun _ _ _ => False
theorem ps_never {st : Stmt} : PS X st tNever := ⟨fun _ _ _ _ _ _ h => False.elim h⟩
end
section
variable {K : PySem.W.Frag} {H : Hp} {Q : VK}
theorem i_r2LS {g : List (List Nat) → List (List Nat) → Bool} {p q : Addr} {ns ms : List (List Nat)} (h1 : SqL K H p (ns.map vs)) (h2 : SqL K H q (ms.map vs)) (c1 : ∀ l ∈ ns, Chr l) (c2 : ∀ l ∈ ms, Chr l) (h : Q (.bl (g ns ms)) H) : r2LS K g (.ref p) (.ref q) H Q := ⟨p, q, ns, ms, rfl, rfl, h1, h2, c1, c2, h⟩
theorem i_r2O {g : Option Int → Option Int → Bool} {a b : Option Int} (h : Q (.bl (g a b)) H) : r2O g (oV a) (oV b) H Q := ⟨a, b, rfl, rfl, h⟩
theorem vc_vs (l : List Nat) : l.map vc = (l.map fun c => [c]).map vs := by rw [List.map_map]; rfl
theorem i_isi_str_str {l : List Nat} (q : Q (.bl true) H) : rIs1 K [.str (S l), .ty "str"] H Q := ⟨_, _, _, _, true, rfl, .ty _, .of <| .base (.str _), kit_ty (by decide +kernel), q⟩
end
end Lv

set_option Elab.async false
set_option linter.all false
set_option maxRecDepth 100000
set_option maxHeartbeats 3200000
namespace Lv
open PySem PySem.Spec PyProof.Rows L2 SX
/-! ### sets of texts: made of a text or of a list of texts, sorted -/
def kyS (e : Int × Value) : Str := match e.2 with | .str k _ => k | _ => ⟨#[]⟩
def GdS (w : World) (e : Int × Value) : Prop := ∃ k tk, e.2 = Value.str k tk ∧ e.1 = hashStr w k
def SetT (w : World) (h : Heap) (a : Addr) (L : List Str) : Prop :=
  ∃ o es ep t, h.get? a = some o ∧ o.ExactSet ∧ o.data = .set es ep t ∧ (∀ e ∈ es.toList, GdS w e) ∧ (es.toList.map kyS).Nodup ∧ (∀ k, k ∈ L ↔ k ∈ es.toList.map kyS) ∧
    es.size ≤ L.length ∧ es.size < scanBound ∧ t.fits es.size = true ∧ Ris t.place.toList ∧ (w.params.followText "set-order" = true ∨ t.led = true)
theorem SetT.at {w : World} {h h' : Heap} {a : Addr} {L : List Str} (R : SetT w h a L) (k : ∀ o, h.get? a = some o → h'.get? a = some o) : SetT w h' a L := by
  obtain ⟨o, es, ep, t, qo, r⟩ := R
  exact ⟨o, es, ep, t, k o qo, r⟩
section
variable {P : Program} {w : World}
theorem isS (k : Str) (u : Tok) : (strKind P w).is k (.str k u) = true := by
  show (k == k) = true
  exact beq_self_eq_true k
theorem gds_elems {l : List (Int × Value)} (g : ∀ e ∈ l, GdS w e) : ElemsOf (strKind P w) l := fun e he => by
  obtain ⟨k, tk, h1, h2⟩ := g e he
  exact ⟨⟨k, by rw [h1]; exact isS k tk, h2⟩, by rw [h1] <;> rfl⟩
theorem gds_is {e : Int × Value} (g : GdS w e) (k : Str) : (strKind P w).is k e.2 = true ↔ kyS e = k := by
  obtain ⟨k0, tk, h1, _⟩ := g
  unfold kyS
  rw [h1]
  show ((k0 == k) = true) ↔ k0 = k
  exact beq_iff_eq
theorem gds_mem {l : List (Int × Value)} (g : ∀ e ∈ l, GdS w e) (k : Str) : k ∈ l.map kyS ↔ ∃ e ∈ l, (strKind P w).is k e.2 = true := by
  rw [List.mem_map]
  exact ⟨fun ⟨e, he, q⟩ => ⟨e, he, (gds_is (g e he) k).2 q⟩, fun ⟨e, he, q⟩ => ⟨e, he, (gds_is (g e he) k).1 q⟩⟩
end
section
variable {P : Program} {w : World} {A : Around} {E : Value → Shared → Prop} {s : Shared} {a : Addr} {L : List Str}
theorem setT_tail {gg : Bool → Sem Unit} (hgg : ∀ (b : Bool) (s₁ : Shared) (Q' : Unit → Shared → Prop), Q' () s₁ → wpAny (model P w) A (gg b) Q' E s₁)
    {o : Obj} {es : Array (Int × Value)} {ep : Nat} {t : SetTable} (qo : s.heap.get? a = some o) (qx : o.ExactSet) (qd : o.data = .set es ep t)
    {es1 : Array (Int × Value)} {t2 : SetTable} {L' : List Str} (g1 : ∀ e ∈ es1.toList, GdS w e) (d1 : (es1.toList.map kyS).Nodup) (m1 : ∀ k, k ∈ L' ↔ k ∈ es1.toList.map kyS) (z1 : es1.size ≤ L'.length)
    (b1 : es1.size < scanBound) (f2 : t2.fits es1.size = true) (r2 : Ris t2.place.toList) (l2 : w.params.followText "set-order" = true ∨ t2.led = true) {dummy : Bool} {R : Option Bool → Shared → Prop}
    (hR : ∀ h', Heap.SameBut a s.heap h' → SetT w h' a L' → R (some true) { s with heap := h' }) :
    wpAny (model P w) A (do
        storeSet a es1 t2
        if (!dummy && t2.tooFull) = true then do
            gg (relayAll t2 es1 (SetTable.grown es1.size)).2.2
            storeSet a (relayAll t2 es1 (SetTable.grown es1.size)).1 (relayAll t2 es1 (SetTable.grown es1.size)).2.1
            pure (some true)
          else pure (some true)) R E s := by
  refine wpAny_bind (wpAny_storeSet_of qo qd ?_ (fits_of_scanBound b1))
  have qo1 := store_at (es' := es1) (t' := t2) qo qd
  have same1 := Heap.SameBut.update s.heap a (Obj.putSet es1 t2)
  split
  · have pm := relayAll_perm t2 es1 (SetTable.grown es1.size)
    have f3 := relayAll_fits t2 es1 (SetTable.grown es1.size)
    have r3 := relayAll_ris t2 es1 (SetTable.grown es1.size)
    have l3 := relayAll_led t2 es1 (SetTable.grown es1.size)
    generalize relayAll t2 es1 (SetTable.grown es1.size) = Z at pm f3 r3 l3 ⊢
    obtain ⟨es2, t3, gave⟩ := Z
    dsimp only at pm f3 r3 l3 ⊢
    have zz : es2.size = es1.size := by rw [← Array.length_toList, pm.length_eq, Array.length_toList]
    have b2 : es2.size < scanBound := by rw [zz]; exact b1
    refine wpAny_bind (hgg _ _ _ (wpAny_bind (wpAny_storeSet_of qo1 rfl ?_ (fits_of_scanBound b2))))
    have qo2 := store_at (es' := es2) (t' := t3) qo1 rfl
    refine wpAny_pure (hR _ (same1.trans (Heap.SameBut.update _ a _)) ⟨_, es2, _, t3, qo2, qx, rfl, fun e he => g1 e (pm.mem_iff.mp he), (pm.map kyS).nodup_iff.mpr d1, fun k => (m1 k).trans (pm.map kyS).mem_iff.symm, by omega, b2, f3, r3, ?_⟩)
    exact l2.imp id fun z => by rw [l3]; exact z
  · exact wpAny_pure (hR _ same1 ⟨_, es1, _, t2, qo1, qx, rfl, g1, d1, m1, z1, b1, f2, r2, l2⟩)
theorem setT_add {k : Str} {tk : Tok} {Q : Bool → Shared → Prop} (R : SetT w s.heap a L) (room : L.length + 1 < scanBound)
    (hQ : ∀ h' b, Heap.SameBut a s.heap h' → SetT w h' a (k :: L) → Q b { s with heap := h' }) : wpAny (model P w) A (setAddHashed a (.str k tk) ((strKind P w).hash k)) Q E s := by
  obtain ⟨o, es, ep, t, qo, qx, qd, g, nd, hm, hz, hb, hf, hr, hl⟩ := R
  have isk : (strKind P w).is k (.str k tk) = true := isS k tk
  have scn : (Value.str k tk).scannable = true := rfl
  have el : ElemsOf (strKind P w) es.toList := gds_elems g
  unfold setAddHashed setAddHashedIn
  refine wpAny_holding (wpAny_bind (wpAny_setState_of qo qd hf ?_))
  dsimp only
  rw [byScan_of scn hb el]
  simp only [↓reduceIte]
  unfold setAddByScan
  refine wpAny_bind (wpAny_bind (wpAny_rule (wpAny_bind (wpAny_setScan_of isk qo qd hf el ?_))))
  cases hfi : List.findIdx? (fun e => (strKind P w).is k e.2) es.toList with
  | some j =>
    dsimp only
    obtain ⟨hj, pj, _⟩ := List.findIdx?_eq_some_iff_getElem.mp hfi
    have inL : k ∈ L := (hm k).2 ((gds_mem (P := P) (w := w) g k).2 ⟨es.toList[j], List.getElem_mem hj, pj⟩)
    refine wpAny_pure (wpAny_pure (hQ s.heap _ (Heap.SameBut.refl a s.heap) ⟨o, es, ep, t, qo, qx, qd, g, nd, fun i => ?_, by rw [List.length_cons]; omega, hb, hf, hr, hl⟩))
    rw [← hm i, List.mem_cons]
    exact ⟨fun z => z.elim (fun e => e ▸ inL) id, .inr⟩
  | none =>
    dsimp only
    have out : k ∉ es.toList.map kyS := fun z => by
      obtain ⟨e, he, q⟩ := (gds_mem (P := P) (w := w) g k).1 z
      have c := List.findIdx?_eq_none_iff.mp hfi e he
      rw [q] at c
      cases c
    have gave_ok : ∀ (b : Bool) {s₁ : Shared} {Q' : Unit → Shared → Prop}, Q' () s₁ → wpAny (model P w) A (match b with | true => rule "set.scan.the-table-gave-way" | false => pure ()) Q' E s₁ :=
      fun b s₁ Q' q => by cases b <;> first | exact wpAny_pure q | exact wpAny_rule q
    have pm := layNew_perm t es ((strKind P w).hash k) (.str k tk)
    have f1 := layNew_fits t es ((strKind P w).hash k) (.str k tk)
    have r1 := layNew_ris t es ((strKind P w).hash k) (.str k tk) hr
    have l1 := layNew_led t es ((strKind P w).hash k) (.str k tk)
    generalize layNew t es ((strKind P w).hash k) (.str k tk) = Z at pm f1 r1 l1 ⊢
    obtain ⟨es1, t1, dummy, gave⟩ := Z
    dsimp only at pm f1 r1 l1 ⊢
    rw [Array.toList_push] at pm
    have pc : es1.toList.Perm (((strKind P w).hash k, Value.str k tk) :: es.toList) := pm.trans (List.perm_append_singleton _ _)
    have pk : (es1.toList.map kyS).Perm (k :: es.toList.map kyS) := pc.map kyS
    have g1 : ∀ e ∈ es1.toList, GdS w e := fun e he => by
      rcases List.mem_cons.mp (pc.mem_iff.mp he) with z | z
      · rw [z]; exact ⟨k, tk, rfl, rfl⟩
      · exact g e z
    have d1 : (es1.toList.map kyS).Nodup := pk.nodup_iff.mpr (List.nodup_cons.mpr ⟨out, nd⟩)
    have m1 : ∀ i, i ∈ k :: L ↔ i ∈ es1.toList.map kyS := fun i => by
      rw [pk.mem_iff, List.mem_cons, List.mem_cons, hm i]
    have zz : es1.size = es.size + 1 := by rw [← Array.length_toList, pc.length_eq, List.length_cons, Array.length_toList]
    have b1 : es1.size < scanBound := by omega
    have z1 : es1.size ≤ (k :: L).length := by rw [List.length_cons]; omega
    have ld : w.params.followText "set-order" = true ∨ t1.led = true := hl.imp id fun z => by rw [l1]; exact z
    refine wpAny_bind (gave_ok _ ?_)
    split
    · refine wpAny_bind ?_
      rw [hashByValue_scannable 8 scn]
      refine wpAny_pure (setT_tail (L' := k :: L) ?_ qo qx qd g1 d1 m1 z1 b1 ?_ ?_ ?_ ?_)
      · intro b s₁ Q' q; cases b <;> first | exact wpAny_pure q | exact wpAny_rule q
      · first | (split <;> first | exact f1 | exact SetTable.fits_plain_off f1) | exact f1
      · first | (split <;> exact r1) | exact r1
      · first | (split <;> exact ld) | exact ld
      · intro h' sb r; dsimp only; exact wpAny_pure (hQ h' _ sb r)
    · refine wpAny_bind (wpAny_pure ?_)
      simp only [↓reduceIte]
      refine setT_tail (L' := k :: L) ?_ qo qx qd g1 d1 m1 z1 b1 f1 r1 ld ?_
      · intro b s₁ Q' q; cases b <;> first | exact wpAny_pure q | exact wpAny_rule q
      · intro h' sb r; dsimp only; exact wpAny_pure (hQ h' _ sb r)
/-- the loop of set.update over texts -/
theorem setT_update {I : Addr} {fp wr : List Addr} {n : Nat} {Pv : Nat → Value → Prop} {St : Nat → Heap → Prop} {R : Result → Shared → Prop}
    (W : Walks P w A.in1 I fp wr n Pv St) (D : Addr) (hD : D ∉ fp) (xs : List Str) (hn : n = xs.length) (hb : xs.length + 1 < scanBound) (hval : ∀ i v, Pv i v → ∃ k t, xs[i]? = some k ∧ v = .str k t) :
    ∀ (m i : Nat) (s : Shared), n - i = m → i ≤ n → St i s.heap → SetT w s.heap D (xs.take i).reverse →
      (∀ h' tk, (∀ b o, b ∉ D :: wr → s.heap.get? b = some o → h'.get? b = some o) → SetT w h' D xs.reverse → R (.ok (.ret .none)) { s with heap := h', toks := tk }) →
      codeAny (model P w) A (.builtin "set.update.loop" ⟨[.ref D, .ref I], []⟩) R s := by
  have hDw : D ∉ wr := fun h => hD (W.sub _ h)
  intro m
  induction m with
  | zero =>
    intro i s hm hi hst hS hR
    have hin : i = n := by omega
    subst hin
    refine codeAny_builtin F.entry_set_update_loop ?_
    rw [Around.under_plainId F.plain_set_update_loop _]
    show wpAny _ A.in1 (pyNext (.ref I) >>= _) _ _ s
    refine wpAny_bind (W.done s _ _ hst fun h' tk keep => ?_)
    show wpAny _ A.in1 (ret Value.none) _ _ _
    rw [List.take_of_length_le (by omega)] at hS
    exact wpAny_pure (hR h' tk (fun b o hb2 e => keep b o (fun z => hb2 (List.mem_cons_of_mem _ z)) e) (hS.at fun o e => keep D o hDw e))
  | succ m ih =>
    intro i s hm hi hst hS hR
    have hlt : i < n := by omega
    refine codeAny_builtin F.entry_set_update_loop ?_
    rw [Around.under_plainId F.plain_set_update_loop _]
    show wpAny _ A.in1 (pyNext (.ref I) >>= _) _ _ s
    refine wpAny_bind (W.item i s _ _ hlt hst fun v h1 tk1 hP hst1 keep1 => ?_)
    obtain ⟨z, t, hz, rfl⟩ := hval i v hP
    have hS1 : SetT w h1 D (xs.take i).reverse := hS.at fun o e => keep1 D o hDw e
    show wpAny _ A.in1 (holding [Value.str z t] (setAdd D (.str z t)) >>= _) _ _ _
    refine wpAny_bind (wpAny_holding ?_)
    unfold setAdd
    refine wpAny_holding (wpAny_bind ((strKind P w).pyHash (k := z) (isS _ _) ?_))
    refine setT_add (s := { s with heap := h1, toks := tk1 + 1 }) hS1 (by rw [List.length_reverse, List.length_take]; omega) fun h2 bb sb hS2 => ?_
    have hS3 : SetT w h2 D (xs.take (i + 1)).reverse := by
      rw [List.take_add_one, hz]
      simpa using hS2
    refine wpAny_pure ⟨plainId_quiet F.plain_set_update_loop _, ih (i + 1) _ (by omega) hlt (W.frame _ _ _ hst1 fun b hb2 o e => ?_) hS3 fun h3 tk3 keep3 hS4 => ?_⟩
    · rw [sb.2 b (fun h : b = D => hD (by rw [← h]; exact hb2))]; exact e
    · refine hR h3 tk3 (fun b o hb2 e => keep3 b o hb2 ?_) hS4
      show h2.get? b = some o
      rw [sb.2 b (fun h : b = D => hb2 (by rw [h]; exact List.mem_cons_self))]
      exact keep1 b o (fun z => hb2 (List.mem_cons_of_mem _ z)) e
/-- the new empty set -/
abbrev newSet (w : World) : Obj := { cls := .type "set", dict := none, data := .set #[] 0 (.fresh 0 0 (!w.params.followText "set-order")) }
theorem setT_new {h : Heap} (ho : h.get? a = some (newSet w)) : SetT w h a ([] : List Str) :=
  ⟨_, #[], 0, _, ho, ⟨rfl, rfl, rfl⟩, rfl, (fun e he => by simp at he), (by simp), (fun k => by simp), Nat.le_refl _, (by decide), (by rfl), List.Pairwise.nil, by
    show _ ∨ (!w.params.followText "set-order") = true
    cases w.params.followText "set-order"
    · exact .inr rfl
    · exact .inl rfl⟩
theorem sub_str_set : isSubtype (.type "str") (.type "set") = pure false := by rw [isSubtype_type]; kernel_rfl
theorem sub_str_frozenset : isSubtype (.type "str") (.type "frozenset") = pure false := by rw [isSubtype_type]; kernel_rfl
set_option maxHeartbeats 6400000 in
theorem call_setText {x : Str} {t : Tok} {xs : List Str} (hx : xs = x.cps.toList.map fun c => (⟨#[c]⟩ : Str)) {Q : Value → Shared → Prop} (hh : A.handled = none) (hb : xs.length + 1 < scanBound)
    (h : ∀ (h' : Heap) (tk : Nat), SetT w h' s.heap.objs.size xs.reverse → (∀ b o, s.heap.get? b = some o → h'.get? b = some o) → Q (.ref s.heap.objs.size) { s with heap := h', toks := tk }) :
    wpAny (model P w) A (call (.type "set") [.str x t]) Q E s := by
  obtain ⟨cc, tl, mroE⟩ := F.called_set.mro
  have madeE := F.called_set.made
  have subE := F.called_set.sub
  refine wpAny_call (codeAny_of_tree (show wpAny _ _ (callAny (.type "set") _) _ _ _ from ?_))
  refine wpAny_pure ⟨Code.quiet_builtin _ (by decide +kernel), codeAny_builtin F.entry_type_call ?_⟩
  rw [Around.under_plain (weight_type_call_type "set" [.str x t] []) rfl]
  have c1 := F.called_set.notType
  have c2 := F.called_set.canCreate
  have c3 := F.typeCall_set_1 (.str x t)
  repeat (any_goals (first | assumption | wp_step))

  refine codeAny_mono (code_set_led1 (.str x t) (E := E) (Q₁ := fun obj s₁ => obj = .ref s.heap.objs.size ∧ s₁ = { s with heap := s.heap.push (newSet w) }) ⟨rfl, rfl⟩) fun r s₁ hr => ?_
  cases r with
  | error e => exact hr
  | ok fl =>
    cases fl with
    | ret obj =>
      obtain ⟨rfl, rfl⟩ := hr
      have qS : (s.heap.push (newSet w)).get? s.heap.objs.size = some (newSet w) := Heap.get?_push_size _ rfl
      have qT : Shared.TypeIs { s with heap := s.heap.push (newSet w) } (.ref s.heap.objs.size) "set" := ⟨_, qS, rfl⟩
      have i1 := F.called_set.init.lookup
      have i2 := F.called_set.init.bind (.ref s.heap.objs.size)
      repeat (any_goals (first | assumption | wp_step))

      refine codeAny_mono (codeAny_call_builtin (R := wants (fun r s₂ => r = .none ∧ ∃ h' tk, s₂ = { s with heap := h', toks := tk } ∧ SetT w h' s.heap.objs.size xs.reverse ∧
          (∀ b o, s.heap.get? b = some o → h'.get? b = some o)) E) F.called_set.init.plain F.entry_set_init (check_set_init_1 qT ?_)) fun r₂ s₂ hr₂ => ?_
      · have hne : (Value.type "str" == Value.type "dict") = false := by decide
        have hs1 := sub_str_set
        have hs2 := sub_str_frozenset
        unfold Builtin.«set.__init__» noKeywords Builtin.Frozenset.updateFrom
        generalize hPI : pyIter = PI
        wp_walk
        subst hPI
        refine wpAny_pyIter_str fun o St hW hst => ?_
        refine wpAny_bind (wpAny_runValue ?_)
        have sz1 : (s.heap.push (newSet w)).objs.size = s.heap.objs.size + 1 := Heap.size_push ..
        refine setT_update (hW _ (by simp [hh])) s.heap.objs.size (by rw [sz1]; simp) xs (by rw [hx]; simp) hb ?_ _ 0 _ rfl (Nat.zero_le _) hst ?_ ?_
        · rintro i v ⟨c, u, hc, rfl⟩
          exact ⟨⟨#[c]⟩, u, by rw [hx, List.getElem?_map, Array.getElem?_toList, hc]; rfl, rfl⟩
        · exact setT_new (Heap.get?_push_of_some _ qS)
        · intro h' tk' keep S1
          refine wpAny_pure (show wpAny _ _ (ret Value.none) _ _ _ from wpAny_pure ⟨rfl, h', tk', rfl, S1, fun b o e => ?_⟩)
          have lt0 : b < s.heap.objs.size := Heap.lt_size e
          refine keep b o ?_ (Heap.get?_push_of_some _ (Heap.get?_push_of_some _ e))
          rw [sz1]
          simp only [List.mem_cons, List.not_mem_nil, or_false, not_or]
          exact ⟨Nat.ne_of_lt lt0, Nat.ne_of_lt (Nat.lt_succ_of_lt lt0)⟩
      · cases r₂ with
        | error e => exact hr₂
        | ok fl₂ =>
          cases fl₂ with
          | ret r =>
            obtain ⟨rfl, h', tk, rfl, S1, keep1⟩ := hr₂
            repeat (any_goals (first | assumption | wp_step))
            exact h _ _ S1 keep1
          | _ => exact hr₂.elim
    | _ => exact hr.elim
end
end Lv

set_option Elab.async false
set_option linter.all false
set_option maxRecDepth 100000
set_option maxHeartbeats 3200000
namespace Lv
open PySem PySem.Spec PyProof.Rows L2 SX
theorem strs_at : ∀ {vs : List Value} {xs : List Str}, StrsAre vs xs → ∀ {i : Nat} {v : Value}, vs[i]? = some v → ∃ k t, xs[i]? = some k ∧ v = .str k t
  | _, _, .nil, i, v, h => by simp at h
  | _, _, .cons x t r, 0, v, h => ⟨x, t, rfl, (Option.some.inj h).symm⟩
  | _, _, .cons x t r, i + 1, v, h => strs_at r (i := i) h
section
variable {P : Program} {w : World} {A : Around} {E : Value → Shared → Prop} {s : Shared} {a : Addr} {L : List Str}
set_option maxHeartbeats 6400000 in
theorem call_setList {l : Addr} {items : Array Value} {xs : List Str} (hl : s.heap.IsList l items) (hx : StrsAre items.toList xs) {Q : Value → Shared → Prop} (hh : A.handled = none) (hb : xs.length + 1 < scanBound)
    (h : ∀ (h' : Heap) (tk : Nat), SetT w h' s.heap.objs.size xs.reverse → (∀ b o, s.heap.get? b = some o → h'.get? b = some o) → Q (.ref s.heap.objs.size) { s with heap := h', toks := tk }) :
    wpAny (model P w) A (call (.type "set") [.ref l]) Q E s := by
  obtain ⟨cc, tl, mroE⟩ := F.called_set.mro
  have madeE := F.called_set.made
  have subE := F.called_set.sub
  refine wpAny_call (codeAny_of_tree (show wpAny _ _ (callAny (.type "set") _) _ _ _ from ?_))
  refine wpAny_pure ⟨Code.quiet_builtin _ (by decide +kernel), codeAny_builtin F.entry_type_call ?_⟩
  rw [Around.under_plain (weight_type_call_type "set" [.ref l] []) rfl]
  have c1 := F.called_set.notType
  have c2 := F.called_set.canCreate
  have c3 := F.typeCall_set_1 (.ref l)
  repeat (any_goals (first | assumption | wp_step))

  refine codeAny_mono (code_set_led1 (.ref l) (E := E) (Q₁ := fun obj s₁ => obj = .ref s.heap.objs.size ∧ s₁ = { s with heap := s.heap.push (newSet w) }) ⟨rfl, rfl⟩) fun r s₁ hr => ?_
  cases r with
  | error e => exact hr
  | ok fl =>
    cases fl with
    | ret obj =>
      obtain ⟨rfl, rfl⟩ := hr
      have qS : (s.heap.push (newSet w)).get? s.heap.objs.size = some (newSet w) := Heap.get?_push_size _ rfl
      have qT : Shared.TypeIs { s with heap := s.heap.push (newSet w) } (.ref s.heap.objs.size) "set" := ⟨_, qS, rfl⟩
      have i1 := F.called_set.init.lookup
      have i2 := F.called_set.init.bind (.ref s.heap.objs.size)
      repeat (any_goals (first | assumption | wp_step))

      refine codeAny_mono (codeAny_call_builtin (R := wants (fun r s₂ => r = .none ∧ ∃ h' tk, s₂ = { s with heap := h', toks := tk } ∧ SetT w h' s.heap.objs.size xs.reverse ∧
          (∀ b o, s.heap.get? b = some o → h'.get? b = some o)) E) F.called_set.init.plain F.entry_set_init (check_set_init_1 qT ?_)) fun r₂ s₂ hr₂ => ?_
      · have hne : (Value.type "list" == Value.type "dict") = false := by decide
        have hs1 := F.sub_list_set
        have hs2 := F.sub_list_frozenset
        have lst1 := hl.push (newSet w)
        obtain ⟨lo, hlo, hlc, ln, hld⟩ := hl
        obtain ⟨ocls, odict, odata, oslots⟩ := lo
        simp only at hlc hld
        subst hlc; subst hld
        have hlo' : (s.heap.push (newSet w)).get? l = some { cls := .type "list", dict := odict, data := .seq items ln, slots := oslots } := Heap.get?_push_of_some _ hlo
        unfold Builtin.«set.__init__» noKeywords Builtin.Frozenset.updateFrom
        generalize hPI : pyIter = PI
        wp_walk
        subst hPI
        refine wpAny_pyIter_list lst1 ?_
        refine wpAny_bind (wpAny_runValue ?_)
        have sz1 : (s.heap.push (newSet w)).objs.size = s.heap.objs.size + 1 := Heap.size_push ..
        have ltl : l < s.heap.objs.size := Heap.lt_size hlo
        have nel : l ≠ (s.heap.push (newSet w)).objs.size := by rw [sz1]; exact Nat.ne_of_lt (Nat.lt_succ_of_lt ltl)
        have lenE : items.size = xs.length := by rw [← hx.length, Array.length_toList]
        refine setT_update (Walks.list (by simp [hh]) _ l nel items) s.heap.objs.size ?_ xs lenE hb ?_ _ 0 _ rfl (Nat.zero_le _) ⟨⟨_, Heap.get?_push_size _ rfl, rfl, rfl⟩, lst1.push _⟩ ?_ ?_
        · rw [sz1]
          simp only [List.mem_cons, List.not_mem_nil, or_false, not_or]
          exact ⟨Nat.ne_of_lt (Nat.lt_succ_self _), Nat.ne_of_gt ltl⟩
        · intro i v hv
          exact strs_at hx (by rw [Array.getElem?_toList]; exact hv)
        · exact setT_new (Heap.get?_push_of_some _ qS)
        · intro h' tk' keep S1
          refine wpAny_pure (show wpAny _ _ (ret Value.none) _ _ _ from wpAny_pure ⟨rfl, h', tk', rfl, S1, fun b o e => ?_⟩)
          have lt0 : b < s.heap.objs.size := Heap.lt_size e
          refine keep b o ?_ (Heap.get?_push_of_some _ (Heap.get?_push_of_some _ e))
          rw [sz1]
          simp only [List.mem_cons, List.not_mem_nil, or_false, not_or]
          exact ⟨Nat.ne_of_lt lt0, Nat.ne_of_lt (Nat.lt_succ_of_lt lt0)⟩
      · cases r₂ with
        | error e => exact hr₂
        | ok fl₂ =>
          cases fl₂ with
          | ret r =>
            obtain ⟨rfl, h', tk, rfl, S1, keep1⟩ := hr₂
            repeat (any_goals (first | assumption | wp_step))
            exact h _ _ S1 keep1
          | _ => exact hr₂.elim
    | _ => exact hr.elim
end
end Lv

set_option Elab.async false
set_option linter.all false
set_option maxRecDepth 100000
set_option maxHeartbeats 3200000
namespace Lv
open PySem PySem.Spec PyProof.Rows L2 SX
/-! ### sorted(set(x)), len(set(x)) of texts -/
theorem strs_of : ∀ (l : List Value), (∀ v ∈ l, ∃ k tk, v = Value.str k tk) → StrsAre l (l.map fun v => kyS (0, v))
  | [], _ => .nil
  | v :: l, h => by
    obtain ⟨k, tk, rfl⟩ := h v List.mem_cons_self
    exact .cons k tk (strs_of l fun u hu => h u (List.mem_cons_of_mem _ hu))
section
variable {P : Program} {w : World} {A : Around} {E : Value → Shared → Prop} {s : Shared} {a : Addr} {L : List Str}
theorem sorted_setT {Q : Value → Shared → Prop} (R : SetT w s.heap a L) (hh : A.handled = none)
    (hQ : ∀ s' p (out : Array Value) (c : Nat) (ys : List Str), (∀ b o, s.heap.get? b = some o → s'.heap.get? b = some o) → s'.gens = s.gens → s'.os = s.os → s.heap.objs.size ≤ p →
      s'.heap.get? p = some (seqObj "list" out c) → StrsAre out.toList ys → sortedS ys = true → ys.Nodup → (∀ k, k ∈ ys ↔ k ∈ L) → ys.length ≤ L.length → Q (.ref p) s') :
    wpAny (model P w) A (call (.builtin "sorted") [.ref a]) Q E s := by
  obtain ⟨o, es, ep, t, qo, qx, qd, g, nd, hm, hz, hb, hf, hr, hl⟩ := R
  refine Calls.call_function_entry kind_sorted plain_sorted entry_sorted (args_sorted1 _) ?_
  unfold Builtin.«sorted»
  refine wpAny_bind (m := checkCount "sorted" 1 1 _) (wpAny_pure (wpAny_bind (collect_set (A := A.in1) hh ⟨o, qo, qx.1, qd⟩ hf hb hr hl fun s1 vs k1 z1 g1 o1 pm => ?_)))
  have lenV : vs.length = es.size := by rw [pm.length_eq, List.length_map, Array.length_toList]
  have strV : StrsAre vs (vs.map fun v => kyS (0, v)) := strs_of vs fun v hv => by
    obtain ⟨e, he, q⟩ := List.mem_map.mp (pm.mem_iff.mp hv)
    obtain ⟨k, tk, h1, _⟩ := g e he
    exact ⟨k, tk, by rw [← q]; exact h1⟩
  have pk : (vs.map fun v => kyS (0, v)).Perm (es.toList.map kyS) := by
    have q := pm.map fun v => kyS (0, v)
    rw [List.map_map] at q
    exact q
  have lenL : vs.length ≤ sizeLine := by
    rw [lenV, sizeLine_eq]
    have : es.size < scanBound := hb
    unfold scanBound at this
    omega
  refine wpAny_bind (wpAny_newList ?_ lenL)
  have qL : (s1.heap.push (seqObj "list" vs.toArray 0)).get? s1.heap.objs.size = some (seqObj "list" vs.toArray 0) := Heap.get?_push_size _ rfl
  refine wpAny_bind (wpAny_holding (wpAny_call_entry slot_list_sort ⟨_, qL, rfl⟩ entry_list_sort (list_sort_treeKAny strKind_oneLt qL strV.keysOf (fun v₁ v₂ rest e => keyKind_strs (by rw [← e]; exact strV)) lenL fun st' hp hs => ⟨_, rfl, ?_⟩) (args_list_sort _)))
  obtain ⟨ys, a1, a2, a3⟩ := sorted_out_str strV hp hs
  obtain ⟨c, hc⟩ := sortedHeap_at (vs := vs) (out := (arrOf st').map (·.2)) qL
  have pn : ys.Perm (es.toList.map kyS) := a2.trans pk
  refine wpAny_pure ⟨_, rfl, hQ _ s1.heap.objs.size _ c ys (fun b u e => ?_) g1 o1 z1 hc a1 a3 (pn.nodup_iff.mpr nd) (fun k => by rw [pn.mem_iff, ← hm k]) (by rw [pn.length_eq, List.length_map, Array.length_toList]; exact hz)⟩
  have q := k1 b u e
  have lt1 := Heap.lt_size q
  show (sortedHeap (s1.heap.push (seqObj "list" vs.toArray 0)) s1.heap.objs.size vs _).get? b = some u
  rw [sortedHeap_old (Nat.ne_of_lt lt1) (by rw [size_push']; exact Nat.lt_succ_of_lt lt1)]
  exact Heap.get?_push_of_some _ q
end
theorem lt_trichotomyL : ∀ a b : List Nat, a < b ∨ a = b ∨ b < a
  | [], [] => .inr (.inl rfl)
  | [], _ :: _ => .inl .nil
  | _ :: _, [] => .inr (.inr .nil)
  | x :: a, y :: b => by
    rcases Nat.lt_trichotomy x y with h | h | h
    · exact .inl (.rel h)
    · subst h
      rcases lt_trichotomyL a b with z | z | z
      · exact .inl (.cons z)
      · exact .inr (.inl (by rw [z]))
      · exact .inr (.inr (.cons z))
    · exact .inr (.inr (.rel h))
theorem ltCps_iff : ∀ (a b : List Nat), ltCps a b = true ↔ a < b
  | [], [] => ⟨fun h => (nomatch h), fun h => (nomatch h)⟩
  | [], _ :: _ => ⟨fun _ => .nil, fun _ => rfl⟩
  | _ :: _, [] => ⟨fun h => (nomatch h), fun h => (nomatch h)⟩
  | x :: a, y :: b => by
    show (decide (x < y) || (x == y && ltCps a b)) = true ↔ _
    rw [Bool.or_eq_true, Bool.and_eq_true, decide_eq_true_iff, beq_iff_eq, ltCps_iff a b]
    constructor
    · rintro (h | ⟨h, k⟩)
      · exact .rel h
      · subst h; exact .cons k
    · intro h
      cases h with
      | rel h => exact .inl h
      | cons h => exact .inr ⟨rfl, h⟩
/-- rising texts that are unlike rise strictly -/
theorem sortedS_lt : ∀ {ys : List Str}, sortedS ys = true → ys.Nodup → (ys.map fun y => y.cps.toList).Pairwise (· < ·)
  | [], _, _ => List.Pairwise.nil
  | [x], _, _ => List.pairwise_singleton _ _
  | x :: y :: r, h, d => by
    have h2 : (!ltCps y.cps.toList x.cps.toList && risingS y r) = true := h
    rw [Bool.and_eq_true] at h2
    have ih := sortedS_lt (ys := y :: r) h2.2 (List.nodup_cons.mp d).2
    have n1 : ¬ y.cps.toList < x.cps.toList := fun z => by
      have := (ltCps_iff _ _).mpr z
      rw [this] at h2
      exact absurd h2.1 (by decide)
    have ne : x.cps.toList ≠ y.cps.toList := fun z => by
      have e : x = y := by
        cases x; cases y
        exact congrArg Str.mk (Array.toList_inj.mp z)
      exact (List.nodup_cons.mp d).1 (by rw [e]; exact List.mem_cons_self)
    have lt1 : x.cps.toList < y.cps.toList := by
      rcases lt_trichotomyL x.cps.toList y.cps.toList with z | z | z
      · exact z
      · exact absurd z ne
      · exact absurd z n1
    refine List.pairwise_cons.mpr ⟨fun z hz => ?_, ih⟩
    rcases List.mem_cons.mp hz with q | q
    · rw [q]; exact lt1
    · exact List.lt_trans lt1 ((List.pairwise_cons.mp ih).1 z q)
/-- the unlike signs of a text, rising -/
def tSortSetS (ta : TA) : TE := fun σ H Q => ta σ H fun vs H1 => ∃ l : List Nat, vs = [.str (S l)] ∧ l.length ≤ 1000 ∧ ∀ (ys : List Nat) (p : Addr), ys.Pairwise (· < ·) → (∀ c, c ∈ ys ↔ c ∈ l) → H1 p = none → Q (.ref p) (upd H1 p (.lst (ys.map vc)))
section
variable {X : Cx} {e : Expr} {ta : TA} {p1 p2 pos pos2 : Pos}
theorem pe_sortSetS (hc : X.calm = true) (hg1 : Gl X "sorted") (hm1 : X.mg "sorted" = none) (hg2 : Gl X "set") (hm2 : X.mg "set" = none) (ha : PA X [e] ta)
    (hs : starEach [e] X.env = [(false, eval e X.env)] := by rfl) (hs2 : starEach [.Call (.Name "set" p2) [e] [] pos2] X.env = [(false, eval (.Call (.Name "set" p2) [e] [] pos2) X.env)] := by rfl) :
    PE X (.Call (.Name "sorted" p1) [.Call (.Name "set" p2) [e] [] pos2] [] pos) (tSortSetS ta) := by
  refine ⟨fun pins s σ H Q I h => ?_⟩
  refine wpAny_Call_Name_kw (ld_blt I hg1 hm1 (by decide +kernel : bootBuiltins "sorted" = some (.builtin "sorted")) ?_)
  refine callWith_builtin1 ?_ hs2 rfl
  rw [hs2]
  refine Calls.spliced_cons ?_
  refine wpAny_Call_Name_kw (ld_blt I hg2 hm2 boot_set (callWith_type1 (thn (ha.run pos2 pins s σ H _ I h) fun us s1 ⟨vs, H1, I1, r1, q1⟩ => ?_) hs rfl))
  obtain ⟨l, rfl, hl, q⟩ := q1
  cases r1 with
  | cons r rr =>
    cases rr
    obtain ⟨t, rfl⟩ := r
    have hd := I1.ok.hd hc
    refine call_setText (xs := l.map fun c => (⟨#[c]⟩ : Str)) (by simp [S]) hd (by rw [List.length_map]; unfold scanBound; omega) fun h' tk R1 keep => ?_
    refine Calls.spliced_nil ?_
    refine sorted_setT (s := { s1 with heap := h', toks := tk }) R1 hd fun s' p out c ys k g o hp hq hi hs3 hn hm hle => ?_
    have one : ∀ y ∈ ys, ∃ c, c ∈ l ∧ y = S [c] := fun y hy => by
      have := (hm y).mp hy
      rw [List.mem_reverse, List.mem_map] at this
      obtain ⟨c, h1, h2⟩ := this
      exact ⟨c, h1, h2.symm⟩
    have pw := sortedS_lt hs3 hn
    have eys : ys = (ys.map fun y => y.cps.toList.headD 0).map fun c => S [c] := by
      rw [List.map_map]
      refine (List.map_id ys).symm.trans (List.map_congr_left fun y hy => ?_)
      obtain ⟨c, _, rfl⟩ := one y hy
      rfl
    generalize ezs : (ys.map fun y => y.cps.toList.headD 0) = zs at eys
    subst eys
    have pz : zs.Pairwise (· < ·) := by
      rw [List.map_map, List.pairwise_map] at pw
      exact pw.imp fun h => lt_one.mp h
    have mz : ∀ c, c ∈ zs ↔ c ∈ l := fun c => by
      have h1 := hm (S [c])
      rw [List.mem_reverse] at h1
      constructor
      · intro hc
        obtain ⟨d, h2, h3⟩ := List.mem_map.mp (h1.mp (List.mem_map.mpr ⟨c, hc, rfl⟩))
        have : d = c := by
          have h4 : S [d] = S [c] := h3
          have h5 := S_inj.mp h4
          injection h5
        rw [← this]; exact h2
      · intro hc
        obtain ⟨d, h2, h3⟩ := List.mem_map.mp (h1.mpr (List.mem_map.mpr ⟨c, hc, rfl⟩))
        have : d = c := by
          have h5 := S_inj.mp h3
          injection h5
        rw [← this]; exact h2
    have lenZ : (zs.map vc).length ≤ sizeLine := by
      rw [List.length_map]
      refine le_line ?_
      rw [List.length_map, List.length_reverse, List.length_map] at hle
      omega
    have k' : ∀ b u, s1.heap.get? b = some u → s'.heap.get? b = some u := fun b u e => k b u (keep b u e)
    have hp' : s1.heap.objs.size ≤ p := by
      obtain ⟨o1, _, _, _, qo1, _⟩ := R1
      exact Nat.le_trans (Nat.le_of_lt (Heap.lt_size qo1)) hp
    have hn1 : H1 p = none := I1.hok.fresh hp'
    have J : Inv X pins σ (upd H1 p (.lst (zs.map vc))) { s1 with heap := s'.heap, gens := s'.gens, drawn := s'.drawn, toks := s'.toks } :=
      I1.call (ch := []) (Un.laid k' hp' hn1) (I1.hok.laid k' hp' ⟨lenZ, out.toList, c, ?_, hq⟩) (by rw [g]; exact I1.bare) (fun _ z => nomatch z)
    · have es : s' = { s1 with heap := s'.heap, gens := s'.gens, drawn := s'.drawn, toks := s'.toks } := by
        cases s'
        cases o
        rfl
      rw [es]
      exact ⟨.ref p, _, J, rfl, q zs p pz mz hn1⟩
    · have := vals_of_strs hi
      rw [List.map_map] at this
      exact this
end
/-- the unlike texts of a list, rising -/
def tSortSetL (K : PySem.W.Frag) (ta : TA) : TE := fun σ H Q => ta σ H fun xs H1 => ∃ (a : Addr) (ls : List (List Nat)), xs = [.ref a] ∧ SqL K H1 a (ls.map vs) ∧ ls.length ≤ 1000 ∧ ∀ (ys : List (List Nat)) (p : Addr), ys.Pairwise (· < ·) → (∀ c, c ∈ ys ↔ c ∈ ls) → H1 p = none → Q (.ref p) (upd H1 p (.lst (ys.map vs)))
section
variable {X : Cx} {e : Expr} {ta : TA} {p1 p2 pos pos2 : Pos}
theorem pe_sortSetL (hc : X.calm = true) (hg1 : Gl X "sorted") (hm1 : X.mg "sorted" = none) (hg2 : Gl X "set") (hm2 : X.mg "set" = none) (ha : PA X [e] ta)
    (hs : starEach [e] X.env = [(false, eval e X.env)] := by rfl) (hs2 : starEach [.Call (.Name "set" p2) [e] [] pos2] X.env = [(false, eval (.Call (.Name "set" p2) [e] [] pos2) X.env)] := by rfl) :
    PE X (.Call (.Name "sorted" p1) [.Call (.Name "set" p2) [e] [] pos2] [] pos) (tSortSetL X.K ta) := by
  refine ⟨fun pins s σ H Q I h => ?_⟩
  refine wpAny_Call_Name_kw (ld_blt I hg1 hm1 (by decide +kernel : bootBuiltins "sorted" = some (.builtin "sorted")) ?_)
  refine callWith_builtin1 ?_ hs2 rfl
  rw [hs2]
  refine Calls.spliced_cons ?_
  refine wpAny_Call_Name_kw (ld_blt I hg2 hm2 boot_set (callWith_type1 (thn (ha.run pos2 pins s σ H _ I h) fun us s1 ⟨vs, H1, I1, r1, q1⟩ => ?_) hs rfl))
  obtain ⟨lp, ls, rfl, hq1, hl, q⟩ := q1
  cases r1 with
  | cons r rr =>
    cases rr
    cases r
    have hd := I1.ok.hd hc
    obtain ⟨its, rv, pt, hz0⟩ := I1.list hq1
    have st1 : StrsAre its (ls.map fun l => S l) := by
      have e : ls.map vs = (ls.map fun l => S l).map V.str := by rw [List.map_map]; rfl
      rw [e] at rv
      exact rv.strs
    have st2 : StrsAre its.toArray.toList (ls.map fun l => S l) := by simpa using st1
    have pt2 : s1.heap.IsList lp its.toArray := pt.isList
    refine call_setList (xs := ls.map fun l => S l) pt2 st2 hd (by rw [List.length_map]; unfold scanBound; omega) fun h' tk R1 keep => ?_
    refine Calls.spliced_nil ?_
    refine sorted_setT (s := { s1 with heap := h', toks := tk }) R1 hd fun s' p out c ys k g o hp hq hi hs3 hn hm hle => ?_
    have one : ∀ y ∈ ys, ∃ c, c ∈ ls ∧ y = S c := fun y hy => by
      have := (hm y).mp hy
      rw [List.mem_reverse, List.mem_map] at this
      obtain ⟨c, h1, h2⟩ := this
      exact ⟨c, h1, h2.symm⟩
    have pw := sortedS_lt hs3 hn
    have eys : ys = (ys.map fun y => y.cps.toList).map fun c => S c := by
      rw [List.map_map]
      refine (List.map_id ys).symm.trans (List.map_congr_left fun y hy => ?_)
      obtain ⟨c, _, rfl⟩ := one y hy
      rfl
    generalize ezs : (ys.map fun y => y.cps.toList) = zs at eys pw
    subst eys
    have mz : ∀ c, c ∈ zs ↔ c ∈ ls := fun c => by
      have h1 := hm (S c)
      rw [List.mem_reverse] at h1
      constructor
      · intro hc
        obtain ⟨d, h2, h3⟩ := List.mem_map.mp (h1.mp (List.mem_map.mpr ⟨c, hc, rfl⟩))
        rw [← S_inj.mp h3]; exact h2
      · intro hc
        obtain ⟨d, h2, h3⟩ := List.mem_map.mp (h1.mpr (List.mem_map.mpr ⟨c, hc, rfl⟩))
        rw [← S_inj.mp h3]; exact h2
    have lenZ : (zs.map vs).length ≤ sizeLine := by
      rw [List.length_map]
      refine le_line ?_
      rw [List.length_map, List.length_reverse, List.length_map] at hle
      omega
    have k' : ∀ b u, s1.heap.get? b = some u → s'.heap.get? b = some u := fun b u e => k b u (keep b u e)
    have hp' : s1.heap.objs.size ≤ p := by
      obtain ⟨o1, _, _, _, qo1, _⟩ := R1
      exact Nat.le_trans (Nat.le_of_lt (Heap.lt_size qo1)) hp
    have hn1 : H1 p = none := I1.hok.fresh hp'
    have J : Inv X pins σ (upd H1 p (.lst (zs.map vs))) { s1 with heap := s'.heap, gens := s'.gens, drawn := s'.drawn, toks := s'.toks } :=
      I1.call (ch := []) (Un.laid k' hp' hn1) (I1.hok.laid k' hp' ⟨lenZ, out.toList, c, ?_, hq⟩) (by rw [g]; exact I1.bare) (fun _ z => nomatch z)
    · have es : s' = { s1 with heap := s'.heap, gens := s'.gens, drawn := s'.drawn, toks := s'.toks } := by
        cases s'
        cases o
        rfl
      rw [es]
      exact ⟨.ref p, _, J, rfl, q zs p pw mz hn1⟩
    · have := vals_of_strs hi
      rw [List.map_map] at this
      exact this
end
section
variable {K : PySem.W.Frag} {σ : L2.St} {H : Hp} {Q : VK} {ta : TA}
theorem i_sortSetS (h : ta σ H fun vs H1 => ∃ l : List Nat, vs = [.str (S l)] ∧ l.length ≤ 1000 ∧ ∀ (ys : List Nat) (p : Addr), ys.Pairwise (· < ·) → (∀ c, c ∈ ys ↔ c ∈ l) → H1 p = none → Q (.ref p) (upd H1 p (.lst (ys.map vc)))) : tSortSetS ta σ H Q := h
theorem i_sortSetL (h : ta σ H fun xs H1 => ∃ (a : Addr) (ls : List (List Nat)), xs = [.ref a] ∧ SqL K H1 a (ls.map vs) ∧ ls.length ≤ 1000 ∧ ∀ (ys : List (List Nat)) (p : Addr), ys.Pairwise (· < ·) → (∀ c, c ∈ ys ↔ c ∈ ls) → H1 p = none → Q (.ref p) (upd H1 p (.lst (ys.map vs)))) : tSortSetL K ta σ H Q := h
end
end Lv

set_option Elab.async false
set_option linter.all false
set_option maxRecDepth 100000
set_option maxHeartbeats 2000000
namespace Lv
open PySem PySem.Spec PyProof.Rows L2 SX
/-! ### text.count(sign), text.index(sign) -/
section
open Builtin Builtin.Str
theorem at_S {l : List Nat} {c i : Nat} : (i + (S [c]).length ≤ (S l).length ∧ subAt (S l) (S [c]) i = true) ↔ l[i]? = some c := by
  have := StrLaws.subAt_one (S l) c i
  simpa [S] using this
theorem occ_count (l : List Nat) (c limit : Nat) : ∀ (n a : Nat) (arr : Array Nat) (f : Nat), f ≤ a → arr.size + n ≤ limit →
    (forIn (List.range' a n) (arr, f) (StrLaws.occBody (S l) (S [c]) (S l).length limit)).run.fst.size = arr.size + ((l.drop a).take n).count c
  | 0, a, arr, f, _, _ => by simp
  | n + 1, a, arr, f, hf, hl => by
    rw [List.range'_succ, List.forIn_cons]
    unfold StrLaws.occBody
    by_cases z : l[a]? = some c
    · obtain ⟨z1, z2⟩ := at_S.mpr z
      rw [if_pos ⟨⟨⟨by show arr.size < limit; omega, hf⟩, z1⟩, z2⟩]
      have ih := occ_count l c limit n (a + 1) (arr.push a) (a + (S [c]).length) (by simp [S_len]) (by simp; omega)
      have e1 : (l.drop a) = c :: l.drop (a + 1) := by
        obtain ⟨h1, h2⟩ := List.getElem?_eq_some_iff.mp z
        rw [List.drop_eq_getElem_cons h1, h2]
      rw [e1, List.take_succ_cons, List.count_cons_self]
      have : (arr.push a).size = arr.size + 1 := by simp
      rw [this] at ih
      exact ih.trans (by omega)
    · rw [if_neg fun h => z (at_S.mp ⟨h.1.2, h.2⟩)]
      have ih := occ_count l c limit n (a + 1) arr f (by omega) (by omega)
      refine ih.trans (congrArg (arr.size + ·) ?_)
      by_cases h : a < l.length
      · rw [List.drop_eq_getElem_cons h, List.take_succ_cons, List.count_cons_of_ne]
        intro e
        exact z (List.getElem?_eq_some_iff.mpr ⟨h, e⟩)
      · rw [List.drop_of_length_le (by omega), List.drop_of_length_le (by omega)]
        simp
theorem count_S (l : List Nat) (c : Nat) : Txt.count (S l) (S [c]) = ((l.count c : Nat) : Int) := by
  unfold Txt.count
  rw [StrLaws.occ_eq, Array.length_toList, occ_count l c _ _ _ _ _ (Nat.le_refl _) (by simp)]
  have e : (l.drop 0).take ((S l).length + 1 - 0) = l := by
    rw [List.drop_zero, S_len, List.take_of_length_le (by omega)]
  rw [e]
  simp
theorem index_S {l : List Nat} {c k : Nat} (h : nextP l 0 c = some k) : ∃ r, occurrences (S l) (S [c]) 0 (S l).length 1 = k :: r := by
  obtain ⟨_, h1, h2⟩ := nextP_some.mp h
  rcases StrLaws.occ_head (S l) (S [c]) 1 (Nat.le_refl _) with ⟨_, z⟩ | ⟨i, r, e, z1, z2⟩
  · exact absurd (at_S.mpr h1) (z k)
  · refine ⟨r, ?_⟩
    have e1 := at_S.mp z1
    rcases Nat.lt_trichotomy i k with q | q | q
    · exact absurd e1 (h2 i (Nat.zero_le _) q)
    · rw [e, q]
    · exact absurd (at_S.mpr h1) (z2 k q)
end
def rCount (x : V) (xs : List V) (H : Hp) (Q : VK) : Prop := ∃ (l : List Nat) (c : Nat), x = .str (S l) ∧ xs = [.str (S [c])] ∧ Q (.int ((l.count c : Nat) : Int)) H
def rIndex1 (x : V) (xs : List V) (H : Hp) (Q : VK) : Prop := ∃ (l : List Nat) (c k : Nat), x = .str (S l) ∧ xs = [.str (S [c])] ∧ nextP l 0 c = some k ∧ Q (.int (k : Int)) H
/-- xs < ys of lists of ints -/
def rLtL (K : PySem.W.Frag) : R2 := fun x y H Q => ∃ (a b : Addr) (ns ms : List Int), x = .ref a ∧ y = .ref b ∧ SqL K H a (ns.map V.int) ∧ SqL K H b (ms.map V.int) ∧ Q (.bl (HT.lexLt ns ms)) H
section
variable {X : Cx}
theorem firstLt_lex : ∀ (ns ms : List Int), SeqAt.firstLt (fun j => decide (ns.getD j 0 = ms.getD j 0)) (fun j => decide (ns.getD j 0 < ms.getD j 0)) (decide (ns.length < ms.length)) (List.range (min ns.length ms.length)) = HT.lexLt ns ms := by
  have gen : ∀ (ns ms : List Int) (a b : List Int), a.length = b.length → SeqAt.firstLt (fun j => decide ((a ++ ns).getD j 0 = (b ++ ms).getD j 0)) (fun j => decide ((a ++ ns).getD j 0 < (b ++ ms).getD j 0)) (decide (ns.length < ms.length)) (List.range' a.length (min ns.length ms.length)) = HT.lexLt ns ms := by
    intro ns
    induction ns with
    | nil =>
      intro ms a b e
      cases ms with
      | nil => rfl
      | cons m ms => rfl
    | cons n ns ih =>
      intro ms a b e
      cases ms with
      | nil => rfl
      | cons m ms =>
        have e1 : (a ++ n :: ns).getD a.length 0 = n := by simp
        have e2 : (b ++ m :: ms).getD a.length 0 = m := by rw [e]; simp
        have e3 : min (n :: ns).length (m :: ms).length = min ns.length ms.length + 1 := by simp only [List.length_cons]; omega
        rw [e3, List.range'_succ, HT.lexLt_cons]
        have u1 : (decide ((a ++ n :: ns).getD a.length 0 = (b ++ m :: ms).getD a.length 0)) = decide (n = m) := by rw [e1, e2]
        have u2 : (decide ((a ++ n :: ns).getD a.length 0 < (b ++ m :: ms).getD a.length 0)) = decide (n < m) := by rw [e1, e2]
        by_cases z : n = m
        · have ih2 := ih ms (a ++ [n]) (b ++ [m]) (by simp [e])
          simp only [List.append_assoc, List.singleton_append, List.length_append, List.length_singleton] at ih2
          have e4 : decide ((n :: ns).length < (m :: ms).length) = decide (ns.length < ms.length) := by simp
          rw [SeqAt.firstLt_yes (u1.trans (decide_eq_true z)), if_pos z, e4, ← ih2]
        · rw [SeqAt.firstLt_no (u1.trans (decide_eq_false z)), if_neg z]
          exact u2
  intro ns ms
  have := gen ns ms [] [] rfl
  rw [List.range_eq_range']
  exact this
theorem op_ltL (hu : X.A.units + 64 < cLine) : OpR X (compareOp .Lt) (rLtL X.K) := by
  intro pins s σ H x y v u Q I rx ry h
  obtain ⟨a, b, ns, ms, rfl, rfl, ha, hb, q⟩ := h
  cases rx
  cases ry
  obtain ⟨its, r1, p1, _⟩ := I.list ha
  obtain ⟨its2, r2, p2, _⟩ := I.list hb
  have i1 : IntsAre its ns := intsAre_of r1
  have i2 : IntsAre its2 ms := intsAre_of r2
  have l1 : s.heap.IsList a its.toArray := p1.isList
  have l2 : s.heap.IsList b its2.toArray := p2.isList
  have e1 : its.toArray.size = ns.length := by rw [List.size_toArray]; exact i1.length
  have e2 : its2.toArray.size = ms.length := by rw [List.size_toArray]; exact i2.length
  have at1 : ∀ j (h1 : j < its.toArray.size), ∃ t, its.toArray[j] = .int (ns.getD j 0) t := fun j h1 => PyProof.Rows.IntsAre.int_at i1 j _ (by rw [List.size_toArray] at h1; rw [List.getElem?_eq_getElem h1]; simp)
  have at2 : ∀ j (h1 : j < its2.toArray.size), ∃ t, its2.toArray[j] = .int (ms.getD j 0) t := fun j h1 => PyProof.Rows.IntsAre.int_at i2 j _ (by rw [List.size_toArray] at h1; rw [List.getElem?_eq_getElem h1]; simp)
  have key := SeqAt.RcLt.lists (A := X.A) (s := s) (e := fun j => decide (ns.getD j 0 = ms.getD j 0)) (r := fun j => decide (ns.getD j 0 < ms.getD j 0)) l1 l2 (by omega) (fun j h1 h2 => by
      obtain ⟨t1, q1⟩ := at1 j h1
      obtain ⟨t2, q2⟩ := at2 j h2
      rw [q1, q2]
      exact SeqAt.EqAt.int_int _ _ _ _) (fun j h1 h2 _ => by
      obtain ⟨t1, q1⟩ := at1 j h1
      obtain ⟨t2, q2⟩ := at2 j h2
      rw [q1, q2]
      exact fun prog w E Q hq => PyProof.Rows.lt_int hq)
  rw [e1, e2, firstLt_lex] at key
  exact key X.prog X.w _ _ ⟨.bl _, H, I, rfl, q⟩
theorem mt_countS : MtR X "str.count" rCount := by
  intro pins s σ H x xs v us Q I rx r h
  obtain ⟨l, c, rfl, rfl, q⟩ := h
  refine mt_count pins s σ H _ _ v us Q I rx r ⟨_, _, rfl, rfl, ?_⟩
  rw [count_S]
  exact q
theorem mt_index1S : MtR X "str.index" rIndex1 := by
  intro pins s σ H x xs v us Q I rx r h
  obtain ⟨l, c, k, rfl, rfl, hk, q⟩ := h
  obtain ⟨rest, e⟩ := index_S hk
  exact mt_sindex pins s σ H _ _ v us Q I rx r ⟨_, _, k, rest, rfl, rfl, e, q⟩
end
section
variable {K : PySem.W.Frag} {H : Hp} {Q : VK}
theorem i_count {l : List Nat} {c : Nat} (h : Q (.int ((l.count c : Nat) : Int)) H) : rCount (.str (S l)) [.str (S [c])] H Q := ⟨l, c, rfl, rfl, h⟩
theorem i_index1 {l : List Nat} {c k : Nat} (hk : nextP l 0 c = some k) (h : Q (.int (k : Int)) H) : rIndex1 (.str (S l)) [.str (S [c])] H Q := ⟨l, c, k, rfl, rfl, hk, h⟩
end
/-- while: an invariant with what falls -/
theorem wh {tt : TT} {tb : TS} {D : Ends} {σ : L2.St} {H : Hp} (W : Nat → L2.St → Hp → Prop) (m : Nat) (h0 : W m σ H)
    (step : ∀ m σ H, W m σ H → tt σ H fun b H1 => if b = true then ∃ N : L2.St → Hp → Prop, (∀ σ' H', N σ' H' → ∃ m', m' < m ∧ W m' σ' H') ∧ tb { D with nx := N, ct := N, bk := D.nx } σ H1 else D.nx σ H1) : tWhile tt tb D σ H :=
  ⟨W, ⟨m, h0⟩, step⟩
theorem i_turn {tb : TS} {σ : L2.St} {H1 : Hp} {r : VK} {b : L2.St → Hp → Prop} {W : Nat → L2.St → Hp → Prop} {m : Nat} (h : tb { nx := fun σ' H' => ∃ m', m' < m ∧ W m' σ' H', rt := r, bk := b, ct := fun σ' H' => ∃ m', m' < m ∧ W m' σ' H' } σ H1) :
    ∃ N : L2.St → Hp → Prop, (∀ σ' H', N σ' H' → ∃ m', m' < m ∧ W m' σ' H') ∧ tb { nx := N, rt := r, bk := b, ct := N } σ H1 := ⟨_, fun _ _ h => h, h⟩
end Lv

set_option Elab.async false
set_option linter.all false
set_option maxRecDepth 100000
set_option maxHeartbeats 2000000
namespace Lv
open PySem PySem.Spec PyProof.Rows L2 SX
/-! zip of two lists -/
section
variable {K : PySem.W.Frag} {g : TG} {tb : TS} {D : Ends} {σ : L2.St} {H : Hp} {te : TE} {tt : TT} {vs : List Nat} {Q : VK} {R : It → Hp → Prop} {ta : TA} {a b : Addr} {xs ys : List V}
abbrev YZ (xs ys : List V) : Nat → List V → Prop := fun i zs => ∃ x y, xs[i]? = some x ∧ ys[i]? = some y ∧ zs = [x, y]
theorem c_z (h : LcG (fun H => SqL K H a xs ∧ SqL K H b ys) (min xs.length ys.length) (YT (YZ xs ys)) g tt te vs σ H Q) : LcJ (Itz K a b) g tt te vs σ H Q := by
  refine lcG_ok ((walk_zip rfl).mono (fun _ h => h) fun i H x H' hi _ y => ?_) h
  obtain ⟨T, x1, y1, h1, h2, h3, h4, h5⟩ := y
  exact ⟨T, _, h1, h2, h3, x1, y1, h4, h5, rfl⟩
theorem f_z (h : ForG (fun H => SqL K H a xs ∧ SqL K H b ys) (min xs.length ys.length) (YT (YZ xs ys)) g tb D σ H) : ForJ (Itz K a b) g tb D σ H := by
  refine forG_ok ((walk_zip rfl).mono (fun _ h => h) fun i H x H' hi _ y => ?_) h
  obtain ⟨T, x1, y1, h1, h2, h3, h4, h5⟩ := y
  exact ⟨T, _, h1, h2, h3, x1, y1, h4, h5, rfl⟩
theorem i_zip (h : ta σ H fun vs H1 => ∃ a b xs ys, vs = [.ref a, .ref b] ∧ SqL K H1 a xs ∧ SqL K H1 b ys ∧ R (Itz K a b) H1) : iZip K ta σ H R := h
end
theorem iteR {α : Type} {a : α} {i : Decidable (a = a)} {A B : Prop} (h : A) : if decide (a = a) = true then A else B := by rw [if_pos (decide_eq_true rfl)]; exact h
theorem iteNR {α : Type} {a : α} {i : Decidable (a = a)} {A B : Prop} (h : B) : if (!decide (a = a)) = true then A else B := by rw [if_neg (by simp)]; exact h
/-- quotients of any size -/
abbrev rDivW : R2 := rI CDivW fun i j => .int (i / j)
theorem divW_ok {i j : Int} (h : 0 < j) (h2 : j.natAbs < 2 ^ 200) : CDivW i j := wide_div (b := 200) h h2 (by decide) (by decide)
/-- products of any size -/
abbrev rMulW : R2 := rI CMulW fun i j => .int (i * j)
theorem mulW_ok {i j : Int} (h1 : i.natAbs < 2 ^ 200) (h2 : j.natAbs < 2 ^ 200) : CMulW i j := wide_mul (a := 200) (b := 200) h1 h2 (by decide) (by decide) (by decide)
/-! small calls -/
def rAbs : List V → Hp → VK → Prop := fun xs H Q => ∃ i : Int, xs = [.int i] ∧ Q (.int (if i < 0 then -i else i)) H
def rMax2 : List V → Hp → VK → Prop := fun xs H Q => ∃ i j : Int, xs = [.int i, .int j] ∧ Q (.int (if j > i then j else i)) H
def rMin2 : List V → Hp → VK → Prop := fun xs H Q => ∃ i j : Int, xs = [.int i, .int j] ∧ Q (.int (if j < i then j else i)) H
section
variable {X : Cx}
theorem call_absI : CallR X (.builtin "abs") rAbs := call_abs
theorem call_maxI (hc : X.calm = true) : CallR X (.builtin "max") rMax2 := call_max2 hc
theorem call_minI (hc : X.calm = true) : CallR X (.builtin "min") rMin2 := call_min2 hc
end
section
variable {K : PySem.W.Frag} {H : Hp} {Q : VK} {σ : L2.St}
theorem i_abs {i : Int} (h : Q (.int (if i < 0 then -i else i)) H) : rAbs [.int i] H Q := ⟨i, rfl, h⟩
theorem i_max2 {i j : Int} (h : Q (.int (if j > i then j else i)) H) : rMax2 [.int i, .int j] H Q := ⟨i, j, rfl, h⟩
theorem i_min2 {i j : Int} (h : Q (.int (if j < i then j else i)) H) : rMin2 [.int i, .int j] H Q := ⟨i, j, rfl, h⟩
theorem i_maxL {a : Addr} {ns : List Int} (hp : SqL K H a (ns.map V.int)) (h0 : 0 < ns.length) (h : ∀ m, m ∈ ns → (∀ y, y ∈ ns → y ≤ m) → Q (.int m) H) : rMax K [.ref a] H Q := ⟨a, ns, rfl, hp, h0, h⟩
theorem i_minL {a : Addr} {ns : List Int} (hp : SqL K H a (ns.map V.int)) (h0 : 0 < ns.length) (h : ∀ m, m ∈ ns → (∀ y, y ∈ ns → m ≤ y) → Q (.int m) H) : rMin K [.ref a] H Q := ⟨a, ns, rfl, hp, h0, h⟩
theorem i_reverse {a : Addr} {xs : List V} (hp : H a = some (.lst xs)) (h : Q .non (L2.upd H a (.lst xs.reverse))) : rReverse (.ref a) [] H Q := ⟨a, xs, rfl, rfl, hp, h⟩
theorem i_lstRg {te : L2.St → Hp → (Int → Int → Hp → Prop) → Prop} (h : te σ H fun a b H1 => RgOk a b ∧ ∀ q, H1 q = none → Q (.ref q) (L2.upd H1 q (.lst (rgV a b)))) : tLstRg te σ H Q := h
theorem i_rg1 {ta : TE} {R : Int → Int → Hp → Prop} (h : ta σ H fun x H1 => ∃ n, x = .int n ∧ R 0 n H1) : tRg1 ta σ H R := h
theorem i_ixT {p : Addr} {xs : List V} {n : Int} {v : V} (hp : SqT K H p xs) (hn : atI xs n = some v) (h : Q v H) : rIxT K (.ref p) (.int n) H Q := ⟨p, xs, n, v, rfl, rfl, hp, hn, h⟩
end
end Lv

set_option Elab.async false
set_option linter.all false
set_option maxRecDepth 100000
set_option maxHeartbeats 3200000
namespace Lv
open PySem PySem.Spec PyProof.Rows L2 SX
section
variable {P : Program} {w : World} {A : Around} {E : Value → Shared → Prop} {s : Shared} {a : Addr}
set_option maxHeartbeats 6400000 in
theorem call_setListI {l : Addr} {items : Array Value} {ns : List Int} (hl : s.heap.IsList l items) (hx : IntsAre items.toList ns) {Q : Value → Shared → Prop} (hh : A.handled = none) (hb : ns.length + 1 < scanBound)
    (h : ∀ (h' : Heap) (tk c : Nat), c ≤ ns.length → SetR w h' s.heap.objs.size (fun j => decide (j ∈ ns)) c → (∀ b o, s.heap.get? b = some o → h'.get? b = some o) → Q (.ref s.heap.objs.size) { s with heap := h', toks := tk }) :
    wpAny (model P w) A (call (.type "set") [.ref l]) Q E s := by
  obtain ⟨cc, tl, mroE⟩ := F.called_set.mro
  have madeE := F.called_set.made
  have subE := F.called_set.sub
  refine wpAny_call (codeAny_of_tree (show wpAny _ _ (callAny (.type "set") _) _ _ _ from ?_))
  refine wpAny_pure ⟨Code.quiet_builtin _ (by decide +kernel), codeAny_builtin F.entry_type_call ?_⟩
  rw [Around.under_plain (weight_type_call_type "set" [.ref l] []) rfl]
  have c1 := F.called_set.notType
  have c2 := F.called_set.canCreate
  have c3 := F.typeCall_set_1 (.ref l)
  repeat (any_goals (first | assumption | wp_step))

  refine codeAny_mono (code_set_led1 (.ref l) (E := E) (Q₁ := fun obj s₁ => obj = .ref s.heap.objs.size ∧ s₁ = { s with heap := s.heap.push (newSet w) }) ⟨rfl, rfl⟩) fun r s₁ hr => ?_
  cases r with
  | error e => exact hr
  | ok fl =>
    cases fl with
    | ret obj =>
      obtain ⟨rfl, rfl⟩ := hr
      have qS : (s.heap.push (newSet w)).get? s.heap.objs.size = some (newSet w) := Heap.get?_push_size _ rfl
      have qT : Shared.TypeIs { s with heap := s.heap.push (newSet w) } (.ref s.heap.objs.size) "set" := ⟨_, qS, rfl⟩
      have i1 := F.called_set.init.lookup
      have i2 := F.called_set.init.bind (.ref s.heap.objs.size)
      repeat (any_goals (first | assumption | wp_step))

      refine codeAny_mono (codeAny_call_builtin (R := wants (fun r s₂ => r = .none ∧ ∃ h' tk c, s₂ = { s with heap := h', toks := tk } ∧ c ≤ ns.length ∧ SetR w h' s.heap.objs.size (fun j => decide (j ∈ ns)) c ∧
          (∀ b o, s.heap.get? b = some o → h'.get? b = some o)) E) F.called_set.init.plain F.entry_set_init (check_set_init_1 qT ?_)) fun r₂ s₂ hr₂ => ?_
      · have hne : (Value.type "list" == Value.type "dict") = false := by decide
        have hs1 := F.sub_list_set
        have hs2 := F.sub_list_frozenset
        have lst1 := hl.push (newSet w)
        obtain ⟨lo, hlo, hlc, ln, hld⟩ := hl
        obtain ⟨ocls, odict, odata, oslots⟩ := lo
        simp only at hlc hld
        subst hlc; subst hld
        have hlo' : (s.heap.push (newSet w)).get? l = some { cls := .type "list", dict := odict, data := .seq items ln, slots := oslots } := Heap.get?_push_of_some _ hlo
        unfold Builtin.«set.__init__» noKeywords Builtin.Frozenset.updateFrom
        generalize hPI : pyIter = PI
        wp_walk
        subst hPI
        refine wpAny_pyIter_list lst1 ?_
        refine wpAny_bind (wpAny_runValue ?_)
        have sz1 : (s.heap.push (newSet w)).objs.size = s.heap.objs.size + 1 := Heap.size_push ..
        have ltl : l < s.heap.objs.size := Heap.lt_size hlo
        have nel : l ≠ (s.heap.push (newSet w)).objs.size := by rw [sz1]; exact Nat.ne_of_lt (Nat.lt_succ_of_lt ltl)
        have lenE : items.size = ns.length := by rw [← hx.length, Array.length_toList]
        have hh3 : A.in1.in1.in1.handled = none := by simp [hh]
        refine set_update_ints ((Walks.list hh3 _ l nel items).toS) s.heap.objs.size ?_ ns lenE hb ?_ (items.size - 0) 0 _ (by omega) (Nat.zero_le _) ⟨⟨_, Heap.get?_push_size _ rfl, rfl, rfl⟩, lst1.push _⟩ ?_ ?_
        · rw [sz1]
          simp only [List.mem_cons, List.not_mem_nil, or_false, not_or]
          exact ⟨Nat.ne_of_lt (Nat.lt_succ_self _), Nat.ne_of_gt ltl⟩
        · intro i v hv
          have hi : i < ns.length := by rw [← lenE]; exact (Array.getElem?_eq_some_iff.mp hv).1
          obtain ⟨t1, e1⟩ := PyProof.Rows.IntsAre.int_at hx i v (by rw [Array.getElem?_toList]; exact hv)
          refine ⟨ns[i], t1, List.getElem?_eq_getElem hi, ?_⟩
          rw [e1, List.getD_eq_getElem?_getD, List.getElem?_eq_getElem hi]
          rfl
        · exact ⟨0, Nat.le_refl 0, setR_new_at (Heap.get?_push_of_some _ qS)⟩
        · intro s' c1 hm hc1 S1
          obtain ⟨h', g2, d2, tk2, os2⟩ := s'
          have eg : g2 = s.gens := hm.gens
          have ed : d2 = s.drawn := hm.drawn
          have eo : os2 = s.os := hm.os
          subst eg; subst ed; subst eo
          rw [lenE] at hc1
          refine wpAny_pure (show wpAny _ _ (ret Value.none) _ _ _ from wpAny_pure ⟨rfl, h', tk2, c1, rfl, hc1, S1, fun b o e => ?_⟩)
          have lt0 : b < s.heap.objs.size := Heap.lt_size e
          refine hm.heap b o ?_ (Heap.get?_push_of_some _ (Heap.get?_push_of_some _ e))
          rw [sz1]
          simp only [List.mem_cons, List.not_mem_nil, or_false, not_or]
          exact ⟨Nat.ne_of_lt lt0, Nat.ne_of_lt (Nat.lt_succ_of_lt lt0)⟩
      · cases r₂ with
        | error e => exact hr₂
        | ok fl₂ =>
          cases fl₂ with
          | ret r =>
            obtain ⟨rfl, h', tk, c0, rfl, C1, S1, keep1⟩ := hr₂
            repeat (any_goals (first | assumption | wp_step))
            exact h _ _ _ C1 S1 keep1
          | _ => exact hr₂.elim
    | _ => exact hr.elim
end
end Lv

set_option Elab.async false
set_option linter.all false
set_option maxRecDepth 100000
set_option maxHeartbeats 3200000
namespace Lv
open PySem PySem.Spec PyProof.Rows L2 SX
/-! ### sorted(set(list of ints)), any number of them -/
section
variable {P : Program} {w : World} {A : Around} {E : Value → Shared → Prop} {s : Shared} {a : Addr}
theorem sorted_setI {Z : Int → Bool} {n : Nat} {Q : Value → Shared → Prop} (R : SetR w s.heap a Z n) (hh : A.handled = none)
    (hQ : ∀ s' p (out : Array Value) (c : Nat) (ys : List Int), (∀ b o, s.heap.get? b = some o → s'.heap.get? b = some o) → s'.gens = s.gens → s'.os = s.os → s.heap.objs.size ≤ p →
      s'.heap.get? p = some (seqObj "list" out c) → IntsAre out.toList ys → ys.Pairwise (· < ·) → (∀ k, k ∈ ys ↔ Z k = true) → ys.length = n → Q (.ref p) s') :
    wpAny (model P w) A (call (.builtin "sorted") [.ref a]) Q E s := by
  obtain ⟨o, es, ep, t, qo, qx, qd, g, nd, hm, hb, hf, hn, hr, hl⟩ := R
  refine Calls.call_function_entry kind_sorted plain_sorted entry_sorted (args_sorted1 _) ?_
  unfold Builtin.«sorted»
  refine wpAny_bind (m := checkCount "sorted" 1 1 _) (wpAny_pure (wpAny_bind (collect_set (A := A.in1) hh ⟨o, qo, qx.1, qd⟩ hf hb hr hl fun s1 vs k1 z1 g1 o1 pm => ?_)))
  have lenV : vs.length = es.size := by rw [pm.length_eq, List.length_map, Array.length_toList]
  have intV : IntsAre vs (vs.map Builtin.Re.reRawOf) := ints_of vs fun v hv => by
    obtain ⟨e, he, q⟩ := List.mem_map.mp (pm.mem_iff.mp hv)
    obtain ⟨k, tk, h1, _⟩ := g e he
    exact ⟨k, tk, by rw [← q]; exact h1⟩
  have pk : (vs.map Builtin.Re.reRawOf).Perm (es.toList.map keyOf) := by
    have q := pm.map Builtin.Re.reRawOf
    rw [List.map_map] at q
    exact q
  have lenL : vs.length ≤ sizeLine := by
    rw [lenV, sizeLine_eq]
    have : es.size < scanBound := hb
    unfold scanBound at this
    omega
  refine wpAny_bind (wpAny_newList ?_ lenL)
  have qL : (s1.heap.push (seqObj "list" vs.toArray 0)).get? s1.heap.objs.size = some (seqObj "list" vs.toArray 0) := Heap.get?_push_size _ rfl
  refine wpAny_bind (wpAny_holding (wpAny_call_entry slot_list_sort ⟨_, qL, rfl⟩ entry_list_sort (SrtO.list_sort_ord SrtO.swo_int qL lenL (fun h2 => SrtO.ints_sortable intV h2) fun out hs hp => ⟨_, rfl, ?_⟩) (args_list_sort _)))
  obtain ⟨a1, a2, a3⟩ := SrtO.ints_out intV hs hp
  obtain ⟨c, hc⟩ := sortedHeap_at (vs := vs) (out := out.toArray) qL
  have pn : (out.map SrtO.iv).Perm (es.toList.map keyOf) := a2.trans pk
  refine wpAny_pure ⟨_, rfl, hQ _ s1.heap.objs.size _ c (out.map SrtO.iv) (fun b u e => ?_) g1 o1 z1 hc (by simpa using a1) (lt_of_le_nodup _ a3 (pn.nodup_iff.mpr nd)) (fun k => by rw [pn.mem_iff, ← hm k]) (by rw [pn.length_eq, List.length_map, Array.length_toList]; exact hn)⟩
  have q := k1 b u e
  have lt1 := Heap.lt_size q
  show (sortedHeap (s1.heap.push (seqObj "list" vs.toArray 0)) s1.heap.objs.size vs _).get? b = some u
  rw [sortedHeap_old (Nat.ne_of_lt lt1) (by rw [size_push']; exact Nat.lt_succ_of_lt lt1)]
  exact Heap.get?_push_of_some _ q
end
/-- the unlike ints of a list, rising -/
def tSortSetI (K : PySem.W.Frag) (ta : TA) : TE := fun σ H Q => ta σ H fun xs H1 => ∃ (a : Addr) (ns : List Int), xs = [.ref a] ∧ SqL K H1 a (ns.map V.int) ∧ ns.length ≤ 1000 ∧ ∀ (ys : List Int) (p : Addr), ys.Pairwise (· < ·) → (∀ c, c ∈ ys ↔ c ∈ ns) → H1 p = none → Q (.ref p) (upd H1 p (.lst (ys.map V.int)))
theorem i_sortSetI {K : PySem.W.Frag} {σ : L2.St} {H : Hp} {Q : VK} {ta : TA} (h : ta σ H fun xs H1 => ∃ (a : Addr) (ns : List Int), xs = [.ref a] ∧ SqL K H1 a (ns.map V.int) ∧ ns.length ≤ 1000 ∧ ∀ (ys : List Int) (p : Addr), ys.Pairwise (· < ·) → (∀ c, c ∈ ys ↔ c ∈ ns) → H1 p = none → Q (.ref p) (upd H1 p (.lst (ys.map V.int)))) : tSortSetI K ta σ H Q := h
section
variable {X : Cx} {e : Expr} {ta : TA} {p1 p2 pos pos2 : Pos}
theorem pe_sortSetI (hc : X.calm = true) (hg1 : Gl X "sorted") (hm1 : X.mg "sorted" = none) (hg2 : Gl X "set") (hm2 : X.mg "set" = none) (ha : PA X [e] ta)
    (hs : starEach [e] X.env = [(false, eval e X.env)] := by rfl) (hs2 : starEach [.Call (.Name "set" p2) [e] [] pos2] X.env = [(false, eval (.Call (.Name "set" p2) [e] [] pos2) X.env)] := by rfl) :
    PE X (.Call (.Name "sorted" p1) [.Call (.Name "set" p2) [e] [] pos2] [] pos) (tSortSetI X.K ta) := by
  refine ⟨fun pins s σ H Q I h => ?_⟩
  refine wpAny_Call_Name_kw (ld_blt I hg1 hm1 (by decide +kernel : bootBuiltins "sorted" = some (.builtin "sorted")) ?_)
  refine callWith_builtin1 ?_ hs2 rfl
  rw [hs2]
  refine Calls.spliced_cons ?_
  refine wpAny_Call_Name_kw (ld_blt I hg2 hm2 boot_set (callWith_type1 (thn (ha.run pos2 pins s σ H _ I h) fun us s1 ⟨vs, H1, I1, r1, q1⟩ => ?_) hs rfl))
  obtain ⟨lp, ns, rfl, hq1, hl, q⟩ := q1
  cases r1 with
  | cons r rr =>
    cases rr
    cases r
    have hd := I1.ok.hd hc
    obtain ⟨its, rv, pt, hz0⟩ := I1.list hq1
    have st2 : IntsAre its.toArray.toList ns := by
      have := rv.ints
      simpa using this
    have pt2 : s1.heap.IsList lp its.toArray := pt.isList
    refine call_setListI pt2 st2 hd (by unfold scanBound; omega) fun h' tk c0 hc0 R1 keep => ?_
    refine Calls.spliced_nil ?_
    refine sorted_setI (s := { s1 with heap := h', toks := tk }) R1 hd fun s' p out c ys k g o hp hq hi hs3 hm hle => ?_
    have lenZ : (ys.map V.int).length ≤ sizeLine := by
      rw [List.length_map]
      exact le_line (by omega)
    have k' : ∀ b u, s1.heap.get? b = some u → s'.heap.get? b = some u := fun b u e => k b u (keep b u e)
    have hp' : s1.heap.objs.size ≤ p := Nat.le_trans (Nat.le_of_lt R1.lt) hp
    have hn1 : H1 p = none := I1.hok.fresh hp'
    have J : Inv X pins σ (upd H1 p (.lst (ys.map V.int))) { s1 with heap := s'.heap, gens := s'.gens, drawn := s'.drawn, toks := s'.toks } :=
      I1.call (ch := []) (Un.laid k' hp' hn1) (I1.hok.laid k' hp' ⟨lenZ, out.toList, c, vals_of_ints hi, hq⟩) (by rw [g]; exact I1.bare) (fun _ z => nomatch z)
    have es : s' = { s1 with heap := s'.heap, gens := s'.gens, drawn := s'.drawn, toks := s'.toks } := by
      cases s'
      cases o
      rfl
    rw [es]
    refine ⟨.ref p, _, J, rfl, q ys p hs3 (fun j => ?_) hn1⟩
    rw [hm j, decide_eq_true_iff]
end
/-- a test behind a test: what it tells is known -/
theorem if_ttF {c : Bool} {t : TT} {σ : L2.St} {H : Hp} {Q : Bool → Hp → Prop} (h : c = true → ∀ Q' : Bool → Hp → Prop, Q' false H → t σ H Q') (k : Q false H) : if c = true then t σ H Q else Q false H := by
  cases c
  · exact k
  · exact h rfl Q k
section
variable {A B : Prop}
theorem iteFT {i : Decidable (false = true)} (h : B) : if decide (false = true) = true then A else B := by rw [if_neg (by simp)]; exact h
theorem iteTF {i : Decidable (true = false)} (h : B) : if decide (true = false) = true then A else B := by rw [if_neg (by simp)]; exact h
theorem iteNFT {i : Decidable (false = true)} (h : A) : if (!decide (false = true)) = true then A else B := by rw [if_pos (by simp)]; exact h
theorem iteNTF {i : Decidable (true = false)} (h : A) : if (!decide (true = false)) = true then A else B := by rw [if_pos (by simp)]; exact h
end
end Lv

set_option Elab.async false
set_option linter.all false
set_option maxRecDepth 100000
set_option maxHeartbeats 3200000
namespace Lv
open PySem PySem.Spec PyProof.Rows L2 SX
/-! ### comprehensions whose turns leave what stood -/
section
variable {J : It} {n : Nat} {G : Hp → Prop} {Y : Nat → Hp → V → Hp → Prop} {g : TG} {tt : TT} {te : TE} {vs : List Nat} {σ : L2.St} {H : Hp} {Q : VK} {K : PySem.W.Frag}
theorem range_fm {α β : Type} (f : α → Option β) : ∀ (xs : List α) (i : Nat) (c : α), xs[i]? = some c → (xs.take (i + 1)).filterMap f = (xs.take i).filterMap f ++ (f c).toList := fun xs i c h => by
  rw [List.take_add_one, h, List.filterMap_append]
  cases e : f c <;> simp [e]
theorem lcP (w : Walk J n G Y) {α : Type} (items : List α) (hn : items.length = n) (f : α → Option V) (h6 : n ≤ 1000000) (hG : ∀ H', Same H H' → G H')
    (step : ∀ i c x H' H'', items[i]? = some c → Same H H' → Y i H' x H'' → Same H' H'' ∧ ∀ (Yk : VK) (N : Hp → Prop), (∀ y, f c = some y → ∀ H4, Same H'' H4 → Yk y H4) → (f c = none → ∀ H4, Same H'' H4 → N H4) →
      g x (wipe σ vs) H'' fun σ2 H2 => wipe σ2 vs = wipe σ vs ∧ tt σ2 H2 fun b H3 => if b = true then te σ2 H3 Yk else N H3)
    (fin : ∀ D H', H D = none → Same H H' → H' D = some (.lst (items.filterMap f)) → Q (.ref D) H') : LcJ J g tt te vs σ H Q := by
  refine lcG_ok w fun D nD => ⟨fun i acc H' => acc = (items.take i).filterMap f ∧ Same H H', ⟨rfl, same_new nD⟩, fun i acc H' _ _ z => hG H' z.2, ?_, ?_⟩
  · rintro i acc x H' H'' hi hll hD ⟨rfl, sm⟩ y
    obtain ⟨c, hc⟩ : ∃ c, items[i]? = some c := ⟨items[i]'(by omega), List.getElem?_eq_getElem (by omega)⟩
    obtain ⟨s1, st⟩ := step i c x H' H'' hc sm y
    have e := range_fm f items i c hc
    refine st _ _ (fun v hv H4 s4 => ?_) (fun hv H4 s4 => ?_)
    · refine lc_put (s4 _ _ (s1 _ _ hD)) hll (by omega) ⟨?_, ?_⟩
      · rw [e, hv]; rfl
      · exact (sm.trans (s1.trans s4)).updN nD
    · refine lc_skip (s4 _ _ (s1 _ _ hD)) hll ⟨?_, sm.trans (s1.trans s4)⟩
      rw [e, hv]; simp
  · rintro acc H' _ hD ⟨rfl, sm⟩
    rw [List.take_of_length_le (by omega)] at hD
    exact fin D H' nD sm hD
/-- [e for x in list] by pure turns -/
theorem c_lP {α : Type} {a : Addr} (items : List α) (v : α → V) (f : α → Option V) (ha : SqL K H a (items.map v)) (h6 : items.length ≤ 1000000)
    (step : ∀ c H', c ∈ items → Same H H' → ∀ (Yk : VK) (N : Hp → Prop), (∀ y, f c = some y → ∀ H4, Same H' H4 → Yk y H4) → (f c = none → ∀ H4, Same H' H4 → N H4) →
      g (v c) (wipe σ vs) H' fun σ2 H2 => wipe σ2 vs = wipe σ vs ∧ tt σ2 H2 fun b H3 => if b = true then te σ2 H3 Yk else N H3)
    (fin : ∀ D H', H D = none → Same H H' → H' D = some (.lst (items.filterMap f)) → Q (.ref D) H') : LcJ (Itl K a) g tt te vs σ H Q := by
  refine lcP (walk_list (xs := items.map v)) items (by simp) f (by simpa using h6) (fun H' s => s.seq ha) ?_ fin
  rintro i c x H' H'' hc sm ⟨rfl, hx⟩
  rw [List.getElem?_map, hc] at hx
  have : v c = x := Option.some.inj hx
  subst this
  exact ⟨Same.refl _, step c H'' (List.mem_of_getElem? hc) sm⟩
theorem c_sP {l : List Nat} (f : Nat → Option V) (h6 : l.length ≤ 1000000)
    (step : ∀ c H', c ∈ l → Same H H' → ∀ (Yk : VK) (N : Hp → Prop), (∀ y, f c = some y → ∀ H4, Same H' H4 → Yk y H4) → (f c = none → ∀ H4, Same H' H4 → N H4) →
      g (.str (S [c])) (wipe σ vs) H' fun σ2 H2 => wipe σ2 vs = wipe σ vs ∧ tt σ2 H2 fun b H3 => if b = true then te σ2 H3 Yk else N H3)
    (fin : ∀ D H', H D = none → Same H H' → H' D = some (.lst (l.filterMap f)) → Q (.ref D) H') : LcJ (Its (S l)) g tt te vs σ H Q := by
  refine lcP walk_S l rfl f h6 (fun _ _ => trivial) ?_ fin
  rintro i c x H' H'' hc sm ⟨rfl, c2, hc2, rfl⟩
  rw [hc] at hc2
  cases hc2
  exact ⟨Same.refl _, step c H'' (List.mem_of_getElem? hc) sm⟩
theorem c_rP {lo : Int} (f : Nat → Option V) (h6 : n ≤ 1000000)
    (step : ∀ k H', k < n → Same H H' → ∀ (Yk : VK) (N : Hp → Prop), (∀ y, f k = some y → ∀ H4, Same H' H4 → Yk y H4) → (f k = none → ∀ H4, Same H' H4 → N H4) →
      g (.int (lo + (k : Int))) (wipe σ vs) H' fun σ2 H2 => wipe σ2 vs = wipe σ vs ∧ tt σ2 H2 fun b H3 => if b = true then te σ2 H3 Yk else N H3)
    (fin : ∀ D H', H D = none → Same H H' → H' D = some (.lst ((List.range n).filterMap f)) → Q (.ref D) H') : LcJ (Itr lo n) g tt te vs σ H Q := by
  refine lcP walk_range (List.range n) (by simp) f h6 (fun _ _ => trivial) ?_ fin
  rintro i c x H' H'' hc sm ⟨rfl, rfl⟩
  have e : c = i := by
    have := List.getElem?_eq_some_iff.mp hc
    obtain ⟨_, h⟩ := this
    rw [← h, List.getElem_range]
  subst e
  exact ⟨Same.refl _, step c H'' (List.mem_range.mp (List.mem_of_getElem? hc)) sm⟩
end
theorem fm_map {α β : Type} (f : α → β) (l : List α) : l.filterMap (fun x => some (f x)) = l.map f := by
  induction l with
  | nil => rfl
  | cons a l ih => simp
theorem fm_if {α β : Type} {p : α → Prop} [DecidablePred p] (f : α → β) (l : List α) : l.filterMap (fun x => if p x then some (f x) else none) = (l.filter (fun x => decide (p x))).map f := by
  induction l with
  | nil => rfl
  | cons a l ih =>
    by_cases h : p a
    · rw [List.filterMap_cons, if_pos h, List.filter_cons_of_pos (by simp [h]), List.map_cons, ih]
    · rw [List.filterMap_cons, if_neg h, List.filter_cons_of_neg (by simp [h]), ih]
/-! ### text.index(sign, place) -/
section
open Builtin Builtin.Str
theorem index2_S {l : List Nat} {c i k : Nat} (hi : i ≤ l.length) (h : nextP l i c = some k) : ∃ r, occurrences (S l) (S [c]) (fromIndex (S l).length (i : Int)) (S l).length 1 = k :: r := by
  have e := find3_S l c i hi
  unfold findI at e
  rw [h] at e
  unfold Txt.find3 at e
  cases q : occurrences (S l) (S [c]) (fromIndex (S l).length (i : Int)) (S l).length 1 with
  | nil => rw [q] at e; simp at e
  | cons a r =>
    rw [q] at e
    refine ⟨r, ?_⟩
    have : (a : Int) = (k : Int) := e
    have : a = k := by omega
    rw [this]
end
def rIndex2 (x : V) (xs : List V) (H : Hp) (Q : VK) : Prop := ∃ (l : List Nat) (c i k : Nat), x = .str (S l) ∧ xs = [.str (S [c]), .int (i : Int)] ∧ i ≤ l.length ∧ nextP l i c = some k ∧ Q (.int (k : Int)) H
theorem mt_index2S {X : Cx} : MtR X "str.index" rIndex2 := by
  intro pins s σ H x xs v us Q I rx rs h
  obtain ⟨l, c, i, k, rfl, rfl, hi, hk, q⟩ := h
  obtain ⟨t, rfl⟩ := rx
  obtain ⟨rest, ho⟩ := index2_S hi hk
  cases rs with
  | cons r1 rs =>
    cases rs with
    | cons r2 rs =>
      cases rs
      obtain ⟨u, rfl⟩ := r1
      obtain ⟨z, rfl⟩ := r2
      exact call_gives PySem.F.slot_str_index (typeIs_str _ _ _) PySem.F.entry_str_index (PySem.F.args_str_index_3 _ _ _) (gives_str_index_from (S l) (S [c]) (i : Int) t u z k rest ho) ⟨.int (k : Nat), H, I.tok _, ⟨_, rfl⟩, q⟩
theorem i_index2 {l : List Nat} {c i k : Nat} {H : Hp} {Q : VK} (hi : i ≤ l.length) (hk : nextP l i c = some k) (h : Q (.int (k : Int)) H) : rIndex2 (.str (S l)) [.str (S [c]), .int (i : Int)] H Q := ⟨l, c, i, k, rfl, rfl, hi, hk, h⟩
/-! ### dicts by texts -/
section
variable {K : PySem.W.Frag} {D : Ends} {σ : L2.St} {H : Hp} {Q : VK} {td ty tv te : TE} {p : Addr} {kvs : List (Key × V)} {v : V} {l : List Nat}
theorem i_dnewK (h : ∀ p, H p = none → Q (.ref p) (upd H p (.dK []))) : tDNewK σ H Q := h
theorem i_dIn (h : ty σ H fun y H1 => td σ H1 fun x H2 => ∃ a o, x = .ref a ∧ DGet H2 a y o ∧ Q (.bl o.isSome) H2) : tDIn ty td σ H Q := h
theorem i_dNotIn (h : ty σ H fun y H1 => td σ H1 fun x H2 => ∃ a o, x = .ref a ∧ DGet H2 a y o ∧ Q (.bl (!o.isSome)) H2) : tDNotIn ty td σ H Q := h
theorem i_dGet (h : td σ H fun x H1 => ty σ H1 fun y H2 => ∃ a v, x = .ref a ∧ DGet H2 a y (some v) ∧ Q v H2) : tDGet td ty σ H Q := h
theorem i_dPut (h : tv σ H fun v H1 => td σ H1 fun x H2 => ty σ H2 fun y H3 => ∃ a H4, x = .ref a ∧ DPut H3 a y v H4 ∧ D.nx σ H4) : sDPut td ty tv D σ H := h
theorem i_dGet1 (h : td σ H fun x H1 => ∃ a, x = .ref a ∧ IsD H1 a ∧ ty σ H1 fun y H2 => ∃ o, DGet H2 a y o ∧ Q (o.getD .non) H2) : tDGet1 td ty σ H Q := h
theorem x_dGetS {R : V → Prop} (hd : Rd H p (.dK kvs)) (hv : valV kvs (.inr (S l)) = some v) (h : R v) : ∃ a v, V.ref p = .ref a ∧ DGet H a (.str (S l)) (some v) ∧ R v := ⟨p, v, rfl, .inl ⟨kvs, .inr (S l), hd, rfl, hv.symm⟩, h⟩
theorem x_dInS {R : Option V → Prop} (hd : Rd H p (.dK kvs)) (h : R (valV kvs (.inr (S l)))) : ∃ a o, V.ref p = .ref a ∧ DGet H a (.str (S l)) o ∧ R o := ⟨p, _, rfl, .inl ⟨kvs, .inr (S l), hd, rfl, rfl⟩, h⟩
theorem x_dPutS {R : Hp → Prop} (hd : H p = some (.dK kvs)) (hl : kvs.length < sizeLine) (h : R (upd H p (.dK (putK kvs (.inr (S l)) v)))) : ∃ a H4, V.ref p = .ref a ∧ DPut H a (.str (S l)) v H4 ∧ R H4 := ⟨p, _, rfl, .inl ⟨kvs, .inr (S l), hd, rfl, hl, rfl⟩, h⟩
end
def rDictD : List V → Hp → VK → Prop := fun xs H Q => ∃ (a : Addr) (kvs : List (Key × V)), xs = [.ref a] ∧ Rd H a (.dK kvs) ∧ ∀ p, H p = none → Q (.ref p) (upd H p (.dK kvs))
theorem call_dictD1 {X : Cx} : CallR X (.type "dict") rDictD := call_dictD
theorem i_dictD {a : Addr} {kvs : List (Key × V)} {H : Hp} {Q : VK} (hd : Rd H a (.dK kvs)) (h : ∀ p, H p = none → Q (.ref p) (upd H p (.dK kvs))) : rDictD [.ref a] H Q := ⟨a, kvs, rfl, hd, h⟩
/-- sorted(d): all keys texts, any number of them -/
def rSortedD : List V → Hp → VK → Prop := fun xs H Q => ∃ (a : Addr) (kvs : List (Key × V)) (ks : List (List Nat)), xs = [.ref a] ∧ Rd H a (.dK kvs) ∧ kvs.map (·.1) = ks.map (fun k => Sum.inr (S k)) ∧ ks.Nodup ∧ ks.length ≤ 1000000 ∧
  ∀ (ys : List (List Nat)) (p : Addr), ys.Pairwise (· < ·) → (∀ c, c ∈ ys ↔ c ∈ ks) → H p = none → Q (.ref p) (upd H p (.lst (ys.map Lv.vs)))
theorem call_sortedD1 {X : Cx} (hcalm : X.calm = true) : CallR X (.builtin "sorted") rSortedD := by
  intro pins s σ H xs us Q I r q
  obtain ⟨a, kvs, ks0, ex, hd, hks, hnd, h64, q⟩ := q
  subst ex
  obtain ⟨u, eu, rx⟩ := vals1 r
  subst eu
  cases rx
  obtain ⟨z, lo, vs, rel, dd⟩ := dk_rd I.hok hd
  obtain ⟨ep, hat⟩ := dd.dictAt
  have hks' : kvs.map (·.1) = (ks0.map S).map Sum.inr := by rw [hks, List.map_map]; rfl
  have hlen0 : (ks0.map S).length = ks0.length := List.length_map _
  have hnd' : (ks0.map S).Nodup := by
    refine List.Pairwise.map _ (fun a b h z => h (S_inj.mp z)) hnd
  have hmem : ∀ c, S c ∈ ks0.map S ↔ c ∈ ks0 := fun c => by
    rw [List.mem_map]
    exact ⟨fun ⟨d, h1, h2⟩ => by rw [← S_inj.mp h2]; exact h1, fun h => ⟨c, h, rfl⟩⟩
  have hall : ∀ y ∈ ks0.map S, ∃ c, y = S c := fun y hy => by
    obtain ⟨d, _, h2⟩ := List.mem_map.mp hy
    exact ⟨d, h2.symm⟩
  generalize ks0.map S = ks at hks' hlen0 hnd' hmem hall
  have hkeys : vs.map (·.1) = ks.map Sum.inr := rel.keys.symm.trans hks'
  have hl : vs.length = ks.length := by
    have e := congrArg List.length hkeys
    rw [List.length_map, List.length_map] at e
    exact e
  have h16 : vs.length ≤ sizeLine := by rw [hl, hlen0, sizeLine_eq]; omega
  refine Calls.call_function_entry PyProof.Rows.kind_sorted PyProof.Rows.plain_sorted PyProof.Rows.entry_sorted (PyProof.Rows.args_sorted1 _) ?_
  unfold Builtin.«sorted»
  refine wpAny_bind (m := checkCount "sorted" 1 1 _) (wpAny_pure ?_)
  refine wpAny_bind (PySem.W.kdu_collect (A := X.A.in1) (PySem.W.kdl_dict (knd := mixKind X.prog X.w) (kvs := vs) (ep := ep) lo) (I.ok.hd hcalm) hat h16 fun h' tk acc hk hacc => ?_)
  have hal : acc.toList.length = ks.length := by rw [Array.length_toList, hacc.1, hl]
  have hS : StrsAre acc.toList ks := L2.strs_at hal fun j v e => by
    obtain ⟨k, x, e1, e2⟩ := hacc.2 j v (by rw [← Array.getElem?_toList]; exact e)
    have e3 : (vs.map (·.1))[j]? = some k := by rw [List.getElem?_map, e1]; all_goals rfl
    rw [hkeys, List.getElem?_map] at e3
    cases e4 : ks[j]? with
    | none => rw [e4] at e3; cases e3
    | some y =>
      rw [e4] at e3
      have e5 : Sum.inr y = k := Option.some.inj e3
      subst e5
      obtain ⟨t, ev⟩ := Value.isStrOf_shape (x := y) (v := v) e2
      exact ⟨y, t, rfl, ev⟩
  have I1 : Inv X pins σ H { s with heap := h', toks := tk } := I.kept hk
  have lenL : acc.toList.length ≤ sizeLine := by rw [hal, hlen0, sizeLine_eq]; omega
  refine wpAny_bind (wpAny_newList ?_ lenL)
  have hoL : (h'.push (seqObj "list" acc.toList.toArray 0)).get? h'.objs.size = some (seqObj "list" acc.toList.toArray 0) := Heap.get?_push_size _ rfl
  show wpAny _ _ _ _ _ { s with heap := h'.push (seqObj "list" acc.toList.toArray 0), toks := tk }
  refine wpAny_bind (wpAny_holding (wpAny_call_entry PyProof.Rows.slot_list_sort ⟨_, hoL, rfl⟩ PyProof.Rows.entry_list_sort
    (list_sort_treeKAny strKind_oneLt (s := { s with heap := h'.push (seqObj "list" acc.toList.toArray 0), toks := tk }) hoL hS.keysOf (fun v₁ v₂ rest e => keyKind_strs (by rw [← e]; exact hS)) lenL fun st' hp hs => ⟨_, rfl, ?_⟩)
    (PyProof.Rows.args_list_sort _)))
  obtain ⟨ys, g1, g2, g3⟩ := sorted_out_str hS hp hs
  obtain ⟨e', he'⟩ := PyProof.Rows.sortedHeap_at (vs := acc.toList) (out := (arrOf st').map (·.2)) hoL
  have hlen : (ys.map V.str).length ≤ sizeLine := by
    rw [List.length_map, g2.length_eq, ← hal]
    exact lenL
  have pw := sortedS_lt g3 (g2.nodup_iff.mpr hnd')
  have eys : ys = (ys.map fun y => y.cps.toList).map S := by
    rw [List.map_map]
    refine (List.map_id ys).symm.trans (List.map_congr_left fun y hy => ?_)
    obtain ⟨c, rfl⟩ := hall y (g2.mem_iff.mp hy)
    rfl
  have mz : ∀ c, c ∈ (ys.map fun y => y.cps.toList) ↔ c ∈ ks0 := fun c => by
    rw [← hmem c, ← g2.mem_iff]
    constructor
    · intro hc
      rw [eys]
      exact List.mem_map.mpr ⟨c, hc, rfl⟩
    · intro hc
      rw [eys] at hc
      obtain ⟨d, h1, h2⟩ := List.mem_map.mp hc
      rw [← S_inj.mp h2]
      exact h1
  have ev : ys.map V.str = (ys.map fun y => y.cps.toList).map Lv.vs := by
    conv => lhs; rw [eys]
    rw [List.map_map]
    rfl
  refine wpAny_pure ⟨_, rfl, .ref h'.objs.size, upd H h'.objs.size (.lst (ys.map V.str)), I1.laid (t' := tk) (fun b u e => ?_) (Nat.le_refl _)
    (show ObjOk X.prog X.w _ _ _ (.lst (ys.map V.str)) from ⟨hlen, ((arrOf st').map (·.2)).toList, e', vals_of_strs g1, by rw [Array.toArray_toList]; exact he'⟩), rfl, by rw [ev]; exact q _ _ pw mz (I1.hok.fresh (Nat.le_refl _))⟩
  have hb : b < h'.objs.size := Heap.lt_size e
  rw [PyProof.Rows.sortedHeap_old (Nat.ne_of_lt hb) (by rw [size_push']; exact Nat.lt_succ_of_lt hb)]
  exact Heap.get?_push_of_some _ e
/-! ### [.. for k in d ..] -/
section
variable {K : PySem.W.Frag} {σ : L2.St} {H : Hp} {Q : VK} {g : TG} {tt : TT} {te td : TE} {vs : List Nat}
/-- a comprehension over a dict's keys (texts), by pure turns -/
theorem lcKeys {d : Addr} {kvs : List (Key × V)} {ks : List (List Nat)} (f : List Nat → Option V) (hd : H d = some (.dK kvs)) (hk : kvs.map (·.1) = ks.map (fun k => Sum.inr (S k))) (h6 : ks.length ≤ 1000000)
    (htd : ∀ (o : Obj) (Q' : VK), Q' (.ref d) (upd H d (.frz o (.dK kvs))) → td σ (upd H d (.frz o (.dK kvs))) Q')
    (step : ∀ (o : Obj) (c : List Nat) (H' : Hp), c ∈ ks → Same (upd H d (.frz o (.dK kvs))) H' → ∀ (Yk : VK) (N : Hp → Prop), (∀ y, f c = some y → ∀ H4, Same H' H4 → Yk y H4) → (f c = none → ∀ H4, Same H' H4 → N H4) →
      g (.str (S c)) (wipe σ vs) H' fun σ2 H2 => wipe σ2 vs = wipe σ vs ∧ tt σ2 H2 fun b H3 => if b = true then te σ2 H3 Yk else N H3)
    (fin : ∀ D H', H D = none → Same H H' → H' D = some (.lst (ks.filterMap f)) → Q (.ref D) H') : tLockE (tLc (iKeys td) g tt te vs) σ H Q := by
  refine ⟨d, .dK kvs, hd, trivial, fun o => ?_⟩
  have hlen : ks.length = kvs.length := by
    have := congrArg List.length hk
    rw [List.length_map, List.length_map] at this
    exact this.symm
  refine lcM (fun J H1 => J = Itk d o kvs ∧ H1 = upd H d (.frz o (.dK kvs))) (fun R k => htd o _ ⟨d, o, rfl, .inl ⟨kvs, upd_same, k _ _ ⟨rfl, rfl⟩⟩⟩) ?_
  rintro J H1 ⟨rfl, rfl⟩
  refine lcP walk_keys ks hlen f (by omega) (fun H' s => s _ _ upd_same) ?_ ?_
  · rintro i c x H' H'' hc sm ⟨rfl, k, v, hkv, rfl⟩
    have e : (kvs.map (·.1))[i]? = some k := by rw [List.getElem?_map, hkv]; rfl
    rw [hk, List.getElem?_map, hc] at e
    have : Sum.inr (S c) = k := Option.some.inj e
    subst this
    exact ⟨Same.refl _, step o c H'' (List.mem_of_getElem? hc) sm⟩
  · intro D H' nD sm hD
    have ne : D ≠ d := fun z => by subst z; rw [upd_same] at nD; cases nD
    rw [upd_ne ne] at nD
    refine ⟨sm _ _ upd_same, fin D _ nD (fun b o' hb => ?_) (by rw [upd_ne ne]; exact hD)⟩
    by_cases z : b = d
    · subst z; rw [upd_same, ← hb, hd]
    · rw [upd_ne z]; exact sm _ _ (by rw [upd_ne z]; exact hb)
end
end Lv

set_option Elab.async false
set_option linter.all false
set_option maxRecDepth 100000
set_option maxHeartbeats 3200000
namespace Lv
open PySem PySem.Spec PyProof.Rows L2 SX
/-! ### d.update(e), dict(pairs), {k: v}, constants of the module -/
section
variable {X : Cx}
def rUpd (x : V) (xs : List V) (H : Hp) (Q : VK) : Prop := ∃ (d o : Addr) (kvs more : List (Key × V)), x = .ref d ∧ xs = [.ref o] ∧ H d = some (.dK kvs) ∧ Rd H o (.dK more) ∧ d ≠ o ∧ kvs.length + more.length ≤ sizeLine ∧ Q .non (upd H d (.dK (mergeK kvs more)))
theorem mt_upd : MtR X "dict.update" rUpd := by
  intro pins s σ H x xs v us Q I rx rs h
  obtain ⟨d, o, kvs, more, rfl, rfl, hd, ho, hne, hz, q⟩ := h
  cases rx
  obtain ⟨u, eu, r1⟩ := vals1 rs
  subst eu
  cases r1
  obtain ⟨z1, m1, vs1, rel1, dd1⟩ := dk_of I.hok hd
  obtain ⟨z2, m2, vs2, rel2, dd2⟩ := dk_rd I.hok ho
  refine call_meetsIn PySem.F.slot_dict_update dd1.typeIs PySem.F.entry_dict_update (PySem.F.args_dict_update_2 _ _) (meets_dict_update (mixKind X.prog X.w) d o hne m2) ⟨vs1, vs2, dd1, dd2, by rw [← rel1.length, ← rel2.length]; exact hz, fun h' dd' _ hs => ?_⟩
  have he : ∃ q, h'.get? d = some q := let ⟨q, _, _, hq, _⟩ := dd'; ⟨q, hq⟩
  exact ⟨.non, _, d_write I (by rw [hd]; exact True.intro) hs he (dk_new (Nat.le_trans (length_mergeK more kvs) hz) m1 (KV.merge rel2 rel1) dd'), rfl, q⟩
theorem i_upd {d o : Addr} {kvs more : List (Key × V)} {H : Hp} {Q : VK} (hd : H d = some (.dK kvs)) (ho : Rd H o (.dK more)) (hne : d ≠ o) (hz : kvs.length + more.length ≤ sizeLine) (q : Q .non (upd H d (.dK (mergeK kvs more)))) : rUpd (.ref d) [.ref o] H Q := ⟨d, o, kvs, more, rfl, rfl, hd, ho, hne, hz, q⟩
def rDictP (K : PySem.W.Frag) : List V → Hp → VK → Prop := fun xs H Q => ∃ (a : Addr) (ps : List Addr) (kvs : List (Key × V)), xs = [.ref a] ∧ SqL K H a (ps.map V.ref) ∧ Paired (fun p kv => SqT K H p [kV kv.1, kv.2]) ps kvs ∧
    ∀ p, H p = none → Q (.ref p) (upd H p (.dK (mergeK [] kvs)))
theorem call_dictP1 (hcalm : X.calm = true) : CallR X (.type "dict") (rDictP X.K) := call_dictP hcalm
theorem pe_globS {x : Str} {pos : Pos} {l : List Nat} {t : Tok} (hg : Gl X x) (hm : X.mg x = some (.str (S l) t)) (hd : (x == ("__debug__" : Str)) = false := by decide) : PE X (.Name x pos) (tC (.str (S l))) := pe_glob hg hm ⟨t, rfl⟩ hd
theorem pe_globI {x : Str} {pos : Pos} {i : Int} {t : Tok} (hg : Gl X x) (hm : X.mg x = some (.int i t)) (hd : (x == ("__debug__" : Str)) = false := by decide) : PE X (.Name x pos) (tC (.int i)) := pe_glob hg hm ⟨t, rfl⟩ hd
end
/-- a dict by letters: f tells what stands for each -/
def LD (kvs : List (Key × V)) (f : Nat → Option V) : Prop := ∃ ks : List Nat, kvs.map (·.1) = ks.map (fun c => Sum.inr (S [c])) ∧ ks.Nodup ∧ (∀ c, valV kvs (.inr (S [c])) = f c) ∧ ∀ c, c ∈ ks ↔ (f c).isSome
theorem LD.nil : LD [] fun _ => none := ⟨[], rfl, List.nodup_nil, fun _ => rfl, fun c => by simp⟩
theorem LD.val {kvs : List (Key × V)} {f : Nat → Option V} (h : LD kvs f) (c : Nat) : valV kvs (.inr (S [c])) = f c := by obtain ⟨_, _, _, h, _⟩ := h; exact h c
theorem inr_S {c d : Nat} : (Sum.inr (S [c]) : Key) = Sum.inr (S [d]) ↔ c = d := by
  constructor
  · intro h
    have := S_inj.mp (Sum.inr.inj h)
    simpa using this
  · rintro rfl; rfl
theorem keys_map {kvs : List (Key × V)} {k : Key} {v : V} : (kvs.map fun kv => if kv.1 = k then (kv.1, v) else kv).map (·.1) = kvs.map (·.1) := by
  rw [List.map_map]
  apply List.map_congr_left
  intro a _
  by_cases h : a.1 = k <;> simp [h]
theorem LD.put {kvs : List (Key × V)} {f : Nat → Option V} (h : LD kvs f) (c : Nat) (v : V) : LD (putK kvs (.inr (S [c])) v) (fun d => if d = c then some v else f d) := by
  obtain ⟨ks, h1, h2, h3, h4⟩ := h
  have hv : ∀ d, valV (putK kvs (.inr (S [c])) v) (.inr (S [d])) = if d = c then some v else f d := fun d => by
    rw [valV_put, h3 d]
    by_cases z : d = c
    · subst z; rw [if_pos rfl, if_pos rfl]
    · rw [if_neg z, if_neg fun q => z (inr_S.mp q)]
  cases e : f c with
  | none =>
    have hn : valV kvs (.inr (S [c])) = none := by rw [h3, e]
    have hc : c ∉ ks := fun z => by have := (h4 c).mp z; rw [e] at this; cases this
    refine ⟨ks ++ [c], ?_, ?_, hv, fun d => ?_⟩
    · rw [putK_new v hn, List.map_append, h1, List.map_append]; rfl
    · rw [List.nodup_append]
      exact ⟨h2, by simp, fun a ha b hb => by rw [List.mem_singleton.mp hb]; rintro rfl; exact hc ha⟩
    · rw [List.mem_append, List.mem_singleton, h4 d]
      by_cases z : d = c
      · subst z; simp
      · simp [z]
  | some x =>
    have hs : (kvs.any fun kv => decide (kv.1 = (Sum.inr (S [c]) : Key))) = true := by rw [valV_any, h3, e]; rfl
    refine ⟨ks, ?_, h2, hv, fun d => ?_⟩
    · unfold putK
      rw [if_pos hs, keys_map, h1]
    · rw [h4 d]
      by_cases z : d = c
      · subst z; rw [e]; simp
      · simp [z]
theorem LD.congr {kvs : List (Key × V)} {f g : Nat → Option V} (h : LD kvs f) (e : ∀ c, f c = g c) : LD kvs g := by
  have : f = g := funext e
  rw [← this]; exact h
theorem nodup_len {α : Type} [DecidableEq α] : ∀ (xs ys : List α), xs.Nodup → (∀ c ∈ xs, c ∈ ys) → xs.length ≤ ys.length
  | [], ys, _, _ => Nat.zero_le _
  | x :: xs, ys, h, hs => by
    have hx := hs x List.mem_cons_self
    have h1 := nodup_len xs (ys.erase x) (List.nodup_cons.mp h).2 fun c hc => by
      have hne : c ≠ x := fun z => (List.nodup_cons.mp h).1 (z ▸ hc)
      exact (List.mem_erase_of_ne hne).mpr (hs c (List.mem_cons_of_mem _ hc))
    rw [List.length_erase_of_mem hx] at h1
    have := List.length_pos_of_mem hx
    rw [List.length_cons]
    omega
theorem LD.len {kvs : List (Key × V)} {f : Nat → Option V} (h : LD kvs f) (hf : ∀ c, (f c).isSome → 97 ≤ c ∧ c ≤ 122) : kvs.length ≤ 26 := by
  obtain ⟨ks, h1, h2, h3, h4⟩ := h
  have e := congrArg List.length h1
  rw [List.length_map, List.length_map] at e
  rw [e]
  refine nodup_len ks abc h2 fun c hc => ?_
  have := hf c ((h4 c).mp hc)
  have q : ∀ d : Fin 26, d.val + 97 ∈ abc := by decide
  have q := q ⟨c - 97, by omega⟩
  rw [show c - 97 + 97 = c by omega] at q
  exact q
/-- sorted(d) of a dict by letters -/
theorem i_sortedLD {a : Addr} {kvs : List (Key × V)} {f : Nat → Option V} {H : Hp} {Q : VK} (hd : Rd H a (.dK kvs)) (h : LD kvs f) (hl : kvs.length ≤ 1000000) (q : ∀ (ys : List Nat) (p : Addr), ys.Pairwise (· < ·) → (∀ c, c ∈ ys ↔ (f c).isSome) → H p = none → Q (.ref p) (upd H p (.lst (ys.map vc)))) : rSortedD [.ref a] H Q := by
  obtain ⟨ks, h1, h2, h3, h4⟩ := h
  have e := congrArg List.length h1
  rw [List.length_map, List.length_map] at e
  refine ⟨a, kvs, ks.map fun c => [c], rfl, hd, by rw [h1, List.map_map]; rfl, ?_, by rw [List.length_map]; omega, fun ys p up hm np => ?_⟩
  · refine List.Pairwise.map _ (fun a b h z => h ?_) h2
    simpa using z
  · have ey : ys = (ys.map fun y => y.headD 0).map fun c => [c] := by
      rw [List.map_map]
      refine (List.map_id ys).symm.trans (List.map_congr_left fun y hy => ?_)
      obtain ⟨c, _, rfl⟩ := List.mem_map.mp ((hm y).mp hy)
      rfl
    rw [ey, List.map_map]
    refine q (ys.map fun y => y.headD 0) p ?_ (fun c => ?_) np
    · rw [ey, List.pairwise_map] at up
      exact up.imp fun h => lt_one.mp h
    · rw [← h4 c]
      have := hm [c]
      rw [List.mem_map] at this
      constructor
      · intro hc
        have : [c] ∈ ys := by rw [ey]; exact List.mem_map.mpr ⟨c, hc, rfl⟩
        obtain ⟨d, hd, e⟩ := List.mem_map.mp ((hm _).mp this)
        cases e
        exact hd
      · intro hc
        have : [c] ∈ ys := (hm _).mpr (List.mem_map.mpr ⟨c, hc, rfl⟩)
        exact List.mem_map.mpr ⟨[c], this, rfl⟩
/-- all keys as texts; each stands once -/
def TD (kvs : List (Key × V)) (ks : List (List Nat)) (v : V) : Prop := kvs = ks.map fun k => (Sum.inr (S k), v)
theorem putK_old {v : V} {ks : List (List Nat)} {m : List Nat} (h : m ∈ ks) : putK (ks.map fun k => ((Sum.inr (S k) : Key), v)) (.inr (S m)) v = ks.map fun k => (Sum.inr (S k), v) := by
  have hs : ((ks.map fun k => ((Sum.inr (S k) : Key), v)).any fun kv => decide (kv.1 = (Sum.inr (S m) : Key))) = true := by
    rw [List.any_eq_true]
    exact ⟨(Sum.inr (S m), v), List.mem_map.mpr ⟨m, h, rfl⟩, by simp⟩
  unfold putK
  rw [if_pos hs, List.map_map]
  apply List.map_congr_left
  intro k _
  show (if (Sum.inr (S k) : Key) = Sum.inr (S m) then _ else _) = _
  split <;> rfl
/-- keys in the order met -/
def addK (ks : List (List Nat)) : List (List Nat) → List (List Nat)
  | [] => ks
  | m :: ms => addK (if m ∈ ks then ks else ks ++ [m]) ms
theorem merge_add {v : V} : ∀ (ms ks : List (List Nat)), mergeK (ks.map fun k => (Sum.inr (S k), v)) (ms.map fun k => (Sum.inr (S k), v)) = (addK ks ms).map fun k => (Sum.inr (S k), v)
  | [], ks => rfl
  | m :: ms, ks => by
    show mergeK (putK _ _ _) _ = _
    rw [addK]
    by_cases h : m ∈ ks
    · rw [if_pos h, putK_old h]; exact merge_add ms ks
    · rw [if_neg h]
      have hn : valV (ks.map fun k => ((Sum.inr (S k) : Key), v)) (.inr (S m)) = none := by
        cases e : valV (ks.map fun k => ((Sum.inr (S k) : Key), v)) (.inr (S m)) with
        | none => rfl
        | some x =>
          have := valV_in e
          rw [List.map_map] at this
          obtain ⟨k, hk, e2⟩ := List.mem_map.mp this
          have : k = m := S_inj.mp (Sum.inr.inj e2)
          subst this
          exact absurd hk h
      rw [putK_new v hn, ← merge_add ms (ks ++ [m]), List.map_append]
      rfl
theorem addK_mem {x : List Nat} : ∀ (ms ks : List (List Nat)), x ∈ addK ks ms ↔ x ∈ ks ∨ x ∈ ms
  | [], ks => by simp [addK]
  | m :: ms, ks => by
    rw [addK, addK_mem ms]
    by_cases h : m ∈ ks
    · rw [if_pos h, List.mem_cons]
      constructor
      · rintro (a | a)
        · exact .inl a
        · exact .inr (.inr a)
      · rintro (a | a | a)
        · exact .inl a
        · subst a; exact .inl h
        · exact .inr a
    · rw [if_neg h, List.mem_append, List.mem_singleton, List.mem_cons, or_assoc]
theorem addK_nodup : ∀ (ms ks : List (List Nat)), ks.Nodup → (addK ks ms).Nodup
  | [], ks, h => h
  | m :: ms, ks, h => by
    rw [addK]
    by_cases z : m ∈ ks
    · rw [if_pos z]; exact addK_nodup ms ks h
    · rw [if_neg z]
      refine addK_nodup ms _ ?_
      rw [List.nodup_append]
      exact ⟨h, by simp, fun a ha b hb => by rw [List.mem_singleton.mp hb]; rintro rfl; exact z ha⟩
theorem addK_len : ∀ (ms ks : List (List Nat)), (addK ks ms).length ≤ ks.length + ms.length
  | [], ks => Nat.le_refl _
  | m :: ms, ks => by
    rw [addK]
    have := addK_len ms (if m ∈ ks then ks else ks ++ [m])
    have h2 : (if m ∈ ks then ks else ks ++ [m]).length ≤ ks.length + 1 := by
      split
      · omega
      · simp
    rw [List.length_cons]
    omega
end Lv

set_option Elab.async false
set_option linter.all false
set_option maxRecDepth 100000
set_option maxHeartbeats 3200000
namespace Lv
open PySem PySem.Spec PyProof.Rows L2 SX
/-! ### comprehensions whose turns make new objects -/
theorem paired_imp {α β : Type} {F G : α → β → Prop} : ∀ {xs : List α} {ys : List β}, Paired F xs ys → (∀ x ∈ xs, ∀ y, F x y → G x y) → Paired G xs ys
  | _, _, .nil, _ => .nil
  | _, _, .cons h t, k => .cons (k _ List.mem_cons_self _ h) (paired_imp t fun x hx => k x (List.mem_cons_of_mem _ hx))
theorem paired_at {α β : Type} {F : α → β → Prop} : ∀ {xs : List α} {ys : List β}, Paired F xs ys → ∀ (i : Nat) (y : β), ys[i]? = some y → ∃ x, xs[i]? = some x ∧ F x y
  | _, _, .nil, i, y, h => by simp at h
  | _, _, .cons h t, 0, y, e => by cases e; exact ⟨_, rfl, h⟩
  | _, _, .cons h t, i + 1, y, e => paired_at t i y e
theorem paired_at1 {α β : Type} {F : α → β → Prop} : ∀ {xs : List α} {ys : List β}, Paired F xs ys → ∀ (i : Nat) (x : α), xs[i]? = some x → ∃ y, ys[i]? = some y ∧ F x y
  | _, _, .nil, i, y, h => by simp at h
  | _, _, .cons h t, 0, y, e => by cases e; exact ⟨_, rfl, h⟩
  | _, _, .cons h t, i + 1, y, e => paired_at1 t i y e
theorem paired_len {α β : Type} {F : α → β → Prop} : ∀ {xs : List α} {ys : List β}, Paired F xs ys → xs.length = ys.length
  | _, _, .nil => rfl
  | _, _, .cons h t => by rw [List.length_cons, List.length_cons, paired_len t]
theorem paired_map {α β γ : Type} {F : α → γ → Prop} (g : β → γ) : ∀ {xs : List α} {ys : List β}, Paired (fun x y => F x (g y)) xs ys → Paired F xs (ys.map g)
  | _, _, .nil => .nil
  | _, _, .cons h t => .cons h (paired_map g t)
theorem paired_unmap {α β γ : Type} {F : α → γ → Prop} (g : β → γ) : ∀ {xs : List α} {ys : List β}, Paired F xs (ys.map g) → Paired (fun x y => F x (g y)) xs ys
  | _, [], .nil => .nil
  | _, _ :: _, .cons h t => .cons h (paired_unmap g t)
section
variable {J : It} {n : Nat} {G : Hp → Prop} {Y : Nat → Hp → V → Hp → Prop} {g : TG} {tt : TT} {te : TE} {vs : List Nat} {σ : L2.St} {H : Hp} {Q : VK} {K : PySem.W.Frag}
theorem lcO (w : Walk J n G Y) {α : Type} (items : List α) (hn : items.length = n) (f : α → Option HO) (h6 : n ≤ 1000000) (hG : ∀ H', Same H H' → G H')
    (step : ∀ i c x H' H'', items[i]? = some c → Same H H' → Y i H' x H'' → Same H' H'' ∧ ∀ (Yk : VK) (N : Hp → Prop), (∀ o, f c = some o → ∀ p H4, Same H'' H4 → H'' p = none → H4 p = some o → Yk (.ref p) H4) → (f c = none → ∀ H4, Same H'' H4 → N H4) →
      g x (wipe σ vs) H'' fun σ2 H2 => wipe σ2 vs = wipe σ vs ∧ tt σ2 H2 fun b H3 => if b = true then te σ2 H3 Yk else N H3)
    (fin : ∀ D ps H', H D = none → Same H H' → ps.Nodup → D ∉ ps → (∀ p ∈ ps, H p = none) → Paired (fun p o => H' p = some o) ps (items.filterMap f) → H' D = some (.lst (ps.map V.ref)) → Q (.ref D) H') : LcJ J g tt te vs σ H Q := by
  refine lcG_ok w fun D nD => ⟨fun i acc H' => Same H H' ∧ ∃ ps : List Addr, acc = ps.map V.ref ∧ ps.Nodup ∧ D ∉ ps ∧ (∀ p ∈ ps, H p = none) ∧ Paired (fun p o => H' p = some o) ps ((items.take i).filterMap f), ⟨same_new nD, [], rfl, List.nodup_nil, by simp, by simp, by simpa using Paired.nil⟩, fun i acc H' _ _ z => hG H' z.1, ?_, ?_⟩
  · rintro i acc x H' H'' hi hll hD ⟨sm, ps, rfl, nd, hDn, hnew, pr⟩ y
    obtain ⟨c, hc⟩ : ∃ c, items[i]? = some c := ⟨items[i]'(by omega), List.getElem?_eq_getElem (by omega)⟩
    obtain ⟨s1, st⟩ := step i c x H' H'' hc sm y
    have e := range_fm f items i c hc
    refine st _ _ (fun o ho p H4 s4 np hp => ?_) (fun hv H4 s4 => ?_)
    · have np' : H' p = none := s1.free np
      have hDp : D ≠ p := ne_of_none hD np'
      have npp : p ∉ ps := fun z => by
        obtain ⟨j, hj⟩ := List.mem_iff_getElem?.mp z
        obtain ⟨o', _, ho'⟩ := paired_at1 pr j p hj
        rw [np'] at ho'
        cases ho'
      refine lc_put (s4 _ _ (s1 _ _ hD)) hll (by omega) ⟨(sm.trans (s1.trans s4)).updN nD, ps ++ [p], by rw [List.map_append]; rfl, ?_, ?_, ?_, ?_⟩
      · rw [List.nodup_append]
        exact ⟨nd, by simp, fun a ha b hb => by rw [List.mem_singleton.mp hb]; exact fun z => npp (z ▸ ha)⟩
      · intro z
        rcases List.mem_append.mp z with z | z
        · exact hDn z
        · exact hDp (List.mem_singleton.mp z)
      · intro a ha
        rcases List.mem_append.mp ha with z | z
        · exact hnew a z
        · rw [List.mem_singleton.mp z]; exact sm.free np'
      · rw [e, ho]
        refine Paired.snoc (paired_imp pr fun a ha o' h' => ?_) ?_
        · rw [upd_ne (fun z : a = D => hDn (z ▸ ha))]; exact s4 _ _ (s1 _ _ h')
        · rw [upd_ne hDp.symm]; exact hp
    · refine lc_skip (s4 _ _ (s1 _ _ hD)) hll ⟨sm.trans (s1.trans s4), ps, rfl, nd, hDn, hnew, ?_⟩
      rw [e, hv]
      simp only [Option.toList_none, List.append_nil]
      exact paired_imp pr fun a ha o' h' => s4 _ _ (s1 _ _ h')
  · rintro acc H' _ hD ⟨sm, ps, rfl, nd, hDn, hnew, pr⟩
    rw [List.take_of_length_le (by omega)] at pr
    exact fin D ps H' nD sm nd hDn hnew pr hD
theorem c_lO {α : Type} {a : Addr} (items : List α) (v : α → V) (f : α → Option HO) (ha : SqL K H a (items.map v)) (h6 : items.length ≤ 1000000)
    (step : ∀ c H', c ∈ items → Same H H' → ∀ (Yk : VK) (N : Hp → Prop), (∀ o, f c = some o → ∀ p H4, Same H' H4 → H' p = none → H4 p = some o → Yk (.ref p) H4) → (f c = none → ∀ H4, Same H' H4 → N H4) →
      g (v c) (wipe σ vs) H' fun σ2 H2 => wipe σ2 vs = wipe σ vs ∧ tt σ2 H2 fun b H3 => if b = true then te σ2 H3 Yk else N H3)
    (fin : ∀ D ps H', H D = none → Same H H' → ps.Nodup → D ∉ ps → (∀ p ∈ ps, H p = none) → Paired (fun p o => H' p = some o) ps (items.filterMap f) → H' D = some (.lst (ps.map V.ref)) → Q (.ref D) H') : LcJ (Itl K a) g tt te vs σ H Q := by
  refine lcO (walk_list (xs := items.map v)) items (by simp) f (by simpa using h6) (fun H' s => s.seq ha) ?_ fin
  rintro i c x H' H'' hc sm ⟨rfl, hx⟩
  rw [List.getElem?_map, hc] at hx
  have : v c = x := Option.some.inj hx
  subst this
  exact ⟨Same.refl _, step c H'' (List.mem_of_getElem? hc) sm⟩
theorem c_rO {lo : Int} (f : Nat → Option HO) (h6 : n ≤ 1000000)
    (step : ∀ k H', k < n → Same H H' → ∀ (Yk : VK) (N : Hp → Prop), (∀ o, f k = some o → ∀ p H4, Same H' H4 → H' p = none → H4 p = some o → Yk (.ref p) H4) → (f k = none → ∀ H4, Same H' H4 → N H4) →
      g (.int (lo + (k : Int))) (wipe σ vs) H' fun σ2 H2 => wipe σ2 vs = wipe σ vs ∧ tt σ2 H2 fun b H3 => if b = true then te σ2 H3 Yk else N H3)
    (fin : ∀ D ps H', H D = none → Same H H' → ps.Nodup → D ∉ ps → (∀ p ∈ ps, H p = none) → Paired (fun p o => H' p = some o) ps ((List.range n).filterMap f) → H' D = some (.lst (ps.map V.ref)) → Q (.ref D) H') : LcJ (Itr lo n) g tt te vs σ H Q := by
  refine lcO walk_range (List.range n) (by simp) f h6 (fun _ _ => trivial) ?_ fin
  rintro i c x H' H'' hc sm ⟨rfl, rfl⟩
  have e : c = i := by
    obtain ⟨_, h⟩ := List.getElem?_eq_some_iff.mp hc
    rw [← h, List.getElem_range]
  subst e
  exact ⟨Same.refl _, step c H'' (List.mem_range.mp (List.mem_of_getElem? hc)) sm⟩
/-- over a dict's keys (texts) -/
theorem lcKeysO {td : TE} {d : Addr} {kvs : List (Key × V)} {ks : List (List Nat)} (f : List Nat → Option HO) (hd : H d = some (.dK kvs)) (hk : kvs.map (·.1) = ks.map (fun k => Sum.inr (S k))) (h6 : ks.length ≤ 1000000)
    (htd : ∀ (o : Obj) (Q' : VK), Q' (.ref d) (upd H d (.frz o (.dK kvs))) → td σ (upd H d (.frz o (.dK kvs))) Q')
    (step : ∀ (o : Obj) (c : List Nat) (H' : Hp), c ∈ ks → Same (upd H d (.frz o (.dK kvs))) H' → ∀ (Yk : VK) (N : Hp → Prop), (∀ o, f c = some o → ∀ p H4, Same H' H4 → H' p = none → H4 p = some o → Yk (.ref p) H4) → (f c = none → ∀ H4, Same H' H4 → N H4) →
      g (.str (S c)) (wipe σ vs) H' fun σ2 H2 => wipe σ2 vs = wipe σ vs ∧ tt σ2 H2 fun b H3 => if b = true then te σ2 H3 Yk else N H3)
    (fin : ∀ D ps H', H D = none → Same H H' → ps.Nodup → D ∉ ps → (∀ p ∈ ps, H p = none) → Paired (fun p o => H' p = some o) ps (ks.filterMap f) → H' D = some (.lst (ps.map V.ref)) → Q (.ref D) H') : tLockE (tLc (iKeys td) g tt te vs) σ H Q := by
  refine ⟨d, .dK kvs, hd, trivial, fun o => ?_⟩
  have hlen : ks.length = kvs.length := by
    have := congrArg List.length hk
    rw [List.length_map, List.length_map] at this
    exact this.symm
  refine lcM (fun J H1 => J = Itk d o kvs ∧ H1 = upd H d (.frz o (.dK kvs))) (fun R k => htd o _ ⟨d, o, rfl, .inl ⟨kvs, upd_same, k _ _ ⟨rfl, rfl⟩⟩⟩) ?_
  rintro J H1 ⟨rfl, rfl⟩
  have up : ∀ p, upd H d (.frz o (.dK kvs)) p = none → p ≠ d ∧ H p = none := fun p np => by
    have ne : p ≠ d := fun z => by subst z; rw [upd_same] at np; cases np
    rw [upd_ne ne] at np
    exact ⟨ne, np⟩
  refine lcO walk_keys ks hlen f (by omega) (fun H' s => s _ _ upd_same) ?_ ?_
  · rintro i c x H' H'' hc sm ⟨rfl, k, v, hkv, rfl⟩
    have e : (kvs.map (·.1))[i]? = some k := by rw [List.getElem?_map, hkv]; rfl
    rw [hk, List.getElem?_map, hc] at e
    have : Sum.inr (S c) = k := Option.some.inj e
    subst this
    exact ⟨Same.refl _, step o c H'' (List.mem_of_getElem? hc) sm⟩
  · intro D ps H' nD sm nd hDn hnew pr hD
    obtain ⟨ne, nD⟩ := up D nD
    refine ⟨sm _ _ upd_same, fin D ps _ nD (fun b o' hb => ?_) nd hDn (fun p hp => (up p (hnew p hp)).2) (paired_imp pr fun p hp o' h' => ?_) (by rw [upd_ne ne]; exact hD)⟩
    · by_cases z : b = d
      · subst z; rw [upd_same, ← hb, hd]
      · rw [upd_ne z]; exact sm _ _ (by rw [upd_ne z]; exact hb)
    · rw [upd_ne (up p (hnew p hp)).1]; exact h'
theorem i_lockSet {D : Ends} {i : Nat} {te : TE} (h : tLockE te σ H fun x H1 => D.nx (σ.set i (some x)) H1) : tLock (tAsg te (gName i)) D σ H := h
end
theorem if_ttS {c : Bool} {t : TT} {σ : L2.St} {H : Hp} {Q : Bool → Hp → Prop} (h : c = true → ∀ Q' : Bool → Hp → Prop, (∀ H', Same H H' → Q' false H') → t σ H Q') (k : ∀ H', Same H H' → Q false H') : if c = true then t σ H Q else Q false H := by
  cases c with
  | true => exact iteT (h rfl Q k)
  | false => exact iteF (k _ (Same.refl _))
theorem dec_int {a b : Nat} : decide ((a : Int) = (b : Int)) = decide (a = b) := by
  by_cases h : a = b
  · subst h; simp
  · rw [decide_eq_false h, decide_eq_false (by omega)]
theorem i_mulR {c n : Nat} {m : Int} {H : Hp} {Q : VK} (hm : m = (n : Int)) (hn : n ≤ 1000000) (h : Q (.str (S (List.replicate n c))) H) : rMulS (.str (S [c])) (.int m) H Q := by
  subst hm
  refine i_mulS (by omega) (by omega) (le_line (by simpa using hn)) ?_
  rw [Int.toNat_natCast]
  have e : (List.replicate n [c]).flatten = List.replicate n c := by
    clear h hn
    induction n with
    | zero => rfl
    | succ n ih => rw [List.replicate_succ, List.flatten_cons, ih, List.replicate_succ]; rfl
  rw [e]
  exact h
theorem Low.rep1 {c n : Nat} (h : 97 ≤ c ∧ c ≤ 122) : Low (List.replicate n c) := fun d hd => by rw [(List.mem_replicate.mp hd).2]; exact h
theorem Low.cons {c : Nat} {l : List Nat} (h : 97 ≤ c ∧ c ≤ 122) (hl : Low l) : Low (c :: l) := fun d hd => by
  rcases List.mem_cons.mp hd with z | z
  · subst z; exact h
  · exact hl d z
theorem Low.drop {l : List Nat} (h : Low l) (n : Nat) : Low (l.drop n) := h.sub fun c hc => List.mem_of_mem_drop hc
theorem Low.take {l : List Nat} (h : Low l) (n : Nat) : Low (l.take n) := h.sub fun c hc => List.mem_of_mem_take hc
def ipAddS : TIp := rAddS
theorem ip_addS {X : Cx} : PIp X .Add ipAddS := fun pins s σ H x y v u Q I rx ry h => by
  obtain ⟨a, b, rfl, rfl, hz, q⟩ := h
  refine iop_add_str pins s σ H _ _ v u Q I rx ry ⟨_, _, rfl, rfl, ?_, ?_⟩
  · rw [S_len, S_len]; exact hz
  · rw [S_cat]; exact q
theorem i_augS1 {a b : List Nat} {H : Hp} {Q : VK} (hz : a.length + b.length ≤ sizeLine) (h : Q (.str (S (a ++ b))) H) : ipAddS (.str (S a)) (.str (S b)) H Q := ⟨a, b, rfl, rfl, hz, h⟩
theorem atI_m1 {α : Type} {xs : List α} {v : α} {n : Nat} (hn : xs.length = n + 1) (h : xs[n]? = some v) : atI xs (-1) = some v := by
  unfold atI ixN
  rw [if_neg (by omega), if_pos (by omega), show ((-1 : Int) + (xs.length : Nat)).toNat = n by omega]
  exact h
theorem range_map_get {α : Type} (f : Nat → α) {n i : Nat} (h : i < n) : ((List.range n).map f)[i]? = some (f i) := by
  rw [List.getElem?_map, List.getElem?_range h]; rfl
theorem rev_range_map {α : Type} (f : Nat → α) (n : Nat) : ((List.range (n + 1)).map fun j => f (n - j)).reverse = (List.range (n + 1)).map f := by
  apply List.ext_getElem?
  intro i
  by_cases h : i < n + 1
  · rw [List.getElem?_reverse (by simp; exact h), List.length_map, List.length_range, range_map_get _ (by omega), range_map_get _ h, show n - (n + 1 - 1 - i) = i by omega]
  · rw [List.getElem?_eq_none (by simp; omega), List.getElem?_eq_none (by simp; omega)]
theorem rep_one {α : Type} (n : Nat) (x : α) : (List.replicate n [x]).flatten = (List.range n).map fun _ => x := by
  induction n with
  | zero => rfl
  | succ n ih => rw [List.replicate_succ', List.flatten_append, ih, List.range_succ, List.map_append]; rfl
theorem range_set {α : Type} (f g : Nat → α) {n k : Nat} (h : ∀ j, j ≠ k → f j = g j) : ((List.range n).map f).set k (g k) = (List.range n).map g := by
  apply List.ext_getElem?
  intro j
  by_cases hj : j < n
  · rw [List.getElem?_set]
    by_cases e : k = j
    · subst e; rw [if_pos rfl, if_pos (by simpa using hj), range_map_get _ hj]
    · rw [if_neg e, range_map_get _ hj, range_map_get _ hj, h j (Ne.symm e)]
  · rw [List.getElem?_eq_none (by simp; omega), List.getElem?_eq_none (by simp; omega)]
theorem fm_map2 {α β γ : Type} (f : α → β) (g : β → γ) (l : List α) : l.filterMap (fun c => some (g (f c))) = (l.map f).map g := by rw [fm_map, List.map_map]; rfl
theorem fm_iv {α : Type} (f : α → Nat) (l : List α) : l.filterMap (fun c => some (iv (f c))) = (l.map f).map iv := by rw [fm_map, List.map_map]; rfl
theorem sum_cast (ns : List Nat) : (ns.map fun n : Nat => (n : Int)).sum = ((ns.sum : Nat) : Int) := by
  induction ns with
  | nil => rfl
  | cons n ns ih => rw [List.map_cons, List.sum_cons, ih, List.sum_cons]; omega
theorem ivs (ns : List Nat) : ns.map iv = (ns.map fun n : Nat => (n : Int)).map V.int := by rw [List.map_map]; rfl
theorem i_sumN {K : PySem.W.Frag} {a : Addr} {ns : List Nat} {H : Hp} {Q : VK} (h1 : SqL K H a (ns.map iv)) (h : Q (.int ((ns.sum : Nat) : Int)) H) : rSum K [.ref a] H Q := by
  rw [ivs] at h1
  refine i_sum h1 ?_
  rw [sum_cast]
  exact h
/-! ### new objects, told without naming the heap -/
section
variable {K : PySem.W.Frag} {D : Ends} {σ : L2.St} {H : Hp} {Q : VK} {te td ty tv : TE} {targs : TA}
def lstK (Q : VK) : List V → Hp → Prop := fun xs H1 => xs.length ≤ sizeLine ∧ ∀ p, H1 p = none → Q (.ref p) (upd H1 p (.lst xs))
def tupK (Q : VK) : List V → Hp → Prop := fun xs H1 => xs.length ≤ sizeLine ∧ ∀ p, H1 p = none → Q (.ref p) (upd H1 p (.tup xs))
theorem v_lst (h : targs σ H (lstK Q)) : tLst targs σ H Q := h
theorem v_tup (h : targs σ H (tupK Q)) : tTup targs σ H Q := h
theorem v_lstK {xs : List V} (hz : xs.length ≤ sizeLine) (h : ∀ p H2, H p = none → Same H H2 → H2 p = some (.lst xs) → Q (.ref p) H2) : lstK Q xs H := ⟨hz, fun p n => h p _ n (same_new n) upd_same⟩
theorem v_tupK {xs : List V} (hz : xs.length ≤ sizeLine) (h : ∀ p H2, H p = none → Same H H2 → H2 p = some (.tup xs) → Q (.ref p) H2) : tupK Q xs H := ⟨hz, fun p n => h p _ n (same_new n) upd_same⟩
theorem v_dnewK (h : ∀ p H2, H p = none → Same H H2 → H2 p = some (.dK []) → Q (.ref p) H2) : tDNewK σ H Q := fun p n => h p _ n (same_new n) upd_same
theorem v_rep {l : Addr} {k : Int} {xs : List V} (h1 : H l = some (.lst xs)) (k0 : -(2 ^ 63) ≤ k) (k1 : k < 2 ^ 63) (hz : xs.length * k.toNat ≤ sizeLine) (h : ∀ p H2, H p = none → Same H H2 → H2 p = some (.lst (List.replicate k.toNat xs).flatten) → Q (.ref p) H2) : rRep (.ref l) (.int k) H Q :=
  i_rep h1 k0 k1 hz fun p n => h p _ n (same_new n) upd_same
theorem v_cat {l b : Addr} {xs zs : List V} (h1 : H l = some (.lst xs)) (h2 : H b = some (.lst zs)) (hz : xs.length + zs.length ≤ sizeLine) (h : ∀ p H2, H p = none → Same H H2 → H2 p = some (.lst (xs ++ zs)) → Q (.ref p) H2) : rCat (.ref l) (.ref b) H Q :=
  i_cat h1 h2 hz fun p n => h p _ n (same_new n) upd_same
theorem v_slL {a : Addr} {xs : List V} {lo hi : Option Int} (h1 : SqL K H a xs) (h : ∀ p H2, H p = none → Same H H2 → H2 p = some (.lst (cutV xs lo hi)) → Q (.ref p) H2) : rSlL K (.ref a) lo hi H Q := i_slL h1 fun p n => h p _ n (same_new n) upd_same
def revK (K : PySem.W.Frag) (Q : VK) : V → Hp → Prop := fun x H1 => ∃ a xs, x = .ref a ∧ SqL K H1 a xs ∧ ∀ p, H1 p = none → Q (.ref p) (upd H1 p (.lst xs.reverse))
theorem v_revL (h : te σ H (revK K Q)) : tRevL K te σ H Q := h
theorem v_revK {a : Addr} {xs : List V} (h1 : SqL K H a xs) (h : ∀ p H2, H p = none → Same H H2 → H2 p = some (.lst xs.reverse) → Q (.ref p) H2) : revK K Q (.ref a) H := ⟨a, xs, rfl, h1, fun p n => h p _ n (same_new n) upd_same⟩
theorem v_listOf {a : Addr} {xs : List V} (h1 : SqL K H a xs) (h : ∀ p H2, H p = none → Same H H2 → H2 p = some (.lst xs) → Q (.ref p) H2) : rListOf K [.ref a] H Q := ⟨a, xs, rfl, .inl h1, fun p n => h p _ n (same_new n) upd_same⟩
theorem v_dictD {a : Addr} {kvs : List (Key × V)} (hd : Rd H a (.dK kvs)) (h : ∀ p H2, H p = none → Same H H2 → H2 p = some (.dK kvs) → Q (.ref p) H2) : rDictD [.ref a] H Q := ⟨a, kvs, rfl, hd, fun p n => h p _ n (same_new n) upd_same⟩
theorem v_sortedLD {a : Addr} {kvs : List (Key × V)} {f : Nat → Option V} (hd : Rd H a (.dK kvs)) (h : LD kvs f) (hl : kvs.length ≤ 1000000) (q : ∀ (ys : List Nat) (p : Addr) (H2 : Hp), ys.Pairwise (· < ·) → (∀ c, c ∈ ys ↔ (f c).isSome) → H p = none → Same H H2 → H2 p = some (.lst (ys.map vc)) → Q (.ref p) H2) : rSortedD [.ref a] H Q :=
  i_sortedLD hd h hl fun ys p h1 h2 n => q ys p _ h1 h2 n (same_new n) upd_same
def sortSK (Q : VK) : List V → Hp → Prop := fun vs H1 => ∃ l : List Nat, vs = [.str (S l)] ∧ l.length ≤ 1000 ∧ ∀ (ys : List Nat) (p : Addr), ys.Pairwise (· < ·) → (∀ c, c ∈ ys ↔ c ∈ l) → H1 p = none → Q (.ref p) (upd H1 p (.lst (ys.map vc)))
theorem v_sortSetS (h : targs σ H (sortSK Q)) : tSortSetS targs σ H Q := h
theorem v_sortSK {l : List Nat} (hl : l.length ≤ 1000) (h : ∀ (ys : List Nat) (p : Addr) (H2 : Hp), ys.Pairwise (· < ·) → (∀ c, c ∈ ys ↔ c ∈ l) → H p = none → Same H H2 → H2 p = some (.lst (ys.map vc)) → Q (.ref p) H2) : sortSK Q [.str (S l)] H := ⟨l, rfl, hl, fun ys p h1 h2 n => h ys p _ h1 h2 n (same_new n) upd_same⟩
/-! changed objects -/
theorem But.of {p : Addr} {H : Hp} {o : HO} : But p H (L2.upd H p o) := But.upd
theorem v_setL {p : Addr} {xs : List V} {n : Int} {j : Nat} {v : V} {P : Hp → Prop} (hp : H p = some (.lst xs)) (hj : ixN xs.length n = some j) (h : ∀ H2, But p H H2 → H2 p = some (.lst (xs.set j v)) → P H2) : rSetL (.ref p) (.int n) v H P := i_setL hp hj (h _ But.upd upd_same)
theorem v_app {l : Addr} {xs : List V} {y : V} (hl : H l = some (.lst xs)) (hz : xs.length < sizeLine) (h : ∀ H2, But l H H2 → H2 l = some (.lst (xs ++ [y])) → Q .non H2) : rAppend (.ref l) [y] H Q := i_app hl hz (h _ But.upd upd_same)
theorem v_dPutS {p : Addr} {kvs : List (Key × V)} {v : V} {l : List Nat} {R : Hp → Prop} (hd : H p = some (.dK kvs)) (hl : kvs.length < sizeLine) (h : ∀ H2, But p H H2 → H2 p = some (.dK (putK kvs (.inr (S l)) v)) → R H2) : ∃ a H4, V.ref p = .ref a ∧ DPut H a (.str (S l)) v H4 ∧ R H4 := x_dPutS hd hl (h _ But.upd upd_same)
theorem v_upd {d o : Addr} {kvs more : List (Key × V)} (hd : H d = some (.dK kvs)) (ho : Rd H o (.dK more)) (hne : d ≠ o) (hz : kvs.length + more.length ≤ sizeLine) (q : ∀ H2, But d H H2 → H2 d = some (.dK (mergeK kvs more)) → Q .non H2) : rUpd (.ref d) [.ref o] H Q := i_upd hd ho hne hz (q _ But.upd upd_same)
theorem But.new {p : Addr} {H0 H H' : Hp} (s : Same H0 H) (b : But p H H') (n : H0 p = none) : Same H0 H' := (s.but.trans b).same n
end
theorem i_tBMl {K : PySem.W.Frag} {p : Addr} {xs : List V} {H : Hp} {P : Prop} (h : SqL K H p xs) (k : P) : tyV K "list" (.ref p) H ∧ P := ⟨.inl ⟨rfl, _, h⟩, k⟩
theorem i_tBMd {K : PySem.W.Frag} {p : Addr} {kvs : List (Key × V)} {H : Hp} {P : Prop} (h : H p = some (.dK kvs)) (k : P) : tyV K "dict" (.ref p) H ∧ P := ⟨.inr (.inr (.inl ⟨rfl, .inl ⟨_, h⟩⟩)), k⟩
end Lv

set_option Elab.async false
set_option linter.all false
set_option maxRecDepth 100000
set_option maxHeartbeats 3200000
namespace Lv
open PySem PySem.Spec PyProof.Rows L2 SX
/-! ### text in list of texts; find, rfind of one sign -/
section
variable {X : Cx} {K : PySem.W.Frag} {H : Hp} {Q : VK}
def rInLS (K : PySem.W.Frag) (neg : Bool) : R2 := fun x y H Q => ∃ (m : List Nat) (p : Addr) (ns : List (List Nat)), x = .str (S m) ∧ y = .ref p ∧ SqL K H p (ns.map vs) ∧ Q (.bl (if neg then !decide (m ∈ ns) else decide (m ∈ ns))) H
theorem inV_strs (m : List Nat) (ns : List (List Nat)) : inV (.str (S m)) (ns.map vs) = decide (m ∈ ns) := by
  unfold inV
  rw [List.any_map]
  rw [Bool.eq_iff_iff, List.any_eq_true, decide_eq_true_eq]
  constructor
  · rintro ⟨x, hx, e⟩
    have : S x = S m := eq_of_beq e
    rw [← S_inj.mp this]; exact hx
  · intro h
    exact ⟨m, h, beq_self_eq_true (S m)⟩
theorem op_inLS : OpR X (compareOp .In) (rInLS X.K false) := by
  intro pins s σ H x y v u Q I rx ry h
  obtain ⟨m, p, ns, rfl, rfl, hp, q⟩ := h
  refine op_in_seq pins s σ H _ _ v u Q I rx ry ⟨p, _, rfl, .inl hp, rfl, ?_, ?_⟩
  · rw [List.all_eq_true]
    intro z hz
    obtain ⟨w, _, rfl⟩ := List.mem_map.mp hz
    rfl
  · rw [inV_strs]; exact q
theorem op_notInLS : OpR X (compareOp .NotIn) (rInLS X.K true) := by
  intro pins s σ H x y v u Q I rx ry h
  obtain ⟨m, p, ns, rfl, rfl, hp, q⟩ := h
  refine op_notIn_seq pins s σ H _ _ v u Q I rx ry ⟨p, _, rfl, .inl hp, rfl, ?_, ?_⟩
  · rw [List.all_eq_true]
    intro z hz
    obtain ⟨w, _, rfl⟩ := List.mem_map.mp hz
    rfl
  · rw [inV_strs]; exact q
theorem i_inLS {neg : Bool} {m : List Nat} {p : Addr} {ns : List (List Nat)} (hp : SqL K H p (ns.map vs)) (q : Q (.bl (if neg then !decide (m ∈ ns) else decide (m ∈ ns))) H) : rInLS K neg (.str (S m)) (.ref p) H Q := ⟨m, p, ns, rfl, rfl, hp, q⟩
theorem i_inL {m : List Nat} {p : Addr} {ns : List (List Nat)} (hp : SqL K H p (ns.map vs)) (q : Q (.bl (decide (m ∈ ns))) H) : rInLS K false (.str (S m)) (.ref p) H Q := ⟨m, p, ns, rfl, rfl, hp, q⟩
theorem i_notInL {m : List Nat} {p : Addr} {ns : List (List Nat)} (hp : SqL K H p (ns.map vs)) (q : Q (.bl (!decide (m ∈ ns))) H) : rInLS K true (.str (S m)) (.ref p) H Q := ⟨m, p, ns, rfl, rfl, hp, q⟩
def rFind1 (x : V) (xs : List V) (H : Hp) (Q : VK) : Prop := ∃ (l : List Nat) (c : Nat), x = .str (S l) ∧ xs = [.str (S [c])] ∧ Q (.int (findI l 0 c)) H
theorem mt_find1S : MtR X "str.find" rFind1 := by
  intro pins s σ H x xs v us Q I rx r h
  obtain ⟨l, c, rfl, rfl, q⟩ := h
  refine mt_find pins s σ H _ _ v us Q I rx r ⟨_, _, rfl, rfl, ?_⟩
  rw [find_is_find3]
  have : Txt.find3 (S l) (S [c]) ((0 : Nat) : Int) = findI l 0 c := find3_S l c 0 (Nat.zero_le _)
  rw [show (0 : Int) = ((0 : Nat) : Int) from rfl, this]
  exact q
theorem i_find1 {l : List Nat} {c : Nat} (q : Q (.int (findI l 0 c)) H) : rFind1 (.str (S l)) [.str (S [c])] H Q := ⟨l, c, rfl, rfl, q⟩
/-- the last place that has a sign -/
def rRfind1 (x : V) (xs : List V) (H : Hp) (Q : VK) : Prop := ∃ (l : List Nat) (c : Nat), x = .str (S l) ∧ xs = [.str (S [c])] ∧ (∀ z : Int, (z = -1 ∧ c ∉ l) ∨ (∃ k : Nat, z = k ∧ l[k]? = some c ∧ ∀ j, k < j → l[j]? ≠ some c) → Q (.int z) H)
theorem at_L {l : List Nat} {c i : Nat} : StrLaws.At (S l) (S [c]) (S l).length i ↔ l[i]? = some c := at_S
theorem mt_rfind1S : MtR X "str.rfind" rRfind1 := by
  intro pins s σ H x xs v us Q I rx r h
  obtain ⟨l, c, rfl, rfl, q⟩ := h
  refine mt_rfind pins s σ H _ _ v us Q I rx r ⟨_, _, rfl, rfl, q _ ?_⟩
  rcases rfind_whole (S l) (S [c]) with ⟨h1, h2⟩ | ⟨k, h1, h2, h3⟩
  · refine .inl ⟨h1, fun z => ?_⟩
    obtain ⟨j, hj⟩ := List.mem_iff_getElem?.mp z
    exact h2 j (at_L.mpr hj)
  · exact .inr ⟨k, h1, at_L.mp h2, fun j hj z => h3 j hj (at_L.mpr z)⟩
end
/-! ### len(set(text)) -/
section
variable {X : Cx} {ta : TA} {e : Expr} {p1 p2 pos pos2 : Pos}
def tLenSetS (ta : TA) : TE := fun σ H Q => ta σ H fun vs H1 => ∃ l : List Nat, vs = [.str (S l)] ∧ l.length ≤ 1000 ∧ ∀ zs : List Nat, zs.Nodup → (∀ c, c ∈ zs ↔ c ∈ l) → Q (.int ((zs.length : Nat) : Int)) H1
theorem pe_lenSetS (hc : X.calm = true) (hg1 : Gl X "len") (hm1 : X.mg "len" = none) (hg2 : Gl X "set") (hm2 : X.mg "set" = none) (ha : PA X [e] ta)
    (hs : starEach [e] X.env = [(false, eval e X.env)] := by rfl) (hs2 : starEach [.Call (.Name "set" p2) [e] [] pos2] X.env = [(false, eval (.Call (.Name "set" p2) [e] [] pos2) X.env)] := by rfl) :
    PE X (.Call (.Name "len" p1) [.Call (.Name "set" p2) [e] [] pos2] [] pos) (tLenSetS ta) := by
  refine ⟨fun pins s σ H Q I h => ?_⟩
  refine wpAny_Call_Name_kw (ld_blt I hg1 hm1 boot_len ?_)
  refine callWith_builtin1 ?_ hs2 rfl
  rw [hs2]
  refine Calls.spliced_cons ?_
  refine wpAny_Call_Name_kw (ld_blt I hg2 hm2 boot_set (callWith_type1 (thn (ha.run pos2 pins s σ H _ I h) fun us s1 ⟨vs, H1, I1, r1, q1⟩ => ?_) hs rfl))
  obtain ⟨l, rfl, hl, q⟩ := q1
  cases r1 with
  | cons r rr =>
    cases rr
    obtain ⟨t, rfl⟩ := r
    have hd := I1.ok.hd hc
    refine call_setText (xs := l.map fun c => (⟨#[c]⟩ : Str)) (by simp [S]) hd (by rw [List.length_map]; unfold scanBound; omega) fun h' tk R1 keep => ?_
    refine Calls.spliced_nil ?_
    obtain ⟨o, es, ep, tt, ho, hex, hdt, gd, nd, hm, hsz, hsb, hf, _⟩ := R1
    have I2 : Inv X pins σ H1 { s1 with heap := h', toks := tk } := I1.kept keep
    have one : ∀ y ∈ es.toList.map kyS, ∃ c, c ∈ l ∧ y = S [c] := fun y hy => by
      have := (hm y).mpr hy
      rw [List.mem_reverse, List.mem_map] at this
      obtain ⟨c, h1, h2⟩ := this
      exact ⟨c, h1, h2.symm⟩
    have eys : es.toList.map kyS = ((es.toList.map kyS).map fun y => y.cps.toList.headD 0).map fun c => S [c] := by
      conv => rhs; rw [List.map_map]
      refine (List.map_id _).symm.trans (List.map_congr_left fun y hy => ?_)
      obtain ⟨c, _, rfl⟩ := one y hy
      rfl
    have hlen : es.size = ((es.toList.map kyS).map fun y => y.cps.toList.headD 0).length := by simp
    rw [eys] at nd hm
    generalize ((es.toList.map kyS).map fun y => y.cps.toList.headD 0) = zs at nd hm hlen
    have q2 := q zs (by
      rw [List.Nodup, List.pairwise_map] at nd
      exact nd.imp fun h z => h (by rw [z])) fun c => by
        have := hm (S [c])
        rw [List.mem_reverse, List.mem_map, List.mem_map] at this
        constructor
        · intro hz
          obtain ⟨d, h1, h2⟩ := this.mpr ⟨c, hz, rfl⟩
          have : [d] = [c] := S_inj.mp h2
          cases this
          exact h1
        · intro hz
          obtain ⟨d, h1, h2⟩ := this.mp ⟨c, hz, rfl⟩
          have : [d] = [c] := S_inj.mp h2
          cases this
          exact h1
    refine call_len_set ho hex hdt hf (by unfold scanBound at hsb; omega) ⟨.int ((es.size : Nat) : Int), H1, I2.tok _, ⟨_, rfl⟩, by rw [hlen]; exact q2⟩
def lenSK (Q : VK) : List V → Hp → Prop := fun vs H1 => ∃ l : List Nat, vs = [.str (S l)] ∧ l.length ≤ 1000 ∧ ∀ zs : List Nat, zs.Nodup → (∀ c, c ∈ zs ↔ c ∈ l) → Q (.int ((zs.length : Nat) : Int)) H1
theorem v_lenSetS {σ : L2.St} {H : Hp} {Q : VK} (h : ta σ H (lenSK Q)) : tLenSetS ta σ H Q := h
theorem v_lenSK {l : List Nat} {H : Hp} {Q : VK} (hl : l.length ≤ 1000) (h : ∀ zs : List Nat, zs.Nodup → (∀ c, c ∈ zs ↔ c ∈ l) → Q (.int ((zs.length : Nat) : Int)) H) : lenSK Q [.str (S l)] H := ⟨l, rfl, hl, h⟩
end
end Lv

set_option Elab.async false
set_option linter.all false
set_option maxRecDepth 100000
set_option maxHeartbeats 3200000
namespace Lv
open PySem PySem.Spec PyProof.Rows L2 SX
/-! ### list(text), xs.pop(0) -/
section
variable {X : Cx} {K : PySem.W.Frag} {H : Hp} {Q : VK}
def rListS : List V → Hp → VK → Prop := fun xs H Q => ∃ l : List Nat, xs = [.str (S l)] ∧ l.length ≤ 1000000 ∧ ∀ p, H p = none → Q (.ref p) (upd H p (.lst (l.map vc)))
theorem call_listS (hc : X.calm = true) : CallR X (.type "list") rListS := by
  intro pins s σ H xs us Q I r h
  obtain ⟨l, rfl, hl, q⟩ := h
  obtain ⟨u, eu, rx⟩ := vals1 r
  subst eu
  obtain ⟨t, rfl⟩ := rx
  have hz : (S l).cps.size ≤ sizeLine := le_line (by simpa using hl)
  refine PySem.call_list_str (hn := hz) (I.ok.hd hc) (S l) t fun h' tk acc c hk hS hacc => ?_
  refine ⟨.ref s.heap.objs.size, upd H s.heap.objs.size (.lst (l.map vc)), I.laid (t' := tk) hk (Nat.le_refl _) (show ObjOk X.prog X.w _ _ _ (.lst (l.map vc)) from ⟨?_, acc.toList, c, ?_, ?_⟩), rfl, q _ (I.hok.fresh (Nat.le_refl _))⟩
  · rw [List.length_map]; exact le_line hl
  · have el : acc.toList.length = l.length := by
      have := hacc.1
      rw [Array.length_toList, this]
      simp
    refine vals_of_at (by rw [List.length_map, el]) fun j x w h1 h2 => ?_
    obtain ⟨d0, tk, e0, e⟩ := hacc.2 j w (by rw [← Array.getElem?_toList]; exact h2)
    rw [List.getElem?_map] at h1
    cases e1 : l[j]? with
    | none => rw [e1] at h1; cases h1
    | some d =>
      rw [e1] at h1
      have h1 : vc d = x := Option.some.inj h1
      subst h1
      have : d0 = d := by
        have e2 : l[j]? = some d0 := by simpa using e0
        rw [e1] at e2
        exact (Option.some.inj e2).symm
      subst this
      exact ⟨tk, e⟩
  · rw [Array.toArray_toList]; exact hS
theorem v_listS {l : List Nat} (hl : l.length ≤ 1000000) (h : ∀ p H2, H p = none → Same H H2 → H2 p = some (.lst (l.map vc)) → Q (.ref p) H2) : rListS [.str (S l)] H Q := ⟨l, rfl, hl, fun p n => h p _ n (same_new n) upd_same⟩
theorem v_pop0 {l : Addr} {y : V} {xs : List V} (hl : H l = some (.lst (y :: xs))) (h : ∀ H2, But l H H2 → H2 l = some (.lst xs) → Q y H2) : rPopAt (.ref l) [.int 0] H Q := ⟨l, y :: xs, 0, 0, y, rfl, rfl, hl, by decide, by decide, by simp [seqIndex?], rfl, h _ But.upd upd_same⟩
end
end Lv

set_option Elab.async false
set_option linter.all false
set_option maxRecDepth 100000
set_option maxHeartbeats 3200000
namespace Lv
open PySem PySem.Spec PyProof.Rows L2 SX
/-! ### defs that show lists (repr): what they promise where nothing is being shown around them -/
structure FnG (P : Program) (w : World) (K : PySem.W.Frag) (mg : Str → Option Value) (base : Heap) (CX : CXT)
    (k : Nat) (f : Addr) (fd : FuncData) (ps : List Str) (sp : Sp) : Prop where
  len : ∀ vs H Q E, sp vs H Q E → vs.length = ps.length
  run : ∀ (A : Around) (outer : List Env) (s : Shared) (H : Hp) (args : Args) (us : List Value) (vs : List V) (Q : VK) (E : XK),
    Room k A → A.guards = some [] → Env0 P w K mg base A outer s H → BindsTo s fd args (ps.zip us) → Vals vs us → sp vs H Q E →
      codeAny (model P w) A (.call (.ref f) args) (CR CX outer P w H s Q E) s
section
variable {P : Program} {w : World} {K : PySem.W.Frag} {mg : Str → Option Value} {base : Heap}
theorem FnG.mono {CX : CXT} {j k : Nat} {f : Addr} {fd : FuncData} {ps : List Str} {sp : Sp} (F : FnG P w K mg base CX j f fd ps sp) (h : j ≤ k) : FnG P w K mg base CX k f fd ps sp :=
  ⟨F.len, fun A o s H args us vs Q E r g e b v p => F.run A o s H args us vs Q E (r.mono h) g e b v p⟩
/-- a def by its body's reading -/
theorem Fun_okG {x qual : Str} {st : Stmt} {f : Addr} {fd : FuncData} {N ps : List Str} {k : Nat} {sp : Sp}
    (F : Fun K x qual st f fd) (S : FnScope N ps (defScope st)) (len : ∀ vs H Q E, sp vs H Q E → vs.length = ps.length)
    (hbody : ∀ (cdv : Value) (A : Around) (outer : List Env) (s : Shared) (H : Hp) (vs : List V) (Q : VK) (E : XK),
      Room k (A.deeper (envOfC qual (defScope st) s.heap.objs.size f cdv)) → A.guards = some [] → sp vs H Q E →
      ∃ t, PSs (cxOf CX0 P w K mg base N qual (defScope st) f cdv A outer s H E).nox (defBody st) t ∧ t { nx := fun _ H' => Q .non H', rt := Q } (start N vs) H) :
    FnG P w K mg base CX0 (k + 1) f fd ps sp := by
  obtain ⟨oc, od, kV, doc, pm, an, cdv, ct, osl, rfl, lk, hcd⟩ := F.ex
  constructor
  · exact len
  intro A outer s H args us vs Q E room guard env bind rel prom
  have size := len vs H Q E prom
  have inK : K.In s.heap := env.mod.kin.keeps fun b o q => (env.bs b o q).1
  have limit : s.heap.NoLimit := env.mod.nolimit.keeps fun b o q => (env.bs b o q).1
  have kinds : ∀ y ∈ ps.zip us, (defScope st).names.lookup y.1 = some .local ∨
      ((defScope st).names.lookup y.1 = some .cell ∧ ((cellsFrom (s.heap.objs.size + 1) (defScope st).names []).lookup y.1).isSome = true) := by
    rintro ⟨n, v⟩ mem
    have := S.par n (List.of_mem_zip mem).1
    exact this.imp id fun c => ⟨c, PySem.W.cellsFrom_some _ _ _ (.inl c)⟩
  apply codeAny_call_function room.depth (inK _ _ lk) rfl S.co S.gen rfl (PySem.W.codeRec_of inK hcd)
  apply bind
  apply wpAny_newFunctionEnv_cells S.kind kinds
  intro e eqe s1 made
  subst eqe
  refine ⟨limit.keeps made.toInCall.keep, codeAny_func ?_⟩
  obtain ⟨t, walk, reads⟩ := hbody cdv A outer s H vs Q E (room.deeper _) guard prom
  have inv := inv_start (CX := CX0) (E := E) S room.hd env size rel made
  refine wpAny_mono (walk.nox.run [] s1 (start N vs) H _ inv reads) ?_ (fun e s' q => q)
  intro fl s' out
  have close : ∀ {σ' : L2.St} {H' : Hp} {v : V} {u : Value}, L2.Inv (cxOf CX0 P w K mg base N qual (defScope st) f cdv A outer s H E) [] σ' H' s' →
      RelV v u → Q v H' → CE outer P w H s Q u s' := fun J r q => ⟨_, _, J.os, J.bare, J.base, J.hok, r, q⟩
  cases fl with
  | next => exact let ⟨_, _, J, q⟩ := out; close (v := V.non) (u := Value.none) J rfl q
  | ret u => exact let ⟨_, _, _, J, r, q⟩ := out; close J r q
  | brk => exact let ⟨_, _, _, q⟩ := out; q.elim
  | cont => exact let ⟨_, _, _, q⟩ := out; q.elim
end
section
variable {X : Cx} {k : Nat} {f : Addr} {fd : FuncData} {ps : List Str} {sp : Sp} {x : Str} {p pos : Pos} {e : Expr} {es : List Expr} {t : TA}
/-- a call of such a def (that raises nothing) -/
theorem pe_callG (F : FnG X.prog X.w X.K X.mg X.base CX0 k f fd ps sp) (room : Room k X.A) (guard : X.A.guards = some []) (hg : Gl X x) (hm : X.mg x = some (.ref f))
    (hk : PySem.W.keepIn X.K (.ref f) = true) (hb : Binds X.K fd ps []) (ha : PA X (e :: es) t) (hdb : (x == ("__debug__" : Str)) = false := by decide)
    (he : starEach (e :: es) X.env = (false, eval e X.env) :: starEach es X.env := by rfl) (hpl : (backTo pos (starEach es X.env)).any (·.1) = false := by rfl) :
    PE X (.Call (.Name x p) (e :: es) [] pos) (tCall sp [] E0 t) := by
  constructor
  intro pins s σ H Q I h
  refine wpAny_Call_Name_kw (ld_glob I hg hm ?_ hdb)
  refine PySem.W.callWith_K (h₀ := X.base) I.ok.mod.kin hk (thn (ha.run pos pins s σ H _ I h) ?_) he hpl
  rintro us s1 ⟨vs, H1, I1, r, q⟩
  refine ⟨I1.kIn, ?_⟩
  have q : sp vs H1 Q E0 := by simpa using q
  have size : us.length = ps.length := by rw [← r.length]; exact F.len _ _ _ _ q
  have bnd := hb s1 us I1.kIn (by simpa using size)
  rw [List.append_nil] at bnd
  refine wpAny_call (codeAny_mono (F.run X.A X.stack s1 H1 ⟨us, []⟩ us vs Q E0 room guard I1.env0 bnd r q) ?_)
  intro r2 s' hq
  cases r2 with
  | error e => exact False.elim hq
  | ok fl =>
    cases fl with
    | ret u => exact I1.after hq
    | next => exact False.elim hq
    | brk => exact False.elim hq
    | cont => exact False.elim hq
/-- repr of data -/
def shw (d : PyData) : List Nat := d.shown.cps.toList
theorem shw_S (d : PyData) : S (shw d) = d.shown := by
  unfold shw
  show (⟨d.shown.cps.toList.toArray⟩ : Str) = _
  rw [Array.toArray_toList]
def rRepr (K : PySem.W.Frag) : List V → Hp → VK → Prop := fun xs H Q => ∃ (v : V) (d : PyData), xs = [v] ∧ Dp K H v d ∧ d.showable = true ∧ d.hasDict = false ∧ d.depth ≤ 20 ∧ d.shown.length ≤ sizeLine ∧ Q (.str (S (shw d))) H
theorem call_repr (guard : X.A.guards = some []) (hu : X.A.units + 64 < cLine) : CallR X (.builtin "repr") (rRepr X.K) := by
  intro pins s σ H xs us Q I r h
  obtain ⟨v, d, rfl, hd, sh, nd, dp, sz, q⟩ := h
  rw [shw_S] at q
  obtain ⟨u, eu, rx⟩ := vals1 r
  subst eu
  obtain ⟨as, rd⟩ := Dp.reads I d v u hd rx
  cases rd with
  | none => exact P.repr_of_none ⟨.str _, H, I.tok _, ⟨_, rfl⟩, q⟩
  | bool b => exact P.repr_of_bool ⟨.str _, H, I.tok _, ⟨_, rfl⟩, q⟩
  | int i t => exact P.repr_of_int (by simpa [PyData.showable] using sh) ⟨.str _, H, I.tok _, ⟨_, rfl⟩, q⟩
  | str x t => exact P.repr_of_str (hsz := sz) ⟨.str _, H, I.tok _, ⟨_, rfl⟩, q⟩
  | list h1 h2 h3 h4 => exact repr_of_reads' (.list h1 h2 h3 h4) sh (fun z => by rw [nd] at z; cases z) guard (by omega) (fun _ _ e => e) (fun h' u tk hk => ⟨.str _, H, I.kept hk, ⟨_, rfl⟩, q⟩) sz
  | tuple h1 h2 h3 h4 => exact repr_of_reads' (.tuple h1 h2 h3 h4) sh (fun z => by rw [nd] at z; cases z) guard (by omega) (fun _ _ e => e) (fun h' u tk hk => ⟨.str _, H, I.kept hk, ⟨_, rfl⟩, q⟩) sz
  | dict h1 h2 h3 h4 h5 => cases nd
end
/-! lists of whole numbers shown -/
def dInts (ns : List Int) : PyData := .list (ns.map PyData.int)
theorem show_ints : ∀ ns : List Int, (∀ n ∈ ns, n.natAbs.log2 < 1920) → PyData.showableAll (ns.map PyData.int) = true
  | [], _ => rfl
  | n :: ns, h => by
    rw [List.map_cons, PyData.showableAll, show_ints ns fun m hm => h m (List.mem_cons_of_mem _ hm), Bool.and_true]
    show decide (n.natAbs.log2 < 1920) = true
    exact decide_eq_true (h n List.mem_cons_self)
theorem nodict_ints : ∀ ns : List Int, PyData.hasDictAll (ns.map PyData.int) = false
  | [] => rfl
  | n :: ns => by rw [List.map_cons, PyData.hasDictAll, nodict_ints ns]; rfl
theorem depth_ints0 : ∀ ns : List Int, PyData.depthAll (ns.map PyData.int) = 0
  | [] => rfl
  | n :: ns => by rw [List.map_cons, PyData.depthAll, depth_ints0 ns]; rfl
theorem shown_ints : ∀ ns : List Int, (∀ n ∈ ns, n.natAbs.log2 < 1920) → ((PyData.shownAll (ns.map PyData.int)).map (·.length)).sum ≤ 1921 * ns.length ∧ (PyData.shownAll (ns.map PyData.int)).length = ns.length
  | [], _ => ⟨Nat.le_refl _, rfl⟩
  | n :: ns, h => by
    obtain ⟨h1, h2⟩ := shown_ints ns fun m hm => h m (List.mem_cons_of_mem _ hm)
    have h3 := int_text_len_1921 (h n List.mem_cons_self)
    have h4 : (PyData.shown (.int n)).length ≤ 1921 := by
      show (Str.ofString (toString n)).length ≤ 1921
      exact h3
    rw [List.map_cons, PyData.shownAll, List.map_cons, List.sum_cons, List.length_cons, List.length_cons, h2]
    exact ⟨by omega, rfl⟩
theorem size_ints {ns : List Int} (hl : ns.length ≤ 2000) (h : ∀ n ∈ ns, n.natAbs.log2 < 1920) : (dInts ns).shown.length ≤ sizeLine := by
  obtain ⟨h1, h2⟩ := shown_ints ns h
  have := listText_len_le (PyData.shownAll (ns.map PyData.int))
  have e : (dInts ns).shown = listText (PyData.shownAll (ns.map PyData.int)) := by
    unfold dInts
    rw [PyData.shown]
  rw [e, sizeLine_eq]
  omega
theorem i_reprI {K : PySem.W.Frag} {p : Addr} {ns : List Int} {H : Hp} {Q : VK} (hp : SqL K H p (ns.map V.int)) (hl : ns.length ≤ 2000) (h : ∀ n ∈ ns, n.natAbs.log2 < 1920) (q : Q (.str (S (shw (dInts ns)))) H) : rRepr K [.ref p] H Q :=
  ⟨.ref p, dInts ns, rfl, .lst hp (dp_ints ns), by unfold dInts; rw [PyData.showable]; exact show_ints ns h, by unfold dInts; rw [PyData.hasDict]; exact nodict_ints ns, by unfold dInts; rw [PyData.depth, depth_ints0]; decide, size_ints hl h, q⟩
theorem log_small {n : Nat} (h : n < 2 ^ 1900) : ((n : Int)).natAbs.log2 < 1920 := by
  rw [Int.natAbs_natCast]
  rcases Nat.eq_zero_or_pos n with z | z
  · subst z; decide
  · exact (Nat.log2_lt (by omega)).mpr (Nat.lt_of_lt_of_le h (Nat.pow_le_pow_right (by decide) (by decide)))
def dNats (ns : List Nat) : PyData := dInts (ns.map fun n : Nat => (n : Int))
theorem i_reprN {K : PySem.W.Frag} {p : Addr} {ns : List Nat} {H : Hp} {Q : VK} (hp : SqL K H p (ns.map iv)) (hl : ns.length ≤ 2000) (h : ∀ n ∈ ns, n < 2 ^ 1900) (q : Q (.str (S (shw (dNats ns)))) H) : rRepr K [.ref p] H Q := by
  rw [ivs] at hp
  refine i_reprI hp (by simpa using hl) (fun n hn => ?_) q
  obtain ⟨m, hm, rfl⟩ := List.mem_map.mp hn
  exact log_small (h m hm)
theorem i_reprNone {K : PySem.W.Frag} {H : Hp} {Q : VK} (q : Q (.str (S (shw .none))) H) : rRepr K [.non] H Q := ⟨.non, .none, rfl, .non, rfl, rfl, by decide, by decide +kernel, q⟩
end Lv

set_option Elab.async false
set_option linter.all false
set_option maxRecDepth 100000
set_option maxHeartbeats 3200000
namespace Lv
open PySem PySem.Spec PyProof.Rows L2 SX
/-! ### the end of a law whose defs show lists -/
/-- the law's call, the script being tracked (locked) in H or standing in the written part -/
theorem law_runG {P : Program} {w : World} {K : PySem.W.Frag} {mg mb : Str → Option Value} {k : Nat} {fa a : Addr} {fd : FuncData} {x : Str} {sp : Sp} {s1 : Shared} {H : Hp} {o : Obj}
    (inK : K.In s1.heap) (g1 : s1.heap.Ns mainGlobals mg) (g2 : s1.heap.Ns builtinsNs mb) (g3 : ∀ x : Str, x ≠ "__name__" → mb x = bootBuiltins x) (g4 : s1.heap.NoLimit) (g5 : s1.gens = #[])
    (ha : s1.heap.get? a = some o) (seq : ∃ vs n, o.data = .seq vs n) (room : Room k callerA)
    (F : ∀ base : Heap, K.In base → base.Ns mainGlobals mg → FnG P w K mg base CX0 k fa fd [x] sp) (bind : ∀ (s : Shared) (u : Value), BindsTo s fd ⟨[u], []⟩ [(x, u)])
    (only : ∀ b u, H b = some u → b = a ∧ ∃ xs, u = .frz o (.lst xs)) (ok : HOk P w H s1.heap) (free : H a ≠ none → K.lookup a = none)
    (prom : sp [.ref a] H (fun v _ => v = .bl true) E0) :
    codeAny (model P w) callerA (.call (.ref fa) ⟨[.ref a], []⟩) (fun r s' => r = .ok (.ret (.bool true)) ∧ OldK s1.heap s'.heap ∧ s'.os = s1.os ∧ AllBare s'.gens) s1 := by
  have keep : ∀ {b : Addr} {u : Obj}, s1.heap.get? b = some u → H b = none → (hidT s1.heap H).get? b = some u := fun q n => hidT_get q n
  have nodict : ∀ {b : Addr} {u : Obj} {es : Array DictEntry} {ep : Nat}, s1.heap.get? b = some u → u.data = .dict es ep → H b = none := by
    intro b u es ep q z
    rcases e : H b with _ | t
    · rfl
    · obtain ⟨rfl, _⟩ := only b t e
      obtain ⟨vs, n, hq⟩ := seq
      rw [ha] at q
      cases q
      rw [hq] at z
      cases z
  have names : ∀ {b : Addr} {m : Str → Option Value}, s1.heap.Ns b m → (hidT s1.heap H).Ns b m := by
    rintro b m ⟨u, es, ep, q, z, r⟩
    exact ⟨u, es, ep, keep q (nodict q z), z, r⟩
  have inB : K.In (hidT s1.heap H) := by
    intro b u q
    refine keep (inK b u q) ?_
    rcases e : H b with _ | t
    · rfl
    · obtain ⟨rfl, _⟩ := only b t e
      rw [free (by rw [e]; exact fun z => nomatch z)] at q
      cases q
  have lim : (hidT s1.heap H).NoLimit := by
    obtain ⟨mc, q1, q2⟩ := g4
    exact ⟨mc, names q1, q2⟩
  have env : Env0 P w K mg (hidT s1.heap H) callerA [] s1 H :=
    { frames := rfl, mod := ⟨inB, names g1, ⟨mb, names g2, g3⟩, lim⟩, bs := fun b u q => of_hidT q, bsz := Nat.le_of_eq (hidT_size _ _), funs := trivial,
      frf := fun b z => absurd z (by intro y; cases y), hok := ok, bare := .of_eq g5 }
  have run := (F _ inB (names g1)).run callerA [] s1 H ⟨[.ref a], []⟩ [.ref a] [.ref a] (fun v _ => v = .bl true) E0 room rfl env (bind s1 (.ref a)) (.cons rfl .nil) prom
  refine codeAny_mono run ?_
  intro r s' out
  cases r with
  | error e => exact False.elim out
  | ok fl =>
    cases fl with
    | ret u =>
      obtain ⟨v, H', os, bare, un, ok', rel, q⟩ := out
      cases (show v = .bl true from q)
      cases (show u = Value.bool true from rel)
      refine ⟨rfl, OldK.of_keep ?_, os, bare⟩
      intro b u q
      rcases e : H b with _ | t
      · exact un.keep b u q e (fun z => by cases z) (by simp)
      · obtain ⟨rfl, xs, rfl⟩ := only b t e
        rw [ha] at q
        cases q
        exact (ok' b _ (un.frzs b o _ e)).1
    | next => exact False.elim out
    | brk => exact False.elim out
    | cont => exact False.elim out
theorem walk_ofG {l : PySem.W.OpenLaw} {n k : Nat} {q : Program} {loose : List Str} {XP : (Str → Option Value) → Heap → Prop} {YP : World → Heap → Prop} {d : DefRec} {K : Params → PySem.W.Frag} {sp : World → Sp} {x : Str}
    (hn : l.most = some n) (hn2 : n ≤ sizeLine) (hdf : d.params.defaults = []) (room : Room k callerA) (hY : ∀ (w : World) (h : Heap), YP w h → (K w.params).In h)
    (F : ∀ (w : World) (mg : Str → Option Value) (fa : Addr) (h : Heap), (K w.params).In h → h.Ns mainGlobals mg → mg d.name = some (.ref fa) →
      ∃ fd : FuncData, (∀ (s : Shared) (u : Value), BindsTo s fd ⟨[u], []⟩ [(x, u)]) ∧
        ∀ base : Heap, (K w.params).In base → base.Ns mainGlobals mg → FnG l.prog w (K w.params) mg base CX0 k fa fd [x] (sp w))
    (prom : ∀ (w : World) (H : Hp) (a : Addr) (ns : List Int), ns.length ≤ n → SqL (K w.params) H a (ns.map V.int) → sp w [.ref a] H (fun v _ => v = .bl true) E0) :
    PySem.W.WalkO q loose XP YP l.row.toRowW d [] (fun f vs => PySem.call f vs) := by
  apply Att.attach_call hn hdf
  intro w s0 s1 mg mb fa o pm cd doc a vs ns G Y ho hd hcd hmg hobj isI few bare
  have inK := hY w _ Y
  have size : ns.length ≤ sizeLine := Nat.le_trans few hn2
  obtain ⟨fd, bind, fn⟩ := F w mg fa _ inK G.T.g hmg
  have vals := vals_ints isI
  rcases lk : (K w.params).lookup a with _ | ob
  · -- tracked and locked
    have here : ∀ b u, (if b = a then some (HO.frz { cls := .type "list", data := .seq vs.toArray } (.lst (ns.map V.int))) else none) = some u → b = a ∧ u = .frz { cls := .type "list", data := .seq vs.toArray } (.lst (ns.map V.int)) := by
      intro b u z
      split at z
      · exact ⟨by assumption, (Option.some.inj z).symm⟩
      · cases z
    refine law_runG (H := fun b => if b = a then some (.frz { cls := .type "list", data := .seq vs.toArray } (.lst (ns.map V.int))) else none) inK G.T.g G.T.b G.T.builtins G.T.nolimit bare hobj ⟨_, _, rfl⟩ room fn bind ?_ ?_ (fun _ => lk) ?_
    · intro b u z
      obtain ⟨h1, h2⟩ := here b u z
      exact ⟨h1, _, h2⟩
    · intro b u z
      obtain ⟨rfl, rfl⟩ := here b u z
      exact ⟨hobj, by simpa using size, vs, _, vals, hobj⟩
    · exact prom w _ a ns few (.inl (.inr ⟨_, if_pos rfl⟩))
  · have e := inK a ob lk
    rw [hobj] at e
    cases e
    refine law_runG (H := fun _ => none) inK G.T.g G.T.b G.T.builtins G.T.nolimit bare hobj ⟨_, _, rfl⟩ room fn bind (fun b u z => by cases z) (fun b u z => by cases z) (fun z => absurd rfl z) ?_
    exact prom w _ a ns few (.inr ⟨_, vs.toArray, _, lk, rfl, rfl, rfl, by rw [List.size_toArray, isI.length]; exact size, by simpa using vals⟩)
end Lv

set_option Elab.async false
set_option linter.all false
set_option maxRecDepth 100000
set_option maxHeartbeats 3200000
namespace Lv
open PySem PySem.Spec PyProof.Rows L2 SX
/-! ### instances -/
/-- the class at C, whose instances keep the fields fs -/
structure Kl (K : PySem.W.Frag) (C : Addr) (fs : List Str) : Prop where
  cl : Cls K C
  no : ∀ f, f ∈ fs → NoAttr K C f
theorem Kl.of1 {K : PySem.W.Frag} {C : Addr} {f : Str} (c : Cls K C) (h : NoAttr K C f) : Kl K C [f] := ⟨c, fun g hg => by rw [List.mem_singleton.mp hg]; exact h⟩
theorem Kl.more {K : PySem.W.Frag} {C : Addr} {f : Str} {fs : List Str} (h : NoAttr K C f) (k : Kl K C fs) : Kl K C (f :: fs) := ⟨k.cl, fun g hg => by
  rcases List.mem_cons.mp hg with e | e
  · rw [e]; exact h
  · exact k.no g e⟩
section
variable {K : PySem.W.Frag} {C : Addr} {ta tv : TE} {t : TA} {f m : Str} {σ : L2.St} {H : Hp} {Q : VK} {E : XK} {dvs : List V} {sp : Sp} {D : Ends}
def rMe (C : Addr) (m : Str) (x : V) (H : Hp) (k : Prop) : Prop := ∃ a dx fs, x = .ref a ∧ H a = some (.ins C dx fs) ∧ fs.lookup m = none ∧ k
def rFl (K : PySem.W.Frag) (f : Str) (x : V) (H : Hp) (Q : V → Prop) : Prop := ∃ a C dx fs v, x = .ref a ∧ H a = some (.ins C dx fs) ∧ Cls K C ∧ NoAttr K C f ∧ fs.lookup f = some v ∧ Q v
def rPf (K : PySem.W.Frag) (f : Str) (y x : V) (H : Hp) (k : Hp → Prop) : Prop := ∃ a C dx fs, x = .ref a ∧ H a = some (.ins C dx fs) ∧ Cls K C ∧ NoAttr K C f ∧ fs.length < 1000 ∧ k (upd H a (.ins C dx (putF f y fs)))
theorem i_meth (h : ta σ H fun x H1 => rMe C m x H1 (t σ H1 fun vs H2 => sp (x :: (vs ++ dvs)) H2 Q E)) : tMeth C m sp dvs E ta t σ H Q := h
theorem i_fld (h : ta σ H fun x H1 => rFl K f x H1 fun v => Q v H1) : tFld K ta f σ H Q := h
theorem i_sfld (h : tv σ H fun y H1 => ta σ H1 fun x H2 => rPf K f y x H2 fun H3 => D.nx σ H3) : sFld K ta tv f D σ H := h
def rMk (C : Addr) (sp : Sp) (dvs : List V) (E : XK) (vs : List V) (H1 : Hp) (Q : VK) : Prop := ∀ x dx, H1 x = none → H1 dx = none → dx ≠ x →
  sp (.ref x :: (vs ++ dvs)) (upd (upd H1 dx (.own x)) x (.ins C dx [])) (fun v H2 => v = .non ∧ Q (.ref x) H2) E
theorem i_make (h : t σ H fun vs H1 => rMk C sp dvs E vs H1 Q) : tMake C sp dvs E t σ H Q := h
theorem x_mk {vs : List V} (h : ∀ x dx H2, H x = none → Same H H2 → H2 x = some (.ins C dx []) → sp (.ref x :: (vs ++ dvs)) H2 (fun v H3 => v = .non ∧ Q (.ref x) H3) E) : rMk C sp dvs E vs H Q := by
  intro x dx n1 n2 ne
  refine h x dx _ n1 ?_ upd_same
  intro b o e
  rw [upd_ne (ne_of_none e n1), upd_ne (ne_of_none e n2)]
  exact e
theorem x_me {a dx : Addr} {fs : List (Str × V)} {k : Prop} (h : H a = some (.ins C dx fs)) (l : fs.lookup m = none) (q : k) : rMe C m (.ref a) H k := ⟨a, dx, fs, rfl, h, l, q⟩
theorem x_fl {a dx : Addr} {fs : List (Str × V)} {v : V} {R : V → Prop} (z : Kl K C [f]) (h : H a = some (.ins C dx fs)) (l : fs.lookup f = some v) (q : R v) : rFl K f (.ref a) H R := ⟨a, C, dx, fs, v, rfl, h, z.cl, z.no f (List.mem_singleton.mpr rfl), l, q⟩
theorem x_pf {a dx : Addr} {fs : List (Str × V)} {y : V} {k : Hp → Prop} (z : Kl K C [f]) (h : H a = some (.ins C dx fs)) (l : fs.length < 1000) (q : ∀ H2, But a H H2 → H2 a = some (.ins C dx (putF f y fs)) → k H2) : rPf K f y (.ref a) H k :=
  ⟨a, C, dx, fs, rfl, h, z.cl, z.no f (List.mem_singleton.mpr rfl), l, q _ But.upd upd_same⟩
theorem lk_yes {v : V} : [(f, v)].lookup f = some v := by simp [List.lookup]
theorem lk_no {v : V} (h : (m == f) = false) : [(f, v)].lookup m = none := by simp [List.lookup, h]
theorem put_one {v w : V} : putF f w [(f, v)] = [(f, w)] := by simp [putF]
theorem put_nil {w : V} : putF f w [] = [(f, w)] := rfl
end
/-! ### None or a list of ints -/
def OL (K : PySem.W.Frag) (H : Hp) (x : V) : Option (List Int) → Prop
  | none => x = .non
  | some ns => ∃ p, x = .ref p ∧ SqL K H p (ns.map V.int)
theorem OL.n {K : PySem.W.Frag} {H : Hp} : OL K H .non none := rfl
theorem OL.s {K : PySem.W.Frag} {H : Hp} {p : Addr} {ns : List Int} (h : SqL K H p (ns.map V.int)) : OL K H (.ref p) (some ns) := ⟨p, rfl, h⟩
def olD : Option (List Int) → PyData
  | none => .none
  | some ns => .list (ns.map PyData.int)
theorem olD_dp {K : PySem.W.Frag} {H : Hp} {x : V} : ∀ {o : Option (List Int)}, OL K H x o → Dp K H x (olD o)
  | none, h => by rw [show x = .non from h]; exact .non
  | some ns, h => by
    obtain ⟨p, rfl, hp⟩ := h
    exact .lst hp (dp_ints ns)
theorem olD_shaped : ∀ o : Option (List Int), SeqAt.shaped (olD o) = true
  | none => by simp [olD, SeqAt.shaped, PyData.canLay0, PyData.depth]
  | some ns => shaped_ints ns
theorem olD_eqv : ∀ a b : Option (List Int), PyData.eqv (olD a) (olD b) = decide (a = b)
  | none, none => by simp [olD, PyData.eqv]
  | none, some _ => by simp [olD, PyData.eqv]
  | some _, none => by simp [olD, PyData.eqv]
  | some ns, some ms => by simp only [olD, PyData.eqv, eqv_ints, Option.some.injEq]
def rEqOL (K : PySem.W.Frag) : R2 := fun x y H Q => ∃ a b, OL K H x a ∧ OL K H y b ∧ Q (.bl (decide (a = b))) H
def rNeOL (K : PySem.W.Frag) : R2 := fun x y H Q => ∃ a b, OL K H x a ∧ OL K H y b ∧ Q (.bl (!decide (a = b))) H
theorem op_eqOL {X : Cx} (hu : X.A.units + 64 < cLine) : OpR X (compareOp .Eq) (rEqOL X.K) := by
  intro pins s σ H x y v u Q I rx ry h
  obtain ⟨a, b, h1, h2, k⟩ := h
  refine op_eqD hu pins s σ H _ _ v u Q I rx ry ⟨_, _, olD_dp h1, olD_dp h2, olD_shaped a, olD_shaped b, ?_⟩
  rw [olD_eqv]
  exact k
theorem op_neOL {X : Cx} (hu : X.A.units + 64 < cLine) : OpR X (compareOp .NotEq) (rNeOL X.K) := by
  intro pins s σ H x y v u Q I rx ry h
  obtain ⟨a, b, h1, h2, k⟩ := h
  refine op_neD hu pins s σ H _ _ v u Q I rx ry ⟨_, _, olD_dp h1, olD_dp h2, olD_shaped a, olD_shaped b, ?_⟩
  rw [olD_eqv]
  exact k
section
variable {td ty tx : TE} {σ : L2.St} {H : Hp} {Q : VK}
def rG2 (x : V) (H1 : Hp) (ty tx : TE) (σ : L2.St) (Q : VK) : Prop := ∃ a, x = .ref a ∧ IsD H1 a ∧ ty σ H1 fun y H2 => tx σ H2 fun z H3 => ∃ o, DGet H3 a y o ∧ Q (o.getD z) H3
theorem i_dGet2 (h : td σ H fun x H1 => rG2 x H1 ty tx σ Q) : tDGet2 td ty tx σ H Q := h
theorem x_g2 {d : Addr} {kvs : List (Key × V)} (hd : H d = some (.dK kvs)) (h : ty σ H fun y H2 => tx σ H2 fun z H3 => ∃ o, DGet H3 d y o ∧ Q (o.getD z) H3) : rG2 (.ref d) H ty tx σ Q := ⟨d, rfl, .inl ⟨kvs, .inl hd⟩, h⟩
theorem x_gv {d : Addr} {kvs : List (Key × V)} {l : List Nat} {z : V} (hd : H d = some (.dK kvs)) (h : Q ((valV kvs (.inr (S l))).getD z) H) : ∃ o, DGet H d (.str (S l)) o ∧ Q (o.getD z) H := ⟨_, .inl ⟨kvs, .inr (S l), .inl hd, rfl, rfl⟩, h⟩
end
/-- all but some objects stay -/
def Bu (as : List Addr) (H H' : Hp) : Prop := ∀ b o, b ∉ as → H b = some o → H' b = some o
theorem Bu.refl (as : List Addr) (H : Hp) : Bu as H H := fun _ _ _ h => h
theorem Bu.trans {as : List Addr} {H H1 H2 : Hp} (a : Bu as H H1) (b : Bu as H1 H2) : Bu as H H2 := fun c o n h => b c o n (a c o n h)
theorem Bu.but {as : List Addr} {a : Addr} {H H' : Hp} (m : a ∈ as) (b : But a H H') : Bu as H H' := fun c o n h => b c o (fun z => n (z ▸ m)) h
theorem Bu.same {as : List Addr} {H H' : Hp} (s : Same H H') : Bu as H H' := fun c o _ h => s c o h
theorem Bu.more {as bs : List Addr} {H H' : Hp} (m : ∀ a ∈ as, a ∈ bs) (b : Bu as H H') : Bu bs H H' := fun c o n h => b c o (fun z => n (m c z)) h
/-- what is new may change -/
theorem Bu.new {as bs : List Addr} {H0 H H' : Hp} (s : Bu bs H0 H) (b : Bu as H H') (n : ∀ a ∈ as, a ∈ bs ∨ H0 a = none) : Bu bs H0 H' := fun c o nc h => b c o (fun z => by
  rcases n c z with k | k
  · exact nc k
  · rw [k] at h; cases h) (s c o nc h)
theorem Bu.to {as : List Addr} {H H' : Hp} (b : Bu as H H') (n : ∀ a ∈ as, H a = none) : Same H H' := fun c o h => b c o (fun z => by rw [n c z] at h; cases h) h
/-- a test that leaves the heap, told by P -/
theorem if_P {tt : TT} {A B : TS} {D : Ends} {σ : L2.St} {H : Hp} (P : Bool → Prop) (h : ∀ Q : Bool → Hp → Prop, (∀ b, P b → Q b H) → tt σ H Q) (k1 : P true → A D σ H) (k2 : P false → B D σ H) : tIfS tt A B D σ H := by
  refine h _ fun b hb => ?_
  cases b
  · exact iteF (k2 hb)
  · exact iteT (k1 hb)
/-- a test that is false at the end -/
theorem if_F {tt : TT} {A B : TS} {D : Ends} {σ : L2.St} {H : Hp} (P : Hp → Prop) (h : ∀ Q : Bool → Hp → Prop, (∀ H', P H' → Q false H') → tt σ H Q) (k : ∀ H', P H' → B D σ H') : tIfS tt A B D σ H := h _ fun H' hp => iteF (k H' hp)
end Lv

set_option Elab.async false
set_option linter.all false
set_option maxRecDepth 100000
set_option maxHeartbeats 3200000
namespace Lv
open PySem PySem.Spec PyProof.Rows L2 SX
/-! ### max(text) -/
def rMaxS : List V → Hp → VK → Prop := fun xs H Q => ∃ l : List Nat, xs = [.str (S l)] ∧ l ≠ [] ∧ ∀ c, c ∈ l → (∀ d ∈ l, d ≤ c) → Q (.str (S [c])) H
theorem call_maxS {X : Cx} (hc : X.calm = true) : CallR X (.builtin "max") rMaxS := by
  intro pins s σ H xs us Q I r h
  obtain ⟨l, rfl, hl, q⟩ := h
  obtain ⟨u, eu, rx⟩ := vals1 r
  subst eu
  obtain ⟨t, rfl⟩ := rx
  have hsz : (S l).cps.size = l.length := by simp
  have hat : ∀ i c : Nat, (S l).cps[i]? = some c ↔ l[i]? = some c := fun i c => by simp
  refine PySem.call_max_walkH (wpAny_pyIter_str fun o St W hst => ?_)
  refine ⟨_, _, _, _, _, _, _, { s.heap with objs := #[] }, fun i j => decide ((l.getD i 0 : Int) > (l.getD j 0 : Int)), rfl, (W X.A.in1 (show X.A.in1.handled = none from I.ok.hd hc)).toS, hst, ?_, ?_, ?_, ?_, ?_, ?_⟩
  · intro b hb
    rw [List.mem_singleton.mp hb, Heap.size_push]
    exact Nat.lt_succ_self _
  · rw [hsz]; exact List.length_pos_iff.mpr hl
  · intro b o e
    simp [Heap.get?] at e
  · intro b o e
    simp [Heap.get?] at e
  · rintro i j vi vj s' Q' E' _ ⟨c, u1, h1, rfl⟩ ⟨d, u2, h2, rfl⟩ hq
    show wpAny _ _ (compareOp .Gt _ _) _ _ _
    refine PySem.P.gt_str ?_
    rw [hat] at h1 h2
    have e : decide ((#[d] : Array Nat).toList < (#[c] : Array Nat).toList) = decide ((l.getD i 0 : Int) > (l.getD j 0 : Int)) := by
      rw [List.getD_eq_getElem?_getD, List.getD_eq_getElem?_getD, h1, h2, decide_eq_decide]
      simp [List.cons_lt_cons_iff]
    rw [e]
    exact hq
  · rintro v s' ⟨c, u1, h1, rfl⟩ hm
    rw [hat, hsz] at h1
    obtain ⟨b1, b2⟩ := argBest_gt (fun i => (l.getD i 0 : Int)) (l.length - 1)
    have hx := q c (List.mem_of_getElem? h1) fun d hd => by
      obtain ⟨j, hj⟩ := List.mem_iff_getElem?.mp hd
      have jl := (List.getElem?_eq_some_iff.mp hj).1
      have := b2 j (by omega)
      rw [List.getD_eq_getElem?_getD, hj, List.getD_eq_getElem?_getD, h1] at this
      simpa using this
    refine ⟨.str (S [c]), H, ?_, ⟨u1, rfl⟩, hx⟩
    rw [Moved.eq_with hm]
    refine I.kept fun b u e => hm.heap b u (fun z => ?_) (Heap.get?_push_of_some _ e)
    rw [List.mem_singleton.mp z] at e
    exact absurd (Heap.lt_size e) (Nat.lt_irrefl _)
end Lv

set_option Elab.async false
set_option linter.all false
set_option maxRecDepth 100000
set_option maxHeartbeats 4000000
namespace Lv
open PySem PySem.Spec PyProof.Rows L2 SX
/-! xs[:c] = ys -/
section
variable {prog : Program} {w : World} {A : Around} {E : Value → Shared → Prop} {s : Shared}
theorem bnd0 {c n : Nat} (hc : c ≤ n) : sliceBounds none (some (c : Int)) none n = ((0 : Int), (c : Int), 1) := by
  have h2 : ¬ ((c : Int) < 0) := by omega
  simp only [sliceBounds, Option.getD_none, h2, if_false, show (1 : Int) > 0 by decide, if_true]
  congr 2
  omega
theorem set_ahead {l b sl : Addr} {xs ys : Array Value} {n n2 : Nat} {vl vu : Value} {c : Nat} {Q : Unit → Shared → Prop}
    (hl : s.heap.get? l = some { cls := .type "list", data := .seq xs n }) (hb : s.heap.get? b = some { cls := .type "list", data := .seq ys n2 }) (ne : l ≠ b)
    (sl1 : s.heap.IsSliceOf sl vl vu .none) (p1 : IsPart vl none) (p2 : IsPart vu (some (c : Int))) (cle : c ≤ xs.size) (sz : xs.size + ys.size ≤ sizeLine)
    (k : Q () { s with heap := s.heap.update l (Obj.mapSeq fun zs => zs.extract 0 0 ++ ys ++ zs.extract c zs.size) }) : wpAny (model prog w) A (setItem (.ref l) (.ref sl) (.ref b)) Q E s := by
  have il : s.heap.IsList l xs := PySem.IsL.isList hl
  have ib : s.heap.IsList b ys := PySem.IsL.isList hb
  obtain ⟨so, so1, so2, so3⟩ := id sl1
  have tS : s.TypeIs (.ref sl) "slice" := ⟨so, so1, so2⟩
  have st0 : ¬ ((rawPart none == rawInt 0) = true) := Bool.false_ne_true
  have dif : Builtin.List.listSameRef (.ref l) (.ref b) = false := by
    show (l == b) = false
    exact beq_eq_false_iff_ne.mpr ne
  have mx : (max (0 : Int) (c : Int)).toNat = c := by omega
  have szz : ((fun zs : Array Value => zs.extract 0 0 ++ ys ++ zs.extract c zs.size) xs).size ≤ sizeLine + 1 := by
    simp only [Array.size_append, Array.size_extract]; omega
  unfold setItem
  try with_reducible refine wpAny_holding ?_
  first | refine wpAny_bind (wpAny_pure ?_) | skip
  refine wpAny_bind (wpAny_sequenceKey il.typeIs (by decide) ?_)
  refine wpAny_bind (wpAny_callSpecial?_slot (name := Str.ofString "__setitem__") il.typeIs slot_list_setitem (wpAny_call_entry slot_list_setitem il.typeIs entry_list_setitem ?_ (args_list_setitem _ _ _)))
  show wpAny _ _ (Builtin.List.listSubscript? (.ref sl) >>= _) _ _ s
  refine wpAny_bind ?_
  unfold Builtin.List.listSubscript?
  refine wpAny_bind (wpAny_specialOf tS slice_no_index ?_)
  simp only [Option.isNone_none, if_true]
  refine wpAny_pure ?_
  show wpAny _ _ (typeOf (.ref sl) >>= _) _ _ s
  refine wpAny_bind (wpAny_typeOf tS ?_)
  first | rw [if_neg (by decide)] | refine PySem.W.KFB.if_not (by decide) ?_
  rw [listSliceParts_eq]
  refine wpAny_bind (wpAny_bind (wpAny_field so1 so3 (x := .none) rfl (wpAny_bind (wpAny_listPart .none ?_))))
  rw [if_neg st0]
  refine wpAny_bind (wpAny_field so1 so3 (x := vl) rfl (wpAny_bind (wpAny_listPart p1 ?_)))
  refine wpAny_bind (wpAny_field so1 so3 (x := vu) rfl (wpAny_bind (wpAny_listPart p2 (wpAny_pure ?_))))
  first | simp only [dif, Bool.false_eq_true, if_false] | refine PySem.W.KFB.if_not dif ?_ | (dsimp only; rw [if_neg (by rw [dif]; exact Bool.false_ne_true)])
  refine wpAny_bind (m := Builtin.List.listAllItems (.ref b) "must assign iterable to extended slice") ?_
  unfold Builtin.List.listAllItems
  refine wpAny_bind (wpAny_typeOf ib.typeIs ?_)
  first | refine PySem.W.KFB.if_so (by decide) ?_ | rw [if_pos (by decide)] | simp only [beq_self_eq_true, Bool.true_or, if_true]
  unfold Builtin.List.listItems
  refine wpAny_bind (wpAny_seqItems hb rfl (wpAny_pure ?_))
  refine wpAny_bind (wpAny_bind (wpAny_seqItems hl rfl (wpAny_pure ?_)))
  refine wpAny_bind (wpAny_of_eq ((sliceIndices_raw none (some (c : Int)) none xs.size (by simp)).trans (congrArg (pure : Int × Int × Int → Sem (Int × Int × Int)) (bnd0 cle))) ?_)
  show wpAny _ _ (if ((1 : Int) == 1) = true then _ else _) _ _ s
  rw [if_pos (by decide)]
  refine wpAny_bind (wpAny_rule ?_)
  first | simp only [notLongL sz, Bool.false_eq_true, if_false] | refine PySem.W.KFB.if_not (notLongL sz) ?_
  first | refine wpAny_bind (wpAny_pure ?_) | skip
  show wpAny _ _ (updateSeq l (fun zs => zs.extract 0 ((0 : Int)).toNat ++ ys ++ zs.extract (max (0 : Int) (c : Int)).toNat zs.size) >>= _) _ _ s
  rw [mx]
  refine wpAny_bind (wpAny_updateSeq (hz := Nat.le_trans (Nat.le_add_right _ _) sz) (_hz' := szz) hl rfl ?_)
  refine wpAny_bind (wpAny_letGo ?_)
  first | exact wpAny_bind (wpAny_pure (wpAny_pure ⟨.none, rfl, wpAny_pure k⟩)) | exact wpAny_pure ⟨.none, rfl, wpAny_pure k⟩
end
/-- xs[:c] = ys -/
def gAhead (to th : TE) : TG := fun v σ H Q => to σ H fun o H1 => th σ H1 fun i H2 => ∃ (l b : Addr) (xs ys : List V) (c : Nat), o = .ref l ∧ i = .int (c : Int) ∧ v = .ref b ∧ H2 l = some (.lst xs) ∧ H2 b = some (.lst ys) ∧ l ≠ b ∧ c ≤ xs.length ∧ xs.length + ys.length ≤ sizeLine ∧ Q σ (upd H2 l (.lst (ys ++ xs.drop c)))
theorem pg_ahead {X : Cx} {o e : Expr} {to th : TE} {p2 pos : Pos} (ho : PE X o to) (he : PE X e th)
    (ha : ∀ v, assign (.Subscript o (.Slice none (some e) none p2) pos) X.env v = (do
      let ov ← holding [v] (eval o X.env)
      let iv ← holding [v, ov] (eval (.Slice none (some e) none p2) X.env)
      standAt pos
      holding [v, ov, iv] (setItem ov iv v)
      release [iv, v, ov] []) := by intro _; rfl) : PG X (.Subscript o (.Slice none (some e) none p2) pos) (gAhead to th) := by
  refine ⟨fun pins s σ H v u Q I r h => ?_⟩
  rw [ha]
  refine wpAny_bind (wpAny_holding (thn (ho.run pins s σ H _ I h) fun ov s1 ⟨x, H1, I1, r1, q1⟩ => wpAny_bind (wpAny_holding ?_)))
  refine wpAny_Slice (thn (po_none.run pins s1 σ H1 (fun o H2 => o = none ∧ H2 = H1) I1 ⟨rfl, rfl⟩) fun vl s2 ⟨lo, H2, I2, pl, el, e2⟩ => ?_)
  subst el e2
  refine thn (he.run pins s2 σ H2 _ I2 q1) fun vu s3 ⟨y, H3, I3, r3, q3⟩ => ?_
  obtain ⟨l, b, xs, ys, c, rfl, rfl, rfl, hl, hb, ne, cle, sz, q⟩ := q3
  obtain ⟨t, rfl⟩ := r3
  rw [evalPart_none]
  refine wpAny_pure ?_
  have I4 : Inv X pins σ H3 { s3 with heap := s3.heap.push { cls := .type "slice", data := .fields #[vl, .int c t, .none] } } := I3.kept (t' := s3.toks) fun b ob q => Heap.get?_push_of_some _ q
  cases r1
  cases r
  obtain ⟨z, its, n, rv, hlen, e⟩ := I4.lstM hl
  obtain ⟨z2, its2, n2, rv2, hlen2, e2⟩ := I4.lstM hb
  refine wpAny_bind (wpAny_standAt (wpAny_bind (wpAny_holding ?_)))
  refine set_ahead (c := c) e e2 ne (Heap.IsSliceOf.new ..) pl (.int _ _) (by rw [List.size_toArray]; omega) (by rw [List.size_toArray, List.size_toArray]; omega) ?_
  refine wpAny_release ⟨σ, _, ?_, q⟩
  refine I4.lset (its' := its2 ++ its.drop c) (t' := s3.toks) hl e ?_ (Vals.append rv2 (rv.drop _)) ?_
  · have := splice_eq its its2 0 c
    rw [List.take_zero, List.nil_append] at this
    exact this
  · rw [List.length_append, List.length_drop]; omega
theorem i_gAhead {to th : TE} {v : V} {σ : L2.St} {H : Hp} {Q : L2.St → Hp → Prop} (h : to σ H fun o H1 => th σ H1 fun i H2 => ∃ (l b : Addr) (xs ys : List V) (c : Nat), o = .ref l ∧ i = .int (c : Int) ∧ v = .ref b ∧ H2 l = some (.lst xs) ∧ H2 b = some (.lst ys) ∧ l ≠ b ∧ c ≤ xs.length ∧ xs.length + ys.length ≤ sizeLine ∧ Q σ (upd H2 l (.lst (ys ++ xs.drop c)))) : gAhead to th v σ H Q := h
end Lv

set_option Elab.async false
set_option linter.all false
set_option maxRecDepth 100000
set_option maxHeartbeats 4000000
namespace Lv
open PySem PySem.Spec PyProof.Rows L2 SX
/-! zip(text, text) -/
abbrev YZS (l m : List Nat) : Nat → List V → Prop := fun i xs => ∃ c d, l[i]? = some c ∧ m[i]? = some d ∧ xs = [.str (S [c]), .str (S [d])]
def iZipS (ta : TA) : TI := fun σ H R => ta σ H fun vs H1 => ∃ l m : List Nat, vs = [.str (S l), .str (S m)] ∧ R (ItT (min l.length m.length) (YZS l m)) H1
theorem fresh_of {X : Cx} {pins : List (Addr × Obj)} {σ : L2.St} {H : Hp} {s : Shared} {b : Addr} (I : Inv X pins σ H s) (k : Nat) (e : b = s.heap.objs.size + k) : FpOk X pins H b := by
  have h : s.heap.objs.size ≤ b := by rw [e]; exact Nat.le_add_right _ _
  exact I.fpOk h (I.hok.fresh h)
theorem pi_zipS {X : Cx} {e e2 : Expr} {ta : TA} {p pos tpos : Pos} {elts : List Expr} {kk : Nat} (hg : Gl X "zip") (hm : X.mg "zip" = none) (ha : PA X [e, e2] ta)
    (hs : starEach [e, e2] X.env = (false, eval e X.env) :: starEach [e2] X.env := by rfl) (hpl : (backTo pos (starEach [e2] X.env)).any (·.1) = false := by rfl) :
    PI X (.Tuple elts kk tpos) (.Call (.Name "zip" p) [e, e2] [] pos) (iZipS ta) := by
  refine ⟨fun pins s σ H R I h => ?_⟩
  refine Call_ (ld_blt I hg hm PyProof.Rows.boot_zip (PyProof.Rows.callWith_type1 (thn (ha.run pos pins s σ H _ I h) fun us s1 ⟨vs, H1, I1, r1, q1⟩ => ?_) hs hpl))
  obtain ⟨l, m, rfl, q⟩ := q1
  cases r1 with
  | cons r rr =>
    cases rr with
    | cons r' rr =>
      cases rr
      obtain ⟨t, rfl⟩ := r
      obtain ⟨t', rfl⟩ := r'
      refine zip_begins2 (begins_text (S l) t) (begins_text (S m) t') trivial trivial fun h' hz hTI hTO h1 h2 hsz hk => wpAny_pyIter_zip hz ?_
      have I2 : Inv X pins σ H1 { s1 with heap := h' } := I1.kept (t' := s1.toks) hk
      have T := turn_walksT (P := X.prog) (w := X.w) (K := X.K) (elts := elts) (kk := kk) (tpos := tpos) (n := min (S l).cps.size (S m).cps.size) (Y := YZS l m)
        (fun A hA => WalksT.zipD2 (zip_sep2 (N := s1.heap.objs.size) (fp1 := []) (fp2 := []) (by simp) (by simp)) (Draws.text (A := A.in1) hA s1.heap.objs.size (S l) t) (Draws.text (A := A.in1) hA (s1.heap.objs.size + 1) (S m) t')) List.mem_cons_self ?_ ?_ ?_
      · have e1 : (S l).cps.size = l.length := by simp
        have e2 : (S m).cps.size = m.length := by simp
        rw [e1, e2] at T
        refine ⟨s1.heap.objs.size + 4, _, _, _, H1, rfl, I2, T, ⟨⟨hz, hTI, ⟨_, _, hTO⟩, ⟨_, h1, rfl, rfl⟩, ⟨_, h2, rfl, rfl⟩⟩, Nat.zero_le _⟩, fun b hb => ?_, q⟩
        have e' : b = s1.heap.objs.size + 4 ∨ b = s1.heap.objs.size + 2 ∨ b = s1.heap.objs.size + 3 ∨ b = s1.heap.objs.size ∨ b = s1.heap.objs.size + 1 := by simpa using hb
        rcases e' with z | z | z | z | z
        · exact fresh_of I1 4 z
        · exact fresh_of I1 2 z
        · exact fresh_of I1 3 z
        · exact fresh_of I1 0 z
        · exact fresh_of I1 1 z
      · intro i h st b hb
        obtain ⟨a1, a2, ⟨x, y, a3⟩, ⟨o1, c1, _, d1⟩, ⟨o2, c2, _, d2⟩⟩ := st
        have e' : b = s1.heap.objs.size + 4 ∨ b = s1.heap.objs.size + 2 ∨ b = s1.heap.objs.size + 3 ∨ b = s1.heap.objs.size ∨ b = s1.heap.objs.size + 1 := by simpa using hb
        rcases e' with z | z | z | z | z
        · rw [z]; exact ⟨_, a1, fun v q => nomatch q⟩
        · rw [z]; exact ⟨_, a2, fun v q => nomatch q⟩
        · rw [z]; exact ⟨_, a3, fun v q => nomatch q⟩
        · rw [z]; exact ⟨o1, c1, fun v q => by rw [d1] at q; cases q⟩
        · rw [z]; exact ⟨o2, c2, fun v q => by rw [d2] at q; cases q⟩
      · rintro i vals hi ⟨x1, x2, ⟨c, u, hc, rfl⟩, ⟨d, u2, hd, rfl⟩, rfl⟩
        exact ⟨[.str (S [c]), .str (S [d])], .cons ⟨u, rfl⟩ (.cons ⟨u2, rfl⟩ .nil), by show 2 ≤ sizeLine; decide, c, d, by simpa using hc, by simpa using hd, rfl⟩
      · intro A i s Q E st hq
        exact wpAny_pyIter_zip st.1 hq
theorem i_zipS {ta : TA} {σ : L2.St} {H : Hp} {R : It → Hp → Prop} (h : ta σ H fun vs H1 => ∃ l m : List Nat, vs = [.str (S l), .str (S m)] ∧ R (ItT (min l.length m.length) (YZS l m)) H1) : iZipS ta σ H R := h
theorem x_zipS {l m : List Nat} {H : Hp} {R : It → Hp → Prop} (h : R (ItT (min l.length m.length) (YZS l m)) H) : ∃ l' m' : List Nat, [V.str (S l), V.str (S m)] = [.str (S l'), .str (S m')] ∧ R (ItT (min l'.length m'.length) (YZS l' m')) H := ⟨l, m, rfl, h⟩
/-! zip(text, list, list) -/
/-- turn i: a new tuple of a sign and the items of two lists -/
def It3 (K : PySem.W.Frag) (l : List Nat) (a b : Addr) (xs ys : List V) : It :=
  ⟨fun i H => i < min (min l.length xs.length) ys.length ∧ SqL K H a xs ∧ SqL K H b ys,
    fun i H v H' => ∃ T c x y, v = .ref T ∧ H T = none ∧ H' = upd H T (.tup [.str (S [c]), x, y]) ∧ l[i]? = some c ∧ xs[i]? = some x ∧ ys[i]? = some y,
    fun i H => min (min l.length xs.length) ys.length ≤ i ∧ SqL K H a xs ∧ SqL K H b ys⟩
theorem turn_zip3 {P : Program} {w : World} {K : PySem.W.Frag} {elts : List Expr} {kk : Nat} {tpos : Pos} {l : List Nat} {t : Tok} {a b : Addr} {xs ys : List V} {N : Nat} (ha : a < N) (hb : b < N) :
    Turn P w K (.Tuple elts kk tpos) (It3 K l a b xs ys) [N + 5, N + 3, N + 4, N, N + 1, N + 2] (N + 5) (fun i h => i ≤ min (min l.length xs.length) ys.length ∧ IsZip h (N + 5) (N + 3) (N + 4) .none ∧ IsTupOf3 h (N + 3) (.ref N) (.ref (N + 1)) (.ref (N + 2)) ∧
      (∃ a1 a2 a3, IsTupOf3 h (N + 4) a1 a2 a3) ∧ h.IsStrIter N (strIterType (S l)) (S l) t i ∧ h.IsListIter (N + 1) a i ∧ h.IsListIter (N + 2) b i) where
  mem := by simp
  obj := fun i h st c hc => by
    obtain ⟨_, hz, hTI, ⟨_, _, _, hTO⟩, ⟨o1, e1, _, d1⟩, ⟨o2, e2, _, d2⟩, ⟨o3, e3, _, d3⟩⟩ := st
    have e' : c = N + 5 ∨ c = N + 3 ∨ c = N + 4 ∨ c = N ∨ c = N + 1 ∨ c = N + 2 := by simpa using hc
    rcases e' with q | q | q | q | q | q
    · rw [q]; exact ⟨_, hz, fun v q => nomatch q⟩
    · rw [q]; exact ⟨_, hTI, fun v q => nomatch q⟩
    · rw [q]; exact ⟨_, hTO, fun v q => nomatch q⟩
    · rw [q]; exact ⟨o1, e1, fun v q => by rw [d1] at q; cases q⟩
    · rw [q]; exact ⟨o2, e2, fun v q => by rw [d2] at q; cases q⟩
    · rw [q]; exact ⟨o3, e3, fun v q => by rw [d3] at q; cases q⟩
  keep := fun i h h' st k => by
    obtain ⟨h0, hz, hTI, ⟨x, y, u, hTO⟩, ⟨o1, g1, g2⟩, h2, h3⟩ := st
    exact ⟨h0, k _ (by simp) _ hz, k _ (by simp) _ hTI, ⟨x, y, u, k _ (by simp) _ hTO⟩, ⟨o1, k _ (by simp) _ g1, g2⟩, h2.at fun o q => k _ (by simp) o q, h3.at fun o q => k _ (by simp) o q⟩
  item := by
    intro X hP hw hK hc i pins s σ H E I hf st hg
    subst hP hw hK
    obtain ⟨h0, hz, hTI, hTO, h1, h2, h3⟩ := st
    obtain ⟨hi, hqx, hqy⟩ := hg
    obtain ⟨its, rv, p, _⟩ := I.list hqx
    obtain ⟨its2, rv2, p2, _⟩ := I.list hqy
    have l1 := rv.length
    have l2 := rv2.length
    have e0 : (S l).cps.size = l.length := by simp
    have hh := I.ok.hd hc
    have WA := WalksT.zipD3 (prog := X.prog) (w := X.w) (A := X.A) (zip_sep3 (N := N) (fp1 := []) (fp2 := [a]) (fp3 := [b]) (by simp) (by simpa using ha) (by simpa using hb)) (Draws.text (A := X.A.in1) hh N (S l) t) (Draws.list (A := X.A.in1) hh (N + 1) a (Nat.ne_of_lt (Nat.lt_succ_of_lt ha)) its.toArray) (Draws.list (A := X.A.in1) hh (N + 2) b (Nat.ne_of_lt (Nat.lt_of_lt_of_le hb (Nat.le_add_right _ _))) its2.toArray)
    refine WA.item i s _ _ (by rw [e0, List.size_toArray, List.size_toArray, ← l1, ← l2]; exact hi) ⟨hz, hTI, hTO, h1, ⟨h2, p.isList⟩, ⟨h3, p2.isList⟩⟩ fun T vals h' tk hp hT hTup hm hk => ?_
    refine ⟨_, rfl, WA.go elts kk tpos i T { s with heap := h', toks := tk } _ _ hm fun h4 st4 hk4 => ?_⟩
    replace hk4 : ∀ c o, c ∉ [N + 5, N + 4, N, N + 1, N + 2] → h'.get? c = some o → h4.get? c = some o := hk4
    obtain ⟨x1, x2, x3, ⟨c, u, hcx, rfl⟩, e2, e3, rfl⟩ := hp
    obtain ⟨y2, f2, r2⟩ : ∃ y, xs[i]? = some y ∧ RelV y x2 := by
      have hlt : i < xs.length := by omega
      obtain ⟨z, g1, g2⟩ := rv.get (List.getElem?_eq_getElem hlt)
      rw [List.getElem?_toArray, g1] at e2
      cases e2
      exact ⟨_, List.getElem?_eq_getElem hlt, g2⟩
    obtain ⟨y3, f3, r3⟩ : ∃ y, ys[i]? = some y ∧ RelV y x3 := by
      have hlt : i < ys.length := by omega
      obtain ⟨z, g1, g2⟩ := rv2.get (List.getElem?_eq_getElem hlt)
      rw [List.getElem?_toArray, g1] at e3
      cases e3
      exact ⟨_, List.getElem?_eq_getElem hlt, g2⟩
    have hTup2 : h4.IsTuple T #[.str ⟨#[c]⟩ u, x2, x3] := hTup.at fun o q => hk4 T o (WA.apart i T h' hm) q
    have new : ObjOk X.prog X.w (upd H T (.tup [.str (S [c]), y2, y3])) h4 T (.tup [.str (S [c]), y2, y3]) := ⟨by show 3 ≤ sizeLine; decide, [.str ⟨#[c]⟩ u, x2, x3], .cons ⟨u, rfl⟩ (.cons r2 (.cons r3 .nil)), hTup2⟩
    have sub : ∀ d, d ∈ [N + 5, N + 4, N, N + 1, N + 2] → d ∈ [N + 5, N + 3, N + 4, N, N + 1, N + 2] := fun d hd => by simp at hd ⊢; omega
    have I2 : Inv X pins σ (upd H T (.tup [.str (S [c]), y2, y3])) { s with heap := h4, toks := tk } :=
      I.turnedNew (ch := [N + 5, N + 3, N + 4, N, N + 1, N + 2]) (fun d ob hd q => hk4 d ob (fun z => hd (sub d z)) (hk d ob (fun z => hd (sub d z)) q)) hf hT new
    obtain ⟨s1, s2, s3, s4, ⟨s5, _⟩, ⟨s6, _⟩⟩ := st4
    refine ⟨.ref T, _, I2, rfl, ⟨T, c, y2, y3, rfl, I.hok.fresh hT, rfl, by simpa using hcx, f2, f3⟩, ⟨hi, s1, s2, s3, s4, s5, s6⟩, fun d hd => ?_⟩
    have lt : d < s.heap.objs.size := by
      obtain ⟨_, _, _, hTO⟩ := hTO
      obtain ⟨o1, g1, _⟩ := h1
      obtain ⟨o2, g2, _⟩ := h2
      obtain ⟨o3, g3, _⟩ := h3
      have e' : d = N + 5 ∨ d = N + 3 ∨ d = N + 4 ∨ d = N ∨ d = N + 1 ∨ d = N + 2 := by simpa using hd
      rcases e' with q | q | q | q | q | q
      · rw [q]; exact Heap.lt_size hz
      · rw [q]; exact Heap.lt_size hTI
      · rw [q]; exact Heap.lt_size hTO
      · rw [q]; exact Heap.lt_size g1
      · rw [q]; exact Heap.lt_size g2
      · rw [q]; exact Heap.lt_size g3
    rw [upd_ne (Nat.ne_of_lt (Nat.lt_of_lt_of_le lt hT))]
    exact (hf d hd).1
  done := by
    intro X hP hw hK hc i pins s σ H E I hf st hg
    subst hP hw hK
    obtain ⟨h0, hz, hTI, hTO, h1, h2, h3⟩ := st
    obtain ⟨hi, hqx, hqy⟩ := hg
    obtain ⟨its, rv, p, _⟩ := I.list hqx
    obtain ⟨its2, rv2, p2, _⟩ := I.list hqy
    have l1 := rv.length
    have l2 := rv2.length
    have e0 : (S l).cps.size = l.length := by simp
    have hh := I.ok.hd hc
    have WA := WalksT.zipD3 (prog := X.prog) (w := X.w) (A := X.A) (zip_sep3 (N := N) (fp1 := []) (fp2 := [a]) (fp3 := [b]) (by simp) (by simpa using ha) (by simpa using hb)) (Draws.text (A := X.A.in1) hh N (S l) t) (Draws.list (A := X.A.in1) hh (N + 1) a (Nat.ne_of_lt (Nat.lt_succ_of_lt ha)) its.toArray) (Draws.list (A := X.A.in1) hh (N + 2) b (Nat.ne_of_lt (Nat.lt_of_lt_of_le hb (Nat.le_add_right _ _))) its2.toArray)
    have hin : i = min (min (S l).cps.size its.toArray.size) its2.toArray.size := by rw [e0, List.size_toArray, List.size_toArray, ← l1, ← l2]; omega
    rw [hin] at h1 h2 h3
    refine WA.done s _ _ ⟨hz, hTI, hTO, h1, ⟨h2, p.isList⟩, ⟨h3, p2.isList⟩⟩ fun h' tk hk => ⟨rfl, ?_⟩
    have sub : ∀ d, d ∈ [N + 5, N + 4, N, N + 1, N + 2] → d ∈ [N + 5, N + 3, N + 4, N, N + 1, N + 2] := fun d hd => by simp at hd ⊢; omega
    exact I.turnedL (ch := [N + 5, N + 3, N + 4, N, N + 1, N + 2]) (fun c o hb q => hk c o (fun z => hb (sub c z)) q) hf
  self := fun A i s Q E st h => wpAny_pyIter_zip st.2.1 h
def iZip3 (K : PySem.W.Frag) (ta : TA) : TI := fun σ H R => ta σ H fun vs H1 => ∃ (l : List Nat) (a b : Addr) (xs ys : List V), vs = [.str (S l), .ref a, .ref b] ∧ SqL K H1 a xs ∧ SqL K H1 b ys ∧ R (It3 K l a b xs ys) H1
theorem pi_zip3 {X : Cx} {e e2 e3 : Expr} {ta : TA} {p pos tpos : Pos} {elts : List Expr} {kk : Nat} (hg : Gl X "zip") (hm : X.mg "zip" = none) (ha : PA X [e, e2, e3] ta)
    (hs : starEach [e, e2, e3] X.env = (false, eval e X.env) :: starEach [e2, e3] X.env := by rfl) (hpl : (backTo pos (starEach [e2, e3] X.env)).any (·.1) = false := by rfl) :
    PI X (.Tuple elts kk tpos) (.Call (.Name "zip" p) [e, e2, e3] [] pos) (iZip3 X.K ta) := by
  refine ⟨fun pins s σ H R I h => ?_⟩
  refine Call_ (ld_blt I hg hm PyProof.Rows.boot_zip (PyProof.Rows.callWith_type1 (thn (ha.run pos pins s σ H _ I h) fun us s1 ⟨vs, H1, I1, r1, q1⟩ => ?_) hs hpl))
  obtain ⟨l, a, b, xs, ys, rfl, hqx, hqy, q⟩ := q1
  cases r1 with
  | cons r rr =>
    cases rr with
    | cons r' rr =>
      cases rr with
      | cons r'' rr =>
        cases rr
        obtain ⟨t, rfl⟩ := r
        cases r'
        cases r''
        obtain ⟨its, rv, p1, _⟩ := I1.list hqx
        obtain ⟨its2, rv2, p2, _⟩ := I1.list hqy
        refine zip_begins3 (begins_text (S l) t) (begins_list a its.toArray) (begins_list b its2.toArray) trivial p1.isList p2.isList fun h' hz hTI hTO h1 h2 h3 hsz hk => wpAny_pyIter_zip hz ?_
        have I2 : Inv X pins σ H1 { s1 with heap := h' } := I1.kept (t' := s1.toks) hk
        refine ⟨s1.heap.objs.size + 5, _, _, _, H1, rfl, I2, turn_zip3 (t := t) p1.lt p2.lt, ⟨Nat.zero_le _, hz, hTI, ⟨_, _, _, hTO⟩, ⟨_, h1, rfl, rfl⟩, ⟨_, h2, rfl, rfl⟩, ⟨_, h3, rfl, rfl⟩⟩, fun b hb => ?_, q⟩
        have e' : b = s1.heap.objs.size + 5 ∨ b = s1.heap.objs.size + 3 ∨ b = s1.heap.objs.size + 4 ∨ b = s1.heap.objs.size ∨ b = s1.heap.objs.size + 1 ∨ b = s1.heap.objs.size + 2 := by simpa using hb
        rcases e' with z | z | z | z | z | z
        · exact fresh_of I1 5 z
        · exact fresh_of I1 3 z
        · exact fresh_of I1 4 z
        · exact fresh_of I1 0 z
        · exact fresh_of I1 1 z
        · exact fresh_of I1 2 z
theorem walk_3 {K : PySem.W.Frag} {l : List Nat} {a b : Addr} {xs ys : List V} : Walk (It3 K l a b xs ys) (min (min l.length xs.length) ys.length) (fun H => SqL K H a xs ∧ SqL K H b ys) (YT fun i zs => ∃ c x y, l[i]? = some c ∧ xs[i]? = some x ∧ ys[i]? = some y ∧ zs = [.str (S [c]), x, y]) :=
  ⟨fun _ _ hi g => ⟨hi, g⟩, fun _ g => ⟨Nat.le_refl _, g⟩, fun _ _ _ _ _ _ ⟨T, c, x, y, h1, h2, h3, h4, h5, h6⟩ => ⟨T, _, h1, h2, h3, c, x, y, h4, h5, h6, rfl⟩⟩
theorem f_3 {K : PySem.W.Frag} {l : List Nat} {a b : Addr} {xs ys : List V} {g : TG} {tb : TS} {D : Ends} {σ : L2.St} {H : Hp} (h : ForG (fun H => SqL K H a xs ∧ SqL K H b ys) (min (min l.length xs.length) ys.length) (YT fun i zs => ∃ c x y, l[i]? = some c ∧ xs[i]? = some x ∧ ys[i]? = some y ∧ zs = [.str (S [c]), x, y]) g tb D σ H) : ForJ (It3 K l a b xs ys) g tb D σ H := forG_ok walk_3 h
theorem i_zip3 {K : PySem.W.Frag} {ta : TA} {σ : L2.St} {H : Hp} {R : It → Hp → Prop} (h : ta σ H fun vs H1 => ∃ (l : List Nat) (a b : Addr) (xs ys : List V), vs = [.str (S l), .ref a, .ref b] ∧ SqL K H1 a xs ∧ SqL K H1 b ys ∧ R (It3 K l a b xs ys) H1) : iZip3 K ta σ H R := h
end Lv

set_option Elab.async false
set_option linter.all false
set_option maxRecDepth 100000
set_option maxHeartbeats 4000000
namespace Lv
open PySem PySem.Spec PyProof.Rows L2 SX
abbrev rLenD : List V → Hp → VK → Prop := fun xs H Q => ∃ a kvs, xs = [V.ref a] ∧ H a = some (.dK kvs) ∧ Q (.int kvs.length) H
theorem i_lenD {a : Addr} {kvs : List (Key × V)} {H : Hp} {Q : VK} (h : H a = some (.dK kvs)) (q : Q (.int (kvs.length : Nat)) H) : rLenD [.ref a] H Q := ⟨a, kvs, rfl, h, q⟩
theorem v_extend {l b : Addr} {xs zs : List V} {H : Hp} {Q : VK} (hl : H l = some (.lst xs)) (hb : H b = some (.lst zs)) (hz : xs.length + zs.length ≤ sizeLine) (h : ∀ H2, But l H H2 → H2 l = some (.lst (xs ++ zs)) → Q .non H2) : rExtend (.ref l) [.ref b] H Q := ⟨l, b, xs, zs, rfl, rfl, hl, hb, hz, h _ But.of upd_same⟩
end Lv

set_option Elab.async false
set_option linter.all false
set_option maxRecDepth 100000
set_option maxHeartbeats 4000000
namespace Lv
open PySem PySem.Spec PyProof.Rows L2 SX
/-! a thing locked from here on -/
def tLk (te : TE) : TE := fun σ H Q => te σ H fun x H1 => ∃ d u, x = .ref d ∧ H1 d = some u ∧ Mut (some u) ∧ ∀ o, Q (.ref d) (upd H1 d (.frz o u))
theorem pe_lk {X : Cx} {e : Expr} {te : TE} (h : PE X e te) : PE X e (tLk te) := by
  refine ⟨fun pins s σ H Q I hw => ?_⟩
  refine thn (h.run pins s σ H _ I hw) fun v s1 ⟨x, H1, I1, r, d, u, ex, hd, mu, q⟩ => ?_
  subst ex
  obtain ⟨o, I2⟩ := I1.lock hd mu
  exact ⟨.ref d, _, I2, r, q o⟩
theorem i_lk {te : TE} {σ : L2.St} {H : Hp} {Q : VK} (h : te σ H fun x H1 => ∃ d u, x = .ref d ∧ H1 d = some u ∧ Mut (some u) ∧ ∀ o, Q (.ref d) (upd H1 d (.frz o u))) : tLk te σ H Q := h
/-! for k, v in d.items() of a dict by tuples -/
def Itit (d : Addr) (o : Obj) (kvs : List (List Key × V)) : It :=
  ⟨fun i H => H d = some (.frz o (.dT kvs)) ∧ i < kvs.length, fun i H x H' => ∃ T k v q, kvs[i]? = some (k, v) ∧ x = .ref T ∧ H q = some (.tup (k.map kV)) ∧ H T = none ∧ H' = upd H T (.tup [.ref q, v]), fun i H => H d = some (.frz o (.dT kvs)) ∧ kvs.length ≤ i⟩
theorem frzT2 {X : Cx} {pins : List (Addr × Obj)} {σ : L2.St} {H : Hp} {s : Shared} {d : Addr} {o : Obj} {kvs : List (List Key × V)} (I : Inv X pins σ H s) (h : H d = some (.frz o (.dT kvs))) :
    (d == sysModules) = false ∧ s.heap.get? d = some o ∧ o.ExactDict ∧ ∃ (es : Array DictEntry) (ep : Nat), o.data = .dict es ep ∧ es.size = kvs.length ∧
      ∀ (i : Nat) (k : List Key) (v : V), kvs[i]? = some (k, v) → ∃ (en : DictEntry) (q : Addr), es[i]? = some en ∧ en.key = .ref q ∧ RelV v en.val ∧ H q = some (.tup (k.map kV)) := by
  obtain ⟨hd, z, hs, xs, pr, o', es, ep, ho, hx, hdt, he, _⟩ := I.hok d _ h
  rw [hd] at ho
  cases ho
  refine ⟨hs, hd, hx, es, ep, hdt, ?_, fun i k v e => ?_⟩
  · have l1 : es.size = xs.length := size_of_entries he
    have l2 : kvs.length = xs.length := Paired.length pr
    omega
  · obtain ⟨b, hb, e1, e2, e3⟩ := paired_get pr e
    have q := entry_at he i
    rw [hb] at q
    exact ⟨_, b.2.1, q, rfl, e3, e2⟩
theorem turn_itemsT {P : Program} {w : World} {K : PySem.W.Frag} {d : Addr} {o : Obj} {es : Array DictEntry} {ep : Nat} {kvs : List (List Key × V)} {elts : List Expr} {kk : Nat} {tpos : Pos} (it : Addr) (hod : o.data = .dict es ep) :
    Turn P w K (.Tuple elts kk tpos) (Itit d o kvs) [it] it (fun i h => ∃ ok ov, IsItemIter h it d i es.size ep ok ov) where
  mem := by simp
  obj := fun i h st b hb => by
    have e : b = it := by simpa using hb
    subst e
    obtain ⟨ok, ov, e⟩ := st
    exact ⟨_, e, fun v z => nomatch z⟩
  keep := fun i h h' st k => let ⟨ok, ov, e⟩ := st; ⟨ok, ov, k it (by simp) _ e⟩
  item := by
    intro X hP hw hK hc i pins s σ H E I hf st hg
    subst hP hw hK
    obtain ⟨hd, hi⟩ := hg
    obtain ⟨hs, hgd, hx, es', ep', hdt, hsz, ent⟩ := frzT2 I hd
    obtain ⟨rfl, rfl⟩ := dict_ep hod hdt
    obtain ⟨⟨k, v⟩, hkv⟩ : ∃ p, kvs[i]? = some p := ⟨kvs[i], List.getElem?_eq_getElem hi⟩
    obtain ⟨en, q, hen, hkey, hval, hq⟩ := ent i k v hkv
    obtain ⟨ok, ov, he⟩ := st
    have hlt : it < s.heap.objs.size := Heap.lt_size he
    have hie : i < es'.size := by omega
    have een : es'[i] = en := by rw [Array.getElem?_eq_getElem hie] at hen; exact Option.some.inj hen
    refine DT.nextI he ⟨o, hgd, hx, hdt⟩ hie fun h' ho hT hz hk => ?_
    rw [een, hkey] at hT
    refine ⟨_, rfl, wpAny_letOwnedTupleGo_items (s := { s with heap := h' }) ho fun h'' he' sb => ?_⟩
    have hT2 : h''.get? s.heap.objs.size = some { cls := .type "tuple", data := .seq #[.ref q, en.val] } := (sb.2 _ (Nat.ne_of_gt hlt)).trans hT
    have new : ObjOk X.prog X.w (upd H s.heap.objs.size (.tup [.ref q, v])) h'' s.heap.objs.size (.tup [.ref q, v]) :=
      ⟨by show 2 ≤ sizeLine; decide, [.ref q, en.val], .cons rfl (.cons hval .nil), ⟨_, hT2, rfl, _, rfl⟩⟩
    have I1 : Inv X pins σ (upd H s.heap.objs.size (.tup [.ref q, v])) { s with heap := h'' } :=
      I.turnedNew (t' := s.toks) (ch := [it]) (fun b ob hb e => (sb.2 b (by simpa using hb)).trans (hk b ob (by simpa using hb) e)) hf (Nat.le_refl _) new
    refine ⟨.ref s.heap.objs.size, _, I1, rfl, ⟨_, k, v, q, hkv, rfl, hq, I.hok.fresh (Nat.le_refl _), rfl⟩, ⟨_, _, he'⟩, fun b hb => ?_⟩
    have e : b = it := by simpa using hb
    rw [e, upd_ne (Nat.ne_of_lt hlt)]
    exact (hf it (by simp)).1
  done := by
    intro X hP hw hK hc i pins s σ H E I hf st hg
    subst hP hw hK
    obtain ⟨hd, hi⟩ := hg
    obtain ⟨f0, f1, f2, f3, f4, f5⟩ := hf it (by simp)
    obtain ⟨hs, hgd, hx, es', ep', hdt, hsz, ent⟩ := frzT2 I hd
    obtain ⟨rfl, rfl⟩ := dict_ep hod hdt
    obtain ⟨ok, ov, he⟩ := st
    exact DT.endI (I.ok.hd hc) he ⟨o, hgd, hx, hdt⟩ (by omega) fun h' eb => ⟨rfl, I.turned (t' := s.toks) (fun b ob hb e => eb b ob hb e) f0 f1 f3 f4 f5⟩
  self := fun A i s Q E st h => let ⟨_, _, e⟩ := st; PySem.W.kcp_self e h
def iItemsT (td : TE) : TI := fun σ H R => td σ H fun x H1 => ∃ d o kvs, x = .ref d ∧ H1 d = some (.frz o (.dT kvs)) ∧ R (Itit d o kvs) H1
theorem pi_itemsT {X : Cx} {e : Expr} {td : TE} {apos cpos : Pos} {elts : List Expr} {kk : Nat} {tpos : Pos} (he : PE X e td) (hbase : attributeBase e "items" X.env (eval e X.env) = eval e X.env := by rfl) (hline : (apos.endLine == cpos.line) = true := by rfl) :
    PI X (.Tuple elts kk tpos) (.Call (.Attribute e "items" apos) [] [] cpos) (iItemsT td) := by
  refine ⟨fun pins s σ H R I h => ?_⟩
  refine wpAny_Call_method (T := "dict") (id := "dict.items") hbase rfl hline F.plainAttrs_dict F.slot_dict_items F.type_dict_items (thn (he.run pins s σ H _ I h) fun u s1 ⟨x, H1, I1, rx, d, o, kvs, ex, hd, q⟩ => ?_)
  subst ex
  obtain rfl : u = Value.ref d := rx
  obtain ⟨hs, hgd, hx, es, ep, hdt, hsz, ent⟩ := frzT2 I1 hd
  have raw : DT.Raw s1.heap d es ep := ⟨o, hgd, hx, hdt⟩
  refine ⟨raw.typeIs, fun a ea => by cases ea; exact ⟨o, hgd, hx.2.1⟩, ?_⟩
  have I2 : Inv X pins σ H1 { s1 with heap := s1.heap.push { cls := .type "dict_items", data := .fields #[.ref d] } } := I1.kept (t' := s1.toks) fun b ob q => Heap.get?_push_of_some _ q
  have fin : wpAny (model X.prog X.w) X.A (pyIter (.ref s1.heap.objs.size)) (PIE X pins σ (.Tuple elts kk tpos) R) X.xe { s1 with heap := s1.heap.push { cls := .type "dict_items", data := .fields #[.ref d] } } := by
    refine DT.iterI (d := d) ⟨_, Heap.get?_push_size _ rfl, rfl, rfl⟩ (raw.push _) (pi_one (tk := s1.toks) I2 _ (turn_itemsT _ hdt) ⟨.none, .none, ?_⟩ q)
    exact Heap.get?_push_size _ rfl
  show wpAny _ _ (callWith cpos (.builtin "dict.items") [.ref d] [] []) _ X.xe s1
  exact method_meetsIn F.slot_dict_items F.entry_dict_items rfl (PySem.evalArgs_none ⟨rfl, raw.typeIs, F.args_dict_items_1 _, _, DT.meetsItems (es := es) (ep := ep) hs, raw, fin⟩)
theorem walk_itemsT {d : Addr} {o : Obj} {kvs : List (List Key × V)} : Walk (Itit d o kvs) kvs.length (fun H => H d = some (.frz o (.dT kvs))) (fun i H x H' => ∃ T k v q, kvs[i]? = some (k, v) ∧ x = .ref T ∧ H q = some (.tup (k.map kV)) ∧ H T = none ∧ H' = upd H T (.tup [.ref q, v])) :=
  ⟨fun _ _ hi g => ⟨g, hi⟩, fun _ g => ⟨g, Nat.le_refl _⟩, fun _ _ _ _ _ _ y => y⟩
theorem walk_itemsK {d : Addr} {o : Obj} {kvs : List (Key × V)} : Walk (Iti d o kvs) kvs.length (fun H => H d = some (.frz o (.dK kvs))) (fun i H x H' => ∃ T k v, kvs[i]? = some (k, v) ∧ x = .ref T ∧ H T = none ∧ H' = upd H T (.tup [kV k, v])) :=
  ⟨fun _ _ hi g => ⟨g, hi⟩, fun _ g => ⟨g, Nat.le_refl _⟩, fun _ _ _ _ _ _ y => y⟩
theorem i_itemsT {td : TE} {σ : L2.St} {H : Hp} {R : It → Hp → Prop} (h : td σ H fun x H1 => ∃ d o kvs, x = .ref d ∧ H1 d = some (.frz o (.dT kvs)) ∧ R (Itit d o kvs) H1) : iItemsT td σ H R := h
theorem i_itemsK {td : TE} {σ : L2.St} {H : Hp} {R : It → Hp → Prop} (h : td σ H fun x H1 => ∃ d o kvs, x = .ref d ∧ H1 d = some (.frz o (.dK kvs)) ∧ R (Iti d o kvs) H1) : iItems td σ H R := h
end Lv

set_option Elab.async false
set_option linter.all false
set_option maxRecDepth 100000
set_option maxHeartbeats 4000000
namespace Lv
open PySem PySem.Spec PyProof.Rows L2 SX
theorem best_min {lt : Nat → Nat → Bool} (irr : ∀ a, lt a a = false) (tr : ∀ a b c, lt a b = true → lt b c = true → lt a c = true) : ∀ k, argBest lt k ≤ k ∧ ∀ j, j ≤ k → lt j (argBest lt k) = false
  | 0 => ⟨Nat.le_refl _, fun j hj => by obtain rfl : j = 0 := by omega
                                        exact irr 0⟩
  | k + 1 => by
    obtain ⟨h1, h2⟩ := best_min irr tr k
    simp only [argBest]
    by_cases z : lt (k + 1) (argBest lt k) = true
    · rw [if_pos z]
      refine ⟨Nat.le_refl _, fun j hj => ?_⟩
      rcases Nat.lt_or_ge j (k + 1) with y | y
      · cases e : lt j (k + 1) with
        | false => rfl
        | true => have := tr _ _ _ e z; rw [h2 j (by omega)] at this; cases this
      · obtain rfl : j = k + 1 := by omega
        exact irr _
    · rw [if_neg z]
      refine ⟨by omega, fun j hj => ?_⟩
      rcases Nat.lt_or_ge j (k + 1) with y | y
      · exact h2 j (by omega)
      · obtain rfl : j = k + 1 := by omega
        cases e : lt (k + 1) (argBest lt k) with
        | false => rfl
        | true => exact absurd e z
section
variable {prog : Program} {w : World} {A : Around} {E : Value → Shared → Prop} {s : Shared}
theorem min_list_raw {p : Addr} {its : Array Value} {lt : Nat → Nat → Bool} {Q : Value → Shared → Prop} (hh : A.handled = none) (hl : s.heap.IsList p its) (hn : 0 < its.size) (cmp : CmpIn prog w A.in1 .Lt s.heap (fun i v => its[i]? = some v) lt)
    (hQ : ∀ v h' tk, its[argBest lt (its.size - 1)]? = some v → (∀ b o, s.heap.get? b = some o → h'.get? b = some o) → Q v { s with heap := h', toks := tk }) : wpAny (model prog w) A (call (.builtin "min") [.ref p]) Q E s := by
  have hp : p < s.heap.objs.size := by obtain ⟨_, y, _⟩ := hl; exact Heap.lt_size y
  refine PySem.call_min_walkH (wpAny_pyIter_list hl ?_)
  refine ⟨s.heap.objs.size, _, _, _, _, _, _, s.heap, lt, rfl, (Walks.list (A := A.in1) hh s.heap.objs.size p (Nat.ne_of_lt hp) its).toS, ⟨⟨_, Heap.get?_push_size _ rfl, rfl, rfl⟩, hl.push _⟩, fun b hb => ?_, hn, fun b o e z => ?_, fun b o e => Heap.get?_push_of_some _ e, cmp, fun v s' hv hm => ?_⟩
  · rw [Heap.size_push]
    rcases List.mem_cons.mp hb with z | z
    · rw [z]; exact Nat.lt_succ_self _
    · rw [List.mem_singleton.mp z]; exact Nat.lt_succ_of_lt hp
  · rw [List.mem_singleton.mp z] at e
    exact absurd (Heap.lt_size e) (Nat.lt_irrefl _)
  · rw [Moved.eq_with hm]
    refine hQ v s'.heap s'.toks hv fun b o e => hm.heap b o (fun z => ?_) (Heap.get?_push_of_some _ e)
    rw [List.mem_singleton.mp z] at e
    exact absurd (Heap.lt_size e) (Nat.lt_irrefl _)
end
theorem ltL_trans {a b c : List Nat} (h : a < b) (k : b < c) : a < c := List.lt_trans h k
/-- min(list of texts) -/
def rMinLS (K : PySem.W.Frag) : List V → Hp → VK → Prop := fun xs H Q => ∃ (p : Addr) (ys : List (List Nat)), xs = [.ref p] ∧ SqL K H p (ys.map vs) ∧ ys ≠ [] ∧ ∀ m, m ∈ ys → (∀ y ∈ ys, ¬ y < m) → Q (.str (S m)) H
theorem call_minLS {X : Cx} (hc : X.calm = true) : CallR X (.builtin "min") (rMinLS X.K) := by
  intro pins s σ H xs us Q I r h
  obtain ⟨p, ys, rfl, hs, hne, q⟩ := h
  obtain ⟨its, rv, hl, _⟩ := I.list hs
  rw [Vals.ref1 r]
  have hlen := rv.length
  rw [List.length_map] at hlen
  have at_ : ∀ i v, its.toArray[i]? = some v → ∃ t, v = .str (S (ys.getD i [])) t ∧ i < ys.length := by
    intro i v hv
    rw [List.getElem?_toArray] at hv
    have hi : i < ys.length := by have := (List.getElem?_eq_some_iff.mp hv).1; omega
    obtain ⟨u, h1, h2⟩ := rv.get (show (ys.map vs)[i]? = some (vs ys[i]) by rw [List.getElem?_map, List.getElem?_eq_getElem hi]; rfl)
    rw [h1] at hv
    cases hv
    obtain ⟨t, rfl⟩ := h2
    exact ⟨t, by rw [List.getD_eq_getElem?_getD, List.getElem?_eq_getElem hi]; rfl, hi⟩
  have hpos : 0 < ys.length := List.length_pos_iff.mpr hne
  refine min_list_raw (lt := fun i j => decide (ys.getD i [] < ys.getD j [])) (I.ok.hd hc) hl.isList (by rw [List.size_toArray]; omega) ?_ fun v h' tk hv hk => ?_
  · rintro i j vi vj s' Q' E' _ h1 h2 hq
    obtain ⟨t1, rfl, _⟩ := at_ i vi h1
    obtain ⟨t2, rfl, _⟩ := at_ j vj h2
    show wpAny _ _ (compareOp .Lt _ _) _ _ _
    exact PySem.P.lt_str hq
  · obtain ⟨t, rfl, hi⟩ := at_ _ v hv
    obtain ⟨b1, b2⟩ := best_min (lt := fun i j => decide (ys.getD i [] < ys.getD j [])) (fun a => decide_eq_false (List.lt_irrefl _)) (fun a b c h1 h2 => decide_eq_true (ltL_trans (of_decide_eq_true h1) (of_decide_eq_true h2))) (its.toArray.size - 1)
    generalize argBest (fun i j => decide (ys.getD i [] < ys.getD j [])) (its.toArray.size - 1) = bi at *
    refine ⟨.str (S (ys.getD bi [])), H, I.kept hk, ⟨t, rfl⟩, q _ ?_ fun y hy => ?_⟩
    · rw [List.getD_eq_getElem?_getD, List.getElem?_eq_getElem hi]; exact List.getElem_mem hi
    · obtain ⟨j, hj⟩ := List.mem_iff_getElem?.mp hy
      have jl := (List.getElem?_eq_some_iff.mp hj).1
      have := of_decide_eq_false (b2 j (by rw [List.size_toArray]; omega))
      rw [List.getD_eq_getElem?_getD, hj] at this
      exact this
theorem i_minLS {K : PySem.W.Frag} {p : Addr} {ys : List (List Nat)} {H : Hp} {Q : VK} (hp : SqL K H p (ys.map vs)) (ne : ys ≠ []) (q : ∀ m, m ∈ ys → (∀ y ∈ ys, ¬ y < m) → Q (.str (S m)) H) : rMinLS K [.ref p] H Q := ⟨p, ys, rfl, hp, ne, q⟩
/-- min(text, text) -/
def rMin2S : List V → Hp → VK → Prop := fun xs H Q => ∃ a b : List Nat, xs = [.str (S a), .str (S b)] ∧ Q (.str (S (if b < a then b else a))) H
theorem call_min2S {X : Cx} (hc : X.calm = true) : CallR X (.builtin "min") rMin2S := by
  intro pins s σ H xs us Q I r h
  obtain ⟨a, b, rfl, q⟩ := h
  obtain ⟨u, w', rfl, ⟨t, rfl⟩, ⟨t', rfl⟩⟩ := vals2 r
  have hh := I.ok.hd hc
  have hT : (s.heap.push { cls := .type "tuple", data := .seq #[.str (S a) t, .str (S b) t'] }).IsTuple s.heap.objs.size #[.str (S a) t, .str (S b) t'] := ⟨_, Heap.get?_push_size _ rfl, rfl, 0, rfl⟩
  refine call_min_two (wpAny_pyIter_tuple hT ?_)
  have hsz : (s.heap.push { cls := .type "tuple", data := .seq #[.str (S a) t, .str (S b) t'] }).objs.size = s.heap.objs.size + 1 := Heap.size_push ..
  refine ⟨_, [_, s.heap.objs.size], [_], _, _, _, fun i j => decide (([a, b].getD i []) < [a, b].getD j []), rfl, Walks.tuple (A := X.A.in1) hh _ s.heap.objs.size (by rw [hsz]; exact Nat.ne_of_lt (Nat.lt_succ_self _)) #[.str (S a) t, .str (S b) t'],
    ⟨⟨_, Heap.get?_push_size _ rfl, rfl, rfl⟩, hT.push _⟩, fun c hcm => ?_, by simp, ?_, fun v h' tk hP hk => ?_⟩
  · show c < ((s.heap.push _).push _).objs.size
    rw [Heap.size_push, hsz]
    rcases List.mem_cons.mp hcm with rfl | hcm
    · rw [hsz]; exact Nat.lt_succ_self _
    · rw [List.mem_singleton.mp hcm]; exact Nat.lt_succ_of_lt (Nat.lt_succ_self _)
  · rintro i j vi vj s' Q' E' h1 h2 hq
    have at_ : ∀ i v, (#[Value.str (S a) t, Value.str (S b) t'] : Array Value)[i]? = some v → ∃ tk, v = Value.str (S ([a, b].getD i [])) tk := by
      intro i v hv
      match i, hv with
      | 0, hv => cases hv; exact ⟨t, rfl⟩
      | 1, hv => cases hv; exact ⟨t', rfl⟩
    obtain ⟨t1, rfl⟩ := at_ i vi h1
    obtain ⟨t2, rfl⟩ := at_ j vj h2
    show wpAny _ _ (compareOp .Lt _ _) _ _ _
    exact PySem.P.lt_str hq
  · have hold : ∀ c o, s.heap.get? c = some o → h'.get? c = some o := fun c o e => by
      refine hk c o (fun hm => ?_) (Heap.get?_push_of_some _ (Heap.get?_push_of_some _ e))
      have := Heap.lt_size e
      rw [List.mem_singleton.mp hm, hsz] at this
      exact Nat.lt_irrefl _ (Nat.lt_of_succ_lt this)
    have hP' : (#[Value.str (S a) t, Value.str (S b) t'] : Array Value)[argBest (fun i j => decide (([a, b].getD i []) < [a, b].getD j [])) 1]? = some v := hP
    refine ⟨.str (S (if b < a then b else a)), H, I.kept hold, ?_, q⟩
    by_cases z : b < a
    · rw [show argBest (fun i j => decide (([a, b].getD i []) < [a, b].getD j [])) 1 = 1 by simp [argBest, z]] at hP'
      cases hP'
      rw [if_pos z]
      exact ⟨t', rfl⟩
    · rw [show argBest (fun i j => decide (([a, b].getD i []) < [a, b].getD j [])) 1 = 0 by simp [argBest, z]] at hP'
      cases hP'
      rw [if_neg z]
      exact ⟨t, rfl⟩
theorem i_min2S {a b : List Nat} {H : Hp} {Q : VK} (q : Q (.str (S (if b < a then b else a))) H) : rMin2S [.str (S a), .str (S b)] H Q := ⟨a, b, rfl, q⟩
end Lv

set_option Elab.async false
set_option linter.all false
set_option maxRecDepth 100000
set_option maxHeartbeats 4000000
namespace Lv
open PySem PySem.Spec PyProof.Rows L2 SX
/-- a dict by whole numbers: f tells what stands for each -/
def ID (kvs : List (Key × V)) (f : Nat → Option V) : Prop := ∃ ks : List Nat, kvs.map (·.1) = ks.map (fun c => Sum.inl ((c : Nat) : Int)) ∧ ks.Nodup ∧ (∀ c : Nat, valV kvs (.inl (c : Int)) = f c) ∧ ∀ c, c ∈ ks ↔ (f c).isSome
theorem ID.nil : ID [] fun _ => none := ⟨[], rfl, List.nodup_nil, fun _ => rfl, fun c => by simp⟩
theorem ID.val {kvs : List (Key × V)} {f : Nat → Option V} (h : ID kvs f) (c : Nat) : valV kvs (.inl (c : Int)) = f c := by obtain ⟨_, _, _, h, _⟩ := h; exact h c
theorem inl_I {c d : Nat} : (Sum.inl (c : Int) : Key) = Sum.inl (d : Int) ↔ c = d := by
  constructor
  · intro h
    have : (c : Int) = (d : Int) := Sum.inl.inj h
    omega
  · rintro rfl; rfl
theorem ID.put {kvs : List (Key × V)} {f : Nat → Option V} (h : ID kvs f) (c : Nat) (v : V) : ID (putK kvs (.inl (c : Int)) v) (fun d => if d = c then some v else f d) := by
  obtain ⟨ks, h1, h2, h3, h4⟩ := h
  have hv : ∀ d : Nat, valV (putK kvs (.inl (c : Int)) v) (.inl (d : Int)) = if d = c then some v else f d := fun d => by
    rw [valV_put, h3 d]
    by_cases z : d = c
    · subst z; rw [if_pos rfl, if_pos rfl]
    · rw [if_neg z, if_neg fun q => z (inl_I.mp q)]
  cases e : f c with
  | none =>
    have hn : valV kvs (.inl (c : Int)) = none := by rw [h3, e]
    have hc : c ∉ ks := fun z => by have := (h4 c).mp z; rw [e] at this; cases this
    refine ⟨ks ++ [c], ?_, ?_, hv, fun d => ?_⟩
    · rw [putK_new v hn, List.map_append, h1, List.map_append]; rfl
    · rw [List.nodup_append]
      exact ⟨h2, by simp, fun a ha b hb => by rw [List.mem_singleton.mp hb]; rintro rfl; exact hc ha⟩
    · rw [List.mem_append, List.mem_singleton, h4 d]
      by_cases z : d = c
      · subst z; simp
      · simp [z]
  | some x =>
    have hs : (kvs.any fun kv => decide (kv.1 = (Sum.inl (c : Int) : Key))) = true := by rw [valV_any, h3, e]; rfl
    refine ⟨ks, ?_, h2, hv, fun d => ?_⟩
    · unfold putK
      rw [if_pos hs, keys_map, h1]
    · rw [h4 d]
      by_cases z : d = c
      · subst z; rw [e]; simp
      · simp [z]
theorem ID.congr {kvs : List (Key × V)} {f g : Nat → Option V} (h : ID kvs f) (e : ∀ c, f c = g c) : ID kvs g := by
  have : f = g := funext e
  rw [← this]; exact h
theorem val_at {κ : Type} [DecidableEq κ] : ∀ (kvs : List (κ × V)) (i : Nat) (k : κ) (v : V), (kvs.map (·.1)).Nodup → kvs[i]? = some (k, v) → valV kvs k = some v
  | [], i, k, v, _, h => by simp at h
  | p :: r, 0, k, v, _, h => by
    have : p = (k, v) := by simpa using h
    subst this
    exact valV_pos rfl
  | p :: r, i + 1, k, v, nd, h => by
    have h' : r[i]? = some (k, v) := by simpa using h
    rw [List.map_cons, List.nodup_cons] at nd
    have : k ∈ r.map (·.1) := List.mem_map.mpr ⟨(k, v), List.mem_of_getElem? h', rfl⟩
    rw [valV_neg fun z => nd.1 (z ▸ this)]
    exact val_at r i k v nd.2 h'
/-- the entries in order -/
theorem ID.ent {kvs : List (Key × V)} {f : Nat → Option V} (h : ID kvs f) : ∃ ks : List Nat, ks.Nodup ∧ ks.length = kvs.length ∧ (∀ c, c ∈ ks ↔ (f c).isSome) ∧ ∀ (i : Nat) (k : Key) (v : V), kvs[i]? = some (k, v) → ∃ c : Nat, ks[i]? = some c ∧ k = Sum.inl ((c : Nat) : Int) ∧ f c = some v := by
  obtain ⟨ks, h1, h2, h3, h4⟩ := h
  have el : kvs.length = ks.length := by have := congrArg List.length h1; simpa using this
  refine ⟨ks, h2, el.symm, h4, fun i k v e => ?_⟩
  have e1 : (kvs.map (·.1))[i]? = some k := by rw [List.getElem?_map, e]; rfl
  rw [h1, List.getElem?_map] at e1
  cases q : ks[i]? with
  | none => rw [q] at e1; cases e1
  | some c =>
    rw [q] at e1
    have ek : Sum.inl (c : Int) = k := Option.some.inj e1
    refine ⟨c, rfl, ek.symm, ?_⟩
    rw [← h3 c, ek]
    refine val_at kvs i k v ?_ e
    rw [h1]
    unfold List.Nodup
    rw [List.pairwise_map]
    exact h2.imp fun hne z => hne (inl_I.mp z)
section
variable {K : PySem.W.Frag} {D : Ends} {σ : L2.St} {H : Hp} {Q : VK} {p : Addr} {kvs : List (Key × V)} {v : V}
theorem x_dGetI {R : V → Prop} {c : Int} (hd : Rd H p (.dK kvs)) (hv : valV kvs (.inl c) = some v) (h : R v) : ∃ a v, V.ref p = .ref a ∧ DGet H a (.int c) (some v) ∧ R v := ⟨p, v, rfl, .inl ⟨kvs, .inl c, hd, rfl, hv.symm⟩, h⟩
theorem x_gvI {c : Int} {z : V} (hd : H p = some (.dK kvs)) (h : Q ((valV kvs (.inl c)).getD z) H) : ∃ o, DGet H p (.int c) o ∧ Q (o.getD z) H := ⟨_, .inl ⟨kvs, .inl c, .inl hd, rfl, rfl⟩, h⟩
theorem v_dPutI {c : Int} {R : Hp → Prop} (hd : H p = some (.dK kvs)) (hl : kvs.length < sizeLine) (h : ∀ H2, But p H H2 → H2 p = some (.dK (putK kvs (.inl c) v)) → R H2) : ∃ a H4, V.ref p = .ref a ∧ DPut H a (.int c) v H4 ∧ R H4 := ⟨p, _, rfl, .inl ⟨kvs, .inl c, hd, rfl, hl, rfl⟩, h _ But.upd upd_same⟩
end
/-! what is thawed behind the walk over it -/
theorem same_thaw {H H' : Hp} {d : Addr} {o : Obj} {u : HO} (hd : H d = some u) (s : Same (upd H d (.frz o u)) H') : Same H (upd H' d u) := fun b o' hb => by
  by_cases z : b = d
  · subst z; rw [upd_same, ← hb, hd]
  · rw [upd_ne z]; exact s _ _ (by rw [upd_ne z]; exact hb)
theorem at_thaw {H : Hp} {d p : Addr} {o : Obj} {u u' : HO} (hd : H d = some (.frz o u)) (hp : H p = some u') (ne : ∀ o2 u2, u' ≠ .frz o2 u2) : upd H d u p = some u' := by
  have : p ≠ d := fun z => by subst z; rw [hd] at hp; cases hp; exact ne _ _ rfl
  rw [upd_ne this]; exact hp
theorem free_frz {H : Hp} {d p : Addr} {o : Obj} {u : HO} (h : upd H d (.frz o u) p = none) : p ≠ d ∧ H p = none := by
  have ne : p ≠ d := fun z => by subst z; rw [upd_same] at h; cases h
  rw [upd_ne ne] at h
  exact ⟨ne, h⟩
theorem at_frz {H : Hp} {d p : Addr} {o : Obj} {u u' : HO} (ne : p ≠ d) (hp : H p = some u') : upd H d (.frz o u) p = some u' := by rw [upd_ne ne]; exact hp
/-! what is compared with [] -/
def Shp (n : Nat) (d : PyData) : Prop := d.canLay0 = true ∧ d.depth ≤ n
theorem lay_of : ∀ ds : List PyData, (∀ d ∈ ds, d.canLay0 = true) → PyData.canLayAll0 ds = true
  | [], _ => by simp [PyData.canLayAll0]
  | d :: ds, h => by
    simp only [PyData.canLayAll0, Bool.and_eq_true]
    exact ⟨h d List.mem_cons_self, lay_of ds fun e he => h e (List.mem_cons_of_mem _ he)⟩
theorem depth_of {n : Nat} : ∀ ds : List PyData, (∀ d ∈ ds, d.depth ≤ n) → PyData.depthAll ds ≤ n
  | [], _ => by simp [PyData.depthAll]
  | d :: ds, h => by
    have h1 := h d List.mem_cons_self
    have h2 := depth_of ds fun e he => h e (List.mem_cons_of_mem _ he)
    simp only [PyData.depthAll]
    omega
theorem Shp.lst {n : Nat} {ds : List PyData} (h : ∀ d ∈ ds, Shp n d) : Shp (n + 1) (.list ds) := by
  refine ⟨?_, ?_⟩
  · rw [PyData.canLay0]; exact lay_of ds fun d hd => (h d hd).1
  · have := depth_of (n := n) ds fun d hd => (h d hd).2
    rw [PyData.depth]; omega
theorem Shp.tup {n : Nat} {ds : List PyData} (h : ∀ d ∈ ds, Shp n d) : Shp (n + 1) (.tuple ds) := by
  refine ⟨?_, ?_⟩
  · rw [PyData.canLay0]; exact lay_of ds fun d hd => (h d hd).1
  · have := depth_of (n := n) ds fun d hd => (h d hd).2
    rw [PyData.depth]; omega
theorem Shp.ok {n : Nat} {d : PyData} (h : Shp n d) (hn : n ≤ 64) : SeqAt.shaped d = true := by
  unfold SeqAt.shaped
  rw [h.1, decide_eq_true (Nat.le_trans h.2 hn)]
  rfl
/-- plain data, so deep at most -/
def Dq (n : Nat) (K : PySem.W.Frag) (H : Hp) (v : V) : Prop := ∃ d, Dp K H v d ∧ Shp n d
section
variable {n : Nat} {K : PySem.W.Frag} {H : Hp}
theorem Dq.int (i : Int) : Dq n K H (.int i) := ⟨_, .int i, by simp [PyData.canLay0], by simp [PyData.depth]⟩
theorem Dq.bl (b : Bool) : Dq n K H (.bl b) := ⟨_, .bl b, by simp [PyData.canLay0], by simp [PyData.depth]⟩
theorem Dq.non : Dq n K H .non := ⟨_, .non, by simp [PyData.canLay0], by simp [PyData.depth]⟩
theorem Dq.str {l : List Nat} (h : Chr l) : Dq n K H (.str (S l)) := ⟨_, .str _, by rw [PyData.canLay0]; exact strOk_S h, by simp [PyData.depth]⟩
theorem Dq.all : ∀ {xs : List V}, (∀ x ∈ xs, Dq n K H x) → ∃ ds, DpAll K H xs ds ∧ (∀ d ∈ ds, Shp n d) ∧ ds.length = xs.length
  | [], _ => ⟨[], .nil, fun _ z => (nomatch z), rfl⟩
  | x :: xs, h => by
    obtain ⟨d, h1, h2⟩ := h x List.mem_cons_self
    obtain ⟨ds, h3, h4, h5⟩ := Dq.all fun y hy => h y (List.mem_cons_of_mem _ hy)
    refine ⟨d :: ds, .cons h1 h3, fun e he => ?_, by simp [h5]⟩
    rcases List.mem_cons.mp he with z | z
    · rw [z]; exact h2
    · exact h4 e z
theorem Dq.tup {a : Addr} {xs : List V} (ha : SqT K H a xs) (h : ∀ x ∈ xs, Dq n K H x) : Dq (n + 1) K H (.ref a) := by
  obtain ⟨ds, h1, h2, _⟩ := Dq.all h
  exact ⟨_, .tup ha h1, .tup h2⟩
theorem Dq.lst {a : Addr} {xs : List V} (ha : SqL K H a xs) (h : ∀ x ∈ xs, Dq n K H x) : Dq (n + 1) K H (.ref a) := by
  obtain ⟨ds, h1, h2, _⟩ := Dq.all h
  exact ⟨_, .lst ha h1, .lst h2⟩
end
def r2E (K : PySem.W.Frag) (g : Bool → Bool) : R2 := fun x y H Q => ∃ (p q : Addr) (xs : List V), x = .ref p ∧ y = .ref q ∧ SqL K H p xs ∧ SqL K H q [] ∧ (∀ x ∈ xs, Dq 20 K H x) ∧ Q (.bl (g (decide (xs = [])))) H
abbrev rEqE (K : PySem.W.Frag) : R2 := r2E K fun b => b
abbrev rNeE (K : PySem.W.Frag) : R2 := r2E K fun b => !b
theorem eqv_nil {ds : List PyData} {xs : List V} (h : ds.length = xs.length) : PyData.eqv (.list ds) (.list []) = decide (xs = []) := by
  cases ds with
  | nil =>
    have : xs = [] := List.length_eq_zero_iff.mp h.symm
    subst this
    simp [PyData.eqv, PyData.eqvAll]
  | cons a ds =>
    have : xs ≠ [] := fun z => by subst z; cases h
    simp [PyData.eqv, PyData.eqvAll, this]
theorem op_eqE {X : Cx} (hu : X.A.units + 64 < cLine) : OpR X (compareOp .Eq) (rEqE X.K) := by
  intro pins s σ H x y v u Q I rx ry h
  obtain ⟨p, q, xs, rfl, rfl, h1, h2, h3, k⟩ := h
  obtain ⟨ds, d1, d2, d3⟩ := Dq.all h3
  refine op_eqD hu pins s σ H _ _ v u Q I rx ry ⟨_, _, .lst h1 d1, .lst h2 .nil, (Shp.lst d2).ok (by decide), (Shp.lst (n := 0) (ds := []) fun _ z => nomatch z).ok (by decide), ?_⟩
  rw [eqv_nil d3]
  exact k
theorem op_neE {X : Cx} (hu : X.A.units + 64 < cLine) : OpR X (compareOp .NotEq) (rNeE X.K) := by
  intro pins s σ H x y v u Q I rx ry h
  obtain ⟨p, q, xs, rfl, rfl, h1, h2, h3, k⟩ := h
  obtain ⟨ds, d1, d2, d3⟩ := Dq.all h3
  refine op_neD hu pins s σ H _ _ v u Q I rx ry ⟨_, _, .lst h1 d1, .lst h2 .nil, (Shp.lst d2).ok (by decide), (Shp.lst (n := 0) (ds := []) fun _ z => nomatch z).ok (by decide), ?_⟩
  rw [eqv_nil d3]
  exact k
theorem i_r2E {K : PySem.W.Frag} {g : Bool → Bool} {p q : Addr} {xs : List V} {H : Hp} {Q : VK} (h1 : SqL K H p xs) (h2 : SqL K H q []) (h3 : ∀ x ∈ xs, Dq 20 K H x) (k : Q (.bl (g (decide (xs = [])))) H) : r2E K g (.ref p) (.ref q) H Q := ⟨p, q, xs, rfl, rfl, h1, h2, h3, k⟩
def dispK (Q : VK) (p : Addr) (x y : V) (H2 : Hp) : Prop := H2 p = some (.dK []) ∧ ∃ kvs : List (Key × V), [(x, y)] = kvs.map (fun kv => (kV kv.1, kv.2)) ∧ kvs.length ≤ 15 ∧ Q (.ref p) (upd H2 p (.dK (mergeK [] kvs)))
theorem v_disp1 {tk tv : TE} {σ : L2.St} {H : Hp} {Q : VK} (h : ∀ p H1, H p = none → Same H H1 → H1 p = some (.dK []) → tk σ H1 fun x H2 => tv σ H2 fun y H3 => dispK Q p x y H3) : tDisp [(tk, tv)] σ H Q := fun p np => h p _ np (same_new np) upd_same
theorem x_disp {k : Key} {y : V} {p : Addr} {H : Hp} {Q : VK} (hp : H p = some (.dK [])) (h : ∀ H2, But p H H2 → H2 p = some (.dK [(k, y)]) → Q (.ref p) H2) : dispK Q p (kV k) y H := ⟨hp, [(k, y)], rfl, by simp, h _ But.upd upd_same⟩
theorem same_frz {H H' : Hp} {d : Addr} {u : HO} (s : Same H H') : Same (upd H d u) (upd H' d u) := fun b o hb => by
  by_cases z : b = d
  · subst z; rw [upd_same] at hb ⊢; exact hb
  · rw [upd_ne z] at hb ⊢; exact s _ _ hb
theorem ID.len {kvs : List (Key × V)} {f : Nat → Option V} {n : Nat} (h : ID kvs f) (hf : ∀ c, (f c).isSome → c < n) : kvs.length ≤ n := by
  obtain ⟨ks, h1, h2, h3, _⟩ := h.ent
  have := nodup_len ks (List.range n) h1 fun c hc => List.mem_range.mpr (hf c ((h3 c).mp hc))
  rw [List.length_range] at this
  omega
theorem fm_zipG {α β : Type} (us : List Addr) (ls : List α) (f : α → Option β) (h : us.length = ls.length) : (us.zip ls).filterMap (fun p => f p.2) = ls.filterMap f := by
  induction us generalizing ls with
  | nil => cases ls with
    | nil => rfl
    | cons a l => cases h
  | cons u us ih =>
    cases ls with
    | nil => cases h
    | cons a l => rw [List.zip_cons_cons, List.filterMap_cons, List.filterMap_cons, ih l (Nat.succ.inj h)]
theorem zip_refsG {α : Type} (us : List Addr) (ls : List α) (h : us.length = ls.length) : (us.zip ls).map (fun p => V.ref p.1) = us.map V.ref := by
  induction us generalizing ls with
  | nil => rfl
  | cons u us ih =>
    cases ls with
    | nil => cases h
    | cons a l => rw [List.zip_cons_cons, List.map_cons, List.map_cons, ih l (Nat.succ.inj h)]
end Lv

set_option Elab.async false
set_option linter.all false
set_option maxRecDepth 100000
set_option maxHeartbeats 4000000
namespace Lv
open PySem PySem.Spec PyProof.Rows L2 SX
/-! {(a, b): v} -/
def dispT (Q : VK) (p : Addr) (x y : V) (H2 : Hp) : Prop := H2 p = some (.dT []) ∧ ∃ (k : List Key) (b : Addr), x = .ref b ∧ H2 b = some (.tup (k.map kV)) ∧ Q (.ref p) (upd H2 p (.dT [(k, y)]))
def tDispT1 (tk tv : TE) : TE := fun σ H Q => ∀ p, H p = none → tk σ (upd H p (.dT [])) fun x H1 => tv σ H1 fun y H2 => dispT Q p x y H2
theorem pe_dispT1 {X : Cx} {ek ev : Expr} {tk tv : TE} {pos : Pos} (hu : X.A.units + 1 < cLine) (hk : PE X ek tk) (hv : PE X ev tv) : PE X (.Dict [some ek] [ev] pos) (tDispT1 tk tv) := by
  refine ⟨fun pins s σ H Q I q => ?_⟩
  have hn := I.hok.fresh (Nat.le_refl s.heap.objs.size)
  have I1 := I.laid (a := s.heap.objs.size) (o := .dT []) (h' := s.heap.push { cls := .type "dict", data := .dict #[] }) (t' := s.toks) (fun _ _ q => Heap.get?_push_of_some _ q) (Nat.le_refl _) (dt_empty s.heap I.big)
  refine wpAny_Dict_any rfl rfl (by simp) (by show 1 ≤ 15; decide) ?_
  refine pairTrees_cons_walk (thn (hk.run pins _ σ _ _ I1 (q _ hn)) fun u s1 ⟨x, H1, I1, rx, q1⟩ => thn (hv.run pins s1 σ H1 _ I1 q1) fun u2 s2 ⟨y, H2, I2, ry, e, k, b, ex, eb, q2⟩ => pairTrees_nil_walk ?_)
  subst ex
  cases (show u = Value.ref b from rx)
  obtain ⟨z, hd, xs, rel, dd⟩ := dt_of I2.hok e
  have hz : xs.length ≤ sizeLine := by rw [← Paired.length rel]; exact z
  unfold storeAll
  rw [List.forIn_cons]
  refine wpAny_bind (wpAny_bind (wpAny_dictSet_heap (hsz := hz) (Nat.lt_of_succ_lt hu) (key_of I2.hok eb) dd fun h' dd' hs => wpAny_pure ?_))
  show wpAny _ _ (forIn [] PUnit.unit _) _ _ _
  rw [List.forIn_nil]
  refine wpAny_pure ?_
  obtain ⟨q', es, ep, hq, h2, h3, h4, _, h5⟩ := dd'
  refine ⟨.ref s.heap.objs.size, _, d_write (ob := .dT [(k, y)]) I2 (by rw [e]; exact True.intro) hs ⟨q', hq⟩ ⟨?_, hd, _, (rel.put k eb ry).keeps fun c ys ec => ?_, q', es, ep, hq, h2, h3, h4, h5⟩, rfl, q2⟩
  · show 1 ≤ sizeLine
    rw [sizeLine_eq]; omega
  · rw [upd_ne (ne_of ec e (fun z => nomatch z))]
    exact ec
theorem v_dispT1 {tk tv : TE} {σ : L2.St} {H : Hp} {Q : VK} (h : ∀ p H1, H p = none → Same H H1 → H1 p = some (.dT []) → tk σ H1 fun x H2 => tv σ H2 fun y H3 => dispT Q p x y H3) : tDispT1 tk tv σ H Q := fun p np => h p _ np (same_new np) upd_same
theorem x_dispT {k : List Key} {y : V} {p b : Addr} {H : Hp} {Q : VK} (hp : H p = some (.dT [])) (hb : H b = some (.tup (k.map kV))) (h : ∀ H2, But p H H2 → H2 p = some (.dT [(k, y)]) → Q (.ref p) H2) : dispT Q p (.ref b) y H := ⟨hp, k, b, rfl, hb, h _ But.upd upd_same⟩
/-- a dict by two whole numbers -/
abbrev k2 (p q : Nat) : List Key := [Sum.inl (p : Int), Sum.inl (q : Int)]
theorem k2_inj {p q p' q' : Nat} : k2 p q = k2 p' q' ↔ p = p' ∧ q = q' := by
  constructor
  · intro h
    have h1 := List.cons.inj h
    have h2 := List.cons.inj h1.2
    exact ⟨inl_I.mp h1.1, inl_I.mp h2.1⟩
  · rintro ⟨rfl, rfl⟩; rfl
section
variable {K : PySem.W.Frag} {D : Ends} {σ : L2.St} {H : Hp} {Q : VK} {p : Addr} {kvs : List (List Key × V)} {v : V} {b : Addr} {k : List Key}
theorem x_dInT {R : Option V → Prop} (hd : Rd H p (.dT kvs)) (hb : H b = some (.tup (k.map kV))) (h : R (valV kvs k)) : ∃ a o, V.ref p = .ref a ∧ DGet H a (.ref b) o ∧ R o := ⟨p, _, rfl, .inr ⟨kvs, k, b, hd, rfl, hb, rfl⟩, h⟩
theorem x_dGetT {R : V → Prop} (hd : Rd H p (.dT kvs)) (hb : H b = some (.tup (k.map kV))) (hv : valV kvs k = some v) (h : R v) : ∃ a v, V.ref p = .ref a ∧ DGet H a (.ref b) (some v) ∧ R v := ⟨p, v, rfl, .inr ⟨kvs, k, b, hd, rfl, hb, hv.symm⟩, h⟩
theorem v_dPutT {R : Hp → Prop} (hd : H p = some (.dT kvs)) (hb : H b = some (.tup (k.map kV))) (hl : kvs.length < sizeLine) (h : ∀ H2, But p H H2 → H2 p = some (.dT (putK kvs k v)) → R H2) : ∃ a H4, V.ref p = .ref a ∧ DPut H a (.ref b) v H4 ∧ R H4 := ⟨p, _, rfl, .inr ⟨kvs, k, b, hd, rfl, hb, hl, rfl⟩, h _ But.upd upd_same⟩
end
theorem paired_snocP {α β : Type} {F : α → β → Prop} {x : α} {y : β} (h : F x y) : ∀ {xs : List α} {ys : List β}, Paired F xs ys → Paired F (xs ++ [x]) (ys ++ [y])
  | _, _, .nil => .cons h .nil
  | _, _, .cons a b => .cons a (paired_snocP h b)
def oS : Option (List Nat) → V
  | none => .non
  | some w => .str (S w)
def oSD : Option (List Nat) → PyData
  | none => .none
  | some w => .str (S w)
theorem oSD_dp {K : PySem.W.Frag} {H : Hp} : ∀ o, Dp K H (oS o) (oSD o)
  | none => .non
  | some k => .str _
def OChr : Option (List Nat) → Prop
  | none => True
  | some w => Chr w
theorem oSD_shaped : ∀ {o : Option (List Nat)}, OChr o → SeqAt.shaped (oSD o) = true
  | none, _ => by simp [oSD, SeqAt.shaped, PyData.canLay0, PyData.depth]
  | some w, h => by simp only [oSD, SeqAt.shaped, PyData.canLay0, PyData.depth, strOk_S h]; rfl
theorem oSD_eqv : ∀ a b : Option (List Nat), PyData.eqv (oSD a) (oSD b) = decide (a = b)
  | none, none => by simp [oSD, PyData.eqv]
  | none, some _ => by simp [oSD, PyData.eqv]
  | some _, none => by simp [oSD, PyData.eqv]
  | some v, some w => by
    simp only [oSD, PyData.eqv, Option.some.injEq]
    by_cases h : v = w
    · subst h; simp
    · have : ¬ S v = S w := fun z => h (S_inj.mp z)
      simp [h, this]
def r2OS (g : Option (List Nat) → Option (List Nat) → Bool) : R2 := fun x y H Q => ∃ a b : Option (List Nat), x = oS a ∧ y = oS b ∧ OChr a ∧ OChr b ∧ Q (.bl (g a b)) H
abbrev rEqOS : R2 := r2OS fun a b => decide (a = b)
abbrev rNeOS : R2 := r2OS fun a b => !decide (a = b)
theorem op_eqOS {X : Cx} (hu : X.A.units + 64 < cLine) : OpR X (compareOp .Eq) rEqOS := by
  intro pins s σ H x y v u Q I rx ry h
  obtain ⟨a, b, rfl, rfl, c1, c2, k⟩ := h
  refine op_eqD hu pins s σ H _ _ v u Q I rx ry ⟨_, _, oSD_dp a, oSD_dp b, oSD_shaped c1, oSD_shaped c2, ?_⟩
  rw [oSD_eqv]
  exact k
theorem op_neOS {X : Cx} (hu : X.A.units + 64 < cLine) : OpR X (compareOp .NotEq) rNeOS := by
  intro pins s σ H x y v u Q I rx ry h
  obtain ⟨a, b, rfl, rfl, c1, c2, k⟩ := h
  refine op_neD hu pins s σ H _ _ v u Q I rx ry ⟨_, _, oSD_dp a, oSD_dp b, oSD_shaped c1, oSD_shaped c2, ?_⟩
  rw [oSD_eqv]
  exact k
theorem i_r2OS {g : Option (List Nat) → Option (List Nat) → Bool} {a b : Option (List Nat)} {H : Hp} {Q : VK} (h1 : OChr a) (h2 : OChr b) (k : Q (.bl (g a b)) H) : r2OS g (oS a) (oS b) H Q := ⟨a, b, rfl, rfl, h1, h2, k⟩
end Lv

set_option Elab.async false
set_option linter.all false
set_option maxRecDepth 100000
set_option maxHeartbeats 4000000
namespace Lv
open PySem PySem.Spec PyProof.Rows L2 SX
theorem best_minB {lt : Nat → Nat → Bool} {n : Nat} (irr : ∀ a, a < n → lt a a = false) (tr : ∀ a b c, a < n → b < n → c < n → lt a b = true → lt b c = true → lt a c = true) : ∀ k, k < n → argBest lt k ≤ k ∧ ∀ j, j ≤ k → lt j (argBest lt k) = false
  | 0, hk => ⟨Nat.le_refl _, fun j hj => by obtain rfl : j = 0 := by omega
                                            exact irr 0 hk⟩
  | k + 1, hk => by
    obtain ⟨h1, h2⟩ := best_minB irr tr k (by omega)
    simp only [argBest]
    by_cases z : lt (k + 1) (argBest lt k) = true
    · rw [if_pos z]
      refine ⟨Nat.le_refl _, fun j hj => ?_⟩
      rcases Nat.lt_or_ge j (k + 1) with y | y
      · cases e : lt j (k + 1) with
        | false => rfl
        | true => have := tr _ _ _ (by omega) (by omega) (by omega) e z; rw [h2 j (by omega)] at this; cases this
      · obtain rfl : j = k + 1 := by omega
        exact irr _ hk
    · rw [if_neg z]
      refine ⟨by omega, fun j hj => ?_⟩
      rcases Nat.lt_or_ge j (k + 1) with y | y
      · exact h2 j (by omega)
      · obtain rfl : j = k + 1 := by omega
        cases e : lt (k + 1) (argBest lt k) with
        | false => rfl
        | true => exact absurd e z
/-! (int, text) < (int, text) -/
abbrev isD (i : Int) (l : List Nat) : PyData := .tuple [.int i, .str (S l)]
theorem lt_isD (i j : Int) (l m : List Nat) : PySem.W.dataLt (isD i l) (isD j m) = decide (i < j ∨ (i = j ∧ l < m)) := by
  rw [PySem.W.dataLt_pair (by simp [PySem.W.alike]) (by simp [PySem.W.alike]), PySem.W.dataLt_int, PySem.W.dataLt_str]
  simp only [PyData.eqv]
  by_cases e : i = j
  · subst e
    by_cases e2 : l = m
    · subst e2; simp
    · have : ¬ S l = S m := fun z => e2 (S_inj.mp z)
      simp [this]
  · simp [e]
theorem alike_isD (i j : Int) (l m : List Nat) : PySem.W.alike (isD i l) (isD j m) = true := by simp [PySem.W.alike, PySem.W.alikeAll]
theorem dp_isD {K : PySem.W.Frag} {H : Hp} {a : Addr} {i : Int} {l : List Nat} (h : SqT K H a [.int i, .str (S l)]) : Dp K H (.ref a) (isD i l) := .tup h (.cons (.int _) (.cons (.str _) .nil))
def rLtIS (K : PySem.W.Frag) : R2 := fun x y H Q => ∃ (a b : Addr) (i j : Int) (l m : List Nat), x = .ref a ∧ y = .ref b ∧ SqT K H a [.int i, .str (S l)] ∧ SqT K H b [.int j, .str (S m)] ∧ Q (.bl (decide (i < j ∨ (i = j ∧ l < m)))) H
theorem op_ltIS {X : Cx} (hu : X.A.units + 64 < cLine) : OpR X (compareOp .Lt) (rLtIS X.K) := by
  intro pins s σ H x y v u Q I rx ry h
  obtain ⟨a, b, i, j, l, m, rfl, rfl, h1, h2, k⟩ := h
  obtain ⟨as, r1⟩ := Dp.reads I _ _ v (dp_isD h1) rx
  obtain ⟨bs, r2⟩ := Dp.reads I _ _ u (dp_isD h2) ry
  refine PySem.W.rcLt_alike _ _ X.A s v u as bs r1 r2 (alike_isD _ _ _ _) (by intro z; cases z) ?_ _ _ _ _ ⟨.bl _, H, I, rfl, by rw [lt_isD]; exact k⟩
  have : min (isD i l).depth (isD j m).depth ≤ (isD i l).depth := Nat.min_le_left _ _
  have : (isD i l).depth = 1 := by simp [PyData.depth, PyData.depthAll]
  omega
theorem i_ltIS {K : PySem.W.Frag} {a b : Addr} {i j : Int} {l m : List Nat} {H : Hp} {Q : VK} (h1 : SqT K H a [.int i, .str (S l)]) (h2 : SqT K H b [.int j, .str (S m)]) (k : Q (.bl (decide (i < j ∨ (i = j ∧ l < m)))) H) : rLtIS K (.ref a) (.ref b) H Q := ⟨a, b, i, j, l, m, rfl, rfl, h1, h2, k⟩
/-- min of such pairs -/
def rMinIS (K : PySem.W.Frag) : List V → Hp → VK → Prop := fun xs H Q => ∃ (p : Addr) (ts : List Addr) (ys : List (Int × List Nat)), xs = [.ref p] ∧ SqL K H p (ts.map V.ref) ∧ Paired (fun t y => SqT K H t [.int y.1, .str (S y.2)]) ts ys ∧ ys ≠ [] ∧ ys.length ≤ 1000000 ∧
  ∀ (i : Nat) (t : Addr) (y : Int × List Nat), ts[i]? = some t → ys[i]? = some y → (∀ z ∈ ys, ¬ (z.1 < y.1 ∨ (z.1 = y.1 ∧ z.2 < y.2))) → Q (.ref t) H
theorem dp_iss {K : PySem.W.Frag} {H : Hp} : ∀ {ts : List Addr} {ys : List (Int × List Nat)}, Paired (fun t y => SqT K H t [.int y.1, .str (S y.2)]) ts ys → DpAll K H (ts.map V.ref) (ys.map fun y => isD y.1 y.2)
  | _, _, .nil => .nil
  | _, _, .cons a b => .cons (dp_isD a) (dp_iss b)
theorem call_minIS {X : Cx} (hu : X.A.units + 64 < cLine) (hc : X.calm = true) : CallR X (.builtin "min") (rMinIS X.K) := by
  intro pins s σ H xs us Q I r h
  obtain ⟨p, ts, ys, rfl, hs, pr, hne, hmax, q⟩ := h
  obtain ⟨its, rv, hl, _⟩ := I.list hs
  rw [Vals.ref1 r]
  have hlen := rv.length
  have prl := pr.length
  rw [List.length_map] at hlen
  obtain ⟨as, ra⟩ := Dp.readsAll I _ _ _ (dp_iss pr) rv
  have hpos : 0 < ys.length := List.length_pos_iff.mpr hne
  have cmp := PySem.W.cmpIn_lt (prog := X.prog) (w := X.w) (A := X.A.in1) (s := s) (vs := its.toArray) (xs := ys.map fun y => isD y.1 y.2) (as := as) (by simpa using ra)
    ⟨fun x hx y hy => by
      obtain ⟨x', _, rfl⟩ := List.mem_map.mp hx
      obtain ⟨y', _, rfl⟩ := List.mem_map.mp hy
      exact alike_isD _ _ _ _, fun x hx z => by
      obtain ⟨x', _, rfl⟩ := List.mem_map.mp hx
      cases z⟩ (by
      have : PyData.depthAll (ys.map fun y => isD y.1 y.2) ≤ 1 := depth_of _ fun d hd => by
        obtain ⟨x', _, rfl⟩ := List.mem_map.mp hd
        simp [PyData.depth, PyData.depthAll]
      have e : X.A.in1.units = X.A.units + 1 := rfl
      omega)
  refine min_list_raw (I.ok.hd hc) hl.isList (by rw [List.size_toArray]; omega) cmp fun v h' tk hv hk => ?_
  generalize hlt : (fun i j => PySem.W.dataLt ((ys.map fun y => isD y.1 y.2).getD i .none) ((ys.map fun y => isD y.1 y.2).getD j .none)) = lt at hv
  have atD : ∀ i, i < ys.length → (ys.map fun y => isD y.1 y.2).getD i .none = isD (ys.getD i (0, [])).1 (ys.getD i (0, [])).2 := fun i hi => by
    rw [List.getD_eq_getElem?_getD, List.getElem?_map, List.getElem?_eq_getElem hi, List.getD_eq_getElem?_getD, List.getElem?_eq_getElem hi]; rfl
  obtain ⟨b1, b2⟩ := best_minB (n := ys.length) (lt := lt) (fun a ha => by rw [← hlt]; simp only [atD _ ha, lt_isD]; exact decide_eq_false fun z => z.elim (fun h => absurd h (Int.lt_irrefl _)) (fun h => absurd h.2 (List.lt_irrefl _))) (fun a b c ha hb hc' h1 h2 => by
    rw [← hlt] at h1 h2 ⊢
    simp only [atD _ ha, atD _ hb, atD _ hc', lt_isD, decide_eq_true_eq] at h1 h2 ⊢
    rcases h1 with h1 | ⟨e1, h1⟩ <;> rcases h2 with h2 | ⟨e2, h2⟩
    · exact .inl (by omega)
    · exact .inl (by omega)
    · exact .inl (by omega)
    · exact .inr ⟨by omega, List.lt_trans h1 h2⟩) (its.toArray.size - 1) (by rw [List.size_toArray]; omega)
  generalize argBest lt (its.toArray.size - 1) = bi at *
  rw [List.size_toArray] at b1 b2
  have hbi : bi < ys.length := by omega
  have hbt : bi < ts.length := by omega
  obtain ⟨u, h1, h2⟩ := rv.get (show (ts.map V.ref)[bi]? = some (.ref ts[bi]) by rw [List.getElem?_map, List.getElem?_eq_getElem hbt]; rfl)
  rw [List.getElem?_toArray, h1] at hv
  cases hv
  refine ⟨.ref ts[bi], H, I.kept hk, h2, q bi _ ys[bi] (List.getElem?_eq_getElem hbt) (List.getElem?_eq_getElem hbi) fun z hz => ?_⟩
  obtain ⟨j, hj⟩ := List.mem_iff_getElem?.mp hz
  have jl := (List.getElem?_eq_some_iff.mp hj).1
  have := b2 j (by omega)
  rw [← hlt] at this
  simp only [atD _ jl, atD _ hbi, lt_isD] at this
  have := of_decide_eq_false this
  rw [List.getD_eq_getElem?_getD, hj, List.getD_eq_getElem?_getD, List.getElem?_eq_getElem hbi] at this
  exact this
theorem i_minIS {K : PySem.W.Frag} {p : Addr} {ts : List Addr} {ys : List (Int × List Nat)} {H : Hp} {Q : VK} (hp : SqL K H p (ts.map V.ref)) (pr : Paired (fun t y => SqT K H t [.int y.1, .str (S y.2)]) ts ys) (ne : ys ≠ []) (hm : ys.length ≤ 1000000)
    (q : ∀ (i : Nat) (t : Addr) (y : Int × List Nat), ts[i]? = some t → ys[i]? = some y → (∀ z ∈ ys, ¬ (z.1 < y.1 ∨ (z.1 = y.1 ∧ z.2 < y.2))) → Q (.ref t) H) : rMinIS K [.ref p] H Q := ⟨p, ts, ys, rfl, hp, pr, ne, hm, q⟩
/-! (int, int) not in list of such -/
abbrev iiD (y : Nat × Nat) : PyData := .tuple [.int (y.1 : Int), .int (y.2 : Int)]
theorem iiD_shp (y : Nat × Nat) : Shp 1 (iiD y) := Shp.tup (n := 0) fun d hd => by
  have hd : d = .int (y.1 : Int) ∨ d = .int (y.2 : Int) := by simpa using hd
  rcases hd with rfl | rfl <;> exact ⟨by simp [PyData.canLay0], by simp [PyData.depth]⟩
theorem iiD_eqv (x y : Nat × Nat) : PyData.eqv (iiD x) (iiD y) = decide (x = y) := by
  obtain ⟨a, b⟩ := x
  obtain ⟨c, d⟩ := y
  simp only [PyData.eqv, PyData.eqvAll, Prod.mk.injEq]
  by_cases e : a = c
  · subst e
    by_cases e2 : b = d
    · subst e2; simp
    · have : ¬ (b : Int) = (d : Int) := by omega
      simp [e2, this]
  · have : ¬ (a : Int) = (c : Int) := by omega
    simp [e, this]
theorem dp_iis {K : PySem.W.Frag} {H : Hp} : ∀ {ts : List Addr} {ys : List (Nat × Nat)}, Paired (fun t y => SqT K H t [.int (y.1 : Int), .int (y.2 : Int)]) ts ys → DpAll K H (ts.map V.ref) (ys.map iiD)
  | _, _, .nil => .nil
  | _, _, .cons a b => .cons (.tup a (.cons (.int _) (.cons (.int _) .nil))) (dp_iis b)
def rNotInII (K : PySem.W.Frag) : R2 := fun x y H Q => ∃ (a b : Addr) (p : Nat × Nat) (ts : List Addr) (ys : List (Nat × Nat)), x = .ref a ∧ y = .ref b ∧ SqT K H a [.int (p.1 : Int), .int (p.2 : Int)] ∧ SqL K H b (ts.map V.ref) ∧ Paired (fun t y => SqT K H t [.int (y.1 : Int), .int (y.2 : Int)]) ts ys ∧ Q (.bl (!decide (p ∈ ys))) H
theorem op_notInII {X : Cx} (hu : X.A.units + 65 < cLine) : OpR X (compareOp .NotIn) (rNotInII X.K) := by
  intro pins s σ H x y v u Q I rx ry h
  obtain ⟨a, b, p, ts, ys, rfl, rfl, h1, h2, h3, k⟩ := h
  refine op_notInD hu pins s σ H _ _ v u Q I rx ry ⟨iiD p, ys.map iiD, .tup h1 (.cons (.int _) (.cons (.int _) .nil)), .lst h2 (dp_iis h3), (iiD_shp p).ok (by decide), (Shp.lst (n := 1) fun d hd => ?_).ok (by decide), ?_⟩
  · obtain ⟨x, _, rfl⟩ := List.mem_map.mp hd
    exact iiD_shp x
  · have : ((ys.map iiD).any fun z => PyData.eqv z (iiD p)) = decide (p ∈ ys) := by
      rw [Bool.eq_iff_iff, List.any_eq_true, decide_eq_true_eq]
      constructor
      · rintro ⟨z, hz, e⟩
        obtain ⟨y, hy, rfl⟩ := List.mem_map.mp hz
        rw [iiD_eqv] at e
        rw [← of_decide_eq_true e]; exact hy
      · intro hp
        exact ⟨_, List.mem_map.mpr ⟨p, hp, rfl⟩, by rw [iiD_eqv]; exact decide_eq_true rfl⟩
    rw [this]
    exact k
theorem i_notInII {K : PySem.W.Frag} {a b : Addr} {p : Nat × Nat} {ts : List Addr} {ys : List (Nat × Nat)} {H : Hp} {Q : VK} (h1 : SqT K H a [.int (p.1 : Int), .int (p.2 : Int)]) (h2 : SqL K H b (ts.map V.ref)) (h3 : Paired (fun t y => SqT K H t [.int (y.1 : Int), .int (y.2 : Int)]) ts ys) (k : Q (.bl (!decide (p ∈ ys))) H) : rNotInII K (.ref a) (.ref b) H Q := ⟨a, b, p, ts, ys, rfl, rfl, h1, h2, h3, k⟩
theorem room65 {k : Nat} {A : Around} (r : Room k A) : A.units + 65 < cLine := by have := r.un; omega
end Lv

set_option Elab.async false
set_option linter.all false
set_option maxRecDepth 100000
set_option maxHeartbeats 4000000
namespace Lv
open PySem PySem.Spec PyProof.Rows L2 SX
/-! text[::k], text[a::k]: some letters of it -/
theorem pick_subI (l : List Nat) : ∀ (ps : List Nat) (k : Nat), ps.Pairwise (· < ·) → (∀ p ∈ ps, k ≤ p) → (ps.filterMap fun p => l[p]?).Sublist (l.drop k)
  | [], k, _, _ => List.nil_sublist _
  | p :: ps, k, up, h => by
    obtain ⟨u1, u2⟩ := List.pairwise_cons.mp up
    have ih := pick_subI l ps (p + 1) u2 fun q hq => u1 q hq
    have hk := h p List.mem_cons_self
    have sd : (l.drop p).Sublist (l.drop k) := by
      have : l.drop p = (l.drop k).drop (p - k) := by rw [List.drop_drop]; congr 1; omega
      rw [this]; exact List.drop_sublist _ _
    rw [List.filterMap_cons]
    by_cases hp : p < l.length
    · rw [List.getElem?_eq_getElem hp]
      refine List.Sublist.trans ?_ sd
      rw [List.drop_eq_getElem_cons hp]
      exact ih.cons₂ _
    · rw [List.getElem?_eq_none (by omega)]
      exact ih.trans ((by rw [← List.drop_drop]; exact List.drop_sublist _ _ : (l.drop (p + 1)).Sublist (l.drop p)).trans sd)
theorem range_up {st a : Int} (hs : 0 < st) (ha : 0 ≤ a) (b : Int) : (PySem.sliceRange a b st).Pairwise (· < ·) := by
  unfold PySem.sliceRange
  rw [List.pairwise_map]
  refine List.pairwise_lt_range.imp fun {i j} h => ?_
  have h1 : st * (i : Int) < st * (j : Int) := Int.mul_lt_mul_of_pos_left (by omega) hs
  have h2 : 0 ≤ st * (i : Int) := Int.mul_nonneg (by omega) (by omega)
  omega
theorem idx_up {st : Int} (hs : 0 < st) (lo : Option Int) (n : Nat) : (Builtin.Str.strSliceIndices lo none st n).Pairwise (· < ·) := by
  unfold Builtin.Str.strSliceIndices
  refine range_up hs ?_ _
  cases lo with
  | none => simp [hs]
  | some i => simp only [show st > 0 from hs, if_true]; omega
def tStepS (te : TE) : TE := fun σ H Q => te σ H fun x H1 => ∃ l : List Nat, x = .str (S l) ∧ l.length ≤ sizeLine ∧ ∀ w : List Nat, w.Sublist l → Q (.str (S w)) H1
theorem pe_stepG {X : Cx} {e : Expr} {te : TE} {k : Nat} {st : Int} {p1 p3 pos : Pos} {lo : Option Expr} {vlo : Option Int} {tl : TO} (hs : 1 < st) (he : PE X e te) (hlo : PO X lo tl) (htl : ∀ σ H (R : Option Int → Hp → Prop), R vlo H → tl σ H R) : PE X (.Subscript e (.Slice lo none (some (.Constant (.int st) k p1)) p3) pos) (tStepS te) := by
  refine ⟨fun pins s σ H Q I h => ?_⟩
  refine Subscript_ (thn (he.run pins s σ H _ I h) fun v s1 ⟨x, H1, I1, r1, q1⟩ => ?_)
  obtain ⟨l, rfl, hz, q⟩ := q1
  obtain ⟨t, rfl⟩ := r1
  have hst : PO X (some (.Constant (.int st) k p1)) (tPart (tC (.int st))) := po_some pe_int
  refine wpAny_Slice (thn (hlo.run pins s1 σ H1 (fun o H2 => o = vlo ∧ H2 = H1) I1 (htl _ _ _ ⟨rfl, rfl⟩)) fun vl s2 ⟨lo', H2, I2, pl, el, e2⟩ => ?_)
  subst el e2
  refine thn (po_none.run pins s2 σ H2 (fun o H3 => o = none ∧ H3 = H2) I2 ⟨rfl, rfl⟩) fun vu s3 ⟨u, H3, I3, pu, eu, e3⟩ => ?_
  subst eu e3
  refine thn (hst.run pins s3 σ H3 (fun o H4 => o = some st ∧ H4 = H3) I3 ⟨st, rfl, rfl, rfl⟩) fun vs s4 ⟨o, H4, I4, ps, eo, e4⟩ => ?_
  subst eo e4
  have I5 : Inv X pins σ H4 { s4 with heap := s4.heap.push { cls := .type "slice", data := .fields #[vl, vu, vs] } } := I4.kept (t' := s4.toks) fun b ob q => Heap.get?_push_of_some _ q
  obtain ⟨a1, rfl, e1⟩ := IsPart.raw pl
  obtain ⟨a2, rfl, e2⟩ := IsPart.raw pu
  obtain ⟨a3, rfl, e3⟩ := IsPart.raw ps
  show wpAny (model X.prog X.w) X.A (subscriptTail e (.Slice lo none (some (.Constant (.int st) k p1)) p3) (.str (S l) t) (.ref s4.heap.objs.size)) (EP X pins σ Q) X.xe { s4 with heap := s4.heap.push { cls := .type "slice", data := .fields #[partValue a1, partValue a2, partValue a3] } }
  refine tail_any (ops := [.str (S l) t, .ref s4.heap.objs.size]) (typeIs_str _ _ _) (F.slot_str_getitem.lookup) ?_ (by with_unfolding_all rfl)
  have e3' : (a3.map (·.1)).getD 1 = st := by rw [e3]; rfl
  refine wpAny_getItem_str_slice (l := a1) (u := a2) (st := a3) ⟨_, Heap.get?_push_size _ rfl, rfl, rfl⟩ (by rw [e3']; exact beq_eq_false_iff_ne.mpr (by omega)) ?_
  unfold sliceMade
  rw [if_neg (by rw [e3']; simp; omega)]
  have ep : ((slicePicked (S l) a1 a2 a3).filterMap ((S l).cps[·]?)).Sublist l := by
    unfold slicePicked
    rw [e3', e1, e2, S_len]
    have := pick_subI l _ 0 (idx_up (st := st) (by omega) lo' l.length) (fun _ _ => Nat.zero_le _)
    simpa using this
  generalize ((slicePicked (S l) a1 a2 a3).filterMap ((S l).cps[·]?)) = w at ep
  refine ⟨?_, .str (S w), H4, I5.tok _, ⟨_, rfl⟩, q w ep⟩
  show (S w).length ≤ sizeLine
  rw [S_len]
  exact Nat.le_trans ep.length_le hz
theorem pe_step0 {X : Cx} {e : Expr} {te : TE} {k : Nat} {st : Int} {p1 p3 pos : Pos} (hs : 1 < st) (he : PE X e te) : PE X (.Subscript e (.Slice none none (some (.Constant (.int st) k p1)) p3) pos) (tStepS te) := pe_stepG (vlo := none) hs he po_none fun _ _ _ h => h
theorem pe_step1 {X : Cx} {e : Expr} {te : TE} {k k' : Nat} {st a : Int} {p1 p2 p3 pos : Pos} (hs : 1 < st) (he : PE X e te) : PE X (.Subscript e (.Slice (some (.Constant (.int a) k' p2)) none (some (.Constant (.int st) k p1)) p3) pos) (tStepS te) := pe_stepG (vlo := some a) hs he (po_some pe_int) fun _ _ _ h => ⟨a, rfl, h⟩
theorem i_stepS {te : TE} {σ : L2.St} {H : Hp} {Q : VK} (h : te σ H fun x H1 => ∃ l : List Nat, x = .str (S l) ∧ l.length ≤ sizeLine ∧ ∀ w : List Nat, w.Sublist l → Q (.str (S w)) H1) : tStepS te σ H Q := h
/-! lists of truths compared -/
theorem dp_bls {K : PySem.W.Frag} {H : Hp} : ∀ bs : List Bool, DpAll K H (bs.map V.bl) (bs.map PyData.bool)
  | [] => .nil
  | b :: bs => .cons (.bl b) (dp_bls bs)
theorem eqv_bls : ∀ ns ms : List Bool, PyData.eqvAll (ns.map PyData.bool) (ms.map PyData.bool) = decide (ns = ms)
  | [], [] => by simp [PyData.eqvAll]
  | [], _ :: _ => by simp [PyData.eqvAll]
  | _ :: _, [] => by simp [PyData.eqvAll]
  | n :: ns, m :: ms => by
    simp only [List.map_cons, PyData.eqvAll, PyData.eqv, eqv_bls ns ms, List.cons.injEq]
    cases n <;> cases m <;> simp
theorem shaped_bls (bs : List Bool) : SeqAt.shaped (.list (bs.map PyData.bool)) = true := (Shp.lst (n := 0) fun d hd => by
  obtain ⟨b, _, rfl⟩ := List.mem_map.mp hd
  exact ⟨by simp [PyData.canLay0], by simp [PyData.depth]⟩).ok (by decide)
def r2LB (K : PySem.W.Frag) (g : List Bool → List Bool → Bool) : R2 := fun x y H Q => ∃ (p q : Addr) (ns ms : List Bool), x = .ref p ∧ y = .ref q ∧ SqL K H p (ns.map V.bl) ∧ SqL K H q (ms.map V.bl) ∧ Q (.bl (g ns ms)) H
abbrev rEqLB (K : PySem.W.Frag) : R2 := r2LB K fun a b => decide (a = b)
abbrev rNeLB (K : PySem.W.Frag) : R2 := r2LB K fun a b => !decide (a = b)
theorem op_eqLB {X : Cx} (hu : X.A.units + 64 < cLine) : OpR X (compareOp .Eq) (rEqLB X.K) := by
  intro pins s σ H x y v u Q I rx ry h
  obtain ⟨p, q, ns, ms, rfl, rfl, h1, h2, k⟩ := h
  refine op_eqD hu pins s σ H _ _ v u Q I rx ry ⟨_, _, .lst h1 (dp_bls ns), .lst h2 (dp_bls ms), shaped_bls ns, shaped_bls ms, ?_⟩
  rw [PyData.eqv, eqv_bls]
  exact k
theorem op_neLB {X : Cx} (hu : X.A.units + 64 < cLine) : OpR X (compareOp .NotEq) (rNeLB X.K) := by
  intro pins s σ H x y v u Q I rx ry h
  obtain ⟨p, q, ns, ms, rfl, rfl, h1, h2, k⟩ := h
  refine op_neD hu pins s σ H _ _ v u Q I rx ry ⟨_, _, .lst h1 (dp_bls ns), .lst h2 (dp_bls ms), shaped_bls ns, shaped_bls ms, ?_⟩
  rw [PyData.eqv, eqv_bls]
  exact k
theorem i_r2LB {K : PySem.W.Frag} {g : List Bool → List Bool → Bool} {p q : Addr} {ns ms : List Bool} {H : Hp} {Q : VK} (h1 : SqL K H p (ns.map V.bl)) (h2 : SqL K H q (ms.map V.bl)) (k : Q (.bl (g ns ms)) H) : r2LB K g (.ref p) (.ref q) H Q := ⟨p, q, ns, ms, rfl, rfl, h1, h2, k⟩
theorem isIf {tt : TT} {A B : TS} {D : Ends} {σ : L2.St} {H : Hp} (h : tIfS tt A B D σ H) : tIfS tt A B D σ H := h
end Lv

set_option Elab.async false
set_option linter.all false
set_option maxRecDepth 100000
set_option maxHeartbeats 4000000
namespace Lv
open PySem PySem.Spec PyProof.Rows L2 SX
/-! list(a dict), unpacking a list -/
abbrev rListD : List V → Hp → VK → Prop := fun xs H Q => ∃ (a : Addr) (kvs : List (Key × V)), xs = [.ref a] ∧ Rd H a (.dK kvs) ∧ ∀ p, H p = none → Q (.ref p) (upd H p (.lst (kvs.map fun kv => kV kv.1)))
theorem v_listD {a : Addr} {kvs : List (Key × V)} {H : Hp} {Q : VK} (h1 : H a = some (.dK kvs)) (h : ∀ p H2, H p = none → Same H H2 → H2 p = some (.lst (kvs.map fun kv => kV kv.1)) → Q (.ref p) H2) : rListD [.ref a] H Q := ⟨a, kvs, rfl, .inl h1, fun p n => h p _ n (same_new n) upd_same⟩
theorem i_gUnl {K : PySem.W.Frag} {u : TGs} {σ : L2.St} {H : Hp} {R : L2.St → Hp → Prop} {a : Addr} {xs : List V} {n : Nat} (ha : SqL K H a xs) (hn : xs.length = n) (h : u xs σ H R) : gUnl K n u (.ref a) σ H R := ⟨a, xs, rfl, ha, hn, h⟩
/-! a comprehension in a comprehension -/
theorem rel_free {env : Env} : ∀ {names : List (Str × NameKind)} {x : Str}, names.lookup x = some .cell ∨ names.lookup x = some .free →
    (names.map fun (n, k) => if (k == NameKind.free && env.scope.kind == .function && env.kindOf n == some .cell) then (n, NameKind.cell) else (n, k)).lookup x = some .cell ∨
    (names.map fun (n, k) => if (k == NameKind.free && env.scope.kind == .function && env.kindOf n == some .cell) then (n, NameKind.cell) else (n, k)).lookup x = some .free
  | [], _, h => by simp at h
  | (n, k) :: r, x, h => by
    have ih := @rel_free env r x
    rw [List.lookup_cons] at h
    rw [List.map_cons]
    dsimp only
    by_cases z : (k == NameKind.free && env.scope.kind == .function && env.kindOf n == some .cell) = true
    · rw [if_pos z, List.lookup_cons]
      cases e : x == n with
      | true => exact .inl rfl
      | false => rw [e] at h; exact ih h
    · rw [if_neg z, List.lookup_cons]
      cases e : x == n with
      | true => rw [e] at h; exact h
      | false => rw [e] at h; exact ih h
theorem blkOk_in {N : List Str} {sc scope : Scope} {env : Env} {own : List (Str × Nat)} (h : BlkOk N sc scope own) : BlkOk N (relabel sc env) scope own := ⟨h.kind, h.uniq, h.ix, fun y hy e => rel_free (h.free y hy e), h.own⟩
end Lv

set_option Elab.async false
set_option linter.all false
set_option maxRecDepth 100000
set_option maxHeartbeats 4000000
namespace Lv
open PySem PySem.Spec PyProof.Rows L2 SX
/-! min of two pairs (number, text) -/
section
variable {prog : Program} {w : World} {A : Around} {E : Value → Shared → Prop} {s : Shared}
theorem call_min_twoH {a b : Value} {Q : Value → Shared → Prop}
    (h : wpAny (model prog w) A.in1 (pyIter (.ref s.heap.objs.size)) (fun it s₂ => ∃ I fp wr G n P St H bt, it = .ref I ∧ WalksS prog w A.in1 I fp wr G n P St ∧ St 0 s₂ ∧ (∀ b ∈ fp, b < s₂.heap.objs.size) ∧ 0 < n ∧
      (∀ b o, H.get? b = some o → b ∉ wr) ∧ (∀ b o, H.get? b = some o → s₂.heap.get? b = some o) ∧ CmpIn prog w A.in1 .Lt H P bt ∧ ∀ v s', P (argBest bt (n - 1)) v → Moved wr G s₂ s' → Q v s') E
      { s with heap := s.heap.push { cls := .type "tuple", data := .seq #[a, b] } }) :
    wpAny (model prog w) A (call (.builtin "min") [a, b]) Q E s := by
  have hname : (toString "min" ++ toString ".loop" : String) = "min.loop" := by decide
  refine call_function_tree F.kind_min F.plain_min F.entry_min (F.args_min2 _ _) ?_
  show wpAny _ A.in1 (Builtin.Builtins.bindParams "min" ["key", "default"] 0 ⟨[], []⟩ >>= _) _ _ s
  refine wpAny_bind (wpAny_of_eq (show Builtin.Builtins.bindParams "min" ["key", "default"] 0 ⟨[], []⟩ = pure [none, none] from rfl) ?_)
  show wpAny _ A.in1 (newTuple [a, b] >>= _) _ _ s
  refine wpAny_bind (wpAny_newObj_type ?_)
  refine wpAny_bind (wpAny_mono h (fun it s₂ h₂ => ?_) fun _ _ e => e)
  obtain ⟨I, fp, wr, G, n, P, St, H, bt, rfl, W, hst, hfp, hn, hw, hkeep, hcmp, hQ⟩ := h₂
  refine wpAny_bind (wpAny_newObj_type ?_)
  have hSf : s₂.heap.objs.size ∉ fp := fun hm => Nat.lt_irrefl _ (hfp _ hm)
  rw [hname]
  refine wpAny_pure ⟨plainId_quiet F.plain_min_loop _, codeAny_min_loop_firstH W H hw bt hcmp s₂.heap.objs.size hSf (fresh_in hkeep) _ hn (fun b o e => Heap.get?_push_of_some _ (hkeep b o e)) (W.frame 0 s₂ _ s₂.toks hst (Nat.le_refl _) fun b _ o e => Heap.get?_push_of_some _ e) (Heap.get?_push_size _ rfl) fun v s' hP hm => ?_⟩
  exact hQ v s' hP (Moved.drop_new (tk := s₂.toks) hm (Nat.le_refl _))
theorem min_two_raw {a b : Value} {lt : Nat → Nat → Bool} {Q : Value → Shared → Prop} (hh : A.handled = none) (cmp : CmpIn prog w A.in1 .Lt s.heap (fun i v => (#[a, b] : Array Value)[i]? = some v) lt)
    (hQ : ∀ v h' tk, (#[a, b] : Array Value)[argBest lt 1]? = some v → (∀ b o, s.heap.get? b = some o → h'.get? b = some o) → Q v { s with heap := h', toks := tk }) : wpAny (model prog w) A (call (.builtin "min") [a, b]) Q E s := by
  have hT : (s.heap.push { cls := .type "tuple", data := .seq #[a, b] }).IsTuple s.heap.objs.size #[a, b] := ⟨_, Heap.get?_push_size _ rfl, rfl, 0, rfl⟩
  have hsz : (s.heap.push { cls := .type "tuple", data := .seq #[a, b] }).objs.size = s.heap.objs.size + 1 := Heap.size_push ..
  refine call_min_twoH (wpAny_pyIter_tuple hT ?_)
  refine ⟨_, [_, s.heap.objs.size], [_], _, _, _, _, s.heap, lt, rfl, (Walks.tuple (A := A.in1) hh _ s.heap.objs.size (by rw [hsz]; exact Nat.ne_of_lt (Nat.lt_succ_self _)) #[a, b]).toS, ⟨⟨_, Heap.get?_push_size _ rfl, rfl, rfl⟩, hT.push _⟩, fun c hcm => ?_, by simp, fun c o e z => ?_, fun c o e => Heap.get?_push_of_some _ (Heap.get?_push_of_some _ e), cmp, fun v s' hv hm => ?_⟩
  · show c < ((s.heap.push _).push _).objs.size
    rw [Heap.size_push, hsz]
    rcases List.mem_cons.mp hcm with rfl | hcm
    · rw [hsz]; exact Nat.lt_succ_self _
    · rw [List.mem_singleton.mp hcm]; exact Nat.lt_succ_of_lt (Nat.lt_succ_self _)
  · have := Heap.lt_size e
    rw [List.mem_singleton.mp z, hsz] at this
    exact Nat.lt_irrefl _ (Nat.lt_of_succ_lt this)
  · rw [Moved.eq_with hm]
    refine hQ v s'.heap s'.toks hv fun c o e => hm.heap c o (fun z => ?_) (Heap.get?_push_of_some _ (Heap.get?_push_of_some _ e))
    have := Heap.lt_size e
    rw [List.mem_singleton.mp z, hsz] at this
    exact Nat.lt_irrefl _ (Nat.lt_of_succ_lt this)
end
def rMin2IS (K : PySem.W.Frag) : List V → Hp → VK → Prop := fun xs H Q => ∃ (a b : Addr) (i j : Int) (l m : List Nat), xs = [.ref a, .ref b] ∧ SqT K H a [.int i, .str (S l)] ∧ SqT K H b [.int j, .str (S m)] ∧ Q (.ref (if j < i ∨ (j = i ∧ m < l) then b else a)) H
theorem call_min2IS {X : Cx} (hu : X.A.units + 64 < cLine) (hc : X.calm = true) : CallR X (.builtin "min") (rMin2IS X.K) := by
  intro pins s σ H xs us Q I r h
  obtain ⟨a, b, i, j, l, m, rfl, ha, hb, q⟩ := h
  have pr : Paired (fun t (y : Int × List Nat) => SqT X.K H t [.int y.1, .str (S y.2)]) [a, b] [(i, l), (j, m)] := .cons ha (.cons hb .nil)
  obtain ⟨as, ra⟩ := Dp.readsAll I _ _ _ (dp_iss pr) r
  obtain ⟨u, w', rfl, rfl, rfl⟩ := vals2 r
  have cmp := PySem.W.cmpIn_lt (prog := X.prog) (w := X.w) (A := X.A.in1) (s := s) (vs := #[.ref a, .ref b]) (xs := [(i, l), (j, m)].map fun y => isD y.1 y.2) (as := as) (by simpa using ra)
    ⟨fun x hx y hy => by
      obtain ⟨x', _, rfl⟩ := List.mem_map.mp hx
      obtain ⟨y', _, rfl⟩ := List.mem_map.mp hy
      exact alike_isD _ _ _ _, fun x hx z => by
      obtain ⟨x', _, rfl⟩ := List.mem_map.mp hx
      cases z⟩ (by
      have : PyData.depthAll ([(i, l), (j, m)].map fun y => isD y.1 y.2) ≤ 1 := depth_of _ fun d hd => by
        obtain ⟨x', _, rfl⟩ := List.mem_map.mp hd
        simp [PyData.depth, PyData.depthAll]
      have e : X.A.in1.units = X.A.units + 1 := rfl
      omega)
  refine min_two_raw (I.ok.hd hc) cmp fun v h' tk hv hk => ?_
  refine ⟨.ref (if j < i ∨ (j = i ∧ m < l) then b else a), H, I.kept hk, ?_, q⟩
  have e1 : PySem.W.dataLt (isD j m) (isD i l) = decide (j < i ∨ (j = i ∧ m < l)) := lt_isD _ _ _ _
  by_cases z : j < i ∨ (j = i ∧ m < l)
  · have e2 : argBest (fun i_1 j_1 => PySem.W.dataLt (([(i, l), (j, m)].map fun y => isD y.1 y.2).getD i_1 .none) (([(i, l), (j, m)].map fun y => isD y.1 y.2).getD j_1 .none)) 1 = 1 := by
      show (if PySem.W.dataLt (isD j m) (isD i l) = true then 1 else 0) = 1
      rw [e1, decide_eq_true z]; rfl
    rw [e2] at hv
    cases hv
    rw [if_pos z]
    rfl
  · have e2 : argBest (fun i_1 j_1 => PySem.W.dataLt (([(i, l), (j, m)].map fun y => isD y.1 y.2).getD i_1 .none) (([(i, l), (j, m)].map fun y => isD y.1 y.2).getD j_1 .none)) 1 = 0 := by
      show (if PySem.W.dataLt (isD j m) (isD i l) = true then 1 else 0) = 0
      rw [e1, decide_eq_false z]; rfl
    rw [e2] at hv
    cases hv
    rw [if_neg z]
    rfl
theorem i_min2IS {K : PySem.W.Frag} {a b : Addr} {i j : Int} {l m : List Nat} {H : Hp} {Q : VK} (ha : SqT K H a [.int i, .str (S l)]) (hb : SqT K H b [.int j, .str (S m)]) (q : Q (.ref (if j < i ∨ (j = i ∧ m < l) then b else a)) H) : rMin2IS K [.ref a, .ref b] H Q := ⟨a, b, i, j, l, m, rfl, ha, hb, q⟩
end Lv

set_option Elab.async false
set_option linter.all false
set_option maxRecDepth 100000
set_option maxHeartbeats 2000000
/-! errors: caught, kept behind the suite, asked -/
namespace Lv
open PySem PySem.Spec PyProof.Rows L2 SX
section
variable {X : Cx} {pins : List (Addr × Obj)} {σ : L2.St} {H : Hp} {sI s' : Shared} {B : Heap}
/-- an error that landed is tracked from now on -/
theorem inv_cg {a : Addr} {oe : Obj} {vs : Array Value} {cls : Value} (I : Inv X pins σ H sI) (nb : ∀ b o, sI.heap.get? b = some o → b ∉ frs X.stack → B.get? b = some o) (st : B.StaysIn s'.heap) (up : sI.heap.UpToSlots s'.heap)
    (os : s'.os = sI.os) (ag : AllBare s'.gens) (hB : B.get? a = none) (nfr : a ∉ frs X.stack) (he : s'.heap.get? a = some oe) (hz : Zc cls none oe) (hd : oe.data = .fields vs) (na : H a = none) : Inv X pins σ (upd H a (CgO cls a)) s' := by
  have aI : sI.heap.get? a = none := by
    cases e : sI.heap.get? a with
    | none => rfl
    | some o => rw [nb a o e nfr] at hB; cases hB
  have slot : ∀ b ∈ frs X.stack, ∀ o, sI.heap.get? b = some o → ∃ sl, s'.heap.get? b = some { o with slots := sl } := fun b hb o e => by
    obtain ⟨_, o2, e2, nf⟩ := I.stack.mem hb
    rw [e] at e2
    cases e2
    exact up b o e nf
  have nea : ∀ b o, sI.heap.get? b = some o → b ≠ a := fun b o e z => by rw [z, aI] at e; cases e
  have U : Un (frs X.stack) [] H (upd H a (CgO cls a)) sI.heap s'.heap := {
    keep := fun b o e _ hb _ => st b o (nb b o e hb)
    slot := fun b o e _ hb _ => slot b hb o e
    free := fun b o e n _ => by rw [upd_ne (nea b o e)]; exact n
    there := fun b o e _ => by
      by_cases hb : b ∈ frs X.stack
      · exact (slot b hb o e).elim fun sl q => ⟨_, q⟩
      · exact ⟨o, st b o (nb b o e hb)⟩
    tups := fun b xs q => by rw [upd_ne (ne_of_none q na)]; exact q
    frzs := fun b o xs q => by rw [upd_ne (ne_of_none q na)]; exact q
    tbls := fun b ps q => ⟨#[], by rw [upd_ne (ne_of_none q na), q]; simp⟩ }
  exact I.call' os U (((I.inGround nb).kept st).laidN (fun _ _ q => q) na (cgO_ok he hz hd)) ag fun _ z => nomatch z
theorem inv_suite {s : Shared} (I : Inv X pins σ H s) (a : Addr) : Inv (X.suite a (X.pn ++ pins)) [] σ H s :=
  ⟨I.ok.suite _ _, I.os, I.bare, I.base, I.loc, I.cell, I.free, I.freeC, fun p hp => I.pin p (by rw [List.append_nil] at hp; exact hp), I.hok, I.len⟩
theorem inv_unsuite {s : Shared} {a : Addr} {pn : List (Addr × Obj)} (I : Inv (X.suite a (X.pn ++ pins)) pn σ H s) (ok : X.Ok) : Inv X pins σ H s :=
  ⟨ok, I.os, I.bare, I.base, I.loc, I.cell, I.free, I.freeC, fun p hp => I.pin p (List.mem_append_left _ hp), I.hok, I.len⟩
end
/-- what 'except x as n' wishes: the error is caught, its object is tracked -/
def wAx (K : PySem.W.Frag) (c : Value) (i : Nat) (ts : TS) (D : Ends) : WX := fun cls d σ H => PySem.W.exmOne K cls c = some true ∧ d = none ∧ ∀ a, H a = none →
  ts { nx := fun σ' H' => D.nx (σ'.set i none) H', rt := D.rt, bk := fun σ' H' => D.bk (σ'.set i none) H', ct := fun σ' H' => D.ct (σ'.set i none) H' } (σ.set i (some (.ref a))) (upd H a (CgO cls a))
def tTryAx (K : PySem.W.Frag) (c : Value) (i : Nat) (tb : WX → TS) (ts : TS) : TS := fun D σ H => tb (wAx K c i ts D) D σ H
section
variable {X : Cx} {x n : Str} {c : Value} {i : Nat} {body suite : List Stmt} {b₀ : Stmt} {np pos pos' : Pos} {tb : WX → TS} {ts : TS}
theorem ps_tryAx (hs : X.stack = X.env :: X.outer) (hf : X.env.frame = some X.env.locals) (hN : X.N.Nodup) (hi : X.N[i]? = some n) (hln : X.env.kindOf n = some .local) (hc : Names X x c)
    (hb : ∀ (W : WX) (pn : List (Addr × Obj)) (xe : Value → Shared → Prop), Takes (X.tr pn xe) W → PassesOwn (model X.prog X.w) X.A X.env xe → PSs (X.tr pn xe) body (tb W))
    (hsu : ∀ (a : Addr) (pn : List (Addr × Obj)), PSs (X.suite a pn) (b₀ :: suite) ts) :
    PS X (.Try body [.ExceptHandler (some (.Name x np)) (some n) (b₀ :: suite) pos'] [] [] pos) (tTryAx X.K c i tb ts) := by
  constructor
  intro pins s σ H D I h
  have ok := I.ok
  have hfr : X.A.frames = some (X.env :: X.outer) := hs ▸ ok.frames
  have hn2 : Loc X.env.scope n := .inl hln
  let after : Value → Shared → Prop := fun e s1 => wpAny (model X.prog X.w) X.A (noteFrame e X.env) (fun _ s2 => wpAny (model X.prog X.w) X.A (setFlight e none) (fun _ s3 => wpAny (model X.prog X.w) X.A (handleBy e X.env [.ExceptHandler (some (.Name x np)) (some n) (b₀ :: suite) pos']) (SP X pins D) X.xe s3) X.xe s2) X.xe s1
  have caught : Takes (X.tr (X.pn ++ pins) after) (wAx X.K c i ts D) := by
    rintro u s1 ⟨a, B, sI, pn1, σ1, H1, cls, d, rfl, J1, nb, up, sky, na, os, ag, ex, rfl, go⟩
    have J : Inv X pins σ1 H1 sI := J1.ofTry ok
    have fl0 : Sky B (X.env :: X.outer) a (Zc cls none) X.env.locals s1.heap := hs ▸ sky
    refine Sky.land Zc.steady hfr hf fl0 fun h2 fl2 up2 => ?_
    have J2 : Inv X pins σ1 H1 { s1 with heap := h2 } := J.landed nb fl2.1 (up.trans up2) os ag
    obtain ⟨o2, v2, ho2, hz2, hd2⟩ := fl2.there
    have nfr : a ∉ frs X.stack := fun hm => by
      rw [hs] at hm
      obtain ⟨_, o3, e3, nf⟩ := fl2.2.2.1.mem hm
      rw [ho2] at e3
      cases e3
      exact nf _ hd2
    have lk : PySem.W.Looks (model X.prog X.w) h2 (typeOf (.ref a)) cls := fun A Q E s k q => wpAny_typeOf_ref (k _ _ ho2) (by rw [hz2.1]; exact q)
    have lm := PySem.W.exm_one (M := model X.prog X.w) J2.kIn lk ex
    have name : ∀ {Q : Value → Shared → Prop} {E : Value → Shared → Prop}, Q c { s1 with heap := h2 } → wpAny (model X.prog X.w) (X.A.mark (some (.ref a))) (eval (.Name x np) X.env) Q E { s1 with heap := h2 } := fun {Q E} q => by
      rcases hc with ⟨g1, g2, g3 | ⟨g3, g4, g5⟩⟩
      · exact ld_glob (X := X.suite a (X.pn ++ pins)) (inv_suite J2 a) g1 g3 q g2
      · exact ld_blt (X := X.suite a (X.pn ++ pins)) (inv_suite J2 a) g1 g3 g4 q g5 g2
    refine wpAny_handleBy_cons (codeAny_handlers_test (name (lm.here (codeAny_handlers_suite_as ?_)))) (fun q => by cases q)
    refine HandSPX.lands_againZ fl2 fun h4 fl4 up4 => ?_
    obtain ⟨o4, v4, ho4, hz4, hd4⟩ := fl4.there
    have J4 : Inv X pins σ1 (upd H1 a (CgO cls a)) { s1 with heap := h4 } := inv_cg J nb fl4.1 ((up.trans up2).trans up4) os ag fl4.2.1 nfr ho4 hz4 hd4 na
    refine store_ok (X := X.suite a (X.pn ++ pins)) (v := .ref a) (inv_suite J4 a) hN hi hn2 rfl (fun s5 S5 => ?_) (.inr hln)
    refine wpAny_mono ((hsu a (X.pn ++ pins)).run [] s5 _ _ _ S5 (go a na)) (fun f s6 hsp => ?_) fun _ _ z => z.elim
    have fin : ∀ {σ6 : L2.St} {H6 : Hp} {Q : Shared → Prop}, Inv (X.suite a (X.pn ++ pins)) [] σ6 H6 s6 → (∀ s7, Inv X pins (σ6.set i none) H6 s7 → Q s7) →
        wpAny (model X.prog X.w) X.A (do bindName X.env n .none; unbindBehindTheSuite X.env n pos') (fun _ s7 => Q s7) X.xe s6 := fun {σ6 H6 Q} S6 hq => gone_ok (inv_unsuite S6 ok) hN hi hln hq
    cases f with
    | ret u => exact hsp.elim fun v ⟨σ6, H6, S6, r6, q6⟩ => fin S6 fun s7 J7 => ⟨v, _, H6, J7, r6, q6⟩
    | next => exact hsp.elim fun σ6 ⟨H6, S6, q6⟩ => fin S6 fun s7 J7 => ⟨_, H6, J7, q6⟩
    | brk => exact hsp.elim fun σ6 ⟨H6, S6, q6⟩ => fin S6 fun s7 J7 => ⟨_, H6, J7, q6⟩
    | cont => exact hsp.elim fun σ6 ⟨H6, S6, q6⟩ => fin S6 fun s7 J7 => ⟨_, H6, J7, q6⟩
  refine wpAny_Try_except (wpAny_mono ((hb _ (X.pn ++ pins) after caught PassesOwn.looking).run [] s σ H D (I.toTry _) h) (fun f s1 hsp => ?_) fun e s1 he => he)
  cases f with
  | ret u => exact hsp.elim fun v ⟨σ', H', J', r, q⟩ => ⟨v, σ', H', J'.ofTry ok, r, q⟩
  | next => exact hsp.elim fun σ' ⟨H', J', q⟩ => wpAny_execs_nil ⟨σ', H', J'.ofTry ok, q⟩
  | brk => exact hsp.elim fun σ' ⟨H', J', q⟩ => ⟨σ', H', J'.ofTry ok, q⟩
  | cont => exact hsp.elim fun σ' ⟨H', J', q⟩ => ⟨σ', H', J'.ofTry ok, q⟩
end

/-! raise, calls that may raise -/
def tRaise (E : XK) (C : Addr) : TS := fun _ _ H => E (.ref C) none H
theorem i_raise {E : XK} {C : Addr} {D : Ends} {σ : L2.St} {H : Hp} (h : E (.ref C) none H) : tRaise E C D σ H := h
theorem i_callS {sp : Sp} {W : WX} {t : TA} {σ : L2.St} {H : Hp} {Q : VK} (h : t σ H fun vs H1 => sp vs H1 Q (WE W σ)) : tCallS sp (WE W) t σ H Q := h
theorem pass1 {X : Cx} : Passes (L2.CX X.prog X.w) X E0 := fun _ _ _ _ _ _ _ ⟨_, _, _, _, _, _, _, _, _, _, _, _, z⟩ => z.elim
theorem passE {X : Cx} {E : XK} (tk : Takes X (fun cls d _ H => E cls d H)) : Passes (L2.CX X.prog X.w) X E := passes_call tk fun _ _ _ _ h => h
/-- o.m(e, ..) within a try -/
def tMethT (C : Addr) (m : Str) (sp : Sp) (W : WX) (ta : TE) (t : TA) : TE := fun σ H Q => ta σ H fun x H1 => ∃ a dx fs, x = .ref a ∧ H1 a = some (.ins C dx fs) ∧ fs.lookup m = none ∧ t σ H1 fun vs H2 => sp (x :: vs) H2 Q (WE W σ)
theorem pe_methT {X : Cx} {W : WX} {k : Nat} {f C : Addr} {fd : FuncData} {ps : List Str} {sp : Sp} {m : Str} {pos apos : Pos} {e o : Expr} {es : List Expr} {ta : TE} {t : TA} {pl : Sem Bool} (he : PE X o ta) (c : Cls X.K C) (hm : Meth X.K C m f)
    (F : FnOk X.prog X.w X.K X.mg X.base (L2.CX X.prog X.w) k f fd ps sp) (hr : Room k X.A) (hb : Binds X.K fd ps []) (tk : Takes X W) (ha : PA X (e :: es) t)
    (hst : starEach (e :: es) X.env = (false, eval e X.env) :: starEach es X.env := by rfl) (hpl : (backTo pos (starEach es X.env)).any (·.1) = false := by rfl)
    (ht : eval (.Call (.Attribute o m apos) (e :: es) [] pos) X.env = (do
      let v ← eval o X.env
      standAt apos.atName
      let (g, h) ← holding [v] (getMethod v m pl)
      callWith pos g h (backTo pos (starEach (e :: es) X.env)) (backToKw pos (keywordEach [] X.env))) := by rfl) :
    PE X (.Call (.Attribute o m apos) (e :: es) [] pos) (tMethT C m sp W ta t) := by
  constructor
  intro pins s σ H Q I h
  refine PySem.W.methodCall_KW (pl := pl) (thn (he.run pins s σ H _ I h) fun u s1 z => ?_) ht
  obtain ⟨x, H1, I1, rx, a, dx, fs, rfl, ea, l, q⟩ := z
  cases (show u = Value.ref a from rx)
  refine getmeth_ok I1 ea c hm l (PySem.W.callWith_K (first := [.ref a]) (h₀ := X.base) I.ok.mod.kin hm.kp (thn (ha.run pos pins s1 σ H1 _ I1 q) fun us s2 z2 => ?_) hst hpl)
  obtain ⟨vs, H2, I2, r, q2⟩ := z2
  exact ⟨I2.kIn, run_fnS (us := .ref a :: us) (vs := .ref a :: vs) F hr hb (passAt tk σ) I2 (.cons rfl r) q2⟩
/-- ValueError('..') as a thing -/
def tVE : TE := fun _ H Q => ∀ a, H a = none → Q (.ref a) (upd H a (CgO (.type "ValueError") a))
theorem pe_ve {X : Cx} {x m : Str} {j : Nat} {p p2 pos : Pos} (hg : Gl X x) (hm : X.mg x = none) (hv : bootBuiltins x = some (.type "ValueError")) (hn : x ≠ "__name__" := by decide) (hdb : (x == ("__debug__" : Str)) = false := by decide) :
    PE X (.Call (.Name x p) [.Constant (.str m) j p2] [] pos) tVE := by
  constructor
  intro pins s σ H Q I h
  refine wpAny_mono (pmk_exbS exb_ValueError hg hm hv hn hdb pins s σ H (fun cls d H' => cls = .type "ValueError" ∧ d = none ∧ H' = H) I ⟨rfl, rfl, rfl⟩) (fun u s' z => ?_) fun _ _ z => z
  obtain ⟨a, oe, vs, sI, H', cls, d, rfl, J, k, hne, ha, hz, hd, h1, na, os, ag, r, rfl, rfl, rfl⟩ := z
  exact ⟨.ref a, upd H' a (CgO (.type "ValueError") a), J.call' (ch := []) os (Un.laidN k hne na) (J.hok.laidN k na (cgO_ok ha hz hd)) ag (fun _ z => nomatch z), rfl, h a na⟩
theorem v_ve {σ : L2.St} {H : Hp} {Q : VK} (h : ∀ a H', H a = none → Same H H' → H' a = some (CgO (.type "ValueError") a) → Q (.ref a) H') : tVE σ H Q := fun a na => h a _ na (same_new na) upd_same
/-! the kinds of things -/
/-- isinstance(x, U) tells b -/
def Kd (K : PySem.W.Frag) (H : Hp) (x : V) (U : String) (b : Bool) : Prop := ∃ t, Ty2 K H x t ∧ PySem.W.kitOne K t (.type U) = some b
theorem i_kd {K : PySem.W.Frag} {H : Hp} {x : V} {U : String} {b : Bool} {Q : VK} (h : Kd K H x U b) (q : Q (.bl b) H) : rIs1 K [x, .ty U] H Q := h.elim fun t z => ⟨x, _, t, _, b, rfl, .ty U, z.1, z.2, q⟩
theorem Kd.same {K : PySem.W.Frag} {H H' : Hp} {x : V} {U : String} {b : Bool} (h : Kd K H x U b) (s : Same H H') : Kd K H' x U b := by
  obtain ⟨t, ty, e⟩ := h
  refine ⟨t, ?_, e⟩
  cases ty with
  | exc q c => exact .exc (s _ _ q) c
  | of q =>
    refine .of ?_
    cases q with
    | base z =>
      refine .base ?_
      cases z with
      | non => exact .non
      | bl z => exact .bl z
      | int z => exact .int z
      | str z => exact .str z
      | flt z => exact .flt z
      | lst z => exact .lst (s _ _ z)
      | frz z => exact .frz (s _ _ z)
      | tup z => exact .tup (s _ _ z)
      | dK z => exact .dK (s _ _ z)
      | dT z => exact .dT (s _ _ z)
      | ins z a1 a2 a3 a4 a5 => exact .ins (s _ _ z) a1 a2 a3 a4 a5
    | byt z => exact .byt z
    | set z => exact .set (s _ _ z)
    | kList z c => exact .kList z c
    | kTuple z c => exact .kTuple z c
    | kDict z c => exact .kDict z c
    | fTuple z => exact .fTuple (s _ _ z)
    | fDict z => exact .fDict (s _ _ z)
theorem kd_of {K : PySem.W.Frag} {H : Hp} {x : V} {T U : String} {b : Bool} (t : TyOf K H x (.type T)) (h : kitB T U = some b) : Kd K H x U b := ⟨_, .of (.base t), kit_ty h⟩
theorem kd_ve {K : PySem.W.Frag} {H : Hp} {a : Addr} {U : String} {b : Bool} (e : H a = some (CgO (.type "ValueError") a)) (h : kitB "ValueError" U = some b) : Kd K H (.ref a) U b := ⟨_, .exc e .ve, kit_ty h⟩
/-! the program's errors: er 0 LeaveError, 1 NoCommand, 2 NoLetter, 3 NoLetters, 4 NoPlace, 5 NoRow, 6 NoText -/
structure ErrC (K : PySem.W.Frag) (er : Nat → Addr) (i : Nat) : Prop where
  xC : PySem.W.excIn K (er i) [.type "ValueError", .type "Exception", .type "BaseException", .type "object"] "ValueError.__new__" = true
  kC : PySem.W.keepIn K (.ref (er i)) = true
  bC : PySem.W.subIn K (.ref (er i)) (.type "BaseException") = some true
  tC : PySem.W.typeIn K (.ref (er i)) = some (.type "type")
  cC : ExcC K (er i)
  eC : PySem.W.exmOne K (.ref (er i)) (.ref (er 0)) = some true
  vC : PySem.W.kitOne K (.ref (er i)) (.type "ValueError") = some true
  kk : ∀ j, 1 ≤ j → j ≤ 6 → PySem.W.kitOne K (.ref (er i)) (.ref (er j)) = some (decide (i = j))
section
variable {K : PySem.W.Frag}
theorem kit_own {C D : Addr} {b : Bool} (h1 : PySem.W.isClsIn K D = true) (h2 : PySem.W.typeIn K (.ref D) = some (.type "type")) (h3 : PySem.W.subIn K (.ref C) (.ref D) = some b) (h4 : PySem.W.subIn K (.ref C) (.ref C) = some true) : PySem.W.kitOne K (.ref C) (.ref D) = some b := by
  unfold PySem.W.kitOne
  by_cases z : (Value.ref C == Value.ref D) = true
  · rw [if_pos z]
    cases Value.ref.inj (beq_iff_eq.mp z)
    rw [h3] at h4
    exact h4.symm
  · rw [if_neg z]
    show (if ((PySem.W.clsIn K D).isSome && PySem.W.typeIn K (.ref D) == some (.type "type")) = true then _ else _) = _
    rw [if_pos (by rw [show (PySem.W.clsIn K D).isSome = true from h1, h2] <;> rfl)]
    exact h3
theorem kk_of {er : Nat → Addr} {i : Nat} (h1 : PySem.W.kitOne K (.ref (er i)) (.ref (er 1)) = some (decide (i = 1))) (h2 : PySem.W.kitOne K (.ref (er i)) (.ref (er 2)) = some (decide (i = 2))) (h3 : PySem.W.kitOne K (.ref (er i)) (.ref (er 3)) = some (decide (i = 3)))
    (h4 : PySem.W.kitOne K (.ref (er i)) (.ref (er 4)) = some (decide (i = 4))) (h5 : PySem.W.kitOne K (.ref (er i)) (.ref (er 5)) = some (decide (i = 5))) (h6 : PySem.W.kitOne K (.ref (er i)) (.ref (er 6)) = some (decide (i = 6))) : ∀ j, 1 ≤ j → j ≤ 6 → PySem.W.kitOne K (.ref (er i)) (.ref (er j)) = some (decide (i = j))
  | 1, _, _ => h1 | 2, _, _ => h2 | 3, _, _ => h3 | 4, _, _ => h4 | 5, _, _ => h5 | 6, _, _ => h6
  | 0, z, _ => absurd z (by omega)
  | n + 7, _, z => absurd z (by omega)
theorem kit_vE {C : Addr} (h : PySem.W.subIn K (.ref C) (.type "ValueError") = some true) : PySem.W.kitOne K (.ref C) (.type "ValueError") = some true := by
  unfold PySem.W.kitOne
  rw [if_neg (show ¬ (Value.ref C == Value.type "ValueError") = true by intro z; cases beq_iff_eq.mp z)]
  have e : PySem.W.kitMeta "ValueError" = true := by decide +kernel
  unfold PySem.W.kitCls
  simp only [e, if_true]
  exact h
end
section
variable {K : PySem.W.Frag} {er : Nat → Addr} {i : Nat} {a : Addr} {H : Hp} {Q : VK}
theorem i_er {j : Nat} (Z : ErrC K er i) (e : H a = some (CgO (.ref (er i)) a)) (h1 : 1 ≤ j) (h2 : j ≤ 6) (q : Q (.bl (decide (i = j))) H) : rIs1 K [.ref a, .ref (er j)] H Q := ⟨_, _, _, _, _, rfl, .own _, .exc e (.own Z.cC), Z.kk j h1 h2, q⟩
theorem i_erV (Z : ErrC K er i) (e : H a = some (CgO (.ref (er i)) a)) (q : Q (.bl true) H) : rIs1 K [.ref a, .ty "ValueError"] H Q := ⟨_, _, _, _, _, rfl, .ty _, .exc e (.own Z.cC), Z.vC, q⟩
theorem kitAny_er (Z : ErrC K er i) : ∀ js : List Nat, (∀ j ∈ js, 1 ≤ j ∧ j ≤ 6) → PySem.W.kitAny K (.ref (er i)) (js.map fun j => .ref (er j)) = some (js.contains i)
  | [], _ => rfl
  | j :: js, h => by
    refine kitAny_cons (Z.kk j (h j List.mem_cons_self).1 (h j List.mem_cons_self).2) (fun z => ?_) fun z => ?_
    · rw [kitAny_er Z js fun j hj => h j (List.mem_cons_of_mem _ hj), List.contains_cons, beq_eq_false_iff_ne.mpr (of_decide_eq_false z), Bool.false_or]
    · rw [List.contains_cons, beq_iff_eq.mpr (of_decide_eq_true z), Bool.true_or]
theorem paired_er : ∀ js : List Nat, Paired ClsV (js.map fun j => V.ref (er j)) (js.map fun j => Value.ref (er j))
  | [] => .nil
  | j :: js => .cons (.own _) (paired_er js)
theorem i_erT {tp : Addr} (js : List Nat) (Z : ErrC K er i) (e : H a = some (CgO (.ref (er i)) a)) (ht : H tp = some (.tup (js.map fun j => V.ref (er j)))) (hj : ∀ j ∈ js, 1 ≤ j ∧ j ≤ 6) (q : Q (.bl (js.contains i)) H) : rIsT K [.ref a, .ref tp] H Q :=
  ⟨_, _, _, _, _, _, rfl, ht, paired_er js, .exc e (.own Z.cC), kitAny_er Z js hj, q⟩
theorem i_tryAx {c : Value} {n : Nat} {tb : WX → TS} {ts : TS} {D : Ends} {σ : L2.St} (h : tb (wAx K c n ts D) D σ H) : tTryAx K c n tb ts D σ H := h
theorem wAx_er {n : Nat} {ts : TS} {D : Ends} {σ : L2.St} (Z : ErrC K er i) (h : ∀ a H', H a = none → Same H H' → H' a = some (CgO (.ref (er i)) a) →
    ts { nx := fun σ' H' => D.nx (σ'.set n none) H', rt := D.rt, bk := fun σ' H' => D.bk (σ'.set n none) H', ct := fun σ' H' => D.ct (σ'.set n none) H' } (σ.set n (some (.ref a))) H') : wAx K (.ref (er 0)) n ts D (.ref (er i)) none σ H :=
  ⟨Z.eC, rfl, fun a na => h a _ na (same_new na) upd_same⟩
end
end Lv

set_option Elab.async false
set_option linter.all false
set_option maxRecDepth 100000
set_option maxHeartbeats 2000000
/-! things that are no place, no row -/
namespace Lv
open PySem PySem.Spec PyProof.Rows L2 SX
/-- what is no whole number below n -/
def BadPl (K : PySem.W.Frag) (H : Hp) (n : Nat) (x : V) : Prop := (∃ i : Int, x = .int i ∧ ¬ (0 ≤ i ∧ i < n)) ∨ (∃ b, x = .bl b) ∨ Kd K H x "int" false
theorem BadPl.same {K : PySem.W.Frag} {H H' : Hp} {n : Nat} {x : V} (h : BadPl K H n x) (s : Same H H') : BadPl K H' n x := h.imp id (·.imp id (·.same s))
/-- isinstance(x, int), isinstance(x, bool), as a whole: not both right -/
theorem BadPl.kd {K : PySem.W.Frag} {H : Hp} {n : Nat} {x : V} (h : BadPl K H n x) : (Kd K H x "int" false) ∨ (Kd K H x "int" true ∧ Kd K H x "bool" true) ∨ (∃ i : Int, x = .int i ∧ ¬ (0 ≤ i ∧ i < n)) := by
  rcases h with h | ⟨b, rfl⟩ | h
  · exact .inr (.inr h)
  · exact .inr (.inl ⟨kd_of (.bl b) (by decide +kernel), kd_of (.bl b) (by decide +kernel)⟩)
  · exact .inl h
section
variable {K : PySem.W.Frag} {H : Hp} {n : Nat}
theorem bad_int {i : Int} (h : ¬ (0 ≤ i ∧ i < n)) : BadPl K H n (.int i) := .inl ⟨i, rfl, h⟩
theorem bad_bl {b : Bool} : BadPl K H n (.bl b) := .inr (.inl ⟨b, rfl⟩)
theorem bad_non : BadPl K H n .non := .inr (.inr (kd_of .non (by decide +kernel)))
theorem bad_str {x : Str} : BadPl K H n (.str x) := .inr (.inr (kd_of (.str x) (by decide +kernel)))
theorem bad_lst {a : Addr} {xs : List V} (h : H a = some (.lst xs)) : BadPl K H n (.ref a) := .inr (.inr (kd_of (.lst h) (by decide +kernel)))
theorem bad_tup {a : Addr} {xs : List V} (h : H a = some (.tup xs)) : BadPl K H n (.ref a) := .inr (.inr (kd_of (.tup h) (by decide +kernel)))
theorem bad_dK {a : Addr} {kvs : List (Key × V)} (h : H a = some (.dK kvs)) : BadPl K H n (.ref a) := .inr (.inr (kd_of (.dK h) (by decide +kernel)))
theorem bad_ve {a : Addr} (h : H a = some (CgO (.type "ValueError") a)) : BadPl K H n (.ref a) := .inr (.inr (kd_ve h (by decide +kernel)))
end
/-! plain data told twice -/
theorem sqT_same {K : PySem.W.Frag} {H H' : Hp} {a : Addr} {xs : List V} (s : Same H H') (h : SqT K H a xs) : SqT K H' a xs := by
  rcases h with (h | ⟨o, h⟩) | h
  · exact .inl (.inl (s _ _ h))
  · exact .inl (.inr ⟨o, s _ _ h⟩)
  · exact .inr h
mutual
theorem Dp.same {K : PySem.W.Frag} {H H' : Hp} (s : Same H H') : ∀ {x : V} {d : PyData}, Dp K H x d → Dp K H' x d
  | _, _, .non => .non
  | _, _, .bl b => .bl b
  | _, _, .int i => .int i
  | _, _, .str x => .str x
  | _, _, .lst h a => .lst (s.seq h) (DpAll.same s a)
  | _, _, .tup h a => .tup (sqT_same s h) (DpAll.same s a)
theorem DpAll.same {K : PySem.W.Frag} {H H' : Hp} (s : Same H H') : ∀ {xs : List V} {ds : List PyData}, DpAll K H xs ds → DpAll K H' xs ds
  | _, _, .nil => .nil
  | _, _, .cons a b => .cons (Dp.same s a) (DpAll.same s b)
end
theorem i_neSame {n : Nat} {K : PySem.W.Frag} {H : Hp} {x y : V} {d : PyData} {Q : VK} (h1 : Dp K H x d) (h2 : Dp K H y d) (hs : Shp n d) (hn : n ≤ 64) (q : Q (.bl false) H) : L2.rNeD K x y H Q := ⟨d, d, h1, h2, hs.ok hn, hs.ok hn, by rw [SeqAt.eqv_refl d hs.1]; exact q⟩
theorem i_eqSame {n : Nat} {K : PySem.W.Frag} {H : Hp} {x y : V} {d : PyData} {Q : VK} (h1 : Dp K H x d) (h2 : Dp K H y d) (hs : Shp n d) (hn : n ≤ 64) (q : Q (.bl true) H) : L2.rEqD K x y H Q := ⟨d, d, h1, h2, hs.ok hn, hs.ok hn, by rw [SeqAt.eqv_refl d hs.1]; exact q⟩
theorem shp_int {n : Nat} (i : Int) : Shp n (.int i) := ⟨by simp [PyData.canLay0], by simp [PyData.depth]⟩
theorem shp_bl {n : Nat} (b : Bool) : Shp n (.bool b) := ⟨by simp [PyData.canLay0], by simp [PyData.depth]⟩
theorem shp_non {n : Nat} : Shp n .none := ⟨by simp [PyData.canLay0], by simp [PyData.depth]⟩
theorem shp_str {n : Nat} {l : List Nat} (h : Chr l) : Shp n (.str (S l)) := ⟨by rw [PyData.canLay0]; exact strOk_S h, by simp [PyData.depth]⟩
/-- lists of lists of numbers -/
def llD (xss : List (List Nat)) : PyData := .list (xss.map dNats)
theorem shp_nats (ns : List Nat) : Shp 1 (dNats ns) := Shp.lst (n := 0) fun d hd => by
  obtain ⟨i, _, rfl⟩ := List.mem_map.mp hd
  exact shp_int i
theorem llD_shp (xss : List (List Nat)) : Shp 2 (llD xss) := Shp.lst fun d hd => by
  obtain ⟨i, _, rfl⟩ := List.mem_map.mp hd
  exact shp_nats i
theorem dp_nats {K : PySem.W.Frag} {H : Hp} {p : Addr} {ns : List Nat} (h : H p = some (.lst (ns.map iv))) : Dp K H (.ref p) (dNats ns) := by
  rw [ivs] at h
  exact .lst (SqL.of1 h) (dp_ints _)
theorem dp_llAll {K : PySem.W.Frag} {H : Hp} : ∀ {ps : List Addr} {xss : List (List Nat)}, Paired (fun p o => H p = some o) ps (xss.map fun ns => HO.lst (ns.map iv)) → DpAll K H (ps.map V.ref) (xss.map dNats)
  | [], [], .nil => .nil
  | _ :: _, _ :: _, .cons h r => .cons (dp_nats h) (dp_llAll r)
theorem dp_ll {K : PySem.W.Frag} {H : Hp} {D : Addr} {ps : List Addr} {xss : List (List Nat)} (hD : H D = some (.lst (ps.map V.ref))) (h : Paired (fun p o => H p = some o) ps (xss.map fun ns => HO.lst (ns.map iv))) : Dp K H (.ref D) (llD xss) := .lst (SqL.of1 hD) (dp_llAll h)
/-- a list of lists of numbers, at D, its lists at ps -/
def TL (H : Hp) (D : Addr) (ps : List Addr) (xss : List (List Nat)) : Prop := H D = some (.lst (ps.map V.ref)) ∧ Paired (fun p o => H p = some o) ps (xss.map fun ns => HO.lst (ns.map iv))
theorem TL.dp {K : PySem.W.Frag} {H : Hp} {D : Addr} {ps : List Addr} {xss : List (List Nat)} (h : TL H D ps xss) : Dp K H (.ref D) (llD xss) := dp_ll h.1 h.2
theorem TL.same {H H' : Hp} {D : Addr} {ps : List Addr} {xss : List (List Nat)} (h : TL H D ps xss) (s : Same H H') : TL H' D ps xss := ⟨s _ _ h.1, paired_imp h.2 fun a _ o z => s _ _ z⟩
theorem TL.but {H H' : Hp} {D : Addr} {ps : List Addr} {xss : List (List Nat)} {k : Addr} (h : TL H D ps xss) (s : But k H H') (n1 : D ≠ k) (n2 : ∀ p ∈ ps, p ≠ k) : TL H' D ps xss := ⟨s.at h.1 n1, paired_imp h.2 fun a ha o z => s.at z (n2 a ha)⟩
theorem TL.butN {H0 H H' : Hp} {D : Addr} {ps : List Addr} {xss : List (List Nat)} {k : Addr} (h : TL H D ps xss) (s : But k H H') (hk : ∃ o, H0 k = some o) (n1 : H0 D = none) (n2 : ∀ p ∈ ps, H0 p = none) : TL H' D ps xss := by
  obtain ⟨o, hk⟩ := hk
  exact h.but s (fun z => by rw [z, hk] at n1; cases n1) fun p hp z => by have := n2 p hp; rw [z, hk] at this; cases this
end Lv

set_option Elab.async false
set_option linter.all false
set_option maxRecDepth 100000
set_option maxHeartbeats 2000000
/-! text.upper() of small letters, tuple(text), str(number) -/
namespace Lv
open PySem PySem.Spec PyProof.Rows L2 SX
theorem up_one : ∀ k, k < 26 → Unicode.upperOf (97 + k) = [65 + k] := by decide +kernel
def upL (l : List Nat) : List Nat := l.map fun c => c - 32
theorem upper_S {l : List Nat} (h : Low l) : Txt.upper (S l) = S (upL l) := by
  have e : (Array.mapIdx (fun (_ : Nat) c => (Unicode.upperOf c).toArray) l.toArray).flatten = (upL l).toArray := by
    apply Array.ext'
    rw [Array.toList_flatten, Array.toList_mapIdx]
    show (List.map Array.toList (List.mapIdx (fun (_ : Nat) c => (Unicode.upperOf c).toArray) l)).flatten = upL l
    induction l with
    | nil => rfl
    | cons c l ih =>
      have hc := h c List.mem_cons_self
      have e1 : Unicode.upperOf c = [c - 32] := by
        have := up_one (c - 97) (by omega)
        rw [show 97 + (c - 97) = c by omega, show 65 + (c - 97) = c - 32 by omega] at this
        exact this
      rw [List.mapIdx_cons, List.map_cons, List.flatten_cons, e1]
      show [c - 32] ++ _ = (c - 32) :: upL l
      rw [List.singleton_append]
      congr 1
      exact ih fun d hd => h d (List.mem_cons_of_mem _ hd)
  show (⟨placed (S l) fun _ c => Unicode.upperOf c⟩ : Str) = S (upL l)
  unfold placed
  exact congrArg Str.mk e
def rUpper : V → List V → Hp → VK → Prop := fun x xs H Q => ∃ l : List Nat, x = .str (S l) ∧ xs = [] ∧ l.length ≤ 100000 ∧ Low l ∧ Q (.str (S (upL l))) H
def rTupS : List V → Hp → VK → Prop := fun xs H Q => ∃ l : List Nat, xs = [.str (S l)] ∧ l.length ≤ 1000000 ∧ ∀ p, H p = none → Q (.ref p) (upd H p (.tup (l.map vc)))
def rStrI : List V → Hp → VK → Prop := fun xs H Q => ∃ i : Int, xs = [.int i] ∧ i.natAbs.log2 < 1920 ∧ Q (.str (toString i)) H
section
variable {X : Cx}
theorem mt_upperL : MtR X "str.upper" rUpper := by
  intro pins s σ H x xs v us Q I rx r h
  obtain ⟨l, rfl, rfl, hl, lw, q⟩ := h
  refine mt_upper pins s σ H _ _ v us Q I rx r ⟨_, rfl, rfl, by rw [S_len]; omega, ?_⟩
  rw [upper_S lw]
  exact q
theorem call_tupS (hc : X.calm = true) : CallR X (.type "tuple") rTupS := by
  intro pins s σ H xs us Q I r h
  obtain ⟨l, rfl, hl, q⟩ := h
  obtain ⟨u, rfl, rx⟩ := vals1 r
  obtain ⟨t, rfl⟩ := rx
  refine PySem.call_tuple_str (hsz := le_line (by simpa using hl)) (I.ok.hd hc) (S l) t fun h' tk acc hk hacc => ?_
  have k2 : ∀ b o, s.heap.get? b = some o → (h'.push { cls := .type "tuple", data := .seq acc }).get? b = some o := fun b o e => Heap.get?_push_of_some _ (hk b o e)
  have hn : s.heap.get? h'.objs.size = none := by
    cases e : s.heap.get? h'.objs.size with
    | none => rfl
    | some o => exact absurd (Heap.lt_size (hk _ _ e)) (Nat.lt_irrefl _)
  have hH := I.hok.gone hn
  refine ⟨.ref h'.objs.size, upd H h'.objs.size (.tup (l.map vc)), I.laidN (t' := tk) k2 hn hH (show ObjOk X.prog X.w _ _ _ (.tup (l.map vc)) from ⟨?_, acc.toList, ?_, ?_⟩), rfl, q _ hH⟩
  · rw [List.length_map]; exact le_line hl
  · have el : acc.toList.length = l.length := by
      have := hacc.1
      rw [Array.length_toList, this]
      simp
    refine vals_of_at (by rw [List.length_map, el]) fun j x w h1 h2 => ?_
    obtain ⟨d0, tk2, e0, e⟩ := hacc.2 j w (by rw [← Array.getElem?_toList]; exact h2)
    rw [List.getElem?_map] at h1
    have e2 : l[j]? = some d0 := by simpa using e0
    rw [e2] at h1
    have h1 : vc d0 = x := Option.some.inj h1
    subst h1
    exact ⟨tk2, e⟩
  · exact ⟨_, Heap.get?_push_size _ rfl, rfl, 0, by rw [Array.toArray_toList]⟩
theorem call_strI : CallR X (.type "str") rStrI := fun pins s σ H xs us Q I r h => call_str_int pins s σ H xs us Q I r h
end
theorem v_tupS {l : List Nat} {H : Hp} {Q : VK} (hl : l.length ≤ 1000000) (h : ∀ p H2, H p = none → Same H H2 → H2 p = some (.tup (l.map vc)) → Q (.ref p) H2) : rTupS [.str (S l)] H Q := ⟨l, rfl, hl, fun p n => h p _ n (same_new n) upd_same⟩
theorem i_upper {l : List Nat} {H : Hp} {Q : VK} (hl : l.length ≤ 100000) (lw : Low l) (q : Q (.str (S (upL l))) H) : rUpper (.str (S l)) [] H Q := ⟨l, rfl, rfl, hl, lw, q⟩
theorem upL_chr {l : List Nat} (h : Low l) : Chr (upL l) := fun c hc => by
  obtain ⟨d, hd, rfl⟩ := List.mem_map.mp hc
  have := h d hd
  show d - 32 < _
  omega
theorem upL_no {l : List Nat} (h : Low l) (n : l ≠ []) : ¬ Low (upL l) := fun z => by
  cases l with
  | nil => exact n rfl
  | cons c l =>
    have h1 := h c List.mem_cons_self
    have h2 := z (c - 32) List.mem_cons_self
    omega
/-- other signs -/
def oddSigns : List Nat := [32, 33, 35, 36, 38, 39, 40, 41, 42, 43, 44, 45, 46, 47, 48, 49, 50, 51, 52, 53, 54, 55, 56, 57, 58, 59, 60, 61, 62, 63, 64, 65, 66, 67, 68, 69, 70, 71, 72, 73, 74, 75, 76, 77, 78, 79, 80, 81, 82, 83, 84, 85, 86, 87, 88, 89, 90, 91, 93, 94, 95, 96, 123, 124, 125, 126, 10, 34, 92]
theorem odd_no : ∀ c ∈ oddSigns, ¬ (97 ≤ c ∧ c ≤ 122) ∧ c < 1114112 := by decide
def azmSigns : List Nat := 97 :: 122 :: 109 :: oddSigns
theorem cutL_from1 {α : Type} (l : List α) (n : Nat) : cutL l (some ((n : Int) + 1)) none = l.drop (n + 1) := by
  have := cutL_from l (n + 1)
  rw [show ((n + 1 : Nat) : Int) = (n : Int) + 1 by omega] at this
  exact this
end Lv

set_option Elab.async false
set_option linter.all false
set_option maxRecDepth 100000
set_option maxHeartbeats 2000000
/-! numbers as texts, a text parted at blanks -/
namespace Lv
open PySem PySem.Spec PyProof.Rows L2 SX
/-- the words of a text -/
def wds (a : List Nat) : List (List Nat) := TL.spl [32] 0 [] a
def rSplit1 : V → List V → Hp → VK → Prop := fun x xs H Q => ∃ a : List Nat, x = .str (S a) ∧ xs = [.str (S [32])] ∧ a.length ≤ 900000 ∧ ∀ p, H p = none → Q (.ref p) (upd H p (.lst ((wds a).map vs)))
def rIntS : List V → Hp → VK → Prop := fun xs H Q => ∃ a : List Nat, xs = [.str (S a)] ∧ NumText.AllDigits a ∧ a ≠ [] ∧ a.length ≤ 640 ∧ Q (.int ((NumText.digitsVal a : Nat) : Int)) H
section
variable {X : Cx}
theorem mt_split1 : MtR X "str.split" rSplit1 := by
  intro pins s σ H x xs v us Q I rx r h
  obtain ⟨a, rfl, rfl, hl, q⟩ := h
  refine mt_split pins s σ H _ _ v us Q I rx r ⟨_, _, rfl, rfl, by decide, le_line (by rw [S_len]; omega), fun p np => ?_⟩
  rw [split_S (by decide) (by decide), List.map_map]
  exact q p np
theorem call_intS : CallR X (.type "int") rIntS := by
  intro pins s σ H xs us Q I r h
  obtain ⟨a, rfl, hd, hn, hl, q⟩ := h
  exact call_int_str pins s σ H _ us Q I r ⟨S a, _, rfl, int_S (List.all_eq_true.mpr fun c hc => by rw [Bool.and_eq_true, decide_eq_true_eq, decide_eq_true_eq]; exact hd c hc) hn (by omega), by rw [S_len]; exact hl, q⟩
end
theorem v_split1 {a : List Nat} {H : Hp} {Q : VK} (hl : a.length ≤ 900000) (h : ∀ p H2, H p = none → Same H H2 → H2 p = some (.lst ((wds a).map vs)) → Q (.ref p) H2) : rSplit1 (.str (S a)) [.str (S [32])] H Q := ⟨a, rfl, rfl, hl, fun p n => h p _ n (same_new n) upd_same⟩
theorem i_intS {a : List Nat} {H : Hp} {Q : VK} (hd : NumText.AllDigits a) (hn : a ≠ []) (hl : a.length ≤ 640) (q : Q (.int ((NumText.digitsVal a : Nat) : Int)) H) : rIntS [.str (S a)] H Q := ⟨a, rfl, hd, hn, hl, q⟩
theorem i_strN {n : Nat} {H : Hp} {Q : VK} (hn : n < 10 ^ 500) (q : Q (.str (S (TL.numL n))) H) : rStrI [.int (n : Nat)] H Q := by
  refine ⟨_, rfl, ?_, ?_⟩
  · rw [Int.natAbs_natCast]
    by_cases z : n = 0
    · subst z; decide
    · exact (Nat.log2_lt z).mpr (Nat.lt_trans hn (by decide))
  · rw [← num_S] at q
    exact q
/-- numbers written -/
def wrt (ns : List Nat) : List Nat := if ns = [] then [45] else TL.joinL [32] (ns.map TL.numL)
theorem wds_wrt {ns : List Nat} (h : ns ≠ []) : wds (TL.joinL [32] (ns.map TL.numL)) = ns.map TL.numL := by
  unfold wds
  refine TL.spl_join (by simpa using h) fun p hp => ?_
  obtain ⟨n, _, rfl⟩ := List.mem_map.mp hp
  exact TL.numL_free (.inl (by decide))
theorem join_len : ∀ (ps : List (List Nat)), (TL.joinL [32] ps).length ≤ (ps.map List.length).sum + ps.length
  | [] => by simp [TL.joinL]
  | [p] => by simp [TL.joinL]
  | p :: r :: ps => by
    have ih := join_len (r :: ps)
    simp only [TL.joinL, List.length_append, List.map_cons, List.sum_cons, List.length_cons, List.length_nil] at ih ⊢
    omega
theorem sum_len {ps : List (List Nat)} {k : Nat} (h : ∀ p ∈ ps, p.length ≤ k) : (ps.map List.length).sum ≤ ps.length * k := by
  induction ps with
  | nil => simp
  | cons p ps ih =>
    have h1 := h p List.mem_cons_self
    have h2 := ih fun q hq => h q (List.mem_cons_of_mem _ hq)
    simp only [List.map_cons, List.sum_cons, List.length_cons, Nat.add_mul, Nat.one_mul]
    omega
theorem numL_cut (n : Nat) : TL.numL n ≠ [] := TL.numL_ne n
theorem numL_chr (n : Nat) : ∀ c ∈ TL.numL n, 48 ≤ c ∧ c ≤ 57 := TL.numL_digits n
/-- a number's text begins with 0 just where it is 0's -/
theorem numL_head : ∀ n : Nat, (TL.numL n).head? = some 48 → TL.numL n = [48] := by
  intro n
  induction n using Nat.strongRecOn with
  | ind n ih =>
    intro h
    by_cases z : n < 10
    · rw [TL.numL_lt z] at h ⊢
      simp at h
      rw [h]
    · rw [TL.numL_step (by omega)] at h
      have hn := TL.numL_ne (n / 10)
      rw [List.head?_append, (List.head?_eq_some_head hn)] at h
      have h : (TL.numL (n / 10)).head? = some 48 := by rw [List.head?_eq_some_head hn]; simpa using h
      have e := ih (n / 10) (by omega) h
      have e2 : n / 10 = 0 := TL.numL_inj (e.trans (TL.numL_lt (by decide : 0 < 10)).symm)
      omega
end Lv

set_option Elab.async false
set_option linter.all false
set_option maxRecDepth 100000
set_option maxHeartbeats 2000000
/-! repr of plain things, dicts of whole numbers too -/
namespace Lv
open PySem PySem.Spec PyProof.Rows L2 SX
/-- data that can be shown: so heavy, so deep at most -/
structure Fn (w k : Nat) (d : PyData) : Prop where
  sh : d.showable = true
  lv : d.leavesShort 1921 = true
  wt : d.weight ≤ w
  dp : d.depth ≤ k
theorem Fn.mono {w k w' k' : Nat} {d : PyData} (h : Fn w k d) (h1 : w ≤ w') (h2 : k ≤ k') : Fn w' k' d := ⟨h.sh, h.lv, Nat.le_trans h.wt h1, Nat.le_trans h.dp h2⟩
theorem fn_non {w k : Nat} : Fn w k .none := ⟨rfl, rfl, by simp [PyData.weight], by simp [PyData.depth]⟩
theorem fn_bl {w k : Nat} {b : Bool} : Fn w k (.bool b) := ⟨rfl, rfl, by simp [PyData.weight], by simp [PyData.depth]⟩
theorem fn_int {w k : Nat} {i : Int} (h : i.natAbs.log2 < w) (hw : w ≤ 1920) : Fn w k (.int i) := by
  refine ⟨?_, ?_, ?_, by simp [PyData.depth]⟩
  · show decide (i.natAbs.log2 < 1920) = true
    exact decide_eq_true (by omega)
  · show decide ((PyData.shown (.int i)).length ≤ 1921) = true
    refine decide_eq_true ?_
    have := int_text_len_1921 (i := i) (by omega)
    exact this
  · rw [PyData.weight]
    split <;> omega
theorem fn_str {w k : Nat} {l : List Nat} (h : Chr l) (hl : l.length ≤ w) : Fn w k (.str (S l)) := by
  refine ⟨rfl, ?_, ?_, by simp [PyData.depth]⟩
  · show ((S l).cps.toList.all fun c => decide (c < 16 ^ 8)) = true
    rw [List.all_eq_true]
    intro c hc
    have := h c hc
    exact decide_eq_true (by omega)
  · rw [PyData.weight]
    simpa using hl
theorem fn_all {w k : Nat} : ∀ {ds : List PyData}, (∀ d ∈ ds, Fn w k d) → PyData.showableAll ds = true ∧ PyData.leavesShortAll 1921 ds = true ∧ PyData.weightAll ds ≤ ds.length * (w + 1) ∧ PyData.depthAll ds ≤ k
  | [], _ => ⟨rfl, rfl, by simp [PyData.weightAll], by simp [PyData.depthAll]⟩
  | d :: ds, h => by
    obtain ⟨a1, a2, a3, a4⟩ := h d List.mem_cons_self
    obtain ⟨b1, b2, b3, b4⟩ := fn_all fun e he => h e (List.mem_cons_of_mem _ he)
    refine ⟨by rw [PyData.showableAll, a1, b1]; rfl, by rw [PyData.leavesShortAll, a2, b2]; rfl, ?_, ?_⟩
    · rw [PyData.weightAll, List.length_cons, Nat.add_mul, Nat.one_mul]
      omega
    · rw [PyData.depthAll]
      omega
theorem fn_lst {w k : Nat} {ds : List PyData} (h : ∀ d ∈ ds, Fn w k d) : Fn (ds.length * (w + 1)) (k + 1) (.list ds) := by
  obtain ⟨a1, a2, a3, a4⟩ := fn_all h
  exact ⟨by rw [PyData.showable]; exact a1, by rw [PyData.leavesShort]; exact a2, by rw [PyData.weight]; exact a3, by rw [PyData.depth]; omega⟩
theorem fn_tup {w k : Nat} {ds : List PyData} (h : ∀ d ∈ ds, Fn w k d) : Fn (ds.length * (w + 1)) (k + 1) (.tuple ds) := by
  obtain ⟨a1, a2, a3, a4⟩ := fn_all h
  exact ⟨by rw [PyData.showable]; exact a1, by rw [PyData.leavesShort]; exact a2, by rw [PyData.weight]; exact a3, by rw [PyData.depth]; omega⟩
def keyD : Key → PyData
  | .inl i => .int i
  | .inr x => .str x
def dkD (ks : List (Key × Int)) : PyData := .dict (ks.map fun p => (keyD p.1, .int p.2))
theorem fn_dk {w : Nat} : ∀ {ks : List (Key × Int)}, (∀ p ∈ ks, Fn w 0 (keyD p.1) ∧ Fn w 0 (.int p.2)) → PyData.showableKv (ks.map fun p => (keyD p.1, PyData.int p.2)) = true ∧ PyData.leavesShortKv 1921 (ks.map fun p => (keyD p.1, PyData.int p.2)) = true ∧
    PyData.weightKv (ks.map fun p => (keyD p.1, PyData.int p.2)) ≤ ks.length * (2 * w + 2) ∧ PyData.depthKv (ks.map fun p => (keyD p.1, PyData.int p.2)) ≤ 0
  | [], _ => ⟨rfl, rfl, by simp [PyData.weightKv], by simp [PyData.depthKv]⟩
  | p :: ks, h => by
    obtain ⟨⟨a1, a2, a3, a4⟩, ⟨c1, c2, c3, c4⟩⟩ := h p List.mem_cons_self
    obtain ⟨b1, b2, b3, b4⟩ := fn_dk fun e he => h e (List.mem_cons_of_mem _ he)
    refine ⟨by rw [List.map_cons, PyData.showableKv, a1, b1, c1]; rfl, by rw [List.map_cons, PyData.leavesShortKv, a2, b2, c2]; rfl, ?_, ?_⟩
    · rw [List.map_cons, PyData.weightKv, List.length_cons, Nat.add_mul, Nat.one_mul]
      omega
    · rw [List.map_cons, PyData.depthKv]
      omega
theorem fn_dict {w : Nat} {ks : List (Key × Int)} (h : ∀ p ∈ ks, Fn w 0 (keyD p.1) ∧ Fn w 0 (.int p.2)) : Fn (ks.length * (2 * w + 2)) 1 (dkD ks) := by
  obtain ⟨a1, a2, a3, a4⟩ := fn_dk h
  exact ⟨by unfold dkD; rw [PyData.showable]; exact a1, by unfold dkD; rw [PyData.leavesShort]; exact a2, by unfold dkD; rw [PyData.weight]; exact a3, by unfold dkD; rw [PyData.depth]; omega⟩
/-- a thing's data -/
inductive RX (K : PySem.W.Frag) (H : Hp) : V → PyData → Prop where
  | dp {v : V} {d : PyData} (h : Dp K H v d) (n : d.hasDict = false) : RX K H v d
  | dk {a : Addr} {ks : List (Key × Int)} (h : H a = some (.dK (ks.map fun p => (p.1, .int p.2)))) : RX K H (.ref a) (dkD ks)
theorem RX.same {K : PySem.W.Frag} {H H' : Hp} {v : V} {d : PyData} (h : RX K H v d) (s : Same H H') : RX K H' v d := by
  cases h with
  | dp h n => exact .dp (Dp.same s h) n
  | dk h => exact .dk (s _ _ h)
theorem key_reads {h : Heap} {k : Key} {v : Value} (e : keyIs k v = true) : Reads h v (keyD k) [] := by
  rcases keyIs_shape e with ⟨i, t, rfl, rfl⟩ | ⟨x, t, rfl, rfl⟩
  · exact .int i t
  · exact .str x t
theorem kv_reads {P : Program} {w : World} {h : Heap} : ∀ {ks : List (Key × Int)} {vs : List (Key × Value)} {es : List DictEntry}, KV (ks.map fun p => (p.1, V.int p.2)) vs → Pairs (mixKind P w) es vs →
    ReadsAll h (es.map (·.key)) ((ks.map fun p => (keyD p.1, PyData.int p.2)).map (·.1)) [] ∧ ReadsAll h (es.map (·.val)) ((ks.map fun p => (keyD p.1, PyData.int p.2)).map (·.2)) []
  | [], _, _, .nil, .nil => ⟨.nil, .nil⟩
  | p :: ks, _, _, .cons r t, .cons e1 e2 e3 => by
    obtain ⟨h1, h2⟩ := kv_reads t e3
    obtain ⟨r1, tk, r2⟩ := r
    refine ⟨.cons (as := []) (bs := []) (key_reads ?_) h1, .cons (as := []) (bs := []) ?_ h2⟩
    · rw [← r1] at e1
      exact e1
    · show Reads h _ (PyData.int p.2) []
      dsimp only
      rw [e2, r2]
      exact .int _ _
def rRepr2 (K : PySem.W.Frag) : List V → Hp → VK → Prop := fun xs H Q => ∃ (v : V) (d : PyData), xs = [v] ∧ RX K H v d ∧ Fn 8000 20 d ∧ Q (.str (S (shw d))) H
section
variable {X : Cx}
theorem call_repr2 (guard : X.A.guards = some []) (hu : X.A.units + 64 < cLine) : CallR X (.builtin "repr") (rRepr2 X.K) := by
  intro pins s σ H xs us Q I r h
  obtain ⟨v, d, rfl, rx, fn, q⟩ := h
  have sz : d.shown.length ≤ sizeLine := by
    have h1 := PyData.shown_le 1921 (by decide) d fn.lv
    have h2 := fn.wt
    have h3 : (1921 + 2) * d.weight ≤ (1921 + 2) * 8000 := Nat.mul_le_mul_left _ h2
    rw [sizeLine_eq]
    omega
  cases rx with
  | dp hd nd => exact call_repr guard hu pins s σ H _ us Q I r ⟨v, d, rfl, hd, fn.sh, nd, fn.dp, sz, q⟩
  | @dk a ks hd =>
    rw [shw_S] at q
    obtain ⟨u, rfl, ru⟩ := vals1 r
    cases (show u = Value.ref a from ru)
    have O : ObjOk X.prog X.w H s.heap a (.dK (ks.map fun p => (p.1, .int p.2))) := I.hok a _ hd
    obtain ⟨_, ns, vs, kv, o, es, ep, ho, ex, hda, _, pr, _⟩ := O
    obtain ⟨r1, r2⟩ := kv_reads (h := s.heap) kv pr
    have rd : Reads s.heap (.ref a) (dkD ks) (a :: [] ++ []) := Reads.dict ho ex.1 hda r1 r2
    have dp := fn.dp
    exact repr_of_reads' rd fn.sh (fun _ hm => by
      rcases List.mem_cons.mp hm with z | z
      · rw [← z] at ns
        exact absurd ns (by decide)
      · cases z) guard (by omega) (fun _ _ e => e) (fun h' u tk hk => ⟨.str _, H, I.kept hk, ⟨_, rfl⟩, q⟩) sz
end
theorem i_repr2 {K : PySem.W.Frag} {H : Hp} {Q : VK} {v : V} {d : PyData} (h : RX K H v d) (f : Fn 8000 20 d) (q : Q (.str (S (shw d))) H) : rRepr2 K [v] H Q := ⟨v, d, rfl, h, f, q⟩
/-- a thing that can be shown -/
def Shw (K : PySem.W.Frag) (H : Hp) (v : V) : Prop := ∃ d, RX K H v d ∧ Fn 8000 20 d
section
variable {K : PySem.W.Frag} {H : Hp}
theorem sw_non : Shw K H .non := ⟨_, .dp .non rfl, fn_non⟩
theorem sw_bl {b : Bool} : Shw K H (.bl b) := ⟨_, .dp (.bl b) rfl, fn_bl⟩
theorem sw_int {i : Int} (h : i.natAbs.log2 < 1920) : Shw K H (.int i) := ⟨_, .dp (.int i) rfl, (fn_int (k := 0) h (by decide)).mono (by decide) (by decide)⟩
theorem sw_str {l : List Nat} (h : Chr l) (hl : l.length ≤ 8000) : Shw K H (.str (S l)) := ⟨_, .dp (.str _) rfl, fn_str h hl⟩
theorem nodict_strs : ∀ ls : List (List Nat), PyData.hasDictAll (ls.map fun l => PyData.str (S l)) = false
  | [] => rfl
  | l :: ls => by rw [List.map_cons, PyData.hasDictAll, nodict_strs ls]; rfl
theorem dp_txts : ∀ ls : List (List Nat), DpAll K H (ls.map vs) (ls.map fun l => PyData.str (S l))
  | [] => .nil
  | _ :: ls => .cons (.str _) (dp_txts ls)
theorem sw_lstS {a : Addr} {ls : List (List Nat)} (h : H a = some (.lst (ls.map vs))) (hc : ∀ l ∈ ls, Chr l ∧ l.length ≤ 79) (hl : ls.length ≤ 100) : Shw K H (.ref a) := by
  refine ⟨_, .dp (.lst (SqL.of1 h) (dp_txts ls)) (by rw [PyData.hasDict]; exact nodict_strs ls), (fn_lst (w := 79) (k := 0) fun d hd => ?_).mono (by rw [List.length_map]; omega) (by decide)⟩
  obtain ⟨l, hl, rfl⟩ := List.mem_map.mp hd
  exact fn_str (hc l hl).1 (hc l hl).2
theorem sw_tupS {a : Addr} {ls : List (List Nat)} (h : H a = some (.tup (ls.map vs))) (hc : ∀ l ∈ ls, Chr l ∧ l.length ≤ 79) (hl : ls.length ≤ 100) : Shw K H (.ref a) := by
  refine ⟨_, .dp (.tup (SqT.of1 h) (dp_txts ls)) (by rw [PyData.hasDict]; exact nodict_strs ls), (fn_tup (w := 79) (k := 0) fun d hd => ?_).mono (by rw [List.length_map]; omega) (by decide)⟩
  obtain ⟨l, hl, rfl⟩ := List.mem_map.mp hd
  exact fn_str (hc l hl).1 (hc l hl).2
theorem sw_lst1 {a : Addr} {l : List Nat} (h : H a = some (.lst [.str (S l)])) (hc : Chr l) (hl : l.length ≤ 7000) : Shw K H (.ref a) :=
  ⟨.list [.str (S l)], .dp (.lst (SqL.of1 h) (.cons (.str _) .nil)) rfl, (fn_lst (w := 7000) (k := 0) fun d hd => by rw [List.mem_singleton.mp hd]; exact fn_str hc hl).mono (by simp) (by decide)⟩
theorem sw_tup1 {a : Addr} {l : List Nat} (h : H a = some (.tup [.str (S l)])) (hc : Chr l) (hl : l.length ≤ 7000) : Shw K H (.ref a) :=
  ⟨.tuple [.str (S l)], .dp (.tup (SqT.of1 h) (.cons (.str _) .nil)) rfl, (fn_tup (w := 7000) (k := 0) fun d hd => by rw [List.mem_singleton.mp hd]; exact fn_str hc hl).mono (by simp) (by decide)⟩
theorem sw_dK0 {a : Addr} (h : H a = some (.dK [])) : Shw K H (.ref a) := ⟨_, .dk (ks := []) h, (fn_dict (w := 0) (ks := []) fun _ z => (nomatch z)).mono (by decide) (by decide)⟩
theorem sw_dK1 {a : Addr} {l : List Nat} {i : Int} (h : H a = some (.dK [(.inr (S l), .int i)])) (hc : Chr l) (hl : l.length ≤ 1000) (hi : i.natAbs.log2 < 1000) : Shw K H (.ref a) :=
  ⟨_, .dk (ks := [(.inr (S l), i)]) h, (fn_dict (w := 1000) fun p hp => by rw [List.mem_singleton.mp hp]; exact ⟨fn_str hc hl, fn_int hi (by decide)⟩).mono (show 1 * (2 * 1000 + 2) ≤ 8000 by decide) (by decide)⟩
theorem Shw.same {H' : Hp} {v : V} (h : Shw K H v) (s : Same H H') : Shw K H' v := h.imp fun _ z => ⟨z.1.same s, z.2⟩
end
/-! ASCII texts -/
def Asc (l : List Nat) : Prop := ∀ c ∈ l, c < 128
theorem Asc.chr {l : List Nat} (h : Asc l) : Chr l := fun c hc => by have := h c hc; omega
theorem Low.asc {l : List Nat} (h : Low l) : Asc l := fun c hc => by have := h c hc; omega
theorem Asc.app {a b : List Nat} (h : Asc a) (k : Asc b) : Asc (a ++ b) := fun c hc => (List.mem_append.mp hc).elim (h c) (k c)
theorem Asc.sub {a b : List Nat} (h : Asc b) (k : ∀ c ∈ a, c ∈ b) : Asc a := fun c hc => h c (k c hc)
theorem Asc.one {c : Nat} (h : c < 128) : Asc [c] := fun d hd => by rw [List.mem_singleton.mp hd]; exact h
theorem up1_lt : ∀ c, c < 128 → PyProof.Rows.up1 c < 128 := by decide
def upA (l : List Nat) : List Nat := l.map PyProof.Rows.up1
theorem upA_asc {l : List Nat} (h : Asc l) : Asc (upA l) := fun c hc => by
  obtain ⟨d, hd, rfl⟩ := List.mem_map.mp hc
  exact up1_lt d (h d hd)
theorem azm_asc : Asc azmSigns := by unfold Asc; decide
def rUpA : V → List V → Hp → VK → Prop := fun x xs H Q => ∃ l : List Nat, x = .str (S l) ∧ xs = [] ∧ l.length ≤ 100000 ∧ Asc l ∧ Q (.str (S (upA l))) H
theorem mt_upperA {X : Cx} : MtR X "str.upper" rUpA := by
  intro pins s σ H x xs v us Q I rx r h
  obtain ⟨l, rfl, rfl, hl, as, q⟩ := h
  refine mt_upper pins s σ H _ _ v us Q I rx r ⟨_, rfl, rfl, by rw [S_len]; omega, ?_⟩
  rw [SX.upper_S (List.all_eq_true.mpr fun c hc => decide_eq_true (as c hc))]
  exact q
theorem i_upperA {l : List Nat} {H : Hp} {Q : VK} (hl : l.length ≤ 100000) (as : Asc l) (q : Q (.str (S (upA l))) H) : rUpA (.str (S l)) [] H Q := ⟨l, rfl, rfl, hl, as, q⟩
/-- texts in a list, not too many -/
def Gd (ls : List (List Nat)) : Prop := (∀ l ∈ ls, Asc l) ∧ (ls.map List.length).sum + ls.length ≤ 7000
theorem wt_txts : ∀ ls : List (List Nat), (∀ l ∈ ls, Asc l) → PyData.showableAll (ls.map fun l => PyData.str (S l)) = true ∧ PyData.leavesShortAll 1921 (ls.map fun l => PyData.str (S l)) = true ∧ PyData.weightAll (ls.map fun l => PyData.str (S l)) ≤ (ls.map List.length).sum + ls.length ∧ PyData.depthAll (ls.map fun l => PyData.str (S l)) ≤ 0
  | [], _ => ⟨rfl, rfl, by simp [PyData.weightAll], by simp [PyData.depthAll]⟩
  | l :: ls, h => by
    obtain ⟨a1, a2, a3, a4⟩ := fn_str (w := l.length) (k := 0) (h l List.mem_cons_self).chr (Nat.le_refl _)
    obtain ⟨b1, b2, b3, b4⟩ := wt_txts ls fun e he => h e (List.mem_cons_of_mem _ he)
    refine ⟨by rw [List.map_cons, PyData.showableAll, a1, b1]; rfl, by rw [List.map_cons, PyData.leavesShortAll, a2, b2]; rfl, ?_, ?_⟩
    · rw [List.map_cons, PyData.weightAll, List.map_cons, List.sum_cons, List.length_cons]
      omega
    · rw [List.map_cons, PyData.depthAll]
      omega
/-- a thing that is no text, of plain data -/
def OdX (H : Hp) (x : V) : Prop := x = .non ∨ (∃ i : Int, x = .int i ∧ i.natAbs.log2 < 1000) ∨ (∃ b, x = .bl b) ∨ ∃ a, x = .ref a ∧ ((∃ ls, H a = some (.lst (ls.map vs)) ∧ Gd ls) ∨ (∃ ls, H a = some (.tup (ls.map vs)) ∧ Gd ls) ∨ H a = some (.dK []) ∨ ∃ l, H a = some (.dK [(.inr (S l), .int 1)]) ∧ Asc l ∧ l.length ≤ 3500)
theorem OdX.kd {K : PySem.W.Frag} {H : Hp} {x : V} (h : OdX H x) : Kd K H x "str" false := by
  rcases h with rfl | ⟨i, rfl, _⟩ | ⟨b, rfl⟩ | ⟨a, rfl, ⟨xs, h, _⟩ | ⟨xs, h, _⟩ | h | ⟨l, h, _⟩⟩
  · exact kd_of .non (by decide +kernel)
  · exact kd_of (.int i) (by decide +kernel)
  · exact kd_of (.bl b) (by decide +kernel)
  · exact kd_of (.lst h) (by decide +kernel)
  · exact kd_of (.tup h) (by decide +kernel)
  · exact kd_of (.dK h) (by decide +kernel)
  · exact kd_of (.dK h) (by decide +kernel)
theorem OdX.sw {K : PySem.W.Frag} {H : Hp} {x : V} (h : OdX H x) : Shw K H x := by
  rcases h with rfl | ⟨i, rfl, hi⟩ | ⟨b, rfl⟩ | ⟨a, rfl, ⟨ls, h, g1, g2⟩ | ⟨ls, h, g1, g2⟩ | h | ⟨l, h, g1, g2⟩⟩
  · exact sw_non
  · exact sw_int (by omega)
  · exact sw_bl
  · obtain ⟨a1, a2, a3, a4⟩ := wt_txts ls g1
    exact ⟨_, .dp (.lst (SqL.of1 h) (dp_txts ls)) (by rw [PyData.hasDict]; exact nodict_strs ls), by rw [PyData.showable]; exact a1, by rw [PyData.leavesShort]; exact a2, by rw [PyData.weight]; omega, by rw [PyData.depth]; omega⟩
  · obtain ⟨a1, a2, a3, a4⟩ := wt_txts ls g1
    exact ⟨_, .dp (.tup (SqT.of1 h) (dp_txts ls)) (by rw [PyData.hasDict]; exact nodict_strs ls), by rw [PyData.showable]; exact a1, by rw [PyData.leavesShort]; exact a2, by rw [PyData.weight]; omega, by rw [PyData.depth]; omega⟩
  · exact sw_dK0 h
  · exact ⟨_, .dk (ks := [(.inr (S l), 1)]) h, (fn_dict (w := 3500) fun p hp => by rw [List.mem_singleton.mp hp]; exact ⟨fn_str g1.chr g2, (fn_int (w := 1) (k := 0) (show (1 : Int).natAbs.log2 < 1 by decide) (by decide)).mono (by decide) (by decide)⟩).mono (show 1 * (2 * 3500 + 2) ≤ 8000 by decide) (by decide)⟩
theorem OdX.keep {H H' : Hp} {x : V} (h : OdX H x) (s : ∀ a o, x = .ref a → H a = some o → H' a = some o) : OdX H' x := by
  rcases h with h | h | h | ⟨a, e, h⟩
  · exact .inl h
  · exact .inr (.inl h)
  · exact .inr (.inr (.inl h))
  · refine .inr (.inr (.inr ⟨a, e, ?_⟩))
    rcases h with ⟨ls, h, g⟩ | ⟨ls, h, g⟩ | h | ⟨l, h, g⟩
    · exact .inl ⟨ls, s _ _ e h, g⟩
    · exact .inr (.inl ⟨ls, s _ _ e h, g⟩)
    · exact .inr (.inr (.inl (s _ _ e h)))
    · exact .inr (.inr (.inr ⟨l, s _ _ e h, g⟩))
theorem OdX.same {H H' : Hp} {x : V} (h : OdX H x) (s : Same H H') : OdX H' x := h.keep fun a o _ e => s _ _ e
theorem OdX.hd {H H' : Hp} {x : V} {k : Addr} (h : OdX H x) (hk : Hd H k) (s : But k H H') : OdX H' x := by
  refine OdX.keep h fun a o e q => s _ _ (fun z => ?_) q
  subst z
  obtain ⟨d, m, hk, _⟩ := hk
  rcases h with h | ⟨i, h, _⟩ | ⟨b, h⟩ | ⟨a, e2, h⟩
  · rw [e] at h; cases h
  · rw [e] at h; cases h
  · rw [e] at h; cases h
  · rw [e] at e2
    cases e2
    rcases h with ⟨ls, h, _⟩ | ⟨ls, h, _⟩ | h | ⟨l, h, _⟩
    · rw [hk] at h
      have h := HO.lst.inj (Option.some.inj h)
      cases ls with
      | nil => cases h
      | cons l ls => cases h
    · rw [hk] at h; cases h
    · rw [hk] at h; cases h
    · rw [hk] at h; cases h
section
variable {H : Hp}
theorem ox_non : OdX H .non := .inl rfl
theorem ox_int {i : Int} (h : i.natAbs.log2 < 1000) : OdX H (.int i) := .inr (.inl ⟨i, rfl, h⟩)
theorem ox_bl {b : Bool} : OdX H (.bl b) := .inr (.inr (.inl ⟨b, rfl⟩))
theorem ox_lst {a : Addr} {ls : List (List Nat)} (h : H a = some (.lst (ls.map vs))) (g : Gd ls) : OdX H (.ref a) := .inr (.inr (.inr ⟨a, rfl, .inl ⟨ls, h, g⟩⟩))
theorem ox_tup {a : Addr} {ls : List (List Nat)} (h : H a = some (.tup (ls.map vs))) (g : Gd ls) : OdX H (.ref a) := .inr (.inr (.inr ⟨a, rfl, .inr (.inl ⟨ls, h, g⟩)⟩))
theorem ox_dK0 {a : Addr} (h : H a = some (.dK [])) : OdX H (.ref a) := .inr (.inr (.inr ⟨a, rfl, .inr (.inr (.inl h))⟩))
theorem ox_dK1 {a : Addr} {l : List Nat} (h : H a = some (.dK [(.inr (S l), .int 1)])) (g : Asc l) (hl : l.length ≤ 3500) : OdX H (.ref a) := .inr (.inr (.inr ⟨a, rfl, .inr (.inr (.inr ⟨l, h, g, hl⟩))⟩))
end
theorem gd_nil : Gd [] := ⟨(fun _ z => by cases z), by simp⟩
theorem gd_one {l : List Nat} (h : Asc l) (hl : l.length ≤ 3500) : Gd [l] := ⟨fun m hm => by rw [List.mem_singleton.mp hm]; exact h, by simp; omega⟩
theorem gd_signs {l : List Nat} (h : Asc l) (hl : l.length ≤ 3500) : Gd (l.map fun c => [c]) := by
  refine ⟨fun m hm => ?_, ?_⟩
  · obtain ⟨c, hc, rfl⟩ := List.mem_map.mp hm
    exact Asc.one (h c hc)
  · have e : ∀ l : List Nat, ((l.map fun c => [c]).map List.length).sum = l.length := fun l => by
      induction l with
      | nil => rfl
      | cons c l ih => rw [List.map_cons, List.map_cons, List.sum_cons, ih, List.length_cons]; simp; omega
    rw [e, List.length_map]
    omega
end Lv

set_option Elab.async false
set_option linter.all false
set_option maxRecDepth 100000
set_option maxHeartbeats 2000000
/-! try .. except (A, B): a clause of two classes -/
namespace Lv
open PySem PySem.Spec PyProof.Rows L2 SX
theorem flyZ_keeps {B h h' : Heap} {l : List Env} {e : Addr} {Z : Obj → Prop} (R : PX.FlyingZ B l e Z h) (k : ∀ b o, h.get? b = some o → h'.get? b = some o) : PX.FlyingZ B l e Z h' := by
  obtain ⟨f1, f2, f3, oe, vs, T, oT, ts, he, hz, hd, h1, hn, hne, hT, hdT, h3⟩ := R
  exact ⟨fun b o q => k b o (f1 b o q), f2, f3.of_keeps fun b o q _ => ⟨o, k b o q, rfl⟩, oe, vs, T, oT, ts, k _ _ he, hz, hd, h1, hn, hne, k _ _ hT, hdT, h3⟩
/-- what 'except (x, y)' wishes: the error is one of both -/
def wT2 (K : PySem.W.Frag) (c1 c2 : Value) (ts : TS) (D : Ends) : WX := fun cls d σ H => PySem.W.exmAny K cls [c1, c2] = some true ∧ d = none ∧ ts D σ H
def tTryT2 (K : PySem.W.Frag) (c1 c2 : Value) (tb : WX → TS) (ts : TS) : TS := fun D σ H => tb (wT2 K c1 c2 ts D) D σ H
section
variable {X : Cx} {x1 x2 : Str} {c1 c2 : Value} {body suite : List Stmt} {b₀ : Stmt} {np1 np2 tpos pos pos' : Pos} {kk : Nat} {tb : WX → TS} {ts : TS}
theorem ps_tryT2 (hs : X.stack = X.env :: X.outer) (hf : X.env.frame = some X.env.locals) (hc1 : Names X x1 c1) (hc2 : Names X x2 c2)
    (hb : ∀ (W : WX) (pn : List (Addr × Obj)) (xe : Value → Shared → Prop), Takes (X.tr pn xe) W → PassesOwn (model X.prog X.w) X.A X.env xe → PSs (X.tr pn xe) body (tb W))
    (hsu : ∀ (a : Addr) (pn : List (Addr × Obj)), PSs (X.suite a pn) (b₀ :: suite) ts) :
    PS X (.Try body [.ExceptHandler (some (.Tuple [.Name x1 np1, .Name x2 np2] kk tpos)) none (b₀ :: suite) pos'] [] [] pos) (tTryT2 X.K c1 c2 tb ts) := by
  constructor
  intro pins s σ H D I h
  have ok := I.ok
  have hfr : X.A.frames = some (X.env :: X.outer) := hs ▸ ok.frames
  let after : Value → Shared → Prop := fun e s1 => wpAny (model X.prog X.w) X.A (noteFrame e X.env) (fun _ s2 => wpAny (model X.prog X.w) X.A (setFlight e none) (fun _ s3 => wpAny (model X.prog X.w) X.A (handleBy e X.env [.ExceptHandler (some (.Tuple [.Name x1 np1, .Name x2 np2] kk tpos)) none (b₀ :: suite) pos']) (SP X pins D) X.xe s3) X.xe s2) X.xe s1
  have caught : Takes (X.tr (X.pn ++ pins) after) (wT2 X.K c1 c2 ts D) := by
    rintro u s1 ⟨a, B, sI, pn1, σ1, H1, cls, d, rfl, J1, nb, up, sky, na, os, ag, ex, rfl, go⟩
    have J : Inv X pins σ1 H1 sI := J1.ofTry ok
    have fl0 : Sky B (X.env :: X.outer) a (Zc cls none) X.env.locals s1.heap := hs ▸ sky
    refine Sky.land Zc.steady hfr hf fl0 fun h2 fl2 up2 => ?_
    have J2 : Inv X pins σ1 H1 { s1 with heap := h2 } := J.landed nb fl2.1 (up.trans up2) os ag
    obtain ⟨o2, v2, ho2, hz2, hd2⟩ := fl2.there
    have lk : PySem.W.Looks (model X.prog X.w) h2 (typeOf (.ref a)) cls := fun A Q E s k q => wpAny_typeOf_ref (k _ _ ho2) (by rw [hz2.1]; exact q)
    have name : ∀ {x : Str} {c : Value} {np : Pos} (hc : Names X x c) {Q : Value → Shared → Prop} {E : Value → Shared → Prop}, Q c { s1 with heap := h2 } → wpAny (model X.prog X.w) (X.A.mark (some (.ref a))) (eval (.Name x np) X.env) Q E { s1 with heap := h2 } := fun {x c np} hc {Q E} q => by
      rcases hc with ⟨g1, g2, g3 | ⟨g3, g4, g5⟩⟩
      · exact ld_glob (X := X.suite a (X.pn ++ pins)) (inv_suite J2 a) g1 g3 q g2
      · exact ld_blt (X := X.suite a (X.pn ++ pins)) (inv_suite J2 a) g1 g3 g4 q g5 g2
    have kp : ∀ q o, h2.get? q = some o → (h2.push { cls := .type "tuple", data := .seq [c1, c2].toArray }).get? q = some o := fun _ _ z => Heap.get?_push_of_some _ z
    have fl3 := flyZ_keeps fl2 kp
    have J3 : Inv X pins σ1 H1 { s1 with heap := h2.push { cls := .type "tuple", data := .seq [c1, c2].toArray } } := J.landed nb fl3.1 ((up.trans up2).trans (Heap.UpToSlots.of_keeps kp)) os ag
    have lm := PySem.W.exm_tup2 (M := model X.prog X.w) J3.kIn (lk.keeps kp) (Heap.get?_push_size h2 rfl) ex
    refine wpAny_handleBy_cons (codeAny_handlers_test ?_) (fun q => by cases q)
    refine wpAny_Tuple ?_
    refine wpAny_items_cons (name hc1 ?_)
    refine wpAny_items_cons (name hc2 ?_)
    refine wpAny_items_nil ⟨by size_fits, ?_⟩
    refine lm.here (codeAny_handlers_suite ?_)
    refine HandSPX.lands_againZ fl3 fun h4 fl4 up4 => ?_
    have J4 : Inv X pins σ1 H1 { s1 with heap := h4 } := J.landed nb fl4.1 (((up.trans up2).trans (Heap.UpToSlots.of_keeps kp)).trans up4) os ag
    refine wpAny_mono ((hsu a (X.pn ++ pins)).run [] _ _ _ _ (inv_suite J4 a) go) (fun f s6 hsp => ?_) fun _ _ z => z.elim
    cases f with
    | ret u => exact hsp.elim fun v ⟨σ6, H6, S6, r6, q6⟩ => ⟨v, _, H6, inv_unsuite S6 ok, r6, q6⟩
    | next => exact hsp.elim fun σ6 ⟨H6, S6, q6⟩ => ⟨_, H6, inv_unsuite S6 ok, q6⟩
    | brk => exact hsp.elim fun σ6 ⟨H6, S6, q6⟩ => ⟨_, H6, inv_unsuite S6 ok, q6⟩
    | cont => exact hsp.elim fun σ6 ⟨H6, S6, q6⟩ => ⟨_, H6, inv_unsuite S6 ok, q6⟩
  refine wpAny_Try_except (wpAny_mono ((hb _ (X.pn ++ pins) after caught PassesOwn.looking).run [] s σ H D (I.toTry _) h) (fun f s1 hsp => ?_) fun e s1 he => he)
  cases f with
  | ret u => exact hsp.elim fun v ⟨σ', H', J', r, q⟩ => ⟨v, σ', H', J'.ofTry ok, r, q⟩
  | next => exact hsp.elim fun σ' ⟨H', J', q⟩ => wpAny_execs_nil ⟨σ', H', J'.ofTry ok, q⟩
  | brk => exact hsp.elim fun σ' ⟨H', J', q⟩ => ⟨σ', H', J'.ofTry ok, q⟩
  | cont => exact hsp.elim fun σ' ⟨H', J', q⟩ => ⟨σ', H', J'.ofTry ok, q⟩
end
section
variable {K : PySem.W.Frag} {er : Nat → Addr} {i j : Nat}
theorem exc_self {C : Addr} {l : List Value} {n : String} (h : PySem.W.excIn K C l n = true) : PySem.W.subIn K (.ref C) (.ref C) = some true := by
  unfold PySem.W.excIn at h
  show PySem.W.mroIn K C (.ref C) = some true
  unfold PySem.W.mroIn PySem.W.clsIn
  split at h
  · rename_i d cd sl e
    rw [e]
    split at h
    · rename_i C' bm z1 z2 z3 z4 n' z5 em es
      simp only [Bool.and_eq_true, beq_iff_eq] at h
      have : C' = C := h.1.1.1.1.1
      subst this
      show (if cd.mro.isEmpty then none else some (cd.mro.contains (.ref C'))) = some true
      rw [em]
      simp
    · cases h
  · cases h
theorem exm_er (Zi : ErrC K er i) (Zj : ErrC K er j) (h1 : 1 ≤ j) (h2 : j ≤ 6) : PySem.W.exmOne K (.ref (er i)) (.ref (er j)) = some (decide (i = j)) := by
  by_cases e : i = j
  · subst e
    rw [decide_eq_true rfl]
    exact PySem.W.exm_ref Zi.bC Zi.cC.hd Zi.tC (exc_self Zi.xC)
  · have k := Zi.kk j h1 h2
    rw [decide_eq_false e] at k ⊢
    unfold PySem.W.kitOne at k
    split at k
    · cases k
    · unfold PySem.W.exmOne
      rw [if_pos (by rw [Zj.bC]; rfl)]
      exact k
/-- an error of a law that knows NoLetters and NoPlace alone -/
structure ErrS (K : PySem.W.Frag) (er : Nat → Addr) (i : Nat) : Prop where
  xC : PySem.W.excIn K (er i) [.type "ValueError", .type "Exception", .type "BaseException", .type "object"] "ValueError.__new__" = true
  kC : PySem.W.keepIn K (.ref (er i)) = true
  bC : PySem.W.subIn K (.ref (er i)) (.type "BaseException") = some true
  tC : PySem.W.typeIn K (.ref (er i)) = some (.type "type")
  hd : PySem.W.hasDictIn K (er i) = true
  s3 : PySem.W.subIn K (.ref (er i)) (.ref (er 3)) = some (decide (i = 3))
  s4 : PySem.W.subIn K (.ref (er i)) (.ref (er 4)) = some (decide (i = 4))
theorem wT2_er {ts : TS} {D : Ends} {σ : L2.St} {H : Hp} (Zi : ErrS K er i) (Z3 : ErrS K er 3) (Z4 : ErrS K er 4) (hi : i = 3 ∨ i = 4) (h : ts D σ H) : wT2 K (.ref (er 3)) (.ref (er 4)) ts D (.ref (er i)) none σ H := by
  refine ⟨?_, rfl, h⟩
  unfold PySem.W.exmAny PySem.W.exmAny PySem.W.exmAny
  rw [PySem.W.exm_ref Z3.bC Z3.hd Z3.tC Zi.s3, PySem.W.exm_ref Z4.bC Z4.hd Z4.tC Zi.s4]
  rcases hi with e | e <;> simp [e]
end
end Lv

set_option Elab.async false
set_option linter.all false
set_option maxRecDepth 100000
set_option maxHeartbeats 2000000
/-! a list comprehension whose element may raise -/
namespace Lv
open PySem PySem.Spec PyProof.Rows L2 SX
theorem note_same {e : Value} {c env : Env} (h : c.frame = env.frame) : noteFrame e c = noteFrame e env := by
  unfold noteFrame PySem.frameOf
  rw [h]
theorem funFrames_at {base h h' : Heap} : ∀ {l : List Env}, h.FunFrames base l → (∀ L ∈ frs l, h'.get? L = h.get? L) → h'.FunFrames base l
  | [], _, _ => trivial
  | env :: l, h, hn => by
    obtain ⟨hk, ⟨L, o, hf, z, ho, hd⟩, hr⟩ := h
    exact ⟨hk, ⟨L, o, hf, z, by rw [hn L (List.mem_filterMap.mpr ⟨env, List.mem_cons_self, hf⟩)]; exact ho, hd⟩, funFrames_at hr fun b hb => by
      obtain ⟨e, he, q⟩ := List.mem_filterMap.mp hb
      exact hn b (List.mem_filterMap.mpr ⟨e, List.mem_cons_of_mem _ he, q⟩)⟩
section
variable {X : Cx} {pins : List (Addr × Obj)} {σ : L2.St} {H : Hp} {s s' : Shared} {C : Addr} {oC : Obj} {ce : Env} {E : XK} {u : Value} {m : Str → Option Value} {E1 : Value → Shared → Prop}
theorem comp_out (hs : X.stack = X.env :: X.outer) (hf : X.env.frame = some X.env.locals) (tk : Takes X (fun cls d _ H => E cls d H)) (I : Inv X pins σ H s) (fc : FpOk X pins H C) (hC : s.heap.get? C = some oC) (hcl : ∀ v, oC.data ≠ .cell v) (hm : s.heap.Ns C m)
    (hl : ce.locals = C) (hfr : ce.frame = X.env.frame) (c : L2.CX X.prog X.w X.stack H s E u s') :
    wpAny (model X.prog X.w) X.A (noteFrame u ce) (fun _ s2 => CompFails (model X.prog X.w) X.A X.xe ce u s2) E1 s' := by
  obtain ⟨f1, f2, f3, f4, f5, f6⟩ := fc
  have nCf : C ∉ frs X.stack := by
    rw [hs]
    intro z
    obtain ⟨e, he, q⟩ := List.mem_filterMap.mp z
    rcases List.mem_cons.mp he with r | r
    · rw [r, hf] at q
      exact f2 (Option.some.inj q).symm
    · exact f3 (List.mem_filterMap.mpr ⟨e, r, q⟩)
  have I1 : Inv X (pins ++ [(C, oC)]) σ H s := ⟨I.ok, I.os, I.bare, I.base, I.loc, I.cell, I.free, I.freeC, fun p hp => by
    rw [← List.append_assoc] at hp
    rcases List.mem_append.mp hp with z | z
    · exact I.pin p z
    · rw [List.mem_singleton.mp z]
      exact ⟨hC, f1, f2, f3, hcl⟩, I.hok, I.len⟩
  obtain ⟨a, B, sI, pn1, σ1, H1, cls, d, rfl, J1, nb, up, sky, na, os, ag, w⟩ := XE.of_call (X := X.tr (X.pn ++ (pins ++ [(C, oC)])) X.xe) (W := fun cls d _ H => E cls d H) (I1.toTry X.xe) (fun _ _ _ h => h) c
  have JX : Inv X (pins ++ [(C, oC)]) σ1 H1 sI := J1.ofTry I.ok
  have JP : Inv X pins σ1 H1 sI := ⟨JX.ok, JX.os, JX.bare, JX.base, JX.loc, JX.cell, JX.free, JX.freeC, fun p hp => JX.pin p (by rw [← List.append_assoc]; exact List.mem_append_left _ hp), JX.hok, JX.len⟩
  have pC := JX.pin (C, oC) (by rw [← List.append_assoc]; exact List.mem_append_right _ (List.mem_singleton.mpr rfl))
  have hCI : sI.heap.get? C = some oC := pC.1
  have nb : ∀ b o, sI.heap.get? b = some o → b ∉ frs X.stack → B.get? b = some o := nb
  have hCB : B.get? C = some oC := nb C oC hCI nCf
  have frA : X.A.frames = some (X.env :: X.outer) := hs ▸ I.ok.frames
  have after : ∀ h1, HandSPX.HeldZ B (X.env :: X.outer) a (Zc cls d) X.env.locals h1 → s'.heap.UpToSlots h1 → CompFails (model X.prog X.w) X.A X.xe ce (.ref a) { s' with heap := h1 } := by
    intro h1 hh up1
    obtain ⟨k1, k2, k3, oe, vs, T, oT, ts, he, hz, hd, hv1, hnT, hTe, hT, hdT, hv3⟩ := hh
    have hC1 : h1.get? C = some oC := k1 C oC hCB
    refine ⟨m, ?_, fun h2 m2 hn2 sb => ?_⟩
    · rw [hl]
      obtain ⟨o, es, ep, e, r⟩ := hm
      rw [hC] at e
      cases e
      exact ⟨oC, es, ep, hC1, r⟩
    rw [hl] at sb
    have keep : ∀ b, b ≠ C → h2.get? b = h1.get? b := fun b hb => sb.2 b hb
    have aC : a ≠ C := fun z => by rw [z, hCB] at k2; cases k2
    have TC : T ≠ C := fun z => by rw [z, hCB] at hnT; cases hnT
    obtain ⟨G, g1, g2⟩ := restrict h2 fun b => (sI.heap.get? b).isSome
    obtain ⟨B2, c1, c2⟩ := restrict h2 fun b => (B.get? b).isSome
    have stB : B2.StaysIn h2 := fun b o e => by
      cases q : (B.get? b).isSome with
      | true => rw [← c1 b q]; exact e
      | false => rw [c2 b q] at e; cases e
    have noB : ∀ b, B.get? b = none → B2.get? b = none := fun b e => c2 b (by rw [e]; rfl)
    have ffs : ∀ L ∈ frs (X.env :: X.outer), B.get? L = none := fun L hL => (k3.mem hL).1
    have fr2 : h2.FunFrames B2 (X.env :: X.outer) := by
      refine funFrames_none (base := B) (funFrames_at k3 fun L hL => keep L fun z => ?_) fun L hL => noB L (ffs L hL)
      rw [z] at hL
      exact nCf (by rw [hs]; exact hL)
    have tr2 : HandSPX.TracedZ h2 B2 a (Zc cls d) (rawInt X.env.locals) := ⟨oe, vs, T, oT, ts, by rw [keep a aC]; exact he, hz, hd, hv1, noB T hnT, hTe, by rw [keep T TC]; exact hT, hdT, hv3⟩
    have ndG : ∀ b o, G.get? b = some o → h2.get? b = some o := fun b o e => by
      cases q : (sI.heap.get? b).isSome with
      | true => rw [← g1 b q]; exact e
      | false => rw [g2 b q] at e; cases e
    have gAt : ∀ b o, sI.heap.get? b = some o → G.get? b = h2.get? b := fun b o e => g1 b (by rw [e]; rfl)
    have gKeep : ∀ b o, sI.heap.get? b = some o → b ∉ frs X.stack → b ≠ C → G.get? b = some o := fun b o e hb hc => by rw [gAt b o e, keep b hc]; exact k1 b o (nb b o e hb)
    have gSlot : ∀ b o, sI.heap.get? b = some o → b ∈ frs X.stack → ∃ sl, G.get? b = some { o with slots := sl } := fun b o e hb => by
      obtain ⟨_, o2, e2, nf⟩ := JP.stack.mem hb
      rw [e] at e2
      cases e2
      obtain ⟨sl, q⟩ := (up.trans up1) b o e nf
      exact ⟨sl, by rw [gAt b o e, keep b fun z => nCf (z ▸ hb)]; exact q⟩
    have JG : Inv X pins σ1 H1 { sI with heap := G } := by
      refine JP.call' (ch := [C]) rfl ⟨fun b o e _ hb hx => gKeep b o e hb fun z => hx (by simp [z]), fun b o e _ hb _ => gSlot b o e hb, fun _ _ _ n _ => n, fun b o e hx => ?_, fun _ _ q => q, fun _ _ _ q => q, fun b ps q => ⟨#[], by rw [q]; simp⟩⟩ (fun b o q => ?_) JP.bare fun b hb => ?_
      · by_cases hb : b ∈ frs X.stack
        · obtain ⟨sl, q⟩ := gSlot b o e hb
          exact ⟨_, q⟩
        · exact ⟨o, gKeep b o e hb fun z => hx (by simp [z])⟩
      · refine (JP.hok b o q).stay (fun c u hc r => gKeep c u r (fun hm => ?_) fun z => ?_) (fun _ r => r) fun _ _ r => r
        · have z := JP.stkFree c hm
          rcases hc with hc | hc
          · rw [hc, q] at z; cases z
          · rw [hc] at z; cases z
        · have y : H1 C = none := pC.2.1
          rcases hc with hc | hc
          · rw [← z, hc, q] at y; cases y
          · rw [← z, hc] at y; cases y
      · rw [List.mem_singleton.mp hb]
        exact ⟨f4, fun z => f2 z, f5, f6⟩
    unfold PySem.passOn
    refine wpAny_bind (wpAny_field (by show h2.get? a = _; rw [keep a aC]; exact he) hd hv1 ?_)
    rw [if_neg (show ¬ ((Value.ref T == Value.none) = true) from by simp)]
    have fin : wpAny (model X.prog X.w) X.A (setFlight (.ref a) ce.frame) (fun _ s4 => wpAny (model X.prog X.w) X.A (throw (.ref a) : Sem Value) (fun _ _ => False) X.xe s4) X.xe { s' with heap := h2 } := by
      rw [hfr, hf]
      refine HandSPX.setFlight_anyZ stB fr2 tr2 fun h4 q1 q2 q3 q4 => wpAny_throw (tk _ _ ⟨a, B2, { sI with heap := G }, pins, σ1, H1, cls, d, rfl, JG, fun b o e hb => ?_, (Heap.UpToSlots.of_keeps ndG).trans q4, .inr (.inr (by rw [hs]; exact ⟨q1, noB a k2, q2, q3⟩)), na, os, ag, w⟩)
      cases q : sI.heap.get? b with
      | none => rw [g2 b (by rw [q]; rfl)] at e; cases e
      | some o2 => rw [c1 b (by rw [nb b o2 q hb]; rfl)]; exact ndG b o e
    first
      | exact wpAny_bind (wpAny_pure (wpAny_bind fin))
      | exact wpAny_bind fin
  rw [note_same hfr]
  have sky : Sky B (X.env :: X.outer) a (Zc cls d) X.env.locals s'.heap := hs ▸ sky
  rcases sky with ⟨hB, hn, hl2, oe, vs, he, hz, hd, h1⟩ | fl | hh
  · exact HandSPX.look_newZ Zc.steady frA hl2 hf he hB hn hd h1 hz after
  · exact HandSPX.looks_onZ Zc.steady frA hf fl after
  · exact HandSPX.againZ hf hh.2.2.2 (after s'.heap hh (Heap.UpToSlots.refl _))
end
section
variable {X : Cx}
/-- [elt for target in iter if ..] where elt may raise -/
theorem pe_lcX {E : XK} {elt tg iter : Expr} {ifs : List Expr} {scope : Scope} {own : List (Str × Nat)} {pos : Pos} {wi : TI} {g : TG} {tt : TT} {te : TE} (hst : X.stack = X.env :: X.outer) (hfr : X.env.frame = some X.env.locals) (tk : Takes X (fun cls d _ H => E cls d H))
    (hc : X.calm = true) (hN : X.N.Nodup) (hi : PI X tg iter wi) (ok : BlkOk X.N X.env.scope scope own)
    (hg : ∀ (s : Shared) (H : Hp) (C : Addr) (cl : List (Str × Addr)) (fp : List Addr), PG (X.blk s H scope (compEnvC scope cl C X.env) fp) tg g) (ht : ∀ (s : Shared) (H : Hp) (C : Addr) (cl : List (Str × Addr)) (fp : List Addr), PTs (X.blk s H scope (compEnvC scope cl C X.env) fp) ifs tt)
    (he : ∀ (s : Shared) (H : Hp) (C : Addr) (cl : List (Str × Addr)) (fp : List Addr) (pn : List (Addr × Obj)) (xe : Value → Shared → Prop), Passes (L2.CX X.prog X.w) ((X.blk s H scope (compEnvC scope cl C X.env) fp).tr pn xe) E → PE ((X.blk s H scope (compEnvC scope cl C X.env) fp).tr pn xe) elt te)
    (hs : ∀ x, foldedSetIterable iter X.env x = pure x := by intro _; rfl) :
    PE X (.ListComp elt [⟨tg, iter, ifs, 0⟩] scope pos) (tLc wi g tt te (own.map (·.2))) := by
  constructor
  intro pins s σ H Q I h
  rw [eval_ListComp]
  have hfree : ∀ y ∈ scope.names, y.2 = .free → ∃ c, X.env.cells.lookup y.1 = some c := fun y hy e => by
    rcases ok.free y hy e with k | k
    · exact I.ok.has _ (.inl k)
    · exact I.ok.has _ (.inr k)
  refine comprehension_at (use := none) rfl hs (closure_ok hfree) ok.kind (fun y hy e => by rw [ok.uniq y hy, e]) (thn (hi.run pins s σ H _ I h) fun xv s1 hx => thn hx fun itv s2 h2 => ?_)
  obtain ⟨it, fp, tn, J, H2, e, I2, T, st2, f2, q⟩ := h2
  subst e
  refine wpAny_newObj_type (newEnv_comp ?_) (by show 0 ≤ sizeLine; decide)
  generalize hD : s2.heap.objs.size = D
  have hDn : H2 D = none := I2.hok.fresh (Nat.le_of_eq hD)
  obtain ⟨W, ⟨m0, w0⟩, turn⟩ := q D hDn
  generalize hs3 : ({ s2 with heap := s2.heap.push { cls := .type "list", data := .seq ([] : List Value).toArray } } : Shared) = s3
  have I3 : Inv X pins σ (upd H2 D (.lst [])) s3 := by
    rw [← hs3]
    refine I2.laid (t' := s2.toks) (fun b o e => Heap.get?_push_of_some _ e) (Nat.le_of_eq hD) ⟨Nat.zero_le _, [], 0, .nil, ?_⟩
    rw [← hD]
    exact Heap.get?_push_size _ rfl
  have h3 : s3.heap = s2.heap.push { cls := .type "list", data := .seq ([] : List Value).toArray } := by rw [← hs3]
  have sz : ∀ b ∈ fp, b < s2.heap.objs.size := fun b hb => by
    obtain ⟨o, e, _⟩ := T.obj _ _ st2 b hb
    exact Heap.lt_size e
  have f3 : ∀ b ∈ fp, FpOk X pins (upd H2 D (.lst [])) b ∧ b < s3.heap.objs.size := fun b hb => by
    have hlt := sz b hb
    refine ⟨⟨?_, (f2 b hb).2⟩, by rw [h3, Heap.size_push]; exact Nat.lt_succ_of_lt hlt⟩
    rw [upd_ne (by rw [← hD]; exact Nat.ne_of_lt hlt)]
    exact (f2 b hb).1
  have st3 : tn 0 s3.heap := T.keep _ _ _ st2 fun b _ o e => by rw [h3]; exact Heap.get?_push_of_some _ e
  have I4 := block_start I3 ok hN f3
  have pg := hg s3 (upd H2 D (.lst [])) s3.heap.objs.size (cellsFrom (s3.heap.objs.size + 1) scope.names (cloFrom X.env.cells scope.names [])) fp
  have pt := ht s3 (upd H2 D (.lst [])) s3.heap.objs.size (cellsFrom (s3.heap.objs.size + 1) scope.names (cloFrom X.env.cells scope.names [])) fp
  have pe := he s3 (upd H2 D (.lst [])) s3.heap.objs.size (cellsFrom (s3.heap.objs.size + 1) scope.names (cloFrom X.env.cells scope.names [])) fp
  show codeAny _ _ (.compStart (.ListComp elt [⟨tg, iter, ifs, 0⟩] scope pos) 0 (.ref it) (.ref D) (compEnvC scope (cellsFrom (s3.heap.objs.size + 1) scope.names (cloFrom X.env.cells scope.names [])) s3.heap.objs.size X.env)) (compEnds (model X.prog X.w) X.A X.xe none _ (.ref D) (compEnvC scope (cellsFrom (s3.heap.objs.size + 1) scope.names (cloFrom X.env.cells scope.names [])) s3.heap.objs.size X.env)) { s3 with heap := pushCells (s3.heap.push { cls := .type "dict", data := .dict #[] }) scope.names }
  have nfp : ∀ b ∈ fp, (upd H2 D (.lst [])) b = none := fun b hb => (f3 b hb).1.1
  have cF : (compEnvC scope (cellsFrom (s3.heap.objs.size + 1) scope.names (cloFrom X.env.cells scope.names [])) s3.heap.objs.size X.env).frame = X.env.frame := rfl
  generalize hce : compEnvC scope (cellsFrom (s3.heap.objs.size + 1) scope.names (cloFrom X.env.cells scope.names [])) s3.heap.objs.size X.env = ce at I4 pg pt pe cF ⊢
  have cL : ce.locals = s3.heap.objs.size := by subst hce; rfl
  generalize hH3 : upd H2 D (.lst []) = H3 at I3 I4 pg pt pe w0 nfp f3
  generalize hs4 : ({ s3 with heap := pushCells (s3.heap.push { cls := .type "dict", data := .dict #[] }) scope.names } : Shared) = s4 at I4 ⊢
  have st4 : tn 0 s4.heap := T.keep _ _ _ st3 fun b _ o e => by rw [← hs4]; exact pushCells_keeps _ _ _ _ (Heap.get?_push_of_some _ e)
  have stat : ∀ {σ' : L2.St} {H' : Hp} {s' : Shared}, Inv (X.blk s3 H3 scope ce fp) [] σ' H' s' → (∀ b ∈ fp, H' b = none) → ∀ b ∈ fp, FpOk (X.blk s3 H3 scope ce fp) [] H' b := fun {σ' H' s'} I' hn b hb =>
    ⟨hn b hb, (I'.ok.exf b hb).1, I'.ok.exfs b hb, .inl hb, fun x c e => (I'.ok.exf b hb).2 x c e, fun p hp => absurd (show p ∈ ([] : List (Addr × Obj)) ++ [] from hp) (by simp)⟩
  -- back in the def's context
  have back : ∀ {pn : List (Addr × Obj)} {σ' : L2.St} {H' : Hp} {s' : Shared}, Inv (X.blk s3 H3 scope ce fp) pn σ' H' s' → Inv X pins σ H' s' ∧ FpOk X pins H' s3.heap.objs.size ∧ ∃ m, s'.heap.Ns s3.heap.objs.size m := fun {pn σ' H' s'} I6 => by
    have I7 : Inv X pins σ H' s' := I3.call' (ch := fp) I6.os I6.base I6.hok I6.bare fun b hb => ⟨(f3 b hb).1.2.2.2.1, (f3 b hb).1.2.1, (f3 b hb).1.2.2.2.2.1, (f3 b hb).1.2.2.2.2.2⟩
    have nC : H' s3.heap.objs.size = none := by
      have z : H' ce.locals = none := I6.free
      rw [cL] at z
      exact z
    obtain ⟨m, hn, _⟩ := I6.loc
    have hn : s'.heap.Ns ce.locals m := hn
    rw [cL] at hn
    exact ⟨I7, I3.fpOk (Nat.le_refl _) nC, m, hn⟩
  have loop : codeAny (model X.prog X.w) X.A (.compLoop (.ListComp elt [⟨tg, iter, ifs, 0⟩] scope pos) 0 (.ref it) (.ref D) ce) (compEnds (model X.prog X.w) X.A X.xe none (EP X pins σ Q) (.ref D) ce) s4 := by
    refine compLoop_any (fun n s' => ∃ i H', Inv (X.blk s3 H3 scope ce fp) [] (wipe σ (own.map (·.2))) H' s' ∧ tn i s'.heap ∧ (∀ b ∈ fp, H' b = none) ∧ W i n H') ?_ m0 ⟨0, H3, I4, st4, nfp, w0⟩
    rintro n s5 ⟨i, H5, I5, st5, n5, w5⟩
    rcases turn i n H5 w5 with ⟨stop, qq⟩ | ⟨go, Nx, hNx, step⟩
    · have td := T.done (X.blk s3 H3 scope ce fp) rfl rfl rfl hc i [] s5 _ H5 (fun _ _ => False) I5 (stat I5 n5) st5 stop
      refine thnF td fun r s6 ⟨hr, I6⟩ => ?_
      subst hr
      obtain ⟨I7, f, m, hn⟩ := back I6
      rw [← cL] at hn
      refine ⟨m, hn, fun h' sb => ?_⟩
      obtain ⟨f0, f1, f2', f3', f4, f5⟩ := f
      rw [cL] at sb
      exact ⟨.ref D, H5, I7.turned (t' := s6.toks) (fun b o hb e => (sb.2 b hb).trans e) f0 f1 f3' f4 f5, rfl, qq⟩
    · have ti := T.item (X.blk s3 H3 scope ce fp) rfl rfl rfl hc i [] s5 _ H5 (fun _ _ => False) I5 (stat I5 n5) st5 go
      refine thnF ti fun r s6 ⟨u, hr, h6⟩ => ?_
      subst hr
      refine thnF h6 fun _ s7 ⟨x, H7, I7, r7, y7, st7, n7⟩ => ?_
      have I7' := I7.pinned (stat I7 n7) (T.obj _ _ st7)
      refine thnF (pg.run _ s7 _ H7 x u _ I7' r7 (step x H7 y7)) fun _ s8 ⟨σ8, H8, I8, hw8, q8⟩ => ?_
      refine thnF (pt.run _ s8 σ8 H8 _ I8 q8) fun b s9 ⟨H9, I9, q9⟩ => ?_
      have fin : ∀ {s' : Shared} {H' : Hp}, Inv (X.blk s3 H3 scope ce fp) ([] ++ pinsAt fp s7.heap) σ8 H' s' → Nx H' → ∃ m, m < n ∧ ∃ i H', Inv (X.blk s3 H3 scope ce fp) [] (wipe σ (own.map (·.2))) H' s' ∧ tn i s'.heap ∧ (∀ b ∈ fp, H' b = none) ∧ W i m H' := fun {s' H'} I' nx => by
        obtain ⟨m', hm, w'⟩ := hNx H' nx
        have pin' : ∀ b ∈ fp, ∀ o, s7.heap.get? b = some o → s'.heap.get? b = some o ∧ H' b = none := fun b hb o e =>
          let z := I'.pin (b, o) (List.mem_append_right _ (List.mem_append_right _ (mem_pinsAt hb e)))
          ⟨z.1, z.2.1⟩
        have hl : (wipe σ (own.map (·.2))).length = σ8.length := by rw [← hw8, wipe_length]
        refine ⟨m', hm, i + 1, H', (I'.unpinned (pins := [])).weak hl (fun j v e => ?_), T.keep _ _ _ st7 fun b hb o e => (pin' b hb o e).1, fun b hb => ?_, w'⟩
        · rw [← hw8] at e
          exact (wipe_some e).1
        · obtain ⟨o, e, _⟩ := T.obj _ _ st7 b hb
          exact (pin' b hb o e).2
      cases b with
      | false =>
        simp only [Bool.false_eq_true, if_false] at q9 ⊢
        exact fin I9 q9
      | true =>
        simp only [if_true] at q9 ⊢
        have okB := I9.ok
        have pass : Passes (L2.CX X.prog X.w) ((X.blk s3 H3 scope ce fp).tr ((X.blk s3 H3 scope ce fp).pn ++ ([] ++ pinsAt fp s7.heap)) (notedBy (model X.prog X.w) X.A ce fun e s' => compEnds (model X.prog X.w) X.A X.xe none (EP X pins σ Q) (.ref D) ce (.error e) s')) E := by
          intro pn1 σ1 H1 s1 e1 s1' J c
          obtain ⟨K7, f, m, hn⟩ := back (J.ofTry okB)
          obtain ⟨oC, es, ep, eC, ed, er⟩ := hn
          exact comp_out (m := m) hst hfr tk K7 f eC (fun v z => by rw [ed] at z; cases z) ⟨oC, es, ep, eC, ed, er⟩ cL cF c
        refine wpAny_mono ((pe _ _ pass).run [] s9 σ8 H9 _ (I9.toTry _) q9) (fun z s10 ⟨yv, H10, I10, r10, acc, hD10, hz10, nx⟩ => ?_) fun _ _ h' => h'
        exact app_ok (X := X.blk s3 H3 scope ce fp) (I10.ofTry okB) hD10 hz10 r10 fun s11 I11 => fin I11 nx
  exact codeAny_compStart_list loop (T.self X.A 0 _ _ _ st4 loop)
end
theorem pre1 (c : Nat) (r : List Nat) : TL.pre [32] (c :: r) = decide (c = 32) := by
  by_cases h : c = 32
  · subst h; simp [TL.pre]
  · rw [decide_eq_false h]
    simp [TL.pre]
    exact fun z => h z
theorem spl_bound : ∀ (l acc : List Nat), (TL.spl [32] 0 acc l).length ≤ l.length + 1 ∧ ∀ w ∈ TL.spl [32] 0 acc l, w.length ≤ acc.length + l.length ∧ ∀ c ∈ w, c ∈ acc ∨ c ∈ l
  | [], acc => by
    rw [TL.spl_nil]
    exact ⟨by simp, fun w hw => by rw [List.mem_singleton.mp hw]; exact ⟨by simp, fun c hc => .inl hc⟩⟩
  | c :: r, acc => by
    by_cases h : c = 32
    · rw [TL.spl_hit (by rw [pre1]; exact decide_eq_true h)]
      obtain ⟨h1, h2⟩ := spl_bound r []
      refine ⟨by simp only [List.length_cons, List.length_nil]; show (TL.spl [32] 0 [] r).length + 1 ≤ _; omega, fun w hw => ?_⟩
      rcases List.mem_cons.mp hw with e | e
      · rw [e]
        exact ⟨by omega, fun d hd => .inl hd⟩
      · obtain ⟨z1, z2⟩ := h2 w e
        refine ⟨by rw [List.length_cons]; simp at z1; omega, fun d hd => .inr ?_⟩
        rcases z2 d hd with y | y
        · cases y
        · exact List.mem_cons_of_mem _ y
    · rw [TL.spl_miss (by rw [pre1]; exact decide_eq_false h)]
      obtain ⟨h1, h2⟩ := spl_bound r (acc ++ [c])
      refine ⟨by rw [List.length_cons]; omega, fun w hw => ?_⟩
      obtain ⟨z1, z2⟩ := h2 w hw
      refine ⟨by rw [List.length_cons]; rw [List.length_append] at z1; simp at z1; omega, fun d hd => ?_⟩
      rcases z2 d hd with y | y
      · rcases List.mem_append.mp y with x | x
        · exact .inl x
        · rw [List.mem_singleton.mp x]; exact .inr List.mem_cons_self
      · exact .inr (List.mem_cons_of_mem _ y)
theorem wds_len (a : List Nat) : (wds a).length ≤ a.length + 1 := (spl_bound a []).1
theorem wds_le {a w : List Nat} (h : w ∈ wds a) : w.length ≤ a.length := by have := ((spl_bound a []).2 w h).1; simpa using this
section
variable {K : PySem.W.Frag} {g : TG} {tt : TT} {te : TE} {vs : List Nat} {σ : L2.St} {H : Hp} {Q : VK}
/-- [e for x in list] by turns that leave the heap or raise -/
theorem c_lPX {α : Type} {a : Addr} (items : List α) (v : α → V) (f : α → V) (P : α → Prop) (ha : SqL K H a (items.map v)) (h6 : items.length ≤ 1000000)
    (step : ∀ c H', c ∈ items → Same H H' → ∀ (Yk : VK) (N : Hp → Prop), (P c → ∀ H4, Same H' H4 → Yk (f c) H4) →
      g (v c) (wipe σ vs) H' fun σ2 H2 => wipe σ2 vs = wipe σ vs ∧ tt σ2 H2 fun b H3 => if b = true then te σ2 H3 Yk else N H3)
    (fin : (∀ c ∈ items, P c) → ∀ D H', H D = none → Same H H' → H' D = some (.lst (items.map f)) → Q (.ref D) H') : LcJ (Itl K a) g tt te vs σ H Q := by
  refine lcG_ok (walk_list (xs := items.map v)) fun D nD => ⟨fun i acc H' => acc = (items.take i).map f ∧ Same H H' ∧ ∀ c ∈ items.take i, P c, ⟨rfl, same_new nD, fun _ z => by simp at z⟩, fun i acc H' _ _ z => z.2.1.seq ha, ?_, ?_⟩
  · rintro i acc x H' H'' hi hll hD ⟨rfl, sm, hp⟩ ⟨rfl, hx⟩
    rw [List.length_map] at hi
    obtain ⟨c, hc⟩ : ∃ c, items[i]? = some c := ⟨items[i]'(by omega), List.getElem?_eq_getElem (by omega)⟩
    rw [List.getElem?_map, hc] at hx
    have e : v c = x := Option.some.inj hx
    subst e
    refine step c _ (List.mem_of_getElem? hc) sm _ _ fun pc H4 s4 => ?_
    have et : items.take (i + 1) = items.take i ++ [c] := by rw [List.take_add_one, hc]; rfl
    refine lc_put (s4 _ _ hD) hll (by omega) ⟨?_, (sm.trans s4).updN nD, ?_⟩
    · rw [et, List.map_append]; rfl
    · rw [et]
      intro d hd
      rcases List.mem_append.mp hd with z | z
      · exact hp d z
      · rw [List.mem_singleton.mp z]; exact pc
  · rintro acc H' _ hD ⟨rfl, sm, hp⟩
    rw [List.length_map, List.take_length] at hp hD
    exact fin hp D H' nD sm hD
end
end Lv

set_option Elab.async false
set_option linter.all false
set_option maxRecDepth 100000
set_option maxHeartbeats 2000000
/-! repr of lists with odd things in them, dict(enumerate(list)), str(list), sums and compares of odd things -/
namespace Lv
open PySem PySem.Spec PyProof.Rows L2 SX
/-- data that can be shown, whole numbers however long -/
structure Fm (w k : Nat) (d : PyData) : Prop where
  sh : d.showable = true
  lv : d.leavesShort 1921 = true
  wt : d.bulk ≤ w
  dp : d.depth ≤ k
theorem Fm.mono {w k w' k' : Nat} {d : PyData} (h : Fm w k d) (h1 : w ≤ w') (h2 : k ≤ k') : Fm w' k' d := ⟨h.sh, h.lv, Nat.le_trans h.wt h1, Nat.le_trans h.dp h2⟩
theorem fm_non {w k : Nat} : Fm w k .none := ⟨rfl, rfl, by simp [PyData.bulk], by simp [PyData.depth]⟩
theorem fm_bl {w k : Nat} {b : Bool} : Fm w k (.bool b) := ⟨rfl, rfl, by simp [PyData.bulk], by simp [PyData.depth]⟩
theorem fm_int {w k : Nat} {i : Int} (h : i.natAbs.log2 < 1920) : Fm w k (.int i) := by
  refine ⟨decide_eq_true h, ?_, by simp [PyData.bulk], by simp [PyData.depth]⟩
  show decide ((PyData.shown (.int i)).length ≤ 1921) = true
  exact decide_eq_true (int_text_len_1921 (i := i) h)
theorem fm_str {w k : Nat} {l : List Nat} (h : Chr l) (hl : l.length ≤ w) : Fm w k (.str (S l)) := by
  refine ⟨rfl, ?_, ?_, by simp [PyData.depth]⟩
  · show ((S l).cps.toList.all fun c => decide (c < 16 ^ 8)) = true
    rw [List.all_eq_true]
    intro c hc
    have := h c hc
    exact decide_eq_true (by omega)
  · rw [PyData.bulk]
    simpa using hl
theorem fm_all {w k : Nat} : ∀ {ds : List PyData}, (∀ d ∈ ds, Fm w k d) → PyData.showableAll ds = true ∧ PyData.leavesShortAll 1921 ds = true ∧ PyData.bulkAll ds ≤ ds.length * (w + 1) ∧ PyData.depthAll ds ≤ k
  | [], _ => ⟨rfl, rfl, by simp [PyData.bulkAll], by simp [PyData.depthAll]⟩
  | d :: ds, h => by
    obtain ⟨a1, a2, a3, a4⟩ := h d List.mem_cons_self
    obtain ⟨b1, b2, b3, b4⟩ := fm_all fun e he => h e (List.mem_cons_of_mem _ he)
    refine ⟨by rw [PyData.showableAll, a1, b1]; rfl, by rw [PyData.leavesShortAll, a2, b2]; rfl, ?_, ?_⟩
    · rw [PyData.bulkAll, List.length_cons, Nat.add_mul, Nat.one_mul]
      omega
    · rw [PyData.depthAll]
      omega
theorem fm_lst {w k : Nat} {ds : List PyData} (h : ∀ d ∈ ds, Fm w k d) : Fm (ds.length * (w + 1)) (k + 1) (.list ds) := by
  obtain ⟨a1, a2, a3, a4⟩ := fm_all h
  exact ⟨by rw [PyData.showable]; exact a1, by rw [PyData.leavesShort]; exact a2, by rw [PyData.bulk]; exact a3, by rw [PyData.depth]; omega⟩
theorem fm_tup {w k : Nat} {ds : List PyData} (h : ∀ d ∈ ds, Fm w k d) : Fm (ds.length * (w + 1)) (k + 1) (.tuple ds) := by
  obtain ⟨a1, a2, a3, a4⟩ := fm_all h
  exact ⟨by rw [PyData.showable]; exact a1, by rw [PyData.leavesShort]; exact a2, by rw [PyData.bulk]; exact a3, by rw [PyData.depth]; omega⟩
theorem fm_dk {w : Nat} : ∀ {ks : List (Key × Int)}, (∀ p ∈ ks, Fm w 0 (keyD p.1) ∧ Fm w 0 (.int p.2)) → PyData.showableKv (ks.map fun p => (keyD p.1, PyData.int p.2)) = true ∧ PyData.leavesShortKv 1921 (ks.map fun p => (keyD p.1, PyData.int p.2)) = true ∧
    PyData.bulkKv (ks.map fun p => (keyD p.1, PyData.int p.2)) ≤ ks.length * (2 * w + 2) ∧ PyData.depthKv (ks.map fun p => (keyD p.1, PyData.int p.2)) ≤ 0
  | [], _ => ⟨rfl, rfl, by simp [PyData.bulkKv], by simp [PyData.depthKv]⟩
  | p :: ks, h => by
    obtain ⟨⟨a1, a2, a3, a4⟩, ⟨c1, c2, c3, c4⟩⟩ := h p List.mem_cons_self
    obtain ⟨b1, b2, b3, b4⟩ := fm_dk fun e he => h e (List.mem_cons_of_mem _ he)
    refine ⟨by rw [List.map_cons, PyData.showableKv, a1, b1, c1]; rfl, by rw [List.map_cons, PyData.leavesShortKv, a2, b2, c2]; rfl, ?_, ?_⟩
    · rw [List.map_cons, PyData.bulkKv, List.length_cons, Nat.add_mul, Nat.one_mul]
      omega
    · rw [List.map_cons, PyData.depthKv]
      omega
theorem fm_dict {w : Nat} {ks : List (Key × Int)} (h : ∀ p ∈ ks, Fm w 0 (keyD p.1) ∧ Fm w 0 (.int p.2)) : Fm (ks.length * (2 * w + 2)) 1 (dkD ks) := by
  obtain ⟨a1, a2, a3, a4⟩ := fm_dk h
  exact ⟨by unfold dkD; rw [PyData.showable]; exact a1, by unfold dkD; rw [PyData.leavesShort]; exact a2, by unfold dkD; rw [PyData.bulk]; exact a3, by unfold dkD; rw [PyData.depth]; omega⟩
theorem Fm.size {d : PyData} (h : Fm 8000 20 d) : d.shown.length ≤ sizeLine := by
  have h1 := PyData.shown_le_bulk 1921 (by decide) d h.lv
  have h2 := h.wt
  have h3 : (1921 + 2) * d.bulk ≤ (1921 + 2) * 8000 := Nat.mul_le_mul_left _ h2
  rw [sizeLine_eq]
  omega
/-- things' data, each by itself -/
inductive RXs (K : PySem.W.Frag) (H : Hp) : List V → List PyData → Prop where
  | nil : RXs K H [] []
  | cons {v : V} {vs : List V} {d : PyData} {ds : List PyData} (h : RX K H v d) (t : RXs K H vs ds) : RXs K H (v :: vs) (d :: ds)
theorem RXs.same {K : PySem.W.Frag} {H H' : Hp} {vs : List V} {ds : List PyData} (h : RXs K H vs ds) (s : Same H H') : RXs K H' vs ds := by
  induction h with
  | nil => exact .nil
  | cons h t ih => exact .cons (h.same s) ih
/-- a thing's data: plain, a dict, or a list of such -/
inductive RY (K : PySem.W.Frag) (H : Hp) : V → PyData → Prop where
  | rx {v : V} {d : PyData} (h : RX K H v d) : RY K H v d
  | ls {a : Addr} {xs : List V} {ds : List PyData} (h : SqL K H a xs) (t : RXs K H xs ds) : RY K H (.ref a) (.list ds)
section
variable {X : Cx} {pins : List (Addr × Obj)} {σ : L2.St} {H : Hp} {s : Shared}
theorem RX.reads (I : Inv X pins σ H s) {v : V} {d : PyData} {u : Value} (h : RX X.K H v d) (r : RelV v u) : ∃ as, Reads s.heap u d as ∧ (d.hasDict = true → sysModules ∉ as) := by
  cases h with
  | dp hd nd =>
    obtain ⟨as, rd⟩ := Dp.reads I d v u hd r
    exact ⟨as, rd, fun z => by rw [nd] at z; cases z⟩
  | @dk a ks hd =>
    cases (show u = Value.ref a from r)
    have O : ObjOk X.prog X.w H s.heap a (.dK (ks.map fun p => (p.1, .int p.2))) := I.hok a _ hd
    obtain ⟨_, ns, vs, kv, o, es, ep, ho, ex, hda, _, pr, _⟩ := O
    obtain ⟨r1, r2⟩ := kv_reads (h := s.heap) kv pr
    refine ⟨_, Reads.dict ho ex.1 hda r1 r2, fun _ hm => ?_⟩
    rcases List.mem_cons.mp hm with z | z
    · rw [← z] at ns
      exact absurd ns (by decide)
    · cases z
theorem RXs.repr (I : Inv X pins σ H s) : ∀ {vs : List V} {ds : List PyData} {us : List Value}, RXs X.K H vs ds → Vals vs us → PyData.showableAll ds = true → (∀ t ∈ PyData.shownAll ds, t.length ≤ sizeLine) →
    ∃ bs, ReadAtMost s.heap (PyData.depthAll ds) bs ∧ ReprAllK X.prog X.w bs s.heap (PyData.depthAll ds) us (PyData.shownAll ds)
  | _, _, _, .nil, r, _, _ => by
    cases r
    exact ⟨[], (fun _ h => nomatch h), by simp only [PyData.shownAll]; exact .nil⟩
  | _, _, _, .cons (d := d) (ds := ds) h t, r, hs, hz => by
    cases r with
    | cons r1 r2 =>
      have hs' : d.showable = true ∧ PyData.showableAll ds = true := by simpa [PyData.showableAll] using hs
      obtain ⟨as, rd, nm⟩ := h.reads I r1
      obtain ⟨b1, hb1, k1⟩ := ReprK.of_reads (prog := X.prog) (w := X.w) rd hs'.1 nm (hz _ (by simp only [PyData.shownAll]; exact List.mem_cons_self ..))
      obtain ⟨b2, hb2, k2⟩ := RXs.repr I t r2 hs'.2 (fun t ht => hz t (by simp only [PyData.shownAll]; exact List.mem_cons_of_mem _ ht))
      refine ⟨b1 ++ b2, ?_, ?_⟩
      · intro b hm
        simp only [PyData.depthAll]
        rcases List.mem_append.mp hm with hm | hm
        · obtain ⟨d', as', r', hd'⟩ := hb1 b hm
          exact ⟨d', as', r', Nat.le_trans hd' (Nat.le_max_left _ _)⟩
        · obtain ⟨d', as', r', hd'⟩ := hb2 b hm
          exact ⟨d', as', r', Nat.le_trans hd' (Nat.le_max_right _ _)⟩
      · simp only [PyData.depthAll, PyData.shownAll]
        exact .cons ((k1.more fun b hb => List.mem_append_left _ hb).level_le (Nat.le_max_left _ _)) (k2.more_le (fun b hb => List.mem_append_right _ hb) (Nat.le_max_right _ _))
theorem RXs.readsAll (I : Inv X pins σ H s) : ∀ {vs : List V} {ds : List PyData} {us : List Value}, RXs X.K H vs ds → Vals vs us → ∃ as, ReadsAll s.heap us ds as
  | _, _, _, .nil, r => by cases r; exact ⟨_, .nil⟩
  | _, _, _, .cons h t, r => by
    cases r with
    | cons r1 r2 =>
      obtain ⟨as, rd, _⟩ := h.reads I r1
      obtain ⟨bs, rs⟩ := RXs.readsAll I t r2
      exact ⟨_, .cons rd rs⟩
end
def rRepr3 (K : PySem.W.Frag) : List V → Hp → VK → Prop := fun xs H Q => ∃ (v : V) (d : PyData), xs = [v] ∧ RY K H v d ∧ Fm 8000 20 d ∧ Q (.str (S (shw d))) H
section
variable {X : Cx}
theorem call_repr3 (guard : X.A.guards = some []) (hu : X.A.units + 64 < cLine) : CallR X (.builtin "repr") (rRepr3 X.K) := by
  intro pins s σ H xs us Q I r h
  obtain ⟨v, d, rfl, ry, fm, q⟩ := h
  have sz := fm.size
  have dp := fm.dp
  rw [shw_S] at q
  obtain ⟨u, rfl, ru⟩ := vals1 r
  cases ry with
  | rx rx =>
    obtain ⟨as, rd, nm⟩ := rx.reads I ru
    cases rd with
    | none => exact P.repr_of_none ⟨.str _, H, I.tok _, ⟨_, rfl⟩, q⟩
    | bool b => exact P.repr_of_bool ⟨.str _, H, I.tok _, ⟨_, rfl⟩, q⟩
    | int i t => exact P.repr_of_int (by simpa [PyData.showable] using fm.sh) ⟨.str _, H, I.tok _, ⟨_, rfl⟩, q⟩
    | str x t => exact P.repr_of_str (hsz := sz) ⟨.str _, H, I.tok _, ⟨_, rfl⟩, q⟩
    | list h1 h2 h3 h4 => exact repr_of_reads' (.list h1 h2 h3 h4) fm.sh nm guard (by omega) (fun _ _ e => e) (fun h' u tk hk => ⟨.str _, H, I.kept hk, ⟨_, rfl⟩, q⟩) sz
    | tuple h1 h2 h3 h4 => exact repr_of_reads' (.tuple h1 h2 h3 h4) fm.sh nm guard (by omega) (fun _ _ e => e) (fun h' u tk hk => ⟨.str _, H, I.kept hk, ⟨_, rfl⟩, q⟩) sz
    | dict h1 h2 h3 h4 h5 => exact repr_of_reads' (.dict h1 h2 h3 h4 h5) fm.sh nm guard (by omega) (fun _ _ e => e) (fun h' u tk hk => ⟨.str _, H, I.kept hk, ⟨_, rfl⟩, q⟩) sz
  | @ls a ys ds hs hx =>
    cases (show u = Value.ref a from ru)
    obtain ⟨its, rv, ⟨o, n, ho, hc, _, hd⟩, _⟩ := I.list hs
    have hz' : (listText (PyData.shownAll ds)).length ≤ sizeLine := by simpa only [PyData.shown] using sz
    obtain ⟨as, h4⟩ := hx.readsAll I rv
    obtain ⟨bs, hb, hk⟩ := hx.repr I rv (by have := fm.sh; rw [PyData.showable] at this; exact this) (fun t ht => Nat.le_trans (listText_mem_le ht) hz')
    have hna : a ∉ bs := not_mem_of_deeper (.list ho hc hd h4) (by simp only [PyData.depth]; omega) hb
    simp only [PyData.depth] at dp
    simp only [PyData.shown] at q
    refine call_repr_slot (by omega) ⟨o, ho, hc⟩ F.slot_list_repr.toG ?_
    cases its with
    | nil =>
      cases h4
      simp only [PyData.shownAll, listText_nil] at q
      exact call_list_repr_empty ⟨o, ho, hc⟩ ho hd ⟨_, _, rfl, .str _, H, I.tok _, ⟨_, rfl⟩, q⟩
    | cons x l =>
      exact call_list_reprK ho hc hd hna (by simpa using hk.length_eq) (fun i y e => hk.item i y (by simpa using e)) guard (fun b _ => Clear.nil b) (by show X.A.units + 1 + (PyData.depthAll ds + 1) < cLine; omega) (fun _ _ e => e) (fun h' u tk hk => ⟨_, _, rfl, .str _, H, I.kept hk, ⟨_, rfl⟩, q⟩) hz'
/-- str(list) of whole numbers -/
def rStrL (K : PySem.W.Frag) : List V → Hp → VK → Prop := fun xs H Q => ∃ (a : Addr) (ns : List Int), xs = [.ref a] ∧ SqL K H a (ns.map V.int) ∧ ns.length ≤ 2000 ∧ (∀ n ∈ ns, n.natAbs.log2 < 1920) ∧ Q (.str (S (shw (dInts ns)))) H
theorem call_strL (guard : X.A.guards = some []) (hu : X.A.units + 64 < cLine) : CallR X (.type "str") (rStrL X.K) := by
  intro pins s σ H xs us Q I r h
  obtain ⟨a, ns, rfl, hs, hl, hn, q⟩ := h
  rw [shw_S] at q
  obtain ⟨u, rfl, ru⟩ := vals1 r
  cases (show u = Value.ref a from ru)
  obtain ⟨as, rd⟩ := Dp.reads I (dInts ns) (.ref a) (.ref a) (.lst hs (dp_ints ns)) rfl
  have nd : (dInts ns).hasDict = false := by unfold dInts; rw [PyData.hasDict]; exact nodict_ints ns
  have dpt : (dInts ns).depth ≤ 1 := by unfold dInts; rw [PyData.depth, depth_ints0]; omega
  exact str_of_reads rd (by unfold dInts; rw [PyData.showable]; exact show_ints ns hn) (fun z => by rw [nd] at z; cases z) guard (by omega) (fun _ _ e => e) (fun h' u tk hk => ⟨.str _, H, I.kept hk, ⟨_, rfl⟩, q⟩) (size_ints hl hn)
/-- a whole number or a truth, and a whole number -/
def rAddBI : R2 := fun x y H Q => ∃ j : Int, y = .int j ∧ ((∃ i : Int, x = .int i ∧ Q (.int (i + j)) H) ∨ ∃ b : Bool, x = .bl b ∧ Q (.int (b2i b + j)) H)
theorem op_addBI : OpR X (binaryOp .Add) rAddBI := by
  intro pins s σ H x y v u Q I rx ry h
  obtain ⟨j, rfl, ⟨i, rfl, q⟩ | ⟨b, rfl, q⟩⟩ := h
  · exact op_add pins s σ H _ _ v u Q I rx ry ⟨i, j, rfl, rfl, q⟩
  · obtain ⟨t, rfl⟩ := ry
    cases (show v = Value.bool b from rx)
    exact IntBool.add_bool_int ⟨.int (b2i b + j), H, I.tok _, ⟨_, rfl⟩, q⟩
/-- any thing and a whole number: some truth -/
inductive Eqb (K : PySem.W.Frag) (H : Hp) : V → Prop where
  | non : Eqb K H .non
  | bl (b : Bool) : Eqb K H (.bl b)
  | int (i : Int) : Eqb K H (.int i)
  | str (x : Str) : Eqb K H (.str x)
  | lst {a : Addr} {xs : List V} (h : SqL K H a xs) : Eqb K H (.ref a)
  | tup {a : Addr} {xs : List V} (h : SqT K H a xs) : Eqb K H (.ref a)
  | dK {a : Addr} {ks : List (Key × V)} (h : H a = some (.dK ks)) : Eqb K H (.ref a)
def rEqA (K : PySem.W.Frag) : R2 := fun x y H Q => Eqb K H x ∧ ∃ j : Int, y = .int j ∧ ∀ b, Q (.bl b) H
theorem dict_eq_declines_int (l : Addr) (es : Array DictEntry) (n : Nat) (dd : Option Addr) (sl : Array (Option Value)) (b : Int) (u : Tok) :
    Meets (Builtin.«dict.__eq__» ⟨[.ref l, .int b u], []⟩) (fun _ R s => s.heap.get? l = some { cls := .type "dict", dict := dd, data := .dict es n, slots := sl } ∧ R (.ok (.ret .notImplemented)) s) :=
  .of_wp fun prog w A R s h => by obtain ⟨hp, g, d, tk, os⟩ := s; obtain ⟨hl, h⟩ := h; have f1 := F.sub_int_dict; wp_walk using wpAny_loadPart' hl; exact ⟨_, rfl, h⟩
theorem int_eq_declines_dict (b : Int) (u : Tok) (l : Addr) (c : Value) (es : Array DictEntry) (n : Nat) (dd : Option Addr) (sl : Array (Option Value)) :
    Meets (Builtin.«int.__eq__» ⟨[.int b u, .ref l], []⟩) (fun _ R s => s.heap.get? l = some { cls := c, dict := dd, data := .dict es n, slots := sl } ∧ R (.ok (.ret .notImplemented)) s) :=
  .of_wp fun prog w A R s h => by obtain ⟨hp, g, d, tk, os⟩ := s; obtain ⟨hl, h⟩ := h; wp_walk using wpAny_loadPart' hl, wpAny_load hl; exact ⟨_, rfl, h⟩
theorem rc_dict_int {A : Around} {s : Shared} {l : Addr} {o : Obj} {es : Array DictEntry} {n : Nat} (b : Int) (u : Tok) (ho : s.heap.get? l = some o) (hc : o.cls = .type "dict") (hd : o.data = .dict es n) (hu : A.units < cLine) : SeqAt.RcAt A s (.ref l) (.int b u) false := fun prog w E Q h => by
  obtain ⟨cls, dd, data, sl⟩ := o
  simp only at hc hd
  subst hc hd
  exact SeqAt.rc_eq_decline_or (k := false) ⟨_, ho, rfl⟩ (typeIs_int s b u) (by decide) F.sub_int_dict F.slot_dict_eq F.slot_int_eq_refl
    (fun _ hq => call_meets F.slot_dict_eq ⟨_, ho, rfl⟩ F.entry_dict_eq (F.args_dict_eq_2 _ _) (dict_eq_declines_int l es n dd sl b u) ⟨ho, hq⟩)
    (fun _ hq => call_meets F.slot_int_eq_refl (typeIs_int s b u) F.entry_int_eq (F.args_int_eq_2 _ _) (int_eq_declines_dict b u l (.type "dict") es n dd sl) ⟨ho, hq⟩)
    (fun _ hq => wpAny_of_eq (rfl : isSame (.ref l) (.int b u) = pure false) hq) (.inr hu) h
theorem op_eqA (hu : X.A.units + 64 < cLine) : OpR X (compareOp .Eq) (rEqA X.K) := by
  intro pins s σ H x y v u Q I rx ry h
  obtain ⟨hx, j, rfl, q⟩ := h
  obtain ⟨t, rfl⟩ := ry
  have hu : X.A.units < cLine := by omega
  cases hx with
  | non => cases (show v = Value.none from rx); exact SeqAt.RcAt.none_int j t _ _ _ _ ⟨.bl _, H, I, rfl, q _⟩
  | bl b => cases (show v = Value.bool b from rx); exact SeqAt.RcAt.bool_int b j t _ _ _ _ ⟨.bl _, H, I, rfl, q _⟩
  | int i => obtain ⟨t2, rfl⟩ := rx; exact SeqAt.RcAt.int_int i t2 j t _ _ _ _ ⟨.bl _, H, I, rfl, q _⟩
  | str i => obtain ⟨t2, rfl⟩ := rx; exact SeqAt.RcAt.str_int i t2 j t _ _ _ _ ⟨.bl _, H, I, rfl, q _⟩
  | @lst a xs hs =>
    cases (show v = Value.ref a from rx)
    obtain ⟨its, rv, ⟨o, n, ho, hc, _, hd⟩, _⟩ := I.list hs
    exact SeqAt.RcAt.list_int j t ⟨o, ho, hc, n, hd⟩ hu _ _ _ _ ⟨.bl _, H, I, rfl, q _⟩
  | @tup a xs hs =>
    cases (show v = Value.ref a from rx)
    obtain ⟨its, rv, ⟨o, ho, hc, n, hd⟩, _⟩ := I.tuple hs
    exact SeqAt.RcAt.tuple_int j t ⟨o, ho, hc, n, hd⟩ hu _ _ _ _ ⟨.bl _, H, I, rfl, q _⟩
  | @dK a ks hs =>
    cases (show v = Value.ref a from rx)
    have O : ObjOk X.prog X.w H s.heap a (.dK ks) := I.hok a _ hs
    obtain ⟨_, ns, vs, kv, o, es, ep, ho, ex, hda, _, pr, _⟩ := O
    exact rc_dict_int j t ho ex.1 hda hu _ _ _ _ ⟨.bl _, H, I, rfl, q _⟩
/-- tuple(list) -/
def rTupL (K : PySem.W.Frag) : List V → Hp → VK → Prop := fun xs H Q => ∃ p ys, xs = [.ref p] ∧ SqL K H p ys ∧ ∀ l, H l = none → Q (.ref l) (upd H l (.tup ys))
theorem call_tupL : CallR X (.type "tuple") (rTupL X.K) := by
  intro pins s σ H xs us Q I r h
  obtain ⟨p, ys, e, hs, q⟩ := h
  exact call_tuple_of pins s σ H xs us Q I r ⟨p, ys, e, .inl ⟨hs, q⟩⟩
end
theorem v_tupL {K : PySem.W.Frag} {p : Addr} {ys : List V} {H : Hp} {Q : VK} (h : SqL K H p ys) (q : ∀ l H', H l = none → Same H H' → H' l = some (.tup ys) → Q (.ref l) H') : rTupL K [.ref p] H Q := ⟨p, ys, rfl, h, fun l n => q l _ n (same_new n) upd_same⟩
/-! dict(enumerate(list)) -/
def enK (xs : List V) : List (Key × V) := (List.range xs.length).zipWith (fun (i : Nat) x => (.inl (i : Int), x)) xs
def rDictEn (K : PySem.W.Frag) : V → Hp → VK → Prop := fun v H Q => ∃ (a : Addr) (xs : List V), v = .ref a ∧ SqL K H a xs ∧ ∀ p H', H p = none → Same H H' → H' p = some (.dK (enK xs)) → Q (.ref p) H'
theorem i_dictEn {K : PySem.W.Frag} {a : Addr} {xs : List V} {H : Hp} {Q : VK} (h : SqL K H a xs) (q : ∀ p H', H p = none → Same H H' → H' p = some (.dK (enK xs)) → Q (.ref p) H') : rDictEn K (.ref a) H Q := ⟨a, xs, rfl, h, q⟩
def tDictEn (K : PySem.W.Frag) (te : TE) : TE := fun σ H Q => te σ H fun v H1 => rDictEn K v H1 Q
theorem enK_kv : ∀ {xs : List V} {us : List Value} (k : Nat), Vals xs us → KV ((List.range' k xs.length).zipWith (fun (i : Nat) x => ((.inl (i : Int) : Key), x)) xs) ((List.range' k us.length).zipWith (fun (i : Nat) x => ((.inl (i : Int) : Key), x)) us)
  | [], _, k, .nil => .nil
  | x :: xs, _, k, .cons r t => by
    rw [List.length_cons, List.length_cons, List.range'_succ, List.range'_succ]
    exact .cons ⟨rfl, r⟩ (enK_kv (k + 1) t)
theorem en_keys (us : List Value) : (((List.range' 0 us.length).zipWith (fun (i : Nat) x => ((.inl (i : Int) : Key), x)) us).map (·.1)).Nodup := by
  have e : ∀ (us : List Value) (k : Nat), ((List.range' k us.length).zipWith (fun (i : Nat) x => ((.inl (i : Int) : Key), x)) us).map (·.1) = (List.range' k us.length).map fun i : Nat => (.inl (i : Int) : Key) := by
    intro us
    induction us with
    | nil => intro k; rfl
    | cons u us ih =>
      intro k
      rw [List.length_cons, List.range'_succ, List.zipWith_cons_cons, List.map_cons, List.map_cons, ih]
  rw [e]
  refine List.pairwise_map.mpr ((List.nodup_range' (s := 0) (n := us.length)).imp fun {i j} h z => h ?_)
  have := Sum.inl.inj z
  omega
section
variable {X : Cx} {e : Expr} {te : TE} {p p2 pos pos2 : Pos}
theorem pe_dictEn (hc : X.calm = true) (he : PE X e te) (hg : Gl X "dict") (hm : X.mg "dict" = none) (hg2 : Gl X "enumerate") (hm2 : X.mg "enumerate" = none)
    (hs : starEach [.Call (.Name "enumerate" p2) [e] [] pos2] X.env = (false, eval (.Call (.Name "enumerate" p2) [e] [] pos2) X.env) :: starEach [] X.env := by rfl)
    (hs2 : starEach [e] X.env = (false, eval e X.env) :: starEach [] X.env := by rfl) :
    PE X (.Call (.Name "dict" p) [.Call (.Name "enumerate" p2) [e] [] pos2] [] pos) (tDictEn X.K te) := by
  refine ⟨fun pins s σ H Q I hq => ?_⟩
  refine wpAny_Call_Name_kw (ld_blt I hg hm (by decide +kernel : bootBuiltins "dict" = some (.type "dict")) ?_)
  refine PyProof.Rows.callWith_type1 ?_ hs rfl
  rw [hs]
  show wpAny _ _ (spliced ((false, eval (.Call (.Name "enumerate" p2) [e] [] pos2) X.env) :: backTo pos (starEach [] X.env))) _ _ s
  refine Calls.spliced_cons ?_
  refine wpAny_Call_Name_kw (ld_blt I hg2 hm2 (by decide +kernel : bootBuiltins "enumerate" = some (.type "enumerate")) ?_)
  refine PyProof.Rows.callWith_type1 ?_ hs2 rfl
  rw [hs2]
  show wpAny _ _ (spliced ((false, eval e X.env) :: backTo pos2 (starEach [] X.env))) _ _ s
  refine Calls.spliced_cons (thn (he.run pins s σ H _ I hq) fun u s1 ⟨x, H1, I1, rx, q1⟩ => ?_)
  obtain ⟨a, xs, rfl, hL, q⟩ := q1
  obtain rfl : u = Value.ref a := rx
  obtain ⟨its, r, ht, hz⟩ := I1.list hL
  refine Calls.spliced_nil ?_
  refine call_enumerate_list ht.isList fun h' hE hI hsz hk => ?_
  refine Calls.spliced_nil ?_
  have I2 : Inv X pins σ H1 { s1 with heap := h' } := I1.kept (t' := s1.toks) hk
  have hL2 : h'.IsList a its.toArray := ht.isList.at fun o y => hk _ o y
  have la : a < s1.heap.objs.size := by obtain ⟨_, y, _⟩ := ht.isList; exact Heap.lt_size y
  have hlen := r.length
  refine PySem.call_dict_pairs (s := { s1 with heap := h' }) (knd := mixKind X.prog X.w) (kvs := (List.range' 0 its.length).zipWith (fun (i : Nat) x => ((.inl (i : Int) : Key), x)) its)
    (PairArg.enumerate (s1.heap.objs.size + 1) s1.heap.objs.size a (Nat.succ_ne_self _) (Nat.ne_of_lt (Nat.lt_succ_of_lt la)) (Nat.ne_of_lt la) its.toArray) (I1.ok.hd hc) ⟨⟨_, hE⟩, hI, hL2⟩ ⟨by simp, fun i key v ⟨⟨t, ek⟩, ev⟩ => ?_⟩ (by rw [List.size_toArray]; omega) fun h2 tk hd hk2 => ?_
  · subst ek
    refine ⟨.inl (i : Int), ?_, kV_is (P := X.prog) (w := X.w) (k := .inl (i : Int)) ⟨t, rfl⟩⟩
    have ev : its[i]? = some v := by simpa using ev
    have hi : i < its.length := (List.getElem?_eq_some_iff.mp ev).1
    rw [List.getElem?_zipWith, ev, List.getElem?_range' (by omega)]
    simp
  · rw [merged_nil_of_nodup _ (en_keys its)] at hd
    have hm : (h'.objs.size == sysModules) = false := beq_eq_false_iff_ne.mpr (fun z => by have b : @LT.lt Nat _ sysModules s1.heap.objs.size := I1.big; have z : @Eq Nat h'.objs.size sysModules := z; rw [hsz] at z; omega)
    have kp : ∀ b o, s1.heap.get? b = some o → h2.get? b = some o := fun b o y => by
      have hb : @LT.lt Nat _ b s1.heap.objs.size := Heap.lt_size y
      refine hk2 b o (fun z => ?_) (hk b o y)
      simp only [List.mem_cons, List.not_mem_nil, or_false] at z
      rcases z with z | z
      · have z : @Eq Nat b (s1.heap.objs.size + 1) := z
        omega
      · have z : @Eq Nat b s1.heap.objs.size := z
        omega
    have ex : enK xs = (List.range' 0 xs.length).zipWith (fun (i : Nat) x => ((.inl (i : Int) : Key), x)) xs := by unfold enK; rw [List.range_eq_range']
    have hl2 : (enK xs).length ≤ sizeLine := by rw [ex]; simp; omega
    refine ⟨.ref h'.objs.size, upd H1 h'.objs.size (.dK (enK xs)), I1.laid (t' := tk) kp (by omega) (show ObjOk X.prog X.w _ _ _ (.dK (enK xs)) from ⟨hl2, hm, _, by rw [ex]; exact enK_kv 0 r, hd⟩), rfl, q _ _ (I1.hok.fresh (by omega)) (same_new (I1.hok.fresh (by omega))) upd_same⟩
end
theorem enK_ints (ns : List Int) : ∃ ks : List (Key × Int), enK (ns.map V.int) = ks.map (fun p => (p.1, .int p.2)) ∧ ks.length = ns.length ∧ ∀ p ∈ ks, (∃ i : Nat, p.1 = .inl (i : Int) ∧ i < ns.length) ∧ p.2 ∈ ns := by
  refine ⟨(List.range ns.length).zipWith (fun (i : Nat) x => ((.inl (i : Int) : Key), x)) ns, ?_, by simp, fun p hp => ?_⟩
  · unfold enK
    rw [List.length_map, List.map_zipWith, List.zipWith_map_right]
  · obtain ⟨j, hj, ej⟩ := List.getElem_of_mem hp
    rw [List.getElem_zipWith] at ej
    subst ej
    simp only [List.length_zipWith, List.length_range] at hj
    exact ⟨⟨j, by simp, by omega⟩, List.getElem_mem _⟩
end Lv

set_option linter.all false
namespace Lv
/-! first places: greedy -/
theorem nextP_here {l : List Nat} {i c : Nat} (h : l[i]? = some c) : nextP l i c = some i := nextP_some.mpr ⟨Nat.le_refl _, h, fun j h1 h2 => by omega⟩
theorem nextP_skip {l : List Nat} {i c d : Nat} (h : l[i]? = some d) (n : d ≠ c) : nextP l i c = nextP l (i + 1) c := by
  cases e : nextP l (i + 1) c with
  | none =>
    rw [nextP_none] at e ⊢
    intro j hj z
    rcases Nat.eq_or_lt_of_le hj with q | q
    · subst q; rw [h] at z; exact n (Option.some.inj z)
    · exact e j q z
  | some k =>
    rw [nextP_some] at e ⊢
    refine ⟨by omega, e.2.1, fun j h1 h2 z => ?_⟩
    rcases Nat.eq_or_lt_of_le h1 with q | q
    · subst q; rw [h] at z; exact n (Option.some.inj z)
    · exact e.2.2 j q h2 z
theorem nextP_end {l : List Nat} {i c : Nat} (h : l.length ≤ i) : nextP l i c = none := nextP_none.mpr fun j hj z => by
  rw [List.getElem?_eq_none (by omega)] at z; cases z
theorem nextP_lt {l : List Nat} {i c k : Nat} (h : nextP l i c = some k) : i ≤ k ∧ k < l.length := by
  have := nextP_some.mp h
  refine ⟨this.1, ?_⟩
  exact (List.getElem?_eq_some_iff.mp this.2.1).1
def fp (l : List Nat) : Nat → List Nat → Option (List Nat)
  | _, [] => some []
  | i, c :: m => match nextP l i c with
    | none => none
    | some k => (fp l (k + 1) m).map (k :: ·)
theorem fp_nil (l : List Nat) (i : Nat) : fp l i [] = some [] := rfl
theorem fp_none {l : List Nat} {i c : Nat} (m : List Nat) (h : nextP l i c = none) : fp l i (c :: m) = none := by rw [fp, h]
theorem fp_some {l : List Nat} {i c k : Nat} (m : List Nat) (h : nextP l i c = some k) : fp l i (c :: m) = (fp l (k + 1) m).map (k :: ·) := by rw [fp, h]
theorem fp_eq {l : List Nat} {i c : Nat} (m : List Nat) (h : l[i]? = some c) : fp l i (c :: m) = (fp l (i + 1) m).map (i :: ·) := fp_some m (nextP_here h)
theorem fp_ne {l : List Nat} {i c d : Nat} (m : List Nat) (h : l[i]? = some d) (n : d ≠ c) : fp l i (c :: m) = fp l (i + 1) (c :: m) := by
  rw [fp, fp, nextP_skip h n]
theorem fp_end {l : List Nat} {i c : Nat} (m : List Nat) (h : l.length ≤ i) : fp l i (c :: m) = none := fp_none m (nextP_end h)
theorem drop_at {l : List Nat} {i : Nat} (h : i < l.length) : ∃ c, l[i]? = some c ∧ l.drop i = c :: l.drop (i + 1) := ⟨l[i], List.getElem?_eq_getElem h, List.drop_eq_getElem_cons h⟩
/-- just where the row is left -/
theorem fp_left (l : List Nat) : ∀ (n i : Nat) (m : List Nat), l.length - i = n → ((fp l i m).isSome ↔ m.Sublist (l.drop i))
  | 0, i, m, e => by
    cases m with
    | nil => simp [fp_nil]
    | cons c m =>
      rw [fp_end m (by omega), List.drop_of_length_le (by omega)]
      simp
  | n + 1, i, m, e => by
    cases m with
    | nil => simp [fp_nil]
    | cons c m =>
      obtain ⟨d, hd, ed⟩ := drop_at (l := l) (i := i) (by omega)
      rw [ed]
      by_cases z : d = c
      · subst z
        rw [fp_eq m hd, Option.isSome_map, fp_left l n (i + 1) m (by omega), List.cons_sublist_cons]
      · rw [fp_ne m hd z, fp_left l n (i + 1) (c :: m) (by omega)]
        constructor
        · exact fun h => h.cons _
        · intro h
          cases h with
          | cons _ h => exact h
          | cons_cons => exact absurd rfl z
theorem fp0 (l m : List Nat) : (fp l 0 m).isSome ↔ m.Sublist l := fp_left l _ 0 m rfl
theorem fp_length (l : List Nat) : ∀ (m : List Nat) (i : Nat) (ps : List Nat), fp l i m = some ps → ps.length = m.length
  | [], i, ps, h => by rw [fp_nil] at h; cases h; rfl
  | c :: m, i, ps, h => by
    cases e : nextP l i c with
    | none => rw [fp_none m e] at h; cases h
    | some k =>
      rw [fp_some m e] at h
      cases e2 : fp l (k + 1) m with
      | none => rw [e2] at h; cases h
      | some qs =>
        rw [e2] at h
        cases h
        simp [fp_length l m (k + 1) qs e2]
/-- rising, in the row, spelling -/
theorem fp_spell (l : List Nat) : ∀ (m : List Nat) (i : Nat) (ps : List Nat), fp l i m = some ps → ps.Pairwise (· < ·) ∧ (∀ p ∈ ps, i ≤ p ∧ p < l.length) ∧ ∀ (j p : Nat), ps[j]? = some p → l[p]? = m[j]?
  | [], i, ps, h => by rw [fp_nil] at h; cases h; simp
  | c :: m, i, ps, h => by
    cases e : nextP l i c with
    | none => rw [fp_none m e] at h; cases h
    | some k =>
      rw [fp_some m e] at h
      cases e2 : fp l (k + 1) m with
      | none => rw [e2] at h; cases h
      | some qs =>
        rw [e2] at h
        cases h
        obtain ⟨h1, h2, h3⟩ := fp_spell l m (k + 1) qs e2
        have hk := nextP_lt e
        refine ⟨List.pairwise_cons.mpr ⟨fun p hp => by have := (h2 p hp).1; omega, h1⟩, fun p hp => ?_, fun j p hj => ?_⟩
        · rcases List.mem_cons.mp hp with z | z
          · rw [z]; exact hk
          · have := h2 p z; omega
        · cases j with
          | zero =>
            have : k = p := Option.some.inj hj
            rw [← this, (nextP_some.mp e).2.1]
            rfl
          | succ j => exact h3 j p hj
theorem sub_snoc {l m : List Nat} {i c : Nat} (h : m.Sublist (l.take i)) (hc : l[i]? = some c) : (m ++ [c]).Sublist (l.take (i + 1)) := by
  rw [List.take_add_one, hc]
  exact h.append (List.Sublist.refl _)
theorem sub_skip {l m : List Nat} {i : Nat} (h : m.Sublist (l.take i)) : m.Sublist (l.take (i + 1)) := h.trans (List.take_sublist_take_left (by omega))
/-- last places -/
def lp (l m : List Nat) : Option (List Nat) := (fp l.reverse 0 m.reverse).map fun ps => ps.reverse.map fun k => l.length - 1 - k
theorem lp_left (l m : List Nat) : (lp l m).isSome ↔ m.Sublist l := by
  rw [lp, Option.isSome_map, fp0, List.reverse_sublist]
end Lv

set_option linter.all false
set_option maxRecDepth 100000
namespace Lv
/-! all unlike rows left of a row, in order -/
theorem lt_ext {α : Type} {r : α → α → Prop} (irr : ∀ a, ¬ r a a) (asy : ∀ a b, r a b → ¬ r b a) : ∀ xs ys : List α, xs.Pairwise r → ys.Pairwise r → (∀ c, c ∈ xs ↔ c ∈ ys) → xs = ys
  | [], [], _, _, _ => rfl
  | [], y :: ys, _, _, h => absurd ((h y).mpr List.mem_cons_self) (by simp)
  | x :: xs, [], _, _, h => absurd ((h x).mp List.mem_cons_self) (by simp)
  | x :: xs, y :: ys, h1, h2, h => by
    have e : x = y := by
      rcases List.mem_cons.mp ((h x).mp List.mem_cons_self) with z | z
      · exact z
      · rcases List.mem_cons.mp ((h y).mpr List.mem_cons_self) with z2 | z2
        · exact z2.symm
        · exact absurd ((List.pairwise_cons.mp h1).1 y z2) (asy _ _ ((List.pairwise_cons.mp h2).1 x z))
    subst e
    rw [lt_ext irr asy xs ys (List.pairwise_cons.mp h1).2 (List.pairwise_cons.mp h2).2 fun c => ?_]
    have := h c
    constructor
    · intro hc
      rcases List.mem_cons.mp (this.mp (List.mem_cons_of_mem _ hc)) with z | z
      · subst z; exact absurd ((List.pairwise_cons.mp h1).1 c hc) (irr c)
      · exact z
    · intro hc
      rcases List.mem_cons.mp (this.mpr (List.mem_cons_of_mem _ hc)) with z | z
      · subst z; exact absurd ((List.pairwise_cons.mp h2).1 c hc) (irr c)
      · exact z
theorem lt_ext_nat {xs ys : List Nat} (h1 : xs.Pairwise (· < ·)) (h2 : ys.Pairwise (· < ·)) (h : ∀ c, c ∈ xs ↔ c ∈ ys) : xs = ys := lt_ext (fun _ => Nat.lt_irrefl _) (fun _ _ h => Nat.lt_asymm h) xs ys h1 h2 h
theorem lt_ext_int {xs ys : List Int} (h1 : xs.Pairwise (· < ·)) (h2 : ys.Pairwise (· < ·)) (h : ∀ c, c ∈ xs ↔ c ∈ ys) : xs = ys := lt_ext (fun _ => Int.lt_irrefl _) (fun _ _ h => Int.lt_asymm h) xs ys h1 h2 h
theorem lt_ext_txt {xs ys : List (List Nat)} (h1 : xs.Pairwise (· < ·)) (h2 : ys.Pairwise (· < ·)) (h : ∀ c, c ∈ xs ↔ c ∈ ys) : xs = ys := lt_ext (fun _ => List.lt_irrefl _) (fun _ _ h => List.lt_asymm h) xs ys h1 h2 h
/-- what is behind the first c -/
def aft (c : Nat) : List Nat → List Nat
  | [] => []
  | d :: l => if d = c then l else aft c l
theorem aft_self (c : Nat) (l : List Nat) : aft c (c :: l) = l := by rw [aft, if_pos rfl]
theorem aft_ne {c d : Nat} (l : List Nat) (h : d ≠ c) : aft c (d :: l) = aft c l := by rw [aft, if_neg h]
theorem aft_suffix (c : Nat) : ∀ l : List Nat, (aft c l) <:+ l
  | [] => List.suffix_refl _
  | d :: l => by
    by_cases h : d = c
    · subst h; rw [aft_self]; exact List.suffix_cons _ _
    · rw [aft_ne l h]; exact (aft_suffix c l).trans (List.suffix_cons _ _)
theorem aft_lt (c : Nat) : ∀ l : List Nat, c ∈ l → (aft c l).length < l.length
  | [], h => by cases h
  | d :: l, h => by
    by_cases z : d = c
    · subst z; rw [aft_self]; exact Nat.lt_succ_self _
    · rw [aft_ne l z]
      have : c ∈ l := by
        rcases List.mem_cons.mp h with q | q
        · exact absurd q.symm z
        · exact q
      exact Nat.lt_succ_of_lt (aft_lt c l this)
theorem aft_low {c : Nat} {l : List Nat} (h : Low l) : Low (aft c l) := h.sub fun d hd => (aft_suffix c l).subset hd
theorem aft_len (c : Nat) (l : List Nat) : (aft c l).length ≤ l.length := (aft_suffix c l).length_le
theorem aft_next {l : List Nat} {c : Nat} : ∀ {n i k : Nat}, l.length - i = n → nextP l i c = some k → aft c (l.drop i) = l.drop (k + 1)
  | 0, i, k, e, h => by have := nextP_lt h; omega
  | n + 1, i, k, e, h => by
    obtain ⟨d, hd, ed⟩ := drop_at (l := l) (i := i) (by omega)
    rw [ed]
    by_cases z : d = c
    · subst z
      rw [nextP_here hd] at h
      cases h
      rw [aft_self]
    · rw [nextP_skip hd z] at h
      rw [aft_ne _ z]
      exact aft_next (n := n) (by omega) h
theorem nextP_mem {l : List Nat} {i c : Nat} : (nextP l i c).isSome ↔ c ∈ l.drop i := by
  constructor
  · intro h
    cases e : nextP l i c with
    | none => rw [e] at h; cases h
    | some k =>
      obtain ⟨h1, h2, _⟩ := nextP_some.mp e
      apply List.mem_of_getElem? (i := k - i)
      rw [List.getElem?_drop, show i + (k - i) = k by omega]
      exact h2
  · intro h
    cases e : nextP l i c with
    | some k => rfl
    | none =>
      obtain ⟨j, hj⟩ := List.mem_iff_getElem?.mp h
      rw [List.getElem?_drop] at hj
      exact absurd hj (nextP_none.mp e (i + j) (by omega))
theorem next_of_mem {l : List Nat} {i c : Nat} (h : c ∈ l.drop i) : ∃ k, nextP l i c = some k := by
  have := nextP_mem.mpr h
  cases e : nextP l i c with
  | none => rw [e] at this; cases this
  | some k => exact ⟨k, rfl⟩
theorem cons_sub {c : Nat} {m : List Nat} : ∀ {l : List Nat}, (c :: m).Sublist l ↔ c ∈ l ∧ m.Sublist (aft c l)
  | [] => by simp
  | d :: l => by
    by_cases z : d = c
    · subst z; rw [aft_self, List.cons_sublist_cons]; simp
    · rw [aft_ne l z, show (c ∈ d :: l) ↔ c ∈ l by simp [Ne.symm z], ← cons_sub (l := l)]
      constructor
      · intro h
        cases h with
        | cons _ h => exact h
        | cons_cons => exact absurd rfl z
      · exact fun h => h.cons _
/-- the unlike letters, rising -/
def lets (l : List Nat) : List Nat := abc.filter (· ∈ l)
theorem lets_mem {l : List Nat} (h : Low l) {c : Nat} : c ∈ lets l ↔ c ∈ l := by
  unfold lets
  rw [List.mem_filter]
  simp only [decide_eq_true_eq]
  refine ⟨fun z => z.2, fun z => ⟨?_, z⟩⟩
  have := h c z
  have : ∀ d : Fin 26, d.val + 97 ∈ abc := by decide
  have := this ⟨c - 97, by omega⟩
  rw [show c - 97 + 97 = c by omega] at this
  exact this
theorem abc_up : abc.Pairwise (· < ·) := by decide
theorem lets_up (l : List Nat) : (lets l).Pairwise (· < ·) := abc_up.filter _
theorem lets_len (l : List Nat) : (lets l).length ≤ 26 := Nat.le_trans (List.length_filter_le _ _) (by decide)
theorem lets_is {l ys : List Nat} (h : Low l) (up : ys.Pairwise (· < ·)) (hm : ∀ c, c ∈ ys ↔ c ∈ l) : ys = lets l := lt_ext_nat up (lets_up l) fun c => by rw [hm, lets_mem h]
theorem lets_low (l : List Nat) : Low (lets l) := low_abc.sub fun c hc => (List.mem_filter.mp hc).1
def lxF : Nat → List Nat → List (List Nat)
  | 0, _ => [[]]
  | n + 1, l => [] :: (lets l).flatMap fun c => (lxF n (aft c l)).map (c :: ·)
theorem lxF_same : ∀ (n m : Nat) (l : List Nat), l.length ≤ n → l.length ≤ m → lxF n l = lxF m l
  | 0, 0, l, _, _ => rfl
  | 0, m + 1, l, h, _ => by
    have : l = [] := List.length_eq_zero_iff.mp (by omega)
    subst this
    have e : lets [] = [] := by unfold lets; simp
    rw [lxF, lxF, e]
    rfl
  | n + 1, 0, l, _, h => by
    have : l = [] := List.length_eq_zero_iff.mp (by omega)
    subst this
    have e : lets [] = [] := by unfold lets; simp
    rw [lxF, lxF, e]
    rfl
  | n + 1, m + 1, l, h1, h2 => by
    rw [lxF, lxF]
    congr 1
    have : ∀ c ∈ lets l, (lxF n (aft c l)).map (c :: ·) = (lxF m (aft c l)).map (c :: ·) := fun c hc => by
      have hm : c ∈ l := by have := (List.mem_filter.mp hc).2; simpa using this
      have := aft_lt c l hm
      rw [lxF_same n m (aft c l) (by omega) (by omega)]
    rw [List.flatMap_def, List.flatMap_def, List.map_congr_left this]
def lx (l : List Nat) : List (List Nat) := lxF l.length l
theorem lx_eq (l : List Nat) : lx l = [] :: (lets l).flatMap fun c => (lx (aft c l)).map (c :: ·) := by
  unfold lx
  rw [lxF_same l.length (l.length + 1) l (Nat.le_refl _) (Nat.le_succ _), lxF]
  congr 1
  have : ∀ c ∈ lets l, (lxF l.length (aft c l)).map (c :: ·) = (lxF (aft c l).length (aft c l)).map (c :: ·) := fun c hc => by
    rw [lxF_same l.length (aft c l).length (aft c l) (aft_len c l) (Nat.le_refl _)]
  rw [List.flatMap_def, List.flatMap_def, List.map_congr_left this]
theorem lx_mem : ∀ (m l : List Nat), Low l → (m ∈ lx l ↔ m.Sublist l)
  | [], l, _ => by rw [lx_eq]; simp
  | c :: m, l, h => by
    rw [lx_eq, cons_sub, ← lx_mem m (aft c l) (aft_low h)]
    simp only [List.mem_cons, List.mem_flatMap, List.mem_map, reduceCtorEq, false_or]
    constructor
    · rintro ⟨d, hd, x, hx, e⟩
      cases e
      exact ⟨(lets_mem h).mp hd, hx⟩
    · rintro ⟨h1, h2⟩
      exact ⟨c, (lets_mem h).mpr h1, m, h2, rfl⟩
theorem lx_up : ∀ (n : Nat) (l : List Nat), l.length ≤ n → (lx l).Pairwise (· < ·)
  | n, l, hn => by
    rw [lx_eq, List.pairwise_cons]
    refine ⟨fun m hm => ?_, ?_⟩
    · obtain ⟨c, _, hm⟩ := List.mem_flatMap.mp hm
      obtain ⟨x, _, rfl⟩ := List.mem_map.mp hm
      exact List.nil_lt_cons _ _
    · rw [List.pairwise_flatMap]
      refine ⟨fun c hc => ?_, ?_⟩
      · have hm : c ∈ l := by have := (List.mem_filter.mp hc).2; simpa using this
        have hl := aft_lt c l hm
        rw [List.pairwise_map]
        cases n with
        | zero => omega
        | succ n =>
          refine (lx_up n (aft c l) (by omega)).imp fun {a b} h => ?_
          exact List.cons_lt_cons_iff.mpr (.inr ⟨rfl, h⟩)
      · refine (lets_up l).imp fun {a b} h x hx y hy => ?_
        obtain ⟨x, _, rfl⟩ := List.mem_map.mp hx
        obtain ⟨y, _, rfl⟩ := List.mem_map.mp hy
        exact List.cons_lt_cons_iff.mpr (.inl h)
theorem lx_sorted (l : List Nat) : (lx l).Pairwise (· < ·) := lx_up _ l (Nat.le_refl _)
/-- how many -/
def cn (l : List Nat) : Nat := (lx l).length
theorem cn_eq (l : List Nat) : cn l = 1 + ((lets l).map fun c => cn (aft c l)).sum := by
  unfold cn
  rw [lx_eq, List.length_cons, List.length_flatMap]
  simp only [List.length_map]
  omega
theorem cn_pos (l : List Nat) : 0 < cn l := by rw [cn_eq]; omega
/-- those of a length -/
def lxn (n : Nat) (l : List Nat) : List (List Nat) := (lx l).filter (·.length = n)
theorem lxn_zero (l : List Nat) : lxn 0 l = [[]] := by
  unfold lxn
  rw [lx_eq, List.filter_cons_of_pos (by simp), List.filter_eq_nil_iff.mpr]
  intro m hm
  obtain ⟨c, _, hm⟩ := List.mem_flatMap.mp hm
  obtain ⟨x, _, rfl⟩ := List.mem_map.mp hm
  simp
theorem lxn_succ (n : Nat) (l : List Nat) : lxn (n + 1) l = (lets l).flatMap fun c => (lxn n (aft c l)).map (c :: ·) := by
  unfold lxn
  rw [lx_eq, List.filter_cons_of_neg (by simp), List.filter_flatMap]
  congr 1
  funext c
  rw [List.filter_map]
  congr 1
  apply List.filter_congr
  intro x _
  simp
theorem lxn_mem {n : Nat} {m l : List Nat} (h : Low l) : m ∈ lxn n l ↔ m.Sublist l ∧ m.length = n := by
  unfold lxn
  rw [List.mem_filter, lx_mem m l h]
  simp
theorem lxn_sorted (n : Nat) (l : List Nat) : (lxn n l).Pairwise (· < ·) := (lx_sorted l).filter _
def cl (n : Nat) (l : List Nat) : Nat := (lxn n l).length
theorem cl_zero (l : List Nat) : cl 0 l = 1 := by unfold cl; rw [lxn_zero]; rfl
theorem cl_succ (n : Nat) (l : List Nat) : cl (n + 1) l = ((lets l).map fun c => cl n (aft c l)).sum := by
  unfold cl
  rw [lxn_succ, List.length_flatMap]
  simp only [List.length_map]
/-! a letter ahead -/
theorem sum_filter {p : Nat → Prop} [DecidablePred p] (f : Nat → Nat) : ∀ l : List Nat, ((l.filter (fun c => decide (p c))).map f).sum = (l.map fun c => if p c then f c else 0).sum
  | [] => rfl
  | c :: l => by
    by_cases h : p c
    · rw [List.filter_cons_of_pos (by simp [h]), List.map_cons, List.sum_cons, sum_filter f l, List.map_cons, List.sum_cons, if_pos h]
    · rw [List.filter_cons_of_neg (by simp [h]), sum_filter f l, List.map_cons, List.sum_cons, if_neg h, Nat.zero_add]
theorem sum_swap {F G : Nat → Nat} {c : Nat} : ∀ (l : List Nat), l.Nodup → (∀ d ∈ l, d ≠ c → F d = G d) → (c ∈ l → (l.map F).sum + G c = (l.map G).sum + F c) ∧ (c ∉ l → (l.map F).sum = (l.map G).sum)
  | [], _, _ => ⟨fun h => (by cases h), fun _ => rfl⟩
  | d :: l, hn, h => by
    obtain ⟨hd, hn'⟩ := List.nodup_cons.mp hn
    obtain ⟨i1, i2⟩ := sum_swap l hn' fun e he => h e (List.mem_cons_of_mem _ he)
    by_cases z : d = c
    · subst z
      refine ⟨fun _ => ?_, fun q => absurd List.mem_cons_self q⟩
      rw [List.map_cons, List.sum_cons, List.map_cons, List.sum_cons, i2 hd]
      omega
    · have e := h d List.mem_cons_self z
      refine ⟨fun q => ?_, fun q => ?_⟩
      · have hc : c ∈ l := by
          rcases List.mem_cons.mp q with q | q
          · exact absurd q.symm z
          · exact q
        have := i1 hc
        rw [List.map_cons, List.sum_cons, List.map_cons, List.sum_cons, e]
        omega
      · have := i2 fun x => q (List.mem_cons_of_mem _ x)
        rw [List.map_cons, List.sum_cons, List.map_cons, List.sum_cons, e, this]
theorem abc_nodup : abc.Nodup := by decide
theorem abc_mem {c : Nat} (h : 97 ≤ c ∧ c ≤ 122) : c ∈ abc := by
  have : ∀ d : Fin 26, d.val + 97 ∈ abc := by decide
  have := this ⟨c - 97, by omega⟩
  rw [show c - 97 + 97 = c by omega] at this
  exact this
theorem sum_ahead (f : List Nat → Nat) {c : Nat} (l : List Nat) (h : 97 ≤ c ∧ c ≤ 122) :
    ((lets (c :: l)).map fun d => f (aft d (c :: l))).sum + (if c ∈ l then f (aft c l) else 0) = ((lets l).map fun d => f (aft d l)).sum + f l := by
  unfold lets
  rw [sum_filter (p := (· ∈ c :: l)) (fun d => f (aft d (c :: l))), sum_filter (p := (· ∈ l)) (fun d => f (aft d l))]
  have := (sum_swap (F := fun d => if d ∈ c :: l then f (aft d (c :: l)) else 0) (G := fun d => if d ∈ l then f (aft d l) else 0) (c := c) abc abc_nodup fun d _ hd => ?_).1 (abc_mem h)
  · rw [this]
    simp only [List.mem_cons, true_or, if_true, aft_self]
  · simp only [List.mem_cons, hd, false_or]
    rw [aft_ne l (Ne.symm hd)]
theorem cn_cons {c : Nat} (l : List Nat) (h : 97 ≤ c ∧ c ≤ 122) : cn (c :: l) + (if c ∈ l then cn (aft c l) else 0) = 2 * cn l := by
  have := sum_ahead cn l h
  have e1 := cn_eq (c :: l)
  have e2 := cn_eq l
  omega
theorem cl_cons {c : Nat} (n : Nat) (l : List Nat) (h : 97 ≤ c ∧ c ≤ 122) : cl (n + 1) (c :: l) + (if c ∈ l then cl n (aft c l) else 0) = cl (n + 1) l + cl n l := by
  have := sum_ahead (cl n) l h
  rw [cl_succ, cl_succ]
  exact this
theorem cn_nil : cn [] = 1 := rfl
theorem cl_long {n : Nat} {l : List Nat} (h : l.length < n) (lw : Low l) : cl n l = 0 := by
  unfold cl
  rw [List.length_eq_zero_iff, List.eq_nil_iff_forall_not_mem]
  intro m hm
  have := (lxn_mem lw).mp hm
  have := this.1.length_le
  omega
theorem cl_self {l : List Nat} (lw : Low l) : cl l.length l = 1 := by
  unfold cl
  have : lxn l.length l = [l] := lt_ext_txt (lxn_sorted _ _) (by simp) fun m => by
    rw [lxn_mem lw, List.mem_singleton]
    exact ⟨fun h => h.1.eq_of_length h.2, fun h => by subst h; exact ⟨List.Sublist.refl _, rfl⟩⟩
  rw [this]
  rfl
theorem cn_le : ∀ l : List Nat, Low l → cn l ≤ 2 ^ l.length
  | [], _ => Nat.le_refl _
  | c :: l, h => by
    have := cn_cons l (h c List.mem_cons_self)
    have := cn_le l (h.sub fun d hd => List.mem_cons_of_mem _ hd)
    rw [List.length_cons, Nat.pow_succ]
    omega
theorem cl_le (n : Nat) (l : List Nat) : cl n l ≤ cn l := List.length_filter_le _ _
end Lv

set_option linter.all false
set_option maxRecDepth 100000
namespace Lv
open PySem PySem.Spec PyProof.Rows L2 SX
/-! arches -/
def Lets (ls : List Nat) : Prop := ls ≠ [] ∧ Low ls ∧ ls.Pairwise (· < ·)
theorem Lets.len {ls : List Nat} (h : Lets ls) : ls.length ≤ 26 := nodup_len ls abc (h.2.2.imp fun h => Nat.ne_of_lt h) fun c hc => abc_mem (h.2.1 c hc)
theorem Lets.pos {ls : List Nat} (h : Lets ls) : 0 < ls.length := List.length_pos_iff.mpr h.1
theorem Lets.one {c : Nat} (h : 97 ≤ c ∧ c ≤ 122) : Lets [c] := ⟨by simp, Low.one h, by simp⟩
def allIn (ls w : List Nat) : Bool := ls.all fun c => decide (c ∈ w)
theorem allIn_iff {ls w : List Nat} : allIn ls w = true ↔ ∀ c ∈ ls, c ∈ w := by
  unfold allIn
  rw [List.all_eq_true]
  simp
theorem allIn_nil {ls w : List Nat} : allIn ls w = decide (ls.filter (fun c => decide (c ∉ w)) = []) := by
  rw [Bool.eq_iff_iff, allIn_iff, decide_eq_true_eq, List.filter_eq_nil_iff]
  simp
def cutN (l : List Nat) (b e : Nat) : List Nat := (l.drop b).take (e - b)
theorem cutL_N {l : List Nat} {b e : Nat} (h : b ≤ e) : cutL l (some (b : Int)) (some (e : Int)) = cutN l b e := by
  have := cutL_mid l b (e - b)
  rw [show ((b : Nat) : Int) + ((e - b : Nat) : Int) = (e : Nat) by omega] at this
  exact this
theorem cutN_succ {l : List Nat} {b e c : Nat} (h : b ≤ e) (hc : l[e]? = some c) : cutN l b (e + 1) = cutN l b e ++ [c] := by
  unfold cutN
  rw [show e + 1 - b = (e - b) + 1 by omega, List.take_add_one, List.getElem?_drop, show b + (e - b) = e by omega, hc]
  rfl
def arcS (ls l : List Nat) : Nat → List Nat × Nat
  | 0 => ([], 0)
  | e + 1 => if allIn ls (cutN l (arcS ls l e).2 (e + 1)) then ((arcS ls l e).1 ++ [e + 1], e + 1) else arcS ls l e
def arcs (ls l : List Nat) : List Nat := (arcS ls l l.length).1
theorem arcS_le (ls l : List Nat) : ∀ e, (arcS ls l e).2 ≤ e
  | 0 => Nat.le_refl _
  | e + 1 => by
    rw [arcS]
    split
    · exact Nat.le_refl _
    · have := arcS_le ls l e; omega
theorem arcS_len (ls l : List Nat) : ∀ e, (arcS ls l e).1.length ≤ e
  | 0 => Nat.le_refl _
  | e + 1 => by
    rw [arcS]
    have := arcS_len ls l e
    split
    · simp; omega
    · omega
theorem arcs_len (ls l : List Nat) : (arcs ls l).length ≤ l.length := arcS_len ls l _
def pap (ls l : List Nat) : Nat → List Nat → Bool
  | _, [] => true
  | b, e :: es => decide (b < e ∧ e ≤ l.length) && (allIn ls (cutN l b e) && pap ls l e es)
theorem pap_snoc (ls l : List Nat) : ∀ (es : List Nat) (b e : Nat), pap ls l b (es ++ [e]) = (pap ls l b es && (decide ((b :: es).getLastD 0 < e ∧ e ≤ l.length) && allIn ls (cutN l ((b :: es).getLastD 0) e)))
  | [], b, e => by simp [pap]
  | d :: es, b, e => by
    rw [List.cons_append, pap, pap_snoc ls l es d e, pap]
    have : (b :: d :: es).getLastD 0 = (d :: es).getLastD 0 := by simp [List.getLastD]
    rw [this]
    cases decide (b < d ∧ d ≤ l.length) <;> cases allIn ls (cutN l b d) <;> simp
theorem pap_arcS (ls l : List Nat) : ∀ e, e ≤ l.length → pap ls l 0 (arcS ls l e).1 = true ∧ (0 :: (arcS ls l e).1).getLastD 0 = (arcS ls l e).2
  | 0, _ => ⟨rfl, rfl⟩
  | e + 1, h => by
    obtain ⟨h1, h2⟩ := pap_arcS ls l e (by omega)
    have h3 := arcS_le ls l e
    rw [arcS]
    by_cases z : allIn ls (cutN l (arcS ls l e).2 (e + 1)) = true
    · rw [if_pos z]
      refine ⟨?_, (by rw [← List.cons_append, List.getLastD_concat])⟩
      rw [pap_snoc, h1, h2, z, decide_eq_true ⟨by omega, h⟩]
      rfl
    · rw [if_neg z]
      exact ⟨h1, h2⟩
theorem pap_arcs (ls l : List Nat) : pap ls l 0 (arcs ls l) = true := (pap_arcS ls l _ (Nat.le_refl _)).1
/-- numbers to be drawn -/
def Dr (H : Hp) (d : Addr) : Prop := ∃ ns : List Nat, H d = some (.lst (ns.map iv)) ∧ ns.length ≤ 240
theorem Dr.same {H H' : Hp} {d : Addr} (e : Same H H') (x : Dr H d) : Dr H' d := by
  obtain ⟨ns, a, b⟩ := x
  exact ⟨ns, e _ _ a, b⟩
theorem Dr.ne {H : Hp} {d p : Addr} (x : Dr H d) (n : H p = none) : d ≠ p := by
  obtain ⟨ns, a, b⟩ := x
  exact ne_of_none a n
theorem Dr.updN {H : Hp} {d p : Addr} {o : HO} (x : Dr H d) (n : d ≠ p) : Dr (L2.upd H p o) d := by
  obtain ⟨ns, a, b⟩ := x
  exact ⟨ns, by rw [upd_ne n]; exact a, b⟩
end Lv

set_option linter.all false
set_option maxRecDepth 100000
set_option maxHeartbeats 1000000
namespace Lv
open PySem PySem.Spec PyProof.Rows L2 SX
/-! papers of things of any kind -/
def papV (ls l : List Nat) : Nat → List V → Bool
  | _, [] => true
  | b, .int e :: r => decide ((b : Int) < e ∧ e ≤ (l.length : Int)) && allIn ls (cutN l b e.toNat) && papV ls l e.toNat r
  | _, _ :: _ => false
theorem papV_odd {ls l : List Nat} : ∀ {xs : List V} {b : Nat} {y : V}, y ∈ xs → (∀ n, y ≠ .int n) → papV ls l b xs = false
  | x :: xs, b, y, hy, hn => by
    cases x with
    | int e =>
      rw [papV]
      rcases List.mem_cons.mp hy with z | z
      · exact absurd z (hn e)
      · rw [papV_odd z hn, Bool.and_false]
    | _ => rfl
/-- a thing that is asked whether it is an end -/
def ItS (K : PySem.W.Frag) (H : Hp) (y : V) : Prop := (∃ n, y = .int n) ∨ (∃ b, y = .bl b) ∨ (Kd K H y "int" false ∧ ∀ n, y ≠ .int n)
theorem ItS.same {K : PySem.W.Frag} {H H' : Hp} {y : V} (h : ItS K H y) (s : Same H H') : ItS K H' y := by
  rcases h with h | h | ⟨h, h2⟩
  · exact .inl h
  · exact .inr (.inl h)
  · exact .inr (.inr ⟨h.same s, h2⟩)
theorem papV_bl {ls l : List Nat} {b : Nat} {c : Bool} {r : List V} : papV ls l b (.bl c :: r) = false := rfl
theorem papV_no {ls l : List Nat} {b : Nat} {y : V} {r : List V} (h : ∀ n, y ≠ .int n) : papV ls l b (y :: r) = false := papV_odd List.mem_cons_self h
/-- a thing that is asked how many arches it shows -/
def ThS (K : PySem.W.Frag) (H : Hp) (x : V) : Prop := (∃ (T : Addr) (xs : List V), x = .ref T ∧ H T = some (.lst xs) ∧ ∀ y ∈ xs, ItS K H y) ∨ Kd K H x "list" false
theorem ThS.same {K : PySem.W.Frag} {H H' : Hp} {x : V} (h : ThS K H x) (s : Same H H') : ThS K H' x := by
  rcases h with ⟨T, xs, e, h, hy⟩ | h
  · exact .inl ⟨T, xs, e, s _ _ h, fun y hm => (hy y hm).same s⟩
  · exact .inr (h.same s)
/-- a thing that can be shown -/
def Shy (K : PySem.W.Frag) (H : Hp) (v : V) : Prop := ∃ d, RY K H v d ∧ Fm 8000 20 d
theorem RY.same {K : PySem.W.Frag} {H H' : Hp} {v : V} {d : PyData} (h : RY K H v d) (s : Same H H') : RY K H' v d := by
  cases h with
  | rx h => exact .rx (h.same s)
  | ls h t => exact .ls (s.seq h) (t.same s)
theorem Shy.same {K : PySem.W.Frag} {H H' : Hp} {v : V} (h : Shy K H v) (s : Same H H') : Shy K H' v := h.imp fun _ z => ⟨z.1.same s, z.2⟩
theorem i_repr3 {K : PySem.W.Frag} {H : Hp} {Q : VK} {v : V} {d : PyData} (h : RY K H v d) (f : Fm 8000 20 d) (q : Q (.str (S (shw d))) H) : rRepr3 K [v] H Q := ⟨v, d, rfl, h, f, q⟩
/-- things in papers: d is the draws' list -/
inductive ItV (B : Nat) (d : Addr) (H : Hp) : V → Prop where
  | int {n : Int} (h : n.natAbs ≤ B) : ItV B d H (.int n)
  | bl {b : Bool} : ItV B d H (.bl b)
  | non : ItV B d H .non
  | str {l : List Nat} (h : Chr l) (hl : l.length ≤ 80) : ItV B d H (.str (S l))
  | lst {a : Addr} {ns : List Int} (ne : a ≠ d) (h : H a = some (.lst (ns.map V.int))) (hl : ns.length ≤ 82) (hn : ∀ n ∈ ns, n.natAbs ≤ 1000) : ItV B d H (.ref a)
  | tup {a : Addr} {ns : List Int} (h : H a = some (.tup (ns.map V.int))) (hl : ns.length ≤ 82) (hn : ∀ n ∈ ns, n.natAbs ≤ 1000) : ItV B d H (.ref a)
  | dic {a : Addr} (h : H a = some (.dK [])) : ItV B d H (.ref a)
inductive ThV (B : Nat) (d : Addr) (H : Hp) : V → Prop where
  | it {x : V} (h : ItV B d H x) : ThV B d H x
  | str {l : List Nat} (h : Chr l) (hl : l.length ≤ 5000) : ThV B d H (.str (S l))
  | dic {a : Addr} {ks : List (Key × Int)} (h : H a = some (.dK (ks.map fun p => (p.1, .int p.2)))) (hl : ks.length ≤ 82) (hk : ∀ p ∈ ks, (∃ i : Nat, p.1 = .inl (i : Int) ∧ i ≤ 1000) ∧ p.2.natAbs ≤ 1000) : ThV B d H (.ref a)
  | lst {a : Addr} {xs : List V} (ne : a ≠ d) (h : H a = some (.lst xs)) (hl : xs.length ≤ 85) (hx : ∀ x ∈ xs, ItV B d H x) : ThV B d H (.ref a)
section
variable {K : PySem.W.Frag} {B B' : Nat} {d : Addr} {H H' : Hp} {x : V}
theorem ItV.mono (h : ItV B d H x) (hB : B ≤ B') : ItV B' d H x := by
  cases h with
  | int h => exact .int (by omega)
  | bl => exact .bl
  | non => exact .non
  | str h hl => exact .str h hl
  | lst ne h hl hn => exact .lst ne h hl hn
  | tup h hl hn => exact .tup h hl hn
  | dic h => exact .dic h
theorem ItV.keep (h : ItV B d H x) (s : ∀ a o, H a = some o → (a ≠ d ∨ ∀ xs, o ≠ .lst xs) → H' a = some o) : ItV B d H' x := by
  cases h with
  | int h => exact .int h
  | bl => exact .bl
  | non => exact .non
  | str h hl => exact .str h hl
  | lst ne h hl hn => exact .lst ne (s _ _ h (.inl ne)) hl hn
  | tup h hl hn => exact .tup (s _ _ h (.inr fun _ z => by cases z)) hl hn
  | dic h => exact .dic (s _ _ h (.inr fun _ z => by cases z))
theorem keep_same (s : Same H H') : ∀ a o, H a = some o → (a ≠ d ∨ ∀ xs, o ≠ .lst xs) → H' a = some o := fun a o h _ => s _ _ h
theorem keep_but (hd : Dr H d) (s : But d H H') : ∀ a o, H a = some o → (a ≠ d ∨ ∀ xs, o ≠ .lst xs) → H' a = some o := fun a o h z => by
  refine s.at h ?_
  rcases z with z | z
  · exact z
  · intro e
    subst e
    obtain ⟨ns, h1, _⟩ := hd
    rw [h1] at h
    exact z _ (Option.some.inj h).symm
theorem ThV.keep (h : ThV B d H x) (s : ∀ a o, H a = some o → (a ≠ d ∨ ∀ xs, o ≠ .lst xs) → H' a = some o) : ThV B d H' x := by
  cases h with
  | it h => exact .it (h.keep s)
  | str h hl => exact .str h hl
  | dic h hl hk => exact .dic (s _ _ h (.inr fun _ z => by cases z)) hl hk
  | lst ne h hl hx => exact .lst ne (s _ _ h (.inl ne)) hl fun y hy => (hx y hy).keep s
theorem ItV.its (h : ItV B d H x) : ItS K H x := by
  cases h with
  | int h => exact .inl ⟨_, rfl⟩
  | bl => exact .inr (.inl ⟨_, rfl⟩)
  | non => exact .inr (.inr ⟨kd_of .non (by decide +kernel), fun _ z => by cases z⟩)
  | str h hl => exact .inr (.inr ⟨kd_of (.str _) (by decide +kernel), fun _ z => by cases z⟩)
  | lst ne h hl hn => exact .inr (.inr ⟨kd_of (.lst h) (by decide +kernel), fun _ z => by cases z⟩)
  | tup h hl hn => exact .inr (.inr ⟨kd_of (.tup h) (by decide +kernel), fun _ z => by cases z⟩)
  | dic h => exact .inr (.inr ⟨kd_of (.dK h) (by decide +kernel), fun _ z => by cases z⟩)
theorem ThV.ths (h : ThV B d H x) : ThS K H x := by
  cases h with
  | it h =>
    cases h with
    | int h => exact .inr (kd_of (.int _) (by decide +kernel))
    | bl => exact .inr (kd_of (.bl _) (by decide +kernel))
    | non => exact .inr (kd_of .non (by decide +kernel))
    | str h hl => exact .inr (kd_of (.str _) (by decide +kernel))
    | lst ne h hl hn =>
      refine .inl ⟨_, _, rfl, h, fun y hy => ?_⟩
      obtain ⟨n, _, rfl⟩ := List.mem_map.mp hy
      exact .inl ⟨n, rfl⟩
    | tup h hl hn => exact .inr (kd_of (.tup h) (by decide +kernel))
    | dic h => exact .inr (kd_of (.dK h) (by decide +kernel))
  | str h hl => exact .inr (kd_of (.str _) (by decide +kernel))
  | dic h hl hk => exact .inr (kd_of (.dK h) (by decide +kernel))
  | lst ne h hl hx => exact .inl ⟨_, _, rfl, h, fun y hy => (hx y hy).its⟩
theorem log_of {n : Int} {B : Nat} (h : n.natAbs ≤ B) (hB : B.log2 < 1920) : n.natAbs.log2 < 1920 := by
  refine Nat.lt_of_le_of_lt ?_ hB
  by_cases z : n.natAbs = 0
  · rw [z]; simp
  · exact (Nat.le_log2 (by omega)).mpr (Nat.le_trans (Nat.log2_self_le z) h)
theorem log1000 {n : Int} (h : n.natAbs ≤ 1000) : n.natAbs.log2 < 1920 := log_of h (by decide)
theorem ItV.rx (h : ItV B d H x) (hB : B.log2 < 1920) : ∃ dt, RX K H x dt ∧ Fm 90 1 dt := by
  cases h with
  | int h => exact ⟨_, .dp (.int _) rfl, fm_int (log_of h hB)⟩
  | bl => exact ⟨_, .dp (.bl _) rfl, fm_bl⟩
  | non => exact ⟨_, .dp .non rfl, fm_non⟩
  | str h hl => exact ⟨_, .dp (.str _) rfl, fm_str h (by omega)⟩
  | @lst a ns ne h hl hn =>
    refine ⟨_, .dp (.lst (SqL.of1 h) (dp_ints ns)) (by rw [PyData.hasDict]; exact nodict_ints ns), (fm_lst (w := 0) (k := 0) fun e he => ?_).mono (by rw [List.length_map]; omega) (by decide)⟩
    obtain ⟨n, hm, rfl⟩ := List.mem_map.mp he
    exact fm_int (log1000 (hn n hm))
  | @tup a ns h hl hn =>
    refine ⟨_, .dp (.tup (SqT.of1 h) (dp_ints ns)) (by rw [PyData.hasDict]; exact nodict_ints ns), (fm_tup (w := 0) (k := 0) fun e he => ?_).mono (by rw [List.length_map]; omega) (by decide)⟩
    obtain ⟨n, hm, rfl⟩ := List.mem_map.mp he
    exact fm_int (log1000 (hn n hm))
  | dic h => exact ⟨_, .dk (ks := []) h, (fm_dict (w := 0) (ks := []) fun _ z => (nomatch z)).mono (by decide) (by decide)⟩
theorem ItV.rxs (hB : B.log2 < 1920) : ∀ {xs : List V}, (∀ x ∈ xs, ItV B d H x) → ∃ ds, RXs K H xs ds ∧ ds.length = xs.length ∧ ∀ e ∈ ds, Fm 90 1 e
  | [], _ => ⟨[], .nil, rfl, fun _ z => (nomatch z)⟩
  | x :: xs, h => by
    obtain ⟨dt, r, f⟩ := ItV.rx (K := K) (h x List.mem_cons_self) hB
    obtain ⟨ds, rs, hl, fs⟩ := ItV.rxs hB fun y hy => h y (List.mem_cons_of_mem _ hy)
    refine ⟨dt :: ds, .cons r rs, by rw [List.length_cons, List.length_cons, hl], fun e he => ?_⟩
    rcases List.mem_cons.mp he with rfl | he
    · exact f
    · exact fs e he
theorem ThV.shy (h : ThV B d H x) (hB : B.log2 < 1920) : Shy K H x := by
  cases h with
  | it h =>
    obtain ⟨dt, r, f⟩ := ItV.rx (K := K) h hB
    exact ⟨dt, .rx r, f.mono (by decide) (by decide)⟩
  | str h hl => exact ⟨_, .rx (.dp (.str _) rfl), fm_str h (by omega)⟩
  | @dic a ks h hl hk =>
    refine ⟨_, .rx (.dk (ks := ks) h), (fm_dict (w := 0) fun p hp => ?_).mono (by omega) (by decide)⟩
    obtain ⟨⟨i, e, hi⟩, hv⟩ := hk p hp
    rw [e]
    exact ⟨fm_int (log1000 (by omega)), fm_int (log1000 hv)⟩
  | @lst a xs ne h hl hx =>
    obtain ⟨ds, rs, hl2, fs⟩ := ItV.rxs (K := K) hB hx
    refine ⟨_, .ls (SqL.of1 h) rs, (fm_lst (w := 90) (k := 1) fs).mono (by rw [hl2]; omega) (by decide)⟩
theorem ItV.eqb (h : ItV B d H x) : Eqb K H x := by
  cases h with
  | int h => exact .int _
  | bl => exact .bl _
  | non => exact .non
  | str h hl => exact .str _
  | lst ne h hl hn => exact .lst (SqL.of1 h)
  | tup h hl hn => exact .tup (SqT.of1 h)
  | dic h => exact .dK h
end
theorem ItV.of_nat {B : Nat} {d : Addr} {H : Hp} {n : Nat} (h : n ≤ B) : ItV B d H (iv n) := .int (by omega)
end Lv

set_option linter.all false
set_option maxRecDepth 100000
namespace Lv
/-! the so-manieth -/
def flat (l : List Nat) : List Nat → Nat → Option (List Nat)
  | [], _ => none
  | c :: cs, p => if p < cn (aft c l) then (lx (aft c l))[p]?.map (c :: ·) else flat l cs (p - cn (aft c l))
theorem flat_get (l : List Nat) : ∀ (cs : List Nat) (p : Nat), (cs.flatMap fun c => (lx (aft c l)).map (c :: ·))[p]? = flat l cs p
  | [], p => rfl
  | c :: cs, p => by
    rw [List.flatMap_cons, flat]
    by_cases h : p < cn (aft c l)
    · rw [if_pos h, List.getElem?_append_left (by rw [List.length_map]; exact h), List.getElem?_map]
    · rw [if_neg h, List.getElem?_append_right (by rw [List.length_map]; exact Nat.le_of_not_lt h), List.length_map, flat_get l cs]
      rfl
theorem lx_zero (l : List Nat) : (lx l)[0]? = some [] := by rw [lx_eq]; rfl
theorem lx_succ (l : List Nat) (p : Nat) : (lx l)[p + 1]? = flat l (lets l) p := by rw [lx_eq, List.getElem?_cons_succ, flat_get]
theorem flat_yes {l cs : List Nat} {c p : Nat} (h : p < cn (aft c l)) : flat l (c :: cs) p = (lx (aft c l))[p]?.map (c :: ·) := by rw [flat, if_pos h]
theorem flat_no {l cs : List Nat} {c p : Nat} (h : ¬ p < cn (aft c l)) : flat l (c :: cs) p = flat l cs (p - cn (aft c l)) := by rw [flat, if_neg h]
/-- the number of a row among those left -/
def plc : List Nat → List Nat → Nat
  | _, [] => 0
  | l, c :: m => 1 + (((lets l).filter fun d => decide (d < c)).map fun d => cn (aft d l)).sum + plc (aft c l) m
theorem flat_at (l : List Nat) {c p : Nat} (hp : p < cn (aft c l)) : ∀ (cs : List Nat), cs.Pairwise (· < ·) → c ∈ cs → flat l cs (((cs.filter fun d => decide (d < c)).map fun d => cn (aft d l)).sum + p) = (lx (aft c l))[p]?.map (c :: ·)
  | [], _, h => by cases h
  | d :: cs, up, h => by
    obtain ⟨u1, u2⟩ := List.pairwise_cons.mp up
    by_cases z : d = c
    · subst z
      have : (d :: cs).filter (fun e => decide (e < d)) = [] := by
        rw [List.filter_eq_nil_iff]
        intro e he
        rcases List.mem_cons.mp he with q | q
        · subst q; simp
        · have := u1 e q; simp; omega
      rw [this]
      simp only [List.map_nil, List.sum_nil, Nat.zero_add]
      exact flat_yes hp
    · have hc : c ∈ cs := by
        rcases List.mem_cons.mp h with q | q
        · exact absurd q.symm z
        · exact q
      have hd : d < c := u1 c hc
      rw [List.filter_cons_of_pos (by simp [hd]), List.map_cons, List.sum_cons, flat_no (by omega), ← flat_at l hp cs u2 hc]
      congr 1
      omega
theorem plc_at : ∀ (m l : List Nat), Low l → m.Sublist l → (lx l)[plc l m]? = some m
  | [], l, _, _ => lx_zero l
  | c :: m, l, h, hs => by
    obtain ⟨h1, h2⟩ := cons_sub.mp hs
    have ih := plc_at m (aft c l) (aft_low h) h2
    have hlt : plc (aft c l) m < cn (aft c l) := (List.getElem?_eq_some_iff.mp ih).1
    rw [plc, show 1 + (((lets l).filter fun d => decide (d < c)).map fun d => cn (aft d l)).sum + plc (aft c l) m = ((((lets l).filter fun d => decide (d < c)).map fun d => cn (aft d l)).sum + plc (aft c l) m) + 1 by omega, lx_succ,
      flat_at l hlt (lets l) (lets_up l) ((lets_mem h).mpr h1), ih]
    rfl
theorem plc_lt {m l : List Nat} (h : Low l) (hs : m.Sublist l) : plc l m < cn l := (List.getElem?_eq_some_iff.mp (plc_at m l h hs)).1
theorem lx_lt {l a b : List Nat} {i j : Nat} (hi : (lx l)[i]? = some a) (hj : (lx l)[j]? = some b) (h : i < j) : a < b := by
  obtain ⟨h1, e1⟩ := List.getElem?_eq_some_iff.mp hi
  obtain ⟨h2, e2⟩ := List.getElem?_eq_some_iff.mp hj
  have := List.pairwise_iff_getElem.mp (lx_sorted l) i j h1 h2 h
  rw [e1, e2] at this
  exact this
theorem plc_is {l m : List Nat} {k : Nat} (h : Low l) (hk : (lx l)[k]? = some m) : k = plc l m := by
  have hs : m.Sublist l := (lx_mem m l h).mp (List.mem_of_getElem? hk)
  have hp := plc_at m l h hs
  rcases Nat.lt_trichotomy k (plc l m) with z | z | z
  · exact absurd (lx_lt hk hp z) (List.lt_irrefl _)
  · exact z
  · exact absurd (lx_lt hp hk z) (List.lt_irrefl _)
theorem plc_mono {l a b : List Nat} (h : Low l) (ha : a.Sublist l) (hb : b.Sublist l) (hab : a < b) : plc l a < plc l b := by
  rcases Nat.lt_trichotomy (plc l a) (plc l b) with z | z | z
  · exact z
  · have h1 := plc_at a l h ha
    rw [z, plc_at b l h hb] at h1
    cases h1
    exact absurd hab (List.lt_irrefl _)
  · exact absurd (lx_lt (plc_at b l h hb) (plc_at a l h ha) z) (List.lt_asymm hab)
theorem lx_sub {l m : List Nat} {k : Nat} (h : Low l) (hk : (lx l)[k]? = some m) : m.Sublist l := (lx_mem m l h).mp (List.mem_of_getElem? hk)
theorem lx_some {l : List Nat} {k : Nat} (h : k < cn l) : ∃ m, (lx l)[k]? = some m := ⟨(lx l)[k]'h, List.getElem?_eq_getElem h⟩
end Lv

set_option linter.all false
set_option maxRecDepth 100000
namespace Lv
/-! those of a length -/
def flatn (n : Nat) (l : List Nat) : List Nat → Nat → Option (List Nat)
  | [], _ => none
  | c :: cs, p => if p < cl n (aft c l) then (lxn n (aft c l))[p]?.map (c :: ·) else flatn n l cs (p - cl n (aft c l))
theorem flatn_get (n : Nat) (l : List Nat) : ∀ (cs : List Nat) (p : Nat), (cs.flatMap fun c => (lxn n (aft c l)).map (c :: ·))[p]? = flatn n l cs p
  | [], p => rfl
  | c :: cs, p => by
    rw [List.flatMap_cons, flatn]
    by_cases h : p < cl n (aft c l)
    · rw [if_pos h, List.getElem?_append_left (by rw [List.length_map]; exact h), List.getElem?_map]
    · rw [if_neg h, List.getElem?_append_right (by rw [List.length_map]; exact Nat.le_of_not_lt h), List.length_map, flatn_get n l cs]
      rfl
theorem lxn_at (n : Nat) (l : List Nat) (p : Nat) : (lxn (n + 1) l)[p]? = flatn n l (lets l) p := by rw [lxn_succ, flatn_get]
theorem flatn_yes {n : Nat} {l cs : List Nat} {c p : Nat} (h : p < cl n (aft c l)) : flatn n l (c :: cs) p = (lxn n (aft c l))[p]?.map (c :: ·) := by rw [flatn, if_pos h]
theorem flatn_no {n : Nat} {l cs : List Nat} {c p : Nat} (h : ¬ p < cl n (aft c l)) : flatn n l (c :: cs) p = flatn n l cs (p - cl n (aft c l)) := by rw [flatn, if_neg h]
/-- the number of a row among those of its length -/
def plcn : List Nat → List Nat → Nat
  | _, [] => 0
  | l, c :: m => (((lets l).filter fun d => decide (d < c)).map fun d => cl m.length (aft d l)).sum + plcn (aft c l) m
theorem flatn_at (n : Nat) (l : List Nat) {c p : Nat} (hp : p < cl n (aft c l)) : ∀ (cs : List Nat), cs.Pairwise (· < ·) → c ∈ cs → flatn n l cs (((cs.filter fun d => decide (d < c)).map fun d => cl n (aft d l)).sum + p) = (lxn n (aft c l))[p]?.map (c :: ·)
  | [], _, h => by cases h
  | d :: cs, up, h => by
    obtain ⟨u1, u2⟩ := List.pairwise_cons.mp up
    by_cases z : d = c
    · subst z
      have : (d :: cs).filter (fun e => decide (e < d)) = [] := by
        rw [List.filter_eq_nil_iff]
        intro e he
        rcases List.mem_cons.mp he with q | q
        · subst q; simp
        · have := u1 e q; simp; omega
      rw [this]
      simp only [List.map_nil, List.sum_nil, Nat.zero_add]
      exact flatn_yes hp
    · have hc : c ∈ cs := by
        rcases List.mem_cons.mp h with q | q
        · exact absurd q.symm z
        · exact q
      have hd : d < c := u1 c hc
      rw [List.filter_cons_of_pos (by simp [hd]), List.map_cons, List.sum_cons, flatn_no (by omega), ← flatn_at n l hp cs u2 hc]
      congr 1
      omega
theorem plcn_at : ∀ (m l : List Nat), Low l → m.Sublist l → (lxn m.length l)[plcn l m]? = some m
  | [], l, _, _ => by rw [List.length_nil, lxn_zero]; rfl
  | c :: m, l, h, hs => by
    obtain ⟨h1, h2⟩ := cons_sub.mp hs
    have ih := plcn_at m (aft c l) (aft_low h) h2
    have hlt : plcn (aft c l) m < cl m.length (aft c l) := (List.getElem?_eq_some_iff.mp ih).1
    rw [plcn, List.length_cons, lxn_at, flatn_at m.length l hlt (lets l) (lets_up l) ((lets_mem h).mpr h1), ih]
    rfl
theorem lxn_lt {n : Nat} {l a b : List Nat} {i j : Nat} (hi : (lxn n l)[i]? = some a) (hj : (lxn n l)[j]? = some b) (h : i < j) : a < b := by
  obtain ⟨h1, e1⟩ := List.getElem?_eq_some_iff.mp hi
  obtain ⟨h2, e2⟩ := List.getElem?_eq_some_iff.mp hj
  have := List.pairwise_iff_getElem.mp (lxn_sorted n l) i j h1 h2 h
  rw [e1, e2] at this
  exact this
theorem lxn_sub {n : Nat} {l m : List Nat} {k : Nat} (h : Low l) (hk : (lxn n l)[k]? = some m) : m.Sublist l ∧ m.length = n := (lxn_mem h).mp (List.mem_of_getElem? hk)
theorem lxn_some {n : Nat} {l : List Nat} {k : Nat} (h : k < cl n l) : ∃ m, (lxn n l)[k]? = some m := ⟨(lxn n l)[k]'h, List.getElem?_eq_getElem h⟩
theorem plcn_is {n : Nat} {l m : List Nat} {k : Nat} (h : Low l) (hk : (lxn n l)[k]? = some m) : k = plcn l m := by
  obtain ⟨hs, hn⟩ := lxn_sub h hk
  have hp := plcn_at m l h hs
  rw [hn] at hp
  rcases Nat.lt_trichotomy k (plcn l m) with z | z | z
  · exact absurd (lxn_lt hk hp z) (List.lt_irrefl _)
  · exact z
  · exact absurd (lxn_lt hp hk z) (List.lt_irrefl _)
/-- how many of each length -/
def lens (l : List Nat) : List Nat := (List.range (l.length + 1)).map fun n => cl n l
theorem lens_len (l : List Nat) : (lens l).length = l.length + 1 := by unfold lens; simp
theorem lens_get {l : List Nat} {n : Nat} (h : n ≤ l.length) : (lens l)[n]? = some (cl n l) := by
  unfold lens
  rw [List.getElem?_map, List.getElem?_range (by omega)]
  rfl
theorem lens_getD {l : List Nat} (lw : Low l) (n : Nat) : (lens l).getD n 0 = cl n l := by
  rw [List.getD_eq_getElem?_getD]
  by_cases h : n ≤ l.length
  · rw [lens_get h]; rfl
  · rw [List.getElem?_eq_none (by rw [lens_len]; omega), cl_long (by omega) lw]; rfl
theorem cl_pos {l : List Nat} {n : Nat} (lw : Low l) (h : n ≤ l.length) : 0 < cl n l := by
  unfold cl
  apply List.length_pos_of_mem (a := l.take n)
  rw [lxn_mem lw]
  exact ⟨List.take_sublist _ _, by simp; omega⟩
theorem lens_nil : lens [] = [1] := by
  unfold lens
  simp [List.range_succ, cl_zero]
def pon (ls os xs : List Int) : List Int := (List.range (ls.length + 1)).map fun i => ls.getD i 0 + (if 0 < i then os.getD (i - 1) 0 else 0) - (if 0 < i then xs.getD (i - 1) 0 else 0)
theorem ints_getD (ns : List Nat) (i : Nat) : (ns.map fun n : Nat => (n : Int)).getD i 0 = ((ns.getD i 0 : Nat) : Int) := by
  rw [List.getD_eq_getElem?_getD, List.getD_eq_getElem?_getD, List.getElem?_map]
  cases ns[i]? <;> rfl
theorem pon_lens {c : Nat} {l xs : List Nat} (lw : Low (c :: l)) (hx : ∀ n, xs.getD n 0 = if c ∈ l then cl n (aft c l) else 0) :
    pon ((lens l).map fun n : Nat => (n : Int)) ((lens l).map fun n : Nat => (n : Int)) (xs.map fun n : Nat => (n : Int)) = (lens (c :: l)).map fun n : Nat => (n : Int) := by
  have lwl : Low l := lw.sub fun d hd => List.mem_cons_of_mem _ hd
  unfold pon
  rw [List.length_map, lens_len]
  conv => rhs; unfold lens
  rw [List.map_map, List.length_cons]
  apply List.map_congr_left
  intro i _
  rw [ints_getD, ints_getD, ints_getD, lens_getD lwl, lens_getD lwl]
  cases i with
  | zero =>
    rw [if_neg (by omega), if_neg (by omega), cl_zero]
    show _ = ((cl 0 (c :: l) : Nat) : Int)
    rw [cl_zero]
    omega
  | succ n =>
    rw [if_pos (by omega), if_pos (by omega), Nat.add_sub_cancel, hx n]
    show _ = ((cl (n + 1) (c :: l) : Nat) : Int)
    have := cl_cons n l (lw c List.mem_cons_self)
    omega
end Lv

set_option linter.all false
set_option maxRecDepth 100000
namespace Lv
theorem lx_nodup (l : List Nat) : (lx l).Nodup := (lx_sorted l).imp fun h z => by subst z; exact List.lt_irrefl _ h
theorem lxn_nodup (n : Nat) (l : List Nat) : (lxn n l).Nodup := (lxn_sorted n l).imp fun h z => by subst z; exact List.lt_irrefl _ h
theorem getD_all {α : Type} (xs : List α) (d : α) : (List.range xs.length).map (fun k => xs.getD k d) = xs := by
  apply List.ext_getElem?
  intro k
  by_cases hk : k < xs.length
  · rw [range_map_get _ hk, List.getD_eq_getElem?_getD, List.getElem?_eq_getElem hk]; rfl
  · rw [List.getElem?_eq_none (by simp; omega), List.getElem?_eq_none (Nat.le_of_not_lt hk)]
/-! letters called otherwise, in order -/
theorem lt_map {f : Nat → Nat} (hf : ∀ a b, a < b → f a < f b) : ∀ a b : List Nat, a < b → a.map f < b.map f
  | [], [], h => absurd h (List.lt_irrefl _)
  | [], y :: ys, _ => List.nil_lt_cons _ _
  | x :: xs, [], h => absurd h (List.not_lt_nil _)
  | x :: xs, y :: ys, h => by
    rw [List.map_cons, List.map_cons]
    rcases List.cons_lt_cons_iff.mp h with h' | ⟨rfl, h'⟩
    · exact List.cons_lt_cons_iff.mpr (.inl (hf _ _ h'))
    · exact List.cons_lt_cons_iff.mpr (.inr ⟨rfl, lt_map hf xs ys h'⟩)
theorem lx_map {f : Nat → Nat} {l : List Nat} (hf : ∀ a b, a < b → f a < f b) (lw : Low l) (lw2 : Low (l.map f)) : lx (l.map f) = (lx l).map (List.map f) := by
  refine lt_ext_txt (lx_sorted _) ?_ fun m => ?_
  · rw [List.pairwise_map]
    exact (lx_sorted l).imp fun h => lt_map hf _ _ h
  · rw [lx_mem m _ lw2, List.sublist_map_iff, List.mem_map]
    constructor
    · rintro ⟨x, h1, rfl⟩
      exact ⟨x, (lx_mem x l lw).mpr h1, rfl⟩
    · rintro ⟨x, h1, rfl⟩
      exact ⟨x, (lx_mem x l lw).mp h1, rfl⟩
theorem lxn_map {f : Nat → Nat} {l : List Nat} (n : Nat) (hf : ∀ a b, a < b → f a < f b) (lw : Low l) (lw2 : Low (l.map f)) : lxn n (l.map f) = (lxn n l).map (List.map f) := by
  unfold lxn
  rw [lx_map hf lw lw2, List.filter_map]
  congr 1
  apply List.filter_congr
  intro x _
  simp
/-! all lengths together -/
theorem count_lens {xs : List (List Nat)} : ∀ N : Nat, (∀ m ∈ xs, m.length < N) → ((List.range N).map fun n => (xs.filter (·.length = n)).length).sum = xs.length
  | 0, h => by
    cases xs with
    | nil => rfl
    | cons m xs => exact absurd (h m List.mem_cons_self) (by omega)
  | N + 1, h => by
    rw [List.range_succ, List.map_append, List.sum_append]
    have key : ∀ (ys : List (List Nat)), (∀ m ∈ ys, m.length < N + 1) → ((List.range N).map fun n => (ys.filter (·.length = n)).length).sum + (ys.filter (·.length = N)).length = ys.length := fun ys hy => by
      have h1 := count_lens (xs := ys.filter (·.length < N)) N fun m hm => by
        have := (List.mem_filter.mp hm).2
        simpa using this
      have h2 : ((List.range N).map fun n => ((ys.filter (·.length < N)).filter (·.length = n)).length) = (List.range N).map fun n => (ys.filter (·.length = n)).length := by
        apply List.map_congr_left
        intro n hn
        have := List.mem_range.mp hn
        rw [List.filter_filter]
        congr 1
        apply List.filter_congr
        intro m _
        by_cases z : m.length = n
        · simp [z]; omega
        · simp [z]
      rw [h2] at h1
      rw [h1]
      clear h1 h2 h
      induction ys with
      | nil => rfl
      | cons y ys ih =>
        have ih := ih fun m hm => hy m (List.mem_cons_of_mem _ hm)
        have hl := hy y List.mem_cons_self
        by_cases z : y.length = N
        · rw [List.filter_cons_of_neg (by simp; omega), List.filter_cons_of_pos (by simp [z]), List.length_cons, List.length_cons]; omega
        · rw [List.filter_cons_of_pos (by simp; omega), List.filter_cons_of_neg (by simp [z]), List.length_cons, List.length_cons]; omega
    have := key xs h
    simp only [List.map_cons, List.map_nil, List.sum_cons, List.sum_nil, Nat.add_zero]
    exact this
theorem sum_lens {l : List Nat} (lw : Low l) : (lens l).sum = cn l := by
  unfold lens cl lxn cn
  exact count_lens (l.length + 1) fun m hm => by
    have := ((lx_mem m l lw).mp hm).length_le
    omega
theorem lxn_one (l : List Nat) : lxn 1 l = (lets l).map fun c => [c] := by
  rw [lxn_succ]
  have : (fun c => (lxn 0 (aft c l)).map (c :: ·)) = fun c => [[c]] := by
    funext c
    rw [lxn_zero]
    rfl
  rw [this]
  induction lets l with
  | nil => rfl
  | cons a r ih => rw [List.flatMap_cons, ih, List.map_cons]; rfl
theorem lxn_self {l : List Nat} (lw : Low l) : lxn l.length l = [l] := lt_ext_txt (lxn_sorted _ _) (by simp) fun m => by
  rw [lxn_mem lw, List.mem_singleton]
  exact ⟨fun h => h.1.eq_of_length h.2, fun h => by subst h; exact ⟨List.Sublist.refl _, rfl⟩⟩
/-! a row with letters more -/
theorem plc_grow {l L m : List Nat} (lw : Low L) (hs : l.Sublist L) (hm : m.Sublist l) : plc l m ≤ plc L m := by
  have lwl : Low l := lw.sub fun c hc => hs.subset hc
  have h := nodup_len ((lx l).take (plc l m)) ((lx L).take (plc L m)) ((lx_nodup l).sublist (List.take_sublist _ _)) fun x hx => by
    obtain ⟨j, hj⟩ := List.mem_iff_getElem?.mp hx
    have hjl : j < plc l m := by
      have := (List.getElem?_eq_some_iff.mp hj).1
      rw [List.length_take] at this
      omega
    rw [List.getElem?_take_of_lt hjl] at hj
    have hlt : x < m := lx_lt hj (plc_at m l lwl hm) hjl
    have hxL : x.Sublist L := (lx_sub lwl hj).trans hs
    have := plc_mono lw hxL (hm.trans hs) hlt
    apply List.mem_of_getElem? (i := plc L x)
    rw [List.getElem?_take_of_lt this]
    exact plc_at x L lw hxL
  have a1 := plc_lt lwl hm
  have a2 := plc_lt lw (hm.trans hs)
  rw [List.length_take, List.length_take] at h
  unfold cn at a1 a2
  omega
theorem cl_grow {l L : List Nat} (n : Nat) (lw : Low L) (hs : l.Sublist L) : cl n l ≤ cl n L := by
  have lwl : Low l := lw.sub fun c hc => hs.subset hc
  exact nodup_len _ _ (lxn_nodup n l) fun x hx => (lxn_mem lw).mpr ⟨((lxn_mem lwl).mp hx).1.trans hs, ((lxn_mem lwl).mp hx).2⟩
theorem inj_len {xs ys : List (List Nat)} {g : List Nat → List Nat} (nd : xs.Nodup) (gi : ∀ a b, g a = g b → a = b) (h : ∀ x ∈ xs, g x ∈ ys) : xs.length ≤ ys.length := by
  have nd2 : (xs.map g).Nodup := List.Pairwise.map _ (fun a b h z => h (gi a b z)) nd
  have := nodup_len (xs.map g) ys nd2 fun c hc => by
    obtain ⟨x, hx, rfl⟩ := List.mem_map.mp hc
    exact h x hx
  rwa [List.length_map] at this
theorem cl_rev_le {l : List Nat} (n : Nat) (lw : Low l) : cl n l ≤ cl n l.reverse := inj_len (lxn_nodup n l) (g := List.reverse) (fun a b h => by have := congrArg List.reverse h; simpa using this) fun x hx => by
  rw [lxn_mem lw.rev]
  obtain ⟨h1, h2⟩ := (lxn_mem lw).mp hx
  exact ⟨List.reverse_sublist.mpr h1, by simp [h2]⟩
theorem cl_rev {l : List Nat} (n : Nat) (lw : Low l) : cl n l.reverse = cl n l := Nat.le_antisymm (by have := cl_rev_le n lw.rev; rwa [List.reverse_reverse] at this) (cl_rev_le n lw)
theorem lens_rev {l : List Nat} (lw : Low l) : lens l.reverse = lens l := by
  unfold lens
  rw [List.length_reverse]
  exact List.map_congr_left fun n _ => cl_rev n lw
theorem cn_rev {l : List Nat} (lw : Low l) : cn l.reverse = cn l := by rw [← sum_lens lw, ← sum_lens lw.rev, lens_rev lw]
/-! letters called otherwise -/
theorem aft_map {f : Nat → Nat} {c : Nat} : ∀ {l : List Nat}, (∀ d ∈ l, f d = f c → d = c) → aft (f c) (l.map f) = (aft c l).map f
  | [], _ => rfl
  | d :: l, h => by
    by_cases z : d = c
    · subst z; rw [List.map_cons, aft_self, aft_self]
    · rw [List.map_cons, aft_ne _ (fun q => z (h d List.mem_cons_self q)), aft_ne _ z, aft_map fun e he => h e (List.mem_cons_of_mem _ he)]
theorem cl_called {f : Nat → Nat} : ∀ (k : Nat) (l : List Nat), l.length ≤ k → Low l → Low (l.map f) → (∀ c ∈ l, ∀ d ∈ l, f d = f c → d = c) → ∀ n, cl n (l.map f) = cl n l
  | k, [], _, _, _, _, n => rfl
  | 0, c :: l, h, _, _, _, n => by simp at h
  | k + 1, c :: l, h, lw, lw2, hf, 0 => by rw [cl_zero, cl_zero]
  | k + 1, c :: l, h, lw, lw2, hf, n + 1 => by
    have hl : l.length ≤ k := by simp at h; omega
    have lwl : Low l := lw.sub fun d hd => List.mem_cons_of_mem _ hd
    have lwl2 : Low (l.map f) := lw2.sub fun d hd => List.mem_cons_of_mem _ hd
    have hfl : ∀ c ∈ l, ∀ d ∈ l, f d = f c → d = c := fun c hc d hd => hf c (List.mem_cons_of_mem _ hc) d (List.mem_cons_of_mem _ hd)
    have hfc : ∀ d ∈ l, f d = f c → d = c := fun d hd => hf c List.mem_cons_self d (List.mem_cons_of_mem _ hd)
    have e1 := cl_cons n l (lw c List.mem_cons_self)
    have e2 := cl_cons n (l.map f) (lw2 (f c) List.mem_cons_self)
    have i1 := cl_called k l hl lwl lwl2 hfl
    rw [i1, i1] at e2
    have em : f c ∈ l.map f ↔ c ∈ l := by
      rw [List.mem_map]
      constructor
      · rintro ⟨d, hd, e⟩
        rw [← hfc d hd e]; exact hd
      · intro hc
        exact ⟨c, hc, rfl⟩
    rw [List.map_cons]
    by_cases z : c ∈ l
    · rw [if_pos z] at e1
      have ha := (aft_suffix c l).length_le
      have ls := fun d (hd : d ∈ aft c l) => (aft_suffix c l).subset hd
      rw [if_pos (em.mpr z), aft_map hfc, cl_called k (aft c l) (by omega) (lwl.sub ls) (lwl2.sub fun d hd => by
        obtain ⟨x, hx, rfl⟩ := List.mem_map.mp hd
        exact List.mem_map.mpr ⟨x, ls x hx, rfl⟩) (fun a ha b hb => hfl a (ls a ha) b (ls b hb))] at e2
      omega
    · rw [if_neg z] at e1
      rw [if_neg fun q => z (em.mp q)] at e2
      omega
theorem lens_called {f : Nat → Nat} {l : List Nat} (lw : Low l) (lw2 : Low (l.map f)) (hf : ∀ c ∈ l, ∀ d ∈ l, f d = f c → d = c) : lens (l.map f) = lens l := by
  unfold lens
  rw [List.length_map]
  exact List.map_congr_left fun n _ => cl_called l.length l (Nat.le_refl _) lw lw2 hf n
theorem cn_called {f : Nat → Nat} {l : List Nat} (lw : Low l) (lw2 : Low (l.map f)) (hf : ∀ c ∈ l, ∀ d ∈ l, f d = f c → d = c) : cn (l.map f) = cn l := by rw [← sum_lens lw, ← sum_lens lw2, lens_called lw lw2 hf]
/-! ways to take so many -/
def ch : Nat → Nat → Nat
  | _, 0 => 1
  | 0, _ + 1 => 0
  | n + 1, k + 1 => ch n (k + 1) + ch n k
theorem ch_zero (n : Nat) : ch n 0 = 1 := by cases n <;> rfl
theorem ch_over : ∀ (n k : Nat), n < k → ch n k = 0
  | 0, k + 1, _ => rfl
  | n + 1, k + 1, h => by rw [ch, ch_over n (k + 1) (by omega), ch_over n k (by omega)]
theorem ch_step : ∀ (n k : Nat), (k + 1) * ch n (k + 1) = (n - k) * ch n k
  | 0, k => by simp [ch]
  | n + 1, 0 => by
    have := ch_step n 0
    rw [ch_zero] at this
    show 1 * (ch n 1 + ch n 0) = _
    rw [ch_zero, ch_zero]
    simp at this ⊢
    omega
  | n + 1, k + 1 => by
    have h1 := ch_step n (k + 1)
    have h2 := ch_step n k
    rw [ch, ch, Nat.mul_add, h1]
    rcases Nat.lt_or_ge n (k + 1) with z | z
    · rw [ch_over n (k + 1) z]
      rcases Nat.lt_or_ge n k with y | y
      · rw [ch_over n k y]; simp
      · have : n = k := by omega
        subst this
        rw [ch_over n (n + 1) (by omega)] at h2
        simp
    · obtain ⟨a, rfl⟩ : ∃ a, n = k + 1 + a := ⟨n - (k + 1), by omega⟩
      rw [show k + 1 + a - (k + 1) = a by omega, show k + 1 + a + 1 - (k + 1) = a + 1 by omega]
      rw [show k + 1 + a - k = a + 1 by omega] at h2
      have : (k + 1 + 1) * ch (k + 1 + a) (k + 1) = (k + 1) * ch (k + 1 + a) (k + 1) + ch (k + 1 + a) (k + 1) := by rw [Nat.add_mul]; omega
      have e4 : (a + 1) * ch (k + 1 + a) (k + 1) = a * ch (k + 1 + a) (k + 1) + ch (k + 1 + a) (k + 1) := by rw [Nat.add_mul, Nat.one_mul]
      rw [this, h2, Nat.mul_add (a + 1), e4]
      omega
theorem ch_div (n k : Nat) : ch n k * (n - k) / (k + 1) = ch n (k + 1) := by
  rw [Nat.mul_comm, ← ch_step, Nat.mul_div_cancel_left _ (by omega)]
theorem cl_ch : ∀ (l : List Nat) (n : Nat), Low l → cl n l ≤ ch l.length n
  | l, 0, _ => by rw [cl_zero, ch_zero]; exact Nat.le_refl _
  | [], n + 1, h => by rw [cl_long (by simp) h]; exact Nat.zero_le _
  | c :: l, n + 1, h => by
    have lwl : Low l := h.sub fun d hd => List.mem_cons_of_mem _ hd
    have := cl_cons n l (h c List.mem_cons_self)
    have := cl_ch l (n + 1) lwl
    have := cl_ch l n lwl
    rw [List.length_cons, ch]
    omega
/-! rows of unlike letters behind one another -/
theorem aft_app {c : Nat} : ∀ {a : List Nat} (b : List Nat), c ∈ a → aft c (a ++ b) = aft c a ++ b
  | [], _, h => by cases h
  | d :: a, b, h => by
    by_cases z : d = c
    · subst z; rw [List.cons_append, aft_self, aft_self]
    · rw [List.cons_append, aft_ne _ z, aft_ne _ z]
      rcases List.mem_cons.mp h with q | q
      · exact absurd q.symm z
      · exact aft_app b q
theorem cn_app : ∀ (k : Nat) (a b : List Nat), a.length ≤ k → Low a → (∀ c ∈ a, c ∉ b) → cn (a ++ b) = cn a * cn b
  | k, [], b, _, _, _ => by rw [List.nil_append, cn_nil, Nat.one_mul]
  | 0, c :: a, b, h, _, _ => by simp at h
  | k + 1, c :: a, b, h, lw, hd => by
    have hl : a.length ≤ k := by simp at h; omega
    have lwl : Low a := lw.sub fun d hd => List.mem_cons_of_mem _ hd
    have hda : ∀ c ∈ a, c ∉ b := fun c hc => hd c (List.mem_cons_of_mem _ hc)
    have e1 := cn_cons (a ++ b) (lw c List.mem_cons_self)
    have e2 := cn_cons a (lw c List.mem_cons_self)
    rw [cn_app k a b hl lwl hda] at e1
    have em : c ∈ a ++ b ↔ c ∈ a := by
      rw [List.mem_append]
      exact ⟨fun q => q.resolve_right (hd c List.mem_cons_self), .inl⟩
    rw [List.cons_append]
    by_cases z : c ∈ a
    · have ha := (aft_suffix c a).length_le
      have ls := fun d (hd : d ∈ aft c a) => (aft_suffix c a).subset hd
      rw [if_pos (em.mpr z), aft_app b z, cn_app k (aft c a) b (by omega) (lwl.sub ls) (fun d hd => hda d (ls d hd))] at e1
      rw [if_pos z] at e2
      have : (cn (c :: a) + cn (aft c a)) * cn b = 2 * cn a * cn b := by rw [e2]
      rw [Nat.add_mul, Nat.mul_assoc] at this
      omega
    · rw [if_neg fun q => z (em.mp q)] at e1
      rw [if_neg z] at e2
      have : (cn (c :: a) + 0) * cn b = 2 * cn a * cn b := by rw [e2]
      rw [Nat.add_zero, Nat.mul_assoc] at this
      omega
theorem cn_unlike : ∀ {l : List Nat}, Low l → l.Nodup → cn l = 2 ^ l.length
  | [], _, _ => rfl
  | c :: l, lw, nd => by
    obtain ⟨h1, h2⟩ := List.nodup_cons.mp nd
    have e := cn_cons l (lw c List.mem_cons_self)
    rw [if_neg h1, cn_unlike (lw.sub fun d hd => List.mem_cons_of_mem _ hd) h2] at e
    rw [List.length_cons, Nat.pow_succ]
    omega
theorem cn_same {c : Nat} (h : 97 ≤ c ∧ c ≤ 122) : ∀ n, cn (List.replicate n c) = n + 1
  | 0 => rfl
  | n + 1 => by
    have e := cn_cons (c := c) (List.replicate n c) h
    cases n with
    | zero =>
      rw [if_neg (by simp)] at e
      rw [List.replicate_succ]
      rw [show cn (List.replicate 0 c) = 1 from rfl] at e
      omega
    | succ n =>
      rw [if_pos (by simp), List.replicate_succ, aft_self, ← List.replicate_succ, ← List.replicate_succ, cn_same h n, cn_same h (n + 1)] at e
      omega
end Lv

set_option Elab.async false
set_option linter.all false
set_option maxRecDepth 100000
namespace Lv
open PySem L2
/-- all words of so many of the letters, as texts are ordered -/
def aw (ls : List Nat) : Nat → List (List Nat)
  | 0 => [[]]
  | k + 1 => ls.flatMap fun c => (aw ls k).map (c :: ·)
theorem aw_mem {ls : List Nat} : ∀ {k : Nat} {w : List Nat}, w ∈ aw ls k ↔ w.length = k ∧ ∀ c ∈ w, c ∈ ls
  | 0, w => by
    simp only [aw, List.mem_singleton]
    constructor
    · rintro rfl; simp
    · rintro ⟨h, _⟩; exact List.length_eq_zero_iff.mp h
  | k + 1, w => by
    simp only [aw, List.mem_flatMap, List.mem_map]
    constructor
    · rintro ⟨c, hc, v, hv, rfl⟩
      obtain ⟨h1, h2⟩ := aw_mem.mp hv
      refine ⟨by simp [h1], fun d hd => ?_⟩
      rcases List.mem_cons.mp hd with e | e
      · rw [e]; exact hc
      · exact h2 d e
    · rintro ⟨h1, h2⟩
      cases w with
      | nil => cases h1
      | cons c v => exact ⟨c, h2 c List.mem_cons_self, v, aw_mem.mpr ⟨by simpa using h1, fun d hd => h2 d (List.mem_cons_of_mem _ hd)⟩, rfl⟩
theorem aw_up {ls : List Nat} (up : ls.Pairwise (· < ·)) : ∀ k, (aw ls k).Pairwise (· < ·)
  | 0 => by simp [aw]
  | k + 1 => by
    rw [aw, List.pairwise_flatMap]
    refine ⟨fun c _ => ?_, up.imp fun {a b} hab x hx y hy => ?_⟩
    · rw [List.pairwise_map]
      exact (aw_up up k).imp fun {a b} h => List.cons_lt_cons_iff.mpr (.inr ⟨rfl, h⟩)
    · obtain ⟨x', _, rfl⟩ := List.mem_map.mp hx
      obtain ⟨y', _, rfl⟩ := List.mem_map.mp hy
      exact List.cons_lt_cons_iff.mpr (.inl hab)
/-- those of them that aren't left -/
def ab (ls : List Nat) (k : Nat) (l : List Nat) : List (List Nat) := (aw ls k).filter fun w => decide (¬ w.Sublist l)
theorem ab_mem {ls l w : List Nat} {k : Nat} : w ∈ ab ls k l ↔ (w.length = k ∧ ∀ c ∈ w, c ∈ ls) ∧ ¬ w.Sublist l := by
  unfold ab
  rw [List.mem_filter, aw_mem, decide_eq_true_iff]
theorem ab_zero (ls l : List Nat) : ab ls 0 l = [] := by
  simp [ab, aw]
theorem ab_up {ls : List Nat} (up : ls.Pairwise (· < ·)) (k : Nat) (l : List Nat) : (ab ls k l).Pairwise (· < ·) := (aw_up up k).filter _
theorem ab_succ (ls l : List Nat) (k : Nat) : ab ls (k + 1) l = ls.flatMap fun c => (if c ∈ l then ab ls k (aft c l) else aw ls k).map (c :: ·) := by
  unfold ab
  rw [aw, List.filter_flatMap]
  congr 1
  funext c
  rw [List.filter_map]
  by_cases h : c ∈ l
  · rw [if_pos h]
    congr 1
    apply List.filter_congr
    intro w _
    show decide (¬ (c :: w).Sublist l) = _
    congr 1
    rw [cons_sub]
    simp [h]
  · rw [if_neg h]
    congr 1
    rw [List.filter_eq_self]
    intro w _
    show decide (¬ (c :: w).Sublist l) = true
    rw [decide_eq_true_iff, cons_sub]
    exact fun z => h z.1
/-- k is the least length of which some aren't left, n how many -/
def Sh (ls l : List Nat) (k n : Nat) : Prop := (∀ j, j < k → ab ls j l = []) ∧ ab ls k l ≠ [] ∧ n = (ab ls k l).length
theorem Sh.uniq {ls l : List Nat} {k n k' n' : Nat} (h : Sh ls l k n) (h' : Sh ls l k' n') : k = k' ∧ n = n' := by
  obtain ⟨a1, a2, a3⟩ := h
  obtain ⟨b1, b2, b3⟩ := h'
  have e : k = k' := by
    rcases Nat.lt_trichotomy k k' with z | z | z
    · exact absurd (b1 k z) a2
    · exact z
    · exact absurd (a1 k' z) b2
  subst e
  exact ⟨rfl, by rw [a3, b3]⟩
theorem ab_long {ls l : List Nat} (h : ls ≠ []) : ab ls (l.length + 1) l ≠ [] := by
  obtain ⟨c, r, rfl⟩ := List.exists_cons_of_ne_nil h
  intro e
  have : List.replicate (l.length + 1) c ∈ ab (c :: r) (l.length + 1) l := ab_mem.mpr ⟨⟨by simp, fun d hd => by rw [(List.mem_replicate.mp hd).2]; exact List.mem_cons_self⟩, fun z => by have := z.length_le; simp at this; omega⟩
  rw [e] at this
  cases this
theorem least_of {P : Nat → Prop} [DecidablePred P] : ∀ n, P n → ∃ k, k ≤ n ∧ P k ∧ ∀ j, j < k → ¬ P j := by
  intro n
  induction n using Nat.strongRecOn with
  | _ n ih =>
    intro h
    by_cases z : ∃ j, j < n ∧ P j
    · obtain ⟨j, h1, h2⟩ := z
      obtain ⟨k, a, b, c⟩ := ih j h1 h2
      exact ⟨k, by omega, b, c⟩
    · exact ⟨n, Nat.le_refl _, h, fun j hj hp => z ⟨j, hj, hp⟩⟩
theorem sh_ex {ls : List Nat} (h : ls ≠ []) (l : List Nat) : ∃ k, k ≤ l.length + 1 ∧ Sh ls l k (ab ls k l).length := by
  obtain ⟨k, h1, h2, h3⟩ := least_of (P := fun k => ab ls k l ≠ []) (l.length + 1) (ab_long h)
  exact ⟨k, h1, fun j hj => Decidable.not_not.mp (h3 j hj), h2, rfl⟩
/-- the least length of which some aren't left -/
def sh (ls l : List Nat) : Nat := ((List.range (l.length + 2)).find? fun k => decide (ab ls k l ≠ [])).getD 0
def shn (ls l : List Nat) : Nat := (ab ls (sh ls l) l).length
theorem sh_ok {ls : List Nat} (h : ls ≠ []) (l : List Nat) : Sh ls l (sh ls l) (shn ls l) := by
  obtain ⟨k, hk, s⟩ := sh_ex h l
  have e : (List.range (l.length + 2)).find? (fun k => decide (ab ls k l ≠ [])) = some k := by
    rw [List.find?_range_eq_some]
    exact ⟨decide_eq_true s.2.1, List.mem_range.mpr (by omega), fun j hj => by rw [s.1 j hj]; rfl⟩
  have : sh ls l = k := by unfold sh; rw [e]; rfl
  unfold shn
  rw [this]
  exact s
theorem sh_is {ls l : List Nat} {k n : Nat} (h : ls ≠ []) (s : Sh ls l k n) : sh ls l = k ∧ shn ls l = n := (sh_ok h l).uniq s
theorem sh_le {ls : List Nat} (h : ls ≠ []) (l : List Nat) : sh ls l ≤ l.length + 1 := by
  obtain ⟨k, hk, s⟩ := sh_ex h l
  rw [(sh_is h s).1]; exact hk
theorem sh_pos {ls : List Nat} (h : ls ≠ []) (l : List Nat) : 1 ≤ sh ls l := by
  have s := sh_ok h l
  rcases Nat.eq_zero_or_pos (sh ls l) with z | z
  · exact absurd (by rw [z]; exact ab_zero ls l) s.2.1
  · exact z
theorem shn_pos {ls : List Nat} (h : ls ≠ []) (l : List Nat) : 1 ≤ shn ls l := List.length_pos_iff.mpr (sh_ok h l).2.1
/-- what a letter leads to -/
def led (ls l : List Nat) (c : Nat) : Nat × Nat := if c ∈ l then (sh ls (aft c l) + 1, shn ls (aft c l)) else (1, 1)
theorem len_flat {α β : Type} (f : α → List β) (l : List α) : (l.flatMap f).length = (l.map fun c => (f c).length).sum := by
  induction l with
  | nil => rfl
  | cons a l ih => rw [List.flatMap_cons, List.length_append, ih, List.map_cons, List.sum_cons]
theorem sum_zero {α : Type} (f : α → Nat) : ∀ l : List α, (∀ c ∈ l, f c = 0) → (l.map f).sum = 0
  | [], _ => rfl
  | a :: l, h => by rw [List.map_cons, List.sum_cons, h a List.mem_cons_self, sum_zero f l fun c hc => h c (List.mem_cons_of_mem _ hc)]
theorem mem_le_sum : ∀ {l : List Nat} {x : Nat}, x ∈ l → x ≤ l.sum
  | a :: l, x, h => by
    rw [List.sum_cons]
    rcases List.mem_cons.mp h with e | e
    · omega
    · have := mem_le_sum e; omega
/-- how many with a letter ahead aren't left -/
def abc1 (ls l : List Nat) (k c : Nat) : Nat := (if c ∈ l then ab ls k (aft c l) else aw ls k).length
theorem ab_len (ls l : List Nat) (k : Nat) : (ab ls (k + 1) l).length = (ls.map fun c => abc1 ls l k c).sum := by
  rw [ab_succ, len_flat]
  simp only [List.length_map]
  rfl
theorem abc1_less {ls l : List Nat} {k c : Nat} (h : ls ≠ []) (hk : k + 1 < (led ls l c).1) : abc1 ls l k c = 0 := by
  unfold led at hk
  unfold abc1
  by_cases z : c ∈ l
  · rw [if_pos z] at hk ⊢
    rw [(sh_ok h (aft c l)).1 k (by simpa using hk)]
    rfl
  · rw [if_neg z] at hk
    simp at hk
theorem abc1_at {ls l : List Nat} {k c : Nat} (hk : k + 1 = (led ls l c).1) : abc1 ls l k c = (led ls l c).2 := by
  unfold led at hk ⊢
  unfold abc1
  by_cases z : c ∈ l
  · rw [if_pos z] at hk ⊢
    rw [if_pos z]
    have : k = sh ls (aft c l) := by simpa using hk
    rw [this]
    rfl
  · rw [if_neg z] at hk ⊢
    rw [if_neg z]
    have : k = 0 := by simpa using hk
    subst this
    rfl
theorem sum_sel (ls : List Nat) (f : Nat → Nat × Nat) (m : Nat) : ((ls.map f).filter (fun p => decide (p.1 = m))).map (·.2) = (ls.filter fun c => decide ((f c).1 = m)).map fun c => (f c).2 := by
  induction ls with
  | nil => rfl
  | cons a l ih =>
    rw [List.map_cons, List.filter_cons, List.filter_cons]
    by_cases z : (f a).1 = m
    · rw [if_pos (by simp [z]), if_pos (by simp [z]), List.map_cons, List.map_cons, ih]
    · rw [if_neg (by simp [z]), if_neg (by simp [z]), ih]
theorem lack_step {ls l : List Nat} (h : ls ≠ []) {m : Nat} (h1 : m ∈ (ls.map (led ls l)).map (·.1)) (h2 : ∀ y, y ∈ (ls.map (led ls l)).map (·.1) → m ≤ y) :
    m = sh ls l ∧ (((ls.map (led ls l)).filter (fun p => decide (p.1 = m))).map (·.2)).sum = shn ls l := by
  have low : ∀ c ∈ ls, m ≤ (led ls l c).1 := fun c hc => h2 _ (by rw [List.map_map]; exact List.mem_map.mpr ⟨c, hc, rfl⟩)
  obtain ⟨c0, hc0, e0⟩ : ∃ c, c ∈ ls ∧ (led ls l c).1 = m := by
    rw [List.map_map] at h1
    obtain ⟨c, a, b⟩ := List.mem_map.mp h1
    exact ⟨c, a, b⟩
  have pos : 1 ≤ m := by
    rw [← e0]
    unfold led
    split
    · exact Nat.le_add_left _ _
    · exact Nat.le_refl _
  obtain ⟨k, rfl⟩ : ∃ k, m = k + 1 := ⟨m - 1, by omega⟩
  have cnt : (((ls.map (led ls l)).filter (fun p => decide (p.1 = k + 1))).map (·.2)).sum = (ab ls (k + 1) l).length := by
    rw [ab_len, sum_sel, sum_filter (p := fun c => (led ls l c).1 = k + 1)]
    congr 1
    apply List.map_congr_left
    intro c hc
    by_cases z : (led ls l c).1 = k + 1
    · rw [if_pos z, abc1_at z.symm]
    · rw [if_neg z, abc1_less h (by have := low c hc; omega)]
  have s : Sh ls l (k + 1) (ab ls (k + 1) l).length := by
    refine ⟨fun j hj => ?_, ?_, rfl⟩
    · cases j with
      | zero => exact ab_zero ls l
      | succ j =>
        apply List.length_eq_zero_iff.mp
        rw [ab_len]
        exact sum_zero _ _ fun c hc => abc1_less h (by have := low c hc; omega)
    · intro e
      have z : (ab ls (k + 1) l).length = 0 := by rw [e]; rfl
      rw [ab_len] at z
      have : abc1 ls l k c0 ≤ (ls.map fun c => abc1 ls l k c).sum := by
        exact mem_le_sum (List.mem_map.mpr ⟨c0, hc0, rfl⟩)
      rw [abc1_at e0.symm] at this
      have p : 1 ≤ (led ls l c0).2 := by
        unfold led
        split
        · exact shn_pos h _
        · exact Nat.le_refl _
      omega
  have := sh_is h s
  exact ⟨this.1.symm, by rw [cnt, this.2]⟩
end Lv

set_option Elab.async false
set_option linter.all false
set_option maxRecDepth 100000
namespace Lv
open PySem L2
theorem sh_mono {ls l l' : List Nat} (h : ls ≠ []) (s : l.Sublist l') : sh ls l ≤ sh ls l' := by
  rcases Nat.lt_or_ge (sh ls l') (sh ls l) with z | z
  · have e := (sh_ok h l).1 _ z
    obtain ⟨w, hw⟩ := List.exists_mem_of_ne_nil _ (sh_ok h l').2.1
    obtain ⟨h1, h2⟩ := ab_mem.mp hw
    have : w ∈ ab ls (sh ls l') l := ab_mem.mpr ⟨h1, fun q => h2 (q.trans s)⟩
    rw [e] at this
    cases this
  · exact z
theorem sh_left {ls l w : List Nat} (h : ls ≠ []) (hw : ∀ c ∈ w, c ∈ ls) (hl : w.length < sh ls l) : w.Sublist l := by
  apply Classical.byContradiction
  intro z
  have : w ∈ ab ls w.length l := ab_mem.mpr ⟨⟨rfl, hw⟩, z⟩
  rw [(sh_ok h l).1 _ hl] at this
  cases this
theorem sh_arch {ls P R : List Nat} {c0 : Nat} (h : ls ≠ []) (hc : c0 ∈ ls) (all : ∀ c ∈ ls, c ∈ P ++ [c0]) (n0 : c0 ∉ P) : sh ls (P ++ [c0] ++ R) = 1 + sh ls R := by
  have e0 : aft c0 (P ++ [c0] ++ R) = R := by
    rw [List.append_assoc]
    have : ∀ P : List Nat, c0 ∉ P → aft c0 (P ++ ([c0] ++ R)) = R := by
      intro P
      induction P with
      | nil => intro _; exact aft_self c0 R
      | cons d P ih =>
        intro hn
        rw [List.cons_append, aft_ne _ (fun e => hn (by rw [e]; exact List.mem_cons_self))]
        exact ih fun z => hn (List.mem_cons_of_mem _ z)
    exact this P n0
  have low : ∀ c ∈ ls, sh ls R + 1 ≤ (led ls (P ++ [c0] ++ R) c).1 := by
    intro c hc'
    have hm := all c hc'
    unfold led
    rw [if_pos (List.mem_append_left _ hm), aft_app R hm]
    exact Nat.succ_le_succ (sh_mono h (List.sublist_append_right _ _))
  have := lack_step h (l := P ++ [c0] ++ R) (m := sh ls R + 1) ?_ ?_
  · rw [← this.1]; omega
  · rw [List.map_map]
    refine List.mem_map.mpr ⟨c0, hc, ?_⟩
    show (led ls (P ++ [c0] ++ R) c0).1 = _
    unfold led
    rw [if_pos (by simp), e0]
  · intro y hy
    rw [List.map_map] at hy
    obtain ⟨c, h1, rfl⟩ := List.mem_map.mp hy
    exact low c h1
theorem sh_one {ls l : List Nat} {c : Nat} (h : ls ≠ []) (hc : c ∈ ls) (n : c ∉ l) : sh ls l = 1 := by
  have p := sh_pos h l
  rcases Nat.lt_or_ge 1 (sh ls l) with z | z
  · have := sh_left (w := [c]) h (fun d hd => by rw [List.mem_singleton.mp hd]; exact hc) z
    exact absurd (this.subset List.mem_cons_self) n
  · omega
/-- by arches -/
theorem sh_arcS {ls l : List Nat} (h : ls ≠ []) : ∀ e, e ≤ l.length → sh ls l = (arcS ls l e).1.length + sh ls (l.drop (arcS ls l e).2) ∧ ∃ c, c ∈ ls ∧ c ∉ cutN l (arcS ls l e).2 e
  | 0, _ => by
    obtain ⟨c, r, rfl⟩ := List.exists_cons_of_ne_nil h
    exact ⟨by simp [arcS], c, List.mem_cons_self, by simp [arcS, cutN]⟩
  | e + 1, he => by
    obtain ⟨h1, c, hc, nc⟩ := sh_arcS (l := l) h e (by omega)
    have hb := arcS_le ls l e
    rw [arcS]
    by_cases z : allIn ls (cutN l (arcS ls l e).2 (e + 1)) = true
    · rw [if_pos z]
      obtain ⟨d, hd, ed⟩ := drop_at (l := l) (i := e) (by omega)
      have ec := cutN_succ hb hd
      have all := allIn_iff.mp z
      rw [ec] at all
      have cd : c = d := by
        rcases List.mem_append.mp (all c hc) with q | q
        · exact absurd q nc
        · exact List.mem_singleton.mp q
      subst cd
      have el : l.drop (arcS ls l e).2 = cutN l (arcS ls l e).2 e ++ [c] ++ l.drop (e + 1) := by
        rw [← ec]
        unfold cutN
        have := List.take_append_drop (e + 1 - (arcS ls l e).2) (l.drop (arcS ls l e).2)
        rw [List.drop_drop, show (arcS ls l e).2 + (e + 1 - (arcS ls l e).2) = e + 1 by omega] at this
        exact this.symm
      refine ⟨?_, c, hc, by simp [cutN]⟩
      dsimp only
      rw [h1, el, sh_arch h hc all nc, List.length_append]
      simp only [List.length_singleton]
      omega
    · rw [if_neg z]
      refine ⟨h1, ?_⟩
      apply Classical.byContradiction
      intro q
      exact z (allIn_iff.mpr fun c hc => Classical.byContradiction fun nc => q ⟨c, hc, nc⟩)
theorem sh_arcs {ls l : List Nat} (h : ls ≠ []) : sh ls l = (arcs ls l).length + 1 := by
  obtain ⟨h1, c, hc, nc⟩ := sh_arcS (l := l) h l.length (Nat.le_refl _)
  have hb := arcS_le ls l l.length
  have e : cutN l (arcS ls l l.length).2 l.length = l.drop (arcS ls l l.length).2 := by
    unfold cutN
    rw [List.take_of_length_le (by rw [List.length_drop]; exact Nat.le_refl _)]
  rw [e] at nc
  rw [h1, sh_one h hc nc]
  rfl
end Lv

set_option Elab.async false
set_option linter.all false
set_option maxRecDepth 100000
namespace Lv
open PySem L2
/-- where the first places of a row end -/
def gf (l : List Nat) : Nat → List Nat → Option Nat
  | p, [] => some p
  | p, c :: w => (nextP l p c).bind fun k => gf l (k + 1) w
theorem gf_snoc (l : List Nat) : ∀ (w : List Nat) (p c : Nat), gf l p (w ++ [c]) = (gf l p w).bind fun q => (nextP l q c).map (· + 1)
  | [], p, c => by
    show (nextP l p c).bind (fun k => some (k + 1)) = (nextP l p c).map (· + 1)
    cases nextP l p c <;> rfl
  | d :: w, p, c => by
    show (nextP l p d).bind (fun k => gf l (k + 1) (w ++ [c])) = _
    cases e : nextP l p d with
    | none => simp [gf, e]
    | some k =>
      show gf l (k + 1) (w ++ [c]) = _
      rw [gf_snoc l w (k + 1) c]
      simp [gf, e]
theorem gf_fp (l : List Nat) : ∀ (w : List Nat) (p : Nat), (gf l p w).isSome = (fp l p w).isSome
  | [], p => rfl
  | c :: w, p => by
    cases e : nextP l p c with
    | none => rw [fp_none w e]; simp [gf, e]
    | some k =>
      rw [fp_some w e, Option.isSome_map, ← gf_fp l w (k + 1)]
      simp [gf, e]
theorem gf_left {l w : List Nat} : (gf l 0 w).isSome ↔ w.Sublist l := by rw [gf_fp]; exact fp0 l w
theorem gf_none {l w : List Nat} : gf l 0 w = none ↔ ¬ w.Sublist l := by
  rw [← gf_left]
  cases gf l 0 w <;> simp
theorem gf_le {l : List Nat} : ∀ {w : List Nat} {p q : Nat}, gf l p w = some q → p ≤ l.length → q ≤ l.length
  | [], p, q, h, hp => by cases h; exact hp
  | c :: w, p, q, h, hp => by
    cases e : nextP l p c with
    | none => simp [gf, e] at h
    | some k =>
      have : gf l (k + 1) w = some q := by simpa [gf, e] using h
      exact gf_le this (by have := nextP_lt e; omega)
def gr (l : List Nat) (X : List (List Nat)) (p : Nat) : List (List Nat) := X.filter fun w => decide (gf l 0 w = some p)
def gn (l : List Nat) (X : List (List Nat)) : List (List Nat) := X.filter fun w => decide (gf l 0 w = none)
theorem gr_mem {l w : List Nat} {X : List (List Nat)} {p : Nat} : w ∈ gr l X p ↔ w ∈ X ∧ gf l 0 w = some p := by unfold gr; rw [List.mem_filter, decide_eq_true_iff]
theorem gn_mem {l w : List Nat} {X : List (List Nat)} : w ∈ gn l X ↔ w ∈ X ∧ gf l 0 w = none := by unfold gn; rw [List.mem_filter, decide_eq_true_iff]
theorem gr_app (l : List Nat) (X Y : List (List Nat)) (p : Nat) : gr l (X ++ Y) p = gr l X p ++ gr l Y p := List.filter_append ..
theorem gn_app (l : List Nat) (X Y : List (List Nat)) : gn l (X ++ Y) = gn l X ++ gn l Y := List.filter_append ..
/-- so many with these first places, the first of them -/
def Grp (l : List Nat) (X : List (List Nat)) (p n : Nat) (m : List Nat) : Prop := n = (gr l X p).length ∧ m ∈ gr l X p ∧ ∀ w ∈ gr l X p, ¬ w < m
structure Off (l : List Nat) (X : List (List Nat)) (os : List (List Nat × Nat)) : Prop where
  sum : (os.map (·.2)).sum = (gn l X).length
  mem : ∀ o ∈ os, o.1 ∈ gn l X
  low : ∀ w ∈ gn l X, ∃ o ∈ os, ¬ w < o.1
theorem lt_snoc {c : Nat} : ∀ {a b : List Nat}, a.length = b.length → a ++ [c] < b ++ [c] → a < b
  | [], [], _, h => by simp at h
  | x :: a, y :: b, hl, h => by
    rw [List.cons_append, List.cons_append, List.cons_lt_cons_iff] at h
    rcases h with h | ⟨rfl, h⟩
    · exact List.cons_lt_cons_iff.mpr (.inl h)
    · exact List.cons_lt_cons_iff.mpr (.inr ⟨rfl, lt_snoc (by simpa using hl) h⟩)
def bt (l : List Nat) (W : List (List Nat)) (p c : Nat) : List (List Nat) := (gr l W p).map (· ++ [c])
theorem bt_gf {l w : List Nat} {W : List (List Nat)} {p c : Nat} (h : w ∈ bt l W p c) : gf l 0 w = (nextP l p c).map (· + 1) := by
  obtain ⟨v, hv, rfl⟩ := List.mem_map.mp h
  rw [gf_snoc, (gr_mem.mp hv).2]
  rfl
theorem filter_all {α : Type} {p : α → Bool} {l : List α} (h : ∀ x ∈ l, p x = true) : l.filter p = l := List.filter_eq_self.mpr h
theorem filter_no {α : Type} {p : α → Bool} {l : List α} (h : ∀ x ∈ l, ¬ p x = true) : l.filter p = [] := List.filter_eq_nil_iff.mpr h
theorem bt_gr_none {l : List Nat} {W : List (List Nat)} {p c q : Nat} (h : nextP l p c = none) : gr l (bt l W p c) q = [] := filter_no fun w hw => by rw [bt_gf hw, h]; simp
theorem bt_gn_none {l : List Nat} {W : List (List Nat)} {p c : Nat} (h : nextP l p c = none) : gn l (bt l W p c) = bt l W p c := filter_all fun w hw => by rw [bt_gf hw, h]; rfl
theorem bt_gr_some {l : List Nat} {W : List (List Nat)} {p c k : Nat} (h : nextP l p c = some k) : gr l (bt l W p c) (k + 1) = bt l W p c := filter_all fun w hw => by rw [bt_gf hw, h]; simp
theorem bt_gr_other {l : List Nat} {W : List (List Nat)} {p c k q : Nat} (h : nextP l p c = some k) (n : q ≠ k + 1) : gr l (bt l W p c) q = [] := filter_no fun w hw => by rw [bt_gf hw, h]; simp; omega
theorem bt_gn_some {l : List Nat} {W : List (List Nat)} {p c k : Nat} (h : nextP l p c = some k) : gn l (bt l W p c) = [] := filter_no fun w hw => by rw [bt_gf hw, h]; simp
theorem bt_low {l m : List Nat} {W : List (List Nat)} {p c n j : Nat} (hW : ∀ w ∈ W, w.length = j) (g : Grp l W p n m) : m ++ [c] ∈ bt l W p c ∧ ∀ w ∈ bt l W p c, ¬ w < m ++ [c] := by
  obtain ⟨_, g2, g3⟩ := g
  refine ⟨List.mem_map.mpr ⟨m, g2, rfl⟩, fun w hw => ?_⟩
  obtain ⟨v, hv, rfl⟩ := List.mem_map.mp hw
  intro z
  exact g3 v hv (lt_snoc (by rw [hW v (gr_mem.mp hv).1, hW m (gr_mem.mp g2).1]) z)
theorem Off.add {l m : List Nat} {W X : List (List Nat)} {p c n j : Nat} {os : List (List Nat × Nat)} (hW : ∀ w ∈ W, w.length = j) (g : Grp l W p n m) (hn : nextP l p c = none) (h : Off l X os) : Off l (X ++ bt l W p c) (os ++ [(m ++ [c], n)]) := by
  obtain ⟨b1, b2⟩ := bt_low (c := c) hW g
  refine ⟨?_, fun o ho => ?_, fun w hw => ?_⟩
  · rw [gn_app, bt_gn_none hn, List.length_append, List.map_append, List.sum_append_nat, h.sum, bt, List.length_map, ← g.1]; simp
  · rw [gn_app, bt_gn_none hn]
    rcases List.mem_append.mp ho with z | z
    · exact List.mem_append_left _ (h.mem o z)
    · rw [List.mem_singleton.mp z]; exact List.mem_append_right _ b1
  · rw [gn_app, bt_gn_none hn] at hw
    rcases List.mem_append.mp hw with z | z
    · obtain ⟨o, h1, h2⟩ := h.low w z
      exact ⟨o, List.mem_append_left _ h1, h2⟩
    · exact ⟨_, List.mem_append_right _ (List.mem_singleton.mpr rfl), b2 w z⟩
theorem Off.keep {l : List Nat} {W X : List (List Nat)} {p c k : Nat} {os : List (List Nat × Nat)} (hn : nextP l p c = some k) (h : Off l X os) : Off l (X ++ bt l W p c) os := by
  have e : gn l (X ++ bt l W p c) = gn l X := by rw [gn_app, bt_gn_some hn, List.append_nil]
  exact ⟨by rw [e]; exact h.sum, by rw [e]; exact h.mem, by rw [e]; exact h.low⟩
theorem Off.none {l : List Nat} : Off l [] [] := ⟨rfl, fun _ z => (nomatch z), fun _ z => (nomatch z)⟩
theorem lt_or {a b : List Nat} : a < b ∨ ¬ a < b := Classical.em _
theorem Grp.keep {l m' : List Nat} {W X : List (List Nat)} {p c q n' : Nat} (h : Grp l X q n' m') (e : gr l (bt l W p c) q = []) : Grp l (X ++ bt l W p c) q n' m' := by
  have e : gr l (X ++ bt l W p c) q = gr l X q := by rw [gr_app, e, List.append_nil]
  unfold Grp
  rw [e]
  exact h
theorem Grp.first {l m : List Nat} {W X : List (List Nat)} {p c n k j : Nat} (hW : ∀ w ∈ W, w.length = j) (g : Grp l W p n m) (hn : nextP l p c = some k) (h : gr l X (k + 1) = []) : Grp l (X ++ bt l W p c) (k + 1) n (m ++ [c]) := by
  obtain ⟨b1, b2⟩ := bt_low (c := c) hW g
  have e : gr l (X ++ bt l W p c) (k + 1) = bt l W p c := by rw [gr_app, bt_gr_some hn, h, List.nil_append]
  unfold Grp
  rw [e]
  exact ⟨by rw [g.1, bt, List.length_map], b1, b2⟩
theorem Grp.more {l m m' : List Nat} {W X : List (List Nat)} {p c n n' k j : Nat} (hW : ∀ w ∈ W, w.length = j) (g : Grp l W p n m) (hn : nextP l p c = some k) (h : Grp l X (k + 1) n' m') : Grp l (X ++ bt l W p c) (k + 1) (n' + n) (if m ++ [c] < m' then m ++ [c] else m') := by
  obtain ⟨b1, b2⟩ := bt_low (c := c) hW g
  obtain ⟨h1, h2, h3⟩ := h
  have e : gr l (X ++ bt l W p c) (k + 1) = gr l X (k + 1) ++ bt l W p c := by rw [gr_app, bt_gr_some hn]
  unfold Grp
  rw [e]
  refine ⟨by rw [List.length_append, ← h1, g.1, bt, List.length_map], ?_, fun w hw => ?_⟩
  · split
    · exact List.mem_append_right _ b1
    · exact List.mem_append_left _ h2
  · rcases List.mem_append.mp hw with z | z
    · split
      · next y => exact fun x => h3 w z (List.lt_trans x y)
      · exact h3 w z
    · split
      · exact b2 w z
      · next y => exact fun x => y (List.lt_of_le_of_lt (List.not_lt.mp (b2 w z)) x)
/-- all words of so many of the letters, in any order -/
def Al (ls : List Nat) (j : Nat) (W : List (List Nat)) : Prop := W.Nodup ∧ ∀ w, w ∈ W ↔ w.length = j ∧ ∀ c ∈ w, c ∈ ls
theorem Al.zero (ls : List Nat) : Al ls 0 [[]] := ⟨by simp, fun w => by
  rw [List.mem_singleton]
  constructor
  · rintro rfl; simp
  · rintro ⟨h, _⟩; exact List.length_eq_zero_iff.mp h⟩
def nx1 (l ls : List Nat) (W : List (List Nat)) (p : Nat) : List (List Nat) := ls.flatMap fun c => bt l W p c
theorem Al.next {ls l ps : List Nat} {j : Nat} {W : List (List Nat)} (hA : Al ls j W) (hls : ls.Nodup) (nd : ps.Nodup) (hp : ∀ w ∈ W, ∃ p ∈ ps, gf l 0 w = some p) : Al ls (j + 1) (ps.flatMap fun p => nx1 l ls W p) := by
  obtain ⟨a1, a2⟩ := hA
  refine ⟨?_, fun w => ?_⟩
  · unfold List.Nodup
    rw [List.pairwise_flatMap]
    refine ⟨fun p _ => ?_, nd.imp fun {p p'} hne x hx y hy z => ?_⟩
    · unfold nx1
      rw [List.pairwise_flatMap]
      refine ⟨fun c _ => ?_, hls.imp fun {c c'} hne x hx y hy z => ?_⟩
      · unfold bt
        rw [List.pairwise_map]
        exact (a1.filter _).imp fun {a b} h z => h (List.append_inj_left' z rfl)
      · obtain ⟨v, _, rfl⟩ := List.mem_map.mp hx
        obtain ⟨v', _, rfl⟩ := List.mem_map.mp hy
        have := List.append_inj_right' z rfl
        exact hne (by simpa using this)
    · obtain ⟨c, _, h1⟩ := List.mem_flatMap.mp hx
      obtain ⟨c', _, h2⟩ := List.mem_flatMap.mp hy
      obtain ⟨v, hv, rfl⟩ := List.mem_map.mp h1
      obtain ⟨v', hv', rfl⟩ := List.mem_map.mp h2
      have := List.append_inj_left' z rfl
      subst this
      have e := (gr_mem.mp hv).2.symm.trans (gr_mem.mp hv').2
      exact hne (Option.some.inj e)
  · constructor
    · intro h
      obtain ⟨p, _, h1⟩ := List.mem_flatMap.mp h
      obtain ⟨c, hc, h2⟩ := List.mem_flatMap.mp h1
      obtain ⟨v, hv, rfl⟩ := List.mem_map.mp h2
      obtain ⟨e1, e2⟩ := (a2 v).mp (gr_mem.mp hv).1
      refine ⟨by simp [e1], fun d hd => ?_⟩
      rcases List.mem_append.mp hd with z | z
      · exact e2 d z
      · rw [List.mem_singleton.mp z]; exact hc
    · rintro ⟨h1, h2⟩
      have hne : w ≠ [] := fun z => by rw [z] at h1; cases h1
      have hw := List.dropLast_concat_getLast hne
      have hv : w.dropLast ∈ W := (a2 _).mpr ⟨by rw [List.length_dropLast, h1]; rfl, fun c hc => h2 c (List.dropLast_subset _ hc)⟩
      obtain ⟨p, hp1, hp2⟩ := hp _ hv
      refine List.mem_flatMap.mpr ⟨p, hp1, List.mem_flatMap.mpr ⟨w.getLast hne, h2 _ (List.getLast_mem hne), List.mem_map.mpr ⟨w.dropLast, gr_mem.mpr ⟨hv, hp2⟩, hw⟩⟩⟩
theorem Al.cnt {ls l : List Nat} {j : Nat} {X : List (List Nat)} (h : Al ls j X) (up : ls.Pairwise (· < ·)) : (gn l X).length = (ab ls j l).length ∧ ∀ w, w ∈ gn l X ↔ w ∈ ab ls j l := by
  have hm : ∀ w, w ∈ gn l X ↔ w ∈ ab ls j l := fun w => by rw [gn_mem, ab_mem, h.2, gf_none]
  have n1 : (Lv.gn l X).Nodup := h.1.filter _
  have n2 : (ab ls j l).Nodup := (ab_up up j l).imp fun h z => by subst z; exact List.lt_irrefl _ h
  exact ⟨Nat.le_antisymm (nodup_len _ _ n1 fun w hw => (hm w).mp hw) (nodup_len _ _ n2 fun w hw => (hm w).mpr hw), hm⟩
/-- the first of the shortest that aren't left -/
def shf (ls l : List Nat) : List Nat := (ab ls (sh ls l) l).headD []
theorem shf_is {ls l m : List Nat} (h : ls ≠ []) (up : ls.Pairwise (· < ·)) (h1 : m ∈ ab ls (sh ls l) l) (h2 : ∀ w ∈ ab ls (sh ls l) l, ¬ w < m) : shf ls l = m := by
  have u := ab_up up (sh ls l) l
  unfold shf
  cases e : ab ls (sh ls l) l with
  | nil => rw [e] at h1; cases h1
  | cons a r =>
    rw [e] at h1 h2 u
    show a = m
    rcases List.mem_cons.mp h1 with z | z
    · exact z.symm
    · exact absurd ((List.pairwise_cons.mp u).1 m z) (h2 a List.mem_cons_self)
/-- a letter ahead of the first of the shortest -/
theorem head_flat {α β : Type} (f : α → List β) (d : β) : ∀ (xs : List α) (k : Nat) (c : α), xs[k]? = some c → (∀ i x, i < k → xs[i]? = some x → f x = []) → f c ≠ [] → (xs.flatMap f).headD d = (f c).headD d
  | [], k, c, h, _, _ => by simp at h
  | x :: xs, 0, c, h, _, hc => by
    have : x = c := by simpa using h
    subst this
    rw [List.flatMap_cons]
    cases e : f x with
    | nil => exact absurd e hc
    | cons a r => rfl
  | x :: xs, k + 1, c, h, hz, hc => by
    rw [List.flatMap_cons, hz 0 x (by omega) rfl, List.nil_append]
    exact head_flat f d xs k c (by simpa using h) (fun i y hi hy => hz (i + 1) y (by omega) (by simpa using hy)) hc
theorem shf_step {ls l : List Nat} (h : ls ≠ []) {k c : Nat} (hk : ls[k]? = some c) (hc : (led ls l c).1 = sh ls l) (hz : ∀ i d, i < k → ls[i]? = some d → (led ls l d).1 ≠ sh ls l) :
    shf ls l = c :: (if c ∈ l then shf ls (aft c l) else []) := by
  have p := sh_pos h l
  obtain ⟨m, hm⟩ : ∃ m, sh ls l = m + 1 := ⟨sh ls l - 1, by omega⟩
  have low : ∀ d ∈ ls, sh ls l ≤ (led ls l d).1 := fun d hd => by
    rcases Nat.lt_or_ge (led ls l d).1 (sh ls l) with z | z
    · exfalso
      have p1 : 1 ≤ (led ls l d).1 := by unfold led; split <;> simp
      obtain ⟨m', hm'⟩ : ∃ m', (led ls l d).1 = m' + 1 := ⟨(led ls l d).1 - 1, by omega⟩
      have e := (sh_ok h l).1 (m' + 1) (by omega)
      have e2 : (ab ls (m' + 1) l).length = 0 := by rw [e]; rfl
      rw [ab_len] at e2
      have : abc1 ls l m' d ≤ (ls.map fun c => abc1 ls l m' c).sum := mem_le_sum (List.mem_map.mpr ⟨d, hd, rfl⟩)
      rw [abc1_at hm'.symm] at this
      have p : 1 ≤ (led ls l d).2 := by
        unfold led
        split
        · exact shn_pos h _
        · exact Nat.le_refl _
      omega
    · exact z
  have hcl := List.mem_of_getElem? hk
  unfold shf
  rw [hm, ab_succ, head_flat _ [] ls k c hk ?_ ?_]
  · by_cases z : c ∈ l
    · rw [if_pos z, if_pos z]
      have e : m = sh ls (aft c l) := by
        unfold led at hc; rw [if_pos z] at hc; simp at hc; omega
      rw [e]
      cases e2 : ab ls (sh ls (aft c l)) (aft c l) with
      | nil => exact absurd e2 (sh_ok h (aft c l)).2.1
      | cons a r => rfl
    · rw [if_neg z, if_neg z]
      have e : m = 0 := by
        unfold led at hc; rw [if_neg z] at hc; simp at hc; omega
      rw [e]; rfl
  · intro i d hi hd
    have hdl := List.mem_of_getElem? hd
    have l1 := low d hdl
    have l2 := hz i d hi hd
    have : abc1 ls l m d = 0 := abc1_less h (by omega)
    unfold abc1 at this
    rw [List.length_eq_zero_iff.mp this]; rfl
  · have : abc1 ls l m c = (led ls l c).2 := abc1_at (by omega)
    have p : 1 ≤ (led ls l c).2 := by
      unfold led
      split
      · exact shn_pos h _
      · exact Nat.le_refl _
    unfold abc1 at this
    intro z
    have z2 := List.map_eq_nil_iff.mp z
    rw [z2] at this
    simp at this
    omega
end Lv

set_option Elab.async false
set_option linter.all false
set_option maxRecDepth 100000
namespace Lv
open PySem L2
section
variable {ls l : List Nat}
theorem shf_mem (h : ls ≠ []) : shf ls l ∈ ab ls (sh ls l) l := by
  have s := (sh_ok h l).2.1
  unfold shf
  cases e : ab ls (sh ls l) l with
  | nil => exact absurd e s
  | cons a r => exact List.mem_cons_self
theorem shf_min (up : ls.Pairwise (· < ·)) {w : List Nat} (hw : w ∈ ab ls (sh ls l) l) : ¬ w < shf ls l := by
  have u := ab_up up (sh ls l) l
  unfold shf
  cases e : ab ls (sh ls l) l with
  | nil => rw [e] at hw; cases hw
  | cons a r =>
    rw [e] at hw u
    show ¬ w < a
    rcases List.mem_cons.mp hw with z | z
    · rw [z]; exact List.lt_irrefl _
    · exact fun y => List.lt_irrefl _ (List.lt_trans y ((List.pairwise_cons.mp u).1 w z))
/-- all so long are left: sh is greater -/
theorem sh_gt (h : ls ≠ []) {n : Nat} (ha : ∀ w : List Nat, w.length = n → (∀ c ∈ w, c ∈ ls) → w.Sublist l) : n < sh ls l := by
  rcases Nat.lt_or_ge n (sh ls l) with z | z
  · exact z
  · exfalso
    obtain ⟨w, hw⟩ := List.exists_mem_of_ne_nil _ (sh_ok h l).2.1
    obtain ⟨⟨h1, h2⟩, h3⟩ := ab_mem.mp hw
    obtain ⟨c, r, rfl⟩ := List.exists_cons_of_ne_nil h
    refine h3 (List.Sublist.trans ?_ (ha (w ++ List.replicate (n - w.length) c) (by simp; omega) fun d hd => ?_))
    · exact List.sublist_append_left _ _
    · rcases List.mem_append.mp hd with y | y
      · exact h2 d y
      · rw [(List.mem_replicate.mp y).2]; exact List.mem_cons_self
/-- one so long isn't left: sh is no greater -/
theorem sh_le_of (h : ls ≠ []) {w : List Nat} (hw : ∀ c ∈ w, c ∈ ls) (hn : ¬ w.Sublist l) : sh ls l ≤ w.length := by
  rcases Nat.lt_or_ge w.length (sh ls l) with z | z
  · exact absurd (sh_left h hw z) hn
  · exact z
theorem ab_rev {k : Nat} (up : ls.Pairwise (· < ·)) : (ab ls k l.reverse).length = (ab ls k l).length := by
  have key : ∀ l : List Nat, (ab ls k l).length ≤ (ab ls k l.reverse).length := fun l => by
    have nd : ((ab ls k l).map List.reverse).Nodup := by
      unfold List.Nodup
      rw [List.pairwise_map]
      exact (ab_up up k l).imp fun h z => by
        have := congrArg List.reverse z
        rw [List.reverse_reverse, List.reverse_reverse] at this
        rw [this] at h; exact List.lt_irrefl _ h
    have := nodup_len _ (ab ls k l.reverse) nd fun w hw => by
      obtain ⟨v, hv, rfl⟩ := List.mem_map.mp hw
      obtain ⟨⟨h1, h2⟩, h3⟩ := ab_mem.mp hv
      exact ab_mem.mpr ⟨⟨by simp [h1], fun c hc => h2 c (by simpa using hc)⟩, fun z => h3 (List.reverse_sublist.mp z)⟩
    simpa using this
  have h1 := key l
  have h2 := key l.reverse
  rw [List.reverse_reverse] at h2
  omega
theorem sh_rev (h : ls ≠ []) (up : ls.Pairwise (· < ·)) : sh ls l.reverse = sh ls l ∧ shn ls l.reverse = shn ls l := by
  refine sh_is h ⟨fun j hj => ?_, ?_, ?_⟩
  · have := ab_rev (l := l) (k := j) up
    rw [(sh_ok h l).1 j hj] at this
    exact List.length_eq_zero_iff.mp this
  · intro z
    have := ab_rev (l := l) (k := sh ls l) up
    rw [z] at this
    exact (sh_ok h l).2.1 (List.length_eq_zero_iff.mp this.symm)
  · rw [ab_rev up]; rfl
theorem sh_more1 (h : ls ≠ []) (c : Nat) : sh ls l ≤ sh ls (l ++ [c]) ∧ sh ls (l ++ [c]) ≤ sh ls l + 1 := by
  refine ⟨sh_mono h (List.sublist_append_left _ _), ?_⟩
  obtain ⟨w, hw⟩ := List.exists_mem_of_ne_nil _ (sh_ok h l).2.1
  obtain ⟨⟨h1, h2⟩, h3⟩ := ab_mem.mp hw
  obtain ⟨d, r, rfl⟩ := List.exists_cons_of_ne_nil h
  have := sh_le_of (ls := d :: r) (l := l ++ [c]) (by simp) (w := w ++ [d]) (fun e he => ?_) fun z => ?_
  · simpa [h1] using this
  · rcases List.mem_append.mp he with y | y
    · exact h2 e y
    · rw [List.mem_singleton.mp y]; exact List.mem_cons_self
  · obtain ⟨a, b, e, s1, s2⟩ := List.sublist_append_iff.mp z
    have bl := s2.length_le
    have bl : b.length ≤ 1 := bl
    refine h3 (List.Sublist.trans ?_ s1)
    have ea : w.length ≤ a.length := by
      have := congrArg List.length e
      simp at this
      omega
    have : w = (a ++ b).take w.length := by rw [← e]; simp
    rw [List.take_append_of_le_length ea] at this
    rw [this]
    exact List.take_sublist _ _
theorem sh_fewer {ls' : List Nat} (h : ls ≠ []) (h' : ls' ≠ []) (s : ∀ c ∈ ls, c ∈ ls') : sh ls' l ≤ sh ls l := by
  obtain ⟨w, hw⟩ := List.exists_mem_of_ne_nil _ (sh_ok h l).2.1
  obtain ⟨⟨h1, h2⟩, h3⟩ := ab_mem.mp hw
  have := sh_le_of h' (fun c hc => s c (h2 c hc)) h3
  omega
theorem sh_app (h : ls ≠ []) (a b : List Nat) : (sh ls a - 1) + (sh ls b - 1) < sh ls (a ++ b) := by
  have p1 := sh_pos h a
  have p2 := sh_pos h b
  refine sh_gt h fun w hl hw => ?_
  have e : w = w.take (sh ls a - 1) ++ w.drop (sh ls a - 1) := (List.take_append_drop _ _).symm
  rw [e]
  exact (sh_left h (fun c hc => hw c (List.mem_of_mem_take hc)) (by rw [List.length_take]; omega)).append (sh_left h (fun c hc => hw c (List.mem_of_mem_drop hc)) (by rw [List.length_drop]; omega))
/-- a paper shows no more -/
theorem pap_left : ∀ (es : List Nat) (b : Nat), pap ls l b es = true → ∀ w : List Nat, w.length = es.length → (∀ c ∈ w, c ∈ ls) → w.Sublist (l.drop b)
  | [], b, _, w, hl, _ => by rw [List.length_eq_zero_iff.mp hl]; exact List.nil_sublist _
  | e :: es, b, hp, [], hl, _ => by cases hl
  | e :: es, b, hp, c :: w, hl, hw => by
    simp only [pap, Bool.and_eq_true, decide_eq_true_eq] at hp
    obtain ⟨⟨h1, h2⟩, h3, h4⟩ := hp
    have ih := pap_left es e h4 w (by simpa using hl) fun d hd => hw d (List.mem_cons_of_mem _ hd)
    have hc := allIn_iff.mp h3 c (hw c List.mem_cons_self)
    have sp : l.drop b = cutN l b e ++ l.drop e := by
      unfold cutN
      have : l.drop e = (l.drop b).drop (e - b) := by rw [List.drop_drop]; congr 1; omega
      rw [this, List.take_append_drop]
    rw [sp]
    exact (List.singleton_sublist.mpr hc).append ih
theorem pap_len (h : ls ≠ []) {es : List Nat} (hp : pap ls l 0 es = true) : es.length < sh ls l := sh_gt h fun w hl hw => by
  have := pap_left es 0 hp w hl hw
  simpa using this
theorem arcS_take {a : Nat} : ∀ e, e ≤ a → arcS ls (l.take a) e = arcS ls l e
  | 0, _ => rfl
  | e + 1, he => by
    have ih := arcS_take (a := a) e (by omega)
    have hb := arcS_le ls l e
    have ec : cutN (l.take a) (arcS ls l e).2 (e + 1) = cutN l (arcS ls l e).2 (e + 1) := by
      unfold cutN
      rw [List.drop_take, List.take_take, Nat.min_eq_left (by omega)]
    simp only [arcS, ih, ec]
theorem arcS_filter {a : Nat} : ∀ e, a ≤ e → (arcS ls l e).1.filter (fun x => decide (x ≤ a)) = (arcS ls l a).1
  | 0, he => by
    obtain rfl : a = 0 := by omega
    rfl
  | e + 1, he => by
    rcases Nat.lt_or_ge e a with z | z
    · obtain rfl : a = e + 1 := by omega
      rw [List.filter_eq_self]
      intro x hx
      exact decide_eq_true (arcS_ends _ x hx)
    · have ih := arcS_filter (a := a) e z
      rw [arcS]
      split
      · rw [List.filter_append, ih]
        simp; omega
      · exact ih
where
  arcS_ends : ∀ e, ∀ x ∈ (arcS ls l e).1, x ≤ e := by
    intro e
    induction e with
    | zero => intro x hx; cases hx
    | succ e ih =>
      intro x hx
      rw [arcS] at hx
      split at hx
      · rcases List.mem_append.mp hx with y | y
        · have := ih x y; omega
        · rw [List.mem_singleton.mp y]; exact Nat.le_refl _
      · have := ih x hx; omega
theorem arcs_take {a : Nat} (ha : a ≤ l.length) : arcs ls (l.take a) = (arcs ls l).filter (fun x => decide (x ≤ a)) := by
  unfold arcs
  rw [arcS_filter _ ha, show (l.take a).length = a by rw [List.length_take]; omega, arcS_take a (Nat.le_refl _)]
end
end Lv

set_option Elab.async false
set_option linter.all false
set_option maxRecDepth 100000
namespace Lv
open PySem L2
/-- letters in both -/
def bl2 (l m : List Nat) : List Nat := abc.filter fun c => decide (c ∈ l ∧ c ∈ m)
theorem bl2_len (l m : List Nat) : (bl2 l m).length ≤ 26 := Nat.le_trans (List.length_filter_le _ _) (by decide)
/-- rows left of both -/
def cx (l m : List Nat) : List (List Nat) := (lx l).filter fun w => decide (w.Sublist m)
def cc (l m : List Nat) : Nat := (cx l m).length
theorem cx_mem {l m w : List Nat} (lw : Low l) : w ∈ cx l m ↔ w.Sublist l ∧ w.Sublist m := by
  unfold cx
  rw [List.mem_filter, lx_mem w l lw, decide_eq_true_eq]
theorem cx_nodup (l m : List Nat) : (cx l m).Nodup := (lx_nodup l).filter _
theorem len_flatM {α β : Type} (f : α → List β) (l : List α) : (l.flatMap f).length = (l.map fun c => (f c).length).sum := by
  induction l with
  | nil => rfl
  | cons a l ih => rw [List.flatMap_cons, List.length_append, ih, List.map_cons, List.sum_cons]
theorem cc_eq (l m : List Nat) : cc l m = 1 + ((bl2 l m).map fun c => cc (aft c l) (aft c m)).sum := by
  unfold cc
  have h1 : cx l m = [] :: (lets l).flatMap fun c => if c ∈ m then (cx (aft c l) (aft c m)).map (c :: ·) else [] := by
    unfold cx
    rw [lx_eq, List.filter_cons_of_pos (by simp), List.filter_flatMap]
    congr 2
    funext c
    rw [List.filter_map]
    by_cases h : c ∈ m
    · rw [if_pos h]
      congr 1
      apply List.filter_congr
      intro w _
      show decide ((c :: w).Sublist m) = _
      exact decide_eq_decide.mpr (by rw [cons_sub]; simp [h])
    · rw [if_neg h, List.map_eq_nil_iff, List.filter_eq_nil_iff]
      intro w _
      show ¬ decide ((c :: w).Sublist m) = true
      rw [decide_eq_true_eq, cons_sub]
      exact fun z => h z.1
  rw [h1, List.length_cons, len_flatM, Nat.add_comm]
  congr 1
  have h2 : bl2 l m = (lets l).filter fun c => decide (c ∈ m) := by
    unfold bl2 lets
    rw [List.filter_filter]
    apply List.filter_congr
    intro c _
    by_cases a : c ∈ l <;> by_cases b : c ∈ m <;> simp [a, b]
  rw [h2, sum_filter (p := fun c => c ∈ m)]
  congr 1
  apply List.map_congr_left
  intro c _
  by_cases h : c ∈ m
  · rw [if_pos h, if_pos h, List.length_map]
  · rw [if_neg h, if_neg h]; rfl
/-- keys in the order of making: from behind -/
def gkP (a b i j : Nat) : List (Nat × Nat) := ((List.range i).flatMap fun i => (List.range (b + 1)).map fun j => (a - i, b - j)) ++ (List.range j).map fun j => (a - i, b - j)
theorem gkP_snoc (a b i j : Nat) : gkP a b i (j + 1) = gkP a b i j ++ [(a - i, b - j)] := by
  unfold gkP
  rw [List.range_succ (n := j), List.map_append, ← List.append_assoc]; rfl
theorem gkP_next (a b i : Nat) : gkP a b (i + 1) 0 = gkP a b i (b + 1) := by
  unfold gkP
  rw [List.range_succ (n := i), List.flatMap_append]; simp
theorem gkP_new {a b i j : Nat} (hi : i ≤ a) (hj : j ≤ b) : (a - i, b - j) ∉ gkP a b i j := by
  unfold gkP
  rw [List.mem_append]
  rintro (h | h)
  · obtain ⟨i', h1, h2⟩ := List.mem_flatMap.mp h
    obtain ⟨j', _, h3⟩ := List.mem_map.mp h2
    have := List.mem_range.mp h1
    have e := congrArg Prod.fst h3
    simp at e
    omega
  · obtain ⟨j', h1, h2⟩ := List.mem_map.mp h
    have := List.mem_range.mp h1
    have e := congrArg Prod.snd h2
    simp at e
    omega
theorem gkP_len (a b i j : Nat) : (gkP a b i j).length = i * (b + 1) + j := by
  unfold gkP
  rw [List.length_append, len_flatM]
  simp [List.map_const', List.sum_replicate_nat]
theorem gkP_mem {a b i j p q : Nat} : (p, q) ∈ gkP a b i j ↔ (∃ i' j', i' < i ∧ j' < b + 1 ∧ p = a - i' ∧ q = b - j') ∨ ∃ j', j' < j ∧ p = a - i ∧ q = b - j' := by
  unfold gkP
  rw [List.mem_append, List.mem_flatMap]
  constructor
  · rintro (⟨i', h1, h2⟩ | h)
    · obtain ⟨j', h3, h4⟩ := List.mem_map.mp h2
      cases h4
      exact .inl ⟨i', j', List.mem_range.mp h1, List.mem_range.mp h3, rfl, rfl⟩
    · obtain ⟨j', h3, h4⟩ := List.mem_map.mp h
      cases h4
      exact .inr ⟨j', List.mem_range.mp h3, rfl, rfl⟩
  · rintro (⟨i', j', h1, h2, rfl, rfl⟩ | ⟨j', h1, rfl, rfl⟩)
    · exact .inl ⟨i', List.mem_range.mpr h1, List.mem_map.mpr ⟨j', List.mem_range.mpr h2, rfl⟩⟩
    · exact .inr (List.mem_map.mpr ⟨j', List.mem_range.mpr h1, rfl⟩)
theorem gkP_pre {a b i j : Nat} : ∀ k, j + k ≤ b + 1 → gkP a b i j <+: gkP a b i (j + k)
  | 0, _ => List.prefix_refl _
  | k + 1, h => (gkP_pre k (by omega)).trans (by rw [← Nat.add_assoc, gkP_snoc]; exact List.prefix_append _ _)
theorem gkP_row {a b i : Nat} : ∀ k, gkP a b i 0 <+: gkP a b (i + k) 0
  | 0 => List.prefix_refl _
  | k + 1 => (gkP_row k).trans (by
    rw [← Nat.add_assoc, gkP_next]
    have := gkP_pre (a := a) (b := b) (i := i + k) (j := 0) (b + 1) (by omega)
    rwa [Nat.zero_add] at this)
theorem gk_get {a b i j : Nat} (hi : i ≤ a) (hj : j ≤ b) : (gkP a b (a + 1) 0)[i * (b + 1) + j]? = some (a - i, b - j) := by
  have p1 : gkP a b i (j + 1) <+: gkP a b i (b + 1) := by
    have := gkP_pre (a := a) (b := b) (i := i) (j := j + 1) (b - j) (by omega)
    rwa [show j + 1 + (b - j) = b + 1 by omega] at this
  have p2 : gkP a b (i + 1) 0 <+: gkP a b (a + 1) 0 := by
    have := gkP_row (a := a) (b := b) (i := i + 1) (a - i)
    rwa [show i + 1 + (a - i) = a + 1 by omega] at this
  rw [gkP_next] at p2
  obtain ⟨r, hr⟩ := p1.trans p2
  rw [← hr, gkP_snoc, List.append_assoc, List.getElem?_append_right (by rw [gkP_len]; exact Nat.le_refl _), gkP_len, Nat.sub_self]
  rfl
theorem cc_go {l m : List Nat} {p q c k k' : Nat} (h : nextP l p c = some k) (h' : nextP m q c = some k') : cc (aft c (l.drop p)) (aft c (m.drop q)) = cc (l.drop (k + 1)) (m.drop (k' + 1)) := by
  rw [aft_next rfl h, aft_next rfl h']
theorem bl2_go {l m : List Nat} {p q c : Nat} (h : c ∈ bl2 (l.drop p) (m.drop q)) : ∃ k k', nextP l p c = some k ∧ nextP m q c = some k' := by
  have := of_decide_eq_true (List.mem_filter.mp h).2
  obtain ⟨k, hk⟩ := next_of_mem this.1
  obtain ⟨k', hk'⟩ := next_of_mem this.2
  exact ⟨k, k', hk, hk'⟩
end Lv

set_option Elab.async false
set_option linter.all false
set_option maxRecDepth 100000
namespace Lv
open PySem L2
theorem bl2_eq (l m : List Nat) : bl2 l m = (lets l).filter fun c => decide (c ∈ m) := by
  unfold bl2 lets
  rw [List.filter_filter]
  apply List.filter_congr
  intro c _
  by_cases a : c ∈ l <;> by_cases b : c ∈ m <;> simp [a, b]
theorem flat_filter {α β : Type} (p : α → Bool) (f : α → List β) : ∀ l : List α, (l.filter p).flatMap f = l.flatMap fun c => if p c = true then f c else []
  | [] => rfl
  | a :: l => by
    by_cases h : p a = true
    · rw [List.filter_cons_of_pos h, List.flatMap_cons, List.flatMap_cons, flat_filter p f l, if_pos h]
    · rw [List.filter_cons_of_neg h, List.flatMap_cons, flat_filter p f l, if_neg h]; rfl
theorem cx_eq (l m : List Nat) : cx l m = [] :: (bl2 l m).flatMap fun c => (cx (aft c l) (aft c m)).map (c :: ·) := by
  rw [bl2_eq, flat_filter]
  unfold cx
  rw [lx_eq, List.filter_cons_of_pos (by simp), List.filter_flatMap]
  congr 2
  funext c
  rw [List.filter_map]
  by_cases h : c ∈ m
  · rw [if_pos (by simpa using h)]
    congr 1
    apply List.filter_congr
    intro w _
    show decide ((c :: w).Sublist m) = _
    exact decide_eq_decide.mpr (by rw [cons_sub]; simp [h])
  · rw [if_neg (by simpa using h), List.map_eq_nil_iff, List.filter_eq_nil_iff]
    intro w _
    show ¬ decide ((c :: w).Sublist m) = true
    rw [decide_eq_true_eq, cons_sub]
    exact fun z => h z.1
def mx : List Nat → Nat := List.foldr max 0
theorem mx_le {n : Nat} : ∀ {l : List Nat}, mx l ≤ n ↔ ∀ x ∈ l, x ≤ n
  | [] => by simp [mx]
  | a :: l => by
    show max a (mx l) ≤ n ↔ _
    rw [Nat.max_le, mx_le (l := l)]
    simp
theorem mx_ge {l : List Nat} {x : Nat} (h : x ∈ l) : x ≤ mx l := mx_le.mp (Nat.le_refl _) x h
theorem mx_mem : ∀ {l : List Nat}, 0 < mx l → mx l ∈ l
  | [], h => absurd h (by simp [mx])
  | a :: l, h => by
    show max a (mx l) ∈ a :: l
    rcases Nat.le_total a (mx l) with z | z
    · rw [Nat.max_eq_right z]
      have h' : 0 < max a (mx l) := h
      rw [Nat.max_eq_right z] at h'
      exact List.mem_cons_of_mem _ (mx_mem h')
    · rw [Nat.max_eq_left z]; exact List.mem_cons_self
/-- the length of the longest common ones -/
def cl2 (l m : List Nat) : Nat := mx ((cx l m).map List.length)
/-- the longest common ones, by order -/
def cz (l m : List Nat) : List (List Nat) := (cx l m).filter fun w => decide (w.length = cl2 l m)
def cn2 (l m : List Nat) : Nat := (cz l m).length
theorem nil_cx (l m : List Nat) : [] ∈ cx l m := by rw [cx_eq]; exact List.mem_cons_self
theorem cl2_ge {l m w : List Nat} (h : w ∈ cx l m) : w.length ≤ cl2 l m := mx_ge (List.mem_map.mpr ⟨w, h, rfl⟩)
theorem cl2_at (l m : List Nat) : ∃ w ∈ cx l m, w.length = cl2 l m := by
  by_cases z : 0 < cl2 l m
  · obtain ⟨w, h1, h2⟩ := List.mem_map.mp (mx_mem z)
    exact ⟨w, h1, h2⟩
  · exact ⟨[], nil_cx l m, by show 0 = _; omega⟩
theorem cx_cons {l m w : List Nat} {c : Nat} : c :: w ∈ cx l m ↔ c ∈ bl2 l m ∧ w ∈ cx (aft c l) (aft c m) := by
  rw [cx_eq]
  constructor
  · intro h
    rcases List.mem_cons.mp h with h | h
    · cases h
    · obtain ⟨d, h1, h2⟩ := List.mem_flatMap.mp h
      obtain ⟨v, h3, h4⟩ := List.mem_map.mp h2
      cases h4
      exact ⟨h1, h3⟩
  · rintro ⟨h1, h2⟩
    exact List.mem_cons_of_mem _ (List.mem_flatMap.mpr ⟨c, h1, List.mem_map.mpr ⟨w, h2, rfl⟩⟩)
theorem cl2_eq (l m : List Nat) : cl2 l m = mx ((bl2 l m).map fun c => 1 + cl2 (aft c l) (aft c m)) := by
  apply Nat.le_antisymm
  · obtain ⟨w, h1, h2⟩ := cl2_at l m
    rw [← h2]
    cases w with
    | nil => exact Nat.zero_le _
    | cons c w =>
      obtain ⟨h3, h4⟩ := cx_cons.mp h1
      have := cl2_ge h4
      have := mx_ge (List.mem_map.mpr ⟨c, h3, rfl⟩ : 1 + cl2 (aft c l) (aft c m) ∈ (bl2 l m).map fun c => 1 + cl2 (aft c l) (aft c m))
      rw [List.length_cons]; omega
  · rw [mx_le]
    intro x hx
    obtain ⟨c, h1, rfl⟩ := List.mem_map.mp hx
    obtain ⟨w, h3, h4⟩ := cl2_at (aft c l) (aft c m)
    have := cl2_ge (cx_cons.mpr ⟨h1, h3⟩)
    rw [List.length_cons] at this; omega
theorem flat_congr {α β : Type} {f g : α → List β} : ∀ {l : List α}, (∀ a ∈ l, f a = g a) → l.flatMap f = l.flatMap g
  | [], _ => rfl
  | a :: l, h => by rw [List.flatMap_cons, List.flatMap_cons, h a List.mem_cons_self, flat_congr fun b hb => h b (List.mem_cons_of_mem _ hb)]
theorem cz_eq {l m : List Nat} (h : 0 < cl2 l m) : cz l m = (bl2 l m).flatMap fun c => if cl2 (aft c l) (aft c m) + 1 = cl2 l m then (cz (aft c l) (aft c m)).map (c :: ·) else [] := by
  conv => lhs; unfold cz
  rw [cx_eq l m, List.filter_cons_of_neg (by simp; omega), List.filter_flatMap]
  apply flat_congr
  intro c hc
  rw [List.filter_map]
  by_cases z : cl2 (aft c l) (aft c m) + 1 = cl2 l m
  · rw [if_pos z]
    congr 1
    unfold cz
    apply List.filter_congr
    intro w _
    show decide ((c :: w).length = _) = _
    exact decide_eq_decide.mpr (by rw [List.length_cons]; omega)
  · rw [if_neg z, List.map_eq_nil_iff, List.filter_eq_nil_iff]
    intro w hw
    show ¬ decide ((c :: w).length = _) = true
    rw [decide_eq_true_eq, List.length_cons]
    intro e
    have h1 := cl2_ge hw
    obtain ⟨v, h2, h3⟩ := cl2_at (aft c l) (aft c m)
    have := cl2_ge (cx_cons.mpr ⟨hc, h2⟩)
    rw [List.length_cons] at this; omega
theorem cz_nil {l m : List Nat} (h : cl2 l m = 0) : cz l m = [[]] := by
  unfold cz
  rw [cx_eq l m, List.filter_cons_of_pos (by simp [h]), List.cons.injEq]
  refine ⟨rfl, ?_⟩
  rw [List.filter_eq_nil_iff]
  intro w hw
  rw [decide_eq_true_eq]
  obtain ⟨c, h1, h2⟩ := List.mem_flatMap.mp hw
  obtain ⟨v, _, rfl⟩ := List.mem_map.mp h2
  rw [List.length_cons]; omega
theorem cn2_eq {l m : List Nat} (h : 0 < cl2 l m) : cn2 l m = (((bl2 l m).filter fun c => decide (cl2 (aft c l) (aft c m) + 1 = cl2 l m)).map fun c => cn2 (aft c l) (aft c m)).sum := by
  unfold cn2
  rw [cz_eq h, len_flatM, sum_filter (p := fun c => cl2 (aft c l) (aft c m) + 1 = cl2 l m)]
  congr 1
  apply List.map_congr_left
  intro c _
  by_cases z : cl2 (aft c l) (aft c m) + 1 = cl2 l m
  · rw [if_pos z, if_pos z, List.length_map]
  · rw [if_neg z, if_neg z]; rfl
theorem cn2_nil {l m : List Nat} (h : cl2 l m = 0) : cn2 l m = 1 := by unfold cn2; rw [cz_nil h]; rfl
theorem cz_ne (l m : List Nat) : cz l m ≠ [] := fun h => by
  obtain ⟨w, h1, h2⟩ := cl2_at l m
  have : w ∈ cz l m := List.mem_filter.mpr ⟨h1, decide_eq_true h2⟩
  rw [h] at this; cases this
theorem cn2_pos (l m : List Nat) : 0 < cn2 l m := List.length_pos_iff.mpr (cz_ne l m)
theorem cz_mem {l m w : List Nat} (lw : Low l) : w ∈ cz l m ↔ w.Sublist l ∧ w.Sublist m ∧ w.length = cl2 l m := by
  unfold cz
  rw [List.mem_filter, cx_mem lw, decide_eq_true_eq, and_assoc]
/-- the first of the longest common ones -/
def cf (l m : List Nat) : List Nat := (cz l m).headD []
theorem cf_mem (l m : List Nat) : cf l m ∈ cz l m := by
  unfold cf
  cases e : cz l m with
  | nil => exact absurd e (cz_ne l m)
  | cons a r => exact List.mem_cons_self
theorem flat_head {β : Type} (f : Nat → List β) : ∀ (ls : List Nat) (p : Nat → Prop) [DecidablePred p], (∀ c ∈ ls, ¬ p c → f c = []) → ∀ c r, (ls.filter fun c => decide (p c)) = c :: r → f c ≠ [] → (ls.flatMap f).head? = (f c).head?
  | [], p, _, _, c, r, e, _ => by cases e
  | a :: ls, p, _, h, c, r, e, ne => by
    rw [List.flatMap_cons]
    by_cases z : p a
    · rw [List.filter_cons_of_pos (by simpa using z)] at e
      cases e
      rw [List.head?_append]
      cases h' : f a with
      | nil => exact absurd h' ne
      | cons x y => rfl
    · rw [List.filter_cons_of_neg (by simpa using z)] at e
      rw [h a List.mem_cons_self z, List.nil_append]
      exact flat_head f ls p (fun d hd => h d (List.mem_cons_of_mem _ hd)) c r e ne
theorem cf_eq {l m : List Nat} {c : Nat} {r : List Nat} (h : 0 < cl2 l m) (e : ((bl2 l m).filter fun c => decide (cl2 (aft c l) (aft c m) + 1 = cl2 l m)) = c :: r) : cf l m = c :: cf (aft c l) (aft c m) := by
  have hc : cl2 (aft c l) (aft c m) + 1 = cl2 l m := by
    have : c ∈ (bl2 l m).filter fun c => decide (cl2 (aft c l) (aft c m) + 1 = cl2 l m) := by rw [e]; exact List.mem_cons_self
    exact of_decide_eq_true (List.mem_filter.mp this).2
  have hh := flat_head (fun c => if cl2 (aft c l) (aft c m) + 1 = cl2 l m then (cz (aft c l) (aft c m)).map (c :: ·) else []) (bl2 l m) (fun c => cl2 (aft c l) (aft c m) + 1 = cl2 l m) (fun d _ z => if_neg z) c r e (by
    rw [if_pos hc]
    intro z
    exact cz_ne _ _ (List.map_eq_nil_iff.mp z))
  rw [← cz_eq h, if_pos hc, List.head?_map] at hh
  unfold cf
  cases e1 : cz l m with
  | nil => exact absurd e1 (cz_ne l m)
  | cons a s =>
    cases e2 : cz (aft c l) (aft c m) with
    | nil => exact absurd e2 (cz_ne _ _)
    | cons b t =>
      rw [e1, e2] at hh
      exact Option.some.inj hh
theorem good_ne {l m : List Nat} (h : 0 < cl2 l m) : ((bl2 l m).filter fun c => decide (cl2 (aft c l) (aft c m) + 1 = cl2 l m)) ≠ [] := fun z => by
  have := cn2_eq h
  rw [z] at this
  have := cn2_pos l m
  simp at *
  omega
theorem cf_nil {l m : List Nat} (h : cl2 l m = 0) : cf l m = [] := by unfold cf; rw [cz_nil h]; rfl
theorem cl2_le (l m : List Nat) (lw : Low l) : cl2 l m ≤ l.length := by
  obtain ⟨w, h1, h2⟩ := cl2_at l m
  rw [← h2]
  exact ((cx_mem lw).mp h1).1.length_le
end Lv

set_option linter.all false
set_option maxRecDepth 100000
namespace Lv
theorem aft_last {l : List Nat} {c k : Nat} (hk : l[k]? = some c) (hl : ∀ j, k < j → l[j]? ≠ some c) : aft c l.reverse = (l.take k).reverse := by
  have kl : k < l.length := (List.getElem?_eq_some_iff.mp hk).1
  have e : nextP l.reverse 0 c = some (l.length - 1 - k) := by
    rw [nextP_some]
    refine ⟨Nat.zero_le _, ?_, fun j _ hj z => ?_⟩
    · rw [List.getElem?_reverse (by omega), show l.length - 1 - (l.length - 1 - k) = k by omega]; exact hk
    · rw [List.getElem?_reverse (by omega)] at z
      exact hl _ (by omega) z
  have := aft_next (l := l.reverse) rfl e
  rw [List.drop_zero] at this
  rw [this, List.drop_reverse]
  congr 2
  omega
theorem cn_snoc {l : List Nat} {c : Nat} (lw : Low l) (hc : 97 ≤ c ∧ c ≤ 122) (d : Nat) (h : (c ∉ l ∧ d = 0) ∨ ∃ k : Nat, l[k]? = some c ∧ (∀ j, k < j → l[j]? ≠ some c) ∧ d = cn (l.take k)) : cn (l ++ [c]) + d = 2 * cn l := by
  have lw2 : Low (l ++ [c]) := lw.app (Low.one hc)
  rw [← cn_rev lw2, ← cn_rev lw, List.reverse_append]
  have e := cn_cons l.reverse hc
  rcases h with ⟨h1, rfl⟩ | ⟨k, h1, h2, rfl⟩
  · rw [if_neg (by simpa using h1)] at e
    exact e
  · rw [if_pos (by simpa using List.mem_of_getElem? h1), aft_last h1 h2, cn_rev (lw.take k)] at e
    exact e
theorem abc_find {c : Nat} (h : 97 ≤ c ∧ c ≤ 122) : nextP abc 0 c = some (c - 97) := by
  have : ∀ d : Fin 26, nextP abc 0 (d.val + 97) = some d.val := by decide
  have := this ⟨c - 97, by omega⟩
  simp only [show c - 97 + 97 = c by omega] at this
  exact this
theorem abc_get {k : Nat} (h : k < 26) : abc[k]? = some (k + 97) := by
  have : ∀ d : Fin 26, abc[d.val]? = some (d.val + 97) := by decide
  exact this ⟨k, h⟩
def lowHalf (c : Nat) : Nat := (c - 97) % 13 + 97
def upHalf (c : Nat) : Nat := 13 + (c - 97) % 13 + 97
theorem apart_dis {a b : List Nat} : ∀ c ∈ a.map lowHalf, c ∉ b.map upHalf := fun c hc hd => by
  obtain ⟨x, _, rfl⟩ := List.mem_map.mp hc
  obtain ⟨y, _, e⟩ := List.mem_map.mp hd
  unfold lowHalf upHalf at e
  omega
theorem lowHalf_low (a : List Nat) : Low (a.map lowHalf) := fun c hc => by
  obtain ⟨x, _, rfl⟩ := List.mem_map.mp hc
  unfold lowHalf
  omega
theorem upHalf_low (a : List Nat) : Low (a.map upHalf) := fun c hc => by
  obtain ⟨x, _, rfl⟩ := List.mem_map.mp hc
  unfold upHalf
  omega
theorem lens_one {l zs : List Nat} (lw : Low l) (nd : zs.Nodup) (hm : ∀ c, c ∈ zs ↔ c ∈ l) : cl 1 l = zs.length := by
  unfold cl
  rw [lxn_one, List.length_map]
  have nd2 : (lets l).Nodup := (lets_up _).imp fun h => Nat.ne_of_lt h
  exact Nat.le_antisymm (nodup_len _ _ nd2 fun c hc => (hm c).mpr ((lets_mem lw).mp hc)) (nodup_len _ _ nd fun c hc => (lets_mem lw).mpr ((hm c).mp hc))
end Lv

set_option Elab.async false
set_option linter.all false
set_option maxRecDepth 100000
namespace Lv
open PySem L2
theorem cc_nil (m : List Nat) : cc [] m = 1 := by
  unfold cc cx
  rw [show lx [] = [[]] from rfl, List.filter_cons_of_pos (by simp)]
  rfl
theorem cc_cons {c : Nat} (l m : List Nat) (h : 97 ≤ c ∧ c ≤ 122) : cc (c :: l) m + (if c ∈ l ∧ c ∈ m then cc (aft c l) (aft c m) else 0) = cc l m + (if c ∈ m then cc l (aft c m) else 0) := by
  rw [cc_eq (c :: l) m, cc_eq l m]
  unfold bl2
  rw [sum_filter (p := fun d => d ∈ c :: l ∧ d ∈ m) (fun d => cc (aft d (c :: l)) (aft d m)), sum_filter (p := fun d => d ∈ l ∧ d ∈ m) (fun d => cc (aft d l) (aft d m))]
  have := (sum_swap (F := fun d => if d ∈ c :: l ∧ d ∈ m then cc (aft d (c :: l)) (aft d m) else 0) (G := fun d => if d ∈ l ∧ d ∈ m then cc (aft d l) (aft d m) else 0) (c := c) abc abc_nodup fun d _ hd => ?_).1 (abc_mem h)
  · simp only [List.mem_cons, true_or, true_and, aft_self] at this ⊢
    omega
  · simp only [List.mem_cons, hd, false_or]
    rw [aft_ne l (Ne.symm hd)]
theorem cc_rev_le {l m : List Nat} (lw : Low l) : cc l m ≤ cc l.reverse m.reverse := inj_len (cx_nodup l m) (g := List.reverse) (fun a b h => by have := congrArg List.reverse h; simpa using this) fun x hx => by
  rw [cx_mem lw.rev]
  obtain ⟨h1, h2⟩ := (cx_mem lw).mp hx
  exact ⟨List.reverse_sublist.mpr h1, List.reverse_sublist.mpr h2⟩
theorem cc_rev {l m : List Nat} (lw : Low l) : cc l.reverse m.reverse = cc l m := Nat.le_antisymm (by have := cc_rev_le (m := m.reverse) lw.rev; rwa [List.reverse_reverse, List.reverse_reverse] at this) (cc_rev_le lw)
/-- the last place of c in l -/
def LastAt (l : List Nat) (c k : Nat) : Prop := l[k]? = some c ∧ ∀ j, k < j → l[j]? ≠ some c
theorem LastAt.lt {l : List Nat} {c k : Nat} (h : LastAt l c k) : k < l.length := (List.getElem?_eq_some_iff.mp h.1).1
theorem cc_snoc0 {l m : List Nat} {c : Nat} (lw : Low l) (hc : 97 ≤ c ∧ c ≤ 122) (h : c ∉ m) : cc (l ++ [c]) m = cc l m := by
  rw [← cc_rev (lw.app (Low.one hc)), ← cc_rev lw, List.reverse_append]
  have e := cc_cons l.reverse m.reverse hc
  rw [if_neg (by simp [h]), if_neg (by simpa using h)] at e
  exact e
theorem cc_snoc1 {l m : List Nat} {c k : Nat} (lw : Low l) (hc : 97 ≤ c ∧ c ≤ 122) (h : LastAt m c k) (h0 : c ∉ l) : cc (l ++ [c]) m = cc l m + cc l (m.take k) := by
  rw [← cc_rev (lw.app (Low.one hc)), ← cc_rev (m := m) lw, ← cc_rev (m := m.take k) lw, List.reverse_append]
  have e := cc_cons l.reverse m.reverse hc
  rw [if_neg (by simp [h0]), if_pos (by simpa using List.mem_of_getElem? h.1), aft_last h.1 h.2] at e
  exact e
theorem cc_snoc2 {l m : List Nat} {c k j : Nat} (lw : Low l) (hc : 97 ≤ c ∧ c ≤ 122) (h : LastAt m c k) (h0 : LastAt l c j) : cc (l ++ [c]) m + cc (l.take j) (m.take k) = cc l m + cc l (m.take k) := by
  rw [← cc_rev (lw.app (Low.one hc)), ← cc_rev (m := m) lw, ← cc_rev (m := m.take k) lw, ← cc_rev (m := m.take k) (lw.take j), List.reverse_append]
  have e := cc_cons l.reverse m.reverse hc
  rw [if_pos ⟨by simpa using List.mem_of_getElem? h0.1, by simpa using List.mem_of_getElem? h.1⟩, if_pos (by simpa using List.mem_of_getElem? h.1), aft_last h.1 h.2, aft_last h0.1 h0.2] at e
  exact e
theorem LastAt.snoc {l : List Nat} {c : Nat} : LastAt (l ++ [c]) c l.length := ⟨by simp, fun j hj z => by rw [List.getElem?_eq_none (by simp; omega)] at z; cases z⟩
theorem LastAt.more {l : List Nat} {c d k : Nat} (h : LastAt l c k) (ne : d ≠ c) : LastAt (l ++ [d]) c k := by
  have := h.lt
  refine ⟨by rw [List.getElem?_append_left this]; exact h.1, fun j hj z => ?_⟩
  rcases Nat.lt_or_ge j l.length with y | y
  · rw [List.getElem?_append_left y] at z; exact h.2 j hj z
  · rw [List.getElem?_append_right y, List.getElem?_singleton] at z
    split at z
    · exact ne (Option.some.inj z)
    · cases z
/-- a row of the table -/
def dueRow (l m : List Nat) (i : Nat) : List V := (List.range (m.length + 1)).map fun j => V.int (cc (l.take i) (m.take j) : Nat)
end Lv

set_option Elab.async false
set_option linter.all false
set_option maxRecDepth 100000
namespace Lv
open PySem L2
theorem cl2_max {l m w : List Nat} (lw : Low l) (h1 : w.Sublist l) (h2 : w.Sublist m) : w.length ≤ cl2 l m := cl2_ge ((cx_mem lw).mpr ⟨h1, h2⟩)
theorem cl2_some {l m : List Nat} (lw : Low l) : ∃ w : List Nat, w.Sublist l ∧ w.Sublist m ∧ w.length = cl2 l m := by
  obtain ⟨w, h1, h2⟩ := cl2_at l m
  exact ⟨w, ((cx_mem lw).mp h1).1, ((cx_mem lw).mp h1).2, h2⟩
theorem cl2_rev_le {l m : List Nat} (lw : Low l) : cl2 l m ≤ cl2 l.reverse m.reverse := by
  obtain ⟨w, h1, h2, h3⟩ := cl2_some (m := m) lw
  rw [← h3, ← List.length_reverse]
  exact cl2_max lw.rev (List.reverse_sublist.mpr h1) (List.reverse_sublist.mpr h2)
theorem cl2_rev {l m : List Nat} (lw : Low l) : cl2 l.reverse m.reverse = cl2 l m := Nat.le_antisymm (by have := cl2_rev_le (m := m.reverse) lw.rev; rwa [List.reverse_reverse, List.reverse_reverse] at this) (cl2_rev_le lw)
theorem cz_nodup (l m : List Nat) : (cz l m).Nodup := (cx_nodup l m).filter _
theorem cn2_rev_le {l m : List Nat} (lw : Low l) : cn2 l m ≤ cn2 l.reverse m.reverse := inj_len (cz_nodup l m) (g := List.reverse) (fun a b h => by have := congrArg List.reverse h; simpa using this) fun x hx => by
  rw [cz_mem lw.rev, cl2_rev lw]
  obtain ⟨h1, h2, h3⟩ := (cz_mem lw).mp hx
  exact ⟨List.reverse_sublist.mpr h1, List.reverse_sublist.mpr h2, by rw [List.length_reverse]; exact h3⟩
theorem cn2_rev {l m : List Nat} (lw : Low l) : cn2 l.reverse m.reverse = cn2 l m := Nat.le_antisymm (by have := cn2_rev_le (m := m.reverse) lw.rev; rwa [List.reverse_reverse, List.reverse_reverse] at this) (cn2_rev_le lw)
theorem cc_le_l (l m : List Nat) : cc l m ≤ cn l := List.length_filter_le _ _
theorem cc_le_m {l m : List Nat} (lw : Low l) (lwm : Low m) : cc l m ≤ cn m := nodup_len _ _ (cx_nodup l m) fun w hw => (lx_mem w m lwm).mpr ((cx_mem lw).mp hw).2
theorem cc_sub {l m : List Nat} (lw : Low l) (lwm : Low m) (h : m.Sublist l) : cc l m = cn m := Nat.le_antisymm (cc_le_m lw lwm) (nodup_len _ _ (lx_nodup m) fun w hw => (cx_mem lw).mpr ⟨((lx_mem w m lwm).mp hw).trans h, (lx_mem w m lwm).mp hw⟩)
theorem cl2_sub {l m : List Nat} (lw : Low l) (h : m.Sublist l) : cl2 l m = m.length := by
  apply Nat.le_antisymm
  · obtain ⟨w, h1, h2, h3⟩ := cl2_some (m := m) lw
    rw [← h3]; exact h2.length_le
  · exact cl2_max lw h (List.Sublist.refl _)
theorem cf_in {l m : List Nat} (lw : Low l) : (cf l m).Sublist l ∧ (cf l m).Sublist m ∧ (cf l m).length = cl2 l m := (cz_mem lw).mp (cf_mem l m)
theorem cf_sub {l m : List Nat} (lw : Low l) (h : m.Sublist l) : cf l m = m := by
  obtain ⟨h1, h2, h3⟩ := cf_in (m := m) lw
  exact h2.eq_of_length (by rw [h3, cl2_sub lw h])
theorem cn2_self {l : List Nat} (lw : Low l) : cn2 l l = 1 := by
  apply Nat.le_antisymm _ (cn2_pos l l)
  exact nodup_len (cz l l) [l] (cz_nodup l l) fun w hw => by
    obtain ⟨h1, h2, h3⟩ := (cz_mem lw).mp hw
    rw [List.mem_singleton]
    exact h1.eq_of_length (by rw [h3, cl2_sub lw (List.Sublist.refl _)])
theorem cc_mono {l m l' m' : List Nat} (lw : Low l') (h1 : l.Sublist l') (h2 : m.Sublist m') : cc l m ≤ cc l' m' := nodup_len _ _ (cx_nodup l m) fun w hw => by
  have := (cx_mem (lw.sub fun c hc => h1.subset hc)).mp hw
  exact (cx_mem lw).mpr ⟨this.1.trans h1, this.2.trans h2⟩
theorem sub_drop {w l : List Nat} {c : Nat} (h : w.Sublist (l ++ [c])) : w.dropLast.Sublist l := by
  obtain ⟨x, y, rfl, h1, h2⟩ := List.sublist_append_iff.mp h
  rcases List.sublist_cons_iff.mp h2 with h3 | ⟨r, rfl, h3⟩
  · have : y = [] := List.sublist_nil.mp h3
    subst this
    rw [List.append_nil]
    exact (List.dropLast_sublist x).trans h1
  · have : r = [] := List.sublist_nil.mp h3
    subst this
    rw [List.dropLast_concat]; exact h1
theorem cl2_snoc {l m : List Nat} {c : Nat} (lw : Low l) (hc : 97 ≤ c ∧ c ≤ 122) : cl2 (l ++ [c]) (m ++ [c]) = cl2 l m + 1 := by
  have lw2 : Low (l ++ [c]) := lw.app (Low.one hc)
  apply Nat.le_antisymm
  · obtain ⟨w, h1, h2, h3⟩ := cl2_some (m := m ++ [c]) lw2
    have := cl2_max lw (sub_drop h1) (sub_drop h2)
    rw [List.length_dropLast] at this
    omega
  · obtain ⟨w, h1, h2, h3⟩ := cl2_some (m := m) lw
    have := cl2_max lw2 (h1.append (List.Sublist.refl [c])) (h2.append (List.Sublist.refl [c]))
    rw [List.length_append] at this
    simp at this
    omega
end Lv

set_option Elab.async false
set_option linter.all false
namespace Lv
/-- in how many ways m is left of l -/
def W : List Nat → List Nat → Nat
  | _, [] => 1
  | [], _ :: _ => 0
  | c :: l, d :: m => W l (d :: m) + (if c = d then W l m else 0)
theorem W_nil (l : List Nat) : W l [] = 1 := by cases l <;> rfl
theorem W_cons (c : Nat) (l : List Nat) (d : Nat) (m : List Nat) : W (c :: l) (d :: m) = W l (d :: m) + (if c = d then W l m else 0) := rfl
theorem W_nilc (d : Nat) (m : List Nat) : W [] (d :: m) = 0 := rfl
/-- the last letters -/
theorem W_snoc (c d : Nat) : ∀ (l m : List Nat), W (l ++ [c]) (m ++ [d]) = W l (m ++ [d]) + (if c = d then W l m else 0)
  | [], [] => by
    show W [] [d] + (if c = d then W [] [] else 0) = _
    rfl
  | [], e :: m => by
    show W [] (e :: (m ++ [d])) + (if c = e then W [] (m ++ [d]) else 0) = 0 + (if c = d then W [] (e :: m) else 0)
    have h1 : W [] (m ++ [d]) = 0 := by cases m <;> rfl
    rw [h1, W_nilc, W_nilc]
    simp
  | a :: l, [] => by
    show W (l ++ [c]) [d] + (if a = d then W (l ++ [c]) [] else 0) = W l [d] + (if a = d then W l [] else 0) + (if c = d then W (a :: l) [] else 0)
    have := W_snoc c d l []
    rw [List.nil_append] at this
    rw [this, W_nil, W_nil, W_nil]
    omega
  | a :: l, e :: m => by
    show W (l ++ [c]) (e :: (m ++ [d])) + (if a = e then W (l ++ [c]) (m ++ [d]) else 0) = W l (e :: (m ++ [d])) + (if a = e then W l (m ++ [d]) else 0) + (if c = d then (W l (e :: m) + (if a = e then W l m else 0)) else 0)
    have h1 := W_snoc c d l (e :: m)
    have h2 := W_snoc c d l m
    rw [List.cons_append] at h1
    rw [h1, h2]
    by_cases x : c = d <;> by_cases y : a = e <;> simp [x, y] <;> omega
theorem W_drop {l m : List Nat} {i j c d : Nat} (hi : l[i]? = some c) (hj : m[j]? = some d) : W (l.drop i) (m.drop j) = W (l.drop (i + 1)) (m.drop j) + (if c = d then W (l.drop (i + 1)) (m.drop (j + 1)) else 0) := by
  obtain ⟨h1, e1⟩ := List.getElem?_eq_some_iff.mp hi
  obtain ⟨h2, e2⟩ := List.getElem?_eq_some_iff.mp hj
  rw [List.drop_eq_getElem_cons h1, List.drop_eq_getElem_cons h2, e1, e2, W_cons]
theorem W_take {l m : List Nat} {i j c d : Nat} (hi : l[i]? = some c) (hj : m[j]? = some d) : W (l.take (i + 1)) (m.take (j + 1)) = W (l.take i) (m.take (j + 1)) + (if c = d then W (l.take i) (m.take j) else 0) := by
  rw [List.take_add_one, List.take_add_one, hi, hj]
  show W (l.take i ++ [c]) (m.take j ++ [d]) = _
  rw [W_snoc]
  rfl
def wrow (l m : List Nat) : List Int := (List.range (m.length + 1)).map fun a => ((W l (m.drop a) : Nat) : Int)
theorem wrow_length (l m : List Nat) : (wrow l m).length = m.length + 1 := by simp [wrow]
theorem wrow_get (l m : List Nat) {a : Nat} (h : a ≤ m.length) : (wrow l m)[a]? = some ((W l (m.drop a) : Nat) : Int) := by
  unfold wrow
  rw [List.getElem?_map, List.getElem?_range (by omega)]
  rfl
/-- behind j places -/
def prow (l m : List Nat) (j : Nat) : List Int := (List.range (m.length + 1)).map fun a => ((if a < j then W l (m.drop a) else W [] (m.drop a) : Nat) : Int)
theorem prow_zero (l m : List Nat) : prow l m 0 = wrow [] m := by
  unfold prow wrow
  refine List.map_congr_left fun a _ => ?_
  simp
theorem prow_last (l m : List Nat) : prow l m m.length = wrow l m := by
  unfold prow wrow
  refine List.map_congr_left fun a ha => ?_
  have := List.mem_range.mp ha
  by_cases h : a < m.length
  · rw [if_pos h]
  · have e : a = m.length := by omega
    rw [if_neg h, e, List.drop_length, W_nil, W_nil]
theorem prow_length (l m : List Nat) (j : Nat) : (prow l m j).length = m.length + 1 := by simp [prow]
theorem prow_set (l m : List Nat) (j : Nat) (hj : j < m.length) : (prow l m j).set j ((W l (m.drop j) : Nat) : Int) = prow l m (j + 1) := by
  apply List.ext_getElem?
  intro a
  rw [List.getElem?_set]
  by_cases ha : a < m.length + 1
  · unfold prow
    rw [List.getElem?_map, List.getElem?_map, List.getElem?_range ha]
    by_cases e : j = a
    · subst e
      rw [if_pos rfl, if_pos (by simp; omega)]
      simp
    · rw [if_neg e]
      dsimp only [Option.map_some]
      by_cases h : a < j
      · rw [if_pos h, if_pos (by omega)]
      · rw [if_neg h, if_neg (by omega)]
  · have h1 : (prow l m j)[a]? = none := List.getElem?_eq_none (by rw [prow_length]; omega)
    have h2 : (prow l m (j + 1))[a]? = none := List.getElem?_eq_none (by rw [prow_length]; omega)
    rw [h1, h2]
    split
    · omega
    · rfl
theorem wrow_init (m : List Nat) : List.replicate m.length (0 : Int) ++ [1] = wrow [] m := by
  apply List.ext_getElem?
  intro a
  by_cases h : a < m.length
  · rw [List.getElem?_append_left (by simpa using h), wrow_get [] m (by omega), List.getElem?_replicate, if_pos h]
    have : W [] (m.drop a) = 0 := by
      rw [List.drop_eq_getElem_cons h]
      rfl
    rw [this]
    rfl
  · rw [List.getElem?_append_right (by simpa using Nat.le_of_not_lt h), List.length_replicate]
    by_cases e : a = m.length
    · subst e
      rw [wrow_get [] m (Nat.le_refl _), List.drop_length, Nat.sub_self]
      rfl
    · rw [List.getElem?_eq_none (by simp; omega), List.getElem?_eq_none (by rw [wrow_length]; omega)]
/-- forwards -/
def frow (l m : List Nat) : List Int := (List.range (m.length + 1)).map fun a => ((W l (m.take a) : Nat) : Int)
theorem frow_length (l m : List Nat) : (frow l m).length = m.length + 1 := by simp [frow]
theorem frow_get (l m : List Nat) {a : Nat} (h : a ≤ m.length) : (frow l m)[a]? = some ((W l (m.take a) : Nat) : Int) := by
  unfold frow
  rw [List.getElem?_map, List.getElem?_range (by omega)]
  rfl
/-- behind j places -/
def qrow (l l' m : List Nat) (j : Nat) : List Int := (List.range (m.length + 1)).map fun a => ((if a ≤ j then W l (m.take a) else W l' (m.take a) : Nat) : Int)
theorem qrow_zero (l l' m : List Nat) : qrow l l' m 0 = frow l' m := by
  unfold qrow frow
  refine List.map_congr_left fun a _ => ?_
  by_cases h : a ≤ 0
  · have : a = 0 := by omega
    subst this
    simp [W_nil]
  · rw [if_neg h]
theorem qrow_last (l l' m : List Nat) : qrow l l' m m.length = frow l m := by
  unfold qrow frow
  refine List.map_congr_left fun a ha => ?_
  have := List.mem_range.mp ha
  rw [if_pos (by omega)]
theorem qrow_length (l l' m : List Nat) (j : Nat) : (qrow l l' m j).length = m.length + 1 := by simp [qrow]
theorem qrow_get (l l' m : List Nat) {j a : Nat} (h : a ≤ m.length) : (qrow l l' m j)[a]? = some ((if a ≤ j then W l (m.take a) else W l' (m.take a) : Nat) : Int) := by
  unfold qrow
  rw [List.getElem?_map, List.getElem?_range (by omega)]
  rfl
theorem qrow_set (l l' m : List Nat) (j : Nat) (hj : j < m.length) : (qrow l l' m j).set (j + 1) ((W l (m.take (j + 1)) : Nat) : Int) = qrow l l' m (j + 1) := by
  apply List.ext_getElem?
  intro a
  rw [List.getElem?_set]
  by_cases ha : a ≤ m.length
  · rw [qrow_get _ _ _ ha, qrow_get _ _ _ ha]
    by_cases e : j + 1 = a
    · subst e
      rw [if_pos rfl, if_pos (by rw [qrow_length]; omega), if_pos (Nat.le_refl _)]
    · rw [if_neg e]
      by_cases h : a ≤ j
      · rw [if_pos h, if_pos (by omega)]
      · rw [if_neg h, if_neg (by omega)]
  · have h1 : (qrow l l' m j)[a]? = none := List.getElem?_eq_none (by rw [qrow_length]; omega)
    have h2 : (qrow l l' m (j + 1))[a]? = none := List.getElem?_eq_none (by rw [qrow_length]; omega)
    rw [h1, h2]
    split
    · rw [qrow_length] at *
      split <;> omega
    · rfl
theorem qrow_keep (l l' m : List Nat) (j : Nat) (hj : j < m.length) (e : W l (m.take (j + 1)) = W l' (m.take (j + 1))) : qrow l l' m (j + 1) = qrow l l' m j := by
  unfold qrow
  refine List.map_congr_left fun a ha => ?_
  by_cases h : a ≤ j
  · rw [if_pos h, if_pos (by omega)]
  · by_cases h2 : a = j + 1
    · subst h2
      rw [if_pos (Nat.le_refl _), if_neg h, e]
    · rw [if_neg h, if_neg (by omega)]
theorem frow_init (m : List Nat) : (1 : Int) :: List.replicate m.length 0 = frow [] m := by
  apply List.ext_getElem?
  intro a
  cases a with
  | zero =>
    rw [frow_get [] m (Nat.zero_le _)]
    rfl
  | succ a =>
    rw [List.getElem?_cons_succ, List.getElem?_replicate]
    by_cases h : a < m.length
    · rw [if_pos h, frow_get [] m (by omega)]
      have : W [] (m.take (a + 1)) = 0 := by
        cases m with
        | nil => simp at h
        | cons x m => rfl
      rw [this]
      rfl
    · rw [if_neg h, List.getElem?_eq_none (by rw [frow_length]; omega)]
end Lv

set_option linter.all false
namespace Lv
open PySem PySem.Spec PyProof.Rows L2 SX
/-! the ways in order -/
theorem W_sub : ∀ (l m : List Nat), 0 < W l m ↔ m.Sublist l
  | l, [] => by rw [W_nil]; simp
  | [], d :: m => by rw [W_nilc]; simp
  | c :: l, d :: m => by
    rw [W_cons]
    have h1 := W_sub l (d :: m)
    have h2 := W_sub l m
    by_cases z : c = d
    · subst z
      rw [if_pos rfl, List.cons_sublist_cons, ← h2]
      constructor
      · intro h
        rcases Nat.eq_zero_or_pos (W l m) with q | q
        · have : 0 < W l (c :: m) := by omega
          have s1 := h1.mp this
          exact h2.mpr ((List.sublist_cons_self c m).trans s1)
        · exact q
      · intro h; omega
    · rw [if_neg z, Nat.add_zero, h1]
      constructor
      · exact fun h => h.cons _
      · intro h
        cases h with
        | cons _ h => exact h
        | cons_cons => exact absurd rfl z
theorem W_tail {l m : List Nat} {d : Nat} (h : 0 < W l (d :: m)) : 0 < W l m := (W_sub l m).mpr ((List.sublist_cons_self d m).trans ((W_sub l _).mp h))
theorem W_long (l m : List Nat) (h : l.length < m.length) : W l m = 0 := by
  rcases Nat.eq_zero_or_pos (W l m) with q | q
  · exact q
  · have := ((W_sub l m).mp q).length_le
    omega
theorem W_self : ∀ l : List Nat, W l l = 1
  | [] => rfl
  | c :: l => by rw [W_cons, if_pos rfl, W_self l, W_long l (c :: l) (by simp)]
theorem W_one : ∀ (l : List Nat) (c : Nat), W l [c] = l.count c
  | [], c => rfl
  | d :: l, c => by
    rw [W_cons, W_one l c, W_nil]
    by_cases z : d = c
    · subst z; rw [if_pos rfl, List.count_cons_self]
    · rw [if_neg z, List.count_cons_of_ne z]; rfl
theorem W_rev : ∀ (l m : List Nat), W l.reverse m.reverse = W l m
  | l, [] => by rw [List.reverse_nil, W_nil, W_nil]
  | [], d :: m => by
    rw [List.reverse_nil, W_nilc]
    exact W_long _ _ (by simp)
  | c :: l, d :: m => by
    rw [List.reverse_cons, List.reverse_cons, W_snoc, W_cons, ← List.reverse_cons, W_rev l (d :: m), W_rev l m]
theorem W_le : ∀ (l m : List Nat), W l m ≤ 2 ^ l.length
  | l, [] => by rw [W_nil]; exact Nat.one_le_two_pow
  | [], d :: m => by rw [W_nilc]; exact Nat.zero_le _
  | c :: l, d :: m => by
    have h1 := W_le l (d :: m)
    have h2 := W_le l m
    rw [W_cons, List.length_cons, Nat.pow_succ]
    split <;> omega
theorem W_lt64 {l : List Nat} (m : List Nat) (h : l.length ≤ 60) : W l m < 2 ^ 64 := Nat.lt_of_le_of_lt (W_le l m) (Nat.lt_of_le_of_lt (Nat.pow_le_pow_right (by decide) h) (by decide))
/-- Σ over the places where the other row is parted -/
def parted (a b m : List Nat) (j : Nat) : Nat := ((List.range j).map fun k => W a (m.take k) * W b (m.drop k)).sum
theorem parted_succ (a b m : List Nat) (j : Nat) : parted a b m (j + 1) = parted a b m j + W a (m.take j) * W b (m.drop j) := by
  simp [parted, List.range_succ]
theorem parted_all : ∀ (a b m : List Nat), parted a b m (m.length + 1) = W (a ++ b) m
  | [], b, m => by
    have : ∀ j, j ≤ m.length → parted [] b m (j + 1) = W b m := by
      intro j
      induction j with
      | zero => intro _; simp [parted, W_nil]
      | succ j ih =>
        intro h
        rw [parted_succ, ih (by omega)]
        cases e : m.take (j + 1) with
        | nil =>
          have t1 : (m.take (j + 1)).length = j + 1 := by rw [List.length_take]; omega
          rw [e] at t1
          simp at t1
        | cons x t => rw [W_nilc, Nat.zero_mul, Nat.add_zero]
    exact this m.length (Nat.le_refl _)
  | c :: a, b, [] => by simp [parted, W_nil]
  | c :: a, b, d :: m => by
    have ih1 := parted_all a b (d :: m)
    have ih2 := parted_all a b m
    rw [List.cons_append, W_cons, ← ih1, ← ih2]
    have gen : ∀ j, parted (c :: a) b (d :: m) (j + 1) = parted a b (d :: m) (j + 1) + (if c = d then parted a b m j else 0) := by
      intro j
      induction j with
      | zero => simp [parted, W_nil]
      | succ j ih =>
        rw [parted_succ, ih, parted_succ a b (d :: m) (j + 1), parted_succ a b m j, List.take_succ_cons, List.drop_succ_cons, W_cons, Nat.add_mul]
        by_cases z : c = d
        · simp only [if_pos z]; omega
        · simp only [if_neg z]; omega
    exact gen (m.length + 1)
/-- the way at a place -/
def wayAt : List Nat → List Nat → Nat → Nat → List Nat
  | _, [], _, _ => []
  | [], _ :: _, _, _ => []
  | c :: l, d :: m, p, h => if c = d then (if p < W l m then h :: wayAt l m p (h + 1) else wayAt l (d :: m) (p - W l m) (h + 1)) else wayAt l (d :: m) p (h + 1)
theorem wayAt_nil (l : List Nat) (p h : Nat) : wayAt l [] p h = [] := by cases l <;> rfl
theorem wayAt_take {c : Nat} {l m : List Nat} {p h : Nat} (hp : p < W l m) : wayAt (c :: l) (c :: m) p h = h :: wayAt l m p (h + 1) := by rw [wayAt, if_pos rfl, if_pos hp]
theorem wayAt_pass {c : Nat} {l m : List Nat} {p h : Nat} (hp : ¬ p < W l m) : wayAt (c :: l) (c :: m) p h = wayAt l (c :: m) (p - W l m) (h + 1) := by rw [wayAt, if_pos rfl, if_neg hp]
theorem wayAt_skip {c d : Nat} {l m : List Nat} {p h : Nat} (n : c ≠ d) : wayAt (c :: l) (d :: m) p h = wayAt l (d :: m) p (h + 1) := by rw [wayAt, if_neg n]
theorem wayAt_ge : ∀ (l m : List Nat) (p h : Nat), ∀ x ∈ wayAt l m p h, h ≤ x
  | l, [], p, h => by rw [wayAt_nil]; simp
  | [], _ :: _, p, h => by simp [wayAt]
  | c :: l, d :: m, p, h => by
    intro x hx
    by_cases z : c = d
    · subst z
      by_cases y : p < W l m
      · rw [wayAt_take y] at hx
        rcases List.mem_cons.mp hx with q | q
        · omega
        · have := wayAt_ge l m p (h + 1) x q; omega
      · rw [wayAt_pass y] at hx
        have := wayAt_ge l (c :: m) _ (h + 1) x hx; omega
    · rw [wayAt_skip z] at hx
      have := wayAt_ge l (d :: m) _ (h + 1) x hx; omega
theorem wayAt_len : ∀ (l m : List Nat) (p h : Nat), p < W l m → (wayAt l m p h).length = m.length
  | l, [], p, h, _ => by rw [wayAt_nil]
  | [], d :: m, p, h, hp => by rw [W_nilc] at hp; omega
  | c :: l, d :: m, p, h, hp => by
    rw [W_cons] at hp
    by_cases z : c = d
    · subst z
      rw [if_pos rfl] at hp
      by_cases y : p < W l m
      · rw [wayAt_take y, List.length_cons, wayAt_len l m p _ y, List.length_cons]
      · rw [wayAt_pass y]
        exact wayAt_len l (c :: m) _ _ (by omega)
    · rw [if_neg z, Nat.add_zero] at hp
      rw [wayAt_skip z]
      exact wayAt_len l (d :: m) _ _ hp
def toI (l : List Nat) : List Int := l.map fun k : Nat => (k : Int)
theorem wayAt_mono : ∀ (l m : List Nat) (p q h : Nat), p < q → q < W l m → HT.lexLt (toI (wayAt l m p h)) (toI (wayAt l m q h)) = true
  | l, [], p, q, h, h1, h2 => by rw [W_nil] at h2; omega
  | [], d :: m, p, q, h, h1, h2 => by rw [W_nilc] at h2; omega
  | c :: l, d :: m, p, q, h, h1, h2 => by
    rw [W_cons] at h2
    by_cases z : c = d
    · subst z
      rw [if_pos rfl] at h2
      by_cases y : q < W l m
      · rw [wayAt_take y, wayAt_take (by omega)]
        have ih := wayAt_mono l m p q (h + 1) h1 y
        show HT.lexLt ((h : Int) :: toI _) ((h : Int) :: toI _) = true
        rw [HT.lexLt_cons, if_pos rfl]
        exact ih
      · by_cases y2 : p < W l m
        · rw [wayAt_take y2, wayAt_pass y]
          have hl := wayAt_len l (c :: m) (q - W l m) (h + 1) (by omega)
          have hg := wayAt_ge l (c :: m) (q - W l m) (h + 1)
          cases e : wayAt l (c :: m) (q - W l m) (h + 1) with
          | nil => rw [e] at hl; simp at hl
          | cons x t =>
            rw [e] at hg
            have hx := hg x (List.mem_cons_self ..)
            show HT.lexLt ((h : Int) :: toI _) ((x : Int) :: toI _) = true
            rw [HT.lexLt_cons, if_neg (by omega)]
            exact decide_eq_true (by omega)
        · rw [wayAt_pass y, wayAt_pass y2]
          exact wayAt_mono l (c :: m) _ _ _ (by omega) (by omega)
    · rw [if_neg z, Nat.add_zero] at h2
      rw [wayAt_skip z, wayAt_skip z]
      exact wayAt_mono l (d :: m) _ _ _ h1 h2
/-- rising, within the row, spelling -/
theorem wayAt_spell : ∀ (l m : List Nat) (p h : Nat), p < W l m → (wayAt l m p h).Pairwise (· < ·) ∧ (∀ x ∈ wayAt l m p h, h ≤ x ∧ x < h + l.length) ∧ ∀ (j x : Nat), (wayAt l m p h)[j]? = some x → l[x - h]? = m[j]?
  | l, [], p, h, _ => by rw [wayAt_nil]; simp
  | [], d :: m, p, h, hp => by rw [W_nilc] at hp; omega
  | c :: l, d :: m, p, h, hp => by
    have pass : ∀ q, q < W l (d :: m) → wayAt (c :: l) (d :: m) p h = wayAt l (d :: m) q (h + 1) → (wayAt (c :: l) (d :: m) p h).Pairwise (· < ·) ∧ (∀ x ∈ wayAt (c :: l) (d :: m) p h, h ≤ x ∧ x < h + (c :: l).length) ∧ ∀ (j x : Nat), (wayAt (c :: l) (d :: m) p h)[j]? = some x → (c :: l)[x - h]? = (d :: m)[j]? := fun q hq e => by
      obtain ⟨i1, i2, i3⟩ := wayAt_spell l (d :: m) q (h + 1) hq
      rw [e]
      refine ⟨i1, fun x hx => ?_, fun j x hj => ?_⟩
      · have := i2 x hx
        rw [List.length_cons]; omega
      · have h1 := i2 x (List.mem_of_getElem? hj)
        have h2 := i3 j x hj
        rw [show x - h = (x - (h + 1)) + 1 by omega, List.getElem?_cons_succ]
        exact h2
    rw [W_cons] at hp
    by_cases z : c = d
    · subst z
      rw [if_pos rfl] at hp
      by_cases y : p < W l m
      · obtain ⟨i1, i2, i3⟩ := wayAt_spell l m p (h + 1) y
        rw [wayAt_take y]
        refine ⟨List.pairwise_cons.mpr ⟨fun x hx => (i2 x hx).1, i1⟩, fun x hx => ?_, fun j x hj => ?_⟩
        · rw [List.length_cons]
          rcases List.mem_cons.mp hx with q | q
          · omega
          · have := i2 x q; omega
        · cases j with
          | zero =>
            have : h = x := Option.some.inj hj
            rw [← this, Nat.sub_self]; rfl
          | succ j =>
            have hj' : (wayAt l m p (h + 1))[j]? = some x := hj
            have h1 := i2 x (List.mem_of_getElem? hj')
            rw [show x - h = (x - (h + 1)) + 1 by omega, List.getElem?_cons_succ, List.getElem?_cons_succ]
            exact i3 j x hj'
      · exact pass (p - W l m) (by omega) (wayAt_pass y)
    · rw [if_neg z, Nat.add_zero] at hp
      exact pass p hp (wayAt_skip z)
/-- what stands at the head: passed or taken -/
theorem wayAt_head {c d : Nat} {l m : List Nat} {p h x : Nat} {t : List Nat} (hp : p < W (c :: l) (d :: m)) (e : wayAt (c :: l) (d :: m) p h = x :: t) :
    (x = h ∧ c = d ∧ p < W l m ∧ t = wayAt l m p (h + 1)) ∨ (h < x ∧ (if c = d then W l m else 0) ≤ p ∧ p - (if c = d then W l m else 0) < W l (d :: m) ∧ wayAt l (d :: m) (p - (if c = d then W l m else 0)) (h + 1) = x :: t) := by
  rw [W_cons] at hp
  by_cases z : c = d
  · subst z
    rw [if_pos rfl] at hp ⊢
    by_cases y : p < W l m
    · rw [wayAt_take y] at e
      injection e with e1 e2
      exact .inl ⟨e1.symm, rfl, y, e2.symm⟩
    · rw [wayAt_pass y] at e
      refine .inr ⟨?_, by omega, by omega, e⟩
      have := wayAt_ge l (c :: m) (p - W l m) (h + 1) x (by rw [e]; exact List.mem_cons_self ..)
      omega
  · rw [if_neg z] at hp ⊢
    rw [wayAt_skip z] at e
    refine .inr ⟨?_, by omega, by omega, by rw [Nat.sub_zero]; exact e⟩
    have := wayAt_ge l (d :: m) p (h + 1) x (by rw [e]; exact List.mem_cons_self ..)
    omega
/-- the first way: greedy -/
theorem wayAt_first (l : List Nat) : ∀ (n i : Nat) (m : List Nat), l.length - i = n → 0 < W (l.drop i) m → fp l i m = some (wayAt (l.drop i) m 0 i)
  | n, i, [], _, _ => by rw [fp_nil, wayAt_nil]
  | 0, i, d :: m, e, h => by rw [List.drop_of_length_le (by omega), W_nilc] at h; omega
  | n + 1, i, d :: m, e, h => by
    obtain ⟨c, hc, ec⟩ := drop_at (l := l) (i := i) (by omega)
    rw [ec] at h ⊢
    by_cases z : c = d
    · subst z
      have hp : 0 < W (l.drop (i + 1)) m := by
        rw [W_cons, if_pos rfl] at h
        rcases Nat.eq_zero_or_pos (W (l.drop (i + 1)) m) with q | q
        · exact W_tail (d := c) (by omega)
        · exact q
      rw [fp_eq m hc, wayAt_first l n (i + 1) m (by omega) hp, wayAt_take hp]
      rfl
    · rw [W_cons, if_neg z, Nat.add_zero] at h
      rw [fp_ne m hc z, wayAt_skip z, wayAt_first l n (i + 1) (d :: m) (by omega) h]
/-- the place behind the last one found -/
def after (i : Nat) (ps : List Nat) : Nat := match ps.getLast? with | none => i | some k => k + 1
theorem after_cons (i k : Nat) (ps : List Nat) : after i (k :: ps) = after (k + 1) ps := by
  unfold after
  cases ps with
  | nil => rfl
  | cons x t => rw [List.getLast?_cons_cons]; cases h : (x :: t).getLast? with
    | none => simp at h
    | some y => rfl
theorem fp_snoc (l : List Nat) (d : Nat) : ∀ (m : List Nat) (i : Nat), fp l i (m ++ [d]) = (fp l i m).bind fun ps => (nextP l (after i ps) d).map fun k => ps ++ [k]
  | [], i => by
    rw [List.nil_append, fp_nil]
    show fp l i [d] = (nextP l i d).map fun k => [k]
    cases e : nextP l i d with
    | none => rw [fp_none [] e]; rfl
    | some k => rw [fp_some [] e, fp_nil]; rfl
  | c :: m, i => by
    rw [List.cons_append]
    cases e : nextP l i c with
    | none => rw [fp_none _ e, fp_none _ e]; rfl
    | some k =>
      rw [fp_some _ e, fp_some _ e, fp_snoc l d m (k + 1)]
      cases e2 : fp l (k + 1) m with
      | none => rfl
      | some ps =>
        show Option.map (k :: ·) ((nextP l (after (k + 1) ps) d).map fun t => ps ++ [t]) = (nextP l (after i (k :: ps)) d).map fun t => (k :: ps) ++ [t]
        rw [after_cons, Option.map_map]
        rfl
theorem nextP_app {l : List Nat} {i c k : Nat} (x : List Nat) (h : nextP l i c = some k) : nextP (l ++ x) i c = some k := by
  obtain ⟨h1, h2, h3⟩ := nextP_some.mp h
  have hk := (List.getElem?_eq_some_iff.mp h2).1
  refine nextP_some.mpr ⟨h1, by rw [List.getElem?_append_left hk]; exact h2, fun j hj hjk => ?_⟩
  rw [List.getElem?_append_left (by omega)]
  exact h3 j hj hjk
theorem fp_app (l x : List Nat) : ∀ (m : List Nat) (i : Nat) (ps : List Nat), fp l i m = some ps → fp (l ++ x) i m = some ps
  | [], i, ps, h => h
  | c :: m, i, ps, h => by
    cases e : nextP l i c with
    | none => rw [fp_none m e] at h; cases h
    | some k =>
      rw [fp_some m e] at h
      rw [fp_some m (nextP_app x e)]
      cases e2 : fp l (k + 1) m with
      | none => rw [e2] at h; cases h
      | some qs =>
        rw [e2] at h
        rw [fp_app l x m (k + 1) qs e2]
        exact h
theorem nextP_snoc {l : List Nat} {i d : Nat} (h : nextP l i d = none) (hi : i ≤ l.length) : nextP (l ++ [d]) i d = some l.length := by
  refine nextP_some.mpr ⟨hi, by simp, fun j hj hjk => ?_⟩
  rw [List.getElem?_append_left hjk]
  exact nextP_none.mp h j hj
theorem after_le {l m : List Nat} {ps : List Nat} (h : fp l 0 m = some ps) : after 0 ps ≤ l.length := by
  unfold after
  cases e : ps.getLast? with
  | none => exact Nat.zero_le _
  | some k =>
    have := (fp_spell l m 0 ps h).2.1 k (List.mem_of_getLast? e)
    show k + 1 ≤ _
    omega
theorem fp_more {L M : List Nat} {d : Nat} {ps : List Nat} (h0 : fp L 0 (M ++ [d]) = none) (h1 : fp L 0 M = some ps) : fp (L ++ [d]) 0 (M ++ [d]) = some (ps ++ [L.length]) := by
  rw [fp_snoc, h1] at h0
  have hn : nextP L (after 0 ps) d = none := by
    cases e : nextP L (after 0 ps) d with
    | none => rfl
    | some k =>
      have h2 : (nextP L (after 0 ps) d).map (fun k => ps ++ [k]) = none := h0
      rw [e] at h2; cases h2
  rw [fp_snoc, fp_app L [d] M 0 ps h1]
  show (nextP (L ++ [d]) (after 0 ps) d).map (fun k => ps ++ [k]) = _
  rw [nextP_snoc hn (after_le h1)]
  rfl
/-- the last way: greedy from behind -/
theorem wayAt_last : ∀ (l m : List Nat) (h : Nat), 0 < W l m → (fp l.reverse 0 m.reverse).map (fun ps => ps.reverse.map fun k => h + (l.length - 1 - k)) = some (wayAt l m (W l m - 1) h)
  | l, [], h, _ => by rw [wayAt_nil]; rfl
  | [], d :: m, h, hp => by rw [W_nilc] at hp; omega
  | c :: l, d :: m, h, hp => by
    rw [List.reverse_cons, List.reverse_cons]
    rcases Nat.eq_zero_or_pos (W l (d :: m)) with q | q
    · have z : c = d := by
        by_cases z : c = d
        · exact z
        · rw [W_cons, if_neg z, q] at hp; omega
      subst z
      have hp2 : 0 < W l m := by rw [W_cons, if_pos rfl, q] at hp; omega
      have eW : W (c :: l) (c :: m) - 1 = W l m - 1 := by rw [W_cons, if_pos rfl, q]; omega
      rw [eW, wayAt_take (by omega)]
      have ih := wayAt_last l m (h + 1) hp2
      cases e1 : fp l.reverse 0 m.reverse with
      | none => rw [e1] at ih; cases ih
      | some ps =>
        rw [e1] at ih
        have ih2 := Option.some.inj ih
        have e0 : fp l.reverse 0 (m.reverse ++ [c]) = none := by
          cases e2 : fp l.reverse 0 (m.reverse ++ [c]) with
          | none => rfl
          | some x =>
            have h2 : (fp l.reverse 0 (m.reverse ++ [c])).isSome := by rw [e2]; rfl
            rw [fp0, ← List.reverse_cons, List.reverse_sublist] at h2
            have := (W_sub l (c :: m)).mpr h2
            omega
        rw [fp_more e0 e1, ← ih2]
        have hb := (fp_spell _ _ _ _ e1).2.1
        rw [List.length_reverse] at hb
        show some ((ps ++ [l.reverse.length]).reverse.map fun k => h + ((c :: l).length - 1 - k)) = _
        rw [List.reverse_append, List.length_reverse]
        show some ((h + (l.length + 1 - 1 - l.length)) :: ps.reverse.map fun k => h + (l.length + 1 - 1 - k)) = _
        congr 2
        · omega
        · refine List.map_congr_left fun k hk => ?_
          have := hb k (List.mem_reverse.mp hk)
          omega
    · have ih := wayAt_last l (d :: m) (h + 1) q
      rw [List.reverse_cons] at ih
      cases e1 : fp l.reverse 0 (m.reverse ++ [d]) with
      | none => rw [e1] at ih; cases ih
      | some ps =>
        rw [e1] at ih
        have ih2 := Option.some.inj ih
        rw [fp_app _ [c] _ _ _ e1]
        have hb := (fp_spell _ _ _ _ e1).2.1
        rw [List.length_reverse] at hb
        have e3 : wayAt (c :: l) (d :: m) (W (c :: l) (d :: m) - 1) h = wayAt l (d :: m) (W l (d :: m) - 1) (h + 1) := by
          by_cases z : c = d
          · subst z
            rw [W_cons, if_pos rfl, wayAt_pass (by omega)]
            congr 1
            omega
          · rw [W_cons, if_neg z, Nat.add_zero, wayAt_skip z]
        rw [e3, ← ih2]
        show some (ps.reverse.map fun k => h + (l.length + 1 - 1 - k)) = _
        congr 1
        refine List.map_congr_left fun k hk => ?_
        have := hb k (List.mem_reverse.mp hk)
        omega
end Lv

set_option Elab.async false
set_option linter.all false
set_option maxRecDepth 100000
set_option exponentiation.threshold 4000
namespace Lv
open PySem PySem.Spec PyProof.Rows L2 SX
def GoodS (x : Str) : Prop := ∀ c ∈ x.cps.toList, c < 1114112
theorem char_lt (c : Char) : c.toNat < 1114112 := by
  have h := c.valid
  show c.val.toNat < 1114112
  rcases h with h | h
  · have : c.val.toNat < 55296 := h
    omega
  · have : c.val.toNat < 1114112 := h.2
    omega
theorem good_of (s : String) : GoodS (Str.ofString s) := fun c hc => by
  rw [Str.ofString_eq_toList] at hc
  have hc : c ∈ s.toList.map Char.toNat := by simpa using hc
  obtain ⟨d, _, rfl⟩ := List.mem_map.mp hc
  exact char_lt d
theorem good_app {x y : Str} (hx : GoodS x) (hy : GoodS y) : GoodS (x ++ y) := fun c hc => by
  have hc : c ∈ (x.cps ++ y.cps).toList := hc
  rw [Array.toList_append] at hc
  exact (List.mem_append.mp hc).elim (hx c) (hy c)
theorem good_from : ∀ (ts : List Str) (k : Nat) (acc : Str), GoodS acc → (∀ t ∈ ts, GoodS t) → GoodS (textFrom k acc ts)
  | [], _, _, h, _ => h
  | t :: ts, k, acc, h, ht => by
    unfold textFrom
    exact good_from ts (k + 1) _ (good_app (good_app h (good_of _)) (ht t List.mem_cons_self)) fun u hu => ht u (List.mem_cons_of_mem _ hu)
theorem good_all : ∀ ns : List Int, ∀ t ∈ PyData.shownAll (ns.map PyData.int), GoodS t
  | [], _, h => by simp [PyData.shownAll] at h
  | n :: ns, t, h => by
    rw [List.map_cons, PyData.shownAll] at h
    rcases List.mem_cons.mp h with e | e
    · rw [e]
      exact good_of _
    · exact good_all ns t e
theorem chr_ints (ns : List Int) : Chr (shw (dInts ns)) := by
  have e : (dInts ns).shown = listText (PyData.shownAll (ns.map PyData.int)) := by
    unfold dInts
    rw [PyData.shown]
  unfold shw Chr
  rw [e]
  exact good_app (good_from _ _ _ (good_of _) (good_all ns)) (good_of _)
theorem short_int : ∀ n < 128, (Str.ofString (toString ((n : Nat) : Int))).length ≤ 3 := by decide +kernel
theorem len_all : ∀ ns : List Nat, (∀ n ∈ ns, n < 128) → ((PyData.shownAll ((ns.map fun n : Nat => (n : Int)).map PyData.int)).map (·.length)).sum ≤ 3 * ns.length ∧ (PyData.shownAll ((ns.map fun n : Nat => (n : Int)).map PyData.int)).length = ns.length
  | [], _ => ⟨Nat.le_refl _, rfl⟩
  | n :: ns, h => by
    obtain ⟨h1, h2⟩ := len_all ns fun m hm => h m (List.mem_cons_of_mem _ hm)
    have h4 : (PyData.shown (.int ((n : Nat) : Int))).length ≤ 3 := short_int n (h n List.mem_cons_self)
    rw [List.map_cons, List.map_cons, PyData.shownAll, List.map_cons, List.sum_cons, List.length_cons, List.length_cons, h2]
    exact ⟨by omega, rfl⟩
theorem len_nats {ns : List Nat} (h : ∀ n ∈ ns, n < 128) : (shw (dNats ns)).length ≤ 5 * ns.length + 3 := by
  obtain ⟨h1, h2⟩ := len_all ns h
  have := listText_len_le (PyData.shownAll ((ns.map fun n : Nat => (n : Int)).map PyData.int))
  have e : (dNats ns).shown = listText (PyData.shownAll ((ns.map fun n : Nat => (n : Int)).map PyData.int)) := by
    unfold dNats dInts
    rw [PyData.shown]
  have e2 : (shw (dNats ns)).length = (dNats ns).shown.length := by
    unfold shw
    rw [Array.length_toList]
    rfl
  rw [e2, e]
  omega
/-! bounds -/
theorem aw_length (ls : List Nat) : ∀ k, (aw ls k).length = ls.length ^ k
  | 0 => rfl
  | k + 1 => by
    have g : ∀ cs : List Nat, (cs.flatMap fun c => (aw ls k).map (c :: ·)).length = cs.length * ls.length ^ k := fun cs => by
      induction cs with
      | nil => simp
      | cons c cs ih => rw [List.flatMap_cons, List.length_append, ih, List.length_map, aw_length ls k, List.length_cons, Nat.add_mul]; omega
    show (ls.flatMap fun c => (aw ls k).map (c :: ·)).length = _
    rw [g, Nat.pow_succ, Nat.mul_comm]
theorem shn_lt {ls l : List Nat} (lt : Lets ls) (hl : l.length ≤ 80) : shn ls l < 2 ^ 1900 := by
  have h1 : shn ls l ≤ (aw ls (sh ls l)).length := List.length_filter_le _ _
  rw [aw_length] at h1
  have h2 := sh_le lt.1 l
  have h3 := lt.len
  have h4 : ls.length ^ sh ls l ≤ 26 ^ sh ls l := Nat.pow_le_pow_left h3 _
  have h5 : 26 ^ sh ls l ≤ 26 ^ 81 := Nat.pow_le_pow_right (by decide) (by omega)
  have h6 : 26 ^ 81 < 2 ^ 1900 := by decide
  omega
theorem p80 {l : List Nat} (hl : l.length ≤ 80) : 2 ^ l.length < 2 ^ 1900 := Nat.pow_lt_pow_right (by decide) (by omega)
theorem W_lt {l : List Nat} (m : List Nat) (hl : l.length ≤ 80) : W l m < 2 ^ 1900 := Nat.lt_of_le_of_lt (W_le l m) (p80 hl)
theorem cc_lt {l : List Nat} (m : List Nat) (lw : Low l) (hl : l.length ≤ 80) : cc l m < 2 ^ 1900 := Nat.lt_of_le_of_lt (Nat.le_trans (cc_le_l l m) (cn_le l lw)) (p80 hl)
theorem cn2_lt {l : List Nat} (m : List Nat) (lw : Low l) (hl : l.length ≤ 80) : cn2 l m < 2 ^ 1900 := Nat.lt_of_le_of_lt (List.length_filter_le _ _) (cc_lt m lw hl)
/-! what is asked in k34 -/
def aD34 (k : Nat) (l m ls : List Nat) (d : Nat) : PyData :=
  if k = 0 then .list [.int (cc l m : Nat), .str (S (cf l m)), .int (cn2 l m : Nat)]
  else if k = 1 then .list [.int ((sh ls l : Nat) - 1 : Int), .str (S (shf ls l)), .int (shn ls l : Nat)]
  else if W l m = 0 then .list [.int 0, .int (W m l : Nat)]
  else .list [.int (W l m : Nat), .str (S (shw (dNats (wayAt l m (d % W l m) 0))))]
theorem ask_fn {k : Nat} {l m ls : List Nat} {d : Nat} (hl : l.length ≤ 80) (hm : m.length ≤ 80) (lw : Low l) (lt : Lets ls) : Fn 8000 20 (aD34 k l m ls d) := by
  have fi : ∀ n : Nat, n < 2 ^ 1900 → Fn 1920 0 (.int ((n : Nat) : Int)) := fun n hn => fn_int (log_small hn) (by decide)
  have two : ∀ a b : PyData, Fn 1920 0 a → Fn 1920 0 b → Fn 8000 20 (.list [a, b]) := fun a b ha hb => (fn_lst (ds := [a, b]) fun d hd => by
    simp only [List.mem_cons, List.not_mem_nil, or_false] at hd
    rcases hd with rfl | rfl <;> assumption).mono (by simp) (by decide)
  have three : ∀ a b c : PyData, Fn 1920 0 a → Fn 1920 0 b → Fn 1920 0 c → Fn 8000 20 (.list [a, b, c]) := fun a b c ha hb hc => (fn_lst (ds := [a, b, c]) fun d hd => by
    simp only [List.mem_cons, List.not_mem_nil, or_false] at hd
    rcases hd with rfl | rfl | rfl <;> assumption).mono (by simp) (by decide)
  unfold aD34
  split
  · obtain ⟨c1, c2, c3⟩ := cf_in (m := m) lw
    exact three _ _ _ (fi _ (cc_lt m lw hl)) (fn_str (lw.sub fun c hc => c1.subset hc).chr (by have := c1.length_le; omega)) (fi _ (cn2_lt m lw hl))
  split
  · have h2 := sh_le lt.1 l
    have hm := ab_mem.mp (shf_mem (l := l) lt.1)
    refine three _ _ _ (fn_int ?_ (by decide)) (fn_str (fun c hc => (lt.2.1.chr) c (hm.1.2 c hc)) (by have := hm.1.1; omega)) (fi _ (shn_lt lt hl))
    have h7 : ((sh ls l : Nat) - 1 : Int).natAbs ≤ 81 := by omega
    rcases Nat.eq_zero_or_pos ((sh ls l : Nat) - 1 : Int).natAbs with z | z
    · rw [z]; decide
    · exact (Nat.log2_lt (by omega)).mpr (Nat.lt_of_le_of_lt h7 (Nat.lt_of_lt_of_le (show 81 < 2 ^ 7 by decide) (Nat.pow_le_pow_right (by decide) (by decide))))
  split
  · exact two _ _ (fi 0 (by decide)) (fi _ (W_lt l hm))
  · rename_i h0
    have hp : d % W l m < W l m := Nat.mod_lt _ (by omega)
    have w1 := wayAt_len l m _ 0 hp
    have w2 := (wayAt_spell l m _ 0 hp).2.1
    refine two _ _ (fi _ (W_lt m hl)) (fn_str (chr_ints _) ?_)
    have := len_nats (ns := wayAt l m (d % W l m) 0) fun n hn => by have := w2 n hn; omega
    omega
end Lv

set_option Elab.async false
set_option linter.all false
set_option maxRecDepth 100000
set_option maxHeartbeats 4000000
namespace Lv
open PySem PySem.Spec PyProof.Rows L2 SX
local macro_rules | `(tactic| tm_at "n") => `(tactic| (first | assumption | (simp only [List.length_append, List.length_cons, List.length_nil, List.length_reverse, List.length_map, List.length_replicate, List.length_set, List.length_singleton, List.length_range, List.length_take, List.length_drop, List.length_flatten]; omega) | omega | decide))
local macro_rules | `(tactic| tm_at "z") => `(tactic| (first | exact Lv.le_line (by tm_at "n") | exact Lv.lt_line (by tm_at "n")))
local macro_rules | `(tactic| tm_at "c") => `(tactic| (first | (show (0 : Int) < _; omega) | exact ⟨by omega, by omega⟩ | exact Or.inl ⟨by omega, by omega⟩ | exact Or.inr ⟨by omega, by omega⟩ | decide))
local macro_rules | `(tactic| tm_at "s") => `(tactic| first
  | with_reducible refine Lv.i_seq ?_ | with_reducible refine Lv.i_set ?_ | with_reducible refine Lv.i_ret ?_ | with_reducible refine Lv.i_if ?_ | with_reducible refine Lv.i_drop ?_ | with_reducible refine Lv.i_next ?_
  | with_reducible refine Lv.i_brk ?_ | with_reducible refine Lv.i_cont ?_ | ((with_reducible refine' Lv.i_var ?hv ?_); (case hv => exact rfl)) | with_reducible refine Lv.i_c ?_ | with_reducible refine Lv.i_op ?_ | with_reducible refine Lv.i_un ?_
  | with_reducible refine Lv.i_cb ?_ | with_reducible refine Lv.i_call ?_ | with_reducible refine Lv.i_meth ?_ | with_reducible refine Lv.i_fld ?_ | with_reducible refine Lv.i_sfld ?_ | with_reducible refine Lv.i_make ?_ | with_reducible refine Lv.i_nil ?_ | with_reducible refine Lv.i_cons ?_ | with_reducible refine Lv.i_lst ?_ | with_reducible refine Lv.i_tup ?_
  | with_reducible refine Lv.i_bm ?_ | with_reducible refine Lv.i_bm0 ?_ | with_reducible refine Lv.i_tyS ?_ | with_reducible refine Lv.i_sl ?_ | with_reducible refine Lv.i_noPart ?_ | with_reducible refine Lv.i_part ?_ | with_reducible refine Lv.i_exI ?_
  | with_reducible refine Lv.i_chain ?_ | with_reducible refine Lv.i_isN_n ?_ | with_reducible refine Lv.i_isN_r ?_ | with_reducible refine Lv.i_isN_i ?_ | with_reducible refine Lv.i_isN_s ?_ | with_reducible refine Lv.i_notN_n ?_ | with_reducible refine Lv.i_notN_r ?_ | with_reducible refine Lv.i_notN_i ?_ | with_reducible refine Lv.i_notN_s ?_ | with_reducible refine Lv.i_bl ?_ | with_reducible refine Lv.i_test ?_ | with_reducible refine Lv.i_tB ?_ | with_reducible refine Lv.i_not ?_ | with_reducible refine Lv.i_and ?_ | with_reducible refine Lv.i_or ?_
  | with_reducible refine Lv.i_andV ?_ | with_reducible refine Lv.i_orV ?_ | with_reducible refine Lv.i_notV ?_ | with_reducible refine Lv.i_ifE ?_ | with_reducible refine Lv.i_rI0 ?_ | ((with_reducible refine Lv.i_rI ?hc ?_); (case hc => tm_at "c"))
  | with_reducible refine Lv.i_rU ?_ | with_reducible refine Lv.i_r2S ?_ | with_reducible refine Lv.i_in1 ?_ | with_reducible refine Lv.i_notIn1 ?_ | ((with_reducible refine Lv.i_addS ?hz ?_); (case hz => tm_at "z"))
  | ((with_reducible refine Lv.i_slS ?hz ?_); (case hz => tm_at "z")) | with_reducible refine Lv.i_tRevS ?_ | with_reducible refine Lv.i_revL ?_ | with_reducible refine Lv.i_zip ?_ | with_reducible refine Lv.i_abs ?_ | with_reducible refine Lv.i_max2 ?_ | with_reducible refine Lv.i_min2 ?_ | with_reducible refine Lv.i_lstRg ?_ | with_reducible refine Lv.i_rg1 ?_ | with_reducible refine Lv.i_sortSetS ?_ | with_reducible refine Lv.i_sortSetL ?_ | with_reducible refine Lv.i_sortSetI ?_ | with_reducible refine Lv.i_dnewK ?_ | with_reducible refine Lv.i_dIn ?_ | with_reducible refine Lv.i_dNotIn ?_ | with_reducible refine Lv.i_dGet ?_ | with_reducible refine Lv.i_dPut ?_ | with_reducible refine Lv.i_dGet1 ?_ | with_reducible refine Lv.i_dGet2 ?_ | ((with_reducible refine Lv.i_revS ?hz ?_); (case hz => tm_at "z")) | ((with_reducible refine Lv.i_lenT ?hz ?_); (case hz => tm_at "z"))
  | ((with_reducible refine' Lv.i_aug ?hv ?_); (case hv => exact rfl)) | with_reducible refine Lv.i_ipI ?_ | with_reducible refine Lv.i_asg ?_
  | with_reducible refine Lv.i_augS ?_ | with_reducible refine Lv.i_gSub ?_ | with_reducible refine Lv.i_gName ?_ | with_reducible refine Lv.i_gCons ?_ | with_reducible refine Lv.i_gNil ?_ | with_reducible refine Lv.i_par ?_ | with_reducible refine Lv.i_intB ?_ | with_reducible refine Lv.i_r2B ?_ | with_reducible refine Lv.i_listEn ?_ | with_reducible refine Lv.i_tYes ?_ | with_reducible refine Lv.i_str ?_ | with_reducible refine Lv.i_list ?_ | with_reducible refine Lv.i_rng1 ?_ | with_reducible refine Lv.i_rng2 ?_ | with_reducible refine Lv.i_rng3 ?_ | with_reducible refine Lv.i_enumS ?_ | with_reducible refine Lv.i_enumL ?_ | with_reducible refine Lv.i_tupI ?_
  | ((with_reducible refine Lv.x_r1 ?h0 ?h1 ?_); (case h0 => first | omega | (simp; omega)); (case h1 => first | omega | (simp; omega))) | ((with_reducible refine Lv.x_r2 ?h0 ?_); (case h0 => exact ⟨by omega, by omega, by omega, by omega⟩)) | ((with_reducible refine Lv.x_dn ?h0 ?_); (case h0 => exact ⟨by omega, by omega, by omega, by omega⟩))
  | with_reducible refine Lv.x_str ?_ | with_reducible refine Lv.x_enumS ?_ | ((with_reducible refine' Lv.x_list ?h0 ?_); (case h0 => first | exact SqL.of1 (by assumption) | assumption | exact SqL.of1 upd_same)) | ((with_reducible refine' Lv.x_enumL ?h0 ?_); (case h0 => first | exact SqL.of1 (by assumption) | assumption | exact SqL.of1 upd_same))
  | ((with_reducible refine' Lv.i_ixL ?hp ?hn ?_); (case hp => first | exact SqL.of1 (by assumption) | exact SqL.of1 upd_same); (case hn => exact rfl))
  | (with_reducible refine L2.iteT ?_) | (with_reducible refine L2.iteF ?_) | (with_reducible refine Lv.iteNF ?_) | (with_reducible refine Lv.iteNT ?_) | (with_reducible refine Lv.iteNNF ?_) | (with_reducible refine Lv.iteNNT ?_) | (with_reducible refine Lv.iteR ?_) | (with_reducible refine Lv.iteNR ?_) | (with_reducible refine Lv.iteFT ?_) | (with_reducible refine Lv.iteTF ?_) | (with_reducible refine Lv.iteNFT ?_) | (with_reducible refine Lv.iteNTF ?_) | (with_reducible refine Lv.x_nx ?_))
local macro_rules | `(tactic| tm_at "w") => `(tactic| (repeat tm_at "s"))
local macro_rules | `(tactic| tm_at "fo") => `(tactic| ((refine' Lv.fo ?a ?_); (case a => (intro R' k'; tm_at "w"; exact k'))))
local macro_rules | `(tactic| tm_at "lc") => `(tactic| ((refine' Lv.lc ?a ?_); (case a => (intro R' k'; tm_at "w"; exact k'))))
local macro_rules | `(tactic| tm_at "t") => `(tactic| first
  | with_reducible refine Lv.v_lst ?_ | with_reducible refine Lv.v_tup ?_ | ((with_reducible refine Lv.v_lstK ?hz ?_); (case hz => tm_at "z")) | ((with_reducible refine Lv.v_tupK ?hz ?_); (case hz => tm_at "z")) | with_reducible refine Lv.v_dnewK ?_ | with_reducible refine Lv.v_revL ?_ | with_reducible refine Lv.v_sortSetS ?_ | with_reducible refine Lv.v_lenSetS ?_
  | tm_at "s" | with_reducible refine Lv.i_raise ?_ | with_reducible refine Lv.i_callS ?_ | with_reducible refine Lv.i_tryAx ?_ | with_reducible refine Lv.v_ve ?_)
local macro_rules | `(tactic| tm_at "v") => `(tactic| (repeat tm_at "t"))
/-! need_letters_3(thing): slots 0 thing, 1 letter -/
abbrev N_need_letters_3 : List Str := ["thing", "letter"]
def t_need_letters_3 (K : PySem.W.Frag) : TS :=
  (tSeq (tIfS (tOr (tNot (tB (tCB (Lv.rIs1 K) (tCons (tVar 0) (tCons (tC (.ty "str")) tNil))))) (tOr (tTest (tOp Lv.rEqS (tVar 0) (tC (.str (S []))))) (tTest (tOp Lv.rGt (tCB Lv.rLenT (tCons (tVar 0) tNil)) (tCB Lv.rLenT (tCons (tC (.str (S [97, 98, 99, 100, 101, 102, 103, 104, 105, 106, 107, 108, 109, 110, 111, 112, 113, 114, 115, 116, 117, 118, 119, 120, 121, 122]))) tNil)))))) Lv.tNever tNext) (tIfS (tOr (tTest (tOp (Lv.rNeLS K) (tLc (iStr (tVar 0)) (gName 1) (tTest (tOp (Lv.rIn1 true) (tVar 1) (tC (.str (S [97, 98, 99, 100, 101, 102, 103, 104, 105, 106, 107, 108, 109, 110, 111, 112, 113, 114, 115, 116, 117, 118, 119, 120, 121, 122]))))) (tVar 1) [1]) (tLst tNil))) (tTest (tOp (Lv.rNeLS K) (Lv.tSortSetS (tCons (tVar 0) tNil)) (tCB Lv.rListS (tCons (tVar 0) tNil))))) Lv.tNever tNext))
-- needs: M_arch
def sp_need_letters_3 (K : PySem.W.Frag) : Sp := fun vs H Q _ => ∃ (ls : List Nat), vs = [.str (S ls)] ∧ Lets ls ∧ ∀ H', Same H H' → Q .non H'
theorem i_need_letters_3 {K : PySem.W.Frag} {ls : List Nat} {H : Hp} {Q : VK} {E : XK} (hl : Lets ls) (q : ∀ H', Same H H' → Q .non H') : sp_need_letters_3 K [.str (S ls)] H Q E := ⟨ls, rfl, hl, q⟩
theorem pure_need_letters_3 {K : PySem.W.Frag} (vs : List V) (H : Hp) (Q : VK) (E : XK) (h : sp_need_letters_3 K vs H Q E) : t_need_letters_3 K { nx := fun _ H' => Q .non H', rt := Q } (start N_need_letters_3 vs) H := by
  obtain ⟨ls, rfl, hl, q⟩ := h
  have l26 := hl.len
  unfold t_need_letters_3
  tm_at "v"
  refine i_isi_str_str ?_
  tm_at "v"
  refine if_no hl.1 ?_
  tm_at "v"
  refine if_no (by show ¬ (26 : Int) < _; omega) ?_
  tm_at "v"
  tm_at "lc"
  refine c_sP (fun _ => none) (by omega) (fun c H' hc sm Yk N y n => ?_) fun D H1 nD s1 hD => ?_
  · tm_at "v"
    refine ⟨rfl, ?_⟩
    tm_at "v"
    rw [decide_eq_true (abc_mem (hl.2.1 c hc))]
    exact n rfl _ (Same.refl _)
  rw [show ls.filterMap (fun _ => (none : Option V)) = [] by simp] at hD
  tm_at "v"
  intro p2 H2 n2 s2 h2
  refine i_r2LS (ns := []) (ms := []) (SqL.of1 (s2 _ _ hD)) (SqL.of1 h2) (fun _ z => nomatch z) (fun _ z => nomatch z) ?_
  tm_at "v"
  refine v_sortSK (by omega) fun ys p3 H3 up hm n3 s3 h3 => ?_
  have ey : ys = ls := lt_ext_nat up hl.2.2 hm
  subst ey
  tm_at "v"
  refine v_listS (by omega) fun p4 H4 n4 s4 h4 => ?_
  have ch : ∀ l ∈ ys.map (fun c => [c]), Chr l := fun l h => by
    obtain ⟨c, hc, rfl⟩ := List.mem_map.mp h
    have := hl.2.1 c hc
    exact Chr.one (by omega)
  refine i_r2LS (ns := ys.map fun c => [c]) (ms := ys.map fun c => [c]) (SqL.of1 (by rw [s4 _ _ h3, vc_vs])) (SqL.of1 (by rw [h4, vc_vs])) ch ch ?_
  tm_at "v"
  exact q _ (s1.trans (s2.trans (s3.trans s4)))
/-! has_all_0(word, letters): slots 0 word, 1 letters, 2 letter -/
abbrev N_has_all_0 : List Str := ["word", "letters", "letter"]
def t_has_all_0 (K : PySem.W.Frag) : TS :=
  (tRet (tOp (Lv.rEqLS K) (tLc (iStr (tVar 1)) (gName 2) (tTest (tOp (Lv.rIn1 true) (tVar 2) (tVar 0))) (tVar 2) [2]) (tLst tNil)))
-- needs: M_arch
def sp_has_all_0 (K : PySem.W.Frag) : Sp := fun vs H Q _ => ∃ (w ls : List Nat), vs = [.str (S w), .str (S ls)] ∧ ls.length ≤ 1000 ∧ Low ls ∧ ∀ H', Same H H' → Q (.bl (allIn ls w)) H'
theorem i_has_all_0 {K : PySem.W.Frag} {w ls : List Nat} {H : Hp} {Q : VK} {E : XK} (hl : ls.length ≤ 1000) (lw : Low ls) (q : ∀ H', Same H H' → Q (.bl (allIn ls w)) H') : sp_has_all_0 K [.str (S w), .str (S ls)] H Q E := ⟨w, ls, rfl, hl, lw, q⟩
theorem pure_has_all_0 {K : PySem.W.Frag} (vs : List V) (H : Hp) (Q : VK) (E : XK) (h : sp_has_all_0 K vs H Q E) : t_has_all_0 K { nx := fun _ H' => Q .non H', rt := Q } (start N_has_all_0 vs) H := by
  obtain ⟨w, ls, rfl, hl, lw, q⟩ := h
  unfold t_has_all_0
  tm_at "v"
  tm_at "lc"
  refine c_sP (fun c => if c ∉ w then some (vc c) else none) (by omega) (fun c H' hc sm Yk N y n => ?_) fun D H1 nD s1 hD => ?_
  · tm_at "v"
    refine ⟨rfl, ?_⟩
    tm_at "v"
    refine if_ndec (fun z => ?_) (fun z => ?_)
    · tm_at "v"
      exact y _ (if_pos z) _ (Same.refl _)
    · exact n (if_neg (fun q => q z)) _ (Same.refl _)
  rw [fm_if, vc_vs] at hD
  tm_at "v"
  intro p2 H2 n2 s2 h2
  refine i_r2LS (ms := []) (SqL.of1 (s2 _ _ hD)) (SqL.of1 h2) (fun l h => ?_) (fun _ z => nomatch z) ?_
  · obtain ⟨c, hc, rfl⟩ := List.mem_map.mp h
    have := lw c (List.mem_filter.mp hc).1
    exact Chr.one (by omega)
  have e : decide ((ls.filter fun c => decide (c ∉ w)).map (fun c => [c]) = []) = allIn ls w := by
    rw [allIn_nil]
    congr 1
    rw [List.map_eq_nil_iff]
  rw [e]
  exact q _ (s1.trans s2)
/-! shows_1y(row, letters, thing): slots 0 row, 1 letters, 2 thing, 3 begin, 4 end -/
abbrev N_shows_1y : List Str := ["row", "letters", "thing", "begin", "end"]
def t_shows_1y (K : PySem.W.Frag) : TS :=
  (tSeq (tDrop (tCall (sp_need_letters_3 K) [] E0 (tCons (tVar 1) tNil))) (tSeq (tIfS (tNot (tB (tCB (Lv.rIs1 K) (tCons (tVar 2) (tCons (tC (.ty "list")) tNil))))) (tRet (tC .non)) tNext) (tSeq (tAsg (tC (.int 0)) (gName 3)) (tSeq (tFor (iList K (tVar 2)) (gName 4) (tSeq (tIfS (tOr (tNot (tB (tCB (Lv.rIs1 K) (tCons (tVar 4) (tCons (tC (.ty "int")) tNil))))) (tOr (tB (tCB (Lv.rIs1 K) (tCons (tVar 4) (tCons (tC (.ty "bool")) tNil)))) (tNot (tTest (tChain Lv.rLt Lv.rLe (tVar 3) (tVar 4) (tCB Lv.rLenT (tCons (tVar 0) tNil))))))) (tRet (tC .non)) tNext) (tSeq (tIfS (tNot (tB (tCall (sp_has_all_0 K) [] E0 (tCons (tSl Lv.rSlS1 (tVar 0) (tPart (tVar 3)) (tPart (tVar 4))) (tCons (tVar 1) tNil))))) (tRet (tC .non)) tNext) (tAsg (tVar 4) (gName 3))))) (tRet (tCB (Lv.rLenL K) (tCons (tVar 2) tNil)))))))
-- needs: M_pap Q_has_all_0
def sp_shows_1y (K : PySem.W.Frag) : Sp := fun vs H Q _ => ∃ (l ls : List Nat) (x : V), vs = [.str (S l), .str (S ls), x] ∧ l.length ≤ 1000 ∧ Lets ls ∧ ((∃ (T : Addr) (xs : List V), x = .ref T ∧ H T = some (.lst xs) ∧ (∀ y ∈ xs, ItS K H y) ∧ ∀ H', Same H H' → Q (oI (if papV ls l 0 xs = true then some xs.length else none)) H') ∨ (Kd K H x "list" false ∧ ∀ H', Same H H' → Q .non H'))
/-- a thing that is no paper -/
def NoPap (K : PySem.W.Frag) (H : Hp) (x : V) : Prop := (∃ (T : Addr) (xs : List V), x = .ref T ∧ H T = some (.lst xs) ∧ (∀ y ∈ xs, ItS K H y) ∧ ∃ y ∈ xs, ∀ n, y ≠ .int n) ∨ Kd K H x "list" false
theorem NoPap.same {K : PySem.W.Frag} {H H' : Hp} {x : V} (h : NoPap K H x) (s : Same H H') : NoPap K H' x := by
  rcases h with ⟨T, xs, e, h, hy, z⟩ | h
  · exact .inl ⟨T, xs, e, s _ _ h, fun y hm => (hy y hm).same s, z⟩
  · exact .inr (h.same s)
theorem i_shows_1y_no {K : PySem.W.Frag} {l ls : List Nat} {x : V} {H : Hp} {Q : VK} {E : XK} (hl : l.length ≤ 1000) (lw : Lets ls) (hx : NoPap K H x) (q : ∀ H', Same H H' → Q .non H') : sp_shows_1y K [.str (S l), .str (S ls), x] H Q E := by
  refine ⟨l, ls, x, rfl, hl, lw, ?_⟩
  rcases hx with ⟨T, xs, e, h, hy, y, hm, hn⟩ | h
  · refine .inl ⟨T, xs, e, h, hy, fun H' s => ?_⟩
    rw [papV_odd hm hn, if_neg (by simp)]
    exact q H' s
  · exact .inr ⟨h, q⟩
theorem pure_shows_1y {K : PySem.W.Frag} (vs : List V) (H : Hp) (Q : VK) (E : XK) (h : sp_shows_1y K vs H Q E) : t_shows_1y K { nx := fun _ H' => Q .non H', rt := Q } (start N_shows_1y vs) H := by
  obtain ⟨l, ls, x, rfl, hl, lt, h⟩ := h
  have l26 := lt.len
  unfold t_shows_1y
  tm_at "v"
  refine i_need_letters_3 lt fun H1 s1 => ?_
  rcases h with ⟨T, xs, rfl, hT, hI, q⟩ | ⟨hk, q⟩
  rotate_left
  · tm_at "v"
    refine i_kd (hk.same s1) ?_
    tm_at "v"
    exact q _ s1
  have hT1 := s1 _ _ hT
  tm_at "v"
  refine i_isi (TyOf.lst hT1) (b := true) (by decide +kernel) ?_
  tm_at "v"
  tm_at "fo"
  refine f_l (xs := xs) ⟨fun j σ H' => ∃ (b : Nat) (v4 : Option V), σ = [some (.str (S l)), some (.str (S ls)), some (.ref T), some (.int (b : Nat)), v4] ∧ Same H1 H' ∧ b ≤ l.length ∧ papV ls l 0 xs = papV ls l b (xs.drop j), ⟨0, none, rfl, Same.refl _, by omega, rfl⟩, ?_, ?_, ?_⟩
  · rintro j σ H' _ ⟨b, v4, rfl, sm, _⟩
    exact SqL.of1 (sm _ _ hT1)
  · rintro j x σ H0 H' hj ⟨b, v4, rfl, sm, hb, hp⟩ ⟨rfl, hx⟩
    rw [List.getElem?_eq_getElem hj] at hx
    have hx : xs[j] = x := Option.some.inj hx
    subst hx
    have hy := (hI _ (List.getElem_mem hj)).same (s1.trans sm)
    rw [List.drop_eq_getElem_cons hj] at hp
    generalize xs[j] = y at *
    have no : papV ls l 0 xs = false → Q .non H' := fun z => by
      have := q H' (s1.trans sm)
      rw [z] at this
      exact this
    rcases hy with ⟨e, rfl⟩ | ⟨c, rfl⟩ | ⟨hk, hn⟩
    · rw [papV] at hp
      tm_at "v"
      refine i_isi_int_int ?_
      tm_at "v"
      refine i_isi_int_bool ?_
      tm_at "v"
      by_cases z : (b : Int) < e ∧ e ≤ l.length
      · refine if_yes (by omega) ?_
        obtain ⟨e, rfl⟩ := Int.eq_ofNat_of_zero_le (show 0 ≤ e by omega)
        tm_at "v"
        rw [decide_eq_true (show ((e : Nat) : Int) ≤ ((l.length : Nat) : Int) by omega)]
        rw [decide_eq_true z, Bool.true_and, Int.toNat_natCast] at hp
        tm_at "v"
        rw [cutL_N (show b ≤ e by omega)]
        refine i_has_all_0 (by omega) lt.2.1 fun H3 s3 => ?_
        tm_at "v"
        cases ea : allIn ls (cutN l b e) with
        | true =>
          rw [ea, Bool.true_and] at hp
          tm_at "v"
          exact ⟨e, _, rfl, sm.trans s3, by omega, hp⟩
        | false =>
          rw [ea, Bool.false_and] at hp
          tm_at "v"
          have := q H3 (s1.trans (sm.trans s3))
          rw [hp] at this
          exact this
      · rw [decide_eq_false z, Bool.false_and, Bool.false_and] at hp
        by_cases z1 : (b : Int) < e
        · refine if_yes (by omega) ?_
          tm_at "v"
          rw [decide_eq_false (show ¬ e ≤ ((l.length : Nat) : Int) by omega)]
          tm_at "v"
          exact no hp
        · refine if_no (by omega) ?_
          tm_at "v"
          exact no hp
    · rw [papV_bl] at hp
      tm_at "v"
      refine i_kd (kd_of (.bl _) (b := true) (by decide +kernel)) ?_
      tm_at "v"
      refine i_isi_bl_bool ?_
      tm_at "v"
      exact no hp
    · rw [papV_no hn] at hp
      tm_at "v"
      refine i_kd hk ?_
      tm_at "v"
      exact no hp
  · rintro σ H' ⟨b, v4, rfl, sm, hb, hp⟩
    rw [List.drop_length, papV] at hp
    tm_at "v"
    refine i_lenL (SqL.of1 (sm _ _ hT1)) ?_
    have := q H' (s1.trans sm)
    rw [hp] at this
    exact this
/-! law_draws_0(script): slots 0 script, 1 draws, 2 k, 3 rest, 4 stir, 5 many -/
abbrev N_law_draws_0 : List Str := ["script", "draws", "k", "rest", "stir", "many"]
def t_law_draws_0 (K : PySem.W.Frag) : TS :=
  (tSeq (tAsg (tLst tNil) (gName 1)) (tSeq (tFor (iRng1 (tCons (tCB Lv.rMin2 (tCons (tCB (Lv.rLenL K) (tCons (tVar 0) tNil)) (tCons (tC (.int 80)) tNil))) tNil)) (gName 2) (tSeq (tAsg (tCB Lv.rAbs (tCons (tOp (rIxL K) (tVar 0) (tVar 2)) tNil)) (gName 3)) (tIfS (tTest (tOp Lv.rLt (tVar 3) (tOp Lv.rPow (tC (.int 10)) (tC (.int 18))))) (tSeq (tAsg (tOp Lv.rMod (tOp Lv.rMul (tOp Lv.rMod (tOp Lv.rAdd (tOp Lv.rAdd (tVar 3) (tOp Lv.rMul (tC (.int 7919)) (tVar 2))) (tC (.int 3))) (tC (.int 2147483647))) (tC (.int 48271))) (tC (.int 2147483647))) (gName 4)) (tSeq (tAsg (tOp Lv.rMod (tOp Lv.rMul (tVar 4) (tVar 4)) (tC (.int 2147483629))) (gName 4)) (tSeq (tDrop (tBM K "list" rAppend (tVar 1) (tCons (tOp Lv.rMod (tOp Lv.rDiv (tVar 4) (tC (.int 16))) (tC (.int 1000))) tNil))) (tSeq (tDrop (tBM K "list" rAppend (tVar 1) (tCons (tOp Lv.rMod (tOp Lv.rDiv (tVar 4) (tC (.int 16000))) (tC (.int 1000))) tNil))) (tSeq (tAsg (tOp Lv.rMod (tOp Lv.rAdd (tVar 4) (tOp Lv.rMul (tC (.int 40692)) (tOp Lv.rAdd (tVar 2) (tC (.int 7))))) (tC (.int 2147483587))) (gName 4)) (tDrop (tBM K "list" rAppend (tVar 1) (tCons (tOp Lv.rMod (tOp Lv.rDiv (tOp Lv.rMod (tOp Lv.rMul (tVar 4) (tVar 4)) (tC (.int 2147483647))) (tC (.int 16))) (tC (.int 1000))) tNil)))))))) (tSeq (tAsg (tC (.int 0)) (gName 5)) (tWhile (tAnd (tTest (tOp Lv.rGe (tVar 3) (tC (.int 1000)))) (tTest (tOp Lv.rLt (tVar 5) (tC (.int 60))))) (tSeq (tDrop (tBM K "list" rAppend (tVar 1) (tCons (tOp Lv.rMod (tVar 3) (tC (.int 1000))) tNil))) (tSeq (tAsg (tOp Lv.rDiv (tVar 3) (tC (.int 1000))) (gName 3)) (tAsg (tOp Lv.rAdd (tVar 5) (tC (.int 1))) (gName 5))))))))) (tRet (tSl (rSlL K) (tVar 1) tNoPart (tPart (tC (.int 240)))))))
-- needs: M_arch
def sp_law_draws_0 (K : PySem.W.Frag) : Sp := fun vs H Q _ => ∃ (a : Addr) (ns : List Int), vs = [.ref a] ∧ SqL K H a (ns.map V.int) ∧ ns.length ≤ 63 ∧ ∀ d H', H d = none → Same H H' → Dr H' d → Q (.ref d) H'
theorem i_law_draws_0 {K : PySem.W.Frag} {a : Addr} {ns : List Int} {H : Hp} {Q : VK} {E : XK} (hS : SqL K H a (ns.map V.int)) (hl : ns.length ≤ 63) (q : ∀ d H', H d = none → Same H H' → Dr H' d → Q (.ref d) H') : sp_law_draws_0 K [.ref a] H Q E := ⟨a, ns, rfl, hS, hl, q⟩
theorem app_iv {ns : List Nat} {z : Int} (h : 0 ≤ z) : ns.map iv ++ [V.int z] = (ns ++ [z.toNat]).map iv := by
  rw [List.map_append]
  congr 1
  show [V.int z] = [V.int ((z.toNat : Nat) : Int)]
  rw [Int.toNat_of_nonneg h]
theorem pure_law_draws_0 {K : PySem.W.Frag} (vs : List V) (H : Hp) (Q : VK) (E : XK) (h : sp_law_draws_0 K vs H Q E) : t_law_draws_0 K { nx := fun _ H' => Q .non H', rt := Q } (start N_law_draws_0 vs) H := by
  obtain ⟨a, ns, rfl, hS, hl, q⟩ := h
  unfold t_law_draws_0
  tm_at "v"
  intro D H1 nD s1 hD
  tm_at "v"
  refine foM (fun J H' => J = Itr 0 ns.length ∧ H' = H1) (fun R k => ?_) ?_
  · tm_at "v"
    refine i_lenL (s1.seq hS) ?_
    rw [List.length_map]
    tm_at "v"
    rw [show (if (80 : Int) < (ns.length : Nat) then (80 : Int) else ((ns.length : Nat) : Int)).toNat = ns.length by split <;> omega]
    exact k _ _ ⟨rfl, rfl⟩
  rintro J H1' ⟨rfl, e1⟩
  subst e1
  refine f_r ⟨fun j σ H' => ∃ (ds : List Nat) (v2 v3 v4 v5 : Option V), σ = [some (.ref a), some (.ref D), v2, v3, v4, v5] ∧ Same H H' ∧ H' D = some (.lst (ds.map iv)) ∧ ds.length ≤ 60 * j, ⟨[], none, none, none, none, rfl, s1, hD, by simp⟩, ?_, ?_⟩
  · rintro j x σ H0 H' hj ⟨ds, v2, v3, v4, v5, rfl, sm, hD', hdl⟩ ⟨rfl, rfl⟩
    rw [Int.zero_add]
    tm_at "v"
    refine i_ixL (v := .int (ns[j])) (sm.seq hS) (atI_nat (by rw [List.getElem?_map, List.getElem?_eq_getElem hj]; rfl)) ?_
    tm_at "v"
    have r0 : 0 ≤ (if ns[j] < 0 then -ns[j] else ns[j]) := by split <;> omega
    generalize (if ns[j] < 0 then -ns[j] else ns[j]) = rest at *
    rw [show ((10 : Int) ^ (18 : Int).toNat) = 1000000000000000000 from rfl]
    refine if_dec (fun z => ?_) (fun z => ?_)
    · tm_at "v"
      have m1 : ∀ x : Int, 0 ≤ x % 2147483647 ∧ x % 2147483647 < 2147483647 := fun x => ⟨Int.emod_nonneg _ (by decide), Int.emod_lt_of_pos _ (by decide)⟩
      have m2 : ∀ x : Int, 0 ≤ x % 2147483629 ∧ x % 2147483629 < 2147483629 := fun x => ⟨Int.emod_nonneg _ (by decide), Int.emod_lt_of_pos _ (by decide)⟩
      have m3 : ∀ x : Int, 0 ≤ x % 2147483587 ∧ x % 2147483587 < 2147483587 := fun x => ⟨Int.emod_nonneg _ (by decide), Int.emod_lt_of_pos _ (by decide)⟩
      have m4 : ∀ x : Int, 0 ≤ x % 1000 := fun x => Int.emod_nonneg _ (by decide)
      have b1 := m1 ((rest + 7919 * (j : Int) + 3) % 2147483647 * 48271)
      generalize (rest + 7919 * (j : Int) + 3) % 2147483647 * 48271 % 2147483647 = st at *
      tm_at "v"
      have b2 := m2 (st * st)
      generalize st * st % 2147483629 = st2 at *
      tm_at "v"
      refine i_tBMl (SqL.of1 hD') ?_
      tm_at "v"
      refine v_app hD' (lt_line (by simp; omega)) fun H2 B2 h2 => ?_
      rw [app_iv (m4 _)] at h2
      tm_at "v"
      refine i_tBMl (SqL.of1 h2) ?_
      tm_at "v"
      refine v_app h2 (lt_line (by simp; omega)) fun H3 B3 h3 => ?_
      rw [app_iv (m4 _)] at h3
      tm_at "v"
      have b3 := m3 (st2 + 40692 * ((j : Int) + 7))
      generalize (st2 + 40692 * ((j : Int) + 7)) % 2147483587 = st3 at *
      refine i_tBMl (SqL.of1 h3) ?_
      tm_at "v"
      refine v_app h3 (lt_line (by simp; omega)) fun H4 B4 h4 => ?_
      rw [app_iv (m4 _)] at h4
      exact ⟨_, _, _, _, _, rfl, But.new sm (B2.trans (B3.trans B4)) nD, h4, by simp; omega⟩
    · tm_at "v"
      refine wh (fun m σ H' => ∃ (ds2 : List Nat) (rs : Int) (w : Nat), σ = [some (.ref a), some (.ref D), some (.int (j : Nat)), some (.int rs), v4, some (.int (w : Nat))] ∧ m = 60 - w ∧ w ≤ 60 ∧ 0 ≤ rs ∧ Same H H' ∧ H' D = some (.lst (ds2.map iv)) ∧ ds2.length ≤ 60 * j + w) 60 ⟨ds, rest, 0, rfl, rfl, by omega, r0, sm, hD', by omega⟩ ?_
      rintro m σ H2 ⟨ds2, rs, w, rfl, rfl, hw, rs0, sm2, hD2, hd2⟩
      tm_at "v"
      refine if_dec (fun z1 => ?_) (fun z1 => ?_)
      · tm_at "v"
        refine if_dec (fun z2 => ?_) (fun z2 => ?_)
        · refine i_turn ?_
          tm_at "v"
          refine i_tBMl (SqL.of1 hD2) ?_
          tm_at "v"
          refine v_app hD2 (lt_line (by simp; omega)) fun H3 B3 h3 => ?_
          rw [app_iv (Int.emod_nonneg _ (by decide))] at h3
          tm_at "v"
          rw [show ((w : Nat) : Int) + 1 = ((w + 1 : Nat) : Int) by omega]
          exact ⟨60 - (w + 1), by omega, _, _, w + 1, rfl, rfl, by omega, Int.ediv_nonneg rs0 (by decide), But.new sm2 B3 nD, h3, by simp; omega⟩
        · exact ⟨ds2, _, _, _, _, rfl, sm2, hD2, by omega⟩
      · tm_at "v"
        exact ⟨ds2, _, _, _, _, rfl, sm2, hD2, by omega⟩
  · rintro σ H' ⟨ds, v2, v3, v4, v5, rfl, sm, hD', hdl⟩
    tm_at "v"
    refine v_slL (SqL.of1 hD') fun p H2 np s2 hp => ?_
    refine q p H2 (sm.free np) (sm.trans s2) ⟨ds.take 240, ?_, by simp; omega⟩
    rw [hp, show cutV (ds.map iv) none (some 240) = cutL (ds.map iv) none (some ((240 : Nat) : Int)) from rfl, cutL_to, List.map_take]
theorem draws_whileG {K : PySem.W.Frag} {d : Addr} {tb : TS} {D : Ends} {σ0 : L2.St} {H0 : Hp} (sd sw top : Nat) (W : Nat → L2.St → Hp → Prop) (h0 : W 0 σ0 H0) (ht : 1 ≤ top)
    (hd : ∀ w σ H, W w σ H → σ[sd]? = some (some (.ref d)) ∧ σ[sw]? = some (some (.int (w : Nat))) ∧ Dr H d)
    (hsm : ∀ w σ H H', W w σ H → Same H H' → W w σ H')
    (step : ∀ w σ H (n' : L2.St → Hp → Prop) (r' : VK) (b' c' : L2.St → Hp → Prop), w < top → W w σ H → n' = W (w + 1) → r' = D.rt → tb { nx := n', rt := r', bk := b', ct := c' } σ H)
    (last : ∀ w σ H, W w σ H → D.nx σ H) :
    tWhile (tOr (tTest (tOp Lv.rLt (tVar sw) (tC (.int 1)))) (tAnd (tTest (tOp (Lv.rNeL K) (tVar sd) (tLst tNil))) (tTest (tOp Lv.rLt (tVar sw) (tC (.int (top : Nat))))))) tb D σ0 H0 := by
  refine wh (fun m σ H => ∃ w, m = top - w ∧ w ≤ top ∧ W w σ H) top ⟨0, rfl, by omega, h0⟩ ?_
  rintro m σ H ⟨w, rfl, hw, hW⟩
  obtain ⟨e1, e2, hdr⟩ := hd w σ H hW
  have go : ∀ H', Same H H' → w < top → ∃ N : L2.St → Hp → Prop, (∀ σ' H'', N σ' H'' → ∃ m', m' < top - w ∧ ∃ w', m' = top - w' ∧ w' ≤ top ∧ W w' σ' H'') ∧ tb { D with nx := N, ct := N, bk := D.nx } σ H' := fun H' s hlt =>
    ⟨W (w + 1), fun σ' H'' h => ⟨top - (w + 1), by omega, w + 1, rfl, by omega, h⟩, step w σ H' _ _ _ _ hlt (hsm _ _ _ _ hW s) rfl rfl⟩
  refine i_or (i_test (i_op (i_var e2 (i_c (i_rI0 (i_bl ?_))))))
  refine if_dec (fun z => iteT (go H (Same.refl _) (by omega))) (fun z => ?_)
  obtain ⟨ns, hns, lns⟩ := hdr
  refine i_and (i_test (i_op (i_var e1 (v_lst (i_nil (v_lstK (by decide) fun p H2 n2 s2 h2 => ?_))))))
  refine i_r2L (ns := ns.map fun n : Nat => (n : Int)) (ms := []) (SqL.of1 (by rw [s2 _ _ hns, ivs])) (SqL.of1 h2) (i_bl ?_)
  refine if_ndec (fun z2 => ?_) (fun z2 => iteF (last w σ H2 (hsm _ _ _ _ hW s2)))
  refine i_test (i_op (i_var e2 (i_c (i_rI0 (i_bl ?_)))))
  by_cases z3 : ((w : Nat) : Int) < (top : Nat)
  · rw [decide_eq_true z3]
    exact iteT (go H2 s2 (by omega))
  · rw [decide_eq_false z3]
    exact iteF (last w σ H2 (hsm _ _ _ _ hW s2))
theorem draws_while {K : PySem.W.Frag} {d : Addr} {tb : TS} {D : Ends} {σ0 : L2.St} {H0 : Hp} (top : Nat) (W : Nat → L2.St → Hp → Prop) (h0 : W 0 σ0 H0) (ht : 1 ≤ top)
    (hd : ∀ w σ H, W w σ H → σ[1]? = some (some (.ref d)) ∧ σ[2]? = some (some (.int (w : Nat))) ∧ Dr H d)
    (hsm : ∀ w σ H H', W w σ H → Same H H' → W w σ H')
    (step : ∀ w σ H (n' : L2.St → Hp → Prop) (r' : VK) (b' c' : L2.St → Hp → Prop), w < top → W w σ H → n' = W (w + 1) → r' = D.rt → tb { nx := n', rt := r', bk := b', ct := c' } σ H)
    (last : ∀ w σ H, W w σ H → D.nx σ H) :
    tWhile (tOr (tTest (tOp Lv.rLt (tVar 2) (tC (.int 1)))) (tAnd (tTest (tOp (Lv.rNeL K) (tVar 1) (tLst tNil))) (tTest (tOp Lv.rLt (tVar 2) (tC (.int (top : Nat))))))) tb D σ0 H0 := draws_whileG 1 2 top W h0 ht hd hsm step last
/-! law_take_0(draws, many): slots 0 draws, 1 many -/
abbrev N_law_take_0 : List Str := ["draws", "many"]
def t_law_take_0 (K : PySem.W.Frag) : TS :=
  (tSeq (tIfS (tTest (tOp (Lv.rEqL K) (tVar 0) (tLst tNil))) (tRet (tC (.int 0))) tNext) (tRet (tOp Lv.rMod (tBM K "list" rPopAt (tVar 0) (tCons (tC (.int 0)) tNil)) (tVar 1))))
-- needs: M_arch
def sp_law_take_0 (K : PySem.W.Frag) : Sp := fun vs H Q _ => ∃ (d : Addr) (n : Int), vs = [.ref d, .int n] ∧ Dr H d ∧ 0 < n ∧ ∀ (r : Nat) H', (r : Int) < n → Dr H' d → But d H H' → Q (.int (r : Nat)) H'
theorem i_law_take_0 {K : PySem.W.Frag} {d : Addr} {n : Int} {H : Hp} {Q : VK} {E : XK} (hd : Dr H d) (h0 : 0 < n) (q : ∀ (r : Nat) H', (r : Int) < n → Dr H' d → But d H H' → Q (.int (r : Nat)) H') : sp_law_take_0 K [.ref d, .int n] H Q E := ⟨d, n, rfl, hd, h0, q⟩
theorem pure_law_take_0 {K : PySem.W.Frag} (vs : List V) (H : Hp) (Q : VK) (E : XK) (h : sp_law_take_0 K vs H Q E) : t_law_take_0 K { nx := fun _ H' => Q .non H', rt := Q } (start N_law_take_0 vs) H := by
  obtain ⟨d, n, rfl, ⟨ns, hd, hl⟩, h0, q⟩ := h
  unfold t_law_take_0
  tm_at "v"
  intro p1 H1 n1 s1 h1
  have hd1 := s1 _ _ hd
  refine i_r2L (ms := []) (SqL.of1 (by rw [hd1, ivs])) (SqL.of1 h1) ?_
  tm_at "v"
  cases ns with
  | nil =>
    refine if_yes rfl ?_
    tm_at "v"
    exact q 0 _ h0 ⟨[], hd1, by simp⟩ s1.but
  | cons r ns =>
    refine if_no (by simp) ?_
    tm_at "v"
    refine i_tBMl (SqL.of1 hd1) ?_
    tm_at "v"
    refine v_pop0 hd1 fun H2 b2 h2 => ?_
    unfold iv
    tm_at "v"
    have e0 := Int.emod_nonneg (r : Int) (show n ≠ 0 by omega)
    have e1 := Int.emod_lt_of_pos (r : Int) h0
    rw [show (r : Int) % n = (((r : Int) % n).toNat : Nat) by omega]
    exact q _ _ (by omega) ⟨ns, h2, by simp at hl; omega⟩ (s1.but.trans b2)
/-! law_abc_0(k): slots 0 k -/
abbrev N_law_abc_0 : List Str := ["k"]
def t_law_abc_0 (K : PySem.W.Frag) : TS :=
  (tRet (tOp Lv.rIxT1 (tC (.str (S [97, 98, 99, 100, 101, 102, 103, 104, 105, 106, 107, 108, 109, 110, 111, 112, 113, 114, 115, 116, 117, 118, 119, 120, 121, 122]))) (tOp Lv.rMod (tVar 0) (tC (.int 26)))))
-- needs: M_arch
def sp_law_abc_0 (K : PySem.W.Frag) : Sp := fun vs H Q _ => ∃ (n : Int), vs = [.int n] ∧ Q (.str (S [97 + (n % 26).toNat])) H
theorem i_law_abc_0 {K : PySem.W.Frag} {n : Int} {H : Hp} {Q : VK} {E : XK} (q : ∀ c, 97 ≤ c ∧ c ≤ 122 → Q (.str (S [c])) H) : sp_law_abc_0 K [.int n] H Q E := ⟨n, rfl, q _ (by
  have h1 := Int.emod_nonneg n (show (26 : Int) ≠ 0 by decide)
  have h2 := Int.emod_lt_of_pos n (show (0 : Int) < 26 by decide)
  omega)⟩
theorem i_law_abc_at {K : PySem.W.Frag} {n : Int} {H : Hp} {Q : VK} {E : XK} (q : Q (.str (S [97 + (n % 26).toNat])) H) : sp_law_abc_0 K [.int n] H Q E := ⟨n, rfl, q⟩
theorem pure_law_abc_0 {K : PySem.W.Frag} (vs : List V) (H : Hp) (Q : VK) (E : XK) (h : sp_law_abc_0 K vs H Q E) : t_law_abc_0 K { nx := fun _ H' => Q .non H', rt := Q } (start N_law_abc_0 vs) H := by
  obtain ⟨n, rfl, q⟩ := h
  unfold t_law_abc_0
  have h1 := Int.emod_nonneg n (show (26 : Int) ≠ 0 by decide)
  have h2 := Int.emod_lt_of_pos n (show (0 : Int) < 26 by decide)
  obtain ⟨k, hk⟩ := Int.eq_ofNat_of_zero_le h1
  rw [hk] at q h2
  tm_at "v"
  rw [hk]
  refine i_ix1 (c := 97 + k) (by decide) ?_ q
  have : ∀ j : Fin 26, abc[j.val]? = some (97 + j.val) := by decide
  exact this ⟨k, by omega⟩
/-! law_signs_0(draws): slots 0 draws, 1 first, 2 k -/
abbrev N_law_signs_0 : List Str := ["draws", "first", "k"]
def t_law_signs_0 (K : PySem.W.Frag) : TS :=
  (tSeq (tAsg (tCall (sp_law_take_0 K) [] E0 (tCons (tVar 0) (tCons (tC (.int 26)) tNil))) (gName 1)) (tRet (tLc (iRng1 (tCons (tOp (rIxL K) (tLst (tCons (tC (.int 1)) (tCons (tC (.int 2)) (tCons (tC (.int 2)) (tCons (tC (.int 3)) (tCons (tC (.int 5)) (tCons (tC (.int 26)) tNil))))))) (tCall (sp_law_take_0 K) [] E0 (tCons (tVar 0) (tCons (tC (.int 6)) tNil)))) tNil)) (gName 2) tYes (tCall (sp_law_abc_0 K) [] E0 (tCons (tOp Lv.rAdd (tVar 1) (tVar 2)) tNil)) [2])))
-- needs: M_arch
def sp_law_signs_0 (K : PySem.W.Frag) : Sp := fun vs H Q _ => ∃ (d : Addr), vs = [.ref d] ∧ Dr H d ∧ ∀ p (cs : List Nat) H', H p = none → p ≠ d → H' p = some (.lst (cs.map vc)) → 1 ≤ cs.length → cs.length ≤ 26 → Low cs → Dr H' d → But d H H' → Q (.ref p) H'
theorem i_law_signs_0 {K : PySem.W.Frag} {d : Addr} {H : Hp} {Q : VK} {E : XK} (hd : Dr H d) (q : ∀ p (cs : List Nat) H', H p = none → p ≠ d → H' p = some (.lst (cs.map vc)) → 1 ≤ cs.length → cs.length ≤ 26 → Low cs → Dr H' d → But d H H' → Q (.ref p) H') : sp_law_signs_0 K [.ref d] H Q E := ⟨d, rfl, hd, q⟩
theorem pure_law_signs_0 {K : PySem.W.Frag} (vs : List V) (H : Hp) (Q : VK) (E : XK) (h : sp_law_signs_0 K vs H Q E) : t_law_signs_0 K { nx := fun _ H' => Q .non H', rt := Q } (start N_law_signs_0 vs) H := by
  obtain ⟨d, rfl, hd, q⟩ := h
  unfold t_law_signs_0
  tm_at "v"
  refine i_law_take_0 hd (by decide) fun f H1 hf hd1 b1 => ?_
  tm_at "v"
  refine lcM (fun J H' => ∃ n : Nat, J = Itr 0 n ∧ 1 ≤ n ∧ n ≤ 26 ∧ Dr H' d ∧ But d H1 H') (fun R k => ?_) ?_
  · tm_at "v"
    intro p2 H2 n2 s2 h2
    tm_at "v"
    refine i_law_take_0 (Dr.same s2 hd1) (by decide) fun r H3 hr hd3 b3 => ?_
    have ne2 : p2 ≠ d := (Dr.ne hd1 n2).symm
    refine i_pickI (ns := [1, 2, 2, 3, 5, 26]) 1 26 (SqL.of1 (b3.at h2 ne2)) (by omega) (by simp; omega) (by decide) fun m m1 m2 => ?_
    refine ⟨m, rfl, by omega, by omega, ?_⟩
    exact k _ _ ⟨m.toNat, rfl, by omega, by omega, hd3, s2.but.trans b3⟩
  rintro J H2 ⟨n, rfl, n1, n26, hd2, b2⟩
  refine c_r fun D nD => ⟨fun i acc H' => Same H2 H' ∧ ∃ cs : List Nat, acc = cs.map vc ∧ cs.length = i ∧ Low cs, ⟨same_new nD, [], rfl, rfl, Low.nil⟩, ?_, ?_⟩
  · rintro i acc x H0 H' hi hacc hD ⟨sm, cs, rfl, hcl, lw⟩ ⟨rfl, rfl⟩
    tm_at "v"
    refine ⟨rfl, ?_⟩
    tm_at "v"
    refine i_law_abc_0 fun c hc => ?_
    exact lc_put hD hacc (by omega) ⟨sm.updN nD, cs ++ [c], by rw [List.map_append]; rfl, by simp [hcl], lw.app (Low.one hc)⟩
  · rintro acc H' _ hD ⟨sm, cs, rfl, hcl, lw⟩
    have nDH : H D = none := small_none (b1.trans b2) (Dr.ne hd2 nD).symm nD
    exact q D cs H' nDH (Dr.ne hd2 nD).symm hD (by omega) (by omega) lw (Dr.same sm hd2) (b1.trans (b2.trans sm.but))
/-! law_row_2(draws, signs, most): slots 0 draws, 1 signs, 2 most, 3 many, 4 one, 5 other, 6 third, 7 free, 8 found, 9 k, 10 turn -/
abbrev N_law_row_2 : List Str := ["draws", "signs", "most", "many", "one", "other", "third", "free", "found", "k", "turn"]
def t_law_row_2 (K : PySem.W.Frag) : TS :=
  (tSeq (tAsg (tCB Lv.rMin2 (tCons (tVar 2) (tCons (tCall (sp_law_take_0 K) [] E0 (tCons (tVar 0) (tCons (tC (.int 10)) tNil))) tNil))) (gName 3)) (Evl.tCut (tIfS (tTest (tOp Lv.rEqI (tCall (sp_law_take_0 K) [] E0 (tCons (tVar 0) (tCons (tC (.int 8)) tNil))) (tC (.int 1)))) (tAsg (tOp (rIxL K) (tLst (tCons (tVar 2) (tCons (tCall (sp_law_take_0 K) [] E0 (tCons (tVar 0) (tCons (tOp Lv.rAdd (tVar 2) (tC (.int 1))) tNil))) tNil))) (tCall (sp_law_take_0 K) [] E0 (tCons (tVar 0) (tCons (tC (.int 2)) tNil)))) (gName 3)) tNext) (tSeq (tAsg (tCall (sp_law_take_0 K) [] E0 (tCons (tVar 0) (tCons (tC (.int 1000)) tNil))) (gName 4)) (tSeq (tAsg (tOp Lv.rAdd (tC (.int 1)) (tCall (sp_law_take_0 K) [] E0 (tCons (tVar 0) (tCons (tC (.int 1000)) tNil)))) (gName 5)) (tSeq (tAsg (tCall (sp_law_take_0 K) [] E0 (tCons (tVar 0) (tCons (tC (.int 1000)) tNil))) (gName 6)) (tSeq (tAsg (tOp Lv.rEqI (tCall (sp_law_take_0 K) [] E0 (tCons (tVar 0) (tCons (tC (.int 3)) tNil))) (tC (.int 1))) (gName 7)) (tSeq (tAsg (tC (.str (S []))) (gName 8)) (tSeq (tFor (iRng1 (tCons (tVar 3) tNil)) (gName 9) (tSeq (tAsg (tOp Lv.rMod (tOp Lv.rAdd (tOp Lv.rAdd (tOp Lv.rAdd (tOp Lv.rMul (tOp Lv.rMul (tVar 9) (tVar 9)) (tVar 4)) (tOp Lv.rMul (tVar 9) (tVar 5))) (tOp Lv.rMul (tOp Lv.rDiv (tVar 9) (tC (.int 5))) (tC (.int 17)))) (tVar 6)) (tC (.int 9973))) (gName 10)) (Evl.tCut (tIfS (tOr (tTest (tOp Lv.rLt (tVar 3) (tC (.int 10)))) (tAnd (tB (tVar 7)) (tTest (tOp Lv.rGt (tCB (Lv.rLenL K) (tCons (tVar 0) tNil)) (tC (.int 90)))))) (tAsg (tCall (sp_law_take_0 K) [] E0 (tCons (tVar 0) (tCons (tC (.int 1000)) tNil))) (gName 10)) tNext) (tAsg (tOp Lv.rAddS (tVar 8) (tOp (rIxL K) (tVar 1) (tOp Lv.rMod (tVar 10) (tCB (Lv.rLenL K) (tCons (tVar 1) tNil))))) (gName 8))))) (tRet (tVar 8))))))))))
-- needs: M_arch
def sp_law_row_2 (K : PySem.W.Frag) : Sp := fun vs H Q _ => ∃ (d A : Addr) (cs : List Nat) (n : Nat), vs = [.ref d, .ref A, .int (n : Nat)] ∧ Dr H d ∧ H A = some (.lst (cs.map vc)) ∧ A ≠ d ∧ 1 ≤ cs.length ∧ Low cs ∧ n ≤ 80 ∧ ∀ l H', l.length ≤ n → Low l → Dr H' d → But d H H' → Q (.str (S l)) H'
theorem i_law_row_2 {K : PySem.W.Frag} {d A : Addr} {cs : List Nat} {n : Nat} {x : Int} {H : Hp} {Q : VK} {E : XK} (hx : x = (n : Nat)) (hd : Dr H d) (hA : H A = some (.lst (cs.map vc))) (ne : A ≠ d) (c1 : 1 ≤ cs.length) (lw : Low cs) (hn : n ≤ 80) (q : ∀ l H', l.length ≤ n → Low l → Dr H' d → But d H H' → Q (.str (S l)) H') : sp_law_row_2 K [.ref d, .ref A, .int x] H Q E := by
  subst hx; exact ⟨d, A, cs, n, rfl, hd, hA, ne, c1, lw, hn, q⟩
theorem pure_law_row_2 {K : PySem.W.Frag} (vs : List V) (H : Hp) (Q : VK) (E : XK) (h : sp_law_row_2 K vs H Q E) : t_law_row_2 K { nx := fun _ H' => Q .non H', rt := Q } (start N_law_row_2 vs) H := by
  obtain ⟨d, A, cs, n, rfl, hd, hA, ne, c1, lw, hn, q⟩ := h
  unfold t_law_row_2
  tm_at "v"
  refine i_law_take_0 hd (by decide) fun r0 H1 hr0 hd1 b1 => ?_
  tm_at "v"
  refine ⟨fun σ' H' => ∃ m : Nat, σ' = [some (.ref d), some (.ref A), some (.int (n : Nat)), some (.int (m : Nat)), none, none, none, none, none, none, none] ∧ m ≤ n ∧ Dr H' d ∧ But d H H', ?_, ?_⟩
  · tm_at "v"
    refine i_law_take_0 hd1 (by decide) fun r1 H2 hr1 hd2 b2 => ?_
    tm_at "v"
    refine if_dec (fun z => ?_) (fun z => ?_)
    · tm_at "v"
      refine i_law_take_0 hd2 (by omega) fun r2 H3 hr2 hd3 b3 => ?_
      tm_at "v"
      intro p4 H4 n4 s4 h4
      have ne4 : p4 ≠ d := (Dr.ne hd3 n4).symm
      tm_at "v"
      refine i_law_take_0 (Dr.same s4 hd3) (by decide) fun r5 H5 hr5 hd5 b5 => ?_
      refine i_pickI (ns := [((n : Nat) : Int), ((r2 : Nat) : Int)]) 0 n (SqL.of1 (b5.at h4 ne4)) (by omega) (by simp; omega) (fun m hm => by simp only [List.mem_cons, List.not_mem_nil, or_false] at hm; omega) fun m m1 m2 => ?_
      obtain ⟨m, rfl⟩ := Int.eq_ofNat_of_zero_le m1
      tm_at "v"
      exact ⟨m, rfl, by omega, hd5, b1.trans (b2.trans (b3.trans (s4.but.trans b5)))⟩
    · tm_at "v"
      refine ⟨min n r0, ?_, by omega, hd2, b1.trans b2⟩
      rw [show (if ((r0 : Nat) : Int) < (n : Nat) then ((r0 : Nat) : Int) else ((n : Nat) : Int)) = ((min n r0 : Nat) : Int) by split <;> omega]
      rfl
  rintro σ' H2 ⟨m, rfl, hm, hd2, b2⟩
  tm_at "v"
  refine i_law_take_0 hd2 (by decide) fun o1 H3 ho1 hd3 b3 => ?_
  tm_at "v"
  refine i_law_take_0 hd3 (by decide) fun o2 H4 ho2 hd4 b4 => ?_
  tm_at "v"
  refine i_law_take_0 hd4 (by decide) fun o3 H5 ho3 hd5 b5 => ?_
  tm_at "v"
  refine i_law_take_0 hd5 (by decide) fun o4 H6 ho4 hd6 b6 => ?_
  have B6 : But d H H6 := b2.trans (b3.trans (b4.trans (b5.trans b6)))
  tm_at "v"
  generalize decide (((o4 : Nat) : Int) = 1) = fr at *
  tm_at "fo"
  refine f_r ⟨fun j σ H' => ∃ (f : List Nat) (v9 v10 : Option V), σ = [some (.ref d), some (.ref A), some (.int (n : Nat)), some (.int (m : Nat)), some (.int (o1 : Nat)), some (.int (1 + (o2 : Int))), some (.int (o3 : Nat)), some (.bl fr), some (.str (S f)), v9, v10] ∧ f.length = j ∧ Low f ∧ Dr H' d ∧ But d H H', ⟨[], none, none, rfl, rfl, Low.nil, hd6, B6⟩, ?_, ?_⟩
  · rintro j x σ H0 H' hj ⟨f, v9, v10, rfl, hf, lwf, hd', bt⟩ ⟨rfl, rfl⟩
    rw [Int.zero_add]
    have hA' := bt.at hA ne
    tm_at "v"
    refine ⟨fun σ' Hm => ∃ t : Int, σ' = [some (.ref d), some (.ref A), some (.int (n : Nat)), some (.int (m : Nat)), some (.int (o1 : Nat)), some (.int (1 + (o2 : Int))), some (.int (o3 : Nat)), some (.bl fr), some (.str (S f)), some (.int (j : Nat)), some (.int t)] ∧ Dr Hm d ∧ But d H Hm, ?_, ?_⟩
    · tm_at "v"
      refine if_dec (fun z => ?_) (fun z => ?_)
      · tm_at "v"
        refine i_law_take_0 hd' (by decide) fun r H7 hr hd7 b7 => ?_
        tm_at "v"
        exact ⟨_, rfl, hd7, bt.trans b7⟩
      · cases fr with
        | false =>
          tm_at "v"
          exact ⟨_, rfl, hd', bt⟩
        | true =>
          tm_at "v"
          obtain ⟨ns, hns, lns⟩ := id hd'
          refine i_lenL (SqL.of1 hns) ?_
          tm_at "v"
          refine if_dec (fun z => ?_) (fun z => ?_)
          · tm_at "v"
            refine i_law_take_0 hd' (by decide) fun r H7 hr hd7 b7 => ?_
            tm_at "v"
            exact ⟨_, rfl, hd7, bt.trans b7⟩
          · tm_at "v"
            exact ⟨_, rfl, hd', bt⟩
    · rintro σ' H7 ⟨t, rfl, hd7, b7⟩
      have hA7 := b7.at hA ne
      tm_at "v"
      refine i_lenL (SqL.of1 hA7) ?_
      rw [List.length_map]
      refine i_rI (show (0 : Int) < (cs.length : Nat) by omega) ?_
      refine i_pickC (SqL.of1 hA7) (Int.emod_nonneg _ (by omega)) (Int.emod_lt_of_pos _ (by omega)) fun c hc => ?_
      tm_at "v"
      exact ⟨f ++ [c], _, _, rfl, by simp [hf], lwf.app (Low.one (lw c hc)), hd7, b7⟩
  · rintro σ H' ⟨f, v9, v10, rfl, hf, lwf, hd', bt⟩
    tm_at "v"
    exact q f H' (by omega) lwf hd' bt
/-! law_some_letters_0(draws, signs): slots 0 draws, 1 signs, 2 every, 3 way, 4 some, 5 k, 6 letter -/
abbrev N_law_some_letters_0 : List Str := ["draws", "signs", "every", "way", "some", "k", "letter"]
def t_law_some_letters_0 (K : PySem.W.Frag) : TS :=
  (tSeq (tAsg (tC (.str (S [97, 98, 99, 100, 101, 102, 103, 104, 105, 106, 107, 108, 109, 110, 111, 112, 113, 114, 115, 116, 117, 118, 119, 120, 121, 122]))) (gName 2)) (tSeq (tAsg (tCall (sp_law_take_0 K) [] E0 (tCons (tVar 0) (tCons (tC (.int 6)) tNil))) (gName 3)) (tSeq (tAsg (tCB (Lv.rListOf K) (tCons (tVar 1) tNil)) (gName 4)) (Evl.tCut (tIfS (tTest (tOp Lv.rEqI (tVar 3) (tC (.int 1)))) (tAsg (tOp L2.rCat (tLc (iEnum K (tCons (tVar 1) tNil)) (gTup K 2 (gCons (gName 5) (gCons (gName 6) gNil))) (tTest (tOp Lv.rGt (tOp Lv.rMod (tOp Lv.rAdd (tVar 5) (tCall (sp_law_take_0 K) [] E0 (tCons (tVar 0) (tCons (tC (.int 3)) tNil)))) (tC (.int 3))) (tC (.int 0)))) (tVar 6) [5, 6]) (tSl (rSlL K) (tVar 1) tNoPart (tPart (tC (.int 1))))) (gName 4)) tNext) (Evl.tCut (tIfS (tTest (tOp Lv.rEqI (tVar 3) (tC (.int 2)))) (tAsg (tOp L2.rCat (tVar 4) (tLst (tCons (tCall (sp_law_abc_0 K) [] E0 (tCons (tCall (sp_law_take_0 K) [] E0 (tCons (tVar 0) (tCons (tC (.int 26)) tNil))) tNil)) tNil))) (gName 4)) tNext) (Evl.tCut (tIfS (tTest (tOp Lv.rEqI (tVar 3) (tC (.int 3)))) (tAsg (tLst (tCons (tOp (rIxL K) (tVar 1) (tCall (sp_law_take_0 K) [] E0 (tCons (tVar 0) (tCons (tCB (Lv.rLenL K) (tCons (tVar 1) tNil)) tNil)))) tNil)) (gName 4)) tNext) (Evl.tCut (tIfS (tTest (tOp Lv.rEqI (tVar 3) (tC (.int 4)))) (tAsg (tLc (iRng1 (tCons (tOp Lv.rAdd (tC (.int 1)) (tCall (sp_law_take_0 K) [] E0 (tCons (tVar 0) (tCons (tC (.int 5)) tNil)))) tNil)) (gName 5) tYes (tCall (sp_law_abc_0 K) [] E0 (tCons (tCall (sp_law_take_0 K) [] E0 (tCons (tVar 0) (tCons (tC (.int 26)) tNil))) tNil)) [5]) (gName 4)) tNext) (Evl.tCut (tIfS (tAnd (tTest (tOp Lv.rEqI (tVar 3) (tC (.int 5)))) (tTest (tOp Lv.rEqI (tCall (sp_law_take_0 K) [] E0 (tCons (tVar 0) (tCons (tC (.int 4)) tNil))) (tC (.int 0))))) (tAsg (tCB Lv.rListS (tCons (tVar 2) tNil)) (gName 4)) tNext) (tRet (tBM K "str" (Lv.rJoin K) (tC (.str (S []))) (tCons (Lv.tSortSetL K (tCons (tVar 4) tNil)) tNil)))))))))))
-- needs: M_arch
def sp_law_some_letters_0 (K : PySem.W.Frag) : Sp := fun vs H Q _ => ∃ (d A : Addr) (cs : List Nat), vs = [.ref d, .ref A] ∧ Dr H d ∧ H A = some (.lst (cs.map vc)) ∧ A ≠ d ∧ 1 ≤ cs.length ∧ cs.length ≤ 26 ∧ Low cs ∧ ∀ ls H', Lets ls → Dr H' d → But d H H' → Q (.str (S ls)) H'
theorem i_law_some_letters_0 {K : PySem.W.Frag} {d A : Addr} {cs : List Nat} {H : Hp} {Q : VK} {E : XK} (hd : Dr H d) (hA : H A = some (.lst (cs.map vc))) (ne : A ≠ d) (c1 : 1 ≤ cs.length) (c2 : cs.length ≤ 26) (lw : Low cs) (q : ∀ ls H', Lets ls → Dr H' d → But d H H' → Q (.str (S ls)) H') : sp_law_some_letters_0 K [.ref d, .ref A] H Q E := ⟨d, A, cs, rfl, hd, hA, ne, c1, c2, lw, q⟩
theorem letter_cut {H0 H : Hp} {d p : Addr} (b : But d H0 H) (hd : Dr H0 d) (n : H p = none) (hd' : Dr H d) : p ≠ d := (Dr.ne hd' n).symm
def SLm (d A : Addr) (w k : Nat) (H0 : Hp) (σ : L2.St) (H : Hp) : Prop := ∃ (p : Addr) (xs : List Nat) (v5 v6 : Option V), σ = [some (.ref d), some (.ref A), some (.str (S abc)), some (.int (w : Nat)), some (.ref p), v5, v6] ∧ H p = some (.lst (xs.map vc)) ∧ p ≠ d ∧ xs ≠ [] ∧ Low xs ∧ xs.length ≤ k ∧ Dr H d ∧ But d H0 H
theorem ones_up : ∀ {ys : List (List Nat)} {xs : List Nat}, ys.Pairwise (· < ·) → (∀ c, c ∈ ys ↔ c ∈ xs.map fun c => [c]) → ∃ zs : List Nat, ys = zs.map (fun c => [c]) ∧ zs.Pairwise (· < ·) ∧ ∀ c, c ∈ zs ↔ c ∈ xs := by
  intro ys xs up hm
  have ey : ys = (ys.map fun y => y.headD 0).map fun c => [c] := by
    rw [List.map_map]
    refine (List.map_id ys).symm.trans (List.map_congr_left fun y hy => ?_)
    obtain ⟨c, _, rfl⟩ := List.mem_map.mp ((hm y).mp hy)
    rfl
  refine ⟨ys.map fun y => y.headD 0, ey, ?_, fun c => ?_⟩
  · rw [ey, List.pairwise_map] at up
    exact up.imp fun h => lt_one.mp h
  · have h1 := hm [c]
    rw [List.mem_map] at h1
    constructor
    · intro hc
      have : [c] ∈ ys := by rw [ey]; exact List.mem_map.mpr ⟨c, hc, rfl⟩
      obtain ⟨d, hd, e⟩ := h1.mp this
      cases e
      exact hd
    · intro hc
      exact List.mem_map.mpr ⟨[c], h1.mpr ⟨c, hc, rfl⟩, rfl⟩
theorem pure_law_some_letters_0 {K : PySem.W.Frag} (vs : List V) (H : Hp) (Q : VK) (E : XK) (h : sp_law_some_letters_0 K vs H Q E) : t_law_some_letters_0 K { nx := fun _ H' => Q .non H', rt := Q } (start N_law_some_letters_0 vs) H := by
  obtain ⟨d, A, cs, rfl, hd, hA, ne, c1, c2, lw, q⟩ := h
  unfold t_law_some_letters_0
  tm_at "v"
  refine i_law_take_0 hd (by decide) fun w H1 hw hd1 b1 => ?_
  have hA1 := b1.at hA ne
  tm_at "v"
  refine v_listOf (SqL.of1 hA1) fun p2 H2 n2 s2 h2 => ?_
  have c0 : cs ≠ [] := List.length_pos_iff.mp c1
  have M0 : SLm d A w 30 H [some (.ref d), some (.ref A), some (.str (S abc)), some (.int (w : Nat)), some (.ref p2), none, none] H2 := ⟨p2, cs, none, none, rfl, h2, (Dr.ne hd1 n2).symm, c0, lw, by omega, Dr.same s2 hd1, b1.trans s2.but⟩
  tm_at "v"
  refine ⟨SLm d A w 30 H, ?_, ?_⟩
  · tm_at "v"
    refine if_dec (fun z => ?_) (fun z => ?_)
    · tm_at "v"
      have hA2 := s2 _ _ hA1
      have hd2 := Dr.same s2 hd1
      refine lcM (fun J H' => J = Ite K A ∧ H' = H2) (fun R k => ?_) ?_
      · tm_at "v"
        exact k _ _ ⟨rfl, rfl⟩
      rintro J H2' ⟨rfl, e2⟩
      subst e2
      refine c_e (xs := cs.map vc) fun D nD => ⟨fun i acc H' => Dr H' d ∧ But d H2' H' ∧ ∃ xs : List Nat, acc = xs.map vc ∧ Low xs, ⟨hd2.updN (Dr.ne hd2 nD), (same_new nD).but, [], rfl, Low.nil⟩, ?_, ?_, ?_⟩
      · rintro i acc H' _ _ ⟨_, bt, _⟩
        exact SqL.of1 (bt.at hA2 ne)
      · rintro i acc x H0 H' hi hacc hD ⟨hd', bt, xs, rfl, lwx⟩ ⟨T, zs, rfl, nT, rfl, y, hy, rfl⟩
        rw [List.length_map] at hi
        rw [List.getElem?_map, List.getElem?_eq_getElem hi] at hy
        have hy : vc cs[i] = y := Option.some.inj hy
        subst hy
        have hcl := lw cs[i] (List.getElem_mem hi)
        generalize cs[i] = c at *
        have sT := same_new (o := .tup [.int (i : Nat), vc c]) nT
        have hT : upd H0 T (.tup [.int (i : Nat), vc c]) T = _ := upd_same
        have hd3 := Dr.same sT hd'
        have hD3 := sT _ _ hD
        generalize upd H0 T (.tup [.int (i : Nat), vc c]) = H3 at *
        have neD : D ≠ d := (Dr.ne hd2 nD).symm
        refine i_gTup (SqT.of1 hT) rfl ?_
        tm_at "v"
        refine ⟨rfl, ?_⟩
        tm_at "v"
        refine i_law_take_0 hd3 (by decide) fun r H4 hr hd4 b4 => ?_
        tm_at "v"
        refine if_dec (fun z => ?_) (fun z => ?_)
        · tm_at "v"
          exact lc_put (b4.at hD3 neD) hacc (by omega) ⟨hd4.updN neD.symm, (bt.trans (sT.but.trans b4)).updN nD, xs ++ [c], by rw [List.map_append]; rfl, lwx.app (Low.one hcl)⟩
        · exact lc_skip (b4.at hD3 neD) hacc ⟨hd4, bt.trans (sT.but.trans b4), xs, rfl, lwx⟩
      · rintro acc H3 hacc hD ⟨hd3, b3, xs, rfl, lwx⟩
        rw [List.length_map, List.length_map] at hacc
        have hA3 := b3.at hA2 ne
        have neD : D ≠ d := (Dr.ne hd2 nD).symm
        tm_at "v"
        refine v_slL (SqL.of1 hA3) fun p4 H4 n4 s4 h4 => ?_
        have h4' : H4 p4 = some (.lst ((cs.take 1).map vc)) := by
          rw [h4, show cutV (cs.map vc) none (some 1) = cutL (cs.map vc) none (some ((1 : Nat) : Int)) from rfl, cutL_to, List.map_take]
        refine v_cat (s4 _ _ hD) h4' (le_line (by simp; omega)) fun p5 H5 n5 s5 h5 => ?_
        have hd5 := Dr.same (s4.trans s5) hd3
        refine ⟨p5, xs ++ cs.take 1, _, _, rfl, by rw [h5, List.map_append], (Dr.ne (Dr.same s4 hd3) n5).symm, ?_, lwx.app (lw.take 1), by simp; omega, hd5, b1.trans (s2.but.trans (b3.trans (s4.trans s5).but))⟩
        cases cs with
        | nil => exact absurd rfl c0
        | cons c cs => simp
    · tm_at "v"
      exact M0
  rintro σ' H3 M1
  refine ⟨SLm d A w 40 H, ?_, ?_⟩
  · obtain ⟨p, xs, v5, v6, rfl, hp, np, xne, lwx, xl, hd3, b3⟩ := M1
    tm_at "v"
    refine if_dec (fun z => ?_) (fun z => ?_)
    · tm_at "v"
      refine i_law_take_0 hd3 (by decide) fun r H4 hr hd4 b4 => ?_
      tm_at "v"
      refine i_law_abc_0 fun c hc => ?_
      tm_at "v"
      intro p5 H5 n5 s5 h5
      refine v_cat (s5 _ _ (b4.at hp np)) (zs := [vc c]) h5 (le_line (by simp; omega)) fun p6 H6 n6 s6 h6 => ?_
      have hd5 := Dr.same s5 hd4
      exact ⟨p6, xs ++ [c], _, _, rfl, by rw [h6, List.map_append]; rfl, (Dr.ne hd5 n6).symm, by simp, lwx.app (Low.one hc), by simp; omega, Dr.same s6 hd5, b3.trans (b4.trans (s5.trans s6).but)⟩
    · tm_at "v"
      exact ⟨p, xs, v5, v6, rfl, hp, np, xne, lwx, by omega, hd3, b3⟩
  rintro σ' H4 M2
  refine ⟨SLm d A w 40 H, ?_, ?_⟩
  · obtain ⟨p, xs, v5, v6, rfl, hp, np, xne, lwx, xl, hd3, b3⟩ := M2
    tm_at "v"
    refine if_dec (fun z => ?_) (fun z => ?_)
    · tm_at "v"
      have hA3 := b3.at hA ne
      refine i_lenL (SqL.of1 hA3) ?_
      rw [List.length_map]
      tm_at "v"
      refine i_law_take_0 hd3 (by omega) fun r H5 hr hd5 b5 => ?_
      refine i_pickC (SqL.of1 (b5.at hA3 ne)) (by omega) (by omega) fun c hc => ?_
      tm_at "v"
      intro p6 H6 n6 s6 h6
      tm_at "v"
      exact ⟨p6, [c], _, _, rfl, h6, (Dr.ne hd5 n6).symm, by simp, Low.one (lw c hc), by simp, Dr.same s6 hd5, b3.trans (b5.trans s6.but)⟩
    · tm_at "v"
      exact ⟨p, xs, v5, v6, rfl, hp, np, xne, lwx, xl, hd3, b3⟩
  rintro σ' H5 M3
  refine ⟨SLm d A w 40 H, ?_, ?_⟩
  · obtain ⟨p, xs, v5, v6, rfl, hp, np, xne, lwx, xl, hd3, b3⟩ := M3
    tm_at "v"
    refine if_dec (fun z => ?_) (fun z => ?_)
    · tm_at "v"
      refine lcM (fun J H' => ∃ n : Nat, J = Itr 0 (n + 1) ∧ n < 5 ∧ Dr H' d ∧ But d H5 H') (fun R k => ?_) ?_
      · tm_at "v"
        refine i_law_take_0 hd3 (by decide) fun r H6 hr hd6 b6 => ?_
        tm_at "v"
        rw [show ((1 : Int) + ((r : Nat) : Int)).toNat = r + 1 by omega]
        exact k _ _ ⟨r, rfl, by omega, hd6, b6⟩
      rintro J H6 ⟨n, rfl, hn, hd6, b6⟩
      refine c_r fun D nD => ⟨fun i acc H' => Dr H' d ∧ But d H6 H' ∧ ∃ xs : List Nat, acc = xs.map vc ∧ xs.length = i ∧ Low xs, ⟨hd6.updN (Dr.ne hd6 nD), (same_new nD).but, [], rfl, rfl, Low.nil⟩, ?_, ?_⟩
      · rintro i acc x H0 H' hi hacc hD ⟨hd', bt, xs, rfl, hxl, lwx⟩ ⟨rfl, rfl⟩
        have neD : D ≠ d := (Dr.ne hd6 nD).symm
        tm_at "v"
        refine ⟨rfl, ?_⟩
        tm_at "v"
        refine i_law_take_0 hd' (by decide) fun r H7 hr hd7 b7 => ?_
        tm_at "v"
        refine i_law_abc_0 fun c hc => ?_
        exact lc_put (b7.at hD neD) hacc (by omega) ⟨hd7.updN neD.symm, (bt.trans b7).updN nD, xs ++ [c], by rw [List.map_append]; rfl, by simp [hxl], lwx.app (Low.one hc)⟩
      · rintro acc H7 _ hD ⟨hd7, b7, xs, rfl, hxl, lwx⟩
        tm_at "v"
        exact ⟨D, xs, _, _, rfl, hD, (Dr.ne hd6 nD).symm, List.length_pos_iff.mp (by omega), lwx, by omega, hd7, b3.trans (b6.trans b7)⟩
    · tm_at "v"
      exact ⟨p, xs, v5, v6, rfl, hp, np, xne, lwx, xl, hd3, b3⟩
  rintro σ' H6 M4
  refine ⟨SLm d A w 40 H, ?_, ?_⟩
  · obtain ⟨p, xs, v5, v6, rfl, hp, np, xne, lwx, xl, hd3, b3⟩ := M4
    tm_at "v"
    refine if_dec (fun z => ?_) (fun z => ?_)
    · tm_at "v"
      refine i_law_take_0 hd3 (by decide) fun r H7 hr hd7 b7 => ?_
      tm_at "v"
      refine if_dec (fun z => ?_) (fun z => ?_)
      · tm_at "v"
        refine v_listS (by decide) fun p8 H8 n8 s8 h8 => ?_
        exact ⟨p8, abc, _, _, rfl, h8, (Dr.ne hd7 n8).symm, by simp, low_abc, by decide, Dr.same s8 hd7, b3.trans (b7.trans s8.but)⟩
      · tm_at "v"
        exact ⟨p, xs, v5, v6, rfl, b7.at hp np, np, xne, lwx, xl, hd7, b3.trans b7⟩
    · tm_at "v"
      exact ⟨p, xs, v5, v6, rfl, hp, np, xne, lwx, xl, hd3, b3⟩
  rintro σ' H7 ⟨p, xs, v5, v6, rfl, hp, np, xne, lwx, xl, hd3, b3⟩
  tm_at "v"
  refine ⟨p, xs.map fun c => [c], rfl, SqL.of1 (by rw [hp, vc_vs]), by simp; omega, fun ys p8 up hm n8 => ?_⟩
  obtain ⟨zs, rfl, zup, zm⟩ := ones_up up hm
  have s8 := same_new (o := .lst ((zs.map fun c => [c]).map Lv.vs)) n8
  have zne : zs ≠ [] := fun e => by
    subst e
    cases xs with
    | nil => exact xne rfl
    | cons c xs => have := (zm c).mpr List.mem_cons_self; cases this
  have zl : Lets zs := ⟨zne, lwx.sub fun c hc => (zm c).mp hc, zup⟩
  refine i_joinC (SqL.of1 (by rw [upd_same, vc_vs])) (by have := zl.len; omega) ?_
  exact q zs _ zl (Dr.same s8 hd3) (b3.trans s8.but)
/-! law_arches_0(row, letters): slots 0 row, 1 letters, 2 found, 3 missing, 4 place, 5 letter -/
abbrev N_law_arches_0 : List Str := ["row", "letters", "found", "missing", "place", "letter"]
def t_law_arches_0 (K : PySem.W.Frag) : TS :=
  (tSeq (tAsg (tLst tNil) (gName 2)) (tSeq (tAsg (tCB Lv.rListS (tCons (tVar 1) tNil)) (gName 3)) (tSeq (tFor (iRng1 (tCons (tCB Lv.rLenT (tCons (tVar 0) tNil)) tNil)) (gName 4) (tSeq (tAsg (tLc (iList K (tVar 3)) (gName 5) (tTest (tOp Lv.rNeS (tVar 5) (tOp Lv.rIxT1 (tVar 0) (tVar 4)))) (tVar 5) [5]) (gName 3)) (tIfS (tTest (tOp (Lv.rEqLS K) (tVar 3) (tLst tNil))) (tSeq (tDrop (tBM K "list" rAppend (tVar 2) (tCons (tOp Lv.rAdd (tVar 4) (tC (.int 1))) tNil))) (tAsg (tCB Lv.rListS (tCons (tVar 1) tNil)) (gName 3))) tNext))) (tRet (tVar 2)))))
-- needs: M_arch
def sp_law_arches_0 (K : PySem.W.Frag) : Sp := fun vs H Q _ => ∃ (l ls : List Nat), vs = [.str (S l), .str (S ls)] ∧ l.length ≤ 1000 ∧ Lets ls ∧ ∀ p H', H p = none → Same H H' → H' p = some (.lst ((arcs ls l).map iv)) → Q (.ref p) H'
theorem i_law_arches_0 {K : PySem.W.Frag} {l ls : List Nat} {H : Hp} {Q : VK} {E : XK} (hl : l.length ≤ 1000) (lw : Lets ls) (q : ∀ p H', H p = none → Same H H' → H' p = some (.lst ((arcs ls l).map iv)) → Q (.ref p) H') : sp_law_arches_0 K [.str (S l), .str (S ls)] H Q E := ⟨l, ls, rfl, hl, lw, q⟩
theorem pure_law_arches_0 {K : PySem.W.Frag} (vs : List V) (H : Hp) (Q : VK) (E : XK) (h : sp_law_arches_0 K vs H Q E) : t_law_arches_0 K { nx := fun _ H' => Q .non H', rt := Q } (start N_law_arches_0 vs) H := by
  obtain ⟨l, ls, rfl, hl, lt, q⟩ := h
  have l26 := lt.len
  unfold t_law_arches_0
  tm_at "v"
  intro F H1 nF s1 hF
  tm_at "v"
  refine v_listS (by omega) fun M H2 nM s2 hM => ?_
  have neFM : M ≠ F := fun z => by subst z; rw [hF] at nM; cases nM
  tm_at "v"
  tm_at "fo"
  refine f_r ⟨fun j σ H' => ∃ (M : Addr) (v4 v5 : Option V), σ = [some (.str (S l)), some (.str (S ls)), some (.ref F), some (.ref M), v4, v5] ∧ Same H H' ∧ H' F = some (.lst ((arcS ls l j).1.map iv)) ∧ H' M = some (.lst ((ls.filter fun c => decide (c ∉ cutN l (arcS ls l j).2 j)).map vc)), ⟨M, none, none, rfl, s1.trans s2, s2 _ _ hF, ?_⟩, ?_, ?_⟩
  · rw [hM, List.filter_eq_self.mpr]
    intro c _
    simp [cutN, arcS]
  · rintro j x σ H0 H' hj ⟨M, v4, v5, rfl, sm, hF', hM'⟩ ⟨rfl, rfl⟩
    rw [Int.zero_add]
    have hjl : j < l.length := by omega
    have hb := arcS_le ls l j
    have hf := arcS_len ls l j
    obtain ⟨d, hd, ed⟩ := drop_at hjl
    have ec := cutN_succ (b := (arcS ls l j).2) hb hd
    tm_at "v"
    tm_at "lc"
    refine c_lP (ls.filter fun c => decide (c ∉ cutN l (arcS ls l j).2 j)) vc (fun c => if c ≠ d then some (vc c) else none) (SqL.of1 hM') (by have := List.length_filter_le (fun c => decide (c ∉ cutN l (arcS ls l j).2 j)) ls; omega) (fun c H3 hc s3 Yk N y n => ?_) fun D H3 nD s3 hD => ?_
    · tm_at "v"
      refine ⟨rfl, ?_⟩
      tm_at "v"
      refine i_ix1 (by omega) hd ?_
      tm_at "v"
      refine if_ndec (fun z => ?_) (fun z => ?_)
      · tm_at "v"
        exact y _ (if_pos fun q => z (by rw [q])) _ (Same.refl _)
      · exact n (if_neg fun q => q (by injection z)) _ (Same.refl _)
    have e3 : (ls.filter fun c => decide (c ∉ cutN l (arcS ls l j).2 j)).filterMap (fun c => if c ≠ d then some (vc c) else none) = (ls.filter fun c => decide (c ∉ cutN l (arcS ls l j).2 (j + 1))).map vc := by
      rw [fm_if, List.filter_filter]
      congr 1
      apply List.filter_congr
      intro c _
      rw [ec]
      by_cases z1 : c = d <;> by_cases z2 : c ∈ cutN l (arcS ls l j).2 j <;> simp [z1, z2]
    rw [e3] at hD
    have hF3 := s3 _ _ hF'
    tm_at "v"
    intro p4 H4 n4 s4 h4
    refine i_r2LS (ns := (ls.filter fun c => decide (c ∉ cutN l (arcS ls l j).2 (j + 1))).map fun c => [c]) (ms := []) (SqL.of1 (by rw [s4 _ _ hD, vc_vs])) (SqL.of1 h4) (fun w h => ?_) (fun _ z => nomatch z) ?_
    · obtain ⟨c, hc, rfl⟩ := List.mem_map.mp h
      have := lt.2.1 c (List.mem_filter.mp hc).1
      exact Chr.one (by omega)
    have ed : decide ((ls.filter fun c => decide (c ∉ cutN l (arcS ls l j).2 (j + 1))).map (fun c => [c]) = []) = allIn ls (cutN l (arcS ls l j).2 (j + 1)) := by
      rw [allIn_nil]
      congr 1
      rw [List.map_eq_nil_iff]
    rw [ed]
    have hF4 := s4 _ _ hF3
    tm_at "v"
    cases e : allIn ls (cutN l (arcS ls l j).2 (j + 1)) with
    | true =>
      have ea : arcS ls l (j + 1) = ((arcS ls l j).1 ++ [j + 1], j + 1) := by rw [arcS, if_pos e]
      tm_at "v"
      refine i_tBMl (SqL.of1 hF4) ?_
      tm_at "v"
      refine v_app hF4 (lt_line (by simp; omega)) fun H5 b5 h5 => ?_
      tm_at "v"
      refine v_listS (by omega) fun M6 H6 n6 s6 h6 => ?_
      refine ⟨M6, _, _, rfl, (But.new (sm.trans (s3.trans s4)) b5 nF).trans s6, ?_, ?_⟩
      · rw [ea, s6 _ _ h5, List.map_append]; rfl
      · rw [ea, h6, List.filter_eq_self.mpr]
        intro c _
        simp [cutN]
    | false =>
      have ea : arcS ls l (j + 1) = arcS ls l j := by rw [arcS, if_neg (by rw [e]; simp)]
      tm_at "v"
      refine ⟨D, _, _, rfl, sm.trans (s3.trans s4), ?_, ?_⟩
      · rw [ea]; exact hF4
      · rw [ea]; exact s4 _ _ hD
  · rintro σ H' ⟨M, v4, v5, rfl, sm, hF', hM'⟩
    rw [Int.toNat_natCast] at hF'
    tm_at "v"
    exact q F H' nF sm hF'
/-! law_deep_1y(many): slots 0 many, 1 found, 2 k -/
abbrev N_law_deep_1y : List Str := ["many", "found", "k"]
def t_law_deep_1y (K : PySem.W.Frag) : TS :=
  (tSeq (tAsg (tLst tNil) (gName 1)) (tSeq (tFor (iRng1 (tCons (tVar 0) tNil)) (gName 2) (tAsg (tLst (tCons (tVar 1) tNil)) (gName 1))) (tRet (tVar 1))))
-- needs: M_pap
def sp_law_deep_1y (K : PySem.W.Frag) : Sp := fun vs H Q _ => ∃ n : Nat, vs = [.int (n : Nat)] ∧ 1 ≤ n ∧ n ≤ 100000 ∧ ∀ p H' q zs, H p = none → Same H H' → H' p = some (.lst [.ref q]) → H' q = some (.lst zs) → Q (.ref p) H'
theorem i_law_deep_1y {K : PySem.W.Frag} (n : Nat) {x : Int} {H : Hp} {Q : VK} {E : XK} (hx : x = (n : Nat)) (h1 : 1 ≤ n) (hn : n ≤ 100000) (q : ∀ p H' q zs, H p = none → Same H H' → H' p = some (.lst [.ref q]) → H' q = some (.lst zs) → Q (.ref p) H') : sp_law_deep_1y K [.int x] H Q E := by
  subst hx
  exact ⟨n, rfl, h1, hn, q⟩
theorem pure_law_deep_1y {K : PySem.W.Frag} (vs : List V) (H : Hp) (Q : VK) (E : XK) (h : sp_law_deep_1y K vs H Q E) : t_law_deep_1y K { nx := fun _ H' => Q .non H', rt := Q } (start N_law_deep_1y vs) H := by
  obtain ⟨n, rfl, h0, hn, q⟩ := h
  unfold t_law_deep_1y
  tm_at "v"
  intro p1 H1 n1 s1 h1
  tm_at "v"
  tm_at "fo"
  refine f_r ⟨fun i σ H' => ∃ (v1 : Option V) (p : Addr) (xs : List V), σ = [some (.int (n : Nat)), some (.ref p), v1] ∧ H p = none ∧ Same H H' ∧ H' p = some (.lst xs) ∧ (i = 0 ∨ ∃ q zs, xs = [.ref q] ∧ H' q = some (.lst zs)), ⟨none, p1, _, rfl, n1, s1, h1, .inl rfl⟩, ?_, ?_⟩
  · rintro i x σ H2 H3 hi ⟨v1, p, xs, rfl, np, sm, hp, _⟩ ⟨rfl, rfl⟩
    tm_at "v"
    intro p2 H4 n2 s2 h2
    tm_at "v"
    exact ⟨_, p2, _, rfl, sm.free n2, sm.trans s2, h2, .inr ⟨p, xs, rfl, s2 _ _ hp⟩⟩
  · rintro σ H2 ⟨v1, p, xs, rfl, np, sm, hp, hx⟩
    tm_at "v"
    rcases hx with z | ⟨r, zs, rfl, hr⟩
    · omega
    · exact q p H2 r zs np sm hp hr
/-! law_shown_0(row, letters, thing): slots 0 row, 1 letters, 2 thing, 3 begin, 4 end, 5 letter -/
abbrev N_law_shown_0 : List Str := ["row", "letters", "thing", "begin", "end", "letter"]
def t_law_shown_0 (K : PySem.W.Frag) : TS :=
  (tSeq (tIfS (tNot (tB (tCB (Lv.rIs1 K) (tCons (tVar 2) (tCons (tC (.ty "list")) tNil))))) (tRet (tC .non)) tNext) (tSeq (tAsg (tC (.int 0)) (gName 3)) (tSeq (tFor (iList K (tVar 2)) (gName 4) (tSeq (tIfS (tOr (tNot (tB (tCB (Lv.rIs1 K) (tCons (tVar 4) (tCons (tC (.ty "int")) tNil))))) (tOr (tB (tCB (Lv.rIs1 K) (tCons (tVar 4) (tCons (tC (.ty "bool")) tNil)))) (tOr (tTest (tOp Lv.rLt (tVar 4) (tVar 3))) (tTest (tOp Lv.rGt (tVar 4) (tCB Lv.rLenT (tCons (tVar 0) tNil))))))) (tRet (tC .non)) tNext) (tSeq (tIfS (tTest (tOp (Lv.rNeLS K) (tLc (iStr (tVar 1)) (gName 5) (tTest (tOp Lv.rEqI (tBM K "str" Lv.rCount (tSl Lv.rSlS1 (tVar 0) (tPart (tVar 3)) (tPart (tVar 4))) (tCons (tVar 5) tNil)) (tC (.int 0)))) (tVar 5) [5]) (tLst tNil))) (tRet (tC .non)) tNext) (tAsg (tVar 4) (gName 3))))) (tRet (tCB (Lv.rLenL K) (tCons (tVar 2) tNil))))))
-- needs: M_pap
def sp_law_shown_0 (K : PySem.W.Frag) : Sp := fun vs H Q _ => ∃ (l ls : List Nat) (x : V), vs = [.str (S l), .str (S ls), x] ∧ l.length ≤ 1000 ∧ Lets ls ∧ ((∃ (T : Addr) (xs : List V), x = .ref T ∧ H T = some (.lst xs) ∧ (∀ y ∈ xs, ItS K H y) ∧ ∀ H', Same H H' → Q (oI (if papV ls l 0 xs = true then some xs.length else none)) H') ∨ (Kd K H x "list" false ∧ ∀ H', Same H H' → Q .non H'))
theorem allIn_cnt {ls w : List Nat} : decide ((ls.filter fun c => decide (((w.count c : Nat) : Int) = 0)).map (fun c => [c]) = []) = allIn ls w := by
  rw [Bool.eq_iff_iff, decide_eq_true_eq, List.map_eq_nil_iff, List.filter_eq_nil_iff, allIn_iff]
  refine forall_congr' fun c => forall_congr' fun hc => ?_
  rw [decide_eq_true_eq]
  have := List.count_pos_iff (a := c) (l := w)
  constructor
  · intro h; exact this.mp (by omega)
  · intro h; have := this.mpr h; omega
theorem allIn_cut0 {ls l : List Nat} {b : Nat} (lt : Lets ls) : allIn ls (cutN l b b) = false := by
  rw [Bool.eq_false_iff]
  intro z
  rw [allIn_iff] at z
  obtain ⟨c, hc⟩ := List.exists_mem_of_ne_nil _ lt.1
  have := z c hc
  simp [cutN] at this
theorem pure_law_shown_0 {K : PySem.W.Frag} (vs : List V) (H : Hp) (Q : VK) (E : XK) (h : sp_law_shown_0 K vs H Q E) : t_law_shown_0 K { nx := fun _ H' => Q .non H', rt := Q } (start N_law_shown_0 vs) H := by
  obtain ⟨l, ls, x, rfl, hl, lt, h⟩ := h
  have l26 := lt.len
  unfold t_law_shown_0
  tm_at "v"
  rcases h with ⟨T, xs, rfl, hT, hI, q⟩ | ⟨hk, q⟩
  rotate_left
  · refine i_kd hk ?_
    tm_at "v"
    exact q _ (Same.refl _)
  refine i_isi (TyOf.lst hT) (b := true) (by decide +kernel) ?_
  tm_at "v"
  tm_at "fo"
  refine f_l (xs := xs) ⟨fun j σ H' => ∃ (b : Nat) (v4 : Option V), σ = [some (.str (S l)), some (.str (S ls)), some (.ref T), some (.int (b : Nat)), v4, none] ∧ Same H H' ∧ b ≤ l.length ∧ papV ls l 0 xs = papV ls l b (xs.drop j), ⟨0, none, rfl, Same.refl _, by omega, rfl⟩, ?_, ?_, ?_⟩
  · rintro j σ H' _ ⟨b, v4, rfl, sm, _⟩
    exact SqL.of1 (sm _ _ hT)
  · rintro j x σ H0 H' hj ⟨b, v4, rfl, sm, hb, hp⟩ ⟨rfl, hx⟩
    rw [List.getElem?_eq_getElem hj] at hx
    have hx : xs[j] = x := Option.some.inj hx
    subst hx
    have hy := (hI _ (List.getElem_mem hj)).same sm
    rw [List.drop_eq_getElem_cons hj] at hp
    generalize xs[j] = y at *
    have no : papV ls l 0 xs = false → ∀ H2, Same H' H2 → Q .non H2 := fun z H2 s2 => by
      have := q H2 (sm.trans s2)
      rw [z] at this
      exact this
    rcases hy with ⟨e, rfl⟩ | ⟨c, rfl⟩ | ⟨hk, hn⟩
    · rw [papV] at hp
      tm_at "v"
      refine i_isi_int_int ?_
      tm_at "v"
      refine i_isi_int_bool ?_
      tm_at "v"
      by_cases z1 : e < (b : Int)
      · rw [decide_eq_false (show ¬ ((b : Int) < e ∧ e ≤ l.length) by omega), Bool.false_and, Bool.false_and] at hp
        refine if_yes z1 ?_
        tm_at "v"
        exact no hp _ (Same.refl _)
      refine if_no z1 ?_
      tm_at "v"
      by_cases z2 : ((l.length : Nat) : Int) < e
      · rw [decide_eq_false (show ¬ ((b : Int) < e ∧ e ≤ l.length) by omega), Bool.false_and, Bool.false_and] at hp
        refine if_yes z2 ?_
        tm_at "v"
        exact no hp _ (Same.refl _)
      refine if_no z2 ?_
      obtain ⟨e, rfl⟩ := Int.eq_ofNat_of_zero_le (show 0 ≤ e by omega)
      rw [Int.toNat_natCast] at hp
      have tt := And.intro (cutL_length l (some (b : Int)) (some ((e : Nat) : Int))) trivial
      tm_at "v"
      tm_at "lc"
      refine c_sP (fun c => if ((cutN l b e).count c : Int) = 0 then some (vc c) else none) (by omega) (fun c H2 hc sm Yk N y n => ?_) fun D H2 nD s2 hD => ?_
      · tm_at "v"
        refine ⟨rfl, ?_⟩
        tm_at "v"
        rw [cutL_N (show b ≤ e by omega)]
        refine i_count ?_
        tm_at "v"
        refine if_dec (fun z => ?_) (fun z => ?_)
        · tm_at "v"
          exact y _ (if_pos z) _ (Same.refl _)
        · exact n (if_neg z) _ (Same.refl _)
      rw [fm_if (p := fun c => ((cutN l b e).count c : Int) = 0)] at hD
      tm_at "v"
      intro p3 H3 n3 s3 h3
      refine i_r2LS (ns := (ls.filter fun c => decide (((cutN l b e).count c : Int) = 0)).map fun c => [c]) (ms := []) (SqL.of1 (by rw [s3 _ _ hD, vc_vs])) (SqL.of1 h3) (fun x hx => ?_) (fun _ z => nomatch z) ?_
      · obtain ⟨c, hc, rfl⟩ := List.mem_map.mp hx
        exact (Low.one (lt.2.1 c (List.mem_filter.mp hc).1)).chr
      rw [allIn_cnt]
      cases ea : allIn ls (cutN l b e) with
      | true =>
        have hbe : b < e := by
          rcases Nat.lt_or_ge b e with z | z
          · exact z
          · have : e = b := by omega
            subst this
            rw [allIn_cut0 lt] at ea
            cases ea
        rw [ea, decide_eq_true (show ((b : Int) < (e : Nat) ∧ ((e : Nat) : Int) ≤ l.length) by omega), Bool.true_and, Bool.true_and] at hp
        tm_at "v"
        exact ⟨e, _, rfl, sm.trans (s2.trans s3), by omega, hp⟩
      | false =>
        rw [ea, Bool.and_false, Bool.false_and] at hp
        tm_at "v"
        exact no hp _ (s2.trans s3)
    · rw [papV_bl] at hp
      tm_at "v"
      refine i_kd (kd_of (.bl _) (b := true) (by decide +kernel)) ?_
      tm_at "v"
      refine i_isi_bl_bool ?_
      tm_at "v"
      exact no hp _ (Same.refl _)
    · rw [papV_no hn] at hp
      tm_at "v"
      refine i_kd hk ?_
      tm_at "v"
      exact no hp _ (Same.refl _)
  · rintro σ H' ⟨b, v4, rfl, sm, hb, hp⟩
    rw [List.drop_length, papV] at hp
    tm_at "v"
    refine i_lenL (SqL.of1 (sm _ _ hT)) ?_
    have := q H' sm
    rw [hp] at this
    exact this
/-! law_whole_1(thing): slots 0 thing -/
abbrev N_law_whole_1 : List Str := ["thing"]
def t_law_whole_1 (K : PySem.W.Frag) : TS :=
  (tRet (tAndV (tCB (Lv.rIs1 K) (tCons (tVar 0) (tCons (tC (.ty "int")) tNil))) (tNotV (tCB (Lv.rIs1 K) (tCons (tVar 0) (tCons (tC (.ty "bool")) tNil))))))
def sp_law_whole_1 (K : PySem.W.Frag) : Sp := fun vs H Q _ => ∃ (x : V) (T : String) (b1 b2 : Bool), vs = [x] ∧ TyOf K H x (.type T) ∧ kitB T "int" = some b1 ∧ kitB T "bool" = some b2 ∧ Q (.bl (b1 && !b2)) H
theorem i_law_whole_1 {K : PySem.W.Frag} {n : Int} {H : Hp} {Q : VK} {E : XK} (q : Q (.bl true) H) : sp_law_whole_1 K [.int n] H Q E := ⟨.int n, "int", true, false, rfl, .int _, by decide +kernel, by decide +kernel, q⟩
theorem pure_law_whole_1 {K : PySem.W.Frag} (vs : List V) (H : Hp) (Q : VK) (E : XK) (h : sp_law_whole_1 K vs H Q E) : t_law_whole_1 K { nx := fun _ H' => Q .non H', rt := Q } (start N_law_whole_1 vs) H := by
  obtain ⟨x, T, b1, b2, rfl, ty, k1, k2, q⟩ := h
  unfold t_law_whole_1
  tm_at "w"
  refine i_isi ty k1 ?_
  tm_at "w"
  cases b1 with
  | false => exact iteF q
  | true =>
    refine iteT ?_
    tm_at "w"
    refine i_isi ty k2 ?_
    tm_at "w"
    exact q
/-! law_right_8(row, letters, thing): slots 0 row, 1 letters, 2 thing, 3 due, 4 kept, 5 again, 6 found -/
abbrev N_law_right_8 : List Str := ["row", "letters", "thing", "due", "kept", "again", "found"]
def t_law_right_8 (K : PySem.W.Frag) : TS :=
  (tSeq (tAsg (tCall (sp_law_shown_0 K) [] E0 (tCons (tVar 0) (tCons (tVar 1) (tCons (tVar 2) tNil)))) (gName 3)) (tSeq (tAsg (tCB (Lv.rRepr3 K) (tCons (tVar 2) tNil)) (gName 4)) (tSeq (tFor (iRng1 (tCons (tC (.int 2)) tNil)) (gName 5) (tSeq (tAsg (tCall (sp_shows_1y K) [] E0 (tCons (tVar 0) (tCons (tVar 1) (tCons (tVar 2) tNil)))) (gName 6)) (tSeq (tIfS (tOr (tTest (tOp Lv.rNeS (tCB (Lv.rRepr3 K) (tCons (tVar 2) tNil)) (tVar 4))) (tTest (tOp Lv.rNeB (tOp Lv.rIsN (tVar 6) (tC .non)) (tOp Lv.rIsN (tVar 3) (tC .non))))) (tRet (tC (.bl false))) tNext) (tIfS (tAnd (tTest (tOp Lv.rNotN (tVar 3) (tC .non))) (tOr (tNot (tB (tCall (sp_law_whole_1 K) [] E0 (tCons (tVar 6) tNil)))) (tTest (tOp Lv.rNeO (tVar 6) (tVar 3))))) (tRet (tC (.bl false))) tNext)))) (tRet (tC (.bl true))))))
-- needs: M_pap
def sp_law_right_8 (K : PySem.W.Frag) : Sp := fun vs H Q _ => ∃ (l ls : List Nat) (x : V), vs = [.str (S l), .str (S ls), x] ∧ l.length ≤ 1000 ∧ Lets ls ∧ ThS K H x ∧ Shy K H x ∧ ∀ H', Same H H' → Q (.bl true) H'
theorem i_law_right_8 {K : PySem.W.Frag} {l ls : List Nat} {x : V} {H : Hp} {Q : VK} {E : XK} (hl : l.length ≤ 1000) (lt : Lets ls) (hx : ThS K H x) (hs : Shy K H x) (q : ∀ H', Same H H' → Q (.bl true) H') : sp_law_right_8 K [.str (S l), .str (S ls), x] H Q E := ⟨l, ls, x, rfl, hl, lt, hx, hs, q⟩
theorem th_o {K : PySem.W.Frag} {l ls : List Nat} {x : V} {H : Hp} (hl : l.length ≤ 1000) (lt : Lets ls) (hx : ThS K H x) : ∃ o : Option Nat, ∀ H', Same H H' → ∀ (Q : VK) (E : XK), (∀ H2, Same H' H2 → Q (oI o) H2) → sp_shows_1y K [.str (S l), .str (S ls), x] H' Q E ∧ sp_law_shown_0 K [.str (S l), .str (S ls), x] H' Q E := by
  rcases hx with ⟨T, xs, e, h, hy⟩ | h
  · refine ⟨if papV ls l 0 xs = true then some xs.length else none, fun H' s Q E q => ?_⟩
    have a : ∀ y ∈ xs, ItS K H' y := fun y hm => (hy y hm).same s
    exact ⟨⟨l, ls, x, rfl, hl, lt, .inl ⟨T, xs, e, s _ _ h, a, q⟩⟩, ⟨l, ls, x, rfl, hl, lt, .inl ⟨T, xs, e, s _ _ h, a, q⟩⟩⟩
  · exact ⟨none, fun H' s Q E q => ⟨⟨l, ls, x, rfl, hl, lt, .inr ⟨h.same s, q⟩⟩, ⟨l, ls, x, rfl, hl, lt, .inr ⟨h.same s, q⟩⟩⟩⟩
theorem pure_law_right_8 {K : PySem.W.Frag} (vs : List V) (H : Hp) (Q : VK) (E : XK) (h : sp_law_right_8 K vs H Q E) : t_law_right_8 K { nx := fun _ H' => Q .non H', rt := Q } (start N_law_right_8 vs) H := by
  obtain ⟨l, ls, x, rfl, hl, lt, hx, ⟨dt, ry, fm⟩, q⟩ := h
  obtain ⟨o, ho⟩ := th_o hl lt hx
  unfold t_law_right_8
  tm_at "v"
  refine (ho H (Same.refl _) _ _ fun H1 s1 => ?_).2
  tm_at "v"
  refine i_repr3 (ry.same s1) fm ?_
  tm_at "v"
  tm_at "fo"
  refine f_r ⟨fun j σ H' => ∃ (v5 v6 : Option V), σ = [some (.str (S l)), some (.str (S ls)), some x, some (oI o), some (.str (S (shw dt))), v5, v6] ∧ Same H H', ⟨none, none, rfl, s1⟩, ?_, ?_⟩
  · rintro j y σ H0 H' hj ⟨v5, v6, rfl, sm⟩ ⟨rfl, rfl⟩
    tm_at "v"
    refine (ho H' sm _ _ fun H2 s2 => ?_).1
    tm_at "v"
    refine i_repr3 (ry.same (sm.trans s2)) fm ?_
    cases o with
    | none =>
      rw [show oI none = .non from rfl]
      tm_at "v"
      exact ⟨_, _, rfl, sm.trans s2⟩
    | some n =>
      rw [show oI (some n) = .int (n : Nat) from rfl]
      tm_at "v"
      refine i_law_whole_1 ?_
      tm_at "v"
      refine i_r2O (a := some (n : Nat)) (b := some (n : Nat)) ?_
      rw [decide_eq_true rfl]
      tm_at "v"
      exact ⟨_, _, rfl, sm.trans s2⟩
  · rintro σ H' ⟨v5, v6, rfl, sm⟩
    tm_at "v"
    exact q _ sm
/-! law_odd_0(draws, size): slots 0 draws, 1 size, 2 some -/
abbrev N_law_odd_0 : List Str := ["draws", "size", "some"]
def t_law_odd_0 (K : PySem.W.Frag) : TS :=
  (tSeq (tAsg (tLst (tCons (tC (.bl true)) (tCons (tC (.bl false)) (tCons (tC .non) (tCons (tC (.str (S [49]))) (tCons (tC (.str (S []))) (tCons (tLst (tCons (tC (.int 1)) tNil)) (tCons (tTup (tCons (tC (.int 1)) tNil)) (tCons tDNewK (tCons (tUn Lv.rNeg (tC (.int 1))) (tCons (tC (.int 0)) (tCons (tVar 1) (tCons (tOp Lv.rAdd (tVar 1) (tC (.int 1))) (tCons (tOp Lv.rPow (tC (.int 10)) (tC (.int 60))) tNil)))))))))))))) (gName 2)) (tRet (tOp (rIxL K) (tVar 2) (tCall (sp_law_take_0 K) [] E0 (tCons (tVar 0) (tCons (tC (.int 13)) tNil))))))
-- needs: M_pap
def sp_law_odd_0 (K : PySem.W.Frag) : Sp := fun vs H Q _ => ∃ (d : Addr) (n : Nat), vs = [.ref d, .int (n : Nat)] ∧ Dr H d ∧ n ≤ 1000 ∧ ∀ y H', ItV (10 ^ 60) d H' y → Dr H' d → But d H H' → Q y H'
theorem i_law_odd_0 {K : PySem.W.Frag} {d : Addr} {n : Nat} {H : Hp} {Q : VK} {E : XK} (hd : Dr H d) (hn : n ≤ 1000) (q : ∀ y H', ItV (10 ^ 60) d H' y → Dr H' d → But d H H' → Q y H') : sp_law_odd_0 K [.ref d, .int (n : Nat)] H Q E := ⟨d, n, rfl, hd, hn, q⟩
theorem pure_law_odd_0 {K : PySem.W.Frag} (vs : List V) (H : Hp) (Q : VK) (E : XK) (h : sp_law_odd_0 K vs H Q E) : t_law_odd_0 K { nx := fun _ H' => Q .non H', rt := Q } (start N_law_odd_0 vs) H := by
  obtain ⟨d, n, rfl, hd, hn, q⟩ := h
  unfold t_law_odd_0
  tm_at "v"
  intro p1 H1 n1 s1 h1
  tm_at "v"
  intro p2 H2 n2 s2 h2
  tm_at "v"
  intro p3 H3 n3 s3 h3
  tm_at "v"
  intro p4 H4 n4 s4 h4
  have d1 : p1 ≠ d := (hd.ne n1).symm
  have S3 := s1.trans (s2.trans s3)
  have S4 := S3.trans s4
  have hd4 := Dr.same S4 hd
  have d4 : p4 ≠ d := ((Dr.same S3 hd).ne n4).symm
  tm_at "v"
  refine i_law_take_0 hd4 (by decide) fun r H5 g5 hd5 b5 => ?_
  have k5 := keep_but hd4 b5
  have h45 := b5 _ _ d4 h4
  have a1 : ItV (10 ^ 60) d H5 (.ref p1) := .lst (ns := [1]) d1 (b5 _ _ d1 ((s2.trans (s3.trans s4)) _ _ h1)) (by decide) (by decide)
  have a2 : ItV (10 ^ 60) d H5 (.ref p2) := ItV.keep (.tup (ns := [1]) ((s3.trans s4) _ _ h2) (by decide) (by decide)) k5
  have a3 : ItV (10 ^ 60) d H5 (.ref p3) := ItV.keep (.dic (s4 _ _ h3)) k5
  generalize hz : (10 : Int) ^ (Int.toNat 60) = z at *
  have all : ∀ y ∈ [V.bl true, .bl false, .non, .str (S [49]), .str (S []), .ref p1, .ref p2, .ref p3, .int (-1), .int 0, .int (n : Nat), .int ((n : Nat) + 1), .int z], ItV (10 ^ 60) d H5 y := by
    intro y hy
    simp only [List.mem_cons, List.not_mem_nil, or_false] at hy
    rcases hy with rfl | rfl | rfl | rfl | rfl | rfl | rfl | rfl | rfl | rfl | rfl | rfl | rfl
    · exact .bl
    · exact .bl
    · exact .non
    · exact .str (Chr.one (by decide)) (by decide)
    · exact .str (fun _ z => nomatch z) (by decide)
    · exact a1
    · exact a2
    · exact a3
    · exact .int (by decide)
    · exact .int (by decide)
    · exact .int (by omega)
    · exact .int (by omega)
    · exact .int (by rw [← hz]; decide)
  generalize hxs : [V.bl true, .bl false, .non, .str (S [49]), .str (S []), .ref p1, .ref p2, .ref p3, .int (-1), .int 0, .int (n : Nat), .int ((n : Nat) + 1), .int z] = xs at *
  have hr : r < xs.length := by rw [← hxs]; simp; omega
  refine i_ixL (v := xs[r]) (SqL.of1 h45) (atI_nat (j := r) (List.getElem?_eq_getElem hr)) ?_
  exact q _ _ (all _ (List.getElem_mem hr)) hd5 (S4.but.trans b5)
/-! law_spoilt_1(draws, some, size): slots 0 draws, 1 some, 2 size, 3 at, 4 one, 5 way -/
abbrev N_law_spoilt_1 : List Str := ["draws", "some", "size", "at", "one", "way"]
def t_law_spoilt_1 (K : PySem.W.Frag) : TS :=
  (tSeq (tAsg (tOp Lv.rMod (tCall (sp_law_take_0 K) [] E0 (tCons (tVar 0) (tCons (tC (.int 1000)) tNil))) (tOp Lv.rAdd (tCB (Lv.rLenL K) (tCons (tVar 1) tNil)) (tC (.int 1)))) (gName 3)) (tSeq (tAsg (tOp (rIxL K) (tOp L2.rCat (tVar 1) (tLst (tCons (tVar 2) tNil))) (tVar 3)) (gName 4)) (tSeq (tAsg (tCall (sp_law_take_0 K) [] E0 (tCons (tVar 0) (tCons (tC (.int 8)) tNil))) (gName 5)) (tSeq (tIfS (tTest (tOp Lv.rEqI (tVar 5) (tC (.int 0)))) (tRet (tOp L2.rCat (tSl (rSlL K) (tVar 1) tNoPart (tPart (tVar 3))) (tSl (rSlL K) (tVar 1) (tPart (tOp Lv.rAdd (tVar 3) (tC (.int 1)))) tNoPart))) tNext) (tSeq (tIfS (tTest (tOp Lv.rEqI (tVar 5) (tC (.int 1)))) (tRet (tOp L2.rCat (tOp L2.rCat (tSl (rSlL K) (tVar 1) tNoPart (tPart (tVar 3))) (tLst (tCons (tVar 4) tNil))) (tSl (rSlL K) (tVar 1) (tPart (tVar 3)) tNoPart))) tNext) (tSeq (tIfS (tTest (tOp Lv.rEqI (tVar 5) (tC (.int 2)))) (tRet (tOp L2.rCat (tOp L2.rCat (tSl (rSlL K) (tVar 1) tNoPart (tPart (tVar 3))) (tRevL K (tSl (rSlL K) (tVar 1) (tPart (tVar 3)) (tPart (tOp Lv.rAdd (tVar 3) (tC (.int 2))))))) (tSl (rSlL K) (tVar 1) (tPart (tOp Lv.rAdd (tVar 3) (tC (.int 2)))) tNoPart))) tNext) (tSeq (tIfS (tAnd (tTest (tOp Lv.rLt (tVar 5) (tC (.int 5)))) (tB (tCB (Lv.rIs1 K) (tCons (tVar 4) (tCons (tC (.ty "int")) tNil))))) (tRet (tOp L2.rCat (tOp L2.rCat (tSl (rSlL K) (tVar 1) tNoPart (tPart (tVar 3))) (tLst (tCons (tOp Lv.rAddBI (tVar 4) (tOp (rIxL K) (tLst (tCons (tC (.int 1)) (tCons (tUn Lv.rNeg (tC (.int 1))) (tCons (tC (.int 2)) (tCons (tUn Lv.rNeg (tC (.int 2))) tNil))))) (tCall (sp_law_take_0 K) [] E0 (tCons (tVar 0) (tCons (tC (.int 4)) tNil))))) tNil))) (tSl (rSlL K) (tVar 1) (tPart (tOp Lv.rAdd (tVar 3) (tC (.int 1)))) tNoPart))) tNext) (tSeq (tIfS (tTest (tOp Lv.rEqI (tVar 5) (tC (.int 5)))) (tRet (tOp L2.rCat (tOp L2.rCat (tSl (rSlL K) (tVar 1) tNoPart (tPart (tVar 3))) (tLst (tCons (tCall (sp_law_take_0 K) [] E0 (tCons (tVar 0) (tCons (tOp Lv.rAdd (tVar 2) (tC (.int 2))) tNil))) tNil))) (tSl (rSlL K) (tVar 1) (tPart (tOp Lv.rAdd (tVar 3) (tCall (sp_law_take_0 K) [] E0 (tCons (tVar 0) (tCons (tC (.int 2)) tNil))))) tNoPart))) tNext) (tSeq (tIfS (tAnd (tTest (tOp Lv.rEqI (tVar 5) (tC (.int 6)))) (tTest (tOp (Lv.rEqA K) (tVar 4) (tC (.int 1))))) (tRet (tOp L2.rCat (tOp L2.rCat (tSl (rSlL K) (tVar 1) tNoPart (tPart (tVar 3))) (tLst (tCons (tC (.bl true)) tNil))) (tSl (rSlL K) (tVar 1) (tPart (tOp Lv.rAdd (tVar 3) (tC (.int 1)))) tNoPart))) tNext) (tRet (tOp L2.rCat (tOp L2.rCat (tSl (rSlL K) (tVar 1) tNoPart (tPart (tVar 3))) (tLst (tCons (tCall (sp_law_odd_0 K) [] E0 (tCons (tVar 0) (tCons (tVar 2) tNil))) tNil))) (tSl (rSlL K) (tVar 1) (tPart (tOp Lv.rAdd (tVar 3) (tCall (sp_law_take_0 K) [] E0 (tCons (tVar 0) (tCons (tC (.int 2)) tNil))))) tNoPart))))))))))))
-- needs: M_pap
local macro_rules | `(tactic| tm_at "u") => `(tactic| (repeat ((fail_if_success (with_reducible refine Lv.isIf ?_)); (tm_at "t"))))
def sp_law_spoilt_1 (K : PySem.W.Frag) : Sp := fun vs H Q _ => ∃ (d T : Addr) (n B : Nat) (xs : List V), vs = [.ref d, .ref T, .int (n : Nat)] ∧ Dr H d ∧ T ≠ d ∧ H T = some (.lst xs) ∧ xs.length ≤ 83 ∧ (∀ x ∈ xs, ItV B d H x) ∧ n ≤ 100 ∧ 10 ^ 60 ≤ B ∧ ∀ p ys H', H p = none → p ≠ d → H' p = some (.lst ys) → ys.length ≤ xs.length + 1 → (∀ y ∈ ys, ItV (B + 2) d H' y) → Dr H' d → But d H H' → Q (.ref p) H'
theorem i_law_spoilt_1 {K : PySem.W.Frag} {d T : Addr} {n : Nat} (B : Nat) {xs : List V} {H : Hp} {Q : VK} {E : XK} (hd : Dr H d) (ne : T ≠ d) (hT : H T = some (.lst xs)) (hl : xs.length ≤ 83) (hx : ∀ x ∈ xs, ItV B d H x) (hn : n ≤ 100) (hB : 10 ^ 60 ≤ B)
  (q : ∀ p ys H', H p = none → p ≠ d → H' p = some (.lst ys) → ys.length ≤ xs.length + 1 → (∀ y ∈ ys, ItV (B + 2) d H' y) → Dr H' d → But d H H' → Q (.ref p) H') : sp_law_spoilt_1 K [.ref d, .ref T, .int (n : Nat)] H Q E := ⟨d, T, n, B, xs, rfl, hd, ne, hT, hl, hx, hn, hB, q⟩
theorem ItV.isint {K : PySem.W.Frag} {B : Nat} {d : Addr} {H : Hp} {x : V} (h : ItV B d H x) : ∃ b, Kd K H x "int" b ∧ (b = true → (∃ n, x = .int n ∧ n.natAbs ≤ B) ∨ ∃ c, x = .bl c) := by
  cases h with
  | int h => exact ⟨true, kd_of (.int _) (by decide +kernel), fun _ => .inl ⟨_, rfl, h⟩⟩
  | bl => exact ⟨true, kd_of (.bl _) (by decide +kernel), fun _ => .inr ⟨_, rfl⟩⟩
  | non => exact ⟨false, kd_of .non (by decide +kernel), fun z => by cases z⟩
  | str h hl => exact ⟨false, kd_of (.str _) (by decide +kernel), fun z => by cases z⟩
  | lst ne h hl hn => exact ⟨false, kd_of (.lst h) (by decide +kernel), fun z => by cases z⟩
  | tup h hl hn => exact ⟨false, kd_of (.tup h) (by decide +kernel), fun z => by cases z⟩
  | dic h => exact ⟨false, kd_of (.dK h) (by decide +kernel), fun z => by cases z⟩
theorem b2i_le (c : Bool) : (b2i c).natAbs ≤ 1 := by cases c <;> decide
theorem keep_trans {d : Addr} {H H1 H2 : Hp} (a : ∀ p o, H p = some o → (p ≠ d ∨ ∀ xs, o ≠ .lst xs) → H1 p = some o) (b : ∀ p o, H1 p = some o → (p ≠ d ∨ ∀ xs, o ≠ .lst xs) → H2 p = some o) : ∀ p o, H p = some o → (p ≠ d ∨ ∀ xs, o ≠ .lst xs) → H2 p = some o := fun p o h z => b p o (a p o h z) z
theorem pure_law_spoilt_1 {K : PySem.W.Frag} (vs : List V) (H : Hp) (Q : VK) (E : XK) (h : sp_law_spoilt_1 K vs H Q E) : t_law_spoilt_1 K { nx := fun _ H' => Q .non H', rt := Q } (start N_law_spoilt_1 vs) H := by
  obtain ⟨d, T, n, B, xs, rfl, hd, ne, hT, hl, hx, hn, hB, q⟩ := h
  unfold t_law_spoilt_1
  tm_at "u"
  refine i_law_take_0 hd (by decide) fun r0 H1 g0 hd1 b1 => ?_
  have hT1 := b1 _ _ ne hT
  have k1 := keep_but hd b1
  tm_at "u"
  refine i_lenL (SqL.of1 hT1) ?_
  tm_at "u"
  obtain ⟨at_, eat⟩ := Int.eq_ofNat_of_zero_le (Int.emod_nonneg (r0 : Int) (show ((xs.length : Nat) : Int) + 1 ≠ 0 by omega))
  have atl : (at_ : Int) < ((xs.length : Nat) : Int) + 1 := by rw [← eat]; exact Int.emod_lt_of_pos _ (by omega)
  rw [eat]
  have atl : at_ ≤ xs.length := by omega
  have e1 : cutV xs none (some (at_ : Int)) = xs.take at_ := cutL_to xs at_
  have e2 : cutV xs (some ((at_ : Int) + 1)) none = xs.drop (at_ + 1) := cutL_from1 xs at_
  have e3 : cutV xs (some (at_ : Int)) none = xs.drop at_ := cutL_from xs at_
  have e4 : cutV xs (some (at_ : Int)) (some ((at_ : Int) + 2)) = (xs.drop at_).take 2 := cutL_mid xs at_ 2
  have e5 : cutV xs (some ((at_ : Int) + 2)) none = xs.drop (at_ + 2) := by
    have := cutL_from xs (at_ + 2)
    rw [show ((at_ + 2 : Nat) : Int) = (at_ : Int) + 2 by omega] at this
    exact this
  have e6 : ∀ r : Nat, cutV xs (some ((at_ : Int) + (r : Int))) none = xs.drop (at_ + r) := fun r => by
    have := cutL_from xs (at_ + r)
    rw [show ((at_ + r : Nat) : Int) = (at_ : Int) + (r : Int) by omega] at this
    exact this
  tm_at "u"
  intro q1 K1 m1 u1 w1
  refine v_cat (u1 _ _ hT1) w1 (le_line (by simp; omega)) fun q2 K2 m2 u2 w2 => ?_
  tm_at "u"
  obtain ⟨y, hy⟩ : ∃ y, (xs ++ [V.int (n : Nat)])[at_]? = some y := ⟨_, List.getElem?_eq_getElem (by simp; omega)⟩
  have hone : ItV B d H y := by
    rcases List.mem_append.mp (List.mem_of_getElem? hy) with z | z
    · exact hx y z
    · rw [List.mem_singleton.mp z]; exact .int (by omega)
  refine i_ixL (SqL.of1 w2) (atI_nat (j := at_) hy) ?_
  have U2 := u1.trans u2
  have hd2 := Dr.same U2 hd1
  tm_at "u"
  refine i_law_take_0 hd2 (by decide) fun way H3 g3 hd3 b3 => ?_
  have hT3 := b3 _ _ ne (U2 _ _ hT1)
  have B3 : But d H H3 := b1.trans (U2.but.trans b3)
  have k3 : ∀ p o, H p = some o → (p ≠ d ∨ ∀ xs, o ≠ .lst xs) → H3 p = some o := keep_but hd B3
  have hx3 : ∀ x ∈ xs, ItV B d H3 x := fun x hm => (hx x hm).keep k3
  have hone3 := hone.keep k3
  have S3 : SqL K H3 T xs := SqL.of1 hT3
  have fresh : ∀ {H' : Hp} {p : Addr}, But d H3 H' → Dr H' d → H' p = none → H p = none ∧ p ≠ d := fun {H' p} b hd' np => by
    have pd : p ≠ d := (hd'.ne np).symm
    refine ⟨?_, pd⟩
    cases e : H p with
    | none => rfl
    | some o => rw [(B3.trans b) _ _ pd e] at np; cases np
  have fin : ∀ {p : Addr} {ys : List V} {H4 H' : Hp}, But d H3 H4 → Dr H4 d → H4 p = none → Same H4 H' → H' p = some (.lst ys) → ys.length ≤ xs.length + 1 → (∀ y ∈ ys, y ∈ xs ∨ ItV (B + 2) d H' y) → Q (.ref p) H' := fun {p ys H4 H'} b4 hd4 np s hp hl hy => by
    obtain ⟨np0, pd⟩ := fresh b4 hd4 np
    have b := b4.trans s.but
    exact q p ys H' np0 pd hp hl (fun y hm => (hy y hm).elim (fun z => ((hx3 y z).keep (keep_but hd3 b)).mono (by omega)) id) (Dr.same s hd4) (B3.trans b)
  clear q
  tm_at "u"
  refine if_P (fun _ => True) (fun R k => by tm_at "v"; exact k _ trivial) (fun _ => ?_) (fun _ => ?_)
  · tm_at "v"
    refine v_slL S3 fun p4 H4 n4 s4 h4 => ?_
    rw [e1] at h4
    tm_at "v"
    refine v_slL (SqL.of1 (s4 _ _ hT3)) fun p5 H5 n5 s5 h5 => ?_
    rw [e2] at h5
    refine v_cat (s5 _ _ h4) h5 (le_line (by simp; omega)) fun p6 H6 n6 s6 h6 => ?_
    refine fin (s4.trans s5).but (Dr.same (s4.trans s5) hd3) n6 s6 h6 (by simp; omega) fun y hm => .inl ?_
    rcases List.mem_append.mp hm with z | z
    · exact List.mem_of_mem_take z
    · exact List.mem_of_mem_drop z
  tm_at "u"
  refine if_P (fun _ => True) (fun R k => by tm_at "v"; exact k _ trivial) (fun _ => ?_) (fun _ => ?_)
  · tm_at "v"
    refine v_slL S3 fun p4 H4 n4 s4 h4 => ?_
    rw [e1] at h4
    tm_at "v"
    intro p5 H5 n5 s5 h5
    refine v_cat (s5 _ _ h4) h5 (le_line (by simp; omega)) fun p6 H6 n6 s6 h6 => ?_
    tm_at "v"
    refine v_slL (SqL.of1 ((s4.trans (s5.trans s6)) _ _ hT3)) fun p7 H7 n7 s7 h7 => ?_
    rw [e3] at h7
    refine v_cat (s7 _ _ h6) h7 (le_line (by simp; omega)) fun p8 H8 n8 s8 h8 => ?_
    have S7 := s4.trans (s5.trans (s6.trans s7))
    refine fin S7.but (Dr.same S7 hd3) n8 s8 h8 (by simp; omega) fun z hm => ?_
    rcases List.mem_append.mp hm with hm | hm
    · rcases List.mem_append.mp hm with hm | hm
      · exact .inl (List.mem_of_mem_take hm)
      · rw [List.mem_singleton.mp hm]
        exact .inr ((hone3.keep (keep_same (S7.trans s8))).mono (by omega))
    · exact .inl (List.mem_of_mem_drop hm)
  tm_at "u"
  refine if_P (fun _ => True) (fun R k => by tm_at "v"; exact k _ trivial) (fun _ => ?_) (fun _ => ?_)
  · tm_at "v"
    refine v_slL S3 fun p4 H4 n4 s4 h4 => ?_
    rw [e1] at h4
    tm_at "v"
    refine v_slL (SqL.of1 (s4 _ _ hT3)) fun p5 H5 n5 s5 h5 => ?_
    rw [e4] at h5
    refine v_revK (SqL.of1 h5) fun p5 H6 n6 s6 h6 => ?_
    refine v_cat ((s5.trans s6) _ _ h4) h6 (le_line (by simp; omega)) fun p7 H7 n7 s7 h7 => ?_
    have S7 := s4.trans (s5.trans (s6.trans s7))
    tm_at "v"
    refine v_slL (SqL.of1 (S7 _ _ hT3)) fun p8 H8 n8 s8 h8 => ?_
    rw [e5] at h8
    refine v_cat (s8 _ _ h7) h8 (le_line (by simp; omega)) fun p9 H9 n9 s9 h9 => ?_
    refine fin (S7.trans s8).but (Dr.same (S7.trans s8) hd3) n9 s9 h9 (by simp; omega) fun z hm => .inl ?_
    rcases List.mem_append.mp hm with hm | hm
    · rcases List.mem_append.mp hm with hm | hm
      · exact List.mem_of_mem_take hm
      · exact List.mem_of_mem_drop (List.mem_of_mem_take (List.mem_reverse.mp hm))
    · exact List.mem_of_mem_drop hm
  obtain ⟨bi, kdi, hbi⟩ := ItV.isint (K := K) hone3
  tm_at "u"
  refine if_P (fun b => b = true → bi = true) (fun R k => ?_) (fun z => ?_) (fun _ => ?_)
  · tm_at "v"
    refine if_dec (fun z => ?_) (fun z => ?_)
    · tm_at "v"
      refine i_kd kdi ?_
      tm_at "v"
      exact k _ id
    · exact k _ fun z => by cases z
  · tm_at "v"
    refine v_slL S3 fun p4 H4 n4 s4 h4 => ?_
    rw [e1] at h4
    tm_at "v"
    intro p5 H5 n5 s5 h5
    have hd5 := Dr.same (s4.trans s5) hd3
    have d4 : p4 ≠ d := (hd3.ne n4).symm
    have d5 : p5 ≠ d := ((Dr.same s4 hd3).ne n5).symm
    tm_at "v"
    refine i_law_take_0 hd5 (by decide) fun r6 H6 g6 hd6 b6 => ?_
    refine i_pickI (ns := [1, -1, 2, -2]) (-2) 2 (SqL.of1 (b6 _ _ d5 h5)) (by omega) (by simpa using g6) (by decide) fun m m1 m2 => ?_
    have c6 : But d H3 H6 := (s4.trans s5).but.trans b6
    refine ⟨m, rfl, ?_⟩
    rcases hbi (z rfl) with ⟨i, rfl, hi⟩ | ⟨c, rfl⟩
    · refine .inl ⟨i, rfl, ?_⟩
      tm_at "v"
      intro p7 H7 n7 s7 h7
      refine v_cat (s7 _ _ (b6 _ _ d4 (s5 _ _ h4))) h7 (le_line (by simp; omega)) fun p8 H8 n8 s8 h8 => ?_
      tm_at "v"
      refine v_slL (SqL.of1 ((s7.trans s8) _ _ (c6 _ _ ne hT3))) fun p9 H9 n9 s9 h9 => ?_
      rw [e2] at h9
      refine v_cat (s9 _ _ h8) h9 (le_line (by simp; omega)) fun p10 H10 n10 s10 h10 => ?_
      have S9 := s7.trans (s8.trans s9)
      refine fin (c6.trans S9.but) (Dr.same S9 hd6) n10 s10 h10 (by simp; omega) fun z hm => ?_
      rcases List.mem_append.mp hm with hm | hm
      · rcases List.mem_append.mp hm with hm | hm
        · exact .inl (List.mem_of_mem_take hm)
        · rw [List.mem_singleton.mp hm]
          exact .inr (.int (by omega))
      · exact .inl (List.mem_of_mem_drop hm)
    · refine .inr ⟨c, rfl, ?_⟩
      have hc := b2i_le c
      tm_at "v"
      intro p7 H7 n7 s7 h7
      refine v_cat (s7 _ _ (b6 _ _ d4 (s5 _ _ h4))) h7 (le_line (by simp; omega)) fun p8 H8 n8 s8 h8 => ?_
      tm_at "v"
      refine v_slL (SqL.of1 ((s7.trans s8) _ _ (c6 _ _ ne hT3))) fun p9 H9 n9 s9 h9 => ?_
      rw [e2] at h9
      refine v_cat (s9 _ _ h8) h9 (le_line (by simp; omega)) fun p10 H10 n10 s10 h10 => ?_
      have S9 := s7.trans (s8.trans s9)
      refine fin (c6.trans S9.but) (Dr.same S9 hd6) n10 s10 h10 (by simp; omega) fun z hm => ?_
      rcases List.mem_append.mp hm with hm | hm
      · rcases List.mem_append.mp hm with hm | hm
        · exact .inl (List.mem_of_mem_take hm)
        · rw [List.mem_singleton.mp hm]
          exact .inr (.int (by omega))
      · exact .inl (List.mem_of_mem_drop hm)
  tm_at "u"
  refine if_P (fun _ => True) (fun R k => by tm_at "v"; exact k _ trivial) (fun _ => ?_) (fun _ => ?_)
  · tm_at "v"
    refine v_slL S3 fun p4 H4 n4 s4 h4 => ?_
    rw [e1] at h4
    have d4 : p4 ≠ d := (hd3.ne n4).symm
    tm_at "v"
    refine i_law_take_0 (Dr.same s4 hd3) (by omega) fun r5 H5 g5 hd5 b5 => ?_
    tm_at "v"
    intro p6 H6 n6 s6 h6
    refine v_cat (s6 _ _ (b5 _ _ d4 h4)) h6 (le_line (by simp; omega)) fun p7 H7 n7 s7 h7 => ?_
    have d7 : p7 ≠ d := ((Dr.same s6 hd5).ne n7).symm
    have hd7 := Dr.same (s6.trans s7) hd5
    tm_at "v"
    refine i_law_take_0 hd7 (by decide) fun r8 H8 g8 hd8 b8 => ?_
    tm_at "v"
    have c8 : But d H3 H8 := s4.but.trans (b5.trans ((s6.trans s7).but.trans b8))
    refine v_slL (SqL.of1 (c8 _ _ ne hT3)) fun p9 H9 n9 s9 h9 => ?_
    rw [e6] at h9
    refine v_cat (s9 _ _ (b8 _ _ d7 h7)) h9 (le_line (by simp; omega)) fun p10 H10 n10 s10 h10 => ?_
    refine fin (c8.trans s9.but) (Dr.same s9 hd8) n10 s10 h10 (by simp; omega) fun z hm => ?_
    rcases List.mem_append.mp hm with hm | hm
    · rcases List.mem_append.mp hm with hm | hm
      · exact .inl (List.mem_of_mem_take hm)
      · rw [List.mem_singleton.mp hm]
        exact .inr (.int (by omega))
    · exact .inl (List.mem_of_mem_drop hm)
  tm_at "u"
  refine if_P (fun _ => True) (fun R k => ?_) (fun _ => ?_) (fun _ => ?_)
  · tm_at "v"
    refine if_dec (fun z => ?_) (fun z => ?_)
    · tm_at "v"
      refine ⟨hone3.eqb, 1, rfl, fun b => ?_⟩
      tm_at "v"
      exact k _ trivial
    · exact k _ trivial
  · tm_at "v"
    refine v_slL S3 fun p4 H4 n4 s4 h4 => ?_
    rw [e1] at h4
    tm_at "v"
    intro p5 H5 n5 s5 h5
    refine v_cat (s5 _ _ h4) h5 (le_line (by simp; omega)) fun p6 H6 n6 s6 h6 => ?_
    tm_at "v"
    refine v_slL (SqL.of1 ((s4.trans (s5.trans s6)) _ _ hT3)) fun p7 H7 n7 s7 h7 => ?_
    rw [e2] at h7
    refine v_cat (s7 _ _ h6) h7 (le_line (by simp; omega)) fun p8 H8 n8 s8 h8 => ?_
    have S7 := s4.trans (s5.trans (s6.trans s7))
    refine fin S7.but (Dr.same S7 hd3) n8 s8 h8 (by simp; omega) fun z hm => ?_
    rcases List.mem_append.mp hm with hm | hm
    · rcases List.mem_append.mp hm with hm | hm
      · exact .inl (List.mem_of_mem_take hm)
      · rw [List.mem_singleton.mp hm]
        exact .inr .bl
    · exact .inl (List.mem_of_mem_drop hm)
  tm_at "v"
  refine v_slL S3 fun p4 H4 n4 s4 h4 => ?_
  rw [e1] at h4
  have d4 : p4 ≠ d := (hd3.ne n4).symm
  tm_at "v"
  refine i_law_odd_0 (Dr.same s4 hd3) (by omega) fun z H5 hz hd5 b5 => ?_
  tm_at "v"
  intro p6 H6 n6 s6 h6
  refine v_cat (s6 _ _ (b5 _ _ d4 h4)) h6 (le_line (by simp; omega)) fun p7 H7 n7 s7 h7 => ?_
  have d7 : p7 ≠ d := ((Dr.same s6 hd5).ne n7).symm
  have hd7 := Dr.same (s6.trans s7) hd5
  tm_at "v"
  refine i_law_take_0 hd7 (by decide) fun r8 H8 g8 hd8 b8 => ?_
  tm_at "v"
  have c8 : But d H3 H8 := s4.but.trans (b5.trans ((s6.trans s7).but.trans b8))
  refine v_slL (SqL.of1 (c8 _ _ ne hT3)) fun p9 H9 n9 s9 h9 => ?_
  rw [e6] at h9
  refine v_cat (s9 _ _ (b8 _ _ d7 h7)) h9 (le_line (by simp; omega)) fun p10 H10 n10 s10 h10 => ?_
  refine fin (c8.trans s9.but) (Dr.same s9 hd8) n10 s10 h10 (by simp; omega) fun y hm => ?_
  rcases List.mem_append.mp hm with hm | hm
  · rcases List.mem_append.mp hm with hm | hm
    · exact .inl (List.mem_of_mem_take hm)
    · rw [List.mem_singleton.mp hm]
      refine .inr (ItV.keep ?_ (keep_but hd5 ((s6.trans s7).but.trans (b8.trans (s9.trans s10).but))))
      exact hz.mono (by omega)
  · exact .inl (List.mem_of_mem_drop hm)
/-! law_loose_0(draws, row, letters): slots 0 draws, 1 row, 2 letters, 3 found, 4 begin, 5 end, 6 missing, 7 letter -/
abbrev N_law_loose_0 : List Str := ["draws", "row", "letters", "found", "begin", "end", "missing", "letter"]
def t_law_loose_0 (K : PySem.W.Frag) : TS :=
  (tSeq (tAsg (tLst tNil) (gName 3)) (tSeq (tAsg (tC (.int 0)) (gName 4)) (tSeq (tFor (iRng2 (tCons (tC (.int 1)) (tCons (tOp Lv.rAdd (tCB Lv.rLenT (tCons (tVar 1) tNil)) (tC (.int 1))) tNil))) (gName 5) (tSeq (tAsg (tLc (iStr (tVar 2)) (gName 7) (tTest (tOp (Lv.rIn1 true) (tVar 7) (tSl Lv.rSlS1 (tVar 1) (tPart (tVar 4)) (tPart (tVar 5))))) (tVar 7) [7]) (gName 6)) (tIfS (tAnd (tTest (tOp (Lv.rEqLS K) (tVar 6) (tLst tNil))) (tTest (tOp Lv.rNeI (tCall (sp_law_take_0 K) [] E0 (tCons (tVar 0) (tCons (tC (.int 3)) tNil))) (tC (.int 1))))) (tSeq (tDrop (tBM K "list" rAppend (tVar 3) (tCons (tVar 5) tNil))) (tAsg (tVar 5) (gName 4))) tNext))) (tRet (tVar 3)))))
-- needs: Lv29 M_short Q_law_arches_0
def sp_law_loose_0 (K : PySem.W.Frag) : Sp := fun vs H Q _ => ∃ (d : Addr) (l ls : List Nat), vs = [.ref d, .str (S l), .str (S ls)] ∧ Dr H d ∧ l.length ≤ 100 ∧ Lets ls ∧ ∀ p (es : List Nat) H', H p = none → p ≠ d → H' p = some (.lst (es.map iv)) → pap ls l 0 es = true → es.length ≤ 100 → Dr H' d → But d H H' → Q (.ref p) H'
theorem i_law_loose_0 {K : PySem.W.Frag} {d : Addr} {l ls : List Nat} {H : Hp} {Q : VK} {E : XK} (hd : Dr H d) (hl : l.length ≤ 100) (lt : Lets ls) (q : ∀ p (es : List Nat) H', H p = none → p ≠ d → H' p = some (.lst (es.map iv)) → pap ls l 0 es = true → es.length ≤ 100 → Dr H' d → But d H H' → Q (.ref p) H') : sp_law_loose_0 K [.ref d, .str (S l), .str (S ls)] H Q E := ⟨d, l, ls, rfl, hd, hl, lt, q⟩
theorem _root_.Lv.Dr.but1 {H H' : Hp} {d a : Addr} (h : Dr H d) (b : But a H H') (n : d ≠ a) : Dr H' d := by
  obtain ⟨ns, h1, h2⟩ := h
  exact ⟨ns, b _ _ n h1, h2⟩
theorem pure_law_loose_0 {K : PySem.W.Frag} (vs : List V) (H : Hp) (Q : VK) (E : XK) (h : sp_law_loose_0 K vs H Q E) : t_law_loose_0 K { nx := fun _ H' => Q .non H', rt := Q } (start N_law_loose_0 vs) H := by
  obtain ⟨d, l, ls, rfl, hd, hl, lt, q⟩ := h
  have l26 := lt.len
  unfold t_law_loose_0
  tm_at "v"
  intro F H1 nF s1 hF
  have Fd : F ≠ d := (hd.ne nF).symm
  tm_at "v"
  tm_at "fo"
  refine f_r ⟨fun j σ H' => ∃ (es : List Nat) (b : Nat) (v5 v6 : Option V), σ = [some (.ref d), some (.str (S l)), some (.str (S ls)), some (.ref F), some (.int (b : Nat)), v5, v6, none] ∧ H' F = some (.lst (es.map iv)) ∧ pap ls l 0 es = true ∧ (0 :: es).getLastD 0 = b ∧ b ≤ j ∧ es.length ≤ j ∧ Dr H' d ∧ But d H H', ⟨[], 0, none, none, rfl, hF, rfl, rfl, Nat.le_refl _, Nat.le_refl _, Dr.same s1 hd, s1.but⟩, ?_, ?_⟩
  · rintro j x σ H0 H' hj ⟨es, b, v5, v6, rfl, hF', hp, hb, hbj, hej, hd', b'⟩ ⟨rfl, rfl⟩
    have hj2 : j < l.length := by omega
    rw [show (1 : Int) + (j : Int) = ((j + 1 : Nat) : Int) by omega]
    have ec : cutL l (some (b : Int)) (some ((j + 1 : Nat) : Int)) = cutN l b (j + 1) := cutL_N (by omega)
    have tt := And.intro (cutL_length l (some (b : Int)) (some ((j + 1 : Nat) : Int))) trivial
    tm_at "v"
    tm_at "lc"
    refine c_sP (fun c => if c ∉ cutN l b (j + 1) then some (vc c) else none) (by omega) (fun c H2 hc sm Yk N y n => ?_) fun D H2 nD s2 hD => ?_
    · tm_at "v"
      refine ⟨rfl, ?_⟩
      tm_at "v"
      rw [ec]
      refine if_ndec (fun z => ?_) (fun z => ?_)
      · tm_at "v"
        exact y _ (if_pos z) _ (Same.refl _)
      · exact n (if_neg (fun y => y z)) _ (Same.refl _)
    rw [fm_if (p := fun c => c ∉ cutN l b (j + 1))] at hD
    have fl : (ls.filter fun c => decide (c ∉ cutN l b (j + 1))).length ≤ 26 := Nat.le_trans (List.length_filter_le _ _) l26
    have chr : ∀ x ∈ (ls.filter fun c => decide (c ∉ cutN l b (j + 1))).map (fun c => [c]), Chr x := fun x hx => by
      obtain ⟨c, hc, rfl⟩ := List.mem_map.mp hx
      exact (Low.one (lt.2.1 c (List.mem_filter.mp hc).1)).chr
    tm_at "v"
    intro p3 H3 n3 s3 h3
    refine i_r2LS (ns := (ls.filter fun c => decide (c ∉ cutN l b (j + 1))).map fun c => [c]) (ms := []) (SqL.of1 (by rw [s3 _ _ hD, vc_vs])) (SqL.of1 h3) chr (fun _ z => nomatch z) ?_
    have S3 := s2.trans s3
    have hF3 := S3 _ _ hF'
    tm_at "v"
    refine if_dec (fun z => ?_) (fun z => ?_)
    · have al : allIn ls (cutN l b (j + 1)) = true := by
        rw [allIn_nil, decide_eq_true_eq]
        simpa using z
      tm_at "v"
      refine i_law_take_0 (Dr.same S3 hd') (by omega) fun r4 H4 g4 hd4 b4 => ?_
      have hF4 := b4 _ _ Fd hF3
      have B4 : But d H H4 := b'.trans (S3.but.trans b4)
      tm_at "v"
      refine if_ndec (fun y => ?_) (fun y => ?_)
      · tm_at "v"
        refine i_tBMl (SqL.of1 hF4) ?_
        tm_at "v"
        refine v_app hF4 (lt_line (by rw [List.length_map]; omega)) fun H5 b5 h5 => ?_
        tm_at "v"
        refine ⟨es ++ [j + 1], j + 1, _, _, rfl, by rw [h5, List.map_append]; rfl, ?_, by rw [show (0 :: (es ++ [j + 1])) = (0 :: es) ++ [j + 1] from rfl, List.getLastD_eq_getLast?, List.getLast?_concat]; rfl, Nat.le_refl _, by simp; omega, hd4.but1 b5 Fd.symm, ?_⟩
        · rw [pap_snoc, hp, hb, al, decide_eq_true (by omega)]; rfl
        · exact fun a o na ha => b5 _ _ (fun z => by subst z; rw [nF] at ha; cases ha) (B4 _ _ na ha)
      · tm_at "v"
        exact ⟨es, b, _, _, rfl, hF4, hp, hb, by omega, by omega, hd4, B4⟩
    · tm_at "v"
      exact ⟨es, b, _, _, rfl, hF3, hp, hb, by omega, by omega, Dr.same S3 hd', b'.trans S3.but⟩
  · rintro σ H' ⟨es, b, v5, v6, rfl, hF', hp, hb, hbj, hej, hd', b'⟩
    tm_at "v"
    exact q F es H' nF Fd hF' hp (by omega) hd' b'
/-! law_things_0(draws, row, letters): slots 0 draws, 1 row, 2 letters, 3 least, 4 size, 5 loose, 6 bent, 7 found -/
abbrev N_law_things_0 : List Str := ["draws", "row", "letters", "least", "size", "loose", "bent", "found"]
def t_law_things_0 (K : PySem.W.Frag) : TS :=
  (tSeq (tAsg (tCall (sp_law_arches_0 K) [] E0 (tCons (tVar 1) (tCons (tVar 2) tNil))) (gName 3)) (tSeq (tAsg (tCB Lv.rLenT (tCons (tVar 1) tNil)) (gName 4)) (tSeq (tAsg (tCall (sp_law_loose_0 K) [] E0 (tCons (tVar 0) (tCons (tVar 1) (tCons (tVar 2) tNil)))) (gName 5)) (tSeq (tAsg (tCall (sp_law_spoilt_1 K) [] E0 (tCons (tVar 0) (tCons (tVar 3) (tCons (tVar 4) tNil)))) (gName 6)) (tSeq (tAsg (tLst (tCons (tVar 3) (tCons (tVar 5) (tCons (tSl (rSlL K) (tVar 3) tNoPart (tPart (tUn Lv.rNeg (tC (.int 1))))) (tCons (tSl (rSlL K) (tVar 3) (tPart (tC (.int 1))) tNoPart) (tCons (tLst tNil) (tCons (tOp L2.rCat (tSl (rSlL K) (tVar 3) tNoPart (tPart (tUn Lv.rNeg (tC (.int 1))))) (tLst (tCons (tVar 4) tNil))) (tCons (tOp L2.rCat (tVar 3) (tLst (tCons (tVar 4) tNil))) (tCons (tLst (tCons (tVar 4) tNil)) (tCons (tLst (tCons (tC (.int 0)) tNil)) (tCons (tLst (tCons (tC (.int 1)) tNil)) (tCons (tLst (tCons (tC (.bl true)) tNil)) tNil)))))))))))) (gName 7)) (tSeq (tAsg (tOp L2.rCat (tVar 7) (tLst (tCons (tVar 6) (tCons (tCall (sp_law_spoilt_1 K) [] E0 (tCons (tVar 0) (tCons (tVar 6) (tCons (tVar 4) tNil)))) (tCons (tCall (sp_law_spoilt_1 K) [] E0 (tCons (tVar 0) (tCons (tVar 5) (tCons (tVar 4) tNil)))) tNil))))) (gName 7)) (tSeq (tDrop (tBM K "list" rAppend (tVar 7) (tCons (tCall (sp_law_spoilt_1 K) [] E0 (tCons (tVar 0) (tCons (tVar 3) (tCons (tVar 4) tNil)))) tNil))) (tSeq (tAsg (tOp L2.rCat (tVar 7) (tLst (tCons (tLstRg (tRg2 (tC (.int 1)) (tOp Lv.rAdd (tVar 4) (tC (.int 1))))) (tCons (tCB (Lv.rTupL K) (tCons (tVar 3) tNil)) (tCons (tLst (tCons (tVar 3) tNil)) (tCons (tRevL K (tVar 3)) (tCons (tCB (Lv.rStrL K) (tCons (tVar 3) tNil)) (tCons (Lv.tDictEn K (tVar 3)) tNil)))))))) (gName 7)) (tRet (tOp L2.rCat (tVar 7) (tLst (tCons (tC .non) (tCons (tC (.int 0)) (tCons (tC (.bl true)) (tCons (tC (.str (S []))) (tCons (tTup tNil) (tCons tDNewK (tCons (tCB (Lv.rLenL K) (tCons (tVar 3) tNil)) (tCons (tLst (tCons (tC .non) tNil)) (tCons (tLst (tCons (tLst tNil) tNil)) (tCons (tLst (tCons (tC (.str (S [49]))) tNil)) (tCons (tLst (tCons (tUn Lv.rNeg (tC (.int 1))) tNil)) (tCons (tLst (tCons (tOp Lv.rAdd (tVar 4) (tC (.int 1))) tNil)) (tCons (tLst (tCons (tOp Lv.rPow (tC (.int 10)) (tC (.int 60))) tNil)) tNil))))))))))))))))))))))))
-- needs: M_pap M_shown
theorem i_rg2 {ta tb : TE} {σ : L2.St} {H : Hp} {R : Int → Int → Hp → Prop} (h : ta σ H fun x H1 => tb σ H1 fun y H2 => ∃ i j, x = .int i ∧ y = .int j ∧ R i j H2) : tRg2 ta tb σ H R := h
theorem i_tDictEn {K : PySem.W.Frag} {te : TE} {σ : L2.St} {H : Hp} {Q : VK} (h : te σ H fun v H1 => rDictEn K v H1 Q) : tDictEn K te σ H Q := h
theorem pap_cnt {ls l : List Nat} : ∀ (es : List Nat) (b : Nat), pap ls l b es = true → b ≤ l.length → b + es.length ≤ l.length ∧ ∀ e ∈ es, e ≤ l.length
  | [], b, _, hb => ⟨hb, fun _ z => nomatch z⟩
  | e :: es, b, h, hb => by
    rw [pap, Bool.and_eq_true, Bool.and_eq_true] at h
    obtain ⟨h1, _, h3⟩ := h
    have h1 := of_decide_eq_true h1
    obtain ⟨g1, g2⟩ := pap_cnt es e h3 h1.2
    refine ⟨by rw [List.length_cons]; omega, fun x hx => ?_⟩
    rcases List.mem_cons.mp hx with rfl | hx
    · exact h1.2
    · exact g2 x hx
def sp_law_things_0 (K : PySem.W.Frag) : Sp := fun vs H Q _ => ∃ (d : Addr) (l ls : List Nat), vs = [.ref d, .str (S l), .str (S ls)] ∧ Dr H d ∧ l.length ≤ 80 ∧ Lets ls ∧ ∀ p xs H', p ≠ d → H' p = some (.lst xs) → xs.length ≤ 100 → (∀ x ∈ xs, ThV (10 ^ 60 + 4) d H' x) → Dr H' d → But d H H' → Q (.ref p) H'
theorem i_law_things_0 {K : PySem.W.Frag} {d : Addr} {l ls : List Nat} {H : Hp} {Q : VK} {E : XK} (hd : Dr H d) (hl : l.length ≤ 80) (lt : Lets ls) (q : ∀ p xs H', p ≠ d → H' p = some (.lst xs) → xs.length ≤ 100 → (∀ x ∈ xs, ThV (10 ^ 60 + 4) d H' x) → Dr H' d → But d H H' → Q (.ref p) H') : sp_law_things_0 K [.ref d, .str (S l), .str (S ls)] H Q E := ⟨d, l, ls, rfl, hd, hl, lt, q⟩
theorem ItV.butR {B : Nat} {d p q : Addr} {H H' : Hp} {x : V} {xs : List V} (h : ItV B d H x) (hp : H p = some (.lst xs)) (hq : V.ref q ∈ xs) (b : But p H H') : ItV B d H' x := by
  cases h with
  | int h => exact .int h
  | bl => exact .bl
  | non => exact .non
  | str h hl => exact .str h hl
  | @lst a ns ne h hl hn =>
    refine .lst ne (b _ _ (fun z => ?_) h) hl hn
    rw [z, hp] at h
    have e := HO.lst.inj (Option.some.inj h)
    rw [e] at hq
    obtain ⟨n, _, e2⟩ := List.mem_map.mp hq
    cases e2
  | tup h hl hn => exact .tup (b _ _ (fun z => by rw [z, hp] at h; cases h) h) hl hn
  | dic h => exact .dic (b _ _ (fun z => by rw [z, hp] at h; cases h) h)
theorem ThV.same {B : Nat} {d : Addr} {H H' : Hp} {x : V} (h : ThV B d H x) (s : Same H H') : ThV B d H' x := h.keep (keep_same s)
theorem pure_law_things_0 {K : PySem.W.Frag} (vs : List V) (H : Hp) (Q : VK) (E : XK) (h : sp_law_things_0 K vs H Q E) : t_law_things_0 K { nx := fun _ H' => Q .non H', rt := Q } (start N_law_things_0 vs) H := by
  obtain ⟨d, l, ls, rfl, hd, hl, lt, q⟩ := h
  have hB0 : 10 ^ 60 ≤ 10 ^ 60 := Nat.le_refl _
  obtain ⟨ac, ae⟩ := pap_cnt (arcs ls l) 0 (pap_arcs ls l) (by omega)
  rw [Nat.zero_add] at ac
  unfold t_law_things_0
  tm_at "v"
  refine i_law_arches_0 (by omega) lt fun A H1 nA s1 hA => ?_
  generalize hes : arcs ls l = as at *
  have Ad : A ≠ d := (hd.ne nA).symm
  have hd1 := Dr.same s1 hd
  tm_at "v"
  refine i_law_loose_0 hd1 (by omega) lt fun L bs H2 nL Ld hL hp _ hd2 b2 => ?_
  obtain ⟨bc, be⟩ := pap_cnt bs 0 hp (by omega)
  rw [Nat.zero_add] at bc
  have hA2 := b2 _ _ Ad hA
  have itn : ∀ (B : Nat) (H' : Hp) (es : List Nat), 1000 ≤ B → (∀ e ∈ es, e ≤ l.length) → ∀ x ∈ es.map iv, ItV B d H' x := fun B H' es hB he x hx => by
    obtain ⟨e, hm, rfl⟩ := List.mem_map.mp hx
    have := he e hm
    exact .of_nat (by omega)
  generalize hB1 : 10 ^ 60 = B1 at *
  have hB2 : 1000 ≤ B1 := by rw [← hB1]; decide
  tm_at "v"
  refine i_law_spoilt_1 B1 hd2 Ad hA2 (by rw [List.length_map]; omega) (itn _ _ _ hB2 ae) (by omega) (by omega) fun Bn ys H3 nB Bd hB ly iy hd3 b3 => ?_
  rw [List.length_map] at ly
  have hA3 := b3 _ _ Ad hA2
  have hL3 := b3 _ _ Ld hL
  have lA : (as.map iv).length ≤ 80 := by rw [List.length_map]; omega
  have lL : (bs.map iv).length ≤ 80 := by rw [List.length_map]; omega
  have iA : ∀ (B : Nat) (H' : Hp), 1000 ≤ B → ∀ x ∈ as.map iv, ItV B d H' x := fun B H' h => itn B H' as h ae
  have iL : ∀ (B : Nat) (H' : Hp), 1000 ≤ B → ∀ x ∈ bs.map iv, ItV B d H' x := fun B H' h => itn B H' bs h be
  have cl : ∀ lo hi, (cutV (as.map iv) lo hi).length ≤ 80 := fun lo hi => Nat.le_trans (cutL_length (as.map iv) lo hi) lA
  have cm : ∀ lo hi x, x ∈ cutV (as.map iv) lo hi → x ∈ as.map iv := fun lo hi x hx => by
    have hx : x ∈ cutL (as.map iv) lo hi := hx
    unfold cutL at hx
    exact List.mem_of_mem_drop (List.mem_of_mem_take hx)
  -- the first eleven
  tm_at "v"
  refine v_slL (SqL.of1 hA3) fun p4 H4 n4 s4 h4 => ?_
  have d4 : p4 ≠ d := (hd3.ne n4).symm
  have S4 := s4
  tm_at "v"
  refine v_slL (SqL.of1 (S4 _ _ hA3)) fun p5 H5 n5 s5 h5 => ?_
  have d5 : p5 ≠ d := ((Dr.same S4 hd3).ne n5).symm
  have S5 := S4.trans s5
  tm_at "v"
  intro p6 H6 n6 s6 h6
  have d6 : p6 ≠ d := ((Dr.same S5 hd3).ne n6).symm
  have S6 := S5.trans s6
  tm_at "v"
  refine v_slL (SqL.of1 (S6 _ _ hA3)) fun p7 H7 n7 s7 h7 => ?_
  have S7 := S6.trans s7
  tm_at "v"
  intro p8 H8 n8 s8 h8
  have S8 := S7.trans s8
  have c7 := cl none (some (-1))
  refine v_cat (s8 _ _ h7) h8 (le_line (by simp; omega)) fun p9 H9 n9 s9 h9 => ?_
  have d9 : p9 ≠ d := ((Dr.same S8 hd3).ne n9).symm
  have S9 := S8.trans s9
  tm_at "v"
  intro p10 H10 n10 s10 h10
  have S10 := S9.trans s10
  refine v_cat (S10 _ _ hA3) h10 (le_line (by simp; omega)) fun p11 H11 n11 s11 h11 => ?_
  have d11 : p11 ≠ d := ((Dr.same S10 hd3).ne n11).symm
  have S11 := S10.trans s11
  tm_at "v"
  intro p12 H12 n12 s12 h12
  have d12 : p12 ≠ d := ((Dr.same S11 hd3).ne n12).symm
  have S12 := S11.trans s12
  tm_at "v"
  intro p13 H13 n13 s13 h13
  have d13 : p13 ≠ d := ((Dr.same S12 hd3).ne n13).symm
  have S13 := S12.trans s13
  tm_at "v"
  intro p14 H14 n14 s14 h14
  have d14 : p14 ≠ d := ((Dr.same S13 hd3).ne n14).symm
  have S14 := S13.trans s14
  tm_at "v"
  intro p15 H15 n15 s15 h15
  have d15 : p15 ≠ d := ((Dr.same S14 hd3).ne n15).symm
  have S15 := S14.trans s15
  tm_at "v"
  intro p16 H16 n16 s16 h16
  have d16 : p16 ≠ d := ((Dr.same S15 hd3).ne n16).symm
  have S16 := S15.trans s16
  have w14 := s15.trans s16
  have w13 := s14.trans w14
  have w12 := s13.trans w13
  have w11 := s12.trans w12
  have w9 := s10.trans (s11.trans w11)
  have w6 := s7.trans (s8.trans (s9.trans w9))
  have w5 := s6.trans w6
  have w4 := s5.trans w5
  have one : ∀ (H' : Hp) (n : Nat), n ≤ 1000 → ∀ x ∈ [V.int (n : Nat)], ItV (B1 + 4) d H' x := fun H' n hn x hx => by
    rw [List.mem_singleton.mp hx]
    exact .of_nat (by omega)
  have all16 : ∀ x ∈ [V.ref A, V.ref L, V.ref p4, V.ref p5, V.ref p6, V.ref p9, V.ref p11, V.ref p12, V.ref p13, V.ref p14, V.ref p15], ThV (B1 + 4) d H16 x := by
    intro x hx
    simp only [List.mem_cons, List.not_mem_nil, or_false] at hx
    rcases hx with e | e | e | e | e | e | e | e | e | e | e <;> rw [e]
    · exact .lst Ad (S16 _ _ hA3) (by omega) (iA _ _ (by omega))
    · exact .lst Ld (S16 _ _ hL3) (by omega) (iL _ _ (by omega))
    · exact .lst d4 (w4 _ _ h4) (by have := cl none (some (-1)); omega) fun x hx => iA _ _ (by omega) x (cm _ _ x hx)
    · exact .lst d5 (w5 _ _ h5) (by have := cl (some 1) none; omega) fun x hx => iA _ _ (by omega) x (cm _ _ x hx)
    · exact .lst d6 (w6 _ _ h6) (by simp) fun x hx => by cases hx
    · refine .lst d9 (w9 _ _ h9) (by simp; omega) fun x hx => ?_
      rcases List.mem_append.mp hx with z | z
      · exact iA _ _ (by omega) x (cm _ _ x z)
      · exact one _ _ (by omega) x z
    · refine .lst d11 (w11 _ _ h11) (by simp; omega) fun x hx => ?_
      rcases List.mem_append.mp hx with z | z
      · exact iA _ _ (by omega) x z
      · exact one _ _ (by omega) x z
    · exact .lst d12 (w12 _ _ h12) (by simp) (one _ _ (by omega))
    · exact .lst d13 (w13 _ _ h13) (by simp) (one _ 0 (by omega))
    · exact .lst d14 (w14 _ _ h14) (by simp) (one _ 1 (by omega))
    · exact .lst d15 (s16 _ _ h15) (by simp) fun x hx => by rw [List.mem_singleton.mp hx]; exact .bl
  have hA16 := S16 _ _ hA3
  have hL16 := S16 _ _ hL3
  have hB16 := S16 _ _ hB
  have hd16 := Dr.same S16 hd3
  have B16 : But d H H16 := (s1.but.trans (b2.trans b3)).trans S16.but
  have iy16 : ∀ y ∈ ys, ItV (B1 + 2) d H16 y := fun y hy => (iy y hy).keep (keep_same S16)
  clear w14 w13 w12 w11 w9 w6 w5 w4 s4 s5 s6 s7 s8 s9 s10 s11 s12 s13 s14 s15 s16 S4 S5 S6 S7 S8 S9 S10 S11 S12 S13 S14 S15 h4 h5 h6 h7 h8 h9 h10 h11 h12 h13 h14 h15 n4 n5 n6 n7 n8 n9 n10 n11 n12 n13 n14 n15 n16 d4 d5 d6 d9 d11 d12 d13 d14 d15
  generalize hx16 : [V.ref A, V.ref L, V.ref p4, V.ref p5, V.ref p6, V.ref p9, V.ref p11, V.ref p12, V.ref p13, V.ref p14, V.ref p15] = x16 at *
  have l16 : x16.length = 11 := by rw [← hx16]; rfl
  clear hx16
  -- the spoilt ones
  tm_at "v"
  refine i_law_spoilt_1 (B1 + 2) hd16 Bd hB16 (by omega) iy16 (by omega) (by omega) fun C cs H17 nC Cd hC lc ic hd17 b17 => ?_
  have hL17 := b17 _ _ Ld hL16
  tm_at "v"
  refine i_law_spoilt_1 B1 hd17 Ld hL17 (by omega) (iL _ _ hB2) (by omega) (by omega) fun D es H18 nD Dd hD ld id18 hd18 b18 => ?_
  tm_at "v"
  intro p19 H19 n19 s19 h19
  have c18 := b17.trans b18
  have c19 : But d H16 H19 := c18.trans s19.but
  refine v_cat (c19 _ _ d16 h16) h19 (le_line (by simp; omega)) fun p20 H20 n20 s20 h20 => ?_
  have hd19 := Dr.same s19 hd18
  have d20 : p20 ≠ d := (hd19.ne n20).symm
  have all19 : ∀ x ∈ x16 ++ [V.ref Bn, V.ref C, V.ref D], ThV (B1 + 4) d H19 x := by
    intro x hx
    rcases List.mem_append.mp hx with z | z
    · exact (all16 x z).keep (keep_but hd16 c19)
    simp only [List.mem_cons, List.not_mem_nil, or_false] at z
    rcases z with e | e | e <;> rw [e]
    · exact .lst Bd (c19 _ _ Bd hB16) (by omega) fun y hy => ((iy16 y hy).keep (keep_but hd16 c19)).mono (by omega)
    · exact .lst Cd ((b18.trans s19.but) _ _ Cd hC) (by omega) fun y hy => ((ic y hy).keep (keep_but hd17 (b18.trans s19.but)))
    · exact .lst Dd (s19 _ _ hD) (by omega) fun y hy => ((id18 y hy).keep (keep_same s19)).mono (by omega)
  have hd20 := Dr.same s20 hd19
  have B20 : But d H H20 := B16.trans (c19.trans s20.but)
  have hA19 := c19 _ _ Ad hA16
  have hA20 := s20 _ _ hA19
  have rm : V.ref Bn ∈ x16 ++ [V.ref Bn, V.ref C, V.ref D] := by simp
  generalize hx20 : x16 ++ [V.ref Bn, V.ref C, V.ref D] = x20 at *
  have l20 : x20.length = 14 := by rw [← hx20]; simp [l16]
  clear hx20
  tm_at "v"
  refine i_tBMl (SqL.of1 h20) ?_
  tm_at "v"
  refine i_law_spoilt_1 B1 hd20 Ad hA20 (by omega) (iA _ _ hB2) (by omega) (by omega) fun F fs H21 nF Fd hF lf i_f hd21 b21 => ?_
  tm_at "v"
  have h21 := b21 _ _ d20 h20
  refine v_app h21 (lt_line (by omega)) fun H22 b22 h22 => ?_
  have Fp : F ≠ p20 := fun z => by rw [z, h20] at nF; cases nF
  have hd22 : Dr H22 d := by
    obtain ⟨ns, e1, e2⟩ := hd21
    exact ⟨ns, b22 _ _ (Ne.symm d20) e1, e2⟩
  have k22 : ∀ a o, H19 a = some o → (a ≠ d ∨ ∀ xs, o ≠ .lst xs) → H22 a = some o := fun a o e z => by
    have na : a ≠ p20 := fun y => by rw [y, n20] at e; cases e
    exact b22 _ _ na (keep_but hd20 b21 a o (s20 _ _ e) z)
  have hF22 := b22 _ _ Fp hF
  have all22 : ∀ x ∈ x20 ++ [V.ref F], ThV (B1 + 4) d H22 x := by
    intro x hx
    rcases List.mem_append.mp hx with z | z
    · exact (all19 x z).keep k22
    · rw [List.mem_singleton.mp z]
      exact .lst Fd hF22 (by omega) fun y hy => ((i_f y hy).butR h21 rm b22).mono (by omega)
  have hA22 := k22 _ _ hA19 (.inl Ad)
  have B22 : But d H H22 := fun a o na e => by
    have np : a ≠ p20 := fun y => by
      have := (B16.trans c19) _ _ na e
      rw [y, n20] at this
      cases this
    exact b22 _ _ np ((B20.trans b21) _ _ na e)
  generalize hx22 : x20 ++ [V.ref F] = x22 at *
  have l22 : x22.length = 15 := by rw [← hx22]; simp [l20]
  clear hx22 all19 all16 rm
  -- six more
  tm_at "v"
  refine i_rg2 ?_
  tm_at "v"
  refine ⟨_, _, rfl, rfl, RgOk.of_le (by omega) (by omega) (by omega) (by omega), fun p23 n23 => ?_⟩
  have s23 := same_new (o := .lst (rgV 1 ((l.length : Nat) + 1 : Int))) n23
  have h23 : upd H22 p23 (.lst (rgV 1 ((l.length : Nat) + 1 : Int))) p23 = some (.lst (rgV 1 ((l.length : Nat) + 1 : Int))) := upd_same
  generalize upd H22 p23 (.lst (rgV 1 ((l.length : Nat) + 1 : Int))) = H23 at *
  have d23 : p23 ≠ d := (hd22.ne n23).symm
  have S23 := s23
  tm_at "v"
  refine v_tupL (SqL.of1 (S23 _ _ hA22)) fun p24 H24 n24 s24 h24 => ?_
  have S24 := S23.trans s24
  tm_at "v"
  intro p25 H25 n25 s25 h25
  have d25 : p25 ≠ d := ((Dr.same S24 hd22).ne n25).symm
  have S25 := S24.trans s25
  tm_at "v"
  refine v_revK (SqL.of1 (S25 _ _ hA22)) fun p26 H26 n26 s26 h26 => ?_
  have d26 : p26 ≠ d := ((Dr.same S25 hd22).ne n26).symm
  have S26 := S25.trans s26
  tm_at "v"
  have hA26 := S26 _ _ hA22
  have ei : as.map iv = (as.map fun n : Nat => (n : Int)).map V.int := ivs as
  have ib : ∀ n ∈ as.map (fun n : Nat => (n : Int)), n.natAbs ≤ 80 := fun n hn => by
    obtain ⟨m, hm, rfl⟩ := List.mem_map.mp hn
    have := ae m hm
    omega
  refine ⟨A, as.map fun n : Nat => (n : Int), rfl, by rw [← ei]; exact SqL.of1 hA26, by rw [List.length_map]; omega, fun n hn => log1000 (Nat.le_trans (ib n hn) (by decide)), ?_⟩
  have ls5 := len_nats (ns := as) fun n hn => by have := ae n hn; omega
  have lch := chr_ints (as.map fun n : Nat => (n : Int))
  rw [show dNats as = dInts (as.map fun n : Nat => (n : Int)) from rfl] at ls5
  generalize shw (dInts (as.map fun n : Nat => (n : Int))) = tx at *
  tm_at "v"
  refine i_tDictEn ?_
  tm_at "v"
  refine i_dictEn (SqL.of1 hA26) fun p27 H27 n27 s27 h27 => ?_
  have S27 := S26.trans s27
  obtain ⟨ks, ek, lk, hk⟩ := enK_ints (as.map fun n : Nat => (n : Int))
  rw [ei, ek] at h27
  tm_at "v"
  intro p28 H28 n28 s28 h28
  have S28 := S27.trans s28
  refine v_cat (S28 _ _ h22) h28 (le_line (by simp; omega)) fun p29 H29 n29 s29 h29 => ?_
  have S29 := S28.trans s29
  have w27 := s28.trans s29
  have w26 := s27.trans w27
  have w25 := s26.trans w26
  have w24 := s25.trans w25
  have w23 := s24.trans w24
  have h24' := w24 _ _ h24
  rw [ei] at h24'
  have tA : ItV (B1 + 4) d H29 (.ref A) := .lst (ns := as.map fun n : Nat => (n : Int)) Ad (by rw [← ei]; exact S29 _ _ hA22) (by rw [List.length_map]; omega) fun n hn => Nat.le_trans (ib n hn) (by decide)
  have all29 : ∀ x ∈ x22 ++ [V.ref p23, V.ref p24, V.ref p25, V.ref p26, V.str (S tx), V.ref p27], ThV (B1 + 4) d H29 x := by
    intro x hx
    rcases List.mem_append.mp hx with z | z
    · exact (all22 x z).same S29
    simp only [List.mem_cons, List.not_mem_nil, or_false] at z
    rcases z with e | e | e | e | e | e <;> rw [e]
    · refine .lst d23 (w23 _ _ h23) (by unfold rgV; rw [List.length_map, List.length_range]; omega) fun x hx => ?_
      obtain ⟨i, hi, rfl⟩ := List.mem_map.mp hx
      have := List.mem_range.mp hi
      exact .int (by omega)
    · exact .it (.tup (ns := as.map fun n : Nat => (n : Int)) h24' (by rw [List.length_map]; omega) fun n hn => Nat.le_trans (ib n hn) (by decide))
    · exact .lst d25 (w25 _ _ h25) (by simp) fun x hx => by rw [List.mem_singleton.mp hx]; exact tA
    · exact .lst d26 (w26 _ _ h26) (by rw [List.length_reverse]; omega) fun x hx => iA _ _ (by omega) x (List.mem_reverse.mp hx)
    · exact .str lch (by omega)
    · refine .dic (w27 _ _ h27) (by rw [lk, List.length_map]; omega) fun p hp => ?_
      obtain ⟨⟨i, e1, e2⟩, e3⟩ := hk p hp
      rw [List.length_map] at e2
      exact ⟨⟨i, e1, by omega⟩, Nat.le_trans (ib _ e3) (by decide)⟩
  have hA29 := S29 _ _ hA22
  have hd29 := Dr.same S29 hd22
  have B29 : But d H H29 := B22.trans S29.but
  generalize hx29 : x22 ++ [V.ref p23, V.ref p24, V.ref p25, V.ref p26, V.str (S tx), V.ref p27] = x29 at *
  have l29 : x29.length = 21 := by rw [← hx29]; simp [l22]
  clear hx29 all22 s23 s24 s25 s26 s27 s28 s29 S23 S24 S25 S26 S27 S28 w23 w24 w25 w26 w27
  -- the last ones
  tm_at "v"
  intro p30 H30 n30 s30 h30
  have S30 := s30
  tm_at "v"
  intro p31 H31 n31 s31 h31
  have S31 := S30.trans s31
  tm_at "v"
  refine i_lenL (SqL.of1 (S31 _ _ hA29)) ?_
  rw [List.length_map]
  tm_at "v"
  intro p32 H32 n32 s32 h32
  have d32 : p32 ≠ d := ((Dr.same S31 hd29).ne n32).symm
  have S32 := S31.trans s32
  tm_at "v"
  intro p33 H33 n33 s33 h33
  have d33 : p33 ≠ d := ((Dr.same S32 hd29).ne n33).symm
  have S33 := S32.trans s33
  tm_at "v"
  intro p34 H34 n34 s34 h34
  have d34 : p34 ≠ d := ((Dr.same S33 hd29).ne n34).symm
  have S34 := S33.trans s34
  tm_at "v"
  intro p35 H35 n35 s35 h35
  have d35 : p35 ≠ d := ((Dr.same S34 hd29).ne n35).symm
  have S35 := S34.trans s35
  tm_at "v"
  intro p36 H36 n36 s36 h36
  have d36 : p36 ≠ d := ((Dr.same S35 hd29).ne n36).symm
  have S36 := S35.trans s36
  tm_at "v"
  intro p37 H37 n37 s37 h37
  have d37 : p37 ≠ d := ((Dr.same S36 hd29).ne n37).symm
  have S37 := S36.trans s37
  tm_at "v"
  generalize hzz : (10 : Int) ^ (Int.toNat 60) = zz at *
  have zb : zz.natAbs ≤ B1 + 4 := by
    have : zz.natAbs = B1 := by rw [← hzz, ← hB1]; decide
    omega
  intro p38 H38 n38 s38 h38
  have d38 : p38 ≠ d := ((Dr.same S37 hd29).ne n38).symm
  have S38 := S37.trans s38
  tm_at "v"
  intro p39 H39 n39 s39 h39
  have S39 := S38.trans s39
  refine v_cat (S39 _ _ h29) h39 (le_line (by simp; omega)) fun p40 H40 n40 s40 h40 => ?_
  have S40 := S39.trans s40
  have w38 := s39.trans s40
  have w37 := s38.trans w38
  have w36 := s37.trans w37
  have w35 := s36.trans w36
  have w34 := s35.trans w35
  have w33 := s34.trans w34
  have w32 := s33.trans w33
  have w31 := s32.trans w32
  have w30 := s31.trans w31
  refine q p40 _ H40 ((Dr.same S39 hd29).ne n40).symm h40 (by simp; omega) (fun x hx => ?_) (Dr.same S40 hd29) (B29.trans S40.but)
  rcases List.mem_append.mp hx with z | z
  · exact (all29 x z).same S40
  simp only [List.mem_cons, List.not_mem_nil, or_false] at z
  rcases z with e | e | e | e | e | e | e | e | e | e | e | e | e <;> rw [e]
  · exact .it .non
  · exact .it (.int (by simp))
  · exact .it .bl
  · exact .it (.str (fun _ z => nomatch z) (by decide))
  · exact .it (.tup (ns := []) (w30 _ _ h30) (by decide) fun _ z => nomatch z)
  · exact .it (.dic (w31 _ _ h31))
  · exact .it (.of_nat (by omega))
  · exact .lst d32 (w32 _ _ h32) (by simp) fun x hx => by rw [List.mem_singleton.mp hx]; exact .non
  · exact .lst d34 (w34 _ _ h34) (by simp) fun x hx => by rw [List.mem_singleton.mp hx]; exact .lst (ns := []) d33 (w33 _ _ h33) (by decide) fun _ z => nomatch z
  · exact .lst d35 (w35 _ _ h35) (by simp) fun x hx => by rw [List.mem_singleton.mp hx]; exact .str (Chr.one (by decide)) (by decide)
  · exact .lst d36 (w36 _ _ h36) (by simp) fun x hx => by rw [List.mem_singleton.mp hx]; exact .int (by omega)
  · exact .lst d37 (w37 _ _ h37) (by simp) fun x hx => by rw [List.mem_singleton.mp hx]; exact .int (by omega)
  · exact .lst d38 (w38 _ _ h38) (by simp) fun x hx => by rw [List.mem_singleton.mp hx]; exact .int zb
/-! law_k39(script): slots 0 script, 1 draws, 2 many, 3 signs, 4 row, 5 letters, 6 thing, 7 least, 8 at, 9 some -/
abbrev N_law_k39 : List Str := ["script", "draws", "many", "signs", "row", "letters", "thing", "least", "at", "some"]
def t_law_k39 (K : PySem.W.Frag) : TS :=
  (tSeq (tAsg (tCall (sp_law_draws_0 K) [] E0 (tCons (tVar 0) tNil)) (gName 1)) (tSeq (tAsg (tC (.int 0)) (gName 2)) (tSeq (tWhile (tOr (tTest (tOp Lv.rLt (tVar 2) (tC (.int 1)))) (tAnd (tTest (tOp (Lv.rNeL K) (tVar 1) (tLst tNil))) (tTest (tOp Lv.rLt (tVar 2) (tC (.int 3)))))) (tSeq (tAsg (tCall (sp_law_signs_0 K) [] E0 (tCons (tVar 1) tNil)) (gName 3)) (tSeq (tAsg (tCall (sp_law_row_2 K) [] E0 (tCons (tVar 1) (tCons (tVar 3) (tCons (tC (.int 80)) tNil)))) (gName 4)) (tSeq (tFor (iTup K (tTup (tCons (tCall (sp_law_some_letters_0 K) [] E0 (tCons (tVar 1) (tCons (tVar 3) tNil))) (tCons (tOp (rIxL K) (tVar 3) (tC (.int 0))) tNil)))) (gName 5) (tSeq (tFor (iList K (tCall (sp_law_things_0 K) [] E0 (tCons (tVar 1) (tCons (tVar 4) (tCons (tVar 5) tNil))))) (gName 6) (tIfS (tNot (tB (tCall (sp_law_right_8 K) [] E0 (tCons (tVar 4) (tCons (tVar 5) (tCons (tVar 6) tNil)))))) (tRet (tC (.bl false))) tNext)) (tSeq (tAsg (tCall (sp_law_arches_0 K) [] E0 (tCons (tVar 4) (tCons (tVar 5) tNil))) (gName 7)) (tSeq (tAsg (tCall (sp_law_take_0 K) [] E0 (tCons (tVar 1) (tCons (tOp Lv.rAdd (tCB (Lv.rLenL K) (tCons (tVar 7) tNil)) (tC (.int 1))) tNil))) (gName 8)) (tAsg (tLst (tCons (tCall (sp_law_deep_1y K) [] E0 (tCons (tC (.int 3000)) tNil)) (tCons (tLst (tCons (tCall (sp_law_deep_1y K) [] E0 (tCons (tC (.int 3000)) tNil)) tNil)) (tCons (tOp L2.rCat (tOp L2.rCat (tSl (rSlL K) (tVar 7) tNoPart (tPart (tVar 8))) (tLst (tCons (tCall (sp_law_deep_1y K) [] E0 (tCons (tC (.int 3000)) tNil)) tNil))) (tSl (rSlL K) (tVar 7) (tPart (tOp Lv.rAdd (tVar 8) (tC (.int 1)))) tNoPart)) tNil)))) (gName 9)))))) (tSeq (tFor (iList K (tOp L2.rCat (tVar 9) (tLst (tCons Lv.tVE (tCons (tOp L2.rCat (tOp L2.rCat (tSl (rSlL K) (tVar 7) tNoPart (tPart (tVar 8))) (tLst (tCons Lv.tVE tNil))) (tSl (rSlL K) (tVar 7) (tPart (tOp Lv.rAdd (tVar 8) (tC (.int 1)))) tNoPart)) tNil))))) (gName 6) (tIfS (tTest (tOp Lv.rNotN (tCall (sp_shows_1y K) [] E0 (tCons (tVar 4) (tCons (tVar 5) (tCons (tVar 6) tNil)))) (tC .non))) (tRet (tC (.bl false))) tNext)) (tAsg (tOp Lv.rAdd (tVar 2) (tC (.int 1))) (gName 2))))))) (tRet (tAndV (tCall (sp_law_right_8 K) [] E0 (tCons (tC (.str (S []))) (tCons (tC (.str (S [97]))) (tCons (tLst tNil) tNil)))) (tAndV (tCall (sp_law_right_8 K) [] E0 (tCons (tC (.str (S [97]))) (tCons (tC (.str (S [97]))) (tCons (tLst (tCons (tC (.int 1)) tNil)) tNil)))) (tCall (sp_law_right_8 K) [] E0 (tCons (tC (.str (S [97, 97]))) (tCons (tC (.str (S [97]))) (tCons (tLst (tCons (tC (.int 2)) tNil)) tNil))))))))))
-- needs: M_pap M_shown
def sp_law_k39 (K : PySem.W.Frag) : Sp := fun vs H Q _ => ∃ (a : Addr) (ns : List Int), vs = [.ref a] ∧ SqL K H a (ns.map V.int) ∧ ns.length ≤ 63 ∧ ∀ H', Q (.bl true) H'
theorem logB : (10 ^ 60 + 4).log2 < 1920 := by decide +kernel
theorem its_deep {K : PySem.W.Frag} {H : Hp} {q : Addr} {zs : List V} (h : H q = some (.lst zs)) : ItS K H (.ref q) := .inr (.inr ⟨kd_of (.lst h) (by decide +kernel), fun _ z => by cases z⟩)
theorem its_ve {K : PySem.W.Frag} {H : Hp} {q : Addr} (h : H q = some (CgO (.type "ValueError") q)) : ItS K H (.ref q) := .inr (.inr ⟨kd_ve h (by decide +kernel), fun _ z => by cases z⟩)
theorem nop_in {K : PySem.W.Frag} {H : Hp} {T q : Addr} {xs ys : List V} {es : List Nat} (h : H T = some (.lst (xs ++ [.ref q] ++ ys))) (h1 : ∀ x ∈ xs, x ∈ es.map iv) (h2 : ∀ x ∈ ys, x ∈ es.map iv) (hq : ItS K H (.ref q)) : NoPap K H (.ref T) := by
  have ii : ∀ x ∈ es.map iv, ItS K H x := fun x hx => by
    obtain ⟨n, _, rfl⟩ := List.mem_map.mp hx
    exact .inl ⟨_, rfl⟩
  refine .inl ⟨T, _, rfl, h, fun y hy => ?_, .ref q, by simp, fun _ z => by cases z⟩
  rcases List.mem_append.mp hy with z | z
  · rcases List.mem_append.mp z with z | z
    · exact ii y (h1 y z)
    · rw [List.mem_singleton.mp z]; exact hq
  · exact ii y (h2 y z)
theorem cut_memV {xs : List V} {lo hi : Option Int} {x : V} (h : x ∈ cutV xs lo hi) : x ∈ xs := by
  have h : x ∈ cutL xs lo hi := h
  unfold cutL at h
  exact List.mem_of_mem_drop (List.mem_of_mem_take h)
theorem cut_lenV (xs : List V) (lo hi : Option Int) : (cutV xs lo hi).length ≤ xs.length := cutL_length xs lo hi
theorem pure_law_k39 {K : PySem.W.Frag} (vs : List V) (H : Hp) (Q : VK) (E : XK) (h : sp_law_k39 K vs H Q E) : t_law_k39 K { nx := fun _ H' => Q .non H', rt := Q } (start N_law_k39 vs) H := by
  obtain ⟨a, ns, rfl, hS, hl, q⟩ := h
  unfold t_law_k39
  tm_at "v"
  refine i_law_draws_0 hS hl fun d H1 nd s1 hd => ?_
  tm_at "v"
  refine draws_while (d := d) 3 (fun w σ H' => ∃ (v3 v4 v5 v6 v7 v8 v9 : Option V), σ = [some (.ref a), some (.ref d), some (.int (w : Nat)), v3, v4, v5, v6, v7, v8, v9] ∧ Dr H' d) ⟨none, none, none, none, none, none, none, rfl, hd⟩ (by omega) ?_ ?_ ?_ ?_
  · rintro w σ H' ⟨v3, v4, v5, v6, v7, v8, v9, rfl, hd'⟩
    exact ⟨rfl, rfl, hd'⟩
  · rintro w σ H' H'' ⟨v3, v4, v5, v6, v7, v8, v9, rfl, hd'⟩ s
    exact ⟨_, _, _, _, _, _, _, rfl, Dr.same s hd'⟩
  · rintro w σ H2 n' r' b' c' hw ⟨v3, v4, v5, v6, v7, v8, v9, rfl, hd2⟩ rfl rfl
    tm_at "v"
    refine i_law_signs_0 hd2 fun A cs H3 nA neA hA c1 c2 lwc hd3 b3 => ?_
    tm_at "v"
    refine i_law_row_2 (n := 80) rfl hd3 hA neA c1 lwc (by omega) fun l H4 ll lwl hd4 b4 => ?_
    have hA4 := b4.at hA neA
    tm_at "v"
    refine foM (fun J H5 => ∃ (tp : Addr) (ls1 ls2 : List Nat), J = Itt K tp ∧ H5 tp = some (.tup [.str (S ls1), .str (S ls2)]) ∧ Lets ls1 ∧ Lets ls2 ∧ Dr H5 d) (fun R k => ?_) ?_
    · tm_at "v"
      refine i_law_some_letters_0 hd4 hA4 neA c1 c2 lwc fun ls H5 lt hd5 b5 => ?_
      tm_at "v"
      refine i_pickC (SqL.of1 (b5.at hA4 neA)) (by omega) (by omega) fun c hc => ?_
      tm_at "v"
      intro tp H6 n6 s6 h6
      exact ⟨tp, rfl, ⟨_, SqT.of1 h6⟩, k _ _ ⟨tp, ls, [c], rfl, h6, lt, Lets.one (lwc c hc), Dr.same s6 hd5⟩⟩
    rintro J H5 ⟨tp, ls1, ls2, rfl, htp, lt1, lt2, hd5⟩
    refine f_u (xs := [.str (S ls1), .str (S ls2)]) ⟨fun i σ H' => ∃ (v5 v6 v7 v8 v9 : Option V), σ = [some (.ref a), some (.ref d), some (.int (w : Nat)), some (.ref A), some (.str (S l)), v5, v6, v7, v8, v9] ∧ Dr H' d ∧ H' tp = some (.tup [.str (S ls1), .str (S ls2)]) ∧ (i = 0 ∨ ∃ (ls : List Nat) (L B : Addr) (at_ : Nat) (xs : List V), v5 = some (.str (S ls)) ∧ Lets ls ∧ v7 = some (.ref L) ∧ H' L = some (.lst ((arcs ls l).map iv)) ∧ v8 = some (.int (at_ : Nat)) ∧ v9 = some (.ref B) ∧ H' B = some (.lst xs) ∧ xs.length ≤ 100 ∧ ∀ x ∈ xs, NoPap K H' x), ⟨_, _, _, _, _, rfl, hd5, htp, .inl rfl⟩, ?_, ?_, ?_⟩
    · rintro i σ H' _ ⟨v5, v6, v7, v8, v9, rfl, _, h, _⟩
      exact SqT.of1 h
    · rintro i x σ Ha H6 hi ⟨v5, v6, v7, v8, v9, rfl, hd6, htp6, _⟩ ⟨rfl, ex⟩
      obtain ⟨ls, rfl, lt⟩ : ∃ ls, x = .str (S ls) ∧ Lets ls := by
        have hx := List.mem_of_getElem? ex
        simp only [List.mem_cons, List.not_mem_nil, or_false] at hx
        rcases hx with e | e
        · exact ⟨_, e, lt1⟩
        · exact ⟨_, e, lt2⟩
      have al := arcs_len ls l
      have la80 : ((arcs ls l).map iv).length ≤ 80 := by rw [List.length_map]; omega
      clear ex hi
      tm_at "v"
      refine foM (fun J H7 => ∃ (P : Addr) (xs : List V), J = Itl K P ∧ H7 P = some (.lst xs) ∧ xs.length ≤ 100 ∧ (∀ x ∈ xs, ThV (10 ^ 60 + 4) d H7 x) ∧ Dr H7 d ∧ H7 tp = some (.tup [.str (S ls1), .str (S ls2)])) (fun R k => ?_) ?_
      · tm_at "v"
        refine i_law_things_0 hd6 (by omega) lt fun P xs H7 nP hP lx hx hd7 b7 => ?_
        have td : tp ≠ d := fun z => by
          obtain ⟨_, e, _⟩ := hd6
          rw [z, e] at htp6; cases htp6
        exact ⟨P, rfl, ⟨_, SqL.of1 hP⟩, k _ _ ⟨P, xs, rfl, hP, lx, hx, hd7, b7 _ _ td htp6⟩⟩
      rintro J H7 ⟨P, xs, rfl, hP, lx, hx, hd7, htp7⟩
      refine f_l (xs := xs) ⟨fun j σ H' => ∃ (v6 : Option V), σ = [some (.ref a), some (.ref d), some (.int (w : Nat)), some (.ref A), some (.str (S l)), some (.str (S ls)), v6, v7, v8, v9] ∧ Same H7 H', ⟨_, rfl, Same.refl _⟩, ?_, ?_, ?_⟩
      · rintro j σ H' _ ⟨v6, rfl, s⟩
        exact SqL.of1 (s _ _ hP)
      · rintro j x σ Hb H8 hj ⟨v6, rfl, s8⟩ ⟨rfl, ex⟩
        have hxj := (hx x (List.mem_of_getElem? ex)).same s8
        tm_at "v"
        refine i_law_right_8 (by omega) lt hxj.ths (hxj.shy logB) fun H9 s9 => ?_
        tm_at "v"
        exact ⟨_, rfl, s8.trans s9⟩
      rintro σ H8 ⟨v6, rfl, s8⟩
      tm_at "v"
      refine i_law_arches_0 (by omega) lt fun L H9 nL s9 hL => ?_
      have S9 := s8.trans s9
      have hd9 := Dr.same S9 hd7
      have Ld : L ≠ d := ((Dr.same s8 hd7).ne nL).symm
      tm_at "v"
      refine i_lenL (SqL.of1 hL) ?_
      tm_at "v"
      refine i_law_take_0 hd9 (by omega) fun r H10 g10 hd10 b10 => ?_
      have hL10 := b10 _ _ Ld hL
      have htp10 : H10 tp = some (.tup [.str (S ls1), .str (S ls2)]) := keep_but hd9 b10 _ _ (S9 _ _ htp7) (.inr fun _ z => by cases z)
      tm_at "v"
      refine i_law_deep_1y 3000 rfl (by decide) (by decide) fun p11 H11 q11 zs11 n11 s11 h11 g11 => ?_
      have S11 := s11
      tm_at "v"
      refine i_law_deep_1y 3000 rfl (by decide) (by decide) fun p12 H12 q12 zs12 n12 s12 h12 g12 => ?_
      have S12 := S11.trans s12
      tm_at "v"
      intro p13 H13 n13 s13 h13
      have S13 := S12.trans s13
      tm_at "v"
      refine v_slL (SqL.of1 (S13 _ _ hL10)) fun p14 H14 n14 s14 h14 => ?_
      have S14 := S13.trans s14
      tm_at "v"
      refine i_law_deep_1y 3000 rfl (by decide) (by decide) fun p15 H15 q15 zs15 n15 s15 h15 g15 => ?_
      have S15 := S14.trans s15
      tm_at "v"
      intro p16 H16 n16 s16 h16
      have S16 := S15.trans s16
      have cv := fun lo hi => cut_lenV ((arcs ls l).map iv) lo hi
      have cv1 := cv none (some (r : Int))
      have cv2 := cv (some ((r : Int) + 1)) none
      refine v_cat ((s15.trans s16) _ _ h14) h16 (le_line (by simp; omega)) fun p17 H17 n17 s17 h17 => ?_
      have S17 := S16.trans s17
      tm_at "v"
      refine v_slL (SqL.of1 (S17 _ _ hL10)) fun p18 H18 n18 s18 h18 => ?_
      have S18 := S17.trans s18
      refine v_cat (s18 _ _ h17) h18 (le_line (by simp; omega)) fun p19 H19 n19 s19 h19 => ?_
      have S19 := S18.trans s19
      tm_at "v"
      intro p20 H20 n20 s20 h20
      have S20 := S19.trans s20
      tm_at "v"
      have w19 := s20
      have w15 := s16.trans (s17.trans (s18.trans (s19.trans s20)))
      have w13 := s14.trans (s15.trans w15)
      have w12 := s13.trans w13
      have w11 := s12.trans w12
      refine ⟨_, _, _, _, _, rfl, Dr.same S20 hd10, S20 _ _ htp10, .inr ⟨ls, L, p20, r, _, rfl, lt, rfl, S20 _ _ hL10, rfl, rfl, h20, by simp, fun x hx => ?_⟩⟩
      simp only [List.mem_cons, List.not_mem_nil, or_false] at hx
      rcases hx with e | e | e <;> rw [e]
      · exact .inl ⟨p11, _, rfl, w11 _ _ h11, fun y hy => by rw [List.mem_singleton.mp hy]; exact its_deep (w11 _ _ g11), _, List.mem_singleton.mpr rfl, fun _ z => by cases z⟩
      · exact .inl ⟨p13, _, rfl, w13 _ _ h13, fun y hy => by rw [List.mem_singleton.mp hy]; exact its_deep (w12 _ _ h12), _, List.mem_singleton.mpr rfl, fun _ z => by cases z⟩
      · exact nop_in (es := arcs ls l) (w19 _ _ h19) (fun x hx => cut_memV hx) (fun x hx => cut_memV hx) (its_deep (w15 _ _ h15))
    · rintro σ H6 ⟨v5, v6, v7, v8, v9, rfl, hd6, htp6, hz⟩
      rcases hz with z | ⟨ls, L, B, at_, xs, rfl, lt, rfl, hL, rfl, rfl, hB, lx, hx⟩
      · simp at z
      have al := arcs_len ls l
      have la80 : ((arcs ls l).map iv).length ≤ 80 := by rw [List.length_map]; omega
      tm_at "v"
      refine foM (fun J H7 => ∃ (P : Addr) (xs : List V), J = Itl K P ∧ Same H6 H7 ∧ H7 P = some (.lst xs) ∧ ∀ x ∈ xs, NoPap K H7 x) (fun R k => ?_) ?_
      · tm_at "v"
        intro p11 H11 n11 s11 h11
        have S11 := s11
        tm_at "v"
        refine v_slL (SqL.of1 (S11 _ _ hL)) fun p14 H14 n14 s14 h14 => ?_
        have S14 := S11.trans s14
        tm_at "v"
        intro p15 H15 n15 s15 h15
        have S15 := S14.trans s15
        tm_at "v"
        intro p16 H16 n16 s16 h16
        have S16 := S15.trans s16
        have cv := fun lo hi => cut_lenV ((arcs ls l).map iv) lo hi
        have cv1 := cv none (some (at_ : Int))
        have cv2 := cv (some ((at_ : Int) + 1)) none
        refine v_cat ((s15.trans s16) _ _ h14) h16 (le_line (by simp; omega)) fun p17 H17 n17 s17 h17 => ?_
        have S17 := S16.trans s17
        tm_at "v"
        refine v_slL (SqL.of1 (S17 _ _ hL)) fun p18 H18 n18 s18 h18 => ?_
        have S18 := S17.trans s18
        refine v_cat (s18 _ _ h17) h18 (le_line (by simp; omega)) fun p19 H19 n19 s19 h19 => ?_
        have S19 := S18.trans s19
        tm_at "v"
        intro p20 H20 n20 s20 h20
        have S20 := S19.trans s20
        refine v_cat (S20 _ _ hB) h20 (le_line (by simp; omega)) fun p21 H21 n21 s21 h21 => ?_
        have S21 := S20.trans s21
        refine ⟨p21, rfl, ⟨_, SqL.of1 h21⟩, k _ _ ⟨p21, _, rfl, S21, h21, fun x hm => ?_⟩⟩
        have w19 := s20.trans s21
        have w15 := s16.trans (s17.trans (s18.trans (s19.trans w19)))
        have w11 := s14.trans (s15.trans w15)
        rcases List.mem_append.mp hm with z | z
        · exact (hx x z).same S21
        simp only [List.mem_cons, List.not_mem_nil, or_false] at z
        rcases z with e | e <;> rw [e]
        · exact .inr (kd_ve (w11 _ _ h11) (by decide +kernel))
        · exact nop_in (es := arcs ls l) (w19 _ _ h19) (fun x hx => cut_memV hx) (fun x hx => cut_memV hx) (its_ve (w15 _ _ h15))
      rintro J H7 ⟨P, xs7, rfl, s7, hP, hx7⟩
      refine f_l (xs := xs7) ⟨fun j σ H' => ∃ (v6 : Option V), σ = [some (.ref a), some (.ref d), some (.int (w : Nat)), some (.ref A), some (.str (S l)), some (.str (S ls)), v6, some (.ref L), some (.int (at_ : Nat)), some (.ref B)] ∧ Same H7 H', ⟨_, rfl, Same.refl _⟩, ?_, ?_, ?_⟩
      · rintro j σ H' _ ⟨v6, rfl, s⟩
        exact SqL.of1 (s _ _ hP)
      · rintro j x σ Hb H8 hj ⟨v6, rfl, s8⟩ ⟨rfl, ex⟩
        tm_at "v"
        refine i_shows_1y_no (by omega) lt ((hx7 x (List.mem_of_getElem? ex)).same s8) fun H9 s9 => ?_
        tm_at "v"
        exact ⟨_, rfl, s8.trans s9⟩
      rintro σ H8 ⟨v6, rfl, s8⟩
      tm_at "v"
      rw [show ((w : Nat) : Int) + 1 = ((w + 1 : Nat) : Int) by omega]
      exact ⟨_, _, _, _, _, _, _, rfl, Dr.same (s7.trans s8) hd6⟩
  · rintro w σ H2 ⟨v3, v4, v5, v6, v7, v8, v9, rfl, hd2⟩
    have lta : Lets [97] := ⟨by decide, by unfold Low; decide, by decide⟩
    tm_at "v"
    intro p3 H3 n3 s3 h3
    have t3 : ThV 1000 d H3 (.ref p3) := .lst (hd2.ne n3).symm h3 (by simp) fun x hx => by cases hx
    tm_at "v"
    refine i_law_right_8 (l := []) (by decide) lta t3.ths (t3.shy (by decide)) fun H4 s4 => ?_
    have hd4 := Dr.same (s3.trans s4) hd2
    tm_at "v"
    intro p5 H5 n5 s5 h5
    have t5 : ThV 1000 d H5 (.ref p5) := .lst (hd4.ne n5).symm h5 (by simp) fun x hx => by rw [List.mem_singleton.mp hx]; exact .int (by decide)
    tm_at "v"
    refine i_law_right_8 (l := [97]) (by decide) lta t5.ths (t5.shy (by decide)) fun H6 s6 => ?_
    have hd6 := Dr.same (s5.trans s6) hd4
    tm_at "v"
    intro p7 H7 n7 s7 h7
    have t7 : ThV 1000 d H7 (.ref p7) := .lst (hd6.ne n7).symm h7 (by simp) fun x hx => by rw [List.mem_singleton.mp hx]; exact .int (by decide)
    tm_at "v"
    refine i_law_right_8 (l := [97, 97]) (by decide) lta t7.ths (t7.shy (by decide)) fun H8 s8 => ?_
    exact q _
/-! ### the text of k39 -/
def topS (i : Nat) : Stmt := PySem.Challenge.pw_leavings_k39_papers_of_arches_judged.main.body.getD i (.Pass ⟨0, 0, 0, 0⟩)
abbrev s_need_letters_3 : Stmt := topS 5
theorem sc_need_letters_3 : FnScope N_need_letters_3 ["thing"] (defScope s_need_letters_3) := ⟨rfl, rfl, rfl, by decide +kernel, rfl, by decide +kernel, by decide +kernel⟩
abbrev s_has_all_0 : Stmt := topS 6
theorem sc_has_all_0 : FnScope N_has_all_0 ["word", "letters"] (defScope s_has_all_0) := ⟨rfl, rfl, rfl, by decide +kernel, rfl, by decide +kernel, by decide +kernel⟩
abbrev s_shows_1y : Stmt := topS 7
theorem sc_shows_1y : FnScope N_shows_1y ["row", "letters", "thing"] (defScope s_shows_1y) := ⟨rfl, rfl, rfl, by decide +kernel, rfl, by decide +kernel, by decide +kernel⟩
abbrev s_law_draws_0 : Stmt := topS 9
theorem sc_law_draws_0 : FnScope N_law_draws_0 ["script"] (defScope s_law_draws_0) := ⟨rfl, rfl, rfl, by decide +kernel, rfl, by decide +kernel, by decide +kernel⟩
abbrev s_law_take_0 : Stmt := topS 10
theorem sc_law_take_0 : FnScope N_law_take_0 ["draws", "many"] (defScope s_law_take_0) := ⟨rfl, rfl, rfl, by decide +kernel, rfl, by decide +kernel, by decide +kernel⟩
abbrev s_law_abc_0 : Stmt := topS 11
theorem sc_law_abc_0 : FnScope N_law_abc_0 ["k"] (defScope s_law_abc_0) := ⟨rfl, rfl, rfl, by decide +kernel, rfl, by decide +kernel, by decide +kernel⟩
abbrev s_law_signs_0 : Stmt := topS 12
theorem sc_law_signs_0 : FnScope N_law_signs_0 ["draws"] (defScope s_law_signs_0) := ⟨rfl, rfl, rfl, by decide +kernel, rfl, by decide +kernel, by decide +kernel⟩
abbrev s_law_row_2 : Stmt := topS 13
theorem sc_law_row_2 : FnScope N_law_row_2 ["draws", "signs", "most"] (defScope s_law_row_2) := ⟨rfl, rfl, rfl, by decide +kernel, rfl, by decide +kernel, by decide +kernel⟩
abbrev s_law_some_letters_0 : Stmt := topS 14
theorem sc_law_some_letters_0 : FnScope N_law_some_letters_0 ["draws", "signs"] (defScope s_law_some_letters_0) := ⟨rfl, rfl, rfl, by decide +kernel, rfl, by decide +kernel, by decide +kernel⟩
abbrev s_law_arches_0 : Stmt := topS 15
theorem sc_law_arches_0 : FnScope N_law_arches_0 ["row", "letters"] (defScope s_law_arches_0) := ⟨rfl, rfl, rfl, by decide +kernel, rfl, by decide +kernel, by decide +kernel⟩
abbrev s_law_deep_1y : Stmt := topS 21
theorem sc_law_deep_1y : FnScope N_law_deep_1y ["many"] (defScope s_law_deep_1y) := ⟨rfl, rfl, rfl, by decide +kernel, rfl, by decide +kernel, by decide +kernel⟩
abbrev s_law_shown_0 : Stmt := topS 16
theorem sc_law_shown_0 : FnScope N_law_shown_0 ["row", "letters", "thing"] (defScope s_law_shown_0) := ⟨rfl, rfl, rfl, by decide +kernel, rfl, by decide +kernel, by decide +kernel⟩
abbrev s_law_whole_1 : Stmt := topS 17
theorem sc_law_whole_1 : FnScope N_law_whole_1 ["thing"] (defScope s_law_whole_1) := ⟨rfl, rfl, rfl, by decide +kernel, rfl, by decide +kernel, by decide +kernel⟩
abbrev s_law_right_8 : Stmt := topS 22
theorem sc_law_right_8 : FnScope N_law_right_8 ["row", "letters", "thing"] (defScope s_law_right_8) := ⟨rfl, rfl, rfl, by decide +kernel, rfl, by decide +kernel, by decide +kernel⟩
abbrev s_law_odd_0 : Stmt := topS 18
theorem sc_law_odd_0 : FnScope N_law_odd_0 ["draws", "size"] (defScope s_law_odd_0) := ⟨rfl, rfl, rfl, by decide +kernel, rfl, by decide +kernel, by decide +kernel⟩
abbrev s_law_spoilt_1 : Stmt := topS 19
theorem sc_law_spoilt_1 : FnScope N_law_spoilt_1 ["draws", "some", "size"] (defScope s_law_spoilt_1) := ⟨rfl, rfl, rfl, by decide +kernel, rfl, by decide +kernel, by decide +kernel⟩
abbrev s_law_loose_0 : Stmt := topS 20
theorem sc_law_loose_0 : FnScope N_law_loose_0 ["draws", "row", "letters"] (defScope s_law_loose_0) := ⟨rfl, rfl, rfl, by decide +kernel, rfl, by decide +kernel, by decide +kernel⟩
abbrev s_law_things_0 : Stmt := topS 23
theorem sc_law_things_0 : FnScope N_law_things_0 ["draws", "row", "letters"] (defScope s_law_things_0) := ⟨rfl, rfl, rfl, by decide +kernel, rfl, by decide +kernel, by decide +kernel⟩
abbrev s_law_k39 : Stmt := topS 24
theorem sc_law_k39 : FnScope N_law_k39 ["script"] (defScope s_law_k39) := ⟨rfl, rfl, rfl, by decide +kernel, rfl, by decide +kernel, by decide +kernel⟩
structure Txt (K : PySem.W.Frag) (mg : Str → Option Value) where
  (f_need_letters_3 : Addr)
  (fd_need_letters_3 : FuncData)
  (f_has_all_0 : Addr)
  (fd_has_all_0 : FuncData)
  (f_shows_1y : Addr)
  (fd_shows_1y : FuncData)
  (f_law_draws_0 : Addr)
  (fd_law_draws_0 : FuncData)
  (f_law_take_0 : Addr)
  (fd_law_take_0 : FuncData)
  (f_law_abc_0 : Addr)
  (fd_law_abc_0 : FuncData)
  (f_law_signs_0 : Addr)
  (fd_law_signs_0 : FuncData)
  (f_law_row_2 : Addr)
  (fd_law_row_2 : FuncData)
  (f_law_some_letters_0 : Addr)
  (fd_law_some_letters_0 : FuncData)
  (f_law_arches_0 : Addr)
  (fd_law_arches_0 : FuncData)
  (f_law_deep_1y : Addr)
  (fd_law_deep_1y : FuncData)
  (f_law_shown_0 : Addr)
  (fd_law_shown_0 : FuncData)
  (f_law_whole_1 : Addr)
  (fd_law_whole_1 : FuncData)
  (f_law_right_8 : Addr)
  (fd_law_right_8 : FuncData)
  (f_law_odd_0 : Addr)
  (fd_law_odd_0 : FuncData)
  (f_law_spoilt_1 : Addr)
  (fd_law_spoilt_1 : FuncData)
  (f_law_loose_0 : Addr)
  (fd_law_loose_0 : FuncData)
  (f_law_things_0 : Addr)
  (fd_law_things_0 : FuncData)
  (f_law_k39 : Addr)
  (fd_law_k39 : FuncData)
  F_need_letters_3 : Fun K "need_letters" "need_letters" s_need_letters_3 f_need_letters_3 fd_need_letters_3
  a_need_letters_3 : mg "need_letters" = some (.ref f_need_letters_3)
  b_need_letters_3 : Binds K fd_need_letters_3 ["thing"] []
  F_has_all_0 : Fun K "has_all" "has_all" s_has_all_0 f_has_all_0 fd_has_all_0
  a_has_all_0 : mg "has_all" = some (.ref f_has_all_0)
  b_has_all_0 : Binds K fd_has_all_0 ["word", "letters"] []
  F_shows_1y : Fun K "shows" "shows" s_shows_1y f_shows_1y fd_shows_1y
  a_shows_1y : mg "shows" = some (.ref f_shows_1y)
  b_shows_1y : Binds K fd_shows_1y ["row", "letters", "thing"] []
  F_law_draws_0 : Fun K "_law_draws" "_law_draws" s_law_draws_0 f_law_draws_0 fd_law_draws_0
  a_law_draws_0 : mg "_law_draws" = some (.ref f_law_draws_0)
  b_law_draws_0 : Binds K fd_law_draws_0 ["script"] []
  F_law_take_0 : Fun K "_law_take" "_law_take" s_law_take_0 f_law_take_0 fd_law_take_0
  a_law_take_0 : mg "_law_take" = some (.ref f_law_take_0)
  b_law_take_0 : Binds K fd_law_take_0 ["draws", "many"] []
  F_law_abc_0 : Fun K "_law_abc" "_law_abc" s_law_abc_0 f_law_abc_0 fd_law_abc_0
  a_law_abc_0 : mg "_law_abc" = some (.ref f_law_abc_0)
  b_law_abc_0 : Binds K fd_law_abc_0 ["k"] []
  F_law_signs_0 : Fun K "_law_signs" "_law_signs" s_law_signs_0 f_law_signs_0 fd_law_signs_0
  a_law_signs_0 : mg "_law_signs" = some (.ref f_law_signs_0)
  b_law_signs_0 : Binds K fd_law_signs_0 ["draws"] []
  F_law_row_2 : Fun K "_law_row" "_law_row" s_law_row_2 f_law_row_2 fd_law_row_2
  a_law_row_2 : mg "_law_row" = some (.ref f_law_row_2)
  b_law_row_2 : Binds K fd_law_row_2 ["draws", "signs", "most"] []
  F_law_some_letters_0 : Fun K "_law_some_letters" "_law_some_letters" s_law_some_letters_0 f_law_some_letters_0 fd_law_some_letters_0
  a_law_some_letters_0 : mg "_law_some_letters" = some (.ref f_law_some_letters_0)
  b_law_some_letters_0 : Binds K fd_law_some_letters_0 ["draws", "signs"] []
  F_law_arches_0 : Fun K "_law_arches" "_law_arches" s_law_arches_0 f_law_arches_0 fd_law_arches_0
  a_law_arches_0 : mg "_law_arches" = some (.ref f_law_arches_0)
  b_law_arches_0 : Binds K fd_law_arches_0 ["row", "letters"] []
  F_law_deep_1y : Fun K "_law_deep" "_law_deep" s_law_deep_1y f_law_deep_1y fd_law_deep_1y
  a_law_deep_1y : mg "_law_deep" = some (.ref f_law_deep_1y)
  b_law_deep_1y : Binds K fd_law_deep_1y ["many"] []
  F_law_shown_0 : Fun K "_law_shown" "_law_shown" s_law_shown_0 f_law_shown_0 fd_law_shown_0
  a_law_shown_0 : mg "_law_shown" = some (.ref f_law_shown_0)
  b_law_shown_0 : Binds K fd_law_shown_0 ["row", "letters", "thing"] []
  F_law_whole_1 : Fun K "_law_whole" "_law_whole" s_law_whole_1 f_law_whole_1 fd_law_whole_1
  a_law_whole_1 : mg "_law_whole" = some (.ref f_law_whole_1)
  b_law_whole_1 : Binds K fd_law_whole_1 ["thing"] []
  F_law_right_8 : Fun K "_law_right" "_law_right" s_law_right_8 f_law_right_8 fd_law_right_8
  a_law_right_8 : mg "_law_right" = some (.ref f_law_right_8)
  b_law_right_8 : Binds K fd_law_right_8 ["row", "letters", "thing"] []
  F_law_odd_0 : Fun K "_law_odd" "_law_odd" s_law_odd_0 f_law_odd_0 fd_law_odd_0
  a_law_odd_0 : mg "_law_odd" = some (.ref f_law_odd_0)
  b_law_odd_0 : Binds K fd_law_odd_0 ["draws", "size"] []
  F_law_spoilt_1 : Fun K "_law_spoilt" "_law_spoilt" s_law_spoilt_1 f_law_spoilt_1 fd_law_spoilt_1
  a_law_spoilt_1 : mg "_law_spoilt" = some (.ref f_law_spoilt_1)
  b_law_spoilt_1 : Binds K fd_law_spoilt_1 ["draws", "some", "size"] []
  F_law_loose_0 : Fun K "_law_loose" "_law_loose" s_law_loose_0 f_law_loose_0 fd_law_loose_0
  a_law_loose_0 : mg "_law_loose" = some (.ref f_law_loose_0)
  b_law_loose_0 : Binds K fd_law_loose_0 ["draws", "row", "letters"] []
  F_law_things_0 : Fun K "_law_things" "_law_things" s_law_things_0 f_law_things_0 fd_law_things_0
  a_law_things_0 : mg "_law_things" = some (.ref f_law_things_0)
  b_law_things_0 : Binds K fd_law_things_0 ["draws", "row", "letters"] []
  F_law_k39 : Fun K "law" "law" s_law_k39 f_law_k39 fd_law_k39
  z_ValueError : mg "ValueError" = none
  z_abs : mg "abs" = none
  z_bool : mg "bool" = none
  z_dict : mg "dict" = none
  z_enumerate : mg "enumerate" = none
  z_int : mg "int" = none
  z_isinstance : mg "isinstance" = none
  z_len : mg "len" = none
  z_list : mg "list" = none
  z_min : mg "min" = none
  z_range : mg "range" = none
  z_repr : mg "repr" = none
  z_set : mg "set" = none
  z_sorted : mg "sorted" = none
  z_str : mg "str" = none
  z_tuple : mg "tuple" = none
  (ct_SMALL : Tok)
  c_SMALL : mg "SMALL" = some (.str (S [97, 98, 99, 100, 101, 102, 103, 104, 105, 106, 107, 108, 109, 110, 111, 112, 113, 114, 115, 116, 117, 118, 119, 120, 121, 122]) ct_SMALL)
section
variable {P : Program} {w : World} {K : PySem.W.Frag} {mg : Str → Option Value} {base : Heap}
theorem ok_need_letters_3 (T : Txt K mg) : FnOk P w K mg base CX0 1 T.f_need_letters_3 T.fd_need_letters_3 ["thing"] (sp_need_letters_3 K) := by
  have nd := sc_need_letters_3.nd
  refine T.F_need_letters_3.ok sc_need_letters_3 (fun vs H Q E h => ?_) (fun cdv A outer s H vs Q E hr h => ⟨t_need_letters_3 K, ?_, pure_need_letters_3 vs H Q E h⟩)
  · unfold sp_need_letters_3 at h
    repeat (first | (obtain ⟨rfl, _⟩ := h; rfl) | (obtain ⟨_, h⟩ := h))
  · unfold t_need_letters_3
    exact (pss_cons (ps_if (PW.pt (pw_or (pt_not (pt_val (pe_callB Lv.call_is1 (by rfl) T.z_isinstance (by decide +kernel) (pa_cons (pv 0) (pa_cons (pe_bltn (v := .ty "str") (u := .type "str") (by rfl) T.z_str (by decide +kernel) rfl) pa_nil))))) (pw_or (pt_cmpR Lv.op_eqS (pv 0) (Lv.pe_strS (l := []) (by decide +kernel)) (nomark _)) (pw_or1 (pt_cmpR op_gt (pe_callB Lv.call_lenT (by rfl) T.z_len (by decide +kernel) (pa_cons (pv 0) pa_nil)) (pe_callB Lv.call_lenT (by rfl) T.z_len (by decide +kernel) (pa_cons (Lv.pe_globS (by rfl) T.c_SMALL) pa_nil)) (nomark _)))))) (pss_one Lv.ps_never) pss_nil) (pss_one (ps_if (PW.pt (pw_or (pt_cmpR (Lv.op_neLS hr.units) (pe_lc (own := [("letter", 1)]) (g := (gName 1)) (tt := (tTest (tOp (Lv.rIn1 true) (tVar 1) (tC (.str (S [97, 98, 99, 100, 101, 102, 103, 104, 105, 106, 107, 108, 109, 110, 111, 112, 113, 114, 115, 116, 117, 118, 119, 120, 121, 122])))))) (by rfl) nd (pi_str (pv 0)) (blkOk_by (own := [("letter", 1)]) (N := N_need_letters_3) (sc := defScope s_need_letters_3) (by decide +kernel)) (fun _ _ _ _ _ => (pg_name (i := 1) nd rfl (by first | exact Or.inl rfl | exact Or.inr rfl))) (fun _ _ _ _ _ => (pts_one (pt_cmpR Lv.op_notIn1 (pv 1) (Lv.pe_globS (by rfl) T.c_SMALL) (by rfl)))) (fun _ _ _ _ _ => (pv 1))) (pe_lst pa_nil) (nomark _)) (pw_or1 (pt_cmpR (Lv.op_neLS hr.units) (Lv.pe_sortSetS (by rfl) (by rfl) T.z_sorted (by rfl) T.z_set (pa_cons (pv 0) pa_nil)) (pe_callTy (Lv.call_listS (by rfl)) (by rfl) T.z_list (by decide +kernel) (pa_cons (pv 0) pa_nil)) (nomark _))))) (pss_one Lv.ps_never) pss_nil)))
theorem ok_has_all_0 (T : Txt K mg) : FnOk P w K mg base CX0 1 T.f_has_all_0 T.fd_has_all_0 ["word", "letters"] (sp_has_all_0 K) := by
  have nd := sc_has_all_0.nd
  refine T.F_has_all_0.ok sc_has_all_0 (fun vs H Q E h => ?_) (fun cdv A outer s H vs Q E hr h => ⟨t_has_all_0 K, ?_, pure_has_all_0 vs H Q E h⟩)
  · unfold sp_has_all_0 at h
    repeat (first | (obtain ⟨rfl, _⟩ := h; rfl) | (obtain ⟨_, h⟩ := h))
  · unfold t_has_all_0
    exact (pss_one (ps_ret (pe_cmpR (Lv.op_eqLS hr.units) (pe_lc (own := [("letter", 2)]) (g := (gName 2)) (tt := (tTest (tOp (Lv.rIn1 true) (tVar 2) (tVar 0)))) (by rfl) nd (pi_str (pv 1)) (blkOk_by (own := [("letter", 2)]) (N := N_has_all_0) (sc := defScope s_has_all_0) (by decide +kernel)) (fun _ _ _ _ _ => (pg_name (i := 2) nd rfl (by first | exact Or.inl rfl | exact Or.inr rfl))) (fun _ _ _ _ _ => (pts_one (pt_cmpR Lv.op_notIn1 (pv 2) (pv 0) (by rfl)))) (fun _ _ _ _ _ => (pv 2))) (pe_lst pa_nil) (nomark _))))
theorem ok_shows_1y (T : Txt K mg) : FnOk P w K mg base CX0 2 T.f_shows_1y T.fd_shows_1y ["row", "letters", "thing"] (sp_shows_1y K) := by
  have nd := sc_shows_1y.nd
  have G_need_letters_3 := ok_need_letters_3 (P := P) (w := w) (base := base) T
  have G_has_all_0 := ok_has_all_0 (P := P) (w := w) (base := base) T
  refine T.F_shows_1y.ok sc_shows_1y (fun vs H Q E h => ?_) (fun cdv A outer s H vs Q E hr h => ⟨t_shows_1y K, ?_, pure_shows_1y vs H Q E h⟩)
  · unfold sp_shows_1y at h
    repeat (first | (obtain ⟨rfl, _⟩ := h; rfl) | (obtain ⟨_, h⟩ := h))
  · unfold t_shows_1y
    exact (pss_cons (ps_expr (pe_call G_need_letters_3 (hr.mono (by decide)) (by rfl) T.a_need_letters_3 T.F_need_letters_3.kp T.b_need_letters_3 .nil pass0 (pa_cons (pv 1) pa_nil))) (pss_cons (ps_if (pt_not (pt_val (pe_callB Lv.call_is1 (by rfl) T.z_isinstance (by decide +kernel) (pa_cons (pv 2) (pa_cons (pe_bltn (v := .ty "list") (u := .type "list") (by rfl) T.z_list (by decide +kernel) rfl) pa_nil))))) (pss_one (ps_ret pe_non)) pss_nil) (pss_cons (ps_set (i := 3) nd rfl (by first | exact Or.inl rfl | exact Or.inr rfl) pe_int) (pss_cons (ps_for PassesOwn.never (by rfl) (pi_list (pv 2)) (pg_name (i := 4) nd rfl (by first | exact Or.inl rfl | exact Or.inr rfl)) (pss_cons (ps_if (PW.pt (pw_or (pt_not (pt_val (pe_callB Lv.call_is1 (by rfl) T.z_isinstance (by decide +kernel) (pa_cons (pv 4) (pa_cons (pe_bltn (v := .ty "int") (u := .type "int") (by rfl) T.z_int (by decide +kernel) rfl) pa_nil))))) (pw_or (pt_val (pe_callB Lv.call_is1 (by rfl) T.z_isinstance (by decide +kernel) (pa_cons (pv 4) (pa_cons (pe_bltn (v := .ty "bool") (u := .type "bool") (by rfl) T.z_bool (by decide +kernel) rfl) pa_nil)))) (pw_or1 (pt_not (pt_chain op_lt op_le (pv 3) (pv 4) (pe_callB Lv.call_lenT (by rfl) T.z_len (by decide +kernel) (pa_cons (pv 0) pa_nil)))))))) (pss_one (ps_ret pe_non)) pss_nil) (pss_cons (ps_if (pt_not (pt_val (pe_call G_has_all_0 (hr.mono (by decide)) (by rfl) T.a_has_all_0 T.F_has_all_0.kp T.b_has_all_0 .nil pass0 (pa_cons (pe_slice Lv.sl_S (pv 0) (po_some (pv 3)) (po_some (pv 4))) (pa_cons (pv 1) pa_nil))))) (pss_one (ps_ret pe_non)) pss_nil) (pss_one (ps_set (i := 3) nd rfl (by first | exact Or.inl rfl | exact Or.inr rfl) (pv 4)))))) (pss_one (ps_ret (pe_callB call_len_seq (by rfl) T.z_len (by decide +kernel) (pa_cons (pv 2) pa_nil))))))))
theorem ok_law_draws_0 (T : Txt K mg) : FnOk P w K mg base CX0 1 T.f_law_draws_0 T.fd_law_draws_0 ["script"] (sp_law_draws_0 K) := by
  have nd := sc_law_draws_0.nd
  refine T.F_law_draws_0.ok sc_law_draws_0 (fun vs H Q E h => ?_) (fun cdv A outer s H vs Q E hr h => ⟨t_law_draws_0 K, ?_, pure_law_draws_0 vs H Q E h⟩)
  · unfold sp_law_draws_0 at h
    repeat (first | (obtain ⟨rfl, _⟩ := h; rfl) | (obtain ⟨_, h⟩ := h))
  · unfold t_law_draws_0
    exact (pss_cons (ps_set (i := 1) nd rfl (by first | exact Or.inl rfl | exact Or.inr rfl) (pe_lst pa_nil)) (pss_cons (ps_for PassesOwn.never (by rfl) (pi_range1 (by rfl) T.z_range (pa_cons (pe_callB (Lv.call_minI (by rfl)) (by rfl) T.z_min (by decide +kernel) (pa_cons (pe_callB call_len_seq (by rfl) T.z_len (by decide +kernel) (pa_cons (pv 0) pa_nil)) (pa_cons pe_int pa_nil))) pa_nil)) (pg_name (i := 2) nd rfl (by first | exact Or.inl rfl | exact Or.inr rfl)) (pss_cons (ps_set (i := 3) nd rfl (by first | exact Or.inl rfl | exact Or.inr rfl) (pe_callB Lv.call_absI (by rfl) T.z_abs (by decide +kernel) (pa_cons (pe_ix ix_list (pv 0) (pv 2) (fun _ _ => rfl)) pa_nil))) (pss_one (ps_if (pt_cmpR op_lt (pv 3) (pe_op op_pow pe_int pe_int) (nomark _)) (pss_cons (ps_set (i := 4) nd rfl (by first | exact Or.inl rfl | exact Or.inr rfl) (pe_op op_mod (pe_op op_mul (pe_op op_mod (pe_op op_add (pe_op op_add (pv 3) (pe_op op_mul pe_int (pv 2))) pe_int) pe_int) pe_int) pe_int)) (pss_cons (ps_set (i := 4) nd rfl (by first | exact Or.inl rfl | exact Or.inr rfl) (pe_op op_mod (pe_op op_mul (pv 4) (pv 4)) pe_int)) (pss_cons (ps_expr (pe_bm PySem.F.plainAttrs_list PySem.F.slot_list_append PySem.F.type_list_append mt_append (pv 1) (pa_cons (pe_op op_mod (pe_op op_fdiv (pv 4) pe_int) pe_int) pa_nil))) (pss_cons (ps_expr (pe_bm PySem.F.plainAttrs_list PySem.F.slot_list_append PySem.F.type_list_append mt_append (pv 1) (pa_cons (pe_op op_mod (pe_op op_fdiv (pv 4) pe_int) pe_int) pa_nil))) (pss_cons (ps_set (i := 4) nd rfl (by first | exact Or.inl rfl | exact Or.inr rfl) (pe_op op_mod (pe_op op_add (pv 4) (pe_op op_mul pe_int (pe_op op_add (pv 2) pe_int))) pe_int)) (pss_one (ps_expr (pe_bm PySem.F.plainAttrs_list PySem.F.slot_list_append PySem.F.type_list_append mt_append (pv 1) (pa_cons (pe_op op_mod (pe_op op_fdiv (pe_op op_mod (pe_op op_mul (pv 4) (pv 4)) pe_int) pe_int) pe_int) pa_nil))))))))) (pss_cons (ps_set (i := 5) nd rfl (by first | exact Or.inl rfl | exact Or.inr rfl) pe_int) (pss_one (ps_while PassesOwn.never (PW.pt (pw_and (pt_cmpR op_ge (pv 3) pe_int (nomark _)) (pw_and1 (pt_cmpR op_lt (pv 5) pe_int (nomark _))))) (pss_cons (ps_expr (pe_bm PySem.F.plainAttrs_list PySem.F.slot_list_append PySem.F.type_list_append mt_append (pv 1) (pa_cons (pe_op op_mod (pv 3) pe_int) pa_nil))) (pss_cons (ps_set (i := 3) nd rfl (by first | exact Or.inl rfl | exact Or.inr rfl) (pe_op op_fdiv (pv 3) pe_int)) (pss_one (ps_set (i := 5) nd rfl (by first | exact Or.inl rfl | exact Or.inr rfl) (pe_op op_add (pv 5) pe_int)))))))))))) (pss_one (ps_ret (pe_slice sl_list (pv 1) po_none (po_some pe_int))))))
theorem ok_law_take_0 (T : Txt K mg) : FnOk P w K mg base CX0 1 T.f_law_take_0 T.fd_law_take_0 ["draws", "many"] (sp_law_take_0 K) := by
  have nd := sc_law_take_0.nd
  refine T.F_law_take_0.ok sc_law_take_0 (fun vs H Q E h => ?_) (fun cdv A outer s H vs Q E hr h => ⟨t_law_take_0 K, ?_, pure_law_take_0 vs H Q E h⟩)
  · unfold sp_law_take_0 at h
    repeat (first | (obtain ⟨rfl, _⟩ := h; rfl) | (obtain ⟨_, h⟩ := h))
  · unfold t_law_take_0
    exact (pss_cons (ps_if (pt_cmpR (Lv.op_eqL hr.units) (pv 0) (pe_lst pa_nil) (nomark _)) (pss_one (ps_ret pe_int)) pss_nil) (pss_one (ps_ret (pe_op op_mod (pe_bm PySem.F.plainAttrs_list PySem.F.slot_list_pop PySem.F.type_list_pop mt_popAt (pv 0) (pa_cons pe_int pa_nil)) (pv 1)))))
theorem ok_law_abc_0 (T : Txt K mg) : FnOk P w K mg base CX0 1 T.f_law_abc_0 T.fd_law_abc_0 ["k"] (sp_law_abc_0 K) := by
  have nd := sc_law_abc_0.nd
  refine T.F_law_abc_0.ok sc_law_abc_0 (fun vs H Q E h => ?_) (fun cdv A outer s H vs Q E hr h => ⟨t_law_abc_0 K, ?_, pure_law_abc_0 vs H Q E h⟩)
  · unfold sp_law_abc_0 at h
    repeat (first | (obtain ⟨rfl, _⟩ := h; rfl) | (obtain ⟨_, h⟩ := h))
  · unfold t_law_abc_0
    exact (pss_one (ps_ret (pe_ix Lv.ix_S (Lv.pe_strS (l := [97, 98, 99, 100, 101, 102, 103, 104, 105, 106, 107, 108, 109, 110, 111, 112, 113, 114, 115, 116, 117, 118, 119, 120, 121, 122]) (by decide +kernel)) (pe_op op_mod (pv 0) pe_int) (fun _ _ => rfl))))
theorem ok_law_signs_0 (T : Txt K mg) : FnOk P w K mg base CX0 2 T.f_law_signs_0 T.fd_law_signs_0 ["draws"] (sp_law_signs_0 K) := by
  have nd := sc_law_signs_0.nd
  have G_law_take_0 := ok_law_take_0 (P := P) (w := w) (base := base) T
  have G_law_abc_0 := ok_law_abc_0 (P := P) (w := w) (base := base) T
  refine T.F_law_signs_0.ok sc_law_signs_0 (fun vs H Q E h => ?_) (fun cdv A outer s H vs Q E hr h => ⟨t_law_signs_0 K, ?_, pure_law_signs_0 vs H Q E h⟩)
  · unfold sp_law_signs_0 at h
    repeat (first | (obtain ⟨rfl, _⟩ := h; rfl) | (obtain ⟨_, h⟩ := h))
  · unfold t_law_signs_0
    exact (pss_cons (ps_set (i := 1) nd rfl (by first | exact Or.inl rfl | exact Or.inr rfl) (pe_call G_law_take_0 (hr.mono (by decide)) (by rfl) T.a_law_take_0 T.F_law_take_0.kp T.b_law_take_0 .nil pass0 (pa_cons (pv 0) (pa_cons pe_int pa_nil)))) (pss_one (ps_ret (pe_lc (own := [("k", 2)]) (g := (gName 2)) (tt := tYes) (by rfl) nd (pi_range1 (by rfl) T.z_range (pa_cons (pe_ix ix_list (pe_lst (pa_cons pe_int (pa_cons pe_int (pa_cons pe_int (pa_cons pe_int (pa_cons pe_int (pa_cons pe_int pa_nil))))))) (pe_call G_law_take_0 (hr.mono (by decide)) (by rfl) T.a_law_take_0 T.F_law_take_0.kp T.b_law_take_0 .nil pass0 (pa_cons (pv 0) (pa_cons pe_int pa_nil))) (fun _ _ => rfl)) pa_nil)) (blkOk_by (own := [("k", 2)]) (N := N_law_signs_0) (sc := defScope s_law_signs_0) (by decide +kernel)) (fun _ _ _ _ _ => (pg_name (i := 2) nd rfl (by first | exact Or.inl rfl | exact Or.inr rfl))) (fun _ _ _ _ _ => pts_nil) (fun _ _ _ _ _ => (pe_call G_law_abc_0 (hr.mono (by decide)) (by rfl) T.a_law_abc_0 T.F_law_abc_0.kp T.b_law_abc_0 .nil pass0 (pa_cons (pe_op op_add (pv 1) (pv 2)) pa_nil)))))))
theorem ok_law_row_2 (T : Txt K mg) : FnOk P w K mg base CX0 2 T.f_law_row_2 T.fd_law_row_2 ["draws", "signs", "most"] (sp_law_row_2 K) := by
  have nd := sc_law_row_2.nd
  have G_law_take_0 := ok_law_take_0 (P := P) (w := w) (base := base) T
  refine T.F_law_row_2.ok sc_law_row_2 (fun vs H Q E h => ?_) (fun cdv A outer s H vs Q E hr h => ⟨t_law_row_2 K, ?_, pure_law_row_2 vs H Q E h⟩)
  · unfold sp_law_row_2 at h
    repeat (first | (obtain ⟨rfl, _⟩ := h; rfl) | (obtain ⟨_, h⟩ := h))
  · unfold t_law_row_2
    exact (pss_cons (ps_set (i := 3) nd rfl (by first | exact Or.inl rfl | exact Or.inr rfl) (pe_callB (Lv.call_minI (by rfl)) (by rfl) T.z_min (by decide +kernel) (pa_cons (pv 2) (pa_cons (pe_call G_law_take_0 (hr.mono (by decide)) (by rfl) T.a_law_take_0 T.F_law_take_0.kp T.b_law_take_0 .nil pass0 (pa_cons (pv 0) (pa_cons pe_int pa_nil))) pa_nil)))) (Evl.pss_cut (ps_if (pt_cmpR Lv.op_eqI (pe_call G_law_take_0 (hr.mono (by decide)) (by rfl) T.a_law_take_0 T.F_law_take_0.kp T.b_law_take_0 .nil pass0 (pa_cons (pv 0) (pa_cons pe_int pa_nil))) pe_int (nomark _)) (pss_one (ps_set (i := 3) nd rfl (by first | exact Or.inl rfl | exact Or.inr rfl) (pe_ix ix_list (pe_lst (pa_cons (pv 2) (pa_cons (pe_call G_law_take_0 (hr.mono (by decide)) (by rfl) T.a_law_take_0 T.F_law_take_0.kp T.b_law_take_0 .nil pass0 (pa_cons (pv 0) (pa_cons (pe_op op_add (pv 2) pe_int) pa_nil))) pa_nil))) (pe_call G_law_take_0 (hr.mono (by decide)) (by rfl) T.a_law_take_0 T.F_law_take_0.kp T.b_law_take_0 .nil pass0 (pa_cons (pv 0) (pa_cons pe_int pa_nil))) (fun _ _ => rfl)))) pss_nil) (pss_cons (ps_set (i := 4) nd rfl (by first | exact Or.inl rfl | exact Or.inr rfl) (pe_call G_law_take_0 (hr.mono (by decide)) (by rfl) T.a_law_take_0 T.F_law_take_0.kp T.b_law_take_0 .nil pass0 (pa_cons (pv 0) (pa_cons pe_int pa_nil)))) (pss_cons (ps_set (i := 5) nd rfl (by first | exact Or.inl rfl | exact Or.inr rfl) (pe_op op_add pe_int (pe_call G_law_take_0 (hr.mono (by decide)) (by rfl) T.a_law_take_0 T.F_law_take_0.kp T.b_law_take_0 .nil pass0 (pa_cons (pv 0) (pa_cons pe_int pa_nil))))) (pss_cons (ps_set (i := 6) nd rfl (by first | exact Or.inl rfl | exact Or.inr rfl) (pe_call G_law_take_0 (hr.mono (by decide)) (by rfl) T.a_law_take_0 T.F_law_take_0.kp T.b_law_take_0 .nil pass0 (pa_cons (pv 0) (pa_cons pe_int pa_nil)))) (pss_cons (ps_set (i := 7) nd rfl (by first | exact Or.inl rfl | exact Or.inr rfl) (pe_cmpR Lv.op_eqI (pe_call G_law_take_0 (hr.mono (by decide)) (by rfl) T.a_law_take_0 T.F_law_take_0.kp T.b_law_take_0 .nil pass0 (pa_cons (pv 0) (pa_cons pe_int pa_nil))) pe_int (nomark _))) (pss_cons (ps_set (i := 8) nd rfl (by first | exact Or.inl rfl | exact Or.inr rfl) (Lv.pe_strS (l := []) (by decide +kernel))) (pss_cons (ps_for PassesOwn.never (by rfl) (pi_range1 (by rfl) T.z_range (pa_cons (pv 3) pa_nil)) (pg_name (i := 9) nd rfl (by first | exact Or.inl rfl | exact Or.inr rfl)) (pss_cons (ps_set (i := 10) nd rfl (by first | exact Or.inl rfl | exact Or.inr rfl) (pe_op op_mod (pe_op op_add (pe_op op_add (pe_op op_add (pe_op op_mul (pe_op op_mul (pv 9) (pv 9)) (pv 4)) (pe_op op_mul (pv 9) (pv 5))) (pe_op op_mul (pe_op op_fdiv (pv 9) pe_int) pe_int)) (pv 6)) pe_int)) (Evl.pss_cut (ps_if (PW.pt (pw_or (pt_cmpR op_lt (pv 3) pe_int (nomark _)) (pw_or1 (PW.pt (pw_and (pt_val (pv 7)) (pw_and1 (pt_cmpR op_gt (pe_callB call_len_seq (by rfl) T.z_len (by decide +kernel) (pa_cons (pv 0) pa_nil)) pe_int (nomark _)))))))) (pss_one (ps_set (i := 10) nd rfl (by first | exact Or.inl rfl | exact Or.inr rfl) (pe_call G_law_take_0 (hr.mono (by decide)) (by rfl) T.a_law_take_0 T.F_law_take_0.kp T.b_law_take_0 .nil pass0 (pa_cons (pv 0) (pa_cons pe_int pa_nil))))) pss_nil) (pss_one (ps_set (i := 8) nd rfl (by first | exact Or.inl rfl | exact Or.inr rfl) (pe_op Lv.op_addS (pv 8) (pe_ix ix_list (pv 1) (pe_op op_mod (pv 10) (pe_callB call_len_seq (by rfl) T.z_len (by decide +kernel) (pa_cons (pv 1) pa_nil))) (fun _ _ => rfl)))))))) (pss_one (ps_ret (pv 8)))))))))))
theorem ok_law_some_letters_0 (T : Txt K mg) : FnOk P w K mg base CX0 2 T.f_law_some_letters_0 T.fd_law_some_letters_0 ["draws", "signs"] (sp_law_some_letters_0 K) := by
  have nd := sc_law_some_letters_0.nd
  have G_law_take_0 := ok_law_take_0 (P := P) (w := w) (base := base) T
  have G_law_abc_0 := ok_law_abc_0 (P := P) (w := w) (base := base) T
  refine T.F_law_some_letters_0.ok sc_law_some_letters_0 (fun vs H Q E h => ?_) (fun cdv A outer s H vs Q E hr h => ⟨t_law_some_letters_0 K, ?_, pure_law_some_letters_0 vs H Q E h⟩)
  · unfold sp_law_some_letters_0 at h
    repeat (first | (obtain ⟨rfl, _⟩ := h; rfl) | (obtain ⟨_, h⟩ := h))
  · unfold t_law_some_letters_0
    exact (pss_cons (ps_set (i := 2) nd rfl (by first | exact Or.inl rfl | exact Or.inr rfl) (Lv.pe_strS (l := [97, 98, 99, 100, 101, 102, 103, 104, 105, 106, 107, 108, 109, 110, 111, 112, 113, 114, 115, 116, 117, 118, 119, 120, 121, 122]) (by decide +kernel))) (pss_cons (ps_set (i := 3) nd rfl (by first | exact Or.inl rfl | exact Or.inr rfl) (pe_call G_law_take_0 (hr.mono (by decide)) (by rfl) T.a_law_take_0 T.F_law_take_0.kp T.b_law_take_0 .nil pass0 (pa_cons (pv 0) (pa_cons pe_int pa_nil)))) (pss_cons (ps_set (i := 4) nd rfl (by first | exact Or.inl rfl | exact Or.inr rfl) (pe_callTy call_list_of (by rfl) T.z_list (by decide +kernel) (pa_cons (pv 1) pa_nil))) (Evl.pss_cut (ps_if (pt_cmpR Lv.op_eqI (pv 3) pe_int (nomark _)) (pss_one (ps_set (i := 4) nd rfl (by first | exact Or.inl rfl | exact Or.inr rfl) (pe_op op_cat (pe_lc (own := [("k", 5), ("letter", 6)]) (g := (gTup K 2 (gCons (gName 5) (gCons (gName 6) gNil)))) (tt := (tTest (tOp Lv.rGt (tOp Lv.rMod (tOp Lv.rAdd (tVar 5) (tCall (sp_law_take_0 K) [] E0 (tCons (tVar 0) (tCons (tC (.int 3)) tNil)))) (tC (.int 3))) (tC (.int 0))))) (by rfl) nd (pi_enum (by rfl) T.z_enumerate (pa_cons (pv 1) pa_nil)) (blkOk_by (own := [("k", 5), ("letter", 6)]) (N := N_law_some_letters_0) (sc := defScope s_law_some_letters_0) (by decide +kernel)) (fun _ _ _ _ _ => (pg_tup (by rfl) (pgs_cons (pg_name (i := 5) nd rfl (by first | exact Or.inl rfl | exact Or.inr rfl)) (pgs_cons (pg_name (i := 6) nd rfl (by first | exact Or.inl rfl | exact Or.inr rfl)) pgs_nil)))) (fun _ _ _ _ _ => (pts_one (pt_cmpR op_gt (pe_op op_mod (pe_op op_add (pv 5) (pe_call G_law_take_0 (hr.mono (by decide)) (by rfl) T.a_law_take_0 T.F_law_take_0.kp T.b_law_take_0 .nil pass0 (pa_cons (pv 0) (pa_cons pe_int pa_nil)))) pe_int) pe_int (nomark _)))) (fun _ _ _ _ _ => (pv 6))) (pe_slice sl_list (pv 1) po_none (po_some pe_int))))) pss_nil) (Evl.pss_cut (ps_if (pt_cmpR Lv.op_eqI (pv 3) pe_int (nomark _)) (pss_one (ps_set (i := 4) nd rfl (by first | exact Or.inl rfl | exact Or.inr rfl) (pe_op op_cat (pv 4) (pe_lst (pa_cons (pe_call G_law_abc_0 (hr.mono (by decide)) (by rfl) T.a_law_abc_0 T.F_law_abc_0.kp T.b_law_abc_0 .nil pass0 (pa_cons (pe_call G_law_take_0 (hr.mono (by decide)) (by rfl) T.a_law_take_0 T.F_law_take_0.kp T.b_law_take_0 .nil pass0 (pa_cons (pv 0) (pa_cons pe_int pa_nil))) pa_nil)) pa_nil))))) pss_nil) (Evl.pss_cut (ps_if (pt_cmpR Lv.op_eqI (pv 3) pe_int (nomark _)) (pss_one (ps_set (i := 4) nd rfl (by first | exact Or.inl rfl | exact Or.inr rfl) (pe_lst (pa_cons (pe_ix ix_list (pv 1) (pe_call G_law_take_0 (hr.mono (by decide)) (by rfl) T.a_law_take_0 T.F_law_take_0.kp T.b_law_take_0 .nil pass0 (pa_cons (pv 0) (pa_cons (pe_callB call_len_seq (by rfl) T.z_len (by decide +kernel) (pa_cons (pv 1) pa_nil)) pa_nil))) (fun _ _ => rfl)) pa_nil)))) pss_nil) (Evl.pss_cut (ps_if (pt_cmpR Lv.op_eqI (pv 3) pe_int (nomark _)) (pss_one (ps_setLc (i := 4) (own := [("k", 5)]) (g := (gName 5)) (tt := tYes) (by rfl) nd rfl rfl (sw_true rfl rfl rfl (by decide +kernel)) (pi_range1 (by rfl) T.z_range (pa_cons (pe_op op_add pe_int (pe_call G_law_take_0 (hr.mono (by decide)) (by rfl) T.a_law_take_0 T.F_law_take_0.kp T.b_law_take_0 .nil pass0 (pa_cons (pv 0) (pa_cons pe_int pa_nil)))) pa_nil)) (blkOk_by (own := [("k", 5)]) (N := N_law_some_letters_0) (sc := defScope s_law_some_letters_0) (by decide +kernel)) (fun _ _ _ _ _ => (pg_name (i := 5) nd rfl (by first | exact Or.inl rfl | exact Or.inr rfl))) (fun _ _ _ _ _ => pts_nil) (fun _ _ _ _ _ => (pe_call G_law_abc_0 (hr.mono (by decide)) (by rfl) T.a_law_abc_0 T.F_law_abc_0.kp T.b_law_abc_0 .nil pass0 (pa_cons (pe_call G_law_take_0 (hr.mono (by decide)) (by rfl) T.a_law_take_0 T.F_law_take_0.kp T.b_law_take_0 .nil pass0 (pa_cons (pv 0) (pa_cons pe_int pa_nil))) pa_nil))))) pss_nil) (Evl.pss_cut (ps_if (PW.pt (pw_and (pt_cmpR Lv.op_eqI (pv 3) pe_int (nomark _)) (pw_and1 (pt_cmpR Lv.op_eqI (pe_call G_law_take_0 (hr.mono (by decide)) (by rfl) T.a_law_take_0 T.F_law_take_0.kp T.b_law_take_0 .nil pass0 (pa_cons (pv 0) (pa_cons pe_int pa_nil))) pe_int (nomark _))))) (pss_one (ps_set (i := 4) nd rfl (by first | exact Or.inl rfl | exact Or.inr rfl) (pe_callTy (Lv.call_listS (by rfl)) (by rfl) T.z_list (by decide +kernel) (pa_cons (pv 2) pa_nil)))) pss_nil) (pss_one (ps_ret (pe_bm PySem.F.plainAttrs_str PySem.F.slot_str_join PySem.F.type_str_join Lv.mt_joinS (Lv.pe_strS (l := []) (by decide +kernel)) (pa_cons (Lv.pe_sortSetL (by rfl) (by rfl) T.z_sorted (by rfl) T.z_set (pa_cons (pv 4) pa_nil)) pa_nil))))))))))))
theorem ok_law_arches_0 (T : Txt K mg) : FnOk P w K mg base CX0 1 T.f_law_arches_0 T.fd_law_arches_0 ["row", "letters"] (sp_law_arches_0 K) := by
  have nd := sc_law_arches_0.nd
  refine T.F_law_arches_0.ok sc_law_arches_0 (fun vs H Q E h => ?_) (fun cdv A outer s H vs Q E hr h => ⟨t_law_arches_0 K, ?_, pure_law_arches_0 vs H Q E h⟩)
  · unfold sp_law_arches_0 at h
    repeat (first | (obtain ⟨rfl, _⟩ := h; rfl) | (obtain ⟨_, h⟩ := h))
  · unfold t_law_arches_0
    exact (pss_cons (ps_set (i := 2) nd rfl (by first | exact Or.inl rfl | exact Or.inr rfl) (pe_lst pa_nil)) (pss_cons (ps_set (i := 3) nd rfl (by first | exact Or.inl rfl | exact Or.inr rfl) (pe_callTy (Lv.call_listS (by rfl)) (by rfl) T.z_list (by decide +kernel) (pa_cons (pv 1) pa_nil))) (pss_cons (ps_for PassesOwn.never (by rfl) (pi_range1 (by rfl) T.z_range (pa_cons (pe_callB Lv.call_lenT (by rfl) T.z_len (by decide +kernel) (pa_cons (pv 0) pa_nil)) pa_nil)) (pg_name (i := 4) nd rfl (by first | exact Or.inl rfl | exact Or.inr rfl)) (pss_cons (ps_setLc (i := 3) (own := [("letter", 5)]) (g := (gName 5)) (tt := (tTest (tOp Lv.rNeS (tVar 5) (tOp Lv.rIxT1 (tVar 0) (tVar 4))))) (by rfl) nd rfl rfl (sw_true rfl rfl rfl (by decide +kernel)) (pi_list (pv 3)) (blkOk_by (own := [("letter", 5)]) (N := N_law_arches_0) (sc := defScope s_law_arches_0) (by decide +kernel)) (fun _ _ _ _ _ => (pg_name (i := 5) nd rfl (by first | exact Or.inl rfl | exact Or.inr rfl))) (fun _ _ _ _ _ => (pts_one (pt_cmpR Lv.op_neS (pv 5) (pe_ix Lv.ix_S (pv 0) (pv 4) (fun _ _ => rfl)) (nomark _)))) (fun _ _ _ _ _ => (pv 5))) (pss_one (ps_if (pt_cmpR (Lv.op_eqLS hr.units) (pv 3) (pe_lst pa_nil) (nomark _)) (pss_cons (ps_expr (pe_bm PySem.F.plainAttrs_list PySem.F.slot_list_append PySem.F.type_list_append mt_append (pv 2) (pa_cons (pe_op op_add (pv 4) pe_int) pa_nil))) (pss_one (ps_set (i := 3) nd rfl (by first | exact Or.inl rfl | exact Or.inr rfl) (pe_callTy (Lv.call_listS (by rfl)) (by rfl) T.z_list (by decide +kernel) (pa_cons (pv 1) pa_nil))))) pss_nil)))) (pss_one (ps_ret (pv 2))))))
theorem ok_law_deep_1y (T : Txt K mg) : FnOk P w K mg base CX0 1 T.f_law_deep_1y T.fd_law_deep_1y ["many"] (sp_law_deep_1y K) := by
  have nd := sc_law_deep_1y.nd
  refine T.F_law_deep_1y.ok sc_law_deep_1y (fun vs H Q E h => ?_) (fun cdv A outer s H vs Q E hr h => ⟨t_law_deep_1y K, ?_, pure_law_deep_1y vs H Q E h⟩)
  · unfold sp_law_deep_1y at h
    repeat (first | (obtain ⟨rfl, _⟩ := h; rfl) | (obtain ⟨_, h⟩ := h))
  · unfold t_law_deep_1y
    exact (pss_cons (ps_set (i := 1) nd rfl (by first | exact Or.inl rfl | exact Or.inr rfl) (pe_lst pa_nil)) (pss_cons (ps_for PassesOwn.never (by rfl) (pi_range1 (by rfl) T.z_range (pa_cons (pv 0) pa_nil)) (pg_name (i := 2) nd rfl (by first | exact Or.inl rfl | exact Or.inr rfl)) (pss_one (ps_set (i := 1) nd rfl (by first | exact Or.inl rfl | exact Or.inr rfl) (pe_lst (pa_cons (pv 1) pa_nil))))) (pss_one (ps_ret (pv 1)))))
theorem ok_law_shown_0 (T : Txt K mg) : FnOk P w K mg base CX0 1 T.f_law_shown_0 T.fd_law_shown_0 ["row", "letters", "thing"] (sp_law_shown_0 K) := by
  have nd := sc_law_shown_0.nd
  refine T.F_law_shown_0.ok sc_law_shown_0 (fun vs H Q E h => ?_) (fun cdv A outer s H vs Q E hr h => ⟨t_law_shown_0 K, ?_, pure_law_shown_0 vs H Q E h⟩)
  · unfold sp_law_shown_0 at h
    repeat (first | (obtain ⟨rfl, _⟩ := h; rfl) | (obtain ⟨_, h⟩ := h))
  · unfold t_law_shown_0
    exact (pss_cons (ps_if (pt_not (pt_val (pe_callB Lv.call_is1 (by rfl) T.z_isinstance (by decide +kernel) (pa_cons (pv 2) (pa_cons (pe_bltn (v := .ty "list") (u := .type "list") (by rfl) T.z_list (by decide +kernel) rfl) pa_nil))))) (pss_one (ps_ret pe_non)) pss_nil) (pss_cons (ps_set (i := 3) nd rfl (by first | exact Or.inl rfl | exact Or.inr rfl) pe_int) (pss_cons (ps_for PassesOwn.never (by rfl) (pi_list (pv 2)) (pg_name (i := 4) nd rfl (by first | exact Or.inl rfl | exact Or.inr rfl)) (pss_cons (ps_if (PW.pt (pw_or (pt_not (pt_val (pe_callB Lv.call_is1 (by rfl) T.z_isinstance (by decide +kernel) (pa_cons (pv 4) (pa_cons (pe_bltn (v := .ty "int") (u := .type "int") (by rfl) T.z_int (by decide +kernel) rfl) pa_nil))))) (pw_or (pt_val (pe_callB Lv.call_is1 (by rfl) T.z_isinstance (by decide +kernel) (pa_cons (pv 4) (pa_cons (pe_bltn (v := .ty "bool") (u := .type "bool") (by rfl) T.z_bool (by decide +kernel) rfl) pa_nil)))) (pw_or (pt_cmpR op_lt (pv 4) (pv 3) (nomark _)) (pw_or1 (pt_cmpR op_gt (pv 4) (pe_callB Lv.call_lenT (by rfl) T.z_len (by decide +kernel) (pa_cons (pv 0) pa_nil)) (nomark _))))))) (pss_one (ps_ret pe_non)) pss_nil) (pss_cons (ps_if (pt_cmpR (Lv.op_neLS hr.units) (pe_lc (own := [("letter", 5)]) (g := (gName 5)) (tt := (tTest (tOp Lv.rEqI (tBM K "str" Lv.rCount (tSl Lv.rSlS1 (tVar 0) (tPart (tVar 3)) (tPart (tVar 4))) (tCons (tVar 5) tNil)) (tC (.int 0))))) (by rfl) nd (pi_str (pv 1)) (blkOk_by (own := [("letter", 5)]) (N := N_law_shown_0) (sc := defScope s_law_shown_0) (by decide +kernel)) (fun _ _ _ _ _ => (pg_name (i := 5) nd rfl (by first | exact Or.inl rfl | exact Or.inr rfl))) (fun _ _ _ _ _ => (pts_one (pt_cmpR Lv.op_eqI (pe_bm PySem.F.plainAttrs_str PySem.F.slot_str_count PySem.F.type_str_count Lv.mt_countS (pe_slice Lv.sl_S (pv 0) (po_some (pv 3)) (po_some (pv 4))) (pa_cons (pv 5) pa_nil)) pe_int (nomark _)))) (fun _ _ _ _ _ => (pv 5))) (pe_lst pa_nil) (nomark _)) (pss_one (ps_ret pe_non)) pss_nil) (pss_one (ps_set (i := 3) nd rfl (by first | exact Or.inl rfl | exact Or.inr rfl) (pv 4)))))) (pss_one (ps_ret (pe_callB call_len_seq (by rfl) T.z_len (by decide +kernel) (pa_cons (pv 2) pa_nil)))))))
theorem ok_law_whole_1 (T : Txt K mg) : FnOk P w K mg base CX0 1 T.f_law_whole_1 T.fd_law_whole_1 ["thing"] (sp_law_whole_1 K) := by
  have nd := sc_law_whole_1.nd
  refine T.F_law_whole_1.ok sc_law_whole_1 (fun vs H Q E h => ?_) (fun cdv A outer s H vs Q E hr h => ⟨t_law_whole_1 K, ?_, pure_law_whole_1 vs H Q E h⟩)
  · unfold sp_law_whole_1 at h
    repeat (first | (obtain ⟨rfl, _⟩ := h; rfl) | (obtain ⟨_, h⟩ := h))
  · unfold t_law_whole_1
    exact (pss_one (ps_ret (pe_and (pe_callB Lv.call_is1 (by rfl) T.z_isinstance (by decide +kernel) (pa_cons (pv 0) (pa_cons (pe_bltn (v := .ty "int") (u := .type "int") (by rfl) T.z_int (by decide +kernel) rfl) pa_nil))) (pe_one (pe_not (pe_callB Lv.call_is1 (by rfl) T.z_isinstance (by decide +kernel) (pa_cons (pv 0) (pa_cons (pe_bltn (v := .ty "bool") (u := .type "bool") (by rfl) T.z_bool (by decide +kernel) rfl) pa_nil))))))))
theorem ok_law_right_8 (T : Txt K mg) : FnG P w K mg base CX0 3 T.f_law_right_8 T.fd_law_right_8 ["row", "letters", "thing"] (sp_law_right_8 K) := by
  have nd := sc_law_right_8.nd
  have G_shows_1y := ok_shows_1y (P := P) (w := w) (base := base) T
  have G_law_shown_0 := ok_law_shown_0 (P := P) (w := w) (base := base) T
  have G_law_whole_1 := ok_law_whole_1 (P := P) (w := w) (base := base) T
  refine Lv.Fun_okG T.F_law_right_8 sc_law_right_8 (fun vs H Q E h => ?_) (fun cdv A outer s H vs Q E hr hgd h => ⟨t_law_right_8 K, ?_, pure_law_right_8 vs H Q E h⟩)
  · unfold sp_law_right_8 at h
    repeat (first | (obtain ⟨rfl, _⟩ := h; rfl) | (obtain ⟨_, h⟩ := h))
  · unfold t_law_right_8
    exact (pss_cons (ps_set (i := 3) nd rfl (by first | exact Or.inl rfl | exact Or.inr rfl) (pe_call G_law_shown_0 (hr.mono (by decide)) (by rfl) T.a_law_shown_0 T.F_law_shown_0.kp T.b_law_shown_0 .nil pass0 (pa_cons (pv 0) (pa_cons (pv 1) (pa_cons (pv 2) pa_nil))))) (pss_cons (ps_set (i := 4) nd rfl (by first | exact Or.inl rfl | exact Or.inr rfl) (pe_callB (Lv.call_repr3 hgd hr.units) (by rfl) T.z_repr (by decide +kernel) (pa_cons (pv 2) pa_nil))) (pss_cons (ps_for PassesOwn.never (by rfl) (pi_range1 (by rfl) T.z_range (pa_cons pe_int pa_nil)) (pg_name (i := 5) nd rfl (by first | exact Or.inl rfl | exact Or.inr rfl)) (pss_cons (ps_set (i := 6) nd rfl (by first | exact Or.inl rfl | exact Or.inr rfl) (pe_call G_shows_1y (hr.mono (by decide)) (by rfl) T.a_shows_1y T.F_shows_1y.kp T.b_shows_1y .nil pass0 (pa_cons (pv 0) (pa_cons (pv 1) (pa_cons (pv 2) pa_nil))))) (pss_cons (ps_if (PW.pt (pw_or (pt_cmpR Lv.op_neS (pe_callB (Lv.call_repr3 hgd hr.units) (by rfl) T.z_repr (by decide +kernel) (pa_cons (pv 2) pa_nil)) (pv 4) (nomark _)) (pw_or1 (pt_cmpR Lv.op_neB (pe_cmpR Lv.op_isN1 (pv 6) pe_non (nomark _)) (pe_cmpR Lv.op_isN1 (pv 3) pe_non (nomark _)) (nomark _))))) (pss_one (ps_ret pe_bl)) pss_nil) (pss_one (ps_if (PW.pt (pw_and (pt_cmpR Lv.op_notN1 (pv 3) pe_non (nomark _)) (pw_and1 (PW.pt (pw_or (pt_not (pt_val (pe_call G_law_whole_1 (hr.mono (by decide)) (by rfl) T.a_law_whole_1 T.F_law_whole_1.kp T.b_law_whole_1 .nil pass0 (pa_cons (pv 6) pa_nil)))) (pw_or1 (pt_cmpR (Lv.op_neO hr.units) (pv 6) (pv 3) (nomark _)))))))) (pss_one (ps_ret pe_bl)) pss_nil))))) (pss_one (ps_ret pe_bl)))))
theorem ok_law_odd_0 (T : Txt K mg) : FnOk P w K mg base CX0 2 T.f_law_odd_0 T.fd_law_odd_0 ["draws", "size"] (sp_law_odd_0 K) := by
  have nd := sc_law_odd_0.nd
  have G_law_take_0 := ok_law_take_0 (P := P) (w := w) (base := base) T
  refine T.F_law_odd_0.ok sc_law_odd_0 (fun vs H Q E h => ?_) (fun cdv A outer s H vs Q E hr h => ⟨t_law_odd_0 K, ?_, pure_law_odd_0 vs H Q E h⟩)
  · unfold sp_law_odd_0 at h
    repeat (first | (obtain ⟨rfl, _⟩ := h; rfl) | (obtain ⟨_, h⟩ := h))
  · unfold t_law_odd_0
    exact (pss_cons (ps_set (i := 2) nd rfl (by first | exact Or.inl rfl | exact Or.inr rfl) (pe_lst (pa_cons pe_bl (pa_cons pe_bl (pa_cons pe_non (pa_cons (Lv.pe_strS (l := [49]) (by decide +kernel)) (pa_cons (Lv.pe_strS (l := []) (by decide +kernel)) (pa_cons (pe_lst (pa_cons pe_int pa_nil)) (pa_cons (pe_tup (pa_cons pe_int pa_nil)) (pa_cons pe_dnewK (pa_cons (pe_un un_neg pe_int) (pa_cons pe_int (pa_cons (pv 1) (pa_cons (pe_op op_add (pv 1) pe_int) (pa_cons (pe_op op_pow pe_int pe_int) pa_nil))))))))))))))) (pss_one (ps_ret (pe_ix ix_list (pv 2) (pe_call G_law_take_0 (hr.mono (by decide)) (by rfl) T.a_law_take_0 T.F_law_take_0.kp T.b_law_take_0 .nil pass0 (pa_cons (pv 0) (pa_cons pe_int pa_nil))) (fun _ _ => rfl)))))
theorem ok_law_spoilt_1 (T : Txt K mg) : FnOk P w K mg base CX0 3 T.f_law_spoilt_1 T.fd_law_spoilt_1 ["draws", "some", "size"] (sp_law_spoilt_1 K) := by
  have nd := sc_law_spoilt_1.nd
  have G_law_take_0 := ok_law_take_0 (P := P) (w := w) (base := base) T
  have G_law_odd_0 := ok_law_odd_0 (P := P) (w := w) (base := base) T
  refine T.F_law_spoilt_1.ok sc_law_spoilt_1 (fun vs H Q E h => ?_) (fun cdv A outer s H vs Q E hr h => ⟨t_law_spoilt_1 K, ?_, pure_law_spoilt_1 vs H Q E h⟩)
  · unfold sp_law_spoilt_1 at h
    repeat (first | (obtain ⟨rfl, _⟩ := h; rfl) | (obtain ⟨_, h⟩ := h))
  · unfold t_law_spoilt_1
    exact (pss_cons (ps_set (i := 3) nd rfl (by first | exact Or.inl rfl | exact Or.inr rfl) (pe_op op_mod (pe_call G_law_take_0 (hr.mono (by decide)) (by rfl) T.a_law_take_0 T.F_law_take_0.kp T.b_law_take_0 .nil pass0 (pa_cons (pv 0) (pa_cons pe_int pa_nil))) (pe_op op_add (pe_callB call_len_seq (by rfl) T.z_len (by decide +kernel) (pa_cons (pv 1) pa_nil)) pe_int))) (pss_cons (ps_set (i := 4) nd rfl (by first | exact Or.inl rfl | exact Or.inr rfl) (pe_ix ix_list (pe_op op_cat (pv 1) (pe_lst (pa_cons (pv 2) pa_nil))) (pv 3) (fun _ _ => rfl))) (pss_cons (ps_set (i := 5) nd rfl (by first | exact Or.inl rfl | exact Or.inr rfl) (pe_call G_law_take_0 (hr.mono (by decide)) (by rfl) T.a_law_take_0 T.F_law_take_0.kp T.b_law_take_0 .nil pass0 (pa_cons (pv 0) (pa_cons pe_int pa_nil)))) (pss_cons (ps_if (pt_cmpR Lv.op_eqI (pv 5) pe_int (nomark _)) (pss_one (ps_ret (pe_op op_cat (pe_slice sl_list (pv 1) po_none (po_some (pv 3))) (pe_slice sl_list (pv 1) (po_some (pe_op op_add (pv 3) pe_int)) po_none)))) pss_nil) (pss_cons (ps_if (pt_cmpR Lv.op_eqI (pv 5) pe_int (nomark _)) (pss_one (ps_ret (pe_op op_cat (pe_op op_cat (pe_slice sl_list (pv 1) po_none (po_some (pv 3))) (pe_lst (pa_cons (pv 4) pa_nil))) (pe_slice sl_list (pv 1) (po_some (pv 3)) po_none)))) pss_nil) (pss_cons (ps_if (pt_cmpR Lv.op_eqI (pv 5) pe_int (nomark _)) (pss_one (ps_ret (pe_op op_cat (pe_op op_cat (pe_slice sl_list (pv 1) po_none (po_some (pv 3))) (pe_revL (pe_slice sl_list (pv 1) (po_some (pv 3)) (po_some (pe_op op_add (pv 3) pe_int))))) (pe_slice sl_list (pv 1) (po_some (pe_op op_add (pv 3) pe_int)) po_none)))) pss_nil) (pss_cons (ps_if (PW.pt (pw_and (pt_cmpR op_lt (pv 5) pe_int (nomark _)) (pw_and1 (pt_val (pe_callB Lv.call_is1 (by rfl) T.z_isinstance (by decide +kernel) (pa_cons (pv 4) (pa_cons (pe_bltn (v := .ty "int") (u := .type "int") (by rfl) T.z_int (by decide +kernel) rfl) pa_nil))))))) (pss_one (ps_ret (pe_op op_cat (pe_op op_cat (pe_slice sl_list (pv 1) po_none (po_some (pv 3))) (pe_lst (pa_cons (pe_op Lv.op_addBI (pv 4) (pe_ix ix_list (pe_lst (pa_cons pe_int (pa_cons (pe_un un_neg pe_int) (pa_cons pe_int (pa_cons (pe_un un_neg pe_int) pa_nil))))) (pe_call G_law_take_0 (hr.mono (by decide)) (by rfl) T.a_law_take_0 T.F_law_take_0.kp T.b_law_take_0 .nil pass0 (pa_cons (pv 0) (pa_cons pe_int pa_nil))) (fun _ _ => rfl))) pa_nil))) (pe_slice sl_list (pv 1) (po_some (pe_op op_add (pv 3) pe_int)) po_none)))) pss_nil) (pss_cons (ps_if (pt_cmpR Lv.op_eqI (pv 5) pe_int (nomark _)) (pss_one (ps_ret (pe_op op_cat (pe_op op_cat (pe_slice sl_list (pv 1) po_none (po_some (pv 3))) (pe_lst (pa_cons (pe_call G_law_take_0 (hr.mono (by decide)) (by rfl) T.a_law_take_0 T.F_law_take_0.kp T.b_law_take_0 .nil pass0 (pa_cons (pv 0) (pa_cons (pe_op op_add (pv 2) pe_int) pa_nil))) pa_nil))) (pe_slice sl_list (pv 1) (po_some (pe_op op_add (pv 3) (pe_call G_law_take_0 (hr.mono (by decide)) (by rfl) T.a_law_take_0 T.F_law_take_0.kp T.b_law_take_0 .nil pass0 (pa_cons (pv 0) (pa_cons pe_int pa_nil))))) po_none)))) pss_nil) (pss_cons (ps_if (PW.pt (pw_and (pt_cmpR Lv.op_eqI (pv 5) pe_int (nomark _)) (pw_and1 (pt_cmpR (Lv.op_eqA hr.units) (pv 4) pe_int (nomark _))))) (pss_one (ps_ret (pe_op op_cat (pe_op op_cat (pe_slice sl_list (pv 1) po_none (po_some (pv 3))) (pe_lst (pa_cons pe_bl pa_nil))) (pe_slice sl_list (pv 1) (po_some (pe_op op_add (pv 3) pe_int)) po_none)))) pss_nil) (pss_one (ps_ret (pe_op op_cat (pe_op op_cat (pe_slice sl_list (pv 1) po_none (po_some (pv 3))) (pe_lst (pa_cons (pe_call G_law_odd_0 (hr.mono (by decide)) (by rfl) T.a_law_odd_0 T.F_law_odd_0.kp T.b_law_odd_0 .nil pass0 (pa_cons (pv 0) (pa_cons (pv 2) pa_nil))) pa_nil))) (pe_slice sl_list (pv 1) (po_some (pe_op op_add (pv 3) (pe_call G_law_take_0 (hr.mono (by decide)) (by rfl) T.a_law_take_0 T.F_law_take_0.kp T.b_law_take_0 .nil pass0 (pa_cons (pv 0) (pa_cons pe_int pa_nil))))) po_none)))))))))))))
theorem ok_law_loose_0 (T : Txt K mg) : FnOk P w K mg base CX0 2 T.f_law_loose_0 T.fd_law_loose_0 ["draws", "row", "letters"] (sp_law_loose_0 K) := by
  have nd := sc_law_loose_0.nd
  have G_law_take_0 := ok_law_take_0 (P := P) (w := w) (base := base) T
  refine T.F_law_loose_0.ok sc_law_loose_0 (fun vs H Q E h => ?_) (fun cdv A outer s H vs Q E hr h => ⟨t_law_loose_0 K, ?_, pure_law_loose_0 vs H Q E h⟩)
  · unfold sp_law_loose_0 at h
    repeat (first | (obtain ⟨rfl, _⟩ := h; rfl) | (obtain ⟨_, h⟩ := h))
  · unfold t_law_loose_0
    exact (pss_cons (ps_set (i := 3) nd rfl (by first | exact Or.inl rfl | exact Or.inr rfl) (pe_lst pa_nil)) (pss_cons (ps_set (i := 4) nd rfl (by first | exact Or.inl rfl | exact Or.inr rfl) pe_int) (pss_cons (ps_for PassesOwn.never (by rfl) (pi_range2 (by rfl) T.z_range (pa_cons pe_int (pa_cons (pe_op op_add (pe_callB Lv.call_lenT (by rfl) T.z_len (by decide +kernel) (pa_cons (pv 1) pa_nil)) pe_int) pa_nil))) (pg_name (i := 5) nd rfl (by first | exact Or.inl rfl | exact Or.inr rfl)) (pss_cons (ps_setLc (i := 6) (own := [("letter", 7)]) (g := (gName 7)) (tt := (tTest (tOp (Lv.rIn1 true) (tVar 7) (tSl Lv.rSlS1 (tVar 1) (tPart (tVar 4)) (tPart (tVar 5)))))) (by rfl) nd rfl rfl (sw_true rfl rfl rfl (by decide +kernel)) (pi_str (pv 2)) (blkOk_by (own := [("letter", 7)]) (N := N_law_loose_0) (sc := defScope s_law_loose_0) (by decide +kernel)) (fun _ _ _ _ _ => (pg_name (i := 7) nd rfl (by first | exact Or.inl rfl | exact Or.inr rfl))) (fun _ _ _ _ _ => (pts_one (pt_cmpR Lv.op_notIn1 (pv 7) (pe_slice Lv.sl_S (pv 1) (po_some (pv 4)) (po_some (pv 5))) (by rfl)))) (fun _ _ _ _ _ => (pv 7))) (pss_one (ps_if (PW.pt (pw_and (pt_cmpR (Lv.op_eqLS hr.units) (pv 6) (pe_lst pa_nil) (nomark _)) (pw_and1 (pt_cmpR Lv.op_neI (pe_call G_law_take_0 (hr.mono (by decide)) (by rfl) T.a_law_take_0 T.F_law_take_0.kp T.b_law_take_0 .nil pass0 (pa_cons (pv 0) (pa_cons pe_int pa_nil))) pe_int (nomark _))))) (pss_cons (ps_expr (pe_bm PySem.F.plainAttrs_list PySem.F.slot_list_append PySem.F.type_list_append mt_append (pv 3) (pa_cons (pv 5) pa_nil))) (pss_one (ps_set (i := 4) nd rfl (by first | exact Or.inl rfl | exact Or.inr rfl) (pv 5)))) pss_nil)))) (pss_one (ps_ret (pv 3))))))
theorem ok_law_things_0 (T : Txt K mg) : FnG P w K mg base CX0 4 T.f_law_things_0 T.fd_law_things_0 ["draws", "row", "letters"] (sp_law_things_0 K) := by
  have nd := sc_law_things_0.nd
  have G_law_arches_0 := ok_law_arches_0 (P := P) (w := w) (base := base) T
  have G_law_spoilt_1 := ok_law_spoilt_1 (P := P) (w := w) (base := base) T
  have G_law_loose_0 := ok_law_loose_0 (P := P) (w := w) (base := base) T
  refine Lv.Fun_okG T.F_law_things_0 sc_law_things_0 (fun vs H Q E h => ?_) (fun cdv A outer s H vs Q E hr hgd h => ⟨t_law_things_0 K, ?_, pure_law_things_0 vs H Q E h⟩)
  · unfold sp_law_things_0 at h
    repeat (first | (obtain ⟨rfl, _⟩ := h; rfl) | (obtain ⟨_, h⟩ := h))
  · unfold t_law_things_0
    exact (pss_cons (ps_set (i := 3) nd rfl (by first | exact Or.inl rfl | exact Or.inr rfl) (pe_call G_law_arches_0 (hr.mono (by decide)) (by rfl) T.a_law_arches_0 T.F_law_arches_0.kp T.b_law_arches_0 .nil pass0 (pa_cons (pv 1) (pa_cons (pv 2) pa_nil)))) (pss_cons (ps_set (i := 4) nd rfl (by first | exact Or.inl rfl | exact Or.inr rfl) (pe_callB Lv.call_lenT (by rfl) T.z_len (by decide +kernel) (pa_cons (pv 1) pa_nil))) (pss_cons (ps_set (i := 5) nd rfl (by first | exact Or.inl rfl | exact Or.inr rfl) (pe_call G_law_loose_0 (hr.mono (by decide)) (by rfl) T.a_law_loose_0 T.F_law_loose_0.kp T.b_law_loose_0 .nil pass0 (pa_cons (pv 0) (pa_cons (pv 1) (pa_cons (pv 2) pa_nil))))) (pss_cons (ps_set (i := 6) nd rfl (by first | exact Or.inl rfl | exact Or.inr rfl) (pe_call G_law_spoilt_1 (hr.mono (by decide)) (by rfl) T.a_law_spoilt_1 T.F_law_spoilt_1.kp T.b_law_spoilt_1 .nil pass0 (pa_cons (pv 0) (pa_cons (pv 3) (pa_cons (pv 4) pa_nil))))) (pss_cons (ps_set (i := 7) nd rfl (by first | exact Or.inl rfl | exact Or.inr rfl) (pe_lst (pa_cons (pv 3) (pa_cons (pv 5) (pa_cons (pe_slice sl_list (pv 3) po_none (po_some (pe_un un_neg pe_int))) (pa_cons (pe_slice sl_list (pv 3) (po_some pe_int) po_none) (pa_cons (pe_lst pa_nil) (pa_cons (pe_op op_cat (pe_slice sl_list (pv 3) po_none (po_some (pe_un un_neg pe_int))) (pe_lst (pa_cons (pv 4) pa_nil))) (pa_cons (pe_op op_cat (pv 3) (pe_lst (pa_cons (pv 4) pa_nil))) (pa_cons (pe_lst (pa_cons (pv 4) pa_nil)) (pa_cons (pe_lst (pa_cons pe_int pa_nil)) (pa_cons (pe_lst (pa_cons pe_int pa_nil)) (pa_cons (pe_lst (pa_cons pe_bl pa_nil)) pa_nil))))))))))))) (pss_cons (ps_set (i := 7) nd rfl (by first | exact Or.inl rfl | exact Or.inr rfl) (pe_op op_cat (pv 7) (pe_lst (pa_cons (pv 6) (pa_cons (pe_call G_law_spoilt_1 (hr.mono (by decide)) (by rfl) T.a_law_spoilt_1 T.F_law_spoilt_1.kp T.b_law_spoilt_1 .nil pass0 (pa_cons (pv 0) (pa_cons (pv 6) (pa_cons (pv 4) pa_nil)))) (pa_cons (pe_call G_law_spoilt_1 (hr.mono (by decide)) (by rfl) T.a_law_spoilt_1 T.F_law_spoilt_1.kp T.b_law_spoilt_1 .nil pass0 (pa_cons (pv 0) (pa_cons (pv 5) (pa_cons (pv 4) pa_nil)))) pa_nil)))))) (pss_cons (ps_expr (pe_bm PySem.F.plainAttrs_list PySem.F.slot_list_append PySem.F.type_list_append mt_append (pv 7) (pa_cons (pe_call G_law_spoilt_1 (hr.mono (by decide)) (by rfl) T.a_law_spoilt_1 T.F_law_spoilt_1.kp T.b_law_spoilt_1 .nil pass0 (pa_cons (pv 0) (pa_cons (pv 3) (pa_cons (pv 4) pa_nil)))) pa_nil))) (pss_cons (ps_set (i := 7) nd rfl (by first | exact Or.inl rfl | exact Or.inr rfl) (pe_op op_cat (pv 7) (pe_lst (pa_cons (pe_listRg (by rfl) (by rfl) T.z_list (prg_2 (by rfl) T.z_range pe_int (pe_op op_add (pv 4) pe_int))) (pa_cons (pe_callTy Lv.call_tupL (by rfl) T.z_tuple (by decide +kernel) (pa_cons (pv 3) pa_nil)) (pa_cons (pe_lst (pa_cons (pv 3) pa_nil)) (pa_cons (pe_revL (pv 3)) (pa_cons (pe_callTy (Lv.call_strL hgd hr.units) (by rfl) T.z_str (by decide +kernel) (pa_cons (pv 3) pa_nil)) (pa_cons (Lv.pe_dictEn (by rfl) (pv 3) (by rfl) T.z_dict (by rfl) T.z_enumerate) pa_nil))))))))) (pss_one (ps_ret (pe_op op_cat (pv 7) (pe_lst (pa_cons pe_non (pa_cons pe_int (pa_cons pe_bl (pa_cons (Lv.pe_strS (l := []) (by decide +kernel)) (pa_cons (pe_tup pa_nil) (pa_cons pe_dnewK (pa_cons (pe_callB call_len_seq (by rfl) T.z_len (by decide +kernel) (pa_cons (pv 3) pa_nil)) (pa_cons (pe_lst (pa_cons pe_non pa_nil)) (pa_cons (pe_lst (pa_cons (pe_lst pa_nil) pa_nil)) (pa_cons (pe_lst (pa_cons (Lv.pe_strS (l := [49]) (by decide +kernel)) pa_nil)) (pa_cons (pe_lst (pa_cons (pe_un un_neg pe_int) pa_nil)) (pa_cons (pe_lst (pa_cons (pe_op op_add (pv 4) pe_int) pa_nil)) (pa_cons (pe_lst (pa_cons (pe_op op_pow pe_int pe_int) pa_nil)) pa_nil)))))))))))))))))))))))))
theorem ok_law_k39 (T : Txt K mg) : FnG P w K mg base CX0 5 T.f_law_k39 T.fd_law_k39 ["script"] (sp_law_k39 K) := by
  have nd := sc_law_k39.nd
  have G_shows_1y := ok_shows_1y (P := P) (w := w) (base := base) T
  have G_law_draws_0 := ok_law_draws_0 (P := P) (w := w) (base := base) T
  have G_law_take_0 := ok_law_take_0 (P := P) (w := w) (base := base) T
  have G_law_signs_0 := ok_law_signs_0 (P := P) (w := w) (base := base) T
  have G_law_row_2 := ok_law_row_2 (P := P) (w := w) (base := base) T
  have G_law_some_letters_0 := ok_law_some_letters_0 (P := P) (w := w) (base := base) T
  have G_law_arches_0 := ok_law_arches_0 (P := P) (w := w) (base := base) T
  have G_law_deep_1y := ok_law_deep_1y (P := P) (w := w) (base := base) T
  have G_law_right_8 := ok_law_right_8 (P := P) (w := w) (base := base) T
  have G_law_things_0 := ok_law_things_0 (P := P) (w := w) (base := base) T
  refine Lv.Fun_okG T.F_law_k39 sc_law_k39 (fun vs H Q E h => ?_) (fun cdv A outer s H vs Q E hr hgd h => ⟨t_law_k39 K, ?_, pure_law_k39 vs H Q E h⟩)
  · unfold sp_law_k39 at h
    repeat (first | (obtain ⟨rfl, _⟩ := h; rfl) | (obtain ⟨_, h⟩ := h))
  · unfold t_law_k39
    exact (pss_cons (ps_set (i := 1) nd rfl (by first | exact Or.inl rfl | exact Or.inr rfl) (pe_call G_law_draws_0 (hr.mono (by decide)) (by rfl) T.a_law_draws_0 T.F_law_draws_0.kp T.b_law_draws_0 .nil pass0 (pa_cons (pv 0) pa_nil))) (pss_cons (ps_set (i := 2) nd rfl (by first | exact Or.inl rfl | exact Or.inr rfl) pe_int) (pss_cons (ps_while PassesOwn.never (PW.pt (pw_or (pt_cmpR op_lt (pv 2) pe_int (nomark _)) (pw_or1 (PW.pt (pw_and (pt_cmpR (Lv.op_neL hr.units) (pv 1) (pe_lst pa_nil) (nomark _)) (pw_and1 (pt_cmpR op_lt (pv 2) pe_int (nomark _)))))))) (pss_cons (ps_set (i := 3) nd rfl (by first | exact Or.inl rfl | exact Or.inr rfl) (pe_call G_law_signs_0 (hr.mono (by decide)) (by rfl) T.a_law_signs_0 T.F_law_signs_0.kp T.b_law_signs_0 .nil pass0 (pa_cons (pv 1) pa_nil))) (pss_cons (ps_set (i := 4) nd rfl (by first | exact Or.inl rfl | exact Or.inr rfl) (pe_call G_law_row_2 (hr.mono (by decide)) (by rfl) T.a_law_row_2 T.F_law_row_2.kp T.b_law_row_2 .nil pass0 (pa_cons (pv 1) (pa_cons (pv 3) (pa_cons pe_int pa_nil))))) (pss_cons (ps_for PassesOwn.never (by rfl) (pi_tup (pe_tup (pa_cons (pe_call G_law_some_letters_0 (hr.mono (by decide)) (by rfl) T.a_law_some_letters_0 T.F_law_some_letters_0.kp T.b_law_some_letters_0 .nil pass0 (pa_cons (pv 1) (pa_cons (pv 3) pa_nil))) (pa_cons (pe_ix ix_list (pv 3) pe_int (fun _ _ => rfl)) pa_nil)))) (pg_name (i := 5) nd rfl (by first | exact Or.inl rfl | exact Or.inr rfl)) (pss_cons (ps_for PassesOwn.never (by rfl) (pi_list (Lv.pe_callG G_law_things_0 (hr.mono (by decide)) hgd (by rfl) T.a_law_things_0 T.F_law_things_0.kp T.b_law_things_0 (pa_cons (pv 1) (pa_cons (pv 4) (pa_cons (pv 5) pa_nil))))) (pg_name (i := 6) nd rfl (by first | exact Or.inl rfl | exact Or.inr rfl)) (pss_one (ps_if (pt_not (pt_val (Lv.pe_callG G_law_right_8 (hr.mono (by decide)) hgd (by rfl) T.a_law_right_8 T.F_law_right_8.kp T.b_law_right_8 (pa_cons (pv 4) (pa_cons (pv 5) (pa_cons (pv 6) pa_nil)))))) (pss_one (ps_ret pe_bl)) pss_nil))) (pss_cons (ps_set (i := 7) nd rfl (by first | exact Or.inl rfl | exact Or.inr rfl) (pe_call G_law_arches_0 (hr.mono (by decide)) (by rfl) T.a_law_arches_0 T.F_law_arches_0.kp T.b_law_arches_0 .nil pass0 (pa_cons (pv 4) (pa_cons (pv 5) pa_nil)))) (pss_cons (ps_set (i := 8) nd rfl (by first | exact Or.inl rfl | exact Or.inr rfl) (pe_call G_law_take_0 (hr.mono (by decide)) (by rfl) T.a_law_take_0 T.F_law_take_0.kp T.b_law_take_0 .nil pass0 (pa_cons (pv 1) (pa_cons (pe_op op_add (pe_callB call_len_seq (by rfl) T.z_len (by decide +kernel) (pa_cons (pv 7) pa_nil)) pe_int) pa_nil)))) (pss_one (ps_set (i := 9) nd rfl (by first | exact Or.inl rfl | exact Or.inr rfl) (pe_lst (pa_cons (pe_call G_law_deep_1y (hr.mono (by decide)) (by rfl) T.a_law_deep_1y T.F_law_deep_1y.kp T.b_law_deep_1y .nil pass0 (pa_cons pe_int pa_nil)) (pa_cons (pe_lst (pa_cons (pe_call G_law_deep_1y (hr.mono (by decide)) (by rfl) T.a_law_deep_1y T.F_law_deep_1y.kp T.b_law_deep_1y .nil pass0 (pa_cons pe_int pa_nil)) pa_nil)) (pa_cons (pe_op op_cat (pe_op op_cat (pe_slice sl_list (pv 7) po_none (po_some (pv 8))) (pe_lst (pa_cons (pe_call G_law_deep_1y (hr.mono (by decide)) (by rfl) T.a_law_deep_1y T.F_law_deep_1y.kp T.b_law_deep_1y .nil pass0 (pa_cons pe_int pa_nil)) pa_nil))) (pe_slice sl_list (pv 7) (po_some (pe_op op_add (pv 8) pe_int)) po_none)) pa_nil)))))))))) (pss_cons (ps_for PassesOwn.never (by rfl) (pi_list (pe_op op_cat (pv 9) (pe_lst (pa_cons (Lv.pe_ve (by rfl) T.z_ValueError boot_ValueError) (pa_cons (pe_op op_cat (pe_op op_cat (pe_slice sl_list (pv 7) po_none (po_some (pv 8))) (pe_lst (pa_cons (Lv.pe_ve (by rfl) T.z_ValueError boot_ValueError) pa_nil))) (pe_slice sl_list (pv 7) (po_some (pe_op op_add (pv 8) pe_int)) po_none)) pa_nil))))) (pg_name (i := 6) nd rfl (by first | exact Or.inl rfl | exact Or.inr rfl)) (pss_one (ps_if (pt_cmpR Lv.op_notN1 (pe_call G_shows_1y (hr.mono (by decide)) (by rfl) T.a_shows_1y T.F_shows_1y.kp T.b_shows_1y .nil pass0 (pa_cons (pv 4) (pa_cons (pv 5) (pa_cons (pv 6) pa_nil)))) pe_non (nomark _)) (pss_one (ps_ret pe_bl)) pss_nil))) (pss_one (ps_set (i := 2) nd rfl (by first | exact Or.inl rfl | exact Or.inr rfl) (pe_op op_add (pv 2) pe_int)))))))) (pss_one (ps_ret (pe_and (Lv.pe_callG G_law_right_8 (hr.mono (by decide)) hgd (by rfl) T.a_law_right_8 T.F_law_right_8.kp T.b_law_right_8 (pa_cons (Lv.pe_strS (l := []) (by decide +kernel)) (pa_cons (Lv.pe_strS (l := [97]) (by decide +kernel)) (pa_cons (pe_lst pa_nil) pa_nil)))) (pe_and (Lv.pe_callG G_law_right_8 (hr.mono (by decide)) hgd (by rfl) T.a_law_right_8 T.F_law_right_8.kp T.b_law_right_8 (pa_cons (Lv.pe_strS (l := [97]) (by decide +kernel)) (pa_cons (Lv.pe_strS (l := [97]) (by decide +kernel)) (pa_cons (pe_lst (pa_cons pe_int pa_nil)) pa_nil)))) (pe_one (Lv.pe_callG G_law_right_8 (hr.mono (by decide)) hgd (by rfl) T.a_law_right_8 T.F_law_right_8.kp T.b_law_right_8 (pa_cons (Lv.pe_strS (l := [97, 97]) (by decide +kernel)) (pa_cons (Lv.pe_strS (l := [97]) (by decide +kernel)) (pa_cons (pe_lst (pa_cons pe_int pa_nil)) pa_nil))))))))))))
end
theorem all_mk {l : PySem.W.OpenLaw} {w : World} {K : PySem.W.Frag} {h : Heap} {mg : Str → Option Value} {fa : Addr} (X : K.In h) (G : h.Ns mainGlobals mg) (hfa : mg "law" = some (.ref fa))
    {f0 : Addr} {od0 an0 : Option Addr} {sl0 : Array (Option Value)} {oc0 kV0 dc0 pm0 cd0 ct0 : Value}
    (a0 : PySem.W.nsIn K mainGlobals "need_letters" = some (some (.ref f0))) (l0 : K.lookup f0 = some ⟨oc0, od0, .func (PySem.W.fnOf "need_letters" "need_letters" (defArgs s_need_letters_3) (defBody s_need_letters_3) (defScope s_need_letters_3) .none kV0 dc0 pm0 an0 cd0 ct0), sl0⟩) (c0 : PySem.W.codeIn K cd0 "need_letters" = true) (k0 : PySem.W.keepIn K (.ref f0) = true)
    {f1 : Addr} {od1 an1 : Option Addr} {sl1 : Array (Option Value)} {oc1 kV1 dc1 pm1 cd1 ct1 : Value}
    (a1 : PySem.W.nsIn K mainGlobals "has_all" = some (some (.ref f1))) (l1 : K.lookup f1 = some ⟨oc1, od1, .func (PySem.W.fnOf "has_all" "has_all" (defArgs s_has_all_0) (defBody s_has_all_0) (defScope s_has_all_0) .none kV1 dc1 pm1 an1 cd1 ct1), sl1⟩) (c1 : PySem.W.codeIn K cd1 "has_all" = true) (k1 : PySem.W.keepIn K (.ref f1) = true)
    {f2 : Addr} {od2 an2 : Option Addr} {sl2 : Array (Option Value)} {oc2 kV2 dc2 pm2 cd2 ct2 : Value}
    (a2 : PySem.W.nsIn K mainGlobals "shows" = some (some (.ref f2))) (l2 : K.lookup f2 = some ⟨oc2, od2, .func (PySem.W.fnOf "shows" "shows" (defArgs s_shows_1y) (defBody s_shows_1y) (defScope s_shows_1y) .none kV2 dc2 pm2 an2 cd2 ct2), sl2⟩) (c2 : PySem.W.codeIn K cd2 "shows" = true) (k2 : PySem.W.keepIn K (.ref f2) = true)
    {f3 : Addr} {od3 an3 : Option Addr} {sl3 : Array (Option Value)} {oc3 kV3 dc3 pm3 cd3 ct3 : Value}
    (a3 : PySem.W.nsIn K mainGlobals "_law_draws" = some (some (.ref f3))) (l3 : K.lookup f3 = some ⟨oc3, od3, .func (PySem.W.fnOf "_law_draws" "_law_draws" (defArgs s_law_draws_0) (defBody s_law_draws_0) (defScope s_law_draws_0) .none kV3 dc3 pm3 an3 cd3 ct3), sl3⟩) (c3 : PySem.W.codeIn K cd3 "_law_draws" = true) (k3 : PySem.W.keepIn K (.ref f3) = true)
    {f4 : Addr} {od4 an4 : Option Addr} {sl4 : Array (Option Value)} {oc4 kV4 dc4 pm4 cd4 ct4 : Value}
    (a4 : PySem.W.nsIn K mainGlobals "_law_take" = some (some (.ref f4))) (l4 : K.lookup f4 = some ⟨oc4, od4, .func (PySem.W.fnOf "_law_take" "_law_take" (defArgs s_law_take_0) (defBody s_law_take_0) (defScope s_law_take_0) .none kV4 dc4 pm4 an4 cd4 ct4), sl4⟩) (c4 : PySem.W.codeIn K cd4 "_law_take" = true) (k4 : PySem.W.keepIn K (.ref f4) = true)
    {f5 : Addr} {od5 an5 : Option Addr} {sl5 : Array (Option Value)} {oc5 kV5 dc5 pm5 cd5 ct5 : Value}
    (a5 : PySem.W.nsIn K mainGlobals "_law_abc" = some (some (.ref f5))) (l5 : K.lookup f5 = some ⟨oc5, od5, .func (PySem.W.fnOf "_law_abc" "_law_abc" (defArgs s_law_abc_0) (defBody s_law_abc_0) (defScope s_law_abc_0) .none kV5 dc5 pm5 an5 cd5 ct5), sl5⟩) (c5 : PySem.W.codeIn K cd5 "_law_abc" = true) (k5 : PySem.W.keepIn K (.ref f5) = true)
    {f6 : Addr} {od6 an6 : Option Addr} {sl6 : Array (Option Value)} {oc6 kV6 dc6 pm6 cd6 ct6 : Value}
    (a6 : PySem.W.nsIn K mainGlobals "_law_signs" = some (some (.ref f6))) (l6 : K.lookup f6 = some ⟨oc6, od6, .func (PySem.W.fnOf "_law_signs" "_law_signs" (defArgs s_law_signs_0) (defBody s_law_signs_0) (defScope s_law_signs_0) .none kV6 dc6 pm6 an6 cd6 ct6), sl6⟩) (c6 : PySem.W.codeIn K cd6 "_law_signs" = true) (k6 : PySem.W.keepIn K (.ref f6) = true)
    {f7 : Addr} {od7 an7 : Option Addr} {sl7 : Array (Option Value)} {oc7 kV7 dc7 pm7 cd7 ct7 : Value}
    (a7 : PySem.W.nsIn K mainGlobals "_law_row" = some (some (.ref f7))) (l7 : K.lookup f7 = some ⟨oc7, od7, .func (PySem.W.fnOf "_law_row" "_law_row" (defArgs s_law_row_2) (defBody s_law_row_2) (defScope s_law_row_2) .none kV7 dc7 pm7 an7 cd7 ct7), sl7⟩) (c7 : PySem.W.codeIn K cd7 "_law_row" = true) (k7 : PySem.W.keepIn K (.ref f7) = true)
    {f8 : Addr} {od8 an8 : Option Addr} {sl8 : Array (Option Value)} {oc8 kV8 dc8 pm8 cd8 ct8 : Value}
    (a8 : PySem.W.nsIn K mainGlobals "_law_some_letters" = some (some (.ref f8))) (l8 : K.lookup f8 = some ⟨oc8, od8, .func (PySem.W.fnOf "_law_some_letters" "_law_some_letters" (defArgs s_law_some_letters_0) (defBody s_law_some_letters_0) (defScope s_law_some_letters_0) .none kV8 dc8 pm8 an8 cd8 ct8), sl8⟩) (c8 : PySem.W.codeIn K cd8 "_law_some_letters" = true) (k8 : PySem.W.keepIn K (.ref f8) = true)
    {f9 : Addr} {od9 an9 : Option Addr} {sl9 : Array (Option Value)} {oc9 kV9 dc9 pm9 cd9 ct9 : Value}
    (a9 : PySem.W.nsIn K mainGlobals "_law_arches" = some (some (.ref f9))) (l9 : K.lookup f9 = some ⟨oc9, od9, .func (PySem.W.fnOf "_law_arches" "_law_arches" (defArgs s_law_arches_0) (defBody s_law_arches_0) (defScope s_law_arches_0) .none kV9 dc9 pm9 an9 cd9 ct9), sl9⟩) (c9 : PySem.W.codeIn K cd9 "_law_arches" = true) (k9 : PySem.W.keepIn K (.ref f9) = true)
    {f10 : Addr} {od10 an10 : Option Addr} {sl10 : Array (Option Value)} {oc10 kV10 dc10 pm10 cd10 ct10 : Value}
    (a10 : PySem.W.nsIn K mainGlobals "_law_deep" = some (some (.ref f10))) (l10 : K.lookup f10 = some ⟨oc10, od10, .func (PySem.W.fnOf "_law_deep" "_law_deep" (defArgs s_law_deep_1y) (defBody s_law_deep_1y) (defScope s_law_deep_1y) .none kV10 dc10 pm10 an10 cd10 ct10), sl10⟩) (c10 : PySem.W.codeIn K cd10 "_law_deep" = true) (k10 : PySem.W.keepIn K (.ref f10) = true)
    {f11 : Addr} {od11 an11 : Option Addr} {sl11 : Array (Option Value)} {oc11 kV11 dc11 pm11 cd11 ct11 : Value}
    (a11 : PySem.W.nsIn K mainGlobals "_law_shown" = some (some (.ref f11))) (l11 : K.lookup f11 = some ⟨oc11, od11, .func (PySem.W.fnOf "_law_shown" "_law_shown" (defArgs s_law_shown_0) (defBody s_law_shown_0) (defScope s_law_shown_0) .none kV11 dc11 pm11 an11 cd11 ct11), sl11⟩) (c11 : PySem.W.codeIn K cd11 "_law_shown" = true) (k11 : PySem.W.keepIn K (.ref f11) = true)
    {f12 : Addr} {od12 an12 : Option Addr} {sl12 : Array (Option Value)} {oc12 kV12 dc12 pm12 cd12 ct12 : Value}
    (a12 : PySem.W.nsIn K mainGlobals "_law_whole" = some (some (.ref f12))) (l12 : K.lookup f12 = some ⟨oc12, od12, .func (PySem.W.fnOf "_law_whole" "_law_whole" (defArgs s_law_whole_1) (defBody s_law_whole_1) (defScope s_law_whole_1) .none kV12 dc12 pm12 an12 cd12 ct12), sl12⟩) (c12 : PySem.W.codeIn K cd12 "_law_whole" = true) (k12 : PySem.W.keepIn K (.ref f12) = true)
    {f13 : Addr} {od13 an13 : Option Addr} {sl13 : Array (Option Value)} {oc13 kV13 dc13 pm13 cd13 ct13 : Value}
    (a13 : PySem.W.nsIn K mainGlobals "_law_right" = some (some (.ref f13))) (l13 : K.lookup f13 = some ⟨oc13, od13, .func (PySem.W.fnOf "_law_right" "_law_right" (defArgs s_law_right_8) (defBody s_law_right_8) (defScope s_law_right_8) .none kV13 dc13 pm13 an13 cd13 ct13), sl13⟩) (c13 : PySem.W.codeIn K cd13 "_law_right" = true) (k13 : PySem.W.keepIn K (.ref f13) = true)
    {f14 : Addr} {od14 an14 : Option Addr} {sl14 : Array (Option Value)} {oc14 kV14 dc14 pm14 cd14 ct14 : Value}
    (a14 : PySem.W.nsIn K mainGlobals "_law_odd" = some (some (.ref f14))) (l14 : K.lookup f14 = some ⟨oc14, od14, .func (PySem.W.fnOf "_law_odd" "_law_odd" (defArgs s_law_odd_0) (defBody s_law_odd_0) (defScope s_law_odd_0) .none kV14 dc14 pm14 an14 cd14 ct14), sl14⟩) (c14 : PySem.W.codeIn K cd14 "_law_odd" = true) (k14 : PySem.W.keepIn K (.ref f14) = true)
    {f15 : Addr} {od15 an15 : Option Addr} {sl15 : Array (Option Value)} {oc15 kV15 dc15 pm15 cd15 ct15 : Value}
    (a15 : PySem.W.nsIn K mainGlobals "_law_spoilt" = some (some (.ref f15))) (l15 : K.lookup f15 = some ⟨oc15, od15, .func (PySem.W.fnOf "_law_spoilt" "_law_spoilt" (defArgs s_law_spoilt_1) (defBody s_law_spoilt_1) (defScope s_law_spoilt_1) .none kV15 dc15 pm15 an15 cd15 ct15), sl15⟩) (c15 : PySem.W.codeIn K cd15 "_law_spoilt" = true) (k15 : PySem.W.keepIn K (.ref f15) = true)
    {f16 : Addr} {od16 an16 : Option Addr} {sl16 : Array (Option Value)} {oc16 kV16 dc16 pm16 cd16 ct16 : Value}
    (a16 : PySem.W.nsIn K mainGlobals "_law_loose" = some (some (.ref f16))) (l16 : K.lookup f16 = some ⟨oc16, od16, .func (PySem.W.fnOf "_law_loose" "_law_loose" (defArgs s_law_loose_0) (defBody s_law_loose_0) (defScope s_law_loose_0) .none kV16 dc16 pm16 an16 cd16 ct16), sl16⟩) (c16 : PySem.W.codeIn K cd16 "_law_loose" = true) (k16 : PySem.W.keepIn K (.ref f16) = true)
    {f17 : Addr} {od17 an17 : Option Addr} {sl17 : Array (Option Value)} {oc17 kV17 dc17 pm17 cd17 ct17 : Value}
    (a17 : PySem.W.nsIn K mainGlobals "_law_things" = some (some (.ref f17))) (l17 : K.lookup f17 = some ⟨oc17, od17, .func (PySem.W.fnOf "_law_things" "_law_things" (defArgs s_law_things_0) (defBody s_law_things_0) (defScope s_law_things_0) .none kV17 dc17 pm17 an17 cd17 ct17), sl17⟩) (c17 : PySem.W.codeIn K cd17 "_law_things" = true) (k17 : PySem.W.keepIn K (.ref f17) = true)
    {f18 : Addr} {od18 an18 : Option Addr} {sl18 : Array (Option Value)} {oc18 kV18 dc18 pm18 cd18 ct18 : Value}
    (a18 : PySem.W.nsIn K mainGlobals "law" = some (some (.ref f18))) (l18 : K.lookup f18 = some ⟨oc18, od18, .func (PySem.W.fnOf "law" "law" (defArgs s_law_k39) (defBody s_law_k39) (defScope s_law_k39) .none kV18 dc18 pm18 an18 cd18 ct18), sl18⟩) (c18 : PySem.W.codeIn K cd18 "law" = true) (k18 : PySem.W.keepIn K (.ref f18) = true)
    (z0 : PySem.W.nsIn K mainGlobals "ValueError" = some none)
    (z1 : PySem.W.nsIn K mainGlobals "abs" = some none)
    (z2 : PySem.W.nsIn K mainGlobals "bool" = some none)
    (z3 : PySem.W.nsIn K mainGlobals "dict" = some none)
    (z4 : PySem.W.nsIn K mainGlobals "enumerate" = some none)
    (z5 : PySem.W.nsIn K mainGlobals "int" = some none)
    (z6 : PySem.W.nsIn K mainGlobals "isinstance" = some none)
    (z7 : PySem.W.nsIn K mainGlobals "len" = some none)
    (z8 : PySem.W.nsIn K mainGlobals "list" = some none)
    (z9 : PySem.W.nsIn K mainGlobals "min" = some none)
    (z10 : PySem.W.nsIn K mainGlobals "range" = some none)
    (z11 : PySem.W.nsIn K mainGlobals "repr" = some none)
    (z12 : PySem.W.nsIn K mainGlobals "set" = some none)
    (z13 : PySem.W.nsIn K mainGlobals "sorted" = some none)
    (z14 : PySem.W.nsIn K mainGlobals "str" = some none)
    (z15 : PySem.W.nsIn K mainGlobals "tuple" = some none)
    {ty0 : Tok} (y0 : PySem.W.nsIn K mainGlobals "SMALL" = some (some (.str (S [97, 98, 99, 100, 101, 102, 103, 104, 105, 106, 107, 108, 109, 110, 111, 112, 113, 114, 115, 116, 117, 118, 119, 120, 121, 122]) ty0))) :
    ∃ fd : FuncData, (∀ (s : Shared) (v : Value), BindsTo s fd ⟨[v], []⟩ [("script", v)]) ∧ ∀ base : Heap, K.In base → base.Ns mainGlobals mg → FnG l.prog w K mg base CX0 5 fa fd ["script"] (sp_law_k39 K) := by
  have e := hfa.symm.trans (PySem.W.mg_of X G a18)
  cases e
  have F0 := fun_mk (st := s_need_letters_3) l0 c0 k0
  have F1 := fun_mk (st := s_has_all_0) l1 c1 k1
  have F2 := fun_mk (st := s_shows_1y) l2 c2 k2
  have F3 := fun_mk (st := s_law_draws_0) l3 c3 k3
  have F4 := fun_mk (st := s_law_take_0) l4 c4 k4
  have F5 := fun_mk (st := s_law_abc_0) l5 c5 k5
  have F6 := fun_mk (st := s_law_signs_0) l6 c6 k6
  have F7 := fun_mk (st := s_law_row_2) l7 c7 k7
  have F8 := fun_mk (st := s_law_some_letters_0) l8 c8 k8
  have F9 := fun_mk (st := s_law_arches_0) l9 c9 k9
  have F10 := fun_mk (st := s_law_deep_1y) l10 c10 k10
  have F11 := fun_mk (st := s_law_shown_0) l11 c11 k11
  have F12 := fun_mk (st := s_law_whole_1) l12 c12 k12
  have F13 := fun_mk (st := s_law_right_8) l13 c13 k13
  have F14 := fun_mk (st := s_law_odd_0) l14 c14 k14
  have F15 := fun_mk (st := s_law_spoilt_1) l15 c15 k15
  have F16 := fun_mk (st := s_law_loose_0) l16 c16 k16
  have F17 := fun_mk (st := s_law_things_0) l17 c17 k17
  have F18 := fun_mk (st := s_law_k39) l18 c18 k18
  let T : Txt K mg := {
    f_need_letters_3 := f0,
    fd_need_letters_3 := _,
    F_need_letters_3 := F0,
    a_need_letters_3 := PySem.W.mg_of X G a0,
    b_need_letters_3 := F0.binds (ps := ["thing"]) fun _ _ _ _ _ _ us hl => match us, hl with | [_], _ => rfl,
    f_has_all_0 := f1,
    fd_has_all_0 := _,
    F_has_all_0 := F1,
    a_has_all_0 := PySem.W.mg_of X G a1,
    b_has_all_0 := F1.binds (ps := ["word", "letters"]) fun _ _ _ _ _ _ us hl => match us, hl with | [_, _], _ => rfl,
    f_shows_1y := f2,
    fd_shows_1y := _,
    F_shows_1y := F2,
    a_shows_1y := PySem.W.mg_of X G a2,
    b_shows_1y := F2.binds (ps := ["row", "letters", "thing"]) fun _ _ _ _ _ _ us hl => match us, hl with | [_, _, _], _ => rfl,
    f_law_draws_0 := f3,
    fd_law_draws_0 := _,
    F_law_draws_0 := F3,
    a_law_draws_0 := PySem.W.mg_of X G a3,
    b_law_draws_0 := F3.binds (ps := ["script"]) fun _ _ _ _ _ _ us hl => match us, hl with | [_], _ => rfl,
    f_law_take_0 := f4,
    fd_law_take_0 := _,
    F_law_take_0 := F4,
    a_law_take_0 := PySem.W.mg_of X G a4,
    b_law_take_0 := F4.binds (ps := ["draws", "many"]) fun _ _ _ _ _ _ us hl => match us, hl with | [_, _], _ => rfl,
    f_law_abc_0 := f5,
    fd_law_abc_0 := _,
    F_law_abc_0 := F5,
    a_law_abc_0 := PySem.W.mg_of X G a5,
    b_law_abc_0 := F5.binds (ps := ["k"]) fun _ _ _ _ _ _ us hl => match us, hl with | [_], _ => rfl,
    f_law_signs_0 := f6,
    fd_law_signs_0 := _,
    F_law_signs_0 := F6,
    a_law_signs_0 := PySem.W.mg_of X G a6,
    b_law_signs_0 := F6.binds (ps := ["draws"]) fun _ _ _ _ _ _ us hl => match us, hl with | [_], _ => rfl,
    f_law_row_2 := f7,
    fd_law_row_2 := _,
    F_law_row_2 := F7,
    a_law_row_2 := PySem.W.mg_of X G a7,
    b_law_row_2 := F7.binds (ps := ["draws", "signs", "most"]) fun _ _ _ _ _ _ us hl => match us, hl with | [_, _, _], _ => rfl,
    f_law_some_letters_0 := f8,
    fd_law_some_letters_0 := _,
    F_law_some_letters_0 := F8,
    a_law_some_letters_0 := PySem.W.mg_of X G a8,
    b_law_some_letters_0 := F8.binds (ps := ["draws", "signs"]) fun _ _ _ _ _ _ us hl => match us, hl with | [_, _], _ => rfl,
    f_law_arches_0 := f9,
    fd_law_arches_0 := _,
    F_law_arches_0 := F9,
    a_law_arches_0 := PySem.W.mg_of X G a9,
    b_law_arches_0 := F9.binds (ps := ["row", "letters"]) fun _ _ _ _ _ _ us hl => match us, hl with | [_, _], _ => rfl,
    f_law_deep_1y := f10,
    fd_law_deep_1y := _,
    F_law_deep_1y := F10,
    a_law_deep_1y := PySem.W.mg_of X G a10,
    b_law_deep_1y := F10.binds (ps := ["many"]) fun _ _ _ _ _ _ us hl => match us, hl with | [_], _ => rfl,
    f_law_shown_0 := f11,
    fd_law_shown_0 := _,
    F_law_shown_0 := F11,
    a_law_shown_0 := PySem.W.mg_of X G a11,
    b_law_shown_0 := F11.binds (ps := ["row", "letters", "thing"]) fun _ _ _ _ _ _ us hl => match us, hl with | [_, _, _], _ => rfl,
    f_law_whole_1 := f12,
    fd_law_whole_1 := _,
    F_law_whole_1 := F12,
    a_law_whole_1 := PySem.W.mg_of X G a12,
    b_law_whole_1 := F12.binds (ps := ["thing"]) fun _ _ _ _ _ _ us hl => match us, hl with | [_], _ => rfl,
    f_law_right_8 := f13,
    fd_law_right_8 := _,
    F_law_right_8 := F13,
    a_law_right_8 := PySem.W.mg_of X G a13,
    b_law_right_8 := F13.binds (ps := ["row", "letters", "thing"]) fun _ _ _ _ _ _ us hl => match us, hl with | [_, _, _], _ => rfl,
    f_law_odd_0 := f14,
    fd_law_odd_0 := _,
    F_law_odd_0 := F14,
    a_law_odd_0 := PySem.W.mg_of X G a14,
    b_law_odd_0 := F14.binds (ps := ["draws", "size"]) fun _ _ _ _ _ _ us hl => match us, hl with | [_, _], _ => rfl,
    f_law_spoilt_1 := f15,
    fd_law_spoilt_1 := _,
    F_law_spoilt_1 := F15,
    a_law_spoilt_1 := PySem.W.mg_of X G a15,
    b_law_spoilt_1 := F15.binds (ps := ["draws", "some", "size"]) fun _ _ _ _ _ _ us hl => match us, hl with | [_, _, _], _ => rfl,
    f_law_loose_0 := f16,
    fd_law_loose_0 := _,
    F_law_loose_0 := F16,
    a_law_loose_0 := PySem.W.mg_of X G a16,
    b_law_loose_0 := F16.binds (ps := ["draws", "row", "letters"]) fun _ _ _ _ _ _ us hl => match us, hl with | [_, _, _], _ => rfl,
    f_law_things_0 := f17,
    fd_law_things_0 := _,
    F_law_things_0 := F17,
    a_law_things_0 := PySem.W.mg_of X G a17,
    b_law_things_0 := F17.binds (ps := ["draws", "row", "letters"]) fun _ _ _ _ _ _ us hl => match us, hl with | [_, _, _], _ => rfl,
    f_law_k39 := _,
    fd_law_k39 := _,
    F_law_k39 := F18,
    z_ValueError := PySem.W.mg_none_of X G z0,
    z_abs := PySem.W.mg_none_of X G z1,
    z_bool := PySem.W.mg_none_of X G z2,
    z_dict := PySem.W.mg_none_of X G z3,
    z_enumerate := PySem.W.mg_none_of X G z4,
    z_int := PySem.W.mg_none_of X G z5,
    z_isinstance := PySem.W.mg_none_of X G z6,
    z_len := PySem.W.mg_none_of X G z7,
    z_list := PySem.W.mg_none_of X G z8,
    z_min := PySem.W.mg_none_of X G z9,
    z_range := PySem.W.mg_none_of X G z10,
    z_repr := PySem.W.mg_none_of X G z11,
    z_set := PySem.W.mg_none_of X G z12,
    z_sorted := PySem.W.mg_none_of X G z13,
    z_str := PySem.W.mg_none_of X G z14,
    z_tuple := PySem.W.mg_none_of X G z15,
    ct_SMALL := _,
    c_SMALL := PySem.W.mg_of X G y0 }
  exact ⟨_, fun s v => .of_eq rfl, fun base _ _ => ok_law_k39 T⟩
end Lv
open PySem PySem.W PyProof.Rows
set_option maxHeartbeats 0 in
theorem PySem.Challenge.cw_leavings_k39_papers_of_arches_judged_holds : PySem.Challenge.rw_leavings_k39_papers_of_arches_judged.Holds := by
  w_on; o_law; k_head; (case hw => w_witness2)
  k_fill
  refine Lv.walk_ofG (l := PySem.Challenge.rw_leavings_k39_papers_of_arches_judged) (n := 63) (k := 5) (x := "script") (sp := fun w => Lv.sp_law_k39 _) rfl (by decide) rfl ⟨rfl, by decide, by decide⟩ (fun w h Y => PySem.W.kIn_of Y) ?F (fun _ _ a ns hl hS => ⟨a, ns, rfl, hS, hl, fun _ => rfl⟩)
  case F =>
    intro w mg fa h KX G hmg
    refine' Lv.all_mk KX G hmg ?a0 ?l0 ?c0 ?k0 ?a1 ?l1 ?c1 ?k1 ?a2 ?l2 ?c2 ?k2 ?a3 ?l3 ?c3 ?k3 ?a4 ?l4 ?c4 ?k4 ?a5 ?l5 ?c5 ?k5 ?a6 ?l6 ?c6 ?k6 ?a7 ?l7 ?c7 ?k7 ?a8 ?l8 ?c8 ?k8 ?a9 ?l9 ?c9 ?k9 ?a10 ?l10 ?c10 ?k10 ?a11 ?l11 ?c11 ?k11 ?a12 ?l12 ?c12 ?k12 ?a13 ?l13 ?c13 ?k13 ?a14 ?l14 ?c14 ?k14 ?a15 ?l15 ?c15 ?k15 ?a16 ?l16 ?c16 ?k16 ?a17 ?l17 ?c17 ?k17 ?a18 ?l18 ?c18 ?k18 ?z0 ?z1 ?z2 ?z3 ?z4 ?z5 ?z6 ?z7 ?z8 ?z9 ?z10 ?z11 ?z12 ?z13 ?z14 ?z15 ?y0
    (case a0 => k_is); (case l0 => k_is); (case c0 => k_is); (case k0 => k_is); (case a1 => k_is); (case l1 => k_is); (case c1 => k_is); (case k1 => k_is); (case a2 => k_is); (case l2 => k_is); (case c2 => k_is); (case k2 => k_is); (case a3 => k_is); (case l3 => k_is); (case c3 => k_is); (case k3 => k_is); (case a4 => k_is); (case l4 => k_is); (case c4 => k_is); (case k4 => k_is); (case a5 => k_is); (case l5 => k_is); (case c5 => k_is); (case k5 => k_is); (case a6 => k_is); (case l6 => k_is); (case c6 => k_is); (case k6 => k_is); (case a7 => k_is); (case l7 => k_is); (case c7 => k_is); (case k7 => k_is); (case a8 => k_is); (case l8 => k_is); (case c8 => k_is); (case k8 => k_is); (case a9 => k_is); (case l9 => k_is); (case c9 => k_is); (case k9 => k_is); (case a10 => k_is); (case l10 => k_is); (case c10 => k_is); (case k10 => k_is); (case a11 => k_is); (case l11 => k_is); (case c11 => k_is); (case k11 => k_is); (case a12 => k_is); (case l12 => k_is); (case c12 => k_is); (case k12 => k_is); (case a13 => k_is); (case l13 => k_is); (case c13 => k_is); (case k13 => k_is); (case a14 => k_is); (case l14 => k_is); (case c14 => k_is); (case k14 => k_is); (case a15 => k_is); (case l15 => k_is); (case c15 => k_is); (case k15 => k_is); (case a16 => k_is); (case l16 => k_is); (case c16 => k_is); (case k16 => k_is); (case a17 => k_is); (case l17 => k_is); (case c17 => k_is); (case k17 => k_is); (case a18 => k_is); (case l18 => k_is); (case c18 => k_is); (case k18 => k_is); (case z0 => k_is); (case z1 => k_is); (case z2 => k_is); (case z3 => k_is); (case z4 => k_is); (case z5 => k_is); (case z6 => k_is); (case z7 => k_is); (case z8 => k_is); (case z9 => k_is); (case z10 => k_is); (case z11 => k_is); (case z12 => k_is); (case z13 => k_is); (case z14 => k_is); (case z15 => k_is); (case y0 => k_is)
