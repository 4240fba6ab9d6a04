import PyProof.Rows.All
import Wide.All
import OpenK.AllK
import Wide.FinOn
import HandS.ForMost
import HandS.IsInst
import HandS.StrMore
import HandS.Walk
import HandS.Style
import HandS.Codes
import HandS.Conv
import HandS.More
import HandS.Evl
import PyProof.StrBlock2
import KE.KDictZip
import HandS.ListItems
import KE.GoesEnum
import KE.GoesMore
import HandS.ExcIs
import HandS.ExcValue
import HandS.ExcBuiltin
import HandS.WordsExc
import KE.KExcIs
import HandS.SetFor
import HandS.Strs
import PyProof.Rows.SortShellAny
import PyProof.StrWalks
import KE.LtSeq
import PyProof.StrLawsFirst
import HandS.Replace
import HandS.Wide
import HandS.SortInts
import PyProof.Rows.StrBetween
import PyProof.Rows.StrLast
import PyProof.ListStr
import PyProof.ReprRoads
import PyProof.ReprLen
import PyProof.Rows.RegStrFacts
import KE.DataMinMax
import KE.GoesZip
import HandS.DictTup
import HandS.Deep
import PyProof.Rows.TupDisplay
import KE.SortData
import HandS.NoneIn
import HandS.TryOnly
import HandS.SuiteRaise
import HandS.RaiseFrom
import PyProof.P3Eq
import PyProof.TupleOfStr
import KE.GoesComp
import PyProof.ReprBulk
import HandS.TryMany
import HandS.FStr
import PySem.Challenge.RW_leavings_k52_words_refused
set_option Elab.async false
set_option linter.all false
set_option maxRecDepth 100000
set_option maxHeartbeats 2000000
namespace Lv
open PySem PySem.Spec PyProof.Rows L2 SX

/-! texts as lists of codes -/
theorem pe_strS {X : Cx} {x : Str} {j : Nat} {pos : Pos} {l : List Nat} (h : x = S l) : PE X (.Constant (.str x) j pos) (tC (.str (S l))) := by
  subst h
  exact pe_str
theorem foldl_app {α : Type} (n : Nat) (l : List α) : ∀ acc : Array α, ((List.replicate n l.toArray).foldl (· ++ ·) acc).toList = acc.toList ++ (List.replicate n l).flatten := by
  induction n with
  | zero => intro acc; simp
  | succ n ih =>
    intro acc
    rw [List.replicate_succ, List.foldl_cons, ih, List.replicate_succ, List.flatten_cons]
    simp
theorem mul_S (l : List Nat) (n : Int) : Txt.mul (S l) n = S (List.replicate n.toNat l).flatten := by
  unfold Txt.mul
  by_cases h : n < 1
  · rw [if_pos h, show n.toNat = 0 by omega]
    rfl
  · rw [if_neg h]
    by_cases h2 : (n == 1 || (S l).length == 0) = true
    · rw [if_pos h2]
      rw [Bool.or_eq_true] at h2
      rcases h2 with h2 | h2
      · have := eq_of_beq h2
        subst this
        simp
      · rw [S_len] at h2
        have : l = [] := List.length_eq_zero_iff.mp (eq_of_beq h2)
        subst this
        simp
    · rw [if_neg h2]
      refine TL.ext_tl ?_
      show ((List.replicate n.toNat l.toArray).foldl (· ++ ·) #[]).toList = _
      rw [foldl_app]
      simp [TL.tl]
theorem op_mulS {X : Cx} : OpR X (binaryOp .Mult) (fun x y H Q => ∃ (l : List Nat) (n : Int), x = .str (S l) ∧ y = .int n ∧ -(2 ^ 38) < n ∧ n < 2 ^ 38 ∧ l.length * n.toNat ≤ sizeLine ∧ Q (.str (S (List.replicate n.toNat l).flatten)) H) := by
  intro pins s σ H x y v u Q I rx ry h
  obtain ⟨l, n, rfl, rfl, h0, h1, hz, q⟩ := h
  obtain ⟨t, rfl⟩ := rx
  obtain ⟨t', rfl⟩ := ry
  refine SB.mul ⟨?_, ?_, ?_⟩ fun t2 k => ?_
  · rw [decide_eq_false (show ¬ n < -(2 ^ 63 : Int) by omega), decide_eq_false (show ¬ n ≥ (2 ^ 63 : Int) by omega)]; rfl
  · intro h2 h3 h4
    rw [S_len] at h4
    have h5 : (l.length : Int) ≤ 16777216 := by
      have : l.length * 1 ≤ l.length * n.toNat := Nat.mul_le_mul_left _ (by omega)
      have : sizeLine = 16777216 := by decide
      omega
    have h6 : (2 ^ 63 - 1 : Int) / n ≥ 16777216 := by
      have := Int.le_ediv_of_mul_le (show 0 < n by omega) (show 16777216 * n ≤ 2 ^ 63 - 1 by omega)
      exact this
    omega
  · intro _ _
    unfold Builtin.Str.tooLong
    rw [S_len]
    exact decide_eq_false (by omega)
  · rw [mul_S]
    exact ⟨.str _, H, I.tok _, ⟨_, rfl⟩, q⟩
end Lv

set_option Elab.async false
set_option linter.all false
set_option maxRecDepth 100000
set_option maxHeartbeats 2000000
namespace Lv
open PySem PySem.Spec PyProof.Rows L2 SX
/-! list(enumerate(list)) -/
def EnSt (h : Heap) (e it l S : Addr) (i : Nat) (items : Array Value) : Prop :=
  h.IsListIter it l i ∧ h.IsList l items ∧ ((∃ old, IsEnum h e it i old) ∨ ∃ old T f oT, IsEnumHeld h e it i old T f ∧ h.get? T = some oT ∧ T ≠ e ∧ T ≠ it ∧ T ≠ S)
structure EnG (items : Array Value) (lo : Addr) (h : Heap) (ts : List Addr) : Prop where
  rise : ts.Pairwise (· < ·)
  above : ∀ a ∈ ts, lo < a
  pairs : ∀ (j : Nat) (a : Addr), ts[j]? = some a → ∃ t x, items[j]? = some x ∧ h.get? a = some { cls := .type "tuple", data := .seq #[.int j t, x] }
theorem EnG.there {items : Array Value} {lo : Addr} {h : Heap} {ts : List Addr} (g : EnG items lo h ts) {a : Addr} (ha : a ∈ ts) : a < h.objs.size := by
  obtain ⟨j, hj⟩ := List.mem_iff_getElem?.mp ha
  obtain ⟨_, _, _, e⟩ := g.pairs j a hj
  exact Heap.lt_size e
theorem EnSt.keep {h h' : Heap} {e it l S : Addr} {i : Nat} {items : Array Value} (x : EnSt h e it l S i items) (hk : ∀ b o, b ≠ S → h.get? b = some o → h'.get? b = some o) (he : e ≠ S) (hi : it ≠ S) (hl : l ≠ S) : EnSt h' e it l S i items := by
  obtain ⟨a, b, c⟩ := x
  refine ⟨a.at fun o y => hk _ o hi y, b.at fun o y => hk _ o hl y, ?_⟩
  rcases c with ⟨old, c⟩ | ⟨old, T, f, oT, c, c1, c2, c3, c4⟩
  · exact .inl ⟨old, hk _ _ he c⟩
  · exact .inr ⟨old, T, f, oT, hk _ _ he c, hk _ _ c4 c1, c2, c3, c4⟩
section
variable {prog : Program} {w : World} {A : Around} {s : Shared} {R : Result → Shared → Prop} {E : Value → Shared → Prop} {e it l S : Addr} {items : Array Value}
end
section
variable {X : Cx} {e : Expr} {te : TE} {p p2 pos pos2 : Pos}
end
end Lv

set_option Elab.async false
set_option linter.all false
set_option maxRecDepth 100000
set_option maxHeartbeats 2000000
namespace Lv
open PySem PySem.Spec PyProof.Rows L2 SX
/-! for i, c in enumerate(text) -/
/-- turn i: a new tuple whose items are told by Y -/
def ItT (n : Nat) (Y : Nat → List V → Prop) : It :=
  ⟨fun i _ => i < n, fun i H v H' => ∃ T xs, v = .ref T ∧ H T = none ∧ H' = upd H T (.tup xs) ∧ Y i xs, fun i _ => n ≤ i⟩
theorem turn_walksT {P : Program} {w : World} {K : PySem.W.Frag} {elts : List Expr} {kk : Nat} {tpos : Pos} {I : Addr} {fp wr : List Addr} {n : Nat} {Pt : Nat → Array Value → Prop} {St : Nat → Heap → Prop} {Mid : Nat → Addr → Heap → Prop} {Y : Nat → List V → Prop}
    (W : ∀ A : Around, A.handled = none → WalksT P w A I fp wr n Pt St Mid) (hI : I ∈ fp) (hobj : ∀ i h, St i h → ∀ b ∈ fp, ∃ o, h.get? b = some o ∧ ∀ v, o.data ≠ .cell v)
    (hY : ∀ i vals, i < n → Pt i vals → ∃ xs, Vals xs vals.toList ∧ xs.length ≤ sizeLine ∧ Y i xs) (hself : ∀ (A : Around) (i : Nat) (s : Shared) (Q : Value → Shared → Prop) (E : Value → Shared → Prop), St i s.heap → Q (.ref I) s → wpAny (model P w) A (pyIter (.ref I)) Q E s) :
    Turn P w K (.Tuple elts kk tpos) (ItT n Y) fp I (fun i h => St i h ∧ i ≤ n) where
  mem := hI
  obj := fun i h st b hb => hobj i h st.1 b hb
  keep := fun i h h' st k => ⟨(W {} rfl).frame i h h' st.1 k, st.2⟩
  item := by
    intro X hP hw hK hc i pins s σ H E I1 hf st hg
    subst hP hw hK
    have WA := W X.A (I1.ok.hd hc)
    refine WA.item i s _ _ hg st.1 fun T vals h' tk hp hT hTup hm hk => ?_
    refine ⟨_, rfl, WA.go elts kk tpos i T { s with heap := h', toks := tk } _ _ hm fun h2 st2 hk2 => ?_⟩
    replace hk2 : ∀ b o, b ∉ wr → h'.get? b = some o → h2.get? b = some o := hk2
    obtain ⟨xs, rv, hz, y⟩ := hY i vals hg hp
    have hTup2 : h2.IsTuple T vals := hTup.at fun o q => hk2 T o (WA.apart i T h' hm) q
    have new : ObjOk X.prog X.w (upd H T (.tup xs)) h2 T (.tup xs) := by
      refine ⟨hz, vals.toList, rv, ?_⟩
      rw [Array.toArray_toList]
      exact hTup2
    have I2 : Inv X pins σ (upd H T (.tup xs)) { s with heap := h2, toks := tk } :=
      I1.turnedNew (ch := fp) (fun b ob hb q => hk2 b ob (fun z => hb (WA.sub b z)) (hk b ob (fun z => hb (WA.sub b z)) q)) hf hT new
    refine ⟨.ref T, _, I2, rfl, ⟨T, xs, rfl, I1.hok.fresh hT, rfl, y⟩, ⟨st2, hg⟩, fun b hb => ?_⟩
    obtain ⟨o, ho, _⟩ := hobj i s.heap st.1 b hb
    rw [upd_ne (Nat.ne_of_lt (Nat.lt_of_lt_of_le (Heap.lt_size ho) hT))]
    exact (hf b hb).1
  done := by
    intro X hP hw hK hc i pins s σ H E I1 hf st hg
    subst hP hw hK
    have hin : i = n := Nat.le_antisymm st.2 hg
    subst hin
    have WA := W X.A (I1.ok.hd hc)
    refine WA.done s _ _ st.1 fun h' tk hk => ⟨rfl, ?_⟩
    have off : ∀ b o, H b = some o → b ∉ fp := fun b o q z => by rw [(hf b z).1] at q; cases q
    have hk' : ∀ b o, b ∉ fp → s.heap.get? b = some o → h'.get? b = some o := fun b o hb q => hk b o (fun z => hb (WA.sub b z)) q
    refine I1.call' (ch := fp) rfl ⟨fun b o q _ _ z => hk' b o z q, fun b o q _ _ z => ⟨o.slots, hk' b o z q⟩, fun b o q n _ => n, fun b o q z => ⟨o, hk' b o z q⟩, fun b xs q => q, fun b o u q => q, fun b ps q => ⟨#[], by rw [q]; simp⟩⟩ (fun b u q => ?_) I1.bare fun b z => ?_
    · refine (I1.hok b u q).stay (fun c v hc y => hk' c v ?_ y) (fun d y => y) fun d xs y => y
      rcases hc with rfl | hc
      · exact off _ _ q
      · exact off _ _ hc
    · obtain ⟨f0, f1, f2, f3, f4, f5⟩ := hf b z
      exact ⟨f3, f1, f4, f5⟩
  self := fun A i s Q E st h => hself A i s Q E st.1 h
/-- enumerate(text) -/
def iEnumS (ta : TA) : TI := fun σ H R => ta σ H fun vs H1 => ∃ l : List Nat, vs = [.str (S l)] ∧ R (ItT l.length fun i xs => ∃ c, l[i]? = some c ∧ xs = [.int (i : Nat), .str (S [c])]) H1
theorem pi_enumS {X : Cx} {e : Expr} {ta : TA} {p pos tpos : Pos} {elts : List Expr} {kk : Nat} (hg : Gl X "enumerate") (hm : X.mg "enumerate" = none) (ha : PA X [e] ta) (hs : starEach [e] X.env = [(false, eval e X.env)] := by rfl) :
    PI X (.Tuple elts kk tpos) (.Call (.Name "enumerate" p) [e] [] pos) (iEnumS ta) := by
  refine ⟨fun pins s σ H R I h => ?_⟩
  refine Call_ (ld_blt I hg hm boot_enumerate (PyProof.Rows.callWith_type1 (thn (ha.run pos pins s σ H _ I h) fun us s1 ⟨vs, H1, I1, r1, q1⟩ => ?_) hs rfl))
  obtain ⟨l, rfl, q⟩ := q1
  cases r1 with
  | cons r rr =>
    cases rr
    obtain ⟨t, rfl⟩ := r
    refine call_enumerate_str fun h' he hit hsz hk => wpAny_pyIter_enum he ?_
    have I2 : Inv X pins σ H1 { s1 with heap := h' } := I1.kept (t' := s1.toks) hk
    have hne : s1.heap.objs.size + 1 ≠ s1.heap.objs.size := Nat.succ_ne_self _
    have hef : s1.heap.objs.size + 1 ∉ [s1.heap.objs.size] := fun z => hne (List.mem_singleton.mp z)
    have T := turn_walksT (P := X.prog) (w := X.w) (K := X.K) (elts := elts) (kk := kk) (tpos := tpos) (n := (S l).cps.size) (Y := fun i xs => ∃ c, l[i]? = some c ∧ xs = [.int (i : Nat), .str (S [c])])
      (fun A hA => WalksT.enumFrom 0 (Draws.text (A := A.in1) hA s1.heap.objs.size (S l) t) (s1.heap.objs.size + 1) hne hef List.mem_cons_self) List.mem_cons_self ?_ ?_ ?_
    · have e2 : (S l).cps.size = l.length := by simp
      rw [e2] at T
      refine ⟨s1.heap.objs.size + 1, _, _, _, H1, rfl, I2, T, ⟨⟨⟨.none, by simpa using he⟩, hit⟩, Nat.zero_le _⟩, fun b hb => ?_, q⟩
      have e' : b = s1.heap.objs.size + 1 ∨ b = s1.heap.objs.size := by simpa using hb
      have hle : s1.heap.objs.size ≤ b := by
        rcases e' with z | z
        · rw [z]; exact Nat.le_add_right _ _
        · rw [z]; exact Nat.le_refl _
      exact I1.fpOk hle (I1.hok.fresh hle)
    · intro i h st b hb
      obtain ⟨⟨old, he⟩, ho⟩ := st
      have e' : b = s1.heap.objs.size + 1 ∨ b = s1.heap.objs.size := by simpa using hb
      rcases e' with z | z
      · rw [z]; exact ⟨_, he, fun v q => nomatch q⟩
      · obtain ⟨o, ho, hc, hd⟩ := ho
        rw [z]; exact ⟨o, ho, fun v q => by rw [hd] at q; cases q⟩
    · rintro i vals hi ⟨tt, x, ⟨c, u, hc, rfl⟩, rfl⟩
      refine ⟨[.int (i : Nat), .str (S [c])], .cons ⟨tt, by rw [Int.zero_add]⟩ (.cons ⟨u, rfl⟩ .nil), by show 2 ≤ sizeLine; decide, c, by simpa using hc, rfl⟩
    · intro A i s Q E st hq
      obtain ⟨⟨old, he⟩, _⟩ := st
      exact wpAny_pyIter_enum he hq
theorem walk_enumS {n : Nat} {Y : Nat → List V → Prop} : Walk (ItT n Y) n (fun _ => True) (fun i H v H' => ∃ T xs, v = .ref T ∧ H T = none ∧ H' = upd H T (.tup xs) ∧ Y i xs) :=
  ⟨fun _ _ hi _ => hi, fun _ _ => Nat.le_refl _, fun _ _ _ _ _ _ y => y⟩
/-- xs[i] read for xs[i] += e -/
theorem get_list {X : Cx} : PGet X (rIxL X.K) := by
  intro pins s σ H x y v u Q I rx ry h
  obtain ⟨p, xs, i, z, rfl, rfl, hq, he, q⟩ := h
  cases rx
  obtain ⟨t, rfl⟩ := ry
  obtain ⟨its, r, pl, hz⟩ := I.list hq
  obtain ⟨j, h1, h2, h3, h4, h5⟩ := atI_get he
  obtain ⟨w, ew, rw'⟩ := r.get h2
  have hl := r.length
  have hn := line63
  have fin : EP X pins σ Q w s := ⟨z, H, I, rw', q⟩
  by_cases h0 : 0 ≤ i
  · have hj : i.toNat = j := by
      rw [seqIndex_of h0 h5] at h1
      exact Option.some.inj h1
    exact wpAny_getItem_list pl.isList h0 (by omega) (by rw [hj]; simpa using ew) fin
  · have hj : (i + (its.toArray.size : Int)).toNat = j := by
      rw [seqIndex_neg (by omega) h4] at h1
      rw [List.size_toArray, ← hl]
      exact Option.some.inj h1
    exact wpAny_getItem_list_neg pl.isList (by omega) (by rw [List.size_toArray] <;> omega) (by omega) (by rw [hj]; simpa using ew) fin
end Lv

set_option Elab.async false
set_option linter.all false
set_option maxRecDepth 100000
set_option maxHeartbeats 2000000
namespace Lv
open PySem PySem.Spec PyProof.Rows L2 SX
/-! ints -/
abbrev rAdd : R2 := rI0 fun i j => .int (i + j)
abbrev rSub : R2 := rI0 fun i j => .int (i - j)
abbrev rMul : R2 := rI CMul fun i j => .int (i * j)
abbrev rDiv : R2 := rI CDiv fun i j => .int (i / j)
abbrev rMod : R2 := rI (fun _ j => 0 < j) fun i j => .int (i % j)
abbrev rPow : R2 := rI CPow fun i j => .int (i ^ j.toNat)
abbrev rLt : R2 := rI0 fun i j => .bl (decide (i < j))
abbrev rLe : R2 := rI0 fun i j => .bl (decide (i ≤ j))
abbrev rGt : R2 := rI0 fun i j => .bl (decide (j < i))
abbrev rGe : R2 := rI0 fun i j => .bl (decide (j ≤ i))
abbrev rEqI : R2 := rI0 fun i j => .bl (decide (i = j))
abbrev rNeI : R2 := rI0 fun i j => .bl (!decide (i = j))
abbrev rNeg : V → Hp → VK → Prop := rU fun i => .int (-i)
section
variable {X : Cx}
theorem op_eqI : OpR X (compareOp .Eq) rEqI := by
  intro pins s σ H x y v u Q I rx ry h
  obtain ⟨i, j, rfl, rfl, q⟩ := h
  refine op_eq pins s σ H _ _ v u Q I rx ry ⟨rfl, ?_⟩
  rw [show decide (V.int i = V.int j) = decide (i = j) by simp]
  exact q
theorem op_neI : OpR X (compareOp .NotEq) rNeI := by
  intro pins s σ H x y v u Q I rx ry h
  obtain ⟨i, j, rfl, rfl, q⟩ := h
  refine op_ne pins s σ H _ _ v u Q I rx ry ⟨rfl, ?_⟩
  rw [show decide (V.int i = V.int j) = decide (i = j) by simp]
  exact q
/-! texts -/
def r2S (g : List Nat → List Nat → V) : R2 := fun x y H Q => ∃ a b : List Nat, x = .str (S a) ∧ y = .str (S b) ∧ Q (g a b) H
def rAddS : R2 := fun x y H Q => ∃ a b : List Nat, x = .str (S a) ∧ y = .str (S b) ∧ a.length + b.length ≤ sizeLine ∧ Q (.str (S (a ++ b))) H
abbrev rEqS : R2 := r2S fun a b => .bl (decide (a = b))
abbrev rNeS : R2 := r2S fun a b => .bl (!decide (a = b))
abbrev rLtS : R2 := r2S fun a b => .bl (decide (a < b))
abbrev rLeS : R2 := r2S fun a b => .bl (!decide (b < a))
abbrev rGeS : R2 := r2S fun a b => .bl (!decide (a < b))
def rMulS : R2 := fun x y H Q => ∃ (l : List Nat) (n : Int), x = .str (S l) ∧ y = .int n ∧ -(2 ^ 38) < n ∧ n < 2 ^ 38 ∧ l.length * n.toNat ≤ sizeLine ∧ Q (.str (S (List.replicate n.toNat l).flatten)) H
theorem op_mulS1 : OpR X (binaryOp .Mult) rMulS := op_mulS
theorem op_addS : OpR X (binaryOp .Add) rAddS := by
  intro pins s σ H x y v u Q I rx ry h
  obtain ⟨a, b, rfl, rfl, hz, q⟩ := h
  refine op_add_str pins s σ H _ _ v u Q I rx ry ⟨_, _, rfl, rfl, ?_, ?_⟩
  · rw [S_len, S_len]; exact hz
  · rw [S_cat]; exact q
theorem dec_S (a b : List Nat) : decide (V.str (S a) = V.str (S b)) = decide (a = b) := by
  by_cases h : a = b
  · subst h; simp
  · have : ¬ (V.str (S a) = V.str (S b)) := fun z => h (S_inj (V.str.inj z))
    rw [decide_eq_false h, decide_eq_false this]
theorem op_eqS : OpR X (compareOp .Eq) rEqS := by
  intro pins s σ H x y v u Q I rx ry h
  obtain ⟨a, b, rfl, rfl, q⟩ := h
  refine op_eq pins s σ H _ _ v u Q I rx ry ⟨rfl, ?_⟩
  rw [dec_S]
  exact q
theorem op_neS : OpR X (compareOp .NotEq) rNeS := by
  intro pins s σ H x y v u Q I rx ry h
  obtain ⟨a, b, rfl, rfl, q⟩ := h
  refine op_ne pins s σ H _ _ v u Q I rx ry ⟨rfl, ?_⟩
  rw [dec_S]
  exact q
theorem op_ltS : OpR X (compareOp .Lt) rLtS := by
  intro pins s σ H x y v u Q I rx ry h
  obtain ⟨a, b, rfl, rfl, q⟩ := h
  exact op_lt_str pins s σ H _ _ v u Q I rx ry ⟨_, _, rfl, rfl, q⟩
theorem op_leS : OpR X (compareOp .LtE) rLeS := by
  intro pins s σ H x y v u Q I rx ry h
  obtain ⟨a, b, rfl, rfl, q⟩ := h
  exact op_le_str pins s σ H _ _ v u Q I rx ry ⟨_, _, rfl, rfl, q⟩
theorem op_geS : OpR X (compareOp .GtE) rGeS := by
  intro pins s σ H x y v u Q I rx ry h
  obtain ⟨a, b, rfl, rfl, q⟩ := h
  exact op_ge_str pins s σ H _ _ v u Q I rx ry ⟨_, _, rfl, rfl, q⟩
/-- one sign in a text -/
def rIn1 (neg : Bool) : R2 := fun x y H Q => ∃ (c : Nat) (l : List Nat), x = .str (S [c]) ∧ y = .str (S l) ∧ Q (.bl (if neg then !decide (c ∈ l) else decide (c ∈ l))) H
theorem op_in1 : OpR X (compareOp .In) (rIn1 false) := by
  intro pins s σ H x y v u Q I rx ry h
  obtain ⟨a, b, rfl, rfl, q⟩ := h
  exact op_in_sign pins s σ H _ _ v u Q I rx ry ⟨_, _, rfl, rfl, q⟩
theorem op_notIn1 : OpR X (compareOp .NotIn) (rIn1 true) := by
  intro pins s σ H x y v u Q I rx ry h
  obtain ⟨a, b, rfl, rfl, q⟩ := h
  exact op_notIn_sign pins s σ H _ _ v u Q I rx ry ⟨_, _, rfl, rfl, q⟩
def rIxT1 : R2 := fun x y H Q => ∃ (l : List Nat) (i : Int) (c : Nat), x = .str (S l) ∧ y = .int i ∧ l.length ≤ sizeLine ∧ atI l i = some c ∧ Q (.str (S [c])) H
theorem ix_S : IxR X rIxT1 := by
  intro value slice pins s σ H x y v u Q I rx ry h hs
  obtain ⟨l, i, c, rfl, rfl, hz, he, q⟩ := h
  exact ix_str value slice pins s σ H _ _ v u Q I rx ry ⟨_, _, c, rfl, rfl, by rw [S_len]; exact hz, he, q⟩ hs
def cutL {α : Type} (l : List α) (lo hi : Option Int) : List α := (l.drop (HT.sIx l.length 0 lo)).take (HT.sIx l.length l.length hi - HT.sIx l.length 0 lo)
def rSlS1 : V → Option Int → Option Int → Hp → VK → Prop := fun x lo hi H Q => ∃ l : List Nat, x = .str (S l) ∧ l.length ≤ sizeLine ∧ Q (.str (S (cutL l lo hi))) H
theorem sl_S : SlR X rSlS1 := by
  intro pins s σ H x v vl vu lo hi sl Q I rx hs pl pu h
  obtain ⟨l, rfl, hz, q⟩ := h
  refine sl_str pins s σ H _ v vl vu lo hi sl Q I rx hs pl pu ⟨_, rfl, by rw [S_len]; exact hz, ?_⟩
  have : cutS (S l) lo hi = S (cutL l lo hi) := by
    unfold cutS cutL
    rw [S_len]
  rw [this]
  exact q
def rLenT : List V → Hp → VK → Prop := fun xs H Q => ∃ l : List Nat, xs = [.str (S l)] ∧ l.length ≤ sizeLine ∧ Q (.int (l.length : Nat)) H
theorem call_lenT : CallR X (.builtin "len") rLenT := by
  intro pins s σ H xs us Q I r h
  obtain ⟨l, rfl, hz, q⟩ := h
  refine call_len_str pins s σ H _ us Q I r ⟨_, rfl, by rw [S_len]; exact hz, ?_⟩
  rw [S_len]
  exact q
abbrev rLenL (K : PySem.W.Frag) : List V → Hp → VK → Prop := fun xs H Q => ∃ p ys, xs = [.ref p] ∧ (SqL K H p ys ∨ SqT K H p ys) ∧ Q (.int ys.length) H
abbrev rListOf (K : PySem.W.Frag) : List V → Hp → VK → Prop := fun xs H Q => ∃ p ys, xs = [.ref p] ∧ (SqL K H p ys ∨ SqT K H p ys) ∧ ∀ l, H l = none → Q (.ref l) (upd H l (.lst ys))
/-- the least place from i on that has c -/
def nextP (l : List Nat) (i c : Nat) : Option Nat := ((l.drop i).idxOf? c).map (· + i)
def findI (l : List Nat) (i c : Nat) : Int := match nextP l i c with | some k => (k : Int) | none => -1
theorem idxOf?_some {l : List Nat} {c k : Nat} : l.idxOf? c = some k ↔ l[k]? = some c ∧ ∀ j, j < k → l[j]? ≠ some c := by
  induction l generalizing k with
  | nil => simp
  | cons a l ih =>
    rw [List.idxOf?_cons]
    by_cases h : (a == c) = true
    · rw [if_pos h]
      have e := eq_of_beq h
      subst e
      constructor
      · intro z
        have := Option.some.inj z
        subst this
        exact ⟨rfl, fun j hj => absurd hj (Nat.not_lt_zero _)⟩
      · rintro ⟨z1, z2⟩
        cases k with
        | zero => rfl
        | succ k => exact absurd rfl (z2 0 (Nat.succ_pos _))
    · rw [if_neg h]
      have hne : a ≠ c := fun e => h (beq_iff_eq.mpr e)
      cases k with
      | zero =>
        constructor
        · intro z
          cases e : l.idxOf? c with
          | none => rw [e] at z; cases z
          | some j => rw [e] at z; cases z
        · rintro ⟨z1, _⟩
          exact absurd (Option.some.inj z1) hne
      | succ k =>
        have : (Option.map (fun x => x + 1) (l.idxOf? c) = some (k + 1)) ↔ l.idxOf? c = some k := by
          cases e : l.idxOf? c with
          | none => simp
          | some j => simp
        rw [this, ih]
        constructor
        · rintro ⟨z1, z2⟩
          refine ⟨z1, fun j hj => ?_⟩
          cases j with
          | zero => exact fun z => hne (Option.some.inj z)
          | succ j => exact z2 j (by omega)
        · rintro ⟨z1, z2⟩
          exact ⟨z1, fun j hj => z2 (j + 1) (by omega)⟩
theorem idxOf?_none {l : List Nat} {c : Nat} : l.idxOf? c = none ↔ ∀ j : Nat, l[j]? ≠ some c := by
  constructor
  · intro h j hj
    have hm := List.mem_of_getElem? hj
    cases e : l.idxOf? c with
    | some k => rw [e] at h; cases h
    | none =>
      rw [List.idxOf?_eq_none_iff] at e
      exact e hm
  · intro h
    rw [List.idxOf?_eq_none_iff]
    intro hm
    obtain ⟨j, hj⟩ := List.mem_iff_getElem?.mp hm
    exact h j hj
theorem nextP_some {l : List Nat} {i c k : Nat} : nextP l i c = some k ↔ i ≤ k ∧ l[k]? = some c ∧ ∀ j, i ≤ j → j < k → l[j]? ≠ some c := by
  unfold nextP
  constructor
  · intro h
    cases e : (l.drop i).idxOf? c with
    | none => rw [e] at h; cases h
    | some m =>
      rw [e] at h
      have hk : m + i = k := Option.some.inj h
      obtain ⟨h1, h2⟩ := idxOf?_some.mp e
      rw [List.getElem?_drop] at h1
      refine ⟨by omega, ?_, fun j hj hjk => ?_⟩
      · rw [← hk, Nat.add_comm m i]; exact h1
      · have := h2 (j - i) (by omega)
        rw [List.getElem?_drop, show i + (j - i) = j by omega] at this
        exact this
  · rintro ⟨h1, h2, h3⟩
    have e : (l.drop i).idxOf? c = some (k - i) := by
      rw [idxOf?_some]
      refine ⟨?_, fun j hj => ?_⟩
      · rw [List.getElem?_drop, show i + (k - i) = k by omega]; exact h2
      · rw [List.getElem?_drop]; exact h3 (i + j) (by omega) (by omega)
    rw [e]
    show some (k - i + i) = some k
    rw [show k - i + i = k by omega]
theorem nextP_none {l : List Nat} {i c : Nat} : nextP l i c = none ↔ ∀ j, i ≤ j → l[j]? ≠ some c := by
  unfold nextP
  rw [Option.map_eq_none_iff, idxOf?_none]
  constructor
  · intro h j hj
    have := h (j - i)
    rw [List.getElem?_drop, show i + (j - i) = j by omega] at this
    exact this
  · intro h j
    rw [List.getElem?_drop]
    exact h (i + j) (by omega)
theorem find3_S (l : List Nat) (c i : Nat) (hi : i ≤ l.length) : Txt.find3 (S l) (S [c]) (i : Int) = findI l i c := by
  have e0 : fromIndex (S l).length (i : Int) = i := by
    rw [S_len]
    unfold fromIndex
    rw [if_neg (by omega)]
    omega
  have gd : ∀ (v x : Nat), v < l.length → ((S l).cps.getD v 0 = x ↔ l[v]? = some x) := fun v x hv => by
    have : (S l).cps.getD v 0 = l.getD v 0 := by simp
    rw [this, List.getD_eq_getElem?_getD, List.getElem?_eq_getElem hv]
    simp
  unfold findI
  rcases StrLaws.find3_spec (S l) c (i : Int) with ⟨h1, h2⟩ | ⟨k, h1, h2, h3, h4, h5⟩
  · rw [e0, S_len] at h2
    have : nextP l i c = none := nextP_none.mpr fun j hj z => by
      have hjl : j < l.length := (List.getElem?_eq_some_iff.mp z).1
      exact h2 j hj hjl ((gd j c hjl).mpr z)
    rw [this]
    exact h1
  · rw [e0] at h2 h5
    rw [S_len] at h3
    have : nextP l i c = some k := nextP_some.mpr ⟨h2, (gd k c h3).mp h4, fun j hj hjk z => h5 j hj hjk ((gd j c (by omega)).mpr z)⟩
    rw [this]
    exact h1
def rFind (x : V) (xs : List V) (H : Hp) (Q : VK) : Prop := ∃ (l : List Nat) (c i : Nat), x = .str (S l) ∧ xs = [.str (S [c]), .int (i : Int)] ∧ i ≤ l.length ∧ Q (.int (findI l i c)) H
theorem mt_findS : MtR X "str.find" rFind := by
  intro pins s σ H x xs v us Q I rx r h
  obtain ⟨l, c, i, rfl, rfl, hi, q⟩ := h
  refine mt_find3 pins s σ H _ _ v us Q I rx r ⟨_, _, _, rfl, rfl, ?_⟩
  have : Txt.find3 (S l) (S [c]) (i : Int) = findI l i c := find3_S l c i hi
  rw [this]
  exact q
def rJoin (K : PySem.W.Frag) : V → List V → Hp → VK → Prop := fun x xs H Q => ∃ (p : Addr) (a : List Nat) (ys : List (List Nat)), x = .str (S a) ∧ xs = [.ref p] ∧ SqL K H p (ys.map fun l => .str (S l)) ∧ (ys.map List.length).sum + ys.length * a.length ≤ 16777216 ∧ Q (.str (S (TL.joinL a ys))) H
theorem mt_joinS : MtR X "str.join" (rJoin X.K) := by
  intro pins s σ H x xs v us Q I rx r h
  obtain ⟨p, a, ys, rfl, rfl, hL, hz, q⟩ := h
  refine mt_join pins s σ H _ _ v us Q I rx r ⟨_, p, ys.map S, rfl, rfl, .inl ?_, ?_, ?_⟩
  · rw [List.map_map]; exact hL
  · rw [lens, List.length_map, S_len]; exact hz
  · rw [join_S]; exact q
end
end Lv
/-! isinstance of any thing, errors too -/
namespace Lv
open PySem PySem.Spec PyProof.Rows L2
/-- an error's object, of the class cls, at a -/
def CgO (cls : Value) (a : Addr) : HO := .ext fun h => ∃ (oe : Obj) (vs : Array Value), h.get? a = some oe ∧ Zc cls none oe ∧ oe.data = .fields vs
theorem cgO_ok {P : Program} {w : World} {H : Hp} {h : Heap} {a : Addr} {cls : Value} {oe : Obj} {vs : Array Value} (e : h.get? a = some oe) (z : Zc cls none oe) (d : oe.data = .fields vs) : ObjOk P w H h a (CgO cls a) :=
  ⟨⟨oe, vs, e, z, d⟩, ⟨oe, e⟩, fun _ _ q k => by
    obtain ⟨o, v, q1, q2⟩ := q
    exact ⟨o, v, k o q1, q2⟩⟩
/-- classes of errors that isinstance knows -/
inductive ExT (K : PySem.W.Frag) : Value → Prop where
  | own {D : Addr} (c : ExcC K D) : ExT K (.ref D)
  | ve : ExT K (.type "ValueError")
inductive Ty2 (K : PySem.W.Frag) (H : Hp) : V → Value → Prop where
  | of {x : V} {t : Value} (h : TyX K H x t) : Ty2 K H x t
  | exc {a : Addr} {t : Value} (e : H a = some (CgO t a)) (c : ExT K t) : Ty2 K H (.ref a) t
theorem kit_of2 {X : Cx} {pins : List (Addr × Obj)} {σ : L2.St} {H : Hp} {s : Shared} {x : V} {u t : Value} (I : Inv X pins σ H s) (rx : RelV x u) (ty : Ty2 X.K H x t) : ∃ P : Heap → Prop, PySem.W.KitX X.K u t P ∧ P s.heap ∧ u ≠ .builtin "__main__.__loader__#opaque" := by
  cases ty with
  | of h => exact kit_of I rx h
  | @exc a _ e c =>
    cases (show u = Value.ref a from rx)
    obtain ⟨⟨oe, vs, he, hz, hd⟩, _, _⟩ := I.hok a _ e
    cases c with
    | own c =>
      refine ⟨_, PySem.W.handS_kitx_exc c.hg c.hk c.hs c.hd c.ha c.hn c.ht c.hm (ox := oe), ?_, fun z => nomatch z⟩
      obtain ⟨oc, od, oda, osl⟩ := oe
      obtain ⟨z1, z2⟩ := hz
      dsimp only at z1 z2 hd
      subst z1 z2 hd
      exact ⟨he, rfl, rfl, trivial⟩
    | ve => exact ⟨_, PySem.W.kitx_bexc PySem.F.excAttr_ValueError PySem.F.lkClass_ValueError PySem.F.soClass_ValueError (by decide +kernel), ⟨oe, he, hz.1⟩, fun z => nomatch z⟩
/-- isinstance(x, c) -/
def rIs1 (K : PySem.W.Frag) : List V → Hp → VK → Prop := fun xs H Q => ∃ (x c : V) (t u : Value) (b : Bool), xs = [x, c] ∧ ClsV c u ∧ Ty2 K H x t ∧ PySem.W.kitOne K t u = some b ∧ Q (.bl b) H
theorem call_is1 {X : Cx} : CallR X (.builtin "isinstance") (rIs1 X.K) := fun pins s σ H xs us Q I r h => by
  obtain ⟨x, c, t, u, b, rfl, hc, ty, e, q⟩ := h
  obtain ⟨v1, v2, rfl, r1, r2⟩ := vals2 r
  cases hc.eq r2
  obtain ⟨P, Z, p, nx⟩ := kit_of2 I r1 ty
  exact PySem.W.kia_one Z I.kIn p e nx fun tk => ⟨.bl b, H, I.tok tk, rfl, q⟩
end Lv

set_option Elab.async false
set_option linter.all false
set_option maxRecDepth 100000
set_option maxHeartbeats 2000000
namespace Lv
open PySem PySem.Spec PyProof.Rows L2 SX
/-! steps of a reading -/
section
variable {K : PySem.W.Frag} {D : Ends} {σ : L2.St} {H : Hp} {Q : VK} {t u : TS} {te ta tb tc : TE} {tt tu : TT} {targs tr : TA} {i : Nat} {v x y : V} {g : TG} {ti : TIp}
theorem i_seq (h : t { D with nx := u D } σ H) : tSeq t u D σ H := h
theorem i_next (h : D.nx σ H) : tNext D σ H := h
theorem i_set (h : te σ H fun x H1 => D.nx (σ.set i (some x)) H1) : tAsg te (gName i) D σ H := h
theorem i_asg (h : te σ H fun x H1 => g x σ H1 D.nx) : tAsg te g D σ H := h
theorem i_drop (h : te σ H fun _ H1 => D.nx σ H1) : tDrop te D σ H := h
theorem i_ret (h : te σ H D.rt) : tRet te D σ H := h
theorem i_if (h : tt σ H fun b H1 => if b = true then t D σ H1 else u D σ H1) : tIfS tt t u D σ H := h
theorem i_brk (h : D.bk σ H) : tBreak D σ H := h
theorem i_aug (hx : σ[i]? = some (some x)) (h : te σ H fun y H1 => ti x y H1 fun z H2 => D.nx (σ.set i (some z)) H2) : tAug i te ti D σ H := ⟨x, hx, h⟩
theorem i_ipI {f : Int → Int → Int} {a b : Int} (h : Q (.int (f a b)) H) : ipI f (.int a) (.int b) H Q := ⟨a, b, rfl, rfl, h⟩
theorem i_var (hv : σ[i]? = some (some v)) (h : Q v H) : tVar i σ H Q := ⟨v, hv, h⟩
theorem i_c (h : Q v H) : tC v σ H Q := h
theorem i_op {r : R2} (h : ta σ H fun x H1 => tb σ H1 fun y H2 => r x y H2 Q) : tOp r ta tb σ H Q := h
theorem i_un {r : V → Hp → VK → Prop} (h : ta σ H fun x H1 => r x H1 Q) : tUn r ta σ H Q := h
theorem i_cb {r : List V → Hp → VK → Prop} (h : targs σ H fun vs H1 => r vs H1 Q) : tCB r targs σ H Q := h
theorem i_call {sp : Sp} {dvs : List V} {E : XK} (h : targs σ H fun vs H1 => sp (vs ++ dvs) H1 Q E) : tCall sp dvs E targs σ H Q := h
theorem i_nil {QA : List V → Hp → Prop} (h : QA [] H) : tNil σ H QA := h
theorem i_cons {QA : List V → Hp → Prop} (h : ta σ H fun x H1 => tr σ H1 fun xs H2 => QA (x :: xs) H2) : tCons ta tr σ H QA := h
theorem i_lst (h : targs σ H fun xs H1 => xs.length ≤ sizeLine ∧ ∀ p, H1 p = none → Q (.ref p) (upd H1 p (.lst xs))) : tLst targs σ H Q := h
theorem i_bm {T : String} {r : V → List V → Hp → VK → Prop} (h : te σ H fun x H1 => tyV K T x H1 ∧ targs σ H1 fun xs H2 => r x xs H2 Q) : tBM K T r te targs σ H Q := h
theorem i_bm0 {T : String} {r : V → List V → Hp → VK → Prop} (h : te σ H fun x H1 => tyV K T x H1 ∧ r x [] H1 Q) : tBM0 K T r te σ H Q := h
theorem i_tyS {z : Str} {P : Prop} (h : P) : tyV K "str" (.str z) H ∧ P := ⟨rfl, h⟩
theorem i_sl {r : V → Option Int → Option Int → Hp → VK → Prop} {tl th : TO} (h : te σ H fun x H1 => tl σ H1 fun l H2 => th σ H2 fun u H3 => r x l u H3 Q) : tSl r te tl th σ H Q := h
theorem i_noPart {QO : Option Int → Hp → Prop} (h : QO none H) : tNoPart σ H QO := h
theorem i_part {QO : Option Int → Hp → Prop} (h : te σ H fun x H1 => ∃ i, x = .int i ∧ QO (some i) H1) : tPart te σ H QO := h
theorem i_exI {P : Int → Prop} {n : Int} (h : P n) : ∃ i, V.int n = .int i ∧ P i := ⟨n, rfl, h⟩
theorem i_bl {b : Bool} {P : Bool → Prop} (h : P b) : ∃ k, V.bl b = .bl k ∧ P k := ⟨b, rfl, h⟩
theorem i_test {QB : Bool → Hp → Prop} (h : te σ H fun x H' => ∃ k, x = .bl k ∧ QB k H') : tTest te σ H QB := h
theorem i_tB {QB : Bool → Hp → Prop} (h : te σ H fun x H' => ∃ k, x = .bl k ∧ QB k H') : tB te σ H QB := h
theorem i_not {QB : Bool → Hp → Prop} (h : tt σ H fun c H1 => QB (!c) H1) : tNot tt σ H QB := h
theorem i_and {QB : Bool → Hp → Prop} (h : tt σ H fun c H1 => if c = true then tu σ H1 QB else QB false H1) : tAnd tt tu σ H QB := h
theorem i_or {QB : Bool → Hp → Prop} (h : tt σ H fun c H1 => if c = true then QB true H1 else tu σ H1 QB) : tOr tt tu σ H QB := h
theorem i_andV (h : ta σ H fun x H1 => ∃ c, x = .bl c ∧ if c = true then tb σ H1 Q else Q (.bl false) H1) : tAndV ta tb σ H Q := h
theorem i_orV (h : ta σ H fun x H1 => ∃ c, x = .bl c ∧ if c = true then Q (.bl true) H1 else tb σ H1 Q) : tOrV ta tb σ H Q := h
theorem i_notV (h : ta σ H fun x H1 => ∃ c, x = .bl c ∧ Q (.bl (!c)) H1) : tNotV ta σ H Q := h
theorem i_ifE (h : tt σ H fun c H1 => if c = true then ta σ H1 Q else tb σ H1 Q) : tIf tt ta tb σ H Q := h
theorem i_rI0 {f : Int → Int → V} {a b : Int} (h : Q (f a b) H) : rI0 f (.int a) (.int b) H Q := ⟨a, b, rfl, rfl, h⟩
theorem i_rI {C : Int → Int → Prop} {f : Int → Int → V} {a b : Int} (hc : C a b) (h : Q (f a b) H) : rI C f (.int a) (.int b) H Q := ⟨a, b, rfl, rfl, hc, h⟩
theorem i_rU {f : Int → V} {a : Int} (h : Q (f a) H) : rU f (.int a) H Q := ⟨a, rfl, h⟩
theorem i_r2S {f : List Nat → List Nat → V} {a b : List Nat} (h : Q (f a b) H) : r2S f (.str (S a)) (.str (S b)) H Q := ⟨a, b, rfl, rfl, h⟩
theorem i_in1 {c : Nat} {l : List Nat} (h : Q (.bl (decide (c ∈ l))) H) : rIn1 false (.str (S [c])) (.str (S l)) H Q := ⟨c, l, rfl, rfl, h⟩
theorem i_notIn1 {c : Nat} {l : List Nat} (h : Q (.bl (!decide (c ∈ l))) H) : rIn1 true (.str (S [c])) (.str (S l)) H Q := ⟨c, l, rfl, rfl, h⟩
theorem i_addS {a b : List Nat} (hz : a.length + b.length ≤ sizeLine) (h : Q (.str (S (a ++ b))) H) : rAddS (.str (S a)) (.str (S b)) H Q := ⟨a, b, rfl, rfl, hz, h⟩
theorem i_mulS {l : List Nat} {n : Int} (h0 : -(2 ^ 38) < n) (h1 : n < 2 ^ 38) (hz : l.length * n.toNat ≤ sizeLine) (h : Q (.str (S (List.replicate n.toNat l).flatten)) H) : rMulS (.str (S l)) (.int n) H Q := ⟨l, n, rfl, rfl, h0, h1, hz, h⟩
theorem i_ixS {l : List Nat} {n : Int} {c : Nat} (hz : l.length ≤ sizeLine) (hc : atI l n = some c) (h : Q (.str (S [c])) H) : rIxT1 (.str (S l)) (.int n) H Q := ⟨l, n, c, rfl, rfl, hz, hc, h⟩
theorem i_slS {l : List Nat} {lo hi : Option Int} (hz : l.length ≤ sizeLine) (h : Q (.str (S (cutL l lo hi))) H) : rSlS1 (.str (S l)) lo hi H Q := ⟨l, rfl, hz, h⟩
theorem i_lenT {l : List Nat} (hz : l.length ≤ sizeLine) (h : Q (.int (l.length : Nat)) H) : rLenT [.str (S l)] H Q := ⟨l, rfl, hz, h⟩
theorem i_find {l : List Nat} {c j : Nat} (hj : j ≤ l.length) (h : Q (.int (findI l j c)) H) : rFind (.str (S l)) [.str (S [c]), .int (j : Int)] H Q := ⟨l, c, j, rfl, rfl, hj, h⟩
theorem i_ixL {p : Addr} {xs : List V} {n : Int} (hp : SqL K H p xs) (hn : atI xs n = some v) (h : Q v H) : rIxL K (.ref p) (.int n) H Q := ⟨p, xs, n, v, rfl, rfl, hp, hn, h⟩
end
theorem if_dec {p : Prop} [Decidable p] {A B : Prop} (h1 : p → A) (h2 : ¬ p → B) : if decide p = true then A else B := by
  by_cases h : p
  · rw [decide_eq_true h, if_pos rfl]; exact h1 h
  · rw [decide_eq_false h, if_neg Bool.false_ne_true]; exact h2 h
theorem if_ndec {p : Prop} [Decidable p] {A B : Prop} (h1 : ¬ p → A) (h2 : p → B) : if (!decide p) = true then A else B := by
  by_cases h : p
  · rw [decide_eq_true h]; exact iteF (h2 h)
  · rw [decide_eq_false h]; exact iteT (h1 h)
theorem if_yes {p : Prop} [Decidable p] {A B : Prop} (hp : p) (h1 : A) : if decide p = true then A else B := by
  rw [decide_eq_true hp, if_pos rfl]; exact h1
theorem if_no {p : Prop} [Decidable p] {A B : Prop} (hp : ¬ p) (h1 : B) : if decide p = true then A else B := by
  rw [decide_eq_false hp, if_neg Bool.false_ne_true]; exact h1
theorem le_line {n : Nat} (h : n ≤ 1000000) : n ≤ sizeLine := Nat.le_trans h (by decide)
theorem lt_line {n : Nat} (h : n ≤ 1000000) : n < sizeLine := Nat.lt_of_le_of_lt h (by decide)
/-! heaps -/
/-- all but what stands at h is as it was -/
def But (h : Addr) (H H' : Hp) : Prop := ∀ b o, b ≠ h → H b = some o → H' b = some o
theorem But.refl (h : Addr) (H : Hp) : But h H H := fun _ _ _ q => q
theorem But.trans {h : Addr} {H H1 H2 : Hp} (a : But h H H1) (b : But h H1 H2) : But h H H2 := fun c o n q => b c o n (a c o n q)
theorem _root_.L2.Same.but {h : Addr} {H H' : Hp} (a : Same H H') : But h H H' := fun c o _ q => a c o q
theorem But.same {h : Addr} {H H' : Hp} (a : But h H H') (n : H h = none) : Same H H' := fun c o q => a c o (ne_of_none q n) q
theorem But.upd {h : Addr} {H : Hp} {o : HO} : But h H (L2.upd H h o) := fun c o' n q => by rw [upd_ne n]; exact q
theorem same_new {H : Hp} {p : Addr} {o : HO} (n : H p = none) : Same H (upd H p o) := fun c o' q => by rw [upd_ne (ne_of_none q n)]; exact q
theorem But.seq {K : PySem.W.Frag} {h : Addr} {H H' : Hp} {a : Addr} {xs : List V} (e : But h H H') (n : a ≠ h) (q : SqL K H a xs) : SqL K H' a xs := by
  rcases q with (q | ⟨o, q⟩) | q
  · exact .inl (.inl (e _ _ n q))
  · exact .inl (.inr ⟨o, e _ _ n q⟩)
  · exact .inr q
theorem _root_.L2.Same.tup {K : PySem.W.Frag} {H H' : Hp} {a : Addr} {xs : List V} (e : Same H H') (q : SqT K H a xs) : SqT K H' a xs := by
  rcases q with (q | ⟨o, q⟩) | q
  · exact .inl (.inl (e _ _ q))
  · exact .inl (.inr ⟨o, e _ _ q⟩)
  · exact .inr q
theorem SqL.of1 {K : PySem.W.Frag} {H : Hp} {a : Addr} {xs : List V} (h : H a = some (.lst xs)) : SqL K H a xs := .inl (.inl h)
theorem SqT.of1 {K : PySem.W.Frag} {H : Hp} {a : Addr} {xs : List V} (h : H a = some (.tup xs)) : SqT K H a xs := .inl (.inl h)
/-- the hand: two whole numbers -/
def Hd (H : Hp) (h : Addr) : Prop := ∃ d m : Int, H h = some (.lst [.int d, .int m]) ∧ 0 ≤ d ∧ 0 ≤ m ∧ m < 2147483648
theorem Hd.same {H H' : Hp} {h : Addr} (e : Same H H') (x : Hd H h) : Hd H' h := by
  obtain ⟨d, m, a, b⟩ := x
  exact ⟨d, m, e _ _ a, b⟩

/-! int(truth), truths, lists of ints compared -/
def rIntB : List V → Hp → VK → Prop := fun xs H Q => ∃ k : Bool, xs = [.bl k] ∧ Q (.int (if k = true then 1 else 0)) H
theorem call_intB {X : Cx} : CallR X (.type "int") rIntB := by
  intro pins s σ H xs us Q I r h
  exact call_int1 pins s σ H xs us Q I r (.inr h)
theorem i_intB {H : Hp} {Q : VK} {k : Bool} (h : Q (.int (if k = true then 1 else 0)) H) : rIntB [.bl k] H Q := ⟨k, rfl, h⟩
section
variable {X : Cx}
theorem dp_ints {K : PySem.W.Frag} {H : Hp} : ∀ ns : List Int, DpAll K H (ns.map V.int) (ns.map PyData.int)
  | [] => .nil
  | n :: ns => .cons (.int n) (dp_ints ns)
theorem lay_ints : ∀ ns : List Int, PyData.canLayAll0 (ns.map PyData.int) = true
  | [] => by simp [PyData.canLayAll0]
  | n :: ns => by simp [PyData.canLayAll0, PyData.canLay0, lay_ints ns]
theorem depth_ints : ∀ ns : List Int, PyData.depthAll (ns.map PyData.int) = 0
  | [] => by simp [PyData.depthAll]
  | n :: ns => by simp [PyData.depthAll, PyData.depth, depth_ints ns]
theorem shaped_ints (ns : List Int) : SeqAt.shaped (.list (ns.map PyData.int)) = true := by
  unfold SeqAt.shaped
  rw [PyData.canLay0, lay_ints, PyData.depth, depth_ints]
  rfl
theorem eqv_ints : ∀ ns ms : List Int, PyData.eqvAll (ns.map PyData.int) (ms.map PyData.int) = decide (ns = ms)
  | [], [] => by simp [PyData.eqvAll]
  | [], _ :: _ => by simp [PyData.eqvAll]
  | _ :: _, [] => by simp [PyData.eqvAll]
  | n :: ns, m :: ms => by
    simp only [List.map_cons, PyData.eqvAll, PyData.eqv, eqv_ints ns ms, List.cons.injEq]
    by_cases h : n = m
    · subst h; simp
    · simp [h]
def r2L (K : PySem.W.Frag) (g : List Int → List Int → Bool) : R2 := fun x y H Q => ∃ (p q : Addr) (ns ms : List Int), x = .ref p ∧ y = .ref q ∧ SqL K H p (ns.map V.int) ∧ SqL K H q (ms.map V.int) ∧ Q (.bl (g ns ms)) H
abbrev rEqL (K : PySem.W.Frag) : R2 := r2L K fun a b => decide (a = b)
abbrev rNeL (K : PySem.W.Frag) : R2 := r2L K fun a b => !decide (a = b)
theorem op_eqL (hu : X.A.units + 64 < cLine) : OpR X (compareOp .Eq) (rEqL X.K) := by
  intro pins s σ H x y v u Q I rx ry h
  obtain ⟨p, q, ns, ms, rfl, rfl, h1, h2, k⟩ := h
  refine op_eqD hu pins s σ H _ _ v u Q I rx ry ⟨_, _, .lst h1 (dp_ints ns), .lst h2 (dp_ints ms), shaped_ints ns, shaped_ints ms, ?_⟩
  rw [PyData.eqv, eqv_ints]
  exact k
theorem op_neL (hu : X.A.units + 64 < cLine) : OpR X (compareOp .NotEq) (rNeL X.K) := by
  intro pins s σ H x y v u Q I rx ry h
  obtain ⟨p, q, ns, ms, rfl, rfl, h1, h2, k⟩ := h
  refine op_neD hu pins s σ H _ _ v u Q I rx ry ⟨_, _, .lst h1 (dp_ints ns), .lst h2 (dp_ints ms), shaped_ints ns, shaped_ints ms, ?_⟩
  rw [PyData.eqv, eqv_ints]
  exact k
end
theorem i_r2L {K : PySem.W.Frag} {g : List Int → List Int → Bool} {p q : Addr} {ns ms : List Int} {H : Hp} {Q : VK} (h1 : SqL K H p (ns.map V.int)) (h2 : SqL K H q (ms.map V.int)) (h : Q (.bl (g ns ms)) H) : r2L K g (.ref p) (.ref q) H Q := ⟨p, q, ns, ms, rfl, rfl, h1, h2, h⟩
section
variable {K : PySem.W.Frag} {H : Hp} {Q : VK}
theorem i_isi_int_int {n : Int} (q : Q (.bl true) H) : rIs1 K [.int n, .ty "int"] H Q := ⟨_, _, _, _, true, rfl, .ty _, .of <| .base (.int n), kit_ty (by decide +kernel), q⟩
theorem i_isi_int_bool {n : Int} (q : Q (.bl false) H) : rIs1 K [.int n, .ty "bool"] H Q := ⟨_, _, _, _, false, rfl, .ty _, .of <| .base (.int n), kit_ty (by decide +kernel), q⟩
end
section
variable {K : PySem.W.Frag} {σ : L2.St} {H : Hp} {v : V} {R : L2.St → Hp → Prop} {t : TG} {u : TGs}
theorem i_gSub {to ti : TE} {ts : TSet} (h : to σ H fun o H1 => ti σ H1 fun i H2 => ts o i v H2 fun H3 => R σ H3) : gSub to ti ts v σ H R := h
theorem i_setL {p : Addr} {xs : List V} {n : Int} {j : Nat} {P : Hp → Prop} (hp : H p = some (.lst xs)) (hj : ixN xs.length n = some j) (h : P (upd H p (.lst (xs.set j v)))) : rSetL (.ref p) (.int n) v H P := ⟨p, xs, n, j, rfl, rfl, hp, hj, h⟩
theorem i_gName {i : Nat} (h : R (σ.set i (some v)) H) : gName i v σ H R := h
theorem i_gTup {a : Addr} {xs : List V} {n : Nat} (ha : SqT K H a xs) (hn : xs.length = n) (h : u xs σ H R) : gTup K n u (.ref a) σ H R := ⟨a, xs, rfl, ha, hn, h⟩
theorem i_gCons {r : List V} (h : t v σ H fun σ' H' => u r σ' H' R) : gCons t u (v :: r) σ H R := ⟨v, r, rfl, h⟩
theorem i_gNil (h : R σ H) : gNil [] σ H R := ⟨rfl, h⟩
theorem i_par {i j : Nat} {ta : TA} {D : Ends} (h : ta σ H fun vs H1 => ∃ v w, vs = [v, w] ∧ D.nx ((σ.set i (some v)).set j (some w)) H1) : tPar i j ta D σ H := h
end
theorem i_app {l : Addr} {xs : List V} {y : V} {H : Hp} {Q : VK} (hl : H l = some (.lst xs)) (hz : xs.length < sizeLine) (h : Q .non (upd H l (.lst (xs ++ [y])))) : rAppend (.ref l) [y] H Q := ⟨l, xs, y, rfl, rfl, hl, hz, h⟩
theorem i_tyL {K : PySem.W.Frag} {H : Hp} {l : Addr} {xs : List V} {P : Prop} (hl : SqL K H l xs) (h : P) : tyV K "list" (.ref l) H ∧ P := ⟨.inl ⟨rfl, xs, hl⟩, h⟩
theorem i_cat {l b : Addr} {xs zs : List V} {H : Hp} {Q : VK} (h1 : H l = some (.lst xs)) (h2 : H b = some (.lst zs)) (hz : xs.length + zs.length ≤ sizeLine) (h : ∀ p, H p = none → Q (.ref p) (upd H p (.lst (xs ++ zs)))) : rCat (.ref l) (.ref b) H Q := ⟨l, b, xs, zs, rfl, rfl, h1, h2, hz, h⟩
theorem i_rep {l : Addr} {k : Int} {xs : List V} {H : Hp} {Q : VK} (h1 : H l = some (.lst xs)) (k0 : -(2 ^ 63) ≤ k) (k1 : k < 2 ^ 63) (hz : xs.length * k.toNat ≤ sizeLine) (h : ∀ p, H p = none → Q (.ref p) (upd H p (.lst (List.replicate k.toNat xs).flatten))) : rRep (.ref l) (.int k) H Q := ⟨l, k, xs, rfl, rfl, h1, k0, k1, hz, h⟩
theorem i_slL {K : PySem.W.Frag} {a : Addr} {xs : List V} {lo hi : Option Int} {H : Hp} {Q : VK} (h1 : SqL K H a xs) (h : ∀ p, H p = none → Q (.ref p) (upd H p (.lst (cutV xs lo hi)))) : rSlL K (.ref a) lo hi H Q := ⟨a, xs, rfl, h1, h⟩
theorem i_lenL {K : PySem.W.Frag} {a : Addr} {xs : List V} {H : Hp} {Q : VK} (h1 : SqL K H a xs) (h : Q (.int (xs.length : Nat)) H) : rLenL K [.ref a] H Q := ⟨a, xs, rfl, .inl h1, h⟩
theorem i_sum {K : PySem.W.Frag} {a : Addr} {ns : List Int} {H : Hp} {Q : VK} (h1 : SqL K H a (ns.map V.int)) (h : Q (.int ns.sum) H) : rSum K [.ref a] H Q := ⟨a, ns, rfl, h1, h⟩
theorem i_join {K : PySem.W.Frag} {p : Addr} {a : List Nat} {ys : List (List Nat)} {H : Hp} {Q : VK} (h1 : SqL K H p (ys.map fun l => .str (S l))) (hz : (ys.map List.length).sum + ys.length * a.length ≤ 16777216) (h : Q (.str (S (TL.joinL a ys))) H) : rJoin K (.str (S a)) [.ref p] H Q := ⟨p, a, ys, rfl, rfl, h1, hz, h⟩
theorem i_rng1 {ta : TA} {σ : L2.St} {H : Hp} {R : It → Hp → Prop} (h : ta σ H fun vs H1 => ∃ j : Int, vs = [.int j] ∧ -(2 ^ 62) ≤ j ∧ j < 2 ^ 62 ∧ R (Itr 0 j.toNat) H1) : iRng1 ta σ H R := h
theorem cutL_length {α : Type} (l : List α) (lo hi : Option Int) : (cutL l lo hi).length ≤ l.length := by
  unfold cutL
  rw [List.length_take, List.length_drop]
  omega
theorem cutL_to {α : Type} (l : List α) (n : Nat) : cutL l none (some (n : Int)) = l.take n := by
  unfold cutL
  rw [HT.sIx_nat, HT.sIx_none, List.drop_zero, Nat.sub_zero]
  by_cases h : n ≤ l.length
  · rw [Nat.min_eq_left h]
  · rw [Nat.min_eq_right (by omega), List.take_of_length_le (Nat.le_refl _), List.take_of_length_le (by omega)]
theorem cutL_from {α : Type} (l : List α) (n : Nat) : cutL l (some (n : Int)) none = l.drop n := by
  unfold cutL
  rw [HT.sIx_nat, HT.sIx_none]
  by_cases h : n ≤ l.length
  · rw [Nat.min_eq_left h, List.take_of_length_le (by rw [List.length_drop]; exact Nat.le_refl _)]
  · rw [Nat.min_eq_right (by omega), List.drop_of_length_le (Nat.le_refl _), List.drop_of_length_le (by omega), List.take_nil]
end Lv

set_option Elab.async false
set_option linter.all false
set_option maxRecDepth 100000
set_option maxHeartbeats 2000000
namespace Lv
open PySem PySem.Spec PyProof.Rows L2 SX
/-! more of heaps -/
theorem But.updN {h D : Addr} {H1 H : Hp} {o : HO} (e : But h H1 H) (n : H1 D = none) : But h H1 (L2.upd H D o) := fun b u nb q => by
  rw [upd_ne (ne_of_none q n)]
  exact e b u nb q
theorem But.at {h : Addr} {H1 H : Hp} {b : Addr} {o : HO} (e : But h H1 H) (q : H1 b = some o) (n : b ≠ h) : H b = some o := e b o n q
theorem _root_.L2.Same.updN {D : Addr} {H1 H : Hp} {o : HO} (e : Same H1 H) (n : H1 D = none) : Same H1 (L2.upd H D o) := fun b u q => by
  rw [upd_ne (ne_of_none q n)]
  exact e b u q
theorem Hd.updN {h D : Addr} {H : Hp} {o : HO} (x : Hd H h) (n : h ≠ D) : Hd (L2.upd H D o) h := by
  obtain ⟨d, m, a, b⟩ := x
  exact ⟨d, m, by rw [upd_ne n]; exact a, b⟩
theorem Hd.ne {h D : Addr} {H : Hp} (x : Hd H h) (n : H D = none) : h ≠ D := by
  obtain ⟨d, m, a, b⟩ := x
  exact ne_of_none a n
theorem Hd.is {h : Addr} {H : Hp} (x : Hd H h) : ∃ o, H h = some o := by
  obtain ⟨d, m, a, b⟩ := x
  exact ⟨_, a⟩
/-! picks -/
theorem atI_lt {α : Type} {xs : List α} {r : Int} (h0 : 0 ≤ r) (h1 : r < xs.length) : ∃ v, v ∈ xs ∧ atI xs r = some v := by
  have hl : r.toNat < xs.length := by omega
  refine ⟨xs[r.toNat], List.getElem_mem hl, ?_⟩
  have e := atI_nat (xs := xs) (j := r.toNat) (v := xs[r.toNat]) (List.getElem?_eq_getElem hl)
  rw [show ((r.toNat : Nat) : Int) = r by omega] at e
  exact e
theorem i_pick {K : PySem.W.Frag} {p : Addr} {xs : List V} {r : Int} {H : Hp} {Q : VK} (hp : SqL K H p xs) (h0 : 0 ≤ r) (h1 : r < xs.length) (h : ∀ v, v ∈ xs → Q v H) : rIxL K (.ref p) (.int r) H Q := by
  obtain ⟨v, hv, e⟩ := atI_lt h0 h1
  exact i_ixL hp e (h v hv)
theorem i_pickI {K : PySem.W.Frag} {p : Addr} {ns : List Int} {r : Int} {H : Hp} {Q : VK} (lo hi : Int) (hp : SqL K H p (ns.map V.int)) (h0 : 0 ≤ r) (h1 : r < ns.length) (hall : ∀ m ∈ ns, lo ≤ m ∧ m ≤ hi) (h : ∀ m, lo ≤ m → m ≤ hi → Q (.int m) H) : rIxL K (.ref p) (.int r) H Q := by
  refine i_pick hp h0 (by rw [List.length_map]; exact h1) fun v hv => ?_
  obtain ⟨m, hm, rfl⟩ := List.mem_map.mp hv
  exact h m (hall m hm).1 (hall m hm).2
/-- one sign -/
abbrev vc (c : Nat) : V := .str (S [c])
/-- all signs are small letters -/
def Low (l : List Nat) : Prop := ∀ c ∈ l, 97 ≤ c ∧ c ≤ 122
theorem i_pickS {l : List Nat} {r : Int} {H : Hp} {Q : VK} (hz : l.length ≤ 1000000) (h0 : 0 ≤ r) (h1 : r < l.length) (h : ∀ c, c ∈ l → Q (.str (S [c])) H) : rIxT1 (.str (S l)) (.int r) H Q := by
  obtain ⟨v, hv, e⟩ := atI_lt h0 h1
  exact i_ixS (le_line hz) e (h v hv)
abbrev abc : List Nat := [97, 98, 99, 100, 101, 102, 103, 104, 105, 106, 107, 108, 109, 110, 111, 112, 113, 114, 115, 116, 117, 118, 119, 120, 121, 122]
theorem low_abc : Low abc := by unfold Low; decide
theorem Low.app {a b : List Nat} (h1 : Low a) (h2 : Low b) : Low (a ++ b) := fun c hc => by
  rcases List.mem_append.mp hc with h | h
  · exact h1 c h
  · exact h2 c h
theorem Low.one {c : Nat} (h : 97 ≤ c ∧ c ≤ 122) : Low [c] := fun d hd => by
  rw [List.mem_singleton.mp hd]; exact h
theorem Low.sub {a b : List Nat} (h1 : Low a) (h2 : ∀ c ∈ b, c ∈ a) : Low b := fun c hc => h1 c (h2 c hc)
theorem Low.nil : Low [] := fun c hc => nomatch hc
theorem Low.cut {a : List Nat} {lo hi : Option Int} (h1 : Low a) : Low (cutL a lo hi) := h1.sub fun c hc => List.mem_of_mem_drop (List.mem_of_mem_take hc)
/-! comprehensions -/
/-- the list grown so far at D is acc, and Iv holds of it -/
def Pa (D : Addr) (Iv : Nat → List V → Hp → Prop) (i : Nat) (H : Hp) : Prop := ∃ acc : List V, acc.length ≤ i ∧ H D = some (.lst acc) ∧ Iv i acc H
theorem lc_acc {J : It} {n : Nat} {G : Hp → Prop} {Y : Nat → Hp → V → Hp → Prop} (w : Walk J n G Y) {g : TG} {tt : TT} {te : TE} {vs : List Nat} {σ : L2.St} {H1 : Hp} {D : Addr} {Qd : Hp → Prop} (Iv : Nat → List V → Hp → Prop)
    (h0 : Iv 0 [] (upd H1 D (.lst []))) (hG : ∀ i acc H, i ≤ n → H D = some (.lst acc) → Iv i acc H → G H)
    (hs : ∀ i acc x H H', i < n → acc.length ≤ i → H D = some (.lst acc) → Iv i acc H → Y i H x H' → g x (wipe σ vs) H' fun σ2 H2 => wipe σ2 vs = wipe σ vs ∧ tt σ2 H2 fun b H3 =>
      if b = true then te σ2 H3 fun y H4 => ∃ acc, H4 D = some (.lst acc) ∧ acc.length < sizeLine ∧ Pa D Iv (i + 1) (upd H4 D (.lst (acc ++ [y]))) else Pa D Iv (i + 1) H3)
    (hd : ∀ acc H, acc.length ≤ n → H D = some (.lst acc) → Iv n acc H → Qd H) :
    ∃ W : Nat → Nat → Hp → Prop, (∃ m, W 0 m (upd H1 D (.lst []))) ∧ ∀ i m H, W i m H →
      (J.stop i H ∧ Qd H) ∨ (J.go i H ∧ ∃ Nx : Hp → Prop, (∀ H', Nx H' → ∃ m', m' < m ∧ W (i + 1) m' H') ∧ ∀ x H', J.yld i H x H' → g x (wipe σ vs) H' fun σ2 H2 => wipe σ2 vs = wipe σ vs ∧ tt σ2 H2 fun b H3 =>
        if b = true then te σ2 H3 fun y H4 => ∃ acc, H4 D = some (.lst acc) ∧ acc.length < sizeLine ∧ Nx (upd H4 D (.lst (acc ++ [y]))) else Nx H3) := by
  refine lc_it w (Pa D Iv) ⟨[], Nat.le_refl _, upd_same, h0⟩ (fun i H hi ⟨acc, _, h1, h2⟩ => hG i acc H hi h1 h2) ?_ ?_
  · rintro i x H H' hi ⟨acc, hl, h1, h2⟩ y
    exact hs i acc x H H' hi hl h1 h2 y
  · rintro H ⟨acc, hl, h1, h2⟩
    exact hd acc H hl h1 h2
theorem lc_put {D : Addr} {Iv : Nat → List V → Hp → Prop} {i : Nat} {acc : List V} {y : V} {H4 : Hp} (e : H4 D = some (.lst acc)) (hl : acc.length ≤ i) (hi : i ≤ 1000000) (h : Iv (i + 1) (acc ++ [y]) (upd H4 D (.lst (acc ++ [y])))) :
    ∃ acc, H4 D = some (.lst acc) ∧ acc.length < sizeLine ∧ Pa D Iv (i + 1) (upd H4 D (.lst (acc ++ [y]))) :=
  ⟨acc, e, lt_line (by omega), acc ++ [y], by simp; omega, upd_same, h⟩
theorem lc_skip {D : Addr} {Iv : Nat → List V → Hp → Prop} {i : Nat} {acc : List V} {H3 : Hp} (e : H3 D = some (.lst acc)) (hl : acc.length ≤ i) (h : Iv (i + 1) acc H3) : Pa D Iv (i + 1) H3 := ⟨acc, by omega, e, h⟩
theorem i_tYes {σ : L2.St} {H : Hp} {QB : Bool → Hp → Prop} (h : QB true H) : tYes σ H QB := h
/-- [c for c in text] -/
theorem i_str {te : TE} {σ : L2.St} {H : Hp} {R : It → Hp → Prop} (h : te σ H fun v H1 => ∃ x, v = .str x ∧ R (Its x) H1) : iStr te σ H R := h
theorem walk_S {l : List Nat} : Walk (Its (S l)) l.length (fun _ => True) (fun i H v H' => H' = H ∧ ∃ c, l[i]? = some c ∧ v = .str (S [c])) := by
  have := walk_str (z := S l)
  have e : (S l).cps.size = l.length := by simp
  rw [e] at this
  refine this.mono (fun _ h => h) fun i H x H' _ _ y => ?_
  obtain ⟨y1, c, y2, y3⟩ := y
  exact ⟨y1, c, by simpa using y2, y3⟩
theorem i_list {K : PySem.W.Frag} {te : TE} {σ : L2.St} {H : Hp} {R : It → Hp → Prop} (h : te σ H fun x H1 => ∃ a, x = .ref a ∧ (∃ xs, SqL K H1 a xs) ∧ R (Itl K a) H1) : iList K te σ H R := h
theorem joinL_nil : ∀ ys : List (List Nat), TL.joinL [] ys = ys.flatten
  | [] => rfl
  | [p] => by simp [TL.joinL]
  | p :: q :: r => by
    have := joinL_nil (q :: r)
    simp only [TL.joinL, this, List.nil_append]
    simp
theorem iteNF {A B : Prop} (h : A) : if (!false) = true then A else B := h
theorem iteNT {A B : Prop} (h : B) : if (!true) = true then A else B := h
end Lv

set_option Elab.async false
set_option linter.all false
set_option maxRecDepth 100000
set_option maxHeartbeats 2000000
namespace Lv
open PySem PySem.Spec PyProof.Rows L2 SX
/-! loops: an invariant, its start, (what stands still,) a turn, the end -/
def ForJ (J : It) (g : TG) (tb : TS) (D : Ends) (σ : L2.St) (H : Hp) : Prop := ∃ W : Nat → Nat → L2.St → Hp → Prop, (∃ m, W 0 m σ H) ∧ ∀ i m σ H, W i m σ H →
  (J.stop i H ∧ D.nx σ H) ∨ (J.go i H ∧ ∃ N : L2.St → Hp → Prop, (∀ σ' H', N σ' H' → ∃ m', m' < m ∧ W (i + 1) m' σ' H') ∧ ∀ x H', J.yld i H x H' → g x σ H' fun σ2 H2 => tb { D with nx := N, ct := N, bk := D.nx } σ2 H2)
def LcJ (J : It) (g : TG) (tt : TT) (te : TE) (vs : List Nat) (σ : L2.St) (H1 : Hp) (Q : VK) : Prop := ∀ D, H1 D = none → ∃ W : Nat → Nat → Hp → Prop, (∃ m, W 0 m (upd H1 D (.lst []))) ∧ ∀ i m H, W i m H →
  (J.stop i H ∧ Q (.ref D) H) ∨ (J.go i H ∧ ∃ Nx : Hp → Prop, (∀ H', Nx H' → ∃ m', m' < m ∧ W (i + 1) m' H') ∧ ∀ x H', J.yld i H x H' → g x (wipe σ vs) H' fun σ2 H2 => wipe σ2 vs = wipe σ vs ∧ tt σ2 H2 fun b H3 =>
    if b = true then te σ2 H3 fun y H4 => ∃ acc, H4 D = some (.lst acc) ∧ acc.length < sizeLine ∧ Nx (upd H4 D (.lst (acc ++ [y]))) else Nx H3)
def ForN (n : Nat) (Y : Nat → Hp → V → Hp → Prop) (g : TG) (tb : TS) (D : Ends) (σ : L2.St) (H : Hp) : Prop := ∃ Pv : Nat → L2.St → Hp → Prop, Pv 0 σ H ∧
  (∀ i x σ H H', i < n → Pv i σ H → Y i H x H' → g x σ H' fun σ2 H2 => tb { D with nx := Pv (i + 1), ct := Pv (i + 1), bk := D.nx } σ2 H2) ∧ ∀ σ H, Pv n σ H → D.nx σ H
def ForG (G : Hp → Prop) (n : Nat) (Y : Nat → Hp → V → Hp → Prop) (g : TG) (tb : TS) (D : Ends) (σ : L2.St) (H : Hp) : Prop := ∃ Pv : Nat → L2.St → Hp → Prop, Pv 0 σ H ∧ (∀ i σ H, i ≤ n → Pv i σ H → G H) ∧
  (∀ i x σ H H', i < n → Pv i σ H → Y i H x H' → g x σ H' fun σ2 H2 => tb { D with nx := Pv (i + 1), ct := Pv (i + 1), bk := D.nx } σ2 H2) ∧ ∀ σ H, Pv n σ H → D.nx σ H
def LcN (n : Nat) (Y : Nat → Hp → V → Hp → Prop) (g : TG) (tt : TT) (te : TE) (vs : List Nat) (σ : L2.St) (H1 : Hp) (Q : VK) : Prop := ∀ D, H1 D = none → ∃ Iv : Nat → List V → Hp → Prop, Iv 0 [] (upd H1 D (.lst [])) ∧
  (∀ i acc x H H', i < n → acc.length ≤ i → H D = some (.lst acc) → Iv i acc H → Y i H x H' → g x (wipe σ vs) H' fun σ2 H2 => wipe σ2 vs = wipe σ vs ∧ tt σ2 H2 fun b H3 =>
      if b = true then te σ2 H3 fun y H4 => ∃ acc, H4 D = some (.lst acc) ∧ acc.length < sizeLine ∧ Pa D Iv (i + 1) (upd H4 D (.lst (acc ++ [y]))) else Pa D Iv (i + 1) H3) ∧
  ∀ acc H, acc.length ≤ n → H D = some (.lst acc) → Iv n acc H → Q (.ref D) H
def LcG (G : Hp → Prop) (n : Nat) (Y : Nat → Hp → V → Hp → Prop) (g : TG) (tt : TT) (te : TE) (vs : List Nat) (σ : L2.St) (H1 : Hp) (Q : VK) : Prop := ∀ D, H1 D = none → ∃ Iv : Nat → List V → Hp → Prop, Iv 0 [] (upd H1 D (.lst [])) ∧ (∀ i acc H, i ≤ n → H D = some (.lst acc) → Iv i acc H → G H) ∧
  (∀ i acc x H H', i < n → acc.length ≤ i → H D = some (.lst acc) → Iv i acc H → Y i H x H' → g x (wipe σ vs) H' fun σ2 H2 => wipe σ2 vs = wipe σ vs ∧ tt σ2 H2 fun b H3 =>
      if b = true then te σ2 H3 fun y H4 => ∃ acc, H4 D = some (.lst acc) ∧ acc.length < sizeLine ∧ Pa D Iv (i + 1) (upd H4 D (.lst (acc ++ [y]))) else Pa D Iv (i + 1) H3) ∧
  ∀ acc H, acc.length ≤ n → H D = some (.lst acc) → Iv n acc H → Q (.ref D) H
/-! what is walked -/
abbrev YR (lo : Int) : Nat → Hp → V → Hp → Prop := fun i H x H' => H' = H ∧ x = .int (lo + (i : Int))
abbrev YC (lo c : Int) : Nat → Hp → V → Hp → Prop := fun i H x H' => H' = H ∧ x = .int (lo + (i : Int) * c)
abbrev YS (l : List Nat) : Nat → Hp → V → Hp → Prop := fun i H v H' => H' = H ∧ ∃ c, l[i]? = some c ∧ v = .str (S [c])
abbrev YL (xs : List V) : Nat → Hp → V → Hp → Prop := fun i H v H' => H' = H ∧ xs[i]? = some v
/-- a new tuple -/
abbrev YT (Y : Nat → List V → Prop) : Nat → Hp → V → Hp → Prop := fun i H v H' => ∃ T xs, v = .ref T ∧ H T = none ∧ H' = upd H T (.tup xs) ∧ Y i xs
/-- the signs of a text with their places -/
abbrev YE (l : List Nat) : Nat → List V → Prop := fun i xs => ∃ c, l[i]? = some c ∧ xs = [.int (i : Nat), .str (S [c])]
section
variable {K : PySem.W.Frag} {g : TG} {tb : TS} {D : Ends} {σ : L2.St} {H H1 : Hp} {te : TE} {tt : TT} {vs : List Nat} {Q : VK} {n : Nat} {Y : Nat → Hp → V → Hp → Prop} {J : It} {G : Hp → Prop} {wi : TI} {R : It → Hp → Prop} {ta : TA}
theorem fo (h : ∀ R' : It → Hp → Prop, R' J H1 → wi σ H R') (k : ForJ J g tb D σ H1) : tFor wi g tb D σ H := h _ k
theorem foM (M : It → Hp → Prop) (h : ∀ R' : It → Hp → Prop, (∀ J H1, M J H1 → R' J H1) → wi σ H R') (k : ∀ J H1, M J H1 → ForJ J g tb D σ H1) : tFor wi g tb D σ H := h _ k
theorem lc (h : ∀ R' : It → Hp → Prop, R' J H1 → wi σ H R') (k : LcJ J g tt te vs σ H1 Q) : tLc wi g tt te vs σ H Q := h _ k
theorem lcM (M : It → Hp → Prop) (h : ∀ R' : It → Hp → Prop, (∀ J H1, M J H1 → R' J H1) → wi σ H R') (k : ∀ J H1, M J H1 → LcJ J g tt te vs σ H1 Q) : tLc wi g tt te vs σ H Q := h _ k
theorem forN_ok (w : Walk J n (fun _ => True) Y) (h : ForN n Y g tb D σ H) : ForJ J g tb D σ H := by
  obtain ⟨Pv, h0, hs, hd⟩ := h
  exact for_it w Pv h0 (fun _ _ _ _ _ => trivial) hs hd
theorem forG_ok (w : Walk J n G Y) (h : ForG G n Y g tb D σ H) : ForJ J g tb D σ H := by
  obtain ⟨Pv, h0, hG, hs, hd⟩ := h
  exact for_it w Pv h0 hG hs hd
theorem lcN_ok (w : Walk J n (fun _ => True) Y) (h : LcN n Y g tt te vs σ H Q) : LcJ J g tt te vs σ H Q := fun D nD => by
  obtain ⟨Iv, h0, hs, hd⟩ := h D nD
  exact lc_acc w Iv h0 (fun _ _ _ _ _ _ => trivial) hs hd
theorem lcG_ok (w : Walk J n G Y) (h : LcG G n Y g tt te vs σ H Q) : LcJ J g tt te vs σ H Q := fun D nD => by
  obtain ⟨Iv, h0, hG, hs, hd⟩ := h D nD
  exact lc_acc w Iv h0 hG hs hd
theorem f_r {lo : Int} (h : ForN n (YR lo) g tb D σ H) : ForJ (Itr lo n) g tb D σ H := forN_ok walk_range h
theorem f_c {lo c : Int} (h : ForN n (YC lo c) g tb D σ H) : ForJ (Itc lo c n) g tb D σ H := forN_ok walk_rangeC h
theorem f_s {l : List Nat} (h : ForN l.length (YS l) g tb D σ H) : ForJ (Its (S l)) g tb D σ H := forN_ok walk_S h
theorem f_l {a : Addr} {xs : List V} (h : ForG (fun H => SqL K H a xs) xs.length (YL xs) g tb D σ H) : ForJ (Itl K a) g tb D σ H := forG_ok walk_list h
theorem f_u {a : Addr} {xs : List V} (h : ForG (fun H => SqT K H a xs) xs.length (YL xs) g tb D σ H) : ForJ (Itt K a) g tb D σ H := forG_ok walk_tup h
theorem f_t {Y : Nat → List V → Prop} (h : ForN n (YT Y) g tb D σ H) : ForJ (ItT n Y) g tb D σ H := forN_ok walk_enumS h
theorem f_e {a : Addr} {xs : List V} (h : ForG (fun H => SqL K H a xs) xs.length (YT fun i zs => ∃ x, xs[i]? = some x ∧ zs = [.int (i : Nat), x]) g tb D σ H) : ForJ (Ite K a) g tb D σ H := by
  refine forG_ok (walk_enum.mono (fun _ h => h) fun i H x H' hi _ y => ?_) h
  obtain ⟨T, x1, x2, rfl, h2, rfl, h4, h5⟩ := y
  cases h4
  exact ⟨T, _, rfl, h2, rfl, x2, h5, rfl⟩
theorem c_r {lo : Int} (h : LcN n (YR lo) g tt te vs σ H Q) : LcJ (Itr lo n) g tt te vs σ H Q := lcN_ok walk_range h
theorem c_s {l : List Nat} (h : LcN l.length (YS l) g tt te vs σ H Q) : LcJ (Its (S l)) g tt te vs σ H Q := lcN_ok walk_S h
theorem c_l {a : Addr} {xs : List V} (h : LcG (fun H => SqL K H a xs) xs.length (YL xs) g tt te vs σ H Q) : LcJ (Itl K a) g tt te vs σ H Q := lcG_ok walk_list h
/-! the steps to what is walked -/
theorem i_rng2 (h : ta σ H fun vs H1 => ∃ i j : Int, vs = [.int i, .int j] ∧ (-(2 ^ 62) ≤ i ∧ i < 2 ^ 62 ∧ -(2 ^ 62) ≤ j ∧ j < 2 ^ 62) ∧ R (Itr i (j - i).toNat) H1) : iRng2 ta σ H R := h
theorem i_rng3 (h : ta σ H fun vs H1 => ∃ (i j c : Int) (n : Nat), vs = [.int i, .int j, .int c] ∧ RgC i j c n ∧ R (Itc i c n) H1) : iRng3 ta σ H R := h
theorem i_enumS (h : ta σ H fun vs H1 => ∃ l : List Nat, vs = [.str (S l)] ∧ R (ItT l.length (YE l)) H1) : iEnumS ta σ H R := h
theorem i_enumL (h : ta σ H fun vs H1 => ∃ a xs, vs = [.ref a] ∧ SqL K H1 a xs ∧ R (Ite K a) H1) : iEnum K ta σ H R := h
theorem i_tupI (h : te σ H fun x H1 => ∃ a, x = .ref a ∧ (∃ xs, SqT K H1 a xs) ∧ R (Itt K a) H1) : iTup K te σ H R := h
theorem x_r1 {z : Int} (h0 : -(2 ^ 62) ≤ z) (h1 : z < 2 ^ 62) (h : R (Itr 0 z.toNat) H) : ∃ j : Int, [V.int z] = [.int j] ∧ -(2 ^ 62) ≤ j ∧ j < 2 ^ 62 ∧ R (Itr 0 j.toNat) H := ⟨z, rfl, h0, h1, h⟩
theorem x_r2 {x y : Int} (hb : -(2 ^ 62) ≤ x ∧ x < 2 ^ 62 ∧ -(2 ^ 62) ≤ y ∧ y < 2 ^ 62) (h : R (Itr x (y - x).toNat) H) : ∃ i j : Int, [V.int x, V.int y] = [.int i, .int j] ∧ (-(2 ^ 62) ≤ i ∧ i < 2 ^ 62 ∧ -(2 ^ 62) ≤ j ∧ j < 2 ^ 62) ∧ R (Itr i (j - i).toNat) H := ⟨x, y, rfl, hb, h⟩
theorem x_dn {x y : Int} (hb : -(2 ^ 62) ≤ x ∧ x < 2 ^ 62 ∧ -(2 ^ 62) ≤ y ∧ y < 2 ^ 62) (h : R (Itc x (-1) (x - y).toNat) H) : ∃ (i j c : Int) (n : Nat), [V.int x, V.int y, V.int (-1)] = [.int i, .int j, .int c] ∧ RgC i j c n ∧ R (Itc i c n) H := ⟨x, y, -1, _, rfl, RgC.neg hb.1 hb.2.1 hb.2.2.1 hb.2.2.2, h⟩
theorem x_str {l : List Nat} (h : R (Its (S l)) H) : ∃ x, V.str (S l) = .str x ∧ R (Its x) H := ⟨_, rfl, h⟩
theorem x_list {a : Addr} {xs : List V} (hL : SqL K H a xs) (h : R (Itl K a) H) : ∃ b, V.ref a = .ref b ∧ (∃ xs, SqL K H b xs) ∧ R (Itl K b) H := ⟨a, rfl, ⟨xs, hL⟩, h⟩
theorem x_enumS {l : List Nat} (h : R (ItT l.length (YE l)) H) : ∃ l' : List Nat, [V.str (S l)] = [.str (S l')] ∧ R (ItT l'.length (YE l')) H := ⟨l, rfl, h⟩
end
theorem i_augS {to ti te : TE} {tget : V → V → Hp → VK → Prop} {tip : TIp} {tset : TSet} {D : Ends} {σ : L2.St} {H : Hp} (h : to σ H fun o H1 => ti σ H1 fun i H2 => tget o i H2 fun x H3 => te σ H3 fun y H4 => tip x y H4 fun z H5 => tset o i z H5 fun H6 => D.nx σ H6) : tAugS to ti te tget tip tset D σ H := h
theorem x_nx {t b c : L2.St → Hp → Prop} {r : VK} {σ : L2.St} {H : Hp} (h : t σ H) : ({ nx := t, rt := r, bk := b, ct := c } : Ends).nx σ H := h
theorem ix_nat {n k : Nat} (h : k < n) : ixN n (k : Int) = some k := by
  unfold ixN
  rw [if_pos (by omega), if_pos (by omega)]
  rfl
end Lv

set_option Elab.async false
set_option linter.all false
set_option maxRecDepth 100000
set_option maxHeartbeats 2000000
namespace Lv
open PySem PySem.Spec PyProof.Rows L2 SX
theorem sum_ones {α : Type} (l : List α) (f : α → List Nat) (hf : ∀ a, (f a).length = 1) : ((l.map f).map List.length).sum = l.length := by
  induction l with
  | nil => rfl
  | cons a l ih => rw [List.map_cons, List.map_cons, List.sum_cons, ih, hf, List.length_cons, Nat.add_comm]
theorem flat_ones (l : List Nat) : (l.map fun c => [c]).flatten = l := by
  induction l with
  | nil => rfl
  | cons a l ih => rw [List.map_cons, List.flatten_cons, ih]; rfl
/-- ''.join of single signs -/
theorem i_joinC {K : PySem.W.Frag} {p : Addr} {l : List Nat} {H : Hp} {Q : VK} (h1 : SqL K H p (l.map vc)) (hz : l.length ≤ 1000000) (h : Q (.str (S l)) H) : rJoin K (.str (S [])) [.ref p] H Q := by
  refine i_join (ys := l.map fun c => [c]) (by rw [List.map_map]; exact h1) ?_ ?_
  · rw [sum_ones l _ fun _ => rfl]; simp; omega
  · rw [joinL_nil]
    rw [flat_ones]
    exact h

theorem cutL_mid {α : Type} (l : List α) (a b : Nat) : cutL l (some (a : Int)) (some (((a : Nat) : Int) + (b : Nat))) = (l.drop a).take b := by
  unfold cutL
  rw [show HT.sIx l.length 0 (some (a : Int)) = min a l.length from HT.sIx_nat l.length 0 a, show ((a : Nat) : Int) + (b : Nat) = ((a + b : Nat) : Int) from rfl, show HT.sIx l.length l.length (some ((a + b : Nat) : Int)) = min (a + b) l.length from HT.sIx_nat l.length _ (a + b)]
  by_cases z : a ≤ l.length
  · rw [Nat.min_eq_left z]
    apply List.take_eq_take_iff.mpr
    rw [List.length_drop]
    omega
  · rw [List.drop_of_length_le (by omega), List.drop_of_length_le (by omega)]
    simp
theorem i_chain {r r' : R2} {ta tb tc : TE} {σ : L2.St} {H : Hp} {Q : VK} (h : ta σ H fun x H1 => tb σ H1 fun y H2 => r x y H2 fun z H3 => ∃ k, z = .bl k ∧ (if k = true then tc σ H3 fun w' H4 => r' y w' H4 Q else Q (.bl false) H3)) : tChain r r' ta tb tc σ H Q := h
theorem lt_one {a b : Nat} : ([a] < [b]) ↔ a < b := by
  constructor
  · intro h
    cases h with
    | rel h => exact h
    | cons h => cases h
  · exact fun h => .rel h
theorem iteNNF {a b : Prop} (h : b) : if (!!false) = true then a else b := h
theorem iteNNT {a b : Prop} (h : a) : if (!!true) = true then a else b := h
def rIsN : R2 := fun x y H Q => y = .non ∧ Q (.bl (decide (x = .non))) H
def rNotN : R2 := fun x y H Q => y = .non ∧ Q (.bl (!decide (x = .non))) H
theorem op_isN1 {X : Cx} : OpR X (compareOp .Is) rIsN := op_isN
theorem op_notN1 {X : Cx} : OpR X (compareOp .IsNot) rNotN := op_notN
section
variable {H : Hp} {Q : VK} {p : Addr} {n : Int} {x : Str}
theorem i_isN_n (h : Q (.bl true) H) : rIsN .non .non H Q := ⟨rfl, h⟩
theorem i_isN_i (h : Q (.bl false) H) : rIsN (.int n) .non H Q := ⟨rfl, h⟩
theorem i_isN_s (h : Q (.bl false) H) : rIsN (.str x) .non H Q := ⟨rfl, h⟩
theorem i_notN_n (h : Q (.bl false) H) : rNotN .non .non H Q := ⟨rfl, h⟩
theorem i_notN_r (h : Q (.bl true) H) : rNotN (.ref p) .non H Q := ⟨rfl, h⟩
theorem i_notN_i (h : Q (.bl true) H) : rNotN (.int n) .non H Q := ⟨rfl, h⟩
end
def oV : Option Int → V
  | none => .non
  | some k => .int k
def oI (o : Option Nat) : V := oV (o.map fun k => (k : Int))
theorem i_ix1 {l : List Nat} {j c : Nat} {H : Hp} {Q : VK} (hz : l.length ≤ 1000000) (hc : l[j]? = some c) (h : Q (.str (S [c])) H) : rIxT1 (.str (S l)) (.int (j : Int)) H Q := i_ixS (le_line hz) (atI_nat hc) h
/-- a place -/
def iv (k : Nat) : V := .int (k : Int)
theorem i_revL {K : PySem.W.Frag} {te : TE} {σ : L2.St} {H : Hp} {Q : VK} (h : te σ H fun x H1 => ∃ a xs, x = .ref a ∧ SqL K H1 a xs ∧ ∀ p, H1 p = none → Q (.ref p) (L2.upd H1 p (.lst xs.reverse))) : tRevL K te σ H Q := h
/-! lists of texts: == and != -/
section
variable {X : Cx}
abbrev vs (l : List Nat) : V := .str (S l)
theorem S_inj {l m : List Nat} : S l = S m ↔ l = m := ⟨fun h => by injection h with h; injection h, fun h => by rw [h]⟩
/-- signs that a text may hold -/
def Chr (l : List Nat) : Prop := ∀ c ∈ l, c < 1114112
theorem strOk_S {l : List Nat} (h : Chr l) : PyData.strOk (S l) = true := by
  unfold PyData.strOk
  rw [Array.all_eq_true']
  intro c hc
  exact decide_eq_true (h c (by simpa using hc))
theorem Low.chr {l : List Nat} (h : Low l) : Chr l := fun c hc => by have := h c hc; omega
theorem Chr.nil : Chr [] := fun c hc => nomatch hc
theorem Chr.one {c : Nat} (h : c < 1114112) : Chr [c] := fun d hd => by rw [List.mem_singleton.mp hd]; exact h
theorem dp_strs {K : PySem.W.Frag} {H : Hp} : ∀ ls : List (List Nat), DpAll K H (ls.map vs) (ls.map fun l => PyData.str (S l))
  | [] => .nil
  | l :: ls => .cons (.str _) (dp_strs ls)
theorem lay_strs : ∀ ls : List (List Nat), (∀ l ∈ ls, Chr l) → PyData.canLayAll0 (ls.map fun l => PyData.str (S l)) = true
  | [], _ => by simp [PyData.canLayAll0]
  | n :: ns, h => by
    simp only [List.map_cons, PyData.canLayAll0, PyData.canLay0, Bool.and_eq_true]
    exact ⟨strOk_S (h n (List.mem_cons_self ..)), lay_strs ns fun l hl => h l (List.mem_cons_of_mem _ hl)⟩
theorem depth_strs : ∀ ls : List (List Nat), PyData.depthAll (ls.map fun l => PyData.str (S l)) = 0
  | [] => by simp [PyData.depthAll]
  | n :: ns => by simp [PyData.depthAll, PyData.depth, depth_strs ns]
theorem shaped_strs {ls : List (List Nat)} (h : ∀ l ∈ ls, Chr l) : SeqAt.shaped (.list (ls.map fun l => PyData.str (S l))) = true := by
  unfold SeqAt.shaped
  rw [PyData.canLay0, lay_strs _ h, PyData.depth, depth_strs]
  rfl
theorem eqv_strs : ∀ ns ms : List (List Nat), PyData.eqvAll (ns.map fun l => PyData.str (S l)) (ms.map fun l => PyData.str (S l)) = decide (ns = ms)
  | [], [] => by simp [PyData.eqvAll]
  | [], _ :: _ => by simp [PyData.eqvAll]
  | _ :: _, [] => by simp [PyData.eqvAll]
  | n :: ns, m :: ms => by
    simp only [List.map_cons, PyData.eqvAll, PyData.eqv, eqv_strs ns ms, List.cons.injEq]
    by_cases h : n = m
    · subst h; simp
    · have : ¬ S n = S m := fun z => h (S_inj.mp z)
      simp [h, this]
def r2LS (K : PySem.W.Frag) (g : List (List Nat) → List (List Nat) → Bool) : R2 := fun x y H Q => ∃ (p q : Addr) (ns ms : List (List Nat)), x = .ref p ∧ y = .ref q ∧ SqL K H p (ns.map vs) ∧ SqL K H q (ms.map vs) ∧ (∀ l ∈ ns, Chr l) ∧ (∀ l ∈ ms, Chr l) ∧ Q (.bl (g ns ms)) H
abbrev rEqLS (K : PySem.W.Frag) : R2 := r2LS K fun a b => decide (a = b)
abbrev rNeLS (K : PySem.W.Frag) : R2 := r2LS K fun a b => !decide (a = b)
theorem op_eqLS (hu : X.A.units + 64 < cLine) : OpR X (compareOp .Eq) (rEqLS X.K) := by
  intro pins s σ H x y v u Q I rx ry h
  obtain ⟨p, q, ns, ms, rfl, rfl, h1, h2, c1, c2, k⟩ := h
  refine op_eqD hu pins s σ H _ _ v u Q I rx ry ⟨_, _, .lst h1 (dp_strs ns), .lst h2 (dp_strs ms), shaped_strs c1, shaped_strs c2, ?_⟩
  rw [PyData.eqv, eqv_strs]
  exact k
theorem op_neLS (hu : X.A.units + 64 < cLine) : OpR X (compareOp .NotEq) (rNeLS X.K) := by
  intro pins s σ H x y v u Q I rx ry h
  obtain ⟨p, q, ns, ms, rfl, rfl, h1, h2, c1, c2, k⟩ := h
  refine op_neD hu pins s σ H _ _ v u Q I rx ry ⟨_, _, .lst h1 (dp_strs ns), .lst h2 (dp_strs ms), shaped_strs c1, shaped_strs c2, ?_⟩
  rw [PyData.eqv, eqv_strs]
  exact k
/-! what is an int or None: == and != -/
end
section
variable {K : PySem.W.Frag} {H : Hp} {Q : VK}
theorem i_r2LS {g : List (List Nat) → List (List Nat) → Bool} {p q : Addr} {ns ms : List (List Nat)} (h1 : SqL K H p (ns.map vs)) (h2 : SqL K H q (ms.map vs)) (c1 : ∀ l ∈ ns, Chr l) (c2 : ∀ l ∈ ms, Chr l) (h : Q (.bl (g ns ms)) H) : r2LS K g (.ref p) (.ref q) H Q := ⟨p, q, ns, ms, rfl, rfl, h1, h2, c1, c2, h⟩
theorem vc_vs (l : List Nat) : l.map vc = (l.map fun c => [c]).map vs := by rw [List.map_map]; rfl
theorem i_isi_str_str {l : List Nat} (q : Q (.bl true) H) : rIs1 K [.str (S l), .ty "str"] H Q := ⟨_, _, _, _, true, rfl, .ty _, .of <| .base (.str _), kit_ty (by decide +kernel), q⟩
end
end Lv

set_option Elab.async false
set_option linter.all false
set_option maxRecDepth 100000
set_option maxHeartbeats 3200000
namespace Lv
open PySem PySem.Spec PyProof.Rows L2 SX
/-! ### sets of texts: made of a text or of a list of texts, sorted -/
def kyS (e : Int × Value) : Str := match e.2 with | .str k _ => k | _ => ⟨#[]⟩
def GdS (w : World) (e : Int × Value) : Prop := ∃ k tk, e.2 = Value.str k tk ∧ e.1 = hashStr w k
def SetT (w : World) (h : Heap) (a : Addr) (L : List Str) : Prop :=
  ∃ o es ep t, h.get? a = some o ∧ o.ExactSet ∧ o.data = .set es ep t ∧ (∀ e ∈ es.toList, GdS w e) ∧ (es.toList.map kyS).Nodup ∧ (∀ k, k ∈ L ↔ k ∈ es.toList.map kyS) ∧
    es.size ≤ L.length ∧ es.size < scanBound ∧ t.fits es.size = true ∧ Ris t.place.toList ∧ (w.params.followText "set-order" = true ∨ t.led = true)
theorem SetT.at {w : World} {h h' : Heap} {a : Addr} {L : List Str} (R : SetT w h a L) (k : ∀ o, h.get? a = some o → h'.get? a = some o) : SetT w h' a L := by
  obtain ⟨o, es, ep, t, qo, r⟩ := R
  exact ⟨o, es, ep, t, k o qo, r⟩
section
variable {P : Program} {w : World}
theorem isS (k : Str) (u : Tok) : (strKind P w).is k (.str k u) = true := by
  show (k == k) = true
  exact beq_self_eq_true k
theorem gds_elems {l : List (Int × Value)} (g : ∀ e ∈ l, GdS w e) : ElemsOf (strKind P w) l := fun e he => by
  obtain ⟨k, tk, h1, h2⟩ := g e he
  exact ⟨⟨k, by rw [h1]; exact isS k tk, h2⟩, by rw [h1] <;> rfl⟩
theorem gds_is {e : Int × Value} (g : GdS w e) (k : Str) : (strKind P w).is k e.2 = true ↔ kyS e = k := by
  obtain ⟨k0, tk, h1, _⟩ := g
  unfold kyS
  rw [h1]
  show ((k0 == k) = true) ↔ k0 = k
  exact beq_iff_eq
theorem gds_mem {l : List (Int × Value)} (g : ∀ e ∈ l, GdS w e) (k : Str) : k ∈ l.map kyS ↔ ∃ e ∈ l, (strKind P w).is k e.2 = true := by
  rw [List.mem_map]
  exact ⟨fun ⟨e, he, q⟩ => ⟨e, he, (gds_is (g e he) k).2 q⟩, fun ⟨e, he, q⟩ => ⟨e, he, (gds_is (g e he) k).1 q⟩⟩
end
section
variable {P : Program} {w : World} {A : Around} {E : Value → Shared → Prop} {s : Shared} {a : Addr} {L : List Str}
theorem setT_tail {gg : Bool → Sem Unit} (hgg : ∀ (b : Bool) (s₁ : Shared) (Q' : Unit → Shared → Prop), Q' () s₁ → wpAny (model P w) A (gg b) Q' E s₁)
    {o : Obj} {es : Array (Int × Value)} {ep : Nat} {t : SetTable} (qo : s.heap.get? a = some o) (qx : o.ExactSet) (qd : o.data = .set es ep t)
    {es1 : Array (Int × Value)} {t2 : SetTable} {L' : List Str} (g1 : ∀ e ∈ es1.toList, GdS w e) (d1 : (es1.toList.map kyS).Nodup) (m1 : ∀ k, k ∈ L' ↔ k ∈ es1.toList.map kyS) (z1 : es1.size ≤ L'.length)
    (b1 : es1.size < scanBound) (f2 : t2.fits es1.size = true) (r2 : Ris t2.place.toList) (l2 : w.params.followText "set-order" = true ∨ t2.led = true) {dummy : Bool} {R : Option Bool → Shared → Prop}
    (hR : ∀ h', Heap.SameBut a s.heap h' → SetT w h' a L' → R (some true) { s with heap := h' }) :
    wpAny (model P w) A (do
        storeSet a es1 t2
        if (!dummy && t2.tooFull) = true then do
            gg (relayAll t2 es1 (SetTable.grown es1.size)).2.2
            storeSet a (relayAll t2 es1 (SetTable.grown es1.size)).1 (relayAll t2 es1 (SetTable.grown es1.size)).2.1
            pure (some true)
          else pure (some true)) R E s := by
  refine wpAny_bind (wpAny_storeSet_of qo qd ?_ (fits_of_scanBound b1))
  have qo1 := store_at (es' := es1) (t' := t2) qo qd
  have same1 := Heap.SameBut.update s.heap a (Obj.putSet es1 t2)
  split
  · have pm := relayAll_perm t2 es1 (SetTable.grown es1.size)
    have f3 := relayAll_fits t2 es1 (SetTable.grown es1.size)
    have r3 := relayAll_ris t2 es1 (SetTable.grown es1.size)
    have l3 := relayAll_led t2 es1 (SetTable.grown es1.size)
    generalize relayAll t2 es1 (SetTable.grown es1.size) = Z at pm f3 r3 l3 ⊢
    obtain ⟨es2, t3, gave⟩ := Z
    dsimp only at pm f3 r3 l3 ⊢
    have zz : es2.size = es1.size := by rw [← Array.length_toList, pm.length_eq, Array.length_toList]
    have b2 : es2.size < scanBound := by rw [zz]; exact b1
    refine wpAny_bind (hgg _ _ _ (wpAny_bind (wpAny_storeSet_of qo1 rfl ?_ (fits_of_scanBound b2))))
    have qo2 := store_at (es' := es2) (t' := t3) qo1 rfl
    refine wpAny_pure (hR _ (same1.trans (Heap.SameBut.update _ a _)) ⟨_, es2, _, t3, qo2, qx, rfl, fun e he => g1 e (pm.mem_iff.mp he), (pm.map kyS).nodup_iff.mpr d1, fun k => (m1 k).trans (pm.map kyS).mem_iff.symm, by omega, b2, f3, r3, ?_⟩)
    exact l2.imp id fun z => by rw [l3]; exact z
  · exact wpAny_pure (hR _ same1 ⟨_, es1, _, t2, qo1, qx, rfl, g1, d1, m1, z1, b1, f2, r2, l2⟩)
theorem setT_add {k : Str} {tk : Tok} {Q : Bool → Shared → Prop} (R : SetT w s.heap a L) (room : L.length + 1 < scanBound)
    (hQ : ∀ h' b, Heap.SameBut a s.heap h' → SetT w h' a (k :: L) → Q b { s with heap := h' }) : wpAny (model P w) A (setAddHashed a (.str k tk) ((strKind P w).hash k)) Q E s := by
  obtain ⟨o, es, ep, t, qo, qx, qd, g, nd, hm, hz, hb, hf, hr, hl⟩ := R
  have isk : (strKind P w).is k (.str k tk) = true := isS k tk
  have scn : (Value.str k tk).scannable = true := rfl
  have el : ElemsOf (strKind P w) es.toList := gds_elems g
  unfold setAddHashed setAddHashedIn
  refine wpAny_holding (wpAny_bind (wpAny_setState_of qo qd hf ?_))
  dsimp only
  rw [byScan_of scn hb el]
  simp only [↓reduceIte]
  unfold setAddByScan
  refine wpAny_bind (wpAny_bind (wpAny_rule (wpAny_bind (wpAny_setScan_of isk qo qd hf el ?_))))
  cases hfi : List.findIdx? (fun e => (strKind P w).is k e.2) es.toList with
  | some j =>
    dsimp only
    obtain ⟨hj, pj, _⟩ := List.findIdx?_eq_some_iff_getElem.mp hfi
    have inL : k ∈ L := (hm k).2 ((gds_mem (P := P) (w := w) g k).2 ⟨es.toList[j], List.getElem_mem hj, pj⟩)
    refine wpAny_pure (wpAny_pure (hQ s.heap _ (Heap.SameBut.refl a s.heap) ⟨o, es, ep, t, qo, qx, qd, g, nd, fun i => ?_, by rw [List.length_cons]; omega, hb, hf, hr, hl⟩))
    rw [← hm i, List.mem_cons]
    exact ⟨fun z => z.elim (fun e => e ▸ inL) id, .inr⟩
  | none =>
    dsimp only
    have out : k ∉ es.toList.map kyS := fun z => by
      obtain ⟨e, he, q⟩ := (gds_mem (P := P) (w := w) g k).1 z
      have c := List.findIdx?_eq_none_iff.mp hfi e he
      rw [q] at c
      cases c
    have gave_ok : ∀ (b : Bool) {s₁ : Shared} {Q' : Unit → Shared → Prop}, Q' () s₁ → wpAny (model P w) A (match b with | true => rule "set.scan.the-table-gave-way" | false => pure ()) Q' E s₁ :=
      fun b s₁ Q' q => by cases b <;> first | exact wpAny_pure q | exact wpAny_rule q
    have pm := layNew_perm t es ((strKind P w).hash k) (.str k tk)
    have f1 := layNew_fits t es ((strKind P w).hash k) (.str k tk)
    have r1 := layNew_ris t es ((strKind P w).hash k) (.str k tk) hr
    have l1 := layNew_led t es ((strKind P w).hash k) (.str k tk)
    generalize layNew t es ((strKind P w).hash k) (.str k tk) = Z at pm f1 r1 l1 ⊢
    obtain ⟨es1, t1, dummy, gave⟩ := Z
    dsimp only at pm f1 r1 l1 ⊢
    rw [Array.toList_push] at pm
    have pc : es1.toList.Perm (((strKind P w).hash k, Value.str k tk) :: es.toList) := pm.trans (List.perm_append_singleton _ _)
    have pk : (es1.toList.map kyS).Perm (k :: es.toList.map kyS) := pc.map kyS
    have g1 : ∀ e ∈ es1.toList, GdS w e := fun e he => by
      rcases List.mem_cons.mp (pc.mem_iff.mp he) with z | z
      · rw [z]; exact ⟨k, tk, rfl, rfl⟩
      · exact g e z
    have d1 : (es1.toList.map kyS).Nodup := pk.nodup_iff.mpr (List.nodup_cons.mpr ⟨out, nd⟩)
    have m1 : ∀ i, i ∈ k :: L ↔ i ∈ es1.toList.map kyS := fun i => by
      rw [pk.mem_iff, List.mem_cons, List.mem_cons, hm i]
    have zz : es1.size = es.size + 1 := by rw [← Array.length_toList, pc.length_eq, List.length_cons, Array.length_toList]
    have b1 : es1.size < scanBound := by omega
    have z1 : es1.size ≤ (k :: L).length := by rw [List.length_cons]; omega
    have ld : w.params.followText "set-order" = true ∨ t1.led = true := hl.imp id fun z => by rw [l1]; exact z
    refine wpAny_bind (gave_ok _ ?_)
    split
    · refine wpAny_bind ?_
      rw [hashByValue_scannable 8 scn]
      refine wpAny_pure (setT_tail (L' := k :: L) ?_ qo qx qd g1 d1 m1 z1 b1 ?_ ?_ ?_ ?_)
      · intro b s₁ Q' q; cases b <;> first | exact wpAny_pure q | exact wpAny_rule q
      · first | (split <;> first | exact f1 | exact SetTable.fits_plain_off f1) | exact f1
      · first | (split <;> exact r1) | exact r1
      · first | (split <;> exact ld) | exact ld
      · intro h' sb r; dsimp only; exact wpAny_pure (hQ h' _ sb r)
    · refine wpAny_bind (wpAny_pure ?_)
      simp only [↓reduceIte]
      refine setT_tail (L' := k :: L) ?_ qo qx qd g1 d1 m1 z1 b1 f1 r1 ld ?_
      · intro b s₁ Q' q; cases b <;> first | exact wpAny_pure q | exact wpAny_rule q
      · intro h' sb r; dsimp only; exact wpAny_pure (hQ h' _ sb r)
/-- the loop of set.update over texts -/
theorem setT_update {I : Addr} {fp wr : List Addr} {n : Nat} {Pv : Nat → Value → Prop} {St : Nat → Heap → Prop} {R : Result → Shared → Prop}
    (W : Walks P w A.in1 I fp wr n Pv St) (D : Addr) (hD : D ∉ fp) (xs : List Str) (hn : n = xs.length) (hb : xs.length + 1 < scanBound) (hval : ∀ i v, Pv i v → ∃ k t, xs[i]? = some k ∧ v = .str k t) :
    ∀ (m i : Nat) (s : Shared), n - i = m → i ≤ n → St i s.heap → SetT w s.heap D (xs.take i).reverse →
      (∀ h' tk, (∀ b o, b ∉ D :: wr → s.heap.get? b = some o → h'.get? b = some o) → SetT w h' D xs.reverse → R (.ok (.ret .none)) { s with heap := h', toks := tk }) →
      codeAny (model P w) A (.builtin "set.update.loop" ⟨[.ref D, .ref I], []⟩) R s := by
  have hDw : D ∉ wr := fun h => hD (W.sub _ h)
  intro m
  induction m with
  | zero =>
    intro i s hm hi hst hS hR
    have hin : i = n := by omega
    subst hin
    refine codeAny_builtin F.entry_set_update_loop ?_
    rw [Around.under_plainId F.plain_set_update_loop _]
    show wpAny _ A.in1 (pyNext (.ref I) >>= _) _ _ s
    refine wpAny_bind (W.done s _ _ hst fun h' tk keep => ?_)
    show wpAny _ A.in1 (ret Value.none) _ _ _
    rw [List.take_of_length_le (by omega)] at hS
    exact wpAny_pure (hR h' tk (fun b o hb2 e => keep b o (fun z => hb2 (List.mem_cons_of_mem _ z)) e) (hS.at fun o e => keep D o hDw e))
  | succ m ih =>
    intro i s hm hi hst hS hR
    have hlt : i < n := by omega
    refine codeAny_builtin F.entry_set_update_loop ?_
    rw [Around.under_plainId F.plain_set_update_loop _]
    show wpAny _ A.in1 (pyNext (.ref I) >>= _) _ _ s
    refine wpAny_bind (W.item i s _ _ hlt hst fun v h1 tk1 hP hst1 keep1 => ?_)
    obtain ⟨z, t, hz, rfl⟩ := hval i v hP
    have hS1 : SetT w h1 D (xs.take i).reverse := hS.at fun o e => keep1 D o hDw e
    show wpAny _ A.in1 (holding [Value.str z t] (setAdd D (.str z t)) >>= _) _ _ _
    refine wpAny_bind (wpAny_holding ?_)
    unfold setAdd
    refine wpAny_holding (wpAny_bind ((strKind P w).pyHash (k := z) (isS _ _) ?_))
    refine setT_add (s := { s with heap := h1, toks := tk1 + 1 }) hS1 (by rw [List.length_reverse, List.length_take]; omega) fun h2 bb sb hS2 => ?_
    have hS3 : SetT w h2 D (xs.take (i + 1)).reverse := by
      rw [List.take_add_one, hz]
      simpa using hS2
    refine wpAny_pure ⟨plainId_quiet F.plain_set_update_loop _, ih (i + 1) _ (by omega) hlt (W.frame _ _ _ hst1 fun b hb2 o e => ?_) hS3 fun h3 tk3 keep3 hS4 => ?_⟩
    · rw [sb.2 b (fun h : b = D => hD (by rw [← h]; exact hb2))]; exact e
    · refine hR h3 tk3 (fun b o hb2 e => keep3 b o hb2 ?_) hS4
      show h2.get? b = some o
      rw [sb.2 b (fun h : b = D => hb2 (by rw [h]; exact List.mem_cons_self))]
      exact keep1 b o (fun z => hb2 (List.mem_cons_of_mem _ z)) e
/-- the new empty set -/
abbrev newSet (w : World) : Obj := { cls := .type "set", dict := none, data := .set #[] 0 (.fresh 0 0 (!w.params.followText "set-order")) }
theorem setT_new {h : Heap} (ho : h.get? a = some (newSet w)) : SetT w h a ([] : List Str) :=
  ⟨_, #[], 0, _, ho, ⟨rfl, rfl, rfl⟩, rfl, (fun e he => by simp at he), (by simp), (fun k => by simp), Nat.le_refl _, (by decide), (by rfl), List.Pairwise.nil, by
    show _ ∨ (!w.params.followText "set-order") = true
    cases w.params.followText "set-order"
    · exact .inr rfl
    · exact .inl rfl⟩
theorem sub_str_set : isSubtype (.type "str") (.type "set") = pure false := by rw [isSubtype_type]; kernel_rfl
theorem sub_str_frozenset : isSubtype (.type "str") (.type "frozenset") = pure false := by rw [isSubtype_type]; kernel_rfl
set_option maxHeartbeats 6400000 in
theorem call_setText {x : Str} {t : Tok} {xs : List Str} (hx : xs = x.cps.toList.map fun c => (⟨#[c]⟩ : Str)) {Q : Value → Shared → Prop} (hh : A.handled = none) (hb : xs.length + 1 < scanBound)
    (h : ∀ (h' : Heap) (tk : Nat), SetT w h' s.heap.objs.size xs.reverse → (∀ b o, s.heap.get? b = some o → h'.get? b = some o) → Q (.ref s.heap.objs.size) { s with heap := h', toks := tk }) :
    wpAny (model P w) A (call (.type "set") [.str x t]) Q E s := by
  obtain ⟨cc, tl, mroE⟩ := F.called_set.mro
  have madeE := F.called_set.made
  have subE := F.called_set.sub
  refine wpAny_call (codeAny_of_tree (show wpAny _ _ (callAny (.type "set") _) _ _ _ from ?_))
  refine wpAny_pure ⟨Code.quiet_builtin _ (by decide +kernel), codeAny_builtin F.entry_type_call ?_⟩
  rw [Around.under_plain (weight_type_call_type "set" [.str x t] []) rfl]
  have c1 := F.called_set.notType
  have c2 := F.called_set.canCreate
  have c3 := F.typeCall_set_1 (.str x t)
  repeat (any_goals (first | assumption | wp_step))

  refine codeAny_mono (code_set_led1 (.str x t) (E := E) (Q₁ := fun obj s₁ => obj = .ref s.heap.objs.size ∧ s₁ = { s with heap := s.heap.push (newSet w) }) ⟨rfl, rfl⟩) fun r s₁ hr => ?_
  cases r with
  | error e => exact hr
  | ok fl =>
    cases fl with
    | ret obj =>
      obtain ⟨rfl, rfl⟩ := hr
      have qS : (s.heap.push (newSet w)).get? s.heap.objs.size = some (newSet w) := Heap.get?_push_size _ rfl
      have qT : Shared.TypeIs { s with heap := s.heap.push (newSet w) } (.ref s.heap.objs.size) "set" := ⟨_, qS, rfl⟩
      have i1 := F.called_set.init.lookup
      have i2 := F.called_set.init.bind (.ref s.heap.objs.size)
      repeat (any_goals (first | assumption | wp_step))

      refine codeAny_mono (codeAny_call_builtin (R := wants (fun r s₂ => r = .none ∧ ∃ h' tk, s₂ = { s with heap := h', toks := tk } ∧ SetT w h' s.heap.objs.size xs.reverse ∧
          (∀ b o, s.heap.get? b = some o → h'.get? b = some o)) E) F.called_set.init.plain F.entry_set_init (check_set_init_1 qT ?_)) fun r₂ s₂ hr₂ => ?_
      · have hne : (Value.type "str" == Value.type "dict") = false := by decide
        have hs1 := sub_str_set
        have hs2 := sub_str_frozenset
        unfold Builtin.«set.__init__» noKeywords Builtin.Frozenset.updateFrom
        generalize hPI : pyIter = PI
        wp_walk
        subst hPI
        refine wpAny_pyIter_str fun o St hW hst => ?_
        refine wpAny_bind (wpAny_runValue ?_)
        have sz1 : (s.heap.push (newSet w)).objs.size = s.heap.objs.size + 1 := Heap.size_push ..
        refine setT_update (hW _ (by simp [hh])) s.heap.objs.size (by rw [sz1]; simp) xs (by rw [hx]; simp) hb ?_ _ 0 _ rfl (Nat.zero_le _) hst ?_ ?_
        · rintro i v ⟨c, u, hc, rfl⟩
          exact ⟨⟨#[c]⟩, u, by rw [hx, List.getElem?_map, Array.getElem?_toList, hc]; rfl, rfl⟩
        · exact setT_new (Heap.get?_push_of_some _ qS)
        · intro h' tk' keep S1
          refine wpAny_pure (show wpAny _ _ (ret Value.none) _ _ _ from wpAny_pure ⟨rfl, h', tk', rfl, S1, fun b o e => ?_⟩)
          have lt0 : b < s.heap.objs.size := Heap.lt_size e
          refine keep b o ?_ (Heap.get?_push_of_some _ (Heap.get?_push_of_some _ e))
          rw [sz1]
          simp only [List.mem_cons, List.not_mem_nil, or_false, not_or]
          exact ⟨Nat.ne_of_lt lt0, Nat.ne_of_lt (Nat.lt_succ_of_lt lt0)⟩
      · cases r₂ with
        | error e => exact hr₂
        | ok fl₂ =>
          cases fl₂ with
          | ret r =>
            obtain ⟨rfl, h', tk, rfl, S1, keep1⟩ := hr₂
            repeat (any_goals (first | assumption | wp_step))
            exact h _ _ S1 keep1
          | _ => exact hr₂.elim
    | _ => exact hr.elim
end
end Lv

set_option Elab.async false
set_option linter.all false
set_option maxRecDepth 100000
set_option maxHeartbeats 3200000
namespace Lv
open PySem PySem.Spec PyProof.Rows L2 SX
theorem strs_at : ∀ {vs : List Value} {xs : List Str}, StrsAre vs xs → ∀ {i : Nat} {v : Value}, vs[i]? = some v → ∃ k t, xs[i]? = some k ∧ v = .str k t
  | _, _, .nil, i, v, h => by simp at h
  | _, _, .cons x t r, 0, v, h => ⟨x, t, rfl, (Option.some.inj h).symm⟩
  | _, _, .cons x t r, i + 1, v, h => strs_at r (i := i) h
section
variable {P : Program} {w : World} {A : Around} {E : Value → Shared → Prop} {s : Shared} {a : Addr} {L : List Str}
end
end Lv

set_option Elab.async false
set_option linter.all false
set_option maxRecDepth 100000
set_option maxHeartbeats 3200000
namespace Lv
open PySem PySem.Spec PyProof.Rows L2 SX
/-! ### sorted(set(x)), len(set(x)) of texts -/
theorem strs_of : ∀ (l : List Value), (∀ v ∈ l, ∃ k tk, v = Value.str k tk) → StrsAre l (l.map fun v => kyS (0, v))
  | [], _ => .nil
  | v :: l, h => by
    obtain ⟨k, tk, rfl⟩ := h v List.mem_cons_self
    exact .cons k tk (strs_of l fun u hu => h u (List.mem_cons_of_mem _ hu))
section
variable {P : Program} {w : World} {A : Around} {E : Value → Shared → Prop} {s : Shared} {a : Addr} {L : List Str}
theorem sorted_setT {Q : Value → Shared → Prop} (R : SetT w s.heap a L) (hh : A.handled = none)
    (hQ : ∀ s' p (out : Array Value) (c : Nat) (ys : List Str), (∀ b o, s.heap.get? b = some o → s'.heap.get? b = some o) → s'.gens = s.gens → s'.os = s.os → s.heap.objs.size ≤ p →
      s'.heap.get? p = some (seqObj "list" out c) → StrsAre out.toList ys → sortedS ys = true → ys.Nodup → (∀ k, k ∈ ys ↔ k ∈ L) → ys.length ≤ L.length → Q (.ref p) s') :
    wpAny (model P w) A (call (.builtin "sorted") [.ref a]) Q E s := by
  obtain ⟨o, es, ep, t, qo, qx, qd, g, nd, hm, hz, hb, hf, hr, hl⟩ := R
  refine Calls.call_function_entry kind_sorted plain_sorted entry_sorted (args_sorted1 _) ?_
  unfold Builtin.«sorted»
  refine wpAny_bind (m := checkCount "sorted" 1 1 _) (wpAny_pure (wpAny_bind (collect_set (A := A.in1) hh ⟨o, qo, qx.1, qd⟩ hf hb hr hl fun s1 vs k1 z1 g1 o1 pm => ?_)))
  have lenV : vs.length = es.size := by rw [pm.length_eq, List.length_map, Array.length_toList]
  have strV : StrsAre vs (vs.map fun v => kyS (0, v)) := strs_of vs fun v hv => by
    obtain ⟨e, he, q⟩ := List.mem_map.mp (pm.mem_iff.mp hv)
    obtain ⟨k, tk, h1, _⟩ := g e he
    exact ⟨k, tk, by rw [← q]; exact h1⟩
  have pk : (vs.map fun v => kyS (0, v)).Perm (es.toList.map kyS) := by
    have q := pm.map fun v => kyS (0, v)
    rw [List.map_map] at q
    exact q
  have lenL : vs.length ≤ sizeLine := by
    rw [lenV, sizeLine_eq]
    have : es.size < scanBound := hb
    unfold scanBound at this
    omega
  refine wpAny_bind (wpAny_newList ?_ lenL)
  have qL : (s1.heap.push (seqObj "list" vs.toArray 0)).get? s1.heap.objs.size = some (seqObj "list" vs.toArray 0) := Heap.get?_push_size _ rfl
  refine wpAny_bind (wpAny_holding (wpAny_call_entry slot_list_sort ⟨_, qL, rfl⟩ entry_list_sort (list_sort_treeKAny strKind_oneLt qL strV.keysOf (fun v₁ v₂ rest e => keyKind_strs (by rw [← e]; exact strV)) lenL fun st' hp hs => ⟨_, rfl, ?_⟩) (args_list_sort _)))
  obtain ⟨ys, a1, a2, a3⟩ := sorted_out_str strV hp hs
  obtain ⟨c, hc⟩ := sortedHeap_at (vs := vs) (out := (arrOf st').map (·.2)) qL
  have pn : ys.Perm (es.toList.map kyS) := a2.trans pk
  refine wpAny_pure ⟨_, rfl, hQ _ s1.heap.objs.size _ c ys (fun b u e => ?_) g1 o1 z1 hc a1 a3 (pn.nodup_iff.mpr nd) (fun k => by rw [pn.mem_iff, ← hm k]) (by rw [pn.length_eq, List.length_map, Array.length_toList]; exact hz)⟩
  have q := k1 b u e
  have lt1 := Heap.lt_size q
  show (sortedHeap (s1.heap.push (seqObj "list" vs.toArray 0)) s1.heap.objs.size vs _).get? b = some u
  rw [sortedHeap_old (Nat.ne_of_lt lt1) (by rw [size_push']; exact Nat.lt_succ_of_lt lt1)]
  exact Heap.get?_push_of_some _ q
end
theorem lt_trichotomyL : ∀ a b : List Nat, a < b ∨ a = b ∨ b < a
  | [], [] => .inr (.inl rfl)
  | [], _ :: _ => .inl .nil
  | _ :: _, [] => .inr (.inr .nil)
  | x :: a, y :: b => by
    rcases Nat.lt_trichotomy x y with h | h | h
    · exact .inl (.rel h)
    · subst h
      rcases lt_trichotomyL a b with z | z | z
      · exact .inl (.cons z)
      · exact .inr (.inl (by rw [z]))
      · exact .inr (.inr (.cons z))
    · exact .inr (.inr (.rel h))
theorem ltCps_iff : ∀ (a b : List Nat), ltCps a b = true ↔ a < b
  | [], [] => ⟨fun h => (nomatch h), fun h => (nomatch h)⟩
  | [], _ :: _ => ⟨fun _ => .nil, fun _ => rfl⟩
  | _ :: _, [] => ⟨fun h => (nomatch h), fun h => (nomatch h)⟩
  | x :: a, y :: b => by
    show (decide (x < y) || (x == y && ltCps a b)) = true ↔ _
    rw [Bool.or_eq_true, Bool.and_eq_true, decide_eq_true_iff, beq_iff_eq, ltCps_iff a b]
    constructor
    · rintro (h | ⟨h, k⟩)
      · exact .rel h
      · subst h; exact .cons k
    · intro h
      cases h with
      | rel h => exact .inl h
      | cons h => exact .inr ⟨rfl, h⟩
/-- rising texts that are unlike rise strictly -/
theorem sortedS_lt : ∀ {ys : List Str}, sortedS ys = true → ys.Nodup → (ys.map fun y => y.cps.toList).Pairwise (· < ·)
  | [], _, _ => List.Pairwise.nil
  | [x], _, _ => List.pairwise_singleton _ _
  | x :: y :: r, h, d => by
    have h2 : (!ltCps y.cps.toList x.cps.toList && risingS y r) = true := h
    rw [Bool.and_eq_true] at h2
    have ih := sortedS_lt (ys := y :: r) h2.2 (List.nodup_cons.mp d).2
    have n1 : ¬ y.cps.toList < x.cps.toList := fun z => by
      have := (ltCps_iff _ _).mpr z
      rw [this] at h2
      exact absurd h2.1 (by decide)
    have ne : x.cps.toList ≠ y.cps.toList := fun z => by
      have e : x = y := by
        cases x; cases y
        exact congrArg Str.mk (Array.toList_inj.mp z)
      exact (List.nodup_cons.mp d).1 (by rw [e]; exact List.mem_cons_self)
    have lt1 : x.cps.toList < y.cps.toList := by
      rcases lt_trichotomyL x.cps.toList y.cps.toList with z | z | z
      · exact z
      · exact absurd z ne
      · exact absurd z n1
    refine List.pairwise_cons.mpr ⟨fun z hz => ?_, ih⟩
    rcases List.mem_cons.mp hz with q | q
    · rw [q]; exact lt1
    · exact List.lt_trans lt1 ((List.pairwise_cons.mp ih).1 z q)
/-- the unlike signs of a text, rising -/
def tSortSetS (ta : TA) : TE := fun σ H Q => ta σ H fun vs H1 => ∃ l : List Nat, vs = [.str (S l)] ∧ l.length ≤ 1000 ∧ ∀ (ys : List Nat) (p : Addr), ys.Pairwise (· < ·) → (∀ c, c ∈ ys ↔ c ∈ l) → H1 p = none → Q (.ref p) (upd H1 p (.lst (ys.map vc)))
section
variable {X : Cx} {e : Expr} {ta : TA} {p1 p2 pos pos2 : Pos}
theorem pe_sortSetS (hc : X.calm = true) (hg1 : Gl X "sorted") (hm1 : X.mg "sorted" = none) (hg2 : Gl X "set") (hm2 : X.mg "set" = none) (ha : PA X [e] ta)
    (hs : starEach [e] X.env = [(false, eval e X.env)] := by rfl) (hs2 : starEach [.Call (.Name "set" p2) [e] [] pos2] X.env = [(false, eval (.Call (.Name "set" p2) [e] [] pos2) X.env)] := by rfl) :
    PE X (.Call (.Name "sorted" p1) [.Call (.Name "set" p2) [e] [] pos2] [] pos) (tSortSetS ta) := by
  refine ⟨fun pins s σ H Q I h => ?_⟩
  refine wpAny_Call_Name_kw (ld_blt I hg1 hm1 (by decide +kernel : bootBuiltins "sorted" = some (.builtin "sorted")) ?_)
  refine callWith_builtin1 ?_ hs2 rfl
  rw [hs2]
  refine Calls.spliced_cons ?_
  refine wpAny_Call_Name_kw (ld_blt I hg2 hm2 boot_set (callWith_type1 (thn (ha.run pos2 pins s σ H _ I h) fun us s1 ⟨vs, H1, I1, r1, q1⟩ => ?_) hs rfl))
  obtain ⟨l, rfl, hl, q⟩ := q1
  cases r1 with
  | cons r rr =>
    cases rr
    obtain ⟨t, rfl⟩ := r
    have hd := I1.ok.hd hc
    refine call_setText (xs := l.map fun c => (⟨#[c]⟩ : Str)) (by simp [S]) hd (by rw [List.length_map]; unfold scanBound; omega) fun h' tk R1 keep => ?_
    refine Calls.spliced_nil ?_
    refine sorted_setT (s := { s1 with heap := h', toks := tk }) R1 hd fun s' p out c ys k g o hp hq hi hs3 hn hm hle => ?_
    have one : ∀ y ∈ ys, ∃ c, c ∈ l ∧ y = S [c] := fun y hy => by
      have := (hm y).mp hy
      rw [List.mem_reverse, List.mem_map] at this
      obtain ⟨c, h1, h2⟩ := this
      exact ⟨c, h1, h2.symm⟩
    have pw := sortedS_lt hs3 hn
    have eys : ys = (ys.map fun y => y.cps.toList.headD 0).map fun c => S [c] := by
      rw [List.map_map]
      refine (List.map_id ys).symm.trans (List.map_congr_left fun y hy => ?_)
      obtain ⟨c, _, rfl⟩ := one y hy
      rfl
    generalize ezs : (ys.map fun y => y.cps.toList.headD 0) = zs at eys
    subst eys
    have pz : zs.Pairwise (· < ·) := by
      rw [List.map_map, List.pairwise_map] at pw
      exact pw.imp fun h => lt_one.mp h
    have mz : ∀ c, c ∈ zs ↔ c ∈ l := fun c => by
      have h1 := hm (S [c])
      rw [List.mem_reverse] at h1
      constructor
      · intro hc
        obtain ⟨d, h2, h3⟩ := List.mem_map.mp (h1.mp (List.mem_map.mpr ⟨c, hc, rfl⟩))
        have : d = c := by
          have h4 : S [d] = S [c] := h3
          have h5 := S_inj.mp h4
          injection h5
        rw [← this]; exact h2
      · intro hc
        obtain ⟨d, h2, h3⟩ := List.mem_map.mp (h1.mpr (List.mem_map.mpr ⟨c, hc, rfl⟩))
        have : d = c := by
          have h5 := S_inj.mp h3
          injection h5
        rw [← this]; exact h2
    have lenZ : (zs.map vc).length ≤ sizeLine := by
      rw [List.length_map]
      refine le_line ?_
      rw [List.length_map, List.length_reverse, List.length_map] at hle
      omega
    have k' : ∀ b u, s1.heap.get? b = some u → s'.heap.get? b = some u := fun b u e => k b u (keep b u e)
    have hp' : s1.heap.objs.size ≤ p := by
      obtain ⟨o1, _, _, _, qo1, _⟩ := R1
      exact Nat.le_trans (Nat.le_of_lt (Heap.lt_size qo1)) hp
    have hn1 : H1 p = none := I1.hok.fresh hp'
    have J : Inv X pins σ (upd H1 p (.lst (zs.map vc))) { s1 with heap := s'.heap, gens := s'.gens, drawn := s'.drawn, toks := s'.toks } :=
      I1.call (ch := []) (Un.laid k' hp' hn1) (I1.hok.laid k' hp' ⟨lenZ, out.toList, c, ?_, hq⟩) (by rw [g]; exact I1.bare) (fun _ z => nomatch z)
    · have es : s' = { s1 with heap := s'.heap, gens := s'.gens, drawn := s'.drawn, toks := s'.toks } := by
        cases s'
        cases o
        rfl
      rw [es]
      exact ⟨.ref p, _, J, rfl, q zs p pz mz hn1⟩
    · have := vals_of_strs hi
      rw [List.map_map] at this
      exact this
end
section
variable {X : Cx} {e : Expr} {ta : TA} {p1 p2 pos pos2 : Pos}
end
section
variable {K : PySem.W.Frag} {σ : L2.St} {H : Hp} {Q : VK} {ta : TA}
end
end Lv

set_option Elab.async false
set_option linter.all false
set_option maxRecDepth 100000
set_option maxHeartbeats 2000000
namespace Lv
open PySem PySem.Spec PyProof.Rows L2 SX
/-! ### text.count(sign), text.index(sign) -/
section
open Builtin Builtin.Str
end
section
variable {X : Cx}
end
section
variable {K : PySem.W.Frag} {H : Hp} {Q : VK}
end
/-- while: an invariant with what falls -/
theorem wh {tt : TT} {tb : TS} {D : Ends} {σ : L2.St} {H : Hp} (W : Nat → L2.St → Hp → Prop) (m : Nat) (h0 : W m σ H)
    (step : ∀ m σ H, W m σ H → tt σ H fun b H1 => if b = true then ∃ N : L2.St → Hp → Prop, (∀ σ' H', N σ' H' → ∃ m', m' < m ∧ W m' σ' H') ∧ tb { D with nx := N, ct := N, bk := D.nx } σ H1 else D.nx σ H1) : tWhile tt tb D σ H :=
  ⟨W, ⟨m, h0⟩, step⟩
theorem i_turn {tb : TS} {σ : L2.St} {H1 : Hp} {r : VK} {b : L2.St → Hp → Prop} {W : Nat → L2.St → Hp → Prop} {m : Nat} (h : tb { nx := fun σ' H' => ∃ m', m' < m ∧ W m' σ' H', rt := r, bk := b, ct := fun σ' H' => ∃ m', m' < m ∧ W m' σ' H' } σ H1) :
    ∃ N : L2.St → Hp → Prop, (∀ σ' H', N σ' H' → ∃ m', m' < m ∧ W m' σ' H') ∧ tb { nx := N, rt := r, bk := b, ct := N } σ H1 := ⟨_, fun _ _ h => h, h⟩
end Lv

set_option Elab.async false
set_option linter.all false
set_option maxRecDepth 100000
set_option maxHeartbeats 2000000
namespace Lv
open PySem PySem.Spec PyProof.Rows L2 SX
/-! zip of two lists -/
section
variable {K : PySem.W.Frag} {g : TG} {tb : TS} {D : Ends} {σ : L2.St} {H : Hp} {te : TE} {tt : TT} {vs : List Nat} {Q : VK} {R : It → Hp → Prop} {ta : TA} {a b : Addr} {xs ys : List V}
end
theorem iteR {α : Type} {a : α} {i : Decidable (a = a)} {A B : Prop} (h : A) : if decide (a = a) = true then A else B := by rw [if_pos (decide_eq_true rfl)]; exact h
theorem iteNR {α : Type} {a : α} {i : Decidable (a = a)} {A B : Prop} (h : B) : if (!decide (a = a)) = true then A else B := by rw [if_neg (by simp)]; exact h
/-- quotients of any size -/
abbrev rDivW : R2 := rI CDivW fun i j => .int (i / j)
theorem divW_ok {i j : Int} (h : 0 < j) (h2 : j.natAbs < 2 ^ 200) : CDivW i j := wide_div (b := 200) h h2 (by decide) (by decide)
/-! small calls -/
def rMax2 : List V → Hp → VK → Prop := fun xs H Q => ∃ i j : Int, xs = [.int i, .int j] ∧ Q (.int (if j > i then j else i)) H
section
variable {X : Cx}
theorem call_maxI (hc : X.calm = true) : CallR X (.builtin "max") rMax2 := call_max2 hc
end
section
variable {K : PySem.W.Frag} {H : Hp} {Q : VK} {σ : L2.St}
theorem i_max2 {i j : Int} (h : Q (.int (if j > i then j else i)) H) : rMax2 [.int i, .int j] H Q := ⟨i, j, rfl, h⟩
theorem i_maxL {a : Addr} {ns : List Int} (hp : SqL K H a (ns.map V.int)) (h0 : 0 < ns.length) (h : ∀ m, m ∈ ns → (∀ y, y ∈ ns → y ≤ m) → Q (.int m) H) : rMax K [.ref a] H Q := ⟨a, ns, rfl, hp, h0, h⟩
theorem i_minL {a : Addr} {ns : List Int} (hp : SqL K H a (ns.map V.int)) (h0 : 0 < ns.length) (h : ∀ m, m ∈ ns → (∀ y, y ∈ ns → m ≤ y) → Q (.int m) H) : rMin K [.ref a] H Q := ⟨a, ns, rfl, hp, h0, h⟩
theorem i_ixT {p : Addr} {xs : List V} {n : Int} {v : V} (hp : SqT K H p xs) (hn : atI xs n = some v) (h : Q v H) : rIxT K (.ref p) (.int n) H Q := ⟨p, xs, n, v, rfl, rfl, hp, hn, h⟩
end
end Lv

set_option Elab.async false
set_option linter.all false
set_option maxRecDepth 100000
set_option maxHeartbeats 3200000
namespace Lv
open PySem PySem.Spec PyProof.Rows L2 SX
section
variable {P : Program} {w : World} {A : Around} {E : Value → Shared → Prop} {s : Shared} {a : Addr}
end
end Lv

set_option Elab.async false
set_option linter.all false
set_option maxRecDepth 100000
set_option maxHeartbeats 3200000
namespace Lv
open PySem PySem.Spec PyProof.Rows L2 SX
/-! ### sorted(set(list of ints)), any number of them -/
section
variable {P : Program} {w : World} {A : Around} {E : Value → Shared → Prop} {s : Shared} {a : Addr}
end
section
variable {X : Cx} {e : Expr} {ta : TA} {p1 p2 pos pos2 : Pos}
end
section
variable {A B : Prop}
end
end Lv

set_option Elab.async false
set_option linter.all false
set_option maxRecDepth 100000
set_option maxHeartbeats 3200000
namespace Lv
open PySem PySem.Spec PyProof.Rows L2 SX
/-! ### comprehensions whose turns leave what stood -/
section
variable {J : It} {n : Nat} {G : Hp → Prop} {Y : Nat → Hp → V → Hp → Prop} {g : TG} {tt : TT} {te : TE} {vs : List Nat} {σ : L2.St} {H : Hp} {Q : VK} {K : PySem.W.Frag}
theorem range_fm {α β : Type} (f : α → Option β) : ∀ (xs : List α) (i : Nat) (c : α), xs[i]? = some c → (xs.take (i + 1)).filterMap f = (xs.take i).filterMap f ++ (f c).toList := fun xs i c h => by
  rw [List.take_add_one, h, List.filterMap_append]
  cases e : f c <;> simp [e]
theorem lcP (w : Walk J n G Y) {α : Type} (items : List α) (hn : items.length = n) (f : α → Option V) (h6 : n ≤ 1000000) (hG : ∀ H', Same H H' → G H')
    (step : ∀ i c x H' H'', items[i]? = some c → Same H H' → Y i H' x H'' → Same H' H'' ∧ ∀ (Yk : VK) (N : Hp → Prop), (∀ y, f c = some y → ∀ H4, Same H'' H4 → Yk y H4) → (f c = none → ∀ H4, Same H'' H4 → N H4) →
      g x (wipe σ vs) H'' fun σ2 H2 => wipe σ2 vs = wipe σ vs ∧ tt σ2 H2 fun b H3 => if b = true then te σ2 H3 Yk else N H3)
    (fin : ∀ D H', H D = none → Same H H' → H' D = some (.lst (items.filterMap f)) → Q (.ref D) H') : LcJ J g tt te vs σ H Q := by
  refine lcG_ok w fun D nD => ⟨fun i acc H' => acc = (items.take i).filterMap f ∧ Same H H', ⟨rfl, same_new nD⟩, fun i acc H' _ _ z => hG H' z.2, ?_, ?_⟩
  · rintro i acc x H' H'' hi hll hD ⟨rfl, sm⟩ y
    obtain ⟨c, hc⟩ : ∃ c, items[i]? = some c := ⟨items[i]'(by omega), List.getElem?_eq_getElem (by omega)⟩
    obtain ⟨s1, st⟩ := step i c x H' H'' hc sm y
    have e := range_fm f items i c hc
    refine st _ _ (fun v hv H4 s4 => ?_) (fun hv H4 s4 => ?_)
    · refine lc_put (s4 _ _ (s1 _ _ hD)) hll (by omega) ⟨?_, ?_⟩
      · rw [e, hv]; rfl
      · exact (sm.trans (s1.trans s4)).updN nD
    · refine lc_skip (s4 _ _ (s1 _ _ hD)) hll ⟨?_, sm.trans (s1.trans s4)⟩
      rw [e, hv]; simp
  · rintro acc H' _ hD ⟨rfl, sm⟩
    rw [List.take_of_length_le (by omega)] at hD
    exact fin D H' nD sm hD
/-- [e for x in list] by pure turns -/
theorem c_lP {α : Type} {a : Addr} (items : List α) (v : α → V) (f : α → Option V) (ha : SqL K H a (items.map v)) (h6 : items.length ≤ 1000000)
    (step : ∀ c H', c ∈ items → Same H H' → ∀ (Yk : VK) (N : Hp → Prop), (∀ y, f c = some y → ∀ H4, Same H' H4 → Yk y H4) → (f c = none → ∀ H4, Same H' H4 → N H4) →
      g (v c) (wipe σ vs) H' fun σ2 H2 => wipe σ2 vs = wipe σ vs ∧ tt σ2 H2 fun b H3 => if b = true then te σ2 H3 Yk else N H3)
    (fin : ∀ D H', H D = none → Same H H' → H' D = some (.lst (items.filterMap f)) → Q (.ref D) H') : LcJ (Itl K a) g tt te vs σ H Q := by
  refine lcP (walk_list (xs := items.map v)) items (by simp) f (by simpa using h6) (fun H' s => s.seq ha) ?_ fin
  rintro i c x H' H'' hc sm ⟨rfl, hx⟩
  rw [List.getElem?_map, hc] at hx
  have : v c = x := Option.some.inj hx
  subst this
  exact ⟨Same.refl _, step c H'' (List.mem_of_getElem? hc) sm⟩
theorem c_sP {l : List Nat} (f : Nat → Option V) (h6 : l.length ≤ 1000000)
    (step : ∀ c H', c ∈ l → Same H H' → ∀ (Yk : VK) (N : Hp → Prop), (∀ y, f c = some y → ∀ H4, Same H' H4 → Yk y H4) → (f c = none → ∀ H4, Same H' H4 → N H4) →
      g (.str (S [c])) (wipe σ vs) H' fun σ2 H2 => wipe σ2 vs = wipe σ vs ∧ tt σ2 H2 fun b H3 => if b = true then te σ2 H3 Yk else N H3)
    (fin : ∀ D H', H D = none → Same H H' → H' D = some (.lst (l.filterMap f)) → Q (.ref D) H') : LcJ (Its (S l)) g tt te vs σ H Q := by
  refine lcP walk_S l rfl f h6 (fun _ _ => trivial) ?_ fin
  rintro i c x H' H'' hc sm ⟨rfl, c2, hc2, rfl⟩
  rw [hc] at hc2
  cases hc2
  exact ⟨Same.refl _, step c H'' (List.mem_of_getElem? hc) sm⟩
end
theorem fm_map {α β : Type} (f : α → β) (l : List α) : l.filterMap (fun x => some (f x)) = l.map f := by
  induction l with
  | nil => rfl
  | cons a l ih => simp
theorem fm_if {α β : Type} {p : α → Prop} [DecidablePred p] (f : α → β) (l : List α) : l.filterMap (fun x => if p x then some (f x) else none) = (l.filter (fun x => decide (p x))).map f := by
  induction l with
  | nil => rfl
  | cons a l ih =>
    by_cases h : p a
    · rw [List.filterMap_cons, if_pos h, List.filter_cons_of_pos (by simp [h]), List.map_cons, ih]
    · rw [List.filterMap_cons, if_neg h, List.filter_cons_of_neg (by simp [h]), ih]
/-! ### text.index(sign, place) -/
section
open Builtin Builtin.Str
end
/-! ### dicts by texts -/
section
variable {K : PySem.W.Frag} {D : Ends} {σ : L2.St} {H : Hp} {Q : VK} {td ty tv te : TE} {p : Addr} {kvs : List (Key × V)} {v : V} {l : List Nat}
theorem i_dnewK (h : ∀ p, H p = none → Q (.ref p) (upd H p (.dK []))) : tDNewK σ H Q := h
theorem i_dIn (h : ty σ H fun y H1 => td σ H1 fun x H2 => ∃ a o, x = .ref a ∧ DGet H2 a y o ∧ Q (.bl o.isSome) H2) : tDIn ty td σ H Q := h
theorem i_dNotIn (h : ty σ H fun y H1 => td σ H1 fun x H2 => ∃ a o, x = .ref a ∧ DGet H2 a y o ∧ Q (.bl (!o.isSome)) H2) : tDNotIn ty td σ H Q := h
theorem i_dGet (h : td σ H fun x H1 => ty σ H1 fun y H2 => ∃ a v, x = .ref a ∧ DGet H2 a y (some v) ∧ Q v H2) : tDGet td ty σ H Q := h
theorem i_dPut (h : tv σ H fun v H1 => td σ H1 fun x H2 => ty σ H2 fun y H3 => ∃ a H4, x = .ref a ∧ DPut H3 a y v H4 ∧ D.nx σ H4) : sDPut td ty tv D σ H := h
theorem x_dGetS {R : V → Prop} (hd : Rd H p (.dK kvs)) (hv : valV kvs (.inr (S l)) = some v) (h : R v) : ∃ a v, V.ref p = .ref a ∧ DGet H a (.str (S l)) (some v) ∧ R v := ⟨p, v, rfl, .inl ⟨kvs, .inr (S l), hd, rfl, hv.symm⟩, h⟩
theorem x_dInS {R : Option V → Prop} (hd : Rd H p (.dK kvs)) (h : R (valV kvs (.inr (S l)))) : ∃ a o, V.ref p = .ref a ∧ DGet H a (.str (S l)) o ∧ R o := ⟨p, _, rfl, .inl ⟨kvs, .inr (S l), hd, rfl, rfl⟩, h⟩
theorem x_dPutS {R : Hp → Prop} (hd : H p = some (.dK kvs)) (hl : kvs.length < sizeLine) (h : R (upd H p (.dK (putK kvs (.inr (S l)) v)))) : ∃ a H4, V.ref p = .ref a ∧ DPut H a (.str (S l)) v H4 ∧ R H4 := ⟨p, _, rfl, .inl ⟨kvs, .inr (S l), hd, rfl, hl, rfl⟩, h⟩
end
def rDictD : List V → Hp → VK → Prop := fun xs H Q => ∃ (a : Addr) (kvs : List (Key × V)), xs = [.ref a] ∧ Rd H a (.dK kvs) ∧ ∀ p, H p = none → Q (.ref p) (upd H p (.dK kvs))
/-- sorted(d): all keys texts, any number of them -/
def rSortedD : List V → Hp → VK → Prop := fun xs H Q => ∃ (a : Addr) (kvs : List (Key × V)) (ks : List (List Nat)), xs = [.ref a] ∧ Rd H a (.dK kvs) ∧ kvs.map (·.1) = ks.map (fun k => Sum.inr (S k)) ∧ ks.Nodup ∧ ks.length ≤ 1000000 ∧
  ∀ (ys : List (List Nat)) (p : Addr), ys.Pairwise (· < ·) → (∀ c, c ∈ ys ↔ c ∈ ks) → H p = none → Q (.ref p) (upd H p (.lst (ys.map Lv.vs)))
theorem call_sortedD1 {X : Cx} (hcalm : X.calm = true) : CallR X (.builtin "sorted") rSortedD := by
  intro pins s σ H xs us Q I r q
  obtain ⟨a, kvs, ks0, ex, hd, hks, hnd, h64, q⟩ := q
  subst ex
  obtain ⟨u, eu, rx⟩ := vals1 r
  subst eu
  cases rx
  obtain ⟨z, lo, vs, rel, dd⟩ := dk_rd I.hok hd
  obtain ⟨ep, hat⟩ := dd.dictAt
  have hks' : kvs.map (·.1) = (ks0.map S).map Sum.inr := by rw [hks, List.map_map]; rfl
  have hlen0 : (ks0.map S).length = ks0.length := List.length_map _
  have hnd' : (ks0.map S).Nodup := by
    refine List.Pairwise.map _ (fun a b h z => h (S_inj.mp z)) hnd
  have hmem : ∀ c, S c ∈ ks0.map S ↔ c ∈ ks0 := fun c => by
    rw [List.mem_map]
    exact ⟨fun ⟨d, h1, h2⟩ => by rw [← S_inj.mp h2]; exact h1, fun h => ⟨c, h, rfl⟩⟩
  have hall : ∀ y ∈ ks0.map S, ∃ c, y = S c := fun y hy => by
    obtain ⟨d, _, h2⟩ := List.mem_map.mp hy
    exact ⟨d, h2.symm⟩
  generalize ks0.map S = ks at hks' hlen0 hnd' hmem hall
  have hkeys : vs.map (·.1) = ks.map Sum.inr := rel.keys.symm.trans hks'
  have hl : vs.length = ks.length := by
    have e := congrArg List.length hkeys
    rw [List.length_map, List.length_map] at e
    exact e
  have h16 : vs.length ≤ sizeLine := by rw [hl, hlen0, sizeLine_eq]; omega
  refine Calls.call_function_entry PyProof.Rows.kind_sorted PyProof.Rows.plain_sorted PyProof.Rows.entry_sorted (PyProof.Rows.args_sorted1 _) ?_
  unfold Builtin.«sorted»
  refine wpAny_bind (m := checkCount "sorted" 1 1 _) (wpAny_pure ?_)
  refine wpAny_bind (PySem.W.kdu_collect (A := X.A.in1) (PySem.W.kdl_dict (knd := mixKind X.prog X.w) (kvs := vs) (ep := ep) lo) (I.ok.hd hcalm) hat h16 fun h' tk acc hk hacc => ?_)
  have hal : acc.toList.length = ks.length := by rw [Array.length_toList, hacc.1, hl]
  have hS : StrsAre acc.toList ks := L2.strs_at hal fun j v e => by
    obtain ⟨k, x, e1, e2⟩ := hacc.2 j v (by rw [← Array.getElem?_toList]; exact e)
    have e3 : (vs.map (·.1))[j]? = some k := by rw [List.getElem?_map, e1]; all_goals rfl
    rw [hkeys, List.getElem?_map] at e3
    cases e4 : ks[j]? with
    | none => rw [e4] at e3; cases e3
    | some y =>
      rw [e4] at e3
      have e5 : Sum.inr y = k := Option.some.inj e3
      subst e5
      obtain ⟨t, ev⟩ := Value.isStrOf_shape (x := y) (v := v) e2
      exact ⟨y, t, rfl, ev⟩
  have I1 : Inv X pins σ H { s with heap := h', toks := tk } := I.kept hk
  have lenL : acc.toList.length ≤ sizeLine := by rw [hal, hlen0, sizeLine_eq]; omega
  refine wpAny_bind (wpAny_newList ?_ lenL)
  have hoL : (h'.push (seqObj "list" acc.toList.toArray 0)).get? h'.objs.size = some (seqObj "list" acc.toList.toArray 0) := Heap.get?_push_size _ rfl
  show wpAny _ _ _ _ _ { s with heap := h'.push (seqObj "list" acc.toList.toArray 0), toks := tk }
  refine wpAny_bind (wpAny_holding (wpAny_call_entry PyProof.Rows.slot_list_sort ⟨_, hoL, rfl⟩ PyProof.Rows.entry_list_sort
    (list_sort_treeKAny strKind_oneLt (s := { s with heap := h'.push (seqObj "list" acc.toList.toArray 0), toks := tk }) hoL hS.keysOf (fun v₁ v₂ rest e => keyKind_strs (by rw [← e]; exact hS)) lenL fun st' hp hs => ⟨_, rfl, ?_⟩)
    (PyProof.Rows.args_list_sort _)))
  obtain ⟨ys, g1, g2, g3⟩ := sorted_out_str hS hp hs
  obtain ⟨e', he'⟩ := PyProof.Rows.sortedHeap_at (vs := acc.toList) (out := (arrOf st').map (·.2)) hoL
  have hlen : (ys.map V.str).length ≤ sizeLine := by
    rw [List.length_map, g2.length_eq, ← hal]
    exact lenL
  have pw := sortedS_lt g3 (g2.nodup_iff.mpr hnd')
  have eys : ys = (ys.map fun y => y.cps.toList).map S := by
    rw [List.map_map]
    refine (List.map_id ys).symm.trans (List.map_congr_left fun y hy => ?_)
    obtain ⟨c, rfl⟩ := hall y (g2.mem_iff.mp hy)
    rfl
  have mz : ∀ c, c ∈ (ys.map fun y => y.cps.toList) ↔ c ∈ ks0 := fun c => by
    rw [← hmem c, ← g2.mem_iff]
    constructor
    · intro hc
      rw [eys]
      exact List.mem_map.mpr ⟨c, hc, rfl⟩
    · intro hc
      rw [eys] at hc
      obtain ⟨d, h1, h2⟩ := List.mem_map.mp hc
      rw [← S_inj.mp h2]
      exact h1
  have ev : ys.map V.str = (ys.map fun y => y.cps.toList).map Lv.vs := by
    conv => lhs; rw [eys]
    rw [List.map_map]
    rfl
  refine wpAny_pure ⟨_, rfl, .ref h'.objs.size, upd H h'.objs.size (.lst (ys.map V.str)), I1.laid (t' := tk) (fun b u e => ?_) (Nat.le_refl _)
    (show ObjOk X.prog X.w _ _ _ (.lst (ys.map V.str)) from ⟨hlen, ((arrOf st').map (·.2)).toList, e', vals_of_strs g1, by rw [Array.toArray_toList]; exact he'⟩), rfl, by rw [ev]; exact q _ _ pw mz (I1.hok.fresh (Nat.le_refl _))⟩
  have hb : b < h'.objs.size := Heap.lt_size e
  rw [PyProof.Rows.sortedHeap_old (Nat.ne_of_lt hb) (by rw [size_push']; exact Nat.lt_succ_of_lt hb)]
  exact Heap.get?_push_of_some _ e
/-! ### [.. for k in d ..] -/
section
variable {K : PySem.W.Frag} {σ : L2.St} {H : Hp} {Q : VK} {g : TG} {tt : TT} {te td : TE} {vs : List Nat}
/-- a comprehension over a dict's keys (texts), by pure turns -/
theorem lcKeys {d : Addr} {kvs : List (Key × V)} {ks : List (List Nat)} (f : List Nat → Option V) (hd : H d = some (.dK kvs)) (hk : kvs.map (·.1) = ks.map (fun k => Sum.inr (S k))) (h6 : ks.length ≤ 1000000)
    (htd : ∀ (o : Obj) (Q' : VK), Q' (.ref d) (upd H d (.frz o (.dK kvs))) → td σ (upd H d (.frz o (.dK kvs))) Q')
    (step : ∀ (o : Obj) (c : List Nat) (H' : Hp), c ∈ ks → Same (upd H d (.frz o (.dK kvs))) H' → ∀ (Yk : VK) (N : Hp → Prop), (∀ y, f c = some y → ∀ H4, Same H' H4 → Yk y H4) → (f c = none → ∀ H4, Same H' H4 → N H4) →
      g (.str (S c)) (wipe σ vs) H' fun σ2 H2 => wipe σ2 vs = wipe σ vs ∧ tt σ2 H2 fun b H3 => if b = true then te σ2 H3 Yk else N H3)
    (fin : ∀ D H', H D = none → Same H H' → H' D = some (.lst (ks.filterMap f)) → Q (.ref D) H') : tLockE (tLc (iKeys td) g tt te vs) σ H Q := by
  refine ⟨d, .dK kvs, hd, trivial, fun o => ?_⟩
  have hlen : ks.length = kvs.length := by
    have := congrArg List.length hk
    rw [List.length_map, List.length_map] at this
    exact this.symm
  refine lcM (fun J H1 => J = Itk d o kvs ∧ H1 = upd H d (.frz o (.dK kvs))) (fun R k => htd o _ ⟨d, o, rfl, .inl ⟨kvs, upd_same, k _ _ ⟨rfl, rfl⟩⟩⟩) ?_
  rintro J H1 ⟨rfl, rfl⟩
  refine lcP walk_keys ks hlen f (by omega) (fun H' s => s _ _ upd_same) ?_ ?_
  · rintro i c x H' H'' hc sm ⟨rfl, k, v, hkv, rfl⟩
    have e : (kvs.map (·.1))[i]? = some k := by rw [List.getElem?_map, hkv]; rfl
    rw [hk, List.getElem?_map, hc] at e
    have : Sum.inr (S c) = k := Option.some.inj e
    subst this
    exact ⟨Same.refl _, step o c H'' (List.mem_of_getElem? hc) sm⟩
  · intro D H' nD sm hD
    have ne : D ≠ d := fun z => by subst z; rw [upd_same] at nD; cases nD
    rw [upd_ne ne] at nD
    refine ⟨sm _ _ upd_same, fin D _ nD (fun b o' hb => ?_) (by rw [upd_ne ne]; exact hD)⟩
    by_cases z : b = d
    · subst z; rw [upd_same, ← hb, hd]
    · rw [upd_ne z]; exact sm _ _ (by rw [upd_ne z]; exact hb)
end
end Lv

set_option Elab.async false
set_option linter.all false
set_option maxRecDepth 100000
set_option maxHeartbeats 3200000
namespace Lv
open PySem PySem.Spec PyProof.Rows L2 SX
/-! ### d.update(e), dict(pairs), {k: v}, constants of the module -/
section
variable {X : Cx}
theorem pe_globS {x : Str} {pos : Pos} {l : List Nat} {t : Tok} (hg : Gl X x) (hm : X.mg x = some (.str (S l) t)) (hd : (x == ("__debug__" : Str)) = false := by decide) : PE X (.Name x pos) (tC (.str (S l))) := pe_glob hg hm ⟨t, rfl⟩ hd
theorem pe_globI {x : Str} {pos : Pos} {i : Int} {t : Tok} (hg : Gl X x) (hm : X.mg x = some (.int i t)) (hd : (x == ("__debug__" : Str)) = false := by decide) : PE X (.Name x pos) (tC (.int i)) := pe_glob hg hm ⟨t, rfl⟩ hd
end
/-- a dict by letters: f tells what stands for each -/
def LD (kvs : List (Key × V)) (f : Nat → Option V) : Prop := ∃ ks : List Nat, kvs.map (·.1) = ks.map (fun c => Sum.inr (S [c])) ∧ ks.Nodup ∧ (∀ c, valV kvs (.inr (S [c])) = f c) ∧ ∀ c, c ∈ ks ↔ (f c).isSome
theorem LD.nil : LD [] fun _ => none := ⟨[], rfl, List.nodup_nil, fun _ => rfl, fun c => by simp⟩
theorem LD.val {kvs : List (Key × V)} {f : Nat → Option V} (h : LD kvs f) (c : Nat) : valV kvs (.inr (S [c])) = f c := by obtain ⟨_, _, _, h, _⟩ := h; exact h c
theorem inr_S {c d : Nat} : (Sum.inr (S [c]) : Key) = Sum.inr (S [d]) ↔ c = d := by
  constructor
  · intro h
    have := S_inj.mp (Sum.inr.inj h)
    simpa using this
  · rintro rfl; rfl
theorem keys_map {kvs : List (Key × V)} {k : Key} {v : V} : (kvs.map fun kv => if kv.1 = k then (kv.1, v) else kv).map (·.1) = kvs.map (·.1) := by
  rw [List.map_map]
  apply List.map_congr_left
  intro a _
  by_cases h : a.1 = k <;> simp [h]
theorem LD.put {kvs : List (Key × V)} {f : Nat → Option V} (h : LD kvs f) (c : Nat) (v : V) : LD (putK kvs (.inr (S [c])) v) (fun d => if d = c then some v else f d) := by
  obtain ⟨ks, h1, h2, h3, h4⟩ := h
  have hv : ∀ d, valV (putK kvs (.inr (S [c])) v) (.inr (S [d])) = if d = c then some v else f d := fun d => by
    rw [valV_put, h3 d]
    by_cases z : d = c
    · subst z; rw [if_pos rfl, if_pos rfl]
    · rw [if_neg z, if_neg fun q => z (inr_S.mp q)]
  cases e : f c with
  | none =>
    have hn : valV kvs (.inr (S [c])) = none := by rw [h3, e]
    have hc : c ∉ ks := fun z => by have := (h4 c).mp z; rw [e] at this; cases this
    refine ⟨ks ++ [c], ?_, ?_, hv, fun d => ?_⟩
    · rw [putK_new v hn, List.map_append, h1, List.map_append]; rfl
    · rw [List.nodup_append]
      exact ⟨h2, by simp, fun a ha b hb => by rw [List.mem_singleton.mp hb]; rintro rfl; exact hc ha⟩
    · rw [List.mem_append, List.mem_singleton, h4 d]
      by_cases z : d = c
      · subst z; simp
      · simp [z]
  | some x =>
    have hs : (kvs.any fun kv => decide (kv.1 = (Sum.inr (S [c]) : Key))) = true := by rw [valV_any, h3, e]; rfl
    refine ⟨ks, ?_, h2, hv, fun d => ?_⟩
    · unfold putK
      rw [if_pos hs, keys_map, h1]
    · rw [h4 d]
      by_cases z : d = c
      · subst z; rw [e]; simp
      · simp [z]
theorem LD.congr {kvs : List (Key × V)} {f g : Nat → Option V} (h : LD kvs f) (e : ∀ c, f c = g c) : LD kvs g := by
  have : f = g := funext e
  rw [← this]; exact h
theorem nodup_len {α : Type} [DecidableEq α] : ∀ (xs ys : List α), xs.Nodup → (∀ c ∈ xs, c ∈ ys) → xs.length ≤ ys.length
  | [], ys, _, _ => Nat.zero_le _
  | x :: xs, ys, h, hs => by
    have hx := hs x List.mem_cons_self
    have h1 := nodup_len xs (ys.erase x) (List.nodup_cons.mp h).2 fun c hc => by
      have hne : c ≠ x := fun z => (List.nodup_cons.mp h).1 (z ▸ hc)
      exact (List.mem_erase_of_ne hne).mpr (hs c (List.mem_cons_of_mem _ hc))
    rw [List.length_erase_of_mem hx] at h1
    have := List.length_pos_of_mem hx
    rw [List.length_cons]
    omega
theorem LD.len {kvs : List (Key × V)} {f : Nat → Option V} (h : LD kvs f) (hf : ∀ c, (f c).isSome → 97 ≤ c ∧ c ≤ 122) : kvs.length ≤ 26 := by
  obtain ⟨ks, h1, h2, h3, h4⟩ := h
  have e := congrArg List.length h1
  rw [List.length_map, List.length_map] at e
  rw [e]
  refine nodup_len ks abc h2 fun c hc => ?_
  have := hf c ((h4 c).mp hc)
  have q : ∀ d : Fin 26, d.val + 97 ∈ abc := by decide
  have q := q ⟨c - 97, by omega⟩
  rw [show c - 97 + 97 = c by omega] at q
  exact q
/-- sorted(d) of a dict by letters -/
theorem i_sortedLD {a : Addr} {kvs : List (Key × V)} {f : Nat → Option V} {H : Hp} {Q : VK} (hd : Rd H a (.dK kvs)) (h : LD kvs f) (hl : kvs.length ≤ 1000000) (q : ∀ (ys : List Nat) (p : Addr), ys.Pairwise (· < ·) → (∀ c, c ∈ ys ↔ (f c).isSome) → H p = none → Q (.ref p) (upd H p (.lst (ys.map vc)))) : rSortedD [.ref a] H Q := by
  obtain ⟨ks, h1, h2, h3, h4⟩ := h
  have e := congrArg List.length h1
  rw [List.length_map, List.length_map] at e
  refine ⟨a, kvs, ks.map fun c => [c], rfl, hd, by rw [h1, List.map_map]; rfl, ?_, by rw [List.length_map]; omega, fun ys p up hm np => ?_⟩
  · refine List.Pairwise.map _ (fun a b h z => h ?_) h2
    simpa using z
  · have ey : ys = (ys.map fun y => y.headD 0).map fun c => [c] := by
      rw [List.map_map]
      refine (List.map_id ys).symm.trans (List.map_congr_left fun y hy => ?_)
      obtain ⟨c, _, rfl⟩ := List.mem_map.mp ((hm y).mp hy)
      rfl
    rw [ey, List.map_map]
    refine q (ys.map fun y => y.headD 0) p ?_ (fun c => ?_) np
    · rw [ey, List.pairwise_map] at up
      exact up.imp fun h => lt_one.mp h
    · rw [← h4 c]
      have := hm [c]
      rw [List.mem_map] at this
      constructor
      · intro hc
        have : [c] ∈ ys := by rw [ey]; exact List.mem_map.mpr ⟨c, hc, rfl⟩
        obtain ⟨d, hd, e⟩ := List.mem_map.mp ((hm _).mp this)
        cases e
        exact hd
      · intro hc
        have : [c] ∈ ys := (hm _).mpr (List.mem_map.mpr ⟨c, hc, rfl⟩)
        exact List.mem_map.mpr ⟨[c], this, rfl⟩
end Lv

set_option Elab.async false
set_option linter.all false
set_option maxRecDepth 100000
set_option maxHeartbeats 3200000
namespace Lv
open PySem PySem.Spec PyProof.Rows L2 SX
/-! ### comprehensions whose turns make new objects -/
theorem paired_imp {α β : Type} {F G : α → β → Prop} : ∀ {xs : List α} {ys : List β}, Paired F xs ys → (∀ x ∈ xs, ∀ y, F x y → G x y) → Paired G xs ys
  | _, _, .nil, _ => .nil
  | _, _, .cons h t, k => .cons (k _ List.mem_cons_self _ h) (paired_imp t fun x hx => k x (List.mem_cons_of_mem _ hx))
theorem paired_at1 {α β : Type} {F : α → β → Prop} : ∀ {xs : List α} {ys : List β}, Paired F xs ys → ∀ (i : Nat) (x : α), xs[i]? = some x → ∃ y, ys[i]? = some y ∧ F x y
  | _, _, .nil, i, y, h => by simp at h
  | _, _, .cons h t, 0, y, e => by cases e; exact ⟨_, rfl, h⟩
  | _, _, .cons h t, i + 1, y, e => paired_at1 t i y e
section
variable {J : It} {n : Nat} {G : Hp → Prop} {Y : Nat → Hp → V → Hp → Prop} {g : TG} {tt : TT} {te : TE} {vs : List Nat} {σ : L2.St} {H : Hp} {Q : VK} {K : PySem.W.Frag}
theorem lcO (w : Walk J n G Y) {α : Type} (items : List α) (hn : items.length = n) (f : α → Option HO) (h6 : n ≤ 1000000) (hG : ∀ H', Same H H' → G H')
    (step : ∀ i c x H' H'', items[i]? = some c → Same H H' → Y i H' x H'' → Same H' H'' ∧ ∀ (Yk : VK) (N : Hp → Prop), (∀ o, f c = some o → ∀ p H4, Same H'' H4 → H'' p = none → H4 p = some o → Yk (.ref p) H4) → (f c = none → ∀ H4, Same H'' H4 → N H4) →
      g x (wipe σ vs) H'' fun σ2 H2 => wipe σ2 vs = wipe σ vs ∧ tt σ2 H2 fun b H3 => if b = true then te σ2 H3 Yk else N H3)
    (fin : ∀ D ps H', H D = none → Same H H' → ps.Nodup → D ∉ ps → (∀ p ∈ ps, H p = none) → Paired (fun p o => H' p = some o) ps (items.filterMap f) → H' D = some (.lst (ps.map V.ref)) → Q (.ref D) H') : LcJ J g tt te vs σ H Q := by
  refine lcG_ok w fun D nD => ⟨fun i acc H' => Same H H' ∧ ∃ ps : List Addr, acc = ps.map V.ref ∧ ps.Nodup ∧ D ∉ ps ∧ (∀ p ∈ ps, H p = none) ∧ Paired (fun p o => H' p = some o) ps ((items.take i).filterMap f), ⟨same_new nD, [], rfl, List.nodup_nil, by simp, by simp, by simpa using Paired.nil⟩, fun i acc H' _ _ z => hG H' z.1, ?_, ?_⟩
  · rintro i acc x H' H'' hi hll hD ⟨sm, ps, rfl, nd, hDn, hnew, pr⟩ y
    obtain ⟨c, hc⟩ : ∃ c, items[i]? = some c := ⟨items[i]'(by omega), List.getElem?_eq_getElem (by omega)⟩
    obtain ⟨s1, st⟩ := step i c x H' H'' hc sm y
    have e := range_fm f items i c hc
    refine st _ _ (fun o ho p H4 s4 np hp => ?_) (fun hv H4 s4 => ?_)
    · have np' : H' p = none := s1.free np
      have hDp : D ≠ p := ne_of_none hD np'
      have npp : p ∉ ps := fun z => by
        obtain ⟨j, hj⟩ := List.mem_iff_getElem?.mp z
        obtain ⟨o', _, ho'⟩ := paired_at1 pr j p hj
        rw [np'] at ho'
        cases ho'
      refine lc_put (s4 _ _ (s1 _ _ hD)) hll (by omega) ⟨(sm.trans (s1.trans s4)).updN nD, ps ++ [p], by rw [List.map_append]; rfl, ?_, ?_, ?_, ?_⟩
      · rw [List.nodup_append]
        exact ⟨nd, by simp, fun a ha b hb => by rw [List.mem_singleton.mp hb]; exact fun z => npp (z ▸ ha)⟩
      · intro z
        rcases List.mem_append.mp z with z | z
        · exact hDn z
        · exact hDp (List.mem_singleton.mp z)
      · intro a ha
        rcases List.mem_append.mp ha with z | z
        · exact hnew a z
        · rw [List.mem_singleton.mp z]; exact sm.free np'
      · rw [e, ho]
        refine Paired.snoc (paired_imp pr fun a ha o' h' => ?_) ?_
        · rw [upd_ne (fun z : a = D => hDn (z ▸ ha))]; exact s4 _ _ (s1 _ _ h')
        · rw [upd_ne hDp.symm]; exact hp
    · refine lc_skip (s4 _ _ (s1 _ _ hD)) hll ⟨sm.trans (s1.trans s4), ps, rfl, nd, hDn, hnew, ?_⟩
      rw [e, hv]
      simp only [Option.toList_none, List.append_nil]
      exact paired_imp pr fun a ha o' h' => s4 _ _ (s1 _ _ h')
  · rintro acc H' _ hD ⟨sm, ps, rfl, nd, hDn, hnew, pr⟩
    rw [List.take_of_length_le (by omega)] at pr
    exact fin D ps H' nD sm nd hDn hnew pr hD
theorem c_rO {lo : Int} (f : Nat → Option HO) (h6 : n ≤ 1000000)
    (step : ∀ k H', k < n → Same H H' → ∀ (Yk : VK) (N : Hp → Prop), (∀ o, f k = some o → ∀ p H4, Same H' H4 → H' p = none → H4 p = some o → Yk (.ref p) H4) → (f k = none → ∀ H4, Same H' H4 → N H4) →
      g (.int (lo + (k : Int))) (wipe σ vs) H' fun σ2 H2 => wipe σ2 vs = wipe σ vs ∧ tt σ2 H2 fun b H3 => if b = true then te σ2 H3 Yk else N H3)
    (fin : ∀ D ps H', H D = none → Same H H' → ps.Nodup → D ∉ ps → (∀ p ∈ ps, H p = none) → Paired (fun p o => H' p = some o) ps ((List.range n).filterMap f) → H' D = some (.lst (ps.map V.ref)) → Q (.ref D) H') : LcJ (Itr lo n) g tt te vs σ H Q := by
  refine lcO walk_range (List.range n) (by simp) f h6 (fun _ _ => trivial) ?_ fin
  rintro i c x H' H'' hc sm ⟨rfl, rfl⟩
  have e : c = i := by
    obtain ⟨_, h⟩ := List.getElem?_eq_some_iff.mp hc
    rw [← h, List.getElem_range]
  subst e
  exact ⟨Same.refl _, step c H'' (List.mem_range.mp (List.mem_of_getElem? hc)) sm⟩
theorem i_lockSet {D : Ends} {i : Nat} {te : TE} (h : tLockE te σ H fun x H1 => D.nx (σ.set i (some x)) H1) : tLock (tAsg te (gName i)) D σ H := h
end
theorem i_mulR {c n : Nat} {m : Int} {H : Hp} {Q : VK} (hm : m = (n : Int)) (hn : n ≤ 1000000) (h : Q (.str (S (List.replicate n c))) H) : rMulS (.str (S [c])) (.int m) H Q := by
  subst hm
  refine i_mulS (by omega) (by omega) (le_line (by simpa using hn)) ?_
  rw [Int.toNat_natCast]
  have e : (List.replicate n [c]).flatten = List.replicate n c := by
    clear h hn
    induction n with
    | zero => rfl
    | succ n ih => rw [List.replicate_succ, List.flatten_cons, ih, List.replicate_succ]; rfl
  rw [e]
  exact h
theorem Low.cons {c : Nat} {l : List Nat} (h : 97 ≤ c ∧ c ≤ 122) (hl : Low l) : Low (c :: l) := fun d hd => by
  rcases List.mem_cons.mp hd with z | z
  · subst z; exact h
  · exact hl d z
theorem Low.drop {l : List Nat} (h : Low l) (n : Nat) : Low (l.drop n) := h.sub fun c hc => List.mem_of_mem_drop hc
theorem Low.take {l : List Nat} (h : Low l) (n : Nat) : Low (l.take n) := h.sub fun c hc => List.mem_of_mem_take hc
def ipAddS : TIp := rAddS
theorem ip_addS {X : Cx} : PIp X .Add ipAddS := fun pins s σ H x y v u Q I rx ry h => by
  obtain ⟨a, b, rfl, rfl, hz, q⟩ := h
  refine iop_add_str pins s σ H _ _ v u Q I rx ry ⟨_, _, rfl, rfl, ?_, ?_⟩
  · rw [S_len, S_len]; exact hz
  · rw [S_cat]; exact q
theorem i_augS1 {a b : List Nat} {H : Hp} {Q : VK} (hz : a.length + b.length ≤ sizeLine) (h : Q (.str (S (a ++ b))) H) : ipAddS (.str (S a)) (.str (S b)) H Q := ⟨a, b, rfl, rfl, hz, h⟩
theorem atI_m1 {α : Type} {xs : List α} {v : α} {n : Nat} (hn : xs.length = n + 1) (h : xs[n]? = some v) : atI xs (-1) = some v := by
  unfold atI ixN
  rw [if_neg (by omega), if_pos (by omega), show ((-1 : Int) + (xs.length : Nat)).toNat = n by omega]
  exact h
theorem range_map_get {α : Type} (f : Nat → α) {n i : Nat} (h : i < n) : ((List.range n).map f)[i]? = some (f i) := by
  rw [List.getElem?_map, List.getElem?_range h]; rfl
theorem rev_range_map {α : Type} (f : Nat → α) (n : Nat) : ((List.range (n + 1)).map fun j => f (n - j)).reverse = (List.range (n + 1)).map f := by
  apply List.ext_getElem?
  intro i
  by_cases h : i < n + 1
  · rw [List.getElem?_reverse (by simp; exact h), List.length_map, List.length_range, range_map_get _ (by omega), range_map_get _ h, show n - (n + 1 - 1 - i) = i by omega]
  · rw [List.getElem?_eq_none (by simp; omega), List.getElem?_eq_none (by simp; omega)]
theorem rep_one {α : Type} (n : Nat) (x : α) : (List.replicate n [x]).flatten = (List.range n).map fun _ => x := by
  induction n with
  | zero => rfl
  | succ n ih => rw [List.replicate_succ', List.flatten_append, ih, List.range_succ, List.map_append]; rfl
theorem range_set {α : Type} (f g : Nat → α) {n k : Nat} (h : ∀ j, j ≠ k → f j = g j) : ((List.range n).map f).set k (g k) = (List.range n).map g := by
  apply List.ext_getElem?
  intro j
  by_cases hj : j < n
  · rw [List.getElem?_set]
    by_cases e : k = j
    · subst e; rw [if_pos rfl, if_pos (by simpa using hj), range_map_get _ hj]
    · rw [if_neg e, range_map_get _ hj, range_map_get _ hj, h j (Ne.symm e)]
  · rw [List.getElem?_eq_none (by simp; omega), List.getElem?_eq_none (by simp; omega)]
theorem fm_map2 {α β γ : Type} (f : α → β) (g : β → γ) (l : List α) : l.filterMap (fun c => some (g (f c))) = (l.map f).map g := by rw [fm_map, List.map_map]; rfl
theorem fm_iv {α : Type} (f : α → Nat) (l : List α) : l.filterMap (fun c => some (iv (f c))) = (l.map f).map iv := by rw [fm_map, List.map_map]; rfl
theorem sum_cast (ns : List Nat) : (ns.map fun n : Nat => (n : Int)).sum = ((ns.sum : Nat) : Int) := by
  induction ns with
  | nil => rfl
  | cons n ns ih => rw [List.map_cons, List.sum_cons, ih, List.sum_cons]; omega
theorem ivs (ns : List Nat) : ns.map iv = (ns.map fun n : Nat => (n : Int)).map V.int := by rw [List.map_map]; rfl
theorem i_sumN {K : PySem.W.Frag} {a : Addr} {ns : List Nat} {H : Hp} {Q : VK} (h1 : SqL K H a (ns.map iv)) (h : Q (.int ((ns.sum : Nat) : Int)) H) : rSum K [.ref a] H Q := by
  rw [ivs] at h1
  refine i_sum h1 ?_
  rw [sum_cast]
  exact h
/-! ### new objects, told without naming the heap -/
section
variable {K : PySem.W.Frag} {D : Ends} {σ : L2.St} {H : Hp} {Q : VK} {te td ty tv : TE} {targs : TA}
def lstK (Q : VK) : List V → Hp → Prop := fun xs H1 => xs.length ≤ sizeLine ∧ ∀ p, H1 p = none → Q (.ref p) (upd H1 p (.lst xs))
def tupK (Q : VK) : List V → Hp → Prop := fun xs H1 => xs.length ≤ sizeLine ∧ ∀ p, H1 p = none → Q (.ref p) (upd H1 p (.tup xs))
theorem v_lst (h : targs σ H (lstK Q)) : tLst targs σ H Q := h
theorem v_tup (h : targs σ H (tupK Q)) : tTup targs σ H Q := h
theorem v_lstK {xs : List V} (hz : xs.length ≤ sizeLine) (h : ∀ p H2, H p = none → Same H H2 → H2 p = some (.lst xs) → Q (.ref p) H2) : lstK Q xs H := ⟨hz, fun p n => h p _ n (same_new n) upd_same⟩
theorem v_tupK {xs : List V} (hz : xs.length ≤ sizeLine) (h : ∀ p H2, H p = none → Same H H2 → H2 p = some (.tup xs) → Q (.ref p) H2) : tupK Q xs H := ⟨hz, fun p n => h p _ n (same_new n) upd_same⟩
theorem v_dnewK (h : ∀ p H2, H p = none → Same H H2 → H2 p = some (.dK []) → Q (.ref p) H2) : tDNewK σ H Q := fun p n => h p _ n (same_new n) upd_same
theorem v_rep {l : Addr} {k : Int} {xs : List V} (h1 : H l = some (.lst xs)) (k0 : -(2 ^ 63) ≤ k) (k1 : k < 2 ^ 63) (hz : xs.length * k.toNat ≤ sizeLine) (h : ∀ p H2, H p = none → Same H H2 → H2 p = some (.lst (List.replicate k.toNat xs).flatten) → Q (.ref p) H2) : rRep (.ref l) (.int k) H Q :=
  i_rep h1 k0 k1 hz fun p n => h p _ n (same_new n) upd_same
theorem v_cat {l b : Addr} {xs zs : List V} (h1 : H l = some (.lst xs)) (h2 : H b = some (.lst zs)) (hz : xs.length + zs.length ≤ sizeLine) (h : ∀ p H2, H p = none → Same H H2 → H2 p = some (.lst (xs ++ zs)) → Q (.ref p) H2) : rCat (.ref l) (.ref b) H Q :=
  i_cat h1 h2 hz fun p n => h p _ n (same_new n) upd_same
theorem v_slL {a : Addr} {xs : List V} {lo hi : Option Int} (h1 : SqL K H a xs) (h : ∀ p H2, H p = none → Same H H2 → H2 p = some (.lst (cutV xs lo hi)) → Q (.ref p) H2) : rSlL K (.ref a) lo hi H Q := i_slL h1 fun p n => h p _ n (same_new n) upd_same
def revK (K : PySem.W.Frag) (Q : VK) : V → Hp → Prop := fun x H1 => ∃ a xs, x = .ref a ∧ SqL K H1 a xs ∧ ∀ p, H1 p = none → Q (.ref p) (upd H1 p (.lst xs.reverse))
theorem v_revL (h : te σ H (revK K Q)) : tRevL K te σ H Q := h
theorem v_revK {a : Addr} {xs : List V} (h1 : SqL K H a xs) (h : ∀ p H2, H p = none → Same H H2 → H2 p = some (.lst xs.reverse) → Q (.ref p) H2) : revK K Q (.ref a) H := ⟨a, xs, rfl, h1, fun p n => h p _ n (same_new n) upd_same⟩
theorem v_listOf {a : Addr} {xs : List V} (h1 : SqL K H a xs) (h : ∀ p H2, H p = none → Same H H2 → H2 p = some (.lst xs) → Q (.ref p) H2) : rListOf K [.ref a] H Q := ⟨a, xs, rfl, .inl h1, fun p n => h p _ n (same_new n) upd_same⟩
theorem v_dictD {a : Addr} {kvs : List (Key × V)} (hd : Rd H a (.dK kvs)) (h : ∀ p H2, H p = none → Same H H2 → H2 p = some (.dK kvs) → Q (.ref p) H2) : rDictD [.ref a] H Q := ⟨a, kvs, rfl, hd, fun p n => h p _ n (same_new n) upd_same⟩
theorem v_sortedLD {a : Addr} {kvs : List (Key × V)} {f : Nat → Option V} (hd : Rd H a (.dK kvs)) (h : LD kvs f) (hl : kvs.length ≤ 1000000) (q : ∀ (ys : List Nat) (p : Addr) (H2 : Hp), ys.Pairwise (· < ·) → (∀ c, c ∈ ys ↔ (f c).isSome) → H p = none → Same H H2 → H2 p = some (.lst (ys.map vc)) → Q (.ref p) H2) : rSortedD [.ref a] H Q :=
  i_sortedLD hd h hl fun ys p h1 h2 n => q ys p _ h1 h2 n (same_new n) upd_same
def sortSK (Q : VK) : List V → Hp → Prop := fun vs H1 => ∃ l : List Nat, vs = [.str (S l)] ∧ l.length ≤ 1000 ∧ ∀ (ys : List Nat) (p : Addr), ys.Pairwise (· < ·) → (∀ c, c ∈ ys ↔ c ∈ l) → H1 p = none → Q (.ref p) (upd H1 p (.lst (ys.map vc)))
theorem v_sortSetS (h : targs σ H (sortSK Q)) : tSortSetS targs σ H Q := h
theorem v_sortSK {l : List Nat} (hl : l.length ≤ 1000) (h : ∀ (ys : List Nat) (p : Addr) (H2 : Hp), ys.Pairwise (· < ·) → (∀ c, c ∈ ys ↔ c ∈ l) → H p = none → Same H H2 → H2 p = some (.lst (ys.map vc)) → Q (.ref p) H2) : sortSK Q [.str (S l)] H := ⟨l, rfl, hl, fun ys p h1 h2 n => h ys p _ h1 h2 n (same_new n) upd_same⟩
/-! changed objects -/
theorem But.of {p : Addr} {H : Hp} {o : HO} : But p H (L2.upd H p o) := But.upd
theorem v_setL {p : Addr} {xs : List V} {n : Int} {j : Nat} {v : V} {P : Hp → Prop} (hp : H p = some (.lst xs)) (hj : ixN xs.length n = some j) (h : ∀ H2, But p H H2 → H2 p = some (.lst (xs.set j v)) → P H2) : rSetL (.ref p) (.int n) v H P := i_setL hp hj (h _ But.upd upd_same)
theorem v_app {l : Addr} {xs : List V} {y : V} (hl : H l = some (.lst xs)) (hz : xs.length < sizeLine) (h : ∀ H2, But l H H2 → H2 l = some (.lst (xs ++ [y])) → Q .non H2) : rAppend (.ref l) [y] H Q := i_app hl hz (h _ But.upd upd_same)
theorem v_dPutS {p : Addr} {kvs : List (Key × V)} {v : V} {l : List Nat} {R : Hp → Prop} (hd : H p = some (.dK kvs)) (hl : kvs.length < sizeLine) (h : ∀ H2, But p H H2 → H2 p = some (.dK (putK kvs (.inr (S l)) v)) → R H2) : ∃ a H4, V.ref p = .ref a ∧ DPut H a (.str (S l)) v H4 ∧ R H4 := x_dPutS hd hl (h _ But.upd upd_same)
theorem But.new {p : Addr} {H0 H H' : Hp} (s : Same H0 H) (b : But p H H') (n : H0 p = none) : Same H0 H' := (s.but.trans b).same n
end
theorem i_tBMl {K : PySem.W.Frag} {p : Addr} {xs : List V} {H : Hp} {P : Prop} (h : SqL K H p xs) (k : P) : tyV K "list" (.ref p) H ∧ P := ⟨.inl ⟨rfl, _, h⟩, k⟩
end Lv

set_option Elab.async false
set_option linter.all false
set_option maxRecDepth 100000
set_option maxHeartbeats 3200000
namespace Lv
open PySem PySem.Spec PyProof.Rows L2 SX
/-! ### text in list of texts; find, rfind of one sign -/
section
variable {X : Cx} {K : PySem.W.Frag} {H : Hp} {Q : VK}
theorem inV_strs (m : List Nat) (ns : List (List Nat)) : inV (.str (S m)) (ns.map vs) = decide (m ∈ ns) := by
  unfold inV
  rw [List.any_map]
  rw [Bool.eq_iff_iff, List.any_eq_true, decide_eq_true_eq]
  constructor
  · rintro ⟨x, hx, e⟩
    have : S x = S m := eq_of_beq e
    rw [← S_inj.mp this]; exact hx
  · intro h
    exact ⟨m, h, beq_self_eq_true (S m)⟩
end
/-! ### len(set(text)) -/
section
variable {X : Cx} {ta : TA} {e : Expr} {p1 p2 pos pos2 : Pos}
end
end Lv

set_option Elab.async false
set_option linter.all false
set_option maxRecDepth 100000
set_option maxHeartbeats 3200000
namespace Lv
open PySem PySem.Spec PyProof.Rows L2 SX
/-! ### list(text), xs.pop(0) -/
section
variable {X : Cx} {K : PySem.W.Frag} {H : Hp} {Q : VK}
def rListS : List V → Hp → VK → Prop := fun xs H Q => ∃ l : List Nat, xs = [.str (S l)] ∧ l.length ≤ 1000000 ∧ ∀ p, H p = none → Q (.ref p) (upd H p (.lst (l.map vc)))
theorem call_listS (hc : X.calm = true) : CallR X (.type "list") rListS := by
  intro pins s σ H xs us Q I r h
  obtain ⟨l, rfl, hl, q⟩ := h
  obtain ⟨u, eu, rx⟩ := vals1 r
  subst eu
  obtain ⟨t, rfl⟩ := rx
  have hz : (S l).cps.size ≤ sizeLine := le_line (by simpa using hl)
  refine PySem.call_list_str (hn := hz) (I.ok.hd hc) (S l) t fun h' tk acc c hk hS hacc => ?_
  refine ⟨.ref s.heap.objs.size, upd H s.heap.objs.size (.lst (l.map vc)), I.laid (t' := tk) hk (Nat.le_refl _) (show ObjOk X.prog X.w _ _ _ (.lst (l.map vc)) from ⟨?_, acc.toList, c, ?_, ?_⟩), rfl, q _ (I.hok.fresh (Nat.le_refl _))⟩
  · rw [List.length_map]; exact le_line hl
  · have el : acc.toList.length = l.length := by
      have := hacc.1
      rw [Array.length_toList, this]
      simp
    refine vals_of_at (by rw [List.length_map, el]) fun j x w h1 h2 => ?_
    obtain ⟨d0, tk, e0, e⟩ := hacc.2 j w (by rw [← Array.getElem?_toList]; exact h2)
    rw [List.getElem?_map] at h1
    cases e1 : l[j]? with
    | none => rw [e1] at h1; cases h1
    | some d =>
      rw [e1] at h1
      have h1 : vc d = x := Option.some.inj h1
      subst h1
      have : d0 = d := by
        have e2 : l[j]? = some d0 := by simpa using e0
        rw [e1] at e2
        exact (Option.some.inj e2).symm
      subst this
      exact ⟨tk, e⟩
  · rw [Array.toArray_toList]; exact hS
theorem v_listS {l : List Nat} (hl : l.length ≤ 1000000) (h : ∀ p H2, H p = none → Same H H2 → H2 p = some (.lst (l.map vc)) → Q (.ref p) H2) : rListS [.str (S l)] H Q := ⟨l, rfl, hl, fun p n => h p _ n (same_new n) upd_same⟩
end
end Lv

set_option Elab.async false
set_option linter.all false
set_option maxRecDepth 100000
set_option maxHeartbeats 3200000
namespace Lv
open PySem PySem.Spec PyProof.Rows L2 SX
/-! ### defs that show lists (repr): what they promise where nothing is being shown around them -/
structure FnG (P : Program) (w : World) (K : PySem.W.Frag) (mg : Str → Option Value) (base : Heap) (CX : CXT)
    (k : Nat) (f : Addr) (fd : FuncData) (ps : List Str) (sp : Sp) : Prop where
  len : ∀ vs H Q E, sp vs H Q E → vs.length = ps.length
  run : ∀ (A : Around) (outer : List Env) (s : Shared) (H : Hp) (args : Args) (us : List Value) (vs : List V) (Q : VK) (E : XK),
    Room k A → A.guards = some [] → Env0 P w K mg base A outer s H → BindsTo s fd args (ps.zip us) → Vals vs us → sp vs H Q E →
      codeAny (model P w) A (.call (.ref f) args) (CR CX outer P w H s Q E) s
section
variable {P : Program} {w : World} {K : PySem.W.Frag} {mg : Str → Option Value} {base : Heap}
theorem FnG.mono {CX : CXT} {j k : Nat} {f : Addr} {fd : FuncData} {ps : List Str} {sp : Sp} (F : FnG P w K mg base CX j f fd ps sp) (h : j ≤ k) : FnG P w K mg base CX k f fd ps sp :=
  ⟨F.len, fun A o s H args us vs Q E r g e b v p => F.run A o s H args us vs Q E (r.mono h) g e b v p⟩
end
section
variable {X : Cx} {k : Nat} {f : Addr} {fd : FuncData} {ps : List Str} {sp : Sp} {x : Str} {p pos : Pos} {e : Expr} {es : List Expr} {t : TA}
end
/-! lists of whole numbers shown -/
def dInts (ns : List Int) : PyData := .list (ns.map PyData.int)
def dNats (ns : List Nat) : PyData := dInts (ns.map fun n : Nat => (n : Int))
end Lv

set_option Elab.async false
set_option linter.all false
set_option maxRecDepth 100000
set_option maxHeartbeats 3200000
namespace Lv
open PySem PySem.Spec PyProof.Rows L2 SX
/-! ### the end of a law whose defs show lists -/
end Lv

set_option Elab.async false
set_option linter.all false
set_option maxRecDepth 100000
set_option maxHeartbeats 3200000
namespace Lv
open PySem PySem.Spec PyProof.Rows L2 SX
/-! ### instances -/
/-- the class at C, whose instances keep the fields fs -/
structure Kl (K : PySem.W.Frag) (C : Addr) (fs : List Str) : Prop where
  cl : Cls K C
  no : ∀ f, f ∈ fs → NoAttr K C f
theorem Kl.of1 {K : PySem.W.Frag} {C : Addr} {f : Str} (c : Cls K C) (h : NoAttr K C f) : Kl K C [f] := ⟨c, fun g hg => by rw [List.mem_singleton.mp hg]; exact h⟩
theorem Kl.more {K : PySem.W.Frag} {C : Addr} {f : Str} {fs : List Str} (h : NoAttr K C f) (k : Kl K C fs) : Kl K C (f :: fs) := ⟨k.cl, fun g hg => by
  rcases List.mem_cons.mp hg with e | e
  · rw [e]; exact h
  · exact k.no g e⟩
section
variable {K : PySem.W.Frag} {C : Addr} {ta tv : TE} {t : TA} {f m : Str} {σ : L2.St} {H : Hp} {Q : VK} {E : XK} {dvs : List V} {sp : Sp} {D : Ends}
def rMe (C : Addr) (m : Str) (x : V) (H : Hp) (k : Prop) : Prop := ∃ a dx fs, x = .ref a ∧ H a = some (.ins C dx fs) ∧ fs.lookup m = none ∧ k
def rFl (K : PySem.W.Frag) (f : Str) (x : V) (H : Hp) (Q : V → Prop) : Prop := ∃ a C dx fs v, x = .ref a ∧ H a = some (.ins C dx fs) ∧ Cls K C ∧ NoAttr K C f ∧ fs.lookup f = some v ∧ Q v
def rPf (K : PySem.W.Frag) (f : Str) (y x : V) (H : Hp) (k : Hp → Prop) : Prop := ∃ a C dx fs, x = .ref a ∧ H a = some (.ins C dx fs) ∧ Cls K C ∧ NoAttr K C f ∧ fs.length < 1000 ∧ k (upd H a (.ins C dx (putF f y fs)))
theorem i_meth (h : ta σ H fun x H1 => rMe C m x H1 (t σ H1 fun vs H2 => sp (x :: (vs ++ dvs)) H2 Q E)) : tMeth C m sp dvs E ta t σ H Q := h
theorem i_fld (h : ta σ H fun x H1 => rFl K f x H1 fun v => Q v H1) : tFld K ta f σ H Q := h
theorem i_sfld (h : tv σ H fun y H1 => ta σ H1 fun x H2 => rPf K f y x H2 fun H3 => D.nx σ H3) : sFld K ta tv f D σ H := h
def rMk (C : Addr) (sp : Sp) (dvs : List V) (E : XK) (vs : List V) (H1 : Hp) (Q : VK) : Prop := ∀ x dx, H1 x = none → H1 dx = none → dx ≠ x →
  sp (.ref x :: (vs ++ dvs)) (upd (upd H1 dx (.own x)) x (.ins C dx [])) (fun v H2 => v = .non ∧ Q (.ref x) H2) E
theorem i_make (h : t σ H fun vs H1 => rMk C sp dvs E vs H1 Q) : tMake C sp dvs E t σ H Q := h
theorem x_mk {vs : List V} (h : ∀ x dx H2, H x = none → Same H H2 → H2 x = some (.ins C dx []) → sp (.ref x :: (vs ++ dvs)) H2 (fun v H3 => v = .non ∧ Q (.ref x) H3) E) : rMk C sp dvs E vs H Q := by
  intro x dx n1 n2 ne
  refine h x dx _ n1 ?_ upd_same
  intro b o e
  rw [upd_ne (ne_of_none e n1), upd_ne (ne_of_none e n2)]
  exact e
theorem x_me {a dx : Addr} {fs : List (Str × V)} {k : Prop} (h : H a = some (.ins C dx fs)) (l : fs.lookup m = none) (q : k) : rMe C m (.ref a) H k := ⟨a, dx, fs, rfl, h, l, q⟩
theorem x_fl {a dx : Addr} {fs : List (Str × V)} {v : V} {R : V → Prop} (z : Kl K C [f]) (h : H a = some (.ins C dx fs)) (l : fs.lookup f = some v) (q : R v) : rFl K f (.ref a) H R := ⟨a, C, dx, fs, v, rfl, h, z.cl, z.no f (List.mem_singleton.mpr rfl), l, q⟩
theorem x_pf {a dx : Addr} {fs : List (Str × V)} {y : V} {k : Hp → Prop} (z : Kl K C [f]) (h : H a = some (.ins C dx fs)) (l : fs.length < 1000) (q : ∀ H2, But a H H2 → H2 a = some (.ins C dx (putF f y fs)) → k H2) : rPf K f y (.ref a) H k :=
  ⟨a, C, dx, fs, rfl, h, z.cl, z.no f (List.mem_singleton.mpr rfl), l, q _ But.upd upd_same⟩
theorem lk_yes {v : V} : [(f, v)].lookup f = some v := by simp [List.lookup]
theorem lk_no {v : V} (h : (m == f) = false) : [(f, v)].lookup m = none := by simp [List.lookup, h]
theorem put_one {v w : V} : putF f w [(f, v)] = [(f, w)] := by simp [putF]
theorem put_nil {w : V} : putF f w [] = [(f, w)] := rfl
end
/-! ### None or a list of ints -/
def OL (K : PySem.W.Frag) (H : Hp) (x : V) : Option (List Int) → Prop
  | none => x = .non
  | some ns => ∃ p, x = .ref p ∧ SqL K H p (ns.map V.int)
theorem OL.n {K : PySem.W.Frag} {H : Hp} : OL K H .non none := rfl
theorem OL.s {K : PySem.W.Frag} {H : Hp} {p : Addr} {ns : List Int} (h : SqL K H p (ns.map V.int)) : OL K H (.ref p) (some ns) := ⟨p, rfl, h⟩
section
variable {td ty tx : TE} {σ : L2.St} {H : Hp} {Q : VK}
end
/-- all but some objects stay -/
def Bu (as : List Addr) (H H' : Hp) : Prop := ∀ b o, b ∉ as → H b = some o → H' b = some o
theorem Bu.refl (as : List Addr) (H : Hp) : Bu as H H := fun _ _ _ h => h
theorem Bu.trans {as : List Addr} {H H1 H2 : Hp} (a : Bu as H H1) (b : Bu as H1 H2) : Bu as H H2 := fun c o n h => b c o n (a c o n h)
theorem Bu.but {as : List Addr} {a : Addr} {H H' : Hp} (m : a ∈ as) (b : But a H H') : Bu as H H' := fun c o n h => b c o (fun z => n (z ▸ m)) h
theorem Bu.same {as : List Addr} {H H' : Hp} (s : Same H H') : Bu as H H' := fun c o _ h => s c o h
theorem Bu.more {as bs : List Addr} {H H' : Hp} (m : ∀ a ∈ as, a ∈ bs) (b : Bu as H H') : Bu bs H H' := fun c o n h => b c o (fun z => n (m c z)) h
/-- what is new may change -/
theorem Bu.new {as bs : List Addr} {H0 H H' : Hp} (s : Bu bs H0 H) (b : Bu as H H') (n : ∀ a ∈ as, a ∈ bs ∨ H0 a = none) : Bu bs H0 H' := fun c o nc h => b c o (fun z => by
  rcases n c z with k | k
  · exact nc k
  · rw [k] at h; cases h) (s c o nc h)
theorem Bu.to {as : List Addr} {H H' : Hp} (b : Bu as H H') (n : ∀ a ∈ as, H a = none) : Same H H' := fun c o h => b c o (fun z => by rw [n c z] at h; cases h) h
end Lv

set_option Elab.async false
set_option linter.all false
set_option maxRecDepth 100000
set_option maxHeartbeats 3200000
namespace Lv
open PySem PySem.Spec PyProof.Rows L2 SX
/-! ### max(text) -/
end Lv

set_option Elab.async false
set_option linter.all false
set_option maxRecDepth 100000
set_option maxHeartbeats 4000000
namespace Lv
open PySem PySem.Spec PyProof.Rows L2 SX
/-! xs[:c] = ys -/
section
variable {prog : Program} {w : World} {A : Around} {E : Value → Shared → Prop} {s : Shared}
end
end Lv

set_option Elab.async false
set_option linter.all false
set_option maxRecDepth 100000
set_option maxHeartbeats 4000000
namespace Lv
open PySem PySem.Spec PyProof.Rows L2 SX
/-! zip(text, text) -/
abbrev YZS (l m : List Nat) : Nat → List V → Prop := fun i xs => ∃ c d, l[i]? = some c ∧ m[i]? = some d ∧ xs = [.str (S [c]), .str (S [d])]
def iZipS (ta : TA) : TI := fun σ H R => ta σ H fun vs H1 => ∃ l m : List Nat, vs = [.str (S l), .str (S m)] ∧ R (ItT (min l.length m.length) (YZS l m)) H1
theorem fresh_of {X : Cx} {pins : List (Addr × Obj)} {σ : L2.St} {H : Hp} {s : Shared} {b : Addr} (I : Inv X pins σ H s) (k : Nat) (e : b = s.heap.objs.size + k) : FpOk X pins H b := by
  have h : s.heap.objs.size ≤ b := by rw [e]; exact Nat.le_add_right _ _
  exact I.fpOk h (I.hok.fresh h)
theorem pi_zipS {X : Cx} {e e2 : Expr} {ta : TA} {p pos tpos : Pos} {elts : List Expr} {kk : Nat} (hg : Gl X "zip") (hm : X.mg "zip" = none) (ha : PA X [e, e2] ta)
    (hs : starEach [e, e2] X.env = (false, eval e X.env) :: starEach [e2] X.env := by rfl) (hpl : (backTo pos (starEach [e2] X.env)).any (·.1) = false := by rfl) :
    PI X (.Tuple elts kk tpos) (.Call (.Name "zip" p) [e, e2] [] pos) (iZipS ta) := by
  refine ⟨fun pins s σ H R I h => ?_⟩
  refine Call_ (ld_blt I hg hm PyProof.Rows.boot_zip (PyProof.Rows.callWith_type1 (thn (ha.run pos pins s σ H _ I h) fun us s1 ⟨vs, H1, I1, r1, q1⟩ => ?_) hs hpl))
  obtain ⟨l, m, rfl, q⟩ := q1
  cases r1 with
  | cons r rr =>
    cases rr with
    | cons r' rr =>
      cases rr
      obtain ⟨t, rfl⟩ := r
      obtain ⟨t', rfl⟩ := r'
      refine zip_begins2 (begins_text (S l) t) (begins_text (S m) t') trivial trivial fun h' hz hTI hTO h1 h2 hsz hk => wpAny_pyIter_zip hz ?_
      have I2 : Inv X pins σ H1 { s1 with heap := h' } := I1.kept (t' := s1.toks) hk
      have T := turn_walksT (P := X.prog) (w := X.w) (K := X.K) (elts := elts) (kk := kk) (tpos := tpos) (n := min (S l).cps.size (S m).cps.size) (Y := YZS l m)
        (fun A hA => WalksT.zipD2 (zip_sep2 (N := s1.heap.objs.size) (fp1 := []) (fp2 := []) (by simp) (by simp)) (Draws.text (A := A.in1) hA s1.heap.objs.size (S l) t) (Draws.text (A := A.in1) hA (s1.heap.objs.size + 1) (S m) t')) List.mem_cons_self ?_ ?_ ?_
      · have e1 : (S l).cps.size = l.length := by simp
        have e2 : (S m).cps.size = m.length := by simp
        rw [e1, e2] at T
        refine ⟨s1.heap.objs.size + 4, _, _, _, H1, rfl, I2, T, ⟨⟨hz, hTI, ⟨_, _, hTO⟩, ⟨_, h1, rfl, rfl⟩, ⟨_, h2, rfl, rfl⟩⟩, Nat.zero_le _⟩, fun b hb => ?_, q⟩
        have e' : b = s1.heap.objs.size + 4 ∨ b = s1.heap.objs.size + 2 ∨ b = s1.heap.objs.size + 3 ∨ b = s1.heap.objs.size ∨ b = s1.heap.objs.size + 1 := by simpa using hb
        rcases e' with z | z | z | z | z
        · exact fresh_of I1 4 z
        · exact fresh_of I1 2 z
        · exact fresh_of I1 3 z
        · exact fresh_of I1 0 z
        · exact fresh_of I1 1 z
      · intro i h st b hb
        obtain ⟨a1, a2, ⟨x, y, a3⟩, ⟨o1, c1, _, d1⟩, ⟨o2, c2, _, d2⟩⟩ := st
        have e' : b = s1.heap.objs.size + 4 ∨ b = s1.heap.objs.size + 2 ∨ b = s1.heap.objs.size + 3 ∨ b = s1.heap.objs.size ∨ b = s1.heap.objs.size + 1 := by simpa using hb
        rcases e' with z | z | z | z | z
        · rw [z]; exact ⟨_, a1, fun v q => nomatch q⟩
        · rw [z]; exact ⟨_, a2, fun v q => nomatch q⟩
        · rw [z]; exact ⟨_, a3, fun v q => nomatch q⟩
        · rw [z]; exact ⟨o1, c1, fun v q => by rw [d1] at q; cases q⟩
        · rw [z]; exact ⟨o2, c2, fun v q => by rw [d2] at q; cases q⟩
      · rintro i vals hi ⟨x1, x2, ⟨c, u, hc, rfl⟩, ⟨d, u2, hd, rfl⟩, rfl⟩
        exact ⟨[.str (S [c]), .str (S [d])], .cons ⟨u, rfl⟩ (.cons ⟨u2, rfl⟩ .nil), by show 2 ≤ sizeLine; decide, c, d, by simpa using hc, by simpa using hd, rfl⟩
      · intro A i s Q E st hq
        exact wpAny_pyIter_zip st.1 hq
theorem i_zipS {ta : TA} {σ : L2.St} {H : Hp} {R : It → Hp → Prop} (h : ta σ H fun vs H1 => ∃ l m : List Nat, vs = [.str (S l), .str (S m)] ∧ R (ItT (min l.length m.length) (YZS l m)) H1) : iZipS ta σ H R := h
/-! zip(text, list, list) -/
/-- turn i: a new tuple of a sign and the items of two lists -/
def It3 (K : PySem.W.Frag) (l : List Nat) (a b : Addr) (xs ys : List V) : It :=
  ⟨fun i H => i < min (min l.length xs.length) ys.length ∧ SqL K H a xs ∧ SqL K H b ys,
    fun i H v H' => ∃ T c x y, v = .ref T ∧ H T = none ∧ H' = upd H T (.tup [.str (S [c]), x, y]) ∧ l[i]? = some c ∧ xs[i]? = some x ∧ ys[i]? = some y,
    fun i H => min (min l.length xs.length) ys.length ≤ i ∧ SqL K H a xs ∧ SqL K H b ys⟩
theorem turn_zip3 {P : Program} {w : World} {K : PySem.W.Frag} {elts : List Expr} {kk : Nat} {tpos : Pos} {l : List Nat} {t : Tok} {a b : Addr} {xs ys : List V} {N : Nat} (ha : a < N) (hb : b < N) :
    Turn P w K (.Tuple elts kk tpos) (It3 K l a b xs ys) [N + 5, N + 3, N + 4, N, N + 1, N + 2] (N + 5) (fun i h => i ≤ min (min l.length xs.length) ys.length ∧ IsZip h (N + 5) (N + 3) (N + 4) .none ∧ IsTupOf3 h (N + 3) (.ref N) (.ref (N + 1)) (.ref (N + 2)) ∧
      (∃ a1 a2 a3, IsTupOf3 h (N + 4) a1 a2 a3) ∧ h.IsStrIter N (strIterType (S l)) (S l) t i ∧ h.IsListIter (N + 1) a i ∧ h.IsListIter (N + 2) b i) where
  mem := by simp
  obj := fun i h st c hc => by
    obtain ⟨_, hz, hTI, ⟨_, _, _, hTO⟩, ⟨o1, e1, _, d1⟩, ⟨o2, e2, _, d2⟩, ⟨o3, e3, _, d3⟩⟩ := st
    have e' : c = N + 5 ∨ c = N + 3 ∨ c = N + 4 ∨ c = N ∨ c = N + 1 ∨ c = N + 2 := by simpa using hc
    rcases e' with q | q | q | q | q | q
    · rw [q]; exact ⟨_, hz, fun v q => nomatch q⟩
    · rw [q]; exact ⟨_, hTI, fun v q => nomatch q⟩
    · rw [q]; exact ⟨_, hTO, fun v q => nomatch q⟩
    · rw [q]; exact ⟨o1, e1, fun v q => by rw [d1] at q; cases q⟩
    · rw [q]; exact ⟨o2, e2, fun v q => by rw [d2] at q; cases q⟩
    · rw [q]; exact ⟨o3, e3, fun v q => by rw [d3] at q; cases q⟩
  keep := fun i h h' st k => by
    obtain ⟨h0, hz, hTI, ⟨x, y, u, hTO⟩, ⟨o1, g1, g2⟩, h2, h3⟩ := st
    exact ⟨h0, k _ (by simp) _ hz, k _ (by simp) _ hTI, ⟨x, y, u, k _ (by simp) _ hTO⟩, ⟨o1, k _ (by simp) _ g1, g2⟩, h2.at fun o q => k _ (by simp) o q, h3.at fun o q => k _ (by simp) o q⟩
  item := by
    intro X hP hw hK hc i pins s σ H E I hf st hg
    subst hP hw hK
    obtain ⟨h0, hz, hTI, hTO, h1, h2, h3⟩ := st
    obtain ⟨hi, hqx, hqy⟩ := hg
    obtain ⟨its, rv, p, _⟩ := I.list hqx
    obtain ⟨its2, rv2, p2, _⟩ := I.list hqy
    have l1 := rv.length
    have l2 := rv2.length
    have e0 : (S l).cps.size = l.length := by simp
    have hh := I.ok.hd hc
    have WA := WalksT.zipD3 (prog := X.prog) (w := X.w) (A := X.A) (zip_sep3 (N := N) (fp1 := []) (fp2 := [a]) (fp3 := [b]) (by simp) (by simpa using ha) (by simpa using hb)) (Draws.text (A := X.A.in1) hh N (S l) t) (Draws.list (A := X.A.in1) hh (N + 1) a (Nat.ne_of_lt (Nat.lt_succ_of_lt ha)) its.toArray) (Draws.list (A := X.A.in1) hh (N + 2) b (Nat.ne_of_lt (Nat.lt_of_lt_of_le hb (Nat.le_add_right _ _))) its2.toArray)
    refine WA.item i s _ _ (by rw [e0, List.size_toArray, List.size_toArray, ← l1, ← l2]; exact hi) ⟨hz, hTI, hTO, h1, ⟨h2, p.isList⟩, ⟨h3, p2.isList⟩⟩ fun T vals h' tk hp hT hTup hm hk => ?_
    refine ⟨_, rfl, WA.go elts kk tpos i T { s with heap := h', toks := tk } _ _ hm fun h4 st4 hk4 => ?_⟩
    replace hk4 : ∀ c o, c ∉ [N + 5, N + 4, N, N + 1, N + 2] → h'.get? c = some o → h4.get? c = some o := hk4
    obtain ⟨x1, x2, x3, ⟨c, u, hcx, rfl⟩, e2, e3, rfl⟩ := hp
    obtain ⟨y2, f2, r2⟩ : ∃ y, xs[i]? = some y ∧ RelV y x2 := by
      have hlt : i < xs.length := by omega
      obtain ⟨z, g1, g2⟩ := rv.get (List.getElem?_eq_getElem hlt)
      rw [List.getElem?_toArray, g1] at e2
      cases e2
      exact ⟨_, List.getElem?_eq_getElem hlt, g2⟩
    obtain ⟨y3, f3, r3⟩ : ∃ y, ys[i]? = some y ∧ RelV y x3 := by
      have hlt : i < ys.length := by omega
      obtain ⟨z, g1, g2⟩ := rv2.get (List.getElem?_eq_getElem hlt)
      rw [List.getElem?_toArray, g1] at e3
      cases e3
      exact ⟨_, List.getElem?_eq_getElem hlt, g2⟩
    have hTup2 : h4.IsTuple T #[.str ⟨#[c]⟩ u, x2, x3] := hTup.at fun o q => hk4 T o (WA.apart i T h' hm) q
    have new : ObjOk X.prog X.w (upd H T (.tup [.str (S [c]), y2, y3])) h4 T (.tup [.str (S [c]), y2, y3]) := ⟨by show 3 ≤ sizeLine; decide, [.str ⟨#[c]⟩ u, x2, x3], .cons ⟨u, rfl⟩ (.cons r2 (.cons r3 .nil)), hTup2⟩
    have sub : ∀ d, d ∈ [N + 5, N + 4, N, N + 1, N + 2] → d ∈ [N + 5, N + 3, N + 4, N, N + 1, N + 2] := fun d hd => by simp at hd ⊢; omega
    have I2 : Inv X pins σ (upd H T (.tup [.str (S [c]), y2, y3])) { s with heap := h4, toks := tk } :=
      I.turnedNew (ch := [N + 5, N + 3, N + 4, N, N + 1, N + 2]) (fun d ob hd q => hk4 d ob (fun z => hd (sub d z)) (hk d ob (fun z => hd (sub d z)) q)) hf hT new
    obtain ⟨s1, s2, s3, s4, ⟨s5, _⟩, ⟨s6, _⟩⟩ := st4
    refine ⟨.ref T, _, I2, rfl, ⟨T, c, y2, y3, rfl, I.hok.fresh hT, rfl, by simpa using hcx, f2, f3⟩, ⟨hi, s1, s2, s3, s4, s5, s6⟩, fun d hd => ?_⟩
    have lt : d < s.heap.objs.size := by
      obtain ⟨_, _, _, hTO⟩ := hTO
      obtain ⟨o1, g1, _⟩ := h1
      obtain ⟨o2, g2, _⟩ := h2
      obtain ⟨o3, g3, _⟩ := h3
      have e' : d = N + 5 ∨ d = N + 3 ∨ d = N + 4 ∨ d = N ∨ d = N + 1 ∨ d = N + 2 := by simpa using hd
      rcases e' with q | q | q | q | q | q
      · rw [q]; exact Heap.lt_size hz
      · rw [q]; exact Heap.lt_size hTI
      · rw [q]; exact Heap.lt_size hTO
      · rw [q]; exact Heap.lt_size g1
      · rw [q]; exact Heap.lt_size g2
      · rw [q]; exact Heap.lt_size g3
    rw [upd_ne (Nat.ne_of_lt (Nat.lt_of_lt_of_le lt hT))]
    exact (hf d hd).1
  done := by
    intro X hP hw hK hc i pins s σ H E I hf st hg
    subst hP hw hK
    obtain ⟨h0, hz, hTI, hTO, h1, h2, h3⟩ := st
    obtain ⟨hi, hqx, hqy⟩ := hg
    obtain ⟨its, rv, p, _⟩ := I.list hqx
    obtain ⟨its2, rv2, p2, _⟩ := I.list hqy
    have l1 := rv.length
    have l2 := rv2.length
    have e0 : (S l).cps.size = l.length := by simp
    have hh := I.ok.hd hc
    have WA := WalksT.zipD3 (prog := X.prog) (w := X.w) (A := X.A) (zip_sep3 (N := N) (fp1 := []) (fp2 := [a]) (fp3 := [b]) (by simp) (by simpa using ha) (by simpa using hb)) (Draws.text (A := X.A.in1) hh N (S l) t) (Draws.list (A := X.A.in1) hh (N + 1) a (Nat.ne_of_lt (Nat.lt_succ_of_lt ha)) its.toArray) (Draws.list (A := X.A.in1) hh (N + 2) b (Nat.ne_of_lt (Nat.lt_of_lt_of_le hb (Nat.le_add_right _ _))) its2.toArray)
    have hin : i = min (min (S l).cps.size its.toArray.size) its2.toArray.size := by rw [e0, List.size_toArray, List.size_toArray, ← l1, ← l2]; omega
    rw [hin] at h1 h2 h3
    refine WA.done s _ _ ⟨hz, hTI, hTO, h1, ⟨h2, p.isList⟩, ⟨h3, p2.isList⟩⟩ fun h' tk hk => ⟨rfl, ?_⟩
    have sub : ∀ d, d ∈ [N + 5, N + 4, N, N + 1, N + 2] → d ∈ [N + 5, N + 3, N + 4, N, N + 1, N + 2] := fun d hd => by simp at hd ⊢; omega
    exact I.turnedL (ch := [N + 5, N + 3, N + 4, N, N + 1, N + 2]) (fun c o hb q => hk c o (fun z => hb (sub c z)) q) hf
  self := fun A i s Q E st h => wpAny_pyIter_zip st.2.1 h
def iZip3 (K : PySem.W.Frag) (ta : TA) : TI := fun σ H R => ta σ H fun vs H1 => ∃ (l : List Nat) (a b : Addr) (xs ys : List V), vs = [.str (S l), .ref a, .ref b] ∧ SqL K H1 a xs ∧ SqL K H1 b ys ∧ R (It3 K l a b xs ys) H1
theorem pi_zip3 {X : Cx} {e e2 e3 : Expr} {ta : TA} {p pos tpos : Pos} {elts : List Expr} {kk : Nat} (hg : Gl X "zip") (hm : X.mg "zip" = none) (ha : PA X [e, e2, e3] ta)
    (hs : starEach [e, e2, e3] X.env = (false, eval e X.env) :: starEach [e2, e3] X.env := by rfl) (hpl : (backTo pos (starEach [e2, e3] X.env)).any (·.1) = false := by rfl) :
    PI X (.Tuple elts kk tpos) (.Call (.Name "zip" p) [e, e2, e3] [] pos) (iZip3 X.K ta) := by
  refine ⟨fun pins s σ H R I h => ?_⟩
  refine Call_ (ld_blt I hg hm PyProof.Rows.boot_zip (PyProof.Rows.callWith_type1 (thn (ha.run pos pins s σ H _ I h) fun us s1 ⟨vs, H1, I1, r1, q1⟩ => ?_) hs hpl))
  obtain ⟨l, a, b, xs, ys, rfl, hqx, hqy, q⟩ := q1
  cases r1 with
  | cons r rr =>
    cases rr with
    | cons r' rr =>
      cases rr with
      | cons r'' rr =>
        cases rr
        obtain ⟨t, rfl⟩ := r
        cases r'
        cases r''
        obtain ⟨its, rv, p1, _⟩ := I1.list hqx
        obtain ⟨its2, rv2, p2, _⟩ := I1.list hqy
        refine zip_begins3 (begins_text (S l) t) (begins_list a its.toArray) (begins_list b its2.toArray) trivial p1.isList p2.isList fun h' hz hTI hTO h1 h2 h3 hsz hk => wpAny_pyIter_zip hz ?_
        have I2 : Inv X pins σ H1 { s1 with heap := h' } := I1.kept (t' := s1.toks) hk
        refine ⟨s1.heap.objs.size + 5, _, _, _, H1, rfl, I2, turn_zip3 (t := t) p1.lt p2.lt, ⟨Nat.zero_le _, hz, hTI, ⟨_, _, _, hTO⟩, ⟨_, h1, rfl, rfl⟩, ⟨_, h2, rfl, rfl⟩, ⟨_, h3, rfl, rfl⟩⟩, fun b hb => ?_, q⟩
        have e' : b = s1.heap.objs.size + 5 ∨ b = s1.heap.objs.size + 3 ∨ b = s1.heap.objs.size + 4 ∨ b = s1.heap.objs.size ∨ b = s1.heap.objs.size + 1 ∨ b = s1.heap.objs.size + 2 := by simpa using hb
        rcases e' with z | z | z | z | z | z
        · exact fresh_of I1 5 z
        · exact fresh_of I1 3 z
        · exact fresh_of I1 4 z
        · exact fresh_of I1 0 z
        · exact fresh_of I1 1 z
        · exact fresh_of I1 2 z
theorem walk_3 {K : PySem.W.Frag} {l : List Nat} {a b : Addr} {xs ys : List V} : Walk (It3 K l a b xs ys) (min (min l.length xs.length) ys.length) (fun H => SqL K H a xs ∧ SqL K H b ys) (YT fun i zs => ∃ c x y, l[i]? = some c ∧ xs[i]? = some x ∧ ys[i]? = some y ∧ zs = [.str (S [c]), x, y]) :=
  ⟨fun _ _ hi g => ⟨hi, g⟩, fun _ g => ⟨Nat.le_refl _, g⟩, fun _ _ _ _ _ _ ⟨T, c, x, y, h1, h2, h3, h4, h5, h6⟩ => ⟨T, _, h1, h2, h3, c, x, y, h4, h5, h6, rfl⟩⟩
theorem f_3 {K : PySem.W.Frag} {l : List Nat} {a b : Addr} {xs ys : List V} {g : TG} {tb : TS} {D : Ends} {σ : L2.St} {H : Hp} (h : ForG (fun H => SqL K H a xs ∧ SqL K H b ys) (min (min l.length xs.length) ys.length) (YT fun i zs => ∃ c x y, l[i]? = some c ∧ xs[i]? = some x ∧ ys[i]? = some y ∧ zs = [.str (S [c]), x, y]) g tb D σ H) : ForJ (It3 K l a b xs ys) g tb D σ H := forG_ok walk_3 h
theorem i_zip3 {K : PySem.W.Frag} {ta : TA} {σ : L2.St} {H : Hp} {R : It → Hp → Prop} (h : ta σ H fun vs H1 => ∃ (l : List Nat) (a b : Addr) (xs ys : List V), vs = [.str (S l), .ref a, .ref b] ∧ SqL K H1 a xs ∧ SqL K H1 b ys ∧ R (It3 K l a b xs ys) H1) : iZip3 K ta σ H R := h
end Lv

set_option Elab.async false
set_option linter.all false
set_option maxRecDepth 100000
set_option maxHeartbeats 4000000
namespace Lv
open PySem PySem.Spec PyProof.Rows L2 SX
end Lv

set_option Elab.async false
set_option linter.all false
set_option maxRecDepth 100000
set_option maxHeartbeats 4000000
namespace Lv
open PySem PySem.Spec PyProof.Rows L2 SX
/-! a thing locked from here on -/
def tLk (te : TE) : TE := fun σ H Q => te σ H fun x H1 => ∃ d u, x = .ref d ∧ H1 d = some u ∧ Mut (some u) ∧ ∀ o, Q (.ref d) (upd H1 d (.frz o u))
theorem pe_lk {X : Cx} {e : Expr} {te : TE} (h : PE X e te) : PE X e (tLk te) := by
  refine ⟨fun pins s σ H Q I hw => ?_⟩
  refine thn (h.run pins s σ H _ I hw) fun v s1 ⟨x, H1, I1, r, d, u, ex, hd, mu, q⟩ => ?_
  subst ex
  obtain ⟨o, I2⟩ := I1.lock hd mu
  exact ⟨.ref d, _, I2, r, q o⟩
theorem i_lk {te : TE} {σ : L2.St} {H : Hp} {Q : VK} (h : te σ H fun x H1 => ∃ d u, x = .ref d ∧ H1 d = some u ∧ Mut (some u) ∧ ∀ o, Q (.ref d) (upd H1 d (.frz o u))) : tLk te σ H Q := h
/-! for k, v in d.items() of a dict by tuples -/
def Itit (d : Addr) (o : Obj) (kvs : List (List Key × V)) : It :=
  ⟨fun i H => H d = some (.frz o (.dT kvs)) ∧ i < kvs.length, fun i H x H' => ∃ T k v q, kvs[i]? = some (k, v) ∧ x = .ref T ∧ H q = some (.tup (k.map kV)) ∧ H T = none ∧ H' = upd H T (.tup [.ref q, v]), fun i H => H d = some (.frz o (.dT kvs)) ∧ kvs.length ≤ i⟩
theorem frzT2 {X : Cx} {pins : List (Addr × Obj)} {σ : L2.St} {H : Hp} {s : Shared} {d : Addr} {o : Obj} {kvs : List (List Key × V)} (I : Inv X pins σ H s) (h : H d = some (.frz o (.dT kvs))) :
    (d == sysModules) = false ∧ s.heap.get? d = some o ∧ o.ExactDict ∧ ∃ (es : Array DictEntry) (ep : Nat), o.data = .dict es ep ∧ es.size = kvs.length ∧
      ∀ (i : Nat) (k : List Key) (v : V), kvs[i]? = some (k, v) → ∃ (en : DictEntry) (q : Addr), es[i]? = some en ∧ en.key = .ref q ∧ RelV v en.val ∧ H q = some (.tup (k.map kV)) := by
  obtain ⟨hd, z, hs, xs, pr, o', es, ep, ho, hx, hdt, he, _⟩ := I.hok d _ h
  rw [hd] at ho
  cases ho
  refine ⟨hs, hd, hx, es, ep, hdt, ?_, fun i k v e => ?_⟩
  · have l1 : es.size = xs.length := size_of_entries he
    have l2 : kvs.length = xs.length := Paired.length pr
    omega
  · obtain ⟨b, hb, e1, e2, e3⟩ := paired_get pr e
    have q := entry_at he i
    rw [hb] at q
    exact ⟨_, b.2.1, q, rfl, e3, e2⟩
theorem turn_itemsT {P : Program} {w : World} {K : PySem.W.Frag} {d : Addr} {o : Obj} {es : Array DictEntry} {ep : Nat} {kvs : List (List Key × V)} {elts : List Expr} {kk : Nat} {tpos : Pos} (it : Addr) (hod : o.data = .dict es ep) :
    Turn P w K (.Tuple elts kk tpos) (Itit d o kvs) [it] it (fun i h => ∃ ok ov, IsItemIter h it d i es.size ep ok ov) where
  mem := by simp
  obj := fun i h st b hb => by
    have e : b = it := by simpa using hb
    subst e
    obtain ⟨ok, ov, e⟩ := st
    exact ⟨_, e, fun v z => nomatch z⟩
  keep := fun i h h' st k => let ⟨ok, ov, e⟩ := st; ⟨ok, ov, k it (by simp) _ e⟩
  item := by
    intro X hP hw hK hc i pins s σ H E I hf st hg
    subst hP hw hK
    obtain ⟨hd, hi⟩ := hg
    obtain ⟨hs, hgd, hx, es', ep', hdt, hsz, ent⟩ := frzT2 I hd
    obtain ⟨rfl, rfl⟩ := dict_ep hod hdt
    obtain ⟨⟨k, v⟩, hkv⟩ : ∃ p, kvs[i]? = some p := ⟨kvs[i], List.getElem?_eq_getElem hi⟩
    obtain ⟨en, q, hen, hkey, hval, hq⟩ := ent i k v hkv
    obtain ⟨ok, ov, he⟩ := st
    have hlt : it < s.heap.objs.size := Heap.lt_size he
    have hie : i < es'.size := by omega
    have een : es'[i] = en := by rw [Array.getElem?_eq_getElem hie] at hen; exact Option.some.inj hen
    refine DT.nextI he ⟨o, hgd, hx, hdt⟩ hie fun h' ho hT hz hk => ?_
    rw [een, hkey] at hT
    refine ⟨_, rfl, wpAny_letOwnedTupleGo_items (s := { s with heap := h' }) ho fun h'' he' sb => ?_⟩
    have hT2 : h''.get? s.heap.objs.size = some { cls := .type "tuple", data := .seq #[.ref q, en.val] } := (sb.2 _ (Nat.ne_of_gt hlt)).trans hT
    have new : ObjOk X.prog X.w (upd H s.heap.objs.size (.tup [.ref q, v])) h'' s.heap.objs.size (.tup [.ref q, v]) :=
      ⟨by show 2 ≤ sizeLine; decide, [.ref q, en.val], .cons rfl (.cons hval .nil), ⟨_, hT2, rfl, _, rfl⟩⟩
    have I1 : Inv X pins σ (upd H s.heap.objs.size (.tup [.ref q, v])) { s with heap := h'' } :=
      I.turnedNew (t' := s.toks) (ch := [it]) (fun b ob hb e => (sb.2 b (by simpa using hb)).trans (hk b ob (by simpa using hb) e)) hf (Nat.le_refl _) new
    refine ⟨.ref s.heap.objs.size, _, I1, rfl, ⟨_, k, v, q, hkv, rfl, hq, I.hok.fresh (Nat.le_refl _), rfl⟩, ⟨_, _, he'⟩, fun b hb => ?_⟩
    have e : b = it := by simpa using hb
    rw [e, upd_ne (Nat.ne_of_lt hlt)]
    exact (hf it (by simp)).1
  done := by
    intro X hP hw hK hc i pins s σ H E I hf st hg
    subst hP hw hK
    obtain ⟨hd, hi⟩ := hg
    obtain ⟨f0, f1, f2, f3, f4, f5⟩ := hf it (by simp)
    obtain ⟨hs, hgd, hx, es', ep', hdt, hsz, ent⟩ := frzT2 I hd
    obtain ⟨rfl, rfl⟩ := dict_ep hod hdt
    obtain ⟨ok, ov, he⟩ := st
    exact DT.endI (I.ok.hd hc) he ⟨o, hgd, hx, hdt⟩ (by omega) fun h' eb => ⟨rfl, I.turned (t' := s.toks) (fun b ob hb e => eb b ob hb e) f0 f1 f3 f4 f5⟩
  self := fun A i s Q E st h => let ⟨_, _, e⟩ := st; PySem.W.kcp_self e h
def iItemsT (td : TE) : TI := fun σ H R => td σ H fun x H1 => ∃ d o kvs, x = .ref d ∧ H1 d = some (.frz o (.dT kvs)) ∧ R (Itit d o kvs) H1
theorem pi_itemsT {X : Cx} {e : Expr} {td : TE} {apos cpos : Pos} {elts : List Expr} {kk : Nat} {tpos : Pos} (he : PE X e td) (hbase : attributeBase e "items" X.env (eval e X.env) = eval e X.env := by rfl) (hline : (apos.endLine == cpos.line) = true := by rfl) :
    PI X (.Tuple elts kk tpos) (.Call (.Attribute e "items" apos) [] [] cpos) (iItemsT td) := by
  refine ⟨fun pins s σ H R I h => ?_⟩
  refine wpAny_Call_method (T := "dict") (id := "dict.items") hbase rfl hline F.plainAttrs_dict F.slot_dict_items F.type_dict_items (thn (he.run pins s σ H _ I h) fun u s1 ⟨x, H1, I1, rx, d, o, kvs, ex, hd, q⟩ => ?_)
  subst ex
  obtain rfl : u = Value.ref d := rx
  obtain ⟨hs, hgd, hx, es, ep, hdt, hsz, ent⟩ := frzT2 I1 hd
  have raw : DT.Raw s1.heap d es ep := ⟨o, hgd, hx, hdt⟩
  refine ⟨raw.typeIs, fun a ea => by cases ea; exact ⟨o, hgd, hx.2.1⟩, ?_⟩
  have I2 : Inv X pins σ H1 { s1 with heap := s1.heap.push { cls := .type "dict_items", data := .fields #[.ref d] } } := I1.kept (t' := s1.toks) fun b ob q => Heap.get?_push_of_some _ q
  have fin : wpAny (model X.prog X.w) X.A (pyIter (.ref s1.heap.objs.size)) (PIE X pins σ (.Tuple elts kk tpos) R) X.xe { s1 with heap := s1.heap.push { cls := .type "dict_items", data := .fields #[.ref d] } } := by
    refine DT.iterI (d := d) ⟨_, Heap.get?_push_size _ rfl, rfl, rfl⟩ (raw.push _) (pi_one (tk := s1.toks) I2 _ (turn_itemsT _ hdt) ⟨.none, .none, ?_⟩ q)
    exact Heap.get?_push_size _ rfl
  show wpAny _ _ (callWith cpos (.builtin "dict.items") [.ref d] [] []) _ X.xe s1
  exact method_meetsIn F.slot_dict_items F.entry_dict_items rfl (PySem.evalArgs_none ⟨rfl, raw.typeIs, F.args_dict_items_1 _, _, DT.meetsItems (es := es) (ep := ep) hs, raw, fin⟩)
theorem walk_itemsT {d : Addr} {o : Obj} {kvs : List (List Key × V)} : Walk (Itit d o kvs) kvs.length (fun H => H d = some (.frz o (.dT kvs))) (fun i H x H' => ∃ T k v q, kvs[i]? = some (k, v) ∧ x = .ref T ∧ H q = some (.tup (k.map kV)) ∧ H T = none ∧ H' = upd H T (.tup [.ref q, v])) :=
  ⟨fun _ _ hi g => ⟨g, hi⟩, fun _ g => ⟨g, Nat.le_refl _⟩, fun _ _ _ _ _ _ y => y⟩
theorem i_itemsT {td : TE} {σ : L2.St} {H : Hp} {R : It → Hp → Prop} (h : td σ H fun x H1 => ∃ d o kvs, x = .ref d ∧ H1 d = some (.frz o (.dT kvs)) ∧ R (Itit d o kvs) H1) : iItemsT td σ H R := h
end Lv

set_option Elab.async false
set_option linter.all false
set_option maxRecDepth 100000
set_option maxHeartbeats 4000000
namespace Lv
open PySem PySem.Spec PyProof.Rows L2 SX
section
variable {prog : Program} {w : World} {A : Around} {E : Value → Shared → Prop} {s : Shared}
end
end Lv

set_option Elab.async false
set_option linter.all false
set_option maxRecDepth 100000
set_option maxHeartbeats 4000000
namespace Lv
open PySem PySem.Spec PyProof.Rows L2 SX
/-- a dict by whole numbers: f tells what stands for each -/
def ID (kvs : List (Key × V)) (f : Nat → Option V) : Prop := ∃ ks : List Nat, kvs.map (·.1) = ks.map (fun c => Sum.inl ((c : Nat) : Int)) ∧ ks.Nodup ∧ (∀ c : Nat, valV kvs (.inl (c : Int)) = f c) ∧ ∀ c, c ∈ ks ↔ (f c).isSome
theorem ID.nil : ID [] fun _ => none := ⟨[], rfl, List.nodup_nil, fun _ => rfl, fun c => by simp⟩
theorem ID.val {kvs : List (Key × V)} {f : Nat → Option V} (h : ID kvs f) (c : Nat) : valV kvs (.inl (c : Int)) = f c := by obtain ⟨_, _, _, h, _⟩ := h; exact h c
theorem inl_I {c d : Nat} : (Sum.inl (c : Int) : Key) = Sum.inl (d : Int) ↔ c = d := by
  constructor
  · intro h
    have : (c : Int) = (d : Int) := Sum.inl.inj h
    omega
  · rintro rfl; rfl
theorem ID.put {kvs : List (Key × V)} {f : Nat → Option V} (h : ID kvs f) (c : Nat) (v : V) : ID (putK kvs (.inl (c : Int)) v) (fun d => if d = c then some v else f d) := by
  obtain ⟨ks, h1, h2, h3, h4⟩ := h
  have hv : ∀ d : Nat, valV (putK kvs (.inl (c : Int)) v) (.inl (d : Int)) = if d = c then some v else f d := fun d => by
    rw [valV_put, h3 d]
    by_cases z : d = c
    · subst z; rw [if_pos rfl, if_pos rfl]
    · rw [if_neg z, if_neg fun q => z (inl_I.mp q)]
  cases e : f c with
  | none =>
    have hn : valV kvs (.inl (c : Int)) = none := by rw [h3, e]
    have hc : c ∉ ks := fun z => by have := (h4 c).mp z; rw [e] at this; cases this
    refine ⟨ks ++ [c], ?_, ?_, hv, fun d => ?_⟩
    · rw [putK_new v hn, List.map_append, h1, List.map_append]; rfl
    · rw [List.nodup_append]
      exact ⟨h2, by simp, fun a ha b hb => by rw [List.mem_singleton.mp hb]; rintro rfl; exact hc ha⟩
    · rw [List.mem_append, List.mem_singleton, h4 d]
      by_cases z : d = c
      · subst z; simp
      · simp [z]
  | some x =>
    have hs : (kvs.any fun kv => decide (kv.1 = (Sum.inl (c : Int) : Key))) = true := by rw [valV_any, h3, e]; rfl
    refine ⟨ks, ?_, h2, hv, fun d => ?_⟩
    · unfold putK
      rw [if_pos hs, keys_map, h1]
    · rw [h4 d]
      by_cases z : d = c
      · subst z; rw [e]; simp
      · simp [z]
theorem ID.congr {kvs : List (Key × V)} {f g : Nat → Option V} (h : ID kvs f) (e : ∀ c, f c = g c) : ID kvs g := by
  have : f = g := funext e
  rw [← this]; exact h
theorem val_at {κ : Type} [DecidableEq κ] : ∀ (kvs : List (κ × V)) (i : Nat) (k : κ) (v : V), (kvs.map (·.1)).Nodup → kvs[i]? = some (k, v) → valV kvs k = some v
  | [], i, k, v, _, h => by simp at h
  | p :: r, 0, k, v, _, h => by
    have : p = (k, v) := by simpa using h
    subst this
    exact valV_pos rfl
  | p :: r, i + 1, k, v, nd, h => by
    have h' : r[i]? = some (k, v) := by simpa using h
    rw [List.map_cons, List.nodup_cons] at nd
    have : k ∈ r.map (·.1) := List.mem_map.mpr ⟨(k, v), List.mem_of_getElem? h', rfl⟩
    rw [valV_neg fun z => nd.1 (z ▸ this)]
    exact val_at r i k v nd.2 h'
/-- the entries in order -/
theorem ID.ent {kvs : List (Key × V)} {f : Nat → Option V} (h : ID kvs f) : ∃ ks : List Nat, ks.Nodup ∧ ks.length = kvs.length ∧ (∀ c, c ∈ ks ↔ (f c).isSome) ∧ ∀ (i : Nat) (k : Key) (v : V), kvs[i]? = some (k, v) → ∃ c : Nat, ks[i]? = some c ∧ k = Sum.inl ((c : Nat) : Int) ∧ f c = some v := by
  obtain ⟨ks, h1, h2, h3, h4⟩ := h
  have el : kvs.length = ks.length := by have := congrArg List.length h1; simpa using this
  refine ⟨ks, h2, el.symm, h4, fun i k v e => ?_⟩
  have e1 : (kvs.map (·.1))[i]? = some k := by rw [List.getElem?_map, e]; rfl
  rw [h1, List.getElem?_map] at e1
  cases q : ks[i]? with
  | none => rw [q] at e1; cases e1
  | some c =>
    rw [q] at e1
    have ek : Sum.inl (c : Int) = k := Option.some.inj e1
    refine ⟨c, rfl, ek.symm, ?_⟩
    rw [← h3 c, ek]
    refine val_at kvs i k v ?_ e
    rw [h1]
    unfold List.Nodup
    rw [List.pairwise_map]
    exact h2.imp fun hne z => hne (inl_I.mp z)
section
variable {K : PySem.W.Frag} {D : Ends} {σ : L2.St} {H : Hp} {Q : VK} {p : Addr} {kvs : List (Key × V)} {v : V}
end
/-! what is thawed behind the walk over it -/
/-! what is compared with [] -/
def Shp (n : Nat) (d : PyData) : Prop := d.canLay0 = true ∧ d.depth ≤ n
theorem lay_of : ∀ ds : List PyData, (∀ d ∈ ds, d.canLay0 = true) → PyData.canLayAll0 ds = true
  | [], _ => by simp [PyData.canLayAll0]
  | d :: ds, h => by
    simp only [PyData.canLayAll0, Bool.and_eq_true]
    exact ⟨h d List.mem_cons_self, lay_of ds fun e he => h e (List.mem_cons_of_mem _ he)⟩
theorem depth_of {n : Nat} : ∀ ds : List PyData, (∀ d ∈ ds, d.depth ≤ n) → PyData.depthAll ds ≤ n
  | [], _ => by simp [PyData.depthAll]
  | d :: ds, h => by
    have h1 := h d List.mem_cons_self
    have h2 := depth_of ds fun e he => h e (List.mem_cons_of_mem _ he)
    simp only [PyData.depthAll]
    omega
theorem Shp.lst {n : Nat} {ds : List PyData} (h : ∀ d ∈ ds, Shp n d) : Shp (n + 1) (.list ds) := by
  refine ⟨?_, ?_⟩
  · rw [PyData.canLay0]; exact lay_of ds fun d hd => (h d hd).1
  · have := depth_of (n := n) ds fun d hd => (h d hd).2
    rw [PyData.depth]; omega
theorem Shp.tup {n : Nat} {ds : List PyData} (h : ∀ d ∈ ds, Shp n d) : Shp (n + 1) (.tuple ds) := by
  refine ⟨?_, ?_⟩
  · rw [PyData.canLay0]; exact lay_of ds fun d hd => (h d hd).1
  · have := depth_of (n := n) ds fun d hd => (h d hd).2
    rw [PyData.depth]; omega
theorem Shp.ok {n : Nat} {d : PyData} (h : Shp n d) (hn : n ≤ 64) : SeqAt.shaped d = true := by
  unfold SeqAt.shaped
  rw [h.1, decide_eq_true (Nat.le_trans h.2 hn)]
  rfl
/-- plain data, so deep at most -/
def Dq (n : Nat) (K : PySem.W.Frag) (H : Hp) (v : V) : Prop := ∃ d, Dp K H v d ∧ Shp n d
section
variable {n : Nat} {K : PySem.W.Frag} {H : Hp}
theorem Dq.int (i : Int) : Dq n K H (.int i) := ⟨_, .int i, by simp [PyData.canLay0], by simp [PyData.depth]⟩
theorem Dq.bl (b : Bool) : Dq n K H (.bl b) := ⟨_, .bl b, by simp [PyData.canLay0], by simp [PyData.depth]⟩
theorem Dq.non : Dq n K H .non := ⟨_, .non, by simp [PyData.canLay0], by simp [PyData.depth]⟩
theorem Dq.str {l : List Nat} (h : Chr l) : Dq n K H (.str (S l)) := ⟨_, .str _, by rw [PyData.canLay0]; exact strOk_S h, by simp [PyData.depth]⟩
theorem Dq.all : ∀ {xs : List V}, (∀ x ∈ xs, Dq n K H x) → ∃ ds, DpAll K H xs ds ∧ (∀ d ∈ ds, Shp n d) ∧ ds.length = xs.length
  | [], _ => ⟨[], .nil, fun _ z => (nomatch z), rfl⟩
  | x :: xs, h => by
    obtain ⟨d, h1, h2⟩ := h x List.mem_cons_self
    obtain ⟨ds, h3, h4, h5⟩ := Dq.all fun y hy => h y (List.mem_cons_of_mem _ hy)
    refine ⟨d :: ds, .cons h1 h3, fun e he => ?_, by simp [h5]⟩
    rcases List.mem_cons.mp he with z | z
    · rw [z]; exact h2
    · exact h4 e z
theorem Dq.tup {a : Addr} {xs : List V} (ha : SqT K H a xs) (h : ∀ x ∈ xs, Dq n K H x) : Dq (n + 1) K H (.ref a) := by
  obtain ⟨ds, h1, h2, _⟩ := Dq.all h
  exact ⟨_, .tup ha h1, .tup h2⟩
theorem Dq.lst {a : Addr} {xs : List V} (ha : SqL K H a xs) (h : ∀ x ∈ xs, Dq n K H x) : Dq (n + 1) K H (.ref a) := by
  obtain ⟨ds, h1, h2, _⟩ := Dq.all h
  exact ⟨_, .lst ha h1, .lst h2⟩
end
def r2E (K : PySem.W.Frag) (g : Bool → Bool) : R2 := fun x y H Q => ∃ (p q : Addr) (xs : List V), x = .ref p ∧ y = .ref q ∧ SqL K H p xs ∧ SqL K H q [] ∧ (∀ x ∈ xs, Dq 20 K H x) ∧ Q (.bl (g (decide (xs = [])))) H
abbrev rNeE (K : PySem.W.Frag) : R2 := r2E K fun b => !b
theorem eqv_nil {ds : List PyData} {xs : List V} (h : ds.length = xs.length) : PyData.eqv (.list ds) (.list []) = decide (xs = []) := by
  cases ds with
  | nil =>
    have : xs = [] := List.length_eq_zero_iff.mp h.symm
    subst this
    simp [PyData.eqv, PyData.eqvAll]
  | cons a ds =>
    have : xs ≠ [] := fun z => by subst z; cases h
    simp [PyData.eqv, PyData.eqvAll, this]
theorem op_neE {X : Cx} (hu : X.A.units + 64 < cLine) : OpR X (compareOp .NotEq) (rNeE X.K) := by
  intro pins s σ H x y v u Q I rx ry h
  obtain ⟨p, q, xs, rfl, rfl, h1, h2, h3, k⟩ := h
  obtain ⟨ds, d1, d2, d3⟩ := Dq.all h3
  refine op_neD hu pins s σ H _ _ v u Q I rx ry ⟨_, _, .lst h1 d1, .lst h2 .nil, (Shp.lst d2).ok (by decide), (Shp.lst (n := 0) (ds := []) fun _ z => nomatch z).ok (by decide), ?_⟩
  rw [eqv_nil d3]
  exact k
theorem i_r2E {K : PySem.W.Frag} {g : Bool → Bool} {p q : Addr} {xs : List V} {H : Hp} {Q : VK} (h1 : SqL K H p xs) (h2 : SqL K H q []) (h3 : ∀ x ∈ xs, Dq 20 K H x) (k : Q (.bl (g (decide (xs = [])))) H) : r2E K g (.ref p) (.ref q) H Q := ⟨p, q, xs, rfl, rfl, h1, h2, h3, k⟩
theorem ID.len {kvs : List (Key × V)} {f : Nat → Option V} {n : Nat} (h : ID kvs f) (hf : ∀ c, (f c).isSome → c < n) : kvs.length ≤ n := by
  obtain ⟨ks, h1, h2, h3, _⟩ := h.ent
  have := nodup_len ks (List.range n) h1 fun c hc => List.mem_range.mpr (hf c ((h3 c).mp hc))
  rw [List.length_range] at this
  omega
theorem fm_zipG {α β : Type} (us : List Addr) (ls : List α) (f : α → Option β) (h : us.length = ls.length) : (us.zip ls).filterMap (fun p => f p.2) = ls.filterMap f := by
  induction us generalizing ls with
  | nil => cases ls with
    | nil => rfl
    | cons a l => cases h
  | cons u us ih =>
    cases ls with
    | nil => cases h
    | cons a l => rw [List.zip_cons_cons, List.filterMap_cons, List.filterMap_cons, ih l (Nat.succ.inj h)]
theorem zip_refsG {α : Type} (us : List Addr) (ls : List α) (h : us.length = ls.length) : (us.zip ls).map (fun p => V.ref p.1) = us.map V.ref := by
  induction us generalizing ls with
  | nil => rfl
  | cons u us ih =>
    cases ls with
    | nil => cases h
    | cons a l => rw [List.zip_cons_cons, List.map_cons, List.map_cons, ih l (Nat.succ.inj h)]
end Lv

set_option Elab.async false
set_option linter.all false
set_option maxRecDepth 100000
set_option maxHeartbeats 4000000
namespace Lv
open PySem PySem.Spec PyProof.Rows L2 SX
/-! {(a, b): v} -/
def dispT (Q : VK) (p : Addr) (x y : V) (H2 : Hp) : Prop := H2 p = some (.dT []) ∧ ∃ (k : List Key) (b : Addr), x = .ref b ∧ H2 b = some (.tup (k.map kV)) ∧ Q (.ref p) (upd H2 p (.dT [(k, y)]))
def tDispT1 (tk tv : TE) : TE := fun σ H Q => ∀ p, H p = none → tk σ (upd H p (.dT [])) fun x H1 => tv σ H1 fun y H2 => dispT Q p x y H2
theorem pe_dispT1 {X : Cx} {ek ev : Expr} {tk tv : TE} {pos : Pos} (hu : X.A.units + 1 < cLine) (hk : PE X ek tk) (hv : PE X ev tv) : PE X (.Dict [some ek] [ev] pos) (tDispT1 tk tv) := by
  refine ⟨fun pins s σ H Q I q => ?_⟩
  have hn := I.hok.fresh (Nat.le_refl s.heap.objs.size)
  have I1 := I.laid (a := s.heap.objs.size) (o := .dT []) (h' := s.heap.push { cls := .type "dict", data := .dict #[] }) (t' := s.toks) (fun _ _ q => Heap.get?_push_of_some _ q) (Nat.le_refl _) (dt_empty s.heap I.big)
  refine wpAny_Dict_any rfl rfl (by simp) (by show 1 ≤ 15; decide) ?_
  refine pairTrees_cons_walk (thn (hk.run pins _ σ _ _ I1 (q _ hn)) fun u s1 ⟨x, H1, I1, rx, q1⟩ => thn (hv.run pins s1 σ H1 _ I1 q1) fun u2 s2 ⟨y, H2, I2, ry, e, k, b, ex, eb, q2⟩ => pairTrees_nil_walk ?_)
  subst ex
  cases (show u = Value.ref b from rx)
  obtain ⟨z, hd, xs, rel, dd⟩ := dt_of I2.hok e
  have hz : xs.length ≤ sizeLine := by rw [← Paired.length rel]; exact z
  unfold storeAll
  rw [List.forIn_cons]
  refine wpAny_bind (wpAny_bind (wpAny_dictSet_heap (hsz := hz) (Nat.lt_of_succ_lt hu) (key_of I2.hok eb) dd fun h' dd' hs => wpAny_pure ?_))
  show wpAny _ _ (forIn [] PUnit.unit _) _ _ _
  rw [List.forIn_nil]
  refine wpAny_pure ?_
  obtain ⟨q', es, ep, hq, h2, h3, h4, _, h5⟩ := dd'
  refine ⟨.ref s.heap.objs.size, _, d_write (ob := .dT [(k, y)]) I2 (by rw [e]; exact True.intro) hs ⟨q', hq⟩ ⟨?_, hd, _, (rel.put k eb ry).keeps fun c ys ec => ?_, q', es, ep, hq, h2, h3, h4, h5⟩, rfl, q2⟩
  · show 1 ≤ sizeLine
    rw [sizeLine_eq]; omega
  · rw [upd_ne (ne_of ec e (fun z => nomatch z))]
    exact ec
theorem v_dispT1 {tk tv : TE} {σ : L2.St} {H : Hp} {Q : VK} (h : ∀ p H1, H p = none → Same H H1 → H1 p = some (.dT []) → tk σ H1 fun x H2 => tv σ H2 fun y H3 => dispT Q p x y H3) : tDispT1 tk tv σ H Q := fun p np => h p _ np (same_new np) upd_same
theorem x_dispT {k : List Key} {y : V} {p b : Addr} {H : Hp} {Q : VK} (hp : H p = some (.dT [])) (hb : H b = some (.tup (k.map kV))) (h : ∀ H2, But p H H2 → H2 p = some (.dT [(k, y)]) → Q (.ref p) H2) : dispT Q p (.ref b) y H := ⟨hp, k, b, rfl, hb, h _ But.upd upd_same⟩
/-- a dict by two whole numbers -/
abbrev k2 (p q : Nat) : List Key := [Sum.inl (p : Int), Sum.inl (q : Int)]
theorem k2_inj {p q p' q' : Nat} : k2 p q = k2 p' q' ↔ p = p' ∧ q = q' := by
  constructor
  · intro h
    have h1 := List.cons.inj h
    have h2 := List.cons.inj h1.2
    exact ⟨inl_I.mp h1.1, inl_I.mp h2.1⟩
  · rintro ⟨rfl, rfl⟩; rfl
section
variable {K : PySem.W.Frag} {D : Ends} {σ : L2.St} {H : Hp} {Q : VK} {p : Addr} {kvs : List (List Key × V)} {v : V} {b : Addr} {k : List Key}
theorem x_dInT {R : Option V → Prop} (hd : Rd H p (.dT kvs)) (hb : H b = some (.tup (k.map kV))) (h : R (valV kvs k)) : ∃ a o, V.ref p = .ref a ∧ DGet H a (.ref b) o ∧ R o := ⟨p, _, rfl, .inr ⟨kvs, k, b, hd, rfl, hb, rfl⟩, h⟩
theorem x_dGetT {R : V → Prop} (hd : Rd H p (.dT kvs)) (hb : H b = some (.tup (k.map kV))) (hv : valV kvs k = some v) (h : R v) : ∃ a v, V.ref p = .ref a ∧ DGet H a (.ref b) (some v) ∧ R v := ⟨p, v, rfl, .inr ⟨kvs, k, b, hd, rfl, hb, hv.symm⟩, h⟩
theorem v_dPutT {R : Hp → Prop} (hd : H p = some (.dT kvs)) (hb : H b = some (.tup (k.map kV))) (hl : kvs.length < sizeLine) (h : ∀ H2, But p H H2 → H2 p = some (.dT (putK kvs k v)) → R H2) : ∃ a H4, V.ref p = .ref a ∧ DPut H a (.ref b) v H4 ∧ R H4 := ⟨p, _, rfl, .inr ⟨kvs, k, b, hd, rfl, hb, hl, rfl⟩, h _ But.upd upd_same⟩
end
theorem paired_snocP {α β : Type} {F : α → β → Prop} {x : α} {y : β} (h : F x y) : ∀ {xs : List α} {ys : List β}, Paired F xs ys → Paired F (xs ++ [x]) (ys ++ [y])
  | _, _, .nil => .cons h .nil
  | _, _, .cons a b => .cons a (paired_snocP h b)
def oS : Option (List Nat) → V
  | none => .non
  | some w => .str (S w)
end Lv

set_option Elab.async false
set_option linter.all false
set_option maxRecDepth 100000
set_option maxHeartbeats 4000000
namespace Lv
open PySem PySem.Spec PyProof.Rows L2 SX
/-! (int, text) < (int, text) -/
/-! (int, int) not in list of such -/
end Lv

set_option Elab.async false
set_option linter.all false
set_option maxRecDepth 100000
set_option maxHeartbeats 4000000
namespace Lv
open PySem PySem.Spec PyProof.Rows L2 SX
/-! text[::k], text[a::k]: some letters of it -/
/-! lists of truths compared -/
theorem dp_bls {K : PySem.W.Frag} {H : Hp} : ∀ bs : List Bool, DpAll K H (bs.map V.bl) (bs.map PyData.bool)
  | [] => .nil
  | b :: bs => .cons (.bl b) (dp_bls bs)
theorem eqv_bls : ∀ ns ms : List Bool, PyData.eqvAll (ns.map PyData.bool) (ms.map PyData.bool) = decide (ns = ms)
  | [], [] => by simp [PyData.eqvAll]
  | [], _ :: _ => by simp [PyData.eqvAll]
  | _ :: _, [] => by simp [PyData.eqvAll]
  | n :: ns, m :: ms => by
    simp only [List.map_cons, PyData.eqvAll, PyData.eqv, eqv_bls ns ms, List.cons.injEq]
    cases n <;> cases m <;> simp
theorem shaped_bls (bs : List Bool) : SeqAt.shaped (.list (bs.map PyData.bool)) = true := (Shp.lst (n := 0) fun d hd => by
  obtain ⟨b, _, rfl⟩ := List.mem_map.mp hd
  exact ⟨by simp [PyData.canLay0], by simp [PyData.depth]⟩).ok (by decide)
def r2LB (K : PySem.W.Frag) (g : List Bool → List Bool → Bool) : R2 := fun x y H Q => ∃ (p q : Addr) (ns ms : List Bool), x = .ref p ∧ y = .ref q ∧ SqL K H p (ns.map V.bl) ∧ SqL K H q (ms.map V.bl) ∧ Q (.bl (g ns ms)) H
abbrev rEqLB (K : PySem.W.Frag) : R2 := r2LB K fun a b => decide (a = b)
theorem op_eqLB {X : Cx} (hu : X.A.units + 64 < cLine) : OpR X (compareOp .Eq) (rEqLB X.K) := by
  intro pins s σ H x y v u Q I rx ry h
  obtain ⟨p, q, ns, ms, rfl, rfl, h1, h2, k⟩ := h
  refine op_eqD hu pins s σ H _ _ v u Q I rx ry ⟨_, _, .lst h1 (dp_bls ns), .lst h2 (dp_bls ms), shaped_bls ns, shaped_bls ms, ?_⟩
  rw [PyData.eqv, eqv_bls]
  exact k
end Lv

set_option Elab.async false
set_option linter.all false
set_option maxRecDepth 100000
set_option maxHeartbeats 4000000
namespace Lv
open PySem PySem.Spec PyProof.Rows L2 SX
/-! list(a dict), unpacking a list -/
/-! a comprehension in a comprehension -/
theorem rel_free {env : Env} : ∀ {names : List (Str × NameKind)} {x : Str}, names.lookup x = some .cell ∨ names.lookup x = some .free →
    (names.map fun (n, k) => if (k == NameKind.free && env.scope.kind == .function && env.kindOf n == some .cell) then (n, NameKind.cell) else (n, k)).lookup x = some .cell ∨
    (names.map fun (n, k) => if (k == NameKind.free && env.scope.kind == .function && env.kindOf n == some .cell) then (n, NameKind.cell) else (n, k)).lookup x = some .free
  | [], _, h => by simp at h
  | (n, k) :: r, x, h => by
    have ih := @rel_free env r x
    rw [List.lookup_cons] at h
    rw [List.map_cons]
    dsimp only
    by_cases z : (k == NameKind.free && env.scope.kind == .function && env.kindOf n == some .cell) = true
    · rw [if_pos z, List.lookup_cons]
      cases e : x == n with
      | true => exact .inl rfl
      | false => rw [e] at h; exact ih h
    · rw [if_neg z, List.lookup_cons]
      cases e : x == n with
      | true => rw [e] at h; exact h
      | false => rw [e] at h; exact ih h
theorem blkOk_in {N : List Str} {sc scope : Scope} {env : Env} {own : List (Str × Nat)} (h : BlkOk N sc scope own) : BlkOk N (relabel sc env) scope own := ⟨h.kind, h.uniq, h.ix, fun y hy e => rel_free (h.free y hy e), h.own⟩
end Lv

set_option Elab.async false
set_option linter.all false
set_option maxRecDepth 100000
set_option maxHeartbeats 4000000
namespace Lv
open PySem PySem.Spec PyProof.Rows L2 SX
/-! min of two pairs (number, text) -/
section
variable {prog : Program} {w : World} {A : Around} {E : Value → Shared → Prop} {s : Shared}
end
end Lv

set_option Elab.async false
set_option linter.all false
set_option maxRecDepth 100000
set_option maxHeartbeats 2000000
/-! errors: caught, kept behind the suite, asked -/
namespace Lv
open PySem PySem.Spec PyProof.Rows L2 SX
section
variable {X : Cx} {pins : List (Addr × Obj)} {σ : L2.St} {H : Hp} {sI s' : Shared} {B : Heap}
/-- an error that landed is tracked from now on -/
theorem inv_cg {a : Addr} {oe : Obj} {vs : Array Value} {cls : Value} (I : Inv X pins σ H sI) (nb : ∀ b o, sI.heap.get? b = some o → b ∉ frs X.stack → B.get? b = some o) (st : B.StaysIn s'.heap) (up : sI.heap.UpToSlots s'.heap)
    (os : s'.os = sI.os) (ag : AllBare s'.gens) (hB : B.get? a = none) (nfr : a ∉ frs X.stack) (he : s'.heap.get? a = some oe) (hz : Zc cls none oe) (hd : oe.data = .fields vs) (na : H a = none) : Inv X pins σ (upd H a (CgO cls a)) s' := by
  have aI : sI.heap.get? a = none := by
    cases e : sI.heap.get? a with
    | none => rfl
    | some o => rw [nb a o e nfr] at hB; cases hB
  have slot : ∀ b ∈ frs X.stack, ∀ o, sI.heap.get? b = some o → ∃ sl, s'.heap.get? b = some { o with slots := sl } := fun b hb o e => by
    obtain ⟨_, o2, e2, nf⟩ := I.stack.mem hb
    rw [e] at e2
    cases e2
    exact up b o e nf
  have nea : ∀ b o, sI.heap.get? b = some o → b ≠ a := fun b o e z => by rw [z, aI] at e; cases e
  have U : Un (frs X.stack) [] H (upd H a (CgO cls a)) sI.heap s'.heap := {
    keep := fun b o e _ hb _ => st b o (nb b o e hb)
    slot := fun b o e _ hb _ => slot b hb o e
    free := fun b o e n _ => by rw [upd_ne (nea b o e)]; exact n
    there := fun b o e _ => by
      by_cases hb : b ∈ frs X.stack
      · exact (slot b hb o e).elim fun sl q => ⟨_, q⟩
      · exact ⟨o, st b o (nb b o e hb)⟩
    tups := fun b xs q => by rw [upd_ne (ne_of_none q na)]; exact q
    frzs := fun b o xs q => by rw [upd_ne (ne_of_none q na)]; exact q
    tbls := fun b ps q => ⟨#[], by rw [upd_ne (ne_of_none q na), q]; simp⟩ }
  exact I.call' os U (((I.inGround nb).kept st).laidN (fun _ _ q => q) na (cgO_ok he hz hd)) ag fun _ z => nomatch z
theorem inv_suite {s : Shared} (I : Inv X pins σ H s) (a : Addr) : Inv (X.suite a (X.pn ++ pins)) [] σ H s :=
  ⟨I.ok.suite _ _, I.os, I.bare, I.base, I.loc, I.cell, I.free, I.freeC, fun p hp => I.pin p (by rw [List.append_nil] at hp; exact hp), I.hok, I.len⟩
theorem inv_unsuite {s : Shared} {a : Addr} {pn : List (Addr × Obj)} (I : Inv (X.suite a (X.pn ++ pins)) pn σ H s) (ok : X.Ok) : Inv X pins σ H s :=
  ⟨ok, I.os, I.bare, I.base, I.loc, I.cell, I.free, I.freeC, fun p hp => I.pin p (List.mem_append_left _ hp), I.hok, I.len⟩
end
/-- what 'except x as n' wishes: the error is caught, its object is tracked -/
def wAx (K : PySem.W.Frag) (c : Value) (i : Nat) (ts : TS) (D : Ends) : WX := fun cls d σ H => PySem.W.exmOne K cls c = some true ∧ d = none ∧ ∀ a, H a = none →
  ts { nx := fun σ' H' => D.nx (σ'.set i none) H', rt := D.rt, bk := fun σ' H' => D.bk (σ'.set i none) H', ct := fun σ' H' => D.ct (σ'.set i none) H' } (σ.set i (some (.ref a))) (upd H a (CgO cls a))
def tTryAx (K : PySem.W.Frag) (c : Value) (i : Nat) (tb : WX → TS) (ts : TS) : TS := fun D σ H => tb (wAx K c i ts D) D σ H
section
variable {X : Cx} {x n : Str} {c : Value} {i : Nat} {body suite : List Stmt} {b₀ : Stmt} {np pos pos' : Pos} {tb : WX → TS} {ts : TS}
theorem ps_tryAx (hs : X.stack = X.env :: X.outer) (hf : X.env.frame = some X.env.locals) (hN : X.N.Nodup) (hi : X.N[i]? = some n) (hln : X.env.kindOf n = some .local) (hc : Names X x c)
    (hb : ∀ (W : WX) (pn : List (Addr × Obj)) (xe : Value → Shared → Prop), Takes (X.tr pn xe) W → PassesOwn (model X.prog X.w) X.A X.env xe → PSs (X.tr pn xe) body (tb W))
    (hsu : ∀ (a : Addr) (pn : List (Addr × Obj)), PSs (X.suite a pn) (b₀ :: suite) ts) :
    PS X (.Try body [.ExceptHandler (some (.Name x np)) (some n) (b₀ :: suite) pos'] [] [] pos) (tTryAx X.K c i tb ts) := by
  constructor
  intro pins s σ H D I h
  have ok := I.ok
  have hfr : X.A.frames = some (X.env :: X.outer) := hs ▸ ok.frames
  have hn2 : Loc X.env.scope n := .inl hln
  let after : Value → Shared → Prop := fun e s1 => wpAny (model X.prog X.w) X.A (noteFrame e X.env) (fun _ s2 => wpAny (model X.prog X.w) X.A (setFlight e none) (fun _ s3 => wpAny (model X.prog X.w) X.A (handleBy e X.env [.ExceptHandler (some (.Name x np)) (some n) (b₀ :: suite) pos']) (SP X pins D) X.xe s3) X.xe s2) X.xe s1
  have caught : Takes (X.tr (X.pn ++ pins) after) (wAx X.K c i ts D) := by
    rintro u s1 ⟨a, B, sI, pn1, σ1, H1, cls, d, rfl, J1, nb, up, sky, na, os, ag, ex, rfl, go⟩
    have J : Inv X pins σ1 H1 sI := J1.ofTry ok
    have fl0 : Sky B (X.env :: X.outer) a (Zc cls none) X.env.locals s1.heap := hs ▸ sky
    refine Sky.land Zc.steady hfr hf fl0 fun h2 fl2 up2 => ?_
    have J2 : Inv X pins σ1 H1 { s1 with heap := h2 } := J.landed nb fl2.1 (up.trans up2) os ag
    obtain ⟨o2, v2, ho2, hz2, hd2⟩ := fl2.there
    have nfr : a ∉ frs X.stack := fun hm => by
      rw [hs] at hm
      obtain ⟨_, o3, e3, nf⟩ := fl2.2.2.1.mem hm
      rw [ho2] at e3
      cases e3
      exact nf _ hd2
    have lk : PySem.W.Looks (model X.prog X.w) h2 (typeOf (.ref a)) cls := fun A Q E s k q => wpAny_typeOf_ref (k _ _ ho2) (by rw [hz2.1]; exact q)
    have lm := PySem.W.exm_one (M := model X.prog X.w) J2.kIn lk ex
    have name : ∀ {Q : Value → Shared → Prop} {E : Value → Shared → Prop}, Q c { s1 with heap := h2 } → wpAny (model X.prog X.w) (X.A.mark (some (.ref a))) (eval (.Name x np) X.env) Q E { s1 with heap := h2 } := fun {Q E} q => by
      rcases hc with ⟨g1, g2, g3 | ⟨g3, g4, g5⟩⟩
      · exact ld_glob (X := X.suite a (X.pn ++ pins)) (inv_suite J2 a) g1 g3 q g2
      · exact ld_blt (X := X.suite a (X.pn ++ pins)) (inv_suite J2 a) g1 g3 g4 q g5 g2
    refine wpAny_handleBy_cons (codeAny_handlers_test (name (lm.here (codeAny_handlers_suite_as ?_)))) (fun q => by cases q)
    refine HandSPX.lands_againZ fl2 fun h4 fl4 up4 => ?_
    obtain ⟨o4, v4, ho4, hz4, hd4⟩ := fl4.there
    have J4 : Inv X pins σ1 (upd H1 a (CgO cls a)) { s1 with heap := h4 } := inv_cg J nb fl4.1 ((up.trans up2).trans up4) os ag fl4.2.1 nfr ho4 hz4 hd4 na
    refine store_ok (X := X.suite a (X.pn ++ pins)) (v := .ref a) (inv_suite J4 a) hN hi hn2 rfl (fun s5 S5 => ?_) (.inr hln)
    refine wpAny_mono ((hsu a (X.pn ++ pins)).run [] s5 _ _ _ S5 (go a na)) (fun f s6 hsp => ?_) fun _ _ z => z.elim
    have fin : ∀ {σ6 : L2.St} {H6 : Hp} {Q : Shared → Prop}, Inv (X.suite a (X.pn ++ pins)) [] σ6 H6 s6 → (∀ s7, Inv X pins (σ6.set i none) H6 s7 → Q s7) →
        wpAny (model X.prog X.w) X.A (do bindName X.env n .none; unbindBehindTheSuite X.env n pos') (fun _ s7 => Q s7) X.xe s6 := fun {σ6 H6 Q} S6 hq => gone_ok (inv_unsuite S6 ok) hN hi hln hq
    cases f with
    | ret u => exact hsp.elim fun v ⟨σ6, H6, S6, r6, q6⟩ => fin S6 fun s7 J7 => ⟨v, _, H6, J7, r6, q6⟩
    | next => exact hsp.elim fun σ6 ⟨H6, S6, q6⟩ => fin S6 fun s7 J7 => ⟨_, H6, J7, q6⟩
    | brk => exact hsp.elim fun σ6 ⟨H6, S6, q6⟩ => fin S6 fun s7 J7 => ⟨_, H6, J7, q6⟩
    | cont => exact hsp.elim fun σ6 ⟨H6, S6, q6⟩ => fin S6 fun s7 J7 => ⟨_, H6, J7, q6⟩
  refine wpAny_Try_except (wpAny_mono ((hb _ (X.pn ++ pins) after caught PassesOwn.looking).run [] s σ H D (I.toTry _) h) (fun f s1 hsp => ?_) fun e s1 he => he)
  cases f with
  | ret u => exact hsp.elim fun v ⟨σ', H', J', r, q⟩ => ⟨v, σ', H', J'.ofTry ok, r, q⟩
  | next => exact hsp.elim fun σ' ⟨H', J', q⟩ => wpAny_execs_nil ⟨σ', H', J'.ofTry ok, q⟩
  | brk => exact hsp.elim fun σ' ⟨H', J', q⟩ => ⟨σ', H', J'.ofTry ok, q⟩
  | cont => exact hsp.elim fun σ' ⟨H', J', q⟩ => ⟨σ', H', J'.ofTry ok, q⟩
end

/-! raise, calls that may raise -/
def tRaise (E : XK) (C : Addr) : TS := fun _ _ H => E (.ref C) none H
theorem i_raise {E : XK} {C : Addr} {D : Ends} {σ : L2.St} {H : Hp} (h : E (.ref C) none H) : tRaise E C D σ H := h
theorem i_callS {sp : Sp} {W : WX} {t : TA} {σ : L2.St} {H : Hp} {Q : VK} (h : t σ H fun vs H1 => sp vs H1 Q (WE W σ)) : tCallS sp (WE W) t σ H Q := h
theorem pass1 {X : Cx} : Passes (L2.CX X.prog X.w) X E0 := fun _ _ _ _ _ _ _ ⟨_, _, _, _, _, _, _, _, _, _, _, _, z⟩ => z.elim
theorem passE {X : Cx} {E : XK} (tk : Takes X (fun cls d _ H => E cls d H)) : Passes (L2.CX X.prog X.w) X E := passes_call tk fun _ _ _ _ h => h
/-- o.m(e, ..) within a try -/
def tMethT (C : Addr) (m : Str) (sp : Sp) (W : WX) (ta : TE) (t : TA) : TE := fun σ H Q => ta σ H fun x H1 => ∃ a dx fs, x = .ref a ∧ H1 a = some (.ins C dx fs) ∧ fs.lookup m = none ∧ t σ H1 fun vs H2 => sp (x :: vs) H2 Q (WE W σ)
theorem pe_methT {X : Cx} {W : WX} {k : Nat} {f C : Addr} {fd : FuncData} {ps : List Str} {sp : Sp} {m : Str} {pos apos : Pos} {e o : Expr} {es : List Expr} {ta : TE} {t : TA} {pl : Sem Bool} (he : PE X o ta) (c : Cls X.K C) (hm : Meth X.K C m f)
    (F : FnOk X.prog X.w X.K X.mg X.base (L2.CX X.prog X.w) k f fd ps sp) (hr : Room k X.A) (hb : Binds X.K fd ps []) (tk : Takes X W) (ha : PA X (e :: es) t)
    (hst : starEach (e :: es) X.env = (false, eval e X.env) :: starEach es X.env := by rfl) (hpl : (backTo pos (starEach es X.env)).any (·.1) = false := by rfl)
    (ht : eval (.Call (.Attribute o m apos) (e :: es) [] pos) X.env = (do
      let v ← eval o X.env
      standAt apos.atName
      let (g, h) ← holding [v] (getMethod v m pl)
      callWith pos g h (backTo pos (starEach (e :: es) X.env)) (backToKw pos (keywordEach [] X.env))) := by rfl) :
    PE X (.Call (.Attribute o m apos) (e :: es) [] pos) (tMethT C m sp W ta t) := by
  constructor
  intro pins s σ H Q I h
  refine PySem.W.methodCall_KW (pl := pl) (thn (he.run pins s σ H _ I h) fun u s1 z => ?_) ht
  obtain ⟨x, H1, I1, rx, a, dx, fs, rfl, ea, l, q⟩ := z
  cases (show u = Value.ref a from rx)
  refine getmeth_ok I1 ea c hm l (PySem.W.callWith_K (first := [.ref a]) (h₀ := X.base) I.ok.mod.kin hm.kp (thn (ha.run pos pins s1 σ H1 _ I1 q) fun us s2 z2 => ?_) hst hpl)
  obtain ⟨vs, H2, I2, r, q2⟩ := z2
  exact ⟨I2.kIn, run_fnS (us := .ref a :: us) (vs := .ref a :: vs) F hr hb (passAt tk σ) I2 (.cons rfl r) q2⟩
/-! the kinds of things -/
/-- isinstance(x, U) tells b -/
def Kd (K : PySem.W.Frag) (H : Hp) (x : V) (U : String) (b : Bool) : Prop := ∃ t, Ty2 K H x t ∧ PySem.W.kitOne K t (.type U) = some b
theorem i_kd {K : PySem.W.Frag} {H : Hp} {x : V} {U : String} {b : Bool} {Q : VK} (h : Kd K H x U b) (q : Q (.bl b) H) : rIs1 K [x, .ty U] H Q := h.elim fun t z => ⟨x, _, t, _, b, rfl, .ty U, z.1, z.2, q⟩
theorem Kd.same {K : PySem.W.Frag} {H H' : Hp} {x : V} {U : String} {b : Bool} (h : Kd K H x U b) (s : Same H H') : Kd K H' x U b := by
  obtain ⟨t, ty, e⟩ := h
  refine ⟨t, ?_, e⟩
  cases ty with
  | exc q c => exact .exc (s _ _ q) c
  | of q =>
    refine .of ?_
    cases q with
    | base z =>
      refine .base ?_
      cases z with
      | non => exact .non
      | bl z => exact .bl z
      | int z => exact .int z
      | str z => exact .str z
      | flt z => exact .flt z
      | lst z => exact .lst (s _ _ z)
      | frz z => exact .frz (s _ _ z)
      | tup z => exact .tup (s _ _ z)
      | dK z => exact .dK (s _ _ z)
      | dT z => exact .dT (s _ _ z)
      | ins z a1 a2 a3 a4 a5 => exact .ins (s _ _ z) a1 a2 a3 a4 a5
    | byt z => exact .byt z
    | set z => exact .set (s _ _ z)
    | kList z c => exact .kList z c
    | kTuple z c => exact .kTuple z c
    | kDict z c => exact .kDict z c
    | fTuple z => exact .fTuple (s _ _ z)
    | fDict z => exact .fDict (s _ _ z)
theorem kd_of {K : PySem.W.Frag} {H : Hp} {x : V} {T U : String} {b : Bool} (t : TyOf K H x (.type T)) (h : kitB T U = some b) : Kd K H x U b := ⟨_, .of (.base t), kit_ty h⟩
/-! the program's errors: er 0 LeaveError, 1 NoCommand, 2 NoLetter, 3 NoLetters, 4 NoPlace, 5 NoRow, 6 NoText -/
structure ErrC (K : PySem.W.Frag) (er : Nat → Addr) (i : Nat) : Prop where
  xC : PySem.W.excIn K (er i) [.type "ValueError", .type "Exception", .type "BaseException", .type "object"] "ValueError.__new__" = true
  kC : PySem.W.keepIn K (.ref (er i)) = true
  bC : PySem.W.subIn K (.ref (er i)) (.type "BaseException") = some true
  tC : PySem.W.typeIn K (.ref (er i)) = some (.type "type")
  cC : ExcC K (er i)
  eC : PySem.W.exmOne K (.ref (er i)) (.ref (er 0)) = some true
  vC : PySem.W.kitOne K (.ref (er i)) (.type "ValueError") = some true
  kk : ∀ j, 1 ≤ j → j ≤ 6 → PySem.W.kitOne K (.ref (er i)) (.ref (er j)) = some (decide (i = j))
section
variable {K : PySem.W.Frag}
theorem kit_own {C D : Addr} {b : Bool} (h1 : PySem.W.isClsIn K D = true) (h2 : PySem.W.typeIn K (.ref D) = some (.type "type")) (h3 : PySem.W.subIn K (.ref C) (.ref D) = some b) (h4 : PySem.W.subIn K (.ref C) (.ref C) = some true) : PySem.W.kitOne K (.ref C) (.ref D) = some b := by
  unfold PySem.W.kitOne
  by_cases z : (Value.ref C == Value.ref D) = true
  · rw [if_pos z]
    cases Value.ref.inj (beq_iff_eq.mp z)
    rw [h3] at h4
    exact h4.symm
  · rw [if_neg z]
    show (if ((PySem.W.clsIn K D).isSome && PySem.W.typeIn K (.ref D) == some (.type "type")) = true then _ else _) = _
    rw [if_pos (by rw [show (PySem.W.clsIn K D).isSome = true from h1, h2] <;> rfl)]
    exact h3
theorem kk_of {er : Nat → Addr} {i : Nat} (h1 : PySem.W.kitOne K (.ref (er i)) (.ref (er 1)) = some (decide (i = 1))) (h2 : PySem.W.kitOne K (.ref (er i)) (.ref (er 2)) = some (decide (i = 2))) (h3 : PySem.W.kitOne K (.ref (er i)) (.ref (er 3)) = some (decide (i = 3)))
    (h4 : PySem.W.kitOne K (.ref (er i)) (.ref (er 4)) = some (decide (i = 4))) (h5 : PySem.W.kitOne K (.ref (er i)) (.ref (er 5)) = some (decide (i = 5))) (h6 : PySem.W.kitOne K (.ref (er i)) (.ref (er 6)) = some (decide (i = 6))) : ∀ j, 1 ≤ j → j ≤ 6 → PySem.W.kitOne K (.ref (er i)) (.ref (er j)) = some (decide (i = j))
  | 1, _, _ => h1 | 2, _, _ => h2 | 3, _, _ => h3 | 4, _, _ => h4 | 5, _, _ => h5 | 6, _, _ => h6
  | 0, z, _ => absurd z (by omega)
  | n + 7, _, z => absurd z (by omega)
theorem kit_vE {C : Addr} (h : PySem.W.subIn K (.ref C) (.type "ValueError") = some true) : PySem.W.kitOne K (.ref C) (.type "ValueError") = some true := by
  unfold PySem.W.kitOne
  rw [if_neg (show ¬ (Value.ref C == Value.type "ValueError") = true by intro z; cases beq_iff_eq.mp z)]
  have e : PySem.W.kitMeta "ValueError" = true := by decide +kernel
  unfold PySem.W.kitCls
  simp only [e, if_true]
  exact h
end
section
variable {K : PySem.W.Frag} {er : Nat → Addr} {i : Nat} {a : Addr} {H : Hp} {Q : VK}
theorem i_er {j : Nat} (Z : ErrC K er i) (e : H a = some (CgO (.ref (er i)) a)) (h1 : 1 ≤ j) (h2 : j ≤ 6) (q : Q (.bl (decide (i = j))) H) : rIs1 K [.ref a, .ref (er j)] H Q := ⟨_, _, _, _, _, rfl, .own _, .exc e (.own Z.cC), Z.kk j h1 h2, q⟩
theorem i_erV (Z : ErrC K er i) (e : H a = some (CgO (.ref (er i)) a)) (q : Q (.bl true) H) : rIs1 K [.ref a, .ty "ValueError"] H Q := ⟨_, _, _, _, _, rfl, .ty _, .exc e (.own Z.cC), Z.vC, q⟩
theorem i_tryAx {c : Value} {n : Nat} {tb : WX → TS} {ts : TS} {D : Ends} {σ : L2.St} (h : tb (wAx K c n ts D) D σ H) : tTryAx K c n tb ts D σ H := h
theorem wAx_er {n : Nat} {ts : TS} {D : Ends} {σ : L2.St} (Z : ErrC K er i) (h : ∀ a H', H a = none → Same H H' → H' a = some (CgO (.ref (er i)) a) →
    ts { nx := fun σ' H' => D.nx (σ'.set n none) H', rt := D.rt, bk := fun σ' H' => D.bk (σ'.set n none) H', ct := fun σ' H' => D.ct (σ'.set n none) H' } (σ.set n (some (.ref a))) H') : wAx K (.ref (er 0)) n ts D (.ref (er i)) none σ H :=
  ⟨Z.eC, rfl, fun a na => h a _ na (same_new na) upd_same⟩
end
end Lv

set_option Elab.async false
set_option linter.all false
set_option maxRecDepth 100000
set_option maxHeartbeats 2000000
/-! things that are no place, no row -/
namespace Lv
open PySem PySem.Spec PyProof.Rows L2 SX
/-- what is no whole number below n -/
def BadPl (K : PySem.W.Frag) (H : Hp) (n : Nat) (x : V) : Prop := (∃ i : Int, x = .int i ∧ ¬ (0 ≤ i ∧ i < n)) ∨ (∃ b, x = .bl b) ∨ Kd K H x "int" false
theorem BadPl.same {K : PySem.W.Frag} {H H' : Hp} {n : Nat} {x : V} (h : BadPl K H n x) (s : Same H H') : BadPl K H' n x := h.imp id (·.imp id (·.same s))
/-- isinstance(x, int), isinstance(x, bool), as a whole: not both right -/
theorem BadPl.kd {K : PySem.W.Frag} {H : Hp} {n : Nat} {x : V} (h : BadPl K H n x) : (Kd K H x "int" false) ∨ (Kd K H x "int" true ∧ Kd K H x "bool" true) ∨ (∃ i : Int, x = .int i ∧ ¬ (0 ≤ i ∧ i < n)) := by
  rcases h with h | ⟨b, rfl⟩ | h
  · exact .inr (.inr h)
  · exact .inr (.inl ⟨kd_of (.bl b) (by decide +kernel), kd_of (.bl b) (by decide +kernel)⟩)
  · exact .inl h
section
variable {K : PySem.W.Frag} {H : Hp} {n : Nat}
theorem bad_int {i : Int} (h : ¬ (0 ≤ i ∧ i < n)) : BadPl K H n (.int i) := .inl ⟨i, rfl, h⟩
end
/-! plain data told twice -/
theorem sqT_same {K : PySem.W.Frag} {H H' : Hp} {a : Addr} {xs : List V} (s : Same H H') (h : SqT K H a xs) : SqT K H' a xs := by
  rcases h with (h | ⟨o, h⟩) | h
  · exact .inl (.inl (s _ _ h))
  · exact .inl (.inr ⟨o, s _ _ h⟩)
  · exact .inr h
mutual
theorem Dp.same {K : PySem.W.Frag} {H H' : Hp} (s : Same H H') : ∀ {x : V} {d : PyData}, Dp K H x d → Dp K H' x d
  | _, _, .non => .non
  | _, _, .bl b => .bl b
  | _, _, .int i => .int i
  | _, _, .str x => .str x
  | _, _, .lst h a => .lst (s.seq h) (DpAll.same s a)
  | _, _, .tup h a => .tup (sqT_same s h) (DpAll.same s a)
theorem DpAll.same {K : PySem.W.Frag} {H H' : Hp} (s : Same H H') : ∀ {xs : List V} {ds : List PyData}, DpAll K H xs ds → DpAll K H' xs ds
  | _, _, .nil => .nil
  | _, _, .cons a b => .cons (Dp.same s a) (DpAll.same s b)
end
/-- lists of lists of numbers -/
def llD (xss : List (List Nat)) : PyData := .list (xss.map dNats)
theorem dp_nats {K : PySem.W.Frag} {H : Hp} {p : Addr} {ns : List Nat} (h : H p = some (.lst (ns.map iv))) : Dp K H (.ref p) (dNats ns) := by
  rw [ivs] at h
  exact .lst (SqL.of1 h) (dp_ints _)
theorem dp_llAll {K : PySem.W.Frag} {H : Hp} : ∀ {ps : List Addr} {xss : List (List Nat)}, Paired (fun p o => H p = some o) ps (xss.map fun ns => HO.lst (ns.map iv)) → DpAll K H (ps.map V.ref) (xss.map dNats)
  | [], [], .nil => .nil
  | _ :: _, _ :: _, .cons h r => .cons (dp_nats h) (dp_llAll r)
theorem dp_ll {K : PySem.W.Frag} {H : Hp} {D : Addr} {ps : List Addr} {xss : List (List Nat)} (hD : H D = some (.lst (ps.map V.ref))) (h : Paired (fun p o => H p = some o) ps (xss.map fun ns => HO.lst (ns.map iv))) : Dp K H (.ref D) (llD xss) := .lst (SqL.of1 hD) (dp_llAll h)
/-- a list of lists of numbers, at D, its lists at ps -/
def TL (H : Hp) (D : Addr) (ps : List Addr) (xss : List (List Nat)) : Prop := H D = some (.lst (ps.map V.ref)) ∧ Paired (fun p o => H p = some o) ps (xss.map fun ns => HO.lst (ns.map iv))
theorem TL.dp {K : PySem.W.Frag} {H : Hp} {D : Addr} {ps : List Addr} {xss : List (List Nat)} (h : TL H D ps xss) : Dp K H (.ref D) (llD xss) := dp_ll h.1 h.2
theorem TL.same {H H' : Hp} {D : Addr} {ps : List Addr} {xss : List (List Nat)} (h : TL H D ps xss) (s : Same H H') : TL H' D ps xss := ⟨s _ _ h.1, paired_imp h.2 fun a _ o z => s _ _ z⟩
theorem TL.but {H H' : Hp} {D : Addr} {ps : List Addr} {xss : List (List Nat)} {k : Addr} (h : TL H D ps xss) (s : But k H H') (n1 : D ≠ k) (n2 : ∀ p ∈ ps, p ≠ k) : TL H' D ps xss := ⟨s.at h.1 n1, paired_imp h.2 fun a ha o z => s.at z (n2 a ha)⟩
end Lv

set_option Elab.async false
set_option linter.all false
set_option maxRecDepth 100000
set_option maxHeartbeats 2000000
/-! text.upper() of small letters, tuple(text), str(number) -/
namespace Lv
open PySem PySem.Spec PyProof.Rows L2 SX
theorem up_one : ∀ k, k < 26 → Unicode.upperOf (97 + k) = [65 + k] := by decide +kernel
def upL (l : List Nat) : List Nat := l.map fun c => c - 32
theorem upper_S {l : List Nat} (h : Low l) : Txt.upper (S l) = S (upL l) := by
  have e : (Array.mapIdx (fun (_ : Nat) c => (Unicode.upperOf c).toArray) l.toArray).flatten = (upL l).toArray := by
    apply Array.ext'
    rw [Array.toList_flatten, Array.toList_mapIdx]
    show (List.map Array.toList (List.mapIdx (fun (_ : Nat) c => (Unicode.upperOf c).toArray) l)).flatten = upL l
    induction l with
    | nil => rfl
    | cons c l ih =>
      have hc := h c List.mem_cons_self
      have e1 : Unicode.upperOf c = [c - 32] := by
        have := up_one (c - 97) (by omega)
        rw [show 97 + (c - 97) = c by omega, show 65 + (c - 97) = c - 32 by omega] at this
        exact this
      rw [List.mapIdx_cons, List.map_cons, List.flatten_cons, e1]
      show [c - 32] ++ _ = (c - 32) :: upL l
      rw [List.singleton_append]
      congr 1
      exact ih fun d hd => h d (List.mem_cons_of_mem _ hd)
  show (⟨placed (S l) fun _ c => Unicode.upperOf c⟩ : Str) = S (upL l)
  unfold placed
  exact congrArg Str.mk e
def rStrI : List V → Hp → VK → Prop := fun xs H Q => ∃ i : Int, xs = [.int i] ∧ i.natAbs.log2 < 1920 ∧ Q (.str (toString i)) H
section
variable {X : Cx}
theorem call_strI : CallR X (.type "str") rStrI := fun pins s σ H xs us Q I r h => call_str_int pins s σ H xs us Q I r h
end
end Lv

set_option Elab.async false
set_option linter.all false
set_option maxRecDepth 100000
set_option maxHeartbeats 2000000
/-! numbers as texts, a text parted at blanks -/
namespace Lv
open PySem PySem.Spec PyProof.Rows L2 SX
/-- the words of a text -/
def wds (a : List Nat) : List (List Nat) := TL.spl [32] 0 [] a
def rSplit1 : V → List V → Hp → VK → Prop := fun x xs H Q => ∃ a : List Nat, x = .str (S a) ∧ xs = [.str (S [32])] ∧ a.length ≤ 900000 ∧ ∀ p, H p = none → Q (.ref p) (upd H p (.lst ((wds a).map vs)))
def rIntS : List V → Hp → VK → Prop := fun xs H Q => ∃ a : List Nat, xs = [.str (S a)] ∧ NumText.AllDigits a ∧ a ≠ [] ∧ a.length ≤ 640 ∧ Q (.int ((NumText.digitsVal a : Nat) : Int)) H
section
variable {X : Cx}
theorem mt_split1 : MtR X "str.split" rSplit1 := by
  intro pins s σ H x xs v us Q I rx r h
  obtain ⟨a, rfl, rfl, hl, q⟩ := h
  refine mt_split pins s σ H _ _ v us Q I rx r ⟨_, _, rfl, rfl, by decide, le_line (by rw [S_len]; omega), fun p np => ?_⟩
  rw [split_S (by decide) (by decide), List.map_map]
  exact q p np
theorem call_intS : CallR X (.type "int") rIntS := by
  intro pins s σ H xs us Q I r h
  obtain ⟨a, rfl, hd, hn, hl, q⟩ := h
  exact call_int_str pins s σ H _ us Q I r ⟨S a, _, rfl, int_S (List.all_eq_true.mpr fun c hc => by rw [Bool.and_eq_true, decide_eq_true_eq, decide_eq_true_eq]; exact hd c hc) hn (by omega), by rw [S_len]; exact hl, q⟩
end
theorem v_split1 {a : List Nat} {H : Hp} {Q : VK} (hl : a.length ≤ 900000) (h : ∀ p H2, H p = none → Same H H2 → H2 p = some (.lst ((wds a).map vs)) → Q (.ref p) H2) : rSplit1 (.str (S a)) [.str (S [32])] H Q := ⟨a, rfl, rfl, hl, fun p n => h p _ n (same_new n) upd_same⟩
theorem i_intS {a : List Nat} {H : Hp} {Q : VK} (hd : NumText.AllDigits a) (hn : a ≠ []) (hl : a.length ≤ 640) (q : Q (.int ((NumText.digitsVal a : Nat) : Int)) H) : rIntS [.str (S a)] H Q := ⟨a, rfl, hd, hn, hl, q⟩
theorem i_strN {n : Nat} {H : Hp} {Q : VK} (hn : n < 10 ^ 500) (q : Q (.str (S (TL.numL n))) H) : rStrI [.int (n : Nat)] H Q := by
  refine ⟨_, rfl, ?_, ?_⟩
  · rw [Int.natAbs_natCast]
    by_cases z : n = 0
    · subst z; decide
    · exact (Nat.log2_lt z).mpr (Nat.lt_trans hn (by decide))
  · rw [← num_S] at q
    exact q
/-- numbers written -/
def wrt (ns : List Nat) : List Nat := if ns = [] then [45] else TL.joinL [32] (ns.map TL.numL)
theorem wds_wrt {ns : List Nat} (h : ns ≠ []) : wds (TL.joinL [32] (ns.map TL.numL)) = ns.map TL.numL := by
  unfold wds
  refine TL.spl_join (by simpa using h) fun p hp => ?_
  obtain ⟨n, _, rfl⟩ := List.mem_map.mp hp
  exact TL.numL_free (.inl (by decide))
theorem join_len : ∀ (ps : List (List Nat)), (TL.joinL [32] ps).length ≤ (ps.map List.length).sum + ps.length
  | [] => by simp [TL.joinL]
  | [p] => by simp [TL.joinL]
  | p :: r :: ps => by
    have ih := join_len (r :: ps)
    simp only [TL.joinL, List.length_append, List.map_cons, List.sum_cons, List.length_cons, List.length_nil] at ih ⊢
    omega
theorem sum_len {ps : List (List Nat)} {k : Nat} (h : ∀ p ∈ ps, p.length ≤ k) : (ps.map List.length).sum ≤ ps.length * k := by
  induction ps with
  | nil => simp
  | cons p ps ih =>
    have h1 := h p List.mem_cons_self
    have h2 := ih fun q hq => h q (List.mem_cons_of_mem _ hq)
    simp only [List.map_cons, List.sum_cons, List.length_cons, Nat.add_mul, Nat.one_mul]
    omega
/-- a number's text begins with 0 just where it is 0's -/
theorem numL_head : ∀ n : Nat, (TL.numL n).head? = some 48 → TL.numL n = [48] := by
  intro n
  induction n using Nat.strongRecOn with
  | ind n ih =>
    intro h
    by_cases z : n < 10
    · rw [TL.numL_lt z] at h ⊢
      simp at h
      rw [h]
    · rw [TL.numL_step (by omega)] at h
      have hn := TL.numL_ne (n / 10)
      rw [List.head?_append, (List.head?_eq_some_head hn)] at h
      have h : (TL.numL (n / 10)).head? = some 48 := by rw [List.head?_eq_some_head hn]; simpa using h
      have e := ih (n / 10) (by omega) h
      have e2 : n / 10 = 0 := TL.numL_inj (e.trans (TL.numL_lt (by decide : 0 < 10)).symm)
      omega
end Lv

set_option Elab.async false
set_option linter.all false
set_option maxRecDepth 100000
set_option maxHeartbeats 2000000
/-! repr of plain things, dicts of whole numbers too -/
namespace Lv
open PySem PySem.Spec PyProof.Rows L2 SX
/-- data that can be shown: so heavy, so deep at most -/
structure Fn (w k : Nat) (d : PyData) : Prop where
  sh : d.showable = true
  lv : d.leavesShort 1921 = true
  wt : d.weight ≤ w
  dp : d.depth ≤ k
theorem Fn.mono {w k w' k' : Nat} {d : PyData} (h : Fn w k d) (h1 : w ≤ w') (h2 : k ≤ k') : Fn w' k' d := ⟨h.sh, h.lv, Nat.le_trans h.wt h1, Nat.le_trans h.dp h2⟩
theorem fn_non {w k : Nat} : Fn w k .none := ⟨rfl, rfl, by simp [PyData.weight], by simp [PyData.depth]⟩
theorem fn_bl {w k : Nat} {b : Bool} : Fn w k (.bool b) := ⟨rfl, rfl, by simp [PyData.weight], by simp [PyData.depth]⟩
theorem fn_int {w k : Nat} {i : Int} (h : i.natAbs.log2 < w) (hw : w ≤ 1920) : Fn w k (.int i) := by
  refine ⟨?_, ?_, ?_, by simp [PyData.depth]⟩
  · show decide (i.natAbs.log2 < 1920) = true
    exact decide_eq_true (by omega)
  · show decide ((PyData.shown (.int i)).length ≤ 1921) = true
    refine decide_eq_true ?_
    have := int_text_len_1921 (i := i) (by omega)
    exact this
  · rw [PyData.weight]
    split <;> omega
theorem fn_str {w k : Nat} {l : List Nat} (h : Chr l) (hl : l.length ≤ w) : Fn w k (.str (S l)) := by
  refine ⟨rfl, ?_, ?_, by simp [PyData.depth]⟩
  · show ((S l).cps.toList.all fun c => decide (c < 16 ^ 8)) = true
    rw [List.all_eq_true]
    intro c hc
    have := h c hc
    exact decide_eq_true (by omega)
  · rw [PyData.weight]
    simpa using hl
def keyD : Key → PyData
  | .inl i => .int i
  | .inr x => .str x
def dkD (ks : List (Key × Int)) : PyData := .dict (ks.map fun p => (keyD p.1, .int p.2))
theorem fn_dk {w : Nat} : ∀ {ks : List (Key × Int)}, (∀ p ∈ ks, Fn w 0 (keyD p.1) ∧ Fn w 0 (.int p.2)) → PyData.showableKv (ks.map fun p => (keyD p.1, PyData.int p.2)) = true ∧ PyData.leavesShortKv 1921 (ks.map fun p => (keyD p.1, PyData.int p.2)) = true ∧
    PyData.weightKv (ks.map fun p => (keyD p.1, PyData.int p.2)) ≤ ks.length * (2 * w + 2) ∧ PyData.depthKv (ks.map fun p => (keyD p.1, PyData.int p.2)) ≤ 0
  | [], _ => ⟨rfl, rfl, by simp [PyData.weightKv], by simp [PyData.depthKv]⟩
  | p :: ks, h => by
    obtain ⟨⟨a1, a2, a3, a4⟩, ⟨c1, c2, c3, c4⟩⟩ := h p List.mem_cons_self
    obtain ⟨b1, b2, b3, b4⟩ := fn_dk fun e he => h e (List.mem_cons_of_mem _ he)
    refine ⟨by rw [List.map_cons, PyData.showableKv, a1, b1, c1]; rfl, by rw [List.map_cons, PyData.leavesShortKv, a2, b2, c2]; rfl, ?_, ?_⟩
    · rw [List.map_cons, PyData.weightKv, List.length_cons, Nat.add_mul, Nat.one_mul]
      omega
    · rw [List.map_cons, PyData.depthKv]
      omega
theorem fn_dict {w : Nat} {ks : List (Key × Int)} (h : ∀ p ∈ ks, Fn w 0 (keyD p.1) ∧ Fn w 0 (.int p.2)) : Fn (ks.length * (2 * w + 2)) 1 (dkD ks) := by
  obtain ⟨a1, a2, a3, a4⟩ := fn_dk h
  exact ⟨by unfold dkD; rw [PyData.showable]; exact a1, by unfold dkD; rw [PyData.leavesShort]; exact a2, by unfold dkD; rw [PyData.weight]; exact a3, by unfold dkD; rw [PyData.depth]; omega⟩
/-- a thing's data -/
inductive RX (K : PySem.W.Frag) (H : Hp) : V → PyData → Prop where
  | dp {v : V} {d : PyData} (h : Dp K H v d) (n : d.hasDict = false) : RX K H v d
  | dk {a : Addr} {ks : List (Key × Int)} (h : H a = some (.dK (ks.map fun p => (p.1, .int p.2)))) : RX K H (.ref a) (dkD ks)
theorem RX.same {K : PySem.W.Frag} {H H' : Hp} {v : V} {d : PyData} (h : RX K H v d) (s : Same H H') : RX K H' v d := by
  cases h with
  | dp h n => exact .dp (Dp.same s h) n
  | dk h => exact .dk (s _ _ h)
section
variable {X : Cx}
end
/-- a thing that can be shown -/
def Shw (K : PySem.W.Frag) (H : Hp) (v : V) : Prop := ∃ d, RX K H v d ∧ Fn 8000 20 d
section
variable {K : PySem.W.Frag} {H : Hp}
theorem sw_non : Shw K H .non := ⟨_, .dp .non rfl, fn_non⟩
theorem sw_bl {b : Bool} : Shw K H (.bl b) := ⟨_, .dp (.bl b) rfl, fn_bl⟩
theorem sw_int {i : Int} (h : i.natAbs.log2 < 1920) : Shw K H (.int i) := ⟨_, .dp (.int i) rfl, (fn_int (k := 0) h (by decide)).mono (by decide) (by decide)⟩
theorem nodict_strs : ∀ ls : List (List Nat), PyData.hasDictAll (ls.map fun l => PyData.str (S l)) = false
  | [] => rfl
  | l :: ls => by rw [List.map_cons, PyData.hasDictAll, nodict_strs ls]; rfl
theorem dp_txts : ∀ ls : List (List Nat), DpAll K H (ls.map vs) (ls.map fun l => PyData.str (S l))
  | [] => .nil
  | _ :: ls => .cons (.str _) (dp_txts ls)
theorem sw_dK0 {a : Addr} (h : H a = some (.dK [])) : Shw K H (.ref a) := ⟨_, .dk (ks := []) h, (fn_dict (w := 0) (ks := []) fun _ z => (nomatch z)).mono (by decide) (by decide)⟩
theorem Shw.same {H' : Hp} {v : V} (h : Shw K H v) (s : Same H H') : Shw K H' v := h.imp fun _ z => ⟨z.1.same s, z.2⟩
end
/-! ASCII texts -/
def Asc (l : List Nat) : Prop := ∀ c ∈ l, c < 128
theorem Asc.chr {l : List Nat} (h : Asc l) : Chr l := fun c hc => by have := h c hc; omega
theorem Asc.app {a b : List Nat} (h : Asc a) (k : Asc b) : Asc (a ++ b) := fun c hc => (List.mem_append.mp hc).elim (h c) (k c)
theorem Asc.sub {a b : List Nat} (h : Asc b) (k : ∀ c ∈ a, c ∈ b) : Asc a := fun c hc => h c (k c hc)
theorem Asc.one {c : Nat} (h : c < 128) : Asc [c] := fun d hd => by rw [List.mem_singleton.mp hd]; exact h
theorem up1_lt : ∀ c, c < 128 → PyProof.Rows.up1 c < 128 := by decide
def upA (l : List Nat) : List Nat := l.map PyProof.Rows.up1
theorem upA_asc {l : List Nat} (h : Asc l) : Asc (upA l) := fun c hc => by
  obtain ⟨d, hd, rfl⟩ := List.mem_map.mp hc
  exact up1_lt d (h d hd)
def rUpA : V → List V → Hp → VK → Prop := fun x xs H Q => ∃ l : List Nat, x = .str (S l) ∧ xs = [] ∧ l.length ≤ 100000 ∧ Asc l ∧ Q (.str (S (upA l))) H
theorem mt_upperA {X : Cx} : MtR X "str.upper" rUpA := by
  intro pins s σ H x xs v us Q I rx r h
  obtain ⟨l, rfl, rfl, hl, as, q⟩ := h
  refine mt_upper pins s σ H _ _ v us Q I rx r ⟨_, rfl, rfl, by rw [S_len]; omega, ?_⟩
  rw [SX.upper_S (List.all_eq_true.mpr fun c hc => decide_eq_true (as c hc))]
  exact q
theorem i_upperA {l : List Nat} {H : Hp} {Q : VK} (hl : l.length ≤ 100000) (as : Asc l) (q : Q (.str (S (upA l))) H) : rUpA (.str (S l)) [] H Q := ⟨l, rfl, rfl, hl, as, q⟩
/-- texts in a list, not too many -/
def Gd (ls : List (List Nat)) : Prop := (∀ l ∈ ls, Asc l) ∧ (ls.map List.length).sum + ls.length ≤ 7000
theorem wt_txts : ∀ ls : List (List Nat), (∀ l ∈ ls, Asc l) → PyData.showableAll (ls.map fun l => PyData.str (S l)) = true ∧ PyData.leavesShortAll 1921 (ls.map fun l => PyData.str (S l)) = true ∧ PyData.weightAll (ls.map fun l => PyData.str (S l)) ≤ (ls.map List.length).sum + ls.length ∧ PyData.depthAll (ls.map fun l => PyData.str (S l)) ≤ 0
  | [], _ => ⟨rfl, rfl, by simp [PyData.weightAll], by simp [PyData.depthAll]⟩
  | l :: ls, h => by
    obtain ⟨a1, a2, a3, a4⟩ := fn_str (w := l.length) (k := 0) (h l List.mem_cons_self).chr (Nat.le_refl _)
    obtain ⟨b1, b2, b3, b4⟩ := wt_txts ls fun e he => h e (List.mem_cons_of_mem _ he)
    refine ⟨by rw [List.map_cons, PyData.showableAll, a1, b1]; rfl, by rw [List.map_cons, PyData.leavesShortAll, a2, b2]; rfl, ?_, ?_⟩
    · rw [List.map_cons, PyData.weightAll, List.map_cons, List.sum_cons, List.length_cons]
      omega
    · rw [List.map_cons, PyData.depthAll]
      omega
/-- a thing that is no text, of plain data -/
def OdX (H : Hp) (x : V) : Prop := x = .non ∨ (∃ i : Int, x = .int i ∧ i.natAbs.log2 < 1000) ∨ (∃ b, x = .bl b) ∨ ∃ a, x = .ref a ∧ ((∃ ls, H a = some (.lst (ls.map vs)) ∧ Gd ls) ∨ (∃ ls, H a = some (.tup (ls.map vs)) ∧ Gd ls) ∨ H a = some (.dK []) ∨ ∃ l, H a = some (.dK [(.inr (S l), .int 1)]) ∧ Asc l ∧ l.length ≤ 3500)
theorem OdX.kd {K : PySem.W.Frag} {H : Hp} {x : V} (h : OdX H x) : Kd K H x "str" false := by
  rcases h with rfl | ⟨i, rfl, _⟩ | ⟨b, rfl⟩ | ⟨a, rfl, ⟨xs, h, _⟩ | ⟨xs, h, _⟩ | h | ⟨l, h, _⟩⟩
  · exact kd_of .non (by decide +kernel)
  · exact kd_of (.int i) (by decide +kernel)
  · exact kd_of (.bl b) (by decide +kernel)
  · exact kd_of (.lst h) (by decide +kernel)
  · exact kd_of (.tup h) (by decide +kernel)
  · exact kd_of (.dK h) (by decide +kernel)
  · exact kd_of (.dK h) (by decide +kernel)
theorem OdX.sw {K : PySem.W.Frag} {H : Hp} {x : V} (h : OdX H x) : Shw K H x := by
  rcases h with rfl | ⟨i, rfl, hi⟩ | ⟨b, rfl⟩ | ⟨a, rfl, ⟨ls, h, g1, g2⟩ | ⟨ls, h, g1, g2⟩ | h | ⟨l, h, g1, g2⟩⟩
  · exact sw_non
  · exact sw_int (by omega)
  · exact sw_bl
  · obtain ⟨a1, a2, a3, a4⟩ := wt_txts ls g1
    exact ⟨_, .dp (.lst (SqL.of1 h) (dp_txts ls)) (by rw [PyData.hasDict]; exact nodict_strs ls), by rw [PyData.showable]; exact a1, by rw [PyData.leavesShort]; exact a2, by rw [PyData.weight]; omega, by rw [PyData.depth]; omega⟩
  · obtain ⟨a1, a2, a3, a4⟩ := wt_txts ls g1
    exact ⟨_, .dp (.tup (SqT.of1 h) (dp_txts ls)) (by rw [PyData.hasDict]; exact nodict_strs ls), by rw [PyData.showable]; exact a1, by rw [PyData.leavesShort]; exact a2, by rw [PyData.weight]; omega, by rw [PyData.depth]; omega⟩
  · exact sw_dK0 h
  · exact ⟨_, .dk (ks := [(.inr (S l), 1)]) h, (fn_dict (w := 3500) fun p hp => by rw [List.mem_singleton.mp hp]; exact ⟨fn_str g1.chr g2, (fn_int (w := 1) (k := 0) (show (1 : Int).natAbs.log2 < 1 by decide) (by decide)).mono (by decide) (by decide)⟩).mono (show 1 * (2 * 3500 + 2) ≤ 8000 by decide) (by decide)⟩
theorem OdX.keep {H H' : Hp} {x : V} (h : OdX H x) (s : ∀ a o, x = .ref a → H a = some o → H' a = some o) : OdX H' x := by
  rcases h with h | h | h | ⟨a, e, h⟩
  · exact .inl h
  · exact .inr (.inl h)
  · exact .inr (.inr (.inl h))
  · refine .inr (.inr (.inr ⟨a, e, ?_⟩))
    rcases h with ⟨ls, h, g⟩ | ⟨ls, h, g⟩ | h | ⟨l, h, g⟩
    · exact .inl ⟨ls, s _ _ e h, g⟩
    · exact .inr (.inl ⟨ls, s _ _ e h, g⟩)
    · exact .inr (.inr (.inl (s _ _ e h)))
    · exact .inr (.inr (.inr ⟨l, s _ _ e h, g⟩))
theorem OdX.same {H H' : Hp} {x : V} (h : OdX H x) (s : Same H H') : OdX H' x := h.keep fun a o _ e => s _ _ e
theorem OdX.hd {H H' : Hp} {x : V} {k : Addr} (h : OdX H x) (hk : Hd H k) (s : But k H H') : OdX H' x := by
  refine OdX.keep h fun a o e q => s _ _ (fun z => ?_) q
  subst z
  obtain ⟨d, m, hk, _⟩ := hk
  rcases h with h | ⟨i, h, _⟩ | ⟨b, h⟩ | ⟨a, e2, h⟩
  · rw [e] at h; cases h
  · rw [e] at h; cases h
  · rw [e] at h; cases h
  · rw [e] at e2
    cases e2
    rcases h with ⟨ls, h, _⟩ | ⟨ls, h, _⟩ | h | ⟨l, h, _⟩
    · rw [hk] at h
      have h := HO.lst.inj (Option.some.inj h)
      cases ls with
      | nil => cases h
      | cons l ls => cases h
    · rw [hk] at h; cases h
    · rw [hk] at h; cases h
    · rw [hk] at h; cases h
section
variable {H : Hp}
end
end Lv

set_option Elab.async false
set_option linter.all false
set_option maxRecDepth 100000
set_option maxHeartbeats 2000000
/-! try .. except (A, B): a clause of two classes -/
namespace Lv
open PySem PySem.Spec PyProof.Rows L2 SX
section
variable {X : Cx} {x1 x2 : Str} {c1 c2 : Value} {body suite : List Stmt} {b₀ : Stmt} {np1 np2 tpos pos pos' : Pos} {kk : Nat} {tb : WX → TS} {ts : TS}
end
section
variable {K : PySem.W.Frag} {er : Nat → Addr} {i j : Nat}
theorem exc_self {C : Addr} {l : List Value} {n : String} (h : PySem.W.excIn K C l n = true) : PySem.W.subIn K (.ref C) (.ref C) = some true := by
  unfold PySem.W.excIn at h
  show PySem.W.mroIn K C (.ref C) = some true
  unfold PySem.W.mroIn PySem.W.clsIn
  split at h
  · rename_i d cd sl e
    rw [e]
    split at h
    · rename_i C' bm z1 z2 z3 z4 n' z5 em es
      simp only [Bool.and_eq_true, beq_iff_eq] at h
      have : C' = C := h.1.1.1.1.1
      subst this
      show (if cd.mro.isEmpty then none else some (cd.mro.contains (.ref C'))) = some true
      rw [em]
      simp
    · cases h
  · cases h
theorem exm_er (Zi : ErrC K er i) (Zj : ErrC K er j) (h1 : 1 ≤ j) (h2 : j ≤ 6) : PySem.W.exmOne K (.ref (er i)) (.ref (er j)) = some (decide (i = j)) := by
  by_cases e : i = j
  · subst e
    rw [decide_eq_true rfl]
    exact PySem.W.exm_ref Zi.bC Zi.cC.hd Zi.tC (exc_self Zi.xC)
  · have k := Zi.kk j h1 h2
    rw [decide_eq_false e] at k ⊢
    unfold PySem.W.kitOne at k
    split at k
    · cases k
    · unfold PySem.W.exmOne
      rw [if_pos (by rw [Zj.bC]; rfl)]
      exact k
end
end Lv

set_option Elab.async false
set_option linter.all false
set_option maxRecDepth 100000
set_option maxHeartbeats 2000000
/-! a list comprehension whose element may raise -/
namespace Lv
open PySem PySem.Spec PyProof.Rows L2 SX
section
variable {X : Cx} {pins : List (Addr × Obj)} {σ : L2.St} {H : Hp} {s s' : Shared} {C : Addr} {oC : Obj} {ce : Env} {E : XK} {u : Value} {m : Str → Option Value} {E1 : Value → Shared → Prop}
end
section
variable {X : Cx}
end
theorem pre1 (c : Nat) (r : List Nat) : TL.pre [32] (c :: r) = decide (c = 32) := by
  by_cases h : c = 32
  · subst h; simp [TL.pre]
  · rw [decide_eq_false h]
    simp [TL.pre]
    exact fun z => h z
theorem spl_bound : ∀ (l acc : List Nat), (TL.spl [32] 0 acc l).length ≤ l.length + 1 ∧ ∀ w ∈ TL.spl [32] 0 acc l, w.length ≤ acc.length + l.length ∧ ∀ c ∈ w, c ∈ acc ∨ c ∈ l
  | [], acc => by
    rw [TL.spl_nil]
    exact ⟨by simp, fun w hw => by rw [List.mem_singleton.mp hw]; exact ⟨by simp, fun c hc => .inl hc⟩⟩
  | c :: r, acc => by
    by_cases h : c = 32
    · rw [TL.spl_hit (by rw [pre1]; exact decide_eq_true h)]
      obtain ⟨h1, h2⟩ := spl_bound r []
      refine ⟨by simp only [List.length_cons, List.length_nil]; show (TL.spl [32] 0 [] r).length + 1 ≤ _; omega, fun w hw => ?_⟩
      rcases List.mem_cons.mp hw with e | e
      · rw [e]
        exact ⟨by omega, fun d hd => .inl hd⟩
      · obtain ⟨z1, z2⟩ := h2 w e
        refine ⟨by rw [List.length_cons]; simp at z1; omega, fun d hd => .inr ?_⟩
        rcases z2 d hd with y | y
        · cases y
        · exact List.mem_cons_of_mem _ y
    · rw [TL.spl_miss (by rw [pre1]; exact decide_eq_false h)]
      obtain ⟨h1, h2⟩ := spl_bound r (acc ++ [c])
      refine ⟨by rw [List.length_cons]; omega, fun w hw => ?_⟩
      obtain ⟨z1, z2⟩ := h2 w hw
      refine ⟨by rw [List.length_cons]; rw [List.length_append] at z1; simp at z1; omega, fun d hd => ?_⟩
      rcases z2 d hd with y | y
      · rcases List.mem_append.mp y with x | x
        · exact .inl x
        · rw [List.mem_singleton.mp x]; exact .inr List.mem_cons_self
      · exact .inr (List.mem_cons_of_mem _ y)
theorem wds_len (a : List Nat) : (wds a).length ≤ a.length + 1 := (spl_bound a []).1
theorem wds_le {a w : List Nat} (h : w ∈ wds a) : w.length ≤ a.length := by have := ((spl_bound a []).2 w h).1; simpa using this
section
variable {K : PySem.W.Frag} {g : TG} {tt : TT} {te : TE} {vs : List Nat} {σ : L2.St} {H : Hp} {Q : VK}
end
end Lv

set_option Elab.async false
set_option linter.all false
set_option maxRecDepth 100000
set_option maxHeartbeats 2000000
/-! repr of lists with odd things in them, dict(enumerate(list)), str(list), sums and compares of odd things -/
namespace Lv
open PySem PySem.Spec PyProof.Rows L2 SX
/-- data that can be shown, whole numbers however long -/
structure Fm (w k : Nat) (d : PyData) : Prop where
  sh : d.showable = true
  lv : d.leavesShort 1921 = true
  wt : d.bulk ≤ w
  dp : d.depth ≤ k
theorem Fm.mono {w k w' k' : Nat} {d : PyData} (h : Fm w k d) (h1 : w ≤ w') (h2 : k ≤ k') : Fm w' k' d := ⟨h.sh, h.lv, Nat.le_trans h.wt h1, Nat.le_trans h.dp h2⟩
theorem Fm.size {d : PyData} (h : Fm 8000 20 d) : d.shown.length ≤ sizeLine := by
  have h1 := PyData.shown_le_bulk 1921 (by decide) d h.lv
  have h2 := h.wt
  have h3 : (1921 + 2) * d.bulk ≤ (1921 + 2) * 8000 := Nat.mul_le_mul_left _ h2
  rw [sizeLine_eq]
  omega
/-- things' data, each by itself -/
inductive RXs (K : PySem.W.Frag) (H : Hp) : List V → List PyData → Prop where
  | nil : RXs K H [] []
  | cons {v : V} {vs : List V} {d : PyData} {ds : List PyData} (h : RX K H v d) (t : RXs K H vs ds) : RXs K H (v :: vs) (d :: ds)
theorem RXs.same {K : PySem.W.Frag} {H H' : Hp} {vs : List V} {ds : List PyData} (h : RXs K H vs ds) (s : Same H H') : RXs K H' vs ds := by
  induction h with
  | nil => exact .nil
  | cons h t ih => exact .cons (h.same s) ih
section
variable {X : Cx} {pins : List (Addr × Obj)} {σ : L2.St} {H : Hp} {s : Shared}
end
section
variable {X : Cx}
end
/-! dict(enumerate(list)) -/
section
variable {X : Cx} {e : Expr} {te : TE} {p p2 pos pos2 : Pos}
end
end Lv

set_option Elab.async false
set_option linter.all false
set_option maxRecDepth 100000
set_option maxHeartbeats 2000000
/-! raise .. from None in an except suite, several except clauses, f-strings, tuples of texts, instances with two fields -/
namespace Lv
open PySem PySem.Spec PyProof.Rows L2 SX
section
variable {P : Program} {w : World} {K : PySem.W.Frag} {mg : Str → Option Value} {base : Heap}
theorem okN {x qual : Str} {st : Stmt} {f : Addr} {fd : FuncData} {N ps : List Str} {k : Nat} {sp : Sp} (F : Fun K x qual st f fd) (S : FnScope N ps (defScope st)) (len : ∀ vs H Q E, sp vs H Q E → vs.length = ps.length)
    (hbody : ∀ (cdv : Value) (A : Around) (outer : List Env) (s : Shared) (H : Hp) (vs : List V) (Q : VK) (E : XK), Room k (A.deeper (envOfC qual (defScope st) s.heap.objs.size f cdv)) → sp vs H Q E →
      ∃ t, PSs (cxOf (L2N.CX P w) P w K mg base N qual (defScope st) f cdv A outer s H E) (defBody st) t ∧ t { nx := fun _ H' => Q .non H', rt := Q } (start N vs) H) : FnOk P w K mg base (L2N.CX P w) (k + 1) f fd ps sp := by
  obtain ⟨oc, od, kV, doc, pm, an, cdv, ct, osl, rfl, lk, hcd⟩ := F.ex
  exact fn_of lk hcd S len fun A outer s H vs Q E hr hsp => hbody cdv A outer s H vs Q E hr hsp
end
section
variable {X : Cx} {C : Addr} {bmB : List Value} {B newId initId : String}
theorem pmk_own5 {x m : Str} {j : Nat} {p p2 pos : Pos} (F : ExcBaseFacts B newId initId bmB) (q : PySem.W.excIn X.K C bmB newId = true) (gC : X.mg x = some (.ref C)) (kC : PySem.W.keepIn X.K (.ref C) = true) (r : Raises X (.ref C)) (hg : Gl X x)
    (hdb : (x == ("__debug__" : Str)) = false := by decide) : L2H.PMk5 X (.Call (.Name x p) [.Constant (.str m) j p2] [] pos) (fun _ H Q => Q (.ref C) none H) := by
  intro pins s σ H Q I h
  refine wpAny_Call_Name_kw (ld_glob I hg gC ?_ hdb)
  have ha : PA X [.Constant (.str m) j p2] (tCons (tC (.str m)) tNil) := pa_cons pe_str pa_nil
  refine PySem.W.callWith_K (h₀ := X.base) I.ok.mod.kin kC (thn (ha.run pos pins s σ H (fun vs H1 => vs = [V.str m] ∧ H = H1) I ⟨rfl, rfl⟩) fun us s1 hh => ?_)
  obtain ⟨vs, H1, I1, r1, ev, eH⟩ := hh
  subst ev
  rw [← eH] at I1
  refine ⟨I1.kIn, ?_⟩
  cases r1 with
  | cons ru rn =>
    rename_i u us'
    cases rn
    show wpAny _ _ (call (.ref C) [u]) _ _ _
    obtain ⟨bm, N, nm, qn, bs, hdct, sn, sub, ab, col, dd, k0, k1, k2, k3, k5, mN, hC, hN, hni, T⟩ := exc_obj I1.kIn q
    refine wpAny_call_exc_subT F T hC hN hni (fun h' e hm => ?_) (by show 1 ≤ sizeLine; rw [sizeLine_eq]; omega)
    exact L2H.mk_of5 I1 hm r h (I1.hok.gone hm.new)
end
/-- try: .. except x: raise D("..") from None -/
def tTryRN (K : PySem.W.Frag) (c : Value) (D : Addr) (E : XK) (tb : WX → TS) : TS := fun Ds σ H => tb (wOnly K c (fun _ _ _ => fun _ _ H => E (.ref D) none H) (fun cls d _ H => E cls d H) Ds) Ds σ H
theorem i_tryRN {K : PySem.W.Frag} {c : Value} {D : Addr} {E : XK} {tb : WX → TS} {Ds : Ends} {σ : L2.St} {H : Hp} (h : tb (wOnly K c (fun _ _ _ => fun _ _ H => E (.ref D) none H) (fun cls d _ H => E cls d H) Ds) Ds σ H) : tTryRN K c D E tb Ds σ H := h
theorem wOnly_er {K : PySem.W.Frag} {er : Nat → Addr} {i : Nat} {D : Addr} {E : XK} {Ds : Ends} {σ : L2.St} {H : Hp} (Zi : ErrC K er i) (h1 : 1 ≤ i) (h2 : i ≤ 6) (q : E (.ref D) none H) :
    wOnly K (.ref (er i)) (fun _ _ _ => fun _ _ H => E (.ref D) none H) (fun cls d _ H => E cls d H) Ds (.ref (er i)) none σ H := ⟨true, by rw [exm_er Zi Zi h1 h2, decide_eq_true rfl], fun _ _ _ => q, fun z => by cases z⟩
section
variable {X : Cx} {x : Str} {c : Value} {body : List Stmt} {np pos pos' rpos cpos : Pos} {j : Nat} {e : Expr} {D : Addr} {E : XK} {tb : WX → TS}
theorem ps_tryRN (hs : X.stack = X.env :: X.outer) (hf : X.env.frame = some X.env.locals) (hc : Names X x c) (hpa : ∀ hd : Option Value, PassesOwnAt (model X.prog X.w) (X.A.mark hd) X.A X.env X.xe) (tk : L2.Takes X (fun cls d _ H => E cls d H))
    (hb : ∀ (W : WX) (pn : List (Addr × Obj)) (xe : Value → Shared → Prop), L2N.Takes (X.tr pn xe) W → PassesOwn (model X.prog X.w) X.A X.env xe → PSs (X.tr pn xe) body (tb W))
    (hm : ∀ (a : Addr) (oe : Obj) (pn : List (Addr × Obj)), L2H.PMk5 (L2H.suiteX X a ((a, oe) :: pn)) e (fun _ H Q => Q (.ref D) none H)) :
    PS X (.Try body [.ExceptHandler (some (.Name x np)) none [.Raise (some e) (some (.Constant .none j cpos)) rpos] pos'] [] [] pos) (tTryRN X.K c D E tb) :=
  L2H.ps_try_onlyX (Wout := fun cls d _ H => E cls d H) (ts := fun _ _ _ => fun _ _ H => E (.ref D) none H) hs hf hc hpa tk (fun W pn xe t1 t2 po => hb W pn xe t1 po)
    (fun a oe cls d pn hz hv tkS hot => pss_one (L2H.ps_raiseHN hot tkS (hm a oe pn)))
end
/-! several except clauses -/
inductive HdM (X : Cx) : List ExceptHandler → List (Value × TS) → Prop
  | nil : HdM X [] []
  | cons {x : Str} {c : Value} {ts : TS} {b₀ : Stmt} {suite : List Stmt} {np pos' : Pos} {hds : List ExceptHandler} {l : List (Value × TS)} (hc : Names X x c)
      (hsu : ∀ (a : Addr) (oe : Obj) (pn : List (Addr × Obj)), PSs (X.suite a ((a, oe) :: pn)) (b₀ :: suite) ts) (r : HdM X hds l) :
      HdM X (.ExceptHandler (some (.Name x np)) none (b₀ :: suite) pos' :: hds) ((c, ts) :: l)
theorem HdM.ok {X : Cx} {hds : List ExceptHandler} {l : List (Value × TS)} (h : HdM X hds l) : HdsOk X hds (l.map fun p => (p.1, fun _ _ _ => p.2)) := by
  induction h with
  | nil => exact .nil
  | cons hc hsu r ih => exact .cons hc (fun a oe cls d pn _ _ => hsu a oe pn) ih
section
variable {K : PySem.W.Frag} {er : Nat → Addr} {i : Nat} {D : Ends} {σ : L2.St} {H : Hp}
end
/-! f"{number}text" -/
def tFmtN (te : TE) : TE := fun σ H Q => te σ H fun x H1 => ∃ n : Nat, x = .int (n : Nat) ∧ n < 10 ^ 500 ∧ Q (.str (S (TL.numL n))) H1
theorem log_lt {n : Nat} (h : n < 10 ^ 500) : ((n : Nat) : Int).natAbs.log2 < 1920 := by
  rw [Int.natAbs_natCast]
  by_cases z : n = 0
  · subst z; decide
  · exact (Nat.log2_lt z).mpr (Nat.lt_trans h (by decide))
theorem pe_fmtN {X : Cx} {e : Expr} {te : TE} {pos : Pos} (he : PE X e te) : PE X (.FormattedValue e (-1) none pos) (tFmtN te) := by
  refine ⟨fun pins s σ H Q I h => ?_⟩
  refine wpAny_FormattedValue_plain (thn (he.run pins s σ H _ I h) fun v s1 hv => ?_)
  obtain ⟨x, H1, I1, r1, n, rfl, hn, q⟩ := hv
  obtain ⟨t, rfl⟩ := r1
  rw [← num_S] at q
  exact wpAny_formatField_int (log_lt hn) ⟨.str _, H1, I1.tok _, ⟨_, rfl⟩, q⟩
def tFs1 (te : TE) (l : List Nat) : TE := fun σ H Q => tJs [tFmtN te, tC (.str (S l))] Str.empty σ H fun out H1 => Q (.str out) H1
def rFs1 (l : List Nat) (x : V) (σ : L2.St) (H : Hp) (Q : VK) : Prop := ∃ n : Nat, x = .int (n : Nat) ∧ n < 10 ^ 500 ∧ ∃ y : Str, V.str (S (TL.numL n)) = .str y ∧ (Str.empty ++ y).length ≤ sizeLine ∧ tJs [tC (.str (S l))] (Str.empty ++ y) σ H fun out H1 => Q (.str out) H1
theorem i_fs1 {te : TE} {l : List Nat} {σ : L2.St} {H : Hp} {Q : VK} (h : te σ H fun x H1 => rFs1 l x σ H1 Q) : tFs1 te l σ H Q := h
theorem empty_app (x : Str) : Str.empty ++ x = x := by
  show (⟨#[] ++ x.cps⟩ : Str) = x
  rw [Array.empty_append]
theorem x_fs1 {l : List Nat} {n : Nat} {σ : L2.St} {H : Hp} {Q : VK} (hn : n < 10 ^ 500) (hl : (TL.numL n).length + l.length ≤ 1000000) (q : Q (.str (S (TL.numL n ++ l))) H) : rFs1 l (.int (n : Nat)) σ H Q := by
  refine ⟨n, rfl, hn, S (TL.numL n), rfl, ?_, S l, rfl, ?_, ?_⟩
  · rw [empty_app, S_len]; exact le_line (by omega)
  · rw [empty_app, S_cat, S_len, List.length_append]; exact le_line hl
  · show Q (.str (Str.empty ++ S (TL.numL n) ++ S l)) H
    rw [empty_app, S_cat]
    exact q
theorem pe_fs1 {X : Cx} {e : Expr} {te : TE} {p1 p2 pos : Pos} {m : Str} {j : Nat} {l : List Nat} (he : PE X e te) (hm : m = S l) : PE X (.JoinedStr [.FormattedValue e (-1) none p1, .Constant (.str m) j p2] pos) (tFs1 te l) := by
  subst hm
  exact pe_joined (PJ.cons (pe_fmtN he) (PJ.cons pe_str PJ.nil))
/-! a text in a tuple of texts -/
def rInTS (K : PySem.W.Frag) (neg : Bool) : R2 := fun x y H Q => ∃ (m : List Nat) (p : Addr) (ns : List (List Nat)), x = .str (S m) ∧ y = .ref p ∧ SqT K H p (ns.map vs) ∧ Q (.bl (if neg then !decide (m ∈ ns) else decide (m ∈ ns))) H
section
variable {X : Cx}
theorem op_inTS : OpR X (compareOp .In) (rInTS X.K false) := by
  intro pins s σ H x y v u Q I rx ry h
  obtain ⟨m, p, ns, rfl, rfl, hp, q⟩ := h
  refine op_in_seq pins s σ H _ _ v u Q I rx ry ⟨p, _, rfl, .inr hp, rfl, ?_, ?_⟩
  · rw [List.all_eq_true]
    intro z hz
    obtain ⟨w, _, rfl⟩ := List.mem_map.mp hz
    rfl
  · rw [inV_strs]; exact q
theorem op_notInTS : OpR X (compareOp .NotIn) (rInTS X.K true) := by
  intro pins s σ H x y v u Q I rx ry h
  obtain ⟨m, p, ns, rfl, rfl, hp, q⟩ := h
  refine op_notIn_seq pins s σ H _ _ v u Q I rx ry ⟨p, _, rfl, .inr hp, rfl, ?_, ?_⟩
  · rw [List.all_eq_true]
    intro z hz
    obtain ⟨w, _, rfl⟩ := List.mem_map.mp hz
    rfl
  · rw [inV_strs]; exact q
end
theorem i_inTS {K : PySem.W.Frag} {m : List Nat} {p : Addr} {ns : List (List Nat)} {H : Hp} {Q : VK} (hp : SqT K H p (ns.map vs)) (q : Q (.bl (decide (m ∈ ns))) H) : rInTS K false (.str (S m)) (.ref p) H Q := ⟨m, p, ns, rfl, rfl, hp, q⟩
theorem i_notInTS {K : PySem.W.Frag} {m : List Nat} {p : Addr} {ns : List (List Nat)} {H : Hp} {Q : VK} (hp : SqT K H p (ns.map vs)) (q : Q (.bl (!decide (m ∈ ns))) H) : rInTS K true (.str (S m)) (.ref p) H Q := ⟨m, p, ns, rfl, rfl, hp, q⟩
/-- a module's tuple of texts -/
def KTup (K : PySem.W.Frag) (a : Addr) (ls : List (List Nat)) : Prop := ∀ H, SqT K H a (ls.map vs)
theorem ktup {K : PySem.W.Frag} {a : Addr} {ls : List (List Nat)} {o : Obj} {its : Array Value} {n : Nat} (h : K.lookup a = some o) (hc : o.cls = .type "tuple") (hd : o.data = .seq its n) (hz : its.size ≤ sizeLine) (hv : Vals (ls.map vs) its.toList) : KTup K a ls := fun _ => .inr ⟨o, its, n, h, hc, hd, hz, hv⟩
/-! instances with more fields -/
section
variable {K : PySem.W.Frag} {C : Addr} {f g m : Str} {H : Hp} {gs : List Str}
theorem x_flM {a dx : Addr} {fs : List (Str × V)} {v : V} {R : V → Prop} (z : Kl K C gs) (hm : f ∈ gs) (h : H a = some (.ins C dx fs)) (l : fs.lookup f = some v) (q : R v) : rFl K f (.ref a) H R := ⟨a, C, dx, fs, v, rfl, h, z.cl, z.no f hm, l, q⟩
theorem x_pfM {a dx : Addr} {fs : List (Str × V)} {y : V} {k : Hp → Prop} (z : Kl K C gs) (hm : f ∈ gs) (h : H a = some (.ins C dx fs)) (l : fs.length < 1000) (q : ∀ H2, But a H H2 → H2 a = some (.ins C dx (putF f y fs)) → k H2) : rPf K f y (.ref a) H k :=
  ⟨a, C, dx, fs, rfl, h, z.cl, z.no f hm, l, q _ But.upd upd_same⟩
theorem lk2_a {v w : V} : [(f, v), (g, w)].lookup f = some v := by simp [List.lookup]
theorem lk2_b {v w : V} (h : (g == f) = false) : [(f, v), (g, w)].lookup g = some w := by simp [List.lookup, h]
theorem lk2_n {v w : V} (h1 : (m == f) = false) (h2 : (m == g) = false) : [(f, v), (g, w)].lookup m = none := by simp [List.lookup, h1, h2]
theorem put2_a {v w y : V} (h : (g == f) = false) : putF f y [(f, v), (g, w)] = [(f, y), (g, w)] := by
  unfold putF
  have h := beq_eq_false_iff_ne.mp h
  simp [putF, h]
theorem put2_b {v w y : V} (h : (f == g) = false) : putF g y [(f, v), (g, w)] = [(f, v), (g, y)] := by
  unfold putF
  have h := beq_eq_false_iff_ne.mp h
  simp [putF, h]
theorem put2_n {v y : V} (h : (f == g) = false) : putF g y [(f, v)] = [(f, v), (g, y)] := by
  unfold putF
  have h := beq_eq_false_iff_ne.mp h
  simp [putF, h]
end
end Lv

set_option linter.all false
namespace Lv
/-! first places: greedy -/
theorem nextP_here {l : List Nat} {i c : Nat} (h : l[i]? = some c) : nextP l i c = some i := nextP_some.mpr ⟨Nat.le_refl _, h, fun j h1 h2 => by omega⟩
theorem nextP_skip {l : List Nat} {i c d : Nat} (h : l[i]? = some d) (n : d ≠ c) : nextP l i c = nextP l (i + 1) c := by
  cases e : nextP l (i + 1) c with
  | none =>
    rw [nextP_none] at e ⊢
    intro j hj z
    rcases Nat.eq_or_lt_of_le hj with q | q
    · subst q; rw [h] at z; exact n (Option.some.inj z)
    · exact e j q z
  | some k =>
    rw [nextP_some] at e ⊢
    refine ⟨by omega, e.2.1, fun j h1 h2 z => ?_⟩
    rcases Nat.eq_or_lt_of_le h1 with q | q
    · subst q; rw [h] at z; exact n (Option.some.inj z)
    · exact e.2.2 j q h2 z
theorem nextP_end {l : List Nat} {i c : Nat} (h : l.length ≤ i) : nextP l i c = none := nextP_none.mpr fun j hj z => by
  rw [List.getElem?_eq_none (by omega)] at z; cases z
theorem nextP_lt {l : List Nat} {i c k : Nat} (h : nextP l i c = some k) : i ≤ k ∧ k < l.length := by
  have := nextP_some.mp h
  refine ⟨this.1, ?_⟩
  exact (List.getElem?_eq_some_iff.mp this.2.1).1
def fp (l : List Nat) : Nat → List Nat → Option (List Nat)
  | _, [] => some []
  | i, c :: m => match nextP l i c with
    | none => none
    | some k => (fp l (k + 1) m).map (k :: ·)
theorem fp_nil (l : List Nat) (i : Nat) : fp l i [] = some [] := rfl
theorem fp_none {l : List Nat} {i c : Nat} (m : List Nat) (h : nextP l i c = none) : fp l i (c :: m) = none := by rw [fp, h]
theorem fp_some {l : List Nat} {i c k : Nat} (m : List Nat) (h : nextP l i c = some k) : fp l i (c :: m) = (fp l (k + 1) m).map (k :: ·) := by rw [fp, h]
theorem fp_eq {l : List Nat} {i c : Nat} (m : List Nat) (h : l[i]? = some c) : fp l i (c :: m) = (fp l (i + 1) m).map (i :: ·) := fp_some m (nextP_here h)
theorem fp_ne {l : List Nat} {i c d : Nat} (m : List Nat) (h : l[i]? = some d) (n : d ≠ c) : fp l i (c :: m) = fp l (i + 1) (c :: m) := by
  rw [fp, fp, nextP_skip h n]
theorem fp_end {l : List Nat} {i c : Nat} (m : List Nat) (h : l.length ≤ i) : fp l i (c :: m) = none := fp_none m (nextP_end h)
theorem drop_at {l : List Nat} {i : Nat} (h : i < l.length) : ∃ c, l[i]? = some c ∧ l.drop i = c :: l.drop (i + 1) := ⟨l[i], List.getElem?_eq_getElem h, List.drop_eq_getElem_cons h⟩
/-- just where the row is left -/
theorem fp_left (l : List Nat) : ∀ (n i : Nat) (m : List Nat), l.length - i = n → ((fp l i m).isSome ↔ m.Sublist (l.drop i))
  | 0, i, m, e => by
    cases m with
    | nil => simp [fp_nil]
    | cons c m =>
      rw [fp_end m (by omega), List.drop_of_length_le (by omega)]
      simp
  | n + 1, i, m, e => by
    cases m with
    | nil => simp [fp_nil]
    | cons c m =>
      obtain ⟨d, hd, ed⟩ := drop_at (l := l) (i := i) (by omega)
      rw [ed]
      by_cases z : d = c
      · subst z
        rw [fp_eq m hd, Option.isSome_map, fp_left l n (i + 1) m (by omega), List.cons_sublist_cons]
      · rw [fp_ne m hd z, fp_left l n (i + 1) (c :: m) (by omega)]
        constructor
        · exact fun h => h.cons _
        · intro h
          cases h with
          | cons _ h => exact h
          | cons_cons => exact absurd rfl z
theorem fp0 (l m : List Nat) : (fp l 0 m).isSome ↔ m.Sublist l := fp_left l _ 0 m rfl
end Lv

set_option linter.all false
set_option maxRecDepth 100000
namespace Lv
/-! all unlike rows left of a row, in order -/
theorem lt_ext {α : Type} {r : α → α → Prop} (irr : ∀ a, ¬ r a a) (asy : ∀ a b, r a b → ¬ r b a) : ∀ xs ys : List α, xs.Pairwise r → ys.Pairwise r → (∀ c, c ∈ xs ↔ c ∈ ys) → xs = ys
  | [], [], _, _, _ => rfl
  | [], y :: ys, _, _, h => absurd ((h y).mpr List.mem_cons_self) (by simp)
  | x :: xs, [], _, _, h => absurd ((h x).mp List.mem_cons_self) (by simp)
  | x :: xs, y :: ys, h1, h2, h => by
    have e : x = y := by
      rcases List.mem_cons.mp ((h x).mp List.mem_cons_self) with z | z
      · exact z
      · rcases List.mem_cons.mp ((h y).mpr List.mem_cons_self) with z2 | z2
        · exact z2.symm
        · exact absurd ((List.pairwise_cons.mp h1).1 y z2) (asy _ _ ((List.pairwise_cons.mp h2).1 x z))
    subst e
    rw [lt_ext irr asy xs ys (List.pairwise_cons.mp h1).2 (List.pairwise_cons.mp h2).2 fun c => ?_]
    have := h c
    constructor
    · intro hc
      rcases List.mem_cons.mp (this.mp (List.mem_cons_of_mem _ hc)) with z | z
      · subst z; exact absurd ((List.pairwise_cons.mp h1).1 c hc) (irr c)
      · exact z
    · intro hc
      rcases List.mem_cons.mp (this.mpr (List.mem_cons_of_mem _ hc)) with z | z
      · subst z; exact absurd ((List.pairwise_cons.mp h2).1 c hc) (irr c)
      · exact z
theorem lt_ext_nat {xs ys : List Nat} (h1 : xs.Pairwise (· < ·)) (h2 : ys.Pairwise (· < ·)) (h : ∀ c, c ∈ xs ↔ c ∈ ys) : xs = ys := lt_ext (fun _ => Nat.lt_irrefl _) (fun _ _ h => Nat.lt_asymm h) xs ys h1 h2 h
/-- what is behind the first c -/
def aft (c : Nat) : List Nat → List Nat
  | [] => []
  | d :: l => if d = c then l else aft c l
theorem aft_self (c : Nat) (l : List Nat) : aft c (c :: l) = l := by rw [aft, if_pos rfl]
theorem aft_ne {c d : Nat} (l : List Nat) (h : d ≠ c) : aft c (d :: l) = aft c l := by rw [aft, if_neg h]
theorem aft_suffix (c : Nat) : ∀ l : List Nat, (aft c l) <:+ l
  | [] => List.suffix_refl _
  | d :: l => by
    by_cases h : d = c
    · subst h; rw [aft_self]; exact List.suffix_cons _ _
    · rw [aft_ne l h]; exact (aft_suffix c l).trans (List.suffix_cons _ _)
theorem aft_lt (c : Nat) : ∀ l : List Nat, c ∈ l → (aft c l).length < l.length
  | [], h => by cases h
  | d :: l, h => by
    by_cases z : d = c
    · subst z; rw [aft_self]; exact Nat.lt_succ_self _
    · rw [aft_ne l z]
      have : c ∈ l := by
        rcases List.mem_cons.mp h with q | q
        · exact absurd q.symm z
        · exact q
      exact Nat.lt_succ_of_lt (aft_lt c l this)
theorem aft_low {c : Nat} {l : List Nat} (h : Low l) : Low (aft c l) := h.sub fun d hd => (aft_suffix c l).subset hd
theorem aft_len (c : Nat) (l : List Nat) : (aft c l).length ≤ l.length := (aft_suffix c l).length_le
theorem aft_next {l : List Nat} {c : Nat} : ∀ {n i k : Nat}, l.length - i = n → nextP l i c = some k → aft c (l.drop i) = l.drop (k + 1)
  | 0, i, k, e, h => by have := nextP_lt h; omega
  | n + 1, i, k, e, h => by
    obtain ⟨d, hd, ed⟩ := drop_at (l := l) (i := i) (by omega)
    rw [ed]
    by_cases z : d = c
    · subst z
      rw [nextP_here hd] at h
      cases h
      rw [aft_self]
    · rw [nextP_skip hd z] at h
      rw [aft_ne _ z]
      exact aft_next (n := n) (by omega) h
theorem nextP_mem {l : List Nat} {i c : Nat} : (nextP l i c).isSome ↔ c ∈ l.drop i := by
  constructor
  · intro h
    cases e : nextP l i c with
    | none => rw [e] at h; cases h
    | some k =>
      obtain ⟨h1, h2, _⟩ := nextP_some.mp e
      apply List.mem_of_getElem? (i := k - i)
      rw [List.getElem?_drop, show i + (k - i) = k by omega]
      exact h2
  · intro h
    cases e : nextP l i c with
    | some k => rfl
    | none =>
      obtain ⟨j, hj⟩ := List.mem_iff_getElem?.mp h
      rw [List.getElem?_drop] at hj
      exact absurd hj (nextP_none.mp e (i + j) (by omega))
theorem next_of_mem {l : List Nat} {i c : Nat} (h : c ∈ l.drop i) : ∃ k, nextP l i c = some k := by
  have := nextP_mem.mpr h
  cases e : nextP l i c with
  | none => rw [e] at this; cases this
  | some k => exact ⟨k, rfl⟩
theorem cons_sub {c : Nat} {m : List Nat} : ∀ {l : List Nat}, (c :: m).Sublist l ↔ c ∈ l ∧ m.Sublist (aft c l)
  | [] => by simp
  | d :: l => by
    by_cases z : d = c
    · subst z; rw [aft_self, List.cons_sublist_cons]; simp
    · rw [aft_ne l z, show (c ∈ d :: l) ↔ c ∈ l by simp [Ne.symm z], ← cons_sub (l := l)]
      constructor
      · intro h
        cases h with
        | cons _ h => exact h
        | cons_cons => exact absurd rfl z
      · exact fun h => h.cons _
/-- the unlike letters, rising -/
def lets (l : List Nat) : List Nat := abc.filter (· ∈ l)
theorem lets_mem {l : List Nat} (h : Low l) {c : Nat} : c ∈ lets l ↔ c ∈ l := by
  unfold lets
  rw [List.mem_filter]
  simp only [decide_eq_true_eq]
  refine ⟨fun z => z.2, fun z => ⟨?_, z⟩⟩
  have := h c z
  have : ∀ d : Fin 26, d.val + 97 ∈ abc := by decide
  have := this ⟨c - 97, by omega⟩
  rw [show c - 97 + 97 = c by omega] at this
  exact this
theorem abc_up : abc.Pairwise (· < ·) := by decide
theorem lets_up (l : List Nat) : (lets l).Pairwise (· < ·) := abc_up.filter _
theorem lets_len (l : List Nat) : (lets l).length ≤ 26 := Nat.le_trans (List.length_filter_le _ _) (by decide)
theorem lets_is {l ys : List Nat} (h : Low l) (up : ys.Pairwise (· < ·)) (hm : ∀ c, c ∈ ys ↔ c ∈ l) : ys = lets l := lt_ext_nat up (lets_up l) fun c => by rw [hm, lets_mem h]
theorem lets_low (l : List Nat) : Low (lets l) := low_abc.sub fun c hc => (List.mem_filter.mp hc).1
def lxF : Nat → List Nat → List (List Nat)
  | 0, _ => [[]]
  | n + 1, l => [] :: (lets l).flatMap fun c => (lxF n (aft c l)).map (c :: ·)
theorem lxF_same : ∀ (n m : Nat) (l : List Nat), l.length ≤ n → l.length ≤ m → lxF n l = lxF m l
  | 0, 0, l, _, _ => rfl
  | 0, m + 1, l, h, _ => by
    have : l = [] := List.length_eq_zero_iff.mp (by omega)
    subst this
    have e : lets [] = [] := by unfold lets; simp
    rw [lxF, lxF, e]
    rfl
  | n + 1, 0, l, _, h => by
    have : l = [] := List.length_eq_zero_iff.mp (by omega)
    subst this
    have e : lets [] = [] := by unfold lets; simp
    rw [lxF, lxF, e]
    rfl
  | n + 1, m + 1, l, h1, h2 => by
    rw [lxF, lxF]
    congr 1
    have : ∀ c ∈ lets l, (lxF n (aft c l)).map (c :: ·) = (lxF m (aft c l)).map (c :: ·) := fun c hc => by
      have hm : c ∈ l := by have := (List.mem_filter.mp hc).2; simpa using this
      have := aft_lt c l hm
      rw [lxF_same n m (aft c l) (by omega) (by omega)]
    rw [List.flatMap_def, List.flatMap_def, List.map_congr_left this]
def lx (l : List Nat) : List (List Nat) := lxF l.length l
theorem lx_eq (l : List Nat) : lx l = [] :: (lets l).flatMap fun c => (lx (aft c l)).map (c :: ·) := by
  unfold lx
  rw [lxF_same l.length (l.length + 1) l (Nat.le_refl _) (Nat.le_succ _), lxF]
  congr 1
  have : ∀ c ∈ lets l, (lxF l.length (aft c l)).map (c :: ·) = (lxF (aft c l).length (aft c l)).map (c :: ·) := fun c hc => by
    rw [lxF_same l.length (aft c l).length (aft c l) (aft_len c l) (Nat.le_refl _)]
  rw [List.flatMap_def, List.flatMap_def, List.map_congr_left this]
theorem lx_mem : ∀ (m l : List Nat), Low l → (m ∈ lx l ↔ m.Sublist l)
  | [], l, _ => by rw [lx_eq]; simp
  | c :: m, l, h => by
    rw [lx_eq, cons_sub, ← lx_mem m (aft c l) (aft_low h)]
    simp only [List.mem_cons, List.mem_flatMap, List.mem_map, reduceCtorEq, false_or]
    constructor
    · rintro ⟨d, hd, x, hx, e⟩
      cases e
      exact ⟨(lets_mem h).mp hd, hx⟩
    · rintro ⟨h1, h2⟩
      exact ⟨c, (lets_mem h).mpr h1, m, h2, rfl⟩
/-- how many -/
def cn (l : List Nat) : Nat := (lx l).length
theorem cn_eq (l : List Nat) : cn l = 1 + ((lets l).map fun c => cn (aft c l)).sum := by
  unfold cn
  rw [lx_eq, List.length_cons, List.length_flatMap]
  simp only [List.length_map]
  omega
/-- those of a length -/
def lxn (n : Nat) (l : List Nat) : List (List Nat) := (lx l).filter (·.length = n)
theorem lxn_zero (l : List Nat) : lxn 0 l = [[]] := by
  unfold lxn
  rw [lx_eq, List.filter_cons_of_pos (by simp), List.filter_eq_nil_iff.mpr]
  intro m hm
  obtain ⟨c, _, hm⟩ := List.mem_flatMap.mp hm
  obtain ⟨x, _, rfl⟩ := List.mem_map.mp hm
  simp
theorem lxn_succ (n : Nat) (l : List Nat) : lxn (n + 1) l = (lets l).flatMap fun c => (lxn n (aft c l)).map (c :: ·) := by
  unfold lxn
  rw [lx_eq, List.filter_cons_of_neg (by simp), List.filter_flatMap]
  congr 1
  funext c
  rw [List.filter_map]
  congr 1
  apply List.filter_congr
  intro x _
  simp
theorem lxn_mem {n : Nat} {m l : List Nat} (h : Low l) : m ∈ lxn n l ↔ m.Sublist l ∧ m.length = n := by
  unfold lxn
  rw [List.mem_filter, lx_mem m l h]
  simp
def cl (n : Nat) (l : List Nat) : Nat := (lxn n l).length
theorem cl_zero (l : List Nat) : cl 0 l = 1 := by unfold cl; rw [lxn_zero]; rfl
theorem cl_succ (n : Nat) (l : List Nat) : cl (n + 1) l = ((lets l).map fun c => cl n (aft c l)).sum := by
  unfold cl
  rw [lxn_succ, List.length_flatMap]
  simp only [List.length_map]
/-! a letter ahead -/
theorem sum_filter {p : Nat → Prop} [DecidablePred p] (f : Nat → Nat) : ∀ l : List Nat, ((l.filter (fun c => decide (p c))).map f).sum = (l.map fun c => if p c then f c else 0).sum
  | [] => rfl
  | c :: l => by
    by_cases h : p c
    · rw [List.filter_cons_of_pos (by simp [h]), List.map_cons, List.sum_cons, sum_filter f l, List.map_cons, List.sum_cons, if_pos h]
    · rw [List.filter_cons_of_neg (by simp [h]), sum_filter f l, List.map_cons, List.sum_cons, if_neg h, Nat.zero_add]
theorem sum_swap {F G : Nat → Nat} {c : Nat} : ∀ (l : List Nat), l.Nodup → (∀ d ∈ l, d ≠ c → F d = G d) → (c ∈ l → (l.map F).sum + G c = (l.map G).sum + F c) ∧ (c ∉ l → (l.map F).sum = (l.map G).sum)
  | [], _, _ => ⟨fun h => (by cases h), fun _ => rfl⟩
  | d :: l, hn, h => by
    obtain ⟨hd, hn'⟩ := List.nodup_cons.mp hn
    obtain ⟨i1, i2⟩ := sum_swap l hn' fun e he => h e (List.mem_cons_of_mem _ he)
    by_cases z : d = c
    · subst z
      refine ⟨fun _ => ?_, fun q => absurd List.mem_cons_self q⟩
      rw [List.map_cons, List.sum_cons, List.map_cons, List.sum_cons, i2 hd]
      omega
    · have e := h d List.mem_cons_self z
      refine ⟨fun q => ?_, fun q => ?_⟩
      · have hc : c ∈ l := by
          rcases List.mem_cons.mp q with q | q
          · exact absurd q.symm z
          · exact q
        have := i1 hc
        rw [List.map_cons, List.sum_cons, List.map_cons, List.sum_cons, e]
        omega
      · have := i2 fun x => q (List.mem_cons_of_mem _ x)
        rw [List.map_cons, List.sum_cons, List.map_cons, List.sum_cons, e, this]
theorem abc_nodup : abc.Nodup := by decide
theorem abc_mem {c : Nat} (h : 97 ≤ c ∧ c ≤ 122) : c ∈ abc := by
  have : ∀ d : Fin 26, d.val + 97 ∈ abc := by decide
  have := this ⟨c - 97, by omega⟩
  rw [show c - 97 + 97 = c by omega] at this
  exact this
theorem sum_ahead (f : List Nat → Nat) {c : Nat} (l : List Nat) (h : 97 ≤ c ∧ c ≤ 122) :
    ((lets (c :: l)).map fun d => f (aft d (c :: l))).sum + (if c ∈ l then f (aft c l) else 0) = ((lets l).map fun d => f (aft d l)).sum + f l := by
  unfold lets
  rw [sum_filter (p := (· ∈ c :: l)) (fun d => f (aft d (c :: l))), sum_filter (p := (· ∈ l)) (fun d => f (aft d l))]
  have := (sum_swap (F := fun d => if d ∈ c :: l then f (aft d (c :: l)) else 0) (G := fun d => if d ∈ l then f (aft d l) else 0) (c := c) abc abc_nodup fun d _ hd => ?_).1 (abc_mem h)
  · rw [this]
    simp only [List.mem_cons, true_or, if_true, aft_self]
  · simp only [List.mem_cons, hd, false_or]
    rw [aft_ne l (Ne.symm hd)]
theorem cn_cons {c : Nat} (l : List Nat) (h : 97 ≤ c ∧ c ≤ 122) : cn (c :: l) + (if c ∈ l then cn (aft c l) else 0) = 2 * cn l := by
  have := sum_ahead cn l h
  have e1 := cn_eq (c :: l)
  have e2 := cn_eq l
  omega
theorem cl_cons {c : Nat} (n : Nat) (l : List Nat) (h : 97 ≤ c ∧ c ≤ 122) : cl (n + 1) (c :: l) + (if c ∈ l then cl n (aft c l) else 0) = cl (n + 1) l + cl n l := by
  have := sum_ahead (cl n) l h
  rw [cl_succ, cl_succ]
  exact this
theorem cn_nil : cn [] = 1 := rfl
theorem cl_long {n : Nat} {l : List Nat} (h : l.length < n) (lw : Low l) : cl n l = 0 := by
  unfold cl
  rw [List.length_eq_zero_iff, List.eq_nil_iff_forall_not_mem]
  intro m hm
  have := (lxn_mem lw).mp hm
  have := this.1.length_le
  omega
theorem cn_le : ∀ l : List Nat, Low l → cn l ≤ 2 ^ l.length
  | [], _ => Nat.le_refl _
  | c :: l, h => by
    have := cn_cons l (h c List.mem_cons_self)
    have := cn_le l (h.sub fun d hd => List.mem_cons_of_mem _ hd)
    rw [List.length_cons, Nat.pow_succ]
    omega
theorem cl_le (n : Nat) (l : List Nat) : cl n l ≤ cn l := List.length_filter_le _ _
end Lv

set_option linter.all false
set_option maxRecDepth 100000
namespace Lv
/-! the so-manieth -/
def flat (l : List Nat) : List Nat → Nat → Option (List Nat)
  | [], _ => none
  | c :: cs, p => if p < cn (aft c l) then (lx (aft c l))[p]?.map (c :: ·) else flat l cs (p - cn (aft c l))
theorem flat_get (l : List Nat) : ∀ (cs : List Nat) (p : Nat), (cs.flatMap fun c => (lx (aft c l)).map (c :: ·))[p]? = flat l cs p
  | [], p => rfl
  | c :: cs, p => by
    rw [List.flatMap_cons, flat]
    by_cases h : p < cn (aft c l)
    · rw [if_pos h, List.getElem?_append_left (by rw [List.length_map]; exact h), List.getElem?_map]
    · rw [if_neg h, List.getElem?_append_right (by rw [List.length_map]; exact Nat.le_of_not_lt h), List.length_map, flat_get l cs]
      rfl
theorem lx_zero (l : List Nat) : (lx l)[0]? = some [] := by rw [lx_eq]; rfl
theorem lx_succ (l : List Nat) (p : Nat) : (lx l)[p + 1]? = flat l (lets l) p := by rw [lx_eq, List.getElem?_cons_succ, flat_get]
theorem flat_yes {l cs : List Nat} {c p : Nat} (h : p < cn (aft c l)) : flat l (c :: cs) p = (lx (aft c l))[p]?.map (c :: ·) := by rw [flat, if_pos h]
theorem flat_no {l cs : List Nat} {c p : Nat} (h : ¬ p < cn (aft c l)) : flat l (c :: cs) p = flat l cs (p - cn (aft c l)) := by rw [flat, if_neg h]
/-- the number of a row among those left -/
def plc : List Nat → List Nat → Nat
  | _, [] => 0
  | l, c :: m => 1 + (((lets l).filter fun d => decide (d < c)).map fun d => cn (aft d l)).sum + plc (aft c l) m
theorem flat_at (l : List Nat) {c p : Nat} (hp : p < cn (aft c l)) : ∀ (cs : List Nat), cs.Pairwise (· < ·) → c ∈ cs → flat l cs (((cs.filter fun d => decide (d < c)).map fun d => cn (aft d l)).sum + p) = (lx (aft c l))[p]?.map (c :: ·)
  | [], _, h => by cases h
  | d :: cs, up, h => by
    obtain ⟨u1, u2⟩ := List.pairwise_cons.mp up
    by_cases z : d = c
    · subst z
      have : (d :: cs).filter (fun e => decide (e < d)) = [] := by
        rw [List.filter_eq_nil_iff]
        intro e he
        rcases List.mem_cons.mp he with q | q
        · subst q; simp
        · have := u1 e q; simp; omega
      rw [this]
      simp only [List.map_nil, List.sum_nil, Nat.zero_add]
      exact flat_yes hp
    · have hc : c ∈ cs := by
        rcases List.mem_cons.mp h with q | q
        · exact absurd q.symm z
        · exact q
      have hd : d < c := u1 c hc
      rw [List.filter_cons_of_pos (by simp [hd]), List.map_cons, List.sum_cons, flat_no (by omega), ← flat_at l hp cs u2 hc]
      congr 1
      omega
theorem plc_at : ∀ (m l : List Nat), Low l → m.Sublist l → (lx l)[plc l m]? = some m
  | [], l, _, _ => lx_zero l
  | c :: m, l, h, hs => by
    obtain ⟨h1, h2⟩ := cons_sub.mp hs
    have ih := plc_at m (aft c l) (aft_low h) h2
    have hlt : plc (aft c l) m < cn (aft c l) := (List.getElem?_eq_some_iff.mp ih).1
    rw [plc, show 1 + (((lets l).filter fun d => decide (d < c)).map fun d => cn (aft d l)).sum + plc (aft c l) m = ((((lets l).filter fun d => decide (d < c)).map fun d => cn (aft d l)).sum + plc (aft c l) m) + 1 by omega, lx_succ,
      flat_at l hlt (lets l) (lets_up l) ((lets_mem h).mpr h1), ih]
    rfl
theorem plc_lt {m l : List Nat} (h : Low l) (hs : m.Sublist l) : plc l m < cn l := (List.getElem?_eq_some_iff.mp (plc_at m l h hs)).1
theorem lx_sub {l m : List Nat} {k : Nat} (h : Low l) (hk : (lx l)[k]? = some m) : m.Sublist l := (lx_mem m l h).mp (List.mem_of_getElem? hk)
end Lv

set_option linter.all false
set_option maxRecDepth 100000
namespace Lv
/-! those of a length -/
def flatn (n : Nat) (l : List Nat) : List Nat → Nat → Option (List Nat)
  | [], _ => none
  | c :: cs, p => if p < cl n (aft c l) then (lxn n (aft c l))[p]?.map (c :: ·) else flatn n l cs (p - cl n (aft c l))
theorem flatn_get (n : Nat) (l : List Nat) : ∀ (cs : List Nat) (p : Nat), (cs.flatMap fun c => (lxn n (aft c l)).map (c :: ·))[p]? = flatn n l cs p
  | [], p => rfl
  | c :: cs, p => by
    rw [List.flatMap_cons, flatn]
    by_cases h : p < cl n (aft c l)
    · rw [if_pos h, List.getElem?_append_left (by rw [List.length_map]; exact h), List.getElem?_map]
    · rw [if_neg h, List.getElem?_append_right (by rw [List.length_map]; exact Nat.le_of_not_lt h), List.length_map, flatn_get n l cs]
      rfl
theorem lxn_at (n : Nat) (l : List Nat) (p : Nat) : (lxn (n + 1) l)[p]? = flatn n l (lets l) p := by rw [lxn_succ, flatn_get]
theorem flatn_yes {n : Nat} {l cs : List Nat} {c p : Nat} (h : p < cl n (aft c l)) : flatn n l (c :: cs) p = (lxn n (aft c l))[p]?.map (c :: ·) := by rw [flatn, if_pos h]
theorem flatn_no {n : Nat} {l cs : List Nat} {c p : Nat} (h : ¬ p < cl n (aft c l)) : flatn n l (c :: cs) p = flatn n l cs (p - cl n (aft c l)) := by rw [flatn, if_neg h]
/-- how many of each length -/
def lens (l : List Nat) : List Nat := (List.range (l.length + 1)).map fun n => cl n l
theorem lens_len (l : List Nat) : (lens l).length = l.length + 1 := by unfold lens; simp
theorem lens_get {l : List Nat} {n : Nat} (h : n ≤ l.length) : (lens l)[n]? = some (cl n l) := by
  unfold lens
  rw [List.getElem?_map, List.getElem?_range (by omega)]
  rfl
theorem lens_getD {l : List Nat} (lw : Low l) (n : Nat) : (lens l).getD n 0 = cl n l := by
  rw [List.getD_eq_getElem?_getD]
  by_cases h : n ≤ l.length
  · rw [lens_get h]; rfl
  · rw [List.getElem?_eq_none (by rw [lens_len]; omega), cl_long (by omega) lw]; rfl
theorem lens_nil : lens [] = [1] := by
  unfold lens
  simp [List.range_succ, cl_zero]
def pon (ls os xs : List Int) : List Int := (List.range (ls.length + 1)).map fun i => ls.getD i 0 + (if 0 < i then os.getD (i - 1) 0 else 0) - (if 0 < i then xs.getD (i - 1) 0 else 0)
theorem ints_getD (ns : List Nat) (i : Nat) : (ns.map fun n : Nat => (n : Int)).getD i 0 = ((ns.getD i 0 : Nat) : Int) := by
  rw [List.getD_eq_getElem?_getD, List.getD_eq_getElem?_getD, List.getElem?_map]
  cases ns[i]? <;> rfl
theorem pon_lens {c : Nat} {l xs : List Nat} (lw : Low (c :: l)) (hx : ∀ n, xs.getD n 0 = if c ∈ l then cl n (aft c l) else 0) :
    pon ((lens l).map fun n : Nat => (n : Int)) ((lens l).map fun n : Nat => (n : Int)) (xs.map fun n : Nat => (n : Int)) = (lens (c :: l)).map fun n : Nat => (n : Int) := by
  have lwl : Low l := lw.sub fun d hd => List.mem_cons_of_mem _ hd
  unfold pon
  rw [List.length_map, lens_len]
  conv => rhs; unfold lens
  rw [List.map_map, List.length_cons]
  apply List.map_congr_left
  intro i _
  rw [ints_getD, ints_getD, ints_getD, lens_getD lwl, lens_getD lwl]
  cases i with
  | zero =>
    rw [if_neg (by omega), if_neg (by omega), cl_zero]
    show _ = ((cl 0 (c :: l) : Nat) : Int)
    rw [cl_zero]
    omega
  | succ n =>
    rw [if_pos (by omega), if_pos (by omega), Nat.add_sub_cancel, hx n]
    show _ = ((cl (n + 1) (c :: l) : Nat) : Int)
    have := cl_cons n l (lw c List.mem_cons_self)
    omega
end Lv

set_option linter.all false
set_option maxRecDepth 100000
namespace Lv
/-! letters called otherwise, in order -/
/-! all lengths together -/
/-! a row with letters more -/
/-! letters called otherwise -/
/-! ways to take so many -/
def ch : Nat → Nat → Nat
  | _, 0 => 1
  | 0, _ + 1 => 0
  | n + 1, k + 1 => ch n (k + 1) + ch n k
/-! rows of unlike letters behind one another -/
end Lv

set_option Elab.async false
set_option linter.all false
set_option maxRecDepth 100000
namespace Lv
open PySem L2
/-- letters in both -/
def bl2 (l m : List Nat) : List Nat := abc.filter fun c => decide (c ∈ l ∧ c ∈ m)
theorem bl2_len (l m : List Nat) : (bl2 l m).length ≤ 26 := Nat.le_trans (List.length_filter_le _ _) (by decide)
/-- rows left of both -/
def cx (l m : List Nat) : List (List Nat) := (lx l).filter fun w => decide (w.Sublist m)
def cc (l m : List Nat) : Nat := (cx l m).length
theorem cx_mem {l m w : List Nat} (lw : Low l) : w ∈ cx l m ↔ w.Sublist l ∧ w.Sublist m := by
  unfold cx
  rw [List.mem_filter, lx_mem w l lw, decide_eq_true_eq]
theorem len_flatM {α β : Type} (f : α → List β) (l : List α) : (l.flatMap f).length = (l.map fun c => (f c).length).sum := by
  induction l with
  | nil => rfl
  | cons a l ih => rw [List.flatMap_cons, List.length_append, ih, List.map_cons, List.sum_cons]
theorem cc_eq (l m : List Nat) : cc l m = 1 + ((bl2 l m).map fun c => cc (aft c l) (aft c m)).sum := by
  unfold cc
  have h1 : cx l m = [] :: (lets l).flatMap fun c => if c ∈ m then (cx (aft c l) (aft c m)).map (c :: ·) else [] := by
    unfold cx
    rw [lx_eq, List.filter_cons_of_pos (by simp), List.filter_flatMap]
    congr 2
    funext c
    rw [List.filter_map]
    by_cases h : c ∈ m
    · rw [if_pos h]
      congr 1
      apply List.filter_congr
      intro w _
      show decide ((c :: w).Sublist m) = _
      exact decide_eq_decide.mpr (by rw [cons_sub]; simp [h])
    · rw [if_neg h, List.map_eq_nil_iff, List.filter_eq_nil_iff]
      intro w _
      show ¬ decide ((c :: w).Sublist m) = true
      rw [decide_eq_true_eq, cons_sub]
      exact fun z => h z.1
  rw [h1, List.length_cons, len_flatM, Nat.add_comm]
  congr 1
  have h2 : bl2 l m = (lets l).filter fun c => decide (c ∈ m) := by
    unfold bl2 lets
    rw [List.filter_filter]
    apply List.filter_congr
    intro c _
    by_cases a : c ∈ l <;> by_cases b : c ∈ m <;> simp [a, b]
  rw [h2, sum_filter (p := fun c => c ∈ m)]
  congr 1
  apply List.map_congr_left
  intro c _
  by_cases h : c ∈ m
  · rw [if_pos h, if_pos h, List.length_map]
  · rw [if_neg h, if_neg h]; rfl
/-- keys in the order of making: from behind -/
def gkP (a b i j : Nat) : List (Nat × Nat) := ((List.range i).flatMap fun i => (List.range (b + 1)).map fun j => (a - i, b - j)) ++ (List.range j).map fun j => (a - i, b - j)
theorem gkP_snoc (a b i j : Nat) : gkP a b i (j + 1) = gkP a b i j ++ [(a - i, b - j)] := by
  unfold gkP
  rw [List.range_succ (n := j), List.map_append, ← List.append_assoc]; rfl
theorem gkP_next (a b i : Nat) : gkP a b (i + 1) 0 = gkP a b i (b + 1) := by
  unfold gkP
  rw [List.range_succ (n := i), List.flatMap_append]; simp
theorem gkP_new {a b i j : Nat} (hi : i ≤ a) (hj : j ≤ b) : (a - i, b - j) ∉ gkP a b i j := by
  unfold gkP
  rw [List.mem_append]
  rintro (h | h)
  · obtain ⟨i', h1, h2⟩ := List.mem_flatMap.mp h
    obtain ⟨j', _, h3⟩ := List.mem_map.mp h2
    have := List.mem_range.mp h1
    have e := congrArg Prod.fst h3
    simp at e
    omega
  · obtain ⟨j', h1, h2⟩ := List.mem_map.mp h
    have := List.mem_range.mp h1
    have e := congrArg Prod.snd h2
    simp at e
    omega
theorem gkP_len (a b i j : Nat) : (gkP a b i j).length = i * (b + 1) + j := by
  unfold gkP
  rw [List.length_append, len_flatM]
  simp [List.map_const', List.sum_replicate_nat]
theorem gkP_mem {a b i j p q : Nat} : (p, q) ∈ gkP a b i j ↔ (∃ i' j', i' < i ∧ j' < b + 1 ∧ p = a - i' ∧ q = b - j') ∨ ∃ j', j' < j ∧ p = a - i ∧ q = b - j' := by
  unfold gkP
  rw [List.mem_append, List.mem_flatMap]
  constructor
  · rintro (⟨i', h1, h2⟩ | h)
    · obtain ⟨j', h3, h4⟩ := List.mem_map.mp h2
      cases h4
      exact .inl ⟨i', j', List.mem_range.mp h1, List.mem_range.mp h3, rfl, rfl⟩
    · obtain ⟨j', h3, h4⟩ := List.mem_map.mp h
      cases h4
      exact .inr ⟨j', List.mem_range.mp h3, rfl, rfl⟩
  · rintro (⟨i', j', h1, h2, rfl, rfl⟩ | ⟨j', h1, rfl, rfl⟩)
    · exact .inl ⟨i', List.mem_range.mpr h1, List.mem_map.mpr ⟨j', List.mem_range.mpr h2, rfl⟩⟩
    · exact .inr (List.mem_map.mpr ⟨j', List.mem_range.mpr h1, rfl⟩)
theorem gkP_pre {a b i j : Nat} : ∀ k, j + k ≤ b + 1 → gkP a b i j <+: gkP a b i (j + k)
  | 0, _ => List.prefix_refl _
  | k + 1, h => (gkP_pre k (by omega)).trans (by rw [← Nat.add_assoc, gkP_snoc]; exact List.prefix_append _ _)
theorem gkP_row {a b i : Nat} : ∀ k, gkP a b i 0 <+: gkP a b (i + k) 0
  | 0 => List.prefix_refl _
  | k + 1 => (gkP_row k).trans (by
    rw [← Nat.add_assoc, gkP_next]
    have := gkP_pre (a := a) (b := b) (i := i + k) (j := 0) (b + 1) (by omega)
    rwa [Nat.zero_add] at this)
theorem gk_get {a b i j : Nat} (hi : i ≤ a) (hj : j ≤ b) : (gkP a b (a + 1) 0)[i * (b + 1) + j]? = some (a - i, b - j) := by
  have p1 : gkP a b i (j + 1) <+: gkP a b i (b + 1) := by
    have := gkP_pre (a := a) (b := b) (i := i) (j := j + 1) (b - j) (by omega)
    rwa [show j + 1 + (b - j) = b + 1 by omega] at this
  have p2 : gkP a b (i + 1) 0 <+: gkP a b (a + 1) 0 := by
    have := gkP_row (a := a) (b := b) (i := i + 1) (a - i)
    rwa [show i + 1 + (a - i) = a + 1 by omega] at this
  rw [gkP_next] at p2
  obtain ⟨r, hr⟩ := p1.trans p2
  rw [← hr, gkP_snoc, List.append_assoc, List.getElem?_append_right (by rw [gkP_len]; exact Nat.le_refl _), gkP_len, Nat.sub_self]
  rfl
theorem cc_go {l m : List Nat} {p q c k k' : Nat} (h : nextP l p c = some k) (h' : nextP m q c = some k') : cc (aft c (l.drop p)) (aft c (m.drop q)) = cc (l.drop (k + 1)) (m.drop (k' + 1)) := by
  rw [aft_next rfl h, aft_next rfl h']
theorem bl2_go {l m : List Nat} {p q c : Nat} (h : c ∈ bl2 (l.drop p) (m.drop q)) : ∃ k k', nextP l p c = some k ∧ nextP m q c = some k' := by
  have := of_decide_eq_true (List.mem_filter.mp h).2
  obtain ⟨k, hk⟩ := next_of_mem this.1
  obtain ⟨k', hk'⟩ := next_of_mem this.2
  exact ⟨k, k', hk, hk'⟩
end Lv

set_option Elab.async false
set_option linter.all false
set_option maxRecDepth 100000
namespace Lv
open PySem L2
theorem bl2_eq (l m : List Nat) : bl2 l m = (lets l).filter fun c => decide (c ∈ m) := by
  unfold bl2 lets
  rw [List.filter_filter]
  apply List.filter_congr
  intro c _
  by_cases a : c ∈ l <;> by_cases b : c ∈ m <;> simp [a, b]
theorem flat_filter {α β : Type} (p : α → Bool) (f : α → List β) : ∀ l : List α, (l.filter p).flatMap f = l.flatMap fun c => if p c = true then f c else []
  | [] => rfl
  | a :: l => by
    by_cases h : p a = true
    · rw [List.filter_cons_of_pos h, List.flatMap_cons, List.flatMap_cons, flat_filter p f l, if_pos h]
    · rw [List.filter_cons_of_neg h, List.flatMap_cons, flat_filter p f l, if_neg h]; rfl
theorem cx_eq (l m : List Nat) : cx l m = [] :: (bl2 l m).flatMap fun c => (cx (aft c l) (aft c m)).map (c :: ·) := by
  rw [bl2_eq, flat_filter]
  unfold cx
  rw [lx_eq, List.filter_cons_of_pos (by simp), List.filter_flatMap]
  congr 2
  funext c
  rw [List.filter_map]
  by_cases h : c ∈ m
  · rw [if_pos (by simpa using h)]
    congr 1
    apply List.filter_congr
    intro w _
    show decide ((c :: w).Sublist m) = _
    exact decide_eq_decide.mpr (by rw [cons_sub]; simp [h])
  · rw [if_neg (by simpa using h), List.map_eq_nil_iff, List.filter_eq_nil_iff]
    intro w _
    show ¬ decide ((c :: w).Sublist m) = true
    rw [decide_eq_true_eq, cons_sub]
    exact fun z => h z.1
def mx : List Nat → Nat := List.foldr max 0
theorem mx_le {n : Nat} : ∀ {l : List Nat}, mx l ≤ n ↔ ∀ x ∈ l, x ≤ n
  | [] => by simp [mx]
  | a :: l => by
    show max a (mx l) ≤ n ↔ _
    rw [Nat.max_le, mx_le (l := l)]
    simp
theorem mx_ge {l : List Nat} {x : Nat} (h : x ∈ l) : x ≤ mx l := mx_le.mp (Nat.le_refl _) x h
theorem mx_mem : ∀ {l : List Nat}, 0 < mx l → mx l ∈ l
  | [], h => absurd h (by simp [mx])
  | a :: l, h => by
    show max a (mx l) ∈ a :: l
    rcases Nat.le_total a (mx l) with z | z
    · rw [Nat.max_eq_right z]
      have h' : 0 < max a (mx l) := h
      rw [Nat.max_eq_right z] at h'
      exact List.mem_cons_of_mem _ (mx_mem h')
    · rw [Nat.max_eq_left z]; exact List.mem_cons_self
/-- the length of the longest common ones -/
def cl2 (l m : List Nat) : Nat := mx ((cx l m).map List.length)
/-- the longest common ones, by order -/
def cz (l m : List Nat) : List (List Nat) := (cx l m).filter fun w => decide (w.length = cl2 l m)
def cn2 (l m : List Nat) : Nat := (cz l m).length
theorem nil_cx (l m : List Nat) : [] ∈ cx l m := by rw [cx_eq]; exact List.mem_cons_self
theorem cl2_ge {l m w : List Nat} (h : w ∈ cx l m) : w.length ≤ cl2 l m := mx_ge (List.mem_map.mpr ⟨w, h, rfl⟩)
theorem cl2_at (l m : List Nat) : ∃ w ∈ cx l m, w.length = cl2 l m := by
  by_cases z : 0 < cl2 l m
  · obtain ⟨w, h1, h2⟩ := List.mem_map.mp (mx_mem z)
    exact ⟨w, h1, h2⟩
  · exact ⟨[], nil_cx l m, by show 0 = _; omega⟩
theorem cx_cons {l m w : List Nat} {c : Nat} : c :: w ∈ cx l m ↔ c ∈ bl2 l m ∧ w ∈ cx (aft c l) (aft c m) := by
  rw [cx_eq]
  constructor
  · intro h
    rcases List.mem_cons.mp h with h | h
    · cases h
    · obtain ⟨d, h1, h2⟩ := List.mem_flatMap.mp h
      obtain ⟨v, h3, h4⟩ := List.mem_map.mp h2
      cases h4
      exact ⟨h1, h3⟩
  · rintro ⟨h1, h2⟩
    exact List.mem_cons_of_mem _ (List.mem_flatMap.mpr ⟨c, h1, List.mem_map.mpr ⟨w, h2, rfl⟩⟩)
theorem cl2_eq (l m : List Nat) : cl2 l m = mx ((bl2 l m).map fun c => 1 + cl2 (aft c l) (aft c m)) := by
  apply Nat.le_antisymm
  · obtain ⟨w, h1, h2⟩ := cl2_at l m
    rw [← h2]
    cases w with
    | nil => exact Nat.zero_le _
    | cons c w =>
      obtain ⟨h3, h4⟩ := cx_cons.mp h1
      have := cl2_ge h4
      have := mx_ge (List.mem_map.mpr ⟨c, h3, rfl⟩ : 1 + cl2 (aft c l) (aft c m) ∈ (bl2 l m).map fun c => 1 + cl2 (aft c l) (aft c m))
      rw [List.length_cons]; omega
  · rw [mx_le]
    intro x hx
    obtain ⟨c, h1, rfl⟩ := List.mem_map.mp hx
    obtain ⟨w, h3, h4⟩ := cl2_at (aft c l) (aft c m)
    have := cl2_ge (cx_cons.mpr ⟨h1, h3⟩)
    rw [List.length_cons] at this; omega
theorem flat_congr {α β : Type} {f g : α → List β} : ∀ {l : List α}, (∀ a ∈ l, f a = g a) → l.flatMap f = l.flatMap g
  | [], _ => rfl
  | a :: l, h => by rw [List.flatMap_cons, List.flatMap_cons, h a List.mem_cons_self, flat_congr fun b hb => h b (List.mem_cons_of_mem _ hb)]
theorem cz_eq {l m : List Nat} (h : 0 < cl2 l m) : cz l m = (bl2 l m).flatMap fun c => if cl2 (aft c l) (aft c m) + 1 = cl2 l m then (cz (aft c l) (aft c m)).map (c :: ·) else [] := by
  conv => lhs; unfold cz
  rw [cx_eq l m, List.filter_cons_of_neg (by simp; omega), List.filter_flatMap]
  apply flat_congr
  intro c hc
  rw [List.filter_map]
  by_cases z : cl2 (aft c l) (aft c m) + 1 = cl2 l m
  · rw [if_pos z]
    congr 1
    unfold cz
    apply List.filter_congr
    intro w _
    show decide ((c :: w).length = _) = _
    exact decide_eq_decide.mpr (by rw [List.length_cons]; omega)
  · rw [if_neg z, List.map_eq_nil_iff, List.filter_eq_nil_iff]
    intro w hw
    show ¬ decide ((c :: w).length = _) = true
    rw [decide_eq_true_eq, List.length_cons]
    intro e
    have h1 := cl2_ge hw
    obtain ⟨v, h2, h3⟩ := cl2_at (aft c l) (aft c m)
    have := cl2_ge (cx_cons.mpr ⟨hc, h2⟩)
    rw [List.length_cons] at this; omega
theorem cz_nil {l m : List Nat} (h : cl2 l m = 0) : cz l m = [[]] := by
  unfold cz
  rw [cx_eq l m, List.filter_cons_of_pos (by simp [h]), List.cons.injEq]
  refine ⟨rfl, ?_⟩
  rw [List.filter_eq_nil_iff]
  intro w hw
  rw [decide_eq_true_eq]
  obtain ⟨c, h1, h2⟩ := List.mem_flatMap.mp hw
  obtain ⟨v, _, rfl⟩ := List.mem_map.mp h2
  rw [List.length_cons]; omega
theorem cn2_eq {l m : List Nat} (h : 0 < cl2 l m) : cn2 l m = (((bl2 l m).filter fun c => decide (cl2 (aft c l) (aft c m) + 1 = cl2 l m)).map fun c => cn2 (aft c l) (aft c m)).sum := by
  unfold cn2
  rw [cz_eq h, len_flatM, sum_filter (p := fun c => cl2 (aft c l) (aft c m) + 1 = cl2 l m)]
  congr 1
  apply List.map_congr_left
  intro c _
  by_cases z : cl2 (aft c l) (aft c m) + 1 = cl2 l m
  · rw [if_pos z, if_pos z, List.length_map]
  · rw [if_neg z, if_neg z]; rfl
theorem cn2_nil {l m : List Nat} (h : cl2 l m = 0) : cn2 l m = 1 := by unfold cn2; rw [cz_nil h]; rfl
theorem cz_ne (l m : List Nat) : cz l m ≠ [] := fun h => by
  obtain ⟨w, h1, h2⟩ := cl2_at l m
  have : w ∈ cz l m := List.mem_filter.mpr ⟨h1, decide_eq_true h2⟩
  rw [h] at this; cases this
theorem cn2_pos (l m : List Nat) : 0 < cn2 l m := List.length_pos_iff.mpr (cz_ne l m)
theorem cz_mem {l m w : List Nat} (lw : Low l) : w ∈ cz l m ↔ w.Sublist l ∧ w.Sublist m ∧ w.length = cl2 l m := by
  unfold cz
  rw [List.mem_filter, cx_mem lw, decide_eq_true_eq, and_assoc]
/-- the first of the longest common ones -/
def cf (l m : List Nat) : List Nat := (cz l m).headD []
theorem cf_mem (l m : List Nat) : cf l m ∈ cz l m := by
  unfold cf
  cases e : cz l m with
  | nil => exact absurd e (cz_ne l m)
  | cons a r => exact List.mem_cons_self
theorem flat_head {β : Type} (f : Nat → List β) : ∀ (ls : List Nat) (p : Nat → Prop) [DecidablePred p], (∀ c ∈ ls, ¬ p c → f c = []) → ∀ c r, (ls.filter fun c => decide (p c)) = c :: r → f c ≠ [] → (ls.flatMap f).head? = (f c).head?
  | [], p, _, _, c, r, e, _ => by cases e
  | a :: ls, p, _, h, c, r, e, ne => by
    rw [List.flatMap_cons]
    by_cases z : p a
    · rw [List.filter_cons_of_pos (by simpa using z)] at e
      cases e
      rw [List.head?_append]
      cases h' : f a with
      | nil => exact absurd h' ne
      | cons x y => rfl
    · rw [List.filter_cons_of_neg (by simpa using z)] at e
      rw [h a List.mem_cons_self z, List.nil_append]
      exact flat_head f ls p (fun d hd => h d (List.mem_cons_of_mem _ hd)) c r e ne
theorem cf_eq {l m : List Nat} {c : Nat} {r : List Nat} (h : 0 < cl2 l m) (e : ((bl2 l m).filter fun c => decide (cl2 (aft c l) (aft c m) + 1 = cl2 l m)) = c :: r) : cf l m = c :: cf (aft c l) (aft c m) := by
  have hc : cl2 (aft c l) (aft c m) + 1 = cl2 l m := by
    have : c ∈ (bl2 l m).filter fun c => decide (cl2 (aft c l) (aft c m) + 1 = cl2 l m) := by rw [e]; exact List.mem_cons_self
    exact of_decide_eq_true (List.mem_filter.mp this).2
  have hh := flat_head (fun c => if cl2 (aft c l) (aft c m) + 1 = cl2 l m then (cz (aft c l) (aft c m)).map (c :: ·) else []) (bl2 l m) (fun c => cl2 (aft c l) (aft c m) + 1 = cl2 l m) (fun d _ z => if_neg z) c r e (by
    rw [if_pos hc]
    intro z
    exact cz_ne _ _ (List.map_eq_nil_iff.mp z))
  rw [← cz_eq h, if_pos hc, List.head?_map] at hh
  unfold cf
  cases e1 : cz l m with
  | nil => exact absurd e1 (cz_ne l m)
  | cons a s =>
    cases e2 : cz (aft c l) (aft c m) with
    | nil => exact absurd e2 (cz_ne _ _)
    | cons b t =>
      rw [e1, e2] at hh
      exact Option.some.inj hh
theorem good_ne {l m : List Nat} (h : 0 < cl2 l m) : ((bl2 l m).filter fun c => decide (cl2 (aft c l) (aft c m) + 1 = cl2 l m)) ≠ [] := fun z => by
  have := cn2_eq h
  rw [z] at this
  have := cn2_pos l m
  simp at *
  omega
theorem cf_nil {l m : List Nat} (h : cl2 l m = 0) : cf l m = [] := by unfold cf; rw [cz_nil h]; rfl
theorem cl2_le (l m : List Nat) (lw : Low l) : cl2 l m ≤ l.length := by
  obtain ⟨w, h1, h2⟩ := cl2_at l m
  rw [← h2]
  exact ((cx_mem lw).mp h1).1.length_le
end Lv

set_option linter.all false
set_option maxRecDepth 100000
namespace Lv
open PySem PySem.Spec PyProof.Rows L2 SX
/-! arches -/
def Lets (ls : List Nat) : Prop := ls ≠ [] ∧ Low ls ∧ ls.Pairwise (· < ·)
theorem Lets.len {ls : List Nat} (h : Lets ls) : ls.length ≤ 26 := nodup_len ls abc (h.2.2.imp fun h => Nat.ne_of_lt h) fun c hc => abc_mem (h.2.1 c hc)
theorem Lets.pos {ls : List Nat} (h : Lets ls) : 0 < ls.length := List.length_pos_iff.mpr h.1
theorem Lets.one {c : Nat} (h : 97 ≤ c ∧ c ≤ 122) : Lets [c] := ⟨by simp, Low.one h, by simp⟩
def allIn (ls w : List Nat) : Bool := ls.all fun c => decide (c ∈ w)
theorem allIn_iff {ls w : List Nat} : allIn ls w = true ↔ ∀ c ∈ ls, c ∈ w := by
  unfold allIn
  rw [List.all_eq_true]
  simp
theorem allIn_nil {ls w : List Nat} : allIn ls w = decide (ls.filter (fun c => decide (c ∉ w)) = []) := by
  rw [Bool.eq_iff_iff, allIn_iff, decide_eq_true_eq, List.filter_eq_nil_iff]
  simp
def cutN (l : List Nat) (b e : Nat) : List Nat := (l.drop b).take (e - b)
theorem cutL_N {l : List Nat} {b e : Nat} (h : b ≤ e) : cutL l (some (b : Int)) (some (e : Int)) = cutN l b e := by
  have := cutL_mid l b (e - b)
  rw [show ((b : Nat) : Int) + ((e - b : Nat) : Int) = (e : Nat) by omega] at this
  exact this
def arcS (ls l : List Nat) : Nat → List Nat × Nat
  | 0 => ([], 0)
  | e + 1 => if allIn ls (cutN l (arcS ls l e).2 (e + 1)) then ((arcS ls l e).1 ++ [e + 1], e + 1) else arcS ls l e
def arcs (ls l : List Nat) : List Nat := (arcS ls l l.length).1
theorem arcS_le (ls l : List Nat) : ∀ e, (arcS ls l e).2 ≤ e
  | 0 => Nat.le_refl _
  | e + 1 => by
    rw [arcS]
    split
    · exact Nat.le_refl _
    · have := arcS_le ls l e; omega
theorem arcS_len (ls l : List Nat) : ∀ e, (arcS ls l e).1.length ≤ e
  | 0 => Nat.le_refl _
  | e + 1 => by
    rw [arcS]
    have := arcS_len ls l e
    split
    · simp; omega
    · omega
theorem arcs_len (ls l : List Nat) : (arcs ls l).length ≤ l.length := arcS_len ls l _
/-- numbers to be drawn -/
def Dr (H : Hp) (d : Addr) : Prop := ∃ ns : List Nat, H d = some (.lst (ns.map iv)) ∧ ns.length ≤ 240
theorem Dr.same {H H' : Hp} {d : Addr} (e : Same H H') (x : Dr H d) : Dr H' d := by
  obtain ⟨ns, a, b⟩ := x
  exact ⟨ns, e _ _ a, b⟩
theorem Dr.ne {H : Hp} {d p : Addr} (x : Dr H d) (n : H p = none) : d ≠ p := by
  obtain ⟨ns, a, b⟩ := x
  exact ne_of_none a n
theorem Dr.updN {H : Hp} {d p : Addr} {o : HO} (x : Dr H d) (n : d ≠ p) : Dr (L2.upd H p o) d := by
  obtain ⟨ns, a, b⟩ := x
  exact ⟨ns, by rw [upd_ne n]; exact a, b⟩
end Lv

set_option Elab.async false
set_option linter.all false
set_option maxRecDepth 100000
namespace Lv
open PySem L2
/-- all words of so many of the letters, as texts are ordered -/
def aw (ls : List Nat) : Nat → List (List Nat)
  | 0 => [[]]
  | k + 1 => ls.flatMap fun c => (aw ls k).map (c :: ·)
theorem aw_mem {ls : List Nat} : ∀ {k : Nat} {w : List Nat}, w ∈ aw ls k ↔ w.length = k ∧ ∀ c ∈ w, c ∈ ls
  | 0, w => by
    simp only [aw, List.mem_singleton]
    constructor
    · rintro rfl; simp
    · rintro ⟨h, _⟩; exact List.length_eq_zero_iff.mp h
  | k + 1, w => by
    simp only [aw, List.mem_flatMap, List.mem_map]
    constructor
    · rintro ⟨c, hc, v, hv, rfl⟩
      obtain ⟨h1, h2⟩ := aw_mem.mp hv
      refine ⟨by simp [h1], fun d hd => ?_⟩
      rcases List.mem_cons.mp hd with e | e
      · rw [e]; exact hc
      · exact h2 d e
    · rintro ⟨h1, h2⟩
      cases w with
      | nil => cases h1
      | cons c v => exact ⟨c, h2 c List.mem_cons_self, v, aw_mem.mpr ⟨by simpa using h1, fun d hd => h2 d (List.mem_cons_of_mem _ hd)⟩, rfl⟩
theorem aw_up {ls : List Nat} (up : ls.Pairwise (· < ·)) : ∀ k, (aw ls k).Pairwise (· < ·)
  | 0 => by simp [aw]
  | k + 1 => by
    rw [aw, List.pairwise_flatMap]
    refine ⟨fun c _ => ?_, up.imp fun {a b} hab x hx y hy => ?_⟩
    · rw [List.pairwise_map]
      exact (aw_up up k).imp fun {a b} h => List.cons_lt_cons_iff.mpr (.inr ⟨rfl, h⟩)
    · obtain ⟨x', _, rfl⟩ := List.mem_map.mp hx
      obtain ⟨y', _, rfl⟩ := List.mem_map.mp hy
      exact List.cons_lt_cons_iff.mpr (.inl hab)
/-- those of them that aren't left -/
def ab (ls : List Nat) (k : Nat) (l : List Nat) : List (List Nat) := (aw ls k).filter fun w => decide (¬ w.Sublist l)
theorem ab_mem {ls l w : List Nat} {k : Nat} : w ∈ ab ls k l ↔ (w.length = k ∧ ∀ c ∈ w, c ∈ ls) ∧ ¬ w.Sublist l := by
  unfold ab
  rw [List.mem_filter, aw_mem, decide_eq_true_iff]
theorem ab_zero (ls l : List Nat) : ab ls 0 l = [] := by
  simp [ab, aw]
theorem ab_up {ls : List Nat} (up : ls.Pairwise (· < ·)) (k : Nat) (l : List Nat) : (ab ls k l).Pairwise (· < ·) := (aw_up up k).filter _
theorem ab_succ (ls l : List Nat) (k : Nat) : ab ls (k + 1) l = ls.flatMap fun c => (if c ∈ l then ab ls k (aft c l) else aw ls k).map (c :: ·) := by
  unfold ab
  rw [aw, List.filter_flatMap]
  congr 1
  funext c
  rw [List.filter_map]
  by_cases h : c ∈ l
  · rw [if_pos h]
    congr 1
    apply List.filter_congr
    intro w _
    show decide (¬ (c :: w).Sublist l) = _
    congr 1
    rw [cons_sub]
    simp [h]
  · rw [if_neg h]
    congr 1
    rw [List.filter_eq_self]
    intro w _
    show decide (¬ (c :: w).Sublist l) = true
    rw [decide_eq_true_iff, cons_sub]
    exact fun z => h z.1
/-- k is the least length of which some aren't left, n how many -/
def Sh (ls l : List Nat) (k n : Nat) : Prop := (∀ j, j < k → ab ls j l = []) ∧ ab ls k l ≠ [] ∧ n = (ab ls k l).length
theorem Sh.uniq {ls l : List Nat} {k n k' n' : Nat} (h : Sh ls l k n) (h' : Sh ls l k' n') : k = k' ∧ n = n' := by
  obtain ⟨a1, a2, a3⟩ := h
  obtain ⟨b1, b2, b3⟩ := h'
  have e : k = k' := by
    rcases Nat.lt_trichotomy k k' with z | z | z
    · exact absurd (b1 k z) a2
    · exact z
    · exact absurd (a1 k' z) b2
  subst e
  exact ⟨rfl, by rw [a3, b3]⟩
theorem ab_long {ls l : List Nat} (h : ls ≠ []) : ab ls (l.length + 1) l ≠ [] := by
  obtain ⟨c, r, rfl⟩ := List.exists_cons_of_ne_nil h
  intro e
  have : List.replicate (l.length + 1) c ∈ ab (c :: r) (l.length + 1) l := ab_mem.mpr ⟨⟨by simp, fun d hd => by rw [(List.mem_replicate.mp hd).2]; exact List.mem_cons_self⟩, fun z => by have := z.length_le; simp at this; omega⟩
  rw [e] at this
  cases this
theorem least_of {P : Nat → Prop} [DecidablePred P] : ∀ n, P n → ∃ k, k ≤ n ∧ P k ∧ ∀ j, j < k → ¬ P j := by
  intro n
  induction n using Nat.strongRecOn with
  | _ n ih =>
    intro h
    by_cases z : ∃ j, j < n ∧ P j
    · obtain ⟨j, h1, h2⟩ := z
      obtain ⟨k, a, b, c⟩ := ih j h1 h2
      exact ⟨k, by omega, b, c⟩
    · exact ⟨n, Nat.le_refl _, h, fun j hj hp => z ⟨j, hj, hp⟩⟩
theorem sh_ex {ls : List Nat} (h : ls ≠ []) (l : List Nat) : ∃ k, k ≤ l.length + 1 ∧ Sh ls l k (ab ls k l).length := by
  obtain ⟨k, h1, h2, h3⟩ := least_of (P := fun k => ab ls k l ≠ []) (l.length + 1) (ab_long h)
  exact ⟨k, h1, fun j hj => Decidable.not_not.mp (h3 j hj), h2, rfl⟩
/-- the least length of which some aren't left -/
def sh (ls l : List Nat) : Nat := ((List.range (l.length + 2)).find? fun k => decide (ab ls k l ≠ [])).getD 0
def shn (ls l : List Nat) : Nat := (ab ls (sh ls l) l).length
theorem sh_ok {ls : List Nat} (h : ls ≠ []) (l : List Nat) : Sh ls l (sh ls l) (shn ls l) := by
  obtain ⟨k, hk, s⟩ := sh_ex h l
  have e : (List.range (l.length + 2)).find? (fun k => decide (ab ls k l ≠ [])) = some k := by
    rw [List.find?_range_eq_some]
    exact ⟨decide_eq_true s.2.1, List.mem_range.mpr (by omega), fun j hj => by rw [s.1 j hj]; rfl⟩
  have : sh ls l = k := by unfold sh; rw [e]; rfl
  unfold shn
  rw [this]
  exact s
theorem sh_is {ls l : List Nat} {k n : Nat} (h : ls ≠ []) (s : Sh ls l k n) : sh ls l = k ∧ shn ls l = n := (sh_ok h l).uniq s
theorem sh_le {ls : List Nat} (h : ls ≠ []) (l : List Nat) : sh ls l ≤ l.length + 1 := by
  obtain ⟨k, hk, s⟩ := sh_ex h l
  rw [(sh_is h s).1]; exact hk
theorem sh_pos {ls : List Nat} (h : ls ≠ []) (l : List Nat) : 1 ≤ sh ls l := by
  have s := sh_ok h l
  rcases Nat.eq_zero_or_pos (sh ls l) with z | z
  · exact absurd (by rw [z]; exact ab_zero ls l) s.2.1
  · exact z
theorem shn_pos {ls : List Nat} (h : ls ≠ []) (l : List Nat) : 1 ≤ shn ls l := List.length_pos_iff.mpr (sh_ok h l).2.1
/-- what a letter leads to -/
def led (ls l : List Nat) (c : Nat) : Nat × Nat := if c ∈ l then (sh ls (aft c l) + 1, shn ls (aft c l)) else (1, 1)
theorem len_flat {α β : Type} (f : α → List β) (l : List α) : (l.flatMap f).length = (l.map fun c => (f c).length).sum := by
  induction l with
  | nil => rfl
  | cons a l ih => rw [List.flatMap_cons, List.length_append, ih, List.map_cons, List.sum_cons]
theorem sum_zero {α : Type} (f : α → Nat) : ∀ l : List α, (∀ c ∈ l, f c = 0) → (l.map f).sum = 0
  | [], _ => rfl
  | a :: l, h => by rw [List.map_cons, List.sum_cons, h a List.mem_cons_self, sum_zero f l fun c hc => h c (List.mem_cons_of_mem _ hc)]
theorem mem_le_sum : ∀ {l : List Nat} {x : Nat}, x ∈ l → x ≤ l.sum
  | a :: l, x, h => by
    rw [List.sum_cons]
    rcases List.mem_cons.mp h with e | e
    · omega
    · have := mem_le_sum e; omega
/-- how many with a letter ahead aren't left -/
def abc1 (ls l : List Nat) (k c : Nat) : Nat := (if c ∈ l then ab ls k (aft c l) else aw ls k).length
theorem ab_len (ls l : List Nat) (k : Nat) : (ab ls (k + 1) l).length = (ls.map fun c => abc1 ls l k c).sum := by
  rw [ab_succ, len_flat]
  simp only [List.length_map]
  rfl
theorem abc1_less {ls l : List Nat} {k c : Nat} (h : ls ≠ []) (hk : k + 1 < (led ls l c).1) : abc1 ls l k c = 0 := by
  unfold led at hk
  unfold abc1
  by_cases z : c ∈ l
  · rw [if_pos z] at hk ⊢
    rw [(sh_ok h (aft c l)).1 k (by simpa using hk)]
    rfl
  · rw [if_neg z] at hk
    simp at hk
theorem abc1_at {ls l : List Nat} {k c : Nat} (hk : k + 1 = (led ls l c).1) : abc1 ls l k c = (led ls l c).2 := by
  unfold led at hk ⊢
  unfold abc1
  by_cases z : c ∈ l
  · rw [if_pos z] at hk ⊢
    rw [if_pos z]
    have : k = sh ls (aft c l) := by simpa using hk
    rw [this]
    rfl
  · rw [if_neg z] at hk ⊢
    rw [if_neg z]
    have : k = 0 := by simpa using hk
    subst this
    rfl
theorem sum_sel (ls : List Nat) (f : Nat → Nat × Nat) (m : Nat) : ((ls.map f).filter (fun p => decide (p.1 = m))).map (·.2) = (ls.filter fun c => decide ((f c).1 = m)).map fun c => (f c).2 := by
  induction ls with
  | nil => rfl
  | cons a l ih =>
    rw [List.map_cons, List.filter_cons, List.filter_cons]
    by_cases z : (f a).1 = m
    · rw [if_pos (by simp [z]), if_pos (by simp [z]), List.map_cons, List.map_cons, ih]
    · rw [if_neg (by simp [z]), if_neg (by simp [z]), ih]
theorem lack_step {ls l : List Nat} (h : ls ≠ []) {m : Nat} (h1 : m ∈ (ls.map (led ls l)).map (·.1)) (h2 : ∀ y, y ∈ (ls.map (led ls l)).map (·.1) → m ≤ y) :
    m = sh ls l ∧ (((ls.map (led ls l)).filter (fun p => decide (p.1 = m))).map (·.2)).sum = shn ls l := by
  have low : ∀ c ∈ ls, m ≤ (led ls l c).1 := fun c hc => h2 _ (by rw [List.map_map]; exact List.mem_map.mpr ⟨c, hc, rfl⟩)
  obtain ⟨c0, hc0, e0⟩ : ∃ c, c ∈ ls ∧ (led ls l c).1 = m := by
    rw [List.map_map] at h1
    obtain ⟨c, a, b⟩ := List.mem_map.mp h1
    exact ⟨c, a, b⟩
  have pos : 1 ≤ m := by
    rw [← e0]
    unfold led
    split
    · exact Nat.le_add_left _ _
    · exact Nat.le_refl _
  obtain ⟨k, rfl⟩ : ∃ k, m = k + 1 := ⟨m - 1, by omega⟩
  have cnt : (((ls.map (led ls l)).filter (fun p => decide (p.1 = k + 1))).map (·.2)).sum = (ab ls (k + 1) l).length := by
    rw [ab_len, sum_sel, sum_filter (p := fun c => (led ls l c).1 = k + 1)]
    congr 1
    apply List.map_congr_left
    intro c hc
    by_cases z : (led ls l c).1 = k + 1
    · rw [if_pos z, abc1_at z.symm]
    · rw [if_neg z, abc1_less h (by have := low c hc; omega)]
  have s : Sh ls l (k + 1) (ab ls (k + 1) l).length := by
    refine ⟨fun j hj => ?_, ?_, rfl⟩
    · cases j with
      | zero => exact ab_zero ls l
      | succ j =>
        apply List.length_eq_zero_iff.mp
        rw [ab_len]
        exact sum_zero _ _ fun c hc => abc1_less h (by have := low c hc; omega)
    · intro e
      have z : (ab ls (k + 1) l).length = 0 := by rw [e]; rfl
      rw [ab_len] at z
      have : abc1 ls l k c0 ≤ (ls.map fun c => abc1 ls l k c).sum := by
        exact mem_le_sum (List.mem_map.mpr ⟨c0, hc0, rfl⟩)
      rw [abc1_at e0.symm] at this
      have p : 1 ≤ (led ls l c0).2 := by
        unfold led
        split
        · exact shn_pos h _
        · exact Nat.le_refl _
      omega
  have := sh_is h s
  exact ⟨this.1.symm, by rw [cnt, this.2]⟩
end Lv

set_option Elab.async false
set_option linter.all false
set_option maxRecDepth 100000
namespace Lv
open PySem L2
end Lv

set_option Elab.async false
set_option linter.all false
set_option maxRecDepth 100000
namespace Lv
open PySem L2
/-- where the first places of a row end -/
def gf (l : List Nat) : Nat → List Nat → Option Nat
  | p, [] => some p
  | p, c :: w => (nextP l p c).bind fun k => gf l (k + 1) w
theorem gf_snoc (l : List Nat) : ∀ (w : List Nat) (p c : Nat), gf l p (w ++ [c]) = (gf l p w).bind fun q => (nextP l q c).map (· + 1)
  | [], p, c => by
    show (nextP l p c).bind (fun k => some (k + 1)) = (nextP l p c).map (· + 1)
    cases nextP l p c <;> rfl
  | d :: w, p, c => by
    show (nextP l p d).bind (fun k => gf l (k + 1) (w ++ [c])) = _
    cases e : nextP l p d with
    | none => simp [gf, e]
    | some k =>
      show gf l (k + 1) (w ++ [c]) = _
      rw [gf_snoc l w (k + 1) c]
      simp [gf, e]
theorem gf_fp (l : List Nat) : ∀ (w : List Nat) (p : Nat), (gf l p w).isSome = (fp l p w).isSome
  | [], p => rfl
  | c :: w, p => by
    cases e : nextP l p c with
    | none => rw [fp_none w e]; simp [gf, e]
    | some k =>
      rw [fp_some w e, Option.isSome_map, ← gf_fp l w (k + 1)]
      simp [gf, e]
theorem gf_left {l w : List Nat} : (gf l 0 w).isSome ↔ w.Sublist l := by rw [gf_fp]; exact fp0 l w
theorem gf_none {l w : List Nat} : gf l 0 w = none ↔ ¬ w.Sublist l := by
  rw [← gf_left]
  cases gf l 0 w <;> simp
theorem gf_le {l : List Nat} : ∀ {w : List Nat} {p q : Nat}, gf l p w = some q → p ≤ l.length → q ≤ l.length
  | [], p, q, h, hp => by cases h; exact hp
  | c :: w, p, q, h, hp => by
    cases e : nextP l p c with
    | none => simp [gf, e] at h
    | some k =>
      have : gf l (k + 1) w = some q := by simpa [gf, e] using h
      exact gf_le this (by have := nextP_lt e; omega)
def gr (l : List Nat) (X : List (List Nat)) (p : Nat) : List (List Nat) := X.filter fun w => decide (gf l 0 w = some p)
def gn (l : List Nat) (X : List (List Nat)) : List (List Nat) := X.filter fun w => decide (gf l 0 w = none)
theorem gr_mem {l w : List Nat} {X : List (List Nat)} {p : Nat} : w ∈ gr l X p ↔ w ∈ X ∧ gf l 0 w = some p := by unfold gr; rw [List.mem_filter, decide_eq_true_iff]
theorem gn_mem {l w : List Nat} {X : List (List Nat)} : w ∈ gn l X ↔ w ∈ X ∧ gf l 0 w = none := by unfold gn; rw [List.mem_filter, decide_eq_true_iff]
theorem gr_app (l : List Nat) (X Y : List (List Nat)) (p : Nat) : gr l (X ++ Y) p = gr l X p ++ gr l Y p := List.filter_append ..
theorem gn_app (l : List Nat) (X Y : List (List Nat)) : gn l (X ++ Y) = gn l X ++ gn l Y := List.filter_append ..
/-- so many with these first places, the first of them -/
def Grp (l : List Nat) (X : List (List Nat)) (p n : Nat) (m : List Nat) : Prop := n = (gr l X p).length ∧ m ∈ gr l X p ∧ ∀ w ∈ gr l X p, ¬ w < m
structure Off (l : List Nat) (X : List (List Nat)) (os : List (List Nat × Nat)) : Prop where
  sum : (os.map (·.2)).sum = (gn l X).length
  mem : ∀ o ∈ os, o.1 ∈ gn l X
  low : ∀ w ∈ gn l X, ∃ o ∈ os, ¬ w < o.1
theorem lt_snoc {c : Nat} : ∀ {a b : List Nat}, a.length = b.length → a ++ [c] < b ++ [c] → a < b
  | [], [], _, h => by simp at h
  | x :: a, y :: b, hl, h => by
    rw [List.cons_append, List.cons_append, List.cons_lt_cons_iff] at h
    rcases h with h | ⟨rfl, h⟩
    · exact List.cons_lt_cons_iff.mpr (.inl h)
    · exact List.cons_lt_cons_iff.mpr (.inr ⟨rfl, lt_snoc (by simpa using hl) h⟩)
def bt (l : List Nat) (W : List (List Nat)) (p c : Nat) : List (List Nat) := (gr l W p).map (· ++ [c])
theorem bt_gf {l w : List Nat} {W : List (List Nat)} {p c : Nat} (h : w ∈ bt l W p c) : gf l 0 w = (nextP l p c).map (· + 1) := by
  obtain ⟨v, hv, rfl⟩ := List.mem_map.mp h
  rw [gf_snoc, (gr_mem.mp hv).2]
  rfl
theorem filter_all {α : Type} {p : α → Bool} {l : List α} (h : ∀ x ∈ l, p x = true) : l.filter p = l := List.filter_eq_self.mpr h
theorem filter_no {α : Type} {p : α → Bool} {l : List α} (h : ∀ x ∈ l, ¬ p x = true) : l.filter p = [] := List.filter_eq_nil_iff.mpr h
theorem bt_gr_some {l : List Nat} {W : List (List Nat)} {p c k : Nat} (h : nextP l p c = some k) : gr l (bt l W p c) (k + 1) = bt l W p c := filter_all fun w hw => by rw [bt_gf hw, h]; simp
theorem bt_gn_some {l : List Nat} {W : List (List Nat)} {p c k : Nat} (h : nextP l p c = some k) : gn l (bt l W p c) = [] := filter_no fun w hw => by rw [bt_gf hw, h]; simp
theorem bt_low {l m : List Nat} {W : List (List Nat)} {p c n j : Nat} (hW : ∀ w ∈ W, w.length = j) (g : Grp l W p n m) : m ++ [c] ∈ bt l W p c ∧ ∀ w ∈ bt l W p c, ¬ w < m ++ [c] := by
  obtain ⟨_, g2, g3⟩ := g
  refine ⟨List.mem_map.mpr ⟨m, g2, rfl⟩, fun w hw => ?_⟩
  obtain ⟨v, hv, rfl⟩ := List.mem_map.mp hw
  intro z
  exact g3 v hv (lt_snoc (by rw [hW v (gr_mem.mp hv).1, hW m (gr_mem.mp g2).1]) z)
theorem Off.keep {l : List Nat} {W X : List (List Nat)} {p c k : Nat} {os : List (List Nat × Nat)} (hn : nextP l p c = some k) (h : Off l X os) : Off l (X ++ bt l W p c) os := by
  have e : gn l (X ++ bt l W p c) = gn l X := by rw [gn_app, bt_gn_some hn, List.append_nil]
  exact ⟨by rw [e]; exact h.sum, by rw [e]; exact h.mem, by rw [e]; exact h.low⟩
theorem Off.none {l : List Nat} : Off l [] [] := ⟨rfl, fun _ z => (nomatch z), fun _ z => (nomatch z)⟩
theorem Grp.keep {l m' : List Nat} {W X : List (List Nat)} {p c q n' : Nat} (h : Grp l X q n' m') (e : gr l (bt l W p c) q = []) : Grp l (X ++ bt l W p c) q n' m' := by
  have e : gr l (X ++ bt l W p c) q = gr l X q := by rw [gr_app, e, List.append_nil]
  unfold Grp
  rw [e]
  exact h
theorem Grp.first {l m : List Nat} {W X : List (List Nat)} {p c n k j : Nat} (hW : ∀ w ∈ W, w.length = j) (g : Grp l W p n m) (hn : nextP l p c = some k) (h : gr l X (k + 1) = []) : Grp l (X ++ bt l W p c) (k + 1) n (m ++ [c]) := by
  obtain ⟨b1, b2⟩ := bt_low (c := c) hW g
  have e : gr l (X ++ bt l W p c) (k + 1) = bt l W p c := by rw [gr_app, bt_gr_some hn, h, List.nil_append]
  unfold Grp
  rw [e]
  exact ⟨by rw [g.1, bt, List.length_map], b1, b2⟩
theorem Grp.more {l m m' : List Nat} {W X : List (List Nat)} {p c n n' k j : Nat} (hW : ∀ w ∈ W, w.length = j) (g : Grp l W p n m) (hn : nextP l p c = some k) (h : Grp l X (k + 1) n' m') : Grp l (X ++ bt l W p c) (k + 1) (n' + n) (if m ++ [c] < m' then m ++ [c] else m') := by
  obtain ⟨b1, b2⟩ := bt_low (c := c) hW g
  obtain ⟨h1, h2, h3⟩ := h
  have e : gr l (X ++ bt l W p c) (k + 1) = gr l X (k + 1) ++ bt l W p c := by rw [gr_app, bt_gr_some hn]
  unfold Grp
  rw [e]
  refine ⟨by rw [List.length_append, ← h1, g.1, bt, List.length_map], ?_, fun w hw => ?_⟩
  · split
    · exact List.mem_append_right _ b1
    · exact List.mem_append_left _ h2
  · rcases List.mem_append.mp hw with z | z
    · split
      · next y => exact fun x => h3 w z (List.lt_trans x y)
      · exact h3 w z
    · split
      · exact b2 w z
      · next y => exact fun x => y (List.lt_of_le_of_lt (List.not_lt.mp (b2 w z)) x)
/-- all words of so many of the letters, in any order -/
def Al (ls : List Nat) (j : Nat) (W : List (List Nat)) : Prop := W.Nodup ∧ ∀ w, w ∈ W ↔ w.length = j ∧ ∀ c ∈ w, c ∈ ls
theorem Al.zero (ls : List Nat) : Al ls 0 [[]] := ⟨by simp, fun w => by
  rw [List.mem_singleton]
  constructor
  · rintro rfl; simp
  · rintro ⟨h, _⟩; exact List.length_eq_zero_iff.mp h⟩
def nx1 (l ls : List Nat) (W : List (List Nat)) (p : Nat) : List (List Nat) := ls.flatMap fun c => bt l W p c
theorem Al.next {ls l ps : List Nat} {j : Nat} {W : List (List Nat)} (hA : Al ls j W) (hls : ls.Nodup) (nd : ps.Nodup) (hp : ∀ w ∈ W, ∃ p ∈ ps, gf l 0 w = some p) : Al ls (j + 1) (ps.flatMap fun p => nx1 l ls W p) := by
  obtain ⟨a1, a2⟩ := hA
  refine ⟨?_, fun w => ?_⟩
  · unfold List.Nodup
    rw [List.pairwise_flatMap]
    refine ⟨fun p _ => ?_, nd.imp fun {p p'} hne x hx y hy z => ?_⟩
    · unfold nx1
      rw [List.pairwise_flatMap]
      refine ⟨fun c _ => ?_, hls.imp fun {c c'} hne x hx y hy z => ?_⟩
      · unfold bt
        rw [List.pairwise_map]
        exact (a1.filter _).imp fun {a b} h z => h (List.append_inj_left' z rfl)
      · obtain ⟨v, _, rfl⟩ := List.mem_map.mp hx
        obtain ⟨v', _, rfl⟩ := List.mem_map.mp hy
        have := List.append_inj_right' z rfl
        exact hne (by simpa using this)
    · obtain ⟨c, _, h1⟩ := List.mem_flatMap.mp hx
      obtain ⟨c', _, h2⟩ := List.mem_flatMap.mp hy
      obtain ⟨v, hv, rfl⟩ := List.mem_map.mp h1
      obtain ⟨v', hv', rfl⟩ := List.mem_map.mp h2
      have := List.append_inj_left' z rfl
      subst this
      have e := (gr_mem.mp hv).2.symm.trans (gr_mem.mp hv').2
      exact hne (Option.some.inj e)
  · constructor
    · intro h
      obtain ⟨p, _, h1⟩ := List.mem_flatMap.mp h
      obtain ⟨c, hc, h2⟩ := List.mem_flatMap.mp h1
      obtain ⟨v, hv, rfl⟩ := List.mem_map.mp h2
      obtain ⟨e1, e2⟩ := (a2 v).mp (gr_mem.mp hv).1
      refine ⟨by simp [e1], fun d hd => ?_⟩
      rcases List.mem_append.mp hd with z | z
      · exact e2 d z
      · rw [List.mem_singleton.mp z]; exact hc
    · rintro ⟨h1, h2⟩
      have hne : w ≠ [] := fun z => by rw [z] at h1; cases h1
      have hw := List.dropLast_concat_getLast hne
      have hv : w.dropLast ∈ W := (a2 _).mpr ⟨by rw [List.length_dropLast, h1]; rfl, fun c hc => h2 c (List.dropLast_subset _ hc)⟩
      obtain ⟨p, hp1, hp2⟩ := hp _ hv
      refine List.mem_flatMap.mpr ⟨p, hp1, List.mem_flatMap.mpr ⟨w.getLast hne, h2 _ (List.getLast_mem hne), List.mem_map.mpr ⟨w.dropLast, gr_mem.mpr ⟨hv, hp2⟩, hw⟩⟩⟩
theorem Al.cnt {ls l : List Nat} {j : Nat} {X : List (List Nat)} (h : Al ls j X) (up : ls.Pairwise (· < ·)) : (gn l X).length = (ab ls j l).length ∧ ∀ w, w ∈ gn l X ↔ w ∈ ab ls j l := by
  have hm : ∀ w, w ∈ gn l X ↔ w ∈ ab ls j l := fun w => by rw [gn_mem, ab_mem, h.2, gf_none]
  have n1 : (Lv.gn l X).Nodup := h.1.filter _
  have n2 : (ab ls j l).Nodup := (ab_up up j l).imp fun h z => by subst z; exact List.lt_irrefl _ h
  exact ⟨Nat.le_antisymm (nodup_len _ _ n1 fun w hw => (hm w).mp hw) (nodup_len _ _ n2 fun w hw => (hm w).mpr hw), hm⟩
/-- the first of the shortest that aren't left -/
def shf (ls l : List Nat) : List Nat := (ab ls (sh ls l) l).headD []
/-- a letter ahead of the first of the shortest -/
theorem head_flat {α β : Type} (f : α → List β) (d : β) : ∀ (xs : List α) (k : Nat) (c : α), xs[k]? = some c → (∀ i x, i < k → xs[i]? = some x → f x = []) → f c ≠ [] → (xs.flatMap f).headD d = (f c).headD d
  | [], k, c, h, _, _ => by simp at h
  | x :: xs, 0, c, h, _, hc => by
    have : x = c := by simpa using h
    subst this
    rw [List.flatMap_cons]
    cases e : f x with
    | nil => exact absurd e hc
    | cons a r => rfl
  | x :: xs, k + 1, c, h, hz, hc => by
    rw [List.flatMap_cons, hz 0 x (by omega) rfl, List.nil_append]
    exact head_flat f d xs k c (by simpa using h) (fun i y hi hy => hz (i + 1) y (by omega) (by simpa using hy)) hc
theorem shf_step {ls l : List Nat} (h : ls ≠ []) {k c : Nat} (hk : ls[k]? = some c) (hc : (led ls l c).1 = sh ls l) (hz : ∀ i d, i < k → ls[i]? = some d → (led ls l d).1 ≠ sh ls l) :
    shf ls l = c :: (if c ∈ l then shf ls (aft c l) else []) := by
  have p := sh_pos h l
  obtain ⟨m, hm⟩ : ∃ m, sh ls l = m + 1 := ⟨sh ls l - 1, by omega⟩
  have low : ∀ d ∈ ls, sh ls l ≤ (led ls l d).1 := fun d hd => by
    rcases Nat.lt_or_ge (led ls l d).1 (sh ls l) with z | z
    · exfalso
      have p1 : 1 ≤ (led ls l d).1 := by unfold led; split <;> simp
      obtain ⟨m', hm'⟩ : ∃ m', (led ls l d).1 = m' + 1 := ⟨(led ls l d).1 - 1, by omega⟩
      have e := (sh_ok h l).1 (m' + 1) (by omega)
      have e2 : (ab ls (m' + 1) l).length = 0 := by rw [e]; rfl
      rw [ab_len] at e2
      have : abc1 ls l m' d ≤ (ls.map fun c => abc1 ls l m' c).sum := mem_le_sum (List.mem_map.mpr ⟨d, hd, rfl⟩)
      rw [abc1_at hm'.symm] at this
      have p : 1 ≤ (led ls l d).2 := by
        unfold led
        split
        · exact shn_pos h _
        · exact Nat.le_refl _
      omega
    · exact z
  have hcl := List.mem_of_getElem? hk
  unfold shf
  rw [hm, ab_succ, head_flat _ [] ls k c hk ?_ ?_]
  · by_cases z : c ∈ l
    · rw [if_pos z, if_pos z]
      have e : m = sh ls (aft c l) := by
        unfold led at hc; rw [if_pos z] at hc; simp at hc; omega
      rw [e]
      cases e2 : ab ls (sh ls (aft c l)) (aft c l) with
      | nil => exact absurd e2 (sh_ok h (aft c l)).2.1
      | cons a r => rfl
    · rw [if_neg z, if_neg z]
      have e : m = 0 := by
        unfold led at hc; rw [if_neg z] at hc; simp at hc; omega
      rw [e]; rfl
  · intro i d hi hd
    have hdl := List.mem_of_getElem? hd
    have l1 := low d hdl
    have l2 := hz i d hi hd
    have : abc1 ls l m d = 0 := abc1_less h (by omega)
    unfold abc1 at this
    rw [List.length_eq_zero_iff.mp this]; rfl
  · have : abc1 ls l m c = (led ls l c).2 := abc1_at (by omega)
    have p : 1 ≤ (led ls l c).2 := by
      unfold led
      split
      · exact shn_pos h _
      · exact Nat.le_refl _
    unfold abc1 at this
    intro z
    have z2 := List.map_eq_nil_iff.mp z
    rw [z2] at this
    simp at this
    omega
end Lv

set_option Elab.async false
set_option linter.all false
set_option maxRecDepth 100000
namespace Lv
open PySem L2
theorem gf_app (l : List Nat) : ∀ (a b : List Nat) (p : Nat), gf l p (a ++ b) = (gf l p a).bind fun q => gf l q b
  | [], b, p => rfl
  | c :: a, b, p => by
    show (nextP l p c).bind (fun k => gf l (k + 1) (a ++ b)) = _
    cases e : nextP l p c with
    | none => simp [gf, e]
    | some k =>
      show gf l (k + 1) (a ++ b) = _
      rw [gf_app l a b (k + 1)]
      simp [gf, e]
theorem sub_gf {l w : List Nat} : w.Sublist l ↔ ∃ p, gf l 0 w = some p := by rw [← gf_left, Option.isSome_iff_exists]
/-- the first of the shortest rows left of l and not of m -/
def PW (l m : List Nat) : Option (List Nat) → Prop
  | none => ∀ v : List Nat, v.Sublist l → v.Sublist m
  | some w => w.Sublist l ∧ ¬ w.Sublist m ∧ ∀ v : List Nat, v.Sublist l → ¬ v.Sublist m → w.length ≤ v.length ∧ (w.length = v.length → ¬ v < w)
theorem PW.uniq {l m : List Nat} : ∀ {a b : Option (List Nat)}, PW l m a → PW l m b → a = b
  | none, none, _, _ => rfl
  | none, some w, h, k => absurd (h w k.1) k.2.1
  | some w, none, h, k => absurd (k w h.1) h.2.1
  | some w, some v, ⟨h1, h2, h3⟩, ⟨k1, k2, k3⟩ => by
    obtain ⟨a1, a2⟩ := h3 v k1 k2
    obtain ⟨b1, b2⟩ := k3 w h1 h2
    have e : w.length = v.length := by omega
    have x := a2 e
    have y := b2 e.symm
    have : w = v := Std.le_antisymm (List.not_lt.mp x) (List.not_lt.mp y)
    rw [this]
/-- two words that lead to the same places -/
def Sst (l m u v : List Nat) : Prop := gf l 0 u = gf l 0 v ∧ gf m 0 u = gf m 0 v
theorem Sst.snoc {l m u v : List Nat} (c : Nat) (h : Sst l m u v) : Sst l m (u ++ [c]) (v ++ [c]) := by
  unfold Sst
  rw [gf_snoc, gf_snoc, gf_snoc, gf_snoc, h.1, h.2]
  exact ⟨rfl, rfl⟩
theorem Sst.app {l m u v : List Nat} (r : List Nat) (h : Sst l m u v) : Sst l m (u ++ r) (v ++ r) := by
  unfold Sst
  rw [gf_app, gf_app, gf_app, gf_app, h.1, h.2]
  exact ⟨rfl, rfl⟩
theorem Sst.subl {l m u v : List Nat} (h : Sst l m u v) : (u.Sublist l ↔ v.Sublist l) ∧ (u.Sublist m ↔ v.Sublist m) := by
  rw [sub_gf, sub_gf, sub_gf, sub_gf, h.1, h.2]
  exact ⟨Iff.rfl, Iff.rfl⟩
abbrev Ent := List Nat × Nat × Nat
/-- a level: words of n letters with where they lead, rising; all states that such words lead to, but those of shorter ones -/
structure Lev (l m : List Nat) (n : Nat) (met : Nat → Nat → Prop) (lv : List Ent) : Prop where
  no : ∀ v : List Nat, v.Sublist l → v.length ≤ n → v.Sublist m
  st : ∀ e ∈ lv, e.1.length = n ∧ gf l 0 e.1 = some e.2.1 ∧ gf m 0 e.1 = some e.2.2
  up : (lv.map (·.1)).Pairwise (· < ·)
  all : ∀ v : List Nat, v.Sublist l → v.length = n → (∃ e ∈ lv, Sst l m e.1 v ∧ ¬ v < e.1) ∨ ∃ u : List Nat, u.length < n ∧ Sst l m u v
  mt : ∀ p q, met p q → ∃ u : List Nat, u.length ≤ n ∧ gf l 0 u = some p ∧ gf m 0 u = some q
/-- a level half made: behind the words of E -/
structure Mid (l m : List Nat) (n : Nat) (met : Nat → Nat → Prop) (E : List (List Nat)) (lo : List Ent) : Prop where
  st : ∀ e ∈ lo, e.1.length = n + 1 ∧ gf l 0 e.1 = some e.2.1 ∧ gf m 0 e.1 = some e.2.2
  up : (lo.map (·.1)).Pairwise (· < ·)
  sub : ∀ e ∈ lo, e.1 ∈ E
  cov : ∀ x ∈ E, x.Sublist l → x.Sublist m ∧ ((∃ e ∈ lo, Sst l m e.1 x ∧ ¬ x < e.1) ∨ ∃ u : List Nat, u.length ≤ n ∧ Sst l m u x)
  mt : ∀ p q, met p q → (∃ u : List Nat, u.length ≤ n ∧ gf l 0 u = some p ∧ gf m 0 u = some q) ∨ ∃ w, (w, p, q) ∈ lo
theorem Mid.start {l m : List Nat} {n : Nat} {met : Nat → Nat → Prop} (h : ∀ p q, met p q → ∃ u : List Nat, u.length ≤ n ∧ gf l 0 u = some p ∧ gf m 0 u = some q) : Mid l m n met [] [] :=
  ⟨fun _ z => (nomatch z), by simp, fun _ z => (nomatch z), fun _ z => (nomatch z), fun p q z => .inl (h p q z)⟩
section
variable {l m x : List Nat} {n : Nat} {met : Nat → Nat → Prop} {E : List (List Nat)} {lo : List Ent}
/-- a word that isn't left of l -/
theorem Mid.skip (h : Mid l m n met E lo) (hx : ¬ x.Sublist l) : Mid l m n met (E ++ [x]) lo :=
  ⟨h.st, h.up, fun e he => List.mem_append_left _ (h.sub e he), fun y hy hl => by
    rcases List.mem_append.mp hy with z | z
    · exact h.cov y z hl
    · rw [List.mem_singleton.mp z] at hl; exact absurd hl hx, h.mt⟩
theorem Mid.old {p q : Nat} (h : Mid l m n met E lo) (hE : ∀ y ∈ E, y < x) (hl : gf l 0 x = some p) (hm : gf m 0 x = some q) (hm2 : met p q) : Mid l m n met (E ++ [x]) lo :=
  ⟨h.st, h.up, fun e he => List.mem_append_left _ (h.sub e he), fun y hy hs => by
    rcases List.mem_append.mp hy with z | z
    · exact h.cov y z hs
    · rw [List.mem_singleton.mp z]
      refine ⟨sub_gf.mpr ⟨q, hm⟩, ?_⟩
      rcases h.mt p q hm2 with ⟨u, u1, u2, u3⟩ | ⟨w, hw⟩
      · exact .inr ⟨u, u1, u2.trans hl.symm, u3.trans hm.symm⟩
      · obtain ⟨_, w2, w3⟩ := h.st _ hw
        exact .inl ⟨_, hw, ⟨w2.trans hl.symm, w3.trans hm.symm⟩, fun y => List.lt_irrefl _ (List.lt_trans y (hE w (h.sub _ hw)))⟩, h.mt⟩
theorem Mid.new {p q : Nat} (h : Mid l m n met E lo) (hE : ∀ y ∈ E, y < x) (hx : x.length = n + 1) (hl : gf l 0 x = some p) (hm : gf m 0 x = some q) : Mid l m n (fun a b => met a b ∨ (a = p ∧ b = q)) (E ++ [x]) (lo ++ [(x, p, q)]) := by
  refine ⟨fun e he => ?_, ?_, fun e he => ?_, fun y hy hs => ?_, fun a b hab => ?_⟩
  · rcases List.mem_append.mp he with z | z
    · exact h.st e z
    · rw [List.mem_singleton.mp z]; exact ⟨hx, hl, hm⟩
  · rw [List.map_append, List.pairwise_append]
    refine ⟨h.up, by simp, fun a ha b hb => ?_⟩
    obtain ⟨e, he, rfl⟩ := List.mem_map.mp ha
    have : b = x := by simpa using hb
    rw [this]
    exact hE _ (h.sub e he)
  · rcases List.mem_append.mp he with z | z
    · exact List.mem_append_left _ (h.sub e z)
    · rw [List.mem_singleton.mp z]; exact List.mem_append_right _ (by simp)
  · rcases List.mem_append.mp hy with z | z
    · obtain ⟨h1, h2⟩ := h.cov y z hs
      refine ⟨h1, h2.imp ?_ id⟩
      rintro ⟨e, he, r⟩
      exact ⟨e, List.mem_append_left _ he, r⟩
    · rw [List.mem_singleton.mp z]
      exact ⟨sub_gf.mpr ⟨q, hm⟩, .inl ⟨(x, p, q), List.mem_append_right _ (by simp), ⟨rfl, rfl⟩, List.lt_irrefl _⟩⟩
  · rcases hab with z | ⟨rfl, rfl⟩
    · rcases h.mt a b z with y | ⟨w, hw⟩
      · exact .inl y
      · exact .inr ⟨w, List.mem_append_left _ hw⟩
    · exact .inr ⟨x, List.mem_append_right _ (by simp)⟩
end
/-- the words that a level leads to -/
def lvE (ls : List Nat) (lv : List Ent) : List (List Nat) := lv.flatMap fun e => ls.map fun c => e.1 ++ [c]
section
variable {l m ls : List Nat} {n : Nat} {met met' : Nat → Nat → Prop} {lv lo : List Ent}
theorem lvE_mem {w : List Nat} {c : Nat} {e : Ent} (he : e ∈ lv) (hc : c ∈ ls) : e.1 ++ [c] ∈ lvE ls lv := List.mem_flatMap.mpr ⟨e, he, List.mem_map.mpr ⟨c, hc, rfl⟩⟩
theorem snoc_of {v : List Nat} {n : Nat} (h : v.length = n + 1) : ∃ v' c, v = v' ++ [c] ∧ v'.length = n := by
  have hne : v ≠ [] := fun z => by rw [z] at h; cases h
  exact ⟨v.dropLast, v.getLast hne, (List.dropLast_concat_getLast hne).symm, by rw [List.length_dropLast, h]; rfl⟩
theorem le_snoc {a b : List Nat} {c : Nat} (hl : a.length = b.length) (h : ¬ a < b) : ¬ a ++ [c] < b ++ [c] := fun z => h (lt_snoc hl z)
/-- the next level; E: all words that the level leads to and that are left of l are in it -/
theorem Lev.next {E : List (List Nat)} (h : Lev l m n met lv) (hE : ∀ e ∈ lv, ∀ c, (e.1 ++ [c]).Sublist l → e.1 ++ [c] ∈ E) (k : Mid l m n met' E lo) : Lev l m (n + 1) met' lo := by
  have key : ∀ v : List Nat, v.Sublist l → v.length = n + 1 → v.Sublist m ∧ ((∃ e ∈ lo, Sst l m e.1 v ∧ ¬ v < e.1) ∨ ∃ u : List Nat, u.length < n + 1 ∧ Sst l m u v) := by
    intro v hv hl
    obtain ⟨v', c, rfl, hl'⟩ := snoc_of hl
    have hv' : v'.Sublist l := (List.sublist_append_left _ _).trans hv
    rcases h.all v' hv' hl' with ⟨e, he, s, lt⟩ | ⟨u, ul, s⟩
    · have sc := s.snoc c
      have hs : (e.1 ++ [c]).Sublist l := sc.subl.1.mpr hv
      obtain ⟨h1, h2⟩ := k.cov _ (hE e he c hs) hs
      have hel := (h.st e he).1
      refine ⟨sc.subl.2.mp h1, ?_⟩
      rcases h2 with ⟨e2, he2, s2, lt2⟩ | ⟨u, ul, s2⟩
      · refine .inl ⟨e2, he2, ⟨s2.1.trans sc.1, s2.2.trans sc.2⟩, fun z => ?_⟩
        exact le_snoc (c := c) (by omega) lt (Std.lt_of_lt_of_le z (List.not_lt.mp lt2))
      · exact .inr ⟨u, by omega, s2.1.trans sc.1, s2.2.trans sc.2⟩
    · have sc := s.snoc c
      refine ⟨sc.subl.2.mp (h.no _ (sc.subl.1.mpr hv) (by simp; omega)), .inr ⟨u ++ [c], by simp; omega, sc⟩⟩
  refine ⟨fun v hv hl => ?_, k.st, k.up, fun v hv hl => (key v hv hl).2, fun p q hpq => ?_⟩
  · rcases Nat.lt_or_ge n v.length with z | z
    · exact (key v hv (by omega)).1
    · exact h.no v hv z
  · rcases k.mt p q hpq with ⟨u, u1, u2, u3⟩ | ⟨w, hw⟩
    · exact ⟨u, by omega, u2, u3⟩
    · obtain ⟨w1, w2, w3⟩ := k.st _ hw
      exact ⟨w, by simpa using Nat.le_of_eq w1, w2, w3⟩
/-- the word found: all words behind E that the level leads to come later -/
theorem Lev.found {E : List (List Nat)} {x : List Nat} (h : Lev l m n met lv) (k : Mid l m n met' E lo) (hx : x.Sublist l) (hm : ¬ x.Sublist m) (hl : x.length = n + 1) (hE : ∀ e ∈ lv, ∀ c, (e.1 ++ [c]).Sublist l → e.1 ++ [c] ∈ E ∨ ¬ e.1 ++ [c] < x) : PW l m (some x) := by
  refine ⟨hx, hm, fun v hv hvm => ?_⟩
  have l1 : n + 1 ≤ v.length := by
    rcases Nat.lt_or_ge n v.length with z | z
    · exact z
    · exact absurd (h.no v hv z) hvm
  refine ⟨by omega, fun e => ?_⟩
  obtain ⟨v', c, rfl, hl'⟩ := snoc_of (e.symm.trans hl)
  have hv' : v'.Sublist l := (List.sublist_append_left _ _).trans hv
  rcases h.all v' hv' hl' with ⟨e, he, s, lt⟩ | ⟨u, ul, s⟩
  · have sc := s.snoc c
    have hs : (e.1 ++ [c]).Sublist l := sc.subl.1.mpr hv
    have hel := (h.st e he).1
    rcases hE e he c hs with z | z
    · exact absurd (sc.subl.2.mp (k.cov _ z hs).1) hvm
    · intro y
      have le1 := le_snoc (c := c) (show v'.length = e.1.length by omega) lt
      exact z (Std.lt_of_le_of_lt (List.not_lt.mp le1) y)
  · have sc := s.snoc c
    exact absurd (sc.subl.2.mp (h.no _ (sc.subl.1.mpr hv) (by simp; omega))) hvm
/-- no word at this level: none at all -/
theorem Lev.none (h : Lev l m n met []) : PW l m none := by
  intro v
  generalize hk : v.length = k
  induction k using Nat.strongRecOn generalizing v with
  | _ k ih =>
    intro hv
    rcases Nat.lt_or_ge n v.length with z | z
    · have e : v = v.take n ++ v.drop n := (List.take_append_drop n v).symm
      have ht : (v.take n).Sublist l := (List.take_sublist _ _).trans hv
      rcases h.all _ ht (by rw [List.length_take]; omega) with ⟨_, y, _⟩ | ⟨u, ul, s⟩
      · cases y
      · have sc := s.app (v.drop n)
        rw [← e] at sc
        exact sc.subl.2.mp (ih (u ++ v.drop n).length (by rw [List.length_append, List.length_drop]; omega) _ rfl (sc.subl.1.mpr hv))
    · exact h.no v hv z
theorem Lev.zero (l m : List Nat) : Lev l m 0 (fun p q => p = 0 ∧ q = 0) [([], 0, 0)] := by
  refine ⟨fun v _ hl => ?_, fun e he => ?_, by simp, fun v _ hl => ?_, fun p q ⟨h1, h2⟩ => ⟨[], by simp, by rw [h1]; rfl, by rw [h2]; rfl⟩⟩
  · rw [List.length_eq_zero_iff.mp (show v.length = 0 by omega)]; exact List.nil_sublist _
  · rw [List.mem_singleton.mp he]; exact ⟨rfl, rfl, rfl⟩
  · rw [List.length_eq_zero_iff.mp hl]
    exact .inl ⟨([], 0, 0), by simp, ⟨rfl, rfl⟩, List.lt_irrefl _⟩
theorem Lev.len (h : Lev l m n met lv) (ne : lv ≠ []) : n ≤ l.length := by
  obtain ⟨e, r, rfl⟩ := List.exists_cons_of_ne_nil ne
  obtain ⟨h1, h2, _⟩ := h.st e List.mem_cons_self
  have := (sub_gf.mpr ⟨_, h2⟩).length_le
  omega
end
theorem lt_app_len : ∀ {a b x y : List Nat}, a.length = b.length → a < b → a ++ x < b ++ y
  | [], [], _, _, _, h => by simp at h
  | c :: a, d :: b, x, y, hl, h => by
    rw [List.cons_lt_cons_iff] at h
    rw [List.cons_append, List.cons_append, List.cons_lt_cons_iff]
    rcases h with h | ⟨rfl, h⟩
    · exact .inl h
    · exact .inr ⟨rfl, lt_app_len (by simpa using hl) h⟩
theorem lt_snoc_lt {c d : Nat} (h : c < d) : ∀ w : List Nat, w ++ [c] < w ++ [d]
  | [] => List.cons_lt_cons_iff.mpr (.inl h)
  | a :: w => List.cons_lt_cons_iff.mpr (.inr ⟨rfl, lt_snoc_lt h w⟩)
/-- the words behind which the walk stands -/
def eE (ls : List Nat) (lv : List Ent) (i j : Nat) (w : List Nat) : List (List Nat) := lvE ls (lv.take i) ++ (ls.take j).map fun c => w ++ [c]
theorem eE_zero (ls : List Nat) (lv : List Ent) (i : Nat) (w : List Nat) : eE ls lv i 0 w = lvE ls (lv.take i) := by simp [eE]
theorem eE_snoc {ls : List Nat} {lv : List Ent} {i j c : Nat} {w : List Nat} (h : ls[j]? = some c) : eE ls lv i (j + 1) w = eE ls lv i j w ++ [w ++ [c]] := by
  unfold eE
  rw [List.take_add_one, h, List.map_append, ← List.append_assoc]; rfl
theorem eE_full {ls : List Nat} {lv : List Ent} {i : Nat} {e : Ent} (h : lv[i]? = some e) : lvE ls (lv.take (i + 1)) = eE ls lv i ls.length e.1 := by
  unfold eE lvE
  rw [List.take_add_one, h, List.flatMap_append, List.take_length]; simp
section
variable {l m ls : List Nat} {n i j c : Nat} {met : Nat → Nat → Prop} {lv : List Ent} {e : Ent}
theorem up_at (h : Lev l m n met lv) {a b : Nat} {x y : Ent} (hab : a < b) (hx : lv[a]? = some x) (hy : lv[b]? = some y) : x.1 < y.1 := by
  have z := List.pairwise_iff_getElem.mp h.up
  obtain ⟨h1, e1⟩ := List.getElem?_eq_some_iff.mp hx
  obtain ⟨h2, e2⟩ := List.getElem?_eq_some_iff.mp hy
  have := z a b (by simpa using h1) (by simpa using h2) hab
  rw [List.getElem_map, List.getElem_map, e1, e2] at this
  exact this
theorem eE_lt (h : Lev l m n met lv) (lsup : ls.Pairwise (· < ·)) (he : lv[i]? = some e) (hc : ls[j]? = some c) : ∀ y ∈ eE ls lv i j e.1, y < e.1 ++ [c] := by
  intro y hy
  rcases List.mem_append.mp hy with z | z
  · obtain ⟨e', he', z⟩ := List.mem_flatMap.mp z
    obtain ⟨c', _, rfl⟩ := List.mem_map.mp z
    obtain ⟨a, ha⟩ := List.mem_iff_getElem?.mp he'
    have hal : a < i := by have := (List.getElem?_eq_some_iff.mp ha).1; rw [List.length_take] at this; omega
    rw [List.getElem?_take, if_pos hal] at ha
    exact lt_app_len (by rw [(h.st e' (List.mem_of_getElem? ha)).1, (h.st e (List.mem_of_getElem? he)).1]) (up_at h hal ha he)
  · obtain ⟨c', hc', rfl⟩ := List.mem_map.mp z
    obtain ⟨b, hb⟩ := List.mem_iff_getElem?.mp hc'
    have hbl : b < j := by have := (List.getElem?_eq_some_iff.mp hb).1; rw [List.length_take] at this; omega
    rw [List.getElem?_take, if_pos hbl] at hb
    have z := List.pairwise_iff_getElem.mp lsup
    obtain ⟨h1, e1⟩ := List.getElem?_eq_some_iff.mp hb
    obtain ⟨h2, e2⟩ := List.getElem?_eq_some_iff.mp hc
    have := z b j h1 h2 hbl
    rw [e1, e2] at this
    exact lt_snoc_lt this _
theorem eE_rest (h : Lev l m n met lv) (lsup : ls.Pairwise (· < ·)) (he : lv[i]? = some e) (hc : ls[j]? = some c) : ∀ e' ∈ lv, ∀ c' ∈ ls, e'.1 ++ [c'] ∈ eE ls lv i j e.1 ∨ ¬ e'.1 ++ [c'] < e.1 ++ [c] := by
  intro e' he' c' hc'
  obtain ⟨a, ha⟩ := List.mem_iff_getElem?.mp he'
  rcases Nat.lt_trichotomy a i with z | z | z
  · refine .inl (List.mem_append_left _ (List.mem_flatMap.mpr ⟨e', ?_, List.mem_map.mpr ⟨c', hc', rfl⟩⟩))
    exact List.mem_of_getElem? (i := a) (by rw [List.getElem?_take, if_pos z]; exact ha)
  · subst z
    rw [he] at ha
    cases ha
    obtain ⟨b, hb⟩ := List.mem_iff_getElem?.mp hc'
    rcases Nat.lt_or_ge b j with y | y
    · refine .inl (List.mem_append_right _ (List.mem_map.mpr ⟨c', ?_, rfl⟩))
      exact List.mem_of_getElem? (i := b) (by rw [List.getElem?_take, if_pos y]; exact hb)
    · refine .inr fun x => ?_
      rcases Nat.lt_or_ge j b with v | v
      · have z := List.pairwise_iff_getElem.mp lsup
        obtain ⟨h1, e1⟩ := List.getElem?_eq_some_iff.mp hb
        obtain ⟨h2, e2⟩ := List.getElem?_eq_some_iff.mp hc
        have := z j b h2 h1 v
        rw [e1, e2] at this
        exact List.lt_irrefl _ (List.lt_trans x (lt_snoc_lt this _))
      · have : b = j := by omega
        subst this
        rw [hb] at hc
        cases hc
        exact List.lt_irrefl _ x
  · refine .inr fun x => ?_
    have := lt_app_len (x := [c]) (y := [c']) (by rw [(h.st e' he').1, (h.st e (List.mem_of_getElem? he)).1]) (up_at h z he ha)
    exact List.lt_irrefl _ (List.lt_trans x this)
end
/-- pairs of places met -/
def prs (a b : Nat) : List (Nat × Nat) := (List.range a).flatMap fun p => (List.range b).map fun q => (p, q)
theorem prs_mem {a b p q : Nat} : (p, q) ∈ prs a b ↔ p < a ∧ q < b := by
  unfold prs
  rw [List.mem_flatMap]
  constructor
  · rintro ⟨x, h1, h2⟩
    obtain ⟨y, h3, h4⟩ := List.mem_map.mp h2
    cases h4
    exact ⟨List.mem_range.mp h1, List.mem_range.mp h3⟩
  · rintro ⟨h1, h2⟩
    exact ⟨p, List.mem_range.mpr h1, List.mem_map.mpr ⟨q, List.mem_range.mpr h2, rfl⟩⟩
theorem prs_len (a b : Nat) : (prs a b).length = a * b := by
  unfold prs
  rw [len_flat]
  simp [List.map_const', List.sum_replicate_nat]
theorem met_le {a b : Nat} {ks : List (Nat × Nat)} (nd : ks.Nodup) (h : ∀ k ∈ ks, k.1 ≤ a ∧ k.2 ≤ b) : ks.length ≤ (a + 1) * (b + 1) := by
  rw [← prs_len]
  exact nodup_len _ _ nd fun k hk => by
    obtain ⟨p, q⟩ := k
    have := h _ hk
    exact prs_mem.mpr ⟨by simp at this; omega, by simp at this; omega⟩
end Lv

set_option Elab.async false
set_option linter.all false
namespace Lv
/-- in how many ways m is left of l -/
def W : List Nat → List Nat → Nat
  | _, [] => 1
  | [], _ :: _ => 0
  | c :: l, d :: m => W l (d :: m) + (if c = d then W l m else 0)
theorem W_nil (l : List Nat) : W l [] = 1 := by cases l <;> rfl
theorem W_cons (c : Nat) (l : List Nat) (d : Nat) (m : List Nat) : W (c :: l) (d :: m) = W l (d :: m) + (if c = d then W l m else 0) := rfl
theorem W_nilc (d : Nat) (m : List Nat) : W [] (d :: m) = 0 := rfl
theorem W_drop {l m : List Nat} {i j c d : Nat} (hi : l[i]? = some c) (hj : m[j]? = some d) : W (l.drop i) (m.drop j) = W (l.drop (i + 1)) (m.drop j) + (if c = d then W (l.drop (i + 1)) (m.drop (j + 1)) else 0) := by
  obtain ⟨h1, e1⟩ := List.getElem?_eq_some_iff.mp hi
  obtain ⟨h2, e2⟩ := List.getElem?_eq_some_iff.mp hj
  rw [List.drop_eq_getElem_cons h1, List.drop_eq_getElem_cons h2, e1, e2, W_cons]
def wrow (l m : List Nat) : List Int := (List.range (m.length + 1)).map fun a => ((W l (m.drop a) : Nat) : Int)
theorem wrow_length (l m : List Nat) : (wrow l m).length = m.length + 1 := by simp [wrow]
theorem wrow_get (l m : List Nat) {a : Nat} (h : a ≤ m.length) : (wrow l m)[a]? = some ((W l (m.drop a) : Nat) : Int) := by
  unfold wrow
  rw [List.getElem?_map, List.getElem?_range (by omega)]
  rfl
/-- behind j places -/
def prow (l m : List Nat) (j : Nat) : List Int := (List.range (m.length + 1)).map fun a => ((if a < j then W l (m.drop a) else W [] (m.drop a) : Nat) : Int)
theorem prow_zero (l m : List Nat) : prow l m 0 = wrow [] m := by
  unfold prow wrow
  refine List.map_congr_left fun a _ => ?_
  simp
theorem prow_last (l m : List Nat) : prow l m m.length = wrow l m := by
  unfold prow wrow
  refine List.map_congr_left fun a ha => ?_
  have := List.mem_range.mp ha
  by_cases h : a < m.length
  · rw [if_pos h]
  · have e : a = m.length := by omega
    rw [if_neg h, e, List.drop_length, W_nil, W_nil]
theorem prow_length (l m : List Nat) (j : Nat) : (prow l m j).length = m.length + 1 := by simp [prow]
theorem prow_set (l m : List Nat) (j : Nat) (hj : j < m.length) : (prow l m j).set j ((W l (m.drop j) : Nat) : Int) = prow l m (j + 1) := by
  apply List.ext_getElem?
  intro a
  rw [List.getElem?_set]
  by_cases ha : a < m.length + 1
  · unfold prow
    rw [List.getElem?_map, List.getElem?_map, List.getElem?_range ha]
    by_cases e : j = a
    · subst e
      rw [if_pos rfl, if_pos (by simp; omega)]
      simp
    · rw [if_neg e]
      dsimp only [Option.map_some]
      by_cases h : a < j
      · rw [if_pos h, if_pos (by omega)]
      · rw [if_neg h, if_neg (by omega)]
  · have h1 : (prow l m j)[a]? = none := List.getElem?_eq_none (by rw [prow_length]; omega)
    have h2 : (prow l m (j + 1))[a]? = none := List.getElem?_eq_none (by rw [prow_length]; omega)
    rw [h1, h2]
    split
    · omega
    · rfl
theorem wrow_init (m : List Nat) : List.replicate m.length (0 : Int) ++ [1] = wrow [] m := by
  apply List.ext_getElem?
  intro a
  by_cases h : a < m.length
  · rw [List.getElem?_append_left (by simpa using h), wrow_get [] m (by omega), List.getElem?_replicate, if_pos h]
    have : W [] (m.drop a) = 0 := by
      rw [List.drop_eq_getElem_cons h]
      rfl
    rw [this]
    rfl
  · rw [List.getElem?_append_right (by simpa using Nat.le_of_not_lt h), List.length_replicate]
    by_cases e : a = m.length
    · subst e
      rw [wrow_get [] m (Nat.le_refl _), List.drop_length, Nat.sub_self]
      rfl
    · rw [List.getElem?_eq_none (by simp; omega), List.getElem?_eq_none (by rw [wrow_length]; omega)]
end Lv

set_option linter.all false
set_option maxRecDepth 100000
namespace Lv
end Lv

set_option Elab.async false
set_option linter.all false
set_option maxRecDepth 100000
namespace Lv
open PySem L2
/-- the last place of c in l -/
def LastAt (l : List Nat) (c k : Nat) : Prop := l[k]? = some c ∧ ∀ j, k < j → l[j]? ≠ some c
theorem LastAt.lt {l : List Nat} {c k : Nat} (h : LastAt l c k) : k < l.length := (List.getElem?_eq_some_iff.mp h.1).1
theorem LastAt.snoc {l : List Nat} {c : Nat} : LastAt (l ++ [c]) c l.length := ⟨by simp, fun j hj z => by rw [List.getElem?_eq_none (by simp; omega)] at z; cases z⟩
theorem LastAt.more {l : List Nat} {c d k : Nat} (h : LastAt l c k) (ne : d ≠ c) : LastAt (l ++ [d]) c k := by
  have := h.lt
  refine ⟨by rw [List.getElem?_append_left this]; exact h.1, fun j hj z => ?_⟩
  rcases Nat.lt_or_ge j l.length with y | y
  · rw [List.getElem?_append_left y] at z; exact h.2 j hj z
  · rw [List.getElem?_append_right y, List.getElem?_singleton] at z
    split at z
    · exact ne (Option.some.inj z)
    · cases z
end Lv

set_option Elab.async false
set_option linter.all false
set_option maxRecDepth 100000
namespace Lv
open PySem L2
theorem cc_le_l (l m : List Nat) : cc l m ≤ cn l := List.length_filter_le _ _
theorem cf_in {l m : List Nat} (lw : Low l) : (cf l m).Sublist l ∧ (cf l m).Sublist m ∧ (cf l m).length = cl2 l m := (cz_mem lw).mp (cf_mem l m)
end Lv

set_option linter.all false
namespace Lv
open PySem PySem.Spec PyProof.Rows L2 SX
/-! the ways in order -/
theorem W_le : ∀ (l m : List Nat), W l m ≤ 2 ^ l.length
  | l, [] => by rw [W_nil]; exact Nat.one_le_two_pow
  | [], d :: m => by rw [W_nilc]; exact Nat.zero_le _
  | c :: l, d :: m => by
    have h1 := W_le l (d :: m)
    have h2 := W_le l m
    rw [W_cons, List.length_cons, Nat.pow_succ]
    split <;> omega
/-- the way at a place -/
def wayAt : List Nat → List Nat → Nat → Nat → List Nat
  | _, [], _, _ => []
  | [], _ :: _, _, _ => []
  | c :: l, d :: m, p, h => if c = d then (if p < W l m then h :: wayAt l m p (h + 1) else wayAt l (d :: m) (p - W l m) (h + 1)) else wayAt l (d :: m) p (h + 1)
theorem wayAt_nil (l : List Nat) (p h : Nat) : wayAt l [] p h = [] := by cases l <;> rfl
theorem wayAt_take {c : Nat} {l m : List Nat} {p h : Nat} (hp : p < W l m) : wayAt (c :: l) (c :: m) p h = h :: wayAt l m p (h + 1) := by rw [wayAt, if_pos rfl, if_pos hp]
theorem wayAt_pass {c : Nat} {l m : List Nat} {p h : Nat} (hp : ¬ p < W l m) : wayAt (c :: l) (c :: m) p h = wayAt l (c :: m) (p - W l m) (h + 1) := by rw [wayAt, if_pos rfl, if_neg hp]
theorem wayAt_skip {c d : Nat} {l m : List Nat} {p h : Nat} (n : c ≠ d) : wayAt (c :: l) (d :: m) p h = wayAt l (d :: m) p (h + 1) := by rw [wayAt, if_neg n]
theorem wayAt_len : ∀ (l m : List Nat) (p h : Nat), p < W l m → (wayAt l m p h).length = m.length
  | l, [], p, h, _ => by rw [wayAt_nil]
  | [], d :: m, p, h, hp => by rw [W_nilc] at hp; omega
  | c :: l, d :: m, p, h, hp => by
    rw [W_cons] at hp
    by_cases z : c = d
    · subst z
      rw [if_pos rfl] at hp
      by_cases y : p < W l m
      · rw [wayAt_take y, List.length_cons, wayAt_len l m p _ y, List.length_cons]
      · rw [wayAt_pass y]
        exact wayAt_len l (c :: m) _ _ (by omega)
    · rw [if_neg z, Nat.add_zero] at hp
      rw [wayAt_skip z]
      exact wayAt_len l (d :: m) _ _ hp
/-- rising, within the row, spelling -/
theorem wayAt_spell : ∀ (l m : List Nat) (p h : Nat), p < W l m → (wayAt l m p h).Pairwise (· < ·) ∧ (∀ x ∈ wayAt l m p h, h ≤ x ∧ x < h + l.length) ∧ ∀ (j x : Nat), (wayAt l m p h)[j]? = some x → l[x - h]? = m[j]?
  | l, [], p, h, _ => by rw [wayAt_nil]; simp
  | [], d :: m, p, h, hp => by rw [W_nilc] at hp; omega
  | c :: l, d :: m, p, h, hp => by
    have pass : ∀ q, q < W l (d :: m) → wayAt (c :: l) (d :: m) p h = wayAt l (d :: m) q (h + 1) → (wayAt (c :: l) (d :: m) p h).Pairwise (· < ·) ∧ (∀ x ∈ wayAt (c :: l) (d :: m) p h, h ≤ x ∧ x < h + (c :: l).length) ∧ ∀ (j x : Nat), (wayAt (c :: l) (d :: m) p h)[j]? = some x → (c :: l)[x - h]? = (d :: m)[j]? := fun q hq e => by
      obtain ⟨i1, i2, i3⟩ := wayAt_spell l (d :: m) q (h + 1) hq
      rw [e]
      refine ⟨i1, fun x hx => ?_, fun j x hj => ?_⟩
      · have := i2 x hx
        rw [List.length_cons]; omega
      · have h1 := i2 x (List.mem_of_getElem? hj)
        have h2 := i3 j x hj
        rw [show x - h = (x - (h + 1)) + 1 by omega, List.getElem?_cons_succ]
        exact h2
    rw [W_cons] at hp
    by_cases z : c = d
    · subst z
      rw [if_pos rfl] at hp
      by_cases y : p < W l m
      · obtain ⟨i1, i2, i3⟩ := wayAt_spell l m p (h + 1) y
        rw [wayAt_take y]
        refine ⟨List.pairwise_cons.mpr ⟨fun x hx => (i2 x hx).1, i1⟩, fun x hx => ?_, fun j x hj => ?_⟩
        · rw [List.length_cons]
          rcases List.mem_cons.mp hx with q | q
          · omega
          · have := i2 x q; omega
        · cases j with
          | zero =>
            have : h = x := Option.some.inj hj
            rw [← this, Nat.sub_self]; rfl
          | succ j =>
            have hj' : (wayAt l m p (h + 1))[j]? = some x := hj
            have h1 := i2 x (List.mem_of_getElem? hj')
            rw [show x - h = (x - (h + 1)) + 1 by omega, List.getElem?_cons_succ, List.getElem?_cons_succ]
            exact i3 j x hj'
      · exact pass (p - W l m) (by omega) (wayAt_pass y)
    · rw [if_neg z, Nat.add_zero] at hp
      exact pass p hp (wayAt_skip z)
/-- the place behind the last one found -/
def after (i : Nat) (ps : List Nat) : Nat := match ps.getLast? with | none => i | some k => k + 1
end Lv

set_option Elab.async false
set_option linter.all false
set_option maxRecDepth 100000
namespace Lv
open PySem L2
section
variable {ls l : List Nat}
theorem shf_mem (h : ls ≠ []) : shf ls l ∈ ab ls (sh ls l) l := by
  have s := (sh_ok h l).2.1
  unfold shf
  cases e : ab ls (sh ls l) l with
  | nil => exact absurd e s
  | cons a r => exact List.mem_cons_self
end
end Lv

set_option Elab.async false
set_option linter.all false
set_option maxRecDepth 100000
set_option exponentiation.threshold 4000
namespace Lv
open PySem PySem.Spec PyProof.Rows L2 SX
/-! bounds -/
/-! what is asked in k34 -/
end Lv

set_option linter.all false
set_option maxRecDepth 100000
namespace Lv
open PySem PySem.Spec PyProof.Rows L2 SX
/-! things that are no letters -/
def NoLt (K : PySem.W.Frag) (H : Hp) (x : V) : Prop := (∃ ls : List Nat, x = .str (S ls) ∧ ls.length ≤ 1000 ∧ Chr ls ∧ ¬ Lets ls) ∨ Kd K H x "str" false
theorem NoLt.same {K : PySem.W.Frag} {H H' : Hp} {x : V} (h : NoLt K H x) (s : Same H H') : NoLt K H' x := h.imp id (·.same s)
section
variable {K : PySem.W.Frag} {H : Hp}
theorem nl_str {ls : List Nat} (h1 : ls.length ≤ 1000) (h2 : Chr ls) (h3 : ¬ Lets ls) : NoLt K H (.str (S ls)) := .inl ⟨ls, rfl, h1, h2, h3⟩
end
theorem abc_iff1 {c : Nat} : c ∈ abc ↔ 97 ≤ c ∧ c ≤ 122 := ⟨fun h => low_abc c h, abc_mem⟩
theorem chr_app {a b : List Nat} (h : Chr a) (k : Chr b) : Chr (a ++ b) := fun c hc => (List.mem_append.mp hc).elim (h c) (k c)
/-- what needs no filter: none is kept just where all go -/
theorem filt_nil {α β : Type} {f : α → Option β} {l : List α} : l.filterMap f = [] ↔ ∀ c ∈ l, f c = none := List.filterMap_eq_nil_iff
theorem pw_of_adj : ∀ {ls : List Nat}, (∀ i, i + 1 < ls.length → ls.getD i 0 < ls.getD (i + 1) 0) → ls.Pairwise (· < ·)
  | [], _ => List.Pairwise.nil
  | [a], _ => List.pairwise_singleton _ _
  | a :: b :: l, h => by
    have h1 : a < b := h 0 (by simp)
    have ih : (b :: l).Pairwise (· < ·) := pw_of_adj fun i hi => h (i + 1) (by simp at hi ⊢; omega)
    refine List.Pairwise.cons (fun c hc => ?_) ih
    rcases List.mem_cons.mp hc with z | z
    · omega
    · have := (List.pairwise_cons.mp ih).1 c z
      omega
theorem fm_congr {α β : Type} {f g : α → Option β} : ∀ {l : List α}, (∀ c ∈ l, f c = g c) → l.filterMap f = l.filterMap g
  | [], _ => rfl
  | c :: l, h => by
    rw [List.filterMap_cons, List.filterMap_cons, h c List.mem_cons_self, fm_congr fun d hd => h d (List.mem_cons_of_mem _ hd)]
/-- the signs that are no small letters -/
def nots (ls : List Nat) : List Nat := ls.filterMap fun c => if c ∈ abc then none else some c
theorem keep_no (ls : List Nat) : ls.filterMap (fun c => if c ∈ abc then none else some (vc c)) = (nots ls).map vc := by
  unfold nots
  rw [List.map_filterMap]
  refine fm_congr fun c _ => ?_
  by_cases z : c ∈ abc
  · rw [if_pos z, if_pos z]; rfl
  · rw [if_neg z, if_neg z]; rfl
theorem nots_nil {ls : List Nat} : nots ls = [] ↔ Low ls := by
  unfold nots
  rw [filt_nil]
  constructor
  · intro h c hc
    have := h c hc
    by_cases z : c ∈ abc
    · exact abc_iff1.mp z
    · rw [if_neg z] at this; cases this
  · intro h c hc
    rw [if_pos (abc_mem (h c hc))]
theorem nots_mem {ls : List Nat} {c : Nat} (h : c ∈ nots ls) : c ∈ ls := by
  obtain ⟨d, hd, e⟩ := List.mem_filterMap.mp h
  by_cases z : d ∈ abc
  · rw [if_pos z] at e; cases e
  · rw [if_neg z] at e
    cases e
    exact hd
end Lv

set_option Elab.async false
set_option linter.all false
set_option maxRecDepth 100000
set_option maxHeartbeats 4000000
namespace Lv
open PySem PySem.Spec PyProof.Rows L2 SX
local macro_rules | `(tactic| tm_at "n") => `(tactic| (first | assumption | (simp only [List.length_append, List.length_cons, List.length_nil, List.length_reverse, List.length_map, List.length_replicate, List.length_set, List.length_singleton, List.length_range, List.length_take, List.length_drop, List.length_flatten]; omega) | omega | decide))
local macro_rules | `(tactic| tm_at "z") => `(tactic| (first | exact Lv.le_line (by tm_at "n") | exact Lv.lt_line (by tm_at "n")))
local macro_rules | `(tactic| tm_at "c") => `(tactic| (first | (show (0 : Int) < _; omega) | exact ⟨by omega, by omega⟩ | exact Or.inl ⟨by omega, by omega⟩ | exact Or.inr ⟨by omega, by omega⟩ | decide))
local macro_rules | `(tactic| tm_at "s") => `(tactic| first
  | with_reducible refine Lv.i_seq ?_ | with_reducible refine Lv.i_set ?_ | with_reducible refine Lv.i_ret ?_ | with_reducible refine Lv.i_if ?_ | with_reducible refine Lv.i_drop ?_ | with_reducible refine Lv.i_next ?_
  | with_reducible refine Lv.i_brk ?_ | with_reducible refine Lv.i_cont ?_ | ((with_reducible refine' Lv.i_var ?hv ?_); (case hv => exact rfl)) | with_reducible refine Lv.i_c ?_ | with_reducible refine Lv.i_op ?_ | with_reducible refine Lv.i_un ?_
  | with_reducible refine Lv.i_cb ?_ | with_reducible refine Lv.i_call ?_ | with_reducible refine Lv.i_meth ?_ | with_reducible refine Lv.i_fld ?_ | with_reducible refine Lv.i_sfld ?_ | with_reducible refine Lv.i_make ?_ | with_reducible refine Lv.i_nil ?_ | with_reducible refine Lv.i_cons ?_ | with_reducible refine Lv.i_lst ?_ | with_reducible refine Lv.i_tup ?_
  | with_reducible refine Lv.i_bm ?_ | with_reducible refine Lv.i_bm0 ?_ | with_reducible refine Lv.i_tyS ?_ | with_reducible refine Lv.i_sl ?_ | with_reducible refine Lv.i_noPart ?_ | with_reducible refine Lv.i_part ?_ | with_reducible refine Lv.i_exI ?_
  | with_reducible refine Lv.i_chain ?_ | with_reducible refine Lv.i_isN_n ?_ | with_reducible refine Lv.i_isN_r ?_ | with_reducible refine Lv.i_isN_i ?_ | with_reducible refine Lv.i_isN_s ?_ | with_reducible refine Lv.i_notN_n ?_ | with_reducible refine Lv.i_notN_r ?_ | with_reducible refine Lv.i_notN_i ?_ | with_reducible refine Lv.i_notN_s ?_ | with_reducible refine Lv.i_bl ?_ | with_reducible refine Lv.i_test ?_ | with_reducible refine Lv.i_tB ?_ | with_reducible refine Lv.i_not ?_ | with_reducible refine Lv.i_and ?_ | with_reducible refine Lv.i_or ?_
  | with_reducible refine Lv.i_andV ?_ | with_reducible refine Lv.i_orV ?_ | with_reducible refine Lv.i_notV ?_ | with_reducible refine Lv.i_ifE ?_ | with_reducible refine Lv.i_rI0 ?_ | ((with_reducible refine Lv.i_rI ?hc ?_); (case hc => tm_at "c"))
  | with_reducible refine Lv.i_rU ?_ | with_reducible refine Lv.i_r2S ?_ | with_reducible refine Lv.i_in1 ?_ | with_reducible refine Lv.i_notIn1 ?_ | ((with_reducible refine Lv.i_addS ?hz ?_); (case hz => tm_at "z"))
  | ((with_reducible refine Lv.i_slS ?hz ?_); (case hz => tm_at "z")) | with_reducible refine Lv.i_tRevS ?_ | with_reducible refine Lv.i_revL ?_ | with_reducible refine Lv.i_zip ?_ | with_reducible refine Lv.i_abs ?_ | with_reducible refine Lv.i_max2 ?_ | with_reducible refine Lv.i_min2 ?_ | with_reducible refine Lv.i_lstRg ?_ | with_reducible refine Lv.i_rg1 ?_ | with_reducible refine Lv.i_sortSetS ?_ | with_reducible refine Lv.i_sortSetL ?_ | with_reducible refine Lv.i_sortSetI ?_ | with_reducible refine Lv.i_dnewK ?_ | with_reducible refine Lv.i_dIn ?_ | with_reducible refine Lv.i_dNotIn ?_ | with_reducible refine Lv.i_dGet ?_ | with_reducible refine Lv.i_dPut ?_ | with_reducible refine Lv.i_dGet1 ?_ | with_reducible refine Lv.i_dGet2 ?_ | ((with_reducible refine Lv.i_revS ?hz ?_); (case hz => tm_at "z")) | ((with_reducible refine Lv.i_lenT ?hz ?_); (case hz => tm_at "z"))
  | ((with_reducible refine' Lv.i_aug ?hv ?_); (case hv => exact rfl)) | with_reducible refine Lv.i_ipI ?_ | with_reducible refine Lv.i_asg ?_
  | with_reducible refine Lv.i_augS ?_ | with_reducible refine Lv.i_gSub ?_ | with_reducible refine Lv.i_gName ?_ | with_reducible refine Lv.i_gCons ?_ | with_reducible refine Lv.i_gNil ?_ | with_reducible refine Lv.i_par ?_ | with_reducible refine Lv.i_intB ?_ | with_reducible refine Lv.i_r2B ?_ | with_reducible refine Lv.i_listEn ?_ | with_reducible refine Lv.i_tYes ?_ | with_reducible refine Lv.i_str ?_ | with_reducible refine Lv.i_list ?_ | with_reducible refine Lv.i_rng1 ?_ | with_reducible refine Lv.i_rng2 ?_ | with_reducible refine Lv.i_rng3 ?_ | with_reducible refine Lv.i_enumS ?_ | with_reducible refine Lv.i_enumL ?_ | with_reducible refine Lv.i_tupI ?_
  | ((with_reducible refine Lv.x_r1 ?h0 ?h1 ?_); (case h0 => first | omega | (simp; omega)); (case h1 => first | omega | (simp; omega))) | ((with_reducible refine Lv.x_r2 ?h0 ?_); (case h0 => exact ⟨by omega, by omega, by omega, by omega⟩)) | ((with_reducible refine Lv.x_dn ?h0 ?_); (case h0 => exact ⟨by omega, by omega, by omega, by omega⟩))
  | with_reducible refine Lv.x_str ?_ | with_reducible refine Lv.x_enumS ?_ | ((with_reducible refine' Lv.x_list ?h0 ?_); (case h0 => first | exact SqL.of1 (by assumption) | assumption | exact SqL.of1 upd_same)) | ((with_reducible refine' Lv.x_enumL ?h0 ?_); (case h0 => first | exact SqL.of1 (by assumption) | assumption | exact SqL.of1 upd_same))
  | ((with_reducible refine' Lv.i_ixL ?hp ?hn ?_); (case hp => first | exact SqL.of1 (by assumption) | exact SqL.of1 upd_same); (case hn => exact rfl))
  | (with_reducible refine L2.iteT ?_) | (with_reducible refine L2.iteF ?_) | (with_reducible refine Lv.iteNF ?_) | (with_reducible refine Lv.iteNT ?_) | (with_reducible refine Lv.iteNNF ?_) | (with_reducible refine Lv.iteNNT ?_) | (with_reducible refine Lv.iteR ?_) | (with_reducible refine Lv.iteNR ?_) | (with_reducible refine Lv.iteFT ?_) | (with_reducible refine Lv.iteTF ?_) | (with_reducible refine Lv.iteNFT ?_) | (with_reducible refine Lv.iteNTF ?_) | (with_reducible refine Lv.x_nx ?_))
local macro_rules | `(tactic| tm_at "w") => `(tactic| (repeat tm_at "s"))
local macro_rules | `(tactic| tm_at "fo") => `(tactic| ((refine' Lv.fo ?a ?_); (case a => (intro R' k'; tm_at "w"; exact k'))))
local macro_rules | `(tactic| tm_at "lc") => `(tactic| ((refine' Lv.lc ?a ?_); (case a => (intro R' k'; tm_at "w"; exact k'))))
local macro_rules | `(tactic| tm_at "t") => `(tactic| first
  | with_reducible refine Lv.v_lst ?_ | with_reducible refine Lv.v_tup ?_ | ((with_reducible refine Lv.v_lstK ?hz ?_); (case hz => tm_at "z")) | ((with_reducible refine Lv.v_tupK ?hz ?_); (case hz => tm_at "z")) | with_reducible refine Lv.v_dnewK ?_ | with_reducible refine Lv.v_revL ?_ | with_reducible refine Lv.v_sortSetS ?_ | with_reducible refine Lv.v_lenSetS ?_
  | tm_at "s" | with_reducible refine Lv.i_raise ?_ | with_reducible refine Lv.i_callS ?_ | with_reducible refine Lv.i_tryAx ?_ | with_reducible refine Lv.v_ve ?_)
local macro_rules | `(tactic| tm_at "v") => `(tactic| (repeat tm_at "t"))
/-! Growing_1_init(self): slots 0 self -/
abbrev N_Growing_1_init : List Str := ["self"]
def t_Growing_1_init (K : PySem.W.Frag) (C_Growing : Addr) : TS :=
  (sFld K (tVar 0) (tC (.str (S []))) "letters")
def GrAt (C : Addr) (H : Hp) (x : Addr) (l : List Nat) : Prop := ∃ dx : Addr, H x = some (.ins C dx [("letters", .str (S l))]) ∧ Low l ∧ l.length ≤ 80
theorem GrAt.same {C : Addr} {H H' : Hp} {x : Addr} {l : List Nat} (h : GrAt C H x l) (s : Same H H') : GrAt C H' x l := by
  obtain ⟨dx, h1, h2⟩ := h
  exact ⟨dx, s _ _ h1, h2⟩
theorem GrAt.but {C : Addr} {H H' : Hp} {x d : Addr} {l : List Nat} (h : GrAt C H x l) (n : x ≠ d) (b : But d H H') : GrAt C H' x l := by
  obtain ⟨dx, h1, h2⟩ := h
  exact ⟨dx, b _ _ n h1, h2⟩
theorem GrAt.neL {C : Addr} {H : Hp} {x d : Addr} {l : List Nat} {ys : List V} (h : GrAt C H x l) (e : H d = some (.lst ys)) : x ≠ d := fun z => by
  obtain ⟨dx, h1, h2⟩ := h
  rw [z, e] at h1
  cases h1
def sp_Growing_1_init (K : PySem.W.Frag) (C : Addr) : Sp := fun vs H Q _ => ∃ (x dx : Addr), vs = [.ref x] ∧ H x = some (.ins C dx []) ∧ ∀ H', But x H H' → GrAt C H' x [] → Q .non H'
theorem i_Growing {K : PySem.W.Frag} {C : Addr} {H : Hp} {Q : VK} {E : XK} (q : ∀ (x : Addr) (H' : Hp), H x = none → Same H H' → GrAt C H' x [] → Q (.ref x) H') : rMk C (sp_Growing_1_init K C) [] E [] H Q := by
  refine x_mk fun x dx H2 n s h => ⟨x, dx, rfl, h, fun H' b k => ⟨rfl, q x H' n (But.new s b n) k⟩⟩
theorem pure_Growing_1_init {K : PySem.W.Frag} {C : Addr} (Z : Kl K C ["letters"]) (vs : List V) (H : Hp) (Q : VK) (E : XK) (h : sp_Growing_1_init K C vs H Q E) : t_Growing_1_init K C { nx := fun _ H' => Q .non H', rt := Q } (start N_Growing_1_init vs) H := by
  obtain ⟨x, dx, rfl, hx, q⟩ := h
  unfold t_Growing_1_init
  tm_at "v"
  refine x_pf Z hx (by decide) fun H3 b3 h3 => ?_
  exact q H3 b3 ⟨dx, h3, Low.nil, by decide⟩
/-! Desk_0_init(self): slots 0 self -/
abbrev N_Desk_0_init : List Str := ["self"]
def t_Desk_0_init (K : PySem.W.Frag) (C_Desk : Addr) (C_Growing : Addr) : TS :=
  (tSeq (sFld K (tVar 0) (tMake C_Growing (sp_Growing_1_init K C_Growing) [] E0 tNil) "grown") (sFld K (tVar 0) (tC (.str (S []))) "beside"))
-- needs: Lv43
/-- a desk at x: its row l (grown, at g), the other row m -/
def DkAt (C Cg : Addr) (H : Hp) (x g : Addr) (l m : List Nat) : Prop := (∃ dx : Addr, H x = some (.ins C dx [("grown", .ref g), ("beside", .str (S m))])) ∧ GrAt Cg H g l ∧ Low m ∧ m.length ≤ 80
theorem DkAt.ne {C Cg : Addr} {H : Hp} {x g : Addr} {l m : List Nat} (h : DkAt C Cg H x g l m) : x ≠ g := fun z => by
  obtain ⟨⟨dx, h1⟩, ⟨dy, h2, _⟩, _⟩ := h
  rw [z, h2] at h1
  cases h1
theorem DkAt.same {C Cg : Addr} {H H' : Hp} {x g : Addr} {l m : List Nat} (h : DkAt C Cg H x g l m) (s : Same H H') : DkAt C Cg H' x g l m := by
  obtain ⟨⟨dx, h1⟩, h2, h3⟩ := h
  exact ⟨⟨dx, s _ _ h1⟩, h2.same s, h3⟩
theorem DkAt.bu {C Cg : Addr} {H H' : Hp} {x g : Addr} {l m : List Nat} {as : List Addr} (h : DkAt C Cg H x g l m) (b : Bu as H H') (n1 : x ∉ as) (n2 : g ∉ as) : DkAt C Cg H' x g l m := by
  obtain ⟨⟨dx, h1⟩, ⟨dy, h2, h4⟩, h3⟩ := h
  exact ⟨⟨dx, b _ _ n1 h1⟩, ⟨dy, b _ _ n2 h2, h4⟩, h3⟩
theorem DkAt.l80 {C Cg : Addr} {H : Hp} {x g : Addr} {l m : List Nat} (h : DkAt C Cg H x g l m) : l.length ≤ 80 := by
  obtain ⟨_, ⟨_, _, _, h⟩, _⟩ := h
  exact h
theorem DkAt.low {C Cg : Addr} {H : Hp} {x g : Addr} {l m : List Nat} (h : DkAt C Cg H x g l m) : Low l := by
  obtain ⟨_, ⟨_, _, h, _⟩, _⟩ := h
  exact h
def sp_Desk_0_init (K : PySem.W.Frag) (C Cg : Addr) : Sp := fun vs H Q _ => ∃ (x dx : Addr), vs = [.ref x] ∧ H x = some (.ins C dx []) ∧ ∀ g H', H g = none → But x H H' → DkAt C Cg H' x g [] [] → Q .non H'
theorem i_Desk {K : PySem.W.Frag} {C Cg : Addr} {H : Hp} {Q : VK} {E : XK} (q : ∀ (x g : Addr) (H' : Hp), H x = none → H g = none → Same H H' → DkAt C Cg H' x g [] [] → Q (.ref x) H') : rMk C (sp_Desk_0_init K C Cg) [] E [] H Q := by
  refine x_mk fun x dx H2 n s h => ⟨x, dx, rfl, h, fun g H' ng b k => ⟨rfl, q x g H' n ?_ (But.new s b n) k⟩⟩
  cases e : H g with
  | none => rfl
  | some o => rw [s _ _ e] at ng; cases ng
theorem pure_Desk_0_init {K : PySem.W.Frag} {C Cg : Addr} (Z : Kl K C ["grown", "beside"]) (Y : Kl K Cg ["letters"]) (vs : List V) (H : Hp) (Q : VK) (E : XK) (h : sp_Desk_0_init K C Cg vs H Q E) : t_Desk_0_init K C Cg { nx := fun _ H' => Q .non H', rt := Q } (start N_Desk_0_init vs) H := by
  obtain ⟨x, dx, rfl, hx, q⟩ := h
  unfold t_Desk_0_init
  tm_at "v"
  refine i_Growing fun g H1 ng s1 hg => ?_
  have xg : x ≠ g := fun z => by rw [z, ng] at hx; cases hx
  tm_at "v"
  refine x_pfM Z (by decide +kernel) (s1 _ _ hx) (by decide) fun H2 b2 h2 => ?_
  rw [put_nil] at h2
  tm_at "v"
  refine x_pfM Z (by decide +kernel) h2 (by show 1 < 1000; decide) fun H3 b3 h3 => ?_
  rw [put2_n (by decide +kernel)] at h3
  exact q g H3 ng (s1.but.trans (b2.trans b3)) ⟨⟨dx, h3⟩, (hg.but xg.symm b2).but xg.symm b3, Low.nil, by decide⟩
/-! law_take_1(deck, many): slots 0 deck, 1 many, 2 come, 3 number -/
abbrev N_law_take_1 : List Str := ["deck", "many", "come", "number"]
def t_law_take_1 (K : PySem.W.Frag) : TS :=
  (tSeq (tIfS (tTest (tOp Lv.rEqI (tOp (rIxL K) (tVar 0) (tC (.int 1))) (tC (.int 0)))) (tSeq (tAsg (tOp Lv.rMod (tOp (rIxL K) (tVar 0) (tC (.int 0))) (tVar 1)) (gName 2)) (tSeq (tAsg (tOp Lv.rDivW (tOp (rIxL K) (tVar 0) (tC (.int 0))) (tVar 1)) (gSub (tVar 0) (tC (.int 0)) rSetL)) (tRet (tVar 2)))) tNext) (tSeq (tAsg (tOp Lv.rAdd (tOp (rIxL K) (tVar 0) (tC (.int 2))) (tC (.int 1))) (gSub (tVar 0) (tC (.int 2)) rSetL)) (tSeq (tAsg (tOp Lv.rMul (tOp Lv.rMod (tOp (rIxL K) (tVar 0) (tC (.int 0))) (tC (.int 2147483647))) (tOp Lv.rAdd (tOp Lv.rMul (tOp (rIxL K) (tVar 0) (tC (.int 2))) (tOp (rIxL K) (tVar 0) (tC (.int 2)))) (tC (.int 48271)))) (gName 3)) (tSeq (tAsg (tOp Lv.rMod (tOp Lv.rAdd (tOp Lv.rAdd (tVar 3) (tOp (rIxL K) (tVar 0) (tC (.int 2)))) (tC (.int 7))) (tC (.int 2147483629))) (gName 3)) (tSeq (tAsg (tOp Lv.rMod (tOp Lv.rMul (tVar 3) (tVar 3)) (tC (.int 2147483587))) (gName 3)) (tRet (tOp Lv.rMod (tOp Lv.rDiv (tOp Lv.rMod (tOp Lv.rMul (tVar 3) (tC (.int 69621))) (tC (.int 2147483563))) (tC (.int 8))) (tVar 1))))))))
-- needs: Lv38
/-- a deck of draws: its third number is n at most -/
def Dk (H : Hp) (d : Addr) (n : Nat) : Prop := ∃ (c f : Int) (k : Nat), H d = some (.lst [.int c, .int f, .int (k : Nat)]) ∧ (f = 0 ∧ 0 ≤ c ∨ f = 1) ∧ k ≤ n
theorem Dk.same {H H' : Hp} {d : Addr} {n : Nat} (s : Same H H') (h : Dk H d n) : Dk H' d n := by
  obtain ⟨c, f, k, e, z⟩ := h
  exact ⟨c, f, k, s _ _ e, z⟩
theorem Dk.more {H : Hp} {d : Addr} {n m : Nat} (h : Dk H d n) (l : n ≤ m) : Dk H d m := by
  obtain ⟨c, f, k, e, z, w⟩ := h
  exact ⟨c, f, k, e, z, by omega⟩
theorem Dk.ne {H : Hp} {d p : Addr} {n : Nat} (h : Dk H d n) (e : H p = none) : d ≠ p := by
  obtain ⟨c, f, k, h, _⟩ := h
  exact ne_of_none h e
theorem Dk.is {H : Hp} {d : Addr} {n : Nat} (h : Dk H d n) : ∃ o, H d = some o := by
  obtain ⟨c, f, k, h, _⟩ := h
  exact ⟨_, h⟩
theorem Dk.but {H H' : Hp} {d a : Addr} {n : Nat} (h : Dk H d n) (b : But a H H') (ne : d ≠ a) : Dk H' d n := by
  obtain ⟨c, f, k, e, z⟩ := h
  exact ⟨c, f, k, b _ _ ne e, z⟩
theorem Dk.updN {H : Hp} {d p : Addr} {n : Nat} {o : HO} (h : Dk H d n) (ne : d ≠ p) : Dk (L2.upd H p o) d n := by
  obtain ⟨c, f, k, e, z⟩ := h
  exact ⟨c, f, k, by rw [upd_ne ne]; exact e, z⟩
def sp_law_take_1 (K : PySem.W.Frag) : Sp := fun vs H Q _ => ∃ (d : Addr) (n m : Nat), vs = [.ref d, .int (m : Nat)] ∧ Dk H d n ∧ n < 2 ^ 30 ∧ 0 < m ∧ m < 2 ^ 100 ∧ ∀ (r : Nat) H', r < m → Dk H' d (n + 1) → But d H H' → Q (.int (r : Nat)) H'
theorem i_law_take_1 {K : PySem.W.Frag} {d : Addr} {n : Nat} (m : Nat) {x : Int} {H : Hp} {Q : VK} {E : XK} (hx : x = (m : Nat)) (hd : Dk H d n) (hn : n < 2 ^ 30) (h0 : 0 < m) (h1 : m < 2 ^ 100) (q : ∀ (r : Nat) H', r < m → Dk H' d (n + 1) → But d H H' → Q (.int (r : Nat)) H') : sp_law_take_1 K [.ref d, .int x] H Q E := by
  subst hx
  exact ⟨d, n, m, rfl, hd, hn, h0, h1, q⟩
theorem pure_law_take_1 {K : PySem.W.Frag} (vs : List V) (H : Hp) (Q : VK) (E : XK) (h : sp_law_take_1 K vs H Q E) : t_law_take_1 K { nx := fun _ H' => Q .non H', rt := Q } (start N_law_take_1 vs) H := by
  obtain ⟨d, n, m, rfl, ⟨c, f, k, hd, hf, hk⟩, hn, h0, h1, q⟩ := h
  unfold t_law_take_1
  tm_at "v"
  rcases hf with ⟨rfl, c0⟩ | rfl
  · refine if_yes rfl ?_
    tm_at "v"
    refine i_rI (show CDivW _ _ from divW_ok (by omega) (by rw [Int.natAbs_natCast]; exact Nat.lt_trans h1 (Nat.pow_lt_pow_right (by decide) (by decide)))) ?_
    tm_at "v"
    refine i_setL hd (j := 0) (by rfl) ?_
    tm_at "v"
    obtain ⟨r, er⟩ := Int.eq_ofNat_of_zero_le (Int.emod_nonneg c (show ((m : Nat) : Int) ≠ 0 by omega))
    have rl : (r : Int) < (m : Int) := by rw [← er]; exact Int.emod_lt_of_pos _ (by omega)
    rw [er]
    exact q r _ (by omega) ⟨c / m, 0, k, upd_same, .inl ⟨rfl, Int.ediv_nonneg c0 (by omega)⟩, by omega⟩ But.upd
  · refine if_no (by decide) ?_
    tm_at "v"
    refine i_setL hd (j := 2) (by rfl) ?_
    have hd2 : upd H d (.lst [.int c, .int 1, .int ((k : Int) + 1)]) d = some (.lst [.int c, .int 1, .int ((k : Int) + 1)]) := upd_same
    show tSeq _ _ _ _ (upd H d (.lst [.int c, .int 1, .int ((k : Int) + 1)]))
    have b2 : But d H (upd H d (.lst [.int c, .int 1, .int ((k : Int) + 1)])) := But.upd
    generalize upd H d (.lst [.int c, .int 1, .int ((k : Int) + 1)]) = H2 at *
    tm_at "v"
    generalize (c % 2147483647 * (((k : Int) + 1) * ((k : Int) + 1) + 48271) + ((k : Int) + 1) + 7) % 2147483629 * ((c % 2147483647 * (((k : Int) + 1) * ((k : Int) + 1) + 48271) + ((k : Int) + 1) + 7) % 2147483629) % 2147483587 * 69621 % 2147483563 / 8 = z
    obtain ⟨r, er⟩ := Int.eq_ofNat_of_zero_le (Int.emod_nonneg z (show ((m : Nat) : Int) ≠ 0 by omega))
    have rl : (r : Int) < (m : Int) := by rw [← er]; exact Int.emod_lt_of_pos _ (by omega)
    rw [er]
    exact q r _ (by omega) ⟨c, 1, k + 1, hd2, .inr rfl, by omega⟩ b2
/-! law_deck_0(cell, k): slots 0 cell, 1 k -/
abbrev N_law_deck_0 : List Str := ["cell", "k"]
def t_law_deck_0 (K : PySem.W.Frag) : TS :=
  (tSeq (tIfS (tTest (tOp Lv.rGe (tVar 0) (tOp Lv.rPow (tC (.int 10)) (tC (.int 18))))) (tRet (tLst (tCons (tOp Lv.rSub (tVar 0) (tOp Lv.rPow (tC (.int 10)) (tC (.int 18)))) (tCons (tC (.int 0)) (tCons (tVar 1) tNil))))) tNext) (tRet (tLst (tCons (tVar 0) (tCons (tC (.int 1)) (tCons (tVar 1) tNil))))))
-- needs: Lv38 Q_law_take_1
def sp_law_deck_0 (K : PySem.W.Frag) : Sp := fun vs H Q _ => ∃ (c : Int) (n : Nat), vs = [.int c, .int (n : Nat)] ∧ ∀ d H', H d = none → Same H H' → Dk H' d n → Q (.ref d) H'
theorem i_law_deck_0 {K : PySem.W.Frag} {c : Int} (n : Nat) {x : Int} {H : Hp} {Q : VK} {E : XK} (hx : x = (n : Nat)) (q : ∀ d H', H d = none → Same H H' → Dk H' d n → Q (.ref d) H') : sp_law_deck_0 K [.int c, .int x] H Q E := by
  subst hx
  exact ⟨c, n, rfl, q⟩
theorem pure_law_deck_0 {K : PySem.W.Frag} (vs : List V) (H : Hp) (Q : VK) (E : XK) (h : sp_law_deck_0 K vs H Q E) : t_law_deck_0 K { nx := fun _ H' => Q .non H', rt := Q } (start N_law_deck_0 vs) H := by
  obtain ⟨c, n, rfl, q⟩ := h
  unfold t_law_deck_0
  tm_at "v"
  have e18 : (10 : Int) ^ Int.toNat 18 = 1000000000000000000 := by decide
  rw [e18]
  refine if_dec (fun z => ?_) (fun z => ?_)
  · tm_at "v"
    rw [e18]
    intro p H1 n1 s1 h1
    exact q p H1 n1 s1 ⟨_, 0, n, h1, .inl ⟨rfl, by omega⟩, Nat.le_refl _⟩
  · tm_at "v"
    intro p H1 n1 s1 h1
    exact q p H1 n1 s1 ⟨_, 1, n, h1, .inr rfl, Nat.le_refl _⟩
/-! law_some_number_0(deck): slots 0 deck, 1 some -/
abbrev N_law_some_number_0 : List Str := ["deck", "some"]
def t_law_some_number_0 (K : PySem.W.Frag) : TS :=
  (tSeq (tAsg (tLst (tCons (tC (.str (S [48]))) (tCons (tC (.str (S [49]))) (tCons (tC (.str (S [50]))) (tCons (tC (.str (S [55]))) (tCons (tC (.str (S [51, 48]))) (tCons (tOp Lv.rMulS (tC (.str (S [49]))) (tC (.int 30))) (tCons (tOp Lv.rMulS (tC (.str (S [49]))) (tC (.int 31))) (tCons (tC (.str (S [48, 48]))) (tCons (tC (.str (S [48, 49]))) (tCons (tC (.str (S [45, 49]))) (tCons (tC (.str (S []))) (tCons (tC (.str (S [120]))) (tCons (tC (.str (S [49, 46, 48]))) tNil)))))))))))))) (gName 1)) (tSeq (tAsg (tOp L2.rCat (tVar 1) (tLst (tCons (tC (.str (S [43, 49]))) (tCons (tC (.str (S [49, 95, 48]))) tNil)))) (gName 1)) (tRet (tOp (rIxL K) (tVar 1) (tCall (sp_law_take_1 K) [] E0 (tCons (tVar 0) (tCons (tOp (rIxL K) (tLst (tCons (tC (.int 6)) (tCons (tC (.int 15)) tNil))) (tCall (sp_law_take_1 K) [] E0 (tCons (tVar 0) (tCons (tC (.int 2)) tNil)))) tNil)))))))
-- needs: Lv41 Q_law_take_1
def TxA (x : V) : Prop := ∃ w : List Nat, x = .str (S w) ∧ w.length ≤ 100 ∧ Asc w
theorem txa_nil : ∀ x ∈ ([] : List V), TxA x := fun _ z => nomatch z
theorem txa_cons {w : List Nat} {xs : List V} (h : w.length ≤ 100) (a : ∀ c ∈ w, c < 128) (t : ∀ x ∈ xs, TxA x) : ∀ x ∈ V.str (S w) :: xs, TxA x := fun x hx => by
  rcases List.mem_cons.mp hx with e | e
  · exact ⟨w, e, h, a⟩
  · exact t x e
theorem txa_app {xs ys : List V} (h : ∀ x ∈ xs, TxA x) (k : ∀ x ∈ ys, TxA x) : ∀ x ∈ xs ++ ys, TxA x := fun x hx => (List.mem_append.mp hx).elim (h x) (k x)
theorem asc_rep {n c : Nat} (h : c < 128) : ∀ d ∈ List.replicate n c, d < 128 := fun d hd => by rw [(List.mem_replicate.mp hd).2]; exact h
theorem i_pickA {K : PySem.W.Frag} {p : Addr} {xs : List V} {r : Int} {H : Hp} {Q : VK} (hp : SqL K H p xs) (hx : ∀ x ∈ xs, TxA x) (h0 : 0 ≤ r) (h1 : r < xs.length) (q : ∀ w : List Nat, w.length ≤ 100 → Asc w → Q (.str (S w)) H) : rIxL K (.ref p) (.int r) H Q := by
  obtain ⟨k, rfl⟩ := Int.eq_ofNat_of_zero_le h0
  have hk : k < xs.length := by omega
  obtain ⟨w, e, h2, h3⟩ := hx _ (List.getElem_mem hk)
  exact i_ixL hp (atI_nat (j := k) (List.getElem?_eq_getElem hk)) (by rw [e]; exact q w h2 h3)
def sp_law_some_number_0 (K : PySem.W.Frag) : Sp := fun vs H Q _ => ∃ (d : Addr) (n : Nat), vs = [.ref d] ∧ Dk H d n ∧ n < 2 ^ 29 ∧ ∀ (a : List Nat) H' , a.length ≤ 100 → Asc a → Dk H' d (n + 2) → But d H H' → Q (.str (S a)) H'
theorem i_law_some_number_0 {K : PySem.W.Frag} {d : Addr} {n : Nat} {H : Hp} {Q : VK} {E : XK} (hd : Dk H d n) (hn : n < 2 ^ 29) (q : ∀ (a : List Nat) H' , a.length ≤ 100 → Asc a → Dk H' d (n + 2) → But d H H' → Q (.str (S a)) H') : sp_law_some_number_0 K [.ref d] H Q E := ⟨d, n, rfl, hd, hn, q⟩
theorem pure_law_some_number_0 {K : PySem.W.Frag} (vs : List V) (H : Hp) (Q : VK) (E : XK) (h : sp_law_some_number_0 K vs H Q E) : t_law_some_number_0 K { nx := fun _ H' => Q .non H', rt := Q } (start N_law_some_number_0 vs) H := by
  obtain ⟨d, n, rfl, hd, hn, q⟩ := h
  unfold t_law_some_number_0
  tm_at "v"
  refine i_mulR (n := 30) rfl (by decide) ?_
  tm_at "v"
  refine i_mulR (n := 31) rfl (by decide) ?_
  tm_at "v"
  intro p1 H1 n1 s1 h1
  obtain ⟨xs1, g1, t1, l1⟩ : ∃ xs, H1 p1 = some (.lst xs) ∧ (∀ x ∈ xs, TxA x) ∧ xs.length = 13 := ⟨_, h1, by repeat (first | exact txa_nil | refine txa_cons (by decide) (by decide) ?_ | refine txa_cons (by rw [List.length_replicate]; decide) (asc_rep (by decide)) ?_), rfl⟩
  clear h1
  tm_at "v"
  intro p2 H2 n2 s2 h2
  obtain ⟨xs2, g2, t2, l2⟩ : ∃ xs, H2 p2 = some (.lst xs) ∧ (∀ x ∈ xs, TxA x) ∧ xs.length = 2 := ⟨_, h2, by repeat (first | exact txa_nil | refine txa_cons (by decide) (by decide) ?_), rfl⟩
  clear h2
  refine v_cat (s2 _ _ g1) g2 (le_line (by omega)) fun p3 H3 n3 s3 h3 => ?_
  tm_at "v"
  intro p4 H4 n4 s4 h4
  have S3 := s1.trans (s2.trans s3)
  have S4 := S3.trans s4
  have hd4 := Dk.same S4 hd
  have d3 : p3 ≠ d := ((Dk.same (s1.trans s2) hd).ne n3).symm
  have d4 : p4 ≠ d := ((Dk.same S3 hd).ne n4).symm
  tm_at "v"
  refine i_law_take_1 2 rfl hd4 (by omega) (by decide) (by decide) fun r1 H5 g5 hd5 b5 => ?_
  refine i_pickI (ns := [6, 15]) 6 15 (SqL.of1 (b5.at h4 d4)) (by omega) (by simp; omega) (by decide) fun m m1 m2 => ?_
  tm_at "v"
  obtain ⟨m, rfl⟩ := Int.eq_ofNat_of_zero_le (show 0 ≤ m by omega)
  refine i_law_take_1 m rfl hd5 (by omega) (by omega) (Nat.lt_of_le_of_lt (show m ≤ 15 by omega) (by decide)) fun r2 H6 g6 hd6 b6 => ?_
  refine i_pickA (SqL.of1 (b6.at (b5.at (s4 _ _ h3) d3) d3)) (txa_app t1 t2) (by omega) (by rw [List.length_append]; omega) fun w w1 w2 => ?_
  exact q w H6 w1 w2 hd6 (S4.but.trans (b5.trans b6))
/-! law_some_row_0(deck): slots 0 deck, 1 odd, 2 some -/
abbrev N_law_some_row_0 : List Str := ["deck", "odd", "some"]
def t_law_some_row_0 (K : PySem.W.Frag) : TS :=
  (tSeq (tAsg (tC (.str (S [33, 35, 36, 39, 40, 41, 42, 46, 47, 58, 59, 60, 61, 62, 63, 64, 66, 77, 88, 89, 91, 93, 94, 96, 123, 124, 125, 126, 48, 49, 50, 51, 52, 53, 54, 55, 56, 57]))) (gName 1)) (tSeq (tAsg (tLst (tCons (tC (.str (S [97]))) (tCons (tC (.str (S [45]))) (tCons (tC (.str (S [97, 98]))) (tCons (tC (.str (S [97, 98, 97, 98]))) (tCons (tC (.str (S [98, 97]))) (tCons (tC (.str (S []))) (tCons (tC (.str (S [65]))) (tCons (tC (.str (S [97, 49]))) (tCons (tC (.str (S [45, 45]))) (tCons (tC (.str (S [97, 45]))) (tCons (tOp Lv.rMulS (tC (.str (S [122]))) (tC (.int 80))) (tCons (tOp Lv.rMulS (tC (.str (S [122]))) (tC (.int 81))) tNil))))))))))))) (gName 2)) (tSeq (tDrop (tBM K "list" rAppend (tVar 2) (tCons (tOp Lv.rAddS (tC (.str (S [97]))) (tOp Lv.rIxT1 (tVar 1) (tCall (sp_law_take_1 K) [] E0 (tCons (tVar 0) (tCons (tCB Lv.rLenT (tCons (tVar 1) tNil)) tNil))))) tNil))) (tRet (tOp (rIxL K) (tVar 2) (tCall (sp_law_take_1 K) [] E0 (tCons (tVar 0) (tCons (tOp (rIxL K) (tLst (tCons (tC (.int 5)) (tCons (tC (.int 13)) tNil))) (tCall (sp_law_take_1 K) [] E0 (tCons (tVar 0) (tCons (tC (.int 2)) tNil)))) tNil))))))))
-- needs: Lv41 Q_law_take_1 Q_law_some_number_0
def sp_law_some_row_0 (K : PySem.W.Frag) : Sp := fun vs H Q _ => ∃ (d : Addr) (n : Nat), vs = [.ref d] ∧ Dk H d n ∧ n < 2 ^ 29 ∧ ∀ (a : List Nat) H' , a.length ≤ 100 → Asc a → Dk H' d (n + 3) → But d H H' → Q (.str (S a)) H'
theorem i_law_some_row_0 {K : PySem.W.Frag} {d : Addr} {n : Nat} {H : Hp} {Q : VK} {E : XK} (hd : Dk H d n) (hn : n < 2 ^ 29) (q : ∀ (a : List Nat) H' , a.length ≤ 100 → Asc a → Dk H' d (n + 3) → But d H H' → Q (.str (S a)) H') : sp_law_some_row_0 K [.ref d] H Q E := ⟨d, n, rfl, hd, hn, q⟩
theorem pure_law_some_row_0 {K : PySem.W.Frag} (vs : List V) (H : Hp) (Q : VK) (E : XK) (h : sp_law_some_row_0 K vs H Q E) : t_law_some_row_0 K { nx := fun _ H' => Q .non H', rt := Q } (start N_law_some_row_0 vs) H := by
  obtain ⟨d, n, rfl, hd, hn, q⟩ := h
  unfold t_law_some_row_0
  tm_at "v"
  refine i_mulR (n := 80) rfl (by decide) ?_
  tm_at "v"
  refine i_mulR (n := 81) rfl (by decide) ?_
  tm_at "v"
  intro p3 H3 n3 s3 h3
  obtain ⟨xs1, g1, t1, l1⟩ : ∃ xs, H3 p3 = some (.lst xs) ∧ (∀ x ∈ xs, TxA x) ∧ xs.length = 12 := ⟨_, h3, by repeat (first | exact txa_nil | refine txa_cons (by decide) (by decide) ?_ | refine txa_cons (by rw [List.length_replicate]; decide) (asc_rep (by decide)) ?_), rfl⟩
  clear h3
  have hd3 := Dk.same s3 hd
  have d3 : p3 ≠ d := (hd.ne n3).symm
  tm_at "v"
  refine i_tBMl (SqL.of1 g1) ?_
  tm_at "v"
  refine i_law_take_1 38 rfl hd3 (by omega) (by decide) (by decide) fun r0 H4 g4 hd4 b4 => ?_
  refine i_pickS (by decide) (by omega) (by simp; omega) fun c hc => ?_
  have hc : c < 128 := by
    have : ∀ c ∈ [33, 35, 36, 39, 40, 41, 42, 46, 47, 58, 59, 60, 61, 62, 63, 64, 66, 77, 88, 89, 91, 93, 94, 96, 123, 124, 125, 126, 48, 49, 50, 51, 52, 53, 54, 55, 56, 57], c < 128 := by decide
    exact this c hc
  tm_at "v"
  refine v_app (b4.at g1 d3) (lt_line (by omega)) fun H5 b5 h5 => ?_
  have hd5 := hd4.but b5 d3.symm
  have nx5 : ∀ p, H5 p = none → d ≠ p := fun p n => hd5.ne n
  tm_at "v"
  intro p6 H6 n6 s6 h6
  have d6 : p6 ≠ d := (hd5.ne n6).symm
  have hd6 := Dk.same s6 hd5
  tm_at "v"
  refine i_law_take_1 2 rfl hd6 (by omega) (by decide) (by decide) fun r1 H7 g7 hd7 b7 => ?_
  refine i_pickI (ns := [5, 13]) 5 13 (SqL.of1 (b7.at h6 d6)) (by omega) (by simp; omega) (by decide) fun m m1 m2 => ?_
  tm_at "v"
  obtain ⟨m, rfl⟩ := Int.eq_ofNat_of_zero_le (show 0 ≤ m by omega)
  refine i_law_take_1 m rfl hd7 (by omega) (by omega) (Nat.lt_of_le_of_lt (show m ≤ 13 by omega) (by decide)) fun r2 H8 g8 hd8 b8 => ?_
  refine i_pickA (SqL.of1 (b8.at (b7.at (s6 _ _ h5) d3) d3)) (txa_app t1 (txa_cons (by simp) (fun e he => by simp at he; rcases he with h | h <;> omega) txa_nil)) (by omega) (by rw [List.length_append]; simp; omega) fun w w1 w2 => ?_
  refine q w H8 w1 w2 hd8 fun a o na ha => ?_
  have np : a ≠ p3 := fun z => by rw [z, n3] at ha; cases ha
  exact b8 _ _ na (b7 _ _ na (s6 _ _ (b5 _ _ np (b4 _ _ na (s3 _ _ ha)))))
/-! law_some_letters_1(deck): slots 0 deck, 1 some -/
abbrev N_law_some_letters_1 : List Str := ["deck", "some"]
def t_law_some_letters_1 (K : PySem.W.Frag) : TS :=
  (tSeq (tAsg (tLst (tCons (tC (.str (S [97]))) (tCons (tC (.str (S [97, 98]))) (tCons (tC (.str (S [97, 98, 122]))) (tCons (tC (.str (S [122]))) (tCons (tC (.str (S []))) (tCons (tC (.str (S [98, 97]))) (tCons (tC (.str (S [97, 97]))) (tCons (tC (.str (S [65]))) (tCons (tC (.str (S [97, 49]))) (tCons (tC (.str (S [45]))) (tCons (tC (.str (S [97, 98, 99, 100, 101, 102, 103, 104, 105, 106, 107, 108, 109, 110, 111, 112, 113, 114, 115, 116, 117, 118, 119, 120, 121, 122]))) (tCons (tC (.str (S [97, 126]))) tNil))))))))))))) (gName 1)) (tRet (tOp (rIxL K) (tVar 1) (tCall (sp_law_take_1 K) [] E0 (tCons (tVar 0) (tCons (tOp (rIxL K) (tLst (tCons (tC (.int 4)) (tCons (tC (.int 12)) tNil))) (tCall (sp_law_take_1 K) [] E0 (tCons (tVar 0) (tCons (tC (.int 2)) tNil)))) tNil))))))
-- needs: Lv41 Q_law_take_1 Q_law_some_number_0
def sp_law_some_letters_1 (K : PySem.W.Frag) : Sp := fun vs H Q _ => ∃ (d : Addr) (n : Nat), vs = [.ref d] ∧ Dk H d n ∧ n < 2 ^ 29 ∧ ∀ (a : List Nat) H' , a.length ≤ 100 → Asc a → Dk H' d (n + 2) → But d H H' → Q (.str (S a)) H'
theorem i_law_some_letters_1 {K : PySem.W.Frag} {d : Addr} {n : Nat} {H : Hp} {Q : VK} {E : XK} (hd : Dk H d n) (hn : n < 2 ^ 29) (q : ∀ (a : List Nat) H' , a.length ≤ 100 → Asc a → Dk H' d (n + 2) → But d H H' → Q (.str (S a)) H') : sp_law_some_letters_1 K [.ref d] H Q E := ⟨d, n, rfl, hd, hn, q⟩
theorem pure_law_some_letters_1 {K : PySem.W.Frag} (vs : List V) (H : Hp) (Q : VK) (E : XK) (h : sp_law_some_letters_1 K vs H Q E) : t_law_some_letters_1 K { nx := fun _ H' => Q .non H', rt := Q } (start N_law_some_letters_1 vs) H := by
  obtain ⟨d, n, rfl, hd, hn, q⟩ := h
  unfold t_law_some_letters_1
  tm_at "v"
  intro p3 H3 n3 s3 h3
  obtain ⟨xs1, g1, t1, l1⟩ : ∃ xs, H3 p3 = some (.lst xs) ∧ (∀ x ∈ xs, TxA x) ∧ xs.length = 12 := ⟨_, h3, by repeat (first | exact txa_nil | refine txa_cons (by decide) (by decide) ?_), rfl⟩
  clear h3
  tm_at "v"
  intro p4 H4 n4 s4 h4
  have S4 := s3.trans s4
  have hd4 := Dk.same S4 hd
  have d3 : p3 ≠ d := (hd.ne n3).symm
  have d4 : p4 ≠ d := ((Dk.same s3 hd).ne n4).symm
  tm_at "v"
  refine i_law_take_1 2 rfl hd4 (by omega) (by decide) (by decide) fun r1 H5 g5 hd5 b5 => ?_
  refine i_pickI (ns := [4, 12]) 4 12 (SqL.of1 (b5.at h4 d4)) (by omega) (by simp; omega) (by decide) fun m m1 m2 => ?_
  tm_at "v"
  obtain ⟨m, rfl⟩ := Int.eq_ofNat_of_zero_le (show 0 ≤ m by omega)
  refine i_law_take_1 m rfl hd5 (by omega) (by omega) (Nat.lt_of_le_of_lt (show m ≤ 12 by omega) (by decide)) fun r2 H6 g6 hd6 b6 => ?_
  refine i_pickA (SqL.of1 (b6.at (b5.at (s4 _ _ g1) d3) d3)) t1 (by omega) (by omega) fun w w1 w2 => ?_
  exact q w H6 w1 w2 hd6 (S4.but.trans (b5.trans b6))
/-! law_some_words_0(cell): slots 0 cell, 1 deck, 2 way, 3 words, 4 odd, 5 at, 6 sign -/
abbrev N_law_some_words_0 : List Str := ["cell", "deck", "way", "words", "odd", "at", "sign"]
def t_law_some_words_0 (K : PySem.W.Frag) : TS :=
  (tSeq (tAsg (tCall (sp_law_deck_0 K) [] E0 (tCons (tVar 0) (tCons (tC (.int 8)) tNil))) (gName 1)) (tSeq (tAsg (tCall (sp_law_take_1 K) [] E0 (tCons (tVar 1) (tCons (tC (.int 10)) tNil))) (gName 2)) (Evl.tCut (tIfS (tTest (tOp Lv.rLt (tVar 2) (tC (.int 2)))) (tAsg (tOp Lv.rAddS (tC (.str (S [112, 117, 116, 32]))) (tCall (sp_law_some_letters_1 K) [] E0 (tCons (tVar 1) tNil))) (gName 3)) (tIfS (tTest (tOp Lv.rLt (tVar 2) (tC (.int 4)))) (tAsg (tOp Lv.rAddS (tOp (rIxL K) (tLst (tCons (tC (.str (S [97, 116, 32]))) (tCons (tC (.str (S [119, 97, 121, 32]))) tNil))) (tOp Lv.rSub (tVar 2) (tC (.int 2)))) (tCall (sp_law_some_number_0 K) [] E0 (tCons (tVar 1) tNil))) (gName 3)) (tIfS (tTest (tOp Lv.rEqI (tVar 2) (tC (.int 4)))) (tAsg (tOp Lv.rAddS (tOp Lv.rAddS (tOp Lv.rAddS (tC (.str (S [108, 111, 110, 103, 32]))) (tCall (sp_law_some_number_0 K) [] E0 (tCons (tVar 1) tNil))) (tC (.str (S [32])))) (tCall (sp_law_some_number_0 K) [] E0 (tCons (tVar 1) tNil))) (gName 3)) (tIfS (tTest (tOp Lv.rLt (tVar 2) (tC (.int 7)))) (tAsg (tOp Lv.rAddS (tOp (rIxL K) (tLst (tCons (tC (.str (S [108, 101, 102, 116, 32]))) (tCons (tC (.str (S [112, 108, 97, 99, 101, 32]))) (tCons (tC (.str (S [114, 111, 119, 32]))) (tCons (tC (.str (S [111, 116, 104, 101, 114, 32]))) tNil))))) (tCall (sp_law_take_1 K) [] E0 (tCons (tVar 1) (tCons (tC (.int 4)) tNil)))) (tCall (sp_law_some_row_0 K) [] E0 (tCons (tVar 1) tNil))) (gName 3)) (tIfS (tTest (tOp Lv.rEqI (tVar 2) (tC (.int 7)))) (tAsg (tOp Lv.rAddS (tOp (rIxL K) (tLst (tCons (tC (.str (S [115, 104, 111, 114, 116, 32]))) (tCons (tC (.str (S [97, 114, 99, 104, 101, 115, 32]))) tNil))) (tCall (sp_law_take_1 K) [] E0 (tCons (tVar 1) (tCons (tC (.int 2)) tNil)))) (tCall (sp_law_some_letters_1 K) [] E0 (tCons (tVar 1) tNil))) (gName 3)) (tSeq (tAsg (tLst (tCons (tC (.str (S []))) (tCons (tC (.str (S [32]))) (tCons (tC (.str (S [117, 110, 100, 111]))) (tCons (tC (.str (S [115, 104, 111, 119]))) (tCons (tC (.str (S [109, 97, 110, 121]))) (tCons (tC (.str (S [108, 101, 110, 103, 116, 104, 115]))) (tCons (tC (.str (S [119, 97, 121, 115]))) (tCons (tC (.str (S [99, 111, 109, 109, 111, 110]))) (tCons (tC (.str (S [112, 97, 114, 116, 115]))) (tCons (tC (.str (S [117, 110, 100, 111, 32, 48]))) tNil))))))))))) (gName 4)) (tSeq (tAsg (tOp L2.rCat (tVar 4) (tLst (tCons (tC (.str (S [115, 104, 111, 119, 32, 49]))) (tCons (tC (.str (S [112, 117, 116]))) (tCons (tC (.str (S [114, 111, 119]))) (tCons (tC (.str (S [97, 116]))) (tCons (tC (.str (S [77, 97, 110, 121]))) (tCons (tC (.str (S [108, 111, 110, 103, 32, 49]))) (tCons (tC (.str (S [115, 97, 121, 32, 97]))) (tCons (tC (.str (S [112, 97, 114, 116, 115, 32, 97]))) (tCons (tC (.str (S [115, 104, 111, 114, 116]))) tNil))))))))))) (gName 4)) (tSeq (tAsg (tOp L2.rCat (tVar 4) (tLst (tCons (tC (.str (S [108, 111, 110, 103, 32, 49, 32, 50, 32, 51]))) (tCons (tC (.str (S [108, 101, 102, 116, 115, 32, 97]))) tNil)))) (gName 4)) (tAsg (tOp (rIxL K) (tVar 4) (tCall (sp_law_take_1 K) [] E0 (tCons (tVar 1) (tCons (tC (.int 21)) tNil)))) (gName 3)))))))))) (Evl.tCut (tIfS (tTest (tOp Lv.rEqI (tCall (sp_law_take_1 K) [] E0 (tCons (tVar 1) (tCons (tC (.int 5)) tNil))) (tC (.int 0)))) (tSeq (tAsg (tCall (sp_law_take_1 K) [] E0 (tCons (tVar 1) (tCons (tOp Lv.rAdd (tCB Lv.rLenT (tCons (tVar 3) tNil)) (tC (.int 1))) tNil))) (gName 5)) (tSeq (tAsg (tOp Lv.rIxT1 (tC (.str (S [32, 48, 49, 97, 90, 45, 95, 10]))) (tCall (sp_law_take_1 K) [] E0 (tCons (tVar 1) (tCons (tC (.int 8)) tNil)))) (gName 6)) (tSeq (tAsg (tCall (sp_law_take_1 K) [] E0 (tCons (tVar 1) (tCons (tC (.int 3)) tNil))) (gName 2)) (tSeq (tIfS (tTest (tOp Lv.rEqI (tVar 2) (tC (.int 0)))) (tRet (tOp Lv.rAddS (tSl Lv.rSlS1 (tVar 3) tNoPart (tPart (tVar 5))) (tSl Lv.rSlS1 (tVar 3) (tPart (tOp Lv.rAdd (tVar 5) (tC (.int 1)))) tNoPart))) tNext) (tAsg (tOp (rIxL K) (tLst (tCons (tOp Lv.rAddS (tOp Lv.rAddS (tSl Lv.rSlS1 (tVar 3) tNoPart (tPart (tVar 5))) (tVar 6)) (tSl Lv.rSlS1 (tVar 3) (tPart (tVar 5)) tNoPart)) (tCons (tBM0 K "str" Lv.rUpA (tVar 3)) tNil))) (tOp Lv.rSub (tVar 2) (tC (.int 1)))) (gName 3)))))) tNext) (tRet (tVar 3))))))
-- needs: Lv41 Q_law_take_1 Q_law_some_number_0
def sp_law_some_words_0 (K : PySem.W.Frag) : Sp := fun vs H Q _ => ∃ (c : Int), vs = [.int c] ∧ ∀ (w : List Nat) H' , w.length ≤ 900 → Asc w → Same H H' → Q (.str (S w)) H'
theorem i_law_some_words_0 {K : PySem.W.Frag} {c : Int} {H : Hp} {Q : VK} {E : XK} (q : ∀ (w : List Nat) H' , w.length ≤ 900 → Asc w → Same H H' → Q (.str (S w)) H') : sp_law_some_words_0 K [.int c] H Q E := ⟨c, rfl, q⟩
theorem cut_memL {α : Type} {xs : List α} {lo hi : Option Int} {x : α} (h : x ∈ cutL xs lo hi) : x ∈ xs := by
  unfold cutL at h
  exact List.mem_of_mem_drop (List.mem_of_mem_take h)
theorem Asc.cut {l : List Nat} (h : Asc l) (lo hi : Option Int) : Asc (cutL l lo hi) := fun c hc => h c (cut_memL hc)
theorem pure_law_some_words_0 {K : PySem.W.Frag} (vs : List V) (H : Hp) (Q : VK) (E : XK) (h : sp_law_some_words_0 K vs H Q E) : t_law_some_words_0 K { nx := fun _ H' => Q .non H', rt := Q } (start N_law_some_words_0 vs) H := by
  obtain ⟨c, rfl, q⟩ := h
  unfold t_law_some_words_0
  tm_at "v"
  refine i_law_deck_0 8 rfl fun d H1 n1 s1 hd1 => ?_
  tm_at "v"
  refine i_law_take_1 10 rfl hd1 (by decide) (by decide) (by decide) fun way H2 g2 hd2 b2 => ?_
  tm_at "v"
  refine ⟨fun σ' H' => ∃ (w : List Nat) (v4 : Option V), σ' = [some (.int c), some (.ref d), some (.int (way : Nat)), some (.str (S w)), v4, none, none] ∧ w.length ≤ 220 ∧ Asc w ∧ Dk H' d 20 ∧ But d H2 H', ?_, ?_⟩
  · tm_at "v"
    refine if_dec (fun z => ?_) (fun z => ?_)
    · tm_at "v"
      refine i_law_some_letters_1 hd2 (by decide) fun a H3 la aa hd3 b3 => ?_
      tm_at "v"
      exact ⟨_, _, rfl, by simp; omega, Asc.app (by unfold Asc; decide) aa, hd3.more (by decide), b3⟩
    tm_at "v"
    refine if_dec (fun z1 => ?_) (fun z1 => ?_)
    · tm_at "v"
      intro p3 H3 n3 s3 h3
      have t3 : ∀ x ∈ [V.str (S [97, 116, 32]), .str (S [119, 97, 121, 32])], TxA x := txa_cons (by decide) (by decide) (txa_cons (by decide) (by decide) txa_nil)
      tm_at "v"
      refine i_pickA (SqL.of1 h3) t3 (by omega) (by simp; omega) fun w lw aw => ?_
      tm_at "v"
      refine i_law_some_number_0 (Dk.same s3 hd2) (by decide) fun a H4 la aa hd4 b4 => ?_
      tm_at "v"
      exact ⟨_, _, rfl, by simp; omega, Asc.app aw aa, hd4.more (by decide), s3.but.trans b4⟩
    tm_at "v"
    refine if_dec (fun z2 => ?_) (fun z2 => ?_)
    · tm_at "v"
      refine i_law_some_number_0 hd2 (by decide) fun a H4 la aa hd4 b4 => ?_
      tm_at "v"
      refine i_law_some_number_0 hd4 (by decide) fun b H5 lb ab hd5 b5 => ?_
      tm_at "v"
      exact ⟨_, _, rfl, by simp; omega, Asc.app (Asc.app (Asc.app (by unfold Asc; decide) aa) (by unfold Asc; decide)) ab, hd5.more (by decide), b4.trans b5⟩
    tm_at "v"
    refine if_dec (fun z3 => ?_) (fun z3 => ?_)
    · tm_at "v"
      intro p3 H3 n3 s3 h3
      have d3 : p3 ≠ d := (hd2.ne n3).symm
      have t3 : ∀ x ∈ [V.str (S [108, 101, 102, 116, 32]), .str (S [112, 108, 97, 99, 101, 32]), .str (S [114, 111, 119, 32]), .str (S [111, 116, 104, 101, 114, 32])], TxA x := txa_cons (by decide) (by decide) (txa_cons (by decide) (by decide) (txa_cons (by decide) (by decide) (txa_cons (by decide) (by decide) txa_nil)))
      tm_at "v"
      refine i_law_take_1 4 rfl (Dk.same s3 hd2) (by decide) (by decide) (by decide) fun r H4 g4 hd4 b4 => ?_
      refine i_pickA (SqL.of1 (b4.at h3 d3)) t3 (by omega) (by simp; omega) fun w lw aw => ?_
      tm_at "v"
      refine i_law_some_row_0 hd4 (by decide) fun a H5 la aa hd5 b5 => ?_
      tm_at "v"
      exact ⟨_, _, rfl, by simp; omega, Asc.app aw aa, hd5.more (by decide), s3.but.trans (b4.trans b5)⟩
    tm_at "v"
    refine if_dec (fun z4 => ?_) (fun z4 => ?_)
    · tm_at "v"
      intro p3 H3 n3 s3 h3
      have d3 : p3 ≠ d := (hd2.ne n3).symm
      have t3 : ∀ x ∈ [V.str (S [115, 104, 111, 114, 116, 32]), .str (S [97, 114, 99, 104, 101, 115, 32])], TxA x := txa_cons (by decide) (by decide) (txa_cons (by decide) (by decide) txa_nil)
      tm_at "v"
      refine i_law_take_1 2 rfl (Dk.same s3 hd2) (by decide) (by decide) (by decide) fun r H4 g4 hd4 b4 => ?_
      refine i_pickA (SqL.of1 (b4.at h3 d3)) t3 (by omega) (by simp; omega) fun w lw aw => ?_
      tm_at "v"
      refine i_law_some_letters_1 hd4 (by decide) fun a H5 la aa hd5 b5 => ?_
      tm_at "v"
      exact ⟨_, _, rfl, by simp; omega, Asc.app aw aa, hd5.more (by decide), s3.but.trans (b4.trans b5)⟩
    · tm_at "v"
      intro p3 H3 n3 s3 h3
      obtain ⟨xs3, g3, t3, l3⟩ : ∃ xs, H3 p3 = some (.lst xs) ∧ (∀ x ∈ xs, TxA x) ∧ xs.length = 10 := ⟨_, h3, by repeat (first | exact txa_nil | refine txa_cons (by decide) (by decide) ?_), rfl⟩
      clear h3
      tm_at "v"
      intro p4 H4 n4 s4 h4
      obtain ⟨xs4, g4, t4, l4⟩ : ∃ xs, H4 p4 = some (.lst xs) ∧ (∀ x ∈ xs, TxA x) ∧ xs.length = 9 := ⟨_, h4, by repeat (first | exact txa_nil | refine txa_cons (by decide) (by decide) ?_), rfl⟩
      clear h4
      refine v_cat (s4 _ _ g3) g4 (le_line (by omega)) fun p5 H5 n5 s5 h5 => ?_
      tm_at "v"
      intro p6 H6 n6 s6 h6
      obtain ⟨xs6, g6, t6, l6⟩ : ∃ xs, H6 p6 = some (.lst xs) ∧ (∀ x ∈ xs, TxA x) ∧ xs.length = 2 := ⟨_, h6, by repeat (first | exact txa_nil | refine txa_cons (by decide) (by decide) ?_), rfl⟩
      clear h6
      refine v_cat (s6 _ _ h5) g6 (le_line (by rw [List.length_append]; omega)) fun p7 H7 n7 s7 h7 => ?_
      have S6 := s3.trans (s4.trans (s5.trans s6))
      have S7 := S6.trans s7
      have d7 : p7 ≠ d := ((Dk.same S6 hd2).ne n7).symm
      tm_at "v"
      refine i_law_take_1 21 rfl (Dk.same S7 hd2) (by decide) (by decide) (by decide) fun r H8 g8 hd8 b8 => ?_
      refine i_pickA (SqL.of1 (b8.at h7 d7)) (txa_app (txa_app t3 t4) t6) (by omega) (by rw [List.length_append, List.length_append]; omega) fun w lw aw => ?_
      tm_at "v"
      exact ⟨_, _, rfl, by omega, aw, hd8.more (by decide), S7.but.trans b8⟩
  · rintro σ' H3 ⟨w, v4, rfl, lw, aw, hd3, b3⟩
    have fin : ∀ (u : List Nat) H', u.length ≤ 900 → Asc u → But d H3 H' → Q (.str (S u)) H' := fun u H' lu au b => q u H' lu au ((s1.but.trans (b2.trans (b3.trans b))).same n1)
    have cl := fun lo hi => cutL_length w lo hi
    have ca := fun lo hi => aw.cut lo hi
    tm_at "v"
    refine ⟨fun σ' H' => ∃ (u : List Nat) (v2 v4 v5 v6 : Option V), σ' = [some (.int c), some (.ref d), v2, some (.str (S u)), v4, v5, v6] ∧ u.length ≤ 900 ∧ Asc u ∧ But d H3 H', ?_, ?_⟩
    · tm_at "v"
      refine i_law_take_1 5 rfl hd3 (by decide) (by decide) (by decide) fun r4 H4 g4 hd4 b4 => ?_
      tm_at "v"
      refine if_dec (fun z => ?_) (fun z => ?_)
      · tm_at "v"
        refine i_law_take_1 (w.length + 1) (by simp) hd4 (by decide) (by omega) (Nat.lt_of_le_of_lt (show w.length + 1 ≤ 221 by omega) (by decide)) fun at_ H5 g5 hd5 b5 => ?_
        tm_at "v"
        refine i_law_take_1 8 rfl hd5 (by decide) (by decide) (by decide) fun r6 H6 g6 hd6 b6 => ?_
        refine i_pickS (by decide) (by omega) (by simp; omega) fun sg hsg => ?_
        have hsg : sg < 128 := by
          have : ∀ c ∈ [32, 48, 49, 97, 90, 45, 95, 10], c < 128 := by decide
          exact this sg hsg
        tm_at "v"
        refine i_law_take_1 3 rfl hd6 (by decide) (by decide) (by decide) fun r7 H7 g7 hd7 b7 => ?_
        have B7 : But d H3 H7 := b4.trans (b5.trans (b6.trans b7))
        have c1 := cl none (some (at_ : Int))
        have c2 := cl (some ((at_ : Int) + 1)) none
        have c3 := cl (some (at_ : Int)) none
        tm_at "v"
        refine if_dec (fun z => ?_) (fun z => ?_)
        · tm_at "v"
          exact fin _ _ (by rw [List.length_append]; omega) (Asc.app (ca _ _) (ca _ _)) B7
        · tm_at "v"
          refine i_upperA (by omega) aw ?_
          tm_at "v"
          intro p8 H8 n8 s8 h8
          tm_at "v"
          have lu : (upA w).length = w.length := List.length_map ..
          obtain ⟨j, hj, ej⟩ : ∃ j : Nat, (j = 0 ∨ j = 1) ∧ (r7 : Int) - 1 = (j : Int) := by
            have : r7 = 1 ∨ r7 = 2 := by omega
            rcases this with rfl | rfl
            · exact ⟨0, .inl rfl, rfl⟩
            · exact ⟨1, .inr rfl, rfl⟩
          rw [ej]
          rcases hj with rfl | rfl
          · refine i_ixL (v := .str (S (cutL w none (some (at_ : Int)) ++ [sg] ++ cutL w (some (at_ : Int)) none))) (SqL.of1 h8) (atI_nat (j := 0) rfl) ?_
            tm_at "v"
            exact ⟨_, _, _, _, _, rfl, by simp only [List.length_append, List.length_cons, List.length_nil]; omega, Asc.app (Asc.app (ca _ _) (Asc.one hsg)) (ca _ _), B7.trans s8.but⟩
          · refine i_ixL (v := .str (S (upA w))) (SqL.of1 h8) (atI_nat (j := 1) rfl) ?_
            tm_at "v"
            exact ⟨_, _, _, _, _, rfl, by omega, upA_asc aw, B7.trans s8.but⟩
      · tm_at "v"
        exact ⟨_, _, _, _, _, rfl, by omega, aw, b4⟩
    · rintro σ' H4 ⟨u, v2, v4, v5, v6, rfl, lu, au, b4⟩
      tm_at "v"
      exact fin u _ lu au b4
/-! Growing_1_row(self): slots 0 self -/
abbrev N_Growing_1_row : List Str := ["self"]
def t_Growing_1_row (K : PySem.W.Frag) (C_Growing : Addr) : TS :=
  (tRet (tFld K (tVar 0) "letters"))
-- needs: Q_Growing_1_init
def sp_Growing_1_row (K : PySem.W.Frag) (C : Addr) : Sp := fun vs H Q _ => ∃ (x : Addr) (l : List Nat), vs = [.ref x] ∧ GrAt C H x l ∧ Q (.str (S l)) H
theorem i_Growing_row {K : PySem.W.Frag} {C : Addr} {x : Addr} {l : List Nat} {H : Hp} {Q : VK} {E : XK} {te : TA} {σ : L2.St} (h : GrAt C H x l) (ht : ∀ R : List V → Hp → Prop, R [] H → te σ H R) (q : Q (.str (S l)) H) :
    rMe C "row" (.ref x) H (te σ H fun vs H2 => sp_Growing_1_row K C (.ref x :: (vs ++ [])) H2 Q E) := by
  obtain ⟨dx, h1, h2⟩ := id h
  exact x_me h1 (lk_no (by decide +kernel)) (ht _ ⟨x, l, rfl, h, q⟩)
theorem pure_Growing_1_row {K : PySem.W.Frag} {C : Addr} (Z : Kl K C ["letters"]) (vs : List V) (H : Hp) (Q : VK) (E : XK) (h : sp_Growing_1_row K C vs H Q E) : t_Growing_1_row K C { nx := fun _ H' => Q .non H', rt := Q } (start N_Growing_1_row vs) H := by
  obtain ⟨x, l, rfl, ⟨dx, hx, lw, l80⟩, q⟩ := h
  unfold t_Growing_1_row
  tm_at "v"
  exact x_fl Z hx lk_yes q
/-! counts_from_0(row): slots 0 row, 1 counts, 2 behind, 3 place, 4 many -/
abbrev N_counts_from_0 : List Str := ["row", "counts", "behind", "place", "many"]
def t_counts_from_0 (K : PySem.W.Frag) : TS :=
  (tSeq (tAsg (tLst (tCons (tC (.int 1)) tNil)) (gName 1)) (tSeq (tAsg tDNewK (gName 2)) (tSeq (tFor (iRng3 (tCons (tOp Lv.rSub (tCB Lv.rLenT (tCons (tVar 0) tNil)) (tC (.int 1))) (tCons (tUn Lv.rNeg (tC (.int 1))) (tCons (tUn Lv.rNeg (tC (.int 1))) tNil)))) (gName 3) (tSeq (tAsg (tOp Lv.rMul (tC (.int 2)) (tOp (rIxL K) (tVar 1) (tUn Lv.rNeg (tC (.int 1))))) (gName 4)) (Evl.tCut (tIfS (tB (tDIn (tOp Lv.rIxT1 (tVar 0) (tVar 3)) (tVar 2))) (tAug 4 (tOp (rIxL K) (tVar 1) (tOp Lv.rSub (tOp Lv.rSub (tCB Lv.rLenT (tCons (tVar 0) tNil)) (tC (.int 1))) (tDGet (tVar 2) (tOp Lv.rIxT1 (tVar 0) (tVar 3))))) (ipI fun i j => i - j)) tNext) (tSeq (sDPut (tVar 2) (tOp Lv.rIxT1 (tVar 0) (tVar 3)) (tVar 3)) (tDrop (tBM K "list" rAppend (tVar 1) (tCons (tVar 4) tNil))))))) (tRet (tRevL K (tVar 1))))))
-- needs: M_subs
def sp_counts_from_0 (K : PySem.W.Frag) : Sp := fun vs H Q _ => ∃ (l : List Nat), vs = [.str (S l)] ∧ l.length ≤ 1000 ∧ Low l ∧
  ∀ (p : Addr) (H' : Hp), H p = none → Same H H' → H' p = some (.lst ((List.range (l.length + 1)).map fun i => iv (cn (l.drop i)))) → Q (.ref p) H'
theorem i_counts_from_0 {K : PySem.W.Frag} {l : List Nat} {H : Hp} {Q : VK} {E : XK} (hl : l.length ≤ 1000) (lw : Low l) (q : ∀ (p : Addr) (H' : Hp), H p = none → Same H H' → H' p = some (.lst ((List.range (l.length + 1)).map fun i => iv (cn (l.drop i)))) → Q (.ref p) H') : sp_counts_from_0 K [.str (S l)] H Q E := ⟨l, rfl, hl, lw, q⟩
/-- next places of all letters, a letter ahead -/
theorem next_put {l : List Nat} {i c : Nat} (h : l[i]? = some c) (d : Nat) : (if d = c then some (V.int (i : Int)) else (nextP l (i + 1) d).map iv) = (nextP l i d).map iv := by
  by_cases z : d = c
  · subst z; rw [if_pos rfl, nextP_here h]; rfl
  · rw [if_neg z, nextP_skip h (Ne.symm z)]
theorem pure_counts_from_0 {K : PySem.W.Frag} (vs : List V) (H : Hp) (Q : VK) (E : XK) (h : sp_counts_from_0 K vs H Q E) : t_counts_from_0 K { nx := fun _ H' => Q .non H', rt := Q } (start N_counts_from_0 vs) H := by
  obtain ⟨l, rfl, hl, lw, q⟩ := h
  unfold t_counts_from_0
  tm_at "w"
  refine ⟨by tm_at "z", fun C nC => ?_⟩
  tm_at "w"
  intro B nB
  have neCB : C ≠ B := fun z => by subst z; rw [upd_same] at nB; cases nB
  have nB' : H B = none := by rw [upd_ne neCB.symm] at nB; exact nB
  have hC0 : upd (upd H C (.lst [V.int 1])) B (.dK []) C = some (.lst [V.int 1]) := by rw [upd_ne neCB, upd_same]
  have hB0 : upd (upd H C (.lst [V.int 1])) B (.dK []) B = some (.dK []) := upd_same
  have s0 : Same H (upd (upd H C (.lst [V.int 1])) B (.dK [])) := (same_new nC).trans (same_new nB)
  generalize upd (upd H C (.lst [V.int 1])) B (.dK []) = H0 at *
  tm_at "w"
  tm_at "fo"
  refine f_c ⟨fun i σ H' => ∃ v3 v4 : Option V, σ = [some (.str (S l)), some (.ref C), some (.ref B), v3, v4] ∧ Same H H' ∧ H' C = some (.lst ((List.range (i + 1)).map fun j => iv (cn (l.drop (l.length - j))))) ∧
      ∃ kvs, H' B = some (.dK kvs) ∧ LD kvs fun c => (nextP l (l.length - i) c).map iv, ⟨none, none, rfl, s0, ?_, [], hB0, LD.nil.congr fun c => ?_⟩, ?_, ?_⟩
  · rw [hC0]
    simp [List.range_succ, iv, cn_nil]
  · rw [nextP_end (by omega)]; rfl
  · rintro i x σ H0 H' hi ⟨v3, v4, rfl, sm, hC, kvs, hB, ld⟩ ⟨rfl, rfl⟩
    obtain ⟨pl, epl⟩ : ∃ pl : Nat, l.length = pl + 1 + i := ⟨l.length - 1 - i, by omega⟩
    have e3 : (l.length : Int) - 1 + (i : Int) * -1 = (pl : Int) := by omega
    rw [e3]
    obtain ⟨c, hc, ec⟩ := drop_at (l := l) (i := pl) (by omega)
    have lwc := lw c (List.mem_of_getElem? hc)
    have e4 : l.length - i = pl + 1 := by omega
    rw [e4] at ld
    tm_at "w"
    refine i_ixL (v := .int ((cn (l.drop (l.length - i)) : Nat) : Int)) (SqL.of1 hC) (atI_m1 (n := i) (by simp) (range_map_get _ (by omega))) ?_
    tm_at "w"
    refine ⟨fun σ' H'' => H'' = H' ∧ σ' = [some (.str (S l)), some (.ref C), some (.ref B), some (.int (pl : Int)), some (iv (cn (l.drop pl)))], ?_, ?_⟩
    · tm_at "w"
      refine i_ix1 (by omega) hc ?_
      tm_at "w"
      refine x_dInS (.inl hB) ?_
      rw [ld.val]
      have cc := cn_cons (l.drop (pl + 1)) lwc
      rw [← ec] at cc
      cases e : nextP l (pl + 1) c with
      | none =>
        have : ¬ c ∈ l.drop (pl + 1) := fun z => by have := nextP_mem.mpr z; rw [e] at this; cases this
        rw [if_neg this] at cc
        tm_at "w"
        refine iteF ?_
        tm_at "w"
        refine ⟨rfl, ?_⟩
        show [some (V.str (S l)), some (.ref C), some (.ref B), some (.int (pl : Int)), some (V.int (2 * ((cn (l.drop (l.length - i)) : Nat) : Int)))] = _
        rw [e4, iv, show (2 * ((cn (l.drop (pl + 1)) : Nat) : Int)) = ((cn (l.drop pl) : Nat) : Int) by omega]
      | some k =>
        have hm : c ∈ l.drop (pl + 1) := nextP_mem.mp (by rw [e]; rfl)
        rw [if_pos hm, aft_next rfl e] at cc
        have hk := nextP_lt e
        tm_at "w"
        refine iteT ?_
        tm_at "w"
        refine i_ix1 (by omega) hc ?_
        refine x_dGetS (.inl hB) (v := .int (k : Nat)) (by rw [ld.val, e]; rfl) ?_
        tm_at "w"
        have e5 : (l.length : Int) - 1 - (k : Nat) = ((l.length - 1 - k : Nat) : Int) := by omega
        rw [e5]
        refine i_ixL (v := .int ((cn (l.drop (l.length - (l.length - 1 - k))) : Nat) : Int)) (SqL.of1 hC) (atI_nat (range_map_get _ (by omega))) ?_
        tm_at "w"
        refine ⟨rfl, ?_⟩
        show [some (V.str (S l)), some (.ref C), some (.ref B), some (.int (pl : Int)), some (V.int (2 * ((cn (l.drop (l.length - i)) : Nat) : Int) - ((cn (l.drop (l.length - (l.length - 1 - k))) : Nat) : Int)))] = _
        rw [e4, show l.length - (l.length - 1 - k) = k + 1 by omega, show (2 * ((cn (l.drop (pl + 1)) : Nat) : Int) - ((cn (l.drop (k + 1)) : Nat) : Int)) = ((cn (l.drop pl) : Nat) : Int) by omega]
        rfl
    · rintro σ' H'' ⟨rfl, rfl⟩
      tm_at "w"
      refine i_ix1 (by omega) hc ?_
      have kl := ld.len fun d hd => by
        rw [Option.isSome_map] at hd
        exact lw d (List.mem_of_mem_drop (nextP_mem.mp hd))
      refine x_dPutS hB (lt_line (by omega)) ?_
      tm_at "w"
      have hC' : upd H'' B (.dK (putK kvs (.inr (S [c])) (.int (pl : Int)))) C = some (.lst ((List.range (i + 1)).map fun j => iv (cn (l.drop (l.length - j))))) := by rw [upd_ne neCB]; exact hC
      refine ⟨.inl ⟨rfl, _, SqL.of1 hC'⟩, ?_⟩
      tm_at "w"
      refine i_app hC' (lt_line (by simp; omega)) ?_
      tm_at "w"
      refine ⟨_, _, rfl, (sm.updN nB').updN nC, ?_, _, by rw [upd_ne neCB.symm, upd_same], ?_⟩
      · rw [upd_same, List.range_succ (n := i + 1), List.map_append]
        simp only [List.map_cons, List.map_nil, show l.length - (i + 1) = pl by omega]
      · rw [show l.length - (i + 1) = pl by omega]
        exact (ld.put c (.int (pl : Int))).congr (next_put hc)
  · rintro σ H' ⟨v3, v4, rfl, sm, hC, kvs, hB, ld⟩
    tm_at "w"
    rw [show ((l.length : Nat) : Int) - 1 - -1 = (l.length : Nat) by omega, Int.toNat_natCast] at *
    refine ⟨C, _, rfl, SqL.of1 hC, fun p np => ?_⟩
    refine q p _ (sm.free np) (sm.trans (same_new np)) ?_
    rw [upd_same, rev_range_map (fun j => iv (cn (l.drop j)))]
/-! next_tables_0(row): slots 0 row, 1 tables, 2 place, 3 table -/
abbrev N_next_tables_0 : List Str := ["row", "tables", "place", "table"]
def t_next_tables_0 (K : PySem.W.Frag) : TS :=
  (tSeq (tAsg (tLst (tCons tDNewK tNil)) (gName 1)) (tSeq (tFor (iRng3 (tCons (tOp Lv.rSub (tCB Lv.rLenT (tCons (tVar 0) tNil)) (tC (.int 1))) (tCons (tUn Lv.rNeg (tC (.int 1))) (tCons (tUn Lv.rNeg (tC (.int 1))) tNil)))) (gName 2) (tSeq (tAsg (tCB Lv.rDictD (tCons (tOp (rIxL K) (tVar 1) (tUn Lv.rNeg (tC (.int 1)))) tNil)) (gName 3)) (tSeq (sDPut (tVar 3) (tOp Lv.rIxT1 (tVar 0) (tVar 2)) (tVar 2)) (tDrop (tBM K "list" rAppend (tVar 1) (tCons (tVar 3) tNil)))))) (tRet (tRevL K (tVar 1)))))
-- needs: M_num Q_counts_from_0
def NT (H : Hp) (ts : List Addr) (l : List Nat) : Prop := ∀ (i : Nat) (t : Addr), ts[i]? = some t → ∃ kvs, H t = some (.dK kvs) ∧ LD kvs fun c => (nextP l i c).map iv
theorem NT.same {H H' : Hp} {ts : List Addr} {l : List Nat} (h : NT H ts l) (s : Same H H') : NT H' ts l := fun i t e => by
  obtain ⟨kvs, h1, h2⟩ := h i t e
  exact ⟨kvs, s _ _ h1, h2⟩
def sp_next_tables_0 (K : PySem.W.Frag) : Sp := fun vs H Q _ => ∃ (l : List Nat), vs = [.str (S l)] ∧ l.length ≤ 1000 ∧ Low l ∧
  ∀ (p : Addr) (ts : List Addr) (H' : Hp), H p = none → Same H H' → ts.length = l.length + 1 → H' p = some (.lst (ts.map V.ref)) → NT H' ts l → Q (.ref p) H'
theorem i_next_tables_0 {K : PySem.W.Frag} {l : List Nat} {H : Hp} {Q : VK} {E : XK} (hl : l.length ≤ 1000) (lw : Low l) (q : ∀ (p : Addr) (ts : List Addr) (H' : Hp), H p = none → Same H H' → ts.length = l.length + 1 → H' p = some (.lst (ts.map V.ref)) → NT H' ts l → Q (.ref p) H') : sp_next_tables_0 K [.str (S l)] H Q E := ⟨l, rfl, hl, lw, q⟩
theorem nt_len {l : List Nat} {kvs : List (Key × V)} {i : Nat} (lw : Low l) (ld : LD kvs fun c => (nextP l i c).map iv) : kvs.length ≤ 26 := ld.len fun d hd => by
  rw [Option.isSome_map] at hd
  exact lw d (List.mem_of_mem_drop (nextP_mem.mp hd))
theorem nt_lets {l ys : List Nat} {i : Nat} (lw : Low l) (up : ys.Pairwise (· < ·)) (h : ∀ c, c ∈ ys ↔ ((nextP l i c).map iv).isSome) : ys = lets (l.drop i) := lets_is (lw.drop i) up fun c => by rw [h c, Option.isSome_map, nextP_mem]
theorem pure_next_tables_0 {K : PySem.W.Frag} (vs : List V) (H : Hp) (Q : VK) (E : XK) (h : sp_next_tables_0 K vs H Q E) : t_next_tables_0 K { nx := fun _ H' => Q .non H', rt := Q } (start N_next_tables_0 vs) H := by
  obtain ⟨l, rfl, hl, lw, q⟩ := h
  unfold t_next_tables_0
  tm_at "v"
  intro t0 H1 n0 s1 h1
  tm_at "v"
  intro T H2 nT s2 h2
  have nTH := s1.free nT
  tm_at "v"
  tm_at "fo"
  refine f_c ⟨fun i σ H' => ∃ v2 v3 : Option V, σ = [some (.str (S l)), some (.ref T), v2, v3] ∧ Same H H' ∧ ∃ ts : List Addr, H' T = some (.lst (ts.map V.ref)) ∧ ts.length = i + 1 ∧ T ∉ ts ∧
      ∀ (j : Nat) (t : Addr), ts[j]? = some t → ∃ kvs, H' t = some (.dK kvs) ∧ LD kvs fun c => (nextP l (l.length - j) c).map iv, ⟨none, none, rfl, s1.trans s2, [t0], h2, rfl, ?_, ?_⟩, ?_, ?_⟩
  · intro z
    rw [← List.mem_singleton.mp z] at h1
    rw [h1] at nT
    cases nT
  · intro j t e
    cases j with
    | zero =>
      cases e
      exact ⟨_, s2 _ _ h1, LD.nil.congr fun c => by rw [nextP_end (by omega)]; rfl⟩
    | succ j => simp at e
  · rintro i x σ H0 H' hi ⟨v2, v3, rfl, sm, ts, hT, tl, nT2, ht⟩ ⟨rfl, rfl⟩
    obtain ⟨pl, epl⟩ : ∃ pl : Nat, l.length = pl + 1 + i := ⟨l.length - 1 - i, by omega⟩
    have e3 : (l.length : Int) - 1 + (i : Int) * -1 = (pl : Int) := by omega
    rw [e3]
    obtain ⟨c, hc, ec⟩ := drop_at (l := l) (i := pl) (by omega)
    have e4 : l.length - i = pl + 1 := by omega
    obtain ⟨t, et⟩ : ∃ t, ts[i]? = some t := ⟨_, List.getElem?_eq_getElem (by omega)⟩
    obtain ⟨kvs, hk, ld⟩ := ht i t et
    rw [e4] at ld
    have kl := nt_len lw ld
    tm_at "v"
    refine i_ixL (v := .ref t) (SqL.of1 hT) (atI_m1 (n := i) (by simp [tl]) (by rw [List.getElem?_map, et]; rfl)) ?_
    tm_at "v"
    refine v_dictD (.inl hk) fun t' H3 n3 s3 h3 => ?_
    tm_at "v"
    refine i_ix1 (by omega) hc ?_
    refine v_dPutS h3 (lt_line (by omega)) fun H4 b4 h4 => ?_
    have s4 : Same H' H4 := But.new s3 b4 n3
    have hT4 := s4 _ _ hT
    tm_at "v"
    refine i_tBMl (SqL.of1 hT4) ?_
    tm_at "v"
    refine v_app hT4 (lt_line (by simp; omega)) fun H5 b5 h5 => ?_
    have s5 : Same H H5 := But.new (sm.trans s4) b5 nTH
    have neT : T ≠ t' := ne_of_none hT n3
    refine ⟨_, _, rfl, s5, ts ++ [t'], by rw [h5, List.map_append]; rfl, by simp [tl], ?_, ?_⟩
    · intro z
      rcases List.mem_append.mp z with z | z
      · exact nT2 z
      · exact neT (List.mem_singleton.mp z)
    · intro j u eu
      by_cases hj : j < ts.length
      · rw [List.getElem?_append_left hj] at eu
        obtain ⟨kv2, a1, a2⟩ := ht j u eu
        have : u ≠ T := fun z => nT2 (z ▸ List.mem_of_getElem? eu)
        exact ⟨kv2, b5 _ _ this (s4 _ _ a1), a2⟩
      · rw [List.getElem?_append_right (by omega)] at eu
        have ej : j - ts.length = 0 := by
          rcases Nat.eq_zero_or_pos (j - ts.length) with e0 | e0
          · exact e0
          · rw [List.getElem?_eq_none (by simp; omega)] at eu; cases eu
        rw [ej] at eu
        cases eu
        refine ⟨_, b5 _ _ neT.symm h4, ?_⟩
        rw [show l.length - j = pl by omega]
        exact (ld.put c (.int (pl : Int))).congr (next_put hc)
  · rintro σ H' ⟨v2, v3, rfl, sm, ts, hT, tl, nT2, ht⟩
    tm_at "v"
    refine v_revK (SqL.of1 hT) fun p H3 np s3 h3 => ?_
    have en : (((l.length : Nat) : Int) - 1 - -1).toNat = l.length := by omega
    rw [en] at tl
    refine q p ts.reverse H3 (sm.free np) (sm.trans s3) (by simp [tl]) (by rw [h3, List.map_reverse]) fun i t e => ?_
    have hi : i < ts.length := by
      have := (List.getElem?_eq_some_iff.mp e).1
      simpa using this
    rw [List.getElem?_reverse hi] at e
    obtain ⟨kvs, a1, a2⟩ := ht _ _ e
    rw [show l.length - (ts.length - 1 - i) = i by omega] at a2
    exact ⟨kvs, s3 _ _ a1, a2⟩
/-! put_on_0(lengths, others, lost): slots 0 lengths, 1 others, 2 lost, 3 found, 4 length, 5 many -/
abbrev N_put_on_0 : List Str := ["lengths", "others", "lost", "found", "length", "many"]
def t_put_on_0 (K : PySem.W.Frag) : TS :=
  (tSeq (tAsg (tOp L2.rCat (tVar 0) (tLst (tCons (tC (.int 0)) tNil))) (gName 3)) (tSeq (tFor (iEnum K (tCons (tVar 1) tNil)) (gTup K 2 (gCons (gName 4) (gCons (gName 5) gNil))) (tAugS (tVar 3) (tOp Lv.rAdd (tVar 4) (tC (.int 1))) (tVar 5) (rIxL K) (ipI fun i j => i + j) rSetL)) (tSeq (tFor (iEnum K (tCons (tVar 2) tNil)) (gTup K 2 (gCons (gName 4) (gCons (gName 5) gNil))) (tAugS (tVar 3) (tOp Lv.rAdd (tVar 4) (tC (.int 1))) (tVar 5) (rIxL K) (ipI fun i j => i - j) rSetL)) (tRet (tVar 3)))))
-- needs: M_len
def sp_put_on_0 (K : PySem.W.Frag) : Sp := fun vs H Q _ => ∃ (A B C : Addr) (ls os xs : List Int), vs = [.ref A, .ref B, .ref C] ∧ H A = some (.lst (ls.map V.int)) ∧ H B = some (.lst (os.map V.int)) ∧ H C = some (.lst (xs.map V.int)) ∧ os.length ≤ ls.length ∧ xs.length ≤ ls.length ∧ ls.length ≤ 2000 ∧
  ∀ (p : Addr) (H' : Hp), H p = none → Same H H' → H' p = some (.lst ((pon ls os xs).map V.int)) → Q (.ref p) H'
theorem i_put_on_0 {K : PySem.W.Frag} {A B C : Addr} {ls os xs : List Int} {H : Hp} {Q : VK} {E : XK} (hA : H A = some (.lst (ls.map V.int))) (hB : H B = some (.lst (os.map V.int))) (hC : H C = some (.lst (xs.map V.int))) (lo : os.length ≤ ls.length) (lx : xs.length ≤ ls.length) (l2 : ls.length ≤ 2000)
  (q : ∀ (p : Addr) (H' : Hp), H p = none → Same H H' → H' p = some (.lst ((pon ls os xs).map V.int)) → Q (.ref p) H') : sp_put_on_0 K [.ref A, .ref B, .ref C] H Q E := ⟨A, B, C, ls, os, xs, rfl, hA, hB, hC, lo, lx, l2, q⟩
theorem getD_get {os : List Int} {j : Nat} {x : V} (h : (os.map V.int)[j]? = some x) : x = .int (os.getD j 0) := by
  rw [List.getElem?_map] at h
  cases e : os[j]? with
  | none => rw [e] at h; cases h
  | some y =>
    rw [e] at h
    rw [List.getD_eq_getElem?_getD, e]
    exact (Option.some.inj h).symm
theorem pure_put_on_0 {K : PySem.W.Frag} (vs : List V) (H : Hp) (Q : VK) (E : XK) (h : sp_put_on_0 K vs H Q E) : t_put_on_0 K { nx := fun _ H' => Q .non H', rt := Q } (start N_put_on_0 vs) H := by
  obtain ⟨A, B, C, ls, os, xs, rfl, hA, hB, hC, lo, lx, l2, q⟩ := h
  unfold t_put_on_0
  tm_at "v"
  intro p0 H0 n0 s0 h0
  refine v_cat (s0 _ _ hA) h0 (le_line (by simp; omega)) fun F H1 nF s1 hF => ?_
  have S1 := s0.trans s1
  have nFH := s0.free nF
  have hF1 : H1 F = some (.lst ((List.range (ls.length + 1)).map fun i => V.int (ls.getD i 0 + (if 0 < i ∧ i ≤ 0 then os.getD (i - 1) 0 else 0)))) := by
    rw [hF]
    congr 2
    apply List.ext_getElem?
    intro i
    by_cases hi : i < ls.length
    · rw [List.getElem?_append_left (by simpa using hi), List.getElem?_map, List.getElem?_eq_getElem hi, range_map_get _ (by omega), if_neg (by omega), List.getD_eq_getElem?_getD, List.getElem?_eq_getElem hi]
      simp
    · rcases Nat.eq_or_lt_of_le (Nat.le_of_not_lt hi) with e | e
      · subst e
        rw [List.getElem?_append_right (by simp), range_map_get _ (by omega), if_neg (by omega), List.getD_eq_getElem?_getD, List.getElem?_eq_none (Nat.le_refl _)]
        simp
      · rw [List.getElem?_eq_none (by simp; omega), List.getElem?_eq_none (by simp; omega)]
  clear hF
  have hAF : F ≠ A := fun z => by subst z; rw [hA] at nFH; cases nFH
  have hBF : B ≠ F := fun z => by subst z; rw [hB] at nFH; cases nFH
  have hCF : C ≠ F := fun z => by subst z; rw [hC] at nFH; cases nFH
  tm_at "v"
  refine foM (fun J H' => J = Ite K B ∧ H' = H1) (fun R k => ?_) ?_
  · tm_at "v"
    exact ⟨B, _, rfl, SqL.of1 (S1 _ _ hB), k _ _ ⟨rfl, rfl⟩⟩
  rintro J H1' ⟨rfl, e1⟩
  subst e1
  refine f_e (xs := os.map V.int) ⟨fun j σ H' => ∃ v4 v5 : Option V, σ = [some (.ref A), some (.ref B), some (.ref C), some (.ref F), v4, v5] ∧ Same H H' ∧ H' F = some (.lst ((List.range (ls.length + 1)).map fun i => V.int (ls.getD i 0 + (if 0 < i ∧ i ≤ j then os.getD (i - 1) 0 else 0)))), ⟨none, none, rfl, S1, hF1⟩, ?_, ?_, ?_⟩
  · rintro j σ H' _ ⟨v4, v5, rfl, s, hF⟩
    exact SqL.of1 (s _ _ hB)
  · rintro j x σ H2 H' hj ⟨v4, v5, rfl, s, hF⟩ ⟨T, zs, rfl, nT, rfl, y, hy, rfl⟩
    rw [List.length_map] at hj
    have ey := getD_get hy
    subst ey
    have sT := same_new (o := .tup [.int (j : Nat), .int (os.getD j 0)]) nT
    have hT : upd H2 T (.tup [.int (j : Nat), .int (os.getD j 0)]) T = _ := upd_same
    have hF3 := sT _ _ hF
    have s3 := s.trans sT
    generalize upd H2 T (.tup [.int (j : Nat), .int (os.getD j 0)]) = H3 at *
    refine i_gTup (SqT.of1 hT) rfl ?_
    tm_at "v"
    refine i_ixL (SqL.of1 hF3) (atI_nat (j := j + 1) (range_map_get _ (by omega))) ?_
    tm_at "v"
    refine v_setL (j := j + 1) hF3 (by rw [List.length_map, List.length_range]; exact ix_nat (k := j + 1) (by omega)) fun H4 b4 hF4 => ?_
    refine ⟨_, _, rfl, But.new s3 b4 nFH, ?_⟩
    rw [hF4, ← range_set (n := ls.length + 1) (k := j + 1) (fun i => V.int (ls.getD i 0 + (if 0 < i ∧ i ≤ j then os.getD (i - 1) 0 else 0))) (fun i => V.int (ls.getD i 0 + (if 0 < i ∧ i ≤ j + 1 then os.getD (i - 1) 0 else 0))) fun i hi => ?_]
    · rw [if_neg (by omega), if_pos (by omega), Nat.add_sub_cancel]
      simp
    · by_cases z : 0 < i ∧ i ≤ j
      · rw [if_pos z, if_pos (by omega)]
      · rw [if_neg z, if_neg (by omega)]
  rintro σ H2 ⟨v4, v5, rfl, s, hF⟩
  have hF2 : H2 F = some (.lst ((List.range (ls.length + 1)).map fun i => V.int (ls.getD i 0 + (if 0 < i then os.getD (i - 1) 0 else 0) - (if 0 < i ∧ i ≤ 0 then xs.getD (i - 1) 0 else 0)))) := by
    rw [hF]
    congr 2
    apply List.map_congr_left
    intro i hi
    rw [List.length_map, if_neg (show ¬ (0 < i ∧ i ≤ 0) by omega)]
    by_cases z : 0 < i ∧ i ≤ os.length
    · rw [if_pos z, if_pos (by omega)]; simp
    · rw [if_neg z]
      by_cases y : 0 < i
      · rw [if_pos y, List.getD_eq_getElem?_getD (l := os), List.getElem?_eq_none (by omega)]; simp
      · rw [if_neg y]; simp
  clear hF
  tm_at "v"
  refine foM (fun J H' => J = Ite K C ∧ H' = H2) (fun R k => ?_) ?_
  · tm_at "v"
    exact ⟨C, _, rfl, SqL.of1 (s _ _ hC), k _ _ ⟨rfl, rfl⟩⟩
  rintro J H2' ⟨rfl, e1⟩
  subst e1
  refine f_e (xs := xs.map V.int) ⟨fun j σ H' => ∃ v4 v5 : Option V, σ = [some (.ref A), some (.ref B), some (.ref C), some (.ref F), v4, v5] ∧ Same H H' ∧ H' F = some (.lst ((List.range (ls.length + 1)).map fun i => V.int (ls.getD i 0 + (if 0 < i then os.getD (i - 1) 0 else 0) - (if 0 < i ∧ i ≤ j then xs.getD (i - 1) 0 else 0)))), ⟨v4, v5, rfl, s, hF2⟩, ?_, ?_, ?_⟩
  · rintro j σ H' _ ⟨v4, v5, rfl, s, hF⟩
    exact SqL.of1 (s _ _ hC)
  · rintro j x σ H2 H' hj ⟨v4, v5, rfl, s, hF⟩ ⟨T, zs, rfl, nT, rfl, y, hy, rfl⟩
    rw [List.length_map] at hj
    have ey := getD_get hy
    subst ey
    have sT := same_new (o := .tup [.int (j : Nat), .int (xs.getD j 0)]) nT
    have hT : upd H2 T (.tup [.int (j : Nat), .int (xs.getD j 0)]) T = _ := upd_same
    have hF3 := sT _ _ hF
    have s3 := s.trans sT
    generalize upd H2 T (.tup [.int (j : Nat), .int (xs.getD j 0)]) = H3 at *
    refine i_gTup (SqT.of1 hT) rfl ?_
    tm_at "v"
    refine i_ixL (SqL.of1 hF3) (atI_nat (j := j + 1) (range_map_get _ (by omega))) ?_
    tm_at "v"
    refine v_setL (j := j + 1) hF3 (by rw [List.length_map, List.length_range]; exact ix_nat (k := j + 1) (by omega)) fun H4 b4 hF4 => ?_
    refine ⟨_, _, rfl, But.new s3 b4 nFH, ?_⟩
    rw [hF4, ← range_set (n := ls.length + 1) (k := j + 1) (fun i => V.int (ls.getD i 0 + (if 0 < i then os.getD (i - 1) 0 else 0) - (if 0 < i ∧ i ≤ j then xs.getD (i - 1) 0 else 0))) (fun i => V.int (ls.getD i 0 + (if 0 < i then os.getD (i - 1) 0 else 0) - (if 0 < i ∧ i ≤ j + 1 then xs.getD (i - 1) 0 else 0))) fun i hi => ?_]
    · rw [if_neg (show ¬ (0 < j + 1 ∧ j + 1 ≤ j) by omega), if_pos (show 0 < j + 1 ∧ j + 1 ≤ j + 1 by omega), if_pos (show 0 < j + 1 by omega), Nat.add_sub_cancel]
      simp
    · by_cases z : 0 < i ∧ i ≤ j
      · rw [if_pos z, if_pos (show 0 < i ∧ i ≤ j + 1 by omega)]
      · rw [if_neg z, if_neg (show ¬ (0 < i ∧ i ≤ j + 1) by omega)]
  rintro σ H3 ⟨v4, v5, rfl, s, hF⟩
  tm_at "v"
  refine q F H3 nFH s ?_
  rw [hF, pon, List.map_map]
  congr 2
  apply List.map_congr_left
  intro i hi
  show V.int _ = V.int _
  congr 1
  dsimp only
  congr 1
  rw [List.length_map]
  by_cases y : 0 < i
  · rw [if_pos y]
    by_cases z : 0 < i ∧ i ≤ xs.length
    · rw [if_pos z]
    · rw [if_neg z, List.getD_eq_getElem?_getD, List.getElem?_eq_none (by omega)]; rfl
  · rw [if_neg y, if_neg (by omega)]
/-! lengths_from_0(row): slots 0 row, 1 tables, 2 behind, 3 place, 4 lost -/
abbrev N_lengths_from_0 : List Str := ["row", "tables", "behind", "place", "lost"]
def t_lengths_from_0 (K : PySem.W.Frag) : TS :=
  (tSeq (tAsg (tLst (tCons (tLst (tCons (tC (.int 1)) tNil)) tNil)) (gName 1)) (tSeq (tAsg tDNewK (gName 2)) (tSeq (tFor (iRng3 (tCons (tOp Lv.rSub (tCB Lv.rLenT (tCons (tVar 0) tNil)) (tC (.int 1))) (tCons (tUn Lv.rNeg (tC (.int 1))) (tCons (tUn Lv.rNeg (tC (.int 1))) tNil)))) (gName 3) (tSeq (tAsg (tLst tNil) (gName 4)) (Evl.tCut (tIfS (tB (tDIn (tOp Lv.rIxT1 (tVar 0) (tVar 3)) (tVar 2))) (tAsg (tOp (rIxL K) (tVar 1) (tOp Lv.rSub (tOp Lv.rSub (tCB Lv.rLenT (tCons (tVar 0) tNil)) (tC (.int 1))) (tDGet (tVar 2) (tOp Lv.rIxT1 (tVar 0) (tVar 3))))) (gName 4)) tNext) (tSeq (sDPut (tVar 2) (tOp Lv.rIxT1 (tVar 0) (tVar 3)) (tVar 3)) (tDrop (tBM K "list" rAppend (tVar 1) (tCons (tCall (sp_put_on_0 K) [] E0 (tCons (tOp (rIxL K) (tVar 1) (tUn Lv.rNeg (tC (.int 1)))) (tCons (tOp (rIxL K) (tVar 1) (tUn Lv.rNeg (tC (.int 1)))) (tCons (tVar 4) tNil)))) tNil))))))) (tRet (tRevL K (tVar 1))))))
-- needs: M_len Q_counts_from_0
def LT (H : Hp) (ts : List Addr) (l : List Nat) : Prop := ∀ (i : Nat) (t : Addr), ts[i]? = some t → H t = some (.lst ((lens (l.drop i)).map iv))
theorem LT.same {H H' : Hp} {ts : List Addr} {l : List Nat} (h : LT H ts l) (s : Same H H') : LT H' ts l := fun i t e => s _ _ (h i t e)
def sp_lengths_from_0 (K : PySem.W.Frag) : Sp := fun vs H Q _ => ∃ (l : List Nat), vs = [.str (S l)] ∧ l.length ≤ 1000 ∧ Low l ∧
  ∀ (p : Addr) (ts : List Addr) (H' : Hp), H p = none → Same H H' → ts.length = l.length + 1 → H' p = some (.lst (ts.map V.ref)) → LT H' ts l → Q (.ref p) H'
theorem i_lengths_from_0 {K : PySem.W.Frag} {l : List Nat} {H : Hp} {Q : VK} {E : XK} (hl : l.length ≤ 1000) (lw : Low l) (q : ∀ (p : Addr) (ts : List Addr) (H' : Hp), H p = none → Same H H' → ts.length = l.length + 1 → H' p = some (.lst (ts.map V.ref)) → LT H' ts l → Q (.ref p) H') : sp_lengths_from_0 K [.str (S l)] H Q E := ⟨l, rfl, hl, lw, q⟩
theorem pure_lengths_from_0 {K : PySem.W.Frag} (vs : List V) (H : Hp) (Q : VK) (E : XK) (h : sp_lengths_from_0 K vs H Q E) : t_lengths_from_0 K { nx := fun _ H' => Q .non H', rt := Q } (start N_lengths_from_0 vs) H := by
  obtain ⟨l, rfl, hl, lw, q⟩ := h
  unfold t_lengths_from_0
  tm_at "v"
  intro t0 H1 n0 s1 h1
  tm_at "v"
  intro T H2 nT s2 h2
  have nTH := s1.free nT
  tm_at "v"
  intro B H3 nB s3 h3
  have nBH := (s1.trans s2).free nB
  have neTB : T ≠ B := ne_of_none h2 nB
  have net0 : t0 ≠ T := ne_of_none h1 nT
  tm_at "v"
  tm_at "fo"
  refine f_c ⟨fun i σ H' => ∃ v3 v4 : Option V, σ = [some (.str (S l)), some (.ref T), some (.ref B), v3, v4] ∧ Same H H' ∧ (∃ kvs, H' B = some (.dK kvs) ∧ LD kvs fun c => (nextP l (l.length - i) c).map iv) ∧ ∃ ts : List Addr, H' T = some (.lst (ts.map V.ref)) ∧ ts.length = i + 1 ∧ T ∉ ts ∧ B ∉ ts ∧
      ∀ (j : Nat) (t : Addr), ts[j]? = some t → H' t = some (.lst ((lens (l.drop (l.length - j))).map iv)), ⟨none, none, rfl, s1.trans (s2.trans s3), ⟨[], h3, LD.nil.congr fun c => by rw [nextP_end (by omega)]; rfl⟩, [t0], s3 _ _ h2, rfl, ?_, ?_, ?_⟩, ?_, ?_⟩
  · intro z
    exact net0 (List.mem_singleton.mp z).symm
  · intro z
    exact ne_of_none (s2 _ _ h1) nB (List.mem_singleton.mp z).symm
  · intro j t e
    cases j with
    | zero =>
      cases e
      rw [(s2.trans s3) _ _ h1, Nat.sub_zero, List.drop_length, lens_nil]
      rfl
    | succ j => simp at e
  · rintro i x σ H0 H' hi ⟨v3, v4, rfl, sm, ⟨kvs, hB, ld⟩, ts, hT, tl, nT2, nB2, ht⟩ ⟨rfl, rfl⟩
    obtain ⟨pl, epl⟩ : ∃ pl : Nat, l.length = pl + 1 + i := ⟨l.length - 1 - i, by omega⟩
    have e3 : (l.length : Int) - 1 + (i : Int) * -1 = (pl : Int) := by omega
    rw [e3]
    obtain ⟨c, hc, ec⟩ := drop_at (l := l) (i := pl) (by omega)
    have e4 : l.length - i = pl + 1 := by omega
    rw [e4] at ld
    have kl := ld.len fun d hd => by
      rw [Option.isSome_map] at hd
      exact lw d (List.mem_of_mem_drop (nextP_mem.mp hd))
    obtain ⟨t, et⟩ : ∃ t, ts[i]? = some t := ⟨_, List.getElem?_eq_getElem (by omega)⟩
    have gt := ht i t et
    rw [e4] at gt
    tm_at "v"
    intro p5 H5 n5 s5 h5
    tm_at "v"
    refine ⟨fun σ' Hm => ∃ (X : Addr) (xs : List Nat), σ' = [some (.str (S l)), some (.ref T), some (.ref B), some (.int (pl : Int)), some (.ref X)] ∧ Hm = H5 ∧ H5 X = some (.lst (xs.map iv)) ∧ X ≠ B ∧ xs.length ≤ l.length - pl ∧ ∀ n, xs.getD n 0 = if c ∈ l.drop (pl + 1) then cl n (aft c (l.drop (pl + 1))) else 0, ?_, ?_⟩
    · tm_at "v"
      refine i_ix1 (by omega) hc ?_
      tm_at "v"
      refine x_dInS (.inl (s5 _ _ hB)) ?_
      rw [ld.val]
      tm_at "v"
      cases e : nextP l (pl + 1) c with
      | none =>
        have : ¬ c ∈ l.drop (pl + 1) := fun z => by have := nextP_mem.mpr z; rw [e] at this; cases this
        refine iteF ?_
        tm_at "v"
        refine ⟨p5, [], rfl, rfl, h5, fun z => ?_, by simp, fun n => by rw [if_neg this]; rfl⟩
        subst z
        rw [hB] at n5
        cases n5
      | some k =>
        have hm : c ∈ l.drop (pl + 1) := nextP_mem.mp (by rw [e]; rfl)
        have hk := nextP_lt e
        obtain ⟨t2, et2⟩ : ∃ t2, ts[l.length - 1 - k]? = some t2 := ⟨_, List.getElem?_eq_getElem (by omega)⟩
        have gt2 := ht _ _ et2
        rw [show l.length - (l.length - 1 - k) = k + 1 by omega] at gt2
        refine iteT ?_
        tm_at "v"
        refine i_ix1 (by omega) hc ?_
        refine x_dGetS (.inl (s5 _ _ hB)) (v := .int (k : Nat)) (by rw [ld.val, e]; rfl) ?_
        tm_at "v"
        have e5 : (l.length : Int) - 1 - (k : Nat) = ((l.length - 1 - k : Nat) : Int) := by omega
        rw [e5]
        refine i_ixL (v := .ref t2) (SqL.of1 (s5 _ _ hT)) (atI_nat (by rw [List.getElem?_map, et2]; rfl)) ?_
        tm_at "v"
        refine ⟨t2, lens (l.drop (k + 1)), rfl, rfl, s5 _ _ gt2, fun z => nB2 (z ▸ List.mem_of_getElem? et2), by rw [lens_len, List.length_drop]; omega, fun n => ?_⟩
        rw [if_pos hm, aft_next rfl e, lens_getD (lw.drop _)]
    · rintro σ' Hm ⟨X, xs, rfl, rfl, hX, neX, hxl, hxn⟩
      tm_at "v"
      refine i_ix1 (by omega) hc ?_
      refine v_dPutS (s5 _ _ hB) (lt_line (by omega)) fun H6 b6 h6 => ?_
      have s6 : Same H H6 := But.new (sm.trans s5) b6 nBH
      have hT6 := b6.at (s5 _ _ hT) neTB
      have gt6 := b6.at (s5 _ _ gt) (fun z => nB2 (z ▸ List.mem_of_getElem? et))
      have hX6 := b6.at hX neX
      tm_at "v"
      refine i_tBMl (SqL.of1 hT6) ?_
      tm_at "v"
      have eti : atI (ts.map V.ref) (-1) = some (.ref t) := atI_m1 (n := i) (by simp [tl]) (by rw [List.getElem?_map, et]; rfl)
      refine i_ixL (SqL.of1 hT6) eti ?_
      tm_at "v"
      refine i_ixL (SqL.of1 hT6) eti ?_
      tm_at "v"
      rw [ivs] at gt6 hX6
      refine i_put_on_0 gt6 gt6 hX6 (Nat.le_refl _) (by simp [lens_len]; omega) (by simp [lens_len]; omega) fun t' H7 n7 s7 h7 => ?_
      rw [pon_lens (c := c) (by rw [← ec]; exact lw.drop pl) hxn, ← ivs, ← ec] at h7
      have hT7 := s7 _ _ hT6
      tm_at "v"
      refine v_app hT7 (lt_line (by simp; omega)) fun H8 b8 h8 => ?_
      have s8 : Same H H8 := But.new (s6.trans s7) b8 nTH
      have neT : T ≠ t' := ne_of_none hT6 n7
      have neB : B ≠ t' := ne_of_none h6 n7
      refine ⟨_, _, rfl, s8, ⟨_, b8.at (s7 _ _ h6) neTB.symm, by
        rw [show l.length - (i + 1) = pl by omega]
        exact (ld.put c (.int (pl : Int))).congr (next_put hc)⟩, ts ++ [t'], by rw [h8, List.map_append]; rfl, by simp [tl], ?_, ?_, ?_⟩
      · intro z
        rcases List.mem_append.mp z with z | z
        · exact nT2 z
        · exact neT (List.mem_singleton.mp z)
      · intro z
        rcases List.mem_append.mp z with z | z
        · exact nB2 z
        · exact neB (List.mem_singleton.mp z)
      · intro j u eu
        by_cases hj : j < ts.length
        · rw [List.getElem?_append_left hj] at eu
          have a1 := ht j u eu
          have u1 : u ≠ T := fun z => nT2 (z ▸ List.mem_of_getElem? eu)
          have u2 : u ≠ B := fun z => nB2 (z ▸ List.mem_of_getElem? eu)
          exact b8.at (s7 _ _ (b6.at (s5 _ _ a1) u2)) u1
        · rw [List.getElem?_append_right (by omega)] at eu
          have ej : j - ts.length = 0 := by
            rcases Nat.eq_zero_or_pos (j - ts.length) with e0 | e0
            · exact e0
            · rw [List.getElem?_eq_none (by simp; omega)] at eu; cases eu
          rw [ej] at eu
          cases eu
          rw [show l.length - j = pl by omega]
          exact b8.at h7 neT.symm
  · rintro σ H' ⟨v3, v4, rfl, sm, ⟨kvs, hB, ld⟩, ts, hT, tl, nT2, nB2, ht⟩
    tm_at "v"
    refine v_revK (SqL.of1 hT) fun p H3 np s3 h3 => ?_
    have en : (((l.length : Nat) : Int) - 1 - -1).toNat = l.length := by omega
    rw [en] at tl
    refine q p ts.reverse H3 (sm.free np) (sm.trans s3) (by simp [tl]) (by rw [h3, List.map_reverse]) fun i t e => ?_
    have hi : i < ts.length := by
      have := (List.getElem?_eq_some_iff.mp e).1
      simpa using this
    rw [List.getElem?_reverse hi] at e
    have a1 := ht _ _ e
    rw [show l.length - (ts.length - 1 - i) = i by omega] at a1
    exact s3 _ _ a1
/-! is_whole_0x(thing): slots 0 thing -/
abbrev N_is_whole_0x : List Str := ["thing"]
def t_is_whole_0x (K : PySem.W.Frag) : TS :=
  (tRet (tAndV (tCB (Lv.rIs1 K) (tCons (tVar 0) (tCons (tC (.ty "int")) tNil))) (tNotV (tCB (Lv.rIs1 K) (tCons (tVar 0) (tCons (tC (.ty "bool")) tNil))))))
-- needs: Lv37
def sp_is_whole_0x (K : PySem.W.Frag) : Sp := fun vs H Q _ => ∃ (x : V) (b1 b2 : Bool), vs = [x] ∧ Kd K H x "int" b1 ∧ (b1 = true → Kd K H x "bool" b2) ∧ Q (.bl (b1 && !b2)) H
theorem i_is_whole_0x {K : PySem.W.Frag} {n : Int} {H : Hp} {Q : VK} {E : XK} (q : Q (.bl true) H) : sp_is_whole_0x K [.int n] H Q E := ⟨.int n, true, false, rfl, kd_of (.int _) (by decide +kernel), (fun _ => kd_of (.int _) (by decide +kernel)), q⟩
theorem i_is_whole_bad {K : PySem.W.Frag} {n : Nat} {x : V} {H : Hp} {Q : VK} {E : XK} (hb : BadPl K H n x) (q1 : ∀ i : Int, x = .int i → ¬ (0 ≤ i ∧ i < n) → Q (.bl true) H) (q : Q (.bl false) H) : sp_is_whole_0x K [x] H Q E := by
  rcases hb.kd with h | ⟨h, h2⟩ | ⟨i, rfl, h⟩
  · exact ⟨x, false, false, rfl, h, (fun z => by cases z), q⟩
  · exact ⟨x, true, true, rfl, h, (fun _ => h2), q⟩
  · exact i_is_whole_0x (q1 i rfl h)
theorem pure_is_whole_0x {K : PySem.W.Frag} (vs : List V) (H : Hp) (Q : VK) (E : XK) (h : sp_is_whole_0x K vs H Q E) : t_is_whole_0x K { nx := fun _ H' => Q .non H', rt := Q } (start N_is_whole_0x vs) H := by
  obtain ⟨x, b1, b2, rfl, k1, k2, q⟩ := h
  unfold t_is_whole_0x
  tm_at "v"
  refine i_kd k1 ?_
  tm_at "v"
  cases b1 with
  | false => exact iteF q
  | true =>
    refine iteT ?_
    tm_at "v"
    refine i_kd (k2 rfl) ?_
    tm_at "v"
    exact q
/-! many_of_0(tables, begin, length): slots 0 tables, 1 begin, 2 length -/
abbrev N_many_of_0 : List Str := ["tables", "begin", "length"]
def t_many_of_0 (K : PySem.W.Frag) : TS :=
  (tSeq (tIfS (tTest (tOp Lv.rGe (tVar 2) (tCB (Lv.rLenL K) (tCons (tOp (rIxL K) (tVar 0) (tVar 1)) tNil)))) (tRet (tC (.int 0))) tNext) (tRet (tOp (rIxL K) (tOp (rIxL K) (tVar 0) (tVar 1)) (tVar 2))))
-- needs: M_len Q_lengths_from_0
def sp_many_of_0 (K : PySem.W.Frag) : Sp := fun vs H Q _ => ∃ (T : Addr) (i n : Nat) (l : List Nat) (ts : List Addr), vs = [.ref T, .int (i : Nat), .int (n : Nat)] ∧ H T = some (.lst (ts.map V.ref)) ∧ LT H ts l ∧ ts.length = l.length + 1 ∧ i ≤ l.length ∧ Low l ∧ Q (.int ((cl n (l.drop i) : Nat) : Int)) H
theorem i_many_of_0 {K : PySem.W.Frag} {T : Addr} {i n : Nat} {l : List Nat} {ts : List Addr} {x y : Int} {H : Hp} {Q : VK} {E : XK} (hx : x = (i : Nat)) (hy : y = (n : Nat)) (hT : H T = some (.lst (ts.map V.ref))) (lt : LT H ts l) (tl : ts.length = l.length + 1) (hi : i ≤ l.length) (lw : Low l) (q : Q (.int ((cl n (l.drop i) : Nat) : Int)) H) : sp_many_of_0 K [.ref T, .int x, .int y] H Q E := by
  subst hx; subst hy; exact ⟨T, i, n, l, ts, rfl, hT, lt, tl, hi, lw, q⟩
theorem pure_many_of_0 {K : PySem.W.Frag} (vs : List V) (H : Hp) (Q : VK) (E : XK) (h : sp_many_of_0 K vs H Q E) : t_many_of_0 K { nx := fun _ H' => Q .non H', rt := Q } (start N_many_of_0 vs) H := by
  obtain ⟨T, i, n, l, ts, rfl, hT, lt, tl, hi, lw, q⟩ := h
  unfold t_many_of_0
  obtain ⟨t, et⟩ : ∃ t, ts[i]? = some t := ⟨_, List.getElem?_eq_getElem (by omega)⟩
  have ht := lt i t et
  have eti : atI (ts.map V.ref) (i : Int) = some (.ref t) := atI_nat (by rw [List.getElem?_map, et]; rfl)
  tm_at "v"
  refine i_ixL (SqL.of1 hT) eti ?_
  tm_at "v"
  refine i_lenL (SqL.of1 ht) ?_
  tm_at "v"
  rw [List.length_map, lens_len, List.length_drop]
  refine if_dec (fun z => ?_) (fun z => ?_)
  · tm_at "v"
    rw [cl_long (by simp; omega) (lw.drop i)] at q
    exact q
  · tm_at "v"
    refine i_ixL (SqL.of1 hT) eti ?_
    tm_at "v"
    refine i_ixL (SqL.of1 ht) (atI_nat (j := n) (by rw [List.getElem?_map, lens_get (by simp; omega)]; rfl)) ?_
    exact q
/-! is_whole_0(thing): slots 0 thing -/
/-! left_at_0(row, place): slots 0 row, 1 place, 2 counts, 3 tables, 4 found, 5 begin, 6 letter, 7 behind -/
/-! of_length_at_0(row, length, place): slots 0 row, 1 length, 2 place, 3 many, 4 tables, 5 found, 6 begin, 7 left, 8 letter, 9 behind -/
/-! of_length_at_0x(row, length, place): slots 0 row, 1 length, 2 place, 3 many, 4 tables, 5 found, 6 begin, 7 left, 8 letter, 9 behind -/
abbrev N_of_length_at_0x : List Str := ["row", "length", "place", "many", "tables", "found", "begin", "left", "letter", "behind"]
def t_of_length_at_0x (K : PySem.W.Frag) (er : Nat → Addr) (E : XK) : TS :=
  (tSeq (tIfS (tOr (tNot (tB (tCall (sp_is_whole_0x K) [] E0 (tCons (tVar 1) tNil)))) (tOr (tNot (tTest (tChain Lv.rLe Lv.rLe (tC (.int 0)) (tVar 1) (tCB Lv.rLenT (tCons (tVar 0) tNil))))) (tNot (tB (tCall (sp_is_whole_0x K) [] E0 (tCons (tVar 2) tNil)))))) (Lv.tRaise E (er 4)) tNext) (tSeq (tAsg (tCall (sp_lengths_from_0 K) [] E0 (tCons (tVar 0) tNil)) (gName 3)) (tSeq (tIfS (tNot (tTest (tChain Lv.rLe Lv.rLt (tC (.int 0)) (tVar 2) (tOp (rIxL K) (tOp (rIxL K) (tVar 3) (tC (.int 0))) (tVar 1))))) (Lv.tRaise E (er 4)) tNext) (tSeq (tAsg (tCall (sp_next_tables_0 K) [] E0 (tCons (tVar 0) tNil)) (gName 4)) (tSeq (tAsg (tC (.str (S []))) (gName 5)) (tSeq (tAsg (tC (.int 0)) (gName 6)) (tSeq (tFor (iRng3 (tCons (tOp Lv.rSub (tVar 1) (tC (.int 1))) (tCons (tUn Lv.rNeg (tC (.int 1))) (tCons (tUn Lv.rNeg (tC (.int 1))) tNil)))) (gName 7) (tSeq (tFor (iList K (tCB Lv.rSortedD (tCons (tOp (rIxL K) (tVar 4) (tVar 6)) tNil))) (gName 8) (tSeq (tAsg (tOp Lv.rAdd (tDGet (tOp (rIxL K) (tVar 4) (tVar 6)) (tVar 8)) (tC (.int 1))) (gName 9)) (tSeq (tIfS (tTest (tOp Lv.rLt (tVar 2) (tCall (sp_many_of_0 K) [] E0 (tCons (tVar 3) (tCons (tVar 9) (tCons (tVar 7) tNil)))))) tBreak tNext) (tAug 2 (tCall (sp_many_of_0 K) [] E0 (tCons (tVar 3) (tCons (tVar 9) (tCons (tVar 7) tNil)))) (ipI fun i j => i - j))))) (tSeq (tAug 5 (tVar 8) Lv.ipAddS) (tAsg (tVar 9) (gName 6))))) (tRet (tVar 5)))))))))
-- needs: Lv37 M_len Q_left_at_0 Q_of_length_at_0
def sp_of_length_at_0x (K : PySem.W.Frag) (er : Nat → Addr) : Sp := fun vs H Q E => ∃ (l : List Nat) (x y : V), vs = [.str (S l), x, y] ∧ l.length ≤ 1000 ∧ Low l ∧ ((∃ (n k : Nat) (m : List Nat), x = .int (n : Nat) ∧ y = .int (k : Nat) ∧ n ≤ l.length ∧ (lxn n l)[k]? = some m ∧ ∀ (H' : Hp), Same H H' → Q (.str (S m)) H') ∨
  ((BadPl K H (l.length + 1) x ∨ ∃ n : Nat, x = .int (n : Nat) ∧ n ≤ l.length ∧ BadPl K H (cl n l) y) ∧ ∀ H', Same H H' → E (.ref (er 4)) none H'))
theorem i_of_length_at_0x {K : PySem.W.Frag} {er : Nat → Addr} {l m : List Nat} {n k : Nat} {x y : Int} {H : Hp} {Q : VK} {E : XK} (hx : x = (n : Nat)) (hy : y = (k : Nat)) (hl : l.length ≤ 1000) (lw : Low l) (hn : n ≤ l.length) (hk : (lxn n l)[k]? = some m) (q : ∀ (H' : Hp), Same H H' → Q (.str (S m)) H') : sp_of_length_at_0x K er [.str (S l), .int x, .int y] H Q E := by
  subst hx; subst hy; exact ⟨l, _, _, rfl, hl, lw, .inl ⟨n, k, m, rfl, rfl, hn, hk, q⟩⟩
theorem i_of_length_at_no {K : PySem.W.Frag} {er : Nat → Addr} {l : List Nat} {x y : V} {H : Hp} {Q : VK} {E : XK} (hl : l.length ≤ 1000) (lw : Low l) (hb : BadPl K H (l.length + 1) x ∨ ∃ n : Nat, x = .int (n : Nat) ∧ n ≤ l.length ∧ BadPl K H (cl n l) y) (q : ∀ H', Same H H' → E (.ref (er 4)) none H') : sp_of_length_at_0x K er [.str (S l), x, y] H Q E := ⟨l, _, _, rfl, hl, lw, .inr ⟨hb, q⟩⟩
theorem pure_of_length_at_0x {K : PySem.W.Frag} {er : Nat → Addr} (vs : List V) (H : Hp) (Q : VK) (E : XK) (h : sp_of_length_at_0x K er vs H Q E) : t_of_length_at_0x K er E { nx := fun _ H' => Q .non H', rt := Q } (start N_of_length_at_0x vs) H := by
  obtain ⟨l, x, y, rfl, hl, lw, ⟨n, k, m, rfl, rfl, hn, hk, q⟩ | ⟨hb | ⟨n, rfl, hn, hb⟩, q⟩⟩ := h
  rotate_left
  · unfold t_of_length_at_0x
    tm_at "v"
    refine i_is_whole_bad hb (fun i e z => ?_) ?_
    · subst e
      tm_at "v"
      refine if_dec (fun z2 => ?_) (fun z2 => ?_)
      · tm_at "v"
        rw [decide_eq_false (show ¬ i ≤ ((l.length : Nat) : Int) by omega)]
        tm_at "v"
        exact q _ (Same.refl _)
      · tm_at "v"
        exact q _ (Same.refl _)
    · tm_at "v"
      exact q _ (Same.refl _)
  · unfold t_of_length_at_0x
    tm_at "v"
    refine i_is_whole_0x ?_
    tm_at "v"
    refine if_yes (by omega) ?_
    tm_at "v"
    rw [decide_eq_true (show ((n : Nat) : Int) ≤ ((l.length : Nat) : Int) by omega)]
    tm_at "v"
    refine i_is_whole_bad hb (fun i e z => ?_) ?_
    · subst e
      tm_at "v"
      refine i_lengths_from_0 hl lw fun C cs H1 nC s1 cls hC lt => ?_
      obtain ⟨t0, et0⟩ : ∃ t, cs[0]? = some t := ⟨_, List.getElem?_eq_getElem (by omega)⟩
      have ht0 := lt 0 t0 et0
      rw [List.drop_zero] at ht0
      tm_at "v"
      refine if_dec (fun z2 => ?_) (fun z2 => ?_)
      · tm_at "v"
        refine i_ixL (v := .ref t0) (SqL.of1 hC) (atI_nat (j := 0) (by rw [List.getElem?_map, et0]; rfl)) ?_
        tm_at "v"
        refine i_ixL (v := .int ((cl n l : Nat) : Int)) (SqL.of1 ht0) (atI_nat (j := n) (by rw [List.getElem?_map, lens_get hn]; rfl)) ?_
        tm_at "v"
        rw [decide_eq_false (show ¬ i < ((cl n l : Nat) : Int) by omega)]
        tm_at "v"
        exact q _ s1
      · tm_at "v"
        exact q _ s1
    · tm_at "v"
      exact q _ (Same.refl _)
  have klt : k < cl n l := (List.getElem?_eq_some_iff.mp hk).1
  unfold t_of_length_at_0x
  tm_at "v"
  refine i_is_whole_0x ?_
  tm_at "v"
  refine if_yes (by omega) ?_
  tm_at "v"
  rw [decide_eq_true (show ((n : Nat) : Int) ≤ ((l.length : Nat) : Int) by omega)]
  tm_at "v"
  refine i_is_whole_0x ?_
  tm_at "v"
  refine i_lengths_from_0 hl lw fun C cs H1 nC s1 cls hC lt => ?_
  obtain ⟨t0, et0⟩ : ∃ t, cs[0]? = some t := ⟨_, List.getElem?_eq_getElem (by omega)⟩
  have ht0 := lt 0 t0 et0
  rw [List.drop_zero] at ht0
  tm_at "v"
  refine if_yes (by omega) ?_
  tm_at "v"
  refine i_ixL (v := .ref t0) (SqL.of1 hC) (atI_nat (j := 0) (by rw [List.getElem?_map, et0]; rfl)) ?_
  tm_at "v"
  refine i_ixL (v := .int ((cl n l : Nat) : Int)) (SqL.of1 ht0) (atI_nat (j := n) (by rw [List.getElem?_map, lens_get hn]; rfl)) ?_
  tm_at "v"
  rw [decide_eq_true (show ((k : Nat) : Int) < ((cl n l : Nat) : Int) by omega)]
  tm_at "v"
  refine i_next_tables_0 hl lw fun T ts H2 nT s2 tl hT nt => ?_
  have hC2 := s2 _ _ hC
  have lt2 := lt.same s2
  tm_at "v"
  tm_at "fo"
  refine f_c ⟨fun w σ H' => ∃ (i p : Nat) (a r : List Nat) (v7 v8 v9 : Option V), σ = [some (.str (S l)), some (.int (n : Nat)), some (.int (p : Nat)), some (.ref C), some (.ref T), some (.str (S a)), some (.int (i : Nat)), v7, v8, v9] ∧ Same H2 H' ∧
    i ≤ l.length ∧ (lxn (n - w) (l.drop i))[p]? = some r ∧ a ++ r = m ∧ a.length = w, ⟨0, k, [], m, none, none, none, rfl, Same.refl _, by omega, hk, rfl, by simp⟩, ?_, ?_⟩
  · rintro w x σ H0 H3 hw ⟨i, p, a, r, v7, v8, v9, rfl, sm, hi, hr, har, hal⟩ ⟨rfl, rfl⟩
    have hw' : w < n := by omega
    obtain ⟨g, eg⟩ : ∃ g : Nat, n = g + 1 + w := ⟨n - 1 - w, by omega⟩
    have e3 : (n : Int) - 1 + (w : Int) * -1 = (g : Int) := by omega
    rw [e3]
    rw [show n - w = g + 1 by omega, lxn_at] at hr
    have hC3 := sm _ _ hC2
    have hT3 := sm _ _ hT
    have lt3 := lt2.same sm
    obtain ⟨t, et⟩ : ∃ t, ts[i]? = some t := ⟨_, List.getElem?_eq_getElem (by omega)⟩
    obtain ⟨kvs, hkv, ld⟩ := nt.same sm i t et
    have etI : ∀ (xs : List V), xs = ts.map V.ref → atI xs (i : Int) = some (.ref t) := fun xs e => atI_nat (by rw [e, List.getElem?_map, et]; rfl)
    tm_at "v"
    refine foM (fun J H4 => ∃ D, J = Itl K D ∧ Same H3 H4 ∧ H4 D = some (.lst ((lets (l.drop i)).map vc))) (fun R k => ?_) ?_
    · tm_at "v"
      refine i_ixL (SqL.of1 hT3) (etI _ rfl) ?_
      tm_at "v"
      refine v_sortedLD (.inl hkv) ld (by have := nt_len lw ld; omega) fun ys D H4 up hm nD s4 h4 => ?_
      have ey := nt_lets lw up hm
      subst ey
      exact ⟨D, rfl, ⟨_, SqL.of1 h4⟩, k _ _ ⟨D, rfl, s4, h4⟩⟩
    rintro J H4 ⟨D, rfl, s4, h4⟩
    have hC4 := s4 _ _ hC3
    have hT4 := s4 _ _ hT3
    have hkv4 := s4 _ _ hkv
    have lt4 := lt3.same s4
    refine f_l (xs := (lets (l.drop i)).map vc) ⟨fun j σ H' => H' = H4 ∧ ∃ (pp : Nat) (v8 v9 : Option V), σ = [some (.str (S l)), some (.int (n : Nat)), some (.int (pp : Nat)), some (.ref C), some (.ref T), some (.str (S a)), some (.int (i : Nat)), some (.int (g : Nat)), v8, v9] ∧ flatn g (l.drop i) ((lets (l.drop i)).drop j) pp = some r, ⟨rfl, p, v8, v9, rfl, hr⟩, ?_, ?_, ?_⟩
    · rintro j σ H' _ ⟨rfl, _⟩
      exact SqL.of1 h4
    · rintro j x σ H5 H' hj ⟨rfl, pp, v8, v9, rfl, hfl⟩ ⟨rfl, hx⟩
      rw [List.length_map] at hj
      have hx' : x = vc ((lets (l.drop i))[j]) := by
        rw [List.getElem?_map, List.getElem?_eq_getElem hj] at hx
        exact (Option.some.inj hx).symm
      subst hx'
      have hcm : (lets (l.drop i))[j] ∈ l.drop i := (lets_mem (lw.drop i)).mp (List.getElem_mem hj)
      rw [List.drop_eq_getElem_cons hj] at hfl
      generalize (lets (l.drop i))[j] = c at *
      obtain ⟨kk, hkk⟩ := next_of_mem hcm
      have hkl := nextP_lt hkk
      have haft := aft_next rfl hkk
      tm_at "v"
      refine i_ixL (SqL.of1 hT4) (etI _ rfl) ?_
      tm_at "v"
      refine x_dGetS (.inl hkv4) (v := .int (kk : Nat)) (by rw [ld.val, hkk]; rfl) ?_
      tm_at "v"
      rw [show ((kk : Nat) : Int) + 1 = ((kk + 1 : Nat) : Int) by omega]
      refine i_many_of_0 (i := kk + 1) (n := g) rfl rfl hC4 lt4 cls (by omega) lw ?_
      tm_at "v"
      refine if_dec (fun z => ?_) (fun z => ?_)
      · rw [flatn_yes (by rw [haft]; omega), haft] at hfl
        cases er : (lxn g (l.drop (kk + 1)))[pp]? with
        | none => rw [er] at hfl; cases hfl
        | some r' =>
          rw [er] at hfl
          have hfl : c :: r' = r := Option.some.inj hfl
          tm_at "v"
          refine i_augS1 (by tm_at "z") ?_
          tm_at "v"
          exact ⟨kk + 1, pp, a ++ [c], r', _, _, _, rfl, sm.trans s4, by omega, by rw [show n - (w + 1) = g by omega]; exact er, by rw [← har, ← hfl]; simp, by simp [hal]⟩
      · rw [flatn_no (by rw [haft]; omega), haft] at hfl
        tm_at "v"
        refine i_many_of_0 (i := kk + 1) (n := g) rfl rfl hC4 lt4 cls (by omega) lw ?_
        tm_at "v"
        rw [show (pp : Int) - ((cl g (l.drop (kk + 1)) : Nat) : Int) = ((pp - cl g (l.drop (kk + 1)) : Nat) : Int) by omega]
        exact ⟨rfl, _, _, _, rfl, hfl⟩
    · rintro σ H' ⟨rfl, pp, v8, v9, rfl, hfl⟩
      rw [List.length_map, List.drop_length] at hfl
      cases hfl
  · rintro σ H3 ⟨i, p, a, r, v7, v8, v9, rfl, sm, hi, hr, har, hal⟩
    rw [show n - (((n : Nat) : Int) - 1 - -1).toNat = 0 by omega, lxn_zero] at hr
    have er : r = [] := by
      cases p with
      | zero => exact (Option.some.inj hr).symm
      | succ p => simp at hr
    rw [er, List.append_nil] at har
    subst har
    tm_at "v"
    exact q _ (s1.trans (s2.trans sm))
/-! read_number_0(word): slots 0 word, 1 figure -/
/-- a number as written -/
def NumOk (a : List Nat) : Prop := 1 ≤ a.length ∧ a.length ≤ 30 ∧ (a.head? = some 48 → a = [48]) ∧ NumText.AllDigits a
theorem numOk_num {n : Nat} (h : n < 10 ^ 30) : NumOk (TL.numL n) := ⟨List.length_pos_iff.mpr (TL.numL_ne n), TL.numL_len (by decide) h, numL_head n, TL.numL_digits n⟩
/-! read_number_0x(word): slots 0 word, 1 figure -/
abbrev N_read_number_0x : List Str := ["word", "figure"]
def t_read_number_0x (K : PySem.W.Frag) (er : Nat → Addr) (E : XK) : TS :=
  (tSeq (tIfS (tOr (tNot (tTest (tChain Lv.rLe Lv.rLe (tC (.int 1)) (tCB Lv.rLenT (tCons (tVar 0) tNil)) (tC (.int 30))))) (tAnd (tTest (tOp Lv.rEqS (tOp Lv.rIxT1 (tVar 0) (tC (.int 0))) (tC (.str (S [48]))))) (tTest (tOp Lv.rNeS (tVar 0) (tC (.str (S [48]))))))) (Lv.tRaise E (er 6)) tNext) (tSeq (tFor (iStr (tVar 0)) (gName 1) (tIfS (tTest (tOp (Lv.rIn1 true) (tVar 1) (tC (.str (S [48, 49, 50, 51, 52, 53, 54, 55, 56, 57]))))) (Lv.tRaise E (er 6)) tNext)) (tRet (tCB Lv.rIntS (tCons (tVar 0) tNil)))))
-- needs: Lv41 Q_read_number_0
def sp_read_number_0x (K : PySem.W.Frag) (er : Nat → Addr) : Sp := fun vs H Q E => ∃ (a : List Nat), vs = [.str (S a)] ∧ a.length ≤ 1000000 ∧ (NumOk a → ∀ H', Same H H' → Q (.int ((NumText.digitsVal a : Nat) : Int)) H') ∧ (¬ NumOk a → ∀ H', Same H H' → E (.ref (er 6)) none H')
theorem pure_read_number_0x {K : PySem.W.Frag} {er : Nat → Addr} (vs : List V) (H : Hp) (Q : VK) (E : XK) (h : sp_read_number_0x K er vs H Q E) : t_read_number_0x K er E { nx := fun _ H' => Q .non H', rt := Q } (start N_read_number_0x vs) H := by
  obtain ⟨a, rfl, hl, q, r⟩ := h
  unfold t_read_number_0x
  have loop : 1 ≤ a.length → a.length ≤ 30 → (a.head? = some 48 → a = [48]) → tSeq (tFor (iStr (tVar 0)) (gName 1) (tIfS (tTest (tOp (Lv.rIn1 true) (tVar 1) (tC (.str (S [48, 49, 50, 51, 52, 53, 54, 55, 56, 57]))))) (Lv.tRaise E (er 6)) tNext)) (tRet (tCB Lv.rIntS (tCons (tVar 0) tNil))) { nx := fun _ H' => Q .non H', rt := Q } (start N_read_number_0x [.str (S a)]) H := by
    intro h1 h2 h3
    tm_at "v"
    tm_at "fo"
    refine f_s ⟨fun i σ H' => ∃ (v1 : Option V), σ = [some (.str (S a)), v1] ∧ H' = H ∧ ∀ j c, j < i → a[j]? = some c → 48 ≤ c ∧ c ≤ 57, ⟨none, rfl, rfl, fun _ _ z => absurd z (Nat.not_lt_zero _)⟩, ?_, ?_⟩
    · rintro i x σ Ha H1 hi ⟨v1, rfl, rfl, hp⟩ ⟨rfl, c, hc, rfl⟩
      tm_at "v"
      by_cases cd : c ∈ [48, 49, 50, 51, 52, 53, 54, 55, 56, 57]
      · rw [decide_eq_true cd]
        tm_at "v"
        refine ⟨_, rfl, rfl, fun j d hj hd => ?_⟩
        rcases Nat.lt_or_ge j i with z | z
        · exact hp j d z hd
        · have : j = i := by omega
          subst this
          rw [hc] at hd
          cases hd
          simp only [List.mem_cons, List.not_mem_nil, or_false] at cd
          omega
      · rw [decide_eq_false cd]
        tm_at "v"
        refine r (fun z => cd ?_) _ (Same.refl _)
        have := z.2.2.2 c (List.mem_of_getElem? hc)
        simp only [List.mem_cons, List.not_mem_nil, or_false]
        omega
    · rintro σ H1 ⟨v1, rfl, rfl, hp⟩
      have h4 : NumText.AllDigits a := fun c hc => by
        obtain ⟨j, hj⟩ := List.getElem?_of_mem hc
        exact hp j c (List.getElem?_eq_some_iff.mp hj).1 hj
      tm_at "v"
      refine i_intS h4 (List.length_pos_iff.mp h1) (by omega) ?_
      exact q ⟨h1, h2, h3, h4⟩ _ (Same.refl _)
  tm_at "v"
  by_cases h1 : 1 ≤ a.length
  · refine if_yes (by omega) ?_
    tm_at "v"
    by_cases h2 : a.length ≤ 30
    · rw [decide_eq_true (show ((a.length : Nat) : Int) ≤ 30 by omega)]
      tm_at "v"
      obtain ⟨c, hc⟩ : ∃ c, a[0]? = some c := ⟨_, List.getElem?_eq_getElem (by omega)⟩
      refine i_ix1 (j := 0) (by omega) hc ?_
      tm_at "v"
      have hh : a.head? = some c := by rw [List.head?_eq_getElem?]; exact hc
      by_cases z : c = 48
      · subst z
        rw [decide_eq_true rfl]
        tm_at "v"
        by_cases e : a = [48]
        · rw [decide_eq_true e]
          tm_at "v"
          exact loop h1 h2 fun _ => e
        · rw [decide_eq_false e]
          tm_at "v"
          exact r (fun y => e (y.2.2.1 hh)) _ (Same.refl _)
      · rw [decide_eq_false (fun y => z (by injection y))]
        tm_at "v"
        exact loop h1 h2 fun y => by rw [hh] at y; exact absurd (Option.some.inj y) z
    · rw [decide_eq_false (show ¬ ((a.length : Nat) : Int) ≤ 30 by omega)]
      tm_at "v"
      exact r (fun y => h2 y.2.1) _ (Same.refl _)
  · refine if_no (by omega) ?_
    tm_at "v"
    exact r (fun y => h1 y.1) _ (Same.refl _)
/-! read_number_0n(word): slots 0 word, 1 figure -/
abbrev N_read_number_0n : List Str := ["word", "figure"]
def t_read_number_0n (K : PySem.W.Frag) (er : Nat → Addr) (E : XK) : TS :=
  (tSeq (tIfS (tOr (tNot (tTest (tChain Lv.rLe Lv.rLe (tC (.int 1)) (tCB Lv.rLenT (tCons (tVar 0) tNil)) (tC (.int 30))))) (tAnd (tTest (tOp Lv.rEqS (tOp Lv.rIxT1 (tVar 0) (tC (.int 0))) (tC (.str (S [48]))))) (tTest (tOp Lv.rNeS (tVar 0) (tC (.str (S [48]))))))) (Lv.tRaise E (er 6)) tNext) (tSeq (tFor (iStr (tVar 0)) (gName 1) (tIfS (tTest (tOp (Lv.rIn1 true) (tVar 1) (tC (.str (S [48, 49, 50, 51, 52, 53, 54, 55, 56, 57]))))) (Lv.tRaise E (er 6)) tNext)) (tRet (tCB Lv.rIntS (tCons (tVar 0) tNil)))))
-- needs: Lv43 Q_read_number_0x
def sp_read_number_0n (K : PySem.W.Frag) (er : Nat → Addr) : Sp := sp_read_number_0x K er
theorem i_read_number_0n {K : PySem.W.Frag} {er : Nat → Addr} {a : List Nat} {H : Hp} {Q : VK} {E : XK} (hl : a.length ≤ 1000000) (q : NumOk a → ∀ H', Same H H' → Q (.int ((NumText.digitsVal a : Nat) : Int)) H') (r : ¬ NumOk a → ∀ H', Same H H' → E (.ref (er 6)) none H') : sp_read_number_0n K er [.str (S a)] H Q E := ⟨a, rfl, hl, q, r⟩
theorem pure_read_number_0n {K : PySem.W.Frag} {er : Nat → Addr} (vs : List V) (H : Hp) (Q : VK) (E : XK) (h : sp_read_number_0n K er vs H Q E) : t_read_number_0n K er E { nx := fun _ H' => Q .non H', rt := Q } (start N_read_number_0n vs) H := pure_read_number_0x vs H Q E h
/-! number_in_0(word): slots 0 word, 1 number -/
abbrev N_number_in_0 : List Str := ["word", "number"]
def t_number_in_0 (K : PySem.W.Frag) (er : Nat → Addr) (E : XK) : TS :=
  (tSeq (Lv.tTryRN K (.ref (er 6)) (er 1) E (fun W => (tAsg (tCallS (sp_read_number_0n K er) (WE W) (tCons (tVar 0) tNil)) (gName 1)))) (tRet (tVar 1)))
-- needs: Lv43 Q_read_number_0
open Classical in
/-- the number that a word writes -/
noncomputable def numIn (a : List Nat) : Option Nat := if NumOk a then some (NumText.digitsVal a) else none
theorem numIn_ok {a : List Nat} (h : NumOk a) : numIn a = some (NumText.digitsVal a) := if_pos h
theorem numIn_no {a : List Nat} (h : ¬ NumOk a) : numIn a = none := if_neg h
theorem numIn_num {n : Nat} (h : n < 10 ^ 30) : numIn (TL.numL n) = some n := by rw [numIn_ok (numOk_num h), TL.numL_val]
def sp_number_in_0 (K : PySem.W.Frag) (er : Nat → Addr) : Sp := fun vs H Q E => ∃ (a : List Nat), vs = [.str (S a)] ∧ a.length ≤ 1000000 ∧ (∀ n, numIn a = some n → ∀ H', Same H H' → Q (iv n) H') ∧ (numIn a = none → ∀ H', Same H H' → E (.ref (er 1)) none H')
theorem i_number_in_0 {K : PySem.W.Frag} {er : Nat → Addr} {a : List Nat} {H : Hp} {Q : VK} {E : XK} (hl : a.length ≤ 1000000) (q : ∀ n, numIn a = some n → ∀ H', Same H H' → Q (iv n) H') (r : numIn a = none → ∀ H', Same H H' → E (.ref (er 1)) none H') : sp_number_in_0 K er [.str (S a)] H Q E := ⟨a, rfl, hl, q, r⟩
theorem pure_number_in_0 {K : PySem.W.Frag} {er : Nat → Addr} (Z : ErrC K er 6) (vs : List V) (H : Hp) (Q : VK) (E : XK) (h : sp_number_in_0 K er vs H Q E) : t_number_in_0 K er E { nx := fun _ H' => Q .non H', rt := Q } (start N_number_in_0 vs) H := by
  obtain ⟨a, rfl, hl, q, r⟩ := h
  unfold t_number_in_0
  tm_at "v"
  refine i_tryRN ?_
  tm_at "v"
  refine i_read_number_0n hl (fun ok H1 s1 => ?_) (fun no H1 s1 => ?_)
  · tm_at "v"
    exact q _ (numIn_ok ok) _ s1
  · exact wOnly_er Z (by decide) (by decide) (r (numIn_no no) _ s1)
/-! shown_0(row): slots 0 row -/
abbrev N_shown_0 : List Str := ["row"]
def t_shown_0 (K : PySem.W.Frag) : TS :=
  (tSeq (tIfS (tTest (tOp Lv.rEqS (tVar 0) (tC (.str (S []))))) (tRet (tC (.str (S [45])))) tNext) (tRet (tVar 0)))
/-- a row as it is written -/
def shn1 (l : List Nat) : List Nat := if l = [] then [45] else l
def sp_shown_0 (K : PySem.W.Frag) : Sp := fun vs H Q _ => ∃ (l : List Nat), vs = [.str (S l)] ∧ Q (.str (S (shn1 l))) H
theorem i_shown_0 {K : PySem.W.Frag} {l : List Nat} {H : Hp} {Q : VK} {E : XK} (q : Q (.str (S (shn1 l))) H) : sp_shown_0 K [.str (S l)] H Q E := ⟨l, rfl, q⟩
theorem shn1_len {l : List Nat} {n : Nat} (h : l.length ≤ n) (h1 : 1 ≤ n) : (shn1 l).length ≤ n := by
  unfold shn1
  split
  · exact h1
  · exact h
theorem pure_shown_0 {K : PySem.W.Frag} (vs : List V) (H : Hp) (Q : VK) (E : XK) (h : sp_shown_0 K vs H Q E) : t_shown_0 K { nx := fun _ H' => Q .non H', rt := Q } (start N_shown_0 vs) H := by
  obtain ⟨l, rfl, q⟩ := h
  unfold shn1 at q
  unfold t_shown_0
  tm_at "v"
  refine if_dec (fun z => ?_) (fun z => ?_)
  · rw [if_pos z] at q
    tm_at "v"
    exact q
  · rw [if_neg z] at q
    tm_at "v"
    exact q
/-! next_at_0(row, place, letter): slots 0 row, 1 place, 2 letter, 3 at -/
abbrev N_next_at_0 : List Str := ["row", "place", "letter", "at"]
def t_next_at_0 (K : PySem.W.Frag) : TS :=
  (tSeq (tAsg (tBM K "str" Lv.rFind (tVar 0) (tCons (tVar 2) (tCons (tVar 1) tNil))) (gName 3)) (tSeq (tIfS (tTest (tOp Lv.rLt (tVar 3) (tC (.int 0)))) (tRet (tC .non)) tNext) (tRet (tVar 3))))
def sp_next_at_0 (K : PySem.W.Frag) : Sp := fun vs H Q _ => ∃ (l : List Nat) (i c : Nat), vs = [.str (S l), .int (i : Int), .str (S [c])] ∧ i ≤ l.length ∧ Q (oI (nextP l i c)) H
theorem i_next_at_0 {K : PySem.W.Frag} {l : List Nat} {i c : Nat} {H : Hp} {Q : VK} {E : XK} (hi : i ≤ l.length) (q : Q (oI (nextP l i c)) H) : sp_next_at_0 K [.str (S l), .int (i : Int), .str (S [c])] H Q E := ⟨l, i, c, rfl, hi, q⟩
theorem pure_next_at_0 {K : PySem.W.Frag} (vs : List V) (H : Hp) (Q : VK) (E : XK) (h : sp_next_at_0 K vs H Q E) : t_next_at_0 K { nx := fun _ H' => Q .non H', rt := Q } (start N_next_at_0 vs) H := by
  obtain ⟨l, i, c, rfl, hi, q⟩ := h
  unfold t_next_at_0
  tm_at "w"
  refine i_find hi ?_
  unfold findI
  cases e : nextP l i c with
  | none =>
    rw [e] at q
    tm_at "w"
    refine if_dec (fun z => ?_) (fun z => ?_)
    · tm_at "w"
      exact q
    · exact absurd (by decide : (-1 : Int) < 0) z
  | some k =>
    rw [e] at q
    dsimp only
    tm_at "w"
    refine if_dec (fun z => ?_) (fun z => ?_)
    · omega
    · tm_at "w"
      exact q
/-! goings_on_0(one, other): slots 0 one, 1 other, 2 nexts, 3 row, 4 found, 5 here, 6 there, 7 some, 8 letter, 9 first, 10 second, 11 place -/
abbrev N_goings_on_0 : List Str := ["one", "other", "nexts", "row", "found", "here", "there", "some", "letter", "first", "second", "place"]
def t_goings_on_0 (K : PySem.W.Frag) : TS :=
  (tSeq (tAsg (tLst tNil) (gName 2)) (tSeq (tFor (iTup K (tTup (tCons (tVar 0) (tCons (tVar 1) tNil)))) (gName 3) (tDrop (tBM K "list" rAppend (tVar 2) (tCons (tLc (iRng1 (tCons (tOp Lv.rAdd (tCB Lv.rLenT (tCons (tVar 3) tNil)) (tC (.int 1))) tNil)) (gName 11) tYes (tLc (iStr (tC (.str (S [97, 98, 99, 100, 101, 102, 103, 104, 105, 106, 107, 108, 109, 110, 111, 112, 113, 114, 115, 116, 117, 118, 119, 120, 121, 122])))) (gName 8) tYes (tCall (sp_next_at_0 K) [] E0 (tCons (tVar 3) (tCons (tVar 11) (tCons (tVar 8) tNil)))) [8]) [11]) tNil)))) (tSeq (tAsg tDNewT (gName 4)) (tSeq (tFor (iRng3 (tCons (tCB Lv.rLenT (tCons (tVar 0) tNil)) (tCons (tUn Lv.rNeg (tC (.int 1))) (tCons (tUn Lv.rNeg (tC (.int 1))) tNil)))) (gName 5) (tFor (iRng3 (tCons (tCB Lv.rLenT (tCons (tVar 1) tNil)) (tCons (tUn Lv.rNeg (tC (.int 1))) (tCons (tUn Lv.rNeg (tC (.int 1))) tNil)))) (gName 6) (tSeq (tAsg (tLst tNil) (gName 7)) (tSeq (tFor (Lv.iZip3 K (tCons (tC (.str (S [97, 98, 99, 100, 101, 102, 103, 104, 105, 106, 107, 108, 109, 110, 111, 112, 113, 114, 115, 116, 117, 118, 119, 120, 121, 122]))) (tCons (tOp (rIxL K) (tOp (rIxL K) (tVar 2) (tC (.int 0))) (tVar 5)) (tCons (tOp (rIxL K) (tOp (rIxL K) (tVar 2) (tC (.int 1))) (tVar 6)) tNil)))) (gTup K 3 (gCons (gName 8) (gCons (gName 9) (gCons (gName 10) gNil)))) (tIfS (tAnd (tTest (tOp Lv.rNotN (tVar 9) (tC .non))) (tTest (tOp Lv.rNotN (tVar 10) (tC .non)))) (tDrop (tBM K "list" rAppend (tVar 7) (tCons (tTup (tCons (tVar 8) (tCons (tOp Lv.rAdd (tVar 9) (tC (.int 1))) (tCons (tOp Lv.rAdd (tVar 10) (tC (.int 1))) tNil)))) tNil))) tNext)) (sDPut (tVar 4) (tTup (tCons (tVar 5) (tCons (tVar 6) tNil))) (tVar 7)))))) (tRet (tVar 4))))))
-- needs: Lv30 M_comm
abbrev nxg (l : List Nat) (p c : Nat) : Nat := (nextP l p c).getD 0 + 1
/-- what goes on from two places, in the heap -/
def GoAt (l m : List Nat) (H : Hp) (kv : List Key × V) (pq : Nat × Nat) : Prop := ∃ (A : Addr) (ts : List Addr), kv = (k2 pq.1 pq.2, .ref A) ∧ H A = some (.lst (ts.map V.ref)) ∧ Paired (fun t c => H t = some (.tup [.str (S [c]), .int (nxg l pq.1 c : Nat), .int (nxg m pq.2 c : Nat)])) ts (bl2 (l.drop pq.1) (m.drop pq.2))
theorem GoAt.same {l m : List Nat} {H H' : Hp} {kv : List Key × V} {pq : Nat × Nat} (h : GoAt l m H kv pq) (s : Same H H') : GoAt l m H' kv pq := by
  obtain ⟨A, ts, e, h1, h2⟩ := h
  exact ⟨A, ts, e, s _ _ h1, paired_imp h2 fun t _ c h => s _ _ h⟩
theorem GoAt.but {l m : List Nat} {H H' : Hp} {F : Addr} {kvs : List (List Key × V)} {kv : List Key × V} {pq : Nat × Nat} (h : GoAt l m H kv pq) (hF : H F = some (.dT kvs)) (b : But F H H') : GoAt l m H' kv pq := by
  obtain ⟨A, ts, e, h1, h2⟩ := h
  exact ⟨A, ts, e, b _ _ (fun z => by subst z; cases hF.symm.trans h1) h1, paired_imp h2 fun t _ c h => b _ _ (fun z => by subst z; cases hF.symm.trans h) h⟩
theorem go_new {l m : List Nat} {H : Hp} {p q : Nat} : ∀ {kvs : List (List Key × V)} {ks : List (Nat × Nat)}, Paired (GoAt l m H) kvs ks → (p, q) ∉ ks → valV kvs (k2 p q) = none
  | _, _, .nil, _ => rfl
  | _, _, .cons h t, n => by
    obtain ⟨A, ts, e, _⟩ := h
    rw [valV_neg (fun z => n ?_)]
    · exact go_new t fun z => n (List.mem_cons_of_mem _ z)
    · rw [e] at z
      have := k2_inj.mp z
      rw [← this.1, ← this.2]
      exact List.mem_cons_self
/-- rows of next places -/
def NrAt (l : List Nat) (H : Hp) (a : Addr) : Prop := ∃ rs : List Addr, H a = some (.lst (rs.map V.ref)) ∧ rs.length = l.length + 1 ∧ ∀ (p : Nat) (r : Addr), rs[p]? = some r → H r = some (.lst (abc.map fun c => oI (nextP l p c)))
theorem NrAt.same {l : List Nat} {H H' : Hp} {a : Addr} (h : NrAt l H a) (s : Same H H') : NrAt l H' a := by
  obtain ⟨rs, h1, h2, h3⟩ := h
  exact ⟨rs, s _ _ h1, h2, fun p r e => s _ _ (h3 p r e)⟩
theorem NrAt.but {l : List Nat} {H H' : Hp} {a F : Addr} {kvs : List (List Key × V)} (h : NrAt l H a) (hF : H F = some (.dT kvs)) (b : But F H H') : NrAt l H' a := by
  obtain ⟨rs, h1, h2, h3⟩ := h
  exact ⟨rs, b _ _ (fun z => by subst z; cases hF.symm.trans h1) h1, h2, fun p r e => b _ _ (fun z => by subst z; cases hF.symm.trans (h3 p r e)) (h3 p r e)⟩
def sp_goings_on_0 (K : PySem.W.Frag) : Sp := fun vs H Q _ => ∃ (l m : List Nat), vs = [.str (S l), .str (S m)] ∧ l.length ≤ 200 ∧ m.length ≤ 200 ∧ ∀ (d : Addr) (kvs : List (List Key × V)) (H' : Hp), H d = none → Same H H' → H' d = some (.dT kvs) → Paired (GoAt l m H') kvs (gkP l.length m.length (l.length + 1) 0) → Q (.ref d) H'
theorem i_goings_on_0 {K : PySem.W.Frag} {l m : List Nat} {H : Hp} {Q : VK} {E : XK} (hl : l.length ≤ 200) (hm : m.length ≤ 200) (q : ∀ (d : Addr) (kvs : List (List Key × V)) (H' : Hp), H d = none → Same H H' → H' d = some (.dT kvs) → Paired (GoAt l m H') kvs (gkP l.length m.length (l.length + 1) 0) → Q (.ref d) H') : sp_goings_on_0 K [.str (S l), .str (S m)] H Q E := ⟨l, m, rfl, hl, hm, q⟩
theorem v_dnewT {σ : L2.St} {H : Hp} {Q : VK} (h : ∀ p H2, H p = none → Same H H2 → H2 p = some (.dT []) → Q (.ref p) H2) : tDNewT σ H Q := fun p n => h p _ n (same_new n) upd_same
theorem bl2_take {l m : List Nat} {p q i c : Nat} (hc : abc[i]? = some c) : (abc.take (i + 1)).filter (fun c => decide (c ∈ l.drop p ∧ c ∈ m.drop q)) = (abc.take i).filter (fun c => decide (c ∈ l.drop p ∧ c ∈ m.drop q)) ++ (if c ∈ l.drop p ∧ c ∈ m.drop q then [c] else []) := by
  rw [List.take_add_one, hc, List.filter_append]
  congr 1
  by_cases h : c ∈ l.drop p ∧ c ∈ m.drop q
  · rw [if_pos h]; simp [h]
  · rw [if_neg h]
    show [c].filter _ = []
    rw [List.filter_cons_of_neg (by simpa using h)]; rfl
theorem pure_goings_on_0 {K : PySem.W.Frag} (vs : List V) (H : Hp) (Q : VK) (E : XK) (h : sp_goings_on_0 K vs H Q E) : t_goings_on_0 K { nx := fun _ H' => Q .non H', rt := Q } (start N_goings_on_0 vs) H := by
  obtain ⟨l, m, rfl, hl, hm, q⟩ := h
  unfold t_goings_on_0
  tm_at "v"
  intro Nx H1 nN s1 hN
  tm_at "v"
  refine foM (fun J H2 => ∃ p2, J = Itt K p2 ∧ Same H1 H2 ∧ H2 p2 = some (.tup [.str (S l), .str (S m)])) (fun R k => ?_) ?_
  · tm_at "v"
    intro p2 H2 n2 s2 h2
    exact ⟨p2, rfl, ⟨_, SqT.of1 h2⟩, k _ _ ⟨p2, rfl, s2, h2⟩⟩
  rintro J H2 ⟨p2, rfl, s2, h2⟩
  have p2N : p2 ≠ Nx := fun z => by subst z; cases (s2 _ _ hN).symm.trans h2
  refine f_u (xs := [.str (S l), .str (S m)]) ⟨fun i σ H' => ∃ (v3 : Option V) (as : List Addr), σ = [some (.str (S l)), some (.str (S m)), some (.ref Nx), v3, none, none, none, none, none, none, none, none] ∧ Same H H' ∧ H' p2 = some (.tup [.str (S l), .str (S m)]) ∧ H' Nx = some (.lst (as.map V.ref)) ∧ Paired (fun a w => NrAt w H' a ∧ a ≠ Nx) as ([l, m].take i), ⟨none, [], rfl, s1.trans s2, h2, s2 _ _ hN, .nil⟩, ?_, ?_, ?_⟩
  · rintro i σ H' _ ⟨v3, as, rfl, _, h, _⟩
    exact SqT.of1 h
  · rintro i x σ H0 H' hi ⟨v3, as, rfl, sm, hp, hNx, pr⟩ ⟨rfl, hx⟩
    obtain ⟨w, hw, rfl⟩ : ∃ w, [l, m][i]? = some w ∧ x = .str (S w) := by
      have : [V.str (S l), V.str (S m)] = [l, m].map fun w => V.str (S w) := rfl
      rw [this, List.getElem?_map] at hx
      cases e : [l, m][i]? with
      | none => rw [e] at hx; cases hx
      | some w => rw [e] at hx; cases hx; exact ⟨w, rfl, rfl⟩
    have wl : w.length ≤ 200 := by
      have := List.mem_of_getElem? hw
      simp only [List.mem_cons, List.not_mem_nil, or_false] at this
      rcases this with rfl | rfl <;> assumption
    tm_at "v"
    refine i_tBMl (SqL.of1 hNx) ?_
    tm_at "v"
    tm_at "lc"
    refine c_rO (fun p => some (.lst (abc.map fun c => oI (nextP w p c)))) (by omega) (fun p H3 hp3 s3 Yk N y n => ?_) fun D ps H3 nD s3 ndp hDn hnew prp hD => ?_
    · tm_at "v"
      refine ⟨rfl, ?_⟩
      tm_at "v"
      tm_at "lc"
      refine c_sP (fun c => some (oI (nextP w p c))) (by decide) (fun c H4 hc s4 Yk' N' y' n' => ?_) fun D4 H4 nD4 s4 hD4 => ?_
      · tm_at "v"
        refine ⟨rfl, ?_⟩
        tm_at "v"
        rw [Int.zero_add]
        refine i_next_at_0 (by omega) ?_
        exact y' _ rfl _ (Same.refl _)
      rw [fm_map] at hD4
      exact y _ rfl D4 H4 s4 nD4 hD4
    rw [fm_map, show (((w.length : Nat) : Int) + 1).toNat = w.length + 1 by omega] at prp
    have hNx3 := s3 _ _ hNx
    have asl := pr.length
    have asl2 : as.length ≤ 2 := by rw [asl, List.length_take]; simp; omega
    tm_at "v"
    refine v_app hNx3 (lt_line (by rw [List.length_map]; omega)) fun H4 b4 h4 => ?_
    have NnD : Nx ≠ D := fun z => by subst z; rw [hNx] at nD; cases nD
    refine ⟨_, as ++ [D], rfl, But.new (sm.trans s3) b4 nN, b4 _ _ p2N (s3 _ _ hp), by rw [h4, List.map_append]; rfl, ?_⟩
    have keep : ∀ a w', NrAt w' H' a ∧ a ≠ Nx → NrAt w' H4 a ∧ a ≠ Nx := fun a w' ⟨⟨rs, e1, e2, e3⟩, en⟩ => by
      refine ⟨⟨rs, b4 _ _ en (s3 _ _ e1), e2, fun p r e => b4 _ _ (fun z => ?_) (s3 _ _ (e3 p r e))⟩, en⟩
      subst z
      have h5 := e3 p r e
      rw [hNx] at h5
      have h6 := Option.some.inj h5
      have h7 := HO.lst.inj h6
      have h8 := congrArg List.length h7
      rw [List.length_map, List.length_map] at h8
      have : abc.length = 26 := by decide
      omega
    rw [List.take_add_one, hw]
    refine paired_snocP (F := fun a w => NrAt w H4 a ∧ a ≠ Nx) ⟨⟨ps, b4 _ _ NnD.symm hD, ?_, fun p r e => ?_⟩, NnD.symm⟩ (paired_imp pr fun a _ w' h => keep a w' h)
    · rw [prp.length]; simp
    · obtain ⟨o, ho, hh⟩ := paired_at1 prp _ _ e
      have hp' : p < w.length + 1 := by have := (List.getElem?_eq_some_iff.mp ho).1; simpa using this
      rw [range_map_get _ hp'] at ho
      cases ho
      exact b4 _ _ (fun z => by subst z; have := hnew _ (List.mem_of_getElem? e); rw [hNx] at this; cases this) hh
  · rintro σ H3 ⟨v3, as, rfl, sm, hp, hNx, pr⟩
    obtain ⟨a0, a1, rfl, ⟨nr0, _⟩, ⟨nr1, _⟩⟩ : ∃ a0 a1, as = [a0, a1] ∧ (NrAt l H3 a0 ∧ a0 ≠ Nx) ∧ (NrAt m H3 a1 ∧ a1 ≠ Nx) := by
      have e : [l, m].take [V.str (S l), V.str (S m)].length = [l, m] := rfl
      rw [e] at pr
      cases pr with
      | cons h t =>
        cases t with
        | cons h' t' =>
          cases t'
          exact ⟨_, _, rfl, h, h'⟩
    tm_at "v"
    refine v_dnewT fun Fo H4 nF s4 hF => ?_
    have nF0 : H Fo = none := sm.free nF
    tm_at "v"
    tm_at "fo"
    refine f_c ⟨fun i σ H' => ∃ (v5 v6 v7 v8 v9 v10 : Option V) (kvs : List (List Key × V)), σ = [some (.str (S l)), some (.str (S m)), some (.ref Nx), v3, some (.ref Fo), v5, v6, v7, v8, v9, v10, none] ∧ Same H H' ∧ H' Nx = some (.lst [.ref a0, .ref a1]) ∧ NrAt l H' a0 ∧ NrAt m H' a1 ∧ H' Fo = some (.dT kvs) ∧ Paired (GoAt l m H') kvs (gkP l.length m.length i 0), ⟨none, none, none, none, none, none, [], rfl, sm.trans s4, s4 _ _ hNx, nr0.same s4, nr1.same s4, hF, .nil⟩, ?_, ?_⟩
    · rintro i x σ H0 H' hi ⟨v5, v6, v7, v8, v9, v10, kvs, rfl, sm, hNx, nr0, nr1, hF, pr⟩ ⟨rfl, rfl⟩
      have hi' : i ≤ l.length := by omega
      rw [show (l.length : Int) + (i : Int) * -1 = ((l.length - i : Nat) : Int) by omega]
      tm_at "v"
      tm_at "fo"
      refine f_c ⟨fun j σ H' => ∃ (v6 v7 v8 v9 v10 : Option V) (kvs : List (List Key × V)), σ = [some (.str (S l)), some (.str (S m)), some (.ref Nx), v3, some (.ref Fo), some (.int ((l.length - i : Nat) : Int)), v6, v7, v8, v9, v10, none] ∧ Same H H' ∧ H' Nx = some (.lst [.ref a0, .ref a1]) ∧ NrAt l H' a0 ∧ NrAt m H' a1 ∧ H' Fo = some (.dT kvs) ∧ Paired (GoAt l m H') kvs (gkP l.length m.length i j), ⟨_, _, _, _, _, kvs, rfl, sm, hNx, nr0, nr1, hF, pr⟩, ?_, ?_⟩
      · rintro j x σ H0 H' hj ⟨v6, v7, v8, v9, v10, kvs, rfl, sm, hNx, nr0, nr1, hF, pr⟩ ⟨rfl, rfl⟩
        have hj' : j ≤ m.length := by omega
        rw [show (m.length : Int) + (j : Int) * -1 = ((m.length - j : Nat) : Int) by omega]
        obtain ⟨p, ep⟩ : ∃ p, l.length - i = p := ⟨_, rfl⟩
        obtain ⟨r, er⟩ : ∃ r, m.length - j = r := ⟨_, rfl⟩
        rw [ep, er]
        tm_at "v"
        intro So H5 nS s5 hS
        have hNx5 := s5 _ _ hNx
        obtain ⟨rs0, f1, f2, f3⟩ := id nr0
        obtain ⟨rs1, g1, g2, g3⟩ := id nr1
        obtain ⟨x0, hx0⟩ : ∃ x0, rs0[p]? = some x0 := ⟨_, List.getElem?_eq_getElem (by omega)⟩
        obtain ⟨y0, hy0⟩ : ∃ y0, rs1[r]? = some y0 := ⟨_, List.getElem?_eq_getElem (by omega)⟩
        have hX := f3 p x0 hx0
        have hY := g3 r y0 hy0
        have f15 := s5 _ _ f1
        have g15 := s5 _ _ g1
        tm_at "v"
        refine foM (fun J H6 => J = It3 K abc x0 y0 (abc.map fun c => oI (nextP l p c)) (abc.map fun c => oI (nextP m r c)) ∧ H6 = H5) (fun R k => ?_) ?_
        · refine i_zip3 ?_
          tm_at "v"
          refine i_ixL (v := .ref x0) (SqL.of1 f15) (atI_nat (by rw [List.getElem?_map, hx0]; rfl)) ?_
          tm_at "v"
          refine i_ixL (v := .ref y0) (SqL.of1 g15) (atI_nat (by rw [List.getElem?_map, hy0]; rfl)) ?_
          tm_at "v"
          exact ⟨abc, x0, y0, _, _, rfl, SqL.of1 (s5 _ _ hX), SqL.of1 (s5 _ _ hY), k _ _ ⟨rfl, rfl⟩⟩
        rintro J H6 ⟨rfl, rfl⟩
        have n26 : abc.length = 26 := by decide
        refine f_3 ⟨fun k σ H6 => ∃ (v8 v9 v10 : Option V) (ts : List Addr), σ = [some (.str (S l)), some (.str (S m)), some (.ref Nx), v3, some (.ref Fo), some (.int (p : Int)), some (.int (r : Int)), some (.ref So), v8, v9, v10, none] ∧ Same H' H6 ∧ H6 So = some (.lst (ts.map V.ref)) ∧ ts.length ≤ k ∧ Paired (fun t c => H6 t = some (.tup [.str (S [c]), .int (nxg l p c : Nat), .int (nxg m r c : Nat)])) ts ((abc.take k).filter fun c => decide (c ∈ l.drop p ∧ c ∈ m.drop r)), ⟨_, _, _, [], rfl, s5, hS, Nat.le_refl _, .nil⟩, ?_, ?_, ?_⟩
        · rintro k σ H6 _ ⟨v8, v9, v10, ts, rfl, s6, _⟩
          exact ⟨SqL.of1 (s6 _ _ hX), SqL.of1 (s6 _ _ hY)⟩
        · rintro k x σ H0 H6 hk ⟨v8, v9, v10, ts, rfl, s6, hS6, htl, prt⟩ ⟨T, zs, rfl, nT, rfl, c, xv, yv, hc, hxv, hyv, rfl⟩
          have hk26 : k < 26 := by simp at hk; omega
          have exv : xv = oI (nextP l p c) := by
            rw [List.getElem?_map, hc] at hxv; exact (Option.some.inj hxv).symm
          have eyv : yv = oI (nextP m r c) := by
            rw [List.getElem?_map, hc] at hyv; exact (Option.some.inj hyv).symm
          subst exv eyv
          have sT := same_new (o := .tup [.str (S [c]), oI (nextP l p c), oI (nextP m r c)]) nT
          generalize hH7 : upd H0 T (.tup [.str (S [c]), oI (nextP l p c), oI (nextP m r c)]) = H7 at sT
          have hT7 : H7 T = some (.tup [.str (S [c]), oI (nextP l p c), oI (nextP m r c)]) := by rw [← hH7]; exact upd_same
          have hS7 := sT _ _ hS6
          have nb := bl2_take (l := l) (m := m) (p := p) (q := r) hc
          refine i_gTup (SqT.of1 hT7) rfl ?_
          tm_at "v"
          cases en : nextP l p c with
          | none =>
            have nm : ¬ c ∈ l.drop p := fun z => by have := nextP_mem.mpr z; rw [en] at this; cases this
            rw [if_neg (fun z => nm z.1), List.append_nil] at nb
            rw [show oI none = V.non from rfl]
            tm_at "v"
            exact ⟨_, _, _, ts, rfl, s6.trans sT, hS7, by omega, by rw [nb]; exact paired_imp prt fun t _ c h => sT _ _ h⟩
          | some k1 =>
            have hm1 : c ∈ l.drop p := nextP_mem.mp (by rw [en]; rfl)
            rw [show oI (some k1) = V.int (k1 : Int) from rfl]
            cases en2 : nextP m r c with
            | none =>
              have nm : ¬ c ∈ m.drop r := fun z => by have := nextP_mem.mpr z; rw [en2] at this; cases this
              rw [if_neg (fun z => nm z.2), List.append_nil] at nb
              rw [show oI none = V.non from rfl]
              tm_at "v"
              exact ⟨_, _, _, ts, rfl, s6.trans sT, hS7, by omega, by rw [nb]; exact paired_imp prt fun t _ c h => sT _ _ h⟩
            | some k2' =>
              have hm2 : c ∈ m.drop r := nextP_mem.mp (by rw [en2]; rfl)
              rw [if_pos ⟨hm1, hm2⟩] at nb
              rw [show oI (some k2') = V.int (k2' : Int) from rfl]
              tm_at "v"
              refine i_tBMl (SqL.of1 hS7) ?_
              tm_at "v"
              intro T8 H8 n8 s8 h8
              tm_at "v"
              have hS8 := s8 _ _ hS7
              refine v_app hS8 (lt_line (by rw [List.length_map]; omega)) fun H9 b9 h9 => ?_
              have T8S : T8 ≠ So := fun z => by subst z; rw [hS7] at n8; cases n8
              refine ⟨_, _, _, ts ++ [T8], rfl, But.new (s6.trans (sT.trans s8)) b9 nS, by rw [h9, List.map_append]; rfl, by simp; omega, ?_⟩
              rw [nb]
              refine paired_snocP (F := fun t c => H9 t = some (.tup [.str (S [c]), .int (nxg l p c : Nat), .int (nxg m r c : Nat)])) ?_ (paired_imp prt fun t _ c h => b9 _ _ (fun z => by subst z; cases hS6.symm.trans h) (s8 _ _ (sT _ _ h)))
              rw [b9 _ _ T8S h8]
              unfold nxg
              rw [en, en2]
              rfl
        · rintro σ H6 ⟨v8, v9, v10, ts, rfl, s6, hS6, htl, prt⟩
          rw [show min (min abc.length (abc.map fun c => oI (nextP l p c)).length) (abc.map fun c => oI (nextP m r c)).length = abc.length by simp, List.take_length] at prt
          have hF6 := s6 _ _ hF
          have klen := pr.length
          rw [gkP_len] at klen
          have kl2 : i * (m.length + 1) + j ≤ 201 * 201 := by
            have : i * (m.length + 1) ≤ 200 * 201 := Nat.mul_le_mul (by omega) (by omega)
            omega
          tm_at "v"
          intro T7 H7 n7 s7 h7
          have hF7 := s7 _ _ hF6
          refine v_dPutT (k := k2 p r) hF7 (by rw [h7]; rfl) (lt_line (by omega)) fun H8 b8 h8 => ?_
          rw [putK_new _ (go_new pr (by rw [← ep, ← er]; exact gkP_new hi' hj'))] at h8
          have S7 : Same H' H7 := s6.trans s7
          refine ⟨_, _, _, _, _, _, rfl, But.new (sm.trans S7) b8 nF0, b8 _ _ (fun z => by subst z; cases hF.symm.trans hNx) (S7 _ _ hNx), (nr0.same S7).but hF7 b8, (nr1.same S7).but hF7 b8, h8, ?_⟩
          rw [gkP_snoc, ep, er]
          refine paired_snocP (F := GoAt l m H8) (y := (p, r)) ⟨So, ts, rfl, ?_, ?_⟩ (paired_imp pr fun kv _ pq h => (h.same S7).but hF7 b8)
          · exact b8 _ _ (fun z => by subst z; cases hF6.symm.trans hS6) (s7 _ _ hS6)
          · exact paired_imp prt fun t _ c h => b8 _ _ (fun z => by subst z; cases hF6.symm.trans h) (s7 _ _ h)
      · rintro σ H5 ⟨v6, v7, v8, v9, v10, kvs, rfl, sm, hNx, nr0, nr1, hF, pr⟩
        rw [show (((m.length : Nat) : Int) - -1).toNat = m.length + 1 by omega, ← gkP_next] at pr
        exact ⟨_, _, _, _, _, _, kvs, rfl, sm, hNx, nr0, nr1, hF, pr⟩
    · rintro σ H5 ⟨v5, v6, v7, v8, v9, v10, kvs, rfl, sm, hNx, nr0, nr1, hF, pr⟩
      rw [show (((l.length : Nat) : Int) - -1).toNat = l.length + 1 by omega] at pr
      tm_at "v"
      exact q Fo kvs _ nF0 sm hF pr
/-! many_common_0(one, other): slots 0 one, 1 other, 2 found, 3 ends, 4 some, 5 letter, 6 first, 7 second -/
abbrev N_many_common_0 : List Str := ["one", "other", "found", "ends", "some", "letter", "first", "second"]
def t_many_common_0 (K : PySem.W.Frag) : TS :=
  (tSeq (tAsg tDNewT (gName 2)) (tSeq (tFor (Lv.iItemsT (Lv.tLk (tCall (sp_goings_on_0 K) [] E0 (tCons (tVar 0) (tCons (tVar 1) tNil))))) (gTup K 2 (gCons (gName 3) (gCons (gName 4) gNil))) (sDPut (tVar 2) (tVar 3) (tOp Lv.rAdd (tC (.int 1)) (tCB (rSum K) (tCons (tLc (iList K (tVar 4)) (gTup K 3 (gCons (gName 5) (gCons (gName 6) (gCons (gName 7) gNil)))) tYes (tDGet (tVar 2) (tTup (tCons (tVar 6) (tCons (tVar 7) tNil)))) [5, 6, 7]) tNil))))) (tRet (tDGet (tVar 2) (tTup (tCons (tC (.int 0)) (tCons (tC (.int 0)) tNil)))))))
-- needs: Lv30 M_comm
def sp_many_common_0 (K : PySem.W.Frag) : Sp := fun vs H Q _ => ∃ (l m : List Nat), vs = [.str (S l), .str (S m)] ∧ l.length ≤ 200 ∧ m.length ≤ 200 ∧ ∀ H', Same H H' → Q (.int (cc l m : Nat)) H'
theorem i_many_common_0 {K : PySem.W.Frag} {l m : List Nat} {H : Hp} {Q : VK} {E : XK} (hl : l.length ≤ 200) (hm : m.length ≤ 200) (q : ∀ H', Same H H' → Q (.int (cc l m : Nat)) H') : sp_many_common_0 K [.str (S l), .str (S m)] H Q E := ⟨l, m, rfl, hl, hm, q⟩
theorem val_keys {g : Nat × Nat → V} {p q : Nat} : ∀ {ks : List (Nat × Nat)}, (p, q) ∈ ks → valV (ks.map fun pq => (k2 pq.1 pq.2, g pq)) (k2 p q) = some (g (p, q))
  | (a, b) :: ks, h => by
    rw [List.map_cons]
    by_cases e : (a, b) = (p, q)
    · cases e
      exact valV_pos rfl
    · rw [valV_neg (fun z => e (by obtain ⟨h1, h2⟩ := k2_inj.mp z; dsimp only at h1 h2; rw [h1, h2]))]
      rcases List.mem_cons.mp h with y | y
      · exact absurd y.symm e
      · exact val_keys y
theorem val_nokey {g : Nat × Nat → V} {p q : Nat} : ∀ {ks : List (Nat × Nat)}, (p, q) ∉ ks → valV (ks.map fun pq => (k2 pq.1 pq.2, g pq)) (k2 p q) = none
  | [], _ => rfl
  | (a, b) :: ks, h => by
    rw [List.map_cons, valV_neg (fun z => h (by obtain ⟨h1, h2⟩ := k2_inj.mp z; dsimp only at h1 h2; rw [← h1, ← h2]; exact List.mem_cons_self))]
    exact val_nokey fun y => h (List.mem_cons_of_mem _ y)
theorem paired_zipP {α β : Type} {F : α → β → Prop} : ∀ {xs : List α} {ys : List β}, Paired F xs ys → ∀ p ∈ xs.zip ys, F p.1 p.2
  | _, _, .nil, p, h => by cases h
  | _, _, .cons a b, p, h => by
    rcases List.mem_cons.mp h with e | e
    · rw [e]; exact a
    · exact paired_zipP b p e
theorem GoAt.frz {l m : List Nat} {H : Hp} {d : Addr} {o : Obj} {kvs : List (List Key × V)} {kv : List Key × V} {pq : Nat × Nat} (h : GoAt l m H kv pq) (hd : H d = some (.dT kvs)) : GoAt l m (upd H d (.frz o (.dT kvs))) kv pq := by
  obtain ⟨A, ts, e, h1, h2⟩ := h
  exact ⟨A, ts, e, by rw [upd_ne (fun z => by subst z; cases hd.symm.trans h1)]; exact h1, paired_imp h2 fun t _ c h => by rw [upd_ne (fun z => by subst z; cases hd.symm.trans h)]; exact h⟩
theorem pure_many_common_0 {K : PySem.W.Frag} (vs : List V) (H : Hp) (Q : VK) (E : XK) (h : sp_many_common_0 K vs H Q E) : t_many_common_0 K { nx := fun _ H' => Q .non H', rt := Q } (start N_many_common_0 vs) H := by
  obtain ⟨l, m, rfl, hl, hm, q⟩ := h
  unfold t_many_common_0
  tm_at "v"
  refine v_dnewT fun Fo H1 nF s1 hF => ?_
  tm_at "v"
  refine foM (fun J H2 => ∃ d o kvs, J = Itit d o kvs ∧ H2 d = some (.frz o (.dT kvs)) ∧ Same H1 H2 ∧ Paired (GoAt l m H2) kvs (gkP l.length m.length (l.length + 1) 0)) (fun R k => ?_) ?_
  · refine i_itemsT (i_lk ?_)
    tm_at "v"
    refine i_goings_on_0 hl hm fun d kvs H2 nd s2 hd pr => ?_
    exact ⟨d, _, rfl, hd, trivial, fun o => ⟨d, o, kvs, rfl, upd_same, k _ _ ⟨d, o, kvs, rfl, upd_same, But.new s2 But.upd nd, paired_imp pr fun kv _ pq h => h.frz hd⟩⟩⟩
  rintro J H2 ⟨d, o, kvs, rfl, hd, s2, pr⟩
  have kl := pr.length
  rw [gkP_len] at kl
  have kl' : kvs.length = (l.length + 1) * (m.length + 1) := by omega
  have Fd : Fo ≠ d := fun z => by subst z; cases (s2 _ _ hF).symm.trans hd
  refine forG_ok walk_itemsT ⟨fun i σ H' => ∃ (v3 v4 : Option V) (i' j' : Nat), σ = [some (.str (S l)), some (.str (S m)), some (.ref Fo), v3, v4, none, none, none] ∧ i = i' * (m.length + 1) + j' ∧ j' ≤ m.length ∧ i' ≤ l.length + 1 ∧ Bu [Fo] H2 H' ∧ H' Fo = some (.dT ((gkP l.length m.length i' j').map fun pq => (k2 pq.1 pq.2, V.int (cc (l.drop pq.1) (m.drop pq.2) : Nat)))), ⟨none, none, 0, 0, rfl, by simp, Nat.zero_le _, Nat.zero_le _, Bu.refl _ _, s2 _ _ hF⟩, ?_, ?_, ?_⟩
  · rintro i σ H' _ ⟨v3, v4, i', j', rfl, _, _, _, b, _⟩
    exact b _ _ (by simpa using Fd.symm) hd
  · rintro i x σ H0 H' hi ⟨v3, v4, i', j', rfl, ei, hj', hi', b, hFo⟩ ⟨T, k, v, qa, hkv, rfl, hqa, nT, rfl⟩
    have hil : i' ≤ l.length := by
      rcases Nat.lt_or_ge i' (l.length + 1) with z | z
      · omega
      · exfalso
        have : (l.length + 1) * (m.length + 1) ≤ i' * (m.length + 1) := Nat.mul_le_mul_right _ z
        omega
    obtain ⟨pq, hpq, go⟩ := paired_at1 pr _ _ hkv
    rw [ei, gk_get hil hj'] at hpq
    cases hpq
    obtain ⟨A, ts, ekv, hA, prt⟩ := go
    cases ekv
    dsimp only at hA prt hqa
    obtain ⟨p, ep⟩ : ∃ p, l.length - i' = p := ⟨_, rfl⟩
    obtain ⟨r, er⟩ : ∃ r, m.length - j' = r := ⟨_, rfl⟩
    rw [ep, er] at prt hqa
    have sT := same_new (o := .tup [.ref qa, .ref A]) nT
    generalize hH3 : upd H0 T (.tup [.ref qa, .ref A]) = H3 at sT
    have hT3 : H3 T = some (.tup [.ref qa, .ref A]) := by rw [← hH3]; exact upd_same
    have stay : ∀ a o, a ≠ Fo → H2 a = some o → H3 a = some o := fun a o na h => sT _ _ (b _ _ (by simpa using na) h)
    have hA3 := stay _ _ (fun z => by subst z; cases (s2 _ _ hF).symm.trans hA) hA
    have prt3 : Paired (fun t c => H3 t = some (.tup [.str (S [c]), .int (nxg l p c : Nat), .int (nxg m r c : Nat)])) ts (bl2 (l.drop p) (m.drop r)) := paired_imp prt fun t _ c h => stay _ _ (fun z => by subst z; cases (s2 _ _ hF).symm.trans h) h
    have hFo3 := sT _ _ hFo
    have tl := prt3.length
    have b26 := bl2_len (l.drop p) (m.drop r)
    refine i_gTup (SqT.of1 hT3) rfl ?_
    tm_at "v"
    tm_at "lc"
    refine c_lP (ts.zip (bl2 (l.drop p) (m.drop r))) (fun t => V.ref t.1) (fun t => some (iv (cc (aft t.2 (l.drop p)) (aft t.2 (m.drop r))))) (SqL.of1 (by rw [hA3, zip_refsG _ _ tl])) (by simp; omega) (fun t H4 ht s4 Yk N y n => ?_) fun D H4 nD s4 hD => ?_
    · have hc : t.2 ∈ bl2 (l.drop p) (m.drop r) := (List.of_mem_zip ht).2
      obtain ⟨k1, k1', e1, e1'⟩ := bl2_go hc
      refine i_gTup (SqT.of1 (s4 _ _ (paired_zipP prt3 t ht))) rfl ?_
      tm_at "v"
      refine ⟨rfl, ?_⟩
      tm_at "v"
      intro T5 H5 n5 s5 h5
      have hk1 := nextP_lt e1
      have hk1' := nextP_lt e1'
      refine x_dGetT (k := k2 (k1 + 1) (k1' + 1)) (v := .int (cc (l.drop (k1 + 1)) (m.drop (k1' + 1)) : Nat)) (Rd.of (s5 _ _ (s4 _ _ hFo3))) (by rw [h5]; unfold nxg; rw [e1, e1']; rfl) ?_ ?_
      · exact val_keys (g := fun pq => V.int (cc (l.drop pq.1) (m.drop pq.2) : Nat)) (gkP_mem.mpr (.inl ⟨l.length - (k1 + 1), m.length - (k1' + 1), by omega, by omega, by omega, by omega⟩))
      · exact y _ (by rw [cc_go e1 e1']; rfl) _ s5
    rw [fm_zipG ts (bl2 (l.drop p) (m.drop r)) (fun c => some (iv (cc (aft c (l.drop p)) (aft c (m.drop r))))) tl, fm_iv] at hD
    tm_at "v"
    refine i_sumN (SqL.of1 hD) ?_
    tm_at "v"
    have ecc := cc_eq (l.drop p) (m.drop r)
    rw [show (1 : Int) + ((((bl2 (l.drop p) (m.drop r)).map fun c => cc (aft c (l.drop p)) (aft c (m.drop r))).sum : Nat) : Int) = ((cc (l.drop p) (m.drop r) : Nat) : Int) by omega]
    have hqF : qa ≠ Fo := fun z => by subst z; rw [hFo] at hqa; cases hqa
    have hFo4 := s4 _ _ hFo3
    have bnd : i' * (m.length + 1) ≤ 200 * 201 := Nat.mul_le_mul (by omega) (by omega)
    refine v_dPutT (k := k2 p r) hFo4 (s4 _ _ (sT _ _ hqa)) (lt_line (by rw [List.length_map, gkP_len]; omega)) fun H5 b5 h5 => ?_
    have hnew := gkP_new (a := l.length) (b := m.length) hil hj'
    rw [ep, er] at hnew
    rw [putK_new _ (val_nokey hnew)] at h5
    have B5 : Bu [Fo] H2 H5 := b.trans ((Bu.same (sT.trans s4)).trans (Bu.but (by simp) b5))
    have eg : (gkP l.length m.length i' (j' + 1)).map (fun pq => (k2 pq.1 pq.2, V.int (cc (l.drop pq.1) (m.drop pq.2) : Nat))) = (gkP l.length m.length i' j').map (fun pq => (k2 pq.1 pq.2, V.int (cc (l.drop pq.1) (m.drop pq.2) : Nat))) ++ [(k2 p r, V.int (cc (l.drop p) (m.drop r) : Nat))] := by rw [gkP_snoc, List.map_append, ep, er]; rfl
    rcases Nat.lt_or_ge j' m.length with z | z
    · exact ⟨_, _, i', j' + 1, rfl, by omega, by omega, hi', B5, by rw [h5, eg]⟩
    · have : j' = m.length := by omega
      subst this
      exact ⟨_, _, i' + 1, 0, rfl, by rw [ei, Nat.succ_mul]; omega, Nat.zero_le _, by omega, B5, by rw [h5, gkP_next, eg]⟩
  · rintro σ H' ⟨v3, v4, i', j', rfl, ei, hj', hi', b, hFo⟩
    have : i' = l.length + 1 ∧ j' = 0 := by
      rw [kl'] at ei
      rcases Nat.lt_or_ge i' (l.length + 1) with z | z
      · exfalso
        have : (i' + 1) * (m.length + 1) ≤ (l.length + 1) * (m.length + 1) := Nat.mul_le_mul_right _ z
        rw [Nat.succ_mul] at this
        omega
      · have : i' = l.length + 1 := by omega
        subst this
        exact ⟨rfl, by omega⟩
    obtain ⟨rfl, rfl⟩ := this
    tm_at "v"
    intro T5 H5 n5 s5 h5
    refine x_dGetT (k := k2 0 0) (v := .int (cc l m : Nat)) (Rd.of (s5 _ _ hFo)) (by rw [h5]; rfl) ?_ ?_
    · exact val_keys (g := fun pq => V.int (cc (l.drop pq.1) (m.drop pq.2) : Nat)) (gkP_mem.mpr (.inl ⟨l.length, m.length, by omega, by omega, by omega, by omega⟩))
    · exact q _ (Same.trans (Bu.to ((Bu.same (s1.trans s2)).trans b) (by simpa using nF)) s5)
/-! longest_from_0(one, other): slots 0 one, 1 other, 2 found, 3 ways, 4 ends, 5 some, 6 length, 7 good, 8 many, 9 letter, 10 first, 11 second, 12 here, 13 count -/
abbrev N_longest_from_0 : List Str := ["one", "other", "found", "ways", "ends", "some", "length", "good", "many", "letter", "first", "second", "here", "count"]
def t_longest_from_0 (K : PySem.W.Frag) : TS :=
  (tSeq (tAsg tDNewT (gName 2)) (tSeq (tAsg (tCall (sp_goings_on_0 K) [] E0 (tCons (tVar 0) (tCons (tVar 1) tNil))) (gName 3)) (tSeq (tFor (Lv.iItemsT (Lv.tLk (tVar 3))) (gTup K 2 (gCons (gName 4) (gCons (gName 5) gNil))) (tSeq (tAsg (tCB (rMax K) (tCons (tOp L2.rCat (tLst (tCons (tC (.int 0)) tNil)) (tLc (iList K (tVar 5)) (gTup K 3 (gCons (gName 9) (gCons (gName 10) (gCons (gName 11) gNil)))) tYes (tOp Lv.rAdd (tC (.int 1)) (tOp (rIxT K) (tDGet (tVar 2) (tTup (tCons (tVar 10) (tCons (tVar 11) tNil)))) (tC (.int 0)))) [9, 10, 11])) tNil)) (gName 6)) (tSeq (tAsg (tLc (iList K (tVar 5)) (gTup K 3 (gCons (gName 9) (gCons (gName 10) (gCons (gName 11) gNil)))) tYes (tDGet (tVar 2) (tTup (tCons (tVar 10) (tCons (tVar 11) tNil)))) [9, 10, 11]) (gName 7)) (tSeq (tAsg (tCB (rSum K) (tCons (tLc (iList K (tVar 7)) (gTup K 2 (gCons (gName 12) (gCons (gName 13) gNil))) (tTest (tOp Lv.rEqI (tOp Lv.rAdd (tVar 12) (tC (.int 1))) (tVar 6))) (tVar 13) [12, 13]) tNil)) (gName 8)) (sDPut (tVar 2) (tVar 4) (tTup (tCons (tVar 6) (tCons (tCB Lv.rMax2 (tCons (tVar 8) (tCons (tCB Lv.rIntB (tCons (tOp Lv.rEqI (tVar 6) (tC (.int 0))) tNil)) tNil))) tNil)))))))) (tRet (tTup (tCons (tVar 2) (tCons (tVar 3) tNil)))))))
-- needs: Lv30 M_long Q_many_common_0
/-- a place of the table of the longest ones -/
def LoAt (l m : List Nat) (H : Hp) (kv : List Key × V) (pq : Nat × Nat) : Prop := ∃ t : Addr, kv = (k2 pq.1 pq.2, .ref t) ∧ H t = some (.tup [.int (cl2 (l.drop pq.1) (m.drop pq.2) : Nat), .int (cn2 (l.drop pq.1) (m.drop pq.2) : Nat)])
theorem LoAt.bu {l m : List Nat} {H H' : Hp} {F : Addr} {kvs : List (List Key × V)} {kv : List Key × V} {pq : Nat × Nat} (h : LoAt l m H kv pq) (hF : H F = some (.dT kvs)) (b : Bu [F] H H') : LoAt l m H' kv pq := by
  obtain ⟨t, e, h1⟩ := h
  exact ⟨t, e, b _ _ (fun z => by rw [List.mem_singleton] at z; subst z; cases hF.symm.trans h1) h1⟩
theorem lo_get {l m : List Nat} {H : Hp} {p q : Nat} : ∀ {kvs : List (List Key × V)} {ks : List (Nat × Nat)}, Paired (LoAt l m H) kvs ks → (p, q) ∈ ks → ∃ t, valV kvs (k2 p q) = some (.ref t) ∧ H t = some (.tup [.int (cl2 (l.drop p) (m.drop q) : Nat), .int (cn2 (l.drop p) (m.drop q) : Nat)])
  | _, _, .nil, h => by cases h
  | kv :: kvs, (a, b) :: ks, .cons h1 h2, h => by
    obtain ⟨t, e, ht⟩ := h1
    subst e
    by_cases z : (a, b) = (p, q)
    · cases z
      exact ⟨t, valV_pos rfl, ht⟩
    · rw [valV_neg (fun y => z (by obtain ⟨h1, h2⟩ := k2_inj.mp y; dsimp only at h1 h2; rw [h1, h2]))]
      rcases List.mem_cons.mp h with y | y
      · exact absurd y.symm z
      · exact lo_get h2 y
theorem lo_none {l m : List Nat} {H : Hp} {p q : Nat} : ∀ {kvs : List (List Key × V)} {ks : List (Nat × Nat)}, Paired (LoAt l m H) kvs ks → (p, q) ∉ ks → valV kvs (k2 p q) = none
  | _, _, .nil, h => rfl
  | kv :: kvs, (a, b) :: ks, .cons h1 h2, h => by
    obtain ⟨t, e, ht⟩ := h1
    subst e
    rw [valV_neg (fun z => h (by obtain ⟨h1, h2⟩ := k2_inj.mp z; dsimp only at h1 h2; rw [← h1, ← h2]; exact List.mem_cons_self))]
    exact lo_none h2 fun y => h (List.mem_cons_of_mem _ y)
theorem lo_good {H : Hp} {l m : List Nat} (f : Nat → Option V) : ∀ (cs : List Nat), (∀ c ∈ cs, ∃ t, f c = some (.ref t) ∧ H t = some (.tup [.int (cl2 (aft c l) (aft c m) : Nat), .int (cn2 (aft c l) (aft c m) : Nat)])) → ∃ gs : List Addr, cs.filterMap f = gs.map V.ref ∧ Paired (fun g c => H g = some (.tup [.int (cl2 (aft c l) (aft c m) : Nat), .int (cn2 (aft c l) (aft c m) : Nat)])) gs cs
  | [], _ => ⟨[], rfl, .nil⟩
  | c :: cs, h => by
    obtain ⟨t, e, ht⟩ := h c List.mem_cons_self
    obtain ⟨gs, e2, pr⟩ := lo_good f cs fun d hd => h d (List.mem_cons_of_mem _ hd)
    exact ⟨t :: gs, by rw [List.filterMap_cons_some e, e2]; rfl, .cons ht pr⟩
theorem mx_is {M : Int} {ns : List Nat} (h1 : M ∈ (0 : Int) :: ns.map fun n : Nat => (n : Int)) (h2 : ∀ y ∈ (0 : Int) :: ns.map fun n : Nat => (n : Int), y ≤ M) : M = (mx ns : Nat) := by
  have h0 := h2 0 List.mem_cons_self
  apply Int.le_antisymm
  · rcases List.mem_cons.mp h1 with z | z
    · omega
    · obtain ⟨n, hn, rfl⟩ := List.mem_map.mp z
      have := mx_ge hn
      omega
  · have : mx ns ≤ M.toNat := mx_le.mpr fun x hx => by
      have := h2 x (List.mem_cons_of_mem _ (List.mem_map.mpr ⟨x, hx, rfl⟩))
      omega
    omega
def sp_longest_from_0 (K : PySem.W.Frag) : Sp := fun vs H Q _ => ∃ (l m : List Nat), vs = [.str (S l), .str (S m)] ∧ l.length ≤ 200 ∧ m.length ≤ 200 ∧ ∀ (P Fo W : Addr) (o : Obj) (fks wks : List (List Key × V)) (H' : Hp), Same H H' → H' P = some (.tup [.ref Fo, .ref W]) → H' Fo = some (.dT fks) → H' W = some (.frz o (.dT wks)) → Paired (LoAt l m H') fks (gkP l.length m.length (l.length + 1) 0) → Paired (GoAt l m H') wks (gkP l.length m.length (l.length + 1) 0) → Q (.ref P) H'
theorem i_longest_from_0 {K : PySem.W.Frag} {l m : List Nat} {H : Hp} {Q : VK} {E : XK} (hl : l.length ≤ 200) (hm : m.length ≤ 200) (q : ∀ (P Fo W : Addr) (o : Obj) (fks wks : List (List Key × V)) (H' : Hp), Same H H' → H' P = some (.tup [.ref Fo, .ref W]) → H' Fo = some (.dT fks) → H' W = some (.frz o (.dT wks)) → Paired (LoAt l m H') fks (gkP l.length m.length (l.length + 1) 0) → Paired (GoAt l m H') wks (gkP l.length m.length (l.length + 1) 0) → Q (.ref P) H') : sp_longest_from_0 K [.str (S l), .str (S m)] H Q E := ⟨l, m, rfl, hl, hm, q⟩
theorem pure_longest_from_0 {K : PySem.W.Frag} (vs : List V) (H : Hp) (Q : VK) (E : XK) (h : sp_longest_from_0 K vs H Q E) : t_longest_from_0 K { nx := fun _ H' => Q .non H', rt := Q } (start N_longest_from_0 vs) H := by
  obtain ⟨l, m, rfl, hl, hm, q⟩ := h
  unfold t_longest_from_0
  tm_at "v"
  refine v_dnewT fun Fo H1 nF s1 hF => ?_
  tm_at "v"
  refine i_goings_on_0 hl hm fun d kvs H1' nd s1' hd0 pr0 => ?_
  have hF1 := s1' _ _ hF
  have s11 := s1.trans s1'
  have Fd : Fo ≠ d := ne_of_none hF nd
  have ndH := s1.free nd
  tm_at "v"
  refine foM (fun J H2 => ∃ o, J = Itit d o kvs ∧ H2 d = some (.frz o (.dT kvs)) ∧ Same H H2 ∧ H2 Fo = some (.dT []) ∧ Paired (GoAt l m H2) kvs (gkP l.length m.length (l.length + 1) 0)) (fun R k => ?_) ?_
  · refine i_itemsT (i_lk ?_)
    tm_at "v"
    exact ⟨d, _, rfl, hd0, trivial, fun o => ⟨d, o, kvs, rfl, upd_same, k _ _ ⟨o, rfl, upd_same, But.new s11 But.upd ndH, by rw [upd_ne Fd]; exact hF1, paired_imp pr0 fun kv _ pq h => h.frz hd0⟩⟩⟩
  rintro J H2 ⟨o, rfl, hd, s2, hF2, pr⟩
  have kl := pr.length
  rw [gkP_len] at kl
  have kl' : kvs.length = (l.length + 1) * (m.length + 1) := by omega
  refine forG_ok walk_itemsT ⟨fun i σ H' => ∃ (v4 v5 v6 v7 v8 : Option V) (i' j' : Nat) (fks : List (List Key × V)), σ = [some (.str (S l)), some (.str (S m)), some (.ref Fo), some (.ref d), v4, v5, v6, v7, v8, none, none, none, none, none] ∧ i = i' * (m.length + 1) + j' ∧ j' ≤ m.length ∧ i' ≤ l.length + 1 ∧ Bu [Fo] H2 H' ∧ H' Fo = some (.dT fks) ∧ Paired (LoAt l m H') fks (gkP l.length m.length i' j'), ⟨none, none, none, none, none, 0, 0, [], rfl, by simp, Nat.zero_le _, Nat.zero_le _, Bu.refl _ _, hF2, .nil⟩, ?_, ?_, ?_⟩
  · rintro i σ H' _ ⟨v4, v5, v6, v7, v8, i', j', fks, rfl, _, _, _, b, _⟩
    exact b _ _ (by simpa using Fd.symm) hd
  · rintro i x σ H0 H' hi ⟨v4, v5, v6, v7, v8, i', j', fks, rfl, ei, hj', hi', b, hFo, lo⟩ ⟨T, k, v, qa, hkv, rfl, hqa, nT, rfl⟩
    have hil : i' ≤ l.length := by
      rcases Nat.lt_or_ge i' (l.length + 1) with z | z
      · omega
      · exfalso
        have : (l.length + 1) * (m.length + 1) ≤ i' * (m.length + 1) := Nat.mul_le_mul_right _ z
        omega
    obtain ⟨pq, hpq, go⟩ := paired_at1 pr _ _ hkv
    rw [ei, gk_get hil hj'] at hpq
    cases hpq
    obtain ⟨A, ts, ekv, hA, prt⟩ := go
    cases ekv
    dsimp only at hA prt hqa
    obtain ⟨p, ep⟩ : ∃ p, l.length - i' = p := ⟨_, rfl⟩
    obtain ⟨r, er⟩ : ∃ r, m.length - j' = r := ⟨_, rfl⟩
    rw [ep, er] at prt hqa
    have sT := same_new (o := .tup [.ref qa, .ref A]) nT
    generalize hH3 : upd H0 T (.tup [.ref qa, .ref A]) = H3 at sT
    have hT3 : H3 T = some (.tup [.ref qa, .ref A]) := by rw [← hH3]; exact upd_same
    have stay : ∀ a o, a ≠ Fo → H2 a = some o → H3 a = some o := fun a o na h => sT _ _ (b _ _ (by simpa using na) h)
    have hA3 := stay _ _ (fun z => by subst z; cases hF2.symm.trans hA) hA
    have prt3 : Paired (fun t c => H3 t = some (.tup [.str (S [c]), .int (nxg l p c : Nat), .int (nxg m r c : Nat)])) ts (bl2 (l.drop p) (m.drop r)) := paired_imp prt fun t _ c h => stay _ _ (fun z => by subst z; cases hF2.symm.trans h) h
    have hFo3 := sT _ _ hFo
    have lo3 : Paired (LoAt l m H3) fks (gkP l.length m.length i' j') := paired_imp lo fun kv _ pq h => h.bu hFo (Bu.same sT)
    have tl := prt3.length
    have b26 := bl2_len (l.drop p) (m.drop r)
    have look : ∀ c ∈ bl2 (l.drop p) (m.drop r), ∃ t, valV fks (k2 (nxg l p c) (nxg m r c)) = some (.ref t) ∧ H3 t = some (.tup [.int (cl2 (aft c (l.drop p)) (aft c (m.drop r)) : Nat), .int (cn2 (aft c (l.drop p)) (aft c (m.drop r)) : Nat)]) := fun c hc => by
      obtain ⟨k1, k1', e1, e1'⟩ := bl2_go hc
      have hk1 := nextP_lt e1
      have hk1' := nextP_lt e1'
      obtain ⟨t, h1, h2⟩ := lo_get (p := k1 + 1) (q := k1' + 1) lo3 (gkP_mem.mpr (.inl ⟨l.length - (k1 + 1), m.length - (k1' + 1), by omega, by omega, by omega, by omega⟩))
      refine ⟨t, by unfold nxg; rw [e1, e1']; exact h1, ?_⟩
      rw [aft_next rfl e1, aft_next rfl e1']
      exact h2
    refine i_gTup (SqT.of1 hT3) rfl ?_
    tm_at "v"
    intro Z H4 nZ s4 hZ
    have hA4 := s4 _ _ hA3
    tm_at "v"
    tm_at "lc"
    refine c_lP (ts.zip (bl2 (l.drop p) (m.drop r))) (fun t => V.ref t.1) (fun t => some (iv (1 + cl2 (aft t.2 (l.drop p)) (aft t.2 (m.drop r))))) (SqL.of1 (by rw [s4 _ _ hA3, zip_refsG _ _ tl])) (by simp; omega) (fun t H5 ht s5 Yk N y n => ?_) fun D H5 nD s5 hD => ?_
    · have hc : t.2 ∈ bl2 (l.drop p) (m.drop r) := (List.of_mem_zip ht).2
      obtain ⟨g, g1, g2⟩ := look t.2 hc
      refine i_gTup (SqT.of1 (s5 _ _ (s4 _ _ (paired_zipP prt3 t ht)))) rfl ?_
      tm_at "v"
      refine ⟨rfl, ?_⟩
      tm_at "v"
      intro T6 H6 n6 s6 h6
      refine x_dGetT (k := k2 (nxg l p t.2) (nxg m r t.2)) (v := .ref g) (Rd.of (s6 _ _ (s5 _ _ (s4 _ _ hFo3)))) (by rw [h6]; rfl) g1 ?_
      tm_at "v"
      refine i_ixT (SqT.of1 (s6 _ _ (s5 _ _ (s4 _ _ g2)))) rfl ?_
      tm_at "v"
      exact y _ (by rw [show (1 : Int) + ((cl2 (aft t.2 (l.drop p)) (aft t.2 (m.drop r)) : Nat) : Int) = ((1 + cl2 (aft t.2 (l.drop p)) (aft t.2 (m.drop r)) : Nat) : Int) by omega]; rfl) _ s6
    rw [fm_zipG ts (bl2 (l.drop p) (m.drop r)) (fun c => some (iv (1 + cl2 (aft c (l.drop p)) (aft c (m.drop r))))) tl, fm_iv] at hD
    tm_at "v"
    refine v_cat (s5 _ _ hZ) hD (le_line (by simp; omega)) fun G H6 nG s6 hG => ?_
    tm_at "v"
    refine i_maxL (ns := 0 :: ((bl2 (l.drop p) (m.drop r)).map fun c => 1 + cl2 (aft c (l.drop p)) (aft c (m.drop r))).map fun n : Nat => (n : Int)) (SqL.of1 (by rw [hG, List.map_cons]; simp only [List.map_map]; rfl)) (by simp) fun M h1 h2 => ?_
    have eM := mx_is h1 h2
    rw [← cl2_eq] at eM
    subst eM
    clear h1 h2
    have S36 := s4.trans (s5.trans s6)
    have hA6 := S36 _ _ hA3
    tm_at "v"
    tm_at "lc"
    refine c_lP (ts.zip (bl2 (l.drop p) (m.drop r))) (fun t => V.ref t.1) (fun t => valV fks (k2 (nxg l p t.2) (nxg m r t.2))) (SqL.of1 (by rw [hA6, zip_refsG _ _ tl])) (by simp; omega) (fun t H7 ht s7 Yk N y n => ?_) fun D7 H7 nD7 s7 hD7 => ?_
    · have hc : t.2 ∈ bl2 (l.drop p) (m.drop r) := (List.of_mem_zip ht).2
      obtain ⟨g, g1, g2⟩ := look t.2 hc
      refine i_gTup (SqT.of1 (s7 _ _ (S36 _ _ (paired_zipP prt3 t ht)))) rfl ?_
      tm_at "v"
      refine ⟨rfl, ?_⟩
      tm_at "v"
      intro T8 H8 n8 s8 h8
      refine x_dGetT (k := k2 (nxg l p t.2) (nxg m r t.2)) (v := .ref g) (Rd.of (s8 _ _ (s7 _ _ (S36 _ _ hFo3)))) (by rw [h8]; rfl) g1 ?_
      exact y _ g1 _ s8
    rw [fm_zipG ts (bl2 (l.drop p) (m.drop r)) (fun c => valV fks (k2 (nxg l p c) (nxg m r c))) tl] at hD7
    obtain ⟨gs, eg, prg⟩ := lo_good (H := H3) (l := l.drop p) (m := m.drop r) (fun c => valV fks (k2 (nxg l p c) (nxg m r c))) (bl2 (l.drop p) (m.drop r)) look
    rw [eg] at hD7
    have gl := prg.length
    have S37 := S36.trans s7
    tm_at "v"
    tm_at "lc"
    refine c_lP (gs.zip (bl2 (l.drop p) (m.drop r))) (fun t => V.ref t.1) (fun t => if cl2 (aft t.2 (l.drop p)) (aft t.2 (m.drop r)) + 1 = cl2 (l.drop p) (m.drop r) then some (iv (cn2 (aft t.2 (l.drop p)) (aft t.2 (m.drop r)))) else none) (SqL.of1 (by rw [hD7, zip_refsG _ _ gl])) (by simp; omega) (fun t H8 ht s8 Yk N y n => ?_) fun D8 H8 nD8 s8 hD8 => ?_
    · refine i_gTup (SqT.of1 (s8 _ _ (S37 _ _ (paired_zipP prg t ht)))) rfl ?_
      tm_at "v"
      refine ⟨rfl, ?_⟩
      tm_at "v"
      refine if_dec (fun z => ?_) (fun z => ?_)
      · tm_at "v"
        exact y _ (by rw [if_pos (by omega)]; rfl) _ (Same.refl _)
      · exact n (by rw [if_neg (by omega)]) _ (Same.refl _)
    rw [fm_zipG gs (bl2 (l.drop p) (m.drop r)) (fun c => if cl2 (aft c (l.drop p)) (aft c (m.drop r)) + 1 = cl2 (l.drop p) (m.drop r) then some (iv (cn2 (aft c (l.drop p)) (aft c (m.drop r)))) else none) gl] at hD8
    have e8 : (bl2 (l.drop p) (m.drop r)).filterMap (fun c => if cl2 (aft c (l.drop p)) (aft c (m.drop r)) + 1 = cl2 (l.drop p) (m.drop r) then some (iv (cn2 (aft c (l.drop p)) (aft c (m.drop r)))) else none) = (((bl2 (l.drop p) (m.drop r)).filter fun c => decide (cl2 (aft c (l.drop p)) (aft c (m.drop r)) + 1 = cl2 (l.drop p) (m.drop r))).map fun c => cn2 (aft c (l.drop p)) (aft c (m.drop r))).map iv := by
      rw [List.map_map]
      generalize bl2 (l.drop p) (m.drop r) = cs
      induction cs with
      | nil => rfl
      | cons c cs ih =>
        by_cases z : cl2 (aft c (l.drop p)) (aft c (m.drop r)) + 1 = cl2 (l.drop p) (m.drop r)
        · rw [List.filterMap_cons_some (b := iv (cn2 (aft c (l.drop p)) (aft c (m.drop r)))) (by rw [if_pos z]), List.filter_cons_of_pos (by simpa using z), List.map_cons, ih]; rfl
        · rw [List.filterMap_cons_none (by rw [if_neg z]), List.filter_cons_of_neg (by simpa using z), ih]
    rw [e8] at hD8
    tm_at "v"
    refine i_sumN (SqL.of1 hD8) ?_
    tm_at "v"
    intro P9 H9 n9 s9 h9
    have cp := cn2_pos (l.drop p) (m.drop r)
    have h9' : H9 P9 = some (.tup [.int (cl2 (l.drop p) (m.drop r) : Nat), .int (cn2 (l.drop p) (m.drop r) : Nat)]) := by
      rw [h9]
      by_cases z : cl2 (l.drop p) (m.drop r) = 0
      · rw [cn2_nil z, z]
        have e0 : ((bl2 (l.drop p) (m.drop r)).filter fun c => decide (cl2 (aft c (l.drop p)) (aft c (m.drop r)) + 1 = 0)) = [] := by simp
        rw [e0]
        rfl
      · rw [cn2_eq (by omega)] at cp ⊢
        rw [show decide (((cl2 (l.drop p) (m.drop r) : Nat) : Int) = 0) = false by simpa using z, if_neg (by simp)]
    clear h9
    tm_at "v"
    have hqF : qa ≠ Fo := fun z => by subst z; rw [hFo] at hqa; cases hqa
    have S39 := S37.trans (s8.trans s9)
    have hFo9 := S39 _ _ hFo3
    have bnd : i' * (m.length + 1) ≤ 200 * 201 := Nat.mul_le_mul (by omega) (by omega)
    have fl := lo.length
    rw [gkP_len] at fl
    refine v_dPutT (k := k2 p r) hFo9 (S39 _ _ (sT _ _ hqa)) (lt_line (by omega)) fun H10 b10 h10 => ?_
    have hnew := gkP_new (a := l.length) (b := m.length) hil hj'
    rw [ep, er] at hnew
    rw [putK_new _ (lo_none lo hnew)] at h10
    have B10 : Bu [Fo] H3 H10 := (Bu.same S39).trans (Bu.but (by simp) b10)
    have lo10 : Paired (LoAt l m H10) (fks ++ [(k2 p r, V.ref P9)]) (gkP l.length m.length i' (j' + 1)) := by
      rw [gkP_snoc, ep, er]
      exact paired_snocP ⟨P9, rfl, b10 _ _ (fun z => by subst z; rw [hFo9] at h9'; cases h9') h9'⟩ (paired_imp lo3 fun kv _ pq h => h.bu hFo3 B10)
    have BB : Bu [Fo] H2 H10 := b.trans ((Bu.same sT).trans B10)
    rcases Nat.lt_or_ge j' m.length with z | z
    · exact ⟨_, _, _, _, _, i', j' + 1, _, rfl, by omega, by omega, hi', BB, h10, lo10⟩
    · have : j' = m.length := by omega
      subst this
      exact ⟨_, _, _, _, _, i' + 1, 0, _, rfl, by rw [ei, Nat.succ_mul]; omega, Nat.zero_le _, by omega, BB, h10, by rw [gkP_next]; exact lo10⟩
  · rintro σ H' ⟨v4, v5, v6, v7, v8, i', j', fks, rfl, ei, hj', hi', b, hFo, lo⟩
    have : i' = l.length + 1 ∧ j' = 0 := by
      rw [kl'] at ei
      rcases Nat.lt_or_ge i' (l.length + 1) with z | z
      · exfalso
        have : (i' + 1) * (m.length + 1) ≤ (l.length + 1) * (m.length + 1) := Nat.mul_le_mul_right _ z
        rw [Nat.succ_mul] at this
        omega
      · have : i' = l.length + 1 := by omega
        subst this
        exact ⟨rfl, by omega⟩
    obtain ⟨rfl, rfl⟩ := this
    tm_at "v"
    intro P H5 n5 s5 h5
    have SS : Same H H5 := Same.trans (Bu.to ((Bu.same s2).trans b) (by simpa using nF)) s5
    have B5 : Bu [Fo] H2 H5 := b.trans (Bu.same s5)
    refine q P Fo d o fks kvs H5 SS h5 (s5 _ _ hFo) (B5 _ _ (by simpa using Fd.symm) hd) (paired_imp lo fun kv _ pq h => h.bu hFo (Bu.same s5)) (paired_imp pr fun kv _ pq h => ?_)
    obtain ⟨A, ts, e, h1, h2⟩ := h
    exact ⟨A, ts, e, B5 _ _ (fun z => by rw [List.mem_singleton] at z; subst z; cases hF2.symm.trans h1) h1, paired_imp h2 fun t _ c h => B5 _ _ (fun z => by rw [List.mem_singleton] at z; subst z; cases hF2.symm.trans h) h⟩
/-! longest_common_0(one, other): slots 0 one, 1 other, 2 found, 3 ways, 4 row, 5 ends, 6 good, 7 step -/
abbrev N_longest_common_0 : List Str := ["one", "other", "found", "ways", "row", "ends", "good", "step"]
def t_longest_common_0 (K : PySem.W.Frag) : TS :=
  (tSeq (tAsg (tCall (sp_longest_from_0 K) [] E0 (tCons (tVar 0) (tCons (tVar 1) tNil))) (gTup K 2 (gCons (gName 2) (gCons (gName 3) gNil)))) (tSeq (tAsg (tC (.str (S []))) (gName 4)) (tSeq (tAsg (tTup (tCons (tC (.int 0)) (tCons (tC (.int 0)) tNil))) (gName 5)) (tSeq (tWhile (tTest (tOp Lv.rGt (tOp (rIxT K) (tDGet (tVar 2) (tVar 5)) (tC (.int 0))) (tC (.int 0)))) (tSeq (tAsg (tLc (iList K (tDGet (tVar 3) (tVar 5))) (gName 7) (tTest (tOp Lv.rEqI (tOp Lv.rAdd (tOp (rIxT K) (tDGet (tVar 2) (tSl (rSlT K) (tVar 7) (tPart (tC (.int 1))) tNoPart)) (tC (.int 0))) (tC (.int 1))) (tOp (rIxT K) (tDGet (tVar 2) (tVar 5)) (tC (.int 0))))) (tVar 7) [7]) (gName 6)) (tSeq (tAug 4 (tOp (rIxT K) (tOp (rIxL K) (tVar 6) (tC (.int 0))) (tC (.int 0))) Lv.ipAddS) (tAsg (tSl (rSlT K) (tOp (rIxL K) (tVar 6) (tC (.int 0))) (tPart (tC (.int 1))) tNoPart) (gName 5))))) (tRet (tVar 4))))))
-- needs: Lv30 M_long
theorem v_slT1 {K : PySem.W.Frag} {H : Hp} {Q : VK} {a : Addr} {x y z : V} (h1 : H a = some (.tup [x, y, z])) (h : ∀ p H2, H p = none → Same H H2 → H2 p = some (.tup [y, z]) → Q (.ref p) H2) : rSlT K (.ref a) (some 1) none H Q := ⟨a, _, rfl, SqT.of1 h1, fun q => absurd q.1 (by show ¬ HT.sIx 3 0 (some 1) = 0; decide), fun p n => h p _ n (same_new n) upd_same⟩
theorem go_get {l m : List Nat} {H : Hp} {p q : Nat} : ∀ {kvs : List (List Key × V)} {ks : List (Nat × Nat)}, Paired (GoAt l m H) kvs ks → (p, q) ∈ ks → ∃ A ts, valV kvs (k2 p q) = some (.ref A) ∧ H A = some (.lst (ts.map V.ref)) ∧ Paired (fun t c => H t = some (.tup [.str (S [c]), .int (nxg l p c : Nat), .int (nxg m q c : Nat)])) ts (bl2 (l.drop p) (m.drop q))
  | _, _, .nil, h => by cases h
  | kv :: kvs, (a, b) :: ks, .cons h1 h2, h => by
    obtain ⟨A, ts, e, hA, pr⟩ := h1
    subst e
    by_cases z : (a, b) = (p, q)
    · cases z
      exact ⟨A, ts, valV_pos rfl, hA, pr⟩
    · rw [valV_neg (fun y => z (by obtain ⟨h1, h2⟩ := k2_inj.mp y; dsimp only at h1 h2; rw [h1, h2]))]
      rcases List.mem_cons.mp h with y | y
      · exact absurd y.symm z
      · exact go_get h2 y
theorem zip_first {F : Addr → Nat → Prop} {p : Nat → Prop} [DecidablePred p] {c0 : Nat} {r0 : List Nat} : ∀ {ts : List Addr} {cs : List Nat}, Paired F ts cs → (cs.filter fun c => decide (p c)) = c0 :: r0 → ∃ t0 rest, (ts.zip cs).filterMap (fun t => if p t.2 then some (V.ref t.1) else none) = V.ref t0 :: rest ∧ F t0 c0
  | _, _, .nil, e => by cases e
  | t :: ts, c :: cs, .cons h1 h2, e => by
    by_cases z : p c
    · rw [List.filter_cons_of_pos (by simpa using z)] at e
      cases e
      exact ⟨t, _, by rw [List.zip_cons_cons, List.filterMap_cons_some (b := V.ref t) (by rw [if_pos z])], h1⟩
    · rw [List.filter_cons_of_neg (by simpa using z)] at e
      obtain ⟨t0, rest, h3, h4⟩ := zip_first h2 e
      exact ⟨t0, rest, by rw [List.zip_cons_cons, List.filterMap_cons_none (by rw [if_neg z])]; exact h3, h4⟩
def sp_longest_common_0 (K : PySem.W.Frag) : Sp := fun vs H Q _ => ∃ (l m : List Nat), vs = [.str (S l), .str (S m)] ∧ l.length ≤ 200 ∧ m.length ≤ 200 ∧ Low l ∧ ∀ H', Same H H' → Q (.str (S (cf l m))) H'
theorem i_longest_common_0 {K : PySem.W.Frag} {l m : List Nat} {H : Hp} {Q : VK} {E : XK} (hl : l.length ≤ 200) (hm : m.length ≤ 200) (lw : Low l) (q : ∀ H', Same H H' → Q (.str (S (cf l m))) H') : sp_longest_common_0 K [.str (S l), .str (S m)] H Q E := ⟨l, m, rfl, hl, hm, lw, q⟩
theorem pure_longest_common_0 {K : PySem.W.Frag} (vs : List V) (H : Hp) (Q : VK) (E : XK) (h : sp_longest_common_0 K vs H Q E) : t_longest_common_0 K { nx := fun _ H' => Q .non H', rt := Q } (start N_longest_common_0 vs) H := by
  obtain ⟨l, m, rfl, hl, hm, lw, q⟩ := h
  unfold t_longest_common_0
  tm_at "v"
  refine i_longest_from_0 hl hm fun P Fo W o fks wks H1 s1 hP hFo hW lo go => ?_
  refine i_gTup (SqT.of1 hP) rfl ?_
  tm_at "v"
  intro T H2 n2 s2 h2
  tm_at "v"
  have cfl : (cf l m).length ≤ 200 := by
    have := cl2_le l m lw
    have := ((cz_mem lw).mp (cf_mem l m)).2.2
    omega
  refine ⟨fun n σ H' => ∃ (w : List Nat) (p r : Nat) (T : Addr) (v6 : Option V), σ = [some (.str (S l)), some (.str (S m)), some (.ref Fo), some (.ref W), some (.str (S w)), some (.ref T), v6, none] ∧ Same H1 H' ∧ H' T = some (.tup [.int (p : Nat), .int (r : Nat)]) ∧ p ≤ l.length ∧ r ≤ m.length ∧ w ++ cf (l.drop p) (m.drop r) = cf l m ∧ n = cl2 (l.drop p) (m.drop r), ⟨_, [], 0, 0, T, none, rfl, s2, h2, Nat.zero_le _, Nat.zero_le _, rfl, rfl⟩, ?_⟩
  rintro n σ H3 ⟨w, p, r, T', v6, rfl, s3, hT, hp, hr, ew, rfl⟩
  have wl : w.length ≤ 200 := by
    have := congrArg List.length ew
    rw [List.length_append] at this
    omega
  have hin : (p, r) ∈ gkP l.length m.length (l.length + 1) 0 := gkP_mem.mpr (.inl ⟨l.length - p, m.length - r, by omega, by omega, by omega, by omega⟩)
  obtain ⟨t, e, ht⟩ := lo_get lo hin
  obtain ⟨A, ts, eA, hA, prt⟩ := go_get go hin
  tm_at "v"
  refine x_dGetT (k := k2 p r) (v := .ref t) (Rd.of (s3 _ _ hFo)) hT e ?_
  tm_at "v"
  refine i_ixT (SqT.of1 (s3 _ _ ht)) rfl ?_
  tm_at "v"
  refine if_dec (fun z => ?_) (fun z => ?_)
  · have zp : 0 < cl2 (l.drop p) (m.drop r) := by omega
    refine ⟨fun σ' H' => ∃ (w : List Nat) (p' r' : Nat) (T : Addr) (v6 : Option V), σ' = [some (.str (S l)), some (.str (S m)), some (.ref Fo), some (.ref W), some (.str (S w)), some (.ref T), v6, none] ∧ Same H1 H' ∧ H' T = some (.tup [.int (p' : Nat), .int (r' : Nat)]) ∧ p' ≤ l.length ∧ r' ≤ m.length ∧ w ++ cf (l.drop p') (m.drop r') = cf l m ∧ cl2 (l.drop p') (m.drop r') < cl2 (l.drop p) (m.drop r), ?_, ?_⟩
    · rintro σ' H' ⟨w, p', r', T, v6, rfl, a1, a2, a3, a4, a5, a6⟩
      exact ⟨_, a6, w, p', r', T, v6, rfl, a1, a2, a3, a4, a5, rfl⟩
    have tl := prt.length
    have b26 := bl2_len (l.drop p) (m.drop r)
    tm_at "v"
    refine lcM (fun J H' => J = Itl K A ∧ H' = H3) (fun R k => ?_) ?_
    · tm_at "v"
      refine x_dGetT (k := k2 p r) (v := .ref A) (.inr ⟨o, s3 _ _ hW⟩) hT eA ?_
      exact ⟨A, rfl, ⟨_, SqL.of1 (s3 _ _ hA)⟩, k _ _ ⟨rfl, rfl⟩⟩
    rintro J H3' ⟨rfl, rfl⟩
    refine c_lP (ts.zip (bl2 (l.drop p) (m.drop r))) (fun t => V.ref t.1) (fun t => if cl2 (aft t.2 (l.drop p)) (aft t.2 (m.drop r)) + 1 = cl2 (l.drop p) (m.drop r) then some (V.ref t.1) else none) (SqL.of1 (by rw [s3 _ _ hA, zip_refsG _ _ tl])) (by simp; omega) (fun t' H4 ht' s4 Yk N y n => ?_) fun D H4 nD s4 hD => ?_
    · have hc : t'.2 ∈ bl2 (l.drop p) (m.drop r) := (List.of_mem_zip ht').2
      tm_at "v"
      refine ⟨rfl, ?_⟩
      have hs := s4 _ _ (s3 _ _ (paired_zipP prt t' ht'))
      obtain ⟨k1, k1', e1, e1'⟩ := bl2_go hc
      have hk1 := nextP_lt e1
      have hk1' := nextP_lt e1'
      obtain ⟨g, g1, g2⟩ := lo_get (p := k1 + 1) (q := k1' + 1) lo (gkP_mem.mpr (.inl ⟨l.length - (k1 + 1), m.length - (k1' + 1), by omega, by omega, by omega, by omega⟩))
      rw [← aft_next rfl e1, ← aft_next rfl e1'] at g2
      rw [show nxg l p t'.2 = k1 + 1 by unfold nxg; rw [e1]; rfl, show nxg m r t'.2 = k1' + 1 by unfold nxg; rw [e1']; rfl] at hs
      tm_at "v"
      refine v_slT1 hs fun T5 H5 n5 s5 h5 => ?_
      have S5 := s3.trans (s4.trans s5)
      refine x_dGetT (k := k2 (k1 + 1) (k1' + 1)) (v := .ref g) (Rd.of (S5 _ _ hFo)) (by rw [h5]; rfl) g1 ?_
      tm_at "v"
      refine i_ixT (SqT.of1 (S5 _ _ g2)) rfl ?_
      tm_at "v"
      refine x_dGetT (k := k2 p r) (v := .ref t) (Rd.of (S5 _ _ hFo)) (s5 _ _ (s4 _ _ hT)) e ?_
      tm_at "v"
      refine i_ixT (SqT.of1 (S5 _ _ ht)) rfl ?_
      tm_at "v"
      refine if_dec (fun y1 => ?_) (fun y1 => ?_)
      · tm_at "v"
        exact y _ (by rw [if_pos (by omega)]) _ s5
      · exact n (by rw [if_neg (by omega)]) _ s5
    obtain ⟨c0, r0, ec⟩ : ∃ c0 r0, ((bl2 (l.drop p) (m.drop r)).filter fun c => decide (cl2 (aft c (l.drop p)) (aft c (m.drop r)) + 1 = cl2 (l.drop p) (m.drop r))) = c0 :: r0 := by
      cases e9 : ((bl2 (l.drop p) (m.drop r)).filter fun c => decide (cl2 (aft c (l.drop p)) (aft c (m.drop r)) + 1 = cl2 (l.drop p) (m.drop r))) with
      | nil => exact absurd e9 (good_ne zp)
      | cons a b => exact ⟨a, b, rfl⟩
    obtain ⟨t0, rest, e0, h0⟩ := zip_first (p := fun c => cl2 (aft c (l.drop p)) (aft c (m.drop r)) + 1 = cl2 (l.drop p) (m.drop r)) prt ec
    have ecf := cf_eq zp ec
    have hc0 : c0 ∈ bl2 (l.drop p) (m.drop r) ∧ cl2 (aft c0 (l.drop p)) (aft c0 (m.drop r)) + 1 = cl2 (l.drop p) (m.drop r) := by
      have : c0 ∈ (bl2 (l.drop p) (m.drop r)).filter fun c => decide (cl2 (aft c (l.drop p)) (aft c (m.drop r)) + 1 = cl2 (l.drop p) (m.drop r)) := by rw [ec]; exact List.mem_cons_self
      exact ⟨(List.mem_filter.mp this).1, of_decide_eq_true (List.mem_filter.mp this).2⟩
    obtain ⟨k1, k1', e1, e1'⟩ := bl2_go hc0.1
    have hk1 := nextP_lt e1
    have hk1' := nextP_lt e1'
    have hs := s4 _ _ (s3 _ _ h0)
    rw [show nxg l p c0 = k1 + 1 by unfold nxg; rw [e1]; rfl, show nxg m r c0 = k1' + 1 by unfold nxg; rw [e1']; rfl] at hs
    rw [e0] at hD
    tm_at "v"
    refine i_ixL (v := .ref t0) (SqL.of1 hD) (atI_nat (j := 0) rfl) ?_
    tm_at "v"
    refine i_ixT (v := .str (S [c0])) (SqT.of1 hs) rfl ?_
    tm_at "v"
    refine i_augS1 (le_line (by simp; omega)) ?_
    tm_at "v"
    refine i_ixL (v := .ref t0) (SqL.of1 hD) (atI_nat (j := 0) rfl) ?_
    tm_at "v"
    refine v_slT1 hs fun T5 H5 n5 s5 h5 => ?_
    tm_at "v"
    refine ⟨w ++ [c0], k1 + 1, k1' + 1, T5, _, rfl, s3.trans (s4.trans s5), h5, by omega, by omega, ?_, ?_⟩
    · rw [ecf, aft_next rfl e1, aft_next rfl e1'] at ew
      rw [← ew]; simp
    · have := hc0.2
      rw [aft_next rfl e1, aft_next rfl e1'] at this
      omega
  · tm_at "v"
    have z0 : cl2 (l.drop p) (m.drop r) = 0 := by omega
    rw [cf_nil z0, List.append_nil] at ew
    rw [ew]
    exact q _ (s1.trans s3)
/-! Growing_1_undo(self): slots 0 self -/
abbrev N_Growing_1_undo : List Str := ["self"]
def t_Growing_1_undo (K : PySem.W.Frag) (C_Growing : Addr) : TS :=
  (tSeq (tIfS (tTest (tOp Lv.rEqS (tFld K (tVar 0) "letters") (tC (.str (S []))))) (tRet (tC (.bl false))) tNext) (tSeq (sFld K (tVar 0) (tSl Lv.rSlS1 (tFld K (tVar 0) "letters") tNoPart (tPart (tUn Lv.rNeg (tC (.int 1))))) "letters") (tRet (tC (.bl true)))))
-- needs: Q_Growing_1_init
theorem cutL_m1 (l : List Nat) : cutL l none (some (-1)) = l.dropLast := by
  rw [List.dropLast_eq_take]
  show (l.drop 0).take ((-1 + (l.length : Int)).toNat - 0) = _
  rw [List.drop_zero, Nat.sub_zero, show (-1 + (l.length : Int)).toNat = l.length - 1 by omega]
def sp_Growing_1_undo (K : PySem.W.Frag) (C : Addr) : Sp := fun vs H Q _ => ∃ (x : Addr) (l : List Nat), vs = [.ref x] ∧ GrAt C H x l ∧ ∀ H', But x H H' → GrAt C H' x l.dropLast → Q (.bl (!decide (l = []))) H'
theorem i_Growing_undo {K : PySem.W.Frag} {C : Addr} {x : Addr} {l : List Nat} {H : Hp} {Q : VK} {E : XK} {te : TA} {σ : L2.St} (h : GrAt C H x l) (ht : ∀ R : List V → Hp → Prop, R [] H → te σ H R) (q : ∀ H', But x H H' → GrAt C H' x l.dropLast → Q (.bl (!decide (l = []))) H') :
    rMe C "undo" (.ref x) H (te σ H fun vs H2 => sp_Growing_1_undo K C (.ref x :: (vs ++ [])) H2 Q E) := by
  obtain ⟨dx, h1, h2⟩ := id h
  exact x_me h1 (lk_no (by decide +kernel)) (ht _ ⟨x, l, rfl, h, q⟩)
theorem pure_Growing_1_undo {K : PySem.W.Frag} {C : Addr} (Z : Kl K C ["letters"]) (vs : List V) (H : Hp) (Q : VK) (E : XK) (h : sp_Growing_1_undo K C vs H Q E) : t_Growing_1_undo K C { nx := fun _ H' => Q .non H', rt := Q } (start N_Growing_1_undo vs) H := by
  obtain ⟨x, l, rfl, ⟨dx, hx, lw, l80⟩, q⟩ := h
  unfold t_Growing_1_undo
  tm_at "v"
  refine x_fl Z hx lk_yes ?_
  tm_at "v"
  refine if_dec (fun z => ?_) (fun z => ?_)
  · subst z
    tm_at "v"
    exact q H (But.refl _ _) ⟨dx, hx, lw, l80⟩
  · tm_at "v"
    refine x_fl Z hx lk_yes ?_
    tm_at "v"
    rw [cutL_m1]
    tm_at "v"
    refine x_pf Z hx (by show 1 < 1000; decide) fun H3 b3 h3 => ?_
    rw [put_one] at h3
    tm_at "v"
    have := q H3 b3 ⟨dx, h3, lw.sub fun c hc => List.dropLast_subset _ hc, by rw [List.length_dropLast]; omega⟩
    rw [decide_eq_false z] at this
    exact this
/-! many_left_0(row): slots 0 row -/
abbrev N_many_left_0 : List Str := ["row"]
def t_many_left_0 (K : PySem.W.Frag) : TS :=
  (tRet (tOp (rIxL K) (tCall (sp_counts_from_0 K) [] E0 (tCons (tVar 0) tNil)) (tC (.int 0))))
def sp_many_left_0 (K : PySem.W.Frag) : Sp := fun vs H Q _ => ∃ (l : List Nat), vs = [.str (S l)] ∧ l.length ≤ 1000 ∧ Low l ∧ ∀ (H' : Hp), Same H H' → Q (iv (cn l)) H'
theorem i_many_left_0 {K : PySem.W.Frag} {l : List Nat} {H : Hp} {Q : VK} {E : XK} (hl : l.length ≤ 1000) (lw : Low l) (q : ∀ (H' : Hp), Same H H' → Q (iv (cn l)) H') : sp_many_left_0 K [.str (S l)] H Q E := ⟨l, rfl, hl, lw, q⟩
theorem pure_many_left_0 {K : PySem.W.Frag} (vs : List V) (H : Hp) (Q : VK) (E : XK) (h : sp_many_left_0 K vs H Q E) : t_many_left_0 K { nx := fun _ H' => Q .non H', rt := Q } (start N_many_left_0 vs) H := by
  obtain ⟨l, rfl, hl, lw, q⟩ := h
  unfold t_many_left_0
  tm_at "w"
  refine i_counts_from_0 hl lw fun p H' np sm hp => ?_
  tm_at "w"
  refine i_ixL (SqL.of1 hp) (atI_nat (j := 0) (range_map_get _ (by omega))) ?_
  exact q _ sm
/-! Growing_1_many(self): slots 0 self -/
abbrev N_Growing_1_many : List Str := ["self"]
def t_Growing_1_many (K : PySem.W.Frag) (C_Growing : Addr) : TS :=
  (tRet (tCall (sp_many_left_0 K) [] E0 (tCons (tFld K (tVar 0) "letters") tNil)))
-- needs: Q_Growing_1_init
def sp_Growing_1_many (K : PySem.W.Frag) (C : Addr) : Sp := fun vs H Q _ => ∃ (x : Addr) (l : List Nat), vs = [.ref x] ∧ GrAt C H x l ∧ ∀ H', Same H H' → Q (iv (cn l)) H'
theorem i_Growing_many {K : PySem.W.Frag} {C : Addr} {x : Addr} {l : List Nat} {H : Hp} {Q : VK} {E : XK} {te : TA} {σ : L2.St} (h : GrAt C H x l) (ht : ∀ R : List V → Hp → Prop, R [] H → te σ H R) (q : ∀ H', Same H H' → Q (iv (cn l)) H') :
    rMe C "many" (.ref x) H (te σ H fun vs H2 => sp_Growing_1_many K C (.ref x :: (vs ++ [])) H2 Q E) := by
  obtain ⟨dx, h1, h2⟩ := id h
  exact x_me h1 (lk_no (by decide +kernel)) (ht _ ⟨x, l, rfl, h, q⟩)
theorem pure_Growing_1_many {K : PySem.W.Frag} {C : Addr} (Z : Kl K C ["letters"]) (vs : List V) (H : Hp) (Q : VK) (E : XK) (h : sp_Growing_1_many K C vs H Q E) : t_Growing_1_many K C { nx := fun _ H' => Q .non H', rt := Q } (start N_Growing_1_many vs) H := by
  obtain ⟨x, l, rfl, ⟨dx, hx, lw, l80⟩, q⟩ := h
  unfold t_Growing_1_many
  tm_at "v"
  refine x_fl Z hx lk_yes ?_
  tm_at "v"
  exact i_many_left_0 (by omega) lw q
/-! by_lengths_0(row): slots 0 row -/
abbrev N_by_lengths_0 : List Str := ["row"]
def t_by_lengths_0 (K : PySem.W.Frag) : TS :=
  (tRet (tCB (Lv.rListOf K) (tCons (tOp (rIxL K) (tCall (sp_lengths_from_0 K) [] E0 (tCons (tVar 0) tNil)) (tC (.int 0))) tNil)))
-- needs: M_len
def sp_by_lengths_0 (K : PySem.W.Frag) : Sp := fun vs H Q _ => ∃ (l : List Nat), vs = [.str (S l)] ∧ l.length ≤ 1000 ∧ Low l ∧ ∀ (p : Addr) (H' : Hp), H p = none → Same H H' → H' p = some (.lst ((lens l).map iv)) → Q (.ref p) H'
theorem i_by_lengths_0 {K : PySem.W.Frag} {l : List Nat} {H : Hp} {Q : VK} {E : XK} (hl : l.length ≤ 1000) (lw : Low l) (q : ∀ (p : Addr) (H' : Hp), H p = none → Same H H' → H' p = some (.lst ((lens l).map iv)) → Q (.ref p) H') : sp_by_lengths_0 K [.str (S l)] H Q E := ⟨l, rfl, hl, lw, q⟩
theorem pure_by_lengths_0 {K : PySem.W.Frag} (vs : List V) (H : Hp) (Q : VK) (E : XK) (h : sp_by_lengths_0 K vs H Q E) : t_by_lengths_0 K { nx := fun _ H' => Q .non H', rt := Q } (start N_by_lengths_0 vs) H := by
  obtain ⟨l, rfl, hl, lw, q⟩ := h
  unfold t_by_lengths_0
  tm_at "v"
  refine i_lengths_from_0 hl lw fun p ts H1 np s1 tl hp lt => ?_
  obtain ⟨t, et⟩ : ∃ t, ts[0]? = some t := ⟨_, List.getElem?_eq_getElem (by omega)⟩
  have ht := lt 0 t et
  rw [List.drop_zero] at ht
  tm_at "v"
  refine i_ixL (v := .ref t) (SqL.of1 hp) (atI_nat (j := 0) (by rw [List.getElem?_map, et]; rfl)) ?_
  tm_at "v"
  refine v_listOf (SqL.of1 ht) fun p2 H2 n2 s2 h2 => ?_
  exact q p2 H2 (s1.free n2) (s1.trans s2) h2
/-! Growing_1_lengths(self): slots 0 self -/
abbrev N_Growing_1_lengths : List Str := ["self"]
def t_Growing_1_lengths (K : PySem.W.Frag) (C_Growing : Addr) : TS :=
  (tRet (tCall (sp_by_lengths_0 K) [] E0 (tCons (tFld K (tVar 0) "letters") tNil)))
-- needs: Q_Growing_1_init
def sp_Growing_1_lengths (K : PySem.W.Frag) (C : Addr) : Sp := fun vs H Q _ => ∃ (x : Addr) (l : List Nat), vs = [.ref x] ∧ GrAt C H x l ∧ ∀ (p : Addr) (H' : Hp), H p = none → Same H H' → H' p = some (.lst ((lens l).map iv)) → Q (.ref p) H'
theorem i_Growing_lengths {K : PySem.W.Frag} {C : Addr} {x : Addr} {l : List Nat} {H : Hp} {Q : VK} {E : XK} {te : TA} {σ : L2.St} (h : GrAt C H x l) (ht : ∀ R : List V → Hp → Prop, R [] H → te σ H R) (q : ∀ (p : Addr) (H' : Hp), H p = none → Same H H' → H' p = some (.lst ((lens l).map iv)) → Q (.ref p) H') :
    rMe C "lengths" (.ref x) H (te σ H fun vs H2 => sp_Growing_1_lengths K C (.ref x :: (vs ++ [])) H2 Q E) := by
  obtain ⟨dx, h1, h2⟩ := id h
  exact x_me h1 (lk_no (by decide +kernel)) (ht _ ⟨x, l, rfl, h, q⟩)
theorem pure_Growing_1_lengths {K : PySem.W.Frag} {C : Addr} (Z : Kl K C ["letters"]) (vs : List V) (H : Hp) (Q : VK) (E : XK) (h : sp_Growing_1_lengths K C vs H Q E) : t_Growing_1_lengths K C { nx := fun _ H' => Q .non H', rt := Q } (start N_Growing_1_lengths vs) H := by
  obtain ⟨x, l, rfl, ⟨dx, hx, lw, l80⟩, q⟩ := h
  unfold t_Growing_1_lengths
  tm_at "v"
  refine x_fl Z hx lk_yes ?_
  tm_at "v"
  exact i_by_lengths_0 (by omega) lw q
/-! show_list_0(numbers): slots 0 numbers, 1 number -/
abbrev N_show_list_0 : List Str := ["numbers", "number"]
def t_show_list_0 (K : PySem.W.Frag) : TS :=
  (tSeq (tIfS (tTest (tOp (Lv.rEqL K) (tVar 0) (tLst tNil))) (tRet (tC (.str (S [45])))) tNext) (tRet (tBM K "str" (Lv.rJoin K) (tC (.str (S [32]))) (tCons (tLc (iList K (tVar 0)) (gName 1) tYes (tCB Lv.rStrI (tCons (tVar 1) tNil)) [1]) tNil))))
-- needs: Lv38
def sp_show_list_0 (K : PySem.W.Frag) : Sp := fun vs H Q _ => ∃ (p : Addr) (ns : List Nat), vs = [.ref p] ∧ H p = some (.lst (ns.map iv)) ∧ ns.length ≤ 5000 ∧ (∀ n ∈ ns, n < 10 ^ 100) ∧ ∀ H', Same H H' → Q (.str (S (wrt ns))) H'
theorem i_show_list_0 {K : PySem.W.Frag} {p : Addr} {ns : List Nat} {H : Hp} {Q : VK} {E : XK} (hp : H p = some (.lst (ns.map iv))) (hl : ns.length ≤ 5000) (hn : ∀ n ∈ ns, n < 10 ^ 100) (q : ∀ H', Same H H' → Q (.str (S (wrt ns))) H') : sp_show_list_0 K [.ref p] H Q E := ⟨p, ns, rfl, hp, hl, hn, q⟩
theorem pure_show_list_0 {K : PySem.W.Frag} (vs : List V) (H : Hp) (Q : VK) (E : XK) (h : sp_show_list_0 K vs H Q E) : t_show_list_0 K { nx := fun _ H' => Q .non H', rt := Q } (start N_show_list_0 vs) H := by
  obtain ⟨p, ns, rfl, hp, hl, hn, q⟩ := h
  unfold t_show_list_0
  tm_at "v"
  intro p1 H1 n1 s1 h1
  have hp1 := s1 _ _ hp
  refine i_r2L (ns := ns.map fun n : Nat => (n : Int)) (ms := []) (SqL.of1 (by rw [← ivs]; exact hp1)) (SqL.of1 h1) ?_
  unfold wrt at q
  by_cases z : ns = []
  · subst z
    rw [if_pos rfl] at q
    rw [List.map_nil]
    tm_at "v"
    exact q _ s1
  rw [if_neg z] at q
  rw [decide_eq_false (fun y => z (List.map_eq_nil_iff.mp y))]
  tm_at "v"
  tm_at "lc"
  refine c_lP ns iv (fun n => some (vs (TL.numL n))) (SqL.of1 hp1) (by omega) (fun n H' hnm sm Yk N y no => ?_) fun D H2 nD s2 hD => ?_
  · tm_at "v"
    refine ⟨rfl, ?_⟩
    tm_at "v"
    refine i_strN (Nat.lt_trans (hn n hnm) (by decide)) ?_
    exact y _ rfl _ (Same.refl _)
  rw [fm_map2 TL.numL] at hD
  have ln : ∀ p ∈ ns.map TL.numL, p.length ≤ 100 := fun p hp => by
    obtain ⟨n, hnm, rfl⟩ := List.mem_map.mp hp
    exact TL.numL_len (by decide) (hn n hnm)
  have sl := sum_len ln
  rw [List.length_map] at sl
  tm_at "v"
  refine i_join (ys := ns.map TL.numL) (SqL.of1 hD) (by rw [List.length_map]; simp only [List.length_cons, List.length_nil]; omega) ?_
  exact q _ (s1.trans s2)
/-! next_of_0(word, place, letter): slots 0 word, 1 place, 2 letter, 3 found -/
abbrev N_next_of_0 : List Str := ["word", "place", "letter", "found"]
def t_next_of_0 (K : PySem.W.Frag) : TS :=
  (tSeq (tAsg (tBM K "str" Lv.rFind (tVar 0) (tCons (tVar 2) (tCons (tVar 1) tNil))) (gName 3)) (tSeq (tIfS (tTest (tOp Lv.rLt (tVar 3) (tC (.int 0)))) (tRet (tC .non)) tNext) (tRet (tOp Lv.rAdd (tVar 3) (tC (.int 1))))))
-- needs: Lv30 M_part
def oI1 : Option Nat → V
  | none => .non
  | some k => .int ((k : Nat) + 1 : Int)
def sp_next_of_0 (K : PySem.W.Frag) : Sp := fun vs H Q _ => ∃ (l : List Nat) (p c : Nat), vs = [.str (S l), .int (p : Int), .str (S [c])] ∧ p ≤ l.length ∧ Q (oI1 (nextP l p c)) H
theorem i_next_of_0 {K : PySem.W.Frag} {l : List Nat} {p c : Nat} {H : Hp} {Q : VK} {E : XK} (hp : p ≤ l.length) (q : Q (oI1 (nextP l p c)) H) : sp_next_of_0 K [.str (S l), .int (p : Int), .str (S [c])] H Q E := ⟨l, p, c, rfl, hp, q⟩
theorem pure_next_of_0 {K : PySem.W.Frag} (vs : List V) (H : Hp) (Q : VK) (E : XK) (h : sp_next_of_0 K vs H Q E) : t_next_of_0 K { nx := fun _ H' => Q .non H', rt := Q } (start N_next_of_0 vs) H := by
  obtain ⟨l, p, c, rfl, hp, q⟩ := h
  unfold t_next_of_0
  tm_at "v"
  refine i_find hp ?_
  tm_at "v"
  cases en : nextP l p c with
  | none =>
    rw [en] at q
    rw [show findI l p c = -1 by unfold findI; rw [en]]
    tm_at "v"
    refine if_yes (by decide) ?_
    tm_at "v"
    exact q
  | some k =>
    rw [en] at q
    rw [show findI l p c = (k : Int) by unfold findI; rw [en]]
    tm_at "v"
    refine if_no (by omega) ?_
    tm_at "v"
    exact q
/-! parts_0(one, other): slots 0 one, 1 other, 2 letters, 3 met, 4 level, 5 longer, 6 word, 7 here, 8 there, 9 letter, 10 behind, 11 beside -/
abbrev N_parts_0 : List Str := ["one", "other", "letters", "met", "level", "longer", "word", "here", "there", "letter", "behind", "beside"]
def t_parts_0 (K : PySem.W.Frag) : TS :=
  (tSeq (tAsg (Lv.tSortSetS (tCons (tVar 0) tNil)) (gName 2)) (tSeq (tAsg (Lv.tDispT1 (tTup (tCons (tC (.int 0)) (tCons (tC (.int 0)) tNil))) (tC (.bl true))) (gName 3)) (tSeq (tAsg (tLst (tCons (tTup (tCons (tC (.str (S []))) (tCons (tC (.int 0)) (tCons (tC (.int 0)) tNil)))) tNil)) (gName 4)) (tSeq (tWhile (tTest (tOp (Lv.rNeE K) (tVar 4) (tLst tNil))) (tSeq (tAsg (tLst tNil) (gName 5)) (tSeq (tFor (iList K (tVar 4)) (gTup K 3 (gCons (gName 6) (gCons (gName 7) (gCons (gName 8) gNil)))) (tFor (iList K (tVar 2)) (gName 9) (tSeq (tAsg (tCall (sp_next_of_0 K) [] E0 (tCons (tVar 0) (tCons (tVar 7) (tCons (tVar 9) tNil)))) (gName 10)) (tSeq (tAsg (tCall (sp_next_of_0 K) [] E0 (tCons (tVar 1) (tCons (tVar 8) (tCons (tVar 9) tNil)))) (gName 11)) (tSeq (tIfS (tAnd (tTest (tOp Lv.rNotN (tVar 10) (tC .non))) (tTest (tOp Lv.rIsN (tVar 11) (tC .non)))) (tRet (tOp Lv.rAddS (tVar 6) (tVar 9))) tNext) (tIfS (tAnd (tTest (tOp Lv.rNotN (tVar 10) (tC .non))) (tB (tDNotIn (tTup (tCons (tVar 10) (tCons (tVar 11) tNil))) (tVar 3)))) (tSeq (sDPut (tVar 3) (tTup (tCons (tVar 10) (tCons (tVar 11) tNil))) (tC (.bl true))) (tDrop (tBM K "list" rAppend (tVar 5) (tCons (tTup (tCons (tOp Lv.rAddS (tVar 6) (tVar 9)) (tCons (tVar 10) (tCons (tVar 11) tNil)))) tNil)))) tNext)))))) (tAsg (tVar 5) (gName 4))))) (tRet (tC .non))))))
-- needs: Lv30 M_part
def sp_parts_0 (K : PySem.W.Frag) : Sp := fun vs H Q _ => ∃ (l m : List Nat), vs = [.str (S l), .str (S m)] ∧ l.length ≤ 200 ∧ m.length ≤ 200 ∧ Low l ∧ ∀ r H', Same H H' → PW l m r → Q (oS r) H'
theorem i_parts_0 {K : PySem.W.Frag} {l m : List Nat} {H : Hp} {Q : VK} {E : XK} (hl : l.length ≤ 200) (hm : m.length ≤ 200) (lw : Low l) (q : ∀ r H', Same H H' → PW l m r → Q (oS r) H') : sp_parts_0 K [.str (S l), .str (S m)] H Q E := ⟨l, m, rfl, hl, hm, lw, q⟩
/-- pairs of places met, as a dict -/
abbrev tdK (ks : List (Nat × Nat)) : List (List Key × V) := ks.map fun k => (k2 k.1 k.2, V.bl true)
theorem td_val (ks : List (Nat × Nat)) (p q : Nat) : (valV (tdK ks) (k2 p q)).isSome = decide ((p, q) ∈ ks) := by
  rw [← valV_any, List.any_map]
  by_cases h : (p, q) ∈ ks
  · rw [decide_eq_true h, List.any_eq_true]
    exact ⟨(p, q), h, by simp⟩
  · rw [decide_eq_false h, List.any_eq_false]
    rintro ⟨a, b⟩ hk z
    have := of_decide_eq_true z
    have := k2_inj.mp this
    obtain ⟨rfl, rfl⟩ := this
    exact h hk
theorem td_put {ks : List (Nat × Nat)} {p q : Nat} (h : (p, q) ∉ ks) : putK (tdK ks) (k2 p q) (.bl true) = tdK (ks ++ [(p, q)]) := by
  have : valV (tdK ks) (k2 p q) = none := by
    have e := td_val ks p q
    rw [decide_eq_false h] at e
    cases x : valV (tdK ks) (k2 p q) with
    | none => rfl
    | some v => rw [x] at e; cases e
  rw [putK_new _ this]
  unfold tdK
  rw [List.map_append]; rfl
abbrev EntAt (H : Hp) : Addr → Ent → Prop := fun t e => H t = some (.tup [.str (S e.1), .int (e.2.1 : Nat), .int (e.2.2 : Nat)])
theorem pure_parts_0 {K : PySem.W.Frag} (vs : List V) (H : Hp) (Q : VK) (E : XK) (h : sp_parts_0 K vs H Q E) : t_parts_0 K { nx := fun _ H' => Q .non H', rt := Q } (start N_parts_0 vs) H := by
  obtain ⟨l, m, rfl, hl, hm, lw, q⟩ := h
  unfold t_parts_0
  tm_at "v"
  refine v_sortSK (by omega) fun ys O H1 up hmy nO s1 hO => ?_
  obtain rfl := lets_is lw up hmy
  have y26 := lets_len l
  tm_at "v"
  refine v_dispT1 fun M H2 nM s2 hM => ?_
  tm_at "v"
  intro T0 H3 nT0 s3 hT0
  tm_at "v"
  refine x_dispT (k := k2 0 0) (s3 _ _ hM) (by rw [hT0]; rfl) fun H4 b4 hM4 => ?_
  have nM0 : H M = none := s1.free nM
  have S4 : Same H H4 := But.new (s1.trans (s2.trans s3)) b4 nM0
  have neOM : O ≠ M := fun z => by subst z; rw [hO] at nM; cases nM
  have hO4 := b4 _ _ neOM (s3 _ _ (s2 _ _ hO))
  tm_at "v"
  intro T1 H5 nT1 s5 hT1
  tm_at "v"
  intro L0 H6 nL0 s6 hL0
  tm_at "v"
  refine wh (fun μ σ H' => ∃ (n : Nat) (lv : List Ent) (ts : List Addr) (L : Addr) (ks : List (Nat × Nat)) (v5 v6 v7 v8 v9 v10 v11 : Option V), μ = l.length + 2 - n ∧ n ≤ l.length + 1 ∧ σ = [some (.str (S l)), some (.str (S m)), some (.ref O), some (.ref M), some (.ref L), v5, v6, v7, v8, v9, v10, v11] ∧ Same H H' ∧ H' O = some (.lst ((lets l).map vc)) ∧ H' M = some (.dT (tdK ks)) ∧ ks.Nodup ∧ H' L = some (.lst (ts.map V.ref)) ∧ Paired (EntAt H') ts lv ∧ Lev l m n (fun p q => (p, q) ∈ ks) lv ∧ lv.length ≤ 100000)
    (l.length + 2) ⟨0, [([], 0, 0)], [T1], L0, [(0, 0)], none, none, none, none, none, none, none, rfl, by omega, rfl, S4.trans (s5.trans s6), s6 _ _ (s5 _ _ hO4), s6 _ _ (s5 _ _ hM4), by simp, hL0, .cons (s6 _ _ hT1) .nil, ?_, by simp⟩ ?_
  · have := Lev.zero l m
    refine ⟨this.no, this.st, this.up, this.all, fun p q h => this.mt p q ?_⟩
    simpa using h
  rintro μ σ H1 ⟨n, lv, ts, L, ks, v5, v6, v7, v8, v9, v10, v11, rfl, hn, rfl, sm1, hO1, hM1, nd, hL1, pr1, lev, hlv⟩
  have prl := pr1.length
  have hwl : ∀ e ∈ lv, e.1.length ≤ 200 ∧ Low e.1 ∧ e.2.1 ≤ l.length ∧ e.2.2 ≤ m.length := fun e he => by
    obtain ⟨h1, h2, h3⟩ := lev.st e he
    have sb := sub_gf.mpr ⟨_, h2⟩
    exact ⟨by have := sb.length_le; omega, lw.sub fun c hc => sb.subset hc, gf_le h2 (Nat.zero_le _), gf_le h3 (Nat.zero_le _)⟩
  tm_at "v"
  intro p2 H2 n2 s2 h2
  refine i_r2E (SqL.of1 (s2 _ _ hL1)) (SqL.of1 h2) (fun x hx => ?_) ?_
  · obtain ⟨t, ht, rfl⟩ := List.mem_map.mp hx
    obtain ⟨i, hi⟩ := List.mem_iff_getElem?.mp ht
    obtain ⟨e, he, hh⟩ := paired_at1 pr1 _ _ hi
    refine Dq.tup (n := 19) (SqT.of1 (s2 _ _ hh)) fun y hy => ?_
    have hy' : y = .str (S e.1) ∨ y = .int (e.2.1 : Nat) ∨ y = .int (e.2.2 : Nat) := by simpa using hy
    rcases hy' with rfl | rfl | rfl
    · exact Dq.str (hwl e (List.mem_of_getElem? he)).2.1.chr
    · exact Dq.int _
    · exact Dq.int _
  tm_at "v"
  refine if_ndec (fun z => ?_) (fun z => ?_)
  · have lne : lv ≠ [] := fun y => z (by subst y; cases pr1; rfl)
    have hnl := lev.len lne
    refine i_turn ?_
    tm_at "v"
    intro Lo H3 nLo s3 hLo
    have S13 := s2.trans s3
    have nLo1 : H1 Lo = none := s2.free nLo
    have neLM : Lo ≠ M := fun y => by subst y; rw [hM1] at nLo1; cases nLo1
    have neLL : Lo ≠ L := fun y => by subst y; rw [hL1] at nLo1; cases nLo1
    have neLO : Lo ≠ O := fun y => by subst y; rw [hO1] at nLo1; cases nLo1
    have neML : M ≠ L := fun y => by subst y; rw [hL1] at hM1; cases hM1
    have neMO : M ≠ O := fun y => by subst y; rw [hO1] at hM1; cases hM1
    have hL3 := S13 _ _ hL1
    have stay : ∀ H', Bu [M] H1 H' → H' O = some (.lst ((lets l).map vc)) ∧ H' L = some (.lst (ts.map V.ref)) ∧ Paired (EntAt H') ts lv := fun H' b => by
      refine ⟨b _ _ (by simpa using neMO.symm) hO1, b _ _ (by simpa using neML.symm) hL1, paired_imp pr1 fun t _ e h => b _ _ (fun y => ?_) h⟩
      have : t = M := by simpa using y
      subst this
      cases hM1.symm.trans h
    tm_at "v"
    tm_at "fo"
    refine f_l (xs := ts.map V.ref) ⟨fun i σ H' => ∃ (lo : List Ent) (us : List Addr) (ks : List (Nat × Nat)) (v6 v7 v8 v9 v10 v11 : Option V), σ = [some (.str (S l)), some (.str (S m)), some (.ref O), some (.ref M), some (.ref L), some (.ref Lo), v6, v7, v8, v9, v10, v11] ∧ Bu [M] H1 H' ∧ H' M = some (.dT (tdK ks)) ∧ ks.Nodup ∧ (∀ k ∈ ks, k.1 ≤ l.length ∧ k.2 ≤ m.length) ∧ H' Lo = some (.lst (us.map V.ref)) ∧ Paired (EntAt H') us lo ∧ lo.length ≤ ks.length ∧ Mid l m n (fun p q => (p, q) ∈ ks) (lvE (lets l) (lv.take i)) lo,
        ⟨[], [], ks, v6, v7, v8, v9, v10, v11, rfl, Bu.same S13, S13 _ _ hM1, nd, ?_, hLo, .nil, Nat.zero_le _, by simpa [lvE] using Mid.start lev.mt⟩, ?_, ?_, ?_⟩
    · rintro ⟨a, b⟩ hk
      obtain ⟨u, _, u2, u3⟩ := lev.mt a b hk
      exact ⟨gf_le u2 (Nat.zero_le _), gf_le u3 (Nat.zero_le _)⟩
    · rintro i σ H' _ ⟨lo, us, ks, v6, v7, v8, v9, v10, v11, rfl, b, _⟩
      exact SqL.of1 (stay _ b).2.1
    · rintro i x σ H0 H' hi ⟨lo, us, ks, v6, v7, v8, v9, v10, v11, rfl, b, hM', nd', kb, hLo', pr', hlo, mid⟩ ⟨rfl, hx⟩
      obtain ⟨st1, st2, st3⟩ := stay _ b
      rw [List.length_map] at hi
      obtain ⟨t, ht⟩ : ∃ t, ts[i]? = some t := ⟨_, List.getElem?_eq_getElem hi⟩
      rw [List.getElem?_map, ht] at hx
      cases hx
      obtain ⟨e, he, hh⟩ := paired_at1 st3 _ _ ht
      obtain ⟨w, p, r⟩ := e
      obtain ⟨g1, g2, g3⟩ := lev.st _ (List.mem_of_getElem? he)
      obtain ⟨w1, w2, w3, w4⟩ := hwl _ (List.mem_of_getElem? he)
      dsimp only at g1 g2 g3 w1 w2 w3 w4 hh
      refine i_gTup (SqT.of1 hh) rfl ?_
      tm_at "v"
      tm_at "fo"
      refine f_l (xs := (lets l).map vc) ⟨fun j σ H' => ∃ (lo : List Ent) (us : List Addr) (ks : List (Nat × Nat)) (v9 v10 v11 : Option V), σ = [some (.str (S l)), some (.str (S m)), some (.ref O), some (.ref M), some (.ref L), some (.ref Lo), some (.str (S w)), some (.int (p : Nat)), some (.int (r : Nat)), v9, v10, v11] ∧ Bu [M] H1 H' ∧ H' M = some (.dT (tdK ks)) ∧ ks.Nodup ∧ (∀ k ∈ ks, k.1 ≤ l.length ∧ k.2 ≤ m.length) ∧ H' Lo = some (.lst (us.map V.ref)) ∧ Paired (EntAt H') us lo ∧ lo.length ≤ ks.length ∧ Mid l m n (fun p q => (p, q) ∈ ks) (eE (lets l) lv i j w) lo,
          ⟨lo, us, ks, v9, v10, v11, rfl, b, hM', nd', kb, hLo', pr', hlo, by rw [eE_zero]; exact mid⟩, ?_, ?_, ?_⟩
      · rintro j σ H' _ ⟨lo, us, ks, v9, v10, v11, rfl, b, _⟩
        exact SqL.of1 (stay _ b).1
      · rintro j x σ H0 H5 hj ⟨lo, us, ks, v9, v10, v11, rfl, b, hM', nd', kb, hLo', pr', hlo, mid⟩ ⟨rfl, hx⟩
        rw [List.length_map] at hj
        obtain ⟨c, hc⟩ : ∃ c, (lets l)[j]? = some c := ⟨_, List.getElem?_eq_getElem hj⟩
        rw [List.getElem?_map, hc] at hx
        cases hx
        have hcl := (List.mem_of_getElem? hc)
        have lc : 97 ≤ c ∧ c ≤ 122 := lets_low l c hcl
        have kl := met_le nd' kb
        have kl2 : (l.length + 1) * (m.length + 1) ≤ 201 * 201 := Nat.mul_le_mul (by omega) (by omega)
        have usl := pr'.length
        have ex := eE_snoc (lv := lv) (i := i) (w := w) hc
        have lt := eE_lt lev (lets_up l) he hc
        have rest := eE_rest lev (lets_up l) he hc
        have gl : gf l 0 (w ++ [c]) = (nextP l p c).map (· + 1) := by rw [gf_snoc, g2]; rfl
        have gm : gf m 0 (w ++ [c]) = (nextP m r c).map (· + 1) := by rw [gf_snoc, g3]; rfl
        dsimp only at lt rest
        dsimp only
        rw [ex]
        unfold vc
        tm_at "v"
        refine i_next_of_0 w3 ?_
        tm_at "v"
        refine i_next_of_0 w4 ?_
        tm_at "v"
        cases en : nextP l p c with
        | none =>
          rw [show oI1 none = V.non from rfl]
          tm_at "v"
          refine ⟨lo, us, ks, _, _, _, rfl, b, hM', nd', kb, hLo', pr', hlo, mid.skip ?_⟩
          rw [← gf_none, gl, en]; rfl
        | some k =>
          rw [show oI1 (some k) = V.int ((k : Nat) + 1 : Int) from rfl]
          rw [en] at gl
          have hk := nextP_lt en
          cases en2 : nextP m r c with
          | none =>
            rw [en2] at gm
            rw [show oI1 none = V.non from rfl]
            tm_at "v"
            refine q (some (w ++ [c])) _ (Bu.to (Bu.trans (Bu.same sm1) b) (by simpa using nM0)) ?_
            refine lev.found mid (sub_gf.mpr ⟨_, gl⟩) (gf_none.mp gm) (by simp [g1]) fun e' he' c' hs => rest e' he' c' ?_
            exact (lets_mem lw).mpr (hs.subset (by simp))
          | some k' =>
            rw [en2] at gm
            have hk' := nextP_lt en2
            rw [show oI1 (some k') = V.int ((k' : Nat) + 1 : Int) from rfl]
            have e1 : ((k : Nat) : Int) + 1 = ((k + 1 : Nat) : Int) := by omega
            have e2 : ((k' : Nat) : Int) + 1 = ((k' + 1 : Nat) : Int) := by omega
            rw [e1, e2]
            tm_at "v"
            intro T6 H6 nT6 s6 hT6
            have hM6 := s6 _ _ hM'
            have hLo6 := s6 _ _ hLo'
            tm_at "v"
            refine x_dInT (k := k2 (k + 1) (k' + 1)) (Rd.of hM6) (by rw [hT6]; rfl) ?_
            rw [td_val]
            tm_at "v"
            refine if_ndec (fun z => ?_) (fun z => ?_)
            · tm_at "v"
              intro T7 H7 nT7 s7 hT7
              have hM7 := s7 _ _ hM6
              tm_at "v"
              refine v_dPutT (k := k2 (k + 1) (k' + 1)) hM7 (by rw [hT7]; rfl) (lt_line (by rw [List.length_map]; omega)) fun H8 b8 h8 => ?_
              rw [td_put z] at h8
              have hLo8 := b8 _ _ neLM (s7 _ _ hLo6)
              tm_at "v"
              refine i_tBMl (SqL.of1 hLo8) ?_
              tm_at "v"
              intro T9 H9 nT9 s9 hT9
              tm_at "v"
              have hLo9 := s9 _ _ hLo8
              refine v_app hLo9 (lt_line (by rw [List.length_map]; omega)) fun H10 b10 h10 => ?_
              have B8 : Bu [M] H1 H9 := Bu.trans b (Bu.trans (Bu.same (s6.trans s7)) (Bu.trans (Bu.but (by simp) b8) (Bu.same s9)))
              refine ⟨lo ++ [(w ++ [c], k + 1, k' + 1)], us ++ [T9], ks ++ [(k + 1, k' + 1)], _, _, _, rfl, Bu.new B8 (Bu.but (as := [Lo]) (by simp) b10) (fun a ha => .inr (by rw [List.mem_singleton.mp ha]; exact nLo1)), b10 _ _ neLM.symm (s9 _ _ h8), ?_, ?_, by rw [h10, List.map_append]; rfl, ?_, by simp; omega, ?_⟩
              · rw [List.nodup_append]
                exact ⟨nd', by simp, fun a ha b hb => by rw [List.mem_singleton.mp hb]; rintro rfl; exact z ha⟩
              · intro x hx
                rcases List.mem_append.mp hx with y | y
                · exact kb x y
                · rw [List.mem_singleton.mp y]; exact ⟨by simp; omega, by simp; omega⟩
              · refine paired_snocP (F := EntAt H10) (b10 _ _ (fun y => by subst y; rw [hLo8] at nT9; cases nT9) hT9) (paired_imp pr' fun t _ e h => ?_)
                have h8' := b8 _ _ (fun y => by subst y; cases hM'.symm.trans h) (s7 _ _ (s6 _ _ h))
                exact b10 _ _ (fun y => by subst y; cases hLo8.symm.trans h8') (s9 _ _ h8')
              · have := mid.new lt (by simp [g1]) gl gm
                refine ⟨this.st, this.up, this.sub, this.cov, fun p q h => this.mt p q ?_⟩
                rcases List.mem_append.mp h with y | y
                · exact .inl y
                · have := List.mem_singleton.mp y
                  cases this
                  exact .inr ⟨rfl, rfl⟩
            · tm_at "v"
              have hz : (k + 1, k' + 1) ∈ ks := z
              exact ⟨lo, us, ks, _, _, _, rfl, b.trans (Bu.same s6), hM6, nd', kb, hLo6, paired_imp pr' fun t _ e h => s6 _ _ h, hlo, mid.old lt gl gm hz⟩
      · rintro σ H5 ⟨lo, us, ks, v9, v10, v11, rfl, b, hM', nd', kb, hLo', pr', hlo, mid⟩
        rw [List.length_map] at mid
        exact ⟨lo, us, ks, _, _, _, _, _, _, rfl, b, hM', nd', kb, hLo', pr', hlo, by rw [eE_full he]; exact mid⟩
    · rintro σ H5 ⟨lo, us, ks, v6, v7, v8, v9, v10, v11, rfl, b, hM', nd', kb, hLo', pr', hlo, mid⟩
      have kl := met_le nd' kb
      have kl2 : (l.length + 1) * (m.length + 1) ≤ 201 * 201 := Nat.mul_le_mul (by omega) (by omega)
      rw [List.length_map, prl, List.take_length] at mid
      tm_at "v"
      refine ⟨l.length + 2 - (n + 1), by omega, n + 1, lo, us, Lo, ks, _, _, _, _, _, _, _, rfl, by omega, rfl, Bu.to (Bu.trans (Bu.same sm1) b) (by simpa using nM0), (stay _ b).1, hM', nd', hLo', pr', lev.next (fun e he c hs => lvE_mem (w := []) he ((lets_mem lw).mpr (hs.subset (by simp)))) mid, by omega⟩
  · have e : lv = [] := by
      have : ts = [] := by simpa using z
      subst this; cases pr1; rfl
    subst e
    tm_at "v"
    exact q none _ (sm1.trans s2) lev.none
theorem i_isN_oS {r : Option (List Nat)} {H : Hp} {Q : VK} (q : Q (.bl r.isNone) H) : rIsN (oS r) .non H Q := by
  cases r with
  | none => exact i_isN_n q
  | some w => exact i_isN_s q
/-! ways_from_0(row, other): slots 0 row, 1 other, 2 found, 3 place, 4 at, 5 letter -/
abbrev N_ways_from_0 : List Str := ["row", "other", "found", "place", "at", "letter"]
def t_ways_from_0 (K : PySem.W.Frag) : TS :=
  (tSeq (tAsg (tLc (iRng1 (tCons (tOp Lv.rAdd (tCB Lv.rLenT (tCons (tVar 0) tNil)) (tC (.int 1))) tNil)) (gName 3) tYes (tOp L2.rCat (tOp L2.rRep (tLst (tCons (tC (.int 0)) tNil)) (tCB Lv.rLenT (tCons (tVar 1) tNil))) (tLst (tCons (tC (.int 1)) tNil))) [3]) (gName 2)) (tSeq (tFor (iRng3 (tCons (tOp Lv.rSub (tCB Lv.rLenT (tCons (tVar 0) tNil)) (tC (.int 1))) (tCons (tUn Lv.rNeg (tC (.int 1))) (tCons (tUn Lv.rNeg (tC (.int 1))) tNil)))) (gName 3) (tFor (Lv.iEnumS (tCons (tVar 1) tNil)) (gTup K 2 (gCons (gName 4) (gCons (gName 5) gNil))) (tSeq (tAsg (tOp (rIxL K) (tOp (rIxL K) (tVar 2) (tOp Lv.rAdd (tVar 3) (tC (.int 1)))) (tVar 4)) (gSub (tOp (rIxL K) (tVar 2) (tVar 3)) (tVar 4) rSetL)) (tIfS (tTest (tOp Lv.rEqS (tOp Lv.rIxT1 (tVar 0) (tVar 3)) (tVar 5))) (tAugS (tOp (rIxL K) (tVar 2) (tVar 3)) (tVar 4) (tOp (rIxL K) (tOp (rIxL K) (tVar 2) (tOp Lv.rAdd (tVar 3) (tC (.int 1)))) (tOp Lv.rAdd (tVar 4) (tC (.int 1)))) (rIxL K) (ipI fun i j => i + j) rSetL) tNext)))) (tRet (tVar 2))))
-- needs: M_ways
/-- a table of rows at the addresses rs -/
def Tab (H : Hp) (rs : List Addr) (f : Nat → List Int) : Prop := ∀ (r : Nat) (a : Addr), rs[r]? = some a → H a = some (.lst ((f r).map V.int))
theorem Tab.upd {H : Hp} {rs : List Addr} {f : Nat → List Int} (T : Tab H rs f) (nd : rs.Nodup) {k : Nat} {a : Addr} (ha : rs[k]? = some a) (v : List Int) : Tab (L2.upd H a (.lst (v.map V.int))) rs (fun r => if r = k then v else f r) := by
  intro r b hb
  by_cases e : r = k
  · subst e
    rw [ha] at hb
    cases hb
    rw [upd_same]
    simp
  · have hne : b ≠ a := by
      intro z
      subst z
      obtain ⟨h1, e1⟩ := List.getElem?_eq_some_iff.mp ha
      obtain ⟨h2, e2⟩ := List.getElem?_eq_some_iff.mp hb
      exact e ((List.getElem_inj nd).mp (e2.trans e1.symm))
    rw [upd_ne hne]
    simp only [if_neg e]
    exact T r b hb
theorem Tab.same {H H' : Hp} {rs : List Addr} {f : Nat → List Int} (T : Tab H rs f) (s : Same H H') : Tab H' rs f := fun r a h => s _ _ (T r a h)
theorem Tab.congr {H : Hp} {rs : List Addr} {f g : Nat → List Int} (T : Tab H rs f) (h : ∀ r, r < rs.length → f r = g r) : Tab H rs g := fun r a ha => by
  rw [← h r (List.getElem?_eq_some_iff.mp ha).1]
  exact T r a ha
theorem Tab.updN {H : Hp} {rs : List Addr} {f : Nat → List Int} (T : Tab H rs f) {p : Addr} {o : HO} (n : p ∉ rs) : Tab (L2.upd H p o) rs f := fun r a h => by
  rw [upd_ne fun z => n (by rw [← z]; exact List.mem_of_getElem? h)]
  exact T r a h
def sp_ways_from_0 (K : PySem.W.Frag) : Sp := fun vs H Q _ => ∃ (l m : List Nat), vs = [.str (S l), .str (S m)] ∧ l.length ≤ 1000 ∧ m.length ≤ 1000 ∧
  ∀ (p : Addr) (rs : List Addr) (H' : Hp), H p = none → Same H H' → rs.length = l.length + 1 → H' p = some (.lst (rs.map V.ref)) → Tab H' rs (fun r => wrow (l.drop r) m) → Q (.ref p) H'
theorem rep_ints (n : Nat) (k : Int) : (List.replicate n [V.int k]).flatten = (List.replicate n k).map V.int := by
  induction n with
  | zero => rfl
  | succ n ih => rw [List.replicate_succ, List.flatten_cons, ih, List.replicate_succ]; rfl
theorem pure_ways_from_0 {K : PySem.W.Frag} (vs : List V) (H : Hp) (Q : VK) (E : XK) (h : sp_ways_from_0 K vs H Q E) : t_ways_from_0 K { nx := fun _ H' => Q .non H', rt := Q } (start N_ways_from_0 vs) H := by
  obtain ⟨l, m, rfl, hl, hm, q⟩ := h
  unfold t_ways_from_0
  tm_at "w"
  tm_at "lc"
  -- the rows made
  refine c_r fun D nD => ⟨fun i acc H' => Same H H' ∧ ∃ rs : List Addr, acc = rs.map V.ref ∧ rs.length = i ∧ rs.Nodup ∧ D ∉ rs ∧ (∀ a ∈ rs, H a = none) ∧ Tab H' rs (fun _ => wrow [] m), ⟨same_new nD, [], rfl, rfl, List.nodup_nil, by simp, by simp, fun r a h => by simp at h⟩, ?_, ?_⟩
  · rintro i acc x H0 H' hi hacc hD ⟨sm, rs, rfl, hrl, nd, hDn, hnew, T⟩ ⟨rfl, rfl⟩
    tm_at "w"
    refine ⟨rfl, ?_⟩
    tm_at "w"
    refine ⟨by tm_at "z", fun p1 n1 => ?_⟩
    tm_at "w"
    refine i_rep upd_same (by omega) (by omega) (le_line (by simp; omega)) fun p2 n2 => ?_
    tm_at "w"
    refine ⟨by tm_at "z", fun p3 n3 => ?_⟩
    rw [Int.toNat_natCast, rep_ints] at *
    have s1 := same_new (o := .lst [V.int 0]) n1
    have s2 := same_new (o := .lst ((List.replicate m.length (0 : Int)).map V.int)) n2
    have s3 := same_new (o := .lst [V.int 1]) n3
    refine i_cat (s3 _ _ upd_same) upd_same (le_line (by simp; omega)) fun p4 n4 => ?_
    have s4 := same_new (o := .lst ((List.replicate m.length (0 : Int)).map V.int ++ [V.int 1])) n4
    have e : (List.replicate m.length (0 : Int)).map V.int ++ [V.int 1] = (wrow [] m).map V.int := by rw [← wrow_init, List.map_append]; rfl
    rw [e] at s4 ⊢
    have s := s1.trans (s2.trans (s3.trans s4))
    have nH' : H' p4 = none := (s1.trans (s2.trans s3)).free n4
    have nH : H p4 = none := sm.free nH'
    have nDp : D ≠ p4 := ne_of_none hD nH'
    have np4 : p4 ∉ rs := fun z => by
      obtain ⟨r, hr⟩ := List.mem_iff_getElem?.mp z
      rw [T r p4 hr] at nH'
      cases nH'
    refine lc_put (s _ _ hD) hacc (by omega) ⟨(sm.trans s).updN nD, rs ++ [p4], by rw [List.map_append]; rfl, by simp [hrl], ?_, ?_, ?_, ?_⟩
    · rw [List.nodup_append]
      exact ⟨nd, by simp, fun a ha b hb => by rw [List.mem_singleton.mp hb]; exact fun z => np4 (z ▸ ha)⟩
    · intro z
      rcases List.mem_append.mp z with z | z
      · exact hDn z
      · exact nDp (List.mem_singleton.mp z)
    · intro a ha
      rcases List.mem_append.mp ha with z | z
      · exact hnew a z
      · rw [List.mem_singleton.mp z]; exact nH
    · refine Tab.updN (fun r a hr => ?_) ?_
      · by_cases z : r < rs.length
        · rw [List.getElem?_append_left z] at hr
          exact (T.same s) r a hr
        · rw [List.getElem?_append_right (by omega)] at hr
          have : p4 = a := by
            rcases Nat.eq_zero_or_pos (r - rs.length) with e0 | e0
            · rw [e0] at hr; exact Option.some.inj hr
            · rw [List.getElem?_eq_none (by simp; omega)] at hr; cases hr
          rw [← this]
          exact upd_same
      · intro z
        rcases List.mem_append.mp z with z | z
        · exact hDn z
        · exact nDp (List.mem_singleton.mp z)
  · rintro acc H1 hacc hD ⟨sm, rs, rfl, hrl, nd, hDn, hnew, T⟩
    have hrl' : rs.length = l.length + 1 := by omega
    tm_at "w"
    tm_at "fo"
    refine f_c ⟨fun i σ H' => ∃ v3 v4 v5 : Option V, σ = [some (.str (S l)), some (.str (S m)), some (.ref D), v3, v4, v5] ∧ Same H H' ∧ H' D = some (.lst (rs.map V.ref)) ∧ Tab H' rs (fun r => if l.length - i ≤ r then wrow (l.drop r) m else wrow [] m),
      ⟨none, none, none, rfl, sm, hD, T.congr fun r hr => ?_⟩, ?_, ?_⟩
    · by_cases z : l.length - 0 ≤ r
      · rw [if_pos z, List.drop_of_length_le (by omega)]
      · rw [if_neg z]
    · rintro i x σ H0 H' hi ⟨v3, v4, v5, rfl, sm', hD', T'⟩ ⟨rfl, rfl⟩
      obtain ⟨pl, epl⟩ : ∃ pl : Nat, l.length = pl + 1 + i := ⟨l.length - 1 - i, by omega⟩
      have e3 : (l.length : Int) - 1 + (i : Int) * -1 = (pl : Int) := by omega
      rw [e3]
      have hpl : pl < l.length := by omega
      obtain ⟨a, ha⟩ : ∃ a, rs[pl]? = some a := ⟨_, List.getElem?_eq_getElem (by omega)⟩
      obtain ⟨b, hb⟩ : ∃ b, rs[pl + 1]? = some b := ⟨_, List.getElem?_eq_getElem (by omega)⟩
      have hab : b ≠ a := fun z => by
        subst z
        obtain ⟨h1, e1⟩ := List.getElem?_eq_some_iff.mp ha
        obtain ⟨h2, e2⟩ := List.getElem?_eq_some_iff.mp hb
        have := (List.getElem_inj nd).mp (e2.trans e1.symm)
        omega
      have hDa : D ≠ a := fun z => hDn (z ▸ List.mem_of_getElem? ha)
      have hl3 : l[pl]? = some l[pl] := List.getElem?_eq_getElem hpl
      tm_at "w"
      tm_at "fo"
      refine f_t ⟨fun j σ H2 => ∃ v4 v5 : Option V, σ = [some (.str (S l)), some (.str (S m)), some (.ref D), some (.int (pl : Int)), v4, v5] ∧ Same H H2 ∧ H2 D = some (.lst (rs.map V.ref)) ∧
        Tab H2 rs (fun r => if r = pl then prow (l.drop pl) m j else if l.length - i ≤ r then wrow (l.drop r) m else wrow [] m), ⟨v4, v5, rfl, sm', hD', T'.congr fun r hr => ?_⟩, ?_, ?_⟩
      · by_cases z : r = pl
        · subst z
          rw [if_pos rfl, prow_zero, if_neg (by omega)]
        · rw [if_neg z]
      · rintro j x σ H2 H3 hj ⟨v4, v5, rfl, sm2, hD2, T2⟩ ⟨t, xs, rfl, nt, rfl, c, hc, rfl⟩
        have st := same_new (o := .tup [V.int (j : Nat), .str (S [c])]) nt
        have hD3 := st _ _ hD2
        have T3 := T2.same st
        have sm3 := sm2.trans st
        have at_ : upd H2 t (.tup [V.int (j : Nat), .str (S [c])]) t = some (.tup [V.int (j : Nat), .str (S [c])]) := upd_same
        generalize upd H2 t (.tup [V.int (j : Nat), .str (S [c])]) = H4 at *
        clear st T2 hD2 sm2 nt
        have ga := T3 pl a ha
        have gb := T3 (pl + 1) b hb
        simp only [if_true] at ga
        dsimp only at gb
        rw [if_neg (by omega), if_pos (by omega)] at gb
        have gj : ∀ k : Nat, k ≤ m.length → atI ((wrow (l.drop (pl + 1)) m).map V.int) (k : Int) = some (.int ((W (l.drop (pl + 1)) (m.drop k) : Nat) : Int)) := fun k hk => atI_nat (by rw [List.getElem?_map, wrow_get _ _ hk]; rfl)
        have rr : ∀ (k : Nat) (z : Addr), rs[k]? = some z → atI (rs.map V.ref) (k : Int) = some (.ref z) := fun k z hz => atI_nat (by rw [List.getElem?_map, hz]; rfl)
        refine i_gTup (SqT.of1 at_) rfl ?_
        tm_at "w"
        refine i_ixL (SqL.of1 hD3) (rr (pl + 1) b hb) ?_
        tm_at "w"
        refine i_ixL (SqL.of1 gb) (gj j (by omega)) ?_
        tm_at "w"
        refine i_ixL (SqL.of1 hD3) (rr pl a ha) ?_
        tm_at "w"
        refine i_setL (j := j) ga (by rw [List.length_map, prow_length]; exact ix_nat (by omega)) ?_
        tm_at "w"
        refine i_ixS (le_line (by omega)) (atI_nat hl3) ?_
        tm_at "w"
        have fin : ∀ v : Int, v = ((W (l.drop pl) (m.drop j) : Nat) : Int) → ∃ v4 v5 : Option V, [some (V.str (S l)), some (.str (S m)), some (.ref D), some (.int (pl : Int)), some (.int (j : Nat)), some (.str (S [c]))] = [some (.str (S l)), some (.str (S m)), some (.ref D), some (.int (pl : Int)), v4, v5] ∧ Same H (upd H4 a (.lst (((prow (l.drop pl) m j).set j v).map V.int))) ∧ (upd H4 a (.lst (((prow (l.drop pl) m j).set j v).map V.int))) D = some (.lst (rs.map V.ref)) ∧
            Tab (upd H4 a (.lst (((prow (l.drop pl) m j).set j v).map V.int))) rs (fun r => if r = pl then prow (l.drop pl) m (j + 1) else if l.length - i ≤ r then wrow (l.drop r) m else wrow [] m) := by
          intro v hv
          refine ⟨_, _, rfl, sm3.updN (hnew a (List.mem_of_getElem? ha)), by rw [upd_ne hDa]; exact hD3, (T3.upd nd ha _).congr fun r hr => ?_⟩
          by_cases z : r = pl
          · rw [if_pos z, if_pos z, hv, prow_set _ _ _ hj]
          · rw [if_neg z, if_neg z, if_neg z]
        refine if_dec (fun z => ?_) (fun z => ?_)
        · have zc : l[pl] = c := by injection z
          tm_at "w"
          refine i_ixL (SqL.of1 (by rw [upd_ne hDa]; exact hD3)) (rr pl a ha) ?_
          tm_at "w"
          refine i_ixL (v := .int ((W (l.drop (pl + 1)) (m.drop j) : Nat) : Int)) (SqL.of1 upd_same) (atI_nat (by rw [List.getElem?_set_self (by rw [List.length_map, prow_length]; omega)])) ?_
          tm_at "w"
          refine i_ixL (SqL.of1 (by rw [upd_ne hDa]; exact hD3)) (rr (pl + 1) b hb) ?_
          tm_at "w"
          refine i_ixL (SqL.of1 (by rw [upd_ne hab]; exact gb)) (gj (j + 1) (by omega)) ?_
          tm_at "w"
          refine i_setL (j := j) upd_same (by rw [List.length_set, List.length_map, prow_length]; exact ix_nat (by omega)) ?_
          tm_at "w"
          rw [upd_upd, List.set_set, ← List.map_set]
          refine fin _ ?_
          rw [W_drop hl3 hc, if_pos zc]
          omega
        · have zc : l[pl] ≠ c := fun y => z (by rw [y])
          tm_at "w"
          rw [← List.map_set]
          refine fin _ ?_
          rw [W_drop hl3 hc, if_neg zc]
          omega
      · rintro σ H2 ⟨v4, v5, rfl, sm2, hD2, T2⟩
        refine ⟨_, v4, v5, rfl, sm2, hD2, T2.congr fun r hr => ?_⟩
        by_cases z : r = pl
        · subst z
          rw [if_pos rfl, prow_last, if_pos (by omega)]
        · rw [if_neg z]
          by_cases y : l.length - i ≤ r
          · rw [if_pos y, if_pos (by omega)]
          · rw [if_neg y, if_neg (by omega)]
    · rintro σ H' ⟨v3, v4, v5, rfl, sm', hD', T'⟩
      tm_at "w"
      refine q D rs H' nD sm' hrl' hD' (T'.congr fun r hr => ?_)
      rw [if_pos (by omega)]
/-! many_ways_0(row, other): slots 0 row, 1 other -/
abbrev N_many_ways_0 : List Str := ["row", "other"]
def t_many_ways_0 (K : PySem.W.Frag) : TS :=
  (tRet (tOp (rIxL K) (tOp (rIxL K) (tCall (sp_ways_from_0 K) [] E0 (tCons (tVar 0) (tCons (tVar 1) tNil))) (tC (.int 0))) (tC (.int 0))))
-- needs: M_ways
def sp_many_ways_0 (K : PySem.W.Frag) : Sp := fun vs H Q _ => ∃ (l m : List Nat), vs = [.str (S l), .str (S m)] ∧ l.length ≤ 1000 ∧ m.length ≤ 1000 ∧ ∀ H', Same H H' → Q (.int ((W l m : Nat) : Int)) H'
theorem i_many_ways_0 {K : PySem.W.Frag} {l m : List Nat} {H : Hp} {Q : VK} {E : XK} (h1 : l.length ≤ 1000) (h2 : m.length ≤ 1000) (q : ∀ H', Same H H' → Q (.int ((W l m : Nat) : Int)) H') : sp_many_ways_0 K [.str (S l), .str (S m)] H Q E := ⟨l, m, rfl, h1, h2, q⟩
theorem pure_many_ways_0 {K : PySem.W.Frag} (vs : List V) (H : Hp) (Q : VK) (E : XK) (h : sp_many_ways_0 K vs H Q E) : t_many_ways_0 K { nx := fun _ H' => Q .non H', rt := Q } (start N_many_ways_0 vs) H := by
  obtain ⟨l, m, rfl, hl, hm, q⟩ := h
  unfold t_many_ways_0
  tm_at "w"
  refine ⟨l, m, rfl, hl, hm, fun p rs H' np sm hrl hp T => ?_⟩
  tm_at "w"
  obtain ⟨a, ha⟩ : ∃ a, rs[0]? = some a := ⟨_, List.getElem?_eq_getElem (by omega)⟩
  refine i_ixL (v := .ref a) (SqL.of1 hp) (atI_nat (j := 0) (by rw [List.getElem?_map, ha]; rfl)) ?_
  tm_at "w"
  refine i_ixL (v := .int ((W l m : Nat) : Int)) (SqL.of1 (T 0 a ha)) (atI_nat (j := 0) (by rw [List.getElem?_map]; show Option.map V.int (wrow (l.drop 0) m)[0]? = _; rw [wrow_get _ _ (Nat.zero_le _)]; rfl)) ?_
  exact q H' sm
/-! Desk_0_alone(self, words): slots 0 self, 1 words, 2 row, 3 found -/
abbrev N_Desk_0_alone : List Str := ["self", "words", "row", "found"]
def t_Desk_0_alone (K : PySem.W.Frag) (C_Desk : Addr) (C_Growing : Addr) (er : Nat → Addr) (E : XK) : TS :=
  (tSeq (tAsg (tMeth C_Growing "row" (sp_Growing_1_row K C_Growing) [] E0 (tFld K (tVar 0) "grown") tNil) (gName 2)) (tSeq (tIfS (tTest (tOp Lv.rEqS (tVar 1) (tC (.str (S [117, 110, 100, 111]))))) (tRet (tIf (tB (tMeth C_Growing "undo" (sp_Growing_1_undo K C_Growing) [] E0 (tFld K (tVar 0) "grown") tNil)) (tC (.str (S [111, 107]))) (tC (.str (S [110, 111, 110, 101]))))) tNext) (tSeq (tIfS (tTest (tOp Lv.rEqS (tVar 1) (tC (.str (S [115, 104, 111, 119]))))) (tRet (tOp Lv.rAddS (tOp Lv.rAddS (tCall (sp_shown_0 K) [] E0 (tCons (tVar 2) tNil)) (tC (.str (S [32])))) (tCall (sp_shown_0 K) [] E0 (tCons (tFld K (tVar 0) "beside") tNil)))) tNext) (tSeq (tIfS (tTest (tOp Lv.rEqS (tVar 1) (tC (.str (S [109, 97, 110, 121]))))) (tRet (tCB Lv.rStrI (tCons (tMeth C_Growing "many" (sp_Growing_1_many K C_Growing) [] E0 (tFld K (tVar 0) "grown") tNil) tNil))) tNext) (tSeq (tIfS (tTest (tOp Lv.rEqS (tVar 1) (tC (.str (S [108, 101, 110, 103, 116, 104, 115]))))) (tRet (tCall (sp_show_list_0 K) [] E0 (tCons (tMeth C_Growing "lengths" (sp_Growing_1_lengths K C_Growing) [] E0 (tFld K (tVar 0) "grown") tNil) tNil))) tNext) (tSeq (tIfS (tTest (tOp Lv.rEqS (tVar 1) (tC (.str (S [119, 97, 121, 115]))))) (tRet (tCB Lv.rStrI (tCons (tCall (sp_many_ways_0 K) [] E0 (tCons (tVar 2) (tCons (tFld K (tVar 0) "beside") tNil))) tNil))) tNext) (tSeq (tIfS (tTest (tOp Lv.rEqS (tVar 1) (tC (.str (S [99, 111, 109, 109, 111, 110]))))) (tRet (tOp Lv.rAddS (Lv.tFs1 (tCall (sp_many_common_0 K) [] E0 (tCons (tVar 2) (tCons (tFld K (tVar 0) "beside") tNil))) [32]) (tCall (sp_shown_0 K) [] E0 (tCons (tCall (sp_longest_common_0 K) [] E0 (tCons (tVar 2) (tCons (tFld K (tVar 0) "beside") tNil))) tNil)))) tNext) (tSeq (tIfS (tTest (tOp Lv.rEqS (tVar 1) (tC (.str (S [112, 97, 114, 116, 115]))))) (tSeq (tAsg (tCall (sp_parts_0 K) [] E0 (tCons (tVar 2) (tCons (tFld K (tVar 0) "beside") tNil))) (gName 3)) (tRet (tIf (tTest (tOp Lv.rIsN (tVar 3) (tC .non))) (tC (.str (S [45]))) (tVar 3)))) tNext) (Lv.tRaise E (er 1))))))))))
-- needs: Lv43 M_shown M_len M_rows M_comm M_long M_part M_way Q_Desk_0_init Q_parts_0
theorem pw_ex (l m : List Nat) : ∃ p : Option (List Nat), (∃ r, PW l m r) → PW l m p := by
  by_cases h : ∃ r, PW l m r
  · exact ⟨h.choose, fun _ => h.choose_spec⟩
  · exact ⟨none, fun z => absurd z h⟩
/-- what parts the rows -/
noncomputable def pt (l m : List Nat) : Option (List Nat) := (pw_ex l m).choose
theorem pt_is {l m : List Nat} {r : Option (List Nat)} (h : PW l m r) : pt l m = r := ((pw_ex l m).choose_spec ⟨r, h⟩).uniq h
/-- the answer to a row of one word, and the row behind it -/
noncomputable def aloneA (l m w : List Nat) : Option (List Nat × List Nat) :=
  if w = [117, 110, 100, 111] then some (if l = [] then [110, 111, 110, 101] else [111, 107], l.dropLast)
  else if w = [115, 104, 111, 119] then some (shn1 l ++ [32] ++ shn1 m, l)
  else if w = [109, 97, 110, 121] then some (TL.numL (cn l), l)
  else if w = [108, 101, 110, 103, 116, 104, 115] then some (wrt (lens l), l)
  else if w = [119, 97, 121, 115] then some (TL.numL (W l m), l)
  else if w = [99, 111, 109, 109, 111, 110] then some (TL.numL (cc l m) ++ [32] ++ shn1 (cf l m), l)
  else if w = [112, 97, 114, 116, 115] then some ((pt l m).getD [45], l)
  else none
theorem n30 {n k : Nat} (h : n ≤ 2 ^ k) (hk : k ≤ 80) : n < 10 ^ 30 := by
  have h2 : 2 ^ k ≤ 2 ^ 80 := Nat.pow_le_pow_right (by decide) hk
  have h3 : 2 ^ 80 < 10 ^ 30 := by decide
  omega
theorem n500 {n : Nat} (h : n < 10 ^ 30) : n < 10 ^ 500 := Nat.lt_trans h (Nat.pow_lt_pow_right (by decide) (by decide))
theorem n100 {n : Nat} (h : n < 10 ^ 30) : n < 10 ^ 100 := Nat.lt_trans h (Nat.pow_lt_pow_right (by decide) (by decide))
def sp_Desk_0_alone (K : PySem.W.Frag) (C Cg : Addr) (er : Nat → Addr) : Sp := fun vs H Q E => ∃ (x g : Addr) (l m w : List Nat), vs = [.ref x, .str (S w)] ∧ DkAt C Cg H x g l m ∧ (∀ a l', aloneA l m w = some (a, l') → ∀ H', But g H H' → DkAt C Cg H' x g l' m → Q (.str (S a)) H') ∧ (aloneA l m w = none → ∀ H', Same H H' → E (.ref (er 1)) none H')
theorem pure_Desk_0_alone {K : PySem.W.Frag} {C Cg : Addr} {er : Nat → Addr} (Z : Kl K C ["grown", "beside"]) (Y : Kl K Cg ["letters"]) (vs : List V) (H : Hp) (Q : VK) (E : XK) (h : sp_Desk_0_alone K C Cg er vs H Q E) : t_Desk_0_alone K C Cg er E { nx := fun _ H' => Q .non H', rt := Q } (start N_Desk_0_alone vs) H := by
  obtain ⟨x, g, l, m, w, rfl, hd, q, r⟩ := h
  have xg := hd.ne
  have l80 := hd.l80
  have lw := hd.low
  obtain ⟨⟨dx, hx⟩, hg, lwm, lm⟩ := id hd
  have fin : ∀ a, aloneA l m w = some (a, l) → ∀ H', Same H H' → Q (.str (S a)) H' := fun a e H' s => q a l e H' s.but (hd.same s)
  unfold aloneA at q r fin
  unfold t_Desk_0_alone
  tm_at "v"
  refine x_flM Z (by decide +kernel) hx lk2_a ?_
  refine i_Growing_row hg (fun R k => by tm_at "v"; exact k) ?_
  tm_at "v"
  refine if_dec (fun z => ?_) (fun z => ?_)
  · tm_at "v"
    refine x_flM Z (by decide +kernel) hx lk2_a ?_
    refine i_Growing_undo hg (fun R k => by tm_at "v"; exact k) fun H1 b1 hg1 => ?_
    have := q _ _ (if_pos z) H1 b1 ⟨⟨dx, b1 _ _ xg hx⟩, hg1, lwm, lm⟩
    tm_at "v"
    by_cases e : l = []
    · rw [if_pos e] at this
      rw [decide_eq_true e]
      tm_at "v"
      exact this
    · rw [if_neg e] at this
      rw [decide_eq_false e]
      tm_at "v"
      exact this
  rw [if_neg z] at q r fin
  tm_at "v"
  refine if_dec (fun z => ?_) (fun z => ?_)
  · tm_at "v"
    refine i_shown_0 ?_
    have a1 := shn1_len l80 (by decide)
    have a2 := shn1_len lm (by decide)
    tm_at "v"
    refine x_flM Z (by decide +kernel) hx (lk2_b (by decide +kernel)) ?_
    tm_at "v"
    refine i_shown_0 ?_
    tm_at "v"
    exact fin _ (if_pos z) _ (Same.refl _)
  rw [if_neg z] at q r fin
  tm_at "v"
  refine if_dec (fun z => ?_) (fun z => ?_)
  · tm_at "v"
    refine x_flM Z (by decide +kernel) hx lk2_a ?_
    refine i_Growing_many hg (fun R k => by tm_at "v"; exact k) fun H1 s1 => ?_
    tm_at "v"
    refine i_strN (n500 (n30 (cn_le l lw) l80)) ?_
    exact fin _ (if_pos z) _ s1
  rw [if_neg z] at q r fin
  tm_at "v"
  refine if_dec (fun z => ?_) (fun z => ?_)
  · tm_at "v"
    refine x_flM Z (by decide +kernel) hx lk2_a ?_
    refine i_Growing_lengths hg (fun R k => by tm_at "v"; exact k) fun p H1 n1 s1 h1 => ?_
    tm_at "v"
    refine i_show_list_0 h1 (by rw [lens_len]; omega) (fun n hn => ?_) fun H2 s2 => ?_
    · unfold lens at hn
      obtain ⟨k, _, rfl⟩ := List.mem_map.mp hn
      exact n100 (n30 (Nat.le_trans (cl_le k l) (cn_le l lw)) l80)
    exact fin _ (if_pos z) _ (s1.trans s2)
  rw [if_neg z] at q r fin
  tm_at "v"
  refine if_dec (fun z => ?_) (fun z => ?_)
  · tm_at "v"
    refine x_flM Z (by decide +kernel) hx (lk2_b (by decide +kernel)) ?_
    tm_at "v"
    refine i_many_ways_0 (by omega) (by omega) fun H1 s1 => ?_
    tm_at "v"
    refine i_strN (n500 (n30 (W_le l m) l80)) ?_
    exact fin _ (if_pos z) _ s1
  rw [if_neg z] at q r fin
  tm_at "v"
  refine if_dec (fun z => ?_) (fun z => ?_)
  · tm_at "v"
    refine i_fs1 ?_
    tm_at "v"
    refine x_flM Z (by decide +kernel) hx (lk2_b (by decide +kernel)) ?_
    tm_at "v"
    refine i_many_common_0 (by omega) (by omega) fun H1 s1 => ?_
    have c30 := n30 (Nat.le_trans (cc_le_l l m) (cn_le l lw)) l80
    have cl30 : (TL.numL (cc l m)).length ≤ 30 := TL.numL_len (by decide) c30
    refine x_fs1 (n500 c30) (by simp; omega) ?_
    tm_at "v"
    refine x_flM Z (by decide +kernel) (s1 _ _ hx) (lk2_b (by decide +kernel)) ?_
    tm_at "v"
    refine i_longest_common_0 (by omega) (by omega) lw fun H2 s2 => ?_
    tm_at "v"
    refine i_shown_0 ?_
    obtain ⟨c1, _⟩ := cf_in (m := m) lw
    have a1 := shn1_len (Nat.le_trans c1.length_le l80) (by decide)
    tm_at "v"
    exact fin _ (if_pos z) _ (s1.trans s2)
  rw [if_neg z] at q r fin
  tm_at "v"
  refine if_dec (fun z => ?_) (fun z => ?_)
  · tm_at "v"
    refine x_flM Z (by decide +kernel) hx (lk2_b (by decide +kernel)) ?_
    tm_at "v"
    refine i_parts_0 (by omega) (by omega) lw fun p H1 s1 hp => ?_
    have f := fin _ (if_pos z) _ s1
    rw [pt_is hp] at f
    tm_at "v"
    refine i_isN_oS ?_
    tm_at "v"
    cases p with
    | none =>
      rw [show (none : Option (List Nat)).isNone = true from rfl]
      tm_at "v"
      exact f
    | some w =>
      rw [show (some w).isNone = false from rfl]
      tm_at "v"
      exact f
  rw [if_neg z] at q r fin
  tm_at "v"
  exact r rfl _ (Same.refl _)
/-! need_letters_2x(thing): slots 0 thing, 1 letter -/
abbrev N_need_letters_2x : List Str := ["thing", "letter"]
def t_need_letters_2x (K : PySem.W.Frag) (er : Nat → Addr) (E : XK) : TS :=
  (tSeq (tIfS (tOr (tNot (tB (tCB (Lv.rIs1 K) (tCons (tVar 0) (tCons (tC (.ty "str")) tNil))))) (tOr (tTest (tOp Lv.rEqS (tVar 0) (tC (.str (S []))))) (tTest (tOp Lv.rGt (tCB Lv.rLenT (tCons (tVar 0) tNil)) (tCB Lv.rLenT (tCons (tC (.str (S [97, 98, 99, 100, 101, 102, 103, 104, 105, 106, 107, 108, 109, 110, 111, 112, 113, 114, 115, 116, 117, 118, 119, 120, 121, 122]))) tNil)))))) (Lv.tRaise E (er 3)) tNext) (tIfS (tOr (tTest (tOp (Lv.rNeLS K) (tLc (iStr (tVar 0)) (gName 1) (tTest (tOp (Lv.rIn1 true) (tVar 1) (tC (.str (S [97, 98, 99, 100, 101, 102, 103, 104, 105, 106, 107, 108, 109, 110, 111, 112, 113, 114, 115, 116, 117, 118, 119, 120, 121, 122]))))) (tVar 1) [1]) (tLst tNil))) (tTest (tOp (Lv.rNeLS K) (Lv.tSortSetS (tCons (tVar 0) tNil)) (tCB Lv.rListS (tCons (tVar 0) tNil))))) (Lv.tRaise E (er 3)) tNext))
-- needs: Lv37 M_nolet
def sp_need_letters_2x (K : PySem.W.Frag) (er : Nat → Addr) : Sp := fun vs H Q E => ∃ (x : V), vs = [x] ∧ ((∃ ls : List Nat, x = .str (S ls) ∧ Lets ls ∧ ∀ H', Same H H' → Q .non H') ∨ (NoLt K H x ∧ ∀ H', Same H H' → E (.ref (er 3)) none H'))
theorem i_need_letters_2x {K : PySem.W.Frag} {er : Nat → Addr} {ls : List Nat} {H : Hp} {Q : VK} {E : XK} (hl : Lets ls) (q : ∀ H', Same H H' → Q .non H') : sp_need_letters_2x K er [.str (S ls)] H Q E := ⟨_, rfl, .inl ⟨ls, rfl, hl, q⟩⟩
theorem i_need_letters_2_no {K : PySem.W.Frag} {er : Nat → Addr} {x : V} {H : Hp} {Q : VK} {E : XK} (hb : NoLt K H x) (q : ∀ H', Same H H' → E (.ref (er 3)) none H') : sp_need_letters_2x K er [x] H Q E := ⟨_, rfl, .inr ⟨hb, q⟩⟩
theorem pure_need_letters_2x {K : PySem.W.Frag} {er : Nat → Addr} (vs : List V) (H : Hp) (Q : VK) (E : XK) (h : sp_need_letters_2x K er vs H Q E) : t_need_letters_2x K er E { nx := fun _ H' => Q .non H', rt := Q } (start N_need_letters_2x vs) H := by
  obtain ⟨x, rfl, ⟨ls, rfl, hl, q⟩ | ⟨⟨ls, rfl, l1, ch, hl⟩ | hb, q⟩⟩ := h
  rotate_left
  · unfold t_need_letters_2x
    tm_at "v"
    refine i_isi_str_str ?_
    tm_at "v"
    by_cases hne : ls = []
    · refine if_yes hne ?_
      tm_at "v"
      exact q _ (Same.refl _)
    refine if_no hne ?_
    tm_at "v"
    refine if_dec (fun z26 => ?_) (fun z26 => ?_)
    · tm_at "v"
      exact q _ (Same.refl _)
    tm_at "v"
    tm_at "lc"
    refine c_sP (fun c => if c ∈ abc then none else some (vc c)) (by omega) (fun c H' hc sm Yk N y n => ?_) fun D H1 nD s1 hD => ?_
    · tm_at "v"
      refine ⟨rfl, ?_⟩
      tm_at "v"
      by_cases z : c ∈ abc
      · rw [decide_eq_true z]
        exact n (if_pos z) _ (Same.refl _)
      · rw [decide_eq_false z]
        tm_at "v"
        exact y _ (if_neg z) _ (Same.refl _)
    rw [keep_no] at hD
    tm_at "v"
    intro p2 H2 n2 s2 h2
    refine i_r2LS (ns := (nots ls).map fun c => [c]) (ms := []) (SqL.of1 (by rw [← vc_vs]; exact s2 _ _ hD)) (SqL.of1 h2) (fun t ht => ?_) (fun _ z => nomatch z) ?_
    · obtain ⟨c, hc, rfl⟩ := List.mem_map.mp ht
      exact Chr.one (ch c (nots_mem hc))
    by_cases lw : Low ls
    · rw [nots_nil.mpr lw, List.map_nil]
      tm_at "v"
      refine v_sortSK (by omega) fun ys p3 H3 up hm n3 s3 h3 => ?_
      have ny : ys ≠ ls := fun z => hl ⟨hne, lw, z ▸ up⟩
      tm_at "v"
      refine v_listS (by omega) fun p4 H4 n4 s4 h4 => ?_
      have cy : ∀ l ∈ ys.map (fun c => [c]), Chr l := fun l h => by
        obtain ⟨c, hc, rfl⟩ := List.mem_map.mp h
        exact Chr.one (ch c ((hm c).mp hc))
      have cl : ∀ l ∈ ls.map (fun c => [c]), Chr l := fun l h => by
        obtain ⟨c, hc, rfl⟩ := List.mem_map.mp h
        exact Chr.one (ch c hc)
      refine i_r2LS (ns := ys.map fun c => [c]) (ms := ls.map fun c => [c]) (SqL.of1 (by rw [s4 _ _ h3, vc_vs])) (SqL.of1 (by rw [h4, vc_vs])) cy cl ?_
      rw [decide_eq_false (fun z => ny (by
        have : Function.Injective fun c : Nat => [c] := fun a b h => by injection h
        exact List.map_inj_right (fun a b h => this h) |>.mp z))]
      tm_at "v"
      exact q _ (s1.trans (s2.trans (s3.trans s4)))
    · have : ((nots ls).map fun c => [c]) ≠ [] := fun z => lw (nots_nil.mp (List.map_eq_nil_iff.mp z))
      rw [decide_eq_false this]
      tm_at "v"
      exact q _ (s1.trans s2)
  · unfold t_need_letters_2x
    tm_at "v"
    refine i_kd hb ?_
    tm_at "v"
    exact q _ (Same.refl _)
  have l26 := hl.len
  unfold t_need_letters_2x
  tm_at "v"
  refine i_isi_str_str ?_
  tm_at "v"
  refine if_no hl.1 ?_
  tm_at "v"
  refine if_no (by show ¬ (26 : Int) < _; omega) ?_
  tm_at "v"
  tm_at "lc"
  refine c_sP (fun _ => none) (by omega) (fun c H' hc sm Yk N y n => ?_) fun D H1 nD s1 hD => ?_
  · tm_at "v"
    refine ⟨rfl, ?_⟩
    tm_at "v"
    rw [decide_eq_true (abc_mem (hl.2.1 c hc))]
    exact n rfl _ (Same.refl _)
  rw [show ls.filterMap (fun _ => (none : Option V)) = [] by simp] at hD
  tm_at "v"
  intro p2 H2 n2 s2 h2
  refine i_r2LS (ns := []) (ms := []) (SqL.of1 (s2 _ _ hD)) (SqL.of1 h2) (fun _ z => nomatch z) (fun _ z => nomatch z) ?_
  tm_at "v"
  refine v_sortSK (by omega) fun ys p3 H3 up hm n3 s3 h3 => ?_
  have ey : ys = ls := lt_ext_nat up hl.2.2 hm
  subst ey
  tm_at "v"
  refine v_listS (by omega) fun p4 H4 n4 s4 h4 => ?_
  have ch : ∀ l ∈ ys.map (fun c => [c]), Chr l := fun l h => by
    obtain ⟨c, hc, rfl⟩ := List.mem_map.mp h
    have := hl.2.1 c hc
    exact Chr.one (by omega)
  refine i_r2LS (ns := ys.map fun c => [c]) (ms := ys.map fun c => [c]) (SqL.of1 (by rw [s4 _ _ h3, vc_vs])) (SqL.of1 (by rw [h4, vc_vs])) ch ch ?_
  tm_at "v"
  exact q _ (s1.trans (s2.trans (s3.trans s4)))
/-! has_all_0(word, letters): slots 0 word, 1 letters, 2 letter -/
abbrev N_has_all_0 : List Str := ["word", "letters", "letter"]
def t_has_all_0 (K : PySem.W.Frag) : TS :=
  (tRet (tOp (Lv.rEqLS K) (tLc (iStr (tVar 1)) (gName 2) (tTest (tOp (Lv.rIn1 true) (tVar 2) (tVar 0))) (tVar 2) [2]) (tLst tNil)))
-- needs: M_arch
def sp_has_all_0 (K : PySem.W.Frag) : Sp := fun vs H Q _ => ∃ (w ls : List Nat), vs = [.str (S w), .str (S ls)] ∧ ls.length ≤ 1000 ∧ Low ls ∧ ∀ H', Same H H' → Q (.bl (allIn ls w)) H'
theorem i_has_all_0 {K : PySem.W.Frag} {w ls : List Nat} {H : Hp} {Q : VK} {E : XK} (hl : ls.length ≤ 1000) (lw : Low ls) (q : ∀ H', Same H H' → Q (.bl (allIn ls w)) H') : sp_has_all_0 K [.str (S w), .str (S ls)] H Q E := ⟨w, ls, rfl, hl, lw, q⟩
theorem pure_has_all_0 {K : PySem.W.Frag} (vs : List V) (H : Hp) (Q : VK) (E : XK) (h : sp_has_all_0 K vs H Q E) : t_has_all_0 K { nx := fun _ H' => Q .non H', rt := Q } (start N_has_all_0 vs) H := by
  obtain ⟨w, ls, rfl, hl, lw, q⟩ := h
  unfold t_has_all_0
  tm_at "v"
  tm_at "lc"
  refine c_sP (fun c => if c ∉ w then some (vc c) else none) (by omega) (fun c H' hc sm Yk N y n => ?_) fun D H1 nD s1 hD => ?_
  · tm_at "v"
    refine ⟨rfl, ?_⟩
    tm_at "v"
    refine if_ndec (fun z => ?_) (fun z => ?_)
    · tm_at "v"
      exact y _ (if_pos z) _ (Same.refl _)
    · exact n (if_neg (fun q => q z)) _ (Same.refl _)
  rw [fm_if, vc_vs] at hD
  tm_at "v"
  intro p2 H2 n2 s2 h2
  refine i_r2LS (ms := []) (SqL.of1 (s2 _ _ hD)) (SqL.of1 h2) (fun l h => ?_) (fun _ z => nomatch z) ?_
  · obtain ⟨c, hc, rfl⟩ := List.mem_map.mp h
    have := lw c (List.mem_filter.mp hc).1
    exact Chr.one (by omega)
  have e : decide ((ls.filter fun c => decide (c ∉ w)).map (fun c => [c]) = []) = allIn ls w := by
    rw [allIn_nil]
    congr 1
    rw [List.map_eq_nil_iff]
  rw [e]
  exact q _ (s1.trans s2)
/-! arches_0x(row, letters): slots 0 row, 1 letters, 2 found, 3 begin, 4 end -/
abbrev N_arches_0x : List Str := ["row", "letters", "found", "begin", "end"]
def t_arches_0x (K : PySem.W.Frag) (er : Nat → Addr) (E : XK) : TS :=
  (tSeq (tDrop (tCall (sp_need_letters_2x K er) [] E (tCons (tVar 1) tNil))) (tSeq (tAsg (tLst tNil) (gName 2)) (tSeq (tAsg (tC (.int 0)) (gName 3)) (tSeq (tFor (iRng2 (tCons (tC (.int 1)) (tCons (tOp Lv.rAdd (tCB Lv.rLenT (tCons (tVar 0) tNil)) (tC (.int 1))) tNil))) (gName 4) (tIfS (tB (tCall (sp_has_all_0 K) [] E0 (tCons (tSl Lv.rSlS1 (tVar 0) (tPart (tVar 3)) (tPart (tVar 4))) (tCons (tVar 1) tNil)))) (tSeq (tDrop (tBM K "list" rAppend (tVar 2) (tCons (tVar 4) tNil))) (tAsg (tVar 4) (gName 3))) tNext)) (tRet (tVar 2))))))
-- needs: Lv37 M_nolet M_arch
def sp_arches_0x (K : PySem.W.Frag) (er : Nat → Addr) : Sp := fun vs H Q E => ∃ (l : List Nat) (x : V), vs = [.str (S l), x] ∧ l.length ≤ 1000 ∧ ((∃ ls : List Nat, x = .str (S ls) ∧ Lets ls ∧ ∀ p H', H p = none → Same H H' → H' p = some (.lst ((arcs ls l).map iv)) → Q (.ref p) H') ∨ (NoLt K H x ∧ ∀ H', Same H H' → E (.ref (er 3)) none H'))
theorem i_arches_0x {K : PySem.W.Frag} {er : Nat → Addr} {l ls : List Nat} {H : Hp} {Q : VK} {E : XK} (hl : l.length ≤ 1000) (lt : Lets ls) (q : ∀ p H', H p = none → Same H H' → H' p = some (.lst ((arcs ls l).map iv)) → Q (.ref p) H') : sp_arches_0x K er [.str (S l), .str (S ls)] H Q E := ⟨l, _, rfl, hl, .inl ⟨ls, rfl, lt, q⟩⟩
theorem i_arches_0_no {K : PySem.W.Frag} {er : Nat → Addr} {l : List Nat} {x : V} {H : Hp} {Q : VK} {E : XK} (hl : l.length ≤ 1000) (hb : NoLt K H x) (q : ∀ H', Same H H' → E (.ref (er 3)) none H') : sp_arches_0x K er [.str (S l), x] H Q E := ⟨l, _, rfl, hl, .inr ⟨hb, q⟩⟩
theorem pure_arches_0x {K : PySem.W.Frag} {er : Nat → Addr} (vs : List V) (H : Hp) (Q : VK) (E : XK) (h : sp_arches_0x K er vs H Q E) : t_arches_0x K er E { nx := fun _ H' => Q .non H', rt := Q } (start N_arches_0x vs) H := by
  obtain ⟨l, x, rfl, hl, ⟨ls, rfl, lt, q⟩ | ⟨hb, q⟩⟩ := h
  rotate_left
  · unfold t_arches_0x
    tm_at "v"
    exact i_need_letters_2_no hb q
  have l26 := lt.len
  unfold t_arches_0x
  tm_at "v"
  refine i_need_letters_2x lt fun H1 s1 => ?_
  tm_at "v"
  intro F H2 nF s2 hF
  tm_at "v"
  tm_at "fo"
  refine f_r ⟨fun j σ H' => ∃ (v4 : Option V), σ = [some (.str (S l)), some (.str (S ls)), some (.ref F), some (.int ((arcS ls l j).2 : Nat)), v4] ∧ Same H1 H' ∧ H' F = some (.lst ((arcS ls l j).1.map iv)), ⟨none, rfl, s2, hF⟩, ?_, ?_⟩
  · rintro j x σ H0 H' hj ⟨v4, rfl, sm, hF'⟩ ⟨rfl, rfl⟩
    have hb := arcS_le ls l j
    have hf := arcS_len ls l j
    rw [show (1 : Int) + (j : Int) = ((j + 1 : Nat) : Int) by omega]
    tm_at "v"
    rw [cutL_N (show (arcS ls l j).2 ≤ j + 1 by omega)]
    refine i_has_all_0 (by omega) lt.2.1 fun H3 s3 => ?_
    tm_at "v"
    have hF3 := s3 _ _ hF'
    cases e : allIn ls (cutN l (arcS ls l j).2 (j + 1)) with
    | true =>
      have ea : arcS ls l (j + 1) = ((arcS ls l j).1 ++ [j + 1], j + 1) := by rw [arcS, if_pos e]
      tm_at "v"
      refine i_tBMl (SqL.of1 hF3) ?_
      tm_at "v"
      refine v_app hF3 (lt_line (by simp; omega)) fun H4 b4 h4 => ?_
      tm_at "v"
      refine ⟨some (.int ((j + 1 : Nat) : Int)), ?_, But.new (sm.trans s3) b4 nF, ?_⟩
      · rw [ea]; rfl
      · rw [ea, h4, List.map_append]; rfl
    | false =>
      have ea : arcS ls l (j + 1) = arcS ls l j := by rw [arcS, if_neg (by rw [e]; simp)]
      tm_at "v"
      refine ⟨some (.int ((j + 1 : Nat) : Int)), ?_, sm.trans s3, ?_⟩
      · rw [ea]; rfl
      · rw [ea]; exact hF3
  · rintro σ H' ⟨v4, rfl, sm, hF'⟩
    rw [show (((l.length : Nat) : Int) + 1 - 1).toNat = l.length by omega] at hF'
    tm_at "v"
    exact q F H' (s1.free nF) (s1.trans sm) hF'
/-! Growing_1_putx(self, letter): slots 0 self, 1 letter -/
abbrev N_Growing_1_putx : List Str := ["self", "letter"]
def t_Growing_1_putx (K : PySem.W.Frag) (C_Growing : Addr) (er : Nat → Addr) (E : XK) : TS :=
  (tSeq (tIfS (tOr (tNot (tB (tCB (Lv.rIs1 K) (tCons (tVar 1) (tCons (tC (.ty "str")) tNil))))) (tOr (tTest (tOp Lv.rNeI (tCB Lv.rLenT (tCons (tVar 1) tNil)) (tC (.int 1)))) (tTest (tOp (Lv.rIn1 true) (tVar 1) (tC (.str (S [97, 98, 99, 100, 101, 102, 103, 104, 105, 106, 107, 108, 109, 110, 111, 112, 113, 114, 115, 116, 117, 118, 119, 120, 121, 122]))))))) (Lv.tRaise E (er 2)) tNext) (tSeq (tIfS (tTest (tOp Lv.rGe (tCB Lv.rLenT (tCons (tFld K (tVar 0) "letters") tNil)) (tC (.int 80)))) (Lv.tRaise E (er 2)) tNext) (sFldAug K (tVar 0) (tVar 1) Lv.ipAddS "letters")))
-- needs: Lv37 M_nolet Q_Growing_1_init
theorem x_fa {K : PySem.W.Frag} {C a dx : Addr} {f : Str} {fs : List (Str × V)} {v : V} {H : Hp} {ta tv : TE} {rd : V → V → Hp → VK → Prop} {D : Ends} {σ : L2.St} (z : Kl K C [f]) (h : H a = some (.ins C dx fs)) (l : fs.lookup f = some v) (hl : fs.length < 1000)
    (ht : ∀ R : VK, R (.ref a) H → ta σ H R) (q : tv σ H fun y H2 => rd v y H2 fun w H3 => H3 a = some (.ins C dx fs) ∧ ∀ H4, But a H3 H4 → H4 a = some (.ins C dx (putF f w fs)) → D.nx σ H4)
    (mv : ∀ (A B : VK), (∀ y H2, A y H2 → B y H2) → tv σ H A → tv σ H B) (mr : ∀ (y : V) (H2 : Hp) (A B : VK), (∀ w H3, A w H3 → B w H3) → rd v y H2 A → rd v y H2 B) : sFldAug K ta tv rd f D σ H := by
  refine ht _ ⟨a, C, dx, fs, v, rfl, h, z.cl, z.no f (List.mem_singleton.mpr rfl), l, ?_⟩
  refine mv _ _ (fun y H2 k => mr y H2 _ _ (fun w H3 k => ⟨dx, fs, k.1, hl, k.2 _ But.upd upd_same⟩) k) q
/-- what can't be put to the row l: no small letter, or one to a full row -/
def NoPut (K : PySem.W.Frag) (H : Hp) (l : List Nat) (y : V) : Prop := (∃ m : List Nat, y = .str (S m) ∧ m.length ≤ 1000 ∧ ¬ ∃ c, m = [c] ∧ 97 ≤ c ∧ c ≤ 122) ∨ Kd K H y "str" false ∨ ∃ c : Nat, y = .str (S [c]) ∧ 97 ≤ c ∧ c ≤ 122 ∧ 80 ≤ l.length
def sp_Growing_1_putx (K : PySem.W.Frag) (C : Addr) (er : Nat → Addr) : Sp := fun vs H Q E => ∃ (x : Addr) (l : List Nat) (y : V), vs = [.ref x, y] ∧ GrAt C H x l ∧ ((∃ c : Nat, y = .str (S [c]) ∧ l.length < 80 ∧ 97 ≤ c ∧ c ≤ 122 ∧ ∀ H', But x H H' → GrAt C H' x (l ++ [c]) → Q .non H') ∨ (NoPut K H l y ∧ ∀ H', Same H H' → E (.ref (er 2)) none H'))
theorem i_Growing_putx {K : PySem.W.Frag} {C : Addr} {er : Nat → Addr} {x : Addr} {l : List Nat} {H : Hp} {Q : VK} {E : XK} {te : TA} {σ : L2.St} (h : GrAt C H x l) {c : Nat} (hl : l.length < 80) (h0 : 97 ≤ c ∧ c ≤ 122) (ht : ∀ R : List V → Hp → Prop, R [.str (S [c])] H → te σ H R) (q : ∀ H', But x H H' → GrAt C H' x (l ++ [c]) → Q .non H') :
    rMe C "put" (.ref x) H (te σ H fun vs H2 => sp_Growing_1_putx K C er (.ref x :: (vs ++ [])) H2 Q E) := by
  obtain ⟨dx, h1, h2⟩ := id h
  exact x_me h1 (lk_no (by decide +kernel)) (ht _ ⟨x, l, _, rfl, h, .inl ⟨c, rfl, hl, h0.1, h0.2, q⟩⟩)
theorem pure_Growing_1_putx {K : PySem.W.Frag} {C : Addr} {er : Nat → Addr} (Z : Kl K C ["letters"]) (vs : List V) (H : Hp) (Q : VK) (E : XK) (h : sp_Growing_1_putx K C er vs H Q E) : t_Growing_1_putx K C er E { nx := fun _ H' => Q .non H', rt := Q } (start N_Growing_1_putx vs) H := by
  obtain ⟨x, l, y, rfl, ⟨dx, hx, lw, l80⟩, ⟨c, rfl, hl, h0, h1, q⟩ | ⟨hb, q⟩⟩ := h
  rotate_left
  · unfold t_Growing_1_putx
    tm_at "v"
    rcases hb with ⟨m, rfl, hml, hm⟩ | hk | ⟨c, rfl, h0, h1, hl⟩
    · refine i_isi_str_str ?_
      tm_at "v"
      by_cases z : ((m.length : Nat) : Int) = 1
      · rw [decide_eq_true z]
        obtain ⟨c, rfl⟩ : ∃ c, m = [c] := by
          match m, z with
          | [], z => simp at z
          | [c], _ => exact ⟨c, rfl⟩
          | _ :: _ :: _, z => simp at z; omega
        tm_at "v"
        have ha : c ∉ abc := fun w => hm ⟨c, rfl, abc_iff1.mp w⟩
        rw [decide_eq_false ha]
        tm_at "v"
        exact q _ (Same.refl _)
      · rw [decide_eq_false z]
        tm_at "v"
        exact q _ (Same.refl _)
    · refine i_kd hk ?_
      tm_at "v"
      exact q _ (Same.refl _)
    · refine i_isi_str_str ?_
      tm_at "v"
      have ha : c ∈ abc := abc_mem ⟨h0, h1⟩
      rw [decide_eq_true (show ((([c] : List Nat).length : Nat) : Int) = 1 from rfl)]
      tm_at "v"
      rw [decide_eq_true ha]
      tm_at "v"
      refine x_fl Z hx lk_yes ?_
      tm_at "v"
      refine if_yes (by omega) ?_
      tm_at "v"
      exact q _ (Same.refl _)
  unfold t_Growing_1_putx
  tm_at "v"
  refine i_isi_str_str ?_
  tm_at "v"
  have ha : c ∈ abc := by
    simp only [abc, List.mem_cons, List.not_mem_nil, or_false]
    omega
  rw [decide_eq_true (show ((([c] : List Nat).length : Nat) : Int) = 1 from rfl)]
  tm_at "v"
  rw [decide_eq_true ha]
  tm_at "v"
  refine x_fl Z hx lk_yes ?_
  tm_at "v"
  refine if_no (by omega) ?_
  tm_at "v"
  refine x_fa Z hx lk_yes (by show 1 < 1000; decide) (fun R k => by tm_at "v"; exact k) ?_ (fun A B k ⟨v, e, h⟩ => ⟨v, e, k _ _ h⟩) (fun y H2 A B k ⟨a, b, e1, e2, e3, e4⟩ => ⟨a, b, e1, e2, e3, k _ _ e4⟩)
  tm_at "v"
  refine i_augS1 (le_line (by simp; omega)) ⟨hx, fun H4 b4 h4 => ?_⟩
  rw [put_one] at h4
  exact q H4 b4 ⟨dx, h4, lw.app (Low.one ⟨h0, h1⟩), by simp; omega⟩
/-! left_at_0x(row, place): slots 0 row, 1 place, 2 counts, 3 tables, 4 found, 5 begin, 6 letter, 7 behind -/
abbrev N_left_at_0x : List Str := ["row", "place", "counts", "tables", "found", "begin", "letter", "behind"]
def t_left_at_0x (K : PySem.W.Frag) (er : Nat → Addr) (E : XK) : TS :=
  (tSeq (tAsg (tCall (sp_counts_from_0 K) [] E0 (tCons (tVar 0) tNil)) (gName 2)) (tSeq (tIfS (tOr (tNot (tB (tCall (sp_is_whole_0x K) [] E0 (tCons (tVar 1) tNil)))) (tNot (tTest (tChain Lv.rLe Lv.rLt (tC (.int 0)) (tVar 1) (tOp (rIxL K) (tVar 2) (tC (.int 0))))))) (Lv.tRaise E (er 4)) tNext) (tSeq (tAsg (tCall (sp_next_tables_0 K) [] E0 (tCons (tVar 0) tNil)) (gName 3)) (tSeq (tAsg (tC (.str (S []))) (gName 4)) (tSeq (tAsg (tC (.int 0)) (gName 5)) (tSeq (tWhile (tTest (tOp Lv.rGt (tVar 1) (tC (.int 0)))) (tSeq (tAug 1 (tC (.int 1)) (ipI fun i j => i - j)) (tSeq (tFor (iList K (tCB Lv.rSortedD (tCons (tOp (rIxL K) (tVar 3) (tVar 5)) tNil))) (gName 6) (tSeq (tAsg (tOp Lv.rAdd (tDGet (tOp (rIxL K) (tVar 3) (tVar 5)) (tVar 6)) (tC (.int 1))) (gName 7)) (tSeq (tIfS (tTest (tOp Lv.rLt (tVar 1) (tOp (rIxL K) (tVar 2) (tVar 7)))) tBreak tNext) (tAug 1 (tOp (rIxL K) (tVar 2) (tVar 7)) (ipI fun i j => i - j))))) (tSeq (tAug 4 (tVar 6) Lv.ipAddS) (tAsg (tVar 7) (gName 5)))))) (tRet (tVar 4))))))))
-- needs: Lv37 M_num Q_left_at_0
def sp_left_at_0x (K : PySem.W.Frag) (er : Nat → Addr) : Sp := fun vs H Q E => ∃ (l : List Nat) (x : V), vs = [.str (S l), x] ∧ l.length ≤ 1000 ∧ Low l ∧ ((∃ (k : Nat) (m : List Nat), x = .int (k : Nat) ∧ (lx l)[k]? = some m ∧ ∀ (H' : Hp), Same H H' → Q (.str (S m)) H') ∨ (BadPl K H (cn l) x ∧ ∀ H', Same H H' → E (.ref (er 4)) none H'))
theorem i_left_at_0x {K : PySem.W.Frag} {er : Nat → Addr} {l m : List Nat} {k : Nat} {x : Int} {H : Hp} {Q : VK} {E : XK} (hx : x = (k : Nat)) (hl : l.length ≤ 1000) (lw : Low l) (hk : (lx l)[k]? = some m) (q : ∀ (H' : Hp), Same H H' → Q (.str (S m)) H') : sp_left_at_0x K er [.str (S l), .int x] H Q E := by
  subst hx; exact ⟨l, _, rfl, hl, lw, .inl ⟨k, m, rfl, hk, q⟩⟩
theorem i_left_at_no {K : PySem.W.Frag} {er : Nat → Addr} {l : List Nat} {x : V} {H : Hp} {Q : VK} {E : XK} (hl : l.length ≤ 1000) (lw : Low l) (hb : BadPl K H (cn l) x) (q : ∀ H', Same H H' → E (.ref (er 4)) none H') : sp_left_at_0x K er [.str (S l), x] H Q E := ⟨l, x, rfl, hl, lw, .inr ⟨hb, q⟩⟩
theorem pure_left_at_0x {K : PySem.W.Frag} {er : Nat → Addr} (vs : List V) (H : Hp) (Q : VK) (E : XK) (h : sp_left_at_0x K er vs H Q E) : t_left_at_0x K er E { nx := fun _ H' => Q .non H', rt := Q } (start N_left_at_0x vs) H := by
  obtain ⟨l, x, rfl, hl, lw, ⟨k, m, rfl, hk, q⟩ | ⟨hb, q⟩⟩ := h
  rotate_left
  · unfold t_left_at_0x
    tm_at "v"
    refine i_counts_from_0 hl lw fun C H1 nC s1 hC => ?_
    tm_at "v"
    refine i_is_whole_bad (hb.same s1) (fun i e z => ?_) ?_
    · subst e
      tm_at "v"
      refine if_dec (fun z2 => ?_) (fun z2 => ?_)
      · tm_at "v"
        refine i_ixL (v := .int ((cn l : Nat) : Int)) (SqL.of1 hC) (atI_nat (j := 0) (range_map_get _ (by omega))) ?_
        tm_at "v"
        rw [decide_eq_false (show ¬ i < ((cn l : Nat) : Int) by omega)]
        tm_at "v"
        exact q _ s1
      · tm_at "v"
        exact q _ s1
    · tm_at "v"
      exact q _ s1
  have klt : k < cn l := (List.getElem?_eq_some_iff.mp hk).1
  unfold t_left_at_0x
  tm_at "v"
  refine i_counts_from_0 hl lw fun C H1 nC s1 hC => ?_
  tm_at "v"
  refine i_is_whole_0x ?_
  tm_at "v"
  refine if_yes (by omega) ?_
  tm_at "v"
  refine i_ixL (v := .int ((cn l : Nat) : Int)) (SqL.of1 hC) (atI_nat (j := 0) (range_map_get _ (by omega))) ?_
  tm_at "v"
  rw [decide_eq_true (show ((k : Nat) : Int) < ((cn l : Nat) : Int) by omega)]
  tm_at "v"
  refine i_next_tables_0 hl lw fun T ts H2 nT s2 tl hT nt => ?_
  have hC2 := s2 _ _ hC
  tm_at "v"
  refine wh (fun p σ H' => ∃ (i : Nat) (a r : List Nat) (v6 v7 : Option V), σ = [some (.str (S l)), some (.int (p : Nat)), some (.ref C), some (.ref T), some (.str (S a)), some (.int (i : Nat)), v6, v7] ∧ Same H H' ∧ H' C = some (.lst ((List.range (l.length + 1)).map fun i => iv (cn (l.drop i)))) ∧ H' T = some (.lst (ts.map V.ref)) ∧ NT H' ts l ∧
    i ≤ l.length ∧ (lx (l.drop i))[p]? = some r ∧ a ++ r = m ∧ a.length ≤ i) k ⟨0, [], m, none, none, rfl, s1.trans s2, hC2, hT, nt, by omega, hk, rfl, by simp⟩ ?_
  rintro p σ H3 ⟨i, a, r, v6, v7, rfl, sm, hC3, hT3, nt3, hi, hr, har, hal⟩
  tm_at "v"
  refine if_dec (fun z => ?_) (fun z => ?_)
  · obtain ⟨p', rfl⟩ : ∃ p', p = p' + 1 := ⟨p - 1, by omega⟩
    rw [lx_succ] at hr
    refine i_turn ?_
    tm_at "v"
    rw [show (((p' + 1 : Nat) : Int) - 1) = (p' : Nat) by omega]
    obtain ⟨t, et⟩ : ∃ t, ts[i]? = some t := ⟨_, List.getElem?_eq_getElem (by omega)⟩
    obtain ⟨kvs, hkv, ld⟩ := nt3 i t et
    have etI : ∀ (xs : List V), xs = ts.map V.ref → atI xs (i : Int) = some (.ref t) := fun xs e => atI_nat (by rw [e, List.getElem?_map, et]; rfl)
    refine foM (fun J H4 => ∃ D, J = Itl K D ∧ Same H3 H4 ∧ H4 D = some (.lst ((lets (l.drop i)).map vc))) (fun R k => ?_) ?_
    · tm_at "v"
      refine i_ixL (SqL.of1 hT3) (etI _ rfl) ?_
      tm_at "v"
      refine v_sortedLD (.inl hkv) ld (by have := nt_len lw ld; omega) fun ys D H4 up hm nD s4 h4 => ?_
      have ey := nt_lets lw up hm
      subst ey
      exact ⟨D, rfl, ⟨_, SqL.of1 h4⟩, k _ _ ⟨D, rfl, s4, h4⟩⟩
    rintro J H4 ⟨D, rfl, s4, h4⟩
    have hC4 := s4 _ _ hC3
    have hT4 := s4 _ _ hT3
    have hkv4 := s4 _ _ hkv
    refine f_l (xs := (lets (l.drop i)).map vc) ⟨fun j σ H' => H' = H4 ∧ ∃ (pp : Nat) (v6 v7 : Option V), σ = [some (.str (S l)), some (.int (pp : Nat)), some (.ref C), some (.ref T), some (.str (S a)), some (.int (i : Nat)), v6, v7] ∧ pp ≤ p' ∧ flat (l.drop i) ((lets (l.drop i)).drop j) pp = some r, ⟨rfl, p', v6, v7, rfl, Nat.le_refl _, hr⟩, ?_, ?_, ?_⟩
    · rintro j σ H' _ ⟨rfl, _⟩
      exact SqL.of1 h4
    · rintro j x σ H5 H' hj ⟨rfl, pp, v6, v7, rfl, hpp, hfl⟩ ⟨rfl, hx⟩
      rw [List.length_map] at hj
      have hx' : x = vc ((lets (l.drop i))[j]) := by
        rw [List.getElem?_map, List.getElem?_eq_getElem hj] at hx
        exact (Option.some.inj hx).symm
      subst hx'
      have hcm : (lets (l.drop i))[j] ∈ l.drop i := (lets_mem (lw.drop i)).mp (List.getElem_mem hj)
      rw [List.drop_eq_getElem_cons hj] at hfl
      generalize (lets (l.drop i))[j] = c at *
      obtain ⟨kk, hkk⟩ := next_of_mem hcm
      have hkl := nextP_lt hkk
      have haft := aft_next rfl hkk
      tm_at "v"
      refine i_ixL (SqL.of1 hT4) (etI _ rfl) ?_
      tm_at "v"
      refine x_dGetS (.inl hkv4) (v := .int (kk : Nat)) (by rw [ld.val, hkk]; rfl) ?_
      tm_at "v"
      rw [show ((kk : Nat) : Int) + 1 = ((kk + 1 : Nat) : Int) by omega]
      refine i_ixL (v := .int ((cn (l.drop (kk + 1)) : Nat) : Int)) (SqL.of1 hC4) (atI_nat (j := kk + 1) (range_map_get _ (by omega))) ?_
      tm_at "v"
      refine if_dec (fun z => ?_) (fun z => ?_)
      · rw [flat_yes (by rw [haft]; omega), haft] at hfl
        cases er : (lx (l.drop (kk + 1)))[pp]? with
        | none => rw [er] at hfl; cases hfl
        | some r' =>
          rw [er] at hfl
          have hfl : c :: r' = r := Option.some.inj hfl
          have hrl := (lx_sub (lw.drop (kk + 1)) er).length_le
          have hml : m.length ≤ l.length := (lx_sub lw hk).length_le
          have : (a ++ r).length = m.length := by rw [har]
          rw [← hfl] at this
          simp at this
          tm_at "v"
          refine i_augS1 (by tm_at "z") ?_
          tm_at "v"
          exact ⟨pp, by omega, kk + 1, a ++ [c], r', _, _, rfl, sm.trans s4, hC4, hT4, nt3.same s4, by omega, er, by rw [← har, ← hfl]; simp, by simp; omega⟩
      · rw [flat_no (by rw [haft]; omega), haft] at hfl
        tm_at "v"
        refine i_ixL (v := .int ((cn (l.drop (kk + 1)) : Nat) : Int)) (SqL.of1 hC4) (atI_nat (j := kk + 1) (range_map_get _ (by omega))) ?_
        tm_at "v"
        rw [show (pp : Int) - ((cn (l.drop (kk + 1)) : Nat) : Int) = ((pp - cn (l.drop (kk + 1)) : Nat) : Int) by omega]
        exact ⟨rfl, _, _, _, rfl, by omega, hfl⟩
    · rintro σ H' ⟨rfl, pp, v6, v7, rfl, hpp, hfl⟩
      rw [List.length_map, List.drop_length] at hfl
      cases hfl
  · have : p = 0 := by omega
    subst this
    rw [lx_zero] at hr
    cases hr
    rw [List.append_nil] at har
    subst har
    tm_at "v"
    exact q _ sm
/-! need_letters_1x(thing): slots 0 thing, 1 letter, 2 one, 3 other -/
abbrev N_need_letters_1x : List Str := ["thing", "letter", "one", "other"]
def t_need_letters_1x (K : PySem.W.Frag) (er : Nat → Addr) (E : XK) : TS :=
  (tSeq (tIfS (tOr (tNot (tB (tCB (Lv.rIs1 K) (tCons (tVar 0) (tCons (tC (.ty "str")) tNil))))) (tTest (tOp Lv.rEqS (tVar 0) (tC (.str (S [])))))) (Lv.tRaise E (er 3)) tNext) (tSeq (tIfS (tTest (tOp (Lv.rNeLS K) (tLc (iStr (tVar 0)) (gName 1) (tTest (tOp (Lv.rIn1 true) (tVar 1) (tC (.str (S [97, 98, 99, 100, 101, 102, 103, 104, 105, 106, 107, 108, 109, 110, 111, 112, 113, 114, 115, 116, 117, 118, 119, 120, 121, 122]))))) (tVar 1) [1]) (tLst tNil))) (Lv.tRaise E (er 3)) tNext) (tIfS (tTest (tOp (Lv.rNeL K) (tLc (Lv.iZipS (tCons (tVar 0) (tCons (tSl Lv.rSlS1 (tVar 0) (tPart (tC (.int 1))) tNoPart) tNil))) (gTup K 2 (gCons (gName 2) (gCons (gName 3) gNil))) (tTest (tOp Lv.rGeS (tVar 2) (tVar 3))) (tC (.int 1)) [2, 3]) (tLst tNil))) (Lv.tRaise E (er 3)) tNext)))
-- needs: Lv37 M_nolet
def sp_need_letters_1x (K : PySem.W.Frag) (er : Nat → Addr) : Sp := fun vs H Q E => ∃ (x : V), vs = [x] ∧ ((∃ ls : List Nat, x = .str (S ls) ∧ Lets ls ∧ ∀ H', Same H H' → Q .non H') ∨ (NoLt K H x ∧ ∀ H', Same H H' → E (.ref (er 3)) none H'))
theorem i_need_letters_1x {K : PySem.W.Frag} {er : Nat → Addr} {ls : List Nat} {H : Hp} {Q : VK} {E : XK} (hl : Lets ls) (q : ∀ H', Same H H' → Q .non H') : sp_need_letters_1x K er [.str (S ls)] H Q E := ⟨_, rfl, .inl ⟨ls, rfl, hl, q⟩⟩
theorem i_need_letters_1_no {K : PySem.W.Frag} {er : Nat → Addr} {x : V} {H : Hp} {Q : VK} {E : XK} (hb : NoLt K H x) (q : ∀ H', Same H H' → E (.ref (er 3)) none H') : sp_need_letters_1x K er [x] H Q E := ⟨_, rfl, .inr ⟨hb, q⟩⟩
theorem pure_need_letters_1x {K : PySem.W.Frag} {er : Nat → Addr} (vs : List V) (H : Hp) (Q : VK) (E : XK) (h : sp_need_letters_1x K er vs H Q E) : t_need_letters_1x K er E { nx := fun _ H' => Q .non H', rt := Q } (start N_need_letters_1x vs) H := by
  obtain ⟨x, rfl, ⟨ls, rfl, hl, q⟩ | ⟨⟨ls, rfl, l1, ch, hl⟩ | hb, q⟩⟩ := h
  rotate_left
  · unfold t_need_letters_1x
    tm_at "v"
    refine i_isi_str_str ?_
    tm_at "v"
    by_cases hne : ls = []
    · refine if_yes hne ?_
      tm_at "v"
      exact q _ (Same.refl _)
    refine if_no hne ?_
    tm_at "v"
    tm_at "lc"
    refine c_sP (fun c => if c ∈ abc then none else some (vc c)) (by omega) (fun c H' hc sm Yk N y n => ?_) fun D H1 nD s1 hD => ?_
    · tm_at "v"
      refine ⟨rfl, ?_⟩
      tm_at "v"
      by_cases z : c ∈ abc
      · rw [decide_eq_true z]
        exact n (if_pos z) _ (Same.refl _)
      · rw [decide_eq_false z]
        tm_at "v"
        exact y _ (if_neg z) _ (Same.refl _)
    rw [keep_no] at hD
    tm_at "v"
    intro p2 H2 n2 s2 h2
    refine i_r2LS (ns := (nots ls).map fun c => [c]) (ms := []) (SqL.of1 (by rw [← vc_vs]; exact s2 _ _ hD)) (SqL.of1 h2) (fun t ht => ?_) (fun _ z => nomatch z) ?_
    · obtain ⟨c, hc, rfl⟩ := List.mem_map.mp ht
      exact Chr.one (ch c (nots_mem hc))
    by_cases lw : Low ls
    · rw [nots_nil.mpr lw, List.map_nil]
      tm_at "v"
      refine lc (J := ItT (min ls.length (ls.drop 1).length) (YZS ls (ls.drop 1))) (H1 := H2) (fun R' k' => ?_) ?_
      · refine i_zipS ?_
        tm_at "v"
        have e1 := cutL_from ls 1
        rw [show ((1 : Nat) : Int) = 1 from rfl] at e1
        rw [e1]
        exact ⟨ls, ls.drop 1, rfl, k'⟩
      refine lcP walk_enumS (List.range (min ls.length (ls.drop 1).length)) (by simp) (fun i => if ls.getD i 0 < ls.getD (i + 1) 0 then none else some (.int 1)) (by omega) (fun _ _ => trivial) (fun i c x H' H'' hi sm hY => ?_) fun D H3 nD s3 hD => ?_
      · obtain ⟨T, xs, rfl, nT, rfl, c1, d1, hc, hd, rfl⟩ := hY
        have ec : c = i := by
          have := List.getElem?_eq_some_iff.mp hi
          obtain ⟨h1, h2⟩ := this
          simpa using h2.symm
        subst ec
        refine ⟨same_new nT, fun Yk N y n => ?_⟩
        refine i_gTup (SqT.of1 upd_same) rfl ?_
        tm_at "v"
        refine ⟨rfl, ?_⟩
        tm_at "v"
        rw [List.getElem?_drop, Nat.add_comm] at hd
        have g1 : ls.getD c 0 = c1 := by rw [List.getD_eq_getElem?_getD, hc]; rfl
        have g2 : ls.getD (c + 1) 0 = d1 := by rw [List.getD_eq_getElem?_getD, hd]; rfl
        by_cases z : c1 < d1
        · rw [decide_eq_true (lt_one.mpr z)]
          exact n (by rw [g1, g2, if_pos z]) _ (Same.refl _)
        · rw [decide_eq_false (fun w => z (lt_one.mp w))]
          tm_at "v"
          exact y _ (by rw [g1, g2, if_neg z]) _ (Same.refl _)
      have nn : (List.range (min ls.length (ls.drop 1).length)).filterMap (fun i => if ls.getD i 0 < ls.getD (i + 1) 0 then none else some (V.int 1)) ≠ [] := fun z => by
        refine hl ⟨hne, lw, ?_⟩
        have w := filt_nil.mp z
        refine pw_of_adj fun i hi => ?_
        have := w i (List.mem_range.mpr (by rw [List.length_drop]; omega))
        by_cases y : ls.getD i 0 < ls.getD (i + 1) 0
        · exact y
        · rw [if_neg y] at this
          cases this
      have hall : ∀ (js : List Nat), js.filterMap (fun i => if ls.getD i 0 < ls.getD (i + 1) 0 then none else some (V.int 1)) = ((js.filterMap (fun i => if ls.getD i 0 < ls.getD (i + 1) 0 then none else some (1 : Int)))).map V.int := fun js => by
        rw [List.map_filterMap]
        refine fm_congr fun i _ => ?_
        split <;> rfl
      rw [hall] at hD nn
      tm_at "v"
      intro p4 H4 n4 s4 h4
      refine i_r2L (ms := []) (SqL.of1 (s4 _ _ hD)) (SqL.of1 h4) ?_
      rw [decide_eq_false (fun z => nn (by rw [z]; rfl))]
      tm_at "v"
      exact q _ (s1.trans (s2.trans (s3.trans s4)))
    · have : ((nots ls).map fun c => [c]) ≠ [] := fun z => lw (nots_nil.mp (List.map_eq_nil_iff.mp z))
      rw [decide_eq_false this]
      tm_at "v"
      exact q _ (s1.trans s2)
  · unfold t_need_letters_1x
    tm_at "v"
    refine i_kd hb ?_
    tm_at "v"
    exact q _ (Same.refl _)
  have l26 := hl.len
  unfold t_need_letters_1x
  tm_at "v"
  refine i_isi_str_str ?_
  tm_at "v"
  refine if_no hl.1 ?_
  tm_at "v"
  tm_at "lc"
  refine c_sP (fun _ => none) (by omega) (fun c H' hc sm Yk N y n => ?_) fun D H1 nD s1 hD => ?_
  · tm_at "v"
    refine ⟨rfl, ?_⟩
    tm_at "v"
    rw [decide_eq_true (abc_mem (hl.2.1 c hc))]
    exact n rfl _ (Same.refl _)
  rw [show ls.filterMap (fun _ => (none : Option V)) = [] by simp] at hD
  tm_at "v"
  intro p2 H2 n2 s2 h2
  refine i_r2LS (ns := []) (ms := []) (SqL.of1 (s2 _ _ hD)) (SqL.of1 h2) (fun _ z => nomatch z) (fun _ z => nomatch z) ?_
  tm_at "v"
  refine lc (J := ItT (min ls.length (ls.drop 1).length) (YZS ls (ls.drop 1))) (H1 := H2) (fun R' k' => ?_) ?_
  · refine i_zipS ?_
    tm_at "v"
    have e1 := cutL_from ls 1
    rw [show ((1 : Nat) : Int) = 1 from rfl] at e1
    rw [e1]
    exact ⟨ls, ls.drop 1, rfl, k'⟩
  refine lcP walk_enumS (List.range (min ls.length (ls.drop 1).length)) (by simp) (fun _ => none) (by omega) (fun _ _ => trivial) (fun i c x H' H'' hi sm hY => ?_) fun D H3 nD s3 hD => ?_
  · obtain ⟨T, xs, rfl, nT, rfl, c1, d1, hc, hd, rfl⟩ := hY
    refine ⟨same_new nT, fun Yk N y n => ?_⟩
    refine i_gTup (SqT.of1 upd_same) rfl ?_
    tm_at "v"
    refine ⟨rfl, ?_⟩
    tm_at "v"
    rw [List.getElem?_drop] at hd
    have lt : c1 < d1 := by
      have z := List.pairwise_iff_getElem.mp hl.2.2
      obtain ⟨h1, e1⟩ := List.getElem?_eq_some_iff.mp hc
      obtain ⟨h2, e2⟩ := List.getElem?_eq_some_iff.mp hd
      rw [← e1, ← e2]
      exact z _ _ _ _ (by omega)
    rw [decide_eq_true (lt_one.mpr lt)]
    exact n rfl _ (Same.refl _)
  rw [show (List.range (min ls.length (ls.drop 1).length)).filterMap (fun _ => (none : Option V)) = [] by simp] at hD
  tm_at "v"
  intro p4 H4 n4 s4 h4
  refine i_r2L (ns := []) (ms := []) (SqL.of1 (s4 _ _ hD)) (SqL.of1 h4) ?_
  tm_at "v"
  exact q _ (s1.trans (s2.trans (s3.trans s4)))
/-! lacks_from_0(row, letters): slots 0 row, 1 letters, 2 found, 3 place, 4 some, 5 letter, 6 there, 7 length, 8 size, 9 many -/
abbrev N_lacks_from_0 : List Str := ["row", "letters", "found", "place", "some", "letter", "there", "length", "size", "many"]
def t_lacks_from_0 (K : PySem.W.Frag) : TS :=
  (tSeq (tAsg (tOp L2.rRep (tLst (tCons (tTup (tCons (tC (.int 1)) (tCons (tCB Lv.rLenT (tCons (tVar 1) tNil)) tNil))) tNil)) (tOp Lv.rAdd (tCB Lv.rLenT (tCons (tVar 0) tNil)) (tC (.int 1)))) (gName 2)) (tSeq (tFor (iRng3 (tCons (tOp Lv.rSub (tCB Lv.rLenT (tCons (tVar 0) tNil)) (tC (.int 1))) (tCons (tUn Lv.rNeg (tC (.int 1))) (tCons (tUn Lv.rNeg (tC (.int 1))) tNil)))) (gName 3) (tSeq (tAsg (tLst tNil) (gName 4)) (tSeq (tFor (iStr (tVar 1)) (gName 5) (tSeq (tAsg (tCall (sp_next_at_0 K) [] E0 (tCons (tVar 0) (tCons (tVar 3) (tCons (tVar 5) tNil)))) (gName 6)) (tIfS (tTest (tOp Lv.rIsN (tVar 6) (tC .non))) (tDrop (tBM K "list" rAppend (tVar 4) (tCons (tTup (tCons (tC (.int 1)) (tCons (tC (.int 1)) tNil))) tNil))) (tDrop (tBM K "list" rAppend (tVar 4) (tCons (tTup (tCons (tOp Lv.rAdd (tOp (rIxT K) (tOp (rIxL K) (tVar 2) (tOp Lv.rAdd (tVar 6) (tC (.int 1)))) (tC (.int 0))) (tC (.int 1))) (tCons (tOp (rIxT K) (tOp (rIxL K) (tVar 2) (tOp Lv.rAdd (tVar 6) (tC (.int 1)))) (tC (.int 1))) tNil))) tNil)))))) (tSeq (tAsg (tCB (rMin K) (tCons (tLc (iList K (tVar 4)) (gTup K 2 (gCons (gName 8) (gCons (gName 9) gNil))) tYes (tVar 8) [8, 9]) tNil)) (gName 7)) (tAsg (tTup (tCons (tVar 7) (tCons (tCB (rSum K) (tCons (tLc (iList K (tVar 4)) (gTup K 2 (gCons (gName 8) (gCons (gName 9) gNil))) (tTest (tOp Lv.rEqI (tVar 8) (tVar 7))) (tVar 9) [8, 9]) tNil)) tNil))) (gSub (tVar 2) (tVar 3) rSetL)))))) (tRet (tVar 2))))
-- needs: Lv25 M_lack
/-- for each place the length of the shortest ones not left from there on, and how many -/
def LK (ls : List Nat) (H : Hp) (ts : List Addr) (l : List Nat) : Prop := ∀ (i : Nat) (t : Addr), ts[i]? = some t → H t = some (.tup [iv (sh ls (l.drop i)), iv (shn ls (l.drop i))])
theorem LK.same {ls : List Nat} {H H' : Hp} {ts : List Addr} {l : List Nat} (h : LK ls H ts l) (s : Same H H') : LK ls H' ts l := fun i t e => s _ _ (h i t e)
def sp_lacks_from_0 (K : PySem.W.Frag) : Sp := fun vs H Q _ => ∃ (l ls : List Nat), vs = [.str (S l), .str (S ls)] ∧ l.length ≤ 1000 ∧ Lets ls ∧
  ∀ (p : Addr) (ts : List Addr) (H' : Hp), H p = none → Same H H' → ts.length = l.length + 1 → H' p = some (.lst (ts.map V.ref)) → LK ls H' ts l → Q (.ref p) H'
theorem i_lacks_from_0 {K : PySem.W.Frag} {l ls : List Nat} {H : Hp} {Q : VK} {E : XK} (hl : l.length ≤ 1000) (lt : Lets ls) (q : ∀ (p : Addr) (ts : List Addr) (H' : Hp), H p = none → Same H H' → ts.length = l.length + 1 → H' p = some (.lst (ts.map V.ref)) → LK ls H' ts l → Q (.ref p) H') : sp_lacks_from_0 K [.str (S l), .str (S ls)] H Q E := ⟨l, ls, rfl, hl, lt, q⟩
theorem sh_nil {ls : List Nat} (h : ls ≠ []) : sh ls [] = 1 ∧ shn ls [] = ls.length := by
  refine sh_is h ⟨fun j hj => ?_, ?_, ?_⟩
  · obtain rfl : j = 0 := by omega
    exact ab_zero ls []
  · exact ab_long (l := []) h
  · rw [ab_len]
    have : ∀ c, abc1 ls [] 0 c = 1 := fun c => by simp [abc1, aw]
    simp only [this]
    simp [List.map_const', List.sum_replicate_nat]
theorem fm_zip {β : Type} (us : List Addr) (ls : List Nat) (f : Nat → Option β) (h : us.length = ls.length) : (us.zip ls).filterMap (fun p => f p.2) = ls.filterMap f := by
  induction us generalizing ls with
  | nil => cases ls with
    | nil => rfl
    | cons a l => cases h
  | cons u us ih =>
    cases ls with
    | nil => cases h
    | cons a l => rw [List.zip_cons_cons, List.filterMap_cons, List.filterMap_cons, ih l (Nat.succ.inj h)]
theorem zip_refs (us : List Addr) (ls : List Nat) (h : us.length = ls.length) : (us.zip ls).map (fun p => V.ref p.1) = us.map V.ref := by
  induction us generalizing ls with
  | nil => rfl
  | cons u us ih =>
    cases ls with
    | nil => cases h
    | cons a l => rw [List.zip_cons_cons, List.map_cons, List.map_cons, ih l (Nat.succ.inj h)]
theorem paired_zip {α β : Type} {F : α → β → Prop} : ∀ {xs : List α} {ys : List β}, Paired F xs ys → ∀ p ∈ xs.zip ys, F p.1 p.2
  | _, _, .nil, p, h => by cases h
  | _, _, .cons a b, p, h => by
    rcases List.mem_cons.mp h with e | e
    · rw [e]; exact a
    · exact paired_zip b p e
theorem paired_snoc {α β : Type} {F : α → β → Prop} {x : α} {y : β} (h : F x y) : ∀ {xs : List α} {ys : List β}, Paired F xs ys → Paired F (xs ++ [x]) (ys ++ [y])
  | _, _, .nil => .cons h .nil
  | _, _, .cons a b => .cons a (paired_snoc h b)
theorem take_snoc {α : Type} {l : List α} {i : Nat} {c : α} (h : l[i]? = some c) : l.take (i + 1) = l.take i ++ [c] := by
  rw [List.take_add_one, h]; rfl
theorem pure_lacks_from_0 {K : PySem.W.Frag} (vs : List V) (H : Hp) (Q : VK) (E : XK) (h : sp_lacks_from_0 K vs H Q E) : t_lacks_from_0 K { nx := fun _ H' => Q .non H', rt := Q } (start N_lacks_from_0 vs) H := by
  obtain ⟨l, ls, rfl, hl, lt, q⟩ := h
  have l26 := lt.len
  have lne := lt.1
  unfold t_lacks_from_0
  tm_at "v"
  intro T0 Ha na sa hT0
  tm_at "v"
  intro p1 Hb nb sb hp1
  tm_at "v"
  refine v_rep hp1 (by omega) (by omega) (le_line (by simp; omega)) fun F H1 nF s1 hF => ?_
  rw [rep_one, show (((l.length : Nat) : Int) + 1).toNat = l.length + 1 by omega] at hF
  have S1 : Same H H1 := sa.trans (sb.trans s1)
  have hT1 := s1 _ _ (sb _ _ hT0)
  have nF0 : H F = none := (sa.trans sb).free nF
  tm_at "v"
  tm_at "fo"
  refine f_c ⟨fun j σ H' => ∃ (ts : List Addr) (v3 v4 v5 v6 v7 : Option V), σ = [some (.str (S l)), some (.str (S ls)), some (.ref F), v3, v4, v5, v6, v7, none, none] ∧ Same H H' ∧ ts.length = l.length + 1 ∧ H' F = some (.lst (ts.map V.ref)) ∧
      ∀ (p : Nat) (t : Addr), l.length - j ≤ p → ts[p]? = some t → H' t = some (.tup [iv (sh ls (l.drop p)), iv (shn ls (l.drop p))]), ⟨List.replicate (l.length + 1) T0, none, none, none, none, none, rfl, S1, by simp, ?_, ?_⟩, ?_, ?_⟩
  · rw [hF]
    simp [List.map_const']
  · intro p t hp ht
    have hp2 : p < l.length + 1 := by have := (List.getElem?_eq_some_iff.mp ht).1; simpa using this
    have : p = l.length := by omega
    subst this
    rw [List.getElem?_replicate, if_pos (by omega)] at ht
    cases ht
    rw [List.drop_length, (sh_nil lne).1, (sh_nil lne).2]
    exact hT1
  · rintro j x σ H0 H' hj ⟨ts, v3, v4, v5, v6, v7, rfl, sm, hts, hF', hG⟩ ⟨rfl, rfl⟩
    obtain ⟨pl, epl⟩ : ∃ pl : Nat, l.length = pl + 1 + j := ⟨l.length - 1 - j, by omega⟩
    rw [show (l.length : Int) - 1 + (j : Int) * -1 = (pl : Int) by omega]
    have good : ∀ (p : Nat) (t : Addr), pl + 1 ≤ p → ts[p]? = some t → H' t = some (.tup [iv (sh ls (l.drop p)), iv (shn ls (l.drop p))]) := fun p t hp ht => hG p t (by omega) ht
    tm_at "v"
    intro D H2 nD s2 hD
    tm_at "v"
    tm_at "fo"
    have neFD : F ≠ D := ne_of_none hF' nD
    refine f_s ⟨fun i σ H3 => ∃ (us : List Addr) (v5 v6 : Option V), σ = [some (.str (S l)), some (.str (S ls)), some (.ref F), some (.int (pl : Int)), some (.ref D), v5, v6, v7, none, none] ∧ Same H' H3 ∧ us.length = i ∧ H3 D = some (.lst (us.map V.ref)) ∧
        Paired (fun u c => H3 u = some (.tup [iv (led ls (l.drop pl) c).1, iv (led ls (l.drop pl) c).2])) us (ls.take i), ⟨[], v5, v6, rfl, s2, rfl, hD, .nil⟩, ?_, ?_⟩
    · rintro i x σ H0' H3 hi ⟨us, v5, v6, rfl, sm3, hus, hD3, pr⟩ ⟨rfl, c, hc, rfl⟩
      tm_at "v"
      refine i_next_at_0 (by omega) ?_
      have app : ∀ (u : Addr) (H4 : Hp) (v6 : Option V), H3 u = none → Same H3 H4 → H4 u = some (.tup [iv (led ls (l.drop pl) c).1, iv (led ls (l.drop pl) c).2]) → rAppend (.ref D) [.ref u] H4 fun x H5 => ∃ (us : List Addr) (w5 w6 : Option V), [some (.str (S l)), some (.str (S ls)), some (.ref F), some (.int (pl : Int)), some (.ref D), some (.str (S [c])), v6, v7, none, none] = [some (.str (S l)), some (.str (S ls)), some (.ref F), some (.int (pl : Int)), some (.ref D), w5, w6, v7, none, none] ∧ Same H' H5 ∧ us.length = i + 1 ∧ H5 D = some (.lst (us.map V.ref)) ∧
        Paired (fun u c => H5 u = some (.tup [iv (led ls (l.drop pl) c).1, iv (led ls (l.drop pl) c).2])) us (ls.take (i + 1)) := by
        intro u H4 v6 nu s4 h4
        have hD4 := s4 _ _ hD3
        refine v_app hD4 (lt_line (by rw [List.length_map]; omega)) fun H5 b5 h5 => ?_
        refine ⟨us ++ [u], _, _, rfl, But.new (sm3.trans s4) b5 nD, by simp [hus], by rw [h5, List.map_append]; rfl, ?_⟩
        rw [take_snoc hc]
        refine paired_snoc (F := fun u c => H5 u = some (.tup [iv (led ls (l.drop pl) c).1, iv (led ls (l.drop pl) c).2])) (b5 _ _ (fun z => by subst z; rw [hD3] at nu; cases nu) h4) (paired_imp pr fun x hx y hy => b5 _ _ (fun z => ?_) (s4 _ _ hy))
        subst z
        rw [hD3] at hy
        cases hy
      cases en : nextP l pl c with
      | none =>
        have nm : ¬ c ∈ l.drop pl := fun z => by have := nextP_mem.mpr z; rw [en] at this; cases this
        have el : led ls (l.drop pl) c = (1, 1) := by unfold led; rw [if_neg nm]
        rw [el] at app
        rw [show oI none = V.non from rfl]
        tm_at "v"
        refine i_tBMl (SqL.of1 hD3) ?_
        tm_at "v"
        intro u H4 nu s4 h4
        tm_at "v"
        exact app u H4 _ nu s4 h4
      | some k =>
        have hk := nextP_lt en
        have hm : c ∈ l.drop pl := nextP_mem.mp (by rw [en]; rfl)
        have ea : aft c (l.drop pl) = l.drop (k + 1) := aft_next rfl en
        have el : led ls (l.drop pl) c = (sh ls (l.drop (k + 1)) + 1, shn ls (l.drop (k + 1))) := by unfold led; rw [if_pos hm, ea]
        rw [el] at app
        obtain ⟨t, ht⟩ : ∃ t, ts[k + 1]? = some t := ⟨_, List.getElem?_eq_getElem (by omega)⟩
        have htv := good (k + 1) t (by omega) ht
        have hF3 := sm3 _ _ hF'
        rw [show oI (some k) = V.int (k : Int) from rfl]
        tm_at "v"
        refine i_tBMl (SqL.of1 hD3) ?_
        tm_at "v"
        rw [show ((k : Int) + 1) = ((k + 1 : Nat) : Int) by omega]
        refine i_ixL (v := .ref t) (SqL.of1 hF3) (atI_nat (by rw [List.getElem?_map, ht]; rfl)) ?_
        tm_at "v"
        refine i_ixT (v := iv (sh ls (l.drop (k + 1)))) (SqT.of1 (sm3 _ _ htv)) rfl ?_
        unfold iv
        tm_at "v"
        rw [show ((k : Int) + 1) = ((k + 1 : Nat) : Int) by omega]
        refine i_ixL (v := .ref t) (SqL.of1 hF3) (atI_nat (by rw [List.getElem?_map, ht]; rfl)) ?_
        tm_at "v"
        refine i_ixT (v := iv (shn ls (l.drop (k + 1)))) (SqT.of1 (sm3 _ _ htv)) rfl ?_
        tm_at "v"
        intro u H4 nu s4 h4
        tm_at "v"
        exact app u H4 _ nu s4 (by rw [h4]; rfl)
    · rintro σ H3 ⟨us, v5, v6, rfl, sm3, hus, hD3, pr⟩
      rw [List.take_length] at pr
      tm_at "v"
      tm_at "lc"
      refine c_lP (us.zip ls) (fun p => V.ref p.1) (fun p => some (iv (led ls (l.drop pl) p.2).1)) (SqL.of1 (by rw [hD3, zip_refs us ls hus])) (by simp; omega) (fun p H4 hp s4 Yk N y n => ?_) fun D4 H4 nD4 s4 hD4 => ?_
      · refine i_gTup (SqT.of1 (s4 _ _ (paired_zip pr p hp))) rfl ?_
        tm_at "v"
        refine ⟨rfl, ?_⟩
        tm_at "v"
        exact y _ rfl _ (Same.refl _)
      rw [fm_zip us ls (fun c => some (iv (led ls (l.drop pl) c).1)) hus, fm_iv] at hD4
      tm_at "v"
      refine i_minL (SqL.of1 (by rw [hD4, ivs])) (by simp; exact lt.pos) fun m0 hm0 hle0 => ?_
      obtain ⟨m, hm, rfl⟩ := List.mem_map.mp hm0
      have hle : ∀ y, y ∈ (ls.map (led ls (l.drop pl))).map (·.1) → m ≤ y := fun y hy => by
        have := hle0 (y : Int) (List.mem_map.mpr ⟨y, by rw [List.map_map] at hy; exact hy, rfl⟩)
        omega
      obtain ⟨r1, r2⟩ := lack_step lne (l := l.drop pl) (m := m) (by rw [List.map_map]; exact hm) hle
      have hD34 := s4 _ _ hD3
      tm_at "v"
      tm_at "lc"
      refine c_lP (us.zip ls) (fun p => V.ref p.1) (fun p => if (led ls (l.drop pl) p.2).1 = m then some (iv (led ls (l.drop pl) p.2).2) else none) (SqL.of1 (by rw [s4 _ _ hD3, zip_refs us ls hus])) (by simp; omega) (fun p H5 hp s5 Yk N y n => ?_) fun D5 H5 nD5 s5 hD5 => ?_
      · refine i_gTup (SqT.of1 (s5 _ _ (s4 _ _ (paired_zip pr p hp)))) rfl ?_
        tm_at "v"
        refine ⟨rfl, ?_⟩
        unfold iv
        tm_at "v"
        refine if_dec (fun z => ?_) (fun z => ?_)
        · tm_at "v"
          exact y _ (if_pos (by omega)) _ (Same.refl _)
        · exact n (if_neg (by omega)) _ (Same.refl _)
      rw [fm_zip us ls (fun c => if (led ls (l.drop pl) c).1 = m then some (iv (led ls (l.drop pl) c).2) else none) hus, fm_if (p := fun c => (led ls (l.drop pl) c).1 = m)] at hD5
      tm_at "v"
      refine i_sumN (ns := (ls.filter fun c => decide ((led ls (l.drop pl) c).1 = m)).map fun c => (led ls (l.drop pl) c).2) (SqL.of1 (by rw [hD5, List.map_map]; rfl)) ?_
      rw [← sum_sel ls (led ls (l.drop pl)) m, r2, r1]
      tm_at "v"
      intro T H6 nT s6 hT
      refine i_gSub ?_
      tm_at "v"
      have hF6 := s6 _ _ (s5 _ _ (s4 _ _ (sm3 _ _ hF')))
      refine v_setL (j := pl) hF6 (ix_nat (by rw [List.length_map]; omega)) fun H7 b7 h7 => ?_
      have S7 : Same H H7 := But.new (sm.trans (sm3.trans (s4.trans (s5.trans s6)))) b7 nF0
      refine ⟨ts.set pl T, _, _, _, _, _, rfl, S7, by simp [hts], by rw [h7, List.map_set], fun p t hp ht => ?_⟩
      by_cases z : p = pl
      · subst z
        rw [List.getElem?_set_self (by omega)] at ht
        cases ht
        exact b7 _ _ (fun z => by subst z; rw [hF6] at hT; cases hT) hT
      · rw [List.getElem?_set_ne (Ne.symm z)] at ht
        have h0 := good p t (by omega) ht
        exact b7 _ _ (fun z => by subst z; rw [hF'] at h0; cases h0) (s6 _ _ (s5 _ _ (s4 _ _ (sm3 _ _ h0))))
  · rintro σ H' ⟨ts, v3, v4, v5, v6, v7, rfl, sm, hts, hF', hG⟩
    rw [show (((l.length : Nat) : Int) - 1 - -1).toNat = l.length by omega] at hG
    tm_at "v"
    exact q F ts H' nF0 sm hts hF' fun i t e => hG i t (by omega) e
/-! need_letters_0(thing): slots 0 thing, 1 letter, 2 one, 3 other -/
/-! shortest_not_left_0(row, letters): slots 0 row, 1 letters, 2 lacks, 3 found, 4 place, 5 left, 6 letter, 7 there -/
theorem led_low {ls l : List Nat} (h : ls ≠ []) : ∃ (k c : Nat), ls[k]? = some c ∧ (led ls l c).1 = sh ls l := by
  have hne : (ls.map fun c => (led ls l c).1) ≠ [] := by simpa using h
  obtain ⟨m, h1, h2⟩ : ∃ m, m ∈ (ls.map fun c => (led ls l c).1) ∧ ∀ y ∈ (ls.map fun c => (led ls l c).1), m ≤ y := by
    have : ∀ xs : List Nat, xs ≠ [] → ∃ m, m ∈ xs ∧ ∀ y ∈ xs, m ≤ y := by
      intro xs
      induction xs with
      | nil => intro h; exact absurd rfl h
      | cons a xs ih =>
        intro _
        by_cases e : xs = []
        · subst e; exact ⟨a, by simp, by simp⟩
        · obtain ⟨m, h1, h2⟩ := ih e
          by_cases z : a ≤ m
          · exact ⟨a, List.mem_cons_self, fun y hy => by
              rcases List.mem_cons.mp hy with q | q
              · omega
              · have := h2 y q; omega⟩
          · exact ⟨m, List.mem_cons_of_mem _ h1, fun y hy => by
              rcases List.mem_cons.mp hy with q | q
              · omega
              · exact h2 y q⟩
    exact this _ hne
  have := (lack_step h (l := l) (m := m) (by rw [List.map_map]; exact h1) (by rw [List.map_map]; exact h2)).1
  obtain ⟨c, hc, e⟩ := List.mem_map.mp h1
  obtain ⟨k, hk⟩ := List.mem_iff_getElem?.mp hc
  exact ⟨k, c, hk, by rw [← this]; exact e⟩
/-! shortest_not_left_1x(row, letters): slots 0 row, 1 letters, 2 lacks, 3 found, 4 place, 5 left, 6 letter, 7 there -/
abbrev N_shortest_not_left_1x : List Str := ["row", "letters", "lacks", "found", "place", "left", "letter", "there"]
def t_shortest_not_left_1x (K : PySem.W.Frag) (er : Nat → Addr) (E : XK) : TS :=
  (tSeq (tDrop (tCall (sp_need_letters_1x K er) [] E (tCons (tVar 1) tNil))) (tSeq (tAsg (tCall (sp_lacks_from_0 K) [] E0 (tCons (tVar 0) (tCons (tVar 1) tNil))) (gName 2)) (tSeq (tAsg (tC (.str (S []))) (gName 3)) (tSeq (tAsg (tC (.int 0)) (gName 4)) (tSeq (tFor (iRng3 (tCons (tOp (rIxT K) (tOp (rIxL K) (tVar 2) (tC (.int 0))) (tC (.int 0))) (tCons (tC (.int 0)) (tCons (tUn Lv.rNeg (tC (.int 1))) tNil)))) (gName 5) (tSeq (tFor (iStr (tVar 1)) (gName 6) (tSeq (tAsg (tCall (sp_next_at_0 K) [] E0 (tCons (tVar 0) (tCons (tVar 4) (tCons (tVar 6) tNil)))) (gName 7)) (tIfS (tOr (tAnd (tTest (tOp Lv.rIsN (tVar 7) (tC .non))) (tTest (tOp Lv.rEqI (tVar 5) (tC (.int 1))))) (tAnd (tTest (tOp Lv.rNotN (tVar 7) (tC .non))) (tTest (tOp Lv.rEqI (tOp (rIxT K) (tOp (rIxL K) (tVar 2) (tOp Lv.rAdd (tVar 7) (tC (.int 1)))) (tC (.int 0))) (tOp Lv.rSub (tVar 5) (tC (.int 1))))))) tBreak tNext))) (tSeq (tAug 3 (tVar 6) Lv.ipAddS) (tIfS (tTest (tOp Lv.rNotN (tVar 7) (tC .non))) (tAsg (tOp Lv.rAdd (tVar 7) (tC (.int 1))) (gName 4)) tNext)))) (tRet (tVar 3)))))))
-- needs: Lv37 M_nolet M_step Q_shortest_not_left_0
def sp_shortest_not_left_1x (K : PySem.W.Frag) (er : Nat → Addr) : Sp := fun vs H Q E => ∃ (l : List Nat) (x : V), vs = [.str (S l), x] ∧ l.length ≤ 1000 ∧ ((∃ ls : List Nat, x = .str (S ls) ∧ Lets ls ∧ ∀ H', Same H H' → Q (.str (S (shf ls l))) H') ∨ (NoLt K H x ∧ ∀ H', Same H H' → E (.ref (er 3)) none H'))
theorem i_shortest_not_left_1x {K : PySem.W.Frag} {er : Nat → Addr} {l ls : List Nat} {H : Hp} {Q : VK} {E : XK} (hl : l.length ≤ 1000) (lt : Lets ls) (q : ∀ H', Same H H' → Q (.str (S (shf ls l))) H') : sp_shortest_not_left_1x K er [.str (S l), .str (S ls)] H Q E := ⟨l, _, rfl, hl, .inl ⟨ls, rfl, lt, q⟩⟩
theorem i_shortest_not_left_1_no {K : PySem.W.Frag} {er : Nat → Addr} {l : List Nat} {x : V} {H : Hp} {Q : VK} {E : XK} (hl : l.length ≤ 1000) (hb : NoLt K H x) (q : ∀ H', Same H H' → E (.ref (er 3)) none H') : sp_shortest_not_left_1x K er [.str (S l), x] H Q E := ⟨l, _, rfl, hl, .inr ⟨hb, q⟩⟩
theorem pure_shortest_not_left_1x {K : PySem.W.Frag} {er : Nat → Addr} (vs : List V) (H : Hp) (Q : VK) (E : XK) (h : sp_shortest_not_left_1x K er vs H Q E) : t_shortest_not_left_1x K er E { nx := fun _ H' => Q .non H', rt := Q } (start N_shortest_not_left_1x vs) H := by
  obtain ⟨l, x, rfl, hl, ⟨ls, rfl, lt, q⟩ | ⟨hb, q⟩⟩ := h
  rotate_left
  · unfold t_shortest_not_left_1x
    tm_at "v"
    exact i_need_letters_1_no hb q
  have ne := lt.1
  have l26 := lt.len
  have shl := sh_le ne l
  unfold t_shortest_not_left_1x
  tm_at "v"
  refine i_need_letters_1x lt fun H1 s1 => ?_
  tm_at "v"
  refine i_lacks_from_0 hl lt fun La ts H2 np s2 hts hLa lk => ?_
  have S2 := s1.trans s2
  obtain ⟨t0, ht0⟩ : ∃ t, ts[0]? = some t := ⟨_, List.getElem?_eq_getElem (by omega)⟩
  tm_at "v"
  refine fo (J := Itc (sh ls l : Nat) (-1) (sh ls l)) (H1 := H2) (fun R' k' => ?_) ?_
  · tm_at "v"
    refine i_ixL (v := .ref t0) (SqL.of1 hLa) (atI_nat (j := 0) (by rw [List.getElem?_map, ht0]; rfl)) ?_
    tm_at "v"
    refine i_ixT (v := iv (sh ls l)) (SqT.of1 (lk 0 t0 ht0)) rfl ?_
    unfold iv
    tm_at "v"
    simpa using k'
  refine f_c ⟨fun j σ H' => ∃ (fd : List Nat) (pl : Nat) (v5 v6 v7 : Option V), σ = [some (.str (S l)), some (.str (S ls)), some (.ref La), some (.str (S fd)), some (.int (pl : Int)), v5, v6, v7] ∧ H' = H2 ∧ pl ≤ l.length ∧ fd.length = j ∧ shf ls l = fd ++ (if j < sh ls l then shf ls (l.drop pl) else []) ∧ (j < sh ls l → sh ls (l.drop pl) + j = sh ls l),
    ⟨[], 0, none, none, none, rfl, rfl, Nat.zero_le _, rfl, by rw [if_pos (show 0 < sh ls l from sh_pos ne l)]; rfl, fun _ => rfl⟩, ?_, ?_⟩
  · rintro j x σ H0 Ha hj ⟨fd, pl, v5, v6, v7, rfl, rfl, hpl, hfd, hsf, hsh⟩ ⟨rfl, rfl⟩
    have hsh := hsh hj
    rw [if_pos hj] at hsf
    rw [show ((sh ls l : Nat) : Int) + (j : Int) * -1 = ((sh ls (l.drop pl) : Nat) : Int) by omega]
    have dl : (l.drop pl).length ≤ 1000 := by rw [List.length_drop]; omega
    have p1 := sh_pos ne (l.drop pl)
    obtain ⟨k0, c0, hk0, hc0⟩ := led_low ne (l := l.drop pl)
    obtain ⟨k, ⟨c, hk, hc⟩, hlow⟩ : ∃ k : Nat, (∃ c, ls[k]? = some c ∧ (led ls (l.drop pl) c).1 = sh ls (l.drop pl)) ∧ ∀ i, i < k → ¬ ∃ c, ls[i]? = some c ∧ (led ls (l.drop pl) c).1 = sh ls (l.drop pl) := by
      obtain ⟨k, _, h1, h2⟩ := least_of (P := fun k : Nat => ∃ c, ls[k]? = some c ∧ (led ls (l.drop pl) c).1 = sh ls (l.drop pl)) k0 ⟨c0, hk0, hc0⟩
      exact ⟨k, h1, h2⟩
    have kl : k < ls.length := (List.getElem?_eq_some_iff.mp hk).1
    have step := shf_step ne hk hc fun i d hi hd e => hlow i hi ⟨d, hd, e⟩
    tm_at "v"
    tm_at "fo"
    refine f_s ⟨fun i σ H3 => ∃ (v6 v7 : Option V), σ = [some (.str (S l)), some (.str (S ls)), some (.ref La), some (.str (S fd)), some (.int (pl : Int)), some (.int ((sh ls (l.drop pl) : Nat) : Int)), v6, v7] ∧ H3 = Ha ∧ i ≤ k, ⟨v6, v7, rfl, rfl, Nat.zero_le _⟩, ?_, ?_⟩
    · rintro i x σ H0 Hb hi ⟨v6, v7, rfl, rfl, hik⟩ ⟨rfl, d, hd, rfl⟩
      have same : (led ls (l.drop pl) d).1 = sh ls (l.drop pl) → i = k := fun e => by
        rcases Nat.lt_or_ge i k with z | z
        · exact absurd ⟨d, hd, e⟩ (hlow i z)
        · omega
      have other : i = k → d = c := fun e => by subst e; rw [hk] at hd; cases hd; rfl
      tm_at "v"
      refine i_next_at_0 hpl ?_
      cases en : nextP l pl d with
      | none =>
        have nm : ¬ d ∈ l.drop pl := fun z => by have := nextP_mem.mpr z; rw [en] at this; cases this
        have el : (led ls (l.drop pl) d).1 = 1 := by unfold led; rw [if_neg nm]
        rw [show oI none = V.non from rfl]
        tm_at "v"
        refine if_dec (fun z => ?_) (fun z => ?_)
        · have e1 : sh ls (l.drop pl) = 1 := by omega
          have ek := same (by omega)
          have ed := other ek
          subst ed
          rw [if_neg nm] at step
          tm_at "v"
          refine i_augS1 (by tm_at "z") ?_
          tm_at "v"
          refine ⟨fd ++ [d], pl, _, _, _, rfl, rfl, hpl, by simp [hfd], ?_, fun z => by omega⟩
          rw [if_neg (by omega), hsf, step, List.append_nil]
        · tm_at "v"
          refine ⟨_, _, rfl, rfl, ?_⟩
          rcases Nat.lt_or_ge i k with y | y
          · omega
          · have := other (by omega)
            subst this
            omega
      | some k2 =>
        have hk2 := nextP_lt en
        have hm : d ∈ l.drop pl := nextP_mem.mp (by rw [en]; rfl)
        have ea : aft d (l.drop pl) = l.drop (k2 + 1) := aft_next rfl en
        have el : (led ls (l.drop pl) d).1 = sh ls (l.drop (k2 + 1)) + 1 := by unfold led; rw [if_pos hm, ea]
        obtain ⟨t, ht⟩ : ∃ t, ts[k2 + 1]? = some t := ⟨_, List.getElem?_eq_getElem (by omega)⟩
        rw [show oI (some k2) = V.int (k2 : Int) from rfl]
        tm_at "v"
        rw [show ((k2 : Int) + 1) = ((k2 + 1 : Nat) : Int) by omega]
        refine i_ixL (v := .ref t) (SqL.of1 hLa) (atI_nat (by rw [List.getElem?_map, ht]; rfl)) ?_
        tm_at "v"
        refine i_ixT (v := iv (sh ls (l.drop (k2 + 1)))) (SqT.of1 (lk _ t ht)) rfl ?_
        unfold iv
        tm_at "v"
        refine if_dec (fun z => ?_) (fun z => ?_)
        · have ek := same (by omega)
          have ed := other ek
          subst ed
          rw [if_pos hm, ea] at step
          tm_at "v"
          refine i_augS1 (by tm_at "z") ?_
          tm_at "v"
          rw [show ((k2 : Int) + 1) = ((k2 + 1 : Nat) : Int) by omega]
          have p2 := sh_pos ne (l.drop (k2 + 1))
          refine ⟨fd ++ [d], k2 + 1, _, _, _, rfl, rfl, by omega, by simp [hfd], ?_, fun _ => by omega⟩
          rw [if_pos (by omega), hsf, step]; simp
        · tm_at "v"
          refine ⟨_, _, rfl, rfl, ?_⟩
          rcases Nat.lt_or_ge i k with y | y
          · omega
          · have := other (by omega)
            subst this
            omega
    · rintro σ Hb ⟨v6, v7, rfl, rfl, hik⟩
      omega
  · rintro σ H' ⟨fd, pl, v5, v6, v7, rfl, rfl, hpl, hfd, hsf, hsh⟩
    rw [if_neg (Nat.lt_irrefl _), List.append_nil] at hsf
    tm_at "v"
    rw [← hsf]
    exact q _ S2
/-! way_at_0x(row, other, place): slots 0 row, 1 other, 2 place, 3 ways, 4 left, 5 way, 6 here, 7 at, 8 letter -/
abbrev N_way_at_0x : List Str := ["row", "other", "place", "ways", "left", "way", "here", "at", "letter"]
def t_way_at_0x (K : PySem.W.Frag) (er : Nat → Addr) (E : XK) : TS :=
  (tSeq (tAsg (tCall (sp_ways_from_0 K) [] E0 (tCons (tVar 0) (tCons (tVar 1) tNil))) (gName 3)) (tSeq (tIfS (tOr (tNot (tB (tCB (Lv.rIs1 K) (tCons (tVar 2) (tCons (tC (.ty "int")) tNil))))) (tOr (tB (tCB (Lv.rIs1 K) (tCons (tVar 2) (tCons (tC (.ty "bool")) tNil)))) (tNot (tTest (tChain Lv.rLe Lv.rLt (tC (.int 0)) (tVar 2) (tOp (rIxL K) (tOp (rIxL K) (tVar 3) (tC (.int 0))) (tC (.int 0)))))))) (Lv.tRaise E (er 4)) tNext) (tSeq (tAsg (tVar 2) (gName 4)) (tSeq (tAsg (tLst tNil) (gName 5)) (tSeq (tAsg (tC (.int 0)) (gName 6)) (tSeq (tFor (Lv.iEnumS (tCons (tVar 1) tNil)) (gTup K 2 (gCons (gName 7) (gCons (gName 8) gNil))) (tSeq (tWhile (tOr (tTest (tOp Lv.rNeS (tOp Lv.rIxT1 (tVar 0) (tVar 6)) (tVar 8))) (tTest (tOp Lv.rGe (tVar 4) (tOp (rIxL K) (tOp (rIxL K) (tVar 3) (tOp Lv.rAdd (tVar 6) (tC (.int 1)))) (tOp Lv.rAdd (tVar 7) (tC (.int 1))))))) (Evl.tCut (tIfS (tTest (tOp Lv.rEqS (tOp Lv.rIxT1 (tVar 0) (tVar 6)) (tVar 8))) (tAug 4 (tOp (rIxL K) (tOp (rIxL K) (tVar 3) (tOp Lv.rAdd (tVar 6) (tC (.int 1)))) (tOp Lv.rAdd (tVar 7) (tC (.int 1)))) (ipI fun i j => i - j)) tNext) (tAug 6 (tC (.int 1)) (ipI fun i j => i + j)))) (tSeq (tDrop (tBM K "list" rAppend (tVar 5) (tCons (tVar 6) tNil))) (tAug 6 (tC (.int 1)) (ipI fun i j => i + j))))) (tRet (tVar 5))))))))
-- needs: Lv36 M_way
def sp_way_at_0x (K : PySem.W.Frag) (er : Nat → Addr) : Sp := fun vs H Q E => ∃ (l m : List Nat) (x : V), vs = [.str (S l), .str (S m), x] ∧ l.length ≤ 1000 ∧ m.length ≤ 1000 ∧
  ((∃ p : Nat, x = .int (p : Int) ∧ p < W l m ∧ ∀ a H', H a = none → Same H H' → H' a = some (.lst ((wayAt l m p 0).map iv)) → Q (.ref a) H') ∨ (BadPl K H (W l m) x ∧ ∀ H', Same H H' → E (.ref (er 4)) none H'))
theorem i_way_at_0x {K : PySem.W.Frag} {er : Nat → Addr} {l m : List Nat} {p : Nat} {H : Hp} {Q : VK} {E : XK} (hl : l.length ≤ 1000) (hm : m.length ≤ 1000) (hp : p < W l m)
  (q : ∀ a H', H a = none → Same H H' → H' a = some (.lst ((wayAt l m p 0).map iv)) → Q (.ref a) H') : sp_way_at_0x K er [.str (S l), .str (S m), .int (p : Int)] H Q E := ⟨l, m, _, rfl, hl, hm, .inl ⟨p, rfl, hp, q⟩⟩
theorem i_way_at_no {K : PySem.W.Frag} {er : Nat → Addr} {l m : List Nat} {x : V} {H : Hp} {Q : VK} {E : XK} (hl : l.length ≤ 1000) (hm : m.length ≤ 1000) (hb : BadPl K H (W l m) x) (q : ∀ H', Same H H' → E (.ref (er 4)) none H') : sp_way_at_0x K er [.str (S l), .str (S m), x] H Q E := ⟨l, m, x, rfl, hl, hm, .inr ⟨hb, q⟩⟩
theorem pure_way_at_0x {K : PySem.W.Frag} {er : Nat → Addr} (vs : List V) (H : Hp) (Q : VK) (E : XK) (h : sp_way_at_0x K er vs H Q E) : t_way_at_0x K er E { nx := fun _ H' => Q .non H', rt := Q } (start N_way_at_0x vs) H := by
  obtain ⟨l, m, x, rfl, hl, hm, ⟨p, rfl, hp, q⟩ | ⟨hb, q⟩⟩ := h
  rotate_left
  · unfold t_way_at_0x
    tm_at "w"
    refine ⟨l, m, rfl, hl, hm, fun wy rs H1 nwy sm hrl hwy T => ?_⟩
    obtain ⟨a0, ha0⟩ : ∃ a, rs[0]? = some a := ⟨_, List.getElem?_eq_getElem (by omega)⟩
    have ga0 : H1 a0 = some (.lst ((wrow (l.drop 0) m).map V.int)) := T 0 a0 ha0
    tm_at "w"
    rcases (hb.same sm).kd with h | ⟨h, h2⟩ | ⟨i, rfl, h⟩
    · refine i_kd h ?_
      tm_at "v"
      exact q _ sm
    · refine i_kd h ?_
      tm_at "v"
      refine i_kd h2 ?_
      tm_at "v"
      exact q _ sm
    · refine i_isi_int_int ?_
      tm_at "w"
      refine i_isi_int_bool ?_
      tm_at "w"
      refine if_dec (fun z => ?_) (fun z => ?_)
      · tm_at "w"
        refine i_ixL (v := .ref a0) (SqL.of1 hwy) (atI_nat (j := 0) (by rw [List.getElem?_map, ha0]; rfl)) ?_
        tm_at "w"
        refine i_ixL (v := .int ((W l m : Nat) : Int)) (SqL.of1 ga0) (atI_nat (j := 0) (by rw [List.getElem?_map, List.drop_zero, wrow_get _ _ (Nat.zero_le _)]; rfl)) ?_
        tm_at "w"
        rw [decide_eq_false (show ¬ i < ((W l m : Nat) : Int) by omega)]
        tm_at "v"
        exact q _ sm
      · tm_at "v"
        exact q _ sm
  unfold t_way_at_0x
  tm_at "w"
  refine ⟨l, m, rfl, hl, hm, fun wy rs H1 nwy sm hrl hwy T => ?_⟩
  have tab : ∀ (i j : Nat), i ≤ l.length → j ≤ m.length → ∃ a, rs[i]? = some a ∧ H1 a = some (.lst ((wrow (l.drop i) m).map V.int)) := fun i j hi hj => by
    obtain ⟨a, ha⟩ : ∃ a, rs[i]? = some a := ⟨_, List.getElem?_eq_getElem (by omega)⟩
    exact ⟨a, ha, T i a ha⟩
  tm_at "w"
  refine i_isi_int_int ?_
  tm_at "w"
  refine i_isi_int_bool ?_
  tm_at "w"
  refine if_dec (fun z => ?_) (fun z => absurd (by omega) z)
  tm_at "w"
  obtain ⟨a0, ha0, ga0⟩ := tab 0 0 (by omega) (by omega)
  refine i_ixL (v := .ref a0) (SqL.of1 hwy) (atI_nat (j := 0) (by rw [List.getElem?_map, ha0]; rfl)) ?_
  tm_at "w"
  refine i_ixL (v := .int ((W l m : Nat) : Int)) (SqL.of1 ga0) (atI_nat (j := 0) (by rw [List.getElem?_map, List.drop_zero, wrow_get _ _ (Nat.zero_le _)]; rfl)) ?_
  tm_at "w"
  rw [decide_eq_true (show (p : Int) < ((W l m : Nat) : Int) by omega)]
  tm_at "w"
  refine ⟨by tm_at "z", fun D nD => ?_⟩
  have s2 := same_new (o := .lst []) nD
  have nDH : H D = none := sm.free nD
  have hwy2 := s2 _ _ hwy
  have T2 := T.same s2
  have nDw : wy ≠ D := ne_of_none hwy nD
  have hDrs : D ∉ rs := fun z => by
    obtain ⟨r, hr⟩ := List.mem_iff_getElem?.mp z
    rw [T r D hr] at nD
    cases nD
  have sm2 := sm.trans s2
  have hD0 : upd H1 D (.lst []) D = some (.lst []) := upd_same
  generalize upd H1 D (.lst []) = H2 at *
  clear s2 T sm hwy nD tab ga0
  tm_at "w"
  tm_at "fo"
  refine f_t ⟨fun j σ H' => ∃ (v7 v8 : Option V) (ps : List Nat) (i p' : Nat), σ = [some (.str (S l)), some (.str (S m)), some (.int (p : Int)), some (.ref wy), some (.int (p' : Int)), some (.ref D), some (.int (i : Int)), v7, v8] ∧ i ≤ l.length ∧ ps.length = j ∧
      p' < W (l.drop i) (m.drop j) ∧ wayAt l m p 0 = ps ++ wayAt (l.drop i) (m.drop j) p' i ∧ Same H H' ∧ H' wy = some (.lst (rs.map V.ref)) ∧ Tab H' rs (fun r => wrow (l.drop r) m) ∧ H' D = some (.lst (ps.map iv)),
    ⟨none, none, [], 0, p, rfl, Nat.zero_le _, rfl, hp, rfl, sm2, hwy2, T2, hD0⟩, ?_, ?_⟩
  · rintro j x σ H3 H4 hj ⟨v7, v8, ps, i, p', rfl, hi, hps, hp', ew, sm3, hwy3, T3, hD3⟩ ⟨t, xs, rfl, nt, rfl, d, hd, rfl⟩
    have ed : m.drop j = d :: m.drop (j + 1) := by rw [List.drop_eq_getElem_cons hj, (List.getElem?_eq_some_iff.mp hd).2]
    have st := same_new (o := .tup [V.int (j : Nat), .str (S [d])]) nt
    have hwy4 := st _ _ hwy3
    have T4 := T3.same st
    have sm4 := sm3.trans st
    have hD4 := st _ _ hD3
    have at_ : upd H3 t (.tup [V.int (j : Nat), .str (S [d])]) t = some (.tup [V.int (j : Nat), .str (S [d])]) := upd_same
    generalize upd H3 t (.tup [V.int (j : Nat), .str (S [d])]) = H4 at *
    clear st T3 hwy3 sm3 nt hD3
    rw [ed] at hp' ew
    refine i_gTup (SqT.of1 at_) rfl ?_
    tm_at "w"
    refine wh (fun k σ H' => ∃ (i p' : Nat), σ = [some (.str (S l)), some (.str (S m)), some (.int (p : Int)), some (.ref wy), some (.int (p' : Int)), some (.ref D), some (.int (i : Int)), some (.int (j : Nat)), some (.str (S [d]))] ∧ i ≤ l.length ∧ k = l.length - i ∧
      p' < W (l.drop i) (d :: m.drop (j + 1)) ∧ wayAt l m p 0 = ps ++ wayAt (l.drop i) (d :: m.drop (j + 1)) p' i ∧ H' = H4) (l.length - i) ⟨i, p', rfl, hi, rfl, hp', ew, rfl⟩ ?_
    clear hp' ew hi p' i
    rintro k σ H5 ⟨i, p', rfl, hi, rfl, hp', ew, rfl⟩
    have hil : i < l.length := by
      rcases Nat.lt_or_ge i l.length with z | z
      · exact z
      · rw [List.drop_of_length_le z, W_nilc] at hp'; omega
    obtain ⟨c, hc, ec⟩ := drop_at hil
    rw [ec] at hp' ew
    obtain ⟨b, hb⟩ : ∃ b, rs[i + 1]? = some b := ⟨_, List.getElem?_eq_getElem (by omega)⟩
    have gb := T4 (i + 1) b hb
    dsimp only at gb
    tm_at "w"
    refine i_ix1 (by omega) hc ?_
    tm_at "w"
    by_cases zc : c = d
    · subst zc
      try rw [decide_eq_true rfl]
      tm_at "w"
      refine i_ixL (v := .ref b) (SqL.of1 hwy4) (atI_nat (j := i + 1) (by rw [List.getElem?_map, hb]; rfl)) ?_
      tm_at "w"
      refine i_ixL (v := .int ((W (l.drop (i + 1)) (m.drop (j + 1)) : Nat) : Int)) (SqL.of1 gb) (atI_nat (j := j + 1) (by rw [List.getElem?_map, wrow_get _ _ (by omega)]; rfl)) ?_
      tm_at "w"
      by_cases zp : p' < W (l.drop (i + 1)) (m.drop (j + 1))
      · rw [decide_eq_false (show ¬ ((W (l.drop (i + 1)) (m.drop (j + 1)) : Nat) : Int) ≤ (p' : Int) by omega)]
        rw [wayAt_take zp] at ew
        tm_at "w"
        refine i_tyL (SqL.of1 hD4) ?_
        tm_at "w"
        refine i_app hD4 (lt_line (by simp; omega)) ?_
        tm_at "w"
        refine ⟨_, _, ps ++ [i], i + 1, p', rfl, by omega, by simp [hps], zp, by rw [ew]; simp, sm4.updN nDH, by rw [upd_ne nDw]; exact hwy4, T4.updN hDrs, ?_⟩
        rw [upd_same, List.map_append]
        rfl
      · rw [decide_eq_true (show ((W (l.drop (i + 1)) (m.drop (j + 1)) : Nat) : Int) ≤ (p' : Int) by omega)]
        rw [wayAt_pass zp] at ew
        rw [W_cons, if_pos rfl] at hp'
        tm_at "w"
        refine i_turn ?_
        refine ⟨fun σ' H' => σ' = [some (.str (S l)), some (.str (S m)), some (.int (p : Int)), some (.ref wy), some (.int ((p' - W (l.drop (i + 1)) (m.drop (j + 1)) : Nat) : Int)), some (.ref D), some (.int (i : Int)), some (.int (j : Nat)), some (.str (S [c]))] ∧ H' = H5, ?_, ?_⟩
        · tm_at "w"
          refine i_ix1 (by omega) hc ?_
          tm_at "w"
          try rw [decide_eq_true rfl]
          tm_at "w"
          refine i_ixL (v := .ref b) (SqL.of1 hwy4) (atI_nat (j := i + 1) (by rw [List.getElem?_map, hb]; rfl)) ?_
          tm_at "w"
          refine i_ixL (v := .int ((W (l.drop (i + 1)) (m.drop (j + 1)) : Nat) : Int)) (SqL.of1 gb) (atI_nat (j := j + 1) (by rw [List.getElem?_map, wrow_get _ _ (by omega)]; rfl)) ?_
          tm_at "w"
          refine ⟨?_, rfl⟩
          rw [show (p' : Int) - ((W (l.drop (i + 1)) (m.drop (j + 1)) : Nat) : Int) = ((p' - W (l.drop (i + 1)) (m.drop (j + 1)) : Nat) : Int) by omega]
          rfl
        · rintro σ' H' ⟨rfl, rfl⟩
          tm_at "w"
          exact ⟨l.length - (i + 1), by omega, i + 1, _, rfl, by omega, rfl, by omega, ew, rfl⟩
    · rw [decide_eq_false (fun y => zc (by injection y))]
      rw [wayAt_skip zc] at ew
      rw [W_cons, if_neg zc, Nat.add_zero] at hp'
      tm_at "w"
      refine i_turn ?_
      refine ⟨fun σ' H' => σ' = [some (.str (S l)), some (.str (S m)), some (.int (p : Int)), some (.ref wy), some (.int (p' : Int)), some (.ref D), some (.int (i : Int)), some (.int (j : Nat)), some (.str (S [d]))] ∧ H' = H5, ?_, ?_⟩
      · tm_at "w"
        refine i_ix1 (by omega) hc ?_
        tm_at "w"
        rw [decide_eq_false (fun y => zc (by injection y))]
        tm_at "w"
        exact ⟨rfl, rfl⟩
      · rintro σ' H' ⟨rfl, rfl⟩
        tm_at "w"
        exact ⟨l.length - (i + 1), by omega, i + 1, _, rfl, by omega, rfl, hp', ew, rfl⟩
  · rintro σ H' ⟨v7, v8, ps, i, p', rfl, hi, hps, hp', ew, sm3, hwy3, T3, hD3⟩
    rw [List.drop_length, wayAt_nil, List.append_nil] at ew
    tm_at "w"
    exact q D H' nDH sm3 (by rw [ew]; exact hD3)
/-! is_row_0(thing): slots 0 thing, 1 sign -/
abbrev N_is_row_0 : List Str := ["thing", "sign"]
def t_is_row_0 (K : PySem.W.Frag) : TS :=
  (tRet (tAndV (tCB (Lv.rIs1 K) (tCons (tVar 0) (tCons (tC (.ty "str")) tNil))) (tOp (Lv.rEqLS K) (tLc (iStr (tVar 0)) (gName 1) (tNot (tTest (tChain Lv.rLeS Lv.rLeS (tC (.str (S [97]))) (tVar 1) (tC (.str (S [122])))))) (tVar 1) [1]) (tLst tNil))))
def LowB (l : List Nat) : Bool := l.all fun c => decide (97 ≤ c ∧ c ≤ 122)
/-- what is no text -/
def NotS (K : PySem.W.Frag) (H : Hp) (x : V) : Prop := ∀ Q : VK, Q (.bl false) H → rIs1 K [x, .ty "str"] H Q
def sp_is_row_0 (K : PySem.W.Frag) : Sp := fun vs H Q _ => ∃ x, vs = [x] ∧ ((∃ (l : List Nat), x = .str (S l) ∧ l.length ≤ 100000 ∧ Chr l ∧ ∀ H', Same H H' → Q (.bl (LowB l)) H') ∨ (NotS K H x ∧ Q (.bl false) H))
theorem i_is_row_0 {K : PySem.W.Frag} {l : List Nat} {H : Hp} {Q : VK} {E : XK} (hl : l.length ≤ 100000) (hc : Chr l) (q : ∀ H', Same H H' → Q (.bl (LowB l)) H') : sp_is_row_0 K [.str (S l)] H Q E := ⟨_, rfl, .inl ⟨l, rfl, hl, hc, q⟩⟩
theorem i_is_row_no {K : PySem.W.Frag} {x : V} {H : Hp} {Q : VK} {E : XK} (hx : NotS K H x) (q : Q (.bl false) H) : sp_is_row_0 K [x] H Q E := ⟨_, rfl, .inr ⟨hx, q⟩⟩
theorem LowB_iff {l : List Nat} : LowB l = true ↔ Low l := by
  unfold LowB Low
  rw [List.all_eq_true]
  constructor
  · exact fun h c hc => of_decide_eq_true (h c hc)
  · exact fun h c hc => decide_eq_true (h c hc)
theorem pure_is_row_0 {K : PySem.W.Frag} (vs : List V) (H : Hp) (Q : VK) (E : XK) (h : sp_is_row_0 K vs H Q E) : t_is_row_0 K { nx := fun _ H' => Q .non H', rt := Q } (start N_is_row_0 vs) H := by
  obtain ⟨x, rfl, ⟨l, rfl, hl, hch, q⟩ | ⟨hx, q⟩⟩ := h
  rotate_left
  · unfold t_is_row_0
    tm_at "w"
    refine hx _ ?_
    tm_at "w"
    exact q
  unfold t_is_row_0
  tm_at "w"
  refine i_isi_str_str ?_
  tm_at "w"
  tm_at "lc"
  refine c_s fun D nD => ⟨fun i acc H' => H' = upd H D (.lst acc) ∧ ∃ m : List Nat, acc = m.map vc ∧ Chr m ∧ (m = [] ↔ Low (l.take i)), ⟨rfl, [], rfl, Chr.nil, by simp [Low]⟩, ?_, ?_⟩
  · rintro i acc x H' H'' hi hll hD ⟨rfl, m, rfl, cm, hm⟩ ⟨rfl, c, hc, rfl⟩
    have et : l.take (i + 1) = l.take i ++ [c] := by rw [List.take_add_one, hc]; rfl
    have ht : Low (l.take (i + 1)) ↔ Low (l.take i) ∧ 97 ≤ c ∧ c ≤ 122 := by
      rw [et]
      constructor
      · exact fun h => ⟨fun d hd => h d (List.mem_append_left _ hd), h c (List.mem_append_right _ (List.mem_singleton.mpr rfl))⟩
      · exact fun h => h.1.app (Low.one h.2)
    tm_at "w"
    refine ⟨rfl, ?_⟩
    tm_at "w"
    have cc : c < 1114112 := hch c (List.mem_of_getElem? hc)
    have c0 : Chr (m ++ [c]) := fun d hd => by
      rcases List.mem_append.mp hd with z | z
      · exact cm d z
      · rw [List.mem_singleton.mp z]; exact cc
    have put : (m ++ [c] = [] ↔ Low (l.take (i + 1))) ↔ ¬ (97 ≤ c ∧ c ≤ 122) ∨ ¬ Low (l.take i) := by
      rw [ht]
      constructor
      · intro h
        have : ¬ (Low (l.take i) ∧ 97 ≤ c ∧ c ≤ 122) := fun z => by simpa using h.mpr z
        by_cases y : Low (l.take i)
        · exact Or.inl fun z => this ⟨y, z⟩
        · exact Or.inr y
      · intro h
        constructor
        · intro z; simp at z
        · rintro ⟨y, z⟩
          rcases h with h | h
          · exact absurd z h
          · exact absurd y h
    by_cases y1 : c < 97
    · rw [decide_eq_true (lt_one.mpr y1)]
      tm_at "w"
      exact lc_put hD hll (by omega) ⟨upd_upd, m ++ [c], by rw [List.map_append]; rfl, c0, put.mpr (Or.inl (by omega))⟩
    · rw [decide_eq_false (fun z => y1 (lt_one.mp z))]
      tm_at "w"
      by_cases y2 : 122 < c
      · rw [decide_eq_true (lt_one.mpr y2)]
        tm_at "w"
        exact lc_put hD hll (by omega) ⟨upd_upd, m ++ [c], by rw [List.map_append]; rfl, c0, put.mpr (Or.inl (by omega))⟩
      · rw [decide_eq_false (fun z => y2 (lt_one.mp z))]
        tm_at "w"
        refine lc_skip hD hll ⟨rfl, m, rfl, cm, ?_⟩
        rw [ht, hm]
        exact ⟨fun z => ⟨z, by omega⟩, fun z => z.1⟩
  · rintro acc H' hll hD ⟨rfl, m, rfl, cm, hm⟩
    tm_at "w"
    refine ⟨by tm_at "z", fun p np => ?_⟩
    rw [List.take_length] at hm
    refine i_r2LS (ns := m.map fun c => [c]) (ms := []) (SqL.of1 ?_) (SqL.of1 upd_same) ?_ ?_ ?_
    · rw [upd_ne (ne_of_none hD np), ← vc_vs]
      exact hD
    · intro t ht
      obtain ⟨c, hc, rfl⟩ := List.mem_map.mp ht
      exact Chr.one (cm c hc)
    · intro t ht
      cases ht
    · have e : decide ((m.map fun c => [c]) = []) = LowB l := by
        rw [Bool.eq_iff_iff, decide_eq_true_iff, List.map_eq_nil_iff, hm, LowB_iff]
      rw [e]
      exact q _ ((same_new nD).trans (same_new np))
/-! row_in_0(word): slots 0 word -/
abbrev N_row_in_0 : List Str := ["word"]
def t_row_in_0 (K : PySem.W.Frag) (er : Nat → Addr) (E : XK) : TS :=
  (tSeq (tIfS (tTest (tOp Lv.rEqS (tVar 0) (tC (.str (S [45]))))) (tRet (tC (.str (S [])))) tNext) (tSeq (tIfS (tOr (tTest (tOp Lv.rEqS (tVar 0) (tC (.str (S []))))) (tOr (tNot (tB (tCall (sp_is_row_0 K) [] E0 (tCons (tVar 0) tNil)))) (tTest (tOp Lv.rGt (tCB Lv.rLenT (tCons (tVar 0) tNil)) (tC (.int 80)))))) (Lv.tRaise E (er 1)) tNext) (tRet (tVar 0))))
-- needs: Lv43
/-- the row that a word writes -/
def rowIn (a : List Nat) : Option (List Nat) := if a = [45] then some [] else if a = [] then none else if LowB a = true then (if 80 < a.length then none else some a) else none
theorem rowIn_low {a r : List Nat} (h : rowIn a = some r) : Low r ∧ r.length ≤ 80 := by
  unfold rowIn at h
  split at h
  · cases h; exact ⟨Low.nil, by decide⟩
  split at h
  · cases h
  split at h
  · split at h
    · cases h
    · cases h
      exact ⟨LowB_iff.mp ‹_›, by omega⟩
  · cases h
def sp_row_in_0 (K : PySem.W.Frag) (er : Nat → Addr) : Sp := fun vs H Q E => ∃ (a : List Nat), vs = [.str (S a)] ∧ a.length ≤ 100000 ∧ Chr a ∧ (∀ r, rowIn a = some r → ∀ H', Same H H' → Q (.str (S r)) H') ∧ (rowIn a = none → ∀ H', Same H H' → E (.ref (er 1)) none H')
theorem i_row_in_0 {K : PySem.W.Frag} {er : Nat → Addr} {a : List Nat} {H : Hp} {Q : VK} {E : XK} (hl : a.length ≤ 100000) (ch : Chr a) (q : ∀ r, rowIn a = some r → ∀ H', Same H H' → Q (.str (S r)) H') (r : rowIn a = none → ∀ H', Same H H' → E (.ref (er 1)) none H') : sp_row_in_0 K er [.str (S a)] H Q E := ⟨a, rfl, hl, ch, q, r⟩
theorem pure_row_in_0 {K : PySem.W.Frag} {er : Nat → Addr} (vs : List V) (H : Hp) (Q : VK) (E : XK) (h : sp_row_in_0 K er vs H Q E) : t_row_in_0 K er E { nx := fun _ H' => Q .non H', rt := Q } (start N_row_in_0 vs) H := by
  obtain ⟨a, rfl, hl, ch, q, r⟩ := h
  unfold rowIn at q r
  unfold t_row_in_0
  tm_at "v"
  refine if_dec (fun z => ?_) (fun z => ?_)
  · tm_at "v"
    exact q _ (if_pos z) _ (Same.refl _)
  rw [if_neg z] at q r
  tm_at "v"
  refine if_dec (fun y => ?_) (fun y => ?_)
  · tm_at "v"
    exact r (if_pos y) _ (Same.refl _)
  rw [if_neg y] at q r
  tm_at "v"
  refine i_is_row_0 hl ch fun H1 s1 => ?_
  tm_at "v"
  cases e : LowB a with
  | false =>
    rw [e, if_neg (by simp)] at r
    tm_at "v"
    exact r rfl _ s1
  | true =>
    rw [e, if_pos rfl] at q r
    tm_at "v"
    refine if_dec (fun x => ?_) (fun x => ?_)
    · tm_at "v"
      exact r (if_pos (by omega)) _ s1
    · tm_at "v"
      exact q _ (if_neg (by omega)) _ s1
/-! first_places_0(row, other): slots 0 row, 1 other, 2 found, 3 place, 4 letter, 5 at -/
abbrev N_first_places_0 : List Str := ["row", "other", "found", "place", "letter", "at"]
def t_first_places_0 (K : PySem.W.Frag) : TS :=
  (tSeq (tAsg (tLst tNil) (gName 2)) (tSeq (tAsg (tC (.int 0)) (gName 3)) (tSeq (tFor (iStr (tVar 1)) (gName 4) (tSeq (tAsg (tBM K "str" Lv.rFind (tVar 0) (tCons (tVar 4) (tCons (tVar 3) tNil))) (gName 5)) (tSeq (tIfS (tTest (tOp Lv.rLt (tVar 5) (tC (.int 0)))) (tRet (tC .non)) tNext) (tSeq (tDrop (tBM K "list" rAppend (tVar 2) (tCons (tVar 5) tNil))) (tAsg (tOp Lv.rAdd (tVar 5) (tC (.int 1))) (gName 3)))))) (tRet (tVar 2)))))
-- needs: M_places
def sp_first_places_0 (K : PySem.W.Frag) : Sp := fun vs H Q _ => ∃ (l m : List Nat), vs = [.str (S l), .str (S m)] ∧ m.length ≤ 1000 ∧
  (fp l 0 m = none → ∀ H', Same H H' → Q .non H') ∧ ∀ ps p H', fp l 0 m = some ps → H p = none → Same H H' → H' p = some (.lst (ps.map iv)) → Q (.ref p) H'
theorem i_first_places_0 {K : PySem.W.Frag} {l m : List Nat} {H : Hp} {Q : VK} {E : XK} (hm : m.length ≤ 1000) (q0 : fp l 0 m = none → ∀ H', Same H H' → Q .non H') (q1 : ∀ ps p H', fp l 0 m = some ps → H p = none → Same H H' → H' p = some (.lst (ps.map iv)) → Q (.ref p) H') :
  sp_first_places_0 K [.str (S l), .str (S m)] H Q E := ⟨l, m, rfl, hm, q0, q1⟩
theorem pure_first_places_0 {K : PySem.W.Frag} (vs : List V) (H : Hp) (Q : VK) (E : XK) (h : sp_first_places_0 K vs H Q E) : t_first_places_0 K { nx := fun _ H' => Q .non H', rt := Q } (start N_first_places_0 vs) H := by
  obtain ⟨l, m, rfl, hm, q0, q1⟩ := h
  unfold t_first_places_0
  tm_at "w"
  refine ⟨by tm_at "z", fun D nD => ?_⟩
  tm_at "w"
  tm_at "fo"
  refine f_s ⟨fun j σ H' => ∃ (v4 v5 : Option V) (ps : List Nat) (i : Nat), σ = [some (.str (S l)), some (.str (S m)), some (.ref D), some (.int (i : Int)), v4, v5] ∧ i ≤ l.length ∧ ps.length = j ∧ fp l 0 m = (fp l i (m.drop j)).map (ps ++ ·) ∧ H' = upd H D (.lst (ps.map iv)),
    ⟨none, none, [], 0, rfl, Nat.zero_le _, rfl, by simp, rfl⟩, ?_, ?_⟩
  · rintro j x σ H0 H' hj ⟨v4, v5, ps, i, rfl, hi, hps, e, rfl⟩ ⟨rfl, c, hc, rfl⟩
    have ed : m.drop j = c :: m.drop (j + 1) := by rw [List.drop_eq_getElem_cons hj, (List.getElem?_eq_some_iff.mp hc).2]
    rw [ed] at e
    tm_at "w"
    refine i_find hi ?_
    unfold findI
    cases en : nextP l i c with
    | none =>
      rw [fp_none _ en] at e
      tm_at "w"
      refine if_dec (fun z => ?_) (fun z => ?_)
      · tm_at "w"
        exact q0 e _ (same_new nD)
      · exact absurd (by decide : (-1 : Int) < 0) z
    | some k =>
      have hk := nextP_lt en
      rw [fp_some _ en] at e
      dsimp only
      tm_at "w"
      refine if_dec (fun z => ?_) (fun z => ?_)
      · omega
      · tm_at "w"
        refine i_tyL (SqL.of1 upd_same) ?_
        tm_at "w"
        refine i_app upd_same (lt_line (by simp; omega)) ?_
        tm_at "w"
        refine ⟨_, _, ps ++ [k], k + 1, rfl, by omega, by simp [hps], ?_, ?_⟩
        · rw [e, Option.map_map]
          congr 1
          funext t
          simp
        · rw [upd_upd, List.map_append]
          rfl
  · rintro σ H' ⟨v4, v5, ps, i, rfl, hi, hps, e, rfl⟩
    rw [List.drop_length, fp_nil] at e
    tm_at "w"
    exact q1 ps D _ (by rw [e]; simp) nD (same_new nD) upd_same
/-! is_left_0(row, thing): slots 0 row, 1 thing -/
abbrev N_is_left_0 : List Str := ["row", "thing"]
def t_is_left_0 (K : PySem.W.Frag) : TS :=
  (tRet (tAndV (tCall (sp_is_row_0 K) [] E0 (tCons (tVar 1) tNil)) (tOp Lv.rNotN (tCall (sp_first_places_0 K) [] E0 (tCons (tVar 0) (tCons (tVar 1) tNil))) (tC .non))))
def sp_is_left_0 (K : PySem.W.Frag) : Sp := fun vs H Q _ => ∃ (l : List Nat) (x : V), vs = [.str (S l), x] ∧ ((∃ m : List Nat, x = .str (S m) ∧ m.length ≤ 1000 ∧ Chr m ∧ ∀ H', Same H H' → Q (.bl (LowB m && (fp l 0 m).isSome)) H') ∨ (NotS K H x ∧ Q (.bl false) H))
theorem i_is_left_0 {K : PySem.W.Frag} {l m : List Nat} {H : Hp} {Q : VK} {E : XK} (hm : m.length ≤ 1000) (hc : Chr m) (q : ∀ H', Same H H' → Q (.bl (LowB m && (fp l 0 m).isSome)) H') : sp_is_left_0 K [.str (S l), .str (S m)] H Q E := ⟨l, _, rfl, .inl ⟨m, rfl, hm, hc, q⟩⟩
theorem i_is_left_no {K : PySem.W.Frag} {l : List Nat} {x : V} {H : Hp} {Q : VK} {E : XK} (hx : NotS K H x) (q : Q (.bl false) H) : sp_is_left_0 K [.str (S l), x] H Q E := ⟨l, _, rfl, .inr ⟨hx, q⟩⟩
theorem pure_is_left_0 {K : PySem.W.Frag} (vs : List V) (H : Hp) (Q : VK) (E : XK) (h : sp_is_left_0 K vs H Q E) : t_is_left_0 K { nx := fun _ H' => Q .non H', rt := Q } (start N_is_left_0 vs) H := by
  obtain ⟨l, x, rfl, ⟨m, rfl, hm, hc, q⟩ | ⟨hx, q⟩⟩ := h
  rotate_left
  · unfold t_is_left_0
    tm_at "w"
    refine i_is_row_no hx ?_
    tm_at "w"
    exact q
  unfold t_is_left_0
  tm_at "w"
  refine i_is_row_0 (by omega) hc fun H1 s1 => ?_
  cases e : LowB m with
  | false =>
    rw [e] at q
    tm_at "w"
    exact q _ s1
  | true =>
    rw [e] at q
    tm_at "w"
    refine i_first_places_0 hm (fun e2 H2 s2 => ?_) (fun ps p H2 e2 np s2 hp => ?_)
    · rw [e2] at q
      tm_at "w"
      exact q _ (s1.trans s2)
    · rw [e2] at q
      tm_at "w"
      exact q _ (s1.trans s2)
/-! Growing_1_has(self, thing): slots 0 self, 1 thing -/
abbrev N_Growing_1_has : List Str := ["self", "thing"]
def t_Growing_1_has (K : PySem.W.Frag) (C_Growing : Addr) : TS :=
  (tRet (tCall (sp_is_left_0 K) [] E0 (tCons (tFld K (tVar 0) "letters") (tCons (tVar 1) tNil))))
-- needs: Q_Growing_1_init
def sp_Growing_1_has (K : PySem.W.Frag) (C : Addr) : Sp := fun vs H Q _ => ∃ (x : Addr) (l : List Nat) (t : V), vs = [.ref x, t] ∧ GrAt C H x l ∧ ((∃ m : List Nat, t = .str (S m) ∧ m.length ≤ 1000 ∧ Chr m ∧ ∀ H', Same H H' → Q (.bl (LowB m && (fp l 0 m).isSome)) H') ∨ (NotS K H t ∧ Q (.bl false) H))
theorem i_Growing_has {K : PySem.W.Frag} {C : Addr} {x : Addr} {l m : List Nat} {H : Hp} {Q : VK} {E : XK} {te : TA} {σ : L2.St} (h : GrAt C H x l) (hm : m.length ≤ 1000) (hc : Chr m) (ht : ∀ R : List V → Hp → Prop, R [.str (S m)] H → te σ H R) (q : ∀ H', Same H H' → Q (.bl (LowB m && (fp l 0 m).isSome)) H') :
    rMe C "has" (.ref x) H (te σ H fun vs H2 => sp_Growing_1_has K C (.ref x :: (vs ++ [])) H2 Q E) := by
  obtain ⟨dx, h1, h2⟩ := id h
  exact x_me h1 (lk_no (by decide +kernel)) (ht _ ⟨x, l, _, rfl, h, .inl ⟨m, rfl, hm, hc, q⟩⟩)
theorem i_Growing_hasL {K : PySem.W.Frag} {C : Addr} {x : Addr} {l m : List Nat} {H : Hp} {Q : VK} {E : XK} {te : TA} {σ : L2.St} (h : GrAt C H x l) (hm : m.length ≤ 1000) (lw : Low m) (ht : ∀ R : List V → Hp → Prop, R [.str (S m)] H → te σ H R) (q : ∀ H', Same H H' → Q (.bl (decide (m.Sublist l))) H') :
    rMe C "has" (.ref x) H (te σ H fun vs H2 => sp_Growing_1_has K C (.ref x :: (vs ++ [])) H2 Q E) := by
  refine i_Growing_has h hm lw.chr ht fun H' s => ?_
  have : (LowB m && (fp l 0 m).isSome) = decide (m.Sublist l) := by
    rw [LowB_iff.mpr lw, Bool.true_and, Bool.eq_iff_iff, decide_eq_true_eq]
    exact fp0 l m
  rw [this]
  exact q H' s
theorem pure_Growing_1_has {K : PySem.W.Frag} {C : Addr} (Z : Kl K C ["letters"]) (vs : List V) (H : Hp) (Q : VK) (E : XK) (h : sp_Growing_1_has K C vs H Q E) : t_Growing_1_has K C { nx := fun _ H' => Q .non H', rt := Q } (start N_Growing_1_has vs) H := by
  obtain ⟨x, l, t, rfl, ⟨dx, hx, lw, l80⟩, h⟩ := h
  unfold t_Growing_1_has
  tm_at "v"
  refine x_fl Z hx lk_yes ?_
  tm_at "v"
  rcases h with ⟨m, rfl, hm, hc, q⟩ | ⟨hn, q⟩
  · exact i_is_left_0 hm hc q
  · exact i_is_left_no hn q
/-! place_of_0(row, thing): slots 0 row, 1 thing, 2 counts, 3 tables, 4 place, 5 begin, 6 sign, 7 lesser, 8 letter -/
theorem left_yes {l m : List Nat} (h : m.Sublist l) (lw : Low l) : (LowB m && (fp l 0 m).isSome) = true := by
  rw [LowB_iff.mpr (lw.sub fun c hc => h.subset hc), (fp0 l m).mpr h]
  rfl
theorem filter_ks {ks : List (List Nat)} {cs : List Nat} {d : Nat} (h : ks = cs.map fun c => [c]) : ks.filterMap (fun c => if c < [d] then some (Lv.vs c) else none) = (cs.filter fun c => decide (c < d)).map vc := by
  subst h
  rw [List.filterMap_map, ← fm_if]
  congr 1
  funext c
  show (if [c] < [d] then _ else _) = _
  by_cases z : c < d
  · rw [if_pos z, if_pos (lt_one.mpr z)]
  · rw [if_neg z, if_neg fun q => z (lt_one.mp q)]
theorem sum_perm {l : List Nat} {ks : List Nat} {i d : Nat} (lw : Low l) (nd : ks.Nodup) (hm : ∀ c, c ∈ ks ↔ ((nextP l i c).map iv).isSome) (f : Nat → Nat) :
    ((ks.filter fun c => decide (c < d)).map f).sum = (((lets (l.drop i)).filter fun c => decide (c < d)).map f).sum := by
  have hp : ks.Perm (lets (l.drop i)) := by
    rw [List.perm_iff_count]
    intro c
    have nd2 : (lets (l.drop i)).Nodup := (lets_up _).imp fun h => Nat.ne_of_lt h
    rw [nd.count, nd2.count]
    have : c ∈ ks ↔ c ∈ lets (l.drop i) := by rw [hm c, Option.isSome_map, nextP_mem, lets_mem (lw.drop i)]
    by_cases z : c ∈ ks
    · rw [if_pos z, if_pos (this.mp z)]
    · rw [if_neg z, if_neg fun q => z (this.mpr q)]
  exact ((hp.filter _).map f).sum_nat
/-! place_of_0x(row, thing): slots 0 row, 1 thing, 2 counts, 3 tables, 4 place, 5 begin, 6 sign, 7 lesser, 8 letter -/
abbrev N_place_of_0x : List Str := ["row", "thing", "counts", "tables", "place", "begin", "sign", "lesser", "letter"]
def t_place_of_0x (K : PySem.W.Frag) (er : Nat → Addr) (E : XK) : TS :=
  (tSeq (tIfS (tNot (tB (tCall (sp_is_left_0 K) [] E0 (tCons (tVar 0) (tCons (tVar 1) tNil))))) (Lv.tRaise E (er 5)) tNext) (tSeq (tAsg (tCall (sp_counts_from_0 K) [] E0 (tCons (tVar 0) tNil)) (gName 2)) (tSeq (tAsg (tCall (sp_next_tables_0 K) [] E0 (tCons (tVar 0) tNil)) (gName 3)) (tSeq (tAsg (tC (.int 0)) (gName 4)) (tSeq (tAsg (tC (.int 0)) (gName 5)) (tSeq (tFor (iStr (tVar 1)) (gName 6) (tSeq (tLock (tAsg (tLc (iKeys (tOp (rIxL K) (tVar 3) (tVar 5))) (gName 8) (tTest (tOp Lv.rLtS (tVar 8) (tVar 6))) (tVar 8) [8]) (gName 7))) (tSeq (tAug 4 (tOp Lv.rAdd (tC (.int 1)) (tCB (rSum K) (tCons (tLc (iList K (tVar 7)) (gName 8) tYes (tOp (rIxL K) (tVar 2) (tOp Lv.rAdd (tDGet (tOp (rIxL K) (tVar 3) (tVar 5)) (tVar 8)) (tC (.int 1)))) [8]) tNil))) (ipI fun i j => i + j)) (tAsg (tOp Lv.rAdd (tDGet (tOp (rIxL K) (tVar 3) (tVar 5)) (tVar 6)) (tC (.int 1))) (gName 5))))) (tRet (tVar 4))))))))
-- needs: Lv37 M_num Q_place_of_0
/-- no row that is left of l -/
def NoRw (K : PySem.W.Frag) (H : Hp) (l : List Nat) (x : V) : Prop := (∃ m : List Nat, x = .str (S m) ∧ m.length ≤ 1000 ∧ Chr m ∧ (LowB m && (fp l 0 m).isSome) = false) ∨ Kd K H x "str" false
theorem NoRw.same {K : PySem.W.Frag} {H H' : Hp} {l : List Nat} {x : V} (h : NoRw K H l x) (s : Same H H') : NoRw K H' l x := h.imp id (·.same s)
def sp_place_of_0x (K : PySem.W.Frag) (er : Nat → Addr) : Sp := fun vs H Q E => ∃ (l : List Nat) (x : V), vs = [.str (S l), x] ∧ l.length ≤ 1000 ∧ Low l ∧ ((∃ m : List Nat, x = .str (S m) ∧ m.Sublist l ∧ ∀ (H' : Hp), Same H H' → Q (.int ((plc l m : Nat) : Int)) H') ∨ (NoRw K H l x ∧ ∀ H', Same H H' → E (.ref (er 5)) none H'))
theorem i_place_of_0x {K : PySem.W.Frag} {er : Nat → Addr} {l m : List Nat} {H : Hp} {Q : VK} {E : XK} (hl : l.length ≤ 1000) (lw : Low l) (hm : m.Sublist l) (q : ∀ (H' : Hp), Same H H' → Q (.int ((plc l m : Nat) : Int)) H') : sp_place_of_0x K er [.str (S l), .str (S m)] H Q E := ⟨l, _, rfl, hl, lw, .inl ⟨m, rfl, hm, q⟩⟩
theorem i_place_of_no {K : PySem.W.Frag} {er : Nat → Addr} {l : List Nat} {x : V} {H : Hp} {Q : VK} {E : XK} (hl : l.length ≤ 1000) (lw : Low l) (hb : NoRw K H l x) (q : ∀ H', Same H H' → E (.ref (er 5)) none H') : sp_place_of_0x K er [.str (S l), x] H Q E := ⟨l, _, rfl, hl, lw, .inr ⟨hb, q⟩⟩
theorem pure_place_of_0x {K : PySem.W.Frag} {er : Nat → Addr} (vs : List V) (H : Hp) (Q : VK) (E : XK) (h : sp_place_of_0x K er vs H Q E) : t_place_of_0x K er E { nx := fun _ H' => Q .non H', rt := Q } (start N_place_of_0x vs) H := by
  obtain ⟨l, x, rfl, hl, lw, ⟨m, rfl, hm, q⟩ | ⟨hb, q⟩⟩ := h
  rotate_left
  · unfold t_place_of_0x
    tm_at "v"
    rcases hb with ⟨m, rfl, ml, ch, e⟩ | h
    · refine i_is_left_0 ml ch fun H1 s1 => ?_
      rw [e]
      tm_at "v"
      exact q _ s1
    · refine i_is_left_no (fun Q q => i_kd h q) ?_
      tm_at "v"
      exact q _ (Same.refl _)
  have ml := hm.length_le
  have lwm : Low m := lw.sub fun c hc => hm.subset hc
  unfold t_place_of_0x
  tm_at "v"
  refine i_is_left_0 (by omega) lwm.chr fun H0 s0 => ?_
  rw [left_yes hm lw]
  tm_at "v"
  refine i_counts_from_0 hl lw fun C H1 nC s1 hC => ?_
  tm_at "v"
  refine i_next_tables_0 hl lw fun T ts H2 nT s2 tl hT nt => ?_
  have hC2 := s2 _ _ hC
  have S2 := s0.trans (s1.trans s2)
  tm_at "v"
  tm_at "fo"
  refine f_s ⟨fun j σ H' => ∃ (i p : Nat) (v6 v7 v8 : Option V), σ = [some (.str (S l)), some (.str (S m)), some (.ref C), some (.ref T), some (.int (p : Nat)), some (.int (i : Nat)), v6, v7, v8] ∧ Same H2 H' ∧ i ≤ l.length ∧ (m.drop j).Sublist (l.drop i) ∧ p + plc (l.drop i) (m.drop j) = plc l m, ⟨0, 0, none, none, none, rfl, Same.refl _, by omega, hm, by simp⟩, ?_, ?_⟩
  · rintro j x σ H0 H' hj ⟨i, p, v6, v7, v8, rfl, sm, hi, hsub, hp⟩ ⟨rfl, c, hc, rfl⟩
    have em : m.drop j = c :: m.drop (j + 1) := by
      rw [List.drop_eq_getElem_cons hj]
      obtain ⟨h1, h2⟩ := List.getElem?_eq_some_iff.mp hc
      rw [h2]
    rw [em] at hsub hp
    obtain ⟨hcm, hsub'⟩ := cons_sub.mp hsub
    obtain ⟨kk, hkk⟩ := next_of_mem hcm
    have hkl := nextP_lt hkk
    have haft := aft_next rfl hkk
    obtain ⟨t, et⟩ : ∃ t, ts[i]? = some t := ⟨_, List.getElem?_eq_getElem (by omega)⟩
    obtain ⟨kvs, hkv, ld⟩ := nt i t et
    have kl := nt_len lw ld
    have etI : ∀ (xs : List V), xs = ts.map V.ref → atI xs (i : Int) = some (.ref t) := fun xs e => atI_nat (by rw [e, List.getElem?_map, et]; rfl)
    have hC3 := sm _ _ hC2
    have hT3 := sm _ _ hT
    have hkv3 := sm _ _ hkv
    obtain ⟨ks, ek, ndk, hv, hmk⟩ := id ld
    have elen : ks.length = kvs.length := by
      have := congrArg List.length ek
      simpa using this.symm
    have neT : T ≠ t := ne_of hT hkv (by intro z; cases z)
    tm_at "v"
    refine i_lockSet (lcKeys (ks := ks.map fun c => [c]) (fun k => if k < [c] then some (Lv.vs k) else none) hkv3 (by rw [ek, List.map_map]; rfl) (by rw [List.length_map]; omega) (fun o Q' k => ?_) (fun o k H4 hk s4 Yk N y n => ?_) fun D H4 nD s4 hD => ?_)
    · tm_at "v"
      refine i_ixL (SqL.of1 (by rw [upd_ne neT]; exact hT3)) (etI _ rfl) ?_
      exact k
    · tm_at "v"
      refine ⟨rfl, ?_⟩
      tm_at "v"
      refine if_dec (fun z => ?_) (fun z => ?_)
      · tm_at "v"
        exact y _ (if_pos z) _ (Same.refl _)
      · exact n (if_neg z) _ (Same.refl _)
    · rw [filter_ks rfl] at hD
      have hC4 := s4 _ _ hC3
      have hT4 := s4 _ _ hT3
      have hkv4 := s4 _ _ hkv3
      tm_at "v"
      tm_at "lc"
      refine c_lP (ks.filter fun e => decide (e < c)) vc (fun e => some (iv (cn (aft e (l.drop i))))) (SqL.of1 hD) (by have := List.length_filter_le (fun e => decide (e < c)) ks; omega) (fun e H5 he s5 Yk N y n => ?_) fun D5 H5 nD5 s5 hD5 => ?_
      · have hem : e ∈ l.drop i := by
          have := (hmk e).mp (List.mem_filter.mp he).1
          rw [Option.isSome_map] at this
          exact nextP_mem.mp this
        obtain ⟨k2, hk2⟩ := next_of_mem hem
        have hk2l := nextP_lt hk2
        tm_at "v"
        refine ⟨rfl, ?_⟩
        tm_at "v"
        refine i_ixL (SqL.of1 (s5 _ _ hT4)) (etI _ rfl) ?_
        tm_at "v"
        refine x_dGetS (.inl (s5 _ _ hkv4)) (v := .int (k2 : Nat)) (by rw [ld.val, hk2]; rfl) ?_
        tm_at "v"
        rw [show ((k2 : Nat) : Int) + 1 = ((k2 + 1 : Nat) : Int) by omega]
        refine i_ixL (SqL.of1 (s5 _ _ hC4)) (atI_nat (j := k2 + 1) (range_map_get _ (by omega))) ?_
        rw [← aft_next rfl hk2]
        exact y _ rfl _ (Same.refl _)
      · rw [fm_iv] at hD5
        tm_at "v"
        refine i_sumN (SqL.of1 hD5) ?_
        rw [sum_perm lw ndk hmk]
        tm_at "v"
        refine i_ixL (SqL.of1 (s5 _ _ hT4)) (etI _ rfl) ?_
        tm_at "v"
        refine x_dGetS (.inl (s5 _ _ hkv4)) (v := .int (kk : Nat)) (by rw [ld.val, hkk]; rfl) ?_
        tm_at "v"
        rw [show ((kk : Nat) : Int) + 1 = ((kk + 1 : Nat) : Int) by omega]
        rw [plc, haft] at hp
        rw [show (p : Int) + (1 + ((((((lets (l.drop i)).filter fun e => decide (e < c)).map fun e => cn (aft e (l.drop i))).sum : Nat)) : Int)) = ((p + (1 + (((lets (l.drop i)).filter fun e => decide (e < c)).map fun e => cn (aft e (l.drop i))).sum) : Nat) : Int) by omega]
        exact ⟨kk + 1, _, _, _, _, rfl, sm.trans (s4.trans s5), by omega, by rw [← haft]; exact hsub', by omega⟩
  · rintro σ H' ⟨i, p, v6, v7, v8, rfl, sm, hi, hsub, hp⟩
    rw [List.drop_length] at hp
    tm_at "v"
    rw [show p = plc l m by have : plc (l.drop i) [] = 0 := by rw [plc]
                            omega]
    exact q _ (S2.trans sm)
/-! Desk_0_new_row(self, row): slots 0 self, 1 row, 2 letter -/
abbrev N_Desk_0_new_row : List Str := ["self", "row", "letter"]
def t_Desk_0_new_row (K : PySem.W.Frag) (C_Desk : Addr) (C_Growing : Addr) (er : Nat → Addr) : TS :=
  (tSeq (sFld K (tVar 0) (tMake C_Growing (sp_Growing_1_init K C_Growing) [] E0 tNil) "grown") (tSeq (tFor (iStr (tVar 1)) (gName 2) (tDrop (tMeth C_Growing "put" (sp_Growing_1_putx K C_Growing er) [] E0 (tFld K (tVar 0) "grown") (tCons (tVar 2) tNil)))) (tRet (tC (.str (S [111, 107]))))))
-- needs: Q_Desk_0_init
def sp_Desk_0_new_row (K : PySem.W.Frag) (C Cg : Addr) (er : Nat → Addr) : Sp := fun vs H Q _ => ∃ (x g : Addr) (l m r : List Nat), vs = [.ref x, .str (S r)] ∧ DkAt C Cg H x g l m ∧ Low r ∧ r.length ≤ 80 ∧ ∀ g' H', H g' = none → But x H H' → DkAt C Cg H' x g' r m → Q (.str (S [111, 107])) H'
theorem pure_Desk_0_new_row {K : PySem.W.Frag} {C Cg : Addr} {er : Nat → Addr} (Z : Kl K C ["grown", "beside"]) (Y : Kl K Cg ["letters"]) (vs : List V) (H : Hp) (Q : VK) (E : XK) (h : sp_Desk_0_new_row K C Cg er vs H Q E) : t_Desk_0_new_row K C Cg er { nx := fun _ H' => Q .non H', rt := Q } (start N_Desk_0_new_row vs) H := by
  obtain ⟨x, g, l, m, r, rfl, ⟨⟨dx, hx⟩, hg, lwm, lm⟩, lw, hl, q⟩ := h
  unfold t_Desk_0_new_row
  tm_at "v"
  refine i_Growing fun g' H1 ng s1 hg' => ?_
  have xg : x ≠ g' := fun z => by rw [z, ng] at hx; cases hx
  tm_at "v"
  refine x_pfM Z (by decide +kernel) (s1 _ _ hx) (by first | decide | (show 2 < 1000; decide)) fun H2 b2 h2 => ?_
  rw [put2_a (by decide +kernel)] at h2
  have B2 : But x H H2 := s1.but.trans b2
  tm_at "v"
  tm_at "fo"
  refine f_s ⟨fun i σ H' => ∃ (v2 : Option V), σ = [some (.ref x), some (.str (S r)), v2] ∧ But x H H' ∧ (∃ dx : Addr, H' x = some (.ins C dx [("grown", .ref g'), ("beside", .str (S m))])) ∧ GrAt Cg H' g' (r.take i), ⟨none, rfl, B2, ⟨dx, h2⟩, hg'.but xg.symm b2⟩, ?_, ?_⟩
  · rintro i y σ H0 H' hi ⟨v2, rfl, b, ⟨dx', hx'⟩, hgi⟩ ⟨rfl, c, hc, rfl⟩
    tm_at "v"
    refine x_flM Z (by decide +kernel) hx' lk2_a ?_
    refine i_Growing_putx hgi (by rw [List.length_take]; omega) (lw c (List.mem_of_getElem? hc)) (fun R k => by tm_at "v"; exact k) fun H3 b3 h3 => ?_
    tm_at "v"
    refine ⟨_, rfl, fun a o na ha => b3 _ _ (fun z => by rw [z, ng] at ha; cases ha) (b _ _ na ha), ⟨dx', b3 _ _ xg hx'⟩, ?_⟩
    rw [List.take_add_one, hc]
    exact h3
  · rintro σ H' ⟨v2, rfl, b, hx', hgi⟩
    rw [List.take_length] at hgi
    tm_at "v"
    exact q g' H' ng b ⟨hx', hgi, lwm, lm⟩
/-! Desk_0_of_a_row(self, head, row): slots 0 self, 1 head, 2 row -/
abbrev N_Desk_0_of_a_row : List Str := ["self", "head", "row"]
def t_Desk_0_of_a_row (K : PySem.W.Frag) (C_Desk : Addr) (C_Growing : Addr) (er : Nat → Addr) (E : XK) : TS :=
  (tSeq (tIfS (tTest (tOp Lv.rEqS (tVar 1) (tC (.str (S [114, 111, 119]))))) (tRet (tMeth C_Desk "new_row" (sp_Desk_0_new_row K C_Desk C_Growing er) [] E0 (tVar 0) (tCons (tVar 2) tNil))) tNext) (tSeq (tIfS (tTest (tOp Lv.rEqS (tVar 1) (tC (.str (S [111, 116, 104, 101, 114]))))) (tSeq (sFld K (tVar 0) (tVar 2) "beside") (tRet (tC (.str (S [111, 107]))))) tNext) (tSeq (tIfS (tTest (tOp Lv.rEqS (tVar 1) (tC (.str (S [108, 101, 102, 116]))))) (tRet (tIf (tB (tMeth C_Growing "has" (sp_Growing_1_has K C_Growing) [] E0 (tFld K (tVar 0) "grown") (tCons (tVar 2) tNil))) (tC (.str (S [121, 101, 115]))) (tC (.str (S [110, 111]))))) tNext) (tRet (tCB Lv.rStrI (tCons (tCall (sp_place_of_0x K er) [] E (tCons (tMeth C_Growing "row" (sp_Growing_1_row K C_Growing) [] E0 (tFld K (tVar 0) "grown") tNil) (tCons (tVar 2) tNil))) tNil))))))
-- needs: Lv43 M_num Q_Desk_0_alone
inductive Res where
  | ok (a l m : List Nat)
  | er (i : Nat)
/-- what a desk's asking promises -/
def Says (C Cg : Addr) (er : Nat → Addr) (x g : Addr) (H : Hp) (R : Res) (Q : VK) (E : XK) : Prop := (∀ a l' m', R = .ok a l' m' → ∀ g' H', (g' = g ∨ H g' = none) → Bu [x, g] H H' → DkAt C Cg H' x g' l' m' → Q (.str (S a)) H') ∧ (∀ i, R = .er i → ∀ H', Same H H' → E (.ref (er i)) none H')
theorem Says.ok {C Cg : Addr} {er : Nat → Addr} {x g : Addr} {H H' : Hp} {R : Res} {Q : VK} {E : XK} {a l m l0 m0 : List Nat} (h : Says C Cg er x g H R Q E) (e : R = .ok a l m) (hd : DkAt C Cg H x g l m) (s : Same H H') : Q (.str (S a)) H' := h.1 _ _ _ e g H' (.inl rfl) (Bu.same s) (hd.same s)
theorem Says.later {C Cg : Addr} {er : Nat → Addr} {x g : Addr} {H H1 : Hp} {R : Res} {Q : VK} {E : XK} (h : Says C Cg er x g H R Q E) (s : Same H H1) : Says C Cg er x g H1 R Q E := by
  refine ⟨fun a l' m' e g' H' z b k => h.1 a l' m' e g' H' ?_ ((Bu.same s).trans b) k, fun i e H' s' => h.2 i e H' (s.trans s')⟩
  rcases z with z | z
  · exact .inl z
  · refine .inr ?_
    cases e : H g' with
    | none => rfl
    | some o => rw [s _ _ e] at z; cases z
theorem dk_me {C Cg : Addr} {H : Hp} {x g : Addr} {l m : List Nat} {nm : Str} {k : Prop} (h : DkAt C Cg H x g l m) (n1 : (nm == "grown") = false) (n2 : (nm == "beside") = false) (q : k) : rMe C nm (.ref x) H k := by
  obtain ⟨⟨dx, hx⟩, _⟩ := h
  exact x_me hx (lk2_n n1 n2) q
/-- the answer to a row of words with a row -/
def ofRowA (l m hd r : List Nat) : Res :=
  if hd = [114, 111, 119] then .ok [111, 107] r m
  else if hd = [111, 116, 104, 101, 114] then .ok [111, 107] l r
  else if hd = [108, 101, 102, 116] then .ok (if r.Sublist l then [121, 101, 115] else [110, 111]) l m
  else if r.Sublist l then .ok (TL.numL (plc l r)) l m else .er 5
def sp_Desk_0_of_a_row (K : PySem.W.Frag) (C Cg : Addr) (er : Nat → Addr) : Sp := fun vs H Q E => ∃ (x g : Addr) (l m hd r : List Nat), vs = [.ref x, .str (S hd), .str (S r)] ∧ DkAt C Cg H x g l m ∧ Low r ∧ r.length ≤ 80 ∧ Says C Cg er x g H (ofRowA l m hd r) Q E
theorem pure_Desk_0_of_a_row {K : PySem.W.Frag} {C Cg : Addr} {er : Nat → Addr} (Z : Kl K C ["grown", "beside"]) (Y : Kl K Cg ["letters"]) (vs : List V) (H : Hp) (Q : VK) (E : XK) (h : sp_Desk_0_of_a_row K C Cg er vs H Q E) : t_Desk_0_of_a_row K C Cg er E { nx := fun _ H' => Q .non H', rt := Q } (start N_Desk_0_of_a_row vs) H := by
  obtain ⟨x, g, l, m, hw, r, rfl, hd, lwr, lr, q⟩ := h
  have xg := hd.ne
  have l80 := hd.l80
  have lw := hd.low
  obtain ⟨⟨dx, hx⟩, hg, lwm, lm⟩ := id hd
  unfold ofRowA at q
  unfold t_Desk_0_of_a_row
  tm_at "v"
  refine if_dec (fun z => ?_) (fun z => ?_)
  · rw [if_pos z] at q
    tm_at "v"
    refine dk_me hd (by decide +kernel) (by decide +kernel) ?_
    tm_at "v"
    exact ⟨x, g, l, m, r, rfl, hd, lwr, lr, fun g' H' n b k => q.1 _ _ _ rfl g' H' (.inr n) (Bu.but (by simp) b) k⟩
  rw [if_neg z] at q
  tm_at "v"
  refine if_dec (fun z => ?_) (fun z => ?_)
  · rw [if_pos z] at q
    tm_at "v"
    refine x_pfM Z (by decide +kernel) hx (by show 2 < 1000; decide) fun H1 b1 h1 => ?_
    rw [put2_b (by decide +kernel)] at h1
    tm_at "v"
    exact q.1 _ _ _ rfl g H1 (.inl rfl) (Bu.but (by simp) b1) ⟨⟨dx, h1⟩, hg.but xg.symm b1, lwr, lr⟩
  rw [if_neg z] at q
  tm_at "v"
  refine if_dec (fun z => ?_) (fun z => ?_)
  · rw [if_pos z] at q
    tm_at "v"
    refine x_flM Z (by decide +kernel) hx lk2_a ?_
    refine i_Growing_hasL hg (by omega) lwr (fun R k => by tm_at "v"; exact k) fun H1 s1 => ?_
    tm_at "v"
    have f := q.1 _ _ _ rfl g H1 (.inl rfl) (Bu.same s1) (hd.same s1)
    by_cases e : r.Sublist l
    · rw [if_pos e] at f
      rw [decide_eq_true e]
      tm_at "v"
      exact f
    · rw [if_neg e] at f
      rw [decide_eq_false e]
      tm_at "v"
      exact f
  rw [if_neg z] at q
  tm_at "v"
  refine x_flM Z (by decide +kernel) hx lk2_a ?_
  refine i_Growing_row hg (fun R k => by tm_at "v"; exact k) ?_
  tm_at "v"
  by_cases e : r.Sublist l
  · rw [if_pos e] at q
    refine i_place_of_0x (by omega) lw e fun H1 s1 => ?_
    tm_at "v"
    refine i_strN (n500 (n30 (Nat.le_trans (Nat.le_of_lt (plc_lt lw e)) (cn_le l lw)) l80)) ?_
    exact q.1 _ _ _ rfl g H1 (.inl rfl) (Bu.same s1) (hd.same s1)
  · rw [if_neg e] at q
    refine i_place_of_no (by omega) lw (.inl ⟨r, rfl, by omega, lwr.chr, ?_⟩) fun H1 s1 => q.2 5 rfl _ s1
    rw [LowB_iff.mpr lwr, Bool.true_and, Bool.eq_false_iff]
    exact fun z => e ((fp0 l r).mp z)
/-! Desk_0_of_a_word(self, head, word): slots 0 self, 1 head, 2 word, 3 row -/
abbrev N_Desk_0_of_a_word : List Str := ["self", "head", "word", "row"]
def t_Desk_0_of_a_word (K : PySem.W.Frag) (C_Desk : Addr) (C_Growing : Addr) (er : Nat → Addr) (E : XK) : TS :=
  (tSeq (tAsg (tMeth C_Growing "row" (sp_Growing_1_row K C_Growing) [] E0 (tFld K (tVar 0) "grown") tNil) (gName 3)) (tSeq (tIfS (tTest (tOp (Lv.rInTS K false) (tVar 1) (tTup (tCons (tC (.str (S [114, 111, 119]))) (tCons (tC (.str (S [111, 116, 104, 101, 114]))) (tCons (tC (.str (S [108, 101, 102, 116]))) (tCons (tC (.str (S [112, 108, 97, 99, 101]))) tNil))))))) (tRet (tMeth C_Desk "of_a_row" (sp_Desk_0_of_a_row K C_Desk C_Growing er) [] E (tVar 0) (tCons (tVar 1) (tCons (tCall (sp_row_in_0 K er) [] E (tCons (tVar 2) tNil)) tNil)))) tNext) (tSeq (tIfS (tTest (tOp Lv.rEqS (tVar 1) (tC (.str (S [112, 117, 116]))))) (tSeq (tDrop (tMeth C_Growing "put" (sp_Growing_1_putx K C_Growing er) [] E (tFld K (tVar 0) "grown") (tCons (tVar 2) tNil))) (tRet (tC (.str (S [111, 107]))))) tNext) (tSeq (tIfS (tTest (tOp Lv.rEqS (tVar 1) (tC (.str (S [97, 116]))))) (tRet (tCall (sp_shown_0 K) [] E0 (tCons (tCall (sp_left_at_0x K er) [] E (tCons (tVar 3) (tCons (tCall (sp_number_in_0 K er) [] E (tCons (tVar 2) tNil)) tNil))) tNil))) tNext) (tSeq (tIfS (tTest (tOp Lv.rEqS (tVar 1) (tC (.str (S [119, 97, 121]))))) (tRet (tCall (sp_show_list_0 K) [] E0 (tCons (tCall (sp_way_at_0x K er) [] E (tCons (tVar 3) (tCons (tFld K (tVar 0) "beside") (tCons (tCall (sp_number_in_0 K er) [] E (tCons (tVar 2) tNil)) tNil)))) tNil))) tNext) (tSeq (tIfS (tTest (tOp Lv.rEqS (tVar 1) (tC (.str (S [115, 104, 111, 114, 116]))))) (tRet (tCall (sp_shortest_not_left_1x K er) [] E (tCons (tVar 3) (tCons (tVar 2) tNil)))) tNext) (tRet (tCall (sp_show_list_0 K) [] E0 (tCons (tCall (sp_arches_0x K er) [] E (tCons (tVar 3) (tCons (tVar 2) tNil))) tNil)))))))))
-- needs: Lv43 M_num M_way M_step Q_Desk_0_of_a_row Q_shortest_not_left_1x
open Classical in
/-- the answer to a row of words with one word more -/
noncomputable def ofWordA (l m hd a : List Nat) : Res :=
  if hd ∈ [[114, 111, 119], [111, 116, 104, 101, 114], [108, 101, 102, 116], [112, 108, 97, 99, 101]] then (match rowIn a with | none => .er 1 | some r => ofRowA l m hd r)
  else if hd = [112, 117, 116] then (if (∃ c, a = [c] ∧ 97 ≤ c ∧ c ≤ 122) ∧ l.length < 80 then .ok [111, 107] (l ++ a) m else .er 2)
  else if hd = [97, 116] then (match numIn a with | none => .er 1 | some k => match (lx l)[k]? with | none => .er 4 | some r => .ok (shn1 r) l m)
  else if hd = [119, 97, 121] then (match numIn a with | none => .er 1 | some p => if p < W l m then .ok (wrt (wayAt l m p 0)) l m else .er 4)
  else if hd = [115, 104, 111, 114, 116] then (if Lets a then .ok (shf a l) l m else .er 3)
  else if Lets a then .ok (wrt (arcs a l)) l m else .er 3
theorem arcS_mem (ls l : List Nat) : ∀ e, ∀ x ∈ (arcS ls l e).1, x ≤ e
  | 0, x, h => nomatch h
  | e + 1, x, h => by
    rw [arcS] at h
    split at h
    · rcases List.mem_append.mp h with z | z
      · have := arcS_mem ls l e x z; omega
      · rw [List.mem_singleton.mp z]
        exact Nat.le_refl _
    · have := arcS_mem ls l e x h; omega
theorem small100 {n k : Nat} (h : n ≤ 1000) : n < 10 ^ 100 := Nat.lt_of_le_of_lt h (by decide)
def sp_Desk_0_of_a_word (K : PySem.W.Frag) (C Cg : Addr) (er : Nat → Addr) : Sp := fun vs H Q E => ∃ (x g : Addr) (l m hd a : List Nat), vs = [.ref x, .str (S hd), .str (S a)] ∧ DkAt C Cg H x g l m ∧ a.length ≤ 10000 ∧ Chr a ∧ (hd ∈ [[112, 117, 116], [115, 104, 111, 114, 116], [97, 114, 99, 104, 101, 115]] → a.length ≤ 1000) ∧
  hd ∈ [[114, 111, 119], [111, 116, 104, 101, 114], [112, 117, 116], [108, 101, 102, 116], [97, 116], [112, 108, 97, 99, 101], [119, 97, 121], [115, 104, 111, 114, 116], [97, 114, 99, 104, 101, 115]] ∧ Says C Cg er x g H (ofWordA l m hd a) Q E
theorem pure_Desk_0_of_a_word {K : PySem.W.Frag} {C Cg : Addr} {er : Nat → Addr} (Z : Kl K C ["grown", "beside"]) (Y : Kl K Cg ["letters"]) (vs : List V) (H : Hp) (Q : VK) (E : XK) (h : sp_Desk_0_of_a_word K C Cg er vs H Q E) : t_Desk_0_of_a_word K C Cg er E { nx := fun _ H' => Q .non H', rt := Q } (start N_Desk_0_of_a_word vs) H := by
  obtain ⟨x, g, l, m, hw, a, rfl, hd, la, ch, short, hh, q⟩ := h
  have xg := hd.ne
  have l80 := hd.l80
  have lw := hd.low
  obtain ⟨⟨dx, hx⟩, hg, lwm, lm⟩ := id hd
  unfold ofWordA at q
  unfold t_Desk_0_of_a_word
  tm_at "v"
  refine x_flM Z (by decide +kernel) hx lk2_a ?_
  refine i_Growing_row hg (fun R k => by tm_at "v"; exact k) ?_
  tm_at "v"
  intro tp H1 n1 s1 h1
  have hd1 := hd.same s1
  have q := q.later s1
  have hx1 := s1 _ _ hx
  have hg1 := hg.same s1
  clear s1 hd hx hg
  refine i_inTS (ns := [[114, 111, 119], [111, 116, 104, 101, 114], [108, 101, 102, 116], [112, 108, 97, 99, 101]]) (SqT.of1 h1) ?_
  tm_at "v"
  refine if_dec (fun z => ?_) (fun z => ?_)
  · rw [if_pos z] at q
    tm_at "v"
    refine dk_me hd1 (by decide +kernel) (by decide +kernel) ?_
    tm_at "v"
    refine i_row_in_0 (by omega) ch (fun r e H2 s2 => ?_) (fun e H2 s2 => ?_)
    · rw [e] at q
      obtain ⟨lwr, lr⟩ := rowIn_low e
      tm_at "v"
      exact ⟨x, g, l, m, hw, r, rfl, hd1.same s2, lwr, lr, q.later s2⟩
    · rw [e] at q
      exact q.2 1 rfl _ s2
  rw [if_neg z] at q
  tm_at "v"
  refine if_dec (fun y => ?_) (fun y => ?_)
  · rw [if_pos y] at q
    have la1 := short (by rw [y]; simp)
    tm_at "v"
    refine x_flM Z (by decide +kernel) hx1 lk2_a ?_
    by_cases e : (∃ c, a = [c] ∧ 97 ≤ c ∧ c ≤ 122) ∧ l.length < 80
    · rw [if_pos e] at q
      obtain ⟨⟨c, rfl, hc⟩, hl⟩ := e
      refine i_Growing_putx hg1 hl hc (fun R k => by tm_at "v"; exact k) fun H2 b2 h2 => ?_
      tm_at "v"
      exact q.1 _ _ _ rfl g H2 (.inl rfl) (Bu.but (by simp) b2) ⟨⟨dx, b2 _ _ xg hx1⟩, h2, lwm, lm⟩
    · rw [if_neg e] at q
      have hb : NoPut K H1 l (.str (S a)) := by
        by_cases f : ∃ c, a = [c] ∧ 97 ≤ c ∧ c ≤ 122
        · obtain ⟨c, rfl, h0, h1⟩ := f
          exact .inr (.inr ⟨c, rfl, h0, h1, by
            apply Classical.byContradiction
            intro w
            exact e ⟨⟨c, rfl, h0, h1⟩, by omega⟩⟩)
        · exact .inl ⟨a, rfl, la1, f⟩
      obtain ⟨dy, g1, g2⟩ := id hg1
      refine x_me g1 (lk_no (by decide +kernel)) ?_
      tm_at "v"
      exact ⟨g, l, _, rfl, hg1, .inr ⟨hb, fun H2 s2 => q.2 2 rfl _ s2⟩⟩
  rw [if_neg y] at q
  tm_at "v"
  refine if_dec (fun y => ?_) (fun y => ?_)
  · rw [if_pos y] at q
    tm_at "v"
    refine i_number_in_0 (by omega) (fun k e H2 s2 => ?_) (fun e H2 s2 => ?_)
    · rw [e] at q
      unfold iv
      tm_at "v"
      cases ek : (lx l)[k]? with
      | none =>
        simp only [ek] at q
        have : cn l ≤ k := List.getElem?_eq_none_iff.mp ek
        exact i_left_at_no (by omega) lw (bad_int (by omega)) fun H3 s3 => q.2 4 rfl _ (s2.trans s3)
      | some r =>
        simp only [ek] at q
        refine i_left_at_0x rfl (by omega) lw ek fun H3 s3 => ?_
        tm_at "v"
        refine i_shown_0 ?_
        exact q.1 _ _ _ rfl g H3 (.inl rfl) (Bu.same (s2.trans s3)) (hd1.same (s2.trans s3))
    · rw [e] at q
      exact q.2 1 rfl _ s2
  rw [if_neg y] at q
  tm_at "v"
  refine if_dec (fun y => ?_) (fun y => ?_)
  · rw [if_pos y] at q
    tm_at "v"
    refine x_flM Z (by decide +kernel) hx1 (lk2_b (by decide +kernel)) ?_
    tm_at "v"
    refine i_number_in_0 (by omega) (fun k e H2 s2 => ?_) (fun e H2 s2 => ?_)
    · rw [e] at q
      unfold iv
      tm_at "v"
      by_cases ek : k < W l m
      · simp only [ek, if_true] at q
        have w1 := wayAt_len l m k 0 ek
        have w2 := (wayAt_spell l m k 0 ek).2.1
        refine i_way_at_0x (by omega) (by omega) ek fun p H3 n3 s3 h3 => ?_
        tm_at "v"
        refine i_show_list_0 h3 (by omega) (fun n hn => small100 (k := 0) (by have := w2 n hn; omega)) fun H4 s4 => ?_
        have S4 := s2.trans (s3.trans s4)
        exact q.1 _ _ _ rfl g H4 (.inl rfl) (Bu.same S4) (hd1.same S4)
      · simp only [ek, if_false] at q
        exact i_way_at_no (by omega) (by omega) (bad_int (by omega)) fun H3 s3 => q.2 4 rfl _ (s2.trans s3)
    · rw [e] at q
      exact q.2 1 rfl _ s2
  rw [if_neg y] at q
  tm_at "v"
  refine if_dec (fun y => ?_) (fun y => ?_)
  · rw [if_pos y] at q
    have la1 := short (by rw [y]; simp)
    tm_at "v"
    by_cases lt : Lets a
    · rw [if_pos lt] at q
      refine i_shortest_not_left_1x (by omega) lt fun H2 s2 => ?_
      exact q.1 _ _ _ rfl g H2 (.inl rfl) (Bu.same s2) (hd1.same s2)
    · rw [if_neg lt] at q
      exact i_shortest_not_left_1_no (by omega) (nl_str la1 ch lt) fun H2 s2 => q.2 3 rfl _ s2
  rw [if_neg y] at q
  have la1 := short (by
    simp only [List.mem_cons, List.not_mem_nil, or_false] at hh z ⊢
    rcases hh with h | h | h | h | h | h | h | h | h <;> simp_all)
  tm_at "v"
  by_cases lt : Lets a
  · rw [if_pos lt] at q
    refine i_arches_0x (by omega) lt fun p H2 n2 s2 h2 => ?_
    tm_at "v"
    have al := arcs_len a l
    refine i_show_list_0 h2 (by omega) (fun n hn => small100 (k := 0) (by have := arcS_mem a l _ n hn; omega)) fun H3 s3 => ?_
    exact q.1 _ _ _ rfl g H3 (.inl rfl) (Bu.same (s2.trans s3)) (hd1.same (s2.trans s3))
  · rw [if_neg lt] at q
    exact i_arches_0_no (by omega) (nl_str la1 ch lt) fun H2 s2 => q.2 3 rfl _ s2
/-! Desk_0_say(self, words): slots 0 self, 1 words, 2 told, 3 length, 4 place -/
abbrev N_Desk_0_say : List Str := ["self", "words", "told", "length", "place"]
def t_Desk_0_say (K : PySem.W.Frag) (a_HEADS : Addr) (C_Desk : Addr) (C_Growing : Addr) (er : Nat → Addr) (E : XK) : TS :=
  (tSeq (tIfS (tNot (tB (tCB (Lv.rIs1 K) (tCons (tVar 1) (tCons (tC (.ty "str")) tNil))))) (Lv.tRaise E (er 1)) tNext) (tSeq (tAsg (tBM K "str" Lv.rSplit1 (tVar 1) (tCons (tC (.str (S [32]))) tNil)) (gName 2)) (tSeq (tIfS (tTest (tOp Lv.rEqI (tCB (Lv.rLenL K) (tCons (tVar 2) tNil)) (tC (.int 1)))) (tRet (tMeth C_Desk "alone" (sp_Desk_0_alone K C_Desk C_Growing er) [] E (tVar 0) (tCons (tVar 1) tNil))) tNext) (tSeq (tIfS (tAnd (tTest (tOp Lv.rEqS (tOp (rIxL K) (tVar 2) (tC (.int 0))) (tC (.str (S [108, 111, 110, 103]))))) (tTest (tOp Lv.rEqI (tCB (Lv.rLenL K) (tCons (tVar 2) tNil)) (tC (.int 3))))) (tSeq (tPar 3 4 (tCons (tCall (sp_number_in_0 K er) [] E (tCons (tOp (rIxL K) (tVar 2) (tC (.int 1))) tNil)) (tCons (tCall (sp_number_in_0 K er) [] E (tCons (tOp (rIxL K) (tVar 2) (tC (.int 2))) tNil)) tNil))) (tRet (tCall (sp_shown_0 K) [] E0 (tCons (tCall (sp_of_length_at_0x K er) [] E (tCons (tMeth C_Growing "row" (sp_Growing_1_row K C_Growing) [] E0 (tFld K (tVar 0) "grown") tNil) (tCons (tVar 3) (tCons (tVar 4) tNil)))) tNil)))) tNext) (tSeq (tIfS (tOr (tTest (tOp (Lv.rInTS K true) (tOp (rIxL K) (tVar 2) (tC (.int 0))) (tC (.ref a_HEADS)))) (tTest (tOp Lv.rNeI (tCB (Lv.rLenL K) (tCons (tVar 2) tNil)) (tC (.int 2))))) (Lv.tRaise E (er 1)) tNext) (tRet (tMeth C_Desk "of_a_word" (sp_Desk_0_of_a_word K C_Desk C_Growing er) [] E (tVar 0) (tCons (tOp (rIxL K) (tVar 2) (tC (.int 0))) (tCons (tOp (rIxL K) (tVar 2) (tC (.int 1))) tNil)))))))))
-- needs: Lv43 M_len M_nolet Q_Desk_0_of_a_word
open Classical in
/-- the answer to a row of words -/
noncomputable def sayA (l m w : List Nat) : Res :=
  match wds w with
  | [_] => (match aloneA l m w with | none => .er 1 | some p => .ok p.1 p.2 m)
  | [h, a] => if h ∈ [[114, 111, 119], [111, 116, 104, 101, 114], [112, 117, 116], [108, 101, 102, 116], [97, 116], [112, 108, 97, 99, 101], [119, 97, 121], [115, 104, 111, 114, 116], [97, 114, 99, 104, 101, 115]] then ofWordA l m h a else .er 1
  | [h, a, b] => if h = [108, 111, 110, 103] then (match numIn a, numIn b with | some n, some k => if n ≤ l.length then (match (lxn n l)[k]? with | none => .er 4 | some r => .ok (shn1 r) l m) else .er 4 | _, _ => .er 1) else .er 1
  | _ => .er 1
theorem spl_free : ∀ (a acc : List Nat), (∀ c ∈ a, c ≠ 32) → TL.spl [32] 0 acc a = [acc ++ a]
  | [], acc, _ => by rw [TL.spl_nil, List.append_nil]
  | c :: r, acc, h => by
    rw [TL.spl_miss (by rw [pre1]; exact decide_eq_false (h c List.mem_cons_self)), spl_free r _ fun d hd => h d (List.mem_cons_of_mem _ hd), List.append_assoc]
    rfl
theorem spl_head : ∀ (a acc r : List Nat), (∀ c ∈ a, c ≠ 32) → TL.spl [32] 0 acc (a ++ 32 :: r) = (acc ++ a) :: wds r
  | [], acc, r, _ => by
    rw [List.nil_append, TL.spl_hit (by rw [pre1]; rfl), List.append_nil]
    rfl
  | c :: a, acc, r, h => by
    rw [List.cons_append, TL.spl_miss (by rw [pre1]; exact decide_eq_false (h c List.mem_cons_self)), spl_head a _ r fun d hd => h d (List.mem_cons_of_mem _ hd), List.append_assoc]
    rfl
def Fr32 (a : List Nat) : Prop := ∀ c ∈ a, c ≠ 32
theorem wds_free {a : List Nat} (h : Fr32 a) : wds a = [a] := spl_free a [] h
theorem wds_head {a r : List Nat} (h : Fr32 a) : wds (a ++ 32 :: r) = a :: wds r := spl_head a [] r h
theorem wds_ne (a : List Nat) : ∃ h t, wds a = h :: t := by
  by_cases z : Fr32 a
  · exact ⟨a, [], wds_free z⟩
  · unfold wds
    have : ∀ (a acc : List Nat), ∃ h t, TL.spl [32] 0 acc a = h :: t := by
      intro a
      induction a with
      | nil => intro acc; exact ⟨acc, [], TL.spl_nil _ _ _⟩
      | cons c r ih =>
        intro acc
        by_cases h : c = 32
        · exact ⟨_, _, TL.spl_hit (by rw [pre1]; exact decide_eq_true h)⟩
        · rw [TL.spl_miss (by rw [pre1]; exact decide_eq_false h)]
          exact ih _
    exact this a []
theorem wds_chr {a w : List Nat} (h : w ∈ wds a) (ch : Chr a) : Chr w := fun c hc => by
  rcases ((spl_bound a []).2 w h).2 c hc with z | z
  · cases z
  · exact ch c z
/-- a text that is said -/
structure SayW (w : List Nat) : Prop where
  len : w.length ≤ 10000
  chr : Chr w
  short : ∀ h a, wds w = [h, a] → h ∈ [[112, 117, 116], [115, 104, 111, 114, 116], [97, 114, 99, 104, 101, 115]] → a.length ≤ 1000
theorem SayW.of {w : List Nat} (h : w.length ≤ 1000) (ch : Chr w) : SayW w := ⟨by omega, ch, fun hd a e _ => Nat.le_trans (wds_le (by rw [e]; simp)) h⟩
def sp_Desk_0_say (K : PySem.W.Frag) (C Cg : Addr) (er : Nat → Addr) : Sp := fun vs H Q E => ∃ (x g : Addr) (l m : List Nat) (y : V), vs = [.ref x, y] ∧ DkAt C Cg H x g l m ∧ ((∃ w, y = .str (S w) ∧ SayW w ∧ Says C Cg er x g H (sayA l m w) Q E) ∨ (Kd K H y "str" false ∧ ∀ H', Same H H' → E (.ref (er 1)) none H'))
theorem pure_Desk_0_say {K : PySem.W.Frag} {aH C Cg : Addr} {er : Nat → Addr} (TH : KTup K aH [[114, 111, 119], [111, 116, 104, 101, 114], [112, 117, 116], [108, 101, 102, 116], [97, 116], [112, 108, 97, 99, 101], [119, 97, 121], [115, 104, 111, 114, 116], [97, 114, 99, 104, 101, 115]]) (Z : Kl K C ["grown", "beside"]) (Y : Kl K Cg ["letters"]) (vs : List V) (H : Hp) (Q : VK) (E : XK) (h : sp_Desk_0_say K C Cg er vs H Q E) : t_Desk_0_say K aH C Cg er E { nx := fun _ H' => Q .non H', rt := Q } (start N_Desk_0_say vs) H := by
  obtain ⟨x, g, l, m, y, rfl, hd, ⟨w, rfl, ⟨wl, ch, short⟩, q⟩ | ⟨hk, r⟩⟩ := h
  rotate_left
  · unfold t_Desk_0_say
    tm_at "v"
    refine i_kd hk ?_
    tm_at "v"
    exact r _ (Same.refl _)
  unfold t_Desk_0_say
  tm_at "v"
  refine i_isi_str_str ?_
  tm_at "v"
  refine v_split1 (by omega) fun p H1 n1 s1 h1 => ?_
  have hd1 := hd.same s1
  have q := q.later s1
  have l80 := hd1.l80
  have lw := hd1.low
  obtain ⟨⟨dx, hx⟩, hg, lwm, lm⟩ := id hd1
  clear s1
  obtain ⟨h0, t, e⟩ := wds_ne w
  have len := fun u (hu : u ∈ wds w) => wds_le hu
  have chw := fun u (hu : u ∈ wds w) => wds_chr hu ch
  have wll := wds_len w
  unfold sayA at q
  rw [e] at h1 q short len chw wll
  have ix0 : atI ((h0 :: t).map vs) 0 = some (.str (S h0)) := atI_nat (j := 0) rfl
  tm_at "v"
  refine i_lenL (SqL.of1 h1) ?_
  rw [List.length_map, List.length_cons]
  tm_at "v"
  rcases t with _ | ⟨a, _ | ⟨b, _ | ⟨c, u⟩⟩⟩ <;> dsimp only at q
  · refine if_yes (by simp) ?_
    tm_at "v"
    refine dk_me hd1 (by decide +kernel) (by decide +kernel) ?_
    tm_at "v"
    refine ⟨x, g, l, m, w, rfl, hd1, fun a l' ea H' b k => ?_, fun ea H' s => ?_⟩
    · simp only [ea] at q
      exact q.1 _ _ _ rfl g H' (.inl rfl) (Bu.but (by simp) b) k
    · simp only [ea] at q
      exact q.2 1 rfl _ s
  · have la := len a (by simp)
    refine if_no (by simp) ?_
    tm_at "v"
    try (refine i_ixL (SqL.of1 h1) ix0 ?_; tm_at "v")
    have go : tSeq (tIfS (tOr (tTest (tOp (Lv.rInTS K true) (tOp (rIxL K) (tVar 2) (tC (.int 0))) (tC (.ref aH)))) (tTest (tOp Lv.rNeI (tCB (Lv.rLenL K) (tCons (tVar 2) tNil)) (tC (.int 2))))) (Lv.tRaise E (er 1)) tNext) (tRet (tMeth C "of_a_word" (sp_Desk_0_of_a_word K C Cg er) [] E (tVar 0) (tCons (tOp (rIxL K) (tVar 2) (tC (.int 0))) (tCons (tOp (rIxL K) (tVar 2) (tC (.int 1))) tNil)))) { nx := fun _ H' => Q .non H', rt := Q } [some (.ref x), some (.str (S w)), some (.ref p), none, none] H1 := by
      tm_at "v"
      try (refine i_ixL (SqL.of1 h1) ix0 ?_; tm_at "v")
      refine i_notInTS (TH H1) ?_
      tm_at "v"
      refine if_ndec (fun z => ?_) (fun z => ?_)
      · rw [if_neg z] at q
        tm_at "v"
        exact q.2 1 rfl _ (Same.refl _)
      · rw [if_pos z] at q
        tm_at "v"
        refine i_lenL (SqL.of1 h1) ?_
        tm_at "v"
        rw [List.length_map]
        refine if_ndec (fun z => absurd (by simp) z) (fun _ => ?_)
        tm_at "v"
        refine dk_me hd1 (by decide +kernel) (by decide +kernel) ?_
        tm_at "v"
        try (refine i_ixL (SqL.of1 h1) ix0 ?_; tm_at "v")
        try (refine i_ixL (v := .str (S a)) (SqL.of1 h1) (atI_nat (j := 1) rfl) ?_; tm_at "v")
        exact ⟨x, g, l, m, h0, a, rfl, hd1, by omega, chw a (by simp), fun hs => short h0 a rfl hs, z, q⟩
    refine if_dec (fun z => ?_) (fun z => ?_)
    · tm_at "v"
      refine i_lenL (SqL.of1 h1) ?_
      rw [List.length_map]
      tm_at "v"
      refine if_no (by simp) ?_
      exact go
    · exact go
  · have la := len a (by simp)
    have lb := len b (by simp)
    refine if_no (by simp) ?_
    tm_at "v"
    try (refine i_ixL (SqL.of1 h1) ix0 ?_; tm_at "v")
    refine if_dec (fun z => ?_) (fun z => ?_)
    · rw [if_pos z] at q
      tm_at "v"
      refine i_lenL (SqL.of1 h1) ?_
      rw [List.length_map]
      tm_at "v"
      refine if_yes (by simp) ?_
      tm_at "v"
      try (refine i_ixL (v := .str (S a)) (SqL.of1 h1) (atI_nat (j := 1) rfl) ?_; tm_at "v")
      refine i_number_in_0 (by omega) (fun n en H2 s2 => ?_) (fun en H2 s2 => ?_)
      rotate_left
      · simp only [en] at q
        exact q.2 1 rfl _ s2
      tm_at "v"
      try (refine i_ixL (v := .str (S b)) (SqL.of1 (s2 _ _ h1)) (atI_nat (j := 2) rfl) ?_; tm_at "v")
      refine i_number_in_0 (by omega) (fun k ek H3 s3 => ?_) (fun ek H3 s3 => ?_)
      rotate_left
      · simp only [en, ek] at q
        exact q.2 1 rfl _ (s2.trans s3)
      simp only [en, ek] at q
      have S3 := s2.trans s3
      unfold iv
      tm_at "v"
      refine ⟨_, _, rfl, ?_⟩
      tm_at "v"
      refine x_flM Z (by decide +kernel) (S3 _ _ hx) lk2_a ?_
      refine i_Growing_row (hg.same S3) (fun R k => by tm_at "v"; exact k) ?_
      tm_at "v"
      by_cases nl : n ≤ l.length
      · rw [if_pos nl] at q
        cases eg : (lxn n l)[k]? with
        | none =>
          simp only [eg] at q
          have : cl n l ≤ k := List.getElem?_eq_none_iff.mp eg
          exact i_of_length_at_no (by omega) lw (.inr ⟨n, rfl, nl, bad_int (by omega)⟩) fun H4 s4 => q.2 4 rfl _ (S3.trans s4)
        | some r =>
          simp only [eg] at q
          refine i_of_length_at_0x rfl rfl (by omega) lw nl eg fun H4 s4 => ?_
          tm_at "v"
          refine i_shown_0 ?_
          exact q.1 _ _ _ rfl g H4 (.inl rfl) (Bu.same (S3.trans s4)) (hd1.same (S3.trans s4))
      · rw [if_neg nl] at q
        exact i_of_length_at_no (by omega) lw (.inl (bad_int (by omega))) fun H4 s4 => q.2 4 rfl _ (S3.trans s4)
    · rw [if_neg z] at q
      tm_at "v"
      try (refine i_ixL (SqL.of1 h1) ix0 ?_; tm_at "v")
      refine i_notInTS (TH H1) ?_
      tm_at "v"
      refine if_ndec (fun _ => ?_) (fun _ => ?_)
      · tm_at "v"
        exact q.2 1 rfl _ (Same.refl _)
      · tm_at "v"
        refine i_lenL (SqL.of1 h1) ?_
        rw [List.length_map]
        tm_at "v"
        refine if_ndec (fun _ => ?_) (fun z => absurd z (by simp))
        tm_at "v"
        exact q.2 1 rfl _ (Same.refl _)
  · have er1 := q.2 1 rfl
    have go : tSeq (tIfS (tOr (tTest (tOp (Lv.rInTS K true) (tOp (rIxL K) (tVar 2) (tC (.int 0))) (tC (.ref aH)))) (tTest (tOp Lv.rNeI (tCB (Lv.rLenL K) (tCons (tVar 2) tNil)) (tC (.int 2))))) (Lv.tRaise E (er 1)) tNext) (tRet (tMeth C "of_a_word" (sp_Desk_0_of_a_word K C Cg er) [] E (tVar 0) (tCons (tOp (rIxL K) (tVar 2) (tC (.int 0))) (tCons (tOp (rIxL K) (tVar 2) (tC (.int 1))) tNil)))) { nx := fun _ H' => Q .non H', rt := Q } [some (.ref x), some (.str (S w)), some (.ref p), none, none] H1 := by
      tm_at "v"
      try (refine i_ixL (SqL.of1 h1) ix0 ?_; tm_at "v")
      refine i_notInTS (TH H1) ?_
      tm_at "v"
      refine if_ndec (fun z => ?_) (fun z => ?_)
      · tm_at "v"
        exact er1 _ (Same.refl _)
      · tm_at "v"
        refine i_lenL (SqL.of1 h1) ?_
        rw [List.length_map]
        tm_at "v"
        refine if_ndec (fun _ => ?_) (fun z => ?_)
        · tm_at "v"
          exact er1 _ (Same.refl _)
        · simp at z
          omega
    refine if_no (by simp; omega) ?_
    tm_at "v"
    try (refine i_ixL (SqL.of1 h1) ix0 ?_; tm_at "v")
    refine if_dec (fun z => ?_) (fun z => ?_)
    · tm_at "v"
      refine i_lenL (SqL.of1 h1) ?_
      rw [List.length_map]
      tm_at "v"
      refine if_no (by simp; omega) ?_
      exact go
    · exact go
/-! the desk in use -/
/-- what a desk's asking leaves: x the desk, g its row's object ahead, g' behind -/
def Kp (x g g' : Addr) (H H' : Hp) : Prop := (g' = g ∨ H g' = none) ∧ Bu [x, g] H H'
theorem Kp.refl (x g : Addr) (H : Hp) : Kp x g g H H := ⟨.inl rfl, Bu.refl _ _⟩
theorem Kp.same {x g : Addr} {H H' : Hp} (s : Same H H') : Kp x g g H H' := ⟨.inl rfl, Bu.same s⟩
theorem Kp.trans {C Cg : Addr} {x g g1 g2 : Addr} {H H1 H2 : Hp} {l m : List Nat} (a : Kp x g g1 H H1) (hd : DkAt C Cg H1 x g1 l m) (b : Kp x g1 g2 H1 H2) : Kp x g g2 H H2 := by
  obtain ⟨a1, a2⟩ := a
  obtain ⟨b1, b2⟩ := b
  refine ⟨?_, fun c o nc h => ?_⟩
  · rcases b1 with e | n
    · rw [e]; exact a1
    · by_cases z : g2 = g
      · exact .inl z
      · refine .inr ?_
        cases e : H g2 with
        | none => rfl
        | some o =>
          by_cases y : g2 = x
          · obtain ⟨⟨dx, hx⟩, _⟩ := hd
            rw [y, hx] at n
            cases n
          · rw [a2 _ _ (by simp [y, z]) e] at n
            cases n
  · have h1 := a2 c o nc h
    refine b2 c o (fun z => ?_) h1
    simp only [List.mem_cons, List.not_mem_nil, or_false] at z nc
    rcases z with z | z
    · exact nc (.inl z)
    · rcases a1 with e | n
      · exact nc (.inr (z.trans e))
      · rw [z, n] at h; cases h
theorem Kp.then {x g g1 : Addr} {H H1 H2 : Hp} (a : Kp x g g1 H H1) (s : Same H1 H2) : Kp x g g1 H H2 := ⟨a.1, a.2.trans (Bu.same s)⟩
theorem Kp.ahead {x g g1 : Addr} {H H1 H2 : Hp} (s : Same H H1) (a : Kp x g g1 H1 H2) : Kp x g g1 H H2 := by
  refine ⟨a.1.imp id fun n => ?_, (Bu.same s).trans a.2⟩
  cases e : H g1 with
  | none => rfl
  | some o => rw [s _ _ e] at n; cases n
theorem DkAt.neL {C Cg : Addr} {H : Hp} {x g p : Addr} {l m : List Nat} {xs : List V} (h : DkAt C Cg H x g l m) (e : H p = some (.lst xs)) : p ∉ [x, g] := by
  obtain ⟨⟨dx, hx⟩, ⟨dy, hg, _⟩, _⟩ := h
  intro z
  simp only [List.mem_cons, List.not_mem_nil, or_false] at z
  rcases z with z | z
  · rw [z, hx] at e; cases e
  · rw [z, hg] at e; cases e
theorem DkAt.keepL {C Cg : Addr} {H H' : Hp} {x g g' p : Addr} {l m : List Nat} {xs : List V} (h : DkAt C Cg H x g l m) (k : Kp x g g' H H') (e : H p = some (.lst xs)) : H' p = some (.lst xs) := k.2 _ _ (h.neL e) e
theorem DkAt.updN {C Cg : Addr} {H : Hp} {x g D : Addr} {l m : List Nat} {o : HO} {xs : List V} (h : DkAt C Cg H x g l m) (e : H D = some (.lst xs)) : DkAt C Cg (L2.upd H D o) x g l m := by
  have n := h.neL e
  simp only [List.mem_cons, List.not_mem_nil, or_false, not_or] at n
  obtain ⟨⟨dx, hx⟩, ⟨dy, hg, h2⟩, h3⟩ := h
  exact ⟨⟨dx, by rw [upd_ne (Ne.symm n.1)]; exact hx⟩, ⟨dy, by rw [upd_ne (Ne.symm n.2)]; exact hg, h2⟩, h3⟩
theorem Kp.updN {x g g' D : Addr} {H H' : Hp} {o : HO} (k : Kp x g g' H H') (n : H D = none) : Kp x g g' H (L2.upd H' D o) := ⟨k.1, fun b o nb h => by
  have : b ≠ D := fun z => by rw [z, n] at h; cases h
  rw [upd_ne this]
  exact k.2 b o nb h⟩
section
variable {K : PySem.W.Frag} {C Cg : Addr} {er : Nat → Addr} {x g : Addr} {l m w : List Nat} {H : Hp} {Q : VK} {E : XK}
/-- a desk is asked what is answered -/
theorem i_say {a l' m' : List Nat} (hd : DkAt C Cg H x g l m) (hw : SayW w) (e : sayA l m w = .ok a l' m') (q : ∀ g' H', Kp x g g' H H' → DkAt C Cg H' x g' l' m' → Q (.str (S a)) H') : sp_Desk_0_say K C Cg er [.ref x, .str (S w)] H Q E :=
  ⟨x, g, l, m, _, rfl, hd, .inl ⟨w, rfl, hw, fun a1 l1 m1 e1 g' H' n b k => by
    rw [e] at e1
    cases e1
    exact q g' H' ⟨n, b⟩ k, fun i e1 => by rw [e] at e1; cases e1⟩⟩
/-- .. what is refused -/
theorem i_say_no {i : Nat} (hd : DkAt C Cg H x g l m) (hw : SayW w) (e : sayA l m w = .er i) (q : ∀ H', Same H H' → E (.ref (er i)) none H') : sp_Desk_0_say K C Cg er [.ref x, .str (S w)] H Q E :=
  ⟨x, g, l, m, _, rfl, hd, .inl ⟨w, rfl, hw, (fun a1 l1 m1 e1 => by rw [e] at e1; cases e1), fun j e1 H' s => by
    rw [e] at e1
    cases e1
    exact q H' s⟩⟩
theorem i_say_odd {y : V} (hd : DkAt C Cg H x g l m) (hy : Kd K H y "str" false) (q : ∀ H', Same H H' → E (.ref (er 1)) none H') : sp_Desk_0_say K C Cg er [.ref x, y] H Q E := ⟨x, g, l, m, _, rfl, hd, .inr ⟨hy, q⟩⟩
end
section
variable {l m w h a b : List Nat}
theorem say_one (f : Fr32 w) : sayA l m w = (match aloneA l m w with | none => .er 1 | some p => .ok p.1 p.2 m) := by
  unfold sayA
  rw [wds_free f]
theorem say_two (fh : Fr32 h) (fa : Fr32 a) (hh : h ∈ [[114, 111, 119], [111, 116, 104, 101, 114], [112, 117, 116], [108, 101, 102, 116], [97, 116], [112, 108, 97, 99, 101], [119, 97, 121], [115, 104, 111, 114, 116], [97, 114, 99, 104, 101, 115]]) : sayA l m (h ++ 32 :: a) = ofWordA l m h a := by
  unfold sayA
  rw [wds_head fh, wds_free fa]
  exact if_pos hh
theorem say_show : sayA l m [115, 104, 111, 119] = .ok (shn1 l ++ [32] ++ shn1 m) l m := by
  rw [say_one (by unfold Fr32; decide)]
  rfl
theorem say_many : sayA l m [109, 97, 110, 121] = .ok (TL.numL (cn l)) l m := by
  rw [say_one (by unfold Fr32; decide)]
  rfl
theorem say_lengths : sayA l m [108, 101, 110, 103, 116, 104, 115] = .ok (wrt (lens l)) l m := by
  rw [say_one (by unfold Fr32; decide)]
  rfl
theorem say_ways : sayA l m [119, 97, 121, 115] = .ok (TL.numL (W l m)) l m := by
  rw [say_one (by unfold Fr32; decide)]
  rfl
theorem say_common : sayA l m [99, 111, 109, 109, 111, 110] = .ok (TL.numL (cc l m) ++ [32] ++ shn1 (cf l m)) l m := by
  rw [say_one (by unfold Fr32; decide)]
  rfl
theorem say_parts : sayA l m [112, 97, 114, 116, 115] = .ok ((pt l m).getD [45]) l m := by
  rw [say_one (by unfold Fr32; decide)]
  rfl
theorem say_undo : sayA l m [117, 110, 100, 111] = .ok (if l = [] then [110, 111, 110, 101] else [111, 107]) l.dropLast m := by
  rw [say_one (by unfold Fr32; decide)]
  rfl
theorem _root_.Lv.Low.fr {l : List Nat} (h : Low l) : Fr32 l := fun c hc => by have := h c hc; omega
theorem shn1_fr {l : List Nat} (h : Low l) : Fr32 (shn1 l) := by
  unfold shn1
  split
  · unfold Fr32; decide
  · exact h.fr
theorem shn1_chr {l : List Nat} (h : Low l) : Chr (shn1 l) := by
  unfold shn1
  split
  · unfold Chr; decide
  · exact h.chr
theorem numL_chr2 (n : Nat) : Chr (TL.numL n) := fun c hc => by have := TL.numL_digits n c hc; omega
end
/-- which refusal -/
def Res.i : Res → Nat
  | .ok _ _ _ => 0
  | .er i => i
/-- the refusals' names -/
def erN : Nat → List Nat
  | 0 => []
  | 1 => [78, 111, 67, 111, 109, 109, 97, 110, 100]
  | 2 => [78, 111, 76, 101, 116, 116, 101, 114]
  | 3 => [78, 111, 76, 101, 116, 116, 101, 114, 115]
  | 4 => [78, 111, 80, 108, 97, 99, 101]
  | _ => [78, 111, 82, 111, 119]
/-! law_is_number_0(word): slots 0 word, 1 figure -/
abbrev N_law_is_number_0 : List Str := ["word", "figure"]
def t_law_is_number_0 (K : PySem.W.Frag) : TS :=
  (tSeq (tIfS (tOr (tNot (tTest (tChain Lv.rLe Lv.rLe (tC (.int 1)) (tCB Lv.rLenT (tCons (tVar 0) tNil)) (tC (.int 30))))) (tAnd (tTest (tOp Lv.rEqS (tOp Lv.rIxT1 (tVar 0) (tC (.int 0))) (tC (.str (S [48]))))) (tTest (tOp Lv.rNeS (tVar 0) (tC (.str (S [48]))))))) (tRet (tC (.bl false))) tNext) (tRet (tCB (L2.rAll K) (tCons (tLc (iStr (tVar 0)) (gName 1) tYes (tOp (Lv.rIn1 false) (tVar 1) (tC (.str (S [48, 49, 50, 51, 52, 53, 54, 55, 56, 57])))) [1]) tNil))))
-- needs: Q_number_in_0
def sp_law_is_number_0 (K : PySem.W.Frag) : Sp := fun vs H Q _ => ∃ (a : List Nat), vs = [.str (S a)] ∧ a.length ≤ 100000 ∧ ∀ H', Same H H' → Q (.bl (numIn a).isSome) H'
theorem i_law_is_number_0 {K : PySem.W.Frag} {a : List Nat} {H : Hp} {Q : VK} {E : XK} (hl : a.length ≤ 100000) (q : ∀ H', Same H H' → Q (.bl (numIn a).isSome) H') : sp_law_is_number_0 K [.str (S a)] H Q E := ⟨a, rfl, hl, q⟩
theorem pure_law_is_number_0 {K : PySem.W.Frag} (vs : List V) (H : Hp) (Q : VK) (E : XK) (h : sp_law_is_number_0 K vs H Q E) : t_law_is_number_0 K { nx := fun _ H' => Q .non H', rt := Q } (start N_law_is_number_0 vs) H := by
  obtain ⟨a, rfl, hl, q⟩ := h
  have no : ¬ NumOk a → ∀ H', Same H H' → Q (.bl false) H' := fun z H' s => by
    have := q H' s
    rw [numIn_no z] at this
    exact this
  unfold t_law_is_number_0
  have tail : 1 ≤ a.length → a.length ≤ 30 → (a.head? = some 48 → a = [48]) → (tRet (tCB (L2.rAll K) (tCons (tLc (iStr (tVar 0)) (gName 1) tYes (tOp (Lv.rIn1 false) (tVar 1) (tC (.str (S [48, 49, 50, 51, 52, 53, 54, 55, 56, 57])))) [1]) tNil))) { nx := fun _ H' => Q .non H', rt := Q } (start N_law_is_number_0 [.str (S a)]) H := fun h1 h2 h3 => by
    tm_at "v"
    tm_at "lc"
    refine c_sP (fun c => some (.bl (decide (c ∈ [48, 49, 50, 51, 52, 53, 54, 55, 56, 57])))) (by omega) (fun c H' hc sm Yk N y n => ?_) fun D H1 nD s1 hD => ?_
    · tm_at "v"
      refine ⟨rfl, ?_⟩
      tm_at "v"
      exact y _ rfl _ (Same.refl _)
    rw [fm_map2] at hD
    tm_at "v"
    refine ⟨D, _, rfl, SqL.of1 hD, ?_⟩
    have e : (a.map fun c => decide (c ∈ [48, 49, 50, 51, 52, 53, 54, 55, 56, 57])).all id = (numIn a).isSome := by
      rw [Bool.eq_iff_iff, List.all_eq_true]
      constructor
      · intro z
        rw [numIn_ok ⟨h1, h2, h3, fun c hc => ?_⟩]
        · rfl
        · have := z _ (List.mem_map.mpr ⟨c, hc, rfl⟩)
          simp at this
          omega
      · intro z b hb
        obtain ⟨c, hc, rfl⟩ := List.mem_map.mp hb
        by_cases ok : NumOk a
        · have := ok.2.2.2 c hc
          simp
          omega
        · rw [numIn_no ok] at z
          cases z
    rw [e]
    exact q _ s1
  tm_at "v"
  by_cases h1 : 1 ≤ a.length
  · refine if_yes (by omega) ?_
    tm_at "v"
    by_cases h2 : a.length ≤ 30
    · rw [decide_eq_true (show ((a.length : Nat) : Int) ≤ 30 by omega)]
      tm_at "v"
      obtain ⟨c, hc⟩ : ∃ c, a[0]? = some c := ⟨_, List.getElem?_eq_getElem (by omega)⟩
      refine i_ix1 (by omega) hc ?_
      tm_at "v"
      have hh : a.head? = some c := by rw [List.head?_eq_getElem?]; exact hc
      by_cases z : c = 48
      · subst z
        rw [decide_eq_true rfl]
        tm_at "v"
        by_cases e : a = [48]
        · rw [decide_eq_true e]
          tm_at "v"
          exact tail h1 h2 fun _ => e
        · rw [decide_eq_false e]
          tm_at "v"
          exact no (fun y => e (y.2.2.1 hh)) _ (Same.refl _)
      · rw [decide_eq_false (fun y => z (by injection y))]
        tm_at "v"
        exact tail h1 h2 fun y => by rw [hh] at y; exact absurd (Option.some.inj y) z
    · rw [decide_eq_false (show ¬ ((a.length : Nat) : Int) ≤ 30 by omega)]
      tm_at "v"
      exact no (fun y => h2 y.2.1) _ (Same.refl _)
  · refine if_no (by omega) ?_
    tm_at "v"
    exact no (fun y => h1 y.1) _ (Same.refl _)
/-! law_number_due_0(desk, head, numbers): slots 0 desk, 1 head, 2 numbers, 3 sizes, 4 length, 5 word -/
abbrev N_law_number_due_0 : List Str := ["desk", "head", "numbers", "sizes", "length", "word"]
def t_law_number_due_0 (K : PySem.W.Frag) (C_Desk : Addr) (C_Growing : Addr) (er : Nat → Addr) : TS :=
  (tSeq (tIfS (tTest (tOp (Lv.rNeLS K) (tLc (iList K (tVar 2)) (gName 5) (tNot (tB (tCall (sp_law_is_number_0 K) [] E0 (tCons (tVar 5) tNil)))) (tVar 5) [5]) (tLst tNil))) (tRet (tC (.str (S [78, 111, 67, 111, 109, 109, 97, 110, 100])))) tNext) (tSeq (tIfS (tTest (tOp Lv.rEqS (tVar 1) (tC (.str (S [97, 116]))))) (tRet (tIf (tTest (tOp Lv.rLt (tCB Lv.rIntS (tCons (tOp (rIxL K) (tVar 2) (tC (.int 0))) tNil)) (tCB Lv.rIntS (tCons (tMeth C_Desk "say" (sp_Desk_0_say K C_Desk C_Growing er) [] E0 (tVar 0) (tCons (tC (.str (S [109, 97, 110, 121]))) tNil)) tNil)))) (tC (.str (S []))) (tC (.str (S [78, 111, 80, 108, 97, 99, 101]))))) tNext) (tSeq (tIfS (tTest (tOp Lv.rEqS (tVar 1) (tC (.str (S [119, 97, 121]))))) (tRet (tIf (tTest (tOp Lv.rLt (tCB Lv.rIntS (tCons (tOp (rIxL K) (tVar 2) (tC (.int 0))) tNil)) (tCB Lv.rIntS (tCons (tMeth C_Desk "say" (sp_Desk_0_say K C_Desk C_Growing er) [] E0 (tVar 0) (tCons (tC (.str (S [119, 97, 121, 115]))) tNil)) tNil)))) (tC (.str (S []))) (tC (.str (S [78, 111, 80, 108, 97, 99, 101]))))) tNext) (tSeq (tAsg (tLc (iList K (tBM K "str" Lv.rSplit1 (tMeth C_Desk "say" (sp_Desk_0_say K C_Desk C_Growing er) [] E0 (tVar 0) (tCons (tC (.str (S [108, 101, 110, 103, 116, 104, 115]))) tNil)) (tCons (tC (.str (S [32]))) tNil))) (gName 5) tYes (tCB Lv.rIntS (tCons (tVar 5) tNil)) [5]) (gName 3)) (tSeq (tAsg (tCB Lv.rIntS (tCons (tOp (rIxL K) (tVar 2) (tC (.int 0))) tNil)) (gName 4)) (tRet (tIf (tAnd (tTest (tOp Lv.rLt (tVar 4) (tCB (Lv.rLenL K) (tCons (tVar 3) tNil)))) (tTest (tOp Lv.rLt (tCB Lv.rIntS (tCons (tOp (rIxL K) (tVar 2) (tC (.int 1))) tNil)) (tOp (rIxL K) (tVar 3) (tVar 4))))) (tC (.str (S []))) (tC (.str (S [78, 111, 80, 108, 97, 99, 101]))))))))))
-- needs: Q_Desk_0_say Q_law_is_number_0
theorem numIn_is {a : List Nat} {n : Nat} (h : numIn a = some n) : NumOk a ∧ NumText.digitsVal a = n := by
  by_cases z : NumOk a
  · rw [numIn_ok z] at h
    exact ⟨z, Option.some.inj h⟩
  · rw [numIn_no z] at h; cases h
theorem i_intN {a : List Nat} {n : Nat} {H : Hp} {Q : VK} (h : numIn a = some n) (q : Q (.int (n : Nat)) H) : rIntS [.str (S a)] H Q := by
  obtain ⟨z, rfl⟩ := numIn_is h
  refine i_intS z.2.2.2 (fun y => ?_) (Nat.le_trans z.2.1 (by decide)) q
  have := z.1
  rw [y] at this
  simp at this
theorem i_intL {n : Nat} {H : Hp} {Q : VK} (hn : n < 10 ^ 30) (q : Q (.int (n : Nat)) H) : rIntS [.str (S (TL.numL n))] H Q := i_intN (numIn_num hn) q
/-- the refusal due of numbers -/
noncomputable def numDue (l m h : List Nat) : List (List Nat) → Nat
  | [a] => match numIn a with | none => 1 | some k => if k < (if h = [97, 116] then cn l else W l m) then 0 else 4
  | [a, b] => match numIn a, numIn b with | some n, some k => if n ≤ l.length ∧ k < cl n l then 0 else 4 | _, _ => 1
  | _ => 1
theorem numDue_one {l m h a : List Nat} : numDue l m h [a] = (match numIn a with | none => 1 | some k => if k < (if h = [97, 116] then cn l else W l m) then 0 else 4) := rfl
theorem numDue_two {l m h a b : List Nat} : numDue l m h [a, b] = (match numIn a, numIn b with | some n, some k => if n ≤ l.length ∧ k < cl n l then 0 else 4 | _, _ => 1) := rfl
theorem due_at {l m a : List Nat} : (ofWordA l m [97, 116] a).i = numDue l m [97, 116] [a] := by
  unfold ofWordA
  rw [if_neg (by decide), if_neg (by decide), if_pos rfl]
  rw [numDue_one]
  cases numIn a with
  | none => rfl
  | some k =>
    dsimp only
    rw [if_pos rfl]
    cases e : (lx l)[k]? with
    | none => rw [if_neg (by have : cn l ≤ k := List.getElem?_eq_none_iff.mp e; omega)]; rfl
    | some r => rw [if_pos (show k < cn l from (List.getElem?_eq_some_iff.mp e).1)]; rfl
theorem due_way {l m a : List Nat} : (ofWordA l m [119, 97, 121] a).i = numDue l m [119, 97, 121] [a] := by
  unfold ofWordA
  rw [if_neg (by decide), if_neg (by decide), if_neg (by decide), if_pos rfl]
  rw [numDue_one]
  cases numIn a with
  | none => rfl
  | some k =>
    dsimp only
    rw [if_neg (show ¬ ([119, 97, 121] : List Nat) = [97, 116] by decide)]
    by_cases z : k < W l m
    · rw [if_pos z, if_pos z]; rfl
    · rw [if_neg z, if_neg z]; rfl
theorem due_long {l m h a b : List Nat} : (match numIn a, numIn b with | some n, some k => if n ≤ l.length then (match (lxn n l)[k]? with | none => Res.er 4 | some r => .ok (shn1 r) l m) else .er 4 | _, _ => .er 1).i = numDue l m h [a, b] := by
  rw [numDue_two]
  cases numIn a with
  | none => rfl
  | some n =>
    cases numIn b with
    | none => rfl
    | some k =>
      dsimp only
      by_cases z : n ≤ l.length
      · rw [if_pos z]
        cases e : (lxn n l)[k]? with
        | none => rw [if_neg (fun y => by have : cl n l ≤ k := List.getElem?_eq_none_iff.mp e; omega)]; rfl
        | some r => rw [if_pos ⟨z, show k < cl n l from (List.getElem?_eq_some_iff.mp e).1⟩]; rfl
      · rw [if_neg z, if_neg (fun y => z y.1)]; rfl
theorem sayW_s {w : List Nat} (h : w.length ≤ 1000) (c : ∀ x ∈ w, x < 1114112) : SayW w := SayW.of h c
def NumArg (h : List Nat) (ws : List (List Nat)) : Prop := (h = [97, 116] ∧ ∃ a, ws = [a]) ∨ (h = [119, 97, 121] ∧ ∃ a, ws = [a]) ∨ (h = [108, 111, 110, 103] ∧ ∃ a b, ws = [a, b])
def sp_law_number_due_0 (K : PySem.W.Frag) (C Cg : Addr) (er : Nat → Addr) : Sp := fun vs H Q _ => ∃ (x g T : Addr) (l m h : List Nat) (ws : List (List Nat)), vs = [.ref x, .str (S h), .ref T] ∧ DkAt C Cg H x g l m ∧ H T = some (.lst (ws.map Lv.vs)) ∧ (∀ w ∈ ws, w.length ≤ 10000 ∧ Chr w) ∧ NumArg h ws ∧
  ∀ g' H', Kp x g g' H H' → DkAt C Cg H' x g' l m → Q (.str (S (erN (numDue l m h ws)))) H'
theorem pure_law_number_due_0 {K : PySem.W.Frag} {C Cg : Addr} {er : Nat → Addr} (Z : Kl K C ["grown", "beside"]) (Y : Kl K Cg ["letters"]) (vs : List V) (H : Hp) (Q : VK) (E : XK) (h : sp_law_number_due_0 K C Cg er vs H Q E) : t_law_number_due_0 K C Cg er { nx := fun _ H' => Q .non H', rt := Q } (start N_law_number_due_0 vs) H := by
  obtain ⟨x, g, T, l, m, h, ws, rfl, hd, hT, hw, hn, q⟩ := h
  have l80 := hd.l80
  have lw := hd.low
  have wsl : ws.length ≤ 2 := by
    rcases hn with ⟨_, a, rfl⟩ | ⟨_, a, rfl⟩ | ⟨_, a, b, rfl⟩ <;> simp
  unfold t_law_number_due_0
  tm_at "v"
  tm_at "lc"
  refine c_lP ws Lv.vs (fun w => if numIn w = none then some (Lv.vs w) else none) (SqL.of1 hT) (by omega) (fun w H' hm sm Yk N y n => ?_) fun D H1 nD s1 hD => ?_
  · unfold Lv.vs
    tm_at "v"
    refine ⟨rfl, ?_⟩
    tm_at "v"
    refine i_law_is_number_0 (by have := (hw w hm).1; omega) fun H2 s2 => ?_
    tm_at "v"
    cases e : numIn w with
    | none =>
      rw [show (none : Option Nat).isSome = false from rfl]
      tm_at "v"
      exact y _ (if_pos e) _ s2
    | some k =>
      rw [show (some k).isSome = true from rfl]
      tm_at "v"
      exact n (if_neg (by rw [e]; simp)) _ s2
  rw [fm_if (p := fun w => numIn w = none) Lv.vs ws] at hD
  tm_at "v"
  intro p2 H2 n2 s2 h2
  refine i_r2LS (ns := ws.filter fun w => decide (numIn w = none)) (ms := []) (SqL.of1 (s2 _ _ hD)) (SqL.of1 h2) (fun w hm => (hw w (List.mem_filter.mp hm).1).2) (fun _ z => nomatch z) ?_
  have S2 := s1.trans s2
  have hd2 := hd.same S2
  have hT2 := S2 _ _ hT
  have q2 : ∀ g' H', Kp x g g' H2 H' → DkAt C Cg H' x g' l m → Q (.str (S (erN (numDue l m h ws)))) H' := fun g' H' k d => q g' H' (Kp.ahead S2 k) d
  tm_at "v"
  refine if_ndec (fun z => ?_) (fun z => ?_)
  · have e1 : numDue l m h ws = 1 := by
      obtain ⟨w, hm⟩ := List.exists_mem_of_ne_nil _ z
      obtain ⟨hm, hz⟩ := List.mem_filter.mp hm
      have hz := of_decide_eq_true hz
      rcases hn with ⟨_, a, rfl⟩ | ⟨_, a, rfl⟩ | ⟨_, a, b, rfl⟩
      · rw [List.mem_singleton.mp hm] at hz
        rw [numDue_one, hz]
      · rw [List.mem_singleton.mp hm] at hz
        rw [numDue_one, hz]
      · simp only [List.mem_cons, List.not_mem_nil, or_false] at hm
        rw [numDue_two]
        rcases hm with rfl | rfl
        · rw [hz]
        · rw [hz]
          cases numIn a <;> rfl
    have := q2 g H2 (Kp.refl _ _ _) hd2
    rw [e1] at this
    tm_at "v"
    exact this
  have all : ∀ w ∈ ws, ∃ n, numIn w = some n := fun w hm => by
    cases e : numIn w with
    | some n => exact ⟨n, rfl⟩
    | none =>
      have : w ∈ ws.filter fun w => decide (numIn w = none) := List.mem_filter.mpr ⟨hm, decide_eq_true e⟩
      rw [z] at this
      cases this
  tm_at "v"
  rcases hn with ⟨rfl, a, rfl⟩ | ⟨rfl, a, rfl⟩ | ⟨rfl, a, b, rfl⟩
  · obtain ⟨k, ek⟩ := all a (by simp)
    unfold numDue at q2
    simp only [ek, if_true] at q2
    refine if_yes rfl ?_
    tm_at "v"
    try (refine i_ixL (v := .str (S a)) (SqL.of1 hT2) (atI_nat (j := 0) rfl) ?_; tm_at "v")
    refine i_intN ek ?_
    tm_at "v"
    refine dk_me hd2 (by decide +kernel) (by decide +kernel) ?_
    tm_at "v"
    refine i_say hd2 (sayW_s (by decide) (by decide)) say_many fun g3 H3 k3 hd3 => ?_
    tm_at "v"
    refine i_intL (n30 (cn_le l lw) l80) ?_
    tm_at "v"
    have f := q2 g3 H3 k3 hd3
    refine if_dec (fun z => ?_) (fun z => ?_)
    · rw [if_pos (by omega)] at f
      tm_at "v"
      exact f
    · rw [if_neg (by omega)] at f
      tm_at "v"
      exact f
  · obtain ⟨k, ek⟩ := all a (by simp)
    unfold numDue at q2
    simp only [ek] at q2
    rw [if_neg (show ¬ ([119, 97, 121] : List Nat) = [97, 116] by decide)] at q2
    refine if_no (by decide) ?_
    tm_at "v"
    try (refine if_yes rfl ?_; tm_at "v")
    try (refine i_ixL (v := .str (S a)) (SqL.of1 hT2) (atI_nat (j := 0) rfl) ?_; tm_at "v")
    refine i_intN ek ?_
    tm_at "v"
    refine dk_me hd2 (by decide +kernel) (by decide +kernel) ?_
    tm_at "v"
    refine i_say hd2 (sayW_s (by decide) (by decide)) say_ways fun g3 H3 k3 hd3 => ?_
    tm_at "v"
    refine i_intL (n30 (W_le l m) l80) ?_
    tm_at "v"
    have f := q2 g3 H3 k3 hd3
    refine if_dec (fun z => ?_) (fun z => ?_)
    · rw [if_pos (by omega)] at f
      tm_at "v"
      exact f
    · rw [if_neg (by omega)] at f
      tm_at "v"
      exact f
  · obtain ⟨n, en⟩ := all a (by simp)
    obtain ⟨k, ek⟩ := all b (by simp)
    rw [numDue_two] at q2
    simp only [en, ek] at q2
    refine if_no (by decide) ?_
    tm_at "v"
    try (refine if_no (by decide) ?_; tm_at "v")
    refine lcM (fun J H5 => ∃ (P g3 : Addr), J = Itl K P ∧ Kp x g g3 H2 H5 ∧ DkAt C Cg H5 x g3 l m ∧ H5 P = some (.lst ((lens l).map fun n => Lv.vs (TL.numL n)))) (fun R kk => ?_) ?_
    · tm_at "v"
      refine dk_me hd2 (by decide +kernel) (by decide +kernel) ?_
      tm_at "v"
      refine i_say hd2 (sayW_s (by decide) (by decide)) say_lengths fun g3 H3 k3 hd3 => ?_
      tm_at "v"
      have lne : lens l ≠ [] := fun z => by
        have := lens_len l
        rw [z] at this
        simp at this
      have wl : wrt (lens l) = TL.joinL [32] ((lens l).map TL.numL) := if_neg lne
      have ws : wds (wrt (lens l)) = (lens l).map TL.numL := by rw [wl]; exact wds_wrt lne
      have le : (wrt (lens l)).length ≤ 100000 := by
        rw [wl]
        have h1 := join_len ((lens l).map TL.numL)
        have h2 := sum_len (ps := (lens l).map TL.numL) (k := 30) fun p hp => by
          obtain ⟨n, hn, rfl⟩ := List.mem_map.mp hp
          unfold lens at hn
          obtain ⟨j, _, rfl⟩ := List.mem_map.mp hn
          exact TL.numL_len (by decide) (n30 (Nat.le_trans (cl_le j l) (cn_le l lw)) l80)
        rw [List.length_map, lens_len] at h1 h2
        omega
      refine v_split1 (by omega) fun P H4 n4 s4 h4 => ?_
      rw [ws, List.map_map] at h4
      exact ⟨P, rfl, ⟨_, SqL.of1 h4⟩, kk _ _ ⟨P, g3, rfl, k3.then s4, hd3.same s4, h4⟩⟩
    rintro J H5 ⟨P, g3, rfl, k3, hd3, hP⟩
    have hT5 := hd2.keepL k3 hT2
    refine c_lP (lens l) (fun n => Lv.vs (TL.numL n)) (fun n => some (iv n)) (SqL.of1 hP) (by rw [lens_len]; omega) (fun n H' hm sm Yk N y _ => ?_) fun D H6 nD s6 hD => ?_
    · unfold Lv.vs
      tm_at "v"
      refine ⟨rfl, ?_⟩
      tm_at "v"
      unfold lens at hm
      obtain ⟨j, _, rfl⟩ := List.mem_map.mp hm
      refine i_intL (n30 (Nat.le_trans (cl_le j l) (cn_le l lw)) l80) ?_
      exact y _ rfl _ (Same.refl _)
    rw [fm_map (fun n => iv n)] at hD
    have hT6 := s6 _ _ hT5
    have f := q2 g3 H6 (k3.then s6) (hd3.same s6)
    tm_at "v"
    try (refine i_ixL (v := .str (S a)) (SqL.of1 hT6) (atI_nat (j := 0) rfl) ?_; tm_at "v")
    refine i_intN en ?_
    tm_at "v"
    refine i_lenL (SqL.of1 hD) ?_
    rw [List.length_map, lens_len]
    tm_at "v"
    by_cases z : n ≤ l.length
    · refine if_yes (by omega) ?_
      tm_at "v"
      try (refine i_ixL (v := .str (S b)) (SqL.of1 hT6) (atI_nat (j := 1) rfl) ?_; tm_at "v")
      refine i_intN ek ?_
      tm_at "v"
      refine i_ixL (v := iv (cl n l)) (SqL.of1 hD) (atI_nat (j := n) (by rw [List.getElem?_map, lens_get z]; rfl)) ?_
      unfold iv
      tm_at "v"
      refine if_dec (fun y => ?_) (fun y => ?_)
      · rw [if_pos ⟨z, by omega⟩] at f
        tm_at "v"
        exact f
      · rw [if_neg (fun w => y (by omega))] at f
        tm_at "v"
        exact f
    · rw [if_neg (fun w => z w.1)] at f
      refine if_no (by omega) ?_
      tm_at "v"
      exact f
/-! law_are_small_0(word): slots 0 word, 1 letter -/
abbrev N_law_are_small_0 : List Str := ["word", "letter"]
def t_law_are_small_0 (K : PySem.W.Frag) : TS :=
  (tRet (tOp (Lv.rEqLS K) (tLc (iStr (tVar 0)) (gName 1) (tNot (tTest (tChain Lv.rLeS Lv.rLeS (tC (.str (S [97]))) (tVar 1) (tC (.str (S [122])))))) (tVar 1) [1]) (tLst tNil)))
-- needs: Q_is_row_0
def sp_law_are_small_0 (K : PySem.W.Frag) : Sp := fun vs H Q _ => ∃ (a : List Nat), vs = [.str (S a)] ∧ a.length ≤ 100000 ∧ Chr a ∧ ∀ H', Same H H' → Q (.bl (LowB a)) H'
theorem i_law_are_small_0 {K : PySem.W.Frag} {a : List Nat} {H : Hp} {Q : VK} {E : XK} (hl : a.length ≤ 100000) (ch : Chr a) (q : ∀ H', Same H H' → Q (.bl (LowB a)) H') : sp_law_are_small_0 K [.str (S a)] H Q E := ⟨a, rfl, hl, ch, q⟩
theorem pure_law_are_small_0 {K : PySem.W.Frag} (vs : List V) (H : Hp) (Q : VK) (E : XK) (h : sp_law_are_small_0 K vs H Q E) : t_law_are_small_0 K { nx := fun _ H' => Q .non H', rt := Q } (start N_law_are_small_0 vs) H := by
  obtain ⟨a, rfl, hl, ch, q⟩ := h
  unfold t_law_are_small_0
  tm_at "v"
  tm_at "lc"
  refine c_sP (fun c => if ¬ (97 ≤ c ∧ c ≤ 122) then some (vc c) else none) (by omega) (fun c H' hc sm Yk N y n => ?_) fun D H1 nD s1 hD => ?_
  · tm_at "v"
    refine ⟨rfl, ?_⟩
    tm_at "v"
    by_cases y1 : c < 97
    · rw [decide_eq_true (lt_one.mpr y1)]
      tm_at "v"
      exact y _ (if_pos (by omega)) _ (Same.refl _)
    · rw [decide_eq_false (fun z => y1 (lt_one.mp z))]
      tm_at "v"
      by_cases y2 : 122 < c
      · rw [decide_eq_true (lt_one.mpr y2)]
        tm_at "v"
        exact y _ (if_pos (by omega)) _ (Same.refl _)
      · rw [decide_eq_false (fun z => y2 (lt_one.mp z))]
        tm_at "v"
        exact n (if_neg (by omega)) _ (Same.refl _)
  rw [fm_if (p := fun c => ¬ (97 ≤ c ∧ c ≤ 122))] at hD
  tm_at "v"
  intro p H2 n2 s2 h2
  refine i_r2LS (ns := (a.filter fun c => decide (¬ (97 ≤ c ∧ c ≤ 122))).map fun c => [c]) (ms := []) (SqL.of1 (by rw [s2 _ _ hD, vc_vs])) (SqL.of1 h2) (fun x hx => ?_) (fun _ z => nomatch z) ?_
  · obtain ⟨c, hc, rfl⟩ := List.mem_map.mp hx
    exact Chr.one (ch c (List.mem_filter.mp hc).1)
  have e : decide ((a.filter fun c => decide (¬ (97 ≤ c ∧ c ≤ 122))).map (fun c => [c]) = []) = LowB a := by
    rw [Bool.eq_iff_iff, decide_eq_true_eq, List.map_eq_nil_iff, List.filter_eq_nil_iff, LowB_iff]
    refine forall_congr' fun c => forall_congr' fun hc => ?_
    rw [decide_eq_true_eq]
    exact Decidable.not_not
  rw [e]
  exact q _ (s1.trans s2)
/-! law_is_row_0(word): slots 0 word -/
abbrev N_law_is_row_0 : List Str := ["word"]
def t_law_is_row_0 (K : PySem.W.Frag) : TS :=
  (tRet (tOrV (tOp Lv.rEqS (tVar 0) (tC (.str (S [45])))) (tAndV (tOp Lv.rNeS (tVar 0) (tC (.str (S [])))) (tAndV (tCall (sp_law_are_small_0 K) [] E0 (tCons (tVar 0) tNil)) (tOp Lv.rLt (tCB Lv.rLenT (tCons (tVar 0) tNil)) (tC (.int 81)))))))
-- needs: Q_row_in_0 Q_law_are_small_0
def sp_law_is_row_0 (K : PySem.W.Frag) : Sp := fun vs H Q _ => ∃ (a : List Nat), vs = [.str (S a)] ∧ a.length ≤ 100000 ∧ Chr a ∧ ∀ H', Same H H' → Q (.bl (rowIn a).isSome) H'
theorem i_law_is_row_0 {K : PySem.W.Frag} {a : List Nat} {H : Hp} {Q : VK} {E : XK} (hl : a.length ≤ 100000) (ch : Chr a) (q : ∀ H', Same H H' → Q (.bl (rowIn a).isSome) H') : sp_law_is_row_0 K [.str (S a)] H Q E := ⟨a, rfl, hl, ch, q⟩
theorem pure_law_is_row_0 {K : PySem.W.Frag} (vs : List V) (H : Hp) (Q : VK) (E : XK) (h : sp_law_is_row_0 K vs H Q E) : t_law_is_row_0 K { nx := fun _ H' => Q .non H', rt := Q } (start N_law_is_row_0 vs) H := by
  obtain ⟨a, rfl, hl, ch, q⟩ := h
  unfold rowIn at q
  unfold t_law_is_row_0
  tm_at "v"
  refine if_dec (fun z => ?_) (fun z => ?_)
  · rw [if_pos z] at q
    exact q _ (Same.refl _)
  rw [if_neg z] at q
  tm_at "v"
  refine if_ndec (fun y => ?_) (fun y => ?_)
  · rw [if_neg y] at q
    tm_at "v"
    refine i_law_are_small_0 hl ch fun H1 s1 => ?_
    cases e : LowB a with
    | false =>
      rw [e, if_neg (by simp)] at q
      tm_at "v"
      exact q _ s1
    | true =>
      rw [e, if_pos rfl] at q
      tm_at "v"
      by_cases x : 80 < a.length
      · rw [if_pos x] at q
        rw [decide_eq_false (show ¬ ((a.length : Nat) : Int) < 81 by omega)]
        exact q _ s1
      · rw [if_neg x] at q
        rw [decide_eq_true (show ((a.length : Nat) : Int) < 81 by omega)]
        exact q _ s1
  · rw [if_pos y] at q
    exact q _ (Same.refl _)
/-! law_word_due_0(desk, head, word): slots 0 desk, 1 head, 2 word, 3 row, 4 good -/
abbrev N_law_word_due_0 : List Str := ["desk", "head", "word", "row", "good"]
def t_law_word_due_0 (K : PySem.W.Frag) (C_Desk : Addr) (C_Growing : Addr) (er : Nat → Addr) : TS :=
  (tSeq (tIfS (tTest (tOp (Lv.rInTS K false) (tVar 1) (tTup (tCons (tC (.str (S [114, 111, 119]))) (tCons (tC (.str (S [111, 116, 104, 101, 114]))) (tCons (tC (.str (S [108, 101, 102, 116]))) (tCons (tC (.str (S [112, 108, 97, 99, 101]))) tNil))))))) (tSeq (tIfS (tNot (tB (tCall (sp_law_is_row_0 K) [] E0 (tCons (tVar 2) tNil)))) (tRet (tC (.str (S [78, 111, 67, 111, 109, 109, 97, 110, 100])))) tNext) (tRet (tIf (tAnd (tTest (tOp Lv.rEqS (tVar 1) (tC (.str (S [112, 108, 97, 99, 101]))))) (tTest (tOp Lv.rEqS (tMeth C_Desk "say" (sp_Desk_0_say K C_Desk C_Growing er) [] E0 (tVar 0) (tCons (tOp Lv.rAddS (tC (.str (S [108, 101, 102, 116, 32]))) (tVar 2)) tNil)) (tC (.str (S [110, 111])))))) (tC (.str (S [78, 111, 82, 111, 119]))) (tC (.str (S [])))))) tNext) (tSeq (tIfS (tTest (tOp Lv.rEqS (tVar 1) (tC (.str (S [112, 117, 116]))))) (tSeq (tAsg (tOp (rIxL K) (tBM K "str" Lv.rSplit1 (tMeth C_Desk "say" (sp_Desk_0_say K C_Desk C_Growing er) [] E0 (tVar 0) (tCons (tC (.str (S [115, 104, 111, 119]))) tNil)) (tCons (tC (.str (S [32]))) tNil)) (tC (.int 0))) (gName 3)) (tRet (tIf (tAnd (tTest (tOp Lv.rEqI (tCB Lv.rLenT (tCons (tVar 2) tNil)) (tC (.int 1)))) (tAnd (tB (tCall (sp_law_are_small_0 K) [] E0 (tCons (tVar 2) tNil))) (tTest (tOp Lv.rLt (tCB Lv.rLenT (tCons (tVar 3) tNil)) (tC (.int 80)))))) (tC (.str (S []))) (tC (.str (S [78, 111, 76, 101, 116, 116, 101, 114])))))) tNext) (tSeq (tAsg (tAndV (tOp Lv.rNeS (tVar 2) (tC (.str (S [])))) (tAndV (tCall (sp_law_are_small_0 K) [] E0 (tCons (tVar 2) tNil)) (tOp Lv.rEqS (tVar 2) (tBM K "str" (Lv.rJoin K) (tC (.str (S []))) (tCons (Lv.tSortSetS (tCons (tVar 2) tNil)) tNil))))) (gName 4)) (tRet (tIf (tB (tVar 4)) (tC (.str (S []))) (tC (.str (S [78, 111, 76, 101, 116, 116, 101, 114, 115]))))))))
-- needs: Q_Desk_0_say Q_law_is_row_0 Q_law_number_due_0
theorem due_row {l m h a : List Nat} (hh : h ∈ [[114, 111, 119], [111, 116, 104, 101, 114], [108, 101, 102, 116], [112, 108, 97, 99, 101]]) : (ofWordA l m h a).i = match rowIn a with | none => 1 | some r => if h = [112, 108, 97, 99, 101] ∧ ¬ r.Sublist l then 5 else 0 := by
  unfold ofWordA
  rw [if_pos hh]
  cases rowIn a with
  | none => rfl
  | some r =>
    dsimp only
    unfold ofRowA
    simp only [List.mem_cons, List.not_mem_nil, or_false] at hh
    rcases hh with rfl | rfl | rfl | rfl
    · rw [if_pos rfl, if_neg (fun y => absurd y.1 (by decide))]; rfl
    · rw [if_neg (by decide), if_pos rfl, if_neg (fun y => absurd y.1 (by decide))]; rfl
    · rw [if_neg (by decide), if_neg (by decide), if_pos rfl]
      show 0 = _
      rw [if_neg (fun y => absurd y.1 (by decide))]
    · rw [if_neg (by decide), if_neg (by decide), if_neg (by decide)]
      by_cases z : r.Sublist l
      · rw [if_pos z, if_neg (fun y => y.2 z)]; rfl
      · rw [if_neg z, if_pos ⟨rfl, z⟩]; rfl
theorem due_put {l m a : List Nat} (hl : l.length ≤ 80) : (ofWordA l m [112, 117, 116] a).i = if a.length = 1 ∧ LowB a = true ∧ l.length < 80 then 0 else 2 := by
  unfold ofWordA
  rw [if_neg (by decide), if_pos rfl]
  by_cases z : (∃ c, a = [c] ∧ 97 ≤ c ∧ c ≤ 122) ∧ l.length < 80
  · rw [if_pos z]
    obtain ⟨⟨c, rfl, h⟩, z2⟩ := z
    rw [if_pos ⟨rfl, LowB_iff.mpr (Low.one h), z2⟩]
    rfl
  · rw [if_neg z, if_neg]
    · rfl
    · rintro ⟨h1, h2, h3⟩
      obtain ⟨c, rfl⟩ := List.length_eq_one_iff.mp h1
      exact z ⟨⟨c, rfl, LowB_iff.mp h2 c (by simp)⟩, h3⟩
theorem due_lets {l m h a : List Nat} (hh : h = [115, 104, 111, 114, 116] ∨ h = [97, 114, 99, 104, 101, 115]) : (Lets a → (ofWordA l m h a).i = 0) ∧ (¬ Lets a → (ofWordA l m h a).i = 3) := by
  unfold ofWordA
  rcases hh with rfl | rfl
  · rw [if_neg (by decide), if_neg (by decide), if_neg (by decide), if_neg (by decide), if_pos rfl]
    exact ⟨fun z => by rw [if_pos z]; rfl, fun z => by rw [if_neg z]; rfl⟩
  · rw [if_neg (by decide), if_neg (by decide), if_neg (by decide), if_neg (by decide), if_neg (by decide)]
    exact ⟨fun z => by rw [if_pos z]; rfl, fun z => by rw [if_neg z]; rfl⟩
theorem rowIn_eq {a r : List Nat} (h : rowIn a = some r) : (a = [45] ∧ r = []) ∨ (a = r ∧ a ≠ []) := by
  unfold rowIn at h
  split at h
  · cases h; exact .inl ⟨by assumption, rfl⟩
  split at h
  · cases h
  split at h
  · split at h
    · cases h
    · cases h; exact .inr ⟨rfl, by assumption⟩
  · cases h
theorem rowIn_fr {a r : List Nat} (h : rowIn a = some r) : Fr32 a := by
  rcases rowIn_eq h with ⟨rfl, _⟩ | ⟨rfl, _⟩
  · unfold Fr32; decide
  · exact (rowIn_low h).1.fr
theorem rowIn_len {a r : List Nat} (h : rowIn a = some r) : a.length ≤ 80 := by
  rcases rowIn_eq h with ⟨rfl, _⟩ | ⟨rfl, _⟩
  · decide
  · exact (rowIn_low h).2
theorem say_left {l m a r : List Nat} (h : rowIn a = some r) : sayA l m ([108, 101, 102, 116] ++ 32 :: a) = .ok (if r.Sublist l then [121, 101, 115] else [110, 111]) l m := by
  rw [say_two (by unfold Fr32; decide) (rowIn_fr h) (by decide)]
  unfold ofWordA
  rw [if_pos (by decide), h]
  dsimp only
  unfold ofRowA
  rw [if_neg (by decide), if_neg (by decide), if_pos rfl]
def sp_law_word_due_0 (K : PySem.W.Frag) (C Cg : Addr) (er : Nat → Addr) : Sp := fun vs H Q _ => ∃ (x g : Addr) (l m h a : List Nat), vs = [.ref x, .str (S h), .str (S a)] ∧ DkAt C Cg H x g l m ∧ a.length ≤ 1000 ∧ Chr a ∧ h ∈ [[114, 111, 119], [111, 116, 104, 101, 114], [108, 101, 102, 116], [112, 108, 97, 99, 101], [112, 117, 116], [115, 104, 111, 114, 116], [97, 114, 99, 104, 101, 115]] ∧
  ∀ g' H', Kp x g g' H H' → DkAt C Cg H' x g' l m → Q (.str (S (erN (ofWordA l m h a).i))) H'
theorem pure_law_word_due_0 {K : PySem.W.Frag} {C Cg : Addr} {er : Nat → Addr} (Z : Kl K C ["grown", "beside"]) (Y : Kl K Cg ["letters"]) (vs : List V) (H : Hp) (Q : VK) (E : XK) (h : sp_law_word_due_0 K C Cg er vs H Q E) : t_law_word_due_0 K C Cg er { nx := fun _ H' => Q .non H', rt := Q } (start N_law_word_due_0 vs) H := by
  obtain ⟨x, g, l, m, h, a, rfl, hd, la, ch, hh, q⟩ := h
  have l80 := hd.l80
  have lw := hd.low
  unfold t_law_word_due_0
  tm_at "v"
  intro tp H1 n1 s1 h1
  have hd1 := hd.same s1
  have q1 : ∀ g' H', Kp x g g' H1 H' → DkAt C Cg H' x g' l m → Q (.str (S (erN (ofWordA l m h a).i))) H' := fun g' H' k d => q g' H' (Kp.ahead s1 k) d
  refine i_inTS (ns := [[114, 111, 119], [111, 116, 104, 101, 114], [108, 101, 102, 116], [112, 108, 97, 99, 101]]) (SqT.of1 h1) ?_
  tm_at "v"
  refine if_dec (fun z => ?_) (fun z => ?_)
  · rw [due_row z] at q1
    tm_at "v"
    refine i_law_is_row_0 (by omega) ch fun H2 s2 => ?_
    have hd2 := hd1.same s2
    tm_at "v"
    cases e : rowIn a with
    | none =>
      simp only [e] at q1
      rw [show (none : Option (List Nat)).isSome = false from rfl]
      tm_at "v"
      exact q1 g H2 (Kp.same s2) hd2
    | some r =>
      simp only [e] at q1
      rw [show (some r).isSome = true from rfl]
      tm_at "v"
      refine if_dec (fun y => ?_) (fun y => ?_)
      · tm_at "v"
        refine dk_me hd2 (by decide +kernel) (by decide +kernel) ?_
        have al := rowIn_len e
        tm_at "v"
        refine i_say hd2 (SayW.of (by simp; omega) (by
          intro c hc
          rcases List.mem_append.mp hc with z | z
          · have : ∀ c ∈ [108, 101, 102, 116, 32], c < 1114112 := by decide
            exact this c z
          · exact ch c z)) (show sayA l m ([108, 101, 102, 116, 32] ++ a) = _ from say_left e) fun g3 H3 k3 hd3 => ?_
        have f := q1 g3 H3 (Kp.ahead s2 k3) hd3
        tm_at "v"
        by_cases w : r.Sublist l
        · rw [if_neg (fun v => v.2 w)] at f
          rw [if_pos w]
          refine if_no (by decide) ?_
          tm_at "v"
          exact f
        · rw [if_pos ⟨y, w⟩] at f
          rw [if_neg w]
          refine if_yes (by decide) ?_
          tm_at "v"
          exact f
      · tm_at "v"
        have f := q1 g H2 (Kp.same s2) hd2
        rw [if_neg (fun v => y v.1)] at f
        exact f
  tm_at "v"
  refine if_dec (fun y => ?_) (fun y => ?_)
  · subst y
    rw [due_put l80] at q1
    tm_at "v"
    refine dk_me hd1 (by decide +kernel) (by decide +kernel) ?_
    tm_at "v"
    refine i_say hd1 (sayW_s (by decide) (by decide)) say_show fun g3 H3 k3 hd3 => ?_
    have a1 := shn1_len l80 (by decide)
    have a2 := shn1_len hd1.2.2.2 (by decide)
    tm_at "v"
    refine v_split1 (by simp; omega) fun P H4 n4 s4 h4 => ?_
    have ew : wds (shn1 l ++ [32] ++ shn1 m) = [shn1 l, shn1 m] := by
      rw [List.append_assoc]
      show wds (shn1 l ++ 32 :: shn1 m) = _
      rw [wds_head (shn1_fr lw), wds_free (shn1_fr hd1.2.2.1)]
    rw [ew] at h4
    have f := q1 g3 H4 (k3.then s4) (hd3.same s4)
    tm_at "v"
    try (refine i_ixL (v := .str (S (shn1 l))) (SqL.of1 h4) (atI_nat (j := 0) rfl) ?_; tm_at "v")
    by_cases e1 : a.length = 1
    · refine if_yes (by omega) ?_
      tm_at "v"
      refine i_law_are_small_0 (by omega) ch fun H5 s5 => ?_
      have f := q1 g3 H5 ((k3.then s4).then s5) ((hd3.same s4).same s5)
      cases e2 : LowB a with
      | false =>
        rw [if_neg (fun v => by rw [e2] at v; cases v.2.1)] at f
        tm_at "v"
        exact f
      | true =>
        tm_at "v"
        have e3 : (shn1 l).length < 80 ↔ l.length < 80 := by
          unfold shn1
          by_cases w : l = []
          · rw [if_pos w, w]; simp
          · rw [if_neg w]
        by_cases e4 : l.length < 80
        · rw [if_pos ⟨e1, e2, e4⟩] at f
          refine if_yes (by have := e3.mpr e4; omega) ?_
          tm_at "v"
          exact f
        · rw [if_neg (fun v => e4 v.2.2)] at f
          refine if_no (fun v => e4 (e3.mp (by omega))) ?_
          tm_at "v"
          exact f
    · rw [if_neg (fun v => e1 v.1)] at f
      refine if_no (by omega) ?_
      tm_at "v"
      exact f
  have hl : h = [115, 104, 111, 114, 116] ∨ h = [97, 114, 99, 104, 101, 115] := by
    simp only [List.mem_cons, List.not_mem_nil, or_false] at hh z
    rcases hh with r | r | r | r | r | r | r
    · exact absurd (.inl r) z
    · exact absurd (.inr (.inl r)) z
    · exact absurd (.inr (.inr (.inl r))) z
    · exact absurd (.inr (.inr (.inr r))) z
    · exact absurd r y
    · exact .inl r
    · exact .inr r
  obtain ⟨dl1, dl2⟩ := due_lets (l := l) (m := m) (a := a) hl
  have yes : Lets a → ∀ H', Same H1 H' → Q (.str (S [])) H' := fun lt H' s => by
    have f := q1 g H' (Kp.same s) (hd1.same s)
    rw [dl1 lt] at f
    exact f
  have no : ¬ Lets a → ∀ H', Same H1 H' → Q (.str (S [78, 111, 76, 101, 116, 116, 101, 114, 115])) H' := fun lt H' s => by
    have f := q1 g H' (Kp.same s) (hd1.same s)
    rw [dl2 lt] at f
    exact f
  tm_at "v"
  refine if_ndec (fun w => ?_) (fun w => ?_)
  · tm_at "v"
    refine i_law_are_small_0 (by omega) ch fun H2 s2 => ?_
    cases e : LowB a with
    | false =>
      tm_at "v"
      exact no (fun v => by rw [LowB_iff.mpr v.2.1] at e; cases e) _ s2
    | true =>
      have low := LowB_iff.mp e
      tm_at "v"
      refine v_sortSK (by omega) fun ys p3 H3 up hm n3 s3 h3 => ?_
      have yl : ys.length ≤ 26 := nodup_len ys abc (up.imp fun h => Nat.ne_of_lt h) fun c hc => abc_mem (low c ((hm c).mp hc))
      tm_at "v"
      refine i_joinC (SqL.of1 h3) (by omega) ?_
      tm_at "v"
      by_cases v : a = ys
      · rw [decide_eq_true v]
        tm_at "v"
        exact yes ⟨w, low, by rw [v]; exact up⟩ _ (s2.trans s3)
      · rw [decide_eq_false v]
        tm_at "v"
        exact no (fun lt => v (lt_ext_nat lt.2.2 up fun c => (hm c).symm)) _ (s2.trans s3)
  · tm_at "v"
    exact no (fun lt => lt.1 w) _ (Same.refl _)
/-! law_due_7(desk, words): slots 0 desk, 1 words, 2 told -/
abbrev N_law_due_7 : List Str := ["desk", "words", "told"]
def t_law_due_7 (K : PySem.W.Frag) (C_Desk : Addr) (C_Growing : Addr) (er : Nat → Addr) : TS :=
  (tSeq (tIfS (tTest (tOp (Lv.rInTS K false) (tVar 1) (tTup (tCons (tC (.str (S [117, 110, 100, 111]))) (tCons (tC (.str (S [115, 104, 111, 119]))) (tCons (tC (.str (S [109, 97, 110, 121]))) (tCons (tC (.str (S [108, 101, 110, 103, 116, 104, 115]))) (tCons (tC (.str (S [119, 97, 121, 115]))) (tCons (tC (.str (S [99, 111, 109, 109, 111, 110]))) (tCons (tC (.str (S [112, 97, 114, 116, 115]))) tNil)))))))))) (tRet (tC (.str (S [])))) tNext) (tSeq (tAsg (tBM K "str" Lv.rSplit1 (tVar 1) (tCons (tC (.str (S [32]))) tNil)) (gName 2)) (tSeq (tIfS (tAnd (tTest (tOp Lv.rEqS (tOp (rIxL K) (tVar 2) (tC (.int 0))) (tC (.str (S [108, 111, 110, 103]))))) (tTest (tOp Lv.rEqI (tCB (Lv.rLenL K) (tCons (tVar 2) tNil)) (tC (.int 3))))) (tRet (tCall (sp_law_number_due_0 K C_Desk C_Growing er) [] E0 (tCons (tVar 0) (tCons (tC (.str (S [108, 111, 110, 103]))) (tCons (tSl (rSlL K) (tVar 2) (tPart (tC (.int 1))) tNoPart) tNil))))) tNext) (tSeq (tIfS (tTest (tOp Lv.rNeI (tCB (Lv.rLenL K) (tCons (tVar 2) tNil)) (tC (.int 2)))) (tRet (tC (.str (S [78, 111, 67, 111, 109, 109, 97, 110, 100])))) tNext) (tSeq (tIfS (tTest (tOp (Lv.rInTS K false) (tOp (rIxL K) (tVar 2) (tC (.int 0))) (tTup (tCons (tC (.str (S [97, 116]))) (tCons (tC (.str (S [119, 97, 121]))) tNil))))) (tRet (tCall (sp_law_number_due_0 K C_Desk C_Growing er) [] E0 (tCons (tVar 0) (tCons (tOp (rIxL K) (tVar 2) (tC (.int 0))) (tCons (tSl (rSlL K) (tVar 2) (tPart (tC (.int 1))) tNoPart) tNil))))) tNext) (tSeq (tIfS (tTest (tOp (Lv.rInTS K true) (tOp (rIxL K) (tVar 2) (tC (.int 0))) (tTup (tCons (tC (.str (S [114, 111, 119]))) (tCons (tC (.str (S [111, 116, 104, 101, 114]))) (tCons (tC (.str (S [108, 101, 102, 116]))) (tCons (tC (.str (S [112, 108, 97, 99, 101]))) (tCons (tC (.str (S [112, 117, 116]))) (tCons (tC (.str (S [115, 104, 111, 114, 116]))) (tCons (tC (.str (S [97, 114, 99, 104, 101, 115]))) tNil)))))))))) (tRet (tC (.str (S [78, 111, 67, 111, 109, 109, 97, 110, 100])))) tNext) (tRet (tCall (sp_law_word_due_0 K C_Desk C_Growing er) [] E0 (tCons (tVar 0) (tCons (tOp (rIxL K) (tVar 2) (tC (.int 0))) (tCons (tOp (rIxL K) (tVar 2) (tC (.int 1))) tNil)))))))))))
-- needs: Q_Desk_0_say Q_law_word_due_0
def cmds : List (List Nat) := [[117, 110, 100, 111], [115, 104, 111, 119], [109, 97, 110, 121], [108, 101, 110, 103, 116, 104, 115], [119, 97, 121, 115], [99, 111, 109, 109, 111, 110], [112, 97, 114, 116, 115]]
theorem due_cmd {l m w : List Nat} (h : w ∈ cmds) : (sayA l m w).i = 0 := by
  unfold cmds at h
  simp only [List.mem_cons, List.not_mem_nil, or_false] at h
  rcases h with rfl | rfl | rfl | rfl | rfl | rfl | rfl
  · rw [say_undo]; rfl
  · rw [say_show]; rfl
  · rw [say_many]; rfl
  · rw [say_lengths]; rfl
  · rw [say_ways]; rfl
  · rw [say_common]; rfl
  · rw [say_parts]; rfl
theorem alone_no {l m w : List Nat} (h : w ∉ cmds) : aloneA l m w = none := by
  unfold cmds at h
  simp only [List.mem_cons, List.not_mem_nil, or_false, not_or] at h
  obtain ⟨h1, h2, h3, h4, h5, h6, h7⟩ := h
  unfold aloneA
  rw [if_neg h1, if_neg h2, if_neg h3, if_neg h4, if_neg h5, if_neg h6, if_neg h7]
def sp_law_due_7 (K : PySem.W.Frag) (C Cg : Addr) (er : Nat → Addr) : Sp := fun vs H Q _ => ∃ (x g : Addr) (l m w : List Nat), vs = [.ref x, .str (S w)] ∧ DkAt C Cg H x g l m ∧ w.length ≤ 1000 ∧ Chr w ∧ ∀ g' H', Kp x g g' H H' → DkAt C Cg H' x g' l m → Q (.str (S (erN (sayA l m w).i))) H'
theorem i_law_due_7 {K : PySem.W.Frag} {C Cg : Addr} {er : Nat → Addr} {x g : Addr} {l m w : List Nat} {H : Hp} {Q : VK} {E : XK} (hd : DkAt C Cg H x g l m) (hl : w.length ≤ 1000) (ch : Chr w) (q : ∀ g' H', Kp x g g' H H' → DkAt C Cg H' x g' l m → Q (.str (S (erN (sayA l m w).i))) H') : sp_law_due_7 K C Cg er [.ref x, .str (S w)] H Q E := ⟨x, g, l, m, w, rfl, hd, hl, ch, q⟩
theorem pure_law_due_7 {K : PySem.W.Frag} {C Cg : Addr} {er : Nat → Addr} (Z : Kl K C ["grown", "beside"]) (Y : Kl K Cg ["letters"]) (vs : List V) (H : Hp) (Q : VK) (E : XK) (h : sp_law_due_7 K C Cg er vs H Q E) : t_law_due_7 K C Cg er { nx := fun _ H' => Q .non H', rt := Q } (start N_law_due_7 vs) H := by
  obtain ⟨x, g, l, m, w, rfl, hd, hl, ch, q⟩ := h
  unfold t_law_due_7
  tm_at "v"
  intro tp H1 n1 s1 h1
  have hd1 := hd.same s1
  refine i_inTS (ns := cmds) (SqT.of1 h1) ?_
  tm_at "v"
  refine if_dec (fun z => ?_) (fun z => ?_)
  · tm_at "v"
    have f := q g H1 (Kp.same s1) hd1
    rw [due_cmd z] at f
    exact f
  tm_at "v"
  refine v_split1 (by omega) fun p H2 n2 s2 h2 => ?_
  have S2 := s1.trans s2
  have hd2 := hd.same S2
  obtain ⟨h0, t, e⟩ := wds_ne w
  have len := fun u (hu : u ∈ wds w) => wds_le hu
  have chw := fun u (hu : u ∈ wds w) => wds_chr hu ch
  have wll := wds_len w
  have q2 : ∀ g' H', Kp x g g' H2 H' → DkAt C Cg H' x g' l m → Q (.str (S (erN (sayA l m w).i))) H' := fun g' H' k d => q g' H' (Kp.ahead S2 k) d
  unfold sayA at q2
  rw [e] at h2 q2 len chw wll
  have ix0 : atI ((h0 :: t).map vs) 0 = some (.str (S h0)) := atI_nat (j := 0) rfl
  tm_at "v"
  try (refine i_ixL (SqL.of1 h2) ix0 ?_; tm_at "v")
  rcases t with _ | ⟨a, _ | ⟨b, _ | ⟨c, u⟩⟩⟩ <;> dsimp only at q2
  · simp only [alone_no z] at q2
    have f := q2 g H2 (Kp.refl _ _ _) hd2
    refine if_dec (fun z => ?_) (fun z => ?_)
    · tm_at "v"
      refine i_lenL (SqL.of1 h2) ?_
      rw [List.length_map]
      tm_at "v"
      refine if_no (by simp) ?_
      tm_at "v"
      refine i_lenL (SqL.of1 h2) ?_
      rw [List.length_map]
      tm_at "v"
      refine if_ndec (fun _ => ?_) (fun y => absurd y (by simp))
      tm_at "v"
      exact f
    · tm_at "v"
      refine i_lenL (SqL.of1 h2) ?_
      rw [List.length_map]
      tm_at "v"
      refine if_ndec (fun _ => ?_) (fun y => absurd y (by simp))
      tm_at "v"
      exact f
  · have la := len a (by simp)
    have ca := chw a (by simp)
    have go : (tSeq (tIfS (tTest (tOp Lv.rNeI (tCB (Lv.rLenL K) (tCons (tVar 2) tNil)) (tC (.int 2)))) (tRet (tC (.str (S [78, 111, 67, 111, 109, 109, 97, 110, 100])))) tNext) (tSeq (tIfS (tTest (tOp (Lv.rInTS K false) (tOp (rIxL K) (tVar 2) (tC (.int 0))) (tTup (tCons (tC (.str (S [97, 116]))) (tCons (tC (.str (S [119, 97, 121]))) tNil))))) (tRet (tCall (sp_law_number_due_0 K C Cg er) [] E0 (tCons (tVar 0) (tCons (tOp (rIxL K) (tVar 2) (tC (.int 0))) (tCons (tSl (rSlL K) (tVar 2) (tPart (tC (.int 1))) tNoPart) tNil))))) tNext) (tSeq (tIfS (tTest (tOp (Lv.rInTS K true) (tOp (rIxL K) (tVar 2) (tC (.int 0))) (tTup (tCons (tC (.str (S [114, 111, 119]))) (tCons (tC (.str (S [111, 116, 104, 101, 114]))) (tCons (tC (.str (S [108, 101, 102, 116]))) (tCons (tC (.str (S [112, 108, 97, 99, 101]))) (tCons (tC (.str (S [112, 117, 116]))) (tCons (tC (.str (S [115, 104, 111, 114, 116]))) (tCons (tC (.str (S [97, 114, 99, 104, 101, 115]))) tNil)))))))))) (tRet (tC (.str (S [78, 111, 67, 111, 109, 109, 97, 110, 100])))) tNext) (tRet (tCall (sp_law_word_due_0 K C Cg er) [] E0 (tCons (tVar 0) (tCons (tOp (rIxL K) (tVar 2) (tC (.int 0))) (tCons (tOp (rIxL K) (tVar 2) (tC (.int 1))) tNil)))))))) { nx := fun _ H' => Q .non H', rt := Q } [some (.ref x), some (.str (S w)), some (.ref p)] H2 := by
      tm_at "v"
      refine i_lenL (SqL.of1 h2) ?_
      rw [List.length_map]
      tm_at "v"
      refine if_ndec (fun y => absurd (by simp) y) (fun _ => ?_)
      tm_at "v"
      try (refine i_ixL (SqL.of1 h2) ix0 ?_; tm_at "v")
      intro t3 H3 n3 s3 h3
      have hd3 := hd2.same s3
      refine i_inTS (ns := [[97, 116], [119, 97, 121]]) (SqT.of1 h3) ?_
      tm_at "v"
      refine if_dec (fun y => ?_) (fun y => ?_)
      · tm_at "v"
        try (refine i_ixL (SqL.of1 (s3 _ _ h2)) ix0 ?_; tm_at "v")
        refine v_slL (SqL.of1 (s3 _ _ h2)) fun p4 H4 n4 s4 h4 => ?_
        rw [show cutV ([h0, a].map vs) (some 1) none = [a].map vs from cutL_from ([h0, a].map vs) 1] at h4
        tm_at "v"
        have S4 := s3.trans s4
        have hm : h0 ∈ [[114, 111, 119], [111, 116, 104, 101, 114], [112, 117, 116], [108, 101, 102, 116], [97, 116], [112, 108, 97, 99, 101], [119, 97, 121], [115, 104, 111, 114, 116], [97, 114, 99, 104, 101, 115]] := by
          simp only [List.mem_cons, List.not_mem_nil, or_false] at y ⊢
          rcases y with rfl | rfl <;> simp
        rw [if_pos hm] at q2
        refine ⟨x, g, p4, l, m, h0, [a], rfl, hd2.same S4, h4, fun u hu => ?_, ?_, fun g' H' k d => ?_⟩
        · rw [List.mem_singleton.mp hu]
          exact ⟨by omega, ca⟩
        · simp only [List.mem_cons, List.not_mem_nil, or_false] at y
          rcases y with rfl | rfl
          · exact .inl ⟨rfl, a, rfl⟩
          · exact .inr (.inl ⟨rfl, a, rfl⟩)
        · have f := q2 g' H' (Kp.ahead S4 k) d
          simp only [List.mem_cons, List.not_mem_nil, or_false] at y
          rcases y with rfl | rfl
          · rw [due_at] at f; exact f
          · rw [due_way] at f; exact f
      · tm_at "v"
        try (refine i_ixL (SqL.of1 (s3 _ _ h2)) ix0 ?_; tm_at "v")
        intro t4 H4 n4 s4 h4
        have S4 := s3.trans s4
        refine i_notInTS (ns := [[114, 111, 119], [111, 116, 104, 101, 114], [108, 101, 102, 116], [112, 108, 97, 99, 101], [112, 117, 116], [115, 104, 111, 114, 116], [97, 114, 99, 104, 101, 115]]) (SqT.of1 h4) ?_
        tm_at "v"
        refine if_ndec (fun v => ?_) (fun v => ?_)
        · have hm : h0 ∉ [[114, 111, 119], [111, 116, 104, 101, 114], [112, 117, 116], [108, 101, 102, 116], [97, 116], [112, 108, 97, 99, 101], [119, 97, 121], [115, 104, 111, 114, 116], [97, 114, 99, 104, 101, 115]] := by
            intro z
            simp only [List.mem_cons, List.not_mem_nil, or_false, not_or] at z v y
            obtain ⟨v1, v2, v3, v4, v5, v6, v7⟩ := v
            rcases z with r | r | r | r | r | r | r | r | r
            · exact v1 r
            · exact v2 r
            · exact v5 r
            · exact v3 r
            · exact y.1 r
            · exact v4 r
            · exact y.2 r
            · exact v6 r
            · exact v7 r
          rw [if_neg hm] at q2
          tm_at "v"
          exact q2 g H4 (Kp.same S4) (hd2.same S4)
        · have hm : h0 ∈ [[114, 111, 119], [111, 116, 104, 101, 114], [112, 117, 116], [108, 101, 102, 116], [97, 116], [112, 108, 97, 99, 101], [119, 97, 121], [115, 104, 111, 114, 116], [97, 114, 99, 104, 101, 115]] := by
            simp only [List.mem_cons, List.not_mem_nil, or_false] at v ⊢
            rcases v with r | r | r | r | r | r | r
            · exact .inl r
            · exact .inr (.inl r)
            · exact .inr (.inr (.inr (.inl r)))
            · exact .inr (.inr (.inr (.inr (.inr (.inl r)))))
            · exact .inr (.inr (.inl r))
            · exact .inr (.inr (.inr (.inr (.inr (.inr (.inr (.inl r)))))))
            · exact .inr (.inr (.inr (.inr (.inr (.inr (.inr (.inr r)))))))
          rw [if_pos hm] at q2
          tm_at "v"
          try (refine i_ixL (SqL.of1 (S4 _ _ h2)) ix0 ?_; tm_at "v")
          try (refine i_ixL (v := .str (S a)) (SqL.of1 (S4 _ _ h2)) (atI_nat (j := 1) rfl) ?_; tm_at "v")
          exact ⟨x, g, l, m, h0, a, rfl, hd2.same S4, by omega, ca, v, fun g' H' k d => q2 g' H' (Kp.ahead S4 k) d⟩
    refine if_dec (fun z => ?_) (fun z => ?_)
    · tm_at "v"
      refine i_lenL (SqL.of1 h2) ?_
      rw [List.length_map]
      tm_at "v"
      refine if_no (by simp) ?_
      exact go
    · exact go
  · have la := len a (by simp)
    have ca := chw a (by simp)
    have lb := len b (by simp)
    have cb := chw b (by simp)
    refine if_dec (fun z => ?_) (fun z => ?_)
    · rw [if_pos z] at q2
      tm_at "v"
      refine i_lenL (SqL.of1 h2) ?_
      rw [List.length_map]
      tm_at "v"
      refine if_yes (by simp) ?_
      tm_at "v"
      refine v_slL (SqL.of1 h2) fun p4 H4 n4 s4 h4 => ?_
      rw [show cutV ([h0, a, b].map vs) (some 1) none = [a, b].map vs from cutL_from ([h0, a, b].map vs) 1] at h4
      tm_at "v"
      refine ⟨x, g, p4, l, m, [108, 111, 110, 103], [a, b], rfl, hd2.same s4, h4, fun u hu => ?_, .inr (.inr ⟨rfl, a, b, rfl⟩), fun g' H' k d => ?_⟩
      · simp only [List.mem_cons, List.not_mem_nil, or_false] at hu
        rcases hu with rfl | rfl
        · exact ⟨by omega, ca⟩
        · exact ⟨by omega, cb⟩
      · have f := q2 g' H' (Kp.ahead s4 k) d
        have ed := due_long (l := l) (m := m) (h := [108, 111, 110, 103]) (a := a) (b := b)
        rw [← ed]
        exact f
    · rw [if_neg z] at q2
      tm_at "v"
      refine i_lenL (SqL.of1 h2) ?_
      rw [List.length_map]
      tm_at "v"
      refine if_ndec (fun _ => ?_) (fun y => absurd y (by simp))
      tm_at "v"
      exact q2 g H2 (Kp.refl _ _ _) hd2
  · have f := q2 g H2 (Kp.refl _ _ _) hd2
    refine if_dec (fun z => ?_) (fun z => ?_)
    · tm_at "v"
      refine i_lenL (SqL.of1 h2) ?_
      rw [List.length_map]
      tm_at "v"
      refine if_no (by simp; omega) ?_
      tm_at "v"
      refine i_lenL (SqL.of1 h2) ?_
      rw [List.length_map]
      tm_at "v"
      refine if_ndec (fun _ => ?_) (fun y => absurd y (by simp; omega))
      tm_at "v"
      exact f
    · tm_at "v"
      refine i_lenL (SqL.of1 h2) ?_
      rw [List.length_map]
      tm_at "v"
      refine if_ndec (fun _ => ?_) (fun y => absurd y (by simp; omega))
      tm_at "v"
      exact f
/-! law_met_0(desk, words, due): slots 0 desk, 1 words, 2 due, 3 answer, 4 kinds, 5 other, 6 e, 7 dues, 8 word -/
abbrev N_law_met_0 : List Str := ["desk", "words", "due", "answer", "kinds", "other", "e", "dues", "word"]
def t_law_met_0 (K : PySem.W.Frag) (C_Desk : Addr) (C_Growing : Addr) (er : Nat → Addr) : TS :=
  (tSeq (tAsg (tC .non) (gName 3)) (tSeq (tAsg (tLst tNil) (gName 4)) (tSeq (tAsg (tC (.bl false)) (gName 5)) (tSeq (Lv.tTryAx K (.ref (er 0)) 6 (fun W => (tAsg (Lv.tMethT C_Desk "say" (sp_Desk_0_say K C_Desk C_Growing er) W (tVar 0) (tCons (tVar 1) tNil)) (gName 3))) (tSeq (tAsg (tLst (tCons (tCB (Lv.rIs1 K) (tCons (tVar 6) (tCons (tC (.ref (er 1))) tNil))) (tCons (tCB (Lv.rIs1 K) (tCons (tVar 6) (tCons (tC (.ref (er 2))) tNil))) (tCons (tCB (Lv.rIs1 K) (tCons (tVar 6) (tCons (tC (.ref (er 3))) tNil))) tNil)))) (gName 4)) (tSeq (tAsg (tOp L2.rCat (tVar 4) (tLst (tCons (tCB (Lv.rIs1 K) (tCons (tVar 6) (tCons (tC (.ref (er 4))) tNil))) (tCons (tCB (Lv.rIs1 K) (tCons (tVar 6) (tCons (tC (.ref (er 5))) tNil))) tNil)))) (gName 4)) (tAsg (tOrV (tCB (Lv.rIs1 K) (tCons (tVar 6) (tCons (tC (.ref (er 6))) tNil))) (tNotV (tCB (Lv.rIs1 K) (tCons (tVar 6) (tCons (tC (.ty "ValueError")) tNil))))) (gName 5))))) (tSeq (tIfS (tTest (tOp (Lv.rEqLB K) (tVar 4) (tLst tNil))) (tRet (tAndV (tOp Lv.rEqS (tVar 2) (tC (.str (S [])))) (tCB (Lv.rIs1 K) (tCons (tVar 3) (tCons (tC (.ty "str")) tNil))))) tNext) (tSeq (tAsg (tLc (iList K (tLst (tCons (tC (.str (S [78, 111, 67, 111, 109, 109, 97, 110, 100]))) (tCons (tC (.str (S [78, 111, 76, 101, 116, 116, 101, 114]))) (tCons (tC (.str (S [78, 111, 76, 101, 116, 116, 101, 114, 115]))) (tCons (tC (.str (S [78, 111, 80, 108, 97, 99, 101]))) (tCons (tC (.str (S [78, 111, 82, 111, 119]))) tNil))))))) (gName 8) tYes (tOp Lv.rEqS (tVar 8) (tVar 2)) [8]) (gName 7)) (tRet (tAndV (tNotV (tVar 5)) (tOp (Lv.rEqLB K) (tVar 4) (tVar 7))))))))))
-- needs: Q_Desk_0_say
/-- what a desk is told: the row and the other one behind it, which refusal -/
def MetR (C Cg : Addr) (x g : Addr) (l m : List Nat) (H : Hp) (R : Res) (k : Addr → Hp → Prop) : Prop := (∀ a l' m', R = .ok a l' m' → ∀ g' H', Kp x g g' H H' → DkAt C Cg H' x g' l' m' → k g' H') ∧ (∀ i, R = .er i → ∀ H', Same H H' → k g H')
def sp_law_met_0 (K : PySem.W.Frag) (C Cg : Addr) (er : Nat → Addr) : Sp := fun vs H Q _ => ∃ (x g : Addr) (l m : List Nat) (y : V) (R : Res), vs = [.ref x, y, .str (S (erN R.i))] ∧ DkAt C Cg H x g l m ∧ ((∃ w, y = .str (S w) ∧ SayW w ∧ R = sayA l m w) ∨ (Kd K H y "str" false ∧ R = .er 1)) ∧ (∀ i, R = .er i → 1 ≤ i ∧ i ≤ 5) ∧ MetR C Cg x g l m H R (fun _ H' => Q (.bl true) H')
theorem i_r2Bs {K : PySem.W.Frag} {g : List Bool → List Bool → Bool} {p r : Addr} {as bs : List Bool} {H : Hp} {Q : VK} (h1 : SqL K H p (as.map V.bl)) (h2 : SqL K H r (bs.map V.bl)) (q : Q (.bl (g as bs)) H) : r2LB K g (.ref p) (.ref r) H Q := ⟨p, r, as, bs, rfl, rfl, h1, h2, q⟩
theorem i_methT {C : Addr} {m : Str} {sp : Sp} {W : WX} {ta : TE} {t : TA} {σ : L2.St} {H : Hp} {Q : VK} (h : ta σ H fun x H1 => rMe C m x H1 (t σ H1 fun vs H2 => sp (x :: vs) H2 Q (WE W σ))) : tMethT C m sp W ta t σ H Q := h
theorem Res.cs (R : Res) : (∃ a l m, R = .ok a l m) ∨ ∃ i, R = .er i := by
  cases R with
  | ok a l m => exact .inl ⟨a, l, m, rfl⟩
  | er i => exact .inr ⟨i, rfl⟩
theorem sayA_er {l m w : List Nat} {i : Nat} (h : sayA l m w = .er i) : 1 ≤ i ∧ i ≤ 5 := by
  have row : ∀ hd r, ofRowA l m hd r = .er i → 1 ≤ i ∧ i ≤ 5 := fun hd r h => by
    unfold ofRowA at h
    repeat' split at h
    all_goals cases h
    all_goals decide
  have word : ∀ hd a, ofWordA l m hd a = .er i → 1 ≤ i ∧ i ≤ 5 := fun hd a h => by
    unfold ofWordA at h
    split at h
    · split at h
      · cases h; decide
      · exact row _ _ h
    repeat' split at h
    all_goals cases h
    all_goals decide
  unfold sayA at h
  split at h
  · split at h
    · cases h; decide
    · cases h
  · split at h
    · exact word _ _ h
    · cases h; decide
  · split at h
    · split at h
      · repeat' split at h
        all_goals cases h
        all_goals decide
      · cases h; decide
    · cases h; decide
  · cases h; decide
theorem i_law_met {K : PySem.W.Frag} {C Cg : Addr} {er : Nat → Addr} {x g : Addr} {l m w : List Nat} {H : Hp} {Q : VK} {E : XK} {due : List Nat} (hd : DkAt C Cg H x g l m) (sw : SayW w) (ed : due = erN (sayA l m w).i)
  (q1 : ∀ a l' m', sayA l m w = .ok a l' m' → ∀ g' H', Kp x g g' H H' → DkAt C Cg H' x g' l' m' → Q (.bl true) H') (q2 : ∀ i, sayA l m w = .er i → ∀ H', Same H H' → Q (.bl true) H') : sp_law_met_0 K C Cg er [.ref x, .str (S w), .str (S due)] H Q E := by
  subst ed
  exact ⟨x, g, l, m, _, _, rfl, hd, .inl ⟨w, rfl, sw, rfl⟩, fun i e => sayA_er e, q1, q2⟩
theorem i_law_met_odd {K : PySem.W.Frag} {C Cg : Addr} {er : Nat → Addr} {x g : Addr} {l m : List Nat} {y : V} {H : Hp} {Q : VK} {E : XK} (hd : DkAt C Cg H x g l m) (hy : Kd K H y "str" false) (q : ∀ H', Same H H' → Q (.bl true) H') : sp_law_met_0 K C Cg er [.ref x, y, .str (S [78, 111, 67, 111, 109, 109, 97, 110, 100])] H Q E :=
  ⟨x, g, l, m, _, .er 1, rfl, hd, .inr ⟨hy, rfl⟩, (fun i e => by cases e; decide), (fun _ _ _ e => by cases e), fun i e H' s => q H' s⟩
theorem pure_law_met_0 {K : PySem.W.Frag} {C Cg : Addr} {er : Nat → Addr} (Z : Kl K C ["grown", "beside"]) (Y : Kl K Cg ["letters"]) (Z1 : ErrC K er 1) (Z2 : ErrC K er 2) (Z3 : ErrC K er 3) (Z4 : ErrC K er 4) (Z5 : ErrC K er 5) (vs : List V) (H : Hp) (Q : VK) (E : XK) (h : sp_law_met_0 K C Cg er vs H Q E) : t_law_met_0 K C Cg er { nx := fun _ H' => Q .non H', rt := Q } (start N_law_met_0 vs) H := by
  obtain ⟨x, g, l, m, y, R, rfl, hd, hy, hi, q1, q2⟩ := h
  unfold t_law_met_0
  tm_at "v"
  intro p1 H1 n1 s1 h1
  have hd1 := hd.same s1
  have bad : ∀ i, R = .er i → ∀ H2, Same H1 H2 → wAx K (.ref (er 0)) 6 (tSeq (tAsg (tLst (tCons (tCB (Lv.rIs1 K) (tCons (tVar 6) (tCons (tC (.ref (er 1))) tNil))) (tCons (tCB (Lv.rIs1 K) (tCons (tVar 6) (tCons (tC (.ref (er 2))) tNil))) (tCons (tCB (Lv.rIs1 K) (tCons (tVar 6) (tCons (tC (.ref (er 3))) tNil))) tNil)))) (gName 4)) (tSeq (tAsg (tOp L2.rCat (tVar 4) (tLst (tCons (tCB (Lv.rIs1 K) (tCons (tVar 6) (tCons (tC (.ref (er 4))) tNil))) (tCons (tCB (Lv.rIs1 K) (tCons (tVar 6) (tCons (tC (.ref (er 5))) tNil))) tNil)))) (gName 4)) (tAsg (tOrV (tCB (Lv.rIs1 K) (tCons (tVar 6) (tCons (tC (.ref (er 6))) tNil))) (tNotV (tCB (Lv.rIs1 K) (tCons (tVar 6) (tCons (tC (.ty "ValueError")) tNil))))) (gName 5))))
      { nx := tSeq (tIfS (tTest (tOp (Lv.rEqLB K) (tVar 4) (tLst tNil))) (tRet (tAndV (tOp Lv.rEqS (tVar 2) (tC (.str (S [])))) (tCB (Lv.rIs1 K) (tCons (tVar 3) (tCons (tC (.ty "str")) tNil))))) tNext) (tSeq (tAsg (tLc (iList K (tLst (tCons (tC (.str (S [78, 111, 67, 111, 109, 109, 97, 110, 100]))) (tCons (tC (.str (S [78, 111, 76, 101, 116, 116, 101, 114]))) (tCons (tC (.str (S [78, 111, 76, 101, 116, 116, 101, 114, 115]))) (tCons (tC (.str (S [78, 111, 80, 108, 97, 99, 101]))) (tCons (tC (.str (S [78, 111, 82, 111, 119]))) tNil))))))) (gName 8) tYes (tOp Lv.rEqS (tVar 8) (tVar 2)) [8]) (gName 7)) (tRet (tAndV (tNotV (tVar 5)) (tOp (Lv.rEqLB K) (tVar 4) (tVar 7))))) { nx := fun _ H' => Q .non H', rt := Q }, rt := Q } (.ref (er i)) none [some (.ref x), some y, some (.str (S (erN R.i))), some .non, some (.ref p1), some (.bl false), none, none, none] H2 := by
    intro i eR H2 s2
    obtain ⟨i1, i5⟩ := hi i eR
    have Zi : ErrC K er i := by
      have : i = 1 ∨ i = 2 ∨ i = 3 ∨ i = 4 ∨ i = 5 := by omega
      rcases this with rfl | rfl | rfl | rfl | rfl <;> assumption
    subst eR
    refine wAx_er Zi fun e H3 n3 s3 h3 => ?_
    tm_at "v"
    refine i_er Zi h3 (by decide) (by decide) ?_
    tm_at "v"
    refine i_er Zi h3 (by decide) (by decide) ?_
    tm_at "v"
    refine i_er Zi h3 (by decide) (by decide) ?_
    tm_at "v"
    intro p4 H4 n4 s4 h4
    tm_at "v"
    refine i_er Zi (s4 _ _ h3) (by decide) (by decide) ?_
    tm_at "v"
    refine i_er Zi (s4 _ _ h3) (by decide) (by decide) ?_
    tm_at "v"
    intro p5 H5 n5 s5 h5
    refine v_cat (s5 _ _ h4) h5 (le_line (by simp)) fun p6 H6 n6 s6 h6 => ?_
    have h36 := s6 _ _ (s5 _ _ (s4 _ _ h3))
    tm_at "v"
    refine i_er Zi h36 (by decide) (by decide) ?_
    rw [decide_eq_false (show ¬ i = 6 by omega)]
    tm_at "v"
    refine i_erV Zi h36 ?_
    tm_at "v"
    have h6' : H6 p6 = some (.lst ([decide (i = 1), decide (i = 2), decide (i = 3), decide (i = 4), decide (i = 5)].map V.bl)) := h6
    intro p7 H7 n7 s7 h7
    refine i_r2Bs (as := [decide (i = 1), decide (i = 2), decide (i = 3), decide (i = 4), decide (i = 5)]) (bs := []) (SqL.of1 (s7 _ _ h6')) (SqL.of1 h7) ?_
    rw [decide_eq_false (by simp)]
    tm_at "v"
    refine lcM (fun J H8 => ∃ P : Addr, J = Itl K P ∧ Same H7 H8 ∧ H8 P = some (.lst ([erN 1, erN 2, erN 3, erN 4, erN 5].map Lv.vs))) (fun R' k => ?_) ?_
    · tm_at "v"
      intro P H8 n8 s8 h8
      exact ⟨P, rfl, ⟨_, SqL.of1 h8⟩, k _ _ ⟨P, rfl, s8, h8⟩⟩
    rintro J H8 ⟨P, rfl, s8, hP⟩
    refine c_lP [erN 1, erN 2, erN 3, erN 4, erN 5] Lv.vs (fun w => some (.bl (decide (w = erN i)))) (SqL.of1 hP) (by decide) (fun w H' hm sm Yk N y n => ?_) fun D H9 nD s9 hD => ?_
    · unfold Lv.vs
      tm_at "v"
      refine ⟨rfl, ?_⟩
      tm_at "v"
      exact y _ rfl _ (Same.refl _)
    rw [fm_map2] at hD
    have ed : ([erN 1, erN 2, erN 3, erN 4, erN 5].map fun w => decide (w = erN i)) = [decide (i = 1), decide (i = 2), decide (i = 3), decide (i = 4), decide (i = 5)] := by
      have : i = 1 ∨ i = 2 ∨ i = 3 ∨ i = 4 ∨ i = 5 := by omega
      rcases this with rfl | rfl | rfl | rfl | rfl <;> decide
    rw [ed] at hD
    tm_at "v"
    refine i_r2Bs (as := [decide (i = 1), decide (i = 2), decide (i = 3), decide (i = 4), decide (i = 5)]) (bs := [decide (i = 1), decide (i = 2), decide (i = 3), decide (i = 4), decide (i = 5)]) (SqL.of1 (s9 _ _ (s8 _ _ (s7 _ _ h6')))) (SqL.of1 hD) ?_
    rw [decide_eq_true rfl]
    exact q2 i rfl _ (s1.trans (s2.trans (s3.trans (s4.trans (s5.trans (s6.trans (s7.trans (s8.trans s9))))))))
  tm_at "v"
  refine i_methT ?_
  tm_at "v"
  refine dk_me hd1 (by decide +kernel) (by decide +kernel) ?_
  tm_at "v"
  rcases hy with ⟨w, rfl, sw, eR⟩ | ⟨hk, eR⟩
  · rcases R.cs with ⟨a, l', m', e⟩ | ⟨i, e⟩
    · refine i_say hd1 sw (eR.symm.trans e) fun g' H2 k2 hd2 => ?_
      have h12 := hd1.keepL k2 h1
      tm_at "v"
      intro p3 H3 n3 s3 h3
      refine i_r2Bs (as := []) (bs := []) (SqL.of1 (s3 _ _ h12)) (SqL.of1 h3) ?_
      rw [decide_eq_true rfl]
      tm_at "v"
      have e0 : erN R.i = [] := by rw [e]; rfl
      rw [decide_eq_true e0]
      tm_at "v"
      refine i_isi_str_str ?_
      exact q1 a l' m' e g' H3 (Kp.ahead s1 (k2.then s3)) (hd2.same s3)
    · exact i_say_no hd1 sw (eR.symm.trans e) fun H2 s2 => bad i e H2 s2
  · exact i_say_odd hd1 (hk.same s1) fun H2 s2 => bad 1 eR H2 s2
/-! law_shown_2(desk): slots 0 desk, 1 words -/
abbrev N_law_shown_2 : List Str := ["desk", "words"]
def t_law_shown_2 (K : PySem.W.Frag) (C_Desk : Addr) (C_Growing : Addr) (er : Nat → Addr) : TS :=
  (tRet (tLc (iList K (tLst (tCons (tC (.str (S [115, 104, 111, 119]))) (tCons (tC (.str (S [109, 97, 110, 121]))) (tCons (tC (.str (S [108, 101, 110, 103, 116, 104, 115]))) (tCons (tC (.str (S [119, 97, 121, 115]))) (tCons (tC (.str (S [99, 111, 109, 109, 111, 110]))) (tCons (tC (.str (S [115, 104, 111, 114, 116, 32, 97, 98, 99]))) tNil)))))))) (gName 1) tYes (tMeth C_Desk "say" (sp_Desk_0_say K C_Desk C_Growing er) [] E0 (tVar 0) (tCons (tVar 1) tNil)) [1]))
-- needs: Lv43 Q_Desk_0_say
/-- what a desk shows -/
noncomputable def shownA (l m : List Nat) : List (List Nat) := [shn1 l ++ [32] ++ shn1 m, TL.numL (cn l), wrt (lens l), TL.numL (W l m), TL.numL (cc l m) ++ [32] ++ shn1 (cf l m), shf [97, 98, 99] l]
theorem lets_abc : Lets [97, 98, 99] := ⟨by decide, by unfold Low; decide, by decide⟩
theorem say_abc {l m : List Nat} : sayA l m [115, 104, 111, 114, 116, 32, 97, 98, 99] = .ok (shf [97, 98, 99] l) l m := by
  have := say_two (l := l) (m := m) (h := [115, 104, 111, 114, 116]) (a := [97, 98, 99]) (by unfold Fr32; decide) (by unfold Fr32; decide) (by decide)
  show sayA l m ([115, 104, 111, 114, 116] ++ 32 :: [97, 98, 99]) = _
  rw [this]
  unfold ofWordA
  rw [if_neg (by decide), if_neg (by decide), if_neg (by decide), if_neg (by decide), if_pos rfl, if_pos lets_abc]
def shWords : List (List Nat) := [[115, 104, 111, 119], [109, 97, 110, 121], [108, 101, 110, 103, 116, 104, 115], [119, 97, 121, 115], [99, 111, 109, 109, 111, 110], [115, 104, 111, 114, 116, 32, 97, 98, 99]]
theorem shown_at {l m : List Nat} : ∀ (i : Nat) (w : List Nat), shWords[i]? = some w → ∃ a, (shownA l m)[i]? = some a ∧ sayA l m w = .ok a l m ∧ SayW w
  | 0, w, h => by cases h; exact ⟨_, rfl, say_show, SayW.of (by decide) (by unfold Chr; decide)⟩
  | 1, w, h => by cases h; exact ⟨_, rfl, say_many, SayW.of (by decide) (by unfold Chr; decide)⟩
  | 2, w, h => by cases h; exact ⟨_, rfl, say_lengths, SayW.of (by decide) (by unfold Chr; decide)⟩
  | 3, w, h => by cases h; exact ⟨_, rfl, say_ways, SayW.of (by decide) (by unfold Chr; decide)⟩
  | 4, w, h => by cases h; exact ⟨_, rfl, say_common, SayW.of (by decide) (by unfold Chr; decide)⟩
  | 5, w, h => by cases h; exact ⟨_, rfl, say_abc, SayW.of (by decide) (by unfold Chr; decide)⟩
  | n + 6, w, h => by cases h
def sp_law_shown_2 (K : PySem.W.Frag) (C Cg : Addr) (er : Nat → Addr) : Sp := fun vs H Q _ => ∃ (x g : Addr) (l m : List Nat), vs = [.ref x] ∧ DkAt C Cg H x g l m ∧ ∀ p g' H', H p = none → Kp x g g' H H' → DkAt C Cg H' x g' l m → H' p = some (.lst ((shownA l m).map Lv.vs)) → Q (.ref p) H'
theorem i_law_shown_2 {K : PySem.W.Frag} {C Cg : Addr} {er : Nat → Addr} {x g : Addr} {l m : List Nat} {H : Hp} {Q : VK} {E : XK} (hd : DkAt C Cg H x g l m) (q : ∀ p g' H', H p = none → Kp x g g' H H' → DkAt C Cg H' x g' l m → H' p = some (.lst ((shownA l m).map vs)) → Q (.ref p) H') : sp_law_shown_2 K C Cg er [.ref x] H Q E := ⟨x, g, l, m, rfl, hd, q⟩
theorem pure_law_shown_2 {K : PySem.W.Frag} {C Cg : Addr} {er : Nat → Addr} (Z : Kl K C ["grown", "beside"]) (Y : Kl K Cg ["letters"]) (vs : List V) (H : Hp) (Q : VK) (E : XK) (h : sp_law_shown_2 K C Cg er vs H Q E) : t_law_shown_2 K C Cg er { nx := fun _ H' => Q .non H', rt := Q } (start N_law_shown_2 vs) H := by
  obtain ⟨x, g, l, m, rfl, hd, q⟩ := h
  unfold t_law_shown_2
  tm_at "v"
  refine lcM (fun J H1 => ∃ P : Addr, J = Itl K P ∧ Same H H1 ∧ H1 P = some (.lst (shWords.map Lv.vs))) (fun R k => ?_) ?_
  · tm_at "v"
    intro P H1 n1 s1 h1
    exact ⟨P, rfl, ⟨_, SqL.of1 h1⟩, k _ _ ⟨P, rfl, s1, h1⟩⟩
  rintro J H1 ⟨P, rfl, s1, hP⟩
  have hd1 := hd.same s1
  refine c_l (xs := shWords.map Lv.vs) fun D nD => ⟨fun i acc H' => ∃ g', acc = ((shownA l m).take i).map Lv.vs ∧ Kp x g g' H1 H' ∧ DkAt C Cg H' x g' l m, ⟨g, rfl, (Kp.refl _ _ _).updN nD, ?_⟩, ?_, ?_, ?_⟩
  · have nx : D ≠ x := fun z => by
      obtain ⟨⟨dx, hx⟩, _⟩ := hd1
      rw [z, hx] at nD; cases nD
    have ng : D ≠ g := fun z => by
      obtain ⟨_, ⟨dx, hx, _⟩, _⟩ := hd1
      rw [z, hx] at nD; cases nD
    obtain ⟨⟨dx, hx⟩, ⟨dy, hg, h2⟩, h3⟩ := hd1
    exact ⟨⟨dx, by rw [upd_ne nx.symm]; exact hx⟩, ⟨dy, by rw [upd_ne ng.symm]; exact hg, h2⟩, h3⟩
  · rintro i acc H' hi hD ⟨g', rfl, k, hd'⟩
    exact SqL.of1 (hd1.keepL k hP)
  · rintro i acc y H' H'' hi hll hD ⟨g', rfl, k, hd'⟩ ⟨rfl, hy⟩
    rw [List.getElem?_map] at hy
    obtain ⟨w, hw, rfl⟩ : ∃ w, shWords[i]? = some w ∧ Lv.vs w = y := by
      cases e : shWords[i]? with
      | none => rw [e] at hy; cases hy
      | some w => rw [e] at hy; exact ⟨w, rfl, Option.some.inj hy⟩
    obtain ⟨a, ha, hs, sw⟩ := shown_at (l := l) (m := m) i w hw
    tm_at "v"
    refine ⟨rfl, ?_⟩
    unfold Lv.vs
    tm_at "v"
    refine dk_me hd' (by decide +kernel) (by decide +kernel) ?_
    tm_at "v"
    refine i_say hd' sw hs fun g2 H2 k2 hd2 => ?_
    have hD2 := hd'.keepL k2 hD
    refine lc_put hD2 hll (by rw [List.length_map] at hi; have : shWords.length = 6 := rfl; omega) ⟨g2, ?_, (k.trans hd' k2).updN nD, hd2.updN hD2⟩
    rw [List.take_add_one, ha, List.map_append]
    rfl
  · rintro acc H' hll hD ⟨g', rfl, k, hd'⟩
    refine q D g' H' ?_ (Kp.ahead s1 k) hd' hD
    cases e : H D with
    | none => rfl
    | some o => rw [s1 _ _ e] at nD; cases nD
/-! law_things_right_0(desk): slots 0 desk, 1 held, 2 deep, 3 k, 4 early, 5 thing -/
abbrev N_law_things_right_0 : List Str := ["desk", "held", "deep", "k", "early", "thing"]
def t_law_things_right_0 (K : PySem.W.Frag) (C_Desk : Addr) (C_Growing : Addr) (er : Nat → Addr) : TS :=
  (tSeq (tAsg (tLst (tCons (tC (.str (S [115, 104, 111, 119]))) tNil)) (gName 1)) (tSeq (tAsg (tVar 1) (gName 2)) (tSeq (tFor (iRng1 (tCons (tC (.int 2000)) tNil)) (gName 3) (tAsg (tLst (tCons (tVar 2) tNil)) (gName 2))) (tSeq (tAsg (tCall (sp_law_shown_2 K C_Desk C_Growing er) [] E0 (tCons (tVar 0) tNil)) (gName 4)) (tSeq (tFor (iList K (tLst (tCons (tC .non) (tCons (tC (.bl true)) (tCons (tC (.int 0)) (tCons (tVar 1) (tCons (tTup (tCons (tC (.str (S [115, 104, 111, 119]))) tNil)) (tCons tDNewK (tCons (tC (.str (S []))) (tCons (tVar 2) tNil)))))))))) (gName 5) (tIfS (tOr (tNot (tB (tCall (sp_law_met_0 K C_Desk C_Growing er) [] E0 (tCons (tVar 0) (tCons (tVar 5) (tCons (tC (.str (S [78, 111, 67, 111, 109, 109, 97, 110, 100]))) tNil)))))) (tTest (tOp (Lv.rNeLS K) (tCall (sp_law_shown_2 K C_Desk C_Growing er) [] E0 (tCons (tVar 0) tNil)) (tVar 4)))) (tRet (tC (.bl false))) tNext)) (tRet (tOp (Lv.rEqLS K) (tVar 1) (tLst (tCons (tC (.str (S [115, 104, 111, 119]))) tNil)))))))))
-- needs: Lv43 Q_law_met_0 Q_law_shown_2
theorem numL_chr3 {n : Nat} {ys : List Nat} (h : Chr ys) : Chr (TL.numL n ++ [32] ++ ys) := by
  refine chr_app (chr_app (numL_chr2 n) (by unfold Chr; decide)) h
theorem joinL_chr : ∀ ps : List (List Nat), (∀ p ∈ ps, Chr p) → Chr (TL.joinL [32] ps)
  | [], _ => fun _ z => nomatch z
  | [p], h => h p (by simp)
  | p :: r :: ps, h => by
    have ih := joinL_chr (r :: ps) fun q hq => h q (List.mem_cons_of_mem _ hq)
    exact chr_app (h p (by simp)) (chr_app (by unfold Chr; decide) ih)
theorem wrt_chr (ns : List Nat) : Chr (wrt ns) := by
  unfold wrt
  split
  · unfold Chr; decide
  · refine joinL_chr _ fun p hp => ?_
    obtain ⟨n, _, rfl⟩ := List.mem_map.mp hp
    exact numL_chr2 n
theorem shown_chr {l m : List Nat} (lw : Low l) (lwm : Low m) : ∀ w ∈ shownA l m, Chr w := fun w hw => by
  unfold shownA at hw
  simp only [List.mem_cons, List.not_mem_nil, or_false] at hw
  rcases hw with rfl | rfl | rfl | rfl | rfl | rfl
  · exact chr_app (chr_app (shn1_chr lw) (by unfold Chr; decide)) (shn1_chr lwm)
  · exact numL_chr2 _
  · exact wrt_chr _
  · exact numL_chr2 _
  · obtain ⟨c1, _⟩ := cf_in (m := m) lw
    exact numL_chr3 (shn1_chr (lw.sub fun c hc => c1.subset hc))
  · have hm := ab_mem.mp (shf_mem (l := l) lets_abc.1)
    exact fun c hc => (lets_abc.2.1.chr) c (hm.1.2 c hc)
/-- a thing that a desk doesn't read -/
def Thg (H : Hp) (y : V) : Prop := y = .str (S []) ∨ y = .non ∨ (∃ b, y = .bl b) ∨ (∃ i, y = .int i) ∨ ∃ a, y = .ref a ∧ ((∃ xs, H a = some (.lst xs)) ∨ (∃ xs, H a = some (.tup xs)) ∨ H a = some (.dK []))
theorem Thg.keep {C Cg : Addr} {H H' : Hp} {x g g' : Addr} {l m : List Nat} {y : V} (hd : DkAt C Cg H x g l m) (k : Kp x g g' H H') (h : Thg H y) : Thg H' y := by
  rcases h with h | h | h | h | ⟨a, e, h⟩
  · exact .inl h
  · exact .inr (.inl h)
  · exact .inr (.inr (.inl h))
  · exact .inr (.inr (.inr (.inl h)))
  · have na : a ∉ [x, g] := by
      obtain ⟨⟨dx, hx⟩, ⟨dy, hg, _⟩, _⟩ := hd
      intro z
      simp only [List.mem_cons, List.not_mem_nil, or_false] at z
      rcases z with rfl | rfl
      · rw [hx] at h
        rcases h with ⟨_, h⟩ | ⟨_, h⟩ | h <;> cases h
      · rw [hg] at h
        rcases h with ⟨_, h⟩ | ⟨_, h⟩ | h <;> cases h
    refine .inr (.inr (.inr (.inr ⟨a, e, ?_⟩)))
    rcases h with ⟨xs, h⟩ | ⟨xs, h⟩ | h
    · exact .inl ⟨xs, k.2 _ _ na h⟩
    · exact .inr (.inl ⟨xs, k.2 _ _ na h⟩)
    · exact .inr (.inr (k.2 _ _ na h))
theorem Thg.kd {K : PySem.W.Frag} {H : Hp} {y : V} (h : Thg H y) : y = .str (S []) ∨ Kd K H y "str" false := by
  rcases h with h | rfl | ⟨b, rfl⟩ | ⟨i, rfl⟩ | ⟨a, rfl, ⟨xs, h⟩ | ⟨xs, h⟩ | h⟩
  · exact .inl h
  · exact .inr (kd_of .non (by decide +kernel))
  · exact .inr (kd_of (.bl _) (by decide +kernel))
  · exact .inr (kd_of (.int _) (by decide +kernel))
  · exact .inr (kd_of (.lst h) (by decide +kernel))
  · exact .inr (kd_of (.tup h) (by decide +kernel))
  · exact .inr (kd_of (.dK h) (by decide +kernel))
theorem say_nil {l m : List Nat} : sayA l m [] = .er 1 := by
  rw [say_one (by unfold Fr32; decide)]
  rfl
def sp_law_things_right_0 (K : PySem.W.Frag) (C Cg : Addr) (er : Nat → Addr) : Sp := fun vs H Q _ => ∃ (x g : Addr) (l m : List Nat), vs = [.ref x] ∧ DkAt C Cg H x g l m ∧ ∀ H', Q (.bl true) H'
theorem pure_law_things_right_0 {K : PySem.W.Frag} {C Cg : Addr} {er : Nat → Addr} (Z : Kl K C ["grown", "beside"]) (Y : Kl K Cg ["letters"]) (vs : List V) (H : Hp) (Q : VK) (E : XK) (h : sp_law_things_right_0 K C Cg er vs H Q E) : t_law_things_right_0 K C Cg er { nx := fun _ H' => Q .non H', rt := Q } (start N_law_things_right_0 vs) H := by
  obtain ⟨x, g, l, m, rfl, hd, q⟩ := h
  have lw := hd.low
  have lwm := hd.2.2.1
  have shc := shown_chr lw lwm
  unfold t_law_things_right_0
  tm_at "v"
  intro hp H1 n1 s1 h1
  have hd1 := hd.same s1
  tm_at "v"
  tm_at "fo"
  refine f_r ⟨fun i σ H' => ∃ (v3 : Option V) (dp : Addr) (xs : List V), σ = [some (.ref x), some (.ref hp), some (.ref dp), v3, none, none] ∧ Same H1 H' ∧ H' dp = some (.lst xs), ⟨_, hp, _, rfl, Same.refl _, h1⟩, ?_, ?_⟩
  · rintro i y σ H0 H' hi ⟨v3, dp, xs, rfl, sm, hdp⟩ ⟨rfl, rfl⟩
    tm_at "v"
    intro p2 H2 n2 s2 h2
    tm_at "v"
    exact ⟨_, p2, _, rfl, sm.trans s2, h2⟩
  rintro σ H2 ⟨v3, dp, dxs, rfl, s2, hdp⟩
  have hd2 := hd1.same s2
  have h2 := s2 _ _ h1
  tm_at "v"
  refine i_law_shown_2 hd2 fun ep g3 H3 ne k3 hd3 hE => ?_
  have h3 := hd2.keepL k3 h2
  have hdp3 := hd2.keepL k3 hdp
  tm_at "v"
  refine foM (fun J H4 => ∃ (L : Addr) (xs : List V), J = Itl K L ∧ Same H3 H4 ∧ H4 L = some (.lst xs) ∧ ∀ y ∈ xs, Thg H4 y) (fun R k => ?_) ?_
  · tm_at "v"
    intro t4 H4 n4 s4 h4
    tm_at "v"
    intro d5 H5 n5 s5 h5
    tm_at "v"
    intro L H6 n6 s6 h6
    refine ⟨L, rfl, ⟨_, SqL.of1 h6⟩, k _ _ ⟨L, _, rfl, s4.trans (s5.trans s6), h6, fun y hy => ?_⟩⟩
    have S6 := s4.trans (s5.trans s6)
    simp only [List.mem_cons, List.not_mem_nil, or_false] at hy
    rcases hy with e | e | e | e | e | e | e | e <;> rw [e]
    · exact .inr (.inl rfl)
    · exact .inr (.inr (.inl ⟨_, rfl⟩))
    · exact .inr (.inr (.inr (.inl ⟨_, rfl⟩)))
    · exact .inr (.inr (.inr (.inr ⟨_, rfl, .inl ⟨_, S6 _ _ h3⟩⟩)))
    · exact .inr (.inr (.inr (.inr ⟨_, rfl, .inr (.inl ⟨_, s6 _ _ (s5 _ _ h4)⟩)⟩)))
    · exact .inr (.inr (.inr (.inr ⟨_, rfl, .inr (.inr (s6 _ _ h5))⟩)))
    · exact .inl rfl
    · exact .inr (.inr (.inr (.inr ⟨_, rfl, .inl ⟨_, S6 _ _ hdp3⟩⟩)))
  rintro J H4 ⟨L, xs, rfl, s4, hL, hxs⟩
  have hd4 := hd3.same s4
  refine f_l (xs := xs) ⟨fun j σ H' => ∃ (v5 : Option V) (g' : Addr), σ = [some (.ref x), some (.ref hp), some (.ref dp), v3, some (.ref ep), v5] ∧ Kp x g3 g' H4 H' ∧ DkAt C Cg H' x g' l m ∧ H' ep = some (.lst ((shownA l m).map Lv.vs)) ∧ H' hp = some (.lst [.str (S [115, 104, 111, 119])]) ∧ ∀ y ∈ xs, Thg H' y, ⟨_, g3, rfl, Kp.refl _ _ _, hd4, s4 _ _ hE, s4 _ _ h3, hxs⟩, ?_, ?_, ?_⟩
  · rintro j σ H' _ ⟨v5, g', rfl, k, hd', _⟩
    exact SqL.of1 (hd4.keepL k hL)
  · rintro j y σ Ha H5 hj ⟨v5, g', rfl, k5, hd5, hE5, h5, hx5⟩ ⟨rfl, ey⟩
    have hy := hx5 y (List.mem_of_getElem? ey)
    tm_at "v"
    have met : ∀ (Q' : VK) (E' : XK), (∀ H6, Same H5 H6 → Q' (.bl true) H6) → sp_law_met_0 K C Cg er [.ref x, y, .str (S [78, 111, 67, 111, 109, 109, 97, 110, 100])] H5 Q' E' := fun Q' E' q' => by
      rcases hy.kd (K := K) with rfl | hy
      · exact i_law_met hd5 (SayW.of (by decide) (by unfold Chr; decide)) (by rw [say_nil]; rfl) (fun a l' m' e => by rw [say_nil] at e; cases e) fun i e H6 s6 => q' H6 s6
      · exact i_law_met_odd hd5 hy q'
    refine met _ _ fun H6 s6 => ?_
    have hd6 := hd5.same s6
    tm_at "v"
    refine i_law_shown_2 hd6 fun p7 g7 H7 n7 k7 hd7 h7 => ?_
    have hE7 := hd6.keepL k7 (s6 _ _ hE5)
    tm_at "v"
    refine i_r2LS (SqL.of1 h7) (SqL.of1 hE7) shc shc ?_
    rw [decide_eq_true rfl]
    tm_at "v"
    exact ⟨_, g7, rfl, k5.trans hd5 (Kp.ahead s6 k7), hd7, hE7, hd6.keepL k7 (s6 _ _ h5), fun z hz => (hx5 z hz).keep hd5 (Kp.ahead s6 k7)⟩
  · rintro σ H5 ⟨v5, g', rfl, k5, hd5, hE5, h5, hx5⟩
    tm_at "v"
    intro p6 H6 n6 s6 h6
    refine i_r2LS (ns := [[115, 104, 111, 119]]) (ms := [[115, 104, 111, 119]]) (SqL.of1 (s6 _ _ h5)) (SqL.of1 h6) (by simp; unfold Chr; decide) (by simp; unfold Chr; decide) ?_
    rw [decide_eq_true rfl]
    exact q _
/-! law_k52(script): slots 0 script, 1 desk, 2 words, 3 cell, 4 due, 5 early -/
abbrev N_law_k52 : List Str := ["script", "desk", "words", "cell", "due", "early"]
def t_law_k52 (K : PySem.W.Frag) (C_Desk : Addr) (C_Growing : Addr) (er : Nat → Addr) : TS :=
  (tSeq (tAsg (tMake C_Desk (sp_Desk_0_init K C_Desk C_Growing) [] E0 tNil) (gName 1)) (tSeq (tFor (iList K (tLst (tCons (tC (.str (S [114, 111, 119, 32, 97, 98, 97, 98]))) (tCons (tC (.str (S [111, 116, 104, 101, 114, 32, 97, 98]))) (tCons (tC (.str (S [112, 117, 116, 32, 99]))) (tCons (tC (.str (S [117, 110, 100, 111]))) tNil)))))) (gName 2) (tIfS (tNot (tB (tCall (sp_law_met_0 K C_Desk C_Growing er) [] E0 (tCons (tVar 1) (tCons (tVar 2) (tCons (tC (.str (S []))) tNil)))))) (tRet (tC (.bl false))) tNext)) (tSeq (tFor (iList K (tSl (rSlL K) (tVar 0) (tPart (tC (.int 1))) (tPart (tC (.int 51))))) (gName 3) (tSeq (tAsg (tCall (sp_law_some_words_0 K) [] E0 (tCons (tVar 3) tNil)) (gName 2)) (tSeq (tAsg (tCall (sp_law_due_7 K C_Desk C_Growing er) [] E0 (tCons (tVar 1) (tCons (tVar 2) tNil))) (gName 4)) (tSeq (tAsg (tCall (sp_law_shown_2 K C_Desk C_Growing er) [] E0 (tCons (tVar 1) tNil)) (gName 5)) (tSeq (tIfS (tNot (tB (tCall (sp_law_met_0 K C_Desk C_Growing er) [] E0 (tCons (tVar 1) (tCons (tVar 2) (tCons (tVar 4) tNil)))))) (tRet (tC (.bl false))) tNext) (tIfS (tAnd (tTest (tOp Lv.rNeS (tVar 4) (tC (.str (S []))))) (tTest (tOp (Lv.rNeLS K) (tCall (sp_law_shown_2 K C_Desk C_Growing er) [] E0 (tCons (tVar 1) tNil)) (tVar 5)))) (tRet (tC (.bl false))) tNext)))))) (tSeq (tFor (iList K (tLst (tCons (tOp Lv.rAddS (tC (.str (S [114, 111, 119, 32]))) (tOp Lv.rMulS (tC (.str (S [122]))) (tC (.int 2990)))) (tCons (tOp Lv.rAddS (tC (.str (S [97, 116, 32]))) (tOp Lv.rMulS (tC (.str (S [49]))) (tC (.int 2990)))) (tCons (tOp Lv.rAddS (tC (.str (S [108, 111, 110, 103, 32, 49, 32]))) (tOp Lv.rMulS (tC (.str (S [49]))) (tC (.int 2990)))) (tCons (tOp Lv.rAddS (tC (.str (S [108, 101, 102, 116, 32]))) (tOp Lv.rMulS (tC (.str (S [122]))) (tC (.int 2900)))) tNil)))))) (gName 2) (tIfS (tNot (tB (tCall (sp_law_met_0 K C_Desk C_Growing er) [] E0 (tCons (tVar 1) (tCons (tVar 2) (tCons (tC (.str (S [78, 111, 67, 111, 109, 109, 97, 110, 100]))) tNil)))))) (tRet (tC (.bl false))) tNext)) (tRet (tCall (sp_law_things_right_0 K C_Desk C_Growing er) [] E0 (tCons (tVar 1) tNil)))))))
-- needs: Lv43 Q_law_met_0 Q_law_things_right_0
def sp_law_k52 (K : PySem.W.Frag) : Sp := fun vs H Q _ => ∃ (a : Addr) (ns : List Int), vs = [.ref a] ∧ SqL K H a (ns.map V.int) ∧ ns.length ≤ 63 ∧ ∀ H', Q (.bl true) H'
theorem say_row {l m a r : List Nat} (h : rowIn a = some r) : sayA l m ([114, 111, 119] ++ 32 :: a) = .ok [111, 107] r m := by
  rw [say_two (by unfold Fr32; decide) (rowIn_fr h) (by decide)]
  unfold ofWordA
  rw [if_pos (by decide), h]
  dsimp only
  unfold ofRowA
  rw [if_pos rfl]
theorem say_other {l m a r : List Nat} (h : rowIn a = some r) : sayA l m ([111, 116, 104, 101, 114] ++ 32 :: a) = .ok [111, 107] l r := by
  rw [say_two (by unfold Fr32; decide) (rowIn_fr h) (by decide)]
  unfold ofWordA
  rw [if_pos (by decide), h]
  dsimp only
  unfold ofRowA
  rw [if_neg (by decide), if_pos rfl]
theorem say_put {l m : List Nat} {c : Nat} (h : 97 ≤ c ∧ c ≤ 122) (hl : l.length < 80) : sayA l m ([112, 117, 116] ++ 32 :: [c]) = .ok [111, 107] (l ++ [c]) m := by
  rw [say_two (by unfold Fr32; decide) (Low.one h).fr (by decide)]
  unfold ofWordA
  rw [if_neg (by decide), if_pos rfl, if_pos ⟨⟨c, rfl, h⟩, hl⟩]
theorem no_row {n : Nat} (hn : 80 < n) : rowIn (List.replicate n 122) = none := by
  unfold rowIn
  rw [if_neg (fun z => by have := congrArg List.length z; rw [List.length_replicate] at this; simp at this; omega), if_neg (fun z => by have := congrArg List.length z; rw [List.length_replicate] at this; simp at this; omega)]
  split
  · rw [if_pos (by rw [List.length_replicate]; exact hn)]
  · rfl
theorem no_num {n : Nat} (hn : 30 < n) : numIn (List.replicate n 49) = none := numIn_no fun z => by have := z.2.1; rw [List.length_replicate] at this; omega
theorem fr_rep {n c : Nat} (h : c ≠ 32) : Fr32 (List.replicate n c) := fun d hd => by rw [(List.mem_replicate.mp hd).2]; exact h
theorem chr_rep {n c : Nat} (h : c < 1114112) : Chr (List.replicate n c) := fun d hd => by rw [(List.mem_replicate.mp hd).2]; exact h
theorem say_norow {l m h a : List Nat} (hh : h ∈ [[114, 111, 119], [111, 116, 104, 101, 114], [108, 101, 102, 116], [112, 108, 97, 99, 101]]) (fh : Fr32 h) (fa : Fr32 a) (hm : h ∈ [[114, 111, 119], [111, 116, 104, 101, 114], [112, 117, 116], [108, 101, 102, 116], [97, 116], [112, 108, 97, 99, 101], [119, 97, 121], [115, 104, 111, 114, 116], [97, 114, 99, 104, 101, 115]]) (e : rowIn a = none) : sayA l m (h ++ 32 :: a) = .er 1 := by
  rw [say_two fh fa hm]
  unfold ofWordA
  rw [if_pos hh, e]
theorem say_noat {l m a : List Nat} (fa : Fr32 a) (e : numIn a = none) : sayA l m ([97, 116] ++ 32 :: a) = .er 1 := by
  rw [say_two (by unfold Fr32; decide) fa (by decide)]
  unfold ofWordA
  rw [if_neg (by decide), if_neg (by decide), if_pos rfl, e]
theorem say_nolong {l m a b : List Nat} (fa : Fr32 a) (fb : Fr32 b) (e : numIn b = none) : sayA l m ([108, 111, 110, 103] ++ 32 :: (a ++ 32 :: b)) = .er 1 := by
  unfold sayA
  rw [wds_head (by unfold Fr32; decide), wds_head fa, wds_free fb]
  simp only [if_true, e]
  cases numIn a <;> rfl
theorem sayW_2 {h a : List Nat} (fh : Fr32 h) (fa : Fr32 a) (hl : h.length ≤ 100) (la : a.length ≤ 5000) (ch : Chr h) (ca : Chr a) (n : h ∉ [[112, 117, 116], [115, 104, 111, 114, 116], [97, 114, 99, 104, 101, 115]]) : SayW (h ++ 32 :: a) := by
  refine ⟨by rw [List.length_append, List.length_cons]; omega, fun c hc => ?_, fun h' a' e hm => ?_⟩
  · rcases List.mem_append.mp hc with z | z
    · exact ch c z
    · rcases List.mem_cons.mp z with rfl | z
      · decide
      · exact ca c z
  · rw [wds_head fh, wds_free fa] at e
    injection e with e1 e2
    rw [← e1] at hm
    exact absurd hm n
theorem SqL.kp {K : PySem.W.Frag} {C Cg : Addr} {H H' : Hp} {x g g' a : Addr} {l m : List Nat} {xs : List V} (hd : DkAt C Cg H x g l m) (k : Kp x g g' H H') (h : SqL K H a xs) : SqL K H' a xs := by
  rcases h with h | h
  · refine .inl ?_
    have na : ∀ o, H a = some o → (∀ C dx fs, o ≠ .ins C dx fs) → H' a = some o := fun o e n => k.2 _ _ (fun z => by
      obtain ⟨⟨dx, hx⟩, ⟨dy, hg, _⟩, _⟩ := hd
      simp only [List.mem_cons, List.not_mem_nil, or_false] at z
      rcases z with rfl | rfl
      · rw [hx] at e; exact n _ _ _ (Option.some.inj e).symm
      · rw [hg] at e; exact n _ _ _ (Option.some.inj e).symm) e
    rcases h with h | ⟨f, h⟩
    · exact .inl (na _ h fun _ _ _ z => by cases z)
    · exact .inr ⟨f, na _ h fun _ _ _ z => by cases z⟩
  · exact .inr h
/-- texts that are refused as no row of words -/
def NoCm (y : V) : Prop := ∃ w : List Nat, y = .str (S w) ∧ SayW w ∧ ∀ l m, sayA l m w = .er 1
theorem pure_law_k52 {K : PySem.W.Frag} {C Cg : Addr} {er : Nat → Addr} (Z : Kl K C ["grown", "beside"]) (Y : Kl K Cg ["letters"]) (vs : List V) (H : Hp) (Q : VK) (E : XK) (h : sp_law_k52 K vs H Q E) : t_law_k52 K C Cg er { nx := fun _ H' => Q .non H', rt := Q } (start N_law_k52 vs) H := by
  obtain ⟨a, ns, rfl, hS, hl, q⟩ := h
  unfold t_law_k52
  tm_at "v"
  refine i_Desk fun x g H1 nx ng s1 hd1 => ?_
  have hS1 := s1.seq hS
  tm_at "v"
  refine foM (fun J H2 => ∃ P : Addr, J = Itl K P ∧ Same H1 H2 ∧ H2 P = some (.lst ([[114, 111, 119, 32, 97, 98, 97, 98], [111, 116, 104, 101, 114, 32, 97, 98], [112, 117, 116, 32, 99], [117, 110, 100, 111]].map Lv.vs))) (fun R k => ?_) ?_
  · tm_at "v"
    intro P H2 n2 s2 h2
    exact ⟨P, rfl, ⟨_, SqL.of1 h2⟩, k _ _ ⟨P, rfl, s2, h2⟩⟩
  rintro J H2 ⟨P, rfl, s2, hP⟩
  have hd2 := hd1.same s2
  have hS2 := s2.seq hS1
  let st : Nat → List Nat × List Nat := fun i => match i with | 0 => ([], []) | 1 => ([97, 98, 97, 98], []) | 2 => ([97, 98, 97, 98], [97, 98]) | 3 => ([97, 98, 97, 98, 99], [97, 98]) | _ => ([97, 98, 97, 98], [97, 98])
  refine f_l (xs := [[114, 111, 119, 32, 97, 98, 97, 98], [111, 116, 104, 101, 114, 32, 97, 98], [112, 117, 116, 32, 99], [117, 110, 100, 111]].map Lv.vs) ⟨fun i σ H' => ∃ (v2 : Option V) (g' : Addr), σ = [some (.ref a), some (.ref x), v2, none, none, none] ∧ Kp x g g' H2 H' ∧ DkAt C Cg H' x g' (st i).1 (st i).2, ⟨none, g, rfl, Kp.refl _ _ _, hd2⟩, ?_, ?_, ?_⟩
  · rintro i σ H' _ ⟨v2, g', rfl, k, hd'⟩
    exact SqL.of1 (hd2.keepL k hP)
  · rintro i y σ Ha H3 hi ⟨v2, g', rfl, k3, hd3⟩ ⟨rfl, ey⟩
    obtain ⟨w, b, e, hs, sw⟩ : ∃ w b, y = .str (S w) ∧ sayA (st i).1 (st i).2 w = .ok b (st (i + 1)).1 (st (i + 1)).2 ∧ SayW w := by
      match i, ey with
      | 0, ey => cases ey; exact ⟨_, _, rfl, say_row (a := [97, 98, 97, 98]) (by decide), SayW.of (by decide) (by unfold Chr; decide)⟩
      | 1, ey => cases ey; exact ⟨_, _, rfl, say_other (a := [97, 98]) (by decide), SayW.of (by decide) (by unfold Chr; decide)⟩
      | 2, ey => cases ey; exact ⟨_, _, rfl, say_put (c := 99) (by decide) (by decide), SayW.of (by decide) (by unfold Chr; decide)⟩
      | 3, ey => cases ey; exact ⟨_, _, rfl, say_undo, SayW.of (by decide) (by unfold Chr; decide)⟩
      | n + 4, ey => cases ey
    subst e
    tm_at "v"
    refine i_law_met hd3 sw (by rw [hs]; rfl) (fun b' l' m' e g4 H4 k4 hd4 => ?_) (fun j e => by rw [hs] at e; cases e)
    rw [hs] at e
    cases e
    tm_at "v"
    exact ⟨_, g4, rfl, k3.trans hd3 k4, hd4⟩
  rintro σ H3 ⟨v2, g3, rfl, k3, hd3⟩
  have hS3 := SqL.kp hd2 k3 hS2
  clear hd2 k3 hS2 hS1 hd1 s2 s1
  generalize (st _).1 = l at hd3
  generalize (st _).2 = m at hd3
  clear st
  tm_at "v"
  refine foM (fun J H4 => ∃ P : Addr, J = Itl K P ∧ Same H3 H4 ∧ H4 P = some (.lst ((((ns.drop 1).take 50)).map V.int))) (fun R k => ?_) ?_
  · have ec : cutV (ns.map V.int) (some 1) (some 51) = ((ns.drop 1).take 50).map V.int := by
      have := cutL_mid (ns.map V.int) 1 50
      rw [show (((1 : Nat) : Int) + ((50 : Nat) : Int)) = 51 from rfl] at this
      rw [List.map_take, List.map_drop]
      exact this
    tm_at "v"
    refine v_slL hS3 fun P H4 n4 s4 h4 => ?_
    exact ⟨P, rfl, ⟨_, SqL.of1 h4⟩, k _ _ ⟨P, rfl, s4, by rw [h4, ec]⟩⟩
  rintro J H4 ⟨P, rfl, s4, hP⟩
  have hd4 := hd3.same s4
  generalize (ns.drop 1).take 50 = cells at hP
  refine f_l (xs := cells.map V.int) ⟨fun i σ H' => ∃ (v2 v3 v4 v5 : Option V) (g' : Addr) (l' m' : List Nat), σ = [some (.ref a), some (.ref x), v2, v3, v4, v5] ∧ Kp x g3 g' H4 H' ∧ DkAt C Cg H' x g' l' m', ⟨v2, none, none, none, g3, l, m, rfl, Kp.refl _ _ _, hd4⟩, ?_, ?_, ?_⟩
  · rintro i σ H' _ ⟨v2, v3, v4, v5, g', l', m', rfl, k, hd'⟩
    exact SqL.of1 (hd4.keepL k hP)
  · rintro i y σ Ha H5 hi ⟨v2, v3, v4, v5, g5, l5, m5, rfl, k5, hd5⟩ ⟨rfl, ey⟩
    obtain ⟨c, rfl⟩ : ∃ c, y = .int c := by
      obtain ⟨c, _, e⟩ := List.mem_map.mp (List.mem_of_getElem? ey)
      exact ⟨c, e.symm⟩
    have shc := shown_chr hd5.low hd5.2.2.1
    tm_at "v"
    refine i_law_some_words_0 fun w H6 lw aw s6 => ?_
    have sw : SayW w := SayW.of (by omega) aw.chr
    have hd6 := hd5.same s6
    tm_at "v"
    refine i_law_due_7 hd6 (by omega) aw.chr fun g7 H7 k7 hd7 => ?_
    tm_at "v"
    refine i_law_shown_2 hd7 fun ep g8 H8 n8 k8 hd8 h8 => ?_
    have K8 : Kp x g3 g8 H4 H8 := (k5.trans hd5 (Kp.ahead s6 k7)).trans hd7 k8
    tm_at "v"
    refine i_law_met hd8 sw rfl (fun b' l' m' e g9 H9 k9 hd9 => ?_) (fun j e H9 s9 => ?_)
    · have e0 : erN (sayA l5 m5 w).i = [] := by rw [e]; rfl
      tm_at "v"
      rw [decide_eq_true e0]
      tm_at "v"
      exact ⟨_, _, _, _, g9, l', m', rfl, K8.trans hd8 k9, hd9⟩
    · have e0 : ¬ erN (sayA l5 m5 w).i = [] := by
        obtain ⟨j1, j5⟩ := sayA_er e
        rw [e]
        have : j = 1 ∨ j = 2 ∨ j = 3 ∨ j = 4 ∨ j = 5 := by omega
        rcases this with rfl | rfl | rfl | rfl | rfl <;> decide
      have hd9 := hd8.same s9
      have h89 := s9 _ _ h8
      tm_at "v"
      rw [decide_eq_false e0]
      tm_at "v"
      refine i_law_shown_2 hd9 fun p10 g10 H10 n10 k10 hd10 h10 => ?_
      tm_at "v"
      refine i_r2LS (SqL.of1 h10) (SqL.of1 (hd9.keepL k10 h89)) shc shc ?_
      rw [decide_eq_true rfl]
      tm_at "v"
      exact ⟨_, _, _, _, g10, l5, m5, rfl, K8.trans hd8 (Kp.ahead s9 k10), hd10⟩
  rintro σ H5 ⟨v2, v3, v4, v5, g5, l5, m5, rfl, k5, hd5⟩
  tm_at "v"
  refine foM (fun J H6 => ∃ (P : Addr) (xs : List V), J = Itl K P ∧ Same H5 H6 ∧ H6 P = some (.lst xs) ∧ ∀ y ∈ xs, NoCm y) (fun R k => ?_) ?_
  · tm_at "v"
    have r1 : ∀ c k : Nat, (List.replicate k c).length = k := fun c k => List.length_replicate
    refine i_mulR (n := 2990) rfl (by decide) ?_
    have e1 := r1 122 2990
    have a1 : NoCm (.str (S ([114, 111, 119, 32] ++ List.replicate 2990 122))) := ⟨[114, 111, 119] ++ 32 :: List.replicate 2990 122, rfl, sayW_2 (by unfold Fr32; decide) (fr_rep (by decide)) (by decide) (by rw [List.length_replicate]; decide) (by unfold Chr; decide) (chr_rep (by decide)) (by decide), fun l m => say_norow (by decide) (by unfold Fr32; decide) (fr_rep (by decide)) (by decide) (no_row (by decide))⟩
    generalize List.replicate 2990 122 = x1 at *
    tm_at "v"
    refine i_mulR (n := 2990) rfl (by decide) ?_
    have e2 := r1 49 2990
    have a2 : NoCm (.str (S ([97, 116, 32] ++ List.replicate 2990 49))) := ⟨[97, 116] ++ 32 :: List.replicate 2990 49, rfl, sayW_2 (by unfold Fr32; decide) (fr_rep (by decide)) (by decide) (by rw [List.length_replicate]; decide) (by unfold Chr; decide) (chr_rep (by decide)) (by decide), fun l m => say_noat (fr_rep (by decide)) (no_num (by decide))⟩
    have a3 : NoCm (.str (S ([108, 111, 110, 103, 32, 49, 32] ++ List.replicate 2990 49))) := ⟨[108, 111, 110, 103] ++ 32 :: ([49] ++ 32 :: List.replicate 2990 49), rfl, ⟨by simp only [List.length_append, List.length_cons, List.length_nil, List.length_replicate]; decide, (fun c hc => by
      simp only [List.mem_append, List.mem_cons, List.not_mem_nil, or_false, List.mem_replicate] at hc
      omega), fun h' a' e hm => by
      rw [wds_head (by unfold Fr32; decide), wds_head (by unfold Fr32; decide), wds_free (fr_rep (by decide))] at e
      cases e⟩, fun l m => say_nolong (by unfold Fr32; decide) (fr_rep (by decide)) (no_num (by decide))⟩
    generalize hx2 : List.replicate 2990 49 = x2 at *
    tm_at "v"
    refine i_mulR (n := 2990) rfl (by decide) ?_
    rw [hx2]
    tm_at "v"
    refine i_mulR (n := 2900) rfl (by decide) ?_
    have e3 := r1 122 2900
    have a4 : NoCm (.str (S ([108, 101, 102, 116, 32] ++ List.replicate 2900 122))) := ⟨[108, 101, 102, 116] ++ 32 :: List.replicate 2900 122, rfl, sayW_2 (by unfold Fr32; decide) (fr_rep (by decide)) (by decide) (by rw [List.length_replicate]; decide) (by unfold Chr; decide) (chr_rep (by decide)) (by decide), fun l m => say_norow (by decide) (by unfold Fr32; decide) (fr_rep (by decide)) (by decide) (no_row (by decide))⟩
    generalize List.replicate 2900 122 = x3 at *
    tm_at "v"
    intro P H6 n6 s6 h6
    refine ⟨P, rfl, ⟨_, SqL.of1 h6⟩, k _ _ ⟨P, _, rfl, s6, h6, fun y hy => ?_⟩⟩
    simp only [List.mem_cons, List.not_mem_nil, or_false] at hy
    rcases hy with e | e | e | e <;> rw [e] <;> assumption
  rintro J H6 ⟨P6, xs, rfl, s6, hP6, hx⟩
  have hd6 := hd5.same s6
  refine f_l (xs := xs) ⟨fun i σ H' => ∃ (v2 : Option V), σ = [some (.ref a), some (.ref x), v2, v3, v4, v5] ∧ Same H6 H', ⟨v2, rfl, Same.refl _⟩, ?_, ?_, ?_⟩
  · rintro i σ H' _ ⟨v2, rfl, s⟩
    exact SqL.of1 (s _ _ hP6)
  · rintro i y σ Ha H7 hi ⟨v2, rfl, s7⟩ ⟨rfl, ey⟩
    obtain ⟨w, rfl, sw, hs⟩ := hx y (List.mem_of_getElem? ey)
    tm_at "v"
    refine i_law_met (hd6.same s7) sw (by rw [hs]; rfl) (fun b' l' m' e => by rw [hs] at e; cases e) (fun j e H8 s8 => ?_)
    tm_at "v"
    exact ⟨_, rfl, s7.trans s8⟩
  rintro σ H7 ⟨v2, rfl, s7⟩
  tm_at "v"
  exact ⟨x, g5, l5, m5, rfl, hd6.same s7, q⟩
/-! ### the text of k52 -/
def topS (i : Nat) : Stmt := PySem.Challenge.pw_leavings_k52_words_refused.main.body.getD i (.Pass ⟨0, 0, 0, 0⟩)
abbrev s_Growing_1_init : Stmt := inClass (topS 36) 0
theorem sc_Growing_1_init : FnScope N_Growing_1_init ["self"] (defScope s_Growing_1_init) := ⟨rfl, rfl, rfl, by decide +kernel, rfl, by decide +kernel, by decide +kernel⟩
abbrev s_Desk_0_init : Stmt := inClass (topS 68) 0
theorem sc_Desk_0_init : FnScope N_Desk_0_init ["self"] (defScope s_Desk_0_init) := ⟨rfl, rfl, rfl, by decide +kernel, rfl, by decide +kernel, by decide +kernel⟩
abbrev s_law_take_1 : Stmt := topS 71
theorem sc_law_take_1 : FnScope N_law_take_1 ["deck", "many"] (defScope s_law_take_1) := ⟨rfl, rfl, rfl, by decide +kernel, rfl, by decide +kernel, by decide +kernel⟩
abbrev s_law_deck_0 : Stmt := topS 72
theorem sc_law_deck_0 : FnScope N_law_deck_0 ["cell", "k"] (defScope s_law_deck_0) := ⟨rfl, rfl, rfl, by decide +kernel, rfl, by decide +kernel, by decide +kernel⟩
abbrev s_law_some_number_0 : Stmt := topS 73
theorem sc_law_some_number_0 : FnScope N_law_some_number_0 ["deck"] (defScope s_law_some_number_0) := ⟨rfl, rfl, rfl, by decide +kernel, rfl, by decide +kernel, by decide +kernel⟩
abbrev s_law_some_row_0 : Stmt := topS 74
theorem sc_law_some_row_0 : FnScope N_law_some_row_0 ["deck"] (defScope s_law_some_row_0) := ⟨rfl, rfl, rfl, by decide +kernel, rfl, by decide +kernel, by decide +kernel⟩
abbrev s_law_some_letters_1 : Stmt := topS 75
theorem sc_law_some_letters_1 : FnScope N_law_some_letters_1 ["deck"] (defScope s_law_some_letters_1) := ⟨rfl, rfl, rfl, by decide +kernel, rfl, by decide +kernel, by decide +kernel⟩
abbrev s_law_some_words_0 : Stmt := topS 76
theorem sc_law_some_words_0 : FnScope N_law_some_words_0 ["cell"] (defScope s_law_some_words_0) := ⟨rfl, rfl, rfl, by decide +kernel, rfl, by decide +kernel, by decide +kernel⟩
abbrev s_Growing_1_row : Stmt := inClass (topS 36) 3
theorem sc_Growing_1_row : FnScope N_Growing_1_row ["self"] (defScope s_Growing_1_row) := ⟨rfl, rfl, rfl, by decide +kernel, rfl, by decide +kernel, by decide +kernel⟩
abbrev s_next_tables_0 : Stmt := topS 16
theorem sc_next_tables_0 : FnScope N_next_tables_0 ["row"] (defScope s_next_tables_0) := ⟨rfl, rfl, rfl, by decide +kernel, rfl, by decide +kernel, by decide +kernel⟩
abbrev s_put_on_0 : Stmt := topS 26
theorem sc_put_on_0 : FnScope N_put_on_0 ["lengths", "others", "lost"] (defScope s_put_on_0) := ⟨rfl, rfl, rfl, by decide +kernel, rfl, by decide +kernel, by decide +kernel⟩
abbrev s_lengths_from_0 : Stmt := topS 27
theorem sc_lengths_from_0 : FnScope N_lengths_from_0 ["row"] (defScope s_lengths_from_0) := ⟨rfl, rfl, rfl, by decide +kernel, rfl, by decide +kernel, by decide +kernel⟩
abbrev s_is_whole_0x : Stmt := topS 38
theorem sc_is_whole_0x : FnScope N_is_whole_0x ["thing"] (defScope s_is_whole_0x) := ⟨rfl, rfl, rfl, by decide +kernel, rfl, by decide +kernel, by decide +kernel⟩
abbrev s_many_of_0 : Stmt := topS 42
theorem sc_many_of_0 : FnScope N_many_of_0 ["tables", "begin", "length"] (defScope s_many_of_0) := ⟨rfl, rfl, rfl, by decide +kernel, rfl, by decide +kernel, by decide +kernel⟩
abbrev s_of_length_at_0x : Stmt := topS 43
theorem sc_of_length_at_0x : FnScope N_of_length_at_0x ["row", "length", "place"] (defScope s_of_length_at_0x) := ⟨rfl, rfl, rfl, by decide +kernel, rfl, by decide +kernel, by decide +kernel⟩
abbrev s_read_number_0n : Stmt := topS 47
theorem sc_read_number_0n : FnScope N_read_number_0n ["word"] (defScope s_read_number_0n) := ⟨rfl, rfl, rfl, by decide +kernel, rfl, by decide +kernel, by decide +kernel⟩
abbrev s_number_in_0 : Stmt := topS 65
theorem sc_number_in_0 : FnScope N_number_in_0 ["word"] (defScope s_number_in_0) := ⟨rfl, rfl, rfl, by decide +kernel, rfl, by decide +kernel, by decide +kernel⟩
abbrev s_shown_0 : Stmt := topS 67
theorem sc_shown_0 : FnScope N_shown_0 ["row"] (defScope s_shown_0) := ⟨rfl, rfl, rfl, by decide +kernel, rfl, by decide +kernel, by decide +kernel⟩
abbrev s_next_at_0 : Stmt := topS 15
theorem sc_next_at_0 : FnScope N_next_at_0 ["row", "place", "letter"] (defScope s_next_at_0) := ⟨rfl, rfl, rfl, by decide +kernel, rfl, by decide +kernel, by decide +kernel⟩
abbrev s_goings_on_0 : Stmt := topS 19
theorem sc_goings_on_0 : FnScope N_goings_on_0 ["one", "other"] (defScope s_goings_on_0) := ⟨rfl, rfl, rfl, by decide +kernel, rfl, by decide +kernel, by decide +kernel⟩
abbrev s_many_common_0 : Stmt := topS 20
theorem sc_many_common_0 : FnScope N_many_common_0 ["one", "other"] (defScope s_many_common_0) := ⟨rfl, rfl, rfl, by decide +kernel, rfl, by decide +kernel, by decide +kernel⟩
abbrev s_longest_from_0 : Stmt := topS 21
theorem sc_longest_from_0 : FnScope N_longest_from_0 ["one", "other"] (defScope s_longest_from_0) := ⟨rfl, rfl, rfl, by decide +kernel, rfl, by decide +kernel, by decide +kernel⟩
abbrev s_longest_common_0 : Stmt := topS 22
theorem sc_longest_common_0 : FnScope N_longest_common_0 ["one", "other"] (defScope s_longest_common_0) := ⟨rfl, rfl, rfl, by decide +kernel, rfl, by decide +kernel, by decide +kernel⟩
abbrev s_Growing_1_undo : Stmt := inClass (topS 36) 2
theorem sc_Growing_1_undo : FnScope N_Growing_1_undo ["self"] (defScope s_Growing_1_undo) := ⟨rfl, rfl, rfl, by decide +kernel, rfl, by decide +kernel, by decide +kernel⟩
abbrev s_counts_from_0 : Stmt := topS 24
theorem sc_counts_from_0 : FnScope N_counts_from_0 ["row"] (defScope s_counts_from_0) := ⟨rfl, rfl, rfl, by decide +kernel, rfl, by decide +kernel, by decide +kernel⟩
abbrev s_many_left_0 : Stmt := topS 25
theorem sc_many_left_0 : FnScope N_many_left_0 ["row"] (defScope s_many_left_0) := ⟨rfl, rfl, rfl, by decide +kernel, rfl, by decide +kernel, by decide +kernel⟩
abbrev s_Growing_1_many : Stmt := inClass (topS 36) 4
theorem sc_Growing_1_many : FnScope N_Growing_1_many ["self"] (defScope s_Growing_1_many) := ⟨rfl, rfl, rfl, by decide +kernel, rfl, by decide +kernel, by decide +kernel⟩
abbrev s_by_lengths_0 : Stmt := topS 28
theorem sc_by_lengths_0 : FnScope N_by_lengths_0 ["row"] (defScope s_by_lengths_0) := ⟨rfl, rfl, rfl, by decide +kernel, rfl, by decide +kernel, by decide +kernel⟩
abbrev s_Growing_1_lengths : Stmt := inClass (topS 36) 5
theorem sc_Growing_1_lengths : FnScope N_Growing_1_lengths ["self"] (defScope s_Growing_1_lengths) := ⟨rfl, rfl, rfl, by decide +kernel, rfl, by decide +kernel, by decide +kernel⟩
abbrev s_show_list_0 : Stmt := topS 48
theorem sc_show_list_0 : FnScope N_show_list_0 ["numbers"] (defScope s_show_list_0) := ⟨rfl, rfl, rfl, by decide +kernel, rfl, by decide +kernel, by decide +kernel⟩
abbrev s_next_of_0 : Stmt := topS 50
theorem sc_next_of_0 : FnScope N_next_of_0 ["word", "place", "letter"] (defScope s_next_of_0) := ⟨rfl, rfl, rfl, by decide +kernel, rfl, by decide +kernel, by decide +kernel⟩
abbrev s_parts_0 : Stmt := topS 51
theorem sc_parts_0 : FnScope N_parts_0 ["one", "other"] (defScope s_parts_0) := ⟨rfl, rfl, rfl, by decide +kernel, rfl, by decide +kernel, by decide +kernel⟩
abbrev s_ways_from_0 : Stmt := topS 59
theorem sc_ways_from_0 : FnScope N_ways_from_0 ["row", "other"] (defScope s_ways_from_0) := ⟨rfl, rfl, rfl, by decide +kernel, rfl, by decide +kernel, by decide +kernel⟩
abbrev s_many_ways_0 : Stmt := topS 60
theorem sc_many_ways_0 : FnScope N_many_ways_0 ["row", "other"] (defScope s_many_ways_0) := ⟨rfl, rfl, rfl, by decide +kernel, rfl, by decide +kernel, by decide +kernel⟩
abbrev s_Desk_0_alone : Stmt := inClass (topS 68) 2
theorem sc_Desk_0_alone : FnScope N_Desk_0_alone ["self", "words"] (defScope s_Desk_0_alone) := ⟨rfl, rfl, rfl, by decide +kernel, rfl, by decide +kernel, by decide +kernel⟩
abbrev s_need_letters_2x : Stmt := topS 10
theorem sc_need_letters_2x : FnScope N_need_letters_2x ["thing"] (defScope s_need_letters_2x) := ⟨rfl, rfl, rfl, by decide +kernel, rfl, by decide +kernel, by decide +kernel⟩
abbrev s_has_all_0 : Stmt := topS 12
theorem sc_has_all_0 : FnScope N_has_all_0 ["word", "letters"] (defScope s_has_all_0) := ⟨rfl, rfl, rfl, by decide +kernel, rfl, by decide +kernel, by decide +kernel⟩
abbrev s_arches_0x : Stmt := topS 13
theorem sc_arches_0x : FnScope N_arches_0x ["row", "letters"] (defScope s_arches_0x) := ⟨rfl, rfl, rfl, by decide +kernel, rfl, by decide +kernel, by decide +kernel⟩
abbrev s_Growing_1_putx : Stmt := inClass (topS 36) 1
theorem sc_Growing_1_putx : FnScope N_Growing_1_putx ["self", "letter"] (defScope s_Growing_1_putx) := ⟨rfl, rfl, rfl, by decide +kernel, rfl, by decide +kernel, by decide +kernel⟩
abbrev s_left_at_0x : Stmt := topS 39
theorem sc_left_at_0x : FnScope N_left_at_0x ["row", "place"] (defScope s_left_at_0x) := ⟨rfl, rfl, rfl, by decide +kernel, rfl, by decide +kernel, by decide +kernel⟩
abbrev s_need_letters_1x : Stmt := topS 54
theorem sc_need_letters_1x : FnScope N_need_letters_1x ["thing"] (defScope s_need_letters_1x) := ⟨rfl, rfl, rfl, by decide +kernel, rfl, by decide +kernel, by decide +kernel⟩
abbrev s_lacks_from_0 : Stmt := topS 56
theorem sc_lacks_from_0 : FnScope N_lacks_from_0 ["row", "letters"] (defScope s_lacks_from_0) := ⟨rfl, rfl, rfl, by decide +kernel, rfl, by decide +kernel, by decide +kernel⟩
abbrev s_shortest_not_left_1x : Stmt := topS 57
theorem sc_shortest_not_left_1x : FnScope N_shortest_not_left_1x ["row", "letters"] (defScope s_shortest_not_left_1x) := ⟨rfl, rfl, rfl, by decide +kernel, rfl, by decide +kernel, by decide +kernel⟩
abbrev s_way_at_0x : Stmt := topS 61
theorem sc_way_at_0x : FnScope N_way_at_0x ["row", "other", "place"] (defScope s_way_at_0x) := ⟨rfl, rfl, rfl, by decide +kernel, rfl, by decide +kernel, by decide +kernel⟩
abbrev s_is_row_0 : Stmt := topS 30
theorem sc_is_row_0 : FnScope N_is_row_0 ["thing"] (defScope s_is_row_0) := ⟨rfl, rfl, rfl, by decide +kernel, rfl, by decide +kernel, by decide +kernel⟩
abbrev s_row_in_0 : Stmt := topS 66
theorem sc_row_in_0 : FnScope N_row_in_0 ["word"] (defScope s_row_in_0) := ⟨rfl, rfl, rfl, by decide +kernel, rfl, by decide +kernel, by decide +kernel⟩
abbrev s_first_places_0 : Stmt := topS 31
theorem sc_first_places_0 : FnScope N_first_places_0 ["row", "other"] (defScope s_first_places_0) := ⟨rfl, rfl, rfl, by decide +kernel, rfl, by decide +kernel, by decide +kernel⟩
abbrev s_is_left_0 : Stmt := topS 32
theorem sc_is_left_0 : FnScope N_is_left_0 ["row", "thing"] (defScope s_is_left_0) := ⟨rfl, rfl, rfl, by decide +kernel, rfl, by decide +kernel, by decide +kernel⟩
abbrev s_Growing_1_has : Stmt := inClass (topS 36) 6
theorem sc_Growing_1_has : FnScope N_Growing_1_has ["self", "thing"] (defScope s_Growing_1_has) := ⟨rfl, rfl, rfl, by decide +kernel, rfl, by decide +kernel, by decide +kernel⟩
abbrev s_place_of_0x : Stmt := topS 40
theorem sc_place_of_0x : FnScope N_place_of_0x ["row", "thing"] (defScope s_place_of_0x) := ⟨rfl, rfl, rfl, by decide +kernel, rfl, by decide +kernel, by decide +kernel⟩
abbrev s_Desk_0_new_row : Stmt := inClass (topS 68) 1
theorem sc_Desk_0_new_row : FnScope N_Desk_0_new_row ["self", "row"] (defScope s_Desk_0_new_row) := ⟨rfl, rfl, rfl, by decide +kernel, rfl, by decide +kernel, by decide +kernel⟩
abbrev s_Desk_0_of_a_row : Stmt := inClass (topS 68) 3
theorem sc_Desk_0_of_a_row : FnScope N_Desk_0_of_a_row ["self", "head", "row"] (defScope s_Desk_0_of_a_row) := ⟨rfl, rfl, rfl, by decide +kernel, rfl, by decide +kernel, by decide +kernel⟩
abbrev s_Desk_0_of_a_word : Stmt := inClass (topS 68) 4
theorem sc_Desk_0_of_a_word : FnScope N_Desk_0_of_a_word ["self", "head", "word"] (defScope s_Desk_0_of_a_word) := ⟨rfl, rfl, rfl, by decide +kernel, rfl, by decide +kernel, by decide +kernel⟩
abbrev s_Desk_0_say : Stmt := inClass (topS 68) 5
theorem sc_Desk_0_say : FnScope N_Desk_0_say ["self", "words"] (defScope s_Desk_0_say) := ⟨rfl, rfl, rfl, by decide +kernel, rfl, by decide +kernel, by decide +kernel⟩
abbrev s_law_is_number_0 : Stmt := topS 79
theorem sc_law_is_number_0 : FnScope N_law_is_number_0 ["word"] (defScope s_law_is_number_0) := ⟨rfl, rfl, rfl, by decide +kernel, rfl, by decide +kernel, by decide +kernel⟩
abbrev s_law_number_due_0 : Stmt := topS 80
theorem sc_law_number_due_0 : FnScope N_law_number_due_0 ["desk", "head", "numbers"] (defScope s_law_number_due_0) := ⟨rfl, rfl, rfl, by decide +kernel, rfl, by decide +kernel, by decide +kernel⟩
abbrev s_law_are_small_0 : Stmt := topS 77
theorem sc_law_are_small_0 : FnScope N_law_are_small_0 ["word"] (defScope s_law_are_small_0) := ⟨rfl, rfl, rfl, by decide +kernel, rfl, by decide +kernel, by decide +kernel⟩
abbrev s_law_is_row_0 : Stmt := topS 78
theorem sc_law_is_row_0 : FnScope N_law_is_row_0 ["word"] (defScope s_law_is_row_0) := ⟨rfl, rfl, rfl, by decide +kernel, rfl, by decide +kernel, by decide +kernel⟩
abbrev s_law_word_due_0 : Stmt := topS 81
theorem sc_law_word_due_0 : FnScope N_law_word_due_0 ["desk", "head", "word"] (defScope s_law_word_due_0) := ⟨rfl, rfl, rfl, by decide +kernel, rfl, by decide +kernel, by decide +kernel⟩
abbrev s_law_due_7 : Stmt := topS 82
theorem sc_law_due_7 : FnScope N_law_due_7 ["desk", "words"] (defScope s_law_due_7) := ⟨rfl, rfl, rfl, by decide +kernel, rfl, by decide +kernel, by decide +kernel⟩
abbrev s_law_met_0 : Stmt := topS 83
theorem sc_law_met_0 : FnScope N_law_met_0 ["desk", "words", "due"] (defScope s_law_met_0) := ⟨rfl, rfl, rfl, by decide +kernel, rfl, by decide +kernel, by decide +kernel⟩
abbrev s_law_shown_2 : Stmt := topS 84
theorem sc_law_shown_2 : FnScope N_law_shown_2 ["desk"] (defScope s_law_shown_2) := ⟨rfl, rfl, rfl, by decide +kernel, rfl, by decide +kernel, by decide +kernel⟩
abbrev s_law_things_right_0 : Stmt := topS 85
theorem sc_law_things_right_0 : FnScope N_law_things_right_0 ["desk"] (defScope s_law_things_right_0) := ⟨rfl, rfl, rfl, by decide +kernel, rfl, by decide +kernel, by decide +kernel⟩
abbrev s_law_k52 : Stmt := topS 86
theorem sc_law_k52 : FnScope N_law_k52 ["script"] (defScope s_law_k52) := ⟨rfl, rfl, rfl, by decide +kernel, rfl, by decide +kernel, by decide +kernel⟩
set_option genInjectivity false in
set_option genSizeOf false in
set_option genSizeOfSpec false in
structure Txt (K : PySem.W.Frag) (mg : Str → Option Value) where
  (f_Growing_1_init : Addr)
  (fd_Growing_1_init : FuncData)
  (f_Desk_0_init : Addr)
  (fd_Desk_0_init : FuncData)
  (f_law_take_1 : Addr)
  (fd_law_take_1 : FuncData)
  (f_law_deck_0 : Addr)
  (fd_law_deck_0 : FuncData)
  (f_law_some_number_0 : Addr)
  (fd_law_some_number_0 : FuncData)
  (f_law_some_row_0 : Addr)
  (fd_law_some_row_0 : FuncData)
  (f_law_some_letters_1 : Addr)
  (fd_law_some_letters_1 : FuncData)
  (f_law_some_words_0 : Addr)
  (fd_law_some_words_0 : FuncData)
  (f_Growing_1_row : Addr)
  (fd_Growing_1_row : FuncData)
  (f_next_tables_0 : Addr)
  (fd_next_tables_0 : FuncData)
  (f_put_on_0 : Addr)
  (fd_put_on_0 : FuncData)
  (f_lengths_from_0 : Addr)
  (fd_lengths_from_0 : FuncData)
  (f_is_whole_0x : Addr)
  (fd_is_whole_0x : FuncData)
  (f_many_of_0 : Addr)
  (fd_many_of_0 : FuncData)
  (f_of_length_at_0x : Addr)
  (fd_of_length_at_0x : FuncData)
  (f_read_number_0n : Addr)
  (fd_read_number_0n : FuncData)
  (f_number_in_0 : Addr)
  (fd_number_in_0 : FuncData)
  (f_shown_0 : Addr)
  (fd_shown_0 : FuncData)
  (f_next_at_0 : Addr)
  (fd_next_at_0 : FuncData)
  (f_goings_on_0 : Addr)
  (fd_goings_on_0 : FuncData)
  (f_many_common_0 : Addr)
  (fd_many_common_0 : FuncData)
  (f_longest_from_0 : Addr)
  (fd_longest_from_0 : FuncData)
  (f_longest_common_0 : Addr)
  (fd_longest_common_0 : FuncData)
  (f_Growing_1_undo : Addr)
  (fd_Growing_1_undo : FuncData)
  (f_counts_from_0 : Addr)
  (fd_counts_from_0 : FuncData)
  (f_many_left_0 : Addr)
  (fd_many_left_0 : FuncData)
  (f_Growing_1_many : Addr)
  (fd_Growing_1_many : FuncData)
  (f_by_lengths_0 : Addr)
  (fd_by_lengths_0 : FuncData)
  (f_Growing_1_lengths : Addr)
  (fd_Growing_1_lengths : FuncData)
  (f_show_list_0 : Addr)
  (fd_show_list_0 : FuncData)
  (f_next_of_0 : Addr)
  (fd_next_of_0 : FuncData)
  (f_parts_0 : Addr)
  (fd_parts_0 : FuncData)
  (f_ways_from_0 : Addr)
  (fd_ways_from_0 : FuncData)
  (f_many_ways_0 : Addr)
  (fd_many_ways_0 : FuncData)
  (f_Desk_0_alone : Addr)
  (fd_Desk_0_alone : FuncData)
  (f_need_letters_2x : Addr)
  (fd_need_letters_2x : FuncData)
  (f_has_all_0 : Addr)
  (fd_has_all_0 : FuncData)
  (f_arches_0x : Addr)
  (fd_arches_0x : FuncData)
  (f_Growing_1_putx : Addr)
  (fd_Growing_1_putx : FuncData)
  (f_left_at_0x : Addr)
  (fd_left_at_0x : FuncData)
  (f_need_letters_1x : Addr)
  (fd_need_letters_1x : FuncData)
  (f_lacks_from_0 : Addr)
  (fd_lacks_from_0 : FuncData)
  (f_shortest_not_left_1x : Addr)
  (fd_shortest_not_left_1x : FuncData)
  (f_way_at_0x : Addr)
  (fd_way_at_0x : FuncData)
  (f_is_row_0 : Addr)
  (fd_is_row_0 : FuncData)
  (f_row_in_0 : Addr)
  (fd_row_in_0 : FuncData)
  (f_first_places_0 : Addr)
  (fd_first_places_0 : FuncData)
  (f_is_left_0 : Addr)
  (fd_is_left_0 : FuncData)
  (f_Growing_1_has : Addr)
  (fd_Growing_1_has : FuncData)
  (f_place_of_0x : Addr)
  (fd_place_of_0x : FuncData)
  (f_Desk_0_new_row : Addr)
  (fd_Desk_0_new_row : FuncData)
  (f_Desk_0_of_a_row : Addr)
  (fd_Desk_0_of_a_row : FuncData)
  (f_Desk_0_of_a_word : Addr)
  (fd_Desk_0_of_a_word : FuncData)
  (f_Desk_0_say : Addr)
  (fd_Desk_0_say : FuncData)
  (f_law_is_number_0 : Addr)
  (fd_law_is_number_0 : FuncData)
  (f_law_number_due_0 : Addr)
  (fd_law_number_due_0 : FuncData)
  (f_law_are_small_0 : Addr)
  (fd_law_are_small_0 : FuncData)
  (f_law_is_row_0 : Addr)
  (fd_law_is_row_0 : FuncData)
  (f_law_word_due_0 : Addr)
  (fd_law_word_due_0 : FuncData)
  (f_law_due_7 : Addr)
  (fd_law_due_7 : FuncData)
  (f_law_met_0 : Addr)
  (fd_law_met_0 : FuncData)
  (f_law_shown_2 : Addr)
  (fd_law_shown_2 : FuncData)
  (f_law_things_right_0 : Addr)
  (fd_law_things_right_0 : FuncData)
  (f_law_k52 : Addr)
  (fd_law_k52 : FuncData)
  (C_Desk : Addr)
  g_Desk : mg "Desk" = some (.ref C_Desk)
  kl_Desk : Kl K C_Desk ["grown", "beside"]
  (C_Growing : Addr)
  g_Growing : mg "Growing" = some (.ref C_Growing)
  kl_Growing : Kl K C_Growing ["letters"]
  (er : Nat → Addr)
  e_LeaveError : mg "LeaveError" = some (.ref (er 0))
  e_NoCommand : mg "NoCommand" = some (.ref (er 1))
  e_NoLetter : mg "NoLetter" = some (.ref (er 2))
  e_NoLetters : mg "NoLetters" = some (.ref (er 3))
  e_NoPlace : mg "NoPlace" = some (.ref (er 4))
  e_NoRow : mg "NoRow" = some (.ref (er 5))
  e_NoText : mg "NoText" = some (.ref (er 6))
  ER_1 : ErrC K er 1
  ER_2 : ErrC K er 2
  ER_3 : ErrC K er 3
  ER_4 : ErrC K er 4
  ER_5 : ErrC K er 5
  ER_6 : ErrC K er 6
  F_Growing_1_init : Fun K "__init__" "Growing.__init__" s_Growing_1_init f_Growing_1_init fd_Growing_1_init
  M_Growing : Mk K C_Growing f_Growing_1_init
  b_Growing_1_init : Binds K fd_Growing_1_init ["self"] []
  F_Desk_0_init : Fun K "__init__" "Desk.__init__" s_Desk_0_init f_Desk_0_init fd_Desk_0_init
  M_Desk : Mk K C_Desk f_Desk_0_init
  b_Desk_0_init : Binds K fd_Desk_0_init ["self"] []
  F_law_take_1 : Fun K "_law_take" "_law_take" s_law_take_1 f_law_take_1 fd_law_take_1
  a_law_take_1 : mg "_law_take" = some (.ref f_law_take_1)
  b_law_take_1 : Binds K fd_law_take_1 ["deck", "many"] []
  F_law_deck_0 : Fun K "_law_deck" "_law_deck" s_law_deck_0 f_law_deck_0 fd_law_deck_0
  a_law_deck_0 : mg "_law_deck" = some (.ref f_law_deck_0)
  b_law_deck_0 : Binds K fd_law_deck_0 ["cell", "k"] []
  F_law_some_number_0 : Fun K "_law_some_number" "_law_some_number" s_law_some_number_0 f_law_some_number_0 fd_law_some_number_0
  a_law_some_number_0 : mg "_law_some_number" = some (.ref f_law_some_number_0)
  b_law_some_number_0 : Binds K fd_law_some_number_0 ["deck"] []
  F_law_some_row_0 : Fun K "_law_some_row" "_law_some_row" s_law_some_row_0 f_law_some_row_0 fd_law_some_row_0
  a_law_some_row_0 : mg "_law_some_row" = some (.ref f_law_some_row_0)
  b_law_some_row_0 : Binds K fd_law_some_row_0 ["deck"] []
  F_law_some_letters_1 : Fun K "_law_some_letters" "_law_some_letters" s_law_some_letters_1 f_law_some_letters_1 fd_law_some_letters_1
  a_law_some_letters_1 : mg "_law_some_letters" = some (.ref f_law_some_letters_1)
  b_law_some_letters_1 : Binds K fd_law_some_letters_1 ["deck"] []
  F_law_some_words_0 : Fun K "_law_some_words" "_law_some_words" s_law_some_words_0 f_law_some_words_0 fd_law_some_words_0
  a_law_some_words_0 : mg "_law_some_words" = some (.ref f_law_some_words_0)
  b_law_some_words_0 : Binds K fd_law_some_words_0 ["cell"] []
  F_Growing_1_row : Fun K "row" "Growing.row" s_Growing_1_row f_Growing_1_row fd_Growing_1_row
  m_Growing_1_row : Meth K C_Growing "row" f_Growing_1_row
  b_Growing_1_row : Binds K fd_Growing_1_row ["self"] []
  F_next_tables_0 : Fun K "next_tables" "next_tables" s_next_tables_0 f_next_tables_0 fd_next_tables_0
  a_next_tables_0 : mg "next_tables" = some (.ref f_next_tables_0)
  b_next_tables_0 : Binds K fd_next_tables_0 ["row"] []
  F_put_on_0 : Fun K "put_on" "put_on" s_put_on_0 f_put_on_0 fd_put_on_0
  a_put_on_0 : mg "put_on" = some (.ref f_put_on_0)
  b_put_on_0 : Binds K fd_put_on_0 ["lengths", "others", "lost"] []
  F_lengths_from_0 : Fun K "lengths_from" "lengths_from" s_lengths_from_0 f_lengths_from_0 fd_lengths_from_0
  a_lengths_from_0 : mg "lengths_from" = some (.ref f_lengths_from_0)
  b_lengths_from_0 : Binds K fd_lengths_from_0 ["row"] []
  F_is_whole_0x : Fun K "is_whole" "is_whole" s_is_whole_0x f_is_whole_0x fd_is_whole_0x
  a_is_whole_0x : mg "is_whole" = some (.ref f_is_whole_0x)
  b_is_whole_0x : Binds K fd_is_whole_0x ["thing"] []
  F_many_of_0 : Fun K "many_of" "many_of" s_many_of_0 f_many_of_0 fd_many_of_0
  a_many_of_0 : mg "many_of" = some (.ref f_many_of_0)
  b_many_of_0 : Binds K fd_many_of_0 ["tables", "begin", "length"] []
  F_of_length_at_0x : Fun K "of_length_at" "of_length_at" s_of_length_at_0x f_of_length_at_0x fd_of_length_at_0x
  a_of_length_at_0x : mg "of_length_at" = some (.ref f_of_length_at_0x)
  b_of_length_at_0x : Binds K fd_of_length_at_0x ["row", "length", "place"] []
  F_read_number_0n : Fun K "read_number" "read_number" s_read_number_0n f_read_number_0n fd_read_number_0n
  a_read_number_0n : mg "read_number" = some (.ref f_read_number_0n)
  b_read_number_0n : Binds K fd_read_number_0n ["word"] []
  F_number_in_0 : Fun K "number_in" "number_in" s_number_in_0 f_number_in_0 fd_number_in_0
  a_number_in_0 : mg "number_in" = some (.ref f_number_in_0)
  b_number_in_0 : Binds K fd_number_in_0 ["word"] []
  F_shown_0 : Fun K "shown" "shown" s_shown_0 f_shown_0 fd_shown_0
  a_shown_0 : mg "shown" = some (.ref f_shown_0)
  b_shown_0 : Binds K fd_shown_0 ["row"] []
  F_next_at_0 : Fun K "next_at" "next_at" s_next_at_0 f_next_at_0 fd_next_at_0
  a_next_at_0 : mg "next_at" = some (.ref f_next_at_0)
  b_next_at_0 : Binds K fd_next_at_0 ["row", "place", "letter"] []
  F_goings_on_0 : Fun K "goings_on" "goings_on" s_goings_on_0 f_goings_on_0 fd_goings_on_0
  a_goings_on_0 : mg "goings_on" = some (.ref f_goings_on_0)
  b_goings_on_0 : Binds K fd_goings_on_0 ["one", "other"] []
  F_many_common_0 : Fun K "many_common" "many_common" s_many_common_0 f_many_common_0 fd_many_common_0
  a_many_common_0 : mg "many_common" = some (.ref f_many_common_0)
  b_many_common_0 : Binds K fd_many_common_0 ["one", "other"] []
  F_longest_from_0 : Fun K "longest_from" "longest_from" s_longest_from_0 f_longest_from_0 fd_longest_from_0
  a_longest_from_0 : mg "longest_from" = some (.ref f_longest_from_0)
  b_longest_from_0 : Binds K fd_longest_from_0 ["one", "other"] []
  F_longest_common_0 : Fun K "longest_common" "longest_common" s_longest_common_0 f_longest_common_0 fd_longest_common_0
  a_longest_common_0 : mg "longest_common" = some (.ref f_longest_common_0)
  b_longest_common_0 : Binds K fd_longest_common_0 ["one", "other"] []
  F_Growing_1_undo : Fun K "undo" "Growing.undo" s_Growing_1_undo f_Growing_1_undo fd_Growing_1_undo
  m_Growing_1_undo : Meth K C_Growing "undo" f_Growing_1_undo
  b_Growing_1_undo : Binds K fd_Growing_1_undo ["self"] []
  F_counts_from_0 : Fun K "counts_from" "counts_from" s_counts_from_0 f_counts_from_0 fd_counts_from_0
  a_counts_from_0 : mg "counts_from" = some (.ref f_counts_from_0)
  b_counts_from_0 : Binds K fd_counts_from_0 ["row"] []
  F_many_left_0 : Fun K "many_left" "many_left" s_many_left_0 f_many_left_0 fd_many_left_0
  a_many_left_0 : mg "many_left" = some (.ref f_many_left_0)
  b_many_left_0 : Binds K fd_many_left_0 ["row"] []
  F_Growing_1_many : Fun K "many" "Growing.many" s_Growing_1_many f_Growing_1_many fd_Growing_1_many
  m_Growing_1_many : Meth K C_Growing "many" f_Growing_1_many
  b_Growing_1_many : Binds K fd_Growing_1_many ["self"] []
  F_by_lengths_0 : Fun K "by_lengths" "by_lengths" s_by_lengths_0 f_by_lengths_0 fd_by_lengths_0
  a_by_lengths_0 : mg "by_lengths" = some (.ref f_by_lengths_0)
  b_by_lengths_0 : Binds K fd_by_lengths_0 ["row"] []
  F_Growing_1_lengths : Fun K "lengths" "Growing.lengths" s_Growing_1_lengths f_Growing_1_lengths fd_Growing_1_lengths
  m_Growing_1_lengths : Meth K C_Growing "lengths" f_Growing_1_lengths
  b_Growing_1_lengths : Binds K fd_Growing_1_lengths ["self"] []
  F_show_list_0 : Fun K "show_list" "show_list" s_show_list_0 f_show_list_0 fd_show_list_0
  a_show_list_0 : mg "show_list" = some (.ref f_show_list_0)
  b_show_list_0 : Binds K fd_show_list_0 ["numbers"] []
  F_next_of_0 : Fun K "next_of" "next_of" s_next_of_0 f_next_of_0 fd_next_of_0
  a_next_of_0 : mg "next_of" = some (.ref f_next_of_0)
  b_next_of_0 : Binds K fd_next_of_0 ["word", "place", "letter"] []
  F_parts_0 : Fun K "parts" "parts" s_parts_0 f_parts_0 fd_parts_0
  a_parts_0 : mg "parts" = some (.ref f_parts_0)
  b_parts_0 : Binds K fd_parts_0 ["one", "other"] []
  F_ways_from_0 : Fun K "ways_from" "ways_from" s_ways_from_0 f_ways_from_0 fd_ways_from_0
  a_ways_from_0 : mg "ways_from" = some (.ref f_ways_from_0)
  b_ways_from_0 : Binds K fd_ways_from_0 ["row", "other"] []
  F_many_ways_0 : Fun K "many_ways" "many_ways" s_many_ways_0 f_many_ways_0 fd_many_ways_0
  a_many_ways_0 : mg "many_ways" = some (.ref f_many_ways_0)
  b_many_ways_0 : Binds K fd_many_ways_0 ["row", "other"] []
  F_Desk_0_alone : Fun K "alone" "Desk.alone" s_Desk_0_alone f_Desk_0_alone fd_Desk_0_alone
  m_Desk_0_alone : Meth K C_Desk "alone" f_Desk_0_alone
  b_Desk_0_alone : Binds K fd_Desk_0_alone ["self", "words"] []
  F_need_letters_2x : Fun K "need_letters" "need_letters" s_need_letters_2x f_need_letters_2x fd_need_letters_2x
  a_need_letters_2x : mg "need_letters_arches" = some (.ref f_need_letters_2x)
  b_need_letters_2x : Binds K fd_need_letters_2x ["thing"] []
  F_has_all_0 : Fun K "has_all" "has_all" s_has_all_0 f_has_all_0 fd_has_all_0
  a_has_all_0 : mg "has_all" = some (.ref f_has_all_0)
  b_has_all_0 : Binds K fd_has_all_0 ["word", "letters"] []
  F_arches_0x : Fun K "arches" "arches" s_arches_0x f_arches_0x fd_arches_0x
  a_arches_0x : mg "arches" = some (.ref f_arches_0x)
  b_arches_0x : Binds K fd_arches_0x ["row", "letters"] []
  F_Growing_1_putx : Fun K "put" "Growing.put" s_Growing_1_putx f_Growing_1_putx fd_Growing_1_putx
  m_Growing_1_putx : Meth K C_Growing "put" f_Growing_1_putx
  b_Growing_1_putx : Binds K fd_Growing_1_putx ["self", "letter"] []
  F_left_at_0x : Fun K "left_at" "left_at" s_left_at_0x f_left_at_0x fd_left_at_0x
  a_left_at_0x : mg "left_at" = some (.ref f_left_at_0x)
  b_left_at_0x : Binds K fd_left_at_0x ["row", "place"] []
  F_need_letters_1x : Fun K "need_letters" "need_letters" s_need_letters_1x f_need_letters_1x fd_need_letters_1x
  a_need_letters_1x : mg "need_letters_shortest" = some (.ref f_need_letters_1x)
  b_need_letters_1x : Binds K fd_need_letters_1x ["thing"] []
  F_lacks_from_0 : Fun K "lacks_from" "lacks_from" s_lacks_from_0 f_lacks_from_0 fd_lacks_from_0
  a_lacks_from_0 : mg "lacks_from" = some (.ref f_lacks_from_0)
  b_lacks_from_0 : Binds K fd_lacks_from_0 ["row", "letters"] []
  F_shortest_not_left_1x : Fun K "shortest_not_left" "shortest_not_left" s_shortest_not_left_1x f_shortest_not_left_1x fd_shortest_not_left_1x
  a_shortest_not_left_1x : mg "shortest_not_left" = some (.ref f_shortest_not_left_1x)
  b_shortest_not_left_1x : Binds K fd_shortest_not_left_1x ["row", "letters"] []
  F_way_at_0x : Fun K "way_at" "way_at" s_way_at_0x f_way_at_0x fd_way_at_0x
  a_way_at_0x : mg "way_at" = some (.ref f_way_at_0x)
  b_way_at_0x : Binds K fd_way_at_0x ["row", "other", "place"] []
  F_is_row_0 : Fun K "is_row" "is_row" s_is_row_0 f_is_row_0 fd_is_row_0
  a_is_row_0 : mg "is_row" = some (.ref f_is_row_0)
  b_is_row_0 : Binds K fd_is_row_0 ["thing"] []
  F_row_in_0 : Fun K "row_in" "row_in" s_row_in_0 f_row_in_0 fd_row_in_0
  a_row_in_0 : mg "row_in" = some (.ref f_row_in_0)
  b_row_in_0 : Binds K fd_row_in_0 ["word"] []
  F_first_places_0 : Fun K "first_places" "first_places" s_first_places_0 f_first_places_0 fd_first_places_0
  a_first_places_0 : mg "first_places" = some (.ref f_first_places_0)
  b_first_places_0 : Binds K fd_first_places_0 ["row", "other"] []
  F_is_left_0 : Fun K "is_left" "is_left" s_is_left_0 f_is_left_0 fd_is_left_0
  a_is_left_0 : mg "is_left" = some (.ref f_is_left_0)
  b_is_left_0 : Binds K fd_is_left_0 ["row", "thing"] []
  F_Growing_1_has : Fun K "has" "Growing.has" s_Growing_1_has f_Growing_1_has fd_Growing_1_has
  m_Growing_1_has : Meth K C_Growing "has" f_Growing_1_has
  b_Growing_1_has : Binds K fd_Growing_1_has ["self", "thing"] []
  F_place_of_0x : Fun K "place_of" "place_of" s_place_of_0x f_place_of_0x fd_place_of_0x
  a_place_of_0x : mg "place_of" = some (.ref f_place_of_0x)
  b_place_of_0x : Binds K fd_place_of_0x ["row", "thing"] []
  F_Desk_0_new_row : Fun K "new_row" "Desk.new_row" s_Desk_0_new_row f_Desk_0_new_row fd_Desk_0_new_row
  m_Desk_0_new_row : Meth K C_Desk "new_row" f_Desk_0_new_row
  b_Desk_0_new_row : Binds K fd_Desk_0_new_row ["self", "row"] []
  F_Desk_0_of_a_row : Fun K "of_a_row" "Desk.of_a_row" s_Desk_0_of_a_row f_Desk_0_of_a_row fd_Desk_0_of_a_row
  m_Desk_0_of_a_row : Meth K C_Desk "of_a_row" f_Desk_0_of_a_row
  b_Desk_0_of_a_row : Binds K fd_Desk_0_of_a_row ["self", "head", "row"] []
  F_Desk_0_of_a_word : Fun K "of_a_word" "Desk.of_a_word" s_Desk_0_of_a_word f_Desk_0_of_a_word fd_Desk_0_of_a_word
  m_Desk_0_of_a_word : Meth K C_Desk "of_a_word" f_Desk_0_of_a_word
  b_Desk_0_of_a_word : Binds K fd_Desk_0_of_a_word ["self", "head", "word"] []
  F_Desk_0_say : Fun K "say" "Desk.say" s_Desk_0_say f_Desk_0_say fd_Desk_0_say
  m_Desk_0_say : Meth K C_Desk "say" f_Desk_0_say
  b_Desk_0_say : Binds K fd_Desk_0_say ["self", "words"] []
  F_law_is_number_0 : Fun K "_law_is_number" "_law_is_number" s_law_is_number_0 f_law_is_number_0 fd_law_is_number_0
  a_law_is_number_0 : mg "_law_is_number" = some (.ref f_law_is_number_0)
  b_law_is_number_0 : Binds K fd_law_is_number_0 ["word"] []
  F_law_number_due_0 : Fun K "_law_number_due" "_law_number_due" s_law_number_due_0 f_law_number_due_0 fd_law_number_due_0
  a_law_number_due_0 : mg "_law_number_due" = some (.ref f_law_number_due_0)
  b_law_number_due_0 : Binds K fd_law_number_due_0 ["desk", "head", "numbers"] []
  F_law_are_small_0 : Fun K "_law_are_small" "_law_are_small" s_law_are_small_0 f_law_are_small_0 fd_law_are_small_0
  a_law_are_small_0 : mg "_law_are_small" = some (.ref f_law_are_small_0)
  b_law_are_small_0 : Binds K fd_law_are_small_0 ["word"] []
  F_law_is_row_0 : Fun K "_law_is_row" "_law_is_row" s_law_is_row_0 f_law_is_row_0 fd_law_is_row_0
  a_law_is_row_0 : mg "_law_is_row" = some (.ref f_law_is_row_0)
  b_law_is_row_0 : Binds K fd_law_is_row_0 ["word"] []
  F_law_word_due_0 : Fun K "_law_word_due" "_law_word_due" s_law_word_due_0 f_law_word_due_0 fd_law_word_due_0
  a_law_word_due_0 : mg "_law_word_due" = some (.ref f_law_word_due_0)
  b_law_word_due_0 : Binds K fd_law_word_due_0 ["desk", "head", "word"] []
  F_law_due_7 : Fun K "_law_due" "_law_due" s_law_due_7 f_law_due_7 fd_law_due_7
  a_law_due_7 : mg "_law_due" = some (.ref f_law_due_7)
  b_law_due_7 : Binds K fd_law_due_7 ["desk", "words"] []
  F_law_met_0 : Fun K "_law_met" "_law_met" s_law_met_0 f_law_met_0 fd_law_met_0
  a_law_met_0 : mg "_law_met" = some (.ref f_law_met_0)
  b_law_met_0 : Binds K fd_law_met_0 ["desk", "words", "due"] []
  F_law_shown_2 : Fun K "_law_shown" "_law_shown" s_law_shown_2 f_law_shown_2 fd_law_shown_2
  a_law_shown_2 : mg "_law_shown" = some (.ref f_law_shown_2)
  b_law_shown_2 : Binds K fd_law_shown_2 ["desk"] []
  F_law_things_right_0 : Fun K "_law_things_right" "_law_things_right" s_law_things_right_0 f_law_things_right_0 fd_law_things_right_0
  a_law_things_right_0 : mg "_law_things_right" = some (.ref f_law_things_right_0)
  b_law_things_right_0 : Binds K fd_law_things_right_0 ["desk"] []
  F_law_k52 : Fun K "law" "law" s_law_k52 f_law_k52 fd_law_k52
  z_ValueError : mg "ValueError" = none
  z_all : mg "all" = none
  z_bool : mg "bool" = none
  z_dict : mg "dict" = none
  z_enumerate : mg "enumerate" = none
  z_int : mg "int" = none
  z_isinstance : mg "isinstance" = none
  z_len : mg "len" = none
  z_list : mg "list" = none
  z_max : mg "max" = none
  z_min : mg "min" = none
  z_range : mg "range" = none
  z_set : mg "set" = none
  z_sorted : mg "sorted" = none
  z_str : mg "str" = none
  z_sum : mg "sum" = none
  z_zip : mg "zip" = none
  (ct_FIGURES : Tok)
  c_FIGURES : mg "FIGURES" = some (.str (S [48, 49, 50, 51, 52, 53, 54, 55, 56, 57]) ct_FIGURES)
  (a_HEADS : Addr)
  c_HEADS : mg "HEADS" = some (.ref a_HEADS)
  kt_HEADS : KTup K a_HEADS [[114, 111, 119], [111, 116, 104, 101, 114], [112, 117, 116], [108, 101, 102, 116], [97, 116], [112, 108, 97, 99, 101], [119, 97, 121], [115, 104, 111, 114, 116], [97, 114, 99, 104, 101, 115]]
  (ct_LETTERS : Tok)
  c_LETTERS : mg "LETTERS" = some (.str (S [97, 98, 99, 100, 101, 102, 103, 104, 105, 106, 107, 108, 109, 110, 111, 112, 113, 114, 115, 116, 117, 118, 119, 120, 121, 122]) ct_LETTERS)
  (ct_MOST_FIGURES : Tok)
  c_MOST_FIGURES : mg "MOST_FIGURES" = some (.int 30 ct_MOST_FIGURES)
  (ct_MOST_LETTERS_desk : Tok)
  c_MOST_LETTERS_desk : mg "MOST_LETTERS_desk" = some (.int 80 ct_MOST_LETTERS_desk)
  (ct_MOST_LETTERS_growing : Tok)
  c_MOST_LETTERS_growing : mg "MOST_LETTERS_growing" = some (.int 80 ct_MOST_LETTERS_growing)
  (ct_SMALL_arches : Tok)
  c_SMALL_arches : mg "SMALL_arches" = some (.str (S [97, 98, 99, 100, 101, 102, 103, 104, 105, 106, 107, 108, 109, 110, 111, 112, 113, 114, 115, 116, 117, 118, 119, 120, 121, 122]) ct_SMALL_arches)
  (ct_SMALL_growing : Tok)
  c_SMALL_growing : mg "SMALL_growing" = some (.str (S [97, 98, 99, 100, 101, 102, 103, 104, 105, 106, 107, 108, 109, 110, 111, 112, 113, 114, 115, 116, 117, 118, 119, 120, 121, 122]) ct_SMALL_growing)
  (ct_SMALL_shortest : Tok)
  c_SMALL_shortest : mg "SMALL_shortest" = some (.str (S [97, 98, 99, 100, 101, 102, 103, 104, 105, 106, 107, 108, 109, 110, 111, 112, 113, 114, 115, 116, 117, 118, 119, 120, 121, 122]) ct_SMALL_shortest)
section
variable {P : Program} {w : World} {K : PySem.W.Frag} {mg : Str → Option Value} {base : Heap}
theorem ok_Growing_1_init (T : Txt K mg) : FnOk P w K mg base CX0 1 T.f_Growing_1_init T.fd_Growing_1_init ["self"] (sp_Growing_1_init K T.C_Growing) := by
  have nd := sc_Growing_1_init.nd
  refine T.F_Growing_1_init.ok sc_Growing_1_init (fun vs H Q E h => ?_) (fun cdv A outer s H vs Q E hr h => ⟨t_Growing_1_init K T.C_Growing, ?_, pure_Growing_1_init T.kl_Growing vs H Q E h⟩)
  · unfold sp_Growing_1_init at h
    repeat (first | (obtain ⟨rfl, _⟩ := h; rfl) | (obtain ⟨_, h⟩ := h))
  · unfold t_Growing_1_init
    exact (pss_one (ps_fld (pv 0) (Lv.pe_strS (l := []) (by decide +kernel)) (by rfl)))
theorem ok_Desk_0_init (T : Txt K mg) : FnOk P w K mg base CX0 3 T.f_Desk_0_init T.fd_Desk_0_init ["self"] (sp_Desk_0_init K T.C_Desk T.C_Growing) := by
  have nd := sc_Desk_0_init.nd
  have G_Growing_1_init := ok_Growing_1_init (P := P) (w := w) (base := base) T
  refine T.F_Desk_0_init.ok sc_Desk_0_init (fun vs H Q E h => ?_) (fun cdv A outer s H vs Q E hr h => ⟨t_Desk_0_init K T.C_Desk T.C_Growing, ?_, pure_Desk_0_init T.kl_Desk T.kl_Growing vs H Q E h⟩)
  · unfold sp_Desk_0_init at h
    repeat (first | (obtain ⟨rfl, _⟩ := h; rfl) | (obtain ⟨_, h⟩ := h))
  · unfold t_Desk_0_init
    exact (pss_cons (ps_fld (pv 0) (pe_make0 T.M_Growing G_Growing_1_init (hr.mono (by decide)) (by rfl) T.g_Growing T.b_Growing_1_init .nil pass0) (by rfl)) (pss_one (ps_fld (pv 0) (Lv.pe_strS (l := []) (by decide +kernel)) (by rfl))))
theorem ok_law_take_1 (T : Txt K mg) : FnOk P w K mg base CX0 1 T.f_law_take_1 T.fd_law_take_1 ["deck", "many"] (sp_law_take_1 K) := by
  have nd := sc_law_take_1.nd
  refine T.F_law_take_1.ok sc_law_take_1 (fun vs H Q E h => ?_) (fun cdv A outer s H vs Q E hr h => ⟨t_law_take_1 K, ?_, pure_law_take_1 vs H Q E h⟩)
  · unfold sp_law_take_1 at h
    repeat (first | (obtain ⟨rfl, _⟩ := h; rfl) | (obtain ⟨_, h⟩ := h))
  · unfold t_law_take_1
    exact (pss_cons (ps_if (pt_cmpR Lv.op_eqI (pe_ix ix_list (pv 0) pe_int (fun _ _ => rfl)) pe_int (nomark _)) (pss_cons (ps_set (i := 2) nd rfl (by first | exact Or.inl rfl | exact Or.inr rfl) (pe_op op_mod (pe_ix ix_list (pv 0) pe_int (fun _ _ => rfl)) (pv 1))) (pss_cons (ps_asg (pe_op op_fdivW (pe_ix ix_list (pv 0) pe_int (fun _ _ => rfl)) (pv 1)) (pg_sub (pv 0) pe_int set_list)) (pss_one (ps_ret (pv 2))))) pss_nil) (pss_cons (ps_asg (pe_op op_add (pe_ix ix_list (pv 0) pe_int (fun _ _ => rfl)) pe_int) (pg_sub (pv 0) pe_int set_list)) (pss_cons (ps_set (i := 3) nd rfl (by first | exact Or.inl rfl | exact Or.inr rfl) (pe_op op_mul (pe_op op_mod (pe_ix ix_list (pv 0) pe_int (fun _ _ => rfl)) pe_int) (pe_op op_add (pe_op op_mul (pe_ix ix_list (pv 0) pe_int (fun _ _ => rfl)) (pe_ix ix_list (pv 0) pe_int (fun _ _ => rfl))) pe_int))) (pss_cons (ps_set (i := 3) nd rfl (by first | exact Or.inl rfl | exact Or.inr rfl) (pe_op op_mod (pe_op op_add (pe_op op_add (pv 3) (pe_ix ix_list (pv 0) pe_int (fun _ _ => rfl))) pe_int) pe_int)) (pss_cons (ps_set (i := 3) nd rfl (by first | exact Or.inl rfl | exact Or.inr rfl) (pe_op op_mod (pe_op op_mul (pv 3) (pv 3)) pe_int)) (pss_one (ps_ret (pe_op op_mod (pe_op op_fdiv (pe_op op_mod (pe_op op_mul (pv 3) pe_int) pe_int) pe_int) (pv 1)))))))))
theorem ok_law_deck_0 (T : Txt K mg) : FnOk P w K mg base CX0 1 T.f_law_deck_0 T.fd_law_deck_0 ["cell", "k"] (sp_law_deck_0 K) := by
  have nd := sc_law_deck_0.nd
  refine T.F_law_deck_0.ok sc_law_deck_0 (fun vs H Q E h => ?_) (fun cdv A outer s H vs Q E hr h => ⟨t_law_deck_0 K, ?_, pure_law_deck_0 vs H Q E h⟩)
  · unfold sp_law_deck_0 at h
    repeat (first | (obtain ⟨rfl, _⟩ := h; rfl) | (obtain ⟨_, h⟩ := h))
  · unfold t_law_deck_0
    exact (pss_cons (ps_if (pt_cmpR op_ge (pv 0) (pe_op op_pow pe_int pe_int) (nomark _)) (pss_one (ps_ret (pe_lst (pa_cons (pe_op op_sub (pv 0) (pe_op op_pow pe_int pe_int)) (pa_cons pe_int (pa_cons (pv 1) pa_nil)))))) pss_nil) (pss_one (ps_ret (pe_lst (pa_cons (pv 0) (pa_cons pe_int (pa_cons (pv 1) pa_nil)))))))
theorem ok_law_some_number_0 (T : Txt K mg) : FnOk P w K mg base CX0 2 T.f_law_some_number_0 T.fd_law_some_number_0 ["deck"] (sp_law_some_number_0 K) := by
  have nd := sc_law_some_number_0.nd
  have G_law_take_1 := ok_law_take_1 (P := P) (w := w) (base := base) T
  refine T.F_law_some_number_0.ok sc_law_some_number_0 (fun vs H Q E h => ?_) (fun cdv A outer s H vs Q E hr h => ⟨t_law_some_number_0 K, ?_, pure_law_some_number_0 vs H Q E h⟩)
  · unfold sp_law_some_number_0 at h
    repeat (first | (obtain ⟨rfl, _⟩ := h; rfl) | (obtain ⟨_, h⟩ := h))
  · unfold t_law_some_number_0
    exact (pss_cons (ps_set (i := 1) nd rfl (by first | exact Or.inl rfl | exact Or.inr rfl) (pe_lst (pa_cons (Lv.pe_strS (l := [48]) (by decide +kernel)) (pa_cons (Lv.pe_strS (l := [49]) (by decide +kernel)) (pa_cons (Lv.pe_strS (l := [50]) (by decide +kernel)) (pa_cons (Lv.pe_strS (l := [55]) (by decide +kernel)) (pa_cons (Lv.pe_strS (l := [51, 48]) (by decide +kernel)) (pa_cons (pe_op Lv.op_mulS1 (Lv.pe_strS (l := [49]) (by decide +kernel)) pe_int) (pa_cons (pe_op Lv.op_mulS1 (Lv.pe_strS (l := [49]) (by decide +kernel)) pe_int) (pa_cons (Lv.pe_strS (l := [48, 48]) (by decide +kernel)) (pa_cons (Lv.pe_strS (l := [48, 49]) (by decide +kernel)) (pa_cons (Lv.pe_strS (l := [45, 49]) (by decide +kernel)) (pa_cons (Lv.pe_strS (l := []) (by decide +kernel)) (pa_cons (Lv.pe_strS (l := [120]) (by decide +kernel)) (pa_cons (Lv.pe_strS (l := [49, 46, 48]) (by decide +kernel)) pa_nil))))))))))))))) (pss_cons (ps_set (i := 1) nd rfl (by first | exact Or.inl rfl | exact Or.inr rfl) (pe_op op_cat (pv 1) (pe_lst (pa_cons (Lv.pe_strS (l := [43, 49]) (by decide +kernel)) (pa_cons (Lv.pe_strS (l := [49, 95, 48]) (by decide +kernel)) pa_nil))))) (pss_one (ps_ret (pe_ix ix_list (pv 1) (pe_call G_law_take_1 (hr.mono (by decide)) (by rfl) T.a_law_take_1 T.F_law_take_1.kp T.b_law_take_1 .nil pass0 (pa_cons (pv 0) (pa_cons (pe_ix ix_list (pe_lst (pa_cons pe_int (pa_cons pe_int pa_nil))) (pe_call G_law_take_1 (hr.mono (by decide)) (by rfl) T.a_law_take_1 T.F_law_take_1.kp T.b_law_take_1 .nil pass0 (pa_cons (pv 0) (pa_cons pe_int pa_nil))) (fun _ _ => rfl)) pa_nil))) (fun _ _ => rfl))))))
theorem ok_law_some_row_0 (T : Txt K mg) : FnOk P w K mg base CX0 2 T.f_law_some_row_0 T.fd_law_some_row_0 ["deck"] (sp_law_some_row_0 K) := by
  have nd := sc_law_some_row_0.nd
  have G_law_take_1 := ok_law_take_1 (P := P) (w := w) (base := base) T
  refine T.F_law_some_row_0.ok sc_law_some_row_0 (fun vs H Q E h => ?_) (fun cdv A outer s H vs Q E hr h => ⟨t_law_some_row_0 K, ?_, pure_law_some_row_0 vs H Q E h⟩)
  · unfold sp_law_some_row_0 at h
    repeat (first | (obtain ⟨rfl, _⟩ := h; rfl) | (obtain ⟨_, h⟩ := h))
  · unfold t_law_some_row_0
    exact (pss_cons (ps_set (i := 1) nd rfl (by first | exact Or.inl rfl | exact Or.inr rfl) (Lv.pe_strS (l := [33, 35, 36, 39, 40, 41, 42, 46, 47, 58, 59, 60, 61, 62, 63, 64, 66, 77, 88, 89, 91, 93, 94, 96, 123, 124, 125, 126, 48, 49, 50, 51, 52, 53, 54, 55, 56, 57]) (by decide +kernel))) (pss_cons (ps_set (i := 2) nd rfl (by first | exact Or.inl rfl | exact Or.inr rfl) (pe_lst (pa_cons (Lv.pe_strS (l := [97]) (by decide +kernel)) (pa_cons (Lv.pe_strS (l := [45]) (by decide +kernel)) (pa_cons (Lv.pe_strS (l := [97, 98]) (by decide +kernel)) (pa_cons (Lv.pe_strS (l := [97, 98, 97, 98]) (by decide +kernel)) (pa_cons (Lv.pe_strS (l := [98, 97]) (by decide +kernel)) (pa_cons (Lv.pe_strS (l := []) (by decide +kernel)) (pa_cons (Lv.pe_strS (l := [65]) (by decide +kernel)) (pa_cons (Lv.pe_strS (l := [97, 49]) (by decide +kernel)) (pa_cons (Lv.pe_strS (l := [45, 45]) (by decide +kernel)) (pa_cons (Lv.pe_strS (l := [97, 45]) (by decide +kernel)) (pa_cons (pe_op Lv.op_mulS1 (Lv.pe_strS (l := [122]) (by decide +kernel)) pe_int) (pa_cons (pe_op Lv.op_mulS1 (Lv.pe_strS (l := [122]) (by decide +kernel)) pe_int) pa_nil)))))))))))))) (pss_cons (ps_expr (pe_bm PySem.F.plainAttrs_list PySem.F.slot_list_append PySem.F.type_list_append mt_append (pv 2) (pa_cons (pe_op Lv.op_addS (Lv.pe_strS (l := [97]) (by decide +kernel)) (pe_ix Lv.ix_S (pv 1) (pe_call G_law_take_1 (hr.mono (by decide)) (by rfl) T.a_law_take_1 T.F_law_take_1.kp T.b_law_take_1 .nil pass0 (pa_cons (pv 0) (pa_cons (pe_callB Lv.call_lenT (by rfl) T.z_len (by decide +kernel) (pa_cons (pv 1) pa_nil)) pa_nil))) (fun _ _ => rfl))) pa_nil))) (pss_one (ps_ret (pe_ix ix_list (pv 2) (pe_call G_law_take_1 (hr.mono (by decide)) (by rfl) T.a_law_take_1 T.F_law_take_1.kp T.b_law_take_1 .nil pass0 (pa_cons (pv 0) (pa_cons (pe_ix ix_list (pe_lst (pa_cons pe_int (pa_cons pe_int pa_nil))) (pe_call G_law_take_1 (hr.mono (by decide)) (by rfl) T.a_law_take_1 T.F_law_take_1.kp T.b_law_take_1 .nil pass0 (pa_cons (pv 0) (pa_cons pe_int pa_nil))) (fun _ _ => rfl)) pa_nil))) (fun _ _ => rfl)))))))
theorem ok_law_some_letters_1 (T : Txt K mg) : FnOk P w K mg base CX0 2 T.f_law_some_letters_1 T.fd_law_some_letters_1 ["deck"] (sp_law_some_letters_1 K) := by
  have nd := sc_law_some_letters_1.nd
  have G_law_take_1 := ok_law_take_1 (P := P) (w := w) (base := base) T
  refine T.F_law_some_letters_1.ok sc_law_some_letters_1 (fun vs H Q E h => ?_) (fun cdv A outer s H vs Q E hr h => ⟨t_law_some_letters_1 K, ?_, pure_law_some_letters_1 vs H Q E h⟩)
  · unfold sp_law_some_letters_1 at h
    repeat (first | (obtain ⟨rfl, _⟩ := h; rfl) | (obtain ⟨_, h⟩ := h))
  · unfold t_law_some_letters_1
    exact (pss_cons (ps_set (i := 1) nd rfl (by first | exact Or.inl rfl | exact Or.inr rfl) (pe_lst (pa_cons (Lv.pe_strS (l := [97]) (by decide +kernel)) (pa_cons (Lv.pe_strS (l := [97, 98]) (by decide +kernel)) (pa_cons (Lv.pe_strS (l := [97, 98, 122]) (by decide +kernel)) (pa_cons (Lv.pe_strS (l := [122]) (by decide +kernel)) (pa_cons (Lv.pe_strS (l := []) (by decide +kernel)) (pa_cons (Lv.pe_strS (l := [98, 97]) (by decide +kernel)) (pa_cons (Lv.pe_strS (l := [97, 97]) (by decide +kernel)) (pa_cons (Lv.pe_strS (l := [65]) (by decide +kernel)) (pa_cons (Lv.pe_strS (l := [97, 49]) (by decide +kernel)) (pa_cons (Lv.pe_strS (l := [45]) (by decide +kernel)) (pa_cons (Lv.pe_strS (l := [97, 98, 99, 100, 101, 102, 103, 104, 105, 106, 107, 108, 109, 110, 111, 112, 113, 114, 115, 116, 117, 118, 119, 120, 121, 122]) (by decide +kernel)) (pa_cons (Lv.pe_strS (l := [97, 126]) (by decide +kernel)) pa_nil)))))))))))))) (pss_one (ps_ret (pe_ix ix_list (pv 1) (pe_call G_law_take_1 (hr.mono (by decide)) (by rfl) T.a_law_take_1 T.F_law_take_1.kp T.b_law_take_1 .nil pass0 (pa_cons (pv 0) (pa_cons (pe_ix ix_list (pe_lst (pa_cons pe_int (pa_cons pe_int pa_nil))) (pe_call G_law_take_1 (hr.mono (by decide)) (by rfl) T.a_law_take_1 T.F_law_take_1.kp T.b_law_take_1 .nil pass0 (pa_cons (pv 0) (pa_cons pe_int pa_nil))) (fun _ _ => rfl)) pa_nil))) (fun _ _ => rfl)))))
theorem ok_law_some_words_0 (T : Txt K mg) : FnOk P w K mg base CX0 3 T.f_law_some_words_0 T.fd_law_some_words_0 ["cell"] (sp_law_some_words_0 K) := by
  have nd := sc_law_some_words_0.nd
  have G_law_take_1 := ok_law_take_1 (P := P) (w := w) (base := base) T
  have G_law_deck_0 := ok_law_deck_0 (P := P) (w := w) (base := base) T
  have G_law_some_number_0 := ok_law_some_number_0 (P := P) (w := w) (base := base) T
  have G_law_some_row_0 := ok_law_some_row_0 (P := P) (w := w) (base := base) T
  have G_law_some_letters_1 := ok_law_some_letters_1 (P := P) (w := w) (base := base) T
  refine T.F_law_some_words_0.ok sc_law_some_words_0 (fun vs H Q E h => ?_) (fun cdv A outer s H vs Q E hr h => ⟨t_law_some_words_0 K, ?_, pure_law_some_words_0 vs H Q E h⟩)
  · unfold sp_law_some_words_0 at h
    repeat (first | (obtain ⟨rfl, _⟩ := h; rfl) | (obtain ⟨_, h⟩ := h))
  · unfold t_law_some_words_0
    exact (pss_cons (ps_set (i := 1) nd rfl (by first | exact Or.inl rfl | exact Or.inr rfl) (pe_call G_law_deck_0 (hr.mono (by decide)) (by rfl) T.a_law_deck_0 T.F_law_deck_0.kp T.b_law_deck_0 .nil pass0 (pa_cons (pv 0) (pa_cons pe_int pa_nil)))) (pss_cons (ps_set (i := 2) nd rfl (by first | exact Or.inl rfl | exact Or.inr rfl) (pe_call G_law_take_1 (hr.mono (by decide)) (by rfl) T.a_law_take_1 T.F_law_take_1.kp T.b_law_take_1 .nil pass0 (pa_cons (pv 1) (pa_cons pe_int pa_nil)))) (Evl.pss_cut (ps_if (pt_cmpR op_lt (pv 2) pe_int (nomark _)) (pss_one (ps_set (i := 3) nd rfl (by first | exact Or.inl rfl | exact Or.inr rfl) (pe_op Lv.op_addS (Lv.pe_strS (l := [112, 117, 116, 32]) (by decide +kernel)) (pe_call G_law_some_letters_1 (hr.mono (by decide)) (by rfl) T.a_law_some_letters_1 T.F_law_some_letters_1.kp T.b_law_some_letters_1 .nil pass0 (pa_cons (pv 1) pa_nil))))) (pss_one (ps_if (pt_cmpR op_lt (pv 2) pe_int (nomark _)) (pss_one (ps_set (i := 3) nd rfl (by first | exact Or.inl rfl | exact Or.inr rfl) (pe_op Lv.op_addS (pe_ix ix_list (pe_lst (pa_cons (Lv.pe_strS (l := [97, 116, 32]) (by decide +kernel)) (pa_cons (Lv.pe_strS (l := [119, 97, 121, 32]) (by decide +kernel)) pa_nil))) (pe_op op_sub (pv 2) pe_int) (fun _ _ => rfl)) (pe_call G_law_some_number_0 (hr.mono (by decide)) (by rfl) T.a_law_some_number_0 T.F_law_some_number_0.kp T.b_law_some_number_0 .nil pass0 (pa_cons (pv 1) pa_nil))))) (pss_one (ps_if (pt_cmpR Lv.op_eqI (pv 2) pe_int (nomark _)) (pss_one (ps_set (i := 3) nd rfl (by first | exact Or.inl rfl | exact Or.inr rfl) (pe_op Lv.op_addS (pe_op Lv.op_addS (pe_op Lv.op_addS (Lv.pe_strS (l := [108, 111, 110, 103, 32]) (by decide +kernel)) (pe_call G_law_some_number_0 (hr.mono (by decide)) (by rfl) T.a_law_some_number_0 T.F_law_some_number_0.kp T.b_law_some_number_0 .nil pass0 (pa_cons (pv 1) pa_nil))) (Lv.pe_strS (l := [32]) (by decide +kernel))) (pe_call G_law_some_number_0 (hr.mono (by decide)) (by rfl) T.a_law_some_number_0 T.F_law_some_number_0.kp T.b_law_some_number_0 .nil pass0 (pa_cons (pv 1) pa_nil))))) (pss_one (ps_if (pt_cmpR op_lt (pv 2) pe_int (nomark _)) (pss_one (ps_set (i := 3) nd rfl (by first | exact Or.inl rfl | exact Or.inr rfl) (pe_op Lv.op_addS (pe_ix ix_list (pe_lst (pa_cons (Lv.pe_strS (l := [108, 101, 102, 116, 32]) (by decide +kernel)) (pa_cons (Lv.pe_strS (l := [112, 108, 97, 99, 101, 32]) (by decide +kernel)) (pa_cons (Lv.pe_strS (l := [114, 111, 119, 32]) (by decide +kernel)) (pa_cons (Lv.pe_strS (l := [111, 116, 104, 101, 114, 32]) (by decide +kernel)) pa_nil))))) (pe_call G_law_take_1 (hr.mono (by decide)) (by rfl) T.a_law_take_1 T.F_law_take_1.kp T.b_law_take_1 .nil pass0 (pa_cons (pv 1) (pa_cons pe_int pa_nil))) (fun _ _ => rfl)) (pe_call G_law_some_row_0 (hr.mono (by decide)) (by rfl) T.a_law_some_row_0 T.F_law_some_row_0.kp T.b_law_some_row_0 .nil pass0 (pa_cons (pv 1) pa_nil))))) (pss_one (ps_if (pt_cmpR Lv.op_eqI (pv 2) pe_int (nomark _)) (pss_one (ps_set (i := 3) nd rfl (by first | exact Or.inl rfl | exact Or.inr rfl) (pe_op Lv.op_addS (pe_ix ix_list (pe_lst (pa_cons (Lv.pe_strS (l := [115, 104, 111, 114, 116, 32]) (by decide +kernel)) (pa_cons (Lv.pe_strS (l := [97, 114, 99, 104, 101, 115, 32]) (by decide +kernel)) pa_nil))) (pe_call G_law_take_1 (hr.mono (by decide)) (by rfl) T.a_law_take_1 T.F_law_take_1.kp T.b_law_take_1 .nil pass0 (pa_cons (pv 1) (pa_cons pe_int pa_nil))) (fun _ _ => rfl)) (pe_call G_law_some_letters_1 (hr.mono (by decide)) (by rfl) T.a_law_some_letters_1 T.F_law_some_letters_1.kp T.b_law_some_letters_1 .nil pass0 (pa_cons (pv 1) pa_nil))))) (pss_cons (ps_set (i := 4) nd rfl (by first | exact Or.inl rfl | exact Or.inr rfl) (pe_lst (pa_cons (Lv.pe_strS (l := []) (by decide +kernel)) (pa_cons (Lv.pe_strS (l := [32]) (by decide +kernel)) (pa_cons (Lv.pe_strS (l := [117, 110, 100, 111]) (by decide +kernel)) (pa_cons (Lv.pe_strS (l := [115, 104, 111, 119]) (by decide +kernel)) (pa_cons (Lv.pe_strS (l := [109, 97, 110, 121]) (by decide +kernel)) (pa_cons (Lv.pe_strS (l := [108, 101, 110, 103, 116, 104, 115]) (by decide +kernel)) (pa_cons (Lv.pe_strS (l := [119, 97, 121, 115]) (by decide +kernel)) (pa_cons (Lv.pe_strS (l := [99, 111, 109, 109, 111, 110]) (by decide +kernel)) (pa_cons (Lv.pe_strS (l := [112, 97, 114, 116, 115]) (by decide +kernel)) (pa_cons (Lv.pe_strS (l := [117, 110, 100, 111, 32, 48]) (by decide +kernel)) pa_nil)))))))))))) (pss_cons (ps_set (i := 4) nd rfl (by first | exact Or.inl rfl | exact Or.inr rfl) (pe_op op_cat (pv 4) (pe_lst (pa_cons (Lv.pe_strS (l := [115, 104, 111, 119, 32, 49]) (by decide +kernel)) (pa_cons (Lv.pe_strS (l := [112, 117, 116]) (by decide +kernel)) (pa_cons (Lv.pe_strS (l := [114, 111, 119]) (by decide +kernel)) (pa_cons (Lv.pe_strS (l := [97, 116]) (by decide +kernel)) (pa_cons (Lv.pe_strS (l := [77, 97, 110, 121]) (by decide +kernel)) (pa_cons (Lv.pe_strS (l := [108, 111, 110, 103, 32, 49]) (by decide +kernel)) (pa_cons (Lv.pe_strS (l := [115, 97, 121, 32, 97]) (by decide +kernel)) (pa_cons (Lv.pe_strS (l := [112, 97, 114, 116, 115, 32, 97]) (by decide +kernel)) (pa_cons (Lv.pe_strS (l := [115, 104, 111, 114, 116]) (by decide +kernel)) pa_nil)))))))))))) (pss_cons (ps_set (i := 4) nd rfl (by first | exact Or.inl rfl | exact Or.inr rfl) (pe_op op_cat (pv 4) (pe_lst (pa_cons (Lv.pe_strS (l := [108, 111, 110, 103, 32, 49, 32, 50, 32, 51]) (by decide +kernel)) (pa_cons (Lv.pe_strS (l := [108, 101, 102, 116, 115, 32, 97]) (by decide +kernel)) pa_nil))))) (pss_one (ps_set (i := 3) nd rfl (by first | exact Or.inl rfl | exact Or.inr rfl) (pe_ix ix_list (pv 4) (pe_call G_law_take_1 (hr.mono (by decide)) (by rfl) T.a_law_take_1 T.F_law_take_1.kp T.b_law_take_1 .nil pass0 (pa_cons (pv 1) (pa_cons pe_int pa_nil))) (fun _ _ => rfl)))))))))))))))) (Evl.pss_cut (ps_if (pt_cmpR Lv.op_eqI (pe_call G_law_take_1 (hr.mono (by decide)) (by rfl) T.a_law_take_1 T.F_law_take_1.kp T.b_law_take_1 .nil pass0 (pa_cons (pv 1) (pa_cons pe_int pa_nil))) pe_int (nomark _)) (pss_cons (ps_set (i := 5) nd rfl (by first | exact Or.inl rfl | exact Or.inr rfl) (pe_call G_law_take_1 (hr.mono (by decide)) (by rfl) T.a_law_take_1 T.F_law_take_1.kp T.b_law_take_1 .nil pass0 (pa_cons (pv 1) (pa_cons (pe_op op_add (pe_callB Lv.call_lenT (by rfl) T.z_len (by decide +kernel) (pa_cons (pv 3) pa_nil)) pe_int) pa_nil)))) (pss_cons (ps_set (i := 6) nd rfl (by first | exact Or.inl rfl | exact Or.inr rfl) (pe_ix Lv.ix_S (Lv.pe_strS (l := [32, 48, 49, 97, 90, 45, 95, 10]) (by decide +kernel)) (pe_call G_law_take_1 (hr.mono (by decide)) (by rfl) T.a_law_take_1 T.F_law_take_1.kp T.b_law_take_1 .nil pass0 (pa_cons (pv 1) (pa_cons pe_int pa_nil))) (fun _ _ => rfl))) (pss_cons (ps_set (i := 2) nd rfl (by first | exact Or.inl rfl | exact Or.inr rfl) (pe_call G_law_take_1 (hr.mono (by decide)) (by rfl) T.a_law_take_1 T.F_law_take_1.kp T.b_law_take_1 .nil pass0 (pa_cons (pv 1) (pa_cons pe_int pa_nil)))) (pss_cons (ps_if (pt_cmpR Lv.op_eqI (pv 2) pe_int (nomark _)) (pss_one (ps_ret (pe_op Lv.op_addS (pe_slice Lv.sl_S (pv 3) po_none (po_some (pv 5))) (pe_slice Lv.sl_S (pv 3) (po_some (pe_op op_add (pv 5) pe_int)) po_none)))) pss_nil) (pss_one (ps_set (i := 3) nd rfl (by first | exact Or.inl rfl | exact Or.inr rfl) (pe_ix ix_list (pe_lst (pa_cons (pe_op Lv.op_addS (pe_op Lv.op_addS (pe_slice Lv.sl_S (pv 3) po_none (po_some (pv 5))) (pv 6)) (pe_slice Lv.sl_S (pv 3) (po_some (pv 5)) po_none)) (pa_cons (pe_bm0 PySem.F.plainAttrs_str PySem.F.slot_str_upper PySem.F.type_str_upper Lv.mt_upperA (pv 3)) pa_nil))) (pe_op op_sub (pv 2) pe_int) (fun _ _ => rfl)))))))) pss_nil) (pss_one (ps_ret (pv 3)))))))
theorem ok_Growing_1_row (T : Txt K mg) : FnOk P w K mg base CX0 1 T.f_Growing_1_row T.fd_Growing_1_row ["self"] (sp_Growing_1_row K T.C_Growing) := by
  have nd := sc_Growing_1_row.nd
  refine T.F_Growing_1_row.ok sc_Growing_1_row (fun vs H Q E h => ?_) (fun cdv A outer s H vs Q E hr h => ⟨t_Growing_1_row K T.C_Growing, ?_, pure_Growing_1_row T.kl_Growing vs H Q E h⟩)
  · unfold sp_Growing_1_row at h
    repeat (first | (obtain ⟨rfl, _⟩ := h; rfl) | (obtain ⟨_, h⟩ := h))
  · unfold t_Growing_1_row
    exact (pss_one (ps_ret (pe_fld (pv 0) (by rfl))))
theorem ok_next_tables_0 (T : Txt K mg) : FnOk P w K mg base CX0 1 T.f_next_tables_0 T.fd_next_tables_0 ["row"] (sp_next_tables_0 K) := by
  have nd := sc_next_tables_0.nd
  refine T.F_next_tables_0.ok sc_next_tables_0 (fun vs H Q E h => ?_) (fun cdv A outer s H vs Q E hr h => ⟨t_next_tables_0 K, ?_, pure_next_tables_0 vs H Q E h⟩)
  · unfold sp_next_tables_0 at h
    repeat (first | (obtain ⟨rfl, _⟩ := h; rfl) | (obtain ⟨_, h⟩ := h))
  · unfold t_next_tables_0
    exact (pss_cons (ps_set (i := 1) nd rfl (by first | exact Or.inl rfl | exact Or.inr rfl) (pe_lst (pa_cons pe_dnewK pa_nil))) (pss_cons (ps_for PassesOwn.never (by rfl) (pi_range3 (by rfl) T.z_range (pa_cons (pe_op op_sub (pe_callB Lv.call_lenT (by rfl) T.z_len (by decide +kernel) (pa_cons (pv 0) pa_nil)) pe_int) (pa_cons (pe_un un_neg pe_int) (pa_cons (pe_un un_neg pe_int) pa_nil)))) (pg_name (i := 2) nd rfl (by first | exact Or.inl rfl | exact Or.inr rfl)) (pss_cons (ps_set (i := 3) nd rfl (by first | exact Or.inl rfl | exact Or.inr rfl) (pe_callTy call_dictD (by rfl) T.z_dict (by decide +kernel) (pa_cons (pe_ix ix_list (pv 1) (pe_un un_neg pe_int) (fun _ _ => rfl)) pa_nil))) (pss_cons (ps_dput (hu_of hr) (pv 3) (pe_ix Lv.ix_S (pv 0) (pv 2) (fun _ _ => rfl)) (pv 2) (by rfl)) (pss_one (ps_expr (pe_bm PySem.F.plainAttrs_list PySem.F.slot_list_append PySem.F.type_list_append mt_append (pv 1) (pa_cons (pv 3) pa_nil))))))) (pss_one (ps_ret (pe_revL (pv 1))))))
theorem ok_put_on_0 (T : Txt K mg) : FnOk P w K mg base CX0 1 T.f_put_on_0 T.fd_put_on_0 ["lengths", "others", "lost"] (sp_put_on_0 K) := by
  have nd := sc_put_on_0.nd
  refine T.F_put_on_0.ok sc_put_on_0 (fun vs H Q E h => ?_) (fun cdv A outer s H vs Q E hr h => ⟨t_put_on_0 K, ?_, pure_put_on_0 vs H Q E h⟩)
  · unfold sp_put_on_0 at h
    repeat (first | (obtain ⟨rfl, _⟩ := h; rfl) | (obtain ⟨_, h⟩ := h))
  · unfold t_put_on_0
    exact (pss_cons (ps_set (i := 3) nd rfl (by first | exact Or.inl rfl | exact Or.inr rfl) (pe_op op_cat (pv 0) (pe_lst (pa_cons pe_int pa_nil)))) (pss_cons (ps_for PassesOwn.never (by rfl) (pi_enum (by rfl) T.z_enumerate (pa_cons (pv 1) pa_nil)) (pg_tup (by rfl) (pgs_cons (pg_name (i := 4) nd rfl (by first | exact Or.inl rfl | exact Or.inr rfl)) (pgs_cons (pg_name (i := 5) nd rfl (by first | exact Or.inl rfl | exact Or.inr rfl)) pgs_nil))) (pss_one (ps_augS (pv 3) (pe_op op_add (pv 4) pe_int) Lv.get_list (pv 5) ip_add set_list))) (pss_cons (ps_for PassesOwn.never (by rfl) (pi_enum (by rfl) T.z_enumerate (pa_cons (pv 2) pa_nil)) (pg_tup (by rfl) (pgs_cons (pg_name (i := 4) nd rfl (by first | exact Or.inl rfl | exact Or.inr rfl)) (pgs_cons (pg_name (i := 5) nd rfl (by first | exact Or.inl rfl | exact Or.inr rfl)) pgs_nil))) (pss_one (ps_augS (pv 3) (pe_op op_add (pv 4) pe_int) Lv.get_list (pv 5) ip_sub set_list))) (pss_one (ps_ret (pv 3))))))
theorem ok_lengths_from_0 (T : Txt K mg) : FnOk P w K mg base CX0 2 T.f_lengths_from_0 T.fd_lengths_from_0 ["row"] (sp_lengths_from_0 K) := by
  have nd := sc_lengths_from_0.nd
  have G_put_on_0 := ok_put_on_0 (P := P) (w := w) (base := base) T
  refine T.F_lengths_from_0.ok sc_lengths_from_0 (fun vs H Q E h => ?_) (fun cdv A outer s H vs Q E hr h => ⟨t_lengths_from_0 K, ?_, pure_lengths_from_0 vs H Q E h⟩)
  · unfold sp_lengths_from_0 at h
    repeat (first | (obtain ⟨rfl, _⟩ := h; rfl) | (obtain ⟨_, h⟩ := h))
  · unfold t_lengths_from_0
    exact (pss_cons (ps_set (i := 1) nd rfl (by first | exact Or.inl rfl | exact Or.inr rfl) (pe_lst (pa_cons (pe_lst (pa_cons pe_int pa_nil)) pa_nil))) (pss_cons (ps_set (i := 2) nd rfl (by first | exact Or.inl rfl | exact Or.inr rfl) pe_dnewK) (pss_cons (ps_for PassesOwn.never (by rfl) (pi_range3 (by rfl) T.z_range (pa_cons (pe_op op_sub (pe_callB Lv.call_lenT (by rfl) T.z_len (by decide +kernel) (pa_cons (pv 0) pa_nil)) pe_int) (pa_cons (pe_un un_neg pe_int) (pa_cons (pe_un un_neg pe_int) pa_nil)))) (pg_name (i := 3) nd rfl (by first | exact Or.inl rfl | exact Or.inr rfl)) (pss_cons (ps_set (i := 4) nd rfl (by first | exact Or.inl rfl | exact Or.inr rfl) (pe_lst pa_nil)) (Evl.pss_cut (ps_if (pt_cmp (pc_din (hu_of hr) (pe_ix Lv.ix_S (pv 0) (pv 3) (fun _ _ => rfl)) (pv 2))) (pss_one (ps_set (i := 4) nd rfl (by first | exact Or.inl rfl | exact Or.inr rfl) (pe_ix ix_list (pv 1) (pe_op op_sub (pe_op op_sub (pe_callB Lv.call_lenT (by rfl) T.z_len (by decide +kernel) (pa_cons (pv 0) pa_nil)) pe_int) (pe_dget (hu_of hr) (pv 2) (pe_ix Lv.ix_S (pv 0) (pv 3) (fun _ _ => rfl)) (fun _ _ => rfl))) (fun _ _ => rfl)))) pss_nil) (pss_cons (ps_dput (hu_of hr) (pv 2) (pe_ix Lv.ix_S (pv 0) (pv 3) (fun _ _ => rfl)) (pv 3) (by rfl)) (pss_one (ps_expr (pe_bm PySem.F.plainAttrs_list PySem.F.slot_list_append PySem.F.type_list_append mt_append (pv 1) (pa_cons (pe_call G_put_on_0 (hr.mono (by decide)) (by rfl) T.a_put_on_0 T.F_put_on_0.kp T.b_put_on_0 .nil pass0 (pa_cons (pe_ix ix_list (pv 1) (pe_un un_neg pe_int) (fun _ _ => rfl)) (pa_cons (pe_ix ix_list (pv 1) (pe_un un_neg pe_int) (fun _ _ => rfl)) (pa_cons (pv 4) pa_nil)))) pa_nil)))))))) (pss_one (ps_ret (pe_revL (pv 1)))))))
theorem ok_is_whole_0x (T : Txt K mg) : FnOk P w K mg base CX0 1 T.f_is_whole_0x T.fd_is_whole_0x ["thing"] (sp_is_whole_0x K) := by
  have nd := sc_is_whole_0x.nd
  refine T.F_is_whole_0x.ok sc_is_whole_0x (fun vs H Q E h => ?_) (fun cdv A outer s H vs Q E hr h => ⟨t_is_whole_0x K, ?_, pure_is_whole_0x vs H Q E h⟩)
  · unfold sp_is_whole_0x at h
    repeat (first | (obtain ⟨rfl, _⟩ := h; rfl) | (obtain ⟨_, h⟩ := h))
  · unfold t_is_whole_0x
    exact (pss_one (ps_ret (pe_and (pe_callB Lv.call_is1 (by rfl) T.z_isinstance (by decide +kernel) (pa_cons (pv 0) (pa_cons (pe_bltn (v := .ty "int") (u := .type "int") (by rfl) T.z_int (by decide +kernel) rfl) pa_nil))) (pe_one (pe_not (pe_callB Lv.call_is1 (by rfl) T.z_isinstance (by decide +kernel) (pa_cons (pv 0) (pa_cons (pe_bltn (v := .ty "bool") (u := .type "bool") (by rfl) T.z_bool (by decide +kernel) rfl) pa_nil))))))))
theorem ok_many_of_0 (T : Txt K mg) : FnOk P w K mg base CX0 1 T.f_many_of_0 T.fd_many_of_0 ["tables", "begin", "length"] (sp_many_of_0 K) := by
  have nd := sc_many_of_0.nd
  refine T.F_many_of_0.ok sc_many_of_0 (fun vs H Q E h => ?_) (fun cdv A outer s H vs Q E hr h => ⟨t_many_of_0 K, ?_, pure_many_of_0 vs H Q E h⟩)
  · unfold sp_many_of_0 at h
    repeat (first | (obtain ⟨rfl, _⟩ := h; rfl) | (obtain ⟨_, h⟩ := h))
  · unfold t_many_of_0
    exact (pss_cons (ps_if (pt_cmpR op_ge (pv 2) (pe_callB call_len_seq (by rfl) T.z_len (by decide +kernel) (pa_cons (pe_ix ix_list (pv 0) (pv 1) (fun _ _ => rfl)) pa_nil)) (nomark _)) (pss_one (ps_ret pe_int)) pss_nil) (pss_one (ps_ret (pe_ix ix_list (pe_ix ix_list (pv 0) (pv 1) (fun _ _ => rfl)) (pv 2) (fun _ _ => rfl)))))
theorem ok_of_length_at_0x (T : Txt K mg) : FnOk P w K mg base (L2.CX P w) 3 T.f_of_length_at_0x T.fd_of_length_at_0x ["row", "length", "place"] (sp_of_length_at_0x K T.er) := by
  have nd := sc_of_length_at_0x.nd
  have G_next_tables_0 := ok_next_tables_0 (P := P) (w := w) (base := base) T
  have G_lengths_from_0 := ok_lengths_from_0 (P := P) (w := w) (base := base) T
  have G_is_whole_0x := ok_is_whole_0x (P := P) (w := w) (base := base) T
  have G_many_of_0 := ok_many_of_0 (P := P) (w := w) (base := base) T
  refine T.F_of_length_at_0x.okX sc_of_length_at_0x (fun vs H Q E h => ?_) (fun cdv A outer s H vs Q E hr h => ⟨t_of_length_at_0x K T.er E, ?_, pure_of_length_at_0x vs H Q E h⟩)
  · unfold sp_of_length_at_0x at h
    repeat (first | (obtain ⟨rfl, _⟩ := h; rfl) | (obtain ⟨_, h⟩ := h))
  · unfold t_of_length_at_0x
    exact (pss_cons (ps_if (PW.pt (pw_or (pt_not (pt_val (pe_call G_is_whole_0x (hr.mono (by decide)) (by rfl) T.a_is_whole_0x T.F_is_whole_0x.kp T.b_is_whole_0x .nil pass0 (pa_cons (pv 1) pa_nil)))) (pw_or (pt_not (pt_chain op_le op_le pe_int (pv 1) (pe_callB Lv.call_lenT (by rfl) T.z_len (by decide +kernel) (pa_cons (pv 0) pa_nil)))) (pw_or1 (pt_not (pt_val (pe_call G_is_whole_0x (hr.mono (by decide)) (by rfl) T.a_is_whole_0x T.F_is_whole_0x.kp T.b_is_whole_0x .nil pass0 (pa_cons (pv 2) pa_nil)))))))) (pss_one (ps_raise rfl (takes_of rfl rfl rfl rfl) (pmk_own PySem.F.excBase_ValueError T.ER_4.xC T.e_NoPlace T.ER_4.kC (raises_own T.ER_4.bC T.ER_4.tC) (by exact rfl)))) pss_nil) (pss_cons (ps_set (i := 3) nd rfl (by first | exact Or.inl rfl | exact Or.inr rfl) (pe_call G_lengths_from_0 (hr.mono (by decide)) (by rfl) T.a_lengths_from_0 T.F_lengths_from_0.kp T.b_lengths_from_0 .nil pass0 (pa_cons (pv 0) pa_nil))) (pss_cons (ps_if (pt_not (pt_chain op_le op_lt pe_int (pv 2) (pe_ix ix_list (pe_ix ix_list (pv 3) pe_int (fun _ _ => rfl)) (pv 1) (fun _ _ => rfl)))) (pss_one (ps_raise rfl (takes_of rfl rfl rfl rfl) (pmk_own PySem.F.excBase_ValueError T.ER_4.xC T.e_NoPlace T.ER_4.kC (raises_own T.ER_4.bC T.ER_4.tC) (by exact rfl)))) pss_nil) (pss_cons (ps_set (i := 4) nd rfl (by first | exact Or.inl rfl | exact Or.inr rfl) (pe_call G_next_tables_0 (hr.mono (by decide)) (by rfl) T.a_next_tables_0 T.F_next_tables_0.kp T.b_next_tables_0 .nil pass0 (pa_cons (pv 0) pa_nil))) (pss_cons (ps_set (i := 5) nd rfl (by first | exact Or.inl rfl | exact Or.inr rfl) (Lv.pe_strS (l := []) (by decide +kernel))) (pss_cons (ps_set (i := 6) nd rfl (by first | exact Or.inl rfl | exact Or.inr rfl) pe_int) (pss_cons (ps_for (passes_of rfl) (by rfl) (pi_range3 (by rfl) T.z_range (pa_cons (pe_op op_sub (pv 1) pe_int) (pa_cons (pe_un un_neg pe_int) (pa_cons (pe_un un_neg pe_int) pa_nil)))) (pg_name (i := 7) nd rfl (by first | exact Or.inl rfl | exact Or.inr rfl)) (pss_cons (ps_for (passes_of rfl) (by rfl) (pi_list (pe_callB (Lv.call_sortedD1 (by rfl)) (by rfl) T.z_sorted (by decide +kernel) (pa_cons (pe_ix ix_list (pv 4) (pv 6) (fun _ _ => rfl)) pa_nil))) (pg_name (i := 8) nd rfl (by first | exact Or.inl rfl | exact Or.inr rfl)) (pss_cons (ps_set (i := 9) nd rfl (by first | exact Or.inl rfl | exact Or.inr rfl) (pe_op op_add (pe_dget (hu_of hr) (pe_ix ix_list (pv 4) (pv 6) (fun _ _ => rfl)) (pv 8) (fun _ _ => rfl)) pe_int)) (pss_cons (ps_if (pt_cmpR op_lt (pv 2) (pe_call G_many_of_0 (hr.mono (by decide)) (by rfl) T.a_many_of_0 T.F_many_of_0.kp T.b_many_of_0 .nil pass0 (pa_cons (pv 3) (pa_cons (pv 9) (pa_cons (pv 7) pa_nil)))) (nomark _)) (pss_one ps_break) pss_nil) (pss_one (ps_aug (i := 2) nd rfl (by first | exact Or.inl rfl | exact Or.inr rfl) (pe_call G_many_of_0 (hr.mono (by decide)) (by rfl) T.a_many_of_0 T.F_many_of_0.kp T.b_many_of_0 .nil pass0 (pa_cons (pv 3) (pa_cons (pv 9) (pa_cons (pv 7) pa_nil)))) ip_sub))))) (pss_cons (ps_aug (i := 5) nd rfl (by first | exact Or.inl rfl | exact Or.inr rfl) (pv 8) Lv.ip_addS) (pss_one (ps_set (i := 6) nd rfl (by first | exact Or.inl rfl | exact Or.inr rfl) (pv 9)))))) (pss_one (ps_ret (pv 5))))))))))
theorem ok_read_number_0n (T : Txt K mg) : FnOk P w K mg base (L2N.CX P w) 1 T.f_read_number_0n T.fd_read_number_0n ["word"] (sp_read_number_0n K T.er) := by
  have nd := sc_read_number_0n.nd
  refine Lv.okN T.F_read_number_0n sc_read_number_0n (fun vs H Q E h => ?_) (fun cdv A outer s H vs Q E hr h => ⟨t_read_number_0n K T.er E, ?_, pure_read_number_0n vs H Q E h⟩)
  · unfold sp_read_number_0n at h
    repeat (first | (obtain ⟨rfl, _⟩ := h; rfl) | (obtain ⟨_, h⟩ := h))
  · unfold t_read_number_0n
    exact (pss_cons (ps_if (PW.pt (pw_or (pt_not (pt_chain op_le op_le pe_int (pe_callB Lv.call_lenT (by rfl) T.z_len (by decide +kernel) (pa_cons (pv 0) pa_nil)) (Lv.pe_globI (by rfl) T.c_MOST_FIGURES))) (pw_or1 (PW.pt (pw_and (pt_cmpR Lv.op_eqS (pe_ix Lv.ix_S (pv 0) pe_int (fun _ _ => rfl)) (Lv.pe_strS (l := [48]) (by decide +kernel)) (nomark _)) (pw_and1 (pt_cmpR Lv.op_neS (pv 0) (Lv.pe_strS (l := [48]) (by decide +kernel)) (nomark _)))))))) (pss_one (L2N.ps_raise rfl (L2N.takes_of rfl rfl rfl rfl) (L2N.pmk_own PySem.F.excBase_ValueError T.ER_6.xC T.e_NoText T.ER_6.kC (raises_own T.ER_6.bC T.ER_6.tC) (by exact rfl)))) pss_nil) (pss_cons (ps_for (passes_of rfl) (by rfl) (pi_str (pv 0)) (pg_name (i := 1) nd rfl (by first | exact Or.inl rfl | exact Or.inr rfl)) (pss_one (ps_if (pt_cmpR Lv.op_notIn1 (pv 1) (Lv.pe_globS (by rfl) T.c_FIGURES) (by rfl)) (pss_one (L2N.ps_raise rfl (L2N.takes_of rfl rfl rfl rfl) (L2N.pmk_own PySem.F.excBase_ValueError T.ER_6.xC T.e_NoText T.ER_6.kC (raises_own T.ER_6.bC T.ER_6.tC) (by exact rfl)))) pss_nil))) (pss_one (ps_ret (pe_callTy Lv.call_intS (by rfl) T.z_int (by decide +kernel) (pa_cons (pv 0) pa_nil))))))
theorem ok_number_in_0 (T : Txt K mg) : FnOk P w K mg base (L2.CX P w) 2 T.f_number_in_0 T.fd_number_in_0 ["word"] (sp_number_in_0 K T.er) := by
  have nd := sc_number_in_0.nd
  have G_read_number_0n := ok_read_number_0n (P := P) (w := w) (base := base) T
  refine T.F_number_in_0.okX sc_number_in_0 (fun vs H Q E h => ?_) (fun cdv A outer s H vs Q E hr h => ⟨t_number_in_0 K T.er E, ?_, pure_number_in_0 T.ER_6 vs H Q E h⟩)
  · unfold sp_number_in_0 at h
    repeat (first | (obtain ⟨rfl, _⟩ := h; rfl) | (obtain ⟨_, h⟩ := h))
  · unfold t_number_in_0
    exact (pss_cons (Lv.ps_tryRN rfl rfl ⟨by rfl, by decide, Or.inl T.e_NoText⟩ (fun hd => L2H.passesAt_of rfl hd) (takes_of rfl rfl rfl rfl) (fun W pn xe tk po => (pss_one (ps_set (i := 1) nd rfl (by first | exact Or.inl rfl | exact Or.inr rfl) (pe_callS G_read_number_0n (hr.mono (by decide)) (by rfl) T.a_read_number_0n T.F_read_number_0n.kp T.b_read_number_0n (fun σ => L2N.passAt tk σ) (pa_cons (pv 0) pa_nil))))) (fun _ _ _ => Lv.pmk_own5 PySem.F.excBase_ValueError T.ER_1.xC T.e_NoCommand T.ER_1.kC (raises_own T.ER_1.bC T.ER_1.tC) (by exact rfl))) (pss_one (ps_ret (pv 1))))
theorem ok_shown_0 (T : Txt K mg) : FnOk P w K mg base CX0 1 T.f_shown_0 T.fd_shown_0 ["row"] (sp_shown_0 K) := by
  have nd := sc_shown_0.nd
  refine T.F_shown_0.ok sc_shown_0 (fun vs H Q E h => ?_) (fun cdv A outer s H vs Q E hr h => ⟨t_shown_0 K, ?_, pure_shown_0 vs H Q E h⟩)
  · unfold sp_shown_0 at h
    repeat (first | (obtain ⟨rfl, _⟩ := h; rfl) | (obtain ⟨_, h⟩ := h))
  · unfold t_shown_0
    exact (pss_cons (ps_if (pt_cmpR Lv.op_eqS (pv 0) (Lv.pe_strS (l := []) (by decide +kernel)) (nomark _)) (pss_one (ps_ret (Lv.pe_strS (l := [45]) (by decide +kernel)))) pss_nil) (pss_one (ps_ret (pv 0))))
theorem ok_next_at_0 (T : Txt K mg) : FnOk P w K mg base CX0 1 T.f_next_at_0 T.fd_next_at_0 ["row", "place", "letter"] (sp_next_at_0 K) := by
  have nd := sc_next_at_0.nd
  refine T.F_next_at_0.ok sc_next_at_0 (fun vs H Q E h => ?_) (fun cdv A outer s H vs Q E hr h => ⟨t_next_at_0 K, ?_, pure_next_at_0 vs H Q E h⟩)
  · unfold sp_next_at_0 at h
    repeat (first | (obtain ⟨rfl, _⟩ := h; rfl) | (obtain ⟨_, h⟩ := h))
  · unfold t_next_at_0
    exact (pss_cons (ps_set (i := 3) nd rfl (by first | exact Or.inl rfl | exact Or.inr rfl) (pe_bm PySem.F.plainAttrs_str PySem.F.slot_str_find PySem.F.type_str_find Lv.mt_findS (pv 0) (pa_cons (pv 2) (pa_cons (pv 1) pa_nil)))) (pss_cons (ps_if (pt_cmpR op_lt (pv 3) pe_int (nomark _)) (pss_one (ps_ret pe_non)) pss_nil) (pss_one (ps_ret (pv 3)))))
theorem ok_goings_on_0 (T : Txt K mg) : FnOk P w K mg base CX0 2 T.f_goings_on_0 T.fd_goings_on_0 ["one", "other"] (sp_goings_on_0 K) := by
  have nd := sc_goings_on_0.nd
  have G_next_at_0 := ok_next_at_0 (P := P) (w := w) (base := base) T
  refine T.F_goings_on_0.ok sc_goings_on_0 (fun vs H Q E h => ?_) (fun cdv A outer s H vs Q E hr h => ⟨t_goings_on_0 K, ?_, pure_goings_on_0 vs H Q E h⟩)
  · unfold sp_goings_on_0 at h
    repeat (first | (obtain ⟨rfl, _⟩ := h; rfl) | (obtain ⟨_, h⟩ := h))
  · unfold t_goings_on_0
    exact (pss_cons (ps_set (i := 2) nd rfl (by first | exact Or.inl rfl | exact Or.inr rfl) (pe_lst pa_nil)) (pss_cons (ps_for PassesOwn.never (by rfl) (pi_tup (pe_tup (pa_cons (pv 0) (pa_cons (pv 1) pa_nil)))) (pg_name (i := 3) nd rfl (by first | exact Or.inl rfl | exact Or.inr rfl)) (pss_one (ps_expr (pe_bm PySem.F.plainAttrs_list PySem.F.slot_list_append PySem.F.type_list_append mt_append (pv 2) (pa_cons (pe_lc (own := [("place", 11)]) (g := (gName 11)) (tt := tYes) (by rfl) nd (pi_range1 (by rfl) T.z_range (pa_cons (pe_op op_add (pe_callB Lv.call_lenT (by rfl) T.z_len (by decide +kernel) (pa_cons (pv 3) pa_nil)) pe_int) pa_nil)) (blkOk_by (own := [("place", 11)]) (N := N_goings_on_0) (sc := defScope s_goings_on_0) (by decide +kernel)) (fun _ _ _ _ _ => (pg_name (i := 11) nd rfl (by first | exact Or.inl rfl | exact Or.inr rfl))) (fun _ _ _ _ _ => pts_nil) (fun _ _ _ _ _ => (pe_lc (own := [("letter", 8)]) (g := (gName 8)) (tt := tYes) (by rfl) nd (pi_str (Lv.pe_globS (by rfl) T.c_LETTERS)) (Lv.blkOk_in (blkOk_by (own := [("letter", 8)]) (N := N_goings_on_0) (by decide +kernel))) (fun _ _ _ _ _ => (pg_name (i := 8) nd rfl (by first | exact Or.inl rfl | exact Or.inr rfl))) (fun _ _ _ _ _ => pts_nil) (fun _ _ _ _ _ => (pe_call G_next_at_0 (hr.mono (by decide)) (by rfl) T.a_next_at_0 T.F_next_at_0.kp T.b_next_at_0 .nil pass0 (pa_cons (pv 3) (pa_cons (pv 11) (pa_cons (pv 8) pa_nil)))))))) pa_nil))))) (pss_cons (ps_set (i := 4) nd rfl (by first | exact Or.inl rfl | exact Or.inr rfl) pe_dnewT) (pss_cons (ps_for PassesOwn.never (by rfl) (pi_range3 (by rfl) T.z_range (pa_cons (pe_callB Lv.call_lenT (by rfl) T.z_len (by decide +kernel) (pa_cons (pv 0) pa_nil)) (pa_cons (pe_un un_neg pe_int) (pa_cons (pe_un un_neg pe_int) pa_nil)))) (pg_name (i := 5) nd rfl (by first | exact Or.inl rfl | exact Or.inr rfl)) (pss_one (ps_for PassesOwn.never (by rfl) (pi_range3 (by rfl) T.z_range (pa_cons (pe_callB Lv.call_lenT (by rfl) T.z_len (by decide +kernel) (pa_cons (pv 1) pa_nil)) (pa_cons (pe_un un_neg pe_int) (pa_cons (pe_un un_neg pe_int) pa_nil)))) (pg_name (i := 6) nd rfl (by first | exact Or.inl rfl | exact Or.inr rfl)) (pss_cons (ps_set (i := 7) nd rfl (by first | exact Or.inl rfl | exact Or.inr rfl) (pe_lst pa_nil)) (pss_cons (ps_for PassesOwn.never (by rfl) (Lv.pi_zip3 (by rfl) T.z_zip (pa_cons (Lv.pe_globS (by rfl) T.c_LETTERS) (pa_cons (pe_ix ix_list (pe_ix ix_list (pv 2) pe_int (fun _ _ => rfl)) (pv 5) (fun _ _ => rfl)) (pa_cons (pe_ix ix_list (pe_ix ix_list (pv 2) pe_int (fun _ _ => rfl)) (pv 6) (fun _ _ => rfl)) pa_nil)))) (pg_tup (by rfl) (pgs_cons (pg_name (i := 8) nd rfl (by first | exact Or.inl rfl | exact Or.inr rfl)) (pgs_cons (pg_name (i := 9) nd rfl (by first | exact Or.inl rfl | exact Or.inr rfl)) (pgs_cons (pg_name (i := 10) nd rfl (by first | exact Or.inl rfl | exact Or.inr rfl)) pgs_nil)))) (pss_one (ps_if (PW.pt (pw_and (pt_cmpR Lv.op_notN1 (pv 9) pe_non (nomark _)) (pw_and1 (pt_cmpR Lv.op_notN1 (pv 10) pe_non (nomark _))))) (pss_one (ps_expr (pe_bm PySem.F.plainAttrs_list PySem.F.slot_list_append PySem.F.type_list_append mt_append (pv 7) (pa_cons (pe_tup (pa_cons (pv 8) (pa_cons (pe_op op_add (pv 9) pe_int) (pa_cons (pe_op op_add (pv 10) pe_int) pa_nil)))) pa_nil)))) pss_nil))) (pss_one (ps_dput (hu_of hr) (pv 4) (pe_tup (pa_cons (pv 5) (pa_cons (pv 6) pa_nil))) (pv 7) (by rfl)))))))) (pss_one (ps_ret (pv 4)))))))
theorem ok_many_common_0 (T : Txt K mg) : FnOk P w K mg base CX0 3 T.f_many_common_0 T.fd_many_common_0 ["one", "other"] (sp_many_common_0 K) := by
  have nd := sc_many_common_0.nd
  have G_goings_on_0 := ok_goings_on_0 (P := P) (w := w) (base := base) T
  refine T.F_many_common_0.ok sc_many_common_0 (fun vs H Q E h => ?_) (fun cdv A outer s H vs Q E hr h => ⟨t_many_common_0 K, ?_, pure_many_common_0 vs H Q E h⟩)
  · unfold sp_many_common_0 at h
    repeat (first | (obtain ⟨rfl, _⟩ := h; rfl) | (obtain ⟨_, h⟩ := h))
  · unfold t_many_common_0
    exact (pss_cons (ps_set (i := 2) nd rfl (by first | exact Or.inl rfl | exact Or.inr rfl) pe_dnewT) (pss_cons (ps_for PassesOwn.never (by rfl) (Lv.pi_itemsT (Lv.pe_lk (pe_call G_goings_on_0 (hr.mono (by decide)) (by rfl) T.a_goings_on_0 T.F_goings_on_0.kp T.b_goings_on_0 .nil pass0 (pa_cons (pv 0) (pa_cons (pv 1) pa_nil))))) (pg_tup (by rfl) (pgs_cons (pg_name (i := 3) nd rfl (by first | exact Or.inl rfl | exact Or.inr rfl)) (pgs_cons (pg_name (i := 4) nd rfl (by first | exact Or.inl rfl | exact Or.inr rfl)) pgs_nil))) (pss_one (ps_dput (hu_of hr) (pv 2) (pv 3) (pe_op op_add pe_int (pe_callB (cr_sum (by rfl)) (by rfl) T.z_sum (by decide +kernel) (pa_cons (pe_lc (own := [("letter", 5), ("first", 6), ("second", 7)]) (g := (gTup K 3 (gCons (gName 5) (gCons (gName 6) (gCons (gName 7) gNil))))) (tt := tYes) (by rfl) nd (pi_list (pv 4)) (blkOk_by (own := [("letter", 5), ("first", 6), ("second", 7)]) (N := N_many_common_0) (sc := defScope s_many_common_0) (by decide +kernel)) (fun _ _ _ _ _ => (pg_tup (by rfl) (pgs_cons (pg_name (i := 5) nd rfl (by first | exact Or.inl rfl | exact Or.inr rfl)) (pgs_cons (pg_name (i := 6) nd rfl (by first | exact Or.inl rfl | exact Or.inr rfl)) (pgs_cons (pg_name (i := 7) nd rfl (by first | exact Or.inl rfl | exact Or.inr rfl)) pgs_nil))))) (fun _ _ _ _ _ => pts_nil) (fun _ _ _ _ _ => (pe_dget (hu_of hr) (pv 2) (pe_tup (pa_cons (pv 6) (pa_cons (pv 7) pa_nil))) (fun _ _ => rfl)))) pa_nil))) (by rfl)))) (pss_one (ps_ret (pe_dget (hu_of hr) (pv 2) (pe_tup (pa_cons pe_int (pa_cons pe_int pa_nil))) (fun _ _ => rfl))))))
theorem ok_longest_from_0 (T : Txt K mg) : FnOk P w K mg base CX0 3 T.f_longest_from_0 T.fd_longest_from_0 ["one", "other"] (sp_longest_from_0 K) := by
  have nd := sc_longest_from_0.nd
  have G_goings_on_0 := ok_goings_on_0 (P := P) (w := w) (base := base) T
  refine T.F_longest_from_0.ok sc_longest_from_0 (fun vs H Q E h => ?_) (fun cdv A outer s H vs Q E hr h => ⟨t_longest_from_0 K, ?_, pure_longest_from_0 vs H Q E h⟩)
  · unfold sp_longest_from_0 at h
    repeat (first | (obtain ⟨rfl, _⟩ := h; rfl) | (obtain ⟨_, h⟩ := h))
  · unfold t_longest_from_0
    exact (pss_cons (ps_set (i := 2) nd rfl (by first | exact Or.inl rfl | exact Or.inr rfl) pe_dnewT) (pss_cons (ps_set (i := 3) nd rfl (by first | exact Or.inl rfl | exact Or.inr rfl) (pe_call G_goings_on_0 (hr.mono (by decide)) (by rfl) T.a_goings_on_0 T.F_goings_on_0.kp T.b_goings_on_0 .nil pass0 (pa_cons (pv 0) (pa_cons (pv 1) pa_nil)))) (pss_cons (ps_for PassesOwn.never (by rfl) (Lv.pi_itemsT (Lv.pe_lk (pv 3))) (pg_tup (by rfl) (pgs_cons (pg_name (i := 4) nd rfl (by first | exact Or.inl rfl | exact Or.inr rfl)) (pgs_cons (pg_name (i := 5) nd rfl (by first | exact Or.inl rfl | exact Or.inr rfl)) pgs_nil))) (pss_cons (ps_set (i := 6) nd rfl (by first | exact Or.inl rfl | exact Or.inr rfl) (pe_callB (cr_max (by rfl)) (by rfl) T.z_max (by decide +kernel) (pa_cons (pe_op op_cat (pe_lst (pa_cons pe_int pa_nil)) (pe_lc (own := [("letter", 9), ("first", 10), ("second", 11)]) (g := (gTup K 3 (gCons (gName 9) (gCons (gName 10) (gCons (gName 11) gNil))))) (tt := tYes) (by rfl) nd (pi_list (pv 5)) (blkOk_by (own := [("letter", 9), ("first", 10), ("second", 11)]) (N := N_longest_from_0) (sc := defScope s_longest_from_0) (by decide +kernel)) (fun _ _ _ _ _ => (pg_tup (by rfl) (pgs_cons (pg_name (i := 9) nd rfl (by first | exact Or.inl rfl | exact Or.inr rfl)) (pgs_cons (pg_name (i := 10) nd rfl (by first | exact Or.inl rfl | exact Or.inr rfl)) (pgs_cons (pg_name (i := 11) nd rfl (by first | exact Or.inl rfl | exact Or.inr rfl)) pgs_nil))))) (fun _ _ _ _ _ => pts_nil) (fun _ _ _ _ _ => (pe_op op_add pe_int (pe_ix ix_tup (pe_dget (hu_of hr) (pv 2) (pe_tup (pa_cons (pv 10) (pa_cons (pv 11) pa_nil))) (fun _ _ => rfl)) pe_int (fun _ _ => rfl)))))) pa_nil))) (pss_cons (ps_setLc (i := 7) (own := [("letter", 9), ("first", 10), ("second", 11)]) (g := (gTup K 3 (gCons (gName 9) (gCons (gName 10) (gCons (gName 11) gNil))))) (tt := tYes) (by rfl) nd rfl rfl (sw_true rfl rfl rfl (by decide +kernel)) (pi_list (pv 5)) (blkOk_by (own := [("letter", 9), ("first", 10), ("second", 11)]) (N := N_longest_from_0) (sc := defScope s_longest_from_0) (by decide +kernel)) (fun _ _ _ _ _ => (pg_tup (by rfl) (pgs_cons (pg_name (i := 9) nd rfl (by first | exact Or.inl rfl | exact Or.inr rfl)) (pgs_cons (pg_name (i := 10) nd rfl (by first | exact Or.inl rfl | exact Or.inr rfl)) (pgs_cons (pg_name (i := 11) nd rfl (by first | exact Or.inl rfl | exact Or.inr rfl)) pgs_nil))))) (fun _ _ _ _ _ => pts_nil) (fun _ _ _ _ _ => (pe_dget (hu_of hr) (pv 2) (pe_tup (pa_cons (pv 10) (pa_cons (pv 11) pa_nil))) (fun _ _ => rfl)))) (pss_cons (ps_set (i := 8) nd rfl (by first | exact Or.inl rfl | exact Or.inr rfl) (pe_callB (cr_sum (by rfl)) (by rfl) T.z_sum (by decide +kernel) (pa_cons (pe_lc (own := [("here", 12), ("count", 13)]) (g := (gTup K 2 (gCons (gName 12) (gCons (gName 13) gNil)))) (tt := (tTest (tOp Lv.rEqI (tOp Lv.rAdd (tVar 12) (tC (.int 1))) (tVar 6)))) (by rfl) nd (pi_list (pv 7)) (blkOk_by (own := [("here", 12), ("count", 13)]) (N := N_longest_from_0) (sc := defScope s_longest_from_0) (by decide +kernel)) (fun _ _ _ _ _ => (pg_tup (by rfl) (pgs_cons (pg_name (i := 12) nd rfl (by first | exact Or.inl rfl | exact Or.inr rfl)) (pgs_cons (pg_name (i := 13) nd rfl (by first | exact Or.inl rfl | exact Or.inr rfl)) pgs_nil)))) (fun _ _ _ _ _ => (pts_one (pt_cmpR Lv.op_eqI (pe_op op_add (pv 12) pe_int) (pv 6) (nomark _)))) (fun _ _ _ _ _ => (pv 13))) pa_nil))) (pss_one (ps_dput (hu_of hr) (pv 2) (pv 4) (pe_tup (pa_cons (pv 6) (pa_cons (pe_callB (Lv.call_maxI (by rfl)) (by rfl) T.z_max (by decide +kernel) (pa_cons (pv 8) (pa_cons (pe_callTy Lv.call_intB (by rfl) T.z_int (by decide +kernel) (pa_cons (pe_cmpR Lv.op_eqI (pv 6) pe_int (nomark _)) pa_nil)) pa_nil))) pa_nil))) (by rfl))))))) (pss_one (ps_ret (pe_tup (pa_cons (pv 2) (pa_cons (pv 3) pa_nil))))))))
theorem ok_longest_common_0 (T : Txt K mg) : FnOk P w K mg base CX0 4 T.f_longest_common_0 T.fd_longest_common_0 ["one", "other"] (sp_longest_common_0 K) := by
  have nd := sc_longest_common_0.nd
  have G_longest_from_0 := ok_longest_from_0 (P := P) (w := w) (base := base) T
  refine T.F_longest_common_0.ok sc_longest_common_0 (fun vs H Q E h => ?_) (fun cdv A outer s H vs Q E hr h => ⟨t_longest_common_0 K, ?_, pure_longest_common_0 vs H Q E h⟩)
  · unfold sp_longest_common_0 at h
    repeat (first | (obtain ⟨rfl, _⟩ := h; rfl) | (obtain ⟨_, h⟩ := h))
  · unfold t_longest_common_0
    exact (pss_cons (ps_asg (pe_call G_longest_from_0 (hr.mono (by decide)) (by rfl) T.a_longest_from_0 T.F_longest_from_0.kp T.b_longest_from_0 .nil pass0 (pa_cons (pv 0) (pa_cons (pv 1) pa_nil))) (pg_tup (by rfl) (pgs_cons (pg_name (i := 2) nd rfl (by first | exact Or.inl rfl | exact Or.inr rfl)) (pgs_cons (pg_name (i := 3) nd rfl (by first | exact Or.inl rfl | exact Or.inr rfl)) pgs_nil)))) (pss_cons (ps_set (i := 4) nd rfl (by first | exact Or.inl rfl | exact Or.inr rfl) (Lv.pe_strS (l := []) (by decide +kernel))) (pss_cons (ps_set (i := 5) nd rfl (by first | exact Or.inl rfl | exact Or.inr rfl) (pe_tup (pa_cons pe_int (pa_cons pe_int pa_nil)))) (pss_cons (ps_while PassesOwn.never (pt_cmpR op_gt (pe_ix ix_tup (pe_dget (hu_of hr) (pv 2) (pv 5) (fun _ _ => rfl)) pe_int (fun _ _ => rfl)) pe_int (nomark _)) (pss_cons (ps_setLc (i := 6) (own := [("step", 7)]) (g := (gName 7)) (tt := (tTest (tOp Lv.rEqI (tOp Lv.rAdd (tOp (rIxT K) (tDGet (tVar 2) (tSl (rSlT K) (tVar 7) (tPart (tC (.int 1))) tNoPart)) (tC (.int 0))) (tC (.int 1))) (tOp (rIxT K) (tDGet (tVar 2) (tVar 5)) (tC (.int 0)))))) (by rfl) nd rfl rfl (sw_true rfl rfl rfl (by decide +kernel)) (pi_list (pe_dget (hu_of hr) (pv 3) (pv 5) (fun _ _ => rfl))) (blkOk_by (own := [("step", 7)]) (N := N_longest_common_0) (sc := defScope s_longest_common_0) (by decide +kernel)) (fun _ _ _ _ _ => (pg_name (i := 7) nd rfl (by first | exact Or.inl rfl | exact Or.inr rfl))) (fun _ _ _ _ _ => (pts_one (pt_cmpR Lv.op_eqI (pe_op op_add (pe_ix ix_tup (pe_dget (hu_of hr) (pv 2) (pe_slice sl_tup (pv 7) (po_some pe_int) po_none) (fun _ _ => rfl)) pe_int (fun _ _ => rfl)) pe_int) (pe_ix ix_tup (pe_dget (hu_of hr) (pv 2) (pv 5) (fun _ _ => rfl)) pe_int (fun _ _ => rfl)) (nomark _)))) (fun _ _ _ _ _ => (pv 7))) (pss_cons (ps_aug (i := 4) nd rfl (by first | exact Or.inl rfl | exact Or.inr rfl) (pe_ix ix_tup (pe_ix ix_list (pv 6) pe_int (fun _ _ => rfl)) pe_int (fun _ _ => rfl)) Lv.ip_addS) (pss_one (ps_set (i := 5) nd rfl (by first | exact Or.inl rfl | exact Or.inr rfl) (pe_slice sl_tup (pe_ix ix_list (pv 6) pe_int (fun _ _ => rfl)) (po_some pe_int) po_none)))))) (pss_one (ps_ret (pv 4)))))))
theorem ok_Growing_1_undo (T : Txt K mg) : FnOk P w K mg base CX0 1 T.f_Growing_1_undo T.fd_Growing_1_undo ["self"] (sp_Growing_1_undo K T.C_Growing) := by
  have nd := sc_Growing_1_undo.nd
  refine T.F_Growing_1_undo.ok sc_Growing_1_undo (fun vs H Q E h => ?_) (fun cdv A outer s H vs Q E hr h => ⟨t_Growing_1_undo K T.C_Growing, ?_, pure_Growing_1_undo T.kl_Growing vs H Q E h⟩)
  · unfold sp_Growing_1_undo at h
    repeat (first | (obtain ⟨rfl, _⟩ := h; rfl) | (obtain ⟨_, h⟩ := h))
  · unfold t_Growing_1_undo
    exact (pss_cons (ps_if (pt_cmpR Lv.op_eqS (pe_fld (pv 0) (by rfl)) (Lv.pe_strS (l := []) (by decide +kernel)) (nomark _)) (pss_one (ps_ret pe_bl)) pss_nil) (pss_cons (ps_fld (pv 0) (pe_slice Lv.sl_S (pe_fld (pv 0) (by rfl)) po_none (po_some (pe_un un_neg pe_int))) (by rfl)) (pss_one (ps_ret pe_bl))))
theorem ok_counts_from_0 (T : Txt K mg) : FnOk P w K mg base CX0 1 T.f_counts_from_0 T.fd_counts_from_0 ["row"] (sp_counts_from_0 K) := by
  have nd := sc_counts_from_0.nd
  refine T.F_counts_from_0.ok sc_counts_from_0 (fun vs H Q E h => ?_) (fun cdv A outer s H vs Q E hr h => ⟨t_counts_from_0 K, ?_, pure_counts_from_0 vs H Q E h⟩)
  · unfold sp_counts_from_0 at h
    repeat (first | (obtain ⟨rfl, _⟩ := h; rfl) | (obtain ⟨_, h⟩ := h))
  · unfold t_counts_from_0
    exact (pss_cons (ps_set (i := 1) nd rfl (by first | exact Or.inl rfl | exact Or.inr rfl) (pe_lst (pa_cons pe_int pa_nil))) (pss_cons (ps_set (i := 2) nd rfl (by first | exact Or.inl rfl | exact Or.inr rfl) pe_dnewK) (pss_cons (ps_for PassesOwn.never (by rfl) (pi_range3 (by rfl) T.z_range (pa_cons (pe_op op_sub (pe_callB Lv.call_lenT (by rfl) T.z_len (by decide +kernel) (pa_cons (pv 0) pa_nil)) pe_int) (pa_cons (pe_un un_neg pe_int) (pa_cons (pe_un un_neg pe_int) pa_nil)))) (pg_name (i := 3) nd rfl (by first | exact Or.inl rfl | exact Or.inr rfl)) (pss_cons (ps_set (i := 4) nd rfl (by first | exact Or.inl rfl | exact Or.inr rfl) (pe_op op_mul pe_int (pe_ix ix_list (pv 1) (pe_un un_neg pe_int) (fun _ _ => rfl)))) (Evl.pss_cut (ps_if (pt_cmp (pc_din (hu_of hr) (pe_ix Lv.ix_S (pv 0) (pv 3) (fun _ _ => rfl)) (pv 2))) (pss_one (ps_aug (i := 4) nd rfl (by first | exact Or.inl rfl | exact Or.inr rfl) (pe_ix ix_list (pv 1) (pe_op op_sub (pe_op op_sub (pe_callB Lv.call_lenT (by rfl) T.z_len (by decide +kernel) (pa_cons (pv 0) pa_nil)) pe_int) (pe_dget (hu_of hr) (pv 2) (pe_ix Lv.ix_S (pv 0) (pv 3) (fun _ _ => rfl)) (fun _ _ => rfl))) (fun _ _ => rfl)) ip_sub)) pss_nil) (pss_cons (ps_dput (hu_of hr) (pv 2) (pe_ix Lv.ix_S (pv 0) (pv 3) (fun _ _ => rfl)) (pv 3) (by rfl)) (pss_one (ps_expr (pe_bm PySem.F.plainAttrs_list PySem.F.slot_list_append PySem.F.type_list_append mt_append (pv 1) (pa_cons (pv 4) pa_nil)))))))) (pss_one (ps_ret (pe_revL (pv 1)))))))
theorem ok_many_left_0 (T : Txt K mg) : FnOk P w K mg base CX0 2 T.f_many_left_0 T.fd_many_left_0 ["row"] (sp_many_left_0 K) := by
  have nd := sc_many_left_0.nd
  have G_counts_from_0 := ok_counts_from_0 (P := P) (w := w) (base := base) T
  refine T.F_many_left_0.ok sc_many_left_0 (fun vs H Q E h => ?_) (fun cdv A outer s H vs Q E hr h => ⟨t_many_left_0 K, ?_, pure_many_left_0 vs H Q E h⟩)
  · unfold sp_many_left_0 at h
    repeat (first | (obtain ⟨rfl, _⟩ := h; rfl) | (obtain ⟨_, h⟩ := h))
  · unfold t_many_left_0
    exact (pss_one (ps_ret (pe_ix ix_list (pe_call G_counts_from_0 (hr.mono (by decide)) (by rfl) T.a_counts_from_0 T.F_counts_from_0.kp T.b_counts_from_0 .nil pass0 (pa_cons (pv 0) pa_nil)) pe_int (fun _ _ => rfl))))
theorem ok_Growing_1_many (T : Txt K mg) : FnOk P w K mg base CX0 3 T.f_Growing_1_many T.fd_Growing_1_many ["self"] (sp_Growing_1_many K T.C_Growing) := by
  have nd := sc_Growing_1_many.nd
  have G_many_left_0 := ok_many_left_0 (P := P) (w := w) (base := base) T
  refine T.F_Growing_1_many.ok sc_Growing_1_many (fun vs H Q E h => ?_) (fun cdv A outer s H vs Q E hr h => ⟨t_Growing_1_many K T.C_Growing, ?_, pure_Growing_1_many T.kl_Growing vs H Q E h⟩)
  · unfold sp_Growing_1_many at h
    repeat (first | (obtain ⟨rfl, _⟩ := h; rfl) | (obtain ⟨_, h⟩ := h))
  · unfold t_Growing_1_many
    exact (pss_one (ps_ret (pe_call G_many_left_0 (hr.mono (by decide)) (by rfl) T.a_many_left_0 T.F_many_left_0.kp T.b_many_left_0 .nil pass0 (pa_cons (pe_fld (pv 0) (by rfl)) pa_nil))))
theorem ok_by_lengths_0 (T : Txt K mg) : FnOk P w K mg base CX0 3 T.f_by_lengths_0 T.fd_by_lengths_0 ["row"] (sp_by_lengths_0 K) := by
  have nd := sc_by_lengths_0.nd
  have G_lengths_from_0 := ok_lengths_from_0 (P := P) (w := w) (base := base) T
  refine T.F_by_lengths_0.ok sc_by_lengths_0 (fun vs H Q E h => ?_) (fun cdv A outer s H vs Q E hr h => ⟨t_by_lengths_0 K, ?_, pure_by_lengths_0 vs H Q E h⟩)
  · unfold sp_by_lengths_0 at h
    repeat (first | (obtain ⟨rfl, _⟩ := h; rfl) | (obtain ⟨_, h⟩ := h))
  · unfold t_by_lengths_0
    exact (pss_one (ps_ret (pe_callTy call_list_of (by rfl) T.z_list (by decide +kernel) (pa_cons (pe_ix ix_list (pe_call G_lengths_from_0 (hr.mono (by decide)) (by rfl) T.a_lengths_from_0 T.F_lengths_from_0.kp T.b_lengths_from_0 .nil pass0 (pa_cons (pv 0) pa_nil)) pe_int (fun _ _ => rfl)) pa_nil))))
theorem ok_Growing_1_lengths (T : Txt K mg) : FnOk P w K mg base CX0 4 T.f_Growing_1_lengths T.fd_Growing_1_lengths ["self"] (sp_Growing_1_lengths K T.C_Growing) := by
  have nd := sc_Growing_1_lengths.nd
  have G_by_lengths_0 := ok_by_lengths_0 (P := P) (w := w) (base := base) T
  refine T.F_Growing_1_lengths.ok sc_Growing_1_lengths (fun vs H Q E h => ?_) (fun cdv A outer s H vs Q E hr h => ⟨t_Growing_1_lengths K T.C_Growing, ?_, pure_Growing_1_lengths T.kl_Growing vs H Q E h⟩)
  · unfold sp_Growing_1_lengths at h
    repeat (first | (obtain ⟨rfl, _⟩ := h; rfl) | (obtain ⟨_, h⟩ := h))
  · unfold t_Growing_1_lengths
    exact (pss_one (ps_ret (pe_call G_by_lengths_0 (hr.mono (by decide)) (by rfl) T.a_by_lengths_0 T.F_by_lengths_0.kp T.b_by_lengths_0 .nil pass0 (pa_cons (pe_fld (pv 0) (by rfl)) pa_nil))))
theorem ok_show_list_0 (T : Txt K mg) : FnOk P w K mg base CX0 1 T.f_show_list_0 T.fd_show_list_0 ["numbers"] (sp_show_list_0 K) := by
  have nd := sc_show_list_0.nd
  refine T.F_show_list_0.ok sc_show_list_0 (fun vs H Q E h => ?_) (fun cdv A outer s H vs Q E hr h => ⟨t_show_list_0 K, ?_, pure_show_list_0 vs H Q E h⟩)
  · unfold sp_show_list_0 at h
    repeat (first | (obtain ⟨rfl, _⟩ := h; rfl) | (obtain ⟨_, h⟩ := h))
  · unfold t_show_list_0
    exact (pss_cons (ps_if (pt_cmpR (Lv.op_eqL hr.units) (pv 0) (pe_lst pa_nil) (nomark _)) (pss_one (ps_ret (Lv.pe_strS (l := [45]) (by decide +kernel)))) pss_nil) (pss_one (ps_ret (pe_bm PySem.F.plainAttrs_str PySem.F.slot_str_join PySem.F.type_str_join Lv.mt_joinS (Lv.pe_strS (l := [32]) (by decide +kernel)) (pa_cons (pe_lc (own := [("number", 1)]) (g := (gName 1)) (tt := tYes) (by rfl) nd (pi_list (pv 0)) (blkOk_by (own := [("number", 1)]) (N := N_show_list_0) (sc := defScope s_show_list_0) (by decide +kernel)) (fun _ _ _ _ _ => (pg_name (i := 1) nd rfl (by first | exact Or.inl rfl | exact Or.inr rfl))) (fun _ _ _ _ _ => pts_nil) (fun _ _ _ _ _ => (pe_callTy Lv.call_strI (by rfl) T.z_str (by decide +kernel) (pa_cons (pv 1) pa_nil)))) pa_nil)))))
theorem ok_next_of_0 (T : Txt K mg) : FnOk P w K mg base CX0 1 T.f_next_of_0 T.fd_next_of_0 ["word", "place", "letter"] (sp_next_of_0 K) := by
  have nd := sc_next_of_0.nd
  refine T.F_next_of_0.ok sc_next_of_0 (fun vs H Q E h => ?_) (fun cdv A outer s H vs Q E hr h => ⟨t_next_of_0 K, ?_, pure_next_of_0 vs H Q E h⟩)
  · unfold sp_next_of_0 at h
    repeat (first | (obtain ⟨rfl, _⟩ := h; rfl) | (obtain ⟨_, h⟩ := h))
  · unfold t_next_of_0
    exact (pss_cons (ps_set (i := 3) nd rfl (by first | exact Or.inl rfl | exact Or.inr rfl) (pe_bm PySem.F.plainAttrs_str PySem.F.slot_str_find PySem.F.type_str_find Lv.mt_findS (pv 0) (pa_cons (pv 2) (pa_cons (pv 1) pa_nil)))) (pss_cons (ps_if (pt_cmpR op_lt (pv 3) pe_int (nomark _)) (pss_one (ps_ret pe_non)) pss_nil) (pss_one (ps_ret (pe_op op_add (pv 3) pe_int)))))
theorem ok_parts_0 (T : Txt K mg) : FnOk P w K mg base CX0 2 T.f_parts_0 T.fd_parts_0 ["one", "other"] (sp_parts_0 K) := by
  have nd := sc_parts_0.nd
  have G_next_of_0 := ok_next_of_0 (P := P) (w := w) (base := base) T
  refine T.F_parts_0.ok sc_parts_0 (fun vs H Q E h => ?_) (fun cdv A outer s H vs Q E hr h => ⟨t_parts_0 K, ?_, pure_parts_0 vs H Q E h⟩)
  · unfold sp_parts_0 at h
    repeat (first | (obtain ⟨rfl, _⟩ := h; rfl) | (obtain ⟨_, h⟩ := h))
  · unfold t_parts_0
    exact (pss_cons (ps_set (i := 2) nd rfl (by first | exact Or.inl rfl | exact Or.inr rfl) (Lv.pe_sortSetS (by rfl) (by rfl) T.z_sorted (by rfl) T.z_set (pa_cons (pv 0) pa_nil))) (pss_cons (ps_set (i := 3) nd rfl (by first | exact Or.inl rfl | exact Or.inr rfl) (Lv.pe_dispT1 (hu_of hr) (pe_tup (pa_cons pe_int (pa_cons pe_int pa_nil))) pe_bl)) (pss_cons (ps_set (i := 4) nd rfl (by first | exact Or.inl rfl | exact Or.inr rfl) (pe_lst (pa_cons (pe_tup (pa_cons (Lv.pe_strS (l := []) (by decide +kernel)) (pa_cons pe_int (pa_cons pe_int pa_nil)))) pa_nil))) (pss_cons (ps_while PassesOwn.never (pt_cmpR (Lv.op_neE hr.units) (pv 4) (pe_lst pa_nil) (nomark _)) (pss_cons (ps_set (i := 5) nd rfl (by first | exact Or.inl rfl | exact Or.inr rfl) (pe_lst pa_nil)) (pss_cons (ps_for PassesOwn.never (by rfl) (pi_list (pv 4)) (pg_tup (by rfl) (pgs_cons (pg_name (i := 6) nd rfl (by first | exact Or.inl rfl | exact Or.inr rfl)) (pgs_cons (pg_name (i := 7) nd rfl (by first | exact Or.inl rfl | exact Or.inr rfl)) (pgs_cons (pg_name (i := 8) nd rfl (by first | exact Or.inl rfl | exact Or.inr rfl)) pgs_nil)))) (pss_one (ps_for PassesOwn.never (by rfl) (pi_list (pv 2)) (pg_name (i := 9) nd rfl (by first | exact Or.inl rfl | exact Or.inr rfl)) (pss_cons (ps_set (i := 10) nd rfl (by first | exact Or.inl rfl | exact Or.inr rfl) (pe_call G_next_of_0 (hr.mono (by decide)) (by rfl) T.a_next_of_0 T.F_next_of_0.kp T.b_next_of_0 .nil pass0 (pa_cons (pv 0) (pa_cons (pv 7) (pa_cons (pv 9) pa_nil))))) (pss_cons (ps_set (i := 11) nd rfl (by first | exact Or.inl rfl | exact Or.inr rfl) (pe_call G_next_of_0 (hr.mono (by decide)) (by rfl) T.a_next_of_0 T.F_next_of_0.kp T.b_next_of_0 .nil pass0 (pa_cons (pv 1) (pa_cons (pv 8) (pa_cons (pv 9) pa_nil))))) (pss_cons (ps_if (PW.pt (pw_and (pt_cmpR Lv.op_notN1 (pv 10) pe_non (nomark _)) (pw_and1 (pt_cmpR Lv.op_isN1 (pv 11) pe_non (nomark _))))) (pss_one (ps_ret (pe_op Lv.op_addS (pv 6) (pv 9)))) pss_nil) (pss_one (ps_if (PW.pt (pw_and (pt_cmpR Lv.op_notN1 (pv 10) pe_non (nomark _)) (pw_and1 (pt_cmp (pc_dnotin (hu_of hr) (pe_tup (pa_cons (pv 10) (pa_cons (pv 11) pa_nil))) (pv 3)))))) (pss_cons (ps_dput (hu_of hr) (pv 3) (pe_tup (pa_cons (pv 10) (pa_cons (pv 11) pa_nil))) pe_bl (by rfl)) (pss_one (ps_expr (pe_bm PySem.F.plainAttrs_list PySem.F.slot_list_append PySem.F.type_list_append mt_append (pv 5) (pa_cons (pe_tup (pa_cons (pe_op Lv.op_addS (pv 6) (pv 9)) (pa_cons (pv 10) (pa_cons (pv 11) pa_nil)))) pa_nil))))) pss_nil)))))))) (pss_one (ps_set (i := 4) nd rfl (by first | exact Or.inl rfl | exact Or.inr rfl) (pv 5)))))) (pss_one (ps_ret pe_non))))))
theorem ok_ways_from_0 (T : Txt K mg) : FnOk P w K mg base CX0 1 T.f_ways_from_0 T.fd_ways_from_0 ["row", "other"] (sp_ways_from_0 K) := by
  have nd := sc_ways_from_0.nd
  refine T.F_ways_from_0.ok sc_ways_from_0 (fun vs H Q E h => ?_) (fun cdv A outer s H vs Q E hr h => ⟨t_ways_from_0 K, ?_, pure_ways_from_0 vs H Q E h⟩)
  · unfold sp_ways_from_0 at h
    repeat (first | (obtain ⟨rfl, _⟩ := h; rfl) | (obtain ⟨_, h⟩ := h))
  · unfold t_ways_from_0
    exact (pss_cons (ps_setLc (i := 2) (own := [("place", 3)]) (g := (gName 3)) (tt := tYes) (by rfl) nd rfl rfl (sw_true rfl rfl rfl (by decide +kernel)) (pi_range1 (by rfl) T.z_range (pa_cons (pe_op op_add (pe_callB Lv.call_lenT (by rfl) T.z_len (by decide +kernel) (pa_cons (pv 0) pa_nil)) pe_int) pa_nil)) (blkOk_by (own := [("place", 3)]) (N := N_ways_from_0) (sc := defScope s_ways_from_0) (by decide +kernel)) (fun _ _ _ _ _ => (pg_name (i := 3) nd rfl (by first | exact Or.inl rfl | exact Or.inr rfl))) (fun _ _ _ _ _ => pts_nil) (fun _ _ _ _ _ => (pe_op op_cat (pe_op op_rep (pe_lst (pa_cons pe_int pa_nil)) (pe_callB Lv.call_lenT (by rfl) T.z_len (by decide +kernel) (pa_cons (pv 1) pa_nil))) (pe_lst (pa_cons pe_int pa_nil))))) (pss_cons (ps_for PassesOwn.never (by rfl) (pi_range3 (by rfl) T.z_range (pa_cons (pe_op op_sub (pe_callB Lv.call_lenT (by rfl) T.z_len (by decide +kernel) (pa_cons (pv 0) pa_nil)) pe_int) (pa_cons (pe_un un_neg pe_int) (pa_cons (pe_un un_neg pe_int) pa_nil)))) (pg_name (i := 3) nd rfl (by first | exact Or.inl rfl | exact Or.inr rfl)) (pss_one (ps_for PassesOwn.never (by rfl) (Lv.pi_enumS (by rfl) T.z_enumerate (pa_cons (pv 1) pa_nil)) (pg_tup (by rfl) (pgs_cons (pg_name (i := 4) nd rfl (by first | exact Or.inl rfl | exact Or.inr rfl)) (pgs_cons (pg_name (i := 5) nd rfl (by first | exact Or.inl rfl | exact Or.inr rfl)) pgs_nil))) (pss_cons (ps_asg (pe_ix ix_list (pe_ix ix_list (pv 2) (pe_op op_add (pv 3) pe_int) (fun _ _ => rfl)) (pv 4) (fun _ _ => rfl)) (pg_sub (pe_ix ix_list (pv 2) (pv 3) (fun _ _ => rfl)) (pv 4) set_list)) (pss_one (ps_if (pt_cmpR Lv.op_eqS (pe_ix Lv.ix_S (pv 0) (pv 3) (fun _ _ => rfl)) (pv 5) (nomark _)) (pss_one (ps_augS (pe_ix ix_list (pv 2) (pv 3) (fun _ _ => rfl)) (pv 4) Lv.get_list (pe_ix ix_list (pe_ix ix_list (pv 2) (pe_op op_add (pv 3) pe_int) (fun _ _ => rfl)) (pe_op op_add (pv 4) pe_int) (fun _ _ => rfl)) ip_add set_list)) pss_nil)))))) (pss_one (ps_ret (pv 2)))))
theorem ok_many_ways_0 (T : Txt K mg) : FnOk P w K mg base CX0 2 T.f_many_ways_0 T.fd_many_ways_0 ["row", "other"] (sp_many_ways_0 K) := by
  have nd := sc_many_ways_0.nd
  have G_ways_from_0 := ok_ways_from_0 (P := P) (w := w) (base := base) T
  refine T.F_many_ways_0.ok sc_many_ways_0 (fun vs H Q E h => ?_) (fun cdv A outer s H vs Q E hr h => ⟨t_many_ways_0 K, ?_, pure_many_ways_0 vs H Q E h⟩)
  · unfold sp_many_ways_0 at h
    repeat (first | (obtain ⟨rfl, _⟩ := h; rfl) | (obtain ⟨_, h⟩ := h))
  · unfold t_many_ways_0
    exact (pss_one (ps_ret (pe_ix ix_list (pe_ix ix_list (pe_call G_ways_from_0 (hr.mono (by decide)) (by rfl) T.a_ways_from_0 T.F_ways_from_0.kp T.b_ways_from_0 .nil pass0 (pa_cons (pv 0) (pa_cons (pv 1) pa_nil))) pe_int (fun _ _ => rfl)) pe_int (fun _ _ => rfl))))
theorem ok_Desk_0_alone (T : Txt K mg) : FnOk P w K mg base (L2.CX P w) 5 T.f_Desk_0_alone T.fd_Desk_0_alone ["self", "words"] (sp_Desk_0_alone K T.C_Desk T.C_Growing T.er) := by
  have nd := sc_Desk_0_alone.nd
  have G_many_common_0 := ok_many_common_0 (P := P) (w := w) (base := base) T
  have G_longest_common_0 := ok_longest_common_0 (P := P) (w := w) (base := base) T
  have G_Growing_1_undo := ok_Growing_1_undo (P := P) (w := w) (base := base) T
  have G_Growing_1_row := ok_Growing_1_row (P := P) (w := w) (base := base) T
  have G_Growing_1_many := ok_Growing_1_many (P := P) (w := w) (base := base) T
  have G_Growing_1_lengths := ok_Growing_1_lengths (P := P) (w := w) (base := base) T
  have G_show_list_0 := ok_show_list_0 (P := P) (w := w) (base := base) T
  have G_parts_0 := ok_parts_0 (P := P) (w := w) (base := base) T
  have G_many_ways_0 := ok_many_ways_0 (P := P) (w := w) (base := base) T
  have G_shown_0 := ok_shown_0 (P := P) (w := w) (base := base) T
  refine T.F_Desk_0_alone.okX sc_Desk_0_alone (fun vs H Q E h => ?_) (fun cdv A outer s H vs Q E hr h => ⟨t_Desk_0_alone K T.C_Desk T.C_Growing T.er E, ?_, pure_Desk_0_alone T.kl_Desk T.kl_Growing vs H Q E h⟩)
  · unfold sp_Desk_0_alone at h
    repeat (first | (obtain ⟨rfl, _⟩ := h; rfl) | (obtain ⟨_, h⟩ := h))
  · unfold t_Desk_0_alone
    exact (pss_cons (ps_set (i := 2) nd rfl (by first | exact Or.inl rfl | exact Or.inr rfl) (pe_meth0 (pe_fld (pv 0) (by rfl)) T.kl_Growing.cl T.m_Growing_1_row G_Growing_1_row (hr.mono (by decide)) T.b_Growing_1_row .nil pass0)) (pss_cons (ps_if (pt_cmpR Lv.op_eqS (pv 1) (Lv.pe_strS (l := [117, 110, 100, 111]) (by decide +kernel)) (nomark _)) (pss_one (ps_ret (pe_ifExp (pt_val (pe_meth0 (pe_fld (pv 0) (by rfl)) T.kl_Growing.cl T.m_Growing_1_undo G_Growing_1_undo (hr.mono (by decide)) T.b_Growing_1_undo .nil pass0)) (Lv.pe_strS (l := [111, 107]) (by decide +kernel)) (Lv.pe_strS (l := [110, 111, 110, 101]) (by decide +kernel))))) pss_nil) (pss_cons (ps_if (pt_cmpR Lv.op_eqS (pv 1) (Lv.pe_strS (l := [115, 104, 111, 119]) (by decide +kernel)) (nomark _)) (pss_one (ps_ret (pe_op Lv.op_addS (pe_op Lv.op_addS (pe_call G_shown_0 (hr.mono (by decide)) (by rfl) T.a_shown_0 T.F_shown_0.kp T.b_shown_0 .nil pass0 (pa_cons (pv 2) pa_nil)) (Lv.pe_strS (l := [32]) (by decide +kernel))) (pe_call G_shown_0 (hr.mono (by decide)) (by rfl) T.a_shown_0 T.F_shown_0.kp T.b_shown_0 .nil pass0 (pa_cons (pe_fld (pv 0) (by rfl)) pa_nil))))) pss_nil) (pss_cons (ps_if (pt_cmpR Lv.op_eqS (pv 1) (Lv.pe_strS (l := [109, 97, 110, 121]) (by decide +kernel)) (nomark _)) (pss_one (ps_ret (pe_callTy Lv.call_strI (by rfl) T.z_str (by decide +kernel) (pa_cons (pe_meth0 (pe_fld (pv 0) (by rfl)) T.kl_Growing.cl T.m_Growing_1_many G_Growing_1_many (hr.mono (by decide)) T.b_Growing_1_many .nil pass0) pa_nil)))) pss_nil) (pss_cons (ps_if (pt_cmpR Lv.op_eqS (pv 1) (Lv.pe_strS (l := [108, 101, 110, 103, 116, 104, 115]) (by decide +kernel)) (nomark _)) (pss_one (ps_ret (pe_call G_show_list_0 (hr.mono (by decide)) (by rfl) T.a_show_list_0 T.F_show_list_0.kp T.b_show_list_0 .nil pass0 (pa_cons (pe_meth0 (pe_fld (pv 0) (by rfl)) T.kl_Growing.cl T.m_Growing_1_lengths G_Growing_1_lengths (hr.mono (by decide)) T.b_Growing_1_lengths .nil pass0) pa_nil)))) pss_nil) (pss_cons (ps_if (pt_cmpR Lv.op_eqS (pv 1) (Lv.pe_strS (l := [119, 97, 121, 115]) (by decide +kernel)) (nomark _)) (pss_one (ps_ret (pe_callTy Lv.call_strI (by rfl) T.z_str (by decide +kernel) (pa_cons (pe_call G_many_ways_0 (hr.mono (by decide)) (by rfl) T.a_many_ways_0 T.F_many_ways_0.kp T.b_many_ways_0 .nil pass0 (pa_cons (pv 2) (pa_cons (pe_fld (pv 0) (by rfl)) pa_nil))) pa_nil)))) pss_nil) (pss_cons (ps_if (pt_cmpR Lv.op_eqS (pv 1) (Lv.pe_strS (l := [99, 111, 109, 109, 111, 110]) (by decide +kernel)) (nomark _)) (pss_one (ps_ret (pe_op Lv.op_addS (Lv.pe_fs1 (l := [32]) (pe_call G_many_common_0 (hr.mono (by decide)) (by rfl) T.a_many_common_0 T.F_many_common_0.kp T.b_many_common_0 .nil pass0 (pa_cons (pv 2) (pa_cons (pe_fld (pv 0) (by rfl)) pa_nil))) (by decide +kernel)) (pe_call G_shown_0 (hr.mono (by decide)) (by rfl) T.a_shown_0 T.F_shown_0.kp T.b_shown_0 .nil pass0 (pa_cons (pe_call G_longest_common_0 (hr.mono (by decide)) (by rfl) T.a_longest_common_0 T.F_longest_common_0.kp T.b_longest_common_0 .nil pass0 (pa_cons (pv 2) (pa_cons (pe_fld (pv 0) (by rfl)) pa_nil))) pa_nil))))) pss_nil) (pss_cons (ps_if (pt_cmpR Lv.op_eqS (pv 1) (Lv.pe_strS (l := [112, 97, 114, 116, 115]) (by decide +kernel)) (nomark _)) (pss_cons (ps_set (i := 3) nd rfl (by first | exact Or.inl rfl | exact Or.inr rfl) (pe_call G_parts_0 (hr.mono (by decide)) (by rfl) T.a_parts_0 T.F_parts_0.kp T.b_parts_0 .nil pass0 (pa_cons (pv 2) (pa_cons (pe_fld (pv 0) (by rfl)) pa_nil)))) (pss_one (ps_ret (pe_ifExp (pt_cmpR Lv.op_isN1 (pv 3) pe_non (nomark _)) (Lv.pe_strS (l := [45]) (by decide +kernel)) (pv 3))))) pss_nil) (pss_one (ps_raise rfl (takes_of rfl rfl rfl rfl) (pmk_own PySem.F.excBase_ValueError T.ER_1.xC T.e_NoCommand T.ER_1.kC (raises_own T.ER_1.bC T.ER_1.tC) (by exact rfl))))))))))))
theorem ok_need_letters_2x (T : Txt K mg) : FnOk P w K mg base (L2.CX P w) 1 T.f_need_letters_2x T.fd_need_letters_2x ["thing"] (sp_need_letters_2x K T.er) := by
  have nd := sc_need_letters_2x.nd
  refine T.F_need_letters_2x.okX sc_need_letters_2x (fun vs H Q E h => ?_) (fun cdv A outer s H vs Q E hr h => ⟨t_need_letters_2x K T.er E, ?_, pure_need_letters_2x vs H Q E h⟩)
  · unfold sp_need_letters_2x at h
    repeat (first | (obtain ⟨rfl, _⟩ := h; rfl) | (obtain ⟨_, h⟩ := h))
  · unfold t_need_letters_2x
    exact (pss_cons (ps_if (PW.pt (pw_or (pt_not (pt_val (pe_callB Lv.call_is1 (by rfl) T.z_isinstance (by decide +kernel) (pa_cons (pv 0) (pa_cons (pe_bltn (v := .ty "str") (u := .type "str") (by rfl) T.z_str (by decide +kernel) rfl) pa_nil))))) (pw_or (pt_cmpR Lv.op_eqS (pv 0) (Lv.pe_strS (l := []) (by decide +kernel)) (nomark _)) (pw_or1 (pt_cmpR op_gt (pe_callB Lv.call_lenT (by rfl) T.z_len (by decide +kernel) (pa_cons (pv 0) pa_nil)) (pe_callB Lv.call_lenT (by rfl) T.z_len (by decide +kernel) (pa_cons (Lv.pe_globS (by rfl) T.c_SMALL_arches) pa_nil)) (nomark _)))))) (pss_one (ps_raise rfl (takes_of rfl rfl rfl rfl) (pmk_own PySem.F.excBase_ValueError T.ER_3.xC T.e_NoLetters T.ER_3.kC (raises_own T.ER_3.bC T.ER_3.tC) (by exact rfl)))) pss_nil) (pss_one (ps_if (PW.pt (pw_or (pt_cmpR (Lv.op_neLS hr.units) (pe_lc (own := [("letter", 1)]) (g := (gName 1)) (tt := (tTest (tOp (Lv.rIn1 true) (tVar 1) (tC (.str (S [97, 98, 99, 100, 101, 102, 103, 104, 105, 106, 107, 108, 109, 110, 111, 112, 113, 114, 115, 116, 117, 118, 119, 120, 121, 122])))))) (by rfl) nd (pi_str (pv 0)) (blkOk_by (own := [("letter", 1)]) (N := N_need_letters_2x) (sc := defScope s_need_letters_2x) (by decide +kernel)) (fun _ _ _ _ _ => (pg_name (i := 1) nd rfl (by first | exact Or.inl rfl | exact Or.inr rfl))) (fun _ _ _ _ _ => (pts_one (pt_cmpR Lv.op_notIn1 (pv 1) (Lv.pe_globS (by rfl) T.c_SMALL_arches) (by rfl)))) (fun _ _ _ _ _ => (pv 1))) (pe_lst pa_nil) (nomark _)) (pw_or1 (pt_cmpR (Lv.op_neLS hr.units) (Lv.pe_sortSetS (by rfl) (by rfl) T.z_sorted (by rfl) T.z_set (pa_cons (pv 0) pa_nil)) (pe_callTy (Lv.call_listS (by rfl)) (by rfl) T.z_list (by decide +kernel) (pa_cons (pv 0) pa_nil)) (nomark _))))) (pss_one (ps_raise rfl (takes_of rfl rfl rfl rfl) (pmk_own PySem.F.excBase_ValueError T.ER_3.xC T.e_NoLetters T.ER_3.kC (raises_own T.ER_3.bC T.ER_3.tC) (by exact rfl)))) pss_nil)))
theorem ok_has_all_0 (T : Txt K mg) : FnOk P w K mg base CX0 1 T.f_has_all_0 T.fd_has_all_0 ["word", "letters"] (sp_has_all_0 K) := by
  have nd := sc_has_all_0.nd
  refine T.F_has_all_0.ok sc_has_all_0 (fun vs H Q E h => ?_) (fun cdv A outer s H vs Q E hr h => ⟨t_has_all_0 K, ?_, pure_has_all_0 vs H Q E h⟩)
  · unfold sp_has_all_0 at h
    repeat (first | (obtain ⟨rfl, _⟩ := h; rfl) | (obtain ⟨_, h⟩ := h))
  · unfold t_has_all_0
    exact (pss_one (ps_ret (pe_cmpR (Lv.op_eqLS hr.units) (pe_lc (own := [("letter", 2)]) (g := (gName 2)) (tt := (tTest (tOp (Lv.rIn1 true) (tVar 2) (tVar 0)))) (by rfl) nd (pi_str (pv 1)) (blkOk_by (own := [("letter", 2)]) (N := N_has_all_0) (sc := defScope s_has_all_0) (by decide +kernel)) (fun _ _ _ _ _ => (pg_name (i := 2) nd rfl (by first | exact Or.inl rfl | exact Or.inr rfl))) (fun _ _ _ _ _ => (pts_one (pt_cmpR Lv.op_notIn1 (pv 2) (pv 0) (by rfl)))) (fun _ _ _ _ _ => (pv 2))) (pe_lst pa_nil) (nomark _))))
theorem ok_arches_0x (T : Txt K mg) : FnOk P w K mg base (L2.CX P w) 2 T.f_arches_0x T.fd_arches_0x ["row", "letters"] (sp_arches_0x K T.er) := by
  have nd := sc_arches_0x.nd
  have G_need_letters_2x := ok_need_letters_2x (P := P) (w := w) (base := base) T
  have G_has_all_0 := ok_has_all_0 (P := P) (w := w) (base := base) T
  refine T.F_arches_0x.okX sc_arches_0x (fun vs H Q E h => ?_) (fun cdv A outer s H vs Q E hr h => ⟨t_arches_0x K T.er E, ?_, pure_arches_0x vs H Q E h⟩)
  · unfold sp_arches_0x at h
    repeat (first | (obtain ⟨rfl, _⟩ := h; rfl) | (obtain ⟨_, h⟩ := h))
  · unfold t_arches_0x
    exact (pss_cons (ps_expr (pe_call G_need_letters_2x (hr.mono (by decide)) (by rfl) T.a_need_letters_2x T.F_need_letters_2x.kp T.b_need_letters_2x .nil (Lv.passE (takes_of rfl rfl rfl rfl)) (pa_cons (pv 1) pa_nil))) (pss_cons (ps_set (i := 2) nd rfl (by first | exact Or.inl rfl | exact Or.inr rfl) (pe_lst pa_nil)) (pss_cons (ps_set (i := 3) nd rfl (by first | exact Or.inl rfl | exact Or.inr rfl) pe_int) (pss_cons (ps_for (passes_of rfl) (by rfl) (pi_range2 (by rfl) T.z_range (pa_cons pe_int (pa_cons (pe_op op_add (pe_callB Lv.call_lenT (by rfl) T.z_len (by decide +kernel) (pa_cons (pv 0) pa_nil)) pe_int) pa_nil))) (pg_name (i := 4) nd rfl (by first | exact Or.inl rfl | exact Or.inr rfl)) (pss_one (ps_if (pt_val (pe_call G_has_all_0 (hr.mono (by decide)) (by rfl) T.a_has_all_0 T.F_has_all_0.kp T.b_has_all_0 .nil pass0 (pa_cons (pe_slice Lv.sl_S (pv 0) (po_some (pv 3)) (po_some (pv 4))) (pa_cons (pv 1) pa_nil)))) (pss_cons (ps_expr (pe_bm PySem.F.plainAttrs_list PySem.F.slot_list_append PySem.F.type_list_append mt_append (pv 2) (pa_cons (pv 4) pa_nil))) (pss_one (ps_set (i := 3) nd rfl (by first | exact Or.inl rfl | exact Or.inr rfl) (pv 4)))) pss_nil))) (pss_one (ps_ret (pv 2)))))))
theorem ok_Growing_1_putx (T : Txt K mg) : FnOk P w K mg base (L2.CX P w) 1 T.f_Growing_1_putx T.fd_Growing_1_putx ["self", "letter"] (sp_Growing_1_putx K T.C_Growing T.er) := by
  have nd := sc_Growing_1_putx.nd
  refine T.F_Growing_1_putx.okX sc_Growing_1_putx (fun vs H Q E h => ?_) (fun cdv A outer s H vs Q E hr h => ⟨t_Growing_1_putx K T.C_Growing T.er E, ?_, pure_Growing_1_putx T.kl_Growing vs H Q E h⟩)
  · unfold sp_Growing_1_putx at h
    repeat (first | (obtain ⟨rfl, _⟩ := h; rfl) | (obtain ⟨_, h⟩ := h))
  · unfold t_Growing_1_putx
    exact (pss_cons (ps_if (PW.pt (pw_or (pt_not (pt_val (pe_callB Lv.call_is1 (by rfl) T.z_isinstance (by decide +kernel) (pa_cons (pv 1) (pa_cons (pe_bltn (v := .ty "str") (u := .type "str") (by rfl) T.z_str (by decide +kernel) rfl) pa_nil))))) (pw_or (pt_cmpR Lv.op_neI (pe_callB Lv.call_lenT (by rfl) T.z_len (by decide +kernel) (pa_cons (pv 1) pa_nil)) pe_int (nomark _)) (pw_or1 (pt_cmpR Lv.op_notIn1 (pv 1) (Lv.pe_globS (by rfl) T.c_SMALL_growing) (by rfl)))))) (pss_one (ps_raise rfl (takes_of rfl rfl rfl rfl) (pmk_own PySem.F.excBase_ValueError T.ER_2.xC T.e_NoLetter T.ER_2.kC (raises_own T.ER_2.bC T.ER_2.tC) (by exact rfl)))) pss_nil) (pss_cons (ps_if (pt_cmpR op_ge (pe_callB Lv.call_lenT (by rfl) T.z_len (by decide +kernel) (pa_cons (pe_fld (pv 0) (by rfl)) pa_nil)) (Lv.pe_globI (by rfl) T.c_MOST_LETTERS_growing) (nomark _)) (pss_one (ps_raise rfl (takes_of rfl rfl rfl rfl) (pmk_own PySem.F.excBase_ValueError T.ER_2.xC T.e_NoLetter T.ER_2.kC (raises_own T.ER_2.bC T.ER_2.tC) (by exact rfl)))) pss_nil) (pss_one (ps_fldaug (pv 0) (pv 1) Lv.ip_addS))))
theorem ok_left_at_0x (T : Txt K mg) : FnOk P w K mg base (L2.CX P w) 2 T.f_left_at_0x T.fd_left_at_0x ["row", "place"] (sp_left_at_0x K T.er) := by
  have nd := sc_left_at_0x.nd
  have G_next_tables_0 := ok_next_tables_0 (P := P) (w := w) (base := base) T
  have G_counts_from_0 := ok_counts_from_0 (P := P) (w := w) (base := base) T
  have G_is_whole_0x := ok_is_whole_0x (P := P) (w := w) (base := base) T
  refine T.F_left_at_0x.okX sc_left_at_0x (fun vs H Q E h => ?_) (fun cdv A outer s H vs Q E hr h => ⟨t_left_at_0x K T.er E, ?_, pure_left_at_0x vs H Q E h⟩)
  · unfold sp_left_at_0x at h
    repeat (first | (obtain ⟨rfl, _⟩ := h; rfl) | (obtain ⟨_, h⟩ := h))
  · unfold t_left_at_0x
    exact (pss_cons (ps_set (i := 2) nd rfl (by first | exact Or.inl rfl | exact Or.inr rfl) (pe_call G_counts_from_0 (hr.mono (by decide)) (by rfl) T.a_counts_from_0 T.F_counts_from_0.kp T.b_counts_from_0 .nil pass0 (pa_cons (pv 0) pa_nil))) (pss_cons (ps_if (PW.pt (pw_or (pt_not (pt_val (pe_call G_is_whole_0x (hr.mono (by decide)) (by rfl) T.a_is_whole_0x T.F_is_whole_0x.kp T.b_is_whole_0x .nil pass0 (pa_cons (pv 1) pa_nil)))) (pw_or1 (pt_not (pt_chain op_le op_lt pe_int (pv 1) (pe_ix ix_list (pv 2) pe_int (fun _ _ => rfl))))))) (pss_one (ps_raise rfl (takes_of rfl rfl rfl rfl) (pmk_own PySem.F.excBase_ValueError T.ER_4.xC T.e_NoPlace T.ER_4.kC (raises_own T.ER_4.bC T.ER_4.tC) (by exact rfl)))) pss_nil) (pss_cons (ps_set (i := 3) nd rfl (by first | exact Or.inl rfl | exact Or.inr rfl) (pe_call G_next_tables_0 (hr.mono (by decide)) (by rfl) T.a_next_tables_0 T.F_next_tables_0.kp T.b_next_tables_0 .nil pass0 (pa_cons (pv 0) pa_nil))) (pss_cons (ps_set (i := 4) nd rfl (by first | exact Or.inl rfl | exact Or.inr rfl) (Lv.pe_strS (l := []) (by decide +kernel))) (pss_cons (ps_set (i := 5) nd rfl (by first | exact Or.inl rfl | exact Or.inr rfl) pe_int) (pss_cons (ps_while (passes_of rfl) (pt_cmpR op_gt (pv 1) pe_int (nomark _)) (pss_cons (ps_aug (i := 1) nd rfl (by first | exact Or.inl rfl | exact Or.inr rfl) pe_int ip_sub) (pss_cons (ps_for (passes_of rfl) (by rfl) (pi_list (pe_callB (Lv.call_sortedD1 (by rfl)) (by rfl) T.z_sorted (by decide +kernel) (pa_cons (pe_ix ix_list (pv 3) (pv 5) (fun _ _ => rfl)) pa_nil))) (pg_name (i := 6) nd rfl (by first | exact Or.inl rfl | exact Or.inr rfl)) (pss_cons (ps_set (i := 7) nd rfl (by first | exact Or.inl rfl | exact Or.inr rfl) (pe_op op_add (pe_dget (hu_of hr) (pe_ix ix_list (pv 3) (pv 5) (fun _ _ => rfl)) (pv 6) (fun _ _ => rfl)) pe_int)) (pss_cons (ps_if (pt_cmpR op_lt (pv 1) (pe_ix ix_list (pv 2) (pv 7) (fun _ _ => rfl)) (nomark _)) (pss_one ps_break) pss_nil) (pss_one (ps_aug (i := 1) nd rfl (by first | exact Or.inl rfl | exact Or.inr rfl) (pe_ix ix_list (pv 2) (pv 7) (fun _ _ => rfl)) ip_sub))))) (pss_cons (ps_aug (i := 4) nd rfl (by first | exact Or.inl rfl | exact Or.inr rfl) (pv 6) Lv.ip_addS) (pss_one (ps_set (i := 5) nd rfl (by first | exact Or.inl rfl | exact Or.inr rfl) (pv 7))))))) (pss_one (ps_ret (pv 4)))))))))
theorem ok_need_letters_1x (T : Txt K mg) : FnOk P w K mg base (L2.CX P w) 1 T.f_need_letters_1x T.fd_need_letters_1x ["thing"] (sp_need_letters_1x K T.er) := by
  have nd := sc_need_letters_1x.nd
  refine T.F_need_letters_1x.okX sc_need_letters_1x (fun vs H Q E h => ?_) (fun cdv A outer s H vs Q E hr h => ⟨t_need_letters_1x K T.er E, ?_, pure_need_letters_1x vs H Q E h⟩)
  · unfold sp_need_letters_1x at h
    repeat (first | (obtain ⟨rfl, _⟩ := h; rfl) | (obtain ⟨_, h⟩ := h))
  · unfold t_need_letters_1x
    exact (pss_cons (ps_if (PW.pt (pw_or (pt_not (pt_val (pe_callB Lv.call_is1 (by rfl) T.z_isinstance (by decide +kernel) (pa_cons (pv 0) (pa_cons (pe_bltn (v := .ty "str") (u := .type "str") (by rfl) T.z_str (by decide +kernel) rfl) pa_nil))))) (pw_or1 (pt_cmpR Lv.op_eqS (pv 0) (Lv.pe_strS (l := []) (by decide +kernel)) (nomark _))))) (pss_one (ps_raise rfl (takes_of rfl rfl rfl rfl) (pmk_own PySem.F.excBase_ValueError T.ER_3.xC T.e_NoLetters T.ER_3.kC (raises_own T.ER_3.bC T.ER_3.tC) (by exact rfl)))) pss_nil) (pss_cons (ps_if (pt_cmpR (Lv.op_neLS hr.units) (pe_lc (own := [("letter", 1)]) (g := (gName 1)) (tt := (tTest (tOp (Lv.rIn1 true) (tVar 1) (tC (.str (S [97, 98, 99, 100, 101, 102, 103, 104, 105, 106, 107, 108, 109, 110, 111, 112, 113, 114, 115, 116, 117, 118, 119, 120, 121, 122])))))) (by rfl) nd (pi_str (pv 0)) (blkOk_by (own := [("letter", 1)]) (N := N_need_letters_1x) (sc := defScope s_need_letters_1x) (by decide +kernel)) (fun _ _ _ _ _ => (pg_name (i := 1) nd rfl (by first | exact Or.inl rfl | exact Or.inr rfl))) (fun _ _ _ _ _ => (pts_one (pt_cmpR Lv.op_notIn1 (pv 1) (Lv.pe_globS (by rfl) T.c_SMALL_shortest) (by rfl)))) (fun _ _ _ _ _ => (pv 1))) (pe_lst pa_nil) (nomark _)) (pss_one (ps_raise rfl (takes_of rfl rfl rfl rfl) (pmk_own PySem.F.excBase_ValueError T.ER_3.xC T.e_NoLetters T.ER_3.kC (raises_own T.ER_3.bC T.ER_3.tC) (by exact rfl)))) pss_nil) (pss_one (ps_if (pt_cmpR (Lv.op_neL hr.units) (pe_lc (own := [("one", 2), ("other", 3)]) (g := (gTup K 2 (gCons (gName 2) (gCons (gName 3) gNil)))) (tt := (tTest (tOp Lv.rGeS (tVar 2) (tVar 3)))) (by rfl) nd (Lv.pi_zipS (by rfl) T.z_zip (pa_cons (pv 0) (pa_cons (pe_slice Lv.sl_S (pv 0) (po_some pe_int) po_none) pa_nil))) (blkOk_by (own := [("one", 2), ("other", 3)]) (N := N_need_letters_1x) (sc := defScope s_need_letters_1x) (by decide +kernel)) (fun _ _ _ _ _ => (pg_tup (by rfl) (pgs_cons (pg_name (i := 2) nd rfl (by first | exact Or.inl rfl | exact Or.inr rfl)) (pgs_cons (pg_name (i := 3) nd rfl (by first | exact Or.inl rfl | exact Or.inr rfl)) pgs_nil)))) (fun _ _ _ _ _ => (pts_one (pt_cmpR Lv.op_geS (pv 2) (pv 3) (nomark _)))) (fun _ _ _ _ _ => pe_int)) (pe_lst pa_nil) (nomark _)) (pss_one (ps_raise rfl (takes_of rfl rfl rfl rfl) (pmk_own PySem.F.excBase_ValueError T.ER_3.xC T.e_NoLetters T.ER_3.kC (raises_own T.ER_3.bC T.ER_3.tC) (by exact rfl)))) pss_nil))))
theorem ok_lacks_from_0 (T : Txt K mg) : FnOk P w K mg base CX0 2 T.f_lacks_from_0 T.fd_lacks_from_0 ["row", "letters"] (sp_lacks_from_0 K) := by
  have nd := sc_lacks_from_0.nd
  have G_next_at_0 := ok_next_at_0 (P := P) (w := w) (base := base) T
  refine T.F_lacks_from_0.ok sc_lacks_from_0 (fun vs H Q E h => ?_) (fun cdv A outer s H vs Q E hr h => ⟨t_lacks_from_0 K, ?_, pure_lacks_from_0 vs H Q E h⟩)
  · unfold sp_lacks_from_0 at h
    repeat (first | (obtain ⟨rfl, _⟩ := h; rfl) | (obtain ⟨_, h⟩ := h))
  · unfold t_lacks_from_0
    exact (pss_cons (ps_set (i := 2) nd rfl (by first | exact Or.inl rfl | exact Or.inr rfl) (pe_op op_rep (pe_lst (pa_cons (pe_tup (pa_cons pe_int (pa_cons (pe_callB Lv.call_lenT (by rfl) T.z_len (by decide +kernel) (pa_cons (pv 1) pa_nil)) pa_nil))) pa_nil)) (pe_op op_add (pe_callB Lv.call_lenT (by rfl) T.z_len (by decide +kernel) (pa_cons (pv 0) pa_nil)) pe_int))) (pss_cons (ps_for PassesOwn.never (by rfl) (pi_range3 (by rfl) T.z_range (pa_cons (pe_op op_sub (pe_callB Lv.call_lenT (by rfl) T.z_len (by decide +kernel) (pa_cons (pv 0) pa_nil)) pe_int) (pa_cons (pe_un un_neg pe_int) (pa_cons (pe_un un_neg pe_int) pa_nil)))) (pg_name (i := 3) nd rfl (by first | exact Or.inl rfl | exact Or.inr rfl)) (pss_cons (ps_set (i := 4) nd rfl (by first | exact Or.inl rfl | exact Or.inr rfl) (pe_lst pa_nil)) (pss_cons (ps_for PassesOwn.never (by rfl) (pi_str (pv 1)) (pg_name (i := 5) nd rfl (by first | exact Or.inl rfl | exact Or.inr rfl)) (pss_cons (ps_set (i := 6) nd rfl (by first | exact Or.inl rfl | exact Or.inr rfl) (pe_call G_next_at_0 (hr.mono (by decide)) (by rfl) T.a_next_at_0 T.F_next_at_0.kp T.b_next_at_0 .nil pass0 (pa_cons (pv 0) (pa_cons (pv 3) (pa_cons (pv 5) pa_nil))))) (pss_one (ps_if (pt_cmpR Lv.op_isN1 (pv 6) pe_non (nomark _)) (pss_one (ps_expr (pe_bm PySem.F.plainAttrs_list PySem.F.slot_list_append PySem.F.type_list_append mt_append (pv 4) (pa_cons (pe_tup (pa_cons pe_int (pa_cons pe_int pa_nil))) pa_nil)))) (pss_one (ps_expr (pe_bm PySem.F.plainAttrs_list PySem.F.slot_list_append PySem.F.type_list_append mt_append (pv 4) (pa_cons (pe_tup (pa_cons (pe_op op_add (pe_ix ix_tup (pe_ix ix_list (pv 2) (pe_op op_add (pv 6) pe_int) (fun _ _ => rfl)) pe_int (fun _ _ => rfl)) pe_int) (pa_cons (pe_ix ix_tup (pe_ix ix_list (pv 2) (pe_op op_add (pv 6) pe_int) (fun _ _ => rfl)) pe_int (fun _ _ => rfl)) pa_nil))) pa_nil)))))))) (pss_cons (ps_set (i := 7) nd rfl (by first | exact Or.inl rfl | exact Or.inr rfl) (pe_callB (cr_min (by rfl)) (by rfl) T.z_min (by decide +kernel) (pa_cons (pe_lc (own := [("size", 8), ("many", 9)]) (g := (gTup K 2 (gCons (gName 8) (gCons (gName 9) gNil)))) (tt := tYes) (by rfl) nd (pi_list (pv 4)) (blkOk_by (own := [("size", 8), ("many", 9)]) (N := N_lacks_from_0) (sc := defScope s_lacks_from_0) (by decide +kernel)) (fun _ _ _ _ _ => (pg_tup (by rfl) (pgs_cons (pg_name (i := 8) nd rfl (by first | exact Or.inl rfl | exact Or.inr rfl)) (pgs_cons (pg_name (i := 9) nd rfl (by first | exact Or.inl rfl | exact Or.inr rfl)) pgs_nil)))) (fun _ _ _ _ _ => pts_nil) (fun _ _ _ _ _ => (pv 8))) pa_nil))) (pss_one (ps_asg (pe_tup (pa_cons (pv 7) (pa_cons (pe_callB (cr_sum (by rfl)) (by rfl) T.z_sum (by decide +kernel) (pa_cons (pe_lc (own := [("size", 8), ("many", 9)]) (g := (gTup K 2 (gCons (gName 8) (gCons (gName 9) gNil)))) (tt := (tTest (tOp Lv.rEqI (tVar 8) (tVar 7)))) (by rfl) nd (pi_list (pv 4)) (blkOk_by (own := [("size", 8), ("many", 9)]) (N := N_lacks_from_0) (sc := defScope s_lacks_from_0) (by decide +kernel)) (fun _ _ _ _ _ => (pg_tup (by rfl) (pgs_cons (pg_name (i := 8) nd rfl (by first | exact Or.inl rfl | exact Or.inr rfl)) (pgs_cons (pg_name (i := 9) nd rfl (by first | exact Or.inl rfl | exact Or.inr rfl)) pgs_nil)))) (fun _ _ _ _ _ => (pts_one (pt_cmpR Lv.op_eqI (pv 8) (pv 7) (nomark _)))) (fun _ _ _ _ _ => (pv 9))) pa_nil)) pa_nil))) (pg_sub (pv 2) (pv 3) set_list))))))) (pss_one (ps_ret (pv 2)))))
theorem ok_shortest_not_left_1x (T : Txt K mg) : FnOk P w K mg base (L2.CX P w) 3 T.f_shortest_not_left_1x T.fd_shortest_not_left_1x ["row", "letters"] (sp_shortest_not_left_1x K T.er) := by
  have nd := sc_shortest_not_left_1x.nd
  have G_next_at_0 := ok_next_at_0 (P := P) (w := w) (base := base) T
  have G_need_letters_1x := ok_need_letters_1x (P := P) (w := w) (base := base) T
  have G_lacks_from_0 := ok_lacks_from_0 (P := P) (w := w) (base := base) T
  refine T.F_shortest_not_left_1x.okX sc_shortest_not_left_1x (fun vs H Q E h => ?_) (fun cdv A outer s H vs Q E hr h => ⟨t_shortest_not_left_1x K T.er E, ?_, pure_shortest_not_left_1x vs H Q E h⟩)
  · unfold sp_shortest_not_left_1x at h
    repeat (first | (obtain ⟨rfl, _⟩ := h; rfl) | (obtain ⟨_, h⟩ := h))
  · unfold t_shortest_not_left_1x
    exact (pss_cons (ps_expr (pe_call G_need_letters_1x (hr.mono (by decide)) (by rfl) T.a_need_letters_1x T.F_need_letters_1x.kp T.b_need_letters_1x .nil (Lv.passE (takes_of rfl rfl rfl rfl)) (pa_cons (pv 1) pa_nil))) (pss_cons (ps_set (i := 2) nd rfl (by first | exact Or.inl rfl | exact Or.inr rfl) (pe_call G_lacks_from_0 (hr.mono (by decide)) (by rfl) T.a_lacks_from_0 T.F_lacks_from_0.kp T.b_lacks_from_0 .nil pass0 (pa_cons (pv 0) (pa_cons (pv 1) pa_nil)))) (pss_cons (ps_set (i := 3) nd rfl (by first | exact Or.inl rfl | exact Or.inr rfl) (Lv.pe_strS (l := []) (by decide +kernel))) (pss_cons (ps_set (i := 4) nd rfl (by first | exact Or.inl rfl | exact Or.inr rfl) pe_int) (pss_cons (ps_for (passes_of rfl) (by rfl) (pi_range3 (by rfl) T.z_range (pa_cons (pe_ix ix_tup (pe_ix ix_list (pv 2) pe_int (fun _ _ => rfl)) pe_int (fun _ _ => rfl)) (pa_cons pe_int (pa_cons (pe_un un_neg pe_int) pa_nil)))) (pg_name (i := 5) nd rfl (by first | exact Or.inl rfl | exact Or.inr rfl)) (pss_cons (ps_for (passes_of rfl) (by rfl) (pi_str (pv 1)) (pg_name (i := 6) nd rfl (by first | exact Or.inl rfl | exact Or.inr rfl)) (pss_cons (ps_set (i := 7) nd rfl (by first | exact Or.inl rfl | exact Or.inr rfl) (pe_call G_next_at_0 (hr.mono (by decide)) (by rfl) T.a_next_at_0 T.F_next_at_0.kp T.b_next_at_0 .nil pass0 (pa_cons (pv 0) (pa_cons (pv 4) (pa_cons (pv 6) pa_nil))))) (pss_one (ps_if (PW.pt (pw_or (PW.pt (pw_and (pt_cmpR Lv.op_isN1 (pv 7) pe_non (nomark _)) (pw_and1 (pt_cmpR Lv.op_eqI (pv 5) pe_int (nomark _))))) (pw_or1 (PW.pt (pw_and (pt_cmpR Lv.op_notN1 (pv 7) pe_non (nomark _)) (pw_and1 (pt_cmpR Lv.op_eqI (pe_ix ix_tup (pe_ix ix_list (pv 2) (pe_op op_add (pv 7) pe_int) (fun _ _ => rfl)) pe_int (fun _ _ => rfl)) (pe_op op_sub (pv 5) pe_int) (nomark _)))))))) (pss_one ps_break) pss_nil)))) (pss_cons (ps_aug (i := 3) nd rfl (by first | exact Or.inl rfl | exact Or.inr rfl) (pv 6) Lv.ip_addS) (pss_one (ps_if (pt_cmpR Lv.op_notN1 (pv 7) pe_non (nomark _)) (pss_one (ps_set (i := 4) nd rfl (by first | exact Or.inl rfl | exact Or.inr rfl) (pe_op op_add (pv 7) pe_int))) pss_nil))))) (pss_one (ps_ret (pv 3))))))))
theorem ok_way_at_0x (T : Txt K mg) : FnOk P w K mg base (L2.CX P w) 2 T.f_way_at_0x T.fd_way_at_0x ["row", "other", "place"] (sp_way_at_0x K T.er) := by
  have nd := sc_way_at_0x.nd
  have G_ways_from_0 := ok_ways_from_0 (P := P) (w := w) (base := base) T
  refine T.F_way_at_0x.okX sc_way_at_0x (fun vs H Q E h => ?_) (fun cdv A outer s H vs Q E hr h => ⟨t_way_at_0x K T.er E, ?_, pure_way_at_0x vs H Q E h⟩)
  · unfold sp_way_at_0x at h
    repeat (first | (obtain ⟨rfl, _⟩ := h; rfl) | (obtain ⟨_, h⟩ := h))
  · unfold t_way_at_0x
    exact (pss_cons (ps_set (i := 3) nd rfl (by first | exact Or.inl rfl | exact Or.inr rfl) (pe_call G_ways_from_0 (hr.mono (by decide)) (by rfl) T.a_ways_from_0 T.F_ways_from_0.kp T.b_ways_from_0 .nil pass0 (pa_cons (pv 0) (pa_cons (pv 1) pa_nil)))) (pss_cons (ps_if (PW.pt (pw_or (pt_not (pt_val (pe_callB Lv.call_is1 (by rfl) T.z_isinstance (by decide +kernel) (pa_cons (pv 2) (pa_cons (pe_bltn (v := .ty "int") (u := .type "int") (by rfl) T.z_int (by decide +kernel) rfl) pa_nil))))) (pw_or (pt_val (pe_callB Lv.call_is1 (by rfl) T.z_isinstance (by decide +kernel) (pa_cons (pv 2) (pa_cons (pe_bltn (v := .ty "bool") (u := .type "bool") (by rfl) T.z_bool (by decide +kernel) rfl) pa_nil)))) (pw_or1 (pt_not (pt_chain op_le op_lt pe_int (pv 2) (pe_ix ix_list (pe_ix ix_list (pv 3) pe_int (fun _ _ => rfl)) pe_int (fun _ _ => rfl)))))))) (pss_one (ps_raise rfl (takes_of rfl rfl rfl rfl) (pmk_own PySem.F.excBase_ValueError T.ER_4.xC T.e_NoPlace T.ER_4.kC (raises_own T.ER_4.bC T.ER_4.tC) (by exact rfl)))) pss_nil) (pss_cons (ps_set (i := 4) nd rfl (by first | exact Or.inl rfl | exact Or.inr rfl) (pv 2)) (pss_cons (ps_set (i := 5) nd rfl (by first | exact Or.inl rfl | exact Or.inr rfl) (pe_lst pa_nil)) (pss_cons (ps_set (i := 6) nd rfl (by first | exact Or.inl rfl | exact Or.inr rfl) pe_int) (pss_cons (ps_for (passes_of rfl) (by rfl) (Lv.pi_enumS (by rfl) T.z_enumerate (pa_cons (pv 1) pa_nil)) (pg_tup (by rfl) (pgs_cons (pg_name (i := 7) nd rfl (by first | exact Or.inl rfl | exact Or.inr rfl)) (pgs_cons (pg_name (i := 8) nd rfl (by first | exact Or.inl rfl | exact Or.inr rfl)) pgs_nil))) (pss_cons (ps_while (passes_of rfl) (PW.pt (pw_or (pt_cmpR Lv.op_neS (pe_ix Lv.ix_S (pv 0) (pv 6) (fun _ _ => rfl)) (pv 8) (nomark _)) (pw_or1 (pt_cmpR op_ge (pv 4) (pe_ix ix_list (pe_ix ix_list (pv 3) (pe_op op_add (pv 6) pe_int) (fun _ _ => rfl)) (pe_op op_add (pv 7) pe_int) (fun _ _ => rfl)) (nomark _))))) (Evl.pss_cut (ps_if (pt_cmpR Lv.op_eqS (pe_ix Lv.ix_S (pv 0) (pv 6) (fun _ _ => rfl)) (pv 8) (nomark _)) (pss_one (ps_aug (i := 4) nd rfl (by first | exact Or.inl rfl | exact Or.inr rfl) (pe_ix ix_list (pe_ix ix_list (pv 3) (pe_op op_add (pv 6) pe_int) (fun _ _ => rfl)) (pe_op op_add (pv 7) pe_int) (fun _ _ => rfl)) ip_sub)) pss_nil) (pss_one (ps_aug (i := 6) nd rfl (by first | exact Or.inl rfl | exact Or.inr rfl) pe_int ip_add)))) (pss_cons (ps_expr (pe_bm PySem.F.plainAttrs_list PySem.F.slot_list_append PySem.F.type_list_append mt_append (pv 5) (pa_cons (pv 6) pa_nil))) (pss_one (ps_aug (i := 6) nd rfl (by first | exact Or.inl rfl | exact Or.inr rfl) pe_int ip_add))))) (pss_one (ps_ret (pv 5)))))))))
theorem ok_is_row_0 (T : Txt K mg) : FnOk P w K mg base CX0 1 T.f_is_row_0 T.fd_is_row_0 ["thing"] (sp_is_row_0 K) := by
  have nd := sc_is_row_0.nd
  refine T.F_is_row_0.ok sc_is_row_0 (fun vs H Q E h => ?_) (fun cdv A outer s H vs Q E hr h => ⟨t_is_row_0 K, ?_, pure_is_row_0 vs H Q E h⟩)
  · unfold sp_is_row_0 at h
    repeat (first | (obtain ⟨rfl, _⟩ := h; rfl) | (obtain ⟨_, h⟩ := h))
  · unfold t_is_row_0
    exact (pss_one (ps_ret (pe_and (pe_callB Lv.call_is1 (by rfl) T.z_isinstance (by decide +kernel) (pa_cons (pv 0) (pa_cons (pe_bltn (v := .ty "str") (u := .type "str") (by rfl) T.z_str (by decide +kernel) rfl) pa_nil))) (pe_one (pe_cmpR (Lv.op_eqLS hr.units) (pe_lc (own := [("sign", 1)]) (g := (gName 1)) (tt := (tNot (tTest (tChain Lv.rLeS Lv.rLeS (tC (.str (S [97]))) (tVar 1) (tC (.str (S [122]))))))) (by rfl) nd (pi_str (pv 0)) (blkOk_by (own := [("sign", 1)]) (N := N_is_row_0) (sc := defScope s_is_row_0) (by decide +kernel)) (fun _ _ _ _ _ => (pg_name (i := 1) nd rfl (by first | exact Or.inl rfl | exact Or.inr rfl))) (fun _ _ _ _ _ => (pts_one (pt_not (pt_chain Lv.op_leS Lv.op_leS (Lv.pe_strS (l := [97]) (by decide +kernel)) (pv 1) (Lv.pe_strS (l := [122]) (by decide +kernel)))))) (fun _ _ _ _ _ => (pv 1))) (pe_lst pa_nil) (nomark _))))))
theorem ok_row_in_0 (T : Txt K mg) : FnOk P w K mg base (L2.CX P w) 2 T.f_row_in_0 T.fd_row_in_0 ["word"] (sp_row_in_0 K T.er) := by
  have nd := sc_row_in_0.nd
  have G_is_row_0 := ok_is_row_0 (P := P) (w := w) (base := base) T
  refine T.F_row_in_0.okX sc_row_in_0 (fun vs H Q E h => ?_) (fun cdv A outer s H vs Q E hr h => ⟨t_row_in_0 K T.er E, ?_, pure_row_in_0 vs H Q E h⟩)
  · unfold sp_row_in_0 at h
    repeat (first | (obtain ⟨rfl, _⟩ := h; rfl) | (obtain ⟨_, h⟩ := h))
  · unfold t_row_in_0
    exact (pss_cons (ps_if (pt_cmpR Lv.op_eqS (pv 0) (Lv.pe_strS (l := [45]) (by decide +kernel)) (nomark _)) (pss_one (ps_ret (Lv.pe_strS (l := []) (by decide +kernel)))) pss_nil) (pss_cons (ps_if (PW.pt (pw_or (pt_cmpR Lv.op_eqS (pv 0) (Lv.pe_strS (l := []) (by decide +kernel)) (nomark _)) (pw_or (pt_not (pt_val (pe_call G_is_row_0 (hr.mono (by decide)) (by rfl) T.a_is_row_0 T.F_is_row_0.kp T.b_is_row_0 .nil pass0 (pa_cons (pv 0) pa_nil)))) (pw_or1 (pt_cmpR op_gt (pe_callB Lv.call_lenT (by rfl) T.z_len (by decide +kernel) (pa_cons (pv 0) pa_nil)) (Lv.pe_globI (by rfl) T.c_MOST_LETTERS_desk) (nomark _)))))) (pss_one (ps_raise rfl (takes_of rfl rfl rfl rfl) (pmk_own PySem.F.excBase_ValueError T.ER_1.xC T.e_NoCommand T.ER_1.kC (raises_own T.ER_1.bC T.ER_1.tC) (by exact rfl)))) pss_nil) (pss_one (ps_ret (pv 0)))))
theorem ok_first_places_0 (T : Txt K mg) : FnOk P w K mg base CX0 1 T.f_first_places_0 T.fd_first_places_0 ["row", "other"] (sp_first_places_0 K) := by
  have nd := sc_first_places_0.nd
  refine T.F_first_places_0.ok sc_first_places_0 (fun vs H Q E h => ?_) (fun cdv A outer s H vs Q E hr h => ⟨t_first_places_0 K, ?_, pure_first_places_0 vs H Q E h⟩)
  · unfold sp_first_places_0 at h
    repeat (first | (obtain ⟨rfl, _⟩ := h; rfl) | (obtain ⟨_, h⟩ := h))
  · unfold t_first_places_0
    exact (pss_cons (ps_set (i := 2) nd rfl (by first | exact Or.inl rfl | exact Or.inr rfl) (pe_lst pa_nil)) (pss_cons (ps_set (i := 3) nd rfl (by first | exact Or.inl rfl | exact Or.inr rfl) pe_int) (pss_cons (ps_for PassesOwn.never (by rfl) (pi_str (pv 1)) (pg_name (i := 4) nd rfl (by first | exact Or.inl rfl | exact Or.inr rfl)) (pss_cons (ps_set (i := 5) nd rfl (by first | exact Or.inl rfl | exact Or.inr rfl) (pe_bm PySem.F.plainAttrs_str PySem.F.slot_str_find PySem.F.type_str_find Lv.mt_findS (pv 0) (pa_cons (pv 4) (pa_cons (pv 3) pa_nil)))) (pss_cons (ps_if (pt_cmpR op_lt (pv 5) pe_int (nomark _)) (pss_one (ps_ret pe_non)) pss_nil) (pss_cons (ps_expr (pe_bm PySem.F.plainAttrs_list PySem.F.slot_list_append PySem.F.type_list_append mt_append (pv 2) (pa_cons (pv 5) pa_nil))) (pss_one (ps_set (i := 3) nd rfl (by first | exact Or.inl rfl | exact Or.inr rfl) (pe_op op_add (pv 5) pe_int))))))) (pss_one (ps_ret (pv 2))))))
theorem ok_is_left_0 (T : Txt K mg) : FnOk P w K mg base CX0 2 T.f_is_left_0 T.fd_is_left_0 ["row", "thing"] (sp_is_left_0 K) := by
  have nd := sc_is_left_0.nd
  have G_is_row_0 := ok_is_row_0 (P := P) (w := w) (base := base) T
  have G_first_places_0 := ok_first_places_0 (P := P) (w := w) (base := base) T
  refine T.F_is_left_0.ok sc_is_left_0 (fun vs H Q E h => ?_) (fun cdv A outer s H vs Q E hr h => ⟨t_is_left_0 K, ?_, pure_is_left_0 vs H Q E h⟩)
  · unfold sp_is_left_0 at h
    repeat (first | (obtain ⟨rfl, _⟩ := h; rfl) | (obtain ⟨_, h⟩ := h))
  · unfold t_is_left_0
    exact (pss_one (ps_ret (pe_and (pe_call G_is_row_0 (hr.mono (by decide)) (by rfl) T.a_is_row_0 T.F_is_row_0.kp T.b_is_row_0 .nil pass0 (pa_cons (pv 1) pa_nil)) (pe_one (pe_cmpR Lv.op_notN1 (pe_call G_first_places_0 (hr.mono (by decide)) (by rfl) T.a_first_places_0 T.F_first_places_0.kp T.b_first_places_0 .nil pass0 (pa_cons (pv 0) (pa_cons (pv 1) pa_nil))) pe_non (nomark _))))))
theorem ok_Growing_1_has (T : Txt K mg) : FnOk P w K mg base CX0 3 T.f_Growing_1_has T.fd_Growing_1_has ["self", "thing"] (sp_Growing_1_has K T.C_Growing) := by
  have nd := sc_Growing_1_has.nd
  have G_is_left_0 := ok_is_left_0 (P := P) (w := w) (base := base) T
  refine T.F_Growing_1_has.ok sc_Growing_1_has (fun vs H Q E h => ?_) (fun cdv A outer s H vs Q E hr h => ⟨t_Growing_1_has K T.C_Growing, ?_, pure_Growing_1_has T.kl_Growing vs H Q E h⟩)
  · unfold sp_Growing_1_has at h
    repeat (first | (obtain ⟨rfl, _⟩ := h; rfl) | (obtain ⟨_, h⟩ := h))
  · unfold t_Growing_1_has
    exact (pss_one (ps_ret (pe_call G_is_left_0 (hr.mono (by decide)) (by rfl) T.a_is_left_0 T.F_is_left_0.kp T.b_is_left_0 .nil pass0 (pa_cons (pe_fld (pv 0) (by rfl)) (pa_cons (pv 1) pa_nil)))))
theorem ok_place_of_0x (T : Txt K mg) : FnOk P w K mg base (L2.CX P w) 3 T.f_place_of_0x T.fd_place_of_0x ["row", "thing"] (sp_place_of_0x K T.er) := by
  have nd := sc_place_of_0x.nd
  have G_next_tables_0 := ok_next_tables_0 (P := P) (w := w) (base := base) T
  have G_counts_from_0 := ok_counts_from_0 (P := P) (w := w) (base := base) T
  have G_is_left_0 := ok_is_left_0 (P := P) (w := w) (base := base) T
  refine T.F_place_of_0x.okX sc_place_of_0x (fun vs H Q E h => ?_) (fun cdv A outer s H vs Q E hr h => ⟨t_place_of_0x K T.er E, ?_, pure_place_of_0x vs H Q E h⟩)
  · unfold sp_place_of_0x at h
    repeat (first | (obtain ⟨rfl, _⟩ := h; rfl) | (obtain ⟨_, h⟩ := h))
  · unfold t_place_of_0x
    exact (pss_cons (ps_if (pt_not (pt_val (pe_call G_is_left_0 (hr.mono (by decide)) (by rfl) T.a_is_left_0 T.F_is_left_0.kp T.b_is_left_0 .nil pass0 (pa_cons (pv 0) (pa_cons (pv 1) pa_nil))))) (pss_one (ps_raise rfl (takes_of rfl rfl rfl rfl) (pmk_own PySem.F.excBase_ValueError T.ER_5.xC T.e_NoRow T.ER_5.kC (raises_own T.ER_5.bC T.ER_5.tC) (by exact rfl)))) pss_nil) (pss_cons (ps_set (i := 2) nd rfl (by first | exact Or.inl rfl | exact Or.inr rfl) (pe_call G_counts_from_0 (hr.mono (by decide)) (by rfl) T.a_counts_from_0 T.F_counts_from_0.kp T.b_counts_from_0 .nil pass0 (pa_cons (pv 0) pa_nil))) (pss_cons (ps_set (i := 3) nd rfl (by first | exact Or.inl rfl | exact Or.inr rfl) (pe_call G_next_tables_0 (hr.mono (by decide)) (by rfl) T.a_next_tables_0 T.F_next_tables_0.kp T.b_next_tables_0 .nil pass0 (pa_cons (pv 0) pa_nil))) (pss_cons (ps_set (i := 4) nd rfl (by first | exact Or.inl rfl | exact Or.inr rfl) pe_int) (pss_cons (ps_set (i := 5) nd rfl (by first | exact Or.inl rfl | exact Or.inr rfl) pe_int) (pss_cons (ps_for (passes_of rfl) (by rfl) (pi_str (pv 1)) (pg_name (i := 6) nd rfl (by first | exact Or.inl rfl | exact Or.inr rfl)) (pss_cons (ps_lock (ps_setLc (i := 7) (own := [("letter", 8)]) (g := (gName 8)) (tt := (tTest (tOp Lv.rLtS (tVar 8) (tVar 6)))) (by rfl) nd rfl rfl (sw_true rfl rfl rfl (by decide +kernel)) (pi_keys (pe_ix ix_list (pv 3) (pv 5) (fun _ _ => rfl))) (blkOk_by (own := [("letter", 8)]) (N := N_place_of_0x) (sc := defScope s_place_of_0x) (by decide +kernel)) (fun _ _ _ _ _ => (pg_name (i := 8) nd rfl (by first | exact Or.inl rfl | exact Or.inr rfl))) (fun _ _ _ _ _ => (pts_one (pt_cmpR Lv.op_ltS (pv 8) (pv 6) (nomark _)))) (fun _ _ _ _ _ => (pv 8)))) (pss_cons (ps_aug (i := 4) nd rfl (by first | exact Or.inl rfl | exact Or.inr rfl) (pe_op op_add pe_int (pe_callB (cr_sum (by rfl)) (by rfl) T.z_sum (by decide +kernel) (pa_cons (pe_lc (own := [("letter", 8)]) (g := (gName 8)) (tt := tYes) (by rfl) nd (pi_list (pv 7)) (blkOk_by (own := [("letter", 8)]) (N := N_place_of_0x) (sc := defScope s_place_of_0x) (by decide +kernel)) (fun _ _ _ _ _ => (pg_name (i := 8) nd rfl (by first | exact Or.inl rfl | exact Or.inr rfl))) (fun _ _ _ _ _ => pts_nil) (fun _ _ _ _ _ => (pe_ix ix_list (pv 2) (pe_op op_add (pe_dget (hu_of hr) (pe_ix ix_list (pv 3) (pv 5) (fun _ _ => rfl)) (pv 8) (fun _ _ => rfl)) pe_int) (fun _ _ => rfl)))) pa_nil))) ip_add) (pss_one (ps_set (i := 5) nd rfl (by first | exact Or.inl rfl | exact Or.inr rfl) (pe_op op_add (pe_dget (hu_of hr) (pe_ix ix_list (pv 3) (pv 5) (fun _ _ => rfl)) (pv 6) (fun _ _ => rfl)) pe_int)))))) (pss_one (ps_ret (pv 4)))))))))
theorem ok_Desk_0_new_row (T : Txt K mg) : FnOk P w K mg base CX0 3 T.f_Desk_0_new_row T.fd_Desk_0_new_row ["self", "row"] (sp_Desk_0_new_row K T.C_Desk T.C_Growing T.er) := by
  have nd := sc_Desk_0_new_row.nd
  have G_Growing_1_init := ok_Growing_1_init (P := P) (w := w) (base := base) T
  have G_Growing_1_putx := ok_Growing_1_putx (P := P) (w := w) (base := base) T
  refine T.F_Desk_0_new_row.ok sc_Desk_0_new_row (fun vs H Q E h => ?_) (fun cdv A outer s H vs Q E hr h => ⟨t_Desk_0_new_row K T.C_Desk T.C_Growing T.er, ?_, pure_Desk_0_new_row T.kl_Desk T.kl_Growing vs H Q E h⟩)
  · unfold sp_Desk_0_new_row at h
    repeat (first | (obtain ⟨rfl, _⟩ := h; rfl) | (obtain ⟨_, h⟩ := h))
  · unfold t_Desk_0_new_row
    exact (pss_cons (ps_fld (pv 0) (pe_make0 T.M_Growing G_Growing_1_init (hr.mono (by decide)) (by rfl) T.g_Growing T.b_Growing_1_init .nil pass0) (by rfl)) (pss_cons (ps_for PassesOwn.never (by rfl) (pi_str (pv 1)) (pg_name (i := 2) nd rfl (by first | exact Or.inl rfl | exact Or.inr rfl)) (pss_one (ps_expr (pe_meth (pe_fld (pv 0) (by rfl)) T.kl_Growing.cl T.m_Growing_1_putx G_Growing_1_putx (hr.mono (by decide)) T.b_Growing_1_putx .nil Lv.pass1 (pa_cons (pv 2) pa_nil))))) (pss_one (ps_ret (Lv.pe_strS (l := [111, 107]) (by decide +kernel))))))
theorem ok_Desk_0_of_a_row (T : Txt K mg) : FnOk P w K mg base (L2.CX P w) 4 T.f_Desk_0_of_a_row T.fd_Desk_0_of_a_row ["self", "head", "row"] (sp_Desk_0_of_a_row K T.C_Desk T.C_Growing T.er) := by
  have nd := sc_Desk_0_of_a_row.nd
  have G_Growing_1_row := ok_Growing_1_row (P := P) (w := w) (base := base) T
  have G_Growing_1_has := ok_Growing_1_has (P := P) (w := w) (base := base) T
  have G_place_of_0x := ok_place_of_0x (P := P) (w := w) (base := base) T
  have G_Desk_0_new_row := ok_Desk_0_new_row (P := P) (w := w) (base := base) T
  refine T.F_Desk_0_of_a_row.okX sc_Desk_0_of_a_row (fun vs H Q E h => ?_) (fun cdv A outer s H vs Q E hr h => ⟨t_Desk_0_of_a_row K T.C_Desk T.C_Growing T.er E, ?_, pure_Desk_0_of_a_row T.kl_Desk T.kl_Growing vs H Q E h⟩)
  · unfold sp_Desk_0_of_a_row at h
    repeat (first | (obtain ⟨rfl, _⟩ := h; rfl) | (obtain ⟨_, h⟩ := h))
  · unfold t_Desk_0_of_a_row
    exact (pss_cons (ps_if (pt_cmpR Lv.op_eqS (pv 1) (Lv.pe_strS (l := [114, 111, 119]) (by decide +kernel)) (nomark _)) (pss_one (ps_ret (pe_meth (pv 0) T.kl_Desk.cl T.m_Desk_0_new_row G_Desk_0_new_row (hr.mono (by decide)) T.b_Desk_0_new_row .nil pass0 (pa_cons (pv 2) pa_nil)))) pss_nil) (pss_cons (ps_if (pt_cmpR Lv.op_eqS (pv 1) (Lv.pe_strS (l := [111, 116, 104, 101, 114]) (by decide +kernel)) (nomark _)) (pss_cons (ps_fld (pv 0) (pv 2) (by rfl)) (pss_one (ps_ret (Lv.pe_strS (l := [111, 107]) (by decide +kernel))))) pss_nil) (pss_cons (ps_if (pt_cmpR Lv.op_eqS (pv 1) (Lv.pe_strS (l := [108, 101, 102, 116]) (by decide +kernel)) (nomark _)) (pss_one (ps_ret (pe_ifExp (pt_val (pe_meth (pe_fld (pv 0) (by rfl)) T.kl_Growing.cl T.m_Growing_1_has G_Growing_1_has (hr.mono (by decide)) T.b_Growing_1_has .nil pass0 (pa_cons (pv 2) pa_nil))) (Lv.pe_strS (l := [121, 101, 115]) (by decide +kernel)) (Lv.pe_strS (l := [110, 111]) (by decide +kernel))))) pss_nil) (pss_one (ps_ret (pe_callTy Lv.call_strI (by rfl) T.z_str (by decide +kernel) (pa_cons (pe_call G_place_of_0x (hr.mono (by decide)) (by rfl) T.a_place_of_0x T.F_place_of_0x.kp T.b_place_of_0x .nil (Lv.passE (takes_of rfl rfl rfl rfl)) (pa_cons (pe_meth0 (pe_fld (pv 0) (by rfl)) T.kl_Growing.cl T.m_Growing_1_row G_Growing_1_row (hr.mono (by decide)) T.b_Growing_1_row .nil pass0) (pa_cons (pv 2) pa_nil))) pa_nil)))))))
theorem ok_Desk_0_of_a_word (T : Txt K mg) : FnOk P w K mg base (L2.CX P w) 5 T.f_Desk_0_of_a_word T.fd_Desk_0_of_a_word ["self", "head", "word"] (sp_Desk_0_of_a_word K T.C_Desk T.C_Growing T.er) := by
  have nd := sc_Desk_0_of_a_word.nd
  have G_arches_0x := ok_arches_0x (P := P) (w := w) (base := base) T
  have G_Growing_1_putx := ok_Growing_1_putx (P := P) (w := w) (base := base) T
  have G_Growing_1_row := ok_Growing_1_row (P := P) (w := w) (base := base) T
  have G_left_at_0x := ok_left_at_0x (P := P) (w := w) (base := base) T
  have G_show_list_0 := ok_show_list_0 (P := P) (w := w) (base := base) T
  have G_shortest_not_left_1x := ok_shortest_not_left_1x (P := P) (w := w) (base := base) T
  have G_way_at_0x := ok_way_at_0x (P := P) (w := w) (base := base) T
  have G_number_in_0 := ok_number_in_0 (P := P) (w := w) (base := base) T
  have G_row_in_0 := ok_row_in_0 (P := P) (w := w) (base := base) T
  have G_shown_0 := ok_shown_0 (P := P) (w := w) (base := base) T
  have G_Desk_0_of_a_row := ok_Desk_0_of_a_row (P := P) (w := w) (base := base) T
  refine T.F_Desk_0_of_a_word.okX sc_Desk_0_of_a_word (fun vs H Q E h => ?_) (fun cdv A outer s H vs Q E hr h => ⟨t_Desk_0_of_a_word K T.C_Desk T.C_Growing T.er E, ?_, pure_Desk_0_of_a_word T.kl_Desk T.kl_Growing vs H Q E h⟩)
  · unfold sp_Desk_0_of_a_word at h
    repeat (first | (obtain ⟨rfl, _⟩ := h; rfl) | (obtain ⟨_, h⟩ := h))
  · unfold t_Desk_0_of_a_word
    exact (pss_cons (ps_set (i := 3) nd rfl (by first | exact Or.inl rfl | exact Or.inr rfl) (pe_meth0 (pe_fld (pv 0) (by rfl)) T.kl_Growing.cl T.m_Growing_1_row G_Growing_1_row (hr.mono (by decide)) T.b_Growing_1_row .nil pass0)) (pss_cons (ps_if (pt_cmpR Lv.op_inTS (pv 1) (pe_tup (pa_cons (Lv.pe_strS (l := [114, 111, 119]) (by decide +kernel)) (pa_cons (Lv.pe_strS (l := [111, 116, 104, 101, 114]) (by decide +kernel)) (pa_cons (Lv.pe_strS (l := [108, 101, 102, 116]) (by decide +kernel)) (pa_cons (Lv.pe_strS (l := [112, 108, 97, 99, 101]) (by decide +kernel)) pa_nil))))) (by rfl)) (pss_one (ps_ret (pe_meth (pv 0) T.kl_Desk.cl T.m_Desk_0_of_a_row G_Desk_0_of_a_row (hr.mono (by decide)) T.b_Desk_0_of_a_row .nil (Lv.passE (takes_of rfl rfl rfl rfl)) (pa_cons (pv 1) (pa_cons (pe_call G_row_in_0 (hr.mono (by decide)) (by rfl) T.a_row_in_0 T.F_row_in_0.kp T.b_row_in_0 .nil (Lv.passE (takes_of rfl rfl rfl rfl)) (pa_cons (pv 2) pa_nil)) pa_nil))))) pss_nil) (pss_cons (ps_if (pt_cmpR Lv.op_eqS (pv 1) (Lv.pe_strS (l := [112, 117, 116]) (by decide +kernel)) (nomark _)) (pss_cons (ps_expr (pe_meth (pe_fld (pv 0) (by rfl)) T.kl_Growing.cl T.m_Growing_1_putx G_Growing_1_putx (hr.mono (by decide)) T.b_Growing_1_putx .nil (Lv.passE (takes_of rfl rfl rfl rfl)) (pa_cons (pv 2) pa_nil))) (pss_one (ps_ret (Lv.pe_strS (l := [111, 107]) (by decide +kernel))))) pss_nil) (pss_cons (ps_if (pt_cmpR Lv.op_eqS (pv 1) (Lv.pe_strS (l := [97, 116]) (by decide +kernel)) (nomark _)) (pss_one (ps_ret (pe_call G_shown_0 (hr.mono (by decide)) (by rfl) T.a_shown_0 T.F_shown_0.kp T.b_shown_0 .nil pass0 (pa_cons (pe_call G_left_at_0x (hr.mono (by decide)) (by rfl) T.a_left_at_0x T.F_left_at_0x.kp T.b_left_at_0x .nil (Lv.passE (takes_of rfl rfl rfl rfl)) (pa_cons (pv 3) (pa_cons (pe_call G_number_in_0 (hr.mono (by decide)) (by rfl) T.a_number_in_0 T.F_number_in_0.kp T.b_number_in_0 .nil (Lv.passE (takes_of rfl rfl rfl rfl)) (pa_cons (pv 2) pa_nil)) pa_nil))) pa_nil)))) pss_nil) (pss_cons (ps_if (pt_cmpR Lv.op_eqS (pv 1) (Lv.pe_strS (l := [119, 97, 121]) (by decide +kernel)) (nomark _)) (pss_one (ps_ret (pe_call G_show_list_0 (hr.mono (by decide)) (by rfl) T.a_show_list_0 T.F_show_list_0.kp T.b_show_list_0 .nil pass0 (pa_cons (pe_call G_way_at_0x (hr.mono (by decide)) (by rfl) T.a_way_at_0x T.F_way_at_0x.kp T.b_way_at_0x .nil (Lv.passE (takes_of rfl rfl rfl rfl)) (pa_cons (pv 3) (pa_cons (pe_fld (pv 0) (by rfl)) (pa_cons (pe_call G_number_in_0 (hr.mono (by decide)) (by rfl) T.a_number_in_0 T.F_number_in_0.kp T.b_number_in_0 .nil (Lv.passE (takes_of rfl rfl rfl rfl)) (pa_cons (pv 2) pa_nil)) pa_nil)))) pa_nil)))) pss_nil) (pss_cons (ps_if (pt_cmpR Lv.op_eqS (pv 1) (Lv.pe_strS (l := [115, 104, 111, 114, 116]) (by decide +kernel)) (nomark _)) (pss_one (ps_ret (pe_call G_shortest_not_left_1x (hr.mono (by decide)) (by rfl) T.a_shortest_not_left_1x T.F_shortest_not_left_1x.kp T.b_shortest_not_left_1x .nil (Lv.passE (takes_of rfl rfl rfl rfl)) (pa_cons (pv 3) (pa_cons (pv 2) pa_nil))))) pss_nil) (pss_one (ps_ret (pe_call G_show_list_0 (hr.mono (by decide)) (by rfl) T.a_show_list_0 T.F_show_list_0.kp T.b_show_list_0 .nil pass0 (pa_cons (pe_call G_arches_0x (hr.mono (by decide)) (by rfl) T.a_arches_0x T.F_arches_0x.kp T.b_arches_0x .nil (Lv.passE (takes_of rfl rfl rfl rfl)) (pa_cons (pv 3) (pa_cons (pv 2) pa_nil))) pa_nil))))))))))
theorem ok_Desk_0_say (T : Txt K mg) : FnOk P w K mg base (L2.CX P w) 6 T.f_Desk_0_say T.fd_Desk_0_say ["self", "words"] (sp_Desk_0_say K T.C_Desk T.C_Growing T.er) := by
  have nd := sc_Desk_0_say.nd
  have G_Growing_1_row := ok_Growing_1_row (P := P) (w := w) (base := base) T
  have G_of_length_at_0x := ok_of_length_at_0x (P := P) (w := w) (base := base) T
  have G_number_in_0 := ok_number_in_0 (P := P) (w := w) (base := base) T
  have G_shown_0 := ok_shown_0 (P := P) (w := w) (base := base) T
  have G_Desk_0_alone := ok_Desk_0_alone (P := P) (w := w) (base := base) T
  have G_Desk_0_of_a_word := ok_Desk_0_of_a_word (P := P) (w := w) (base := base) T
  refine T.F_Desk_0_say.okX sc_Desk_0_say (fun vs H Q E h => ?_) (fun cdv A outer s H vs Q E hr h => ⟨t_Desk_0_say K T.a_HEADS T.C_Desk T.C_Growing T.er E, ?_, pure_Desk_0_say T.kt_HEADS T.kl_Desk T.kl_Growing vs H Q E h⟩)
  · unfold sp_Desk_0_say at h
    repeat (first | (obtain ⟨rfl, _⟩ := h; rfl) | (obtain ⟨_, h⟩ := h))
  · unfold t_Desk_0_say
    exact (pss_cons (ps_if (pt_not (pt_val (pe_callB Lv.call_is1 (by rfl) T.z_isinstance (by decide +kernel) (pa_cons (pv 1) (pa_cons (pe_bltn (v := .ty "str") (u := .type "str") (by rfl) T.z_str (by decide +kernel) rfl) pa_nil))))) (pss_one (ps_raise rfl (takes_of rfl rfl rfl rfl) (pmk_own PySem.F.excBase_ValueError T.ER_1.xC T.e_NoCommand T.ER_1.kC (raises_own T.ER_1.bC T.ER_1.tC) (by exact rfl)))) pss_nil) (pss_cons (ps_set (i := 2) nd rfl (by first | exact Or.inl rfl | exact Or.inr rfl) (pe_bm PySem.F.plainAttrs_str PySem.F.slot_str_split PySem.F.type_str_split Lv.mt_split1 (pv 1) (pa_cons (Lv.pe_strS (l := [32]) (by decide +kernel)) pa_nil))) (pss_cons (ps_if (pt_cmpR Lv.op_eqI (pe_callB call_len_seq (by rfl) T.z_len (by decide +kernel) (pa_cons (pv 2) pa_nil)) pe_int (nomark _)) (pss_one (ps_ret (pe_meth (pv 0) T.kl_Desk.cl T.m_Desk_0_alone G_Desk_0_alone (hr.mono (by decide)) T.b_Desk_0_alone .nil (Lv.passE (takes_of rfl rfl rfl rfl)) (pa_cons (pv 1) pa_nil)))) pss_nil) (pss_cons (ps_if (PW.pt (pw_and (pt_cmpR Lv.op_eqS (pe_ix ix_list (pv 2) pe_int (fun _ _ => rfl)) (Lv.pe_strS (l := [108, 111, 110, 103]) (by decide +kernel)) (nomark _)) (pw_and1 (pt_cmpR Lv.op_eqI (pe_callB call_len_seq (by rfl) T.z_len (by decide +kernel) (pa_cons (pv 2) pa_nil)) pe_int (nomark _))))) (pss_cons (ps_par (by rfl) nd rfl rfl (by decide) rfl rfl (pa_cons (pe_call G_number_in_0 (hr.mono (by decide)) (by rfl) T.a_number_in_0 T.F_number_in_0.kp T.b_number_in_0 .nil (Lv.passE (takes_of rfl rfl rfl rfl)) (pa_cons (pe_ix ix_list (pv 2) pe_int (fun _ _ => rfl)) pa_nil)) (pa_cons (pe_call G_number_in_0 (hr.mono (by decide)) (by rfl) T.a_number_in_0 T.F_number_in_0.kp T.b_number_in_0 .nil (Lv.passE (takes_of rfl rfl rfl rfl)) (pa_cons (pe_ix ix_list (pv 2) pe_int (fun _ _ => rfl)) pa_nil)) pa_nil)) (by rfl)) (pss_one (ps_ret (pe_call G_shown_0 (hr.mono (by decide)) (by rfl) T.a_shown_0 T.F_shown_0.kp T.b_shown_0 .nil pass0 (pa_cons (pe_call G_of_length_at_0x (hr.mono (by decide)) (by rfl) T.a_of_length_at_0x T.F_of_length_at_0x.kp T.b_of_length_at_0x .nil (Lv.passE (takes_of rfl rfl rfl rfl)) (pa_cons (pe_meth0 (pe_fld (pv 0) (by rfl)) T.kl_Growing.cl T.m_Growing_1_row G_Growing_1_row (hr.mono (by decide)) T.b_Growing_1_row .nil pass0) (pa_cons (pv 3) (pa_cons (pv 4) pa_nil)))) pa_nil))))) pss_nil) (pss_cons (ps_if (PW.pt (pw_or (pt_cmpR Lv.op_notInTS (pe_ix ix_list (pv 2) pe_int (fun _ _ => rfl)) (pe_glob (by rfl) T.c_HEADS rfl) (by rfl)) (pw_or1 (pt_cmpR Lv.op_neI (pe_callB call_len_seq (by rfl) T.z_len (by decide +kernel) (pa_cons (pv 2) pa_nil)) pe_int (nomark _))))) (pss_one (ps_raise rfl (takes_of rfl rfl rfl rfl) (pmk_own PySem.F.excBase_ValueError T.ER_1.xC T.e_NoCommand T.ER_1.kC (raises_own T.ER_1.bC T.ER_1.tC) (by exact rfl)))) pss_nil) (pss_one (ps_ret (pe_meth (pv 0) T.kl_Desk.cl T.m_Desk_0_of_a_word G_Desk_0_of_a_word (hr.mono (by decide)) T.b_Desk_0_of_a_word .nil (Lv.passE (takes_of rfl rfl rfl rfl)) (pa_cons (pe_ix ix_list (pv 2) pe_int (fun _ _ => rfl)) (pa_cons (pe_ix ix_list (pv 2) pe_int (fun _ _ => rfl)) pa_nil))))))))))
theorem ok_law_is_number_0 (T : Txt K mg) : FnOk P w K mg base CX0 1 T.f_law_is_number_0 T.fd_law_is_number_0 ["word"] (sp_law_is_number_0 K) := by
  have nd := sc_law_is_number_0.nd
  refine T.F_law_is_number_0.ok sc_law_is_number_0 (fun vs H Q E h => ?_) (fun cdv A outer s H vs Q E hr h => ⟨t_law_is_number_0 K, ?_, pure_law_is_number_0 vs H Q E h⟩)
  · unfold sp_law_is_number_0 at h
    repeat (first | (obtain ⟨rfl, _⟩ := h; rfl) | (obtain ⟨_, h⟩ := h))
  · unfold t_law_is_number_0
    exact (pss_cons (ps_if (PW.pt (pw_or (pt_not (pt_chain op_le op_le pe_int (pe_callB Lv.call_lenT (by rfl) T.z_len (by decide +kernel) (pa_cons (pv 0) pa_nil)) pe_int)) (pw_or1 (PW.pt (pw_and (pt_cmpR Lv.op_eqS (pe_ix Lv.ix_S (pv 0) pe_int (fun _ _ => rfl)) (Lv.pe_strS (l := [48]) (by decide +kernel)) (nomark _)) (pw_and1 (pt_cmpR Lv.op_neS (pv 0) (Lv.pe_strS (l := [48]) (by decide +kernel)) (nomark _)))))))) (pss_one (ps_ret pe_bl)) pss_nil) (pss_one (ps_ret (pe_callB (cr_all rfl) (by rfl) T.z_all (by decide +kernel) (pa_cons (pe_lc (own := [("figure", 1)]) (g := (gName 1)) (tt := tYes) (by rfl) nd (pi_str (pv 0)) (blkOk_by (own := [("figure", 1)]) (N := N_law_is_number_0) (sc := defScope s_law_is_number_0) (by decide +kernel)) (fun _ _ _ _ _ => (pg_name (i := 1) nd rfl (by first | exact Or.inl rfl | exact Or.inr rfl))) (fun _ _ _ _ _ => pts_nil) (fun _ _ _ _ _ => (pe_cmpR Lv.op_in1 (pv 1) (Lv.pe_strS (l := [48, 49, 50, 51, 52, 53, 54, 55, 56, 57]) (by decide +kernel)) (by rfl)))) pa_nil)))))
theorem ok_law_number_due_0 (T : Txt K mg) : FnOk P w K mg base CX0 7 T.f_law_number_due_0 T.fd_law_number_due_0 ["desk", "head", "numbers"] (sp_law_number_due_0 K T.C_Desk T.C_Growing T.er) := by
  have nd := sc_law_number_due_0.nd
  have G_Desk_0_say := ok_Desk_0_say (P := P) (w := w) (base := base) T
  have G_law_is_number_0 := ok_law_is_number_0 (P := P) (w := w) (base := base) T
  refine T.F_law_number_due_0.ok sc_law_number_due_0 (fun vs H Q E h => ?_) (fun cdv A outer s H vs Q E hr h => ⟨t_law_number_due_0 K T.C_Desk T.C_Growing T.er, ?_, pure_law_number_due_0 T.kl_Desk T.kl_Growing vs H Q E h⟩)
  · unfold sp_law_number_due_0 at h
    repeat (first | (obtain ⟨rfl, _⟩ := h; rfl) | (obtain ⟨_, h⟩ := h))
  · unfold t_law_number_due_0
    exact (pss_cons (ps_if (pt_cmpR (Lv.op_neLS hr.units) (pe_lc (own := [("word", 5)]) (g := (gName 5)) (tt := (tNot (tB (tCall (sp_law_is_number_0 K) [] E0 (tCons (tVar 5) tNil))))) (by rfl) nd (pi_list (pv 2)) (blkOk_by (own := [("word", 5)]) (N := N_law_number_due_0) (sc := defScope s_law_number_due_0) (by decide +kernel)) (fun _ _ _ _ _ => (pg_name (i := 5) nd rfl (by first | exact Or.inl rfl | exact Or.inr rfl))) (fun _ _ _ _ _ => (pts_one (pt_not (pt_val (pe_call G_law_is_number_0 (hr.mono (by decide)) (by rfl) T.a_law_is_number_0 T.F_law_is_number_0.kp T.b_law_is_number_0 .nil pass0 (pa_cons (pv 5) pa_nil)))))) (fun _ _ _ _ _ => (pv 5))) (pe_lst pa_nil) (nomark _)) (pss_one (ps_ret (Lv.pe_strS (l := [78, 111, 67, 111, 109, 109, 97, 110, 100]) (by decide +kernel)))) pss_nil) (pss_cons (ps_if (pt_cmpR Lv.op_eqS (pv 1) (Lv.pe_strS (l := [97, 116]) (by decide +kernel)) (nomark _)) (pss_one (ps_ret (pe_ifExp (pt_cmpR op_lt (pe_callTy Lv.call_intS (by rfl) T.z_int (by decide +kernel) (pa_cons (pe_ix ix_list (pv 2) pe_int (fun _ _ => rfl)) pa_nil)) (pe_callTy Lv.call_intS (by rfl) T.z_int (by decide +kernel) (pa_cons (pe_meth (pv 0) T.kl_Desk.cl T.m_Desk_0_say G_Desk_0_say (hr.mono (by decide)) T.b_Desk_0_say .nil Lv.pass1 (pa_cons (Lv.pe_strS (l := [109, 97, 110, 121]) (by decide +kernel)) pa_nil)) pa_nil)) (nomark _)) (Lv.pe_strS (l := []) (by decide +kernel)) (Lv.pe_strS (l := [78, 111, 80, 108, 97, 99, 101]) (by decide +kernel))))) pss_nil) (pss_cons (ps_if (pt_cmpR Lv.op_eqS (pv 1) (Lv.pe_strS (l := [119, 97, 121]) (by decide +kernel)) (nomark _)) (pss_one (ps_ret (pe_ifExp (pt_cmpR op_lt (pe_callTy Lv.call_intS (by rfl) T.z_int (by decide +kernel) (pa_cons (pe_ix ix_list (pv 2) pe_int (fun _ _ => rfl)) pa_nil)) (pe_callTy Lv.call_intS (by rfl) T.z_int (by decide +kernel) (pa_cons (pe_meth (pv 0) T.kl_Desk.cl T.m_Desk_0_say G_Desk_0_say (hr.mono (by decide)) T.b_Desk_0_say .nil Lv.pass1 (pa_cons (Lv.pe_strS (l := [119, 97, 121, 115]) (by decide +kernel)) pa_nil)) pa_nil)) (nomark _)) (Lv.pe_strS (l := []) (by decide +kernel)) (Lv.pe_strS (l := [78, 111, 80, 108, 97, 99, 101]) (by decide +kernel))))) pss_nil) (pss_cons (ps_setLc (i := 3) (own := [("word", 5)]) (g := (gName 5)) (tt := tYes) (by rfl) nd rfl rfl (sw_true rfl rfl rfl (by decide +kernel)) (pi_list (pe_bm PySem.F.plainAttrs_str PySem.F.slot_str_split PySem.F.type_str_split Lv.mt_split1 (pe_meth (pv 0) T.kl_Desk.cl T.m_Desk_0_say G_Desk_0_say (hr.mono (by decide)) T.b_Desk_0_say .nil Lv.pass1 (pa_cons (Lv.pe_strS (l := [108, 101, 110, 103, 116, 104, 115]) (by decide +kernel)) pa_nil)) (pa_cons (Lv.pe_strS (l := [32]) (by decide +kernel)) pa_nil))) (blkOk_by (own := [("word", 5)]) (N := N_law_number_due_0) (sc := defScope s_law_number_due_0) (by decide +kernel)) (fun _ _ _ _ _ => (pg_name (i := 5) nd rfl (by first | exact Or.inl rfl | exact Or.inr rfl))) (fun _ _ _ _ _ => pts_nil) (fun _ _ _ _ _ => (pe_callTy Lv.call_intS (by rfl) T.z_int (by decide +kernel) (pa_cons (pv 5) pa_nil)))) (pss_cons (ps_set (i := 4) nd rfl (by first | exact Or.inl rfl | exact Or.inr rfl) (pe_callTy Lv.call_intS (by rfl) T.z_int (by decide +kernel) (pa_cons (pe_ix ix_list (pv 2) pe_int (fun _ _ => rfl)) pa_nil))) (pss_one (ps_ret (pe_ifExp (PW.pt (pw_and (pt_cmpR op_lt (pv 4) (pe_callB call_len_seq (by rfl) T.z_len (by decide +kernel) (pa_cons (pv 3) pa_nil)) (nomark _)) (pw_and1 (pt_cmpR op_lt (pe_callTy Lv.call_intS (by rfl) T.z_int (by decide +kernel) (pa_cons (pe_ix ix_list (pv 2) pe_int (fun _ _ => rfl)) pa_nil)) (pe_ix ix_list (pv 3) (pv 4) (fun _ _ => rfl)) (nomark _))))) (Lv.pe_strS (l := []) (by decide +kernel)) (Lv.pe_strS (l := [78, 111, 80, 108, 97, 99, 101]) (by decide +kernel))))))))))
theorem ok_law_are_small_0 (T : Txt K mg) : FnOk P w K mg base CX0 1 T.f_law_are_small_0 T.fd_law_are_small_0 ["word"] (sp_law_are_small_0 K) := by
  have nd := sc_law_are_small_0.nd
  refine T.F_law_are_small_0.ok sc_law_are_small_0 (fun vs H Q E h => ?_) (fun cdv A outer s H vs Q E hr h => ⟨t_law_are_small_0 K, ?_, pure_law_are_small_0 vs H Q E h⟩)
  · unfold sp_law_are_small_0 at h
    repeat (first | (obtain ⟨rfl, _⟩ := h; rfl) | (obtain ⟨_, h⟩ := h))
  · unfold t_law_are_small_0
    exact (pss_one (ps_ret (pe_cmpR (Lv.op_eqLS hr.units) (pe_lc (own := [("letter", 1)]) (g := (gName 1)) (tt := (tNot (tTest (tChain Lv.rLeS Lv.rLeS (tC (.str (S [97]))) (tVar 1) (tC (.str (S [122]))))))) (by rfl) nd (pi_str (pv 0)) (blkOk_by (own := [("letter", 1)]) (N := N_law_are_small_0) (sc := defScope s_law_are_small_0) (by decide +kernel)) (fun _ _ _ _ _ => (pg_name (i := 1) nd rfl (by first | exact Or.inl rfl | exact Or.inr rfl))) (fun _ _ _ _ _ => (pts_one (pt_not (pt_chain Lv.op_leS Lv.op_leS (Lv.pe_strS (l := [97]) (by decide +kernel)) (pv 1) (Lv.pe_strS (l := [122]) (by decide +kernel)))))) (fun _ _ _ _ _ => (pv 1))) (pe_lst pa_nil) (nomark _))))
theorem ok_law_is_row_0 (T : Txt K mg) : FnOk P w K mg base CX0 2 T.f_law_is_row_0 T.fd_law_is_row_0 ["word"] (sp_law_is_row_0 K) := by
  have nd := sc_law_is_row_0.nd
  have G_law_are_small_0 := ok_law_are_small_0 (P := P) (w := w) (base := base) T
  refine T.F_law_is_row_0.ok sc_law_is_row_0 (fun vs H Q E h => ?_) (fun cdv A outer s H vs Q E hr h => ⟨t_law_is_row_0 K, ?_, pure_law_is_row_0 vs H Q E h⟩)
  · unfold sp_law_is_row_0 at h
    repeat (first | (obtain ⟨rfl, _⟩ := h; rfl) | (obtain ⟨_, h⟩ := h))
  · unfold t_law_is_row_0
    exact (pss_one (ps_ret (pe_or (pe_cmpR Lv.op_eqS (pv 0) (Lv.pe_strS (l := [45]) (by decide +kernel)) (nomark _)) (pe_one (pe_and (pe_cmpR Lv.op_neS (pv 0) (Lv.pe_strS (l := []) (by decide +kernel)) (nomark _)) (pe_and (pe_call G_law_are_small_0 (hr.mono (by decide)) (by rfl) T.a_law_are_small_0 T.F_law_are_small_0.kp T.b_law_are_small_0 .nil pass0 (pa_cons (pv 0) pa_nil)) (pe_one (pe_cmpR op_lt (pe_callB Lv.call_lenT (by rfl) T.z_len (by decide +kernel) (pa_cons (pv 0) pa_nil)) pe_int (nomark _)))))))))
theorem ok_law_word_due_0 (T : Txt K mg) : FnOk P w K mg base CX0 7 T.f_law_word_due_0 T.fd_law_word_due_0 ["desk", "head", "word"] (sp_law_word_due_0 K T.C_Desk T.C_Growing T.er) := by
  have nd := sc_law_word_due_0.nd
  have G_Desk_0_say := ok_Desk_0_say (P := P) (w := w) (base := base) T
  have G_law_are_small_0 := ok_law_are_small_0 (P := P) (w := w) (base := base) T
  have G_law_is_row_0 := ok_law_is_row_0 (P := P) (w := w) (base := base) T
  refine T.F_law_word_due_0.ok sc_law_word_due_0 (fun vs H Q E h => ?_) (fun cdv A outer s H vs Q E hr h => ⟨t_law_word_due_0 K T.C_Desk T.C_Growing T.er, ?_, pure_law_word_due_0 T.kl_Desk T.kl_Growing vs H Q E h⟩)
  · unfold sp_law_word_due_0 at h
    repeat (first | (obtain ⟨rfl, _⟩ := h; rfl) | (obtain ⟨_, h⟩ := h))
  · unfold t_law_word_due_0
    exact (pss_cons (ps_if (pt_cmpR Lv.op_inTS (pv 1) (pe_tup (pa_cons (Lv.pe_strS (l := [114, 111, 119]) (by decide +kernel)) (pa_cons (Lv.pe_strS (l := [111, 116, 104, 101, 114]) (by decide +kernel)) (pa_cons (Lv.pe_strS (l := [108, 101, 102, 116]) (by decide +kernel)) (pa_cons (Lv.pe_strS (l := [112, 108, 97, 99, 101]) (by decide +kernel)) pa_nil))))) (by rfl)) (pss_cons (ps_if (pt_not (pt_val (pe_call G_law_is_row_0 (hr.mono (by decide)) (by rfl) T.a_law_is_row_0 T.F_law_is_row_0.kp T.b_law_is_row_0 .nil pass0 (pa_cons (pv 2) pa_nil)))) (pss_one (ps_ret (Lv.pe_strS (l := [78, 111, 67, 111, 109, 109, 97, 110, 100]) (by decide +kernel)))) pss_nil) (pss_one (ps_ret (pe_ifExp (PW.pt (pw_and (pt_cmpR Lv.op_eqS (pv 1) (Lv.pe_strS (l := [112, 108, 97, 99, 101]) (by decide +kernel)) (nomark _)) (pw_and1 (pt_cmpR Lv.op_eqS (pe_meth (pv 0) T.kl_Desk.cl T.m_Desk_0_say G_Desk_0_say (hr.mono (by decide)) T.b_Desk_0_say .nil Lv.pass1 (pa_cons (pe_op Lv.op_addS (Lv.pe_strS (l := [108, 101, 102, 116, 32]) (by decide +kernel)) (pv 2)) pa_nil)) (Lv.pe_strS (l := [110, 111]) (by decide +kernel)) (nomark _))))) (Lv.pe_strS (l := [78, 111, 82, 111, 119]) (by decide +kernel)) (Lv.pe_strS (l := []) (by decide +kernel)))))) pss_nil) (pss_cons (ps_if (pt_cmpR Lv.op_eqS (pv 1) (Lv.pe_strS (l := [112, 117, 116]) (by decide +kernel)) (nomark _)) (pss_cons (ps_set (i := 3) nd rfl (by first | exact Or.inl rfl | exact Or.inr rfl) (pe_ix ix_list (pe_bm PySem.F.plainAttrs_str PySem.F.slot_str_split PySem.F.type_str_split Lv.mt_split1 (pe_meth (pv 0) T.kl_Desk.cl T.m_Desk_0_say G_Desk_0_say (hr.mono (by decide)) T.b_Desk_0_say .nil Lv.pass1 (pa_cons (Lv.pe_strS (l := [115, 104, 111, 119]) (by decide +kernel)) pa_nil)) (pa_cons (Lv.pe_strS (l := [32]) (by decide +kernel)) pa_nil)) pe_int (fun _ _ => rfl))) (pss_one (ps_ret (pe_ifExp (PW.pt (pw_and (pt_cmpR Lv.op_eqI (pe_callB Lv.call_lenT (by rfl) T.z_len (by decide +kernel) (pa_cons (pv 2) pa_nil)) pe_int (nomark _)) (pw_and (pt_val (pe_call G_law_are_small_0 (hr.mono (by decide)) (by rfl) T.a_law_are_small_0 T.F_law_are_small_0.kp T.b_law_are_small_0 .nil pass0 (pa_cons (pv 2) pa_nil))) (pw_and1 (pt_cmpR op_lt (pe_callB Lv.call_lenT (by rfl) T.z_len (by decide +kernel) (pa_cons (pv 3) pa_nil)) pe_int (nomark _)))))) (Lv.pe_strS (l := []) (by decide +kernel)) (Lv.pe_strS (l := [78, 111, 76, 101, 116, 116, 101, 114]) (by decide +kernel)))))) pss_nil) (pss_cons (ps_set (i := 4) nd rfl (by first | exact Or.inl rfl | exact Or.inr rfl) (pe_and (pe_cmpR Lv.op_neS (pv 2) (Lv.pe_strS (l := []) (by decide +kernel)) (nomark _)) (pe_and (pe_call G_law_are_small_0 (hr.mono (by decide)) (by rfl) T.a_law_are_small_0 T.F_law_are_small_0.kp T.b_law_are_small_0 .nil pass0 (pa_cons (pv 2) pa_nil)) (pe_one (pe_cmpR Lv.op_eqS (pv 2) (pe_bm PySem.F.plainAttrs_str PySem.F.slot_str_join PySem.F.type_str_join Lv.mt_joinS (Lv.pe_strS (l := []) (by decide +kernel)) (pa_cons (Lv.pe_sortSetS (by rfl) (by rfl) T.z_sorted (by rfl) T.z_set (pa_cons (pv 2) pa_nil)) pa_nil)) (nomark _)))))) (pss_one (ps_ret (pe_ifExp (pt_val (pv 4)) (Lv.pe_strS (l := []) (by decide +kernel)) (Lv.pe_strS (l := [78, 111, 76, 101, 116, 116, 101, 114, 115]) (by decide +kernel))))))))
theorem ok_law_due_7 (T : Txt K mg) : FnOk P w K mg base CX0 8 T.f_law_due_7 T.fd_law_due_7 ["desk", "words"] (sp_law_due_7 K T.C_Desk T.C_Growing T.er) := by
  have nd := sc_law_due_7.nd
  have G_law_number_due_0 := ok_law_number_due_0 (P := P) (w := w) (base := base) T
  have G_law_word_due_0 := ok_law_word_due_0 (P := P) (w := w) (base := base) T
  refine T.F_law_due_7.ok sc_law_due_7 (fun vs H Q E h => ?_) (fun cdv A outer s H vs Q E hr h => ⟨t_law_due_7 K T.C_Desk T.C_Growing T.er, ?_, pure_law_due_7 T.kl_Desk T.kl_Growing vs H Q E h⟩)
  · unfold sp_law_due_7 at h
    repeat (first | (obtain ⟨rfl, _⟩ := h; rfl) | (obtain ⟨_, h⟩ := h))
  · unfold t_law_due_7
    exact (pss_cons (ps_if (pt_cmpR Lv.op_inTS (pv 1) (pe_tup (pa_cons (Lv.pe_strS (l := [117, 110, 100, 111]) (by decide +kernel)) (pa_cons (Lv.pe_strS (l := [115, 104, 111, 119]) (by decide +kernel)) (pa_cons (Lv.pe_strS (l := [109, 97, 110, 121]) (by decide +kernel)) (pa_cons (Lv.pe_strS (l := [108, 101, 110, 103, 116, 104, 115]) (by decide +kernel)) (pa_cons (Lv.pe_strS (l := [119, 97, 121, 115]) (by decide +kernel)) (pa_cons (Lv.pe_strS (l := [99, 111, 109, 109, 111, 110]) (by decide +kernel)) (pa_cons (Lv.pe_strS (l := [112, 97, 114, 116, 115]) (by decide +kernel)) pa_nil)))))))) (by rfl)) (pss_one (ps_ret (Lv.pe_strS (l := []) (by decide +kernel)))) pss_nil) (pss_cons (ps_set (i := 2) nd rfl (by first | exact Or.inl rfl | exact Or.inr rfl) (pe_bm PySem.F.plainAttrs_str PySem.F.slot_str_split PySem.F.type_str_split Lv.mt_split1 (pv 1) (pa_cons (Lv.pe_strS (l := [32]) (by decide +kernel)) pa_nil))) (pss_cons (ps_if (PW.pt (pw_and (pt_cmpR Lv.op_eqS (pe_ix ix_list (pv 2) pe_int (fun _ _ => rfl)) (Lv.pe_strS (l := [108, 111, 110, 103]) (by decide +kernel)) (nomark _)) (pw_and1 (pt_cmpR Lv.op_eqI (pe_callB call_len_seq (by rfl) T.z_len (by decide +kernel) (pa_cons (pv 2) pa_nil)) pe_int (nomark _))))) (pss_one (ps_ret (pe_call G_law_number_due_0 (hr.mono (by decide)) (by rfl) T.a_law_number_due_0 T.F_law_number_due_0.kp T.b_law_number_due_0 .nil pass0 (pa_cons (pv 0) (pa_cons (Lv.pe_strS (l := [108, 111, 110, 103]) (by decide +kernel)) (pa_cons (pe_slice sl_list (pv 2) (po_some pe_int) po_none) pa_nil)))))) pss_nil) (pss_cons (ps_if (pt_cmpR Lv.op_neI (pe_callB call_len_seq (by rfl) T.z_len (by decide +kernel) (pa_cons (pv 2) pa_nil)) pe_int (nomark _)) (pss_one (ps_ret (Lv.pe_strS (l := [78, 111, 67, 111, 109, 109, 97, 110, 100]) (by decide +kernel)))) pss_nil) (pss_cons (ps_if (pt_cmpR Lv.op_inTS (pe_ix ix_list (pv 2) pe_int (fun _ _ => rfl)) (pe_tup (pa_cons (Lv.pe_strS (l := [97, 116]) (by decide +kernel)) (pa_cons (Lv.pe_strS (l := [119, 97, 121]) (by decide +kernel)) pa_nil))) (by rfl)) (pss_one (ps_ret (pe_call G_law_number_due_0 (hr.mono (by decide)) (by rfl) T.a_law_number_due_0 T.F_law_number_due_0.kp T.b_law_number_due_0 .nil pass0 (pa_cons (pv 0) (pa_cons (pe_ix ix_list (pv 2) pe_int (fun _ _ => rfl)) (pa_cons (pe_slice sl_list (pv 2) (po_some pe_int) po_none) pa_nil)))))) pss_nil) (pss_cons (ps_if (pt_cmpR Lv.op_notInTS (pe_ix ix_list (pv 2) pe_int (fun _ _ => rfl)) (pe_tup (pa_cons (Lv.pe_strS (l := [114, 111, 119]) (by decide +kernel)) (pa_cons (Lv.pe_strS (l := [111, 116, 104, 101, 114]) (by decide +kernel)) (pa_cons (Lv.pe_strS (l := [108, 101, 102, 116]) (by decide +kernel)) (pa_cons (Lv.pe_strS (l := [112, 108, 97, 99, 101]) (by decide +kernel)) (pa_cons (Lv.pe_strS (l := [112, 117, 116]) (by decide +kernel)) (pa_cons (Lv.pe_strS (l := [115, 104, 111, 114, 116]) (by decide +kernel)) (pa_cons (Lv.pe_strS (l := [97, 114, 99, 104, 101, 115]) (by decide +kernel)) pa_nil)))))))) (by rfl)) (pss_one (ps_ret (Lv.pe_strS (l := [78, 111, 67, 111, 109, 109, 97, 110, 100]) (by decide +kernel)))) pss_nil) (pss_one (ps_ret (pe_call G_law_word_due_0 (hr.mono (by decide)) (by rfl) T.a_law_word_due_0 T.F_law_word_due_0.kp T.b_law_word_due_0 .nil pass0 (pa_cons (pv 0) (pa_cons (pe_ix ix_list (pv 2) pe_int (fun _ _ => rfl)) (pa_cons (pe_ix ix_list (pv 2) pe_int (fun _ _ => rfl)) pa_nil))))))))))))
theorem ok_law_met_0 (T : Txt K mg) : FnOk P w K mg base CX0 7 T.f_law_met_0 T.fd_law_met_0 ["desk", "words", "due"] (sp_law_met_0 K T.C_Desk T.C_Growing T.er) := by
  have nd := sc_law_met_0.nd
  have G_Desk_0_say := ok_Desk_0_say (P := P) (w := w) (base := base) T
  refine T.F_law_met_0.ok sc_law_met_0 (fun vs H Q E h => ?_) (fun cdv A outer s H vs Q E hr h => ⟨t_law_met_0 K T.C_Desk T.C_Growing T.er, ?_, pure_law_met_0 T.kl_Desk T.kl_Growing T.ER_1 T.ER_2 T.ER_3 T.ER_4 T.ER_5 vs H Q E h⟩)
  · unfold sp_law_met_0 at h
    repeat (first | (obtain ⟨rfl, _⟩ := h; rfl) | (obtain ⟨_, h⟩ := h))
  · unfold t_law_met_0
    exact (pss_cons (ps_set (i := 3) nd rfl (by first | exact Or.inl rfl | exact Or.inr rfl) pe_non) (pss_cons (ps_set (i := 4) nd rfl (by first | exact Or.inl rfl | exact Or.inr rfl) (pe_lst pa_nil)) (pss_cons (ps_set (i := 5) nd rfl (by first | exact Or.inl rfl | exact Or.inr rfl) pe_bl) (pss_cons (Lv.ps_tryAx (i := 6) rfl rfl nd rfl rfl ⟨by rfl, by decide, Or.inl T.e_LeaveError⟩ (fun W pn xe tk po => (pss_one (ps_set (i := 3) nd rfl (by first | exact Or.inl rfl | exact Or.inr rfl) (Lv.pe_methT (pv 0) T.kl_Desk.cl T.m_Desk_0_say G_Desk_0_say (hr.mono (by decide)) T.b_Desk_0_say tk (pa_cons (pv 1) pa_nil))))) (fun _ _ => (pss_cons (ps_set (i := 4) nd rfl (by first | exact Or.inl rfl | exact Or.inr rfl) (pe_lst (pa_cons (pe_callB Lv.call_is1 (by rfl) T.z_isinstance (by decide +kernel) (pa_cons (pv 6) (pa_cons (pe_glob (by rfl) T.e_NoCommand rfl) pa_nil))) (pa_cons (pe_callB Lv.call_is1 (by rfl) T.z_isinstance (by decide +kernel) (pa_cons (pv 6) (pa_cons (pe_glob (by rfl) T.e_NoLetter rfl) pa_nil))) (pa_cons (pe_callB Lv.call_is1 (by rfl) T.z_isinstance (by decide +kernel) (pa_cons (pv 6) (pa_cons (pe_glob (by rfl) T.e_NoLetters rfl) pa_nil))) pa_nil))))) (pss_cons (ps_set (i := 4) nd rfl (by first | exact Or.inl rfl | exact Or.inr rfl) (pe_op op_cat (pv 4) (pe_lst (pa_cons (pe_callB Lv.call_is1 (by rfl) T.z_isinstance (by decide +kernel) (pa_cons (pv 6) (pa_cons (pe_glob (by rfl) T.e_NoPlace rfl) pa_nil))) (pa_cons (pe_callB Lv.call_is1 (by rfl) T.z_isinstance (by decide +kernel) (pa_cons (pv 6) (pa_cons (pe_glob (by rfl) T.e_NoRow rfl) pa_nil))) pa_nil))))) (pss_one (ps_set (i := 5) nd rfl (by first | exact Or.inl rfl | exact Or.inr rfl) (pe_or (pe_callB Lv.call_is1 (by rfl) T.z_isinstance (by decide +kernel) (pa_cons (pv 6) (pa_cons (pe_glob (by rfl) T.e_NoText rfl) pa_nil))) (pe_one (pe_not (pe_callB Lv.call_is1 (by rfl) T.z_isinstance (by decide +kernel) (pa_cons (pv 6) (pa_cons (pe_bltn (v := .ty "ValueError") (u := .type "ValueError") (by rfl) T.z_ValueError (by decide +kernel) rfl) pa_nil)))))))))))) (pss_cons (ps_if (pt_cmpR (Lv.op_eqLB hr.units) (pv 4) (pe_lst pa_nil) (nomark _)) (pss_one (ps_ret (pe_and (pe_cmpR Lv.op_eqS (pv 2) (Lv.pe_strS (l := []) (by decide +kernel)) (nomark _)) (pe_one (pe_callB Lv.call_is1 (by rfl) T.z_isinstance (by decide +kernel) (pa_cons (pv 3) (pa_cons (pe_bltn (v := .ty "str") (u := .type "str") (by rfl) T.z_str (by decide +kernel) rfl) pa_nil))))))) pss_nil) (pss_cons (ps_setLc (i := 7) (own := [("word", 8)]) (g := (gName 8)) (tt := tYes) (by rfl) nd rfl rfl (sw_true rfl rfl rfl (by decide +kernel)) (pi_list (pe_lst (pa_cons (Lv.pe_strS (l := [78, 111, 67, 111, 109, 109, 97, 110, 100]) (by decide +kernel)) (pa_cons (Lv.pe_strS (l := [78, 111, 76, 101, 116, 116, 101, 114]) (by decide +kernel)) (pa_cons (Lv.pe_strS (l := [78, 111, 76, 101, 116, 116, 101, 114, 115]) (by decide +kernel)) (pa_cons (Lv.pe_strS (l := [78, 111, 80, 108, 97, 99, 101]) (by decide +kernel)) (pa_cons (Lv.pe_strS (l := [78, 111, 82, 111, 119]) (by decide +kernel)) pa_nil))))))) (blkOk_by (own := [("word", 8)]) (N := N_law_met_0) (sc := defScope s_law_met_0) (by decide +kernel)) (fun _ _ _ _ _ => (pg_name (i := 8) nd rfl (by first | exact Or.inl rfl | exact Or.inr rfl))) (fun _ _ _ _ _ => pts_nil) (fun _ _ _ _ _ => (pe_cmpR Lv.op_eqS (pv 8) (pv 2) (nomark _)))) (pss_one (ps_ret (pe_and (pe_not (pv 5)) (pe_one (pe_cmpR (Lv.op_eqLB hr.units) (pv 4) (pv 7) (nomark _))))))))))))
theorem ok_law_shown_2 (T : Txt K mg) : FnOk P w K mg base CX0 7 T.f_law_shown_2 T.fd_law_shown_2 ["desk"] (sp_law_shown_2 K T.C_Desk T.C_Growing T.er) := by
  have nd := sc_law_shown_2.nd
  have G_Desk_0_say := ok_Desk_0_say (P := P) (w := w) (base := base) T
  refine T.F_law_shown_2.ok sc_law_shown_2 (fun vs H Q E h => ?_) (fun cdv A outer s H vs Q E hr h => ⟨t_law_shown_2 K T.C_Desk T.C_Growing T.er, ?_, pure_law_shown_2 T.kl_Desk T.kl_Growing vs H Q E h⟩)
  · unfold sp_law_shown_2 at h
    repeat (first | (obtain ⟨rfl, _⟩ := h; rfl) | (obtain ⟨_, h⟩ := h))
  · unfold t_law_shown_2
    exact (pss_one (ps_ret (pe_lc (own := [("words", 1)]) (g := (gName 1)) (tt := tYes) (by rfl) nd (pi_list (pe_lst (pa_cons (Lv.pe_strS (l := [115, 104, 111, 119]) (by decide +kernel)) (pa_cons (Lv.pe_strS (l := [109, 97, 110, 121]) (by decide +kernel)) (pa_cons (Lv.pe_strS (l := [108, 101, 110, 103, 116, 104, 115]) (by decide +kernel)) (pa_cons (Lv.pe_strS (l := [119, 97, 121, 115]) (by decide +kernel)) (pa_cons (Lv.pe_strS (l := [99, 111, 109, 109, 111, 110]) (by decide +kernel)) (pa_cons (Lv.pe_strS (l := [115, 104, 111, 114, 116, 32, 97, 98, 99]) (by decide +kernel)) pa_nil)))))))) (blkOk_by (own := [("words", 1)]) (N := N_law_shown_2) (sc := defScope s_law_shown_2) (by decide +kernel)) (fun _ _ _ _ _ => (pg_name (i := 1) nd rfl (by first | exact Or.inl rfl | exact Or.inr rfl))) (fun _ _ _ _ _ => pts_nil) (fun _ _ _ _ _ => (pe_meth (pv 0) T.kl_Desk.cl T.m_Desk_0_say G_Desk_0_say (hr.mono (by decide)) T.b_Desk_0_say .nil Lv.pass1 (pa_cons (pv 1) pa_nil))))))
theorem ok_law_things_right_0 (T : Txt K mg) : FnOk P w K mg base CX0 8 T.f_law_things_right_0 T.fd_law_things_right_0 ["desk"] (sp_law_things_right_0 K T.C_Desk T.C_Growing T.er) := by
  have nd := sc_law_things_right_0.nd
  have G_law_met_0 := ok_law_met_0 (P := P) (w := w) (base := base) T
  have G_law_shown_2 := ok_law_shown_2 (P := P) (w := w) (base := base) T
  refine T.F_law_things_right_0.ok sc_law_things_right_0 (fun vs H Q E h => ?_) (fun cdv A outer s H vs Q E hr h => ⟨t_law_things_right_0 K T.C_Desk T.C_Growing T.er, ?_, pure_law_things_right_0 T.kl_Desk T.kl_Growing vs H Q E h⟩)
  · unfold sp_law_things_right_0 at h
    repeat (first | (obtain ⟨rfl, _⟩ := h; rfl) | (obtain ⟨_, h⟩ := h))
  · unfold t_law_things_right_0
    exact (pss_cons (ps_set (i := 1) nd rfl (by first | exact Or.inl rfl | exact Or.inr rfl) (pe_lst (pa_cons (Lv.pe_strS (l := [115, 104, 111, 119]) (by decide +kernel)) pa_nil))) (pss_cons (ps_set (i := 2) nd rfl (by first | exact Or.inl rfl | exact Or.inr rfl) (pv 1)) (pss_cons (ps_for PassesOwn.never (by rfl) (pi_range1 (by rfl) T.z_range (pa_cons pe_int pa_nil)) (pg_name (i := 3) nd rfl (by first | exact Or.inl rfl | exact Or.inr rfl)) (pss_one (ps_set (i := 2) nd rfl (by first | exact Or.inl rfl | exact Or.inr rfl) (pe_lst (pa_cons (pv 2) pa_nil))))) (pss_cons (ps_set (i := 4) nd rfl (by first | exact Or.inl rfl | exact Or.inr rfl) (pe_call G_law_shown_2 (hr.mono (by decide)) (by rfl) T.a_law_shown_2 T.F_law_shown_2.kp T.b_law_shown_2 .nil pass0 (pa_cons (pv 0) pa_nil))) (pss_cons (ps_for PassesOwn.never (by rfl) (pi_list (pe_lst (pa_cons pe_non (pa_cons pe_bl (pa_cons pe_int (pa_cons (pv 1) (pa_cons (pe_tup (pa_cons (Lv.pe_strS (l := [115, 104, 111, 119]) (by decide +kernel)) pa_nil)) (pa_cons pe_dnewK (pa_cons (Lv.pe_strS (l := []) (by decide +kernel)) (pa_cons (pv 2) pa_nil)))))))))) (pg_name (i := 5) nd rfl (by first | exact Or.inl rfl | exact Or.inr rfl)) (pss_one (ps_if (PW.pt (pw_or (pt_not (pt_val (pe_call G_law_met_0 (hr.mono (by decide)) (by rfl) T.a_law_met_0 T.F_law_met_0.kp T.b_law_met_0 .nil pass0 (pa_cons (pv 0) (pa_cons (pv 5) (pa_cons (Lv.pe_strS (l := [78, 111, 67, 111, 109, 109, 97, 110, 100]) (by decide +kernel)) pa_nil)))))) (pw_or1 (pt_cmpR (Lv.op_neLS hr.units) (pe_call G_law_shown_2 (hr.mono (by decide)) (by rfl) T.a_law_shown_2 T.F_law_shown_2.kp T.b_law_shown_2 .nil pass0 (pa_cons (pv 0) pa_nil)) (pv 4) (nomark _))))) (pss_one (ps_ret pe_bl)) pss_nil))) (pss_one (ps_ret (pe_cmpR (Lv.op_eqLS hr.units) (pv 1) (pe_lst (pa_cons (Lv.pe_strS (l := [115, 104, 111, 119]) (by decide +kernel)) pa_nil)) (nomark _)))))))))
theorem ok_law_k52 (T : Txt K mg) : FnOk P w K mg base CX0 9 T.f_law_k52 T.fd_law_k52 ["script"] (sp_law_k52 K) := by
  have nd := sc_law_k52.nd
  have G_Desk_0_init := ok_Desk_0_init (P := P) (w := w) (base := base) T
  have G_law_some_words_0 := ok_law_some_words_0 (P := P) (w := w) (base := base) T
  have G_law_due_7 := ok_law_due_7 (P := P) (w := w) (base := base) T
  have G_law_met_0 := ok_law_met_0 (P := P) (w := w) (base := base) T
  have G_law_shown_2 := ok_law_shown_2 (P := P) (w := w) (base := base) T
  have G_law_things_right_0 := ok_law_things_right_0 (P := P) (w := w) (base := base) T
  refine T.F_law_k52.ok sc_law_k52 (fun vs H Q E h => ?_) (fun cdv A outer s H vs Q E hr h => ⟨t_law_k52 K T.C_Desk T.C_Growing T.er, ?_, pure_law_k52 T.kl_Desk T.kl_Growing vs H Q E h⟩)
  · unfold sp_law_k52 at h
    repeat (first | (obtain ⟨rfl, _⟩ := h; rfl) | (obtain ⟨_, h⟩ := h))
  · unfold t_law_k52
    exact (pss_cons (ps_set (i := 1) nd rfl (by first | exact Or.inl rfl | exact Or.inr rfl) (pe_make0 T.M_Desk G_Desk_0_init (hr.mono (by decide)) (by rfl) T.g_Desk T.b_Desk_0_init .nil pass0)) (pss_cons (ps_for PassesOwn.never (by rfl) (pi_list (pe_lst (pa_cons (Lv.pe_strS (l := [114, 111, 119, 32, 97, 98, 97, 98]) (by decide +kernel)) (pa_cons (Lv.pe_strS (l := [111, 116, 104, 101, 114, 32, 97, 98]) (by decide +kernel)) (pa_cons (Lv.pe_strS (l := [112, 117, 116, 32, 99]) (by decide +kernel)) (pa_cons (Lv.pe_strS (l := [117, 110, 100, 111]) (by decide +kernel)) pa_nil)))))) (pg_name (i := 2) nd rfl (by first | exact Or.inl rfl | exact Or.inr rfl)) (pss_one (ps_if (pt_not (pt_val (pe_call G_law_met_0 (hr.mono (by decide)) (by rfl) T.a_law_met_0 T.F_law_met_0.kp T.b_law_met_0 .nil pass0 (pa_cons (pv 1) (pa_cons (pv 2) (pa_cons (Lv.pe_strS (l := []) (by decide +kernel)) pa_nil)))))) (pss_one (ps_ret pe_bl)) pss_nil))) (pss_cons (ps_for PassesOwn.never (by rfl) (pi_list (pe_slice sl_list (pv 0) (po_some pe_int) (po_some pe_int))) (pg_name (i := 3) nd rfl (by first | exact Or.inl rfl | exact Or.inr rfl)) (pss_cons (ps_set (i := 2) nd rfl (by first | exact Or.inl rfl | exact Or.inr rfl) (pe_call G_law_some_words_0 (hr.mono (by decide)) (by rfl) T.a_law_some_words_0 T.F_law_some_words_0.kp T.b_law_some_words_0 .nil pass0 (pa_cons (pv 3) pa_nil))) (pss_cons (ps_set (i := 4) nd rfl (by first | exact Or.inl rfl | exact Or.inr rfl) (pe_call G_law_due_7 (hr.mono (by decide)) (by rfl) T.a_law_due_7 T.F_law_due_7.kp T.b_law_due_7 .nil pass0 (pa_cons (pv 1) (pa_cons (pv 2) pa_nil)))) (pss_cons (ps_set (i := 5) nd rfl (by first | exact Or.inl rfl | exact Or.inr rfl) (pe_call G_law_shown_2 (hr.mono (by decide)) (by rfl) T.a_law_shown_2 T.F_law_shown_2.kp T.b_law_shown_2 .nil pass0 (pa_cons (pv 1) pa_nil))) (pss_cons (ps_if (pt_not (pt_val (pe_call G_law_met_0 (hr.mono (by decide)) (by rfl) T.a_law_met_0 T.F_law_met_0.kp T.b_law_met_0 .nil pass0 (pa_cons (pv 1) (pa_cons (pv 2) (pa_cons (pv 4) pa_nil)))))) (pss_one (ps_ret pe_bl)) pss_nil) (pss_one (ps_if (PW.pt (pw_and (pt_cmpR Lv.op_neS (pv 4) (Lv.pe_strS (l := []) (by decide +kernel)) (nomark _)) (pw_and1 (pt_cmpR (Lv.op_neLS hr.units) (pe_call G_law_shown_2 (hr.mono (by decide)) (by rfl) T.a_law_shown_2 T.F_law_shown_2.kp T.b_law_shown_2 .nil pass0 (pa_cons (pv 1) pa_nil)) (pv 5) (nomark _))))) (pss_one (ps_ret pe_bl)) pss_nil))))))) (pss_cons (ps_for PassesOwn.never (by rfl) (pi_list (pe_lst (pa_cons (pe_op Lv.op_addS (Lv.pe_strS (l := [114, 111, 119, 32]) (by decide +kernel)) (pe_op Lv.op_mulS1 (Lv.pe_strS (l := [122]) (by decide +kernel)) pe_int)) (pa_cons (pe_op Lv.op_addS (Lv.pe_strS (l := [97, 116, 32]) (by decide +kernel)) (pe_op Lv.op_mulS1 (Lv.pe_strS (l := [49]) (by decide +kernel)) pe_int)) (pa_cons (pe_op Lv.op_addS (Lv.pe_strS (l := [108, 111, 110, 103, 32, 49, 32]) (by decide +kernel)) (pe_op Lv.op_mulS1 (Lv.pe_strS (l := [49]) (by decide +kernel)) pe_int)) (pa_cons (pe_op Lv.op_addS (Lv.pe_strS (l := [108, 101, 102, 116, 32]) (by decide +kernel)) (pe_op Lv.op_mulS1 (Lv.pe_strS (l := [122]) (by decide +kernel)) pe_int)) pa_nil)))))) (pg_name (i := 2) nd rfl (by first | exact Or.inl rfl | exact Or.inr rfl)) (pss_one (ps_if (pt_not (pt_val (pe_call G_law_met_0 (hr.mono (by decide)) (by rfl) T.a_law_met_0 T.F_law_met_0.kp T.b_law_met_0 .nil pass0 (pa_cons (pv 1) (pa_cons (pv 2) (pa_cons (Lv.pe_strS (l := [78, 111, 67, 111, 109, 109, 97, 110, 100]) (by decide +kernel)) pa_nil)))))) (pss_one (ps_ret pe_bl)) pss_nil))) (pss_one (ps_ret (pe_call G_law_things_right_0 (hr.mono (by decide)) (by rfl) T.a_law_things_right_0 T.F_law_things_right_0.kp T.b_law_things_right_0 .nil pass0 (pa_cons (pv 1) pa_nil))))))))
end
theorem all_mk {l : PySem.W.OpenLaw} {w : World} {K : PySem.W.Frag} {h : Heap} {mg : Str → Option Value} {fa : Addr} (X : K.In h) (G : h.Ns mainGlobals mg) (hfa : mg "law" = some (.ref fa))
    {CDesk : Addr} (aCDesk : PySem.W.nsIn K mainGlobals "Desk" = some (some (.ref CDesk)))
    (pgDesk : PySem.W.plainGet K CDesk Str.empty = true) (hdDesk : PySem.W.hasDictIn K CDesk = true) (poDesk : PySem.W.plainOver K CDesk = true) (saDesk : PySem.W.findIn K (.ref CDesk) "__setattr__" = some (some (.builtin "object.__setattr__"))) (mkDesk : PySem.W.makesIn K CDesk = true) (kcDesk : PySem.W.keepIn K (.ref CDesk) = true)
    (nFDesk_grown : PySem.W.findIn K (.ref CDesk) "grown" = some none)
    (nFDesk_beside : PySem.W.findIn K (.ref CDesk) "beside" = some none)
    {CGrowing : Addr} (aCGrowing : PySem.W.nsIn K mainGlobals "Growing" = some (some (.ref CGrowing)))
    (pgGrowing : PySem.W.plainGet K CGrowing Str.empty = true) (hdGrowing : PySem.W.hasDictIn K CGrowing = true) (poGrowing : PySem.W.plainOver K CGrowing = true) (saGrowing : PySem.W.findIn K (.ref CGrowing) "__setattr__" = some (some (.builtin "object.__setattr__"))) (mkGrowing : PySem.W.makesIn K CGrowing = true) (kcGrowing : PySem.W.keepIn K (.ref CGrowing) = true)
    (nFGrowing_letters : PySem.W.findIn K (.ref CGrowing) "letters" = some none)
    {e0 : Addr} (ae0 : PySem.W.nsIn K mainGlobals "LeaveError" = some (some (.ref e0))) (te0 : PySem.W.typeIn K (.ref e0) = some (.type "type")) (ie0 : PySem.W.isClsIn K e0 = true)
    {e1 : Addr} (ae1 : PySem.W.nsIn K mainGlobals "NoCommand" = some (some (.ref e1))) (te1 : PySem.W.typeIn K (.ref e1) = some (.type "type")) (ie1 : PySem.W.isClsIn K e1 = true)
    {e2 : Addr} (ae2 : PySem.W.nsIn K mainGlobals "NoLetter" = some (some (.ref e2))) (te2 : PySem.W.typeIn K (.ref e2) = some (.type "type")) (ie2 : PySem.W.isClsIn K e2 = true)
    {e3 : Addr} (ae3 : PySem.W.nsIn K mainGlobals "NoLetters" = some (some (.ref e3))) (te3 : PySem.W.typeIn K (.ref e3) = some (.type "type")) (ie3 : PySem.W.isClsIn K e3 = true)
    {e4 : Addr} (ae4 : PySem.W.nsIn K mainGlobals "NoPlace" = some (some (.ref e4))) (te4 : PySem.W.typeIn K (.ref e4) = some (.type "type")) (ie4 : PySem.W.isClsIn K e4 = true)
    {e5 : Addr} (ae5 : PySem.W.nsIn K mainGlobals "NoRow" = some (some (.ref e5))) (te5 : PySem.W.typeIn K (.ref e5) = some (.type "type")) (ie5 : PySem.W.isClsIn K e5 = true)
    {e6 : Addr} (ae6 : PySem.W.nsIn K mainGlobals "NoText" = some (some (.ref e6))) (te6 : PySem.W.typeIn K (.ref e6) = some (.type "type")) (ie6 : PySem.W.isClsIn K e6 = true)
    (be0 : PySem.W.subIn K (.ref e0) (.type "BaseException") = some true) (de0 : PySem.W.hasDictIn K e0 = true) (spe : PySem.W.specialIn K (.builtin "object.__class__") "__get__" = some (some (.builtin "getset_descriptor.__get__"))) (tke : PySem.W.takesIn K (.builtin "object.__class__") = some true)
    (xe1 : PySem.W.excIn K e1 [.type "ValueError", .type "Exception", .type "BaseException", .type "object"] "ValueError.__new__" = true) (ke1 : PySem.W.keepIn K (.ref e1) = true) (be1 : PySem.W.subIn K (.ref e1) (.type "BaseException") = some true) (le1 : PySem.W.subIn K (.ref e1) (.ref e0) = some true) (ve1 : PySem.W.subIn K (.ref e1) (.type "ValueError") = some true)
    (ga1 : PySem.W.findIn K (.ref e1) "__getattribute__" = some (some (.builtin "BaseException.__getattribute__"))) (gt1 : PySem.W.findIn K (.ref e1) "__getattr__" = some none) (de1 : PySem.W.hasDictIn K e1 = true) (ca1 : PySem.W.findIn K (.ref e1) "__class__" = some (some (.builtin "object.__class__"))) (me1 : PySem.W.mroIn K e1 (.type "object") = some true)
    (ss1_1 : PySem.W.subIn K (.ref e1) (.ref e1) = some true)
    (ss1_2 : PySem.W.subIn K (.ref e1) (.ref e2) = some false)
    (ss1_3 : PySem.W.subIn K (.ref e1) (.ref e3) = some false)
    (ss1_4 : PySem.W.subIn K (.ref e1) (.ref e4) = some false)
    (ss1_5 : PySem.W.subIn K (.ref e1) (.ref e5) = some false)
    (ss1_6 : PySem.W.subIn K (.ref e1) (.ref e6) = some false)
    (xe2 : PySem.W.excIn K e2 [.type "ValueError", .type "Exception", .type "BaseException", .type "object"] "ValueError.__new__" = true) (ke2 : PySem.W.keepIn K (.ref e2) = true) (be2 : PySem.W.subIn K (.ref e2) (.type "BaseException") = some true) (le2 : PySem.W.subIn K (.ref e2) (.ref e0) = some true) (ve2 : PySem.W.subIn K (.ref e2) (.type "ValueError") = some true)
    (ga2 : PySem.W.findIn K (.ref e2) "__getattribute__" = some (some (.builtin "BaseException.__getattribute__"))) (gt2 : PySem.W.findIn K (.ref e2) "__getattr__" = some none) (de2 : PySem.W.hasDictIn K e2 = true) (ca2 : PySem.W.findIn K (.ref e2) "__class__" = some (some (.builtin "object.__class__"))) (me2 : PySem.W.mroIn K e2 (.type "object") = some true)
    (ss2_1 : PySem.W.subIn K (.ref e2) (.ref e1) = some false)
    (ss2_2 : PySem.W.subIn K (.ref e2) (.ref e2) = some true)
    (ss2_3 : PySem.W.subIn K (.ref e2) (.ref e3) = some false)
    (ss2_4 : PySem.W.subIn K (.ref e2) (.ref e4) = some false)
    (ss2_5 : PySem.W.subIn K (.ref e2) (.ref e5) = some false)
    (ss2_6 : PySem.W.subIn K (.ref e2) (.ref e6) = some false)
    (xe3 : PySem.W.excIn K e3 [.type "ValueError", .type "Exception", .type "BaseException", .type "object"] "ValueError.__new__" = true) (ke3 : PySem.W.keepIn K (.ref e3) = true) (be3 : PySem.W.subIn K (.ref e3) (.type "BaseException") = some true) (le3 : PySem.W.subIn K (.ref e3) (.ref e0) = some true) (ve3 : PySem.W.subIn K (.ref e3) (.type "ValueError") = some true)
    (ga3 : PySem.W.findIn K (.ref e3) "__getattribute__" = some (some (.builtin "BaseException.__getattribute__"))) (gt3 : PySem.W.findIn K (.ref e3) "__getattr__" = some none) (de3 : PySem.W.hasDictIn K e3 = true) (ca3 : PySem.W.findIn K (.ref e3) "__class__" = some (some (.builtin "object.__class__"))) (me3 : PySem.W.mroIn K e3 (.type "object") = some true)
    (ss3_1 : PySem.W.subIn K (.ref e3) (.ref e1) = some false)
    (ss3_2 : PySem.W.subIn K (.ref e3) (.ref e2) = some false)
    (ss3_3 : PySem.W.subIn K (.ref e3) (.ref e3) = some true)
    (ss3_4 : PySem.W.subIn K (.ref e3) (.ref e4) = some false)
    (ss3_5 : PySem.W.subIn K (.ref e3) (.ref e5) = some false)
    (ss3_6 : PySem.W.subIn K (.ref e3) (.ref e6) = some false)
    (xe4 : PySem.W.excIn K e4 [.type "ValueError", .type "Exception", .type "BaseException", .type "object"] "ValueError.__new__" = true) (ke4 : PySem.W.keepIn K (.ref e4) = true) (be4 : PySem.W.subIn K (.ref e4) (.type "BaseException") = some true) (le4 : PySem.W.subIn K (.ref e4) (.ref e0) = some true) (ve4 : PySem.W.subIn K (.ref e4) (.type "ValueError") = some true)
    (ga4 : PySem.W.findIn K (.ref e4) "__getattribute__" = some (some (.builtin "BaseException.__getattribute__"))) (gt4 : PySem.W.findIn K (.ref e4) "__getattr__" = some none) (de4 : PySem.W.hasDictIn K e4 = true) (ca4 : PySem.W.findIn K (.ref e4) "__class__" = some (some (.builtin "object.__class__"))) (me4 : PySem.W.mroIn K e4 (.type "object") = some true)
    (ss4_1 : PySem.W.subIn K (.ref e4) (.ref e1) = some false)
    (ss4_2 : PySem.W.subIn K (.ref e4) (.ref e2) = some false)
    (ss4_3 : PySem.W.subIn K (.ref e4) (.ref e3) = some false)
    (ss4_4 : PySem.W.subIn K (.ref e4) (.ref e4) = some true)
    (ss4_5 : PySem.W.subIn K (.ref e4) (.ref e5) = some false)
    (ss4_6 : PySem.W.subIn K (.ref e4) (.ref e6) = some false)
    (xe5 : PySem.W.excIn K e5 [.type "ValueError", .type "Exception", .type "BaseException", .type "object"] "ValueError.__new__" = true) (ke5 : PySem.W.keepIn K (.ref e5) = true) (be5 : PySem.W.subIn K (.ref e5) (.type "BaseException") = some true) (le5 : PySem.W.subIn K (.ref e5) (.ref e0) = some true) (ve5 : PySem.W.subIn K (.ref e5) (.type "ValueError") = some true)
    (ga5 : PySem.W.findIn K (.ref e5) "__getattribute__" = some (some (.builtin "BaseException.__getattribute__"))) (gt5 : PySem.W.findIn K (.ref e5) "__getattr__" = some none) (de5 : PySem.W.hasDictIn K e5 = true) (ca5 : PySem.W.findIn K (.ref e5) "__class__" = some (some (.builtin "object.__class__"))) (me5 : PySem.W.mroIn K e5 (.type "object") = some true)
    (ss5_1 : PySem.W.subIn K (.ref e5) (.ref e1) = some false)
    (ss5_2 : PySem.W.subIn K (.ref e5) (.ref e2) = some false)
    (ss5_3 : PySem.W.subIn K (.ref e5) (.ref e3) = some false)
    (ss5_4 : PySem.W.subIn K (.ref e5) (.ref e4) = some false)
    (ss5_5 : PySem.W.subIn K (.ref e5) (.ref e5) = some true)
    (ss5_6 : PySem.W.subIn K (.ref e5) (.ref e6) = some false)
    (xe6 : PySem.W.excIn K e6 [.type "ValueError", .type "Exception", .type "BaseException", .type "object"] "ValueError.__new__" = true) (ke6 : PySem.W.keepIn K (.ref e6) = true) (be6 : PySem.W.subIn K (.ref e6) (.type "BaseException") = some true) (le6 : PySem.W.subIn K (.ref e6) (.ref e0) = some true) (ve6 : PySem.W.subIn K (.ref e6) (.type "ValueError") = some true)
    (ga6 : PySem.W.findIn K (.ref e6) "__getattribute__" = some (some (.builtin "BaseException.__getattribute__"))) (gt6 : PySem.W.findIn K (.ref e6) "__getattr__" = some none) (de6 : PySem.W.hasDictIn K e6 = true) (ca6 : PySem.W.findIn K (.ref e6) "__class__" = some (some (.builtin "object.__class__"))) (me6 : PySem.W.mroIn K e6 (.type "object") = some true)
    (ss6_1 : PySem.W.subIn K (.ref e6) (.ref e1) = some false)
    (ss6_2 : PySem.W.subIn K (.ref e6) (.ref e2) = some false)
    (ss6_3 : PySem.W.subIn K (.ref e6) (.ref e3) = some false)
    (ss6_4 : PySem.W.subIn K (.ref e6) (.ref e4) = some false)
    (ss6_5 : PySem.W.subIn K (.ref e6) (.ref e5) = some false)
    (ss6_6 : PySem.W.subIn K (.ref e6) (.ref e6) = some true)
    {f0 : Addr} {od0 an0 : Option Addr} {sl0 : Array (Option Value)} {oc0 kV0 dc0 pm0 cd0 ct0 : Value}
    (a0 : PySem.W.findIn K (.ref CGrowing) "__init__" = some (some (.ref f0))) (i0 : PySem.W.isFn K (.ref f0) = true) (l0 : K.lookup f0 = some ⟨oc0, od0, .func (PySem.W.fnOf "__init__" "Growing.__init__" (defArgs s_Growing_1_init) (defBody s_Growing_1_init) (defScope s_Growing_1_init) .none kV0 dc0 pm0 an0 cd0 ct0), sl0⟩) (c0 : PySem.W.codeIn K cd0 "Growing.__init__" = true) (k0 : PySem.W.keepIn K (.ref f0) = true)
    {f1 : Addr} {od1 an1 : Option Addr} {sl1 : Array (Option Value)} {oc1 kV1 dc1 pm1 cd1 ct1 : Value}
    (a1 : PySem.W.findIn K (.ref CDesk) "__init__" = some (some (.ref f1))) (i1 : PySem.W.isFn K (.ref f1) = true) (l1 : K.lookup f1 = some ⟨oc1, od1, .func (PySem.W.fnOf "__init__" "Desk.__init__" (defArgs s_Desk_0_init) (defBody s_Desk_0_init) (defScope s_Desk_0_init) .none kV1 dc1 pm1 an1 cd1 ct1), sl1⟩) (c1 : PySem.W.codeIn K cd1 "Desk.__init__" = true) (k1 : PySem.W.keepIn K (.ref f1) = true)
    {f2 : Addr} {od2 an2 : Option Addr} {sl2 : Array (Option Value)} {oc2 kV2 dc2 pm2 cd2 ct2 : Value}
    (a2 : PySem.W.nsIn K mainGlobals "_law_take" = some (some (.ref f2))) (l2 : K.lookup f2 = some ⟨oc2, od2, .func (PySem.W.fnOf "_law_take" "_law_take" (defArgs s_law_take_1) (defBody s_law_take_1) (defScope s_law_take_1) .none kV2 dc2 pm2 an2 cd2 ct2), sl2⟩) (c2 : PySem.W.codeIn K cd2 "_law_take" = true) (k2 : PySem.W.keepIn K (.ref f2) = true)
    {f3 : Addr} {od3 an3 : Option Addr} {sl3 : Array (Option Value)} {oc3 kV3 dc3 pm3 cd3 ct3 : Value}
    (a3 : PySem.W.nsIn K mainGlobals "_law_deck" = some (some (.ref f3))) (l3 : K.lookup f3 = some ⟨oc3, od3, .func (PySem.W.fnOf "_law_deck" "_law_deck" (defArgs s_law_deck_0) (defBody s_law_deck_0) (defScope s_law_deck_0) .none kV3 dc3 pm3 an3 cd3 ct3), sl3⟩) (c3 : PySem.W.codeIn K cd3 "_law_deck" = true) (k3 : PySem.W.keepIn K (.ref f3) = true)
    {f4 : Addr} {od4 an4 : Option Addr} {sl4 : Array (Option Value)} {oc4 kV4 dc4 pm4 cd4 ct4 : Value}
    (a4 : PySem.W.nsIn K mainGlobals "_law_some_number" = some (some (.ref f4))) (l4 : K.lookup f4 = some ⟨oc4, od4, .func (PySem.W.fnOf "_law_some_number" "_law_some_number" (defArgs s_law_some_number_0) (defBody s_law_some_number_0) (defScope s_law_some_number_0) .none kV4 dc4 pm4 an4 cd4 ct4), sl4⟩) (c4 : PySem.W.codeIn K cd4 "_law_some_number" = true) (k4 : PySem.W.keepIn K (.ref f4) = true)
    {f5 : Addr} {od5 an5 : Option Addr} {sl5 : Array (Option Value)} {oc5 kV5 dc5 pm5 cd5 ct5 : Value}
    (a5 : PySem.W.nsIn K mainGlobals "_law_some_row" = some (some (.ref f5))) (l5 : K.lookup f5 = some ⟨oc5, od5, .func (PySem.W.fnOf "_law_some_row" "_law_some_row" (defArgs s_law_some_row_0) (defBody s_law_some_row_0) (defScope s_law_some_row_0) .none kV5 dc5 pm5 an5 cd5 ct5), sl5⟩) (c5 : PySem.W.codeIn K cd5 "_law_some_row" = true) (k5 : PySem.W.keepIn K (.ref f5) = true)
    {f6 : Addr} {od6 an6 : Option Addr} {sl6 : Array (Option Value)} {oc6 kV6 dc6 pm6 cd6 ct6 : Value}
    (a6 : PySem.W.nsIn K mainGlobals "_law_some_letters" = some (some (.ref f6))) (l6 : K.lookup f6 = some ⟨oc6, od6, .func (PySem.W.fnOf "_law_some_letters" "_law_some_letters" (defArgs s_law_some_letters_1) (defBody s_law_some_letters_1) (defScope s_law_some_letters_1) .none kV6 dc6 pm6 an6 cd6 ct6), sl6⟩) (c6 : PySem.W.codeIn K cd6 "_law_some_letters" = true) (k6 : PySem.W.keepIn K (.ref f6) = true)
    {f7 : Addr} {od7 an7 : Option Addr} {sl7 : Array (Option Value)} {oc7 kV7 dc7 pm7 cd7 ct7 : Value}
    (a7 : PySem.W.nsIn K mainGlobals "_law_some_words" = some (some (.ref f7))) (l7 : K.lookup f7 = some ⟨oc7, od7, .func (PySem.W.fnOf "_law_some_words" "_law_some_words" (defArgs s_law_some_words_0) (defBody s_law_some_words_0) (defScope s_law_some_words_0) .none kV7 dc7 pm7 an7 cd7 ct7), sl7⟩) (c7 : PySem.W.codeIn K cd7 "_law_some_words" = true) (k7 : PySem.W.keepIn K (.ref f7) = true)
    {f8 : Addr} {od8 an8 : Option Addr} {sl8 : Array (Option Value)} {oc8 kV8 dc8 pm8 cd8 ct8 : Value}
    (a8 : PySem.W.findIn K (.ref CGrowing) "row" = some (some (.ref f8))) (i8 : PySem.W.isFn K (.ref f8) = true) (l8 : K.lookup f8 = some ⟨oc8, od8, .func (PySem.W.fnOf "row" "Growing.row" (defArgs s_Growing_1_row) (defBody s_Growing_1_row) (defScope s_Growing_1_row) .none kV8 dc8 pm8 an8 cd8 ct8), sl8⟩) (c8 : PySem.W.codeIn K cd8 "Growing.row" = true) (k8 : PySem.W.keepIn K (.ref f8) = true)
    {f9 : Addr} {od9 an9 : Option Addr} {sl9 : Array (Option Value)} {oc9 kV9 dc9 pm9 cd9 ct9 : Value}
    (a9 : PySem.W.nsIn K mainGlobals "next_tables" = some (some (.ref f9))) (l9 : K.lookup f9 = some ⟨oc9, od9, .func (PySem.W.fnOf "next_tables" "next_tables" (defArgs s_next_tables_0) (defBody s_next_tables_0) (defScope s_next_tables_0) .none kV9 dc9 pm9 an9 cd9 ct9), sl9⟩) (c9 : PySem.W.codeIn K cd9 "next_tables" = true) (k9 : PySem.W.keepIn K (.ref f9) = true)
    {f10 : Addr} {od10 an10 : Option Addr} {sl10 : Array (Option Value)} {oc10 kV10 dc10 pm10 cd10 ct10 : Value}
    (a10 : PySem.W.nsIn K mainGlobals "put_on" = some (some (.ref f10))) (l10 : K.lookup f10 = some ⟨oc10, od10, .func (PySem.W.fnOf "put_on" "put_on" (defArgs s_put_on_0) (defBody s_put_on_0) (defScope s_put_on_0) .none kV10 dc10 pm10 an10 cd10 ct10), sl10⟩) (c10 : PySem.W.codeIn K cd10 "put_on" = true) (k10 : PySem.W.keepIn K (.ref f10) = true)
    {f11 : Addr} {od11 an11 : Option Addr} {sl11 : Array (Option Value)} {oc11 kV11 dc11 pm11 cd11 ct11 : Value}
    (a11 : PySem.W.nsIn K mainGlobals "lengths_from" = some (some (.ref f11))) (l11 : K.lookup f11 = some ⟨oc11, od11, .func (PySem.W.fnOf "lengths_from" "lengths_from" (defArgs s_lengths_from_0) (defBody s_lengths_from_0) (defScope s_lengths_from_0) .none kV11 dc11 pm11 an11 cd11 ct11), sl11⟩) (c11 : PySem.W.codeIn K cd11 "lengths_from" = true) (k11 : PySem.W.keepIn K (.ref f11) = true)
    {f12 : Addr} {od12 an12 : Option Addr} {sl12 : Array (Option Value)} {oc12 kV12 dc12 pm12 cd12 ct12 : Value}
    (a12 : PySem.W.nsIn K mainGlobals "is_whole" = some (some (.ref f12))) (l12 : K.lookup f12 = some ⟨oc12, od12, .func (PySem.W.fnOf "is_whole" "is_whole" (defArgs s_is_whole_0x) (defBody s_is_whole_0x) (defScope s_is_whole_0x) .none kV12 dc12 pm12 an12 cd12 ct12), sl12⟩) (c12 : PySem.W.codeIn K cd12 "is_whole" = true) (k12 : PySem.W.keepIn K (.ref f12) = true)
    {f13 : Addr} {od13 an13 : Option Addr} {sl13 : Array (Option Value)} {oc13 kV13 dc13 pm13 cd13 ct13 : Value}
    (a13 : PySem.W.nsIn K mainGlobals "many_of" = some (some (.ref f13))) (l13 : K.lookup f13 = some ⟨oc13, od13, .func (PySem.W.fnOf "many_of" "many_of" (defArgs s_many_of_0) (defBody s_many_of_0) (defScope s_many_of_0) .none kV13 dc13 pm13 an13 cd13 ct13), sl13⟩) (c13 : PySem.W.codeIn K cd13 "many_of" = true) (k13 : PySem.W.keepIn K (.ref f13) = true)
    {f14 : Addr} {od14 an14 : Option Addr} {sl14 : Array (Option Value)} {oc14 kV14 dc14 pm14 cd14 ct14 : Value}
    (a14 : PySem.W.nsIn K mainGlobals "of_length_at" = some (some (.ref f14))) (l14 : K.lookup f14 = some ⟨oc14, od14, .func (PySem.W.fnOf "of_length_at" "of_length_at" (defArgs s_of_length_at_0x) (defBody s_of_length_at_0x) (defScope s_of_length_at_0x) .none kV14 dc14 pm14 an14 cd14 ct14), sl14⟩) (c14 : PySem.W.codeIn K cd14 "of_length_at" = true) (k14 : PySem.W.keepIn K (.ref f14) = true)
    {f15 : Addr} {od15 an15 : Option Addr} {sl15 : Array (Option Value)} {oc15 kV15 dc15 pm15 cd15 ct15 : Value}
    (a15 : PySem.W.nsIn K mainGlobals "read_number" = some (some (.ref f15))) (l15 : K.lookup f15 = some ⟨oc15, od15, .func (PySem.W.fnOf "read_number" "read_number" (defArgs s_read_number_0n) (defBody s_read_number_0n) (defScope s_read_number_0n) .none kV15 dc15 pm15 an15 cd15 ct15), sl15⟩) (c15 : PySem.W.codeIn K cd15 "read_number" = true) (k15 : PySem.W.keepIn K (.ref f15) = true)
    {f16 : Addr} {od16 an16 : Option Addr} {sl16 : Array (Option Value)} {oc16 kV16 dc16 pm16 cd16 ct16 : Value}
    (a16 : PySem.W.nsIn K mainGlobals "number_in" = some (some (.ref f16))) (l16 : K.lookup f16 = some ⟨oc16, od16, .func (PySem.W.fnOf "number_in" "number_in" (defArgs s_number_in_0) (defBody s_number_in_0) (defScope s_number_in_0) .none kV16 dc16 pm16 an16 cd16 ct16), sl16⟩) (c16 : PySem.W.codeIn K cd16 "number_in" = true) (k16 : PySem.W.keepIn K (.ref f16) = true)
    {f17 : Addr} {od17 an17 : Option Addr} {sl17 : Array (Option Value)} {oc17 kV17 dc17 pm17 cd17 ct17 : Value}
    (a17 : PySem.W.nsIn K mainGlobals "shown" = some (some (.ref f17))) (l17 : K.lookup f17 = some ⟨oc17, od17, .func (PySem.W.fnOf "shown" "shown" (defArgs s_shown_0) (defBody s_shown_0) (defScope s_shown_0) .none kV17 dc17 pm17 an17 cd17 ct17), sl17⟩) (c17 : PySem.W.codeIn K cd17 "shown" = true) (k17 : PySem.W.keepIn K (.ref f17) = true)
    {f18 : Addr} {od18 an18 : Option Addr} {sl18 : Array (Option Value)} {oc18 kV18 dc18 pm18 cd18 ct18 : Value}
    (a18 : PySem.W.nsIn K mainGlobals "next_at" = some (some (.ref f18))) (l18 : K.lookup f18 = some ⟨oc18, od18, .func (PySem.W.fnOf "next_at" "next_at" (defArgs s_next_at_0) (defBody s_next_at_0) (defScope s_next_at_0) .none kV18 dc18 pm18 an18 cd18 ct18), sl18⟩) (c18 : PySem.W.codeIn K cd18 "next_at" = true) (k18 : PySem.W.keepIn K (.ref f18) = true)
    {f19 : Addr} {od19 an19 : Option Addr} {sl19 : Array (Option Value)} {oc19 kV19 dc19 pm19 cd19 ct19 : Value}
    (a19 : PySem.W.nsIn K mainGlobals "goings_on" = some (some (.ref f19))) (l19 : K.lookup f19 = some ⟨oc19, od19, .func (PySem.W.fnOf "goings_on" "goings_on" (defArgs s_goings_on_0) (defBody s_goings_on_0) (defScope s_goings_on_0) .none kV19 dc19 pm19 an19 cd19 ct19), sl19⟩) (c19 : PySem.W.codeIn K cd19 "goings_on" = true) (k19 : PySem.W.keepIn K (.ref f19) = true)
    {f20 : Addr} {od20 an20 : Option Addr} {sl20 : Array (Option Value)} {oc20 kV20 dc20 pm20 cd20 ct20 : Value}
    (a20 : PySem.W.nsIn K mainGlobals "many_common" = some (some (.ref f20))) (l20 : K.lookup f20 = some ⟨oc20, od20, .func (PySem.W.fnOf "many_common" "many_common" (defArgs s_many_common_0) (defBody s_many_common_0) (defScope s_many_common_0) .none kV20 dc20 pm20 an20 cd20 ct20), sl20⟩) (c20 : PySem.W.codeIn K cd20 "many_common" = true) (k20 : PySem.W.keepIn K (.ref f20) = true)
    {f21 : Addr} {od21 an21 : Option Addr} {sl21 : Array (Option Value)} {oc21 kV21 dc21 pm21 cd21 ct21 : Value}
    (a21 : PySem.W.nsIn K mainGlobals "longest_from" = some (some (.ref f21))) (l21 : K.lookup f21 = some ⟨oc21, od21, .func (PySem.W.fnOf "longest_from" "longest_from" (defArgs s_longest_from_0) (defBody s_longest_from_0) (defScope s_longest_from_0) .none kV21 dc21 pm21 an21 cd21 ct21), sl21⟩) (c21 : PySem.W.codeIn K cd21 "longest_from" = true) (k21 : PySem.W.keepIn K (.ref f21) = true)
    {f22 : Addr} {od22 an22 : Option Addr} {sl22 : Array (Option Value)} {oc22 kV22 dc22 pm22 cd22 ct22 : Value}
    (a22 : PySem.W.nsIn K mainGlobals "longest_common" = some (some (.ref f22))) (l22 : K.lookup f22 = some ⟨oc22, od22, .func (PySem.W.fnOf "longest_common" "longest_common" (defArgs s_longest_common_0) (defBody s_longest_common_0) (defScope s_longest_common_0) .none kV22 dc22 pm22 an22 cd22 ct22), sl22⟩) (c22 : PySem.W.codeIn K cd22 "longest_common" = true) (k22 : PySem.W.keepIn K (.ref f22) = true)
    {f23 : Addr} {od23 an23 : Option Addr} {sl23 : Array (Option Value)} {oc23 kV23 dc23 pm23 cd23 ct23 : Value}
    (a23 : PySem.W.findIn K (.ref CGrowing) "undo" = some (some (.ref f23))) (i23 : PySem.W.isFn K (.ref f23) = true) (l23 : K.lookup f23 = some ⟨oc23, od23, .func (PySem.W.fnOf "undo" "Growing.undo" (defArgs s_Growing_1_undo) (defBody s_Growing_1_undo) (defScope s_Growing_1_undo) .none kV23 dc23 pm23 an23 cd23 ct23), sl23⟩) (c23 : PySem.W.codeIn K cd23 "Growing.undo" = true) (k23 : PySem.W.keepIn K (.ref f23) = true)
    {f24 : Addr} {od24 an24 : Option Addr} {sl24 : Array (Option Value)} {oc24 kV24 dc24 pm24 cd24 ct24 : Value}
    (a24 : PySem.W.nsIn K mainGlobals "counts_from" = some (some (.ref f24))) (l24 : K.lookup f24 = some ⟨oc24, od24, .func (PySem.W.fnOf "counts_from" "counts_from" (defArgs s_counts_from_0) (defBody s_counts_from_0) (defScope s_counts_from_0) .none kV24 dc24 pm24 an24 cd24 ct24), sl24⟩) (c24 : PySem.W.codeIn K cd24 "counts_from" = true) (k24 : PySem.W.keepIn K (.ref f24) = true)
    {f25 : Addr} {od25 an25 : Option Addr} {sl25 : Array (Option Value)} {oc25 kV25 dc25 pm25 cd25 ct25 : Value}
    (a25 : PySem.W.nsIn K mainGlobals "many_left" = some (some (.ref f25))) (l25 : K.lookup f25 = some ⟨oc25, od25, .func (PySem.W.fnOf "many_left" "many_left" (defArgs s_many_left_0) (defBody s_many_left_0) (defScope s_many_left_0) .none kV25 dc25 pm25 an25 cd25 ct25), sl25⟩) (c25 : PySem.W.codeIn K cd25 "many_left" = true) (k25 : PySem.W.keepIn K (.ref f25) = true)
    {f26 : Addr} {od26 an26 : Option Addr} {sl26 : Array (Option Value)} {oc26 kV26 dc26 pm26 cd26 ct26 : Value}
    (a26 : PySem.W.findIn K (.ref CGrowing) "many" = some (some (.ref f26))) (i26 : PySem.W.isFn K (.ref f26) = true) (l26 : K.lookup f26 = some ⟨oc26, od26, .func (PySem.W.fnOf "many" "Growing.many" (defArgs s_Growing_1_many) (defBody s_Growing_1_many) (defScope s_Growing_1_many) .none kV26 dc26 pm26 an26 cd26 ct26), sl26⟩) (c26 : PySem.W.codeIn K cd26 "Growing.many" = true) (k26 : PySem.W.keepIn K (.ref f26) = true)
    {f27 : Addr} {od27 an27 : Option Addr} {sl27 : Array (Option Value)} {oc27 kV27 dc27 pm27 cd27 ct27 : Value}
    (a27 : PySem.W.nsIn K mainGlobals "by_lengths" = some (some (.ref f27))) (l27 : K.lookup f27 = some ⟨oc27, od27, .func (PySem.W.fnOf "by_lengths" "by_lengths" (defArgs s_by_lengths_0) (defBody s_by_lengths_0) (defScope s_by_lengths_0) .none kV27 dc27 pm27 an27 cd27 ct27), sl27⟩) (c27 : PySem.W.codeIn K cd27 "by_lengths" = true) (k27 : PySem.W.keepIn K (.ref f27) = true)
    {f28 : Addr} {od28 an28 : Option Addr} {sl28 : Array (Option Value)} {oc28 kV28 dc28 pm28 cd28 ct28 : Value}
    (a28 : PySem.W.findIn K (.ref CGrowing) "lengths" = some (some (.ref f28))) (i28 : PySem.W.isFn K (.ref f28) = true) (l28 : K.lookup f28 = some ⟨oc28, od28, .func (PySem.W.fnOf "lengths" "Growing.lengths" (defArgs s_Growing_1_lengths) (defBody s_Growing_1_lengths) (defScope s_Growing_1_lengths) .none kV28 dc28 pm28 an28 cd28 ct28), sl28⟩) (c28 : PySem.W.codeIn K cd28 "Growing.lengths" = true) (k28 : PySem.W.keepIn K (.ref f28) = true)
    {f29 : Addr} {od29 an29 : Option Addr} {sl29 : Array (Option Value)} {oc29 kV29 dc29 pm29 cd29 ct29 : Value}
    (a29 : PySem.W.nsIn K mainGlobals "show_list" = some (some (.ref f29))) (l29 : K.lookup f29 = some ⟨oc29, od29, .func (PySem.W.fnOf "show_list" "show_list" (defArgs s_show_list_0) (defBody s_show_list_0) (defScope s_show_list_0) .none kV29 dc29 pm29 an29 cd29 ct29), sl29⟩) (c29 : PySem.W.codeIn K cd29 "show_list" = true) (k29 : PySem.W.keepIn K (.ref f29) = true)
    {f30 : Addr} {od30 an30 : Option Addr} {sl30 : Array (Option Value)} {oc30 kV30 dc30 pm30 cd30 ct30 : Value}
    (a30 : PySem.W.nsIn K mainGlobals "next_of" = some (some (.ref f30))) (l30 : K.lookup f30 = some ⟨oc30, od30, .func (PySem.W.fnOf "next_of" "next_of" (defArgs s_next_of_0) (defBody s_next_of_0) (defScope s_next_of_0) .none kV30 dc30 pm30 an30 cd30 ct30), sl30⟩) (c30 : PySem.W.codeIn K cd30 "next_of" = true) (k30 : PySem.W.keepIn K (.ref f30) = true)
    {f31 : Addr} {od31 an31 : Option Addr} {sl31 : Array (Option Value)} {oc31 kV31 dc31 pm31 cd31 ct31 : Value}
    (a31 : PySem.W.nsIn K mainGlobals "parts" = some (some (.ref f31))) (l31 : K.lookup f31 = some ⟨oc31, od31, .func (PySem.W.fnOf "parts" "parts" (defArgs s_parts_0) (defBody s_parts_0) (defScope s_parts_0) .none kV31 dc31 pm31 an31 cd31 ct31), sl31⟩) (c31 : PySem.W.codeIn K cd31 "parts" = true) (k31 : PySem.W.keepIn K (.ref f31) = true)
    {f32 : Addr} {od32 an32 : Option Addr} {sl32 : Array (Option Value)} {oc32 kV32 dc32 pm32 cd32 ct32 : Value}
    (a32 : PySem.W.nsIn K mainGlobals "ways_from" = some (some (.ref f32))) (l32 : K.lookup f32 = some ⟨oc32, od32, .func (PySem.W.fnOf "ways_from" "ways_from" (defArgs s_ways_from_0) (defBody s_ways_from_0) (defScope s_ways_from_0) .none kV32 dc32 pm32 an32 cd32 ct32), sl32⟩) (c32 : PySem.W.codeIn K cd32 "ways_from" = true) (k32 : PySem.W.keepIn K (.ref f32) = true)
    {f33 : Addr} {od33 an33 : Option Addr} {sl33 : Array (Option Value)} {oc33 kV33 dc33 pm33 cd33 ct33 : Value}
    (a33 : PySem.W.nsIn K mainGlobals "many_ways" = some (some (.ref f33))) (l33 : K.lookup f33 = some ⟨oc33, od33, .func (PySem.W.fnOf "many_ways" "many_ways" (defArgs s_many_ways_0) (defBody s_many_ways_0) (defScope s_many_ways_0) .none kV33 dc33 pm33 an33 cd33 ct33), sl33⟩) (c33 : PySem.W.codeIn K cd33 "many_ways" = true) (k33 : PySem.W.keepIn K (.ref f33) = true)
    {f34 : Addr} {od34 an34 : Option Addr} {sl34 : Array (Option Value)} {oc34 kV34 dc34 pm34 cd34 ct34 : Value}
    (a34 : PySem.W.findIn K (.ref CDesk) "alone" = some (some (.ref f34))) (i34 : PySem.W.isFn K (.ref f34) = true) (l34 : K.lookup f34 = some ⟨oc34, od34, .func (PySem.W.fnOf "alone" "Desk.alone" (defArgs s_Desk_0_alone) (defBody s_Desk_0_alone) (defScope s_Desk_0_alone) .none kV34 dc34 pm34 an34 cd34 ct34), sl34⟩) (c34 : PySem.W.codeIn K cd34 "Desk.alone" = true) (k34 : PySem.W.keepIn K (.ref f34) = true)
    {f35 : Addr} {od35 an35 : Option Addr} {sl35 : Array (Option Value)} {oc35 kV35 dc35 pm35 cd35 ct35 : Value}
    (a35 : PySem.W.nsIn K mainGlobals "need_letters_arches" = some (some (.ref f35))) (l35 : K.lookup f35 = some ⟨oc35, od35, .func (PySem.W.fnOf "need_letters" "need_letters" (defArgs s_need_letters_2x) (defBody s_need_letters_2x) (defScope s_need_letters_2x) .none kV35 dc35 pm35 an35 cd35 ct35), sl35⟩) (c35 : PySem.W.codeIn K cd35 "need_letters" = true) (k35 : PySem.W.keepIn K (.ref f35) = true)
    {f36 : Addr} {od36 an36 : Option Addr} {sl36 : Array (Option Value)} {oc36 kV36 dc36 pm36 cd36 ct36 : Value}
    (a36 : PySem.W.nsIn K mainGlobals "has_all" = some (some (.ref f36))) (l36 : K.lookup f36 = some ⟨oc36, od36, .func (PySem.W.fnOf "has_all" "has_all" (defArgs s_has_all_0) (defBody s_has_all_0) (defScope s_has_all_0) .none kV36 dc36 pm36 an36 cd36 ct36), sl36⟩) (c36 : PySem.W.codeIn K cd36 "has_all" = true) (k36 : PySem.W.keepIn K (.ref f36) = true)
    {f37 : Addr} {od37 an37 : Option Addr} {sl37 : Array (Option Value)} {oc37 kV37 dc37 pm37 cd37 ct37 : Value}
    (a37 : PySem.W.nsIn K mainGlobals "arches" = some (some (.ref f37))) (l37 : K.lookup f37 = some ⟨oc37, od37, .func (PySem.W.fnOf "arches" "arches" (defArgs s_arches_0x) (defBody s_arches_0x) (defScope s_arches_0x) .none kV37 dc37 pm37 an37 cd37 ct37), sl37⟩) (c37 : PySem.W.codeIn K cd37 "arches" = true) (k37 : PySem.W.keepIn K (.ref f37) = true)
    {f38 : Addr} {od38 an38 : Option Addr} {sl38 : Array (Option Value)} {oc38 kV38 dc38 pm38 cd38 ct38 : Value}
    (a38 : PySem.W.findIn K (.ref CGrowing) "put" = some (some (.ref f38))) (i38 : PySem.W.isFn K (.ref f38) = true) (l38 : K.lookup f38 = some ⟨oc38, od38, .func (PySem.W.fnOf "put" "Growing.put" (defArgs s_Growing_1_putx) (defBody s_Growing_1_putx) (defScope s_Growing_1_putx) .none kV38 dc38 pm38 an38 cd38 ct38), sl38⟩) (c38 : PySem.W.codeIn K cd38 "Growing.put" = true) (k38 : PySem.W.keepIn K (.ref f38) = true)
    {f39 : Addr} {od39 an39 : Option Addr} {sl39 : Array (Option Value)} {oc39 kV39 dc39 pm39 cd39 ct39 : Value}
    (a39 : PySem.W.nsIn K mainGlobals "left_at" = some (some (.ref f39))) (l39 : K.lookup f39 = some ⟨oc39, od39, .func (PySem.W.fnOf "left_at" "left_at" (defArgs s_left_at_0x) (defBody s_left_at_0x) (defScope s_left_at_0x) .none kV39 dc39 pm39 an39 cd39 ct39), sl39⟩) (c39 : PySem.W.codeIn K cd39 "left_at" = true) (k39 : PySem.W.keepIn K (.ref f39) = true)
    {f40 : Addr} {od40 an40 : Option Addr} {sl40 : Array (Option Value)} {oc40 kV40 dc40 pm40 cd40 ct40 : Value}
    (a40 : PySem.W.nsIn K mainGlobals "need_letters_shortest" = some (some (.ref f40))) (l40 : K.lookup f40 = some ⟨oc40, od40, .func (PySem.W.fnOf "need_letters" "need_letters" (defArgs s_need_letters_1x) (defBody s_need_letters_1x) (defScope s_need_letters_1x) .none kV40 dc40 pm40 an40 cd40 ct40), sl40⟩) (c40 : PySem.W.codeIn K cd40 "need_letters" = true) (k40 : PySem.W.keepIn K (.ref f40) = true)
    {f41 : Addr} {od41 an41 : Option Addr} {sl41 : Array (Option Value)} {oc41 kV41 dc41 pm41 cd41 ct41 : Value}
    (a41 : PySem.W.nsIn K mainGlobals "lacks_from" = some (some (.ref f41))) (l41 : K.lookup f41 = some ⟨oc41, od41, .func (PySem.W.fnOf "lacks_from" "lacks_from" (defArgs s_lacks_from_0) (defBody s_lacks_from_0) (defScope s_lacks_from_0) .none kV41 dc41 pm41 an41 cd41 ct41), sl41⟩) (c41 : PySem.W.codeIn K cd41 "lacks_from" = true) (k41 : PySem.W.keepIn K (.ref f41) = true)
    {f42 : Addr} {od42 an42 : Option Addr} {sl42 : Array (Option Value)} {oc42 kV42 dc42 pm42 cd42 ct42 : Value}
    (a42 : PySem.W.nsIn K mainGlobals "shortest_not_left" = some (some (.ref f42))) (l42 : K.lookup f42 = some ⟨oc42, od42, .func (PySem.W.fnOf "shortest_not_left" "shortest_not_left" (defArgs s_shortest_not_left_1x) (defBody s_shortest_not_left_1x) (defScope s_shortest_not_left_1x) .none kV42 dc42 pm42 an42 cd42 ct42), sl42⟩) (c42 : PySem.W.codeIn K cd42 "shortest_not_left" = true) (k42 : PySem.W.keepIn K (.ref f42) = true)
    {f43 : Addr} {od43 an43 : Option Addr} {sl43 : Array (Option Value)} {oc43 kV43 dc43 pm43 cd43 ct43 : Value}
    (a43 : PySem.W.nsIn K mainGlobals "way_at" = some (some (.ref f43))) (l43 : K.lookup f43 = some ⟨oc43, od43, .func (PySem.W.fnOf "way_at" "way_at" (defArgs s_way_at_0x) (defBody s_way_at_0x) (defScope s_way_at_0x) .none kV43 dc43 pm43 an43 cd43 ct43), sl43⟩) (c43 : PySem.W.codeIn K cd43 "way_at" = true) (k43 : PySem.W.keepIn K (.ref f43) = true)
    {f44 : Addr} {od44 an44 : Option Addr} {sl44 : Array (Option Value)} {oc44 kV44 dc44 pm44 cd44 ct44 : Value}
    (a44 : PySem.W.nsIn K mainGlobals "is_row" = some (some (.ref f44))) (l44 : K.lookup f44 = some ⟨oc44, od44, .func (PySem.W.fnOf "is_row" "is_row" (defArgs s_is_row_0) (defBody s_is_row_0) (defScope s_is_row_0) .none kV44 dc44 pm44 an44 cd44 ct44), sl44⟩) (c44 : PySem.W.codeIn K cd44 "is_row" = true) (k44 : PySem.W.keepIn K (.ref f44) = true)
    {f45 : Addr} {od45 an45 : Option Addr} {sl45 : Array (Option Value)} {oc45 kV45 dc45 pm45 cd45 ct45 : Value}
    (a45 : PySem.W.nsIn K mainGlobals "row_in" = some (some (.ref f45))) (l45 : K.lookup f45 = some ⟨oc45, od45, .func (PySem.W.fnOf "row_in" "row_in" (defArgs s_row_in_0) (defBody s_row_in_0) (defScope s_row_in_0) .none kV45 dc45 pm45 an45 cd45 ct45), sl45⟩) (c45 : PySem.W.codeIn K cd45 "row_in" = true) (k45 : PySem.W.keepIn K (.ref f45) = true)
    {f46 : Addr} {od46 an46 : Option Addr} {sl46 : Array (Option Value)} {oc46 kV46 dc46 pm46 cd46 ct46 : Value}
    (a46 : PySem.W.nsIn K mainGlobals "first_places" = some (some (.ref f46))) (l46 : K.lookup f46 = some ⟨oc46, od46, .func (PySem.W.fnOf "first_places" "first_places" (defArgs s_first_places_0) (defBody s_first_places_0) (defScope s_first_places_0) .none kV46 dc46 pm46 an46 cd46 ct46), sl46⟩) (c46 : PySem.W.codeIn K cd46 "first_places" = true) (k46 : PySem.W.keepIn K (.ref f46) = true)
    {f47 : Addr} {od47 an47 : Option Addr} {sl47 : Array (Option Value)} {oc47 kV47 dc47 pm47 cd47 ct47 : Value}
    (a47 : PySem.W.nsIn K mainGlobals "is_left" = some (some (.ref f47))) (l47 : K.lookup f47 = some ⟨oc47, od47, .func (PySem.W.fnOf "is_left" "is_left" (defArgs s_is_left_0) (defBody s_is_left_0) (defScope s_is_left_0) .none kV47 dc47 pm47 an47 cd47 ct47), sl47⟩) (c47 : PySem.W.codeIn K cd47 "is_left" = true) (k47 : PySem.W.keepIn K (.ref f47) = true)
    {f48 : Addr} {od48 an48 : Option Addr} {sl48 : Array (Option Value)} {oc48 kV48 dc48 pm48 cd48 ct48 : Value}
    (a48 : PySem.W.findIn K (.ref CGrowing) "has" = some (some (.ref f48))) (i48 : PySem.W.isFn K (.ref f48) = true) (l48 : K.lookup f48 = some ⟨oc48, od48, .func (PySem.W.fnOf "has" "Growing.has" (defArgs s_Growing_1_has) (defBody s_Growing_1_has) (defScope s_Growing_1_has) .none kV48 dc48 pm48 an48 cd48 ct48), sl48⟩) (c48 : PySem.W.codeIn K cd48 "Growing.has" = true) (k48 : PySem.W.keepIn K (.ref f48) = true)
    {f49 : Addr} {od49 an49 : Option Addr} {sl49 : Array (Option Value)} {oc49 kV49 dc49 pm49 cd49 ct49 : Value}
    (a49 : PySem.W.nsIn K mainGlobals "place_of" = some (some (.ref f49))) (l49 : K.lookup f49 = some ⟨oc49, od49, .func (PySem.W.fnOf "place_of" "place_of" (defArgs s_place_of_0x) (defBody s_place_of_0x) (defScope s_place_of_0x) .none kV49 dc49 pm49 an49 cd49 ct49), sl49⟩) (c49 : PySem.W.codeIn K cd49 "place_of" = true) (k49 : PySem.W.keepIn K (.ref f49) = true)
    {f50 : Addr} {od50 an50 : Option Addr} {sl50 : Array (Option Value)} {oc50 kV50 dc50 pm50 cd50 ct50 : Value}
    (a50 : PySem.W.findIn K (.ref CDesk) "new_row" = some (some (.ref f50))) (i50 : PySem.W.isFn K (.ref f50) = true) (l50 : K.lookup f50 = some ⟨oc50, od50, .func (PySem.W.fnOf "new_row" "Desk.new_row" (defArgs s_Desk_0_new_row) (defBody s_Desk_0_new_row) (defScope s_Desk_0_new_row) .none kV50 dc50 pm50 an50 cd50 ct50), sl50⟩) (c50 : PySem.W.codeIn K cd50 "Desk.new_row" = true) (k50 : PySem.W.keepIn K (.ref f50) = true)
    {f51 : Addr} {od51 an51 : Option Addr} {sl51 : Array (Option Value)} {oc51 kV51 dc51 pm51 cd51 ct51 : Value}
    (a51 : PySem.W.findIn K (.ref CDesk) "of_a_row" = some (some (.ref f51))) (i51 : PySem.W.isFn K (.ref f51) = true) (l51 : K.lookup f51 = some ⟨oc51, od51, .func (PySem.W.fnOf "of_a_row" "Desk.of_a_row" (defArgs s_Desk_0_of_a_row) (defBody s_Desk_0_of_a_row) (defScope s_Desk_0_of_a_row) .none kV51 dc51 pm51 an51 cd51 ct51), sl51⟩) (c51 : PySem.W.codeIn K cd51 "Desk.of_a_row" = true) (k51 : PySem.W.keepIn K (.ref f51) = true)
    {f52 : Addr} {od52 an52 : Option Addr} {sl52 : Array (Option Value)} {oc52 kV52 dc52 pm52 cd52 ct52 : Value}
    (a52 : PySem.W.findIn K (.ref CDesk) "of_a_word" = some (some (.ref f52))) (i52 : PySem.W.isFn K (.ref f52) = true) (l52 : K.lookup f52 = some ⟨oc52, od52, .func (PySem.W.fnOf "of_a_word" "Desk.of_a_word" (defArgs s_Desk_0_of_a_word) (defBody s_Desk_0_of_a_word) (defScope s_Desk_0_of_a_word) .none kV52 dc52 pm52 an52 cd52 ct52), sl52⟩) (c52 : PySem.W.codeIn K cd52 "Desk.of_a_word" = true) (k52 : PySem.W.keepIn K (.ref f52) = true)
    {f53 : Addr} {od53 an53 : Option Addr} {sl53 : Array (Option Value)} {oc53 kV53 dc53 pm53 cd53 ct53 : Value}
    (a53 : PySem.W.findIn K (.ref CDesk) "say" = some (some (.ref f53))) (i53 : PySem.W.isFn K (.ref f53) = true) (l53 : K.lookup f53 = some ⟨oc53, od53, .func (PySem.W.fnOf "say" "Desk.say" (defArgs s_Desk_0_say) (defBody s_Desk_0_say) (defScope s_Desk_0_say) .none kV53 dc53 pm53 an53 cd53 ct53), sl53⟩) (c53 : PySem.W.codeIn K cd53 "Desk.say" = true) (k53 : PySem.W.keepIn K (.ref f53) = true)
    {f54 : Addr} {od54 an54 : Option Addr} {sl54 : Array (Option Value)} {oc54 kV54 dc54 pm54 cd54 ct54 : Value}
    (a54 : PySem.W.nsIn K mainGlobals "_law_is_number" = some (some (.ref f54))) (l54 : K.lookup f54 = some ⟨oc54, od54, .func (PySem.W.fnOf "_law_is_number" "_law_is_number" (defArgs s_law_is_number_0) (defBody s_law_is_number_0) (defScope s_law_is_number_0) .none kV54 dc54 pm54 an54 cd54 ct54), sl54⟩) (c54 : PySem.W.codeIn K cd54 "_law_is_number" = true) (k54 : PySem.W.keepIn K (.ref f54) = true)
    {f55 : Addr} {od55 an55 : Option Addr} {sl55 : Array (Option Value)} {oc55 kV55 dc55 pm55 cd55 ct55 : Value}
    (a55 : PySem.W.nsIn K mainGlobals "_law_number_due" = some (some (.ref f55))) (l55 : K.lookup f55 = some ⟨oc55, od55, .func (PySem.W.fnOf "_law_number_due" "_law_number_due" (defArgs s_law_number_due_0) (defBody s_law_number_due_0) (defScope s_law_number_due_0) .none kV55 dc55 pm55 an55 cd55 ct55), sl55⟩) (c55 : PySem.W.codeIn K cd55 "_law_number_due" = true) (k55 : PySem.W.keepIn K (.ref f55) = true)
    {f56 : Addr} {od56 an56 : Option Addr} {sl56 : Array (Option Value)} {oc56 kV56 dc56 pm56 cd56 ct56 : Value}
    (a56 : PySem.W.nsIn K mainGlobals "_law_are_small" = some (some (.ref f56))) (l56 : K.lookup f56 = some ⟨oc56, od56, .func (PySem.W.fnOf "_law_are_small" "_law_are_small" (defArgs s_law_are_small_0) (defBody s_law_are_small_0) (defScope s_law_are_small_0) .none kV56 dc56 pm56 an56 cd56 ct56), sl56⟩) (c56 : PySem.W.codeIn K cd56 "_law_are_small" = true) (k56 : PySem.W.keepIn K (.ref f56) = true)
    {f57 : Addr} {od57 an57 : Option Addr} {sl57 : Array (Option Value)} {oc57 kV57 dc57 pm57 cd57 ct57 : Value}
    (a57 : PySem.W.nsIn K mainGlobals "_law_is_row" = some (some (.ref f57))) (l57 : K.lookup f57 = some ⟨oc57, od57, .func (PySem.W.fnOf "_law_is_row" "_law_is_row" (defArgs s_law_is_row_0) (defBody s_law_is_row_0) (defScope s_law_is_row_0) .none kV57 dc57 pm57 an57 cd57 ct57), sl57⟩) (c57 : PySem.W.codeIn K cd57 "_law_is_row" = true) (k57 : PySem.W.keepIn K (.ref f57) = true)
    {f58 : Addr} {od58 an58 : Option Addr} {sl58 : Array (Option Value)} {oc58 kV58 dc58 pm58 cd58 ct58 : Value}
    (a58 : PySem.W.nsIn K mainGlobals "_law_word_due" = some (some (.ref f58))) (l58 : K.lookup f58 = some ⟨oc58, od58, .func (PySem.W.fnOf "_law_word_due" "_law_word_due" (defArgs s_law_word_due_0) (defBody s_law_word_due_0) (defScope s_law_word_due_0) .none kV58 dc58 pm58 an58 cd58 ct58), sl58⟩) (c58 : PySem.W.codeIn K cd58 "_law_word_due" = true) (k58 : PySem.W.keepIn K (.ref f58) = true)
    {f59 : Addr} {od59 an59 : Option Addr} {sl59 : Array (Option Value)} {oc59 kV59 dc59 pm59 cd59 ct59 : Value}
    (a59 : PySem.W.nsIn K mainGlobals "_law_due" = some (some (.ref f59))) (l59 : K.lookup f59 = some ⟨oc59, od59, .func (PySem.W.fnOf "_law_due" "_law_due" (defArgs s_law_due_7) (defBody s_law_due_7) (defScope s_law_due_7) .none kV59 dc59 pm59 an59 cd59 ct59), sl59⟩) (c59 : PySem.W.codeIn K cd59 "_law_due" = true) (k59 : PySem.W.keepIn K (.ref f59) = true)
    {f60 : Addr} {od60 an60 : Option Addr} {sl60 : Array (Option Value)} {oc60 kV60 dc60 pm60 cd60 ct60 : Value}
    (a60 : PySem.W.nsIn K mainGlobals "_law_met" = some (some (.ref f60))) (l60 : K.lookup f60 = some ⟨oc60, od60, .func (PySem.W.fnOf "_law_met" "_law_met" (defArgs s_law_met_0) (defBody s_law_met_0) (defScope s_law_met_0) .none kV60 dc60 pm60 an60 cd60 ct60), sl60⟩) (c60 : PySem.W.codeIn K cd60 "_law_met" = true) (k60 : PySem.W.keepIn K (.ref f60) = true)
    {f61 : Addr} {od61 an61 : Option Addr} {sl61 : Array (Option Value)} {oc61 kV61 dc61 pm61 cd61 ct61 : Value}
    (a61 : PySem.W.nsIn K mainGlobals "_law_shown" = some (some (.ref f61))) (l61 : K.lookup f61 = some ⟨oc61, od61, .func (PySem.W.fnOf "_law_shown" "_law_shown" (defArgs s_law_shown_2) (defBody s_law_shown_2) (defScope s_law_shown_2) .none kV61 dc61 pm61 an61 cd61 ct61), sl61⟩) (c61 : PySem.W.codeIn K cd61 "_law_shown" = true) (k61 : PySem.W.keepIn K (.ref f61) = true)
    {f62 : Addr} {od62 an62 : Option Addr} {sl62 : Array (Option Value)} {oc62 kV62 dc62 pm62 cd62 ct62 : Value}
    (a62 : PySem.W.nsIn K mainGlobals "_law_things_right" = some (some (.ref f62))) (l62 : K.lookup f62 = some ⟨oc62, od62, .func (PySem.W.fnOf "_law_things_right" "_law_things_right" (defArgs s_law_things_right_0) (defBody s_law_things_right_0) (defScope s_law_things_right_0) .none kV62 dc62 pm62 an62 cd62 ct62), sl62⟩) (c62 : PySem.W.codeIn K cd62 "_law_things_right" = true) (k62 : PySem.W.keepIn K (.ref f62) = true)
    {f63 : Addr} {od63 an63 : Option Addr} {sl63 : Array (Option Value)} {oc63 kV63 dc63 pm63 cd63 ct63 : Value}
    (a63 : PySem.W.nsIn K mainGlobals "law" = some (some (.ref f63))) (l63 : K.lookup f63 = some ⟨oc63, od63, .func (PySem.W.fnOf "law" "law" (defArgs s_law_k52) (defBody s_law_k52) (defScope s_law_k52) .none kV63 dc63 pm63 an63 cd63 ct63), sl63⟩) (c63 : PySem.W.codeIn K cd63 "law" = true) (k63 : PySem.W.keepIn K (.ref f63) = true)
    (z0 : PySem.W.nsIn K mainGlobals "ValueError" = some none)
    (z1 : PySem.W.nsIn K mainGlobals "all" = some none)
    (z2 : PySem.W.nsIn K mainGlobals "bool" = some none)
    (z3 : PySem.W.nsIn K mainGlobals "dict" = some none)
    (z4 : PySem.W.nsIn K mainGlobals "enumerate" = some none)
    (z5 : PySem.W.nsIn K mainGlobals "int" = some none)
    (z6 : PySem.W.nsIn K mainGlobals "isinstance" = some none)
    (z7 : PySem.W.nsIn K mainGlobals "len" = some none)
    (z8 : PySem.W.nsIn K mainGlobals "list" = some none)
    (z9 : PySem.W.nsIn K mainGlobals "max" = some none)
    (z10 : PySem.W.nsIn K mainGlobals "min" = some none)
    (z11 : PySem.W.nsIn K mainGlobals "range" = some none)
    (z12 : PySem.W.nsIn K mainGlobals "set" = some none)
    (z13 : PySem.W.nsIn K mainGlobals "sorted" = some none)
    (z14 : PySem.W.nsIn K mainGlobals "str" = some none)
    (z15 : PySem.W.nsIn K mainGlobals "sum" = some none)
    (z16 : PySem.W.nsIn K mainGlobals "zip" = some none)
    {ty0 : Tok} (y0 : PySem.W.nsIn K mainGlobals "FIGURES" = some (some (.str (S [48, 49, 50, 51, 52, 53, 54, 55, 56, 57]) ty0)))
    {tu1 : Addr} {odHEADS : Option Addr} {slHEADS : Array (Option Value)} {nnHEADS : Nat} {tk1_0 : Tok} {tk1_1 : Tok} {tk1_2 : Tok} {tk1_3 : Tok} {tk1_4 : Tok} {tk1_5 : Tok} {tk1_6 : Tok} {tk1_7 : Tok} {tk1_8 : Tok} (y1 : PySem.W.nsIn K mainGlobals "HEADS" = some (some (.ref tu1))) (u1 : K.lookup tu1 = some ⟨.type "tuple", odHEADS, .seq #[.str (S [114, 111, 119]) tk1_0, .str (S [111, 116, 104, 101, 114]) tk1_1, .str (S [112, 117, 116]) tk1_2, .str (S [108, 101, 102, 116]) tk1_3, .str (S [97, 116]) tk1_4, .str (S [112, 108, 97, 99, 101]) tk1_5, .str (S [119, 97, 121]) tk1_6, .str (S [115, 104, 111, 114, 116]) tk1_7, .str (S [97, 114, 99, 104, 101, 115]) tk1_8] nnHEADS, slHEADS⟩)
    {ty2 : Tok} (y2 : PySem.W.nsIn K mainGlobals "LETTERS" = some (some (.str (S [97, 98, 99, 100, 101, 102, 103, 104, 105, 106, 107, 108, 109, 110, 111, 112, 113, 114, 115, 116, 117, 118, 119, 120, 121, 122]) ty2)))
    {ty3 : Tok} (y3 : PySem.W.nsIn K mainGlobals "MOST_FIGURES" = some (some (.int 30 ty3)))
    {ty4 : Tok} (y4 : PySem.W.nsIn K mainGlobals "MOST_LETTERS_desk" = some (some (.int 80 ty4)))
    {ty5 : Tok} (y5 : PySem.W.nsIn K mainGlobals "MOST_LETTERS_growing" = some (some (.int 80 ty5)))
    {ty6 : Tok} (y6 : PySem.W.nsIn K mainGlobals "SMALL_arches" = some (some (.str (S [97, 98, 99, 100, 101, 102, 103, 104, 105, 106, 107, 108, 109, 110, 111, 112, 113, 114, 115, 116, 117, 118, 119, 120, 121, 122]) ty6)))
    {ty7 : Tok} (y7 : PySem.W.nsIn K mainGlobals "SMALL_growing" = some (some (.str (S [97, 98, 99, 100, 101, 102, 103, 104, 105, 106, 107, 108, 109, 110, 111, 112, 113, 114, 115, 116, 117, 118, 119, 120, 121, 122]) ty7)))
    {ty8 : Tok} (y8 : PySem.W.nsIn K mainGlobals "SMALL_shortest" = some (some (.str (S [97, 98, 99, 100, 101, 102, 103, 104, 105, 106, 107, 108, 109, 110, 111, 112, 113, 114, 115, 116, 117, 118, 119, 120, 121, 122]) ty8))) :
    ∃ fd : FuncData, (∀ (s : Shared) (v : Value), BindsTo s fd ⟨[v], []⟩ [("script", v)]) ∧ ∀ base : Heap, K.In base → base.Ns mainGlobals mg → FnOk l.prog w K mg base CX0 9 fa fd ["script"] (sp_law_k52 K) := by
  have e := hfa.symm.trans (PySem.W.mg_of X G a63)
  cases e
  have F0 := fun_mk (st := s_Growing_1_init) l0 c0 k0
  have F1 := fun_mk (st := s_Desk_0_init) l1 c1 k1
  have F2 := fun_mk (st := s_law_take_1) l2 c2 k2
  have F3 := fun_mk (st := s_law_deck_0) l3 c3 k3
  have F4 := fun_mk (st := s_law_some_number_0) l4 c4 k4
  have F5 := fun_mk (st := s_law_some_row_0) l5 c5 k5
  have F6 := fun_mk (st := s_law_some_letters_1) l6 c6 k6
  have F7 := fun_mk (st := s_law_some_words_0) l7 c7 k7
  have F8 := fun_mk (st := s_Growing_1_row) l8 c8 k8
  have F9 := fun_mk (st := s_next_tables_0) l9 c9 k9
  have F10 := fun_mk (st := s_put_on_0) l10 c10 k10
  have F11 := fun_mk (st := s_lengths_from_0) l11 c11 k11
  have F12 := fun_mk (st := s_is_whole_0x) l12 c12 k12
  have F13 := fun_mk (st := s_many_of_0) l13 c13 k13
  have F14 := fun_mk (st := s_of_length_at_0x) l14 c14 k14
  have F15 := fun_mk (st := s_read_number_0n) l15 c15 k15
  have F16 := fun_mk (st := s_number_in_0) l16 c16 k16
  have F17 := fun_mk (st := s_shown_0) l17 c17 k17
  have F18 := fun_mk (st := s_next_at_0) l18 c18 k18
  have F19 := fun_mk (st := s_goings_on_0) l19 c19 k19
  have F20 := fun_mk (st := s_many_common_0) l20 c20 k20
  have F21 := fun_mk (st := s_longest_from_0) l21 c21 k21
  have F22 := fun_mk (st := s_longest_common_0) l22 c22 k22
  have F23 := fun_mk (st := s_Growing_1_undo) l23 c23 k23
  have F24 := fun_mk (st := s_counts_from_0) l24 c24 k24
  have F25 := fun_mk (st := s_many_left_0) l25 c25 k25
  have F26 := fun_mk (st := s_Growing_1_many) l26 c26 k26
  have F27 := fun_mk (st := s_by_lengths_0) l27 c27 k27
  have F28 := fun_mk (st := s_Growing_1_lengths) l28 c28 k28
  have F29 := fun_mk (st := s_show_list_0) l29 c29 k29
  have F30 := fun_mk (st := s_next_of_0) l30 c30 k30
  have F31 := fun_mk (st := s_parts_0) l31 c31 k31
  have F32 := fun_mk (st := s_ways_from_0) l32 c32 k32
  have F33 := fun_mk (st := s_many_ways_0) l33 c33 k33
  have F34 := fun_mk (st := s_Desk_0_alone) l34 c34 k34
  have F35 := fun_mk (st := s_need_letters_2x) l35 c35 k35
  have F36 := fun_mk (st := s_has_all_0) l36 c36 k36
  have F37 := fun_mk (st := s_arches_0x) l37 c37 k37
  have F38 := fun_mk (st := s_Growing_1_putx) l38 c38 k38
  have F39 := fun_mk (st := s_left_at_0x) l39 c39 k39
  have F40 := fun_mk (st := s_need_letters_1x) l40 c40 k40
  have F41 := fun_mk (st := s_lacks_from_0) l41 c41 k41
  have F42 := fun_mk (st := s_shortest_not_left_1x) l42 c42 k42
  have F43 := fun_mk (st := s_way_at_0x) l43 c43 k43
  have F44 := fun_mk (st := s_is_row_0) l44 c44 k44
  have F45 := fun_mk (st := s_row_in_0) l45 c45 k45
  have F46 := fun_mk (st := s_first_places_0) l46 c46 k46
  have F47 := fun_mk (st := s_is_left_0) l47 c47 k47
  have F48 := fun_mk (st := s_Growing_1_has) l48 c48 k48
  have F49 := fun_mk (st := s_place_of_0x) l49 c49 k49
  have F50 := fun_mk (st := s_Desk_0_new_row) l50 c50 k50
  have F51 := fun_mk (st := s_Desk_0_of_a_row) l51 c51 k51
  have F52 := fun_mk (st := s_Desk_0_of_a_word) l52 c52 k52
  have F53 := fun_mk (st := s_Desk_0_say) l53 c53 k53
  have F54 := fun_mk (st := s_law_is_number_0) l54 c54 k54
  have F55 := fun_mk (st := s_law_number_due_0) l55 c55 k55
  have F56 := fun_mk (st := s_law_are_small_0) l56 c56 k56
  have F57 := fun_mk (st := s_law_is_row_0) l57 c57 k57
  have F58 := fun_mk (st := s_law_word_due_0) l58 c58 k58
  have F59 := fun_mk (st := s_law_due_7) l59 c59 k59
  have F60 := fun_mk (st := s_law_met_0) l60 c60 k60
  have F61 := fun_mk (st := s_law_shown_2) l61 c61 k61
  have F62 := fun_mk (st := s_law_things_right_0) l62 c62 k62
  have F63 := fun_mk (st := s_law_k52) l63 c63 k63
  let er : Nat → Addr := fun n => match n with | 0 => e0 | 1 => e1 | 2 => e2 | 3 => e3 | 4 => e4 | 5 => e5 | _ => e6
  let T : Txt K mg := {
    C_Desk := CDesk,
    g_Desk := PySem.W.mg_of X G aCDesk,
    kl_Desk := (Kl.more nFDesk_grown (Kl.of1 ⟨pgDesk, hdDesk, poDesk, saDesk⟩ nFDesk_beside)),
    C_Growing := CGrowing,
    g_Growing := PySem.W.mg_of X G aCGrowing,
    kl_Growing := (Kl.of1 ⟨pgGrowing, hdGrowing, poGrowing, saGrowing⟩ nFGrowing_letters),
    er := er,
    e_LeaveError := PySem.W.mg_of X G ae0,
    e_NoCommand := PySem.W.mg_of X G ae1,
    e_NoLetter := PySem.W.mg_of X G ae2,
    e_NoLetters := PySem.W.mg_of X G ae3,
    e_NoPlace := PySem.W.mg_of X G ae4,
    e_NoRow := PySem.W.mg_of X G ae5,
    e_NoText := PySem.W.mg_of X G ae6,
    ER_1 := ⟨xe1, ke1, be1, te1, ⟨ga1, gt1, be1, de1, ca1, spe, tke, me1⟩, PySem.W.exm_ref be0 de0 te0 le1, kit_vE ve1, kk_of (kit_own ie1 te1 ss1_1 ss1_1) (kit_own ie2 te2 ss1_2 ss1_1) (kit_own ie3 te3 ss1_3 ss1_1) (kit_own ie4 te4 ss1_4 ss1_1) (kit_own ie5 te5 ss1_5 ss1_1) (kit_own ie6 te6 ss1_6 ss1_1)⟩,
    ER_2 := ⟨xe2, ke2, be2, te2, ⟨ga2, gt2, be2, de2, ca2, spe, tke, me2⟩, PySem.W.exm_ref be0 de0 te0 le2, kit_vE ve2, kk_of (kit_own ie1 te1 ss2_1 ss2_2) (kit_own ie2 te2 ss2_2 ss2_2) (kit_own ie3 te3 ss2_3 ss2_2) (kit_own ie4 te4 ss2_4 ss2_2) (kit_own ie5 te5 ss2_5 ss2_2) (kit_own ie6 te6 ss2_6 ss2_2)⟩,
    ER_3 := ⟨xe3, ke3, be3, te3, ⟨ga3, gt3, be3, de3, ca3, spe, tke, me3⟩, PySem.W.exm_ref be0 de0 te0 le3, kit_vE ve3, kk_of (kit_own ie1 te1 ss3_1 ss3_3) (kit_own ie2 te2 ss3_2 ss3_3) (kit_own ie3 te3 ss3_3 ss3_3) (kit_own ie4 te4 ss3_4 ss3_3) (kit_own ie5 te5 ss3_5 ss3_3) (kit_own ie6 te6 ss3_6 ss3_3)⟩,
    ER_4 := ⟨xe4, ke4, be4, te4, ⟨ga4, gt4, be4, de4, ca4, spe, tke, me4⟩, PySem.W.exm_ref be0 de0 te0 le4, kit_vE ve4, kk_of (kit_own ie1 te1 ss4_1 ss4_4) (kit_own ie2 te2 ss4_2 ss4_4) (kit_own ie3 te3 ss4_3 ss4_4) (kit_own ie4 te4 ss4_4 ss4_4) (kit_own ie5 te5 ss4_5 ss4_4) (kit_own ie6 te6 ss4_6 ss4_4)⟩,
    ER_5 := ⟨xe5, ke5, be5, te5, ⟨ga5, gt5, be5, de5, ca5, spe, tke, me5⟩, PySem.W.exm_ref be0 de0 te0 le5, kit_vE ve5, kk_of (kit_own ie1 te1 ss5_1 ss5_5) (kit_own ie2 te2 ss5_2 ss5_5) (kit_own ie3 te3 ss5_3 ss5_5) (kit_own ie4 te4 ss5_4 ss5_5) (kit_own ie5 te5 ss5_5 ss5_5) (kit_own ie6 te6 ss5_6 ss5_5)⟩,
    ER_6 := ⟨xe6, ke6, be6, te6, ⟨ga6, gt6, be6, de6, ca6, spe, tke, me6⟩, PySem.W.exm_ref be0 de0 te0 le6, kit_vE ve6, kk_of (kit_own ie1 te1 ss6_1 ss6_6) (kit_own ie2 te2 ss6_2 ss6_6) (kit_own ie3 te3 ss6_3 ss6_6) (kit_own ie4 te4 ss6_4 ss6_6) (kit_own ie5 te5 ss6_5 ss6_6) (kit_own ie6 te6 ss6_6 ss6_6)⟩,
    f_Growing_1_init := f0,
    fd_Growing_1_init := _,
    F_Growing_1_init := F0,
    M_Growing := ⟨mkGrowing, a0, i0, kcGrowing⟩,
    b_Growing_1_init := F0.binds (ps := ["self"]) fun _ _ _ _ _ _ us hl => match us, hl with | [_], _ => rfl,
    f_Desk_0_init := f1,
    fd_Desk_0_init := _,
    F_Desk_0_init := F1,
    M_Desk := ⟨mkDesk, a1, i1, kcDesk⟩,
    b_Desk_0_init := F1.binds (ps := ["self"]) fun _ _ _ _ _ _ us hl => match us, hl with | [_], _ => rfl,
    f_law_take_1 := f2,
    fd_law_take_1 := _,
    F_law_take_1 := F2,
    a_law_take_1 := PySem.W.mg_of X G a2,
    b_law_take_1 := F2.binds (ps := ["deck", "many"]) fun _ _ _ _ _ _ us hl => match us, hl with | [_, _], _ => rfl,
    f_law_deck_0 := f3,
    fd_law_deck_0 := _,
    F_law_deck_0 := F3,
    a_law_deck_0 := PySem.W.mg_of X G a3,
    b_law_deck_0 := F3.binds (ps := ["cell", "k"]) fun _ _ _ _ _ _ us hl => match us, hl with | [_, _], _ => rfl,
    f_law_some_number_0 := f4,
    fd_law_some_number_0 := _,
    F_law_some_number_0 := F4,
    a_law_some_number_0 := PySem.W.mg_of X G a4,
    b_law_some_number_0 := F4.binds (ps := ["deck"]) fun _ _ _ _ _ _ us hl => match us, hl with | [_], _ => rfl,
    f_law_some_row_0 := f5,
    fd_law_some_row_0 := _,
    F_law_some_row_0 := F5,
    a_law_some_row_0 := PySem.W.mg_of X G a5,
    b_law_some_row_0 := F5.binds (ps := ["deck"]) fun _ _ _ _ _ _ us hl => match us, hl with | [_], _ => rfl,
    f_law_some_letters_1 := f6,
    fd_law_some_letters_1 := _,
    F_law_some_letters_1 := F6,
    a_law_some_letters_1 := PySem.W.mg_of X G a6,
    b_law_some_letters_1 := F6.binds (ps := ["deck"]) fun _ _ _ _ _ _ us hl => match us, hl with | [_], _ => rfl,
    f_law_some_words_0 := f7,
    fd_law_some_words_0 := _,
    F_law_some_words_0 := F7,
    a_law_some_words_0 := PySem.W.mg_of X G a7,
    b_law_some_words_0 := F7.binds (ps := ["cell"]) fun _ _ _ _ _ _ us hl => match us, hl with | [_], _ => rfl,
    f_Growing_1_row := f8,
    fd_Growing_1_row := _,
    F_Growing_1_row := F8,
    m_Growing_1_row := ⟨a8, i8, k8⟩,
    b_Growing_1_row := F8.binds (ps := ["self"]) fun _ _ _ _ _ _ us hl => match us, hl with | [_], _ => rfl,
    f_next_tables_0 := f9,
    fd_next_tables_0 := _,
    F_next_tables_0 := F9,
    a_next_tables_0 := PySem.W.mg_of X G a9,
    b_next_tables_0 := F9.binds (ps := ["row"]) fun _ _ _ _ _ _ us hl => match us, hl with | [_], _ => rfl,
    f_put_on_0 := f10,
    fd_put_on_0 := _,
    F_put_on_0 := F10,
    a_put_on_0 := PySem.W.mg_of X G a10,
    b_put_on_0 := F10.binds (ps := ["lengths", "others", "lost"]) fun _ _ _ _ _ _ us hl => match us, hl with | [_, _, _], _ => rfl,
    f_lengths_from_0 := f11,
    fd_lengths_from_0 := _,
    F_lengths_from_0 := F11,
    a_lengths_from_0 := PySem.W.mg_of X G a11,
    b_lengths_from_0 := F11.binds (ps := ["row"]) fun _ _ _ _ _ _ us hl => match us, hl with | [_], _ => rfl,
    f_is_whole_0x := f12,
    fd_is_whole_0x := _,
    F_is_whole_0x := F12,
    a_is_whole_0x := PySem.W.mg_of X G a12,
    b_is_whole_0x := F12.binds (ps := ["thing"]) fun _ _ _ _ _ _ us hl => match us, hl with | [_], _ => rfl,
    f_many_of_0 := f13,
    fd_many_of_0 := _,
    F_many_of_0 := F13,
    a_many_of_0 := PySem.W.mg_of X G a13,
    b_many_of_0 := F13.binds (ps := ["tables", "begin", "length"]) fun _ _ _ _ _ _ us hl => match us, hl with | [_, _, _], _ => rfl,
    f_of_length_at_0x := f14,
    fd_of_length_at_0x := _,
    F_of_length_at_0x := F14,
    a_of_length_at_0x := PySem.W.mg_of X G a14,
    b_of_length_at_0x := F14.binds (ps := ["row", "length", "place"]) fun _ _ _ _ _ _ us hl => match us, hl with | [_, _, _], _ => rfl,
    f_read_number_0n := f15,
    fd_read_number_0n := _,
    F_read_number_0n := F15,
    a_read_number_0n := PySem.W.mg_of X G a15,
    b_read_number_0n := F15.binds (ps := ["word"]) fun _ _ _ _ _ _ us hl => match us, hl with | [_], _ => rfl,
    f_number_in_0 := f16,
    fd_number_in_0 := _,
    F_number_in_0 := F16,
    a_number_in_0 := PySem.W.mg_of X G a16,
    b_number_in_0 := F16.binds (ps := ["word"]) fun _ _ _ _ _ _ us hl => match us, hl with | [_], _ => rfl,
    f_shown_0 := f17,
    fd_shown_0 := _,
    F_shown_0 := F17,
    a_shown_0 := PySem.W.mg_of X G a17,
    b_shown_0 := F17.binds (ps := ["row"]) fun _ _ _ _ _ _ us hl => match us, hl with | [_], _ => rfl,
    f_next_at_0 := f18,
    fd_next_at_0 := _,
    F_next_at_0 := F18,
    a_next_at_0 := PySem.W.mg_of X G a18,
    b_next_at_0 := F18.binds (ps := ["row", "place", "letter"]) fun _ _ _ _ _ _ us hl => match us, hl with | [_, _, _], _ => rfl,
    f_goings_on_0 := f19,
    fd_goings_on_0 := _,
    F_goings_on_0 := F19,
    a_goings_on_0 := PySem.W.mg_of X G a19,
    b_goings_on_0 := F19.binds (ps := ["one", "other"]) fun _ _ _ _ _ _ us hl => match us, hl with | [_, _], _ => rfl,
    f_many_common_0 := f20,
    fd_many_common_0 := _,
    F_many_common_0 := F20,
    a_many_common_0 := PySem.W.mg_of X G a20,
    b_many_common_0 := F20.binds (ps := ["one", "other"]) fun _ _ _ _ _ _ us hl => match us, hl with | [_, _], _ => rfl,
    f_longest_from_0 := f21,
    fd_longest_from_0 := _,
    F_longest_from_0 := F21,
    a_longest_from_0 := PySem.W.mg_of X G a21,
    b_longest_from_0 := F21.binds (ps := ["one", "other"]) fun _ _ _ _ _ _ us hl => match us, hl with | [_, _], _ => rfl,
    f_longest_common_0 := f22,
    fd_longest_common_0 := _,
    F_longest_common_0 := F22,
    a_longest_common_0 := PySem.W.mg_of X G a22,
    b_longest_common_0 := F22.binds (ps := ["one", "other"]) fun _ _ _ _ _ _ us hl => match us, hl with | [_, _], _ => rfl,
    f_Growing_1_undo := f23,
    fd_Growing_1_undo := _,
    F_Growing_1_undo := F23,
    m_Growing_1_undo := ⟨a23, i23, k23⟩,
    b_Growing_1_undo := F23.binds (ps := ["self"]) fun _ _ _ _ _ _ us hl => match us, hl with | [_], _ => rfl,
    f_counts_from_0 := f24,
    fd_counts_from_0 := _,
    F_counts_from_0 := F24,
    a_counts_from_0 := PySem.W.mg_of X G a24,
    b_counts_from_0 := F24.binds (ps := ["row"]) fun _ _ _ _ _ _ us hl => match us, hl with | [_], _ => rfl,
    f_many_left_0 := f25,
    fd_many_left_0 := _,
    F_many_left_0 := F25,
    a_many_left_0 := PySem.W.mg_of X G a25,
    b_many_left_0 := F25.binds (ps := ["row"]) fun _ _ _ _ _ _ us hl => match us, hl with | [_], _ => rfl,
    f_Growing_1_many := f26,
    fd_Growing_1_many := _,
    F_Growing_1_many := F26,
    m_Growing_1_many := ⟨a26, i26, k26⟩,
    b_Growing_1_many := F26.binds (ps := ["self"]) fun _ _ _ _ _ _ us hl => match us, hl with | [_], _ => rfl,
    f_by_lengths_0 := f27,
    fd_by_lengths_0 := _,
    F_by_lengths_0 := F27,
    a_by_lengths_0 := PySem.W.mg_of X G a27,
    b_by_lengths_0 := F27.binds (ps := ["row"]) fun _ _ _ _ _ _ us hl => match us, hl with | [_], _ => rfl,
    f_Growing_1_lengths := f28,
    fd_Growing_1_lengths := _,
    F_Growing_1_lengths := F28,
    m_Growing_1_lengths := ⟨a28, i28, k28⟩,
    b_Growing_1_lengths := F28.binds (ps := ["self"]) fun _ _ _ _ _ _ us hl => match us, hl with | [_], _ => rfl,
    f_show_list_0 := f29,
    fd_show_list_0 := _,
    F_show_list_0 := F29,
    a_show_list_0 := PySem.W.mg_of X G a29,
    b_show_list_0 := F29.binds (ps := ["numbers"]) fun _ _ _ _ _ _ us hl => match us, hl with | [_], _ => rfl,
    f_next_of_0 := f30,
    fd_next_of_0 := _,
    F_next_of_0 := F30,
    a_next_of_0 := PySem.W.mg_of X G a30,
    b_next_of_0 := F30.binds (ps := ["word", "place", "letter"]) fun _ _ _ _ _ _ us hl => match us, hl with | [_, _, _], _ => rfl,
    f_parts_0 := f31,
    fd_parts_0 := _,
    F_parts_0 := F31,
    a_parts_0 := PySem.W.mg_of X G a31,
    b_parts_0 := F31.binds (ps := ["one", "other"]) fun _ _ _ _ _ _ us hl => match us, hl with | [_, _], _ => rfl,
    f_ways_from_0 := f32,
    fd_ways_from_0 := _,
    F_ways_from_0 := F32,
    a_ways_from_0 := PySem.W.mg_of X G a32,
    b_ways_from_0 := F32.binds (ps := ["row", "other"]) fun _ _ _ _ _ _ us hl => match us, hl with | [_, _], _ => rfl,
    f_many_ways_0 := f33,
    fd_many_ways_0 := _,
    F_many_ways_0 := F33,
    a_many_ways_0 := PySem.W.mg_of X G a33,
    b_many_ways_0 := F33.binds (ps := ["row", "other"]) fun _ _ _ _ _ _ us hl => match us, hl with | [_, _], _ => rfl,
    f_Desk_0_alone := f34,
    fd_Desk_0_alone := _,
    F_Desk_0_alone := F34,
    m_Desk_0_alone := ⟨a34, i34, k34⟩,
    b_Desk_0_alone := F34.binds (ps := ["self", "words"]) fun _ _ _ _ _ _ us hl => match us, hl with | [_, _], _ => rfl,
    f_need_letters_2x := f35,
    fd_need_letters_2x := _,
    F_need_letters_2x := F35,
    a_need_letters_2x := PySem.W.mg_of X G a35,
    b_need_letters_2x := F35.binds (ps := ["thing"]) fun _ _ _ _ _ _ us hl => match us, hl with | [_], _ => rfl,
    f_has_all_0 := f36,
    fd_has_all_0 := _,
    F_has_all_0 := F36,
    a_has_all_0 := PySem.W.mg_of X G a36,
    b_has_all_0 := F36.binds (ps := ["word", "letters"]) fun _ _ _ _ _ _ us hl => match us, hl with | [_, _], _ => rfl,
    f_arches_0x := f37,
    fd_arches_0x := _,
    F_arches_0x := F37,
    a_arches_0x := PySem.W.mg_of X G a37,
    b_arches_0x := F37.binds (ps := ["row", "letters"]) fun _ _ _ _ _ _ us hl => match us, hl with | [_, _], _ => rfl,
    f_Growing_1_putx := f38,
    fd_Growing_1_putx := _,
    F_Growing_1_putx := F38,
    m_Growing_1_putx := ⟨a38, i38, k38⟩,
    b_Growing_1_putx := F38.binds (ps := ["self", "letter"]) fun _ _ _ _ _ _ us hl => match us, hl with | [_, _], _ => rfl,
    f_left_at_0x := f39,
    fd_left_at_0x := _,
    F_left_at_0x := F39,
    a_left_at_0x := PySem.W.mg_of X G a39,
    b_left_at_0x := F39.binds (ps := ["row", "place"]) fun _ _ _ _ _ _ us hl => match us, hl with | [_, _], _ => rfl,
    f_need_letters_1x := f40,
    fd_need_letters_1x := _,
    F_need_letters_1x := F40,
    a_need_letters_1x := PySem.W.mg_of X G a40,
    b_need_letters_1x := F40.binds (ps := ["thing"]) fun _ _ _ _ _ _ us hl => match us, hl with | [_], _ => rfl,
    f_lacks_from_0 := f41,
    fd_lacks_from_0 := _,
    F_lacks_from_0 := F41,
    a_lacks_from_0 := PySem.W.mg_of X G a41,
    b_lacks_from_0 := F41.binds (ps := ["row", "letters"]) fun _ _ _ _ _ _ us hl => match us, hl with | [_, _], _ => rfl,
    f_shortest_not_left_1x := f42,
    fd_shortest_not_left_1x := _,
    F_shortest_not_left_1x := F42,
    a_shortest_not_left_1x := PySem.W.mg_of X G a42,
    b_shortest_not_left_1x := F42.binds (ps := ["row", "letters"]) fun _ _ _ _ _ _ us hl => match us, hl with | [_, _], _ => rfl,
    f_way_at_0x := f43,
    fd_way_at_0x := _,
    F_way_at_0x := F43,
    a_way_at_0x := PySem.W.mg_of X G a43,
    b_way_at_0x := F43.binds (ps := ["row", "other", "place"]) fun _ _ _ _ _ _ us hl => match us, hl with | [_, _, _], _ => rfl,
    f_is_row_0 := f44,
    fd_is_row_0 := _,
    F_is_row_0 := F44,
    a_is_row_0 := PySem.W.mg_of X G a44,
    b_is_row_0 := F44.binds (ps := ["thing"]) fun _ _ _ _ _ _ us hl => match us, hl with | [_], _ => rfl,
    f_row_in_0 := f45,
    fd_row_in_0 := _,
    F_row_in_0 := F45,
    a_row_in_0 := PySem.W.mg_of X G a45,
    b_row_in_0 := F45.binds (ps := ["word"]) fun _ _ _ _ _ _ us hl => match us, hl with | [_], _ => rfl,
    f_first_places_0 := f46,
    fd_first_places_0 := _,
    F_first_places_0 := F46,
    a_first_places_0 := PySem.W.mg_of X G a46,
    b_first_places_0 := F46.binds (ps := ["row", "other"]) fun _ _ _ _ _ _ us hl => match us, hl with | [_, _], _ => rfl,
    f_is_left_0 := f47,
    fd_is_left_0 := _,
    F_is_left_0 := F47,
    a_is_left_0 := PySem.W.mg_of X G a47,
    b_is_left_0 := F47.binds (ps := ["row", "thing"]) fun _ _ _ _ _ _ us hl => match us, hl with | [_, _], _ => rfl,
    f_Growing_1_has := f48,
    fd_Growing_1_has := _,
    F_Growing_1_has := F48,
    m_Growing_1_has := ⟨a48, i48, k48⟩,
    b_Growing_1_has := F48.binds (ps := ["self", "thing"]) fun _ _ _ _ _ _ us hl => match us, hl with | [_, _], _ => rfl,
    f_place_of_0x := f49,
    fd_place_of_0x := _,
    F_place_of_0x := F49,
    a_place_of_0x := PySem.W.mg_of X G a49,
    b_place_of_0x := F49.binds (ps := ["row", "thing"]) fun _ _ _ _ _ _ us hl => match us, hl with | [_, _], _ => rfl,
    f_Desk_0_new_row := f50,
    fd_Desk_0_new_row := _,
    F_Desk_0_new_row := F50,
    m_Desk_0_new_row := ⟨a50, i50, k50⟩,
    b_Desk_0_new_row := F50.binds (ps := ["self", "row"]) fun _ _ _ _ _ _ us hl => match us, hl with | [_, _], _ => rfl,
    f_Desk_0_of_a_row := f51,
    fd_Desk_0_of_a_row := _,
    F_Desk_0_of_a_row := F51,
    m_Desk_0_of_a_row := ⟨a51, i51, k51⟩,
    b_Desk_0_of_a_row := F51.binds (ps := ["self", "head", "row"]) fun _ _ _ _ _ _ us hl => match us, hl with | [_, _, _], _ => rfl,
    f_Desk_0_of_a_word := f52,
    fd_Desk_0_of_a_word := _,
    F_Desk_0_of_a_word := F52,
    m_Desk_0_of_a_word := ⟨a52, i52, k52⟩,
    b_Desk_0_of_a_word := F52.binds (ps := ["self", "head", "word"]) fun _ _ _ _ _ _ us hl => match us, hl with | [_, _, _], _ => rfl,
    f_Desk_0_say := f53,
    fd_Desk_0_say := _,
    F_Desk_0_say := F53,
    m_Desk_0_say := ⟨a53, i53, k53⟩,
    b_Desk_0_say := F53.binds (ps := ["self", "words"]) fun _ _ _ _ _ _ us hl => match us, hl with | [_, _], _ => rfl,
    f_law_is_number_0 := f54,
    fd_law_is_number_0 := _,
    F_law_is_number_0 := F54,
    a_law_is_number_0 := PySem.W.mg_of X G a54,
    b_law_is_number_0 := F54.binds (ps := ["word"]) fun _ _ _ _ _ _ us hl => match us, hl with | [_], _ => rfl,
    f_law_number_due_0 := f55,
    fd_law_number_due_0 := _,
    F_law_number_due_0 := F55,
    a_law_number_due_0 := PySem.W.mg_of X G a55,
    b_law_number_due_0 := F55.binds (ps := ["desk", "head", "numbers"]) fun _ _ _ _ _ _ us hl => match us, hl with | [_, _, _], _ => rfl,
    f_law_are_small_0 := f56,
    fd_law_are_small_0 := _,
    F_law_are_small_0 := F56,
    a_law_are_small_0 := PySem.W.mg_of X G a56,
    b_law_are_small_0 := F56.binds (ps := ["word"]) fun _ _ _ _ _ _ us hl => match us, hl with | [_], _ => rfl,
    f_law_is_row_0 := f57,
    fd_law_is_row_0 := _,
    F_law_is_row_0 := F57,
    a_law_is_row_0 := PySem.W.mg_of X G a57,
    b_law_is_row_0 := F57.binds (ps := ["word"]) fun _ _ _ _ _ _ us hl => match us, hl with | [_], _ => rfl,
    f_law_word_due_0 := f58,
    fd_law_word_due_0 := _,
    F_law_word_due_0 := F58,
    a_law_word_due_0 := PySem.W.mg_of X G a58,
    b_law_word_due_0 := F58.binds (ps := ["desk", "head", "word"]) fun _ _ _ _ _ _ us hl => match us, hl with | [_, _, _], _ => rfl,
    f_law_due_7 := f59,
    fd_law_due_7 := _,
    F_law_due_7 := F59,
    a_law_due_7 := PySem.W.mg_of X G a59,
    b_law_due_7 := F59.binds (ps := ["desk", "words"]) fun _ _ _ _ _ _ us hl => match us, hl with | [_, _], _ => rfl,
    f_law_met_0 := f60,
    fd_law_met_0 := _,
    F_law_met_0 := F60,
    a_law_met_0 := PySem.W.mg_of X G a60,
    b_law_met_0 := F60.binds (ps := ["desk", "words", "due"]) fun _ _ _ _ _ _ us hl => match us, hl with | [_, _, _], _ => rfl,
    f_law_shown_2 := f61,
    fd_law_shown_2 := _,
    F_law_shown_2 := F61,
    a_law_shown_2 := PySem.W.mg_of X G a61,
    b_law_shown_2 := F61.binds (ps := ["desk"]) fun _ _ _ _ _ _ us hl => match us, hl with | [_], _ => rfl,
    f_law_things_right_0 := f62,
    fd_law_things_right_0 := _,
    F_law_things_right_0 := F62,
    a_law_things_right_0 := PySem.W.mg_of X G a62,
    b_law_things_right_0 := F62.binds (ps := ["desk"]) fun _ _ _ _ _ _ us hl => match us, hl with | [_], _ => rfl,
    f_law_k52 := _,
    fd_law_k52 := _,
    F_law_k52 := F63,
    z_ValueError := PySem.W.mg_none_of X G z0,
    z_all := PySem.W.mg_none_of X G z1,
    z_bool := PySem.W.mg_none_of X G z2,
    z_dict := PySem.W.mg_none_of X G z3,
    z_enumerate := PySem.W.mg_none_of X G z4,
    z_int := PySem.W.mg_none_of X G z5,
    z_isinstance := PySem.W.mg_none_of X G z6,
    z_len := PySem.W.mg_none_of X G z7,
    z_list := PySem.W.mg_none_of X G z8,
    z_max := PySem.W.mg_none_of X G z9,
    z_min := PySem.W.mg_none_of X G z10,
    z_range := PySem.W.mg_none_of X G z11,
    z_set := PySem.W.mg_none_of X G z12,
    z_sorted := PySem.W.mg_none_of X G z13,
    z_str := PySem.W.mg_none_of X G z14,
    z_sum := PySem.W.mg_none_of X G z15,
    z_zip := PySem.W.mg_none_of X G z16,
    ct_FIGURES := _,
    c_FIGURES := PySem.W.mg_of X G y0,
    a_HEADS := tu1,
    c_HEADS := PySem.W.mg_of X G y1,
    kt_HEADS := ktup u1 rfl rfl (le_line (show 9 ≤ 1000000 by decide)) (.cons ⟨_, rfl⟩ (.cons ⟨_, rfl⟩ (.cons ⟨_, rfl⟩ (.cons ⟨_, rfl⟩ (.cons ⟨_, rfl⟩ (.cons ⟨_, rfl⟩ (.cons ⟨_, rfl⟩ (.cons ⟨_, rfl⟩ (.cons ⟨_, rfl⟩ .nil))))))))),
    ct_LETTERS := _,
    c_LETTERS := PySem.W.mg_of X G y2,
    ct_MOST_FIGURES := _,
    c_MOST_FIGURES := PySem.W.mg_of X G y3,
    ct_MOST_LETTERS_desk := _,
    c_MOST_LETTERS_desk := PySem.W.mg_of X G y4,
    ct_MOST_LETTERS_growing := _,
    c_MOST_LETTERS_growing := PySem.W.mg_of X G y5,
    ct_SMALL_arches := _,
    c_SMALL_arches := PySem.W.mg_of X G y6,
    ct_SMALL_growing := _,
    c_SMALL_growing := PySem.W.mg_of X G y7,
    ct_SMALL_shortest := _,
    c_SMALL_shortest := PySem.W.mg_of X G y8 }
  exact ⟨_, fun s v => .of_eq rfl, fun base _ _ => ok_law_k52 T⟩
end Lv
open PySem PySem.W PyProof.Rows
set_option maxHeartbeats 0 in
theorem PySem.Challenge.cw_leavings_k52_words_refused_holds : PySem.Challenge.rw_leavings_k52_words_refused.Holds := by
  w_on; o_law; k_head; (case hw => w_witness2)
  k_fill
  refine L2.walk_of (l := PySem.Challenge.rw_leavings_k52_words_refused) (n := 63) (k := 9) (x := "script") (CX := fun _ => L2.CX0) (sp := fun w => Lv.sp_law_k52 _) rfl (by decide) rfl ⟨rfl, by decide, by decide⟩ (fun w h Y => PySem.W.kIn_of Y) ?F (fun _ _ a ns hl _ hS => ⟨a, ns, rfl, hS, hl, fun _ => rfl⟩) (fun _ _ _ _ _ h => h)
  case F =>
    intro w mg fa h KX G hmg
    refine' Lv.all_mk KX G hmg ?aCDesk ?pgDesk ?hdDesk ?poDesk ?saDesk ?mkDesk ?kcDesk ?nFDesk_grown ?nFDesk_beside ?aCGrowing ?pgGrowing ?hdGrowing ?poGrowing ?saGrowing ?mkGrowing ?kcGrowing ?nFGrowing_letters ?ae0 ?te0 ?ie0 ?ae1 ?te1 ?ie1 ?ae2 ?te2 ?ie2 ?ae3 ?te3 ?ie3 ?ae4 ?te4 ?ie4 ?ae5 ?te5 ?ie5 ?ae6 ?te6 ?ie6 ?be0 ?de0 ?spe ?tke ?xe1 ?ke1 ?be1 ?le1 ?ve1 ?ga1 ?gt1 ?de1 ?ca1 ?me1 ?ss1_1 ?ss1_2 ?ss1_3 ?ss1_4 ?ss1_5 ?ss1_6 ?xe2 ?ke2 ?be2 ?le2 ?ve2 ?ga2 ?gt2 ?de2 ?ca2 ?me2 ?ss2_1 ?ss2_2 ?ss2_3 ?ss2_4 ?ss2_5 ?ss2_6 ?xe3 ?ke3 ?be3 ?le3 ?ve3 ?ga3 ?gt3 ?de3 ?ca3 ?me3 ?ss3_1 ?ss3_2 ?ss3_3 ?ss3_4 ?ss3_5 ?ss3_6 ?xe4 ?ke4 ?be4 ?le4 ?ve4 ?ga4 ?gt4 ?de4 ?ca4 ?me4 ?ss4_1 ?ss4_2 ?ss4_3 ?ss4_4 ?ss4_5 ?ss4_6 ?xe5 ?ke5 ?be5 ?le5 ?ve5 ?ga5 ?gt5 ?de5 ?ca5 ?me5 ?ss5_1 ?ss5_2 ?ss5_3 ?ss5_4 ?ss5_5 ?ss5_6 ?xe6 ?ke6 ?be6 ?le6 ?ve6 ?ga6 ?gt6 ?de6 ?ca6 ?me6 ?ss6_1 ?ss6_2 ?ss6_3 ?ss6_4 ?ss6_5 ?ss6_6 ?a0 ?i0 ?l0 ?c0 ?k0 ?a1 ?i1 ?l1 ?c1 ?k1 ?a2 ?l2 ?c2 ?k2 ?a3 ?l3 ?c3 ?k3 ?a4 ?l4 ?c4 ?k4 ?a5 ?l5 ?c5 ?k5 ?a6 ?l6 ?c6 ?k6 ?a7 ?l7 ?c7 ?k7 ?a8 ?i8 ?l8 ?c8 ?k8 ?a9 ?l9 ?c9 ?k9 ?a10 ?l10 ?c10 ?k10 ?a11 ?l11 ?c11 ?k11 ?a12 ?l12 ?c12 ?k12 ?a13 ?l13 ?c13 ?k13 ?a14 ?l14 ?c14 ?k14 ?a15 ?l15 ?c15 ?k15 ?a16 ?l16 ?c16 ?k16 ?a17 ?l17 ?c17 ?k17 ?a18 ?l18 ?c18 ?k18 ?a19 ?l19 ?c19 ?k19 ?a20 ?l20 ?c20 ?k20 ?a21 ?l21 ?c21 ?k21 ?a22 ?l22 ?c22 ?k22 ?a23 ?i23 ?l23 ?c23 ?k23 ?a24 ?l24 ?c24 ?k24 ?a25 ?l25 ?c25 ?k25 ?a26 ?i26 ?l26 ?c26 ?k26 ?a27 ?l27 ?c27 ?k27 ?a28 ?i28 ?l28 ?c28 ?k28 ?a29 ?l29 ?c29 ?k29 ?a30 ?l30 ?c30 ?k30 ?a31 ?l31 ?c31 ?k31 ?a32 ?l32 ?c32 ?k32 ?a33 ?l33 ?c33 ?k33 ?a34 ?i34 ?l34 ?c34 ?k34 ?a35 ?l35 ?c35 ?k35 ?a36 ?l36 ?c36 ?k36 ?a37 ?l37 ?c37 ?k37 ?a38 ?i38 ?l38 ?c38 ?k38 ?a39 ?l39 ?c39 ?k39 ?a40 ?l40 ?c40 ?k40 ?a41 ?l41 ?c41 ?k41 ?a42 ?l42 ?c42 ?k42 ?a43 ?l43 ?c43 ?k43 ?a44 ?l44 ?c44 ?k44 ?a45 ?l45 ?c45 ?k45 ?a46 ?l46 ?c46 ?k46 ?a47 ?l47 ?c47 ?k47 ?a48 ?i48 ?l48 ?c48 ?k48 ?a49 ?l49 ?c49 ?k49 ?a50 ?i50 ?l50 ?c50 ?k50 ?a51 ?i51 ?l51 ?c51 ?k51 ?a52 ?i52 ?l52 ?c52 ?k52 ?a53 ?i53 ?l53 ?c53 ?k53 ?a54 ?l54 ?c54 ?k54 ?a55 ?l55 ?c55 ?k55 ?a56 ?l56 ?c56 ?k56 ?a57 ?l57 ?c57 ?k57 ?a58 ?l58 ?c58 ?k58 ?a59 ?l59 ?c59 ?k59 ?a60 ?l60 ?c60 ?k60 ?a61 ?l61 ?c61 ?k61 ?a62 ?l62 ?c62 ?k62 ?a63 ?l63 ?c63 ?k63 ?z0 ?z1 ?z2 ?z3 ?z4 ?z5 ?z6 ?z7 ?z8 ?z9 ?z10 ?z11 ?z12 ?z13 ?z14 ?z15 ?z16 ?y0 ?y1 ?u1 ?y2 ?y3 ?y4 ?y5 ?y6 ?y7 ?y8
    (case aCDesk => k_is); (case pgDesk => k_is); (case hdDesk => k_is); (case poDesk => k_is); (case saDesk => k_is); (case mkDesk => k_is); (case kcDesk => k_is); (case nFDesk_grown => k_is); (case nFDesk_beside => k_is); (case aCGrowing => k_is); (case pgGrowing => k_is); (case hdGrowing => k_is); (case poGrowing => k_is); (case saGrowing => k_is); (case mkGrowing => k_is); (case kcGrowing => k_is); (case nFGrowing_letters => k_is); (case ae0 => k_is); (case te0 => k_is); (case ie0 => k_is); (case ae1 => k_is); (case te1 => k_is); (case ie1 => k_is); (case ae2 => k_is); (case te2 => k_is); (case ie2 => k_is); (case ae3 => k_is); (case te3 => k_is); (case ie3 => k_is); (case ae4 => k_is); (case te4 => k_is); (case ie4 => k_is); (case ae5 => k_is); (case te5 => k_is); (case ie5 => k_is); (case ae6 => k_is); (case te6 => k_is); (case ie6 => k_is); (case be0 => k_is); (case de0 => k_is); (case spe => k_is); (case tke => k_is); (case xe1 => k_exc); (case ke1 => k_is); (case be1 => k_is); (case le1 => k_is); (case ve1 => k_is); (case ga1 => k_is); (case gt1 => k_is); (case de1 => k_is); (case ca1 => k_is); (case me1 => k_is); (case ss1_1 => first | k_is | rfl); (case ss1_2 => first | k_is | rfl); (case ss1_3 => first | k_is | rfl); (case ss1_4 => first | k_is | rfl); (case ss1_5 => first | k_is | rfl); (case ss1_6 => first | k_is | rfl); (case xe2 => k_exc); (case ke2 => k_is); (case be2 => k_is); (case le2 => k_is); (case ve2 => k_is); (case ga2 => k_is); (case gt2 => k_is); (case de2 => k_is); (case ca2 => k_is); (case me2 => k_is); (case ss2_1 => first | k_is | rfl); (case ss2_2 => first | k_is | rfl); (case ss2_3 => first | k_is | rfl); (case ss2_4 => first | k_is | rfl); (case ss2_5 => first | k_is | rfl); (case ss2_6 => first | k_is | rfl); (case xe3 => k_exc); (case ke3 => k_is); (case be3 => k_is); (case le3 => k_is); (case ve3 => k_is); (case ga3 => k_is); (case gt3 => k_is); (case de3 => k_is); (case ca3 => k_is); (case me3 => k_is); (case ss3_1 => first | k_is | rfl); (case ss3_2 => first | k_is | rfl); (case ss3_3 => first | k_is | rfl); (case ss3_4 => first | k_is | rfl); (case ss3_5 => first | k_is | rfl); (case ss3_6 => first | k_is | rfl); (case xe4 => k_exc); (case ke4 => k_is); (case be4 => k_is); (case le4 => k_is); (case ve4 => k_is); (case ga4 => k_is); (case gt4 => k_is); (case de4 => k_is); (case ca4 => k_is); (case me4 => k_is); (case ss4_1 => first | k_is | rfl); (case ss4_2 => first | k_is | rfl); (case ss4_3 => first | k_is | rfl); (case ss4_4 => first | k_is | rfl); (case ss4_5 => first | k_is | rfl); (case ss4_6 => first | k_is | rfl); (case xe5 => k_exc); (case ke5 => k_is); (case be5 => k_is); (case le5 => k_is); (case ve5 => k_is); (case ga5 => k_is); (case gt5 => k_is); (case de5 => k_is); (case ca5 => k_is); (case me5 => k_is); (case ss5_1 => first | k_is | rfl); (case ss5_2 => first | k_is | rfl); (case ss5_3 => first | k_is | rfl); (case ss5_4 => first | k_is | rfl); (case ss5_5 => first | k_is | rfl); (case ss5_6 => first | k_is | rfl); (case xe6 => k_exc); (case ke6 => k_is); (case be6 => k_is); (case le6 => k_is); (case ve6 => k_is); (case ga6 => k_is); (case gt6 => k_is); (case de6 => k_is); (case ca6 => k_is); (case me6 => k_is); (case ss6_1 => first | k_is | rfl); (case ss6_2 => first | k_is | rfl); (case ss6_3 => first | k_is | rfl); (case ss6_4 => first | k_is | rfl); (case ss6_5 => first | k_is | rfl); (case ss6_6 => first | k_is | rfl); (case a0 => k_is); (case i0 => k_is); (case l0 => k_is); (case c0 => k_is); (case k0 => k_is); (case a1 => k_is); (case i1 => k_is); (case l1 => k_is); (case c1 => k_is); (case k1 => k_is); (case a2 => k_is); (case l2 => k_is); (case c2 => k_is); (case k2 => k_is); (case a3 => k_is); (case l3 => k_is); (case c3 => k_is); (case k3 => k_is); (case a4 => k_is); (case l4 => k_is); (case c4 => k_is); (case k4 => k_is); (case a5 => k_is); (case l5 => k_is); (case c5 => k_is); (case k5 => k_is); (case a6 => k_is); (case l6 => k_is); (case c6 => k_is); (case k6 => k_is); (case a7 => k_is); (case l7 => k_is); (case c7 => k_is); (case k7 => k_is); (case a8 => k_is); (case i8 => k_is); (case l8 => k_is); (case c8 => k_is); (case k8 => k_is); (case a9 => k_is); (case l9 => k_is); (case c9 => k_is); (case k9 => k_is); (case a10 => k_is); (case l10 => k_is); (case c10 => k_is); (case k10 => k_is); (case a11 => k_is); (case l11 => k_is); (case c11 => k_is); (case k11 => k_is); (case a12 => k_is); (case l12 => k_is); (case c12 => k_is); (case k12 => k_is); (case a13 => k_is); (case l13 => k_is); (case c13 => k_is); (case k13 => k_is); (case a14 => k_is); (case l14 => k_is); (case c14 => k_is); (case k14 => k_is); (case a15 => k_is); (case l15 => k_is); (case c15 => k_is); (case k15 => k_is); (case a16 => k_is); (case l16 => k_is); (case c16 => k_is); (case k16 => k_is); (case a17 => k_is); (case l17 => k_is); (case c17 => k_is); (case k17 => k_is); (case a18 => k_is); (case l18 => k_is); (case c18 => k_is); (case k18 => k_is); (case a19 => k_is); (case l19 => k_is); (case c19 => k_is); (case k19 => k_is); (case a20 => k_is); (case l20 => k_is); (case c20 => k_is); (case k20 => k_is); (case a21 => k_is); (case l21 => k_is); (case c21 => k_is); (case k21 => k_is); (case a22 => k_is); (case l22 => k_is); (case c22 => k_is); (case k22 => k_is); (case a23 => k_is); (case i23 => k_is); (case l23 => k_is); (case c23 => k_is); (case k23 => k_is); (case a24 => k_is); (case l24 => k_is); (case c24 => k_is); (case k24 => k_is); (case a25 => k_is); (case l25 => k_is); (case c25 => k_is); (case k25 => k_is); (case a26 => k_is); (case i26 => k_is); (case l26 => k_is); (case c26 => k_is); (case k26 => k_is); (case a27 => k_is); (case l27 => k_is); (case c27 => k_is); (case k27 => k_is); (case a28 => k_is); (case i28 => k_is); (case l28 => k_is); (case c28 => k_is); (case k28 => k_is); (case a29 => k_is); (case l29 => k_is); (case c29 => k_is); (case k29 => k_is); (case a30 => k_is); (case l30 => k_is); (case c30 => k_is); (case k30 => k_is); (case a31 => k_is); (case l31 => k_is); (case c31 => k_is); (case k31 => k_is); (case a32 => k_is); (case l32 => k_is); (case c32 => k_is); (case k32 => k_is); (case a33 => k_is); (case l33 => k_is); (case c33 => k_is); (case k33 => k_is); (case a34 => k_is); (case i34 => k_is); (case l34 => k_is); (case c34 => k_is); (case k34 => k_is); (case a35 => k_is); (case l35 => k_is); (case c35 => k_is); (case k35 => k_is); (case a36 => k_is); (case l36 => k_is); (case c36 => k_is); (case k36 => k_is); (case a37 => k_is); (case l37 => k_is); (case c37 => k_is); (case k37 => k_is); (case a38 => k_is); (case i38 => k_is); (case l38 => k_is); (case c38 => k_is); (case k38 => k_is); (case a39 => k_is); (case l39 => k_is); (case c39 => k_is); (case k39 => k_is); (case a40 => k_is); (case l40 => k_is); (case c40 => k_is); (case k40 => k_is); (case a41 => k_is); (case l41 => k_is); (case c41 => k_is); (case k41 => k_is); (case a42 => k_is); (case l42 => k_is); (case c42 => k_is); (case k42 => k_is); (case a43 => k_is); (case l43 => k_is); (case c43 => k_is); (case k43 => k_is); (case a44 => k_is); (case l44 => k_is); (case c44 => k_is); (case k44 => k_is); (case a45 => k_is); (case l45 => k_is); (case c45 => k_is); (case k45 => k_is); (case a46 => k_is); (case l46 => k_is); (case c46 => k_is); (case k46 => k_is); (case a47 => k_is); (case l47 => k_is); (case c47 => k_is); (case k47 => k_is); (case a48 => k_is); (case i48 => k_is); (case l48 => k_is); (case c48 => k_is); (case k48 => k_is); (case a49 => k_is); (case l49 => k_is); (case c49 => k_is); (case k49 => k_is); (case a50 => k_is); (case i50 => k_is); (case l50 => k_is); (case c50 => k_is); (case k50 => k_is); (case a51 => k_is); (case i51 => k_is); (case l51 => k_is); (case c51 => k_is); (case k51 => k_is); (case a52 => k_is); (case i52 => k_is); (case l52 => k_is); (case c52 => k_is); (case k52 => k_is); (case a53 => k_is); (case i53 => k_is); (case l53 => k_is); (case c53 => k_is); (case k53 => k_is); (case a54 => k_is); (case l54 => k_is); (case c54 => k_is); (case k54 => k_is); (case a55 => k_is); (case l55 => k_is); (case c55 => k_is); (case k55 => k_is); (case a56 => k_is); (case l56 => k_is); (case c56 => k_is); (case k56 => k_is); (case a57 => k_is); (case l57 => k_is); (case c57 => k_is); (case k57 => k_is); (case a58 => k_is); (case l58 => k_is); (case c58 => k_is); (case k58 => k_is); (case a59 => k_is); (case l59 => k_is); (case c59 => k_is); (case k59 => k_is); (case a60 => k_is); (case l60 => k_is); (case c60 => k_is); (case k60 => k_is); (case a61 => k_is); (case l61 => k_is); (case c61 => k_is); (case k61 => k_is); (case a62 => k_is); (case l62 => k_is); (case c62 => k_is); (case k62 => k_is); (case a63 => k_is); (case l63 => k_is); (case c63 => k_is); (case k63 => k_is); (case z0 => k_is); (case z1 => k_is); (case z2 => k_is); (case z3 => k_is); (case z4 => k_is); (case z5 => k_is); (case z6 => k_is); (case z7 => k_is); (case z8 => k_is); (case z9 => k_is); (case z10 => k_is); (case z11 => k_is); (case z12 => k_is); (case z13 => k_is); (case z14 => k_is); (case z15 => k_is); (case z16 => k_is); (case y0 => k_is); (case y1 => k_is); (case u1 => k_is); (case y2 => k_is); (case y3 => k_is); (case y4 => k_is); (case y5 => k_is); (case y6 => k_is); (case y7 => k_is); (case y8 => k_is)
