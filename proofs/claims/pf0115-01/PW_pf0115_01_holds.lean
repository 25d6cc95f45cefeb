import PyProof.Rows.All
import Wide.All
import OpenK.AllK
import Wide.FinOn
import PySem.Challenge.RW_pf0115_01
open PySem PySem.W PySem.Calls PyProof.Rows PySem.Spec
set_option Elab.async false
set_option maxRecDepth 100000
set_option maxHeartbeats 8000000
namespace Mine
open_top hd for PySem.Challenge.rw_pf0115_01

/-! the contracts' form -/
abbrev Con (w : World) (mean : ExcName → Option Value) (mg mb : Str → Option Value) (f : Addr) (k : Nat) (news : List (Addr × Obj)) (vs : List Value) (pre : Prop)
    (Ret : Heap → Addr → (Str → Option Value) → Shared → (Value → Shared → Prop) → Prop) : Prop :=
  ∀ (dp un : Nat) (gd : Option (List Code)) (cn : Str) (cs : Scope) (a : Addr) (ccd : Value) (cl : List (Str × Addr)) (outer : List Env) (A₀ : Around) (base h₀ : Heap) (L : Addr) (m : Str → Option Value) (s : Shared) (Q E : Value → Shared → Prop),
    Below A₀ base outer h₀ → Fr h₀ L s.heap m → (hd.heap_39 w.params).In h₀ → News h₀ L s.heap news → Top hd.view_39 (looseW hd.view_39 []) mean mg mb h₀ → cs.kind = .function → pre → dp + k < recursionLimit → un + 8 * k < cLine → Ret h₀ L m s Q →
    wpAny (model PySem.Challenge.rw_pf0115_01.row.prog w) (ktrTop dp un gd cn cs L a ccd cl outer) (call (.ref f) vs) Q E s

abbrev RetV (news : List (Addr × Obj)) (R : Tok → Value) : Heap → Addr → (Str → Option Value) → Shared → (Value → Shared → Prop) → Prop :=
  fun h₀ L m s Q => ∀ (t : Tok) (h' : Heap) (tk' : Nat), Fr h₀ L h' m → News h₀ L h' news → Q (R t) { s with heap := h', toks := tk' }

abbrev tup2 (x y : Value) (c : Nat) : Obj := { cls := .type "tuple", data := .seq #[x, y] c }

abbrev RetP (news : List (Addr × Obj)) (V1 V2 : Tok → Value) : Heap → Addr → (Str → Option Value) → Shared → (Value → Shared → Prop) → Prop :=
  fun h₀ L m s Q => ∀ (D : Addr) (t1 t2 : Tok) (c : Nat) (h' : Heap) (tk' : Nat), Fr h₀ L h' m → News h₀ L h' ((D, tup2 (V1 t1) (V2 t2) c) :: news) → (∀ p ∈ news, p.1 < D) → Q (.ref D) { s with heap := h', toks := tk' }

theorem con_use {w : World} {mean : ExcName → Option Value} {mg mb : Str → Option Value} {f : Addr} {k : Nat} {news : List (Addr × Obj)} {vs : List Value} {pre : Prop} {Ret : Heap → Addr → (Str → Option Value) → Shared → (Value → Shared → Prop) → Prop}
    {dp un : Nat} {gd : Option (List Code)} {cn : Str} {cs : Scope} {a : Addr} {ccd : Value} {cl : List (Str × Addr)} {outer : List Env} {A₀ : Around} {base h₀ : Heap} {L : Addr} {m : Str → Option Value} {s : Shared} {Q E : Value → Shared → Prop}
    (C : Con w mean mg mb f k news vs pre Ret) (B : Below A₀ base outer h₀) (F : Fr h₀ L s.heap m) (X : (hd.heap_39 w.params).In h₀) (N : News h₀ L s.heap news) (Tp : Top hd.view_39 (looseW hd.view_39 []) mean mg mb h₀) (hk : cs.kind = .function)
    (hp : pre) (hd : dp + k < recursionLimit) (hu : un + 8 * k < cLine) (ret : Ret h₀ L m s Q) :
    wpAny (model PySem.Challenge.rw_pf0115_01.row.prog w) (ktrTop dp un gd cn cs L a ccd cl outer) (call (.ref f) vs) Q E s :=
  C dp un gd cn cs a ccd cl outer A₀ base h₀ L m s Q E B F X N Tp hk hp hd hu ret

/-- the value None, or an int -/
def IsOpt (o : Option Int) (v : Value) : Prop := match o with
  | none => v = .none
  | some n => ∃ t, v = .int n t
abbrev RetO (news : List (Addr × Obj)) (o : Option Int) : Heap → Addr → (Str → Option Value) → Shared → (Value → Shared → Prop) → Prop :=
  fun h₀ L m s Q => ∀ (v : Value) (h' : Heap) (tk' : Nat), IsOpt o v → Fr h₀ L h' m → News h₀ L h' news → Q v { s with heap := h', toks := tk' }

/-! texts, pairs, cuts: rules -/
/-- a text by its codes -/
def T (l : List Nat) : PySem.Str := ⟨l.toArray⟩
theorem T_cps (l : List Nat) : (T l).cps = l.toArray := rfl
theorem T_length (l : List Nat) : (T l).length = l.length := by simp [T, PySem.Str.length]
theorem T_app (a b : List Nat) : T a ++ T b = T (a ++ b) := by
  refine PySem.Str.ext' ?_
  rw [PySem.Str.cps_append]
  simp [T]
theorem T_inj {a b : List Nat} (h : T a = T b) : a = b := by
  have := congrArg (fun x => x.cps.toList) h
  simpa [T] using this
theorem T_eq {a b : List Nat} : (T a == T b) = decide (a = b) := by
  rw [Bool.eq_iff_iff]
  simp only [beq_iff_eq, decide_eq_true_eq]
  exact ⟨T_inj, fun h => by rw [h]⟩
theorem T_ne {a b : List Nat} : (T a != T b) = decide (a ≠ b) := by
  rw [bne, T_eq]
  by_cases h : a = b <;> simp [h]

theorem l_nil : PySem.Str.ofString "" = T [] := by decide +kernel
theorem l_minus : PySem.Str.ofString "-" = T [45] := by decide +kernel
theorem l_plus : PySem.Str.ofString "+" = T [43] := by decide +kernel
theorem l_dot : PySem.Str.ofString "." = T [46] := by decide +kernel
theorem l_E : PySem.Str.ofString "E" = T [69] := by decide +kernel
theorem l_D : PySem.Str.ofString "D" = T [68] := by decide +kernel
theorem l_Dp : PySem.Str.ofString "D+" = T [68, 43] := by decide +kernel
theorem l_0 : PySem.Str.ofString "0" = T [48] := by decide +kernel
theorem l_sp : PySem.Str.ofString " " = T [32] := by decide +kernel
theorem l_fig : PySem.Str.ofString "0123456789" = T [48, 49, 50, 51, 52, 53, 54, 55, 56, 57] := by decide +kernel

section
variable {prog : Program} {w : World} {M : Model} {A : Around} {E : Value → Shared → Prop} {s : Shared} {env : Env} {Q : Value → Shared → Prop} {a b l : List Nat} {t u : Tok}

theorem const_T {x : PySem.Str} {k : Nat} {pos : Pos} (e : x = T l) (h : ∀ t k, Q (.str (T l) t) { s with toks := k }) : wpAny M A (eval (.Constant (.str x) k pos) env) Q E s := by
  subst e
  exact Calls.Constant_str (h _ _)

theorem item_Tg {value slice : PySem.Expr} {i : Int} (h0 : 0 ≤ i) (h1 : i < (l.length : Int)) (hl : l.length ≤ 16777216) (h : ∀ t k, Q (.str (T [l.getD i.toNat 0]) t) { s with toks := k })
    (hs : subscripted slice false (.str (T l) t) (.int i u) = operate [.str (T l) t, .int i u] (getItem (.str (T l) t) (.int i u)))
    (ht : ∀ r, letTemporaryGo value (.str (T l) t) r = pure ()) :
    wpAny (model prog w) A (subscriptTail value slice (.str (T l) t) (.int i u)) Q E s := by
  refine PyProof.Rows.item_str (by unfold fitsSsize; simp; omega) (by omega) (by rw [T_length]; omega) (fun _ => ?_) hs ht
  have e : Txt.item (T l) i = T [l.getD i.toNat 0] := by
    unfold Txt.item Txt.charAt T
    congr 1
    have : seqIndex? i (PySem.Str.length ⟨l.toArray⟩) = some i.toNat := by
      unfold seqIndex?
      have hsz : PySem.Str.length ⟨l.toArray⟩ = l.length := by simp [PySem.Str.length]
      rw [hsz]
      simp
      omega
    rw [this]
    simp
  rw [e]
  exact h _ _
theorem eq_T (h : Q (.bool (decide (a = b))) s) : wpAny (model prog w) A (compareOp .Eq (.str (T a) t) (.str (T b) u)) Q E s :=
  PyProof.Rows.eq_str (by rw [T_eq]; exact h)
theorem ne_T (h : Q (.bool (decide (a ≠ b))) s) : wpAny (model prog w) A (compareOp .NotEq (.str (T a) t) (.str (T b) u)) Q E s :=
  PyProof.Rows.ne_str (by rw [T_ne]; exact h)

theorem add_T (hs : a.length + b.length ≤ 16777216) (h : ∀ t k, Q (.str (T (a ++ b)) t) { s with toks := k }) : wpAny (model prog w) A (binaryOp .Add (.str (T a) t) (.str (T b) u)) Q E s :=
  KOpn.add (by rw [T_length, T_length]; exact hs) fun t' k _ => by rw [T_app]; exact h t' k

theorem len_T (hs : l.length ≤ 16777216) (h : ∀ t k, Q (.int (l.length : Int) t) { s with toks := k }) : wpAny (model prog w) A (call (.builtin "len") [.str (T l) t]) Q E s :=
  P.len_str (by rw [T_length]; omega) (by rw [T_length]; exact h _ _)

/-- a slice's end as Python clips it -/
def cl (i : Int) (n : Nat) : Nat := if i < 0 then n - (-i).toNat else min i.toNat n
def clo : Option Int → Nat → Nat
  | none, _ => 0
  | some i, n => cl i n
def chi : Option Int → Nat → Nat
  | none, n => n
  | some i, n => cl i n
def sl (l : List Nat) (lo hi : Option Int) : List Nat := (l.drop (clo lo l.length)).take (chi hi l.length - clo lo l.length)

theorem sl_len (l : List Nat) (lo hi : Option Int) : (sl l lo hi).length ≤ l.length := by
  unfold sl
  rw [List.length_take, List.length_drop]
  omega
theorem clip_lo (lo : Option Int) (n : Nat) : (match lo with | none => (0 : Int) | some i => max 0 (min (if i < 0 then i + (n : Int) else i) n)) = ((clo lo n : Nat) : Int) := by
  cases lo with
  | none => rfl
  | some i => simp only [clo, cl]; split <;> omega
theorem clip_hi (hi : Option Int) (n : Nat) : (match hi with | none => (n : Int) | some i => max 0 (min (if i < 0 then i + (n : Int) else i) n)) = ((chi hi n : Nat) : Int) := by
  cases hi with
  | none => rfl
  | some i => simp only [chi, cl]; split <;> omega
theorem idx_T (lo hi : Option Int) (n : Nat) : Builtin.Str.strSliceIndices lo hi 1 n = (List.range (chi hi n - clo lo n)).map (clo lo n + ·) := by
  have h1 : (1 : Int) > 0 := by decide
  have e : Builtin.Str.strSliceIndices lo hi 1 n = sliceRange ((clo lo n : Nat) : Int) ((chi hi n : Nat) : Int) 1 := by
    rw [← clip_lo, ← clip_hi]
    unfold Builtin.Str.strSliceIndices
    cases lo <;> cases hi <;> simp only [h1, if_true]
  rw [e, sliceRange_one]
theorem slice_T (lo hi : Option Int) : Txt.slice (T l) lo hi = T (sl l lo hi) := by
  unfold Txt.slice
  rw [idx_T, T_length]
  split
  · rename_i h
    have h' : chi hi l.length - clo lo l.length = l.length := by simpa using h
    unfold sl
    have h2 : chi hi l.length ≤ l.length := by
      cases hi with
      | none => exact Nat.le_refl _
      | some i => simp only [chi, cl]; split <;> omega
    by_cases h3 : l.length = 0
    · have : l = [] := List.length_eq_zero_iff.mp h3
      subst this
      simp
    · have h4 : clo lo l.length = 0 := by omega
      rw [h', h4, List.drop_zero, List.take_length]
  · rw [T_cps, pick_run]
    rfl

section
variable {h₀ : Heap} {L : Addr} {m : PySem.Str → Option Value} {news : List (Addr × Obj)} {value slice : PySem.Expr}
theorem slT_ns {j : Int} {uj : Tok} (hF : Fr h₀ L s.heap m) (hN : News h₀ L s.heap news) (hz : l.length ≤ 16777216) (h : ∀ h' t' k, Fr h₀ L h' m → News h₀ L h' news → (sl l none (some j)).length ≤ l.length → Q (.str (T (sl l none (some j))) t') { s with heap := h', toks := k })
    (hs : subscripted slice false (.str (T l) t) (.ref s.heap.objs.size) = operate [.ref s.heap.objs.size, .str (T l) t] (getItem (.str (T l) t) (.ref s.heap.objs.size)))
    (ht : ∀ r, letTemporaryGo value (.str (T l) t) r = pure ()) :
    wpAny (model prog w) A (subscriptTail value slice (.str (T l) t) (.ref s.heap.objs.size)) Q E { s with heap := s.heap.push { cls := .type "slice", data := .fields #[.none, .int j uj, .none] } } :=
  slice_strN_ns hF hN (fun h' t' k F N => by rw [slice_T]; exact h h' t' k F N (sl_len _ _ _)) hs ht (by rw [T_length, sizeLine_eq]; exact hz)
theorem slT_sn {i : Int} {ui : Tok} (hF : Fr h₀ L s.heap m) (hN : News h₀ L s.heap news) (hz : l.length ≤ 16777216) (h : ∀ h' t' k, Fr h₀ L h' m → News h₀ L h' news → (sl l (some i) none).length ≤ l.length → Q (.str (T (sl l (some i) none)) t') { s with heap := h', toks := k })
    (hs : subscripted slice false (.str (T l) t) (.ref s.heap.objs.size) = operate [.ref s.heap.objs.size, .str (T l) t] (getItem (.str (T l) t) (.ref s.heap.objs.size)))
    (ht : ∀ r, letTemporaryGo value (.str (T l) t) r = pure ()) :
    wpAny (model prog w) A (subscriptTail value slice (.str (T l) t) (.ref s.heap.objs.size)) Q E { s with heap := s.heap.push { cls := .type "slice", data := .fields #[.int i ui, .none, .none] } } :=
  slice_strN_sn hF hN (fun h' t' k F N => by rw [slice_T]; exact h h' t' k F N (sl_len _ _ _)) hs ht (by rw [T_length, sizeLine_eq]; exact hz)
theorem slT_ss {i j : Int} {ui uj : Tok} (hF : Fr h₀ L s.heap m) (hN : News h₀ L s.heap news) (hz : l.length ≤ 16777216) (h : ∀ h' t' k, Fr h₀ L h' m → News h₀ L h' news → (sl l (some i) (some j)).length ≤ l.length → Q (.str (T (sl l (some i) (some j))) t') { s with heap := h', toks := k })
    (hs : subscripted slice false (.str (T l) t) (.ref s.heap.objs.size) = operate [.ref s.heap.objs.size, .str (T l) t] (getItem (.str (T l) t) (.ref s.heap.objs.size)))
    (ht : ∀ r, letTemporaryGo value (.str (T l) t) r = pure ()) :
    wpAny (model prog w) A (subscriptTail value slice (.str (T l) t) (.ref s.heap.objs.size)) Q E { s with heap := s.heap.push { cls := .type "slice", data := .fields #[.int i ui, .int j uj, .none] } } :=
  slice_strN_ss hF hN (fun h' t' k F N => by rw [slice_T]; exact h h' t' k F N (sl_len _ _ _)) hs ht (by rw [T_length, sizeLine_eq]; exact hz)
end

theorem mul_T1 (c : Nat) (n : Int) : Txt.mul (T [c]) n = T (List.replicate n.toNat c) := by
  unfold Txt.mul
  split
  · rename_i h
    have : n.toNat = 0 := by omega
    rw [this]; rfl
  · split
    · rename_i h1 h2
      have : n = 1 := by simpa [T_length] using h2
      subst this; rfl
    · unfold T
      congr 1
      apply Array.toList_inj.mp
      have gen : ∀ (k : Nat) (acc : Array Nat), ((List.replicate k (#[c] : Array Nat)).foldl (· ++ ·) acc).toList = acc.toList ++ List.replicate k c := by
        intro k
        induction k with
        | zero => intro acc; simp
        | succ k ih => intro acc; rw [List.replicate_succ, List.foldl_cons, ih, List.replicate_succ]; simp
      have := gen n.toNat #[]
      simpa using this
theorem mul_T {c : Nat} {n : Int} (h0 : -(1048576 : Int) ≤ n) (h1 : n ≤ 1048576) (h : ∀ t k, Q (.str (T (List.replicate n.toNat c)) t) { s with toks := k }) : wpAny (model prog w) A (binaryOp .Mult (.str (T [c]) t) (.int n u)) Q E s :=
  SB.mul (mulOk_of 1 1048576 (by rw [T_length]; exact Nat.le_refl _) h1 (by omega) (by decide) (by decide)) fun t' k => by rw [mul_T1]; exact h t' k

/-- a figure's value, -1 for another sign -/
def figv (c : Nat) : Int := if 48 ≤ c ∧ c ≤ 57 then (c : Int) - 48 else -1
theorem find_fig (c : Nat) : Txt.find (PySem.Str.ofString "0123456789") (T [c]) = figv c := by
  by_cases h : 48 ≤ c ∧ c ≤ 57
  · have : ∀ c, c < 58 → 48 ≤ c → Txt.find (PySem.Str.ofString "0123456789") (T [c]) = figv c := by decide +kernel
    exact this c (by omega) h.1
  · have hn : (Builtin.Str.occurrences (PySem.Str.ofString "0123456789") (T [c]) 0 (PySem.Str.ofString "0123456789").length 1).isEmpty = true := by
      have := StrLaws.found_one (PySem.Str.ofString "0123456789") c
      have e : (PySem.Str.ofString "0123456789").cps.toList = [48, 49, 50, 51, 52, 53, 54, 55, 56, 57] := by decide +kernel
      rw [e] at this
      have h2 : decide (c ∈ [48, 49, 50, 51, 52, 53, 54, 55, 56, 57]) = false := by
        simp
        omega
      rw [h2] at this
      have e3 : T [c] = ⟨#[c]⟩ := rfl
      rw [e3]
      simpa using this
    unfold Txt.find figv
    rw [List.isEmpty_iff.mp hn, if_neg h]
theorem find_T {c : Nat} (h : ∀ t k, Q (.int (figv c) t) { s with toks := k }) : wpAny (model prog w) A (call (.builtin "str.find") [.str (PySem.Str.ofString "0123456789") t, .str (T [c]) u]) Q E s :=
  SC.find (by rw [find_fig]; exact h _ _)

theorem find_Tm {c : Nat} (h : ∀ t k, Q (.int (figv c) t) { s with toks := k }) : wpAny (model prog w) A (call (.builtin "str.find") [.str (PySem.Str.ofString "0123456789") t, .str ⟨#[c]⟩ u]) Q E s := find_T h

/-- a row without the noughts at its end -/
def rst (l : List Nat) : List Nat := (l.reverse.dropWhile (· == 48)).reverse
theorem rst_eq (l : List Nat) : rst l = l.take (l.length - (l.reverse.takeWhile (· == 48)).length) := by
  have h := List.takeWhile_append_dropWhile (p := (· == 48)) (l := l.reverse)
  have h2 : l = (l.reverse.dropWhile (· == 48)).reverse ++ (l.reverse.takeWhile (· == 48)).reverse := by
    have := congrArg List.reverse h
    rw [List.reverse_append, List.reverse_reverse] at this
    exact this.symm
  have h3 : l.length = (rst l).length + (l.reverse.takeWhile (· == 48)).length := by
    have := congrArg List.length h2
    rw [List.length_append, List.length_reverse, List.length_reverse] at this
    unfold rst
    rw [List.length_reverse]
    exact this
  have h4 : l.length - (l.reverse.takeWhile (· == 48)).length = (rst l).length := by omega
  rw [h4]
  have h5 : l = rst l ++ (l.reverse.takeWhile (· == 48)).reverse := h2
  have h6 : List.take (rst l).length l = List.take (rst l).length (rst l ++ (l.reverse.takeWhile (· == 48)).reverse) := congrArg (List.take (rst l).length) h5
  rw [h6, List.take_left']
  rfl
theorem rstrip_T0 (l : List Nat) : Txt.rstripChars (T l) (T [48]) = T (rst l) := by
  unfold Txt.rstripChars Txt.stripBy
  have hc : (fun c => (T [48]).cps.contains c) = (fun c => c == 48) := by
    funext c
    unfold T
    rw [Bool.eq_iff_iff]
    simp
  have hlo : stripLo (T [48]).cps.contains false (T l) = 0 := rfl
  have hhi : stripHi (T [48]).cps.contains true (T l) 0 = l.length - (l.reverse.takeWhile (· == 48)).length := by
    unfold stripHi
    rw [if_pos rfl, T_length, T_cps]
    show l.length - (((l.toArray).toList.drop 0).reverse.takeWhile (fun c => (T [48]).cps.contains c)).length = _
    rw [hc]
    simp
  split
  · rename_i h
    simp only [stripSame, Bool.and_eq_true, beq_iff_eq] at h
    rw [hlo, hhi, T_length] at h
    rw [rst_eq, h.2, List.take_length]
  · unfold PySem.stripped
    rw [hlo, hhi, rst_eq]
    unfold Builtin.Str.strSub T
    congr 1
    apply Array.toList_inj.mp
    simp
theorem rst_len (l : List Nat) : (rst l).length ≤ l.length := by
  rw [rst_eq, List.length_take]
  omega
theorem rstrip_T (hz : l.length ≤ 16777216) (h : ∀ t k, (rst l).length ≤ l.length → Q (.str (T (rst l)) t) { s with toks := k }) : wpAny (model prog w) A (call (.builtin "str.rstrip") [.str (T l) t, .str (T [48]) u]) Q E s :=
  PySem.SC.rstripChars (fun t' k => by rw [rstrip_T0]; exact h t' k (rst_len l)) (by rw [T_length, sizeLine_eq]; exact hz)

section
variable {x : Int}
theorem fm10 (x : Int) : x.fmod 10 = x % 10 := by rw [Int.fmod_eq_emod_of_nonneg _ (by decide)]
theorem fd10 (x : Int) : x.fdiv 10 = x / 10 := by rw [Int.fdiv_eq_ediv_of_nonneg _ (by decide)]
theorem mod_10 (h : ∀ t k, Q (.int (x % 10) t) { s with toks := k }) : wpAny (model prog w) A (binaryOp .Mod (.int x t) (.int 10 u)) Q E s :=
  mod_int' (by decide) (by rw [fm10]; exact h _ _)
theorem div_10 (h : ∀ t k, Q (.int (x / 10) t) { s with toks := k }) : wpAny (model prog w) A (binaryOp .FloorDiv (.int x t) (.int 10 u)) Q E s :=
  floordiv_int (by decide) (by rw [fd10]; exact h _ _) (.inl (PyProof.noPylong_small (by decide)))
theorem idiv_10 (h : ∀ t k, Q (.int (x / 10) t) { s with toks := k }) : wpAny (model prog w) A (inplaceOp .FloorDiv (.int x t) (.int 10 u)) Q E s :=
  ifloordiv_int (by decide) (by rw [fd10]; exact h _ _) (.inl (PyProof.noPylong_small (by decide)))
theorem abs_T (h : ∀ t k, Q (.int (x.natAbs : Int) t) { s with toks := k }) : wpAny (model prog w) A (call (.builtin "abs") [.int x t]) Q E s :=
  call_abs_int fun u tk => by
    have e : (if x < 0 then -x else x) = (x.natAbs : Int) := by split <;> omega
    rw [e]; exact h _ _
end

/-- the figures of a whole number -/
def digs (n : Nat) : List Nat := (Nat.toDigits 10 n).map Char.toNat
def dec (a : Int) : List Nat := if a < 0 then 45 :: digs a.natAbs else digs a.natAbs
theorem digs_lt {n : Nat} (h : n < 10) : digs n = [48 + n] := by
  have : ∀ n, n < 10 → digs n = [48 + n] := by decide +kernel
  exact this n h
theorem digs_ge {n : Nat} (h : 10 ≤ n) : digs n = digs (n / 10) ++ [48 + n % 10] := by
  unfold digs
  rw [Nat.toDigits_of_base_le (by decide) h, List.map_append]
  congr 1
  have : ∀ k, k < 10 → [Nat.digitChar k].map Char.toNat = [48 + k] := by decide +kernel
  exact this (n % 10) (Nat.mod_lt _ (by decide))
theorem digs_len {n k : Nat} (hk : 0 < k) (h : n < 10 ^ k) : (digs n).length ≤ k := by
  unfold digs
  rw [List.length_map]
  exact (Nat.length_toDigits_le_iff (by decide) hk).mpr h
theorem T_of_nat (n : Nat) : PySem.Str.ofString n.repr = T (digs n) := by
  rw [PySem.Str.ofString_eq_toList, Nat.repr_eq_ofList_toDigits]
  unfold T digs
  rw [String.toList_ofList]
theorem T_of_int (a : Int) : PySem.Str.ofString (toString a) = T (dec a) := by
  cases a with
  | ofNat n =>
    have h : ¬ (Int.ofNat n < 0) := by simp
    unfold dec
    rw [if_neg h]
    exact T_of_nat n
  | negSucc n =>
    have h : Int.negSucc n < 0 := Int.negSucc_lt_zero n
    unfold dec
    rw [if_pos h]
    have e : toString (Int.negSucc n) = "-" ++ (n + 1).repr := rfl
    rw [e, PySem.Str.ofString_eq_toList, Nat.repr_eq_ofList_toDigits, String.toList_append, String.toList_ofList]
    unfold T digs
    congr 1
    rw [String.toList_ofList]
    rfl
theorem dec_len {a : Int} {k : Nat} (hk : 0 < k) (h : a.natAbs < 10 ^ k) : (dec a).length ≤ k + 1 := by
  have := digs_len hk h
  unfold dec
  split
  · rw [List.length_cons]; omega
  · omega
theorem str_T {a : Int} (h0 : a.natAbs < 10 ^ 18) (h : ∀ t k, (dec a).length ≤ 19 → Q (.str (T (dec a)) t) { s with toks := k }) : wpAny (model prog w) A (call (.type "str") [.int a t]) Q E s := by
  refine P.str_of_int ?_ ?_
  · by_cases hz : a.natAbs = 0
    · rw [hz]; decide
    · have : a.natAbs < 2 ^ 60 := by omega
      have := (Nat.log2_lt hz).mpr this
      omega
  · have := h (s.toks) (s.toks + 1) (dec_len (by decide) h0)
    rw [← T_of_int] at this
    exact this
end

theorem retT {news : List (Addr × Obj)} {h₀ h' : Heap} {L : Addr} {m : PySem.Str → Option Value} {s : Shared} {Q : Value → Shared → Prop} {a b : List Nat} {t : Tok} {tk' : Nat} (hret : RetV news (Value.str (T b)) h₀ L m s Q) (e : a = b)
    (F : Fr h₀ L h' m) (N : News h₀ L h' news) : Q (.str (T a) t) { s with heap := h', toks := tk' } := by
  subst e
  exact hret _ _ _ F N

/-- a pair of ints: the text's own NOUGHT, or one of the ledger's -/
def Held (news : List (Addr × Obj)) (D : Addr) (x y : Int) : Prop := (D = 15 ∧ x = 0 ∧ y = 0) ∨ ∃ t1 t2 c, (D, tup2 (.int x t1) (.int y t2) c) ∈ news
theorem Held.sub {news news' : List (Addr × Obj)} {D : Addr} {x y : Int} (H : Held news D x y) (hs : ∀ p ∈ news, p ∈ news') : Held news' D x y :=
  H.imp id fun ⟨t1, t2, c, h⟩ => ⟨t1, t2, c, hs _ h⟩
theorem Held.of {news : List (Addr × Obj)} {D : Addr} {x y : Int} {t1 t2 : Tok} {c : Nat} (h : (D, tup2 (.int x t1) (.int y t2) c) ∈ news) : Held news D x y := .inr ⟨_, _, _, h⟩
theorem nought_in (w : World) : (hd.heap_39 w.params).lookup 15 = some (tup2 (.int 0 189) (.int 0 190) 0) := rfl
theorem Held.tup {w : World} {h₀ h : Heap} {L D : Addr} {m : PySem.Str → Option Value} {news : List (Addr × Obj)} {x y : Int} (F : Fr h₀ L h m) (X : (hd.heap_39 w.params).In h₀) (N : News h₀ L h news) (H : Held news D x y) :
    ∃ t1 t2, IsTup h D [.int x t1, .int y t2].toArray := by
  rcases H with ⟨rfl, rfl, rfl⟩ | ⟨t1, t2, c, hm⟩
  · exact ⟨_, _, _, (X.keeps F.keep) _ _ (nought_in w), rfl, _, rfl⟩
  · exact ⟨t1, t2, N.isTup hm⟩
abbrev RetH (news : List (Addr × Obj)) (x y : Int) : Heap → Addr → (PySem.Str → Option Value) → Shared → (Value → Shared → Prop) → Prop :=
  fun h₀ L m s Q => ∀ (D : Addr) (own : List (Addr × Obj)) (h' : Heap) (tk' : Nat), Fr h₀ L h' m → News h₀ L h' (news ++ own) → Held own D x y → Q (.ref D) { s with heap := h', toks := tk' }

section
variable {prog : Program} {w w' : World} {A : Around} {E : Value → Shared → Prop} {s : Shared} {env : Env} {h₀ : Heap} {L D : Addr} {m : PySem.Str → Option Value} {news : List (Addr × Obj)} {x y : Int}
theorem unpack_H {elts : List PySem.Expr} {k : Nat} {pos : Pos} {Q : Unit → Shared → Prop} (F : Fr h₀ L s.heap m) (X : (hd.heap_39 w.params).In h₀) (N : News h₀ L s.heap news) (H : Held news D x y)
    (hh : A.handled = none) (hn : (assignEach elts env).length = 2) (hstar : (assignEach elts env).findIdx? (·.1) = none)
    (h : ∀ t1 t2 h', Fr h₀ L h' m → News h₀ L h' news → wpAny (model prog w) A (assignInOrder ((assignEach elts env).map (·.2)) [.int x t1, .int y t2]) Q E { s with heap := h' }) :
    wpAny (model prog w) A (assign (.Tuple elts k pos) env (.ref D)) Q E s := by
  obtain ⟨t1, t2, ht⟩ := Held.tup F X N H
  exact unpackN_ F N ht hh hn hstar (h t1 t2)
theorem item_H0 {value slice : PySem.Expr} {u : Tok} {Q : Value → Shared → Prop} (F : Fr h₀ L s.heap m) (X : (hd.heap_39 w.params).In h₀) (N : News h₀ L s.heap news) (H : Held news D x y) (h : ∀ t, Q (.int x t) s)
    (hs : subscripted slice false (.ref D) (.int 0 u) = operate [.ref D, .int 0 u] (getItem (.ref D) (.int 0 u)))  :
    wpAny (model prog w) A (subscriptTail value slice (.ref D) (.int 0 u)) Q E s := by
  obtain ⟨t1, t2, ht⟩ := Held.tup F X N H
  exact item_tupleT (j := 0) ht (by decide) (by decide) rfl rfl (h t1) hs
theorem item_H1 {value slice : PySem.Expr} {u : Tok} {Q : Value → Shared → Prop} (F : Fr h₀ L s.heap m) (X : (hd.heap_39 w.params).In h₀) (N : News h₀ L s.heap news) (H : Held news D x y) (h : ∀ t, Q (.int y t) s)
    (hs : subscripted slice false (.ref D) (.int 1 u) = operate [.ref D, .int 1 u] (getItem (.ref D) (.int 1 u)))  :
    wpAny (model prog w) A (subscriptTail value slice (.ref D) (.int 1 u)) Q E s := by
  obtain ⟨t1, t2, ht⟩ := Held.tup F X N H
  exact item_tupleT (j := 1) ht (by decide) (by decide) rfl rfl (h t2) hs
end

section
variable {prog : Program} {w : World} {A : Around} {E : Value → Shared → Prop} {s : Shared} {h₀ : Heap} {L : Addr} {m : PySem.Str → Option Value} {news : List (Addr × Obj)} {x y : Int} {t u : Tok} {Q : Value → Shared → Prop}
theorem min_same (hh : A.handled = none) (F : Fr h₀ L s.heap m) (N : News h₀ L s.heap news) (h : ∀ t h' tk, Fr h₀ L h' m → News h₀ L h' news → Q (.int x t) { s with heap := h', toks := tk }) :
    wpAny (model prog w) A (call (.builtin "min") [.int x t, .int x u]) Q E s :=
  min_two_N hh F N fun h' tk F' N' => by
    have := h t h' tk F' N'
    simpa using this
theorem max_T (hh : A.handled = none) (F : Fr h₀ L s.heap m) (N : News h₀ L s.heap news) (h : ∀ t h' tk, Fr h₀ L h' m → News h₀ L h' news → Q (.int (max x y) t) { s with heap := h', toks := tk }) :
    wpAny (model prog w) A (call (.builtin "max") [.int x t, .int y u]) Q E s :=
  max_two_N hh F N fun h' tk F' N' => by
    have e : (if y > x then y else x) = max x y := by split <;> omega
    rw [e]
    exact h _ h' tk F' N'
theorem pow_0 (hn : y = 0) (h : ∀ t k, Q (.int 1 t) { s with toks := k }) : wpAny (model prog w) A (binaryOp .Pow (.int 10 t) (.int y u)) Q E s := by
  subst hn
  exact pow_int_small (by decide) (by decide) (by decide) (h _ _)
theorem mul_1 (h : ∀ t k, Q (.int x t) { s with toks := k }) : wpAny (model prog w) A (binaryOp .Mult (.int x t) (.int 1 u)) Q E s :=
  PyProof.Rows.mul_int (by rw [Int.mul_one]; exact h _ _) (IntMulOk.of_right (by decide +kernel))
end

theorem retI {news : List (Addr × Obj)} {h₀ h' : Heap} {L : Addr} {m : PySem.Str → Option Value} {s : Shared} {Q : Value → Shared → Prop} {a b : Int} {t : Tok} {tk' : Nat} (hret : RetV news (Value.int b) h₀ L m s Q) (e : a = b)
    (F : Fr h₀ L h' m) (N : News h₀ L h' news) : Q (.int a t) { s with heap := h', toks := tk' } := by
  subst e
  exact hret _ _ _ F N

/-- a value's ways meet: an int of which P holds -/
def CutI (h₀ : Heap) (L : Addr) (m : PySem.Str → Option Value) (news : List (Addr × Obj)) (s : Shared) (P : Int → Prop) (v : Value) (s' : Shared) : Prop :=
  ∃ x t h tk, v = .int x t ∧ s' = { s with heap := h, toks := tk } ∧ Fr h₀ L h m ∧ News h₀ L h news ∧ P x
section
variable {M : Model} {A : Around} {E : Value → Shared → Prop} {s : Shared} {h₀ h : Heap} {L : Addr} {m : PySem.Str → Option Value} {news : List (Addr × Obj)} {x : Int} {t : Tok} {tk : Nat}
theorem cut_int {Q : Value → Shared → Prop} {cm : Sem Value} (P : Int → Prop) (_F : Fr h₀ L s.heap m) (_N : News h₀ L s.heap news) (hc : wpAny M A cm (CutI h₀ L m news s P) E s)
    (hk : ∀ x t h tk, P x → Fr h₀ L h m → News h₀ L h news → Q (.int x t) { s with heap := h, toks := tk }) : wpAny M A cm Q E s :=
  wpAny_mono hc (fun v s' ⟨x, t, h, tk, hv, hs, F, N, hp⟩ => by rw [hv, hs]; exact hk x t h tk hp F N) fun _ _ e => e
theorem cutI_end {P : Int → Prop} (F : Fr h₀ L h m) (N : News h₀ L h news) (hp : P x) : CutI h₀ L m news s P (.int x t) { s with heap := h, toks := tk } := ⟨_, _, _, _, rfl, rfl, F, N, hp⟩
end
/-- a statement's ways meet: names that hold ints of which P holds -/
def frN : List (PySem.Str × Int × Tok) → (PySem.Str → Option Value) → PySem.Str → Option Value
  | [], m => m
  | p :: r, m => fun z => if z = p.1 then some (.int p.2.1 p.2.2) else frN r m z
def CutN {α : Type} (h₀ : Heap) (L : Addr) (m : PySem.Str → Option Value) (news : List (Addr × Obj)) (s : Shared) (fr : α → List (PySem.Str × Int × Tok)) (P : α → Prop) (fl : Flow) (s' : Shared) : Prop :=
  match fl with
  | .next => ∃ c h tk, s' = { s with heap := h, toks := tk } ∧ Fr h₀ L h (frN (fr c) m) ∧ News h₀ L h news ∧ P c
  | _ => False
section
variable {M : Model} {A : Around} {E : Value → Shared → Prop} {s : Shared} {h₀ h : Heap} {L : Addr} {m m' : PySem.Str → Option Value} {news : List (Addr × Obj)} {x : Int} {t : Tok} {tk : Nat} {α : Type} {fr : α → List (PySem.Str × Int × Tok)} {P : α → Prop}
theorem cut_stmt {Q : Flow → Shared → Prop} {cm : Sem Flow} (fr : α → List (PySem.Str × Int × Tok)) (P : α → Prop) (_F : Fr h₀ L s.heap m) (_N : News h₀ L s.heap news) (hc : wpAny M A cm (CutN h₀ L m news s fr P) E s)
    (hk : ∀ c h tk, P c → Fr h₀ L h (frN (fr c) m) → News h₀ L h news → Q .next { s with heap := h, toks := tk }) : wpAny M A cm Q E s :=
  wpAny_mono hc (fun fl s' q => by
    cases fl with
    | next => obtain ⟨c, h, tk, hs, F, N, hp⟩ := q; rw [hs]; exact hk c h tk hp F N
    | ret v => exact q.elim
    | brk => exact q.elim
    | cont => exact q.elim) fun _ _ e => e
theorem cutN_end (c : α) (F : Fr h₀ L h m') (N : News h₀ L h news) (e : m' = frN (fr c) m) (hp : P c) : CutN h₀ L m news s fr P .next { s with heap := h, toks := tk } := ⟨c, h, tk, rfl, e ▸ F, N, hp⟩
end

section
variable {x y : Int} {p P Q : Prop} [Decidable p]
theorem ite_ieq_t (h : x = y) (hp : P) : if (x == y) = true then P else Q := by rw [if_pos (by simp [h])]; exact hp
theorem ite_ieq_f (h : x ≠ y) (hq : Q) : if (x == y) = true then P else Q := by rw [if_neg (by simp [h])]; exact hq
theorem ite_dec_t (h : p) (hp : P) : if decide p = true then P else Q := by rw [if_pos (by simp [h])]; exact hp
theorem ite_dec_f (h : ¬ p) (hq : Q) : if decide p = true then P else Q := by rw [if_neg (by simp [h])]; exact hq
end

/-- a test's ways meet -/
def CutB (h₀ : Heap) (L : Addr) (m : PySem.Str → Option Value) (news : List (Addr × Obj)) (s : Shared) (P : Bool → Prop) (b : Bool) (s' : Shared) : Prop :=
  ∃ h tk, s' = { s with heap := h, toks := tk } ∧ Fr h₀ L h m ∧ News h₀ L h news ∧ P b
section
variable {M : Model} {A : Around} {E : Value → Shared → Prop} {s : Shared} {h₀ h : Heap} {L : Addr} {m : PySem.Str → Option Value} {news : List (Addr × Obj)} {b : Bool} {tk : Nat}
theorem cut_bool {Q : Bool → Shared → Prop} {cm : Sem Bool} (P : Bool → Prop) (_F : Fr h₀ L s.heap m) (_N : News h₀ L s.heap news) (hc : wpAny M A cm (CutB h₀ L m news s P) E s)
    (hk : ∀ b h tk, P b → Fr h₀ L h m → News h₀ L h news → Q b { s with heap := h, toks := tk }) : wpAny M A cm Q E s :=
  wpAny_mono hc (fun b s' ⟨h, tk, hs, F, N, hp⟩ => by rw [hs]; exact hk b h tk hp F N) fun _ _ e => e
theorem cutB_end {P : Bool → Prop} (F : Fr h₀ L h m) (N : News h₀ L h news) (hp : P b) : CutB h₀ L m news s P b { s with heap := h, toks := tk } := ⟨_, _, rfl, F, N, hp⟩
end

theorem Held.reads {w : World} {h₀ h : Heap} {L D : Addr} {m : PySem.Str → Option Value} {news : List (Addr × Obj)} {x y : Int} (F : Fr h₀ L h m) (X : (hd.heap_39 w.params).In h₀) (N : News h₀ L h news) (H : Held news D x y) :
    ∃ as, Reads h (.ref D) (.tuple [.int x, .int y]) as := by
  obtain ⟨t1, t2, o, ho, hc, n, hd⟩ := Held.tup F X N H
  exact ⟨_, reads_tuple_at ho hc hd (.cons (.int _ _) (.cons (.int _ _) .nil))⟩
section
variable {prog : Program} {w w' : World} {A : Around} {E : Value → Shared → Prop} {s : Shared} {h₀ : Heap} {L D1 D2 : Addr} {m : PySem.Str → Option Value} {news : List (Addr × Obj)} {x y : Int} {Q : Value → Shared → Prop}
theorem eqv_pair (x y : Int) : PyData.eqv (.tuple [.int x, .int y]) (.tuple [.int x, .int y]) = true := by simp [PyData.eqv, PyData.eqvAll]
theorem ne_H (F : Fr h₀ L s.heap m) (X : (hd.heap_39 w.params).In h₀) (N : News h₀ L s.heap news) (H1 : Held news D1 x y) (H2 : Held news D2 x y) (hu : A.units + 64 < cLine) (h : Q (.bool false) s) :
    wpAny (model prog w') A (compareOp .NotEq (.ref D1) (.ref D2)) Q E s := by
  obtain ⟨_, r1⟩ := Held.reads F X N H1
  obtain ⟨_, r2⟩ := Held.reads F X N H2
  refine PyProof.Rows.ne_dataH r1 r2 rfl rfl hu ?_
  rw [eqv_pair]
  exact h
theorem eq_H (F : Fr h₀ L s.heap m) (X : (hd.heap_39 w.params).In h₀) (N : News h₀ L s.heap news) (H1 : Held news D1 x y) (H2 : Held news D2 x y) (hu : A.units + 64 < cLine) (h : Q (.bool true) s) :
    wpAny (model prog w') A (compareOp .Eq (.ref D1) (.ref D2)) Q E s := by
  obtain ⟨_, r1⟩ := Held.reads F X N H1
  obtain ⟨_, r2⟩ := Held.reads F X N H2
  refine PyProof.Rows.eq_dataH r1 r2 rfl rfl hu ?_
  rw [eqv_pair]
  exact h
theorem news_left {h : Heap} {l own : List (Addr × Obj)} (N : News h₀ L h (l ++ own)) : News h₀ L h l := fun p hp => N p (List.mem_append_left _ hp)
theorem news_left2 {h : Heap} {d : Addr × Obj} {l own : List (Addr × Obj)} (N : News h₀ L h (d :: (l ++ own))) : News h₀ L h l := fun p hp => N p (List.mem_cons_of_mem _ (List.mem_append_left _ hp))
end

/-! rules for the law's own steps -/
section
variable {prog : Program} {w : World} {M : Model} {A : Around} {E : Value → Shared → Prop} {s : Shared} {h₀ h : Heap} {L : Addr} {m : PySem.Str → Option Value} {news : List (Addr × Obj)} {x b : Int} {t u : Tok} {Q : Value → Shared → Prop} {k tk : Nat} {l : List Nat}
theorem mod_T (hb : 0 < b) (h : ∀ t k, Q (.int (x % b) t) { s with toks := k }) : wpAny (model prog w) A (binaryOp .Mod (.int x t) (.int b u)) Q E s :=
  mod_int' (by omega) (by rw [Int.fmod_eq_emod_of_nonneg _ (by omega)]; exact h _ _)
theorem pow_T (h0 : 0 ≤ x) (h1 : x ≤ 100) (h : ∀ t k, Q (.int (10 ^ x.toNat) t) { s with toks := k }) : wpAny (model prog w) A (binaryOp .Pow (.int 10 t) (.int x u)) Q E s :=
  pow_int_small h0 (by omega) (by decide) (h _ _)
theorem pow_log {k : Nat} (hk : k ≤ 100) : ((10 : Int) ^ k).natAbs.log2 < 9000 := by
  have h1 : ((10 : Int) ^ k).natAbs = 10 ^ k := by rw [Int.natAbs_pow]; rfl
  rw [h1]
  have h2 : (10 : Nat) ^ k ≠ 0 := Nat.ne_of_gt (Nat.pow_pos (by decide))
  have h3 : (10 : Nat) ^ k ≤ 10 ^ 100 := Nat.pow_le_pow_right (by decide) hk
  have h4 : (10 : Nat) ^ 100 < 2 ^ 400 := by decide +kernel
  have := (Nat.log2_lt h2 (k := 400)).mpr (by omega)
  omega
theorem div_T {k : Nat} (hk : k ≤ 100) (h : ∀ t tk, Q (.int (x / 10 ^ k) t) { s with toks := tk }) : wpAny (model prog w) A (binaryOp .FloorDiv (.int x t) (.int (10 ^ k) u)) Q E s :=
  floordiv_int (Int.ne_of_gt (Int.pow_pos (by decide))) (by rw [Int.fdiv_eq_ediv_of_nonneg _ (Int.le_of_lt (Int.pow_pos (by decide)))]; exact h _ _) (.inl (PyProof.noPylong_of_log2 (pow_log hk)))
theorem mul_s (hs : x = 1 ∨ x = -1) (h : ∀ t k, Q (.int (x * b) t) { s with toks := k }) : wpAny (model prog w) A (binaryOp .Mult (.int x t) (.int b u)) Q E s :=
  PyProof.Rows.mul_int (h _ _) (IntMulOk.of_left (by rcases hs with rfl | rfl <;> decide +kernel))
/-- a text's ways meet -/
def CutS (h₀ : Heap) (L : Addr) (m : PySem.Str → Option Value) (news : List (Addr × Obj)) (s : Shared) (l : List Nat) (v : Value) (s' : Shared) : Prop :=
  ∃ t h tk, v = .str (T l) t ∧ s' = { s with heap := h, toks := tk } ∧ Fr h₀ L h m ∧ News h₀ L h news
theorem cut_str {cm : Sem Value} (l : List Nat) (_F : Fr h₀ L s.heap m) (_N : News h₀ L s.heap news) (hc : wpAny M A cm (CutS h₀ L m news s l) E s)
    (hk : ∀ t h tk, Fr h₀ L h m → News h₀ L h news → Q (.str (T l) t) { s with heap := h, toks := tk }) : wpAny M A cm Q E s :=
  wpAny_mono hc (fun v s' ⟨t, h, tk, hv, hs, F, N⟩ => by rw [hv, hs]; exact hk t h tk F N) fun _ _ e => e
theorem cutS_end {a : List Nat} (F : Fr h₀ L h m) (N : News h₀ L h news) (e : a = l) : CutS h₀ L m news s l (.str (T a) t) { s with heap := h, toks := tk } := ⟨t, h, tk, by rw [e], rfl, F, N⟩
end

/-- the law's digits, first place, sign and pair -/
def Sit (d : List Nat) (f sg x y : Int) : Prop :=
  (d = [48] ∧ f = 0 ∧ sg = 1 ∧ x = 0 ∧ y = 0) ∨
  ∃ n : Nat, 0 < n ∧ n % 10 ≠ 0 ∧ n < 10 ^ 15 ∧ d = digs n ∧ (sg = 1 ∨ sg = -1) ∧ x = sg * (n : Int) ∧ y = f - (d.length : Int) + 1 ∧ -1000 ≤ f ∧ f ≤ 1000
/-- the ways behind the law's choice of its pair meet -/
def CutP (h₀ : Heap) (L : Addr) (m : PySem.Str → Option Value) (s : Shared) (fl : Flow) (s' : Shared) : Prop :=
  match fl with
  | .next => ∃ (d : List Nat) (f sg x y : Int) (t1 t2 t3 : Tok) (D : Addr) (u1 u2 : Tok) (c : Nat) (h : Heap) (tk : Nat), s' = { s with heap := h, toks := tk } ∧
      Fr h₀ L h (fun z => if z = PySem.Str.ofString "row" then some (.str (T d) t1) else if z = PySem.Str.ofString "first" then some (.int f t2) else if z = PySem.Str.ofString "sign" then some (.int sg t3) else if z = PySem.Str.ofString "pair" then some (.ref D) else m z) ∧
      News h₀ L h [(D, tup2 (.int x u1) (.int y u2) c)] ∧ Sit d f sg x y
  | _ => False
section
variable {M : Model} {A : Around} {E : Value → Shared → Prop} {s : Shared} {h₀ h : Heap} {L : Addr} {m m' : PySem.Str → Option Value} {news : List (Addr × Obj)} {Q : Flow → Shared → Prop}
theorem cut_pair {cm : Sem Flow} (_F : Fr h₀ L s.heap m) (hc : wpAny M A cm (CutP h₀ L m s) E s)
    (hk : ∀ (d : List Nat) (f sg x y : Int) (t1 t2 t3 : Tok) (D : Addr) (u1 u2 : Tok) (c : Nat) (h : Heap) (tk : Nat),
      Fr h₀ L h (fun z => if z = PySem.Str.ofString "row" then some (.str (T d) t1) else if z = PySem.Str.ofString "first" then some (.int f t2) else if z = PySem.Str.ofString "sign" then some (.int sg t3) else if z = PySem.Str.ofString "pair" then some (.ref D) else m z) →
      News h₀ L h [(D, tup2 (.int x u1) (.int y u2) c)] → Sit d f sg x y → Q .next { s with heap := h, toks := tk }) : wpAny M A cm Q E s :=
  wpAny_mono hc (fun fl s' q => by
    cases fl with
    | next => obtain ⟨d, f, sg, x, y, t1, t2, t3, D, u1, u2, c, h, tk, hs, F, N, hp⟩ := q; rw [hs]; exact hk d f sg x y t1 t2 t3 D u1 u2 c h tk F N hp
    | ret v => exact q.elim
    | brk => exact q.elim
    | cont => exact q.elim) fun _ _ e => e
theorem cutP_end {d : List Nat} {f sg x y : Int} {t1 t2 t3 : Tok} {D : Addr} {u1 u2 : Tok} {c tk : Nat} (F : Fr h₀ L h m') (N : News h₀ L h news)
    (hr : m' (PySem.Str.ofString "row") = some (.str (T d) t1)) (hf : m' (PySem.Str.ofString "first") = some (.int f t2)) (hg : m' (PySem.Str.ofString "sign") = some (.int sg t3)) (hq : m' (PySem.Str.ofString "pair") = some (.ref D))
    (hz : ∀ z, z ≠ PySem.Str.ofString "row" → z ≠ PySem.Str.ofString "first" → z ≠ PySem.Str.ofString "sign" → z ≠ PySem.Str.ofString "pair" → m' z = m z)
    (hm : (D, tup2 (.int x u1) (.int y u2) c) ∈ news) (hp : Sit d f sg x y) : CutP h₀ L m s .next { s with heap := h, toks := tk } := by
  have e : m' = fun z => if z = PySem.Str.ofString "row" then some (.str (T d) t1) else if z = PySem.Str.ofString "first" then some (.int f t2) else if z = PySem.Str.ofString "sign" then some (.int sg t3) else if z = PySem.Str.ofString "pair" then some (.ref D) else m z := by
    funext z
    by_cases h1 : z = PySem.Str.ofString "row"
    · rw [if_pos h1, h1, hr]
    · rw [if_neg h1]
      by_cases h2 : z = PySem.Str.ofString "first"
      · rw [if_pos h2, h2, hf]
      · rw [if_neg h2]
        by_cases h3 : z = PySem.Str.ofString "sign"
        · rw [if_pos h3, h3, hg]
        · rw [if_neg h3]
          by_cases h4 : z = PySem.Str.ofString "pair"
          · rw [if_pos h4, h4, hq]
          · rw [if_neg h4, hz z h1 h2 h3 h4]
  exact ⟨d, f, sg, x, y, t1, t2, t3, D, u1, u2, c, h, tk, rfl, e ▸ F, fun p hp => by rw [List.mem_singleton.mp hp]; exact N _ hm, hp⟩
end

/-- a statement that only looks -/
def CutK (h₀ : Heap) (L : Addr) (m : PySem.Str → Option Value) (news : List (Addr × Obj)) (s : Shared) (fl : Flow) (s' : Shared) : Prop :=
  match fl with
  | .next => ∃ h tk, s' = { s with heap := h, toks := tk } ∧ Fr h₀ L h m ∧ News h₀ L h news
  | _ => False
section
variable {M : Model} {A : Around} {E : Value → Shared → Prop} {s : Shared} {h₀ h : Heap} {L : Addr} {m : PySem.Str → Option Value} {news : List (Addr × Obj)} {tk : Nat}
theorem cut_keep {Q : Flow → Shared → Prop} {cm : Sem Flow} (_F : Fr h₀ L s.heap m) (_N : News h₀ L s.heap news) (hc : wpAny M A cm (CutK h₀ L m news s) E s)
    (hk : ∀ h tk, Fr h₀ L h m → News h₀ L h news → Q .next { s with heap := h, toks := tk }) : wpAny M A cm Q E s :=
  wpAny_mono hc (fun fl s' q => by
    cases fl with
    | next => obtain ⟨h, tk, hs, F, N⟩ := q; rw [hs]; exact hk h tk F N
    | ret v => exact q.elim
    | brk => exact q.elim
    | cont => exact q.elim) fun _ _ e => e
theorem cutK_end (F : Fr h₀ L h m) (N : News h₀ L h news) : CutK h₀ L m news s .next { s with heap := h, toks := tk } := ⟨h, tk, rfl, F, N⟩
end

/-! the walk's own lines -/
local macro_rules | `(tactic| walk_at "eval Constant str") => `(tactic| (k_here; (refine' const_T ?lit ?_); (case lit => with_reducible first | exact l_nil | exact l_minus | exact l_plus | exact l_dot | exact l_E | exact l_D | exact l_0 | exact l_sp | exact l_Dp | exact l_fig); intro _ _))
local macro_rules | `(tactic| walk_at "compareOp Eq str str") => `(tactic| (k_here; (with_reducible show wpAny _ _ (compareOp CmpOp.Eq (Value.str (T _) _) (Value.str (T _) _)) _ _ _); refine eq_T ?_))
local macro_rules | `(tactic| walk_at "compareOp NotEq str str") => `(tactic| (k_here; (with_reducible show wpAny _ _ (compareOp CmpOp.NotEq (Value.str (T _) _) (Value.str (T _) _)) _ _ _); refine ne_T ?_))
local macro_rules | `(tactic| walk_at "binaryOp Add str str") => `(tactic| (k_here; (with_reducible show wpAny _ _ (binaryOp Operator.Add (Value.str (T _) _) (Value.str (T _) _)) _ _ _); (refine add_T ?sz ?_); (case sz => ((try simp only [List.length_append, List.length_cons, List.length_nil, List.length_replicate]); omega)); intro _ _))
local macro_rules | `(tactic| walk_at "call builtin:len") => `(tactic| (k_here; (with_reducible show wpAny _ _ (call (Value.builtin "len") [Value.str (T _) _]) _ _ _); (refine len_T ?sz ?_); (case sz => ((try simp only [List.length_append, List.length_cons, List.length_nil, List.length_replicate]); omega)); intro _ _))
local macro_rules | `(tactic| walk_at "subscriptTail Name Name str int") => `(tactic| (k_here; (with_reducible show wpAny _ _ (subscriptTail _ _ (Value.str (T _) _) (Value.int _ _)) _ _ _); (refine item_Tg ?lo ?hi ?sz ?_ ?hs ?ht); (case lo => omega); (case hi => ((try simp only [List.length_cons, List.length_nil]); omega)); (case sz => ((try simp only [List.length_cons, List.length_nil]); omega)); (case hs => with_unfolding_all rfl); (case ht => (intro _; with_unfolding_all rfl)); intro _ _))
local macro_rules | `(tactic| walk_at "subscriptTail Name Constant str int") => `(tactic| (k_here; (with_reducible show wpAny _ _ (subscriptTail _ _ (Value.str (T _) _) (Value.int _ _)) _ _ _); (refine item_Tg ?lo ?hi ?sz ?_ ?hs ?ht); (case lo => omega); (case hi => ((try simp only [List.length_cons, List.length_nil]); omega)); (case sz => ((try simp only [List.length_cons, List.length_nil]); omega)); (case hs => with_unfolding_all rfl); (case ht => (intro _; with_unfolding_all rfl)); intro _ _))
local macro_rules | `(tactic| walk_at "subscriptTail Constant") => `(tactic| (k_here; (with_reducible show wpAny _ _ (subscriptTail _ _ (Value.str (T _) _) (Value.int _ _)) _ _ _); (refine item_Tg ?lo ?hi ?sz ?_ ?hs ?ht); (case lo => omega); (case hi => ((try simp only [List.length_cons, List.length_nil]); omega)); (case sz => ((try simp only [List.length_cons, List.length_nil]); omega)); (case hs => with_unfolding_all rfl); (case ht => (intro _; with_unfolding_all rfl)); intro _ _))
local macro_rules | `(tactic| walk_at "subscriptTail Name Slice str ref") => `(tactic| (k_here; (with_reducible rename Fr _ _ _ _ => F'); (with_reducible rename News _ _ _ _ => N'); first
  | ((with_reducible show wpAny _ _ (subscriptTail _ (Expr.Slice none (some _) none _) (Value.str (T _) _) _) _ _ _); (refine slT_ns (s := ⟨_, _, _, _, _⟩) F' N' ?sz ?_ ?hs ?ht); (case sz => ((try simp only [List.length_append, List.length_cons, List.length_nil, List.length_replicate]); omega)); (case hs => with_unfolding_all rfl); (case ht => (intro _; with_unfolding_all rfl)); intro _ _ _ _ _ hz'; (try simp only [List.length_append, List.length_cons, List.length_nil, List.length_replicate] at hz'))
  | ((with_reducible show wpAny _ _ (subscriptTail _ (Expr.Slice (some _) none none _) (Value.str (T _) _) _) _ _ _); (refine slT_sn (s := ⟨_, _, _, _, _⟩) F' N' ?sz ?_ ?hs ?ht); (case sz => ((try simp only [List.length_append, List.length_cons, List.length_nil, List.length_replicate]); omega)); (case hs => with_unfolding_all rfl); (case ht => (intro _; with_unfolding_all rfl)); intro _ _ _ _ _ hz'; (try simp only [List.length_append, List.length_cons, List.length_nil, List.length_replicate] at hz'))
  | ((with_reducible show wpAny _ _ (subscriptTail _ (Expr.Slice (some _) (some _) none _) (Value.str (T _) _) _) _ _ _); (refine slT_ss (s := ⟨_, _, _, _, _⟩) F' N' ?sz ?_ ?hs ?ht); (case sz => ((try simp only [List.length_append, List.length_cons, List.length_nil, List.length_replicate]); omega)); (case hs => with_unfolding_all rfl); (case ht => (intro _; with_unfolding_all rfl)); intro _ _ _ _ _ hz'; (try simp only [List.length_append, List.length_cons, List.length_nil, List.length_replicate] at hz'))))
local macro_rules | `(tactic| walk_at "binaryOp Mult str int") => `(tactic| (k_here; (with_reducible show wpAny _ _ (binaryOp Operator.Mult (Value.str (T [_]) _) (Value.int _ _)) _ _ _); (refine mul_T ?lo ?hi ?_); (case lo => omega); (case hi => omega); intro _ _))
local macro_rules | `(tactic| walk_at "call builtin:str.find") => `(tactic| (k_here; (with_reducible show wpAny _ _ (call (Value.builtin "str.find") [Value.str (PySem.Str.ofString "0123456789") _, Value.str (T [_]) _]) _ _ _); (refine find_T ?_); intro _ _))
local macro_rules | `(tactic| walk_at "call builtin:str.rstrip") => `(tactic| (k_here; (with_reducible show wpAny _ _ (call (Value.builtin "str.rstrip") [Value.str (T _) _, Value.str (T [48]) _]) _ _ _); (refine rstrip_T ?sz ?_); (case sz => omega); intro _ _ _))
local macro_rules | `(tactic| walk_at "call type:str") => `(tactic| (k_here; (with_reducible show wpAny _ _ (call (Value.type "str") [Value.int _ _]) _ _ _); (refine str_T ?sz ?_); (case sz => omega); intro _ _ _))
local macro_rules | `(tactic| walk_at "exec For Name Subscript cons nil") => `(tactic| (k_here; (rename Fr _ _ _ _ => lF'); (with_unfolding_all refine' For_invVF lF' ?k1 ?k2 ?_; (case k1 => exact rfl); (case k2 => exact rfl); k_whole)))
local macro_rules | `(tactic| walk_at "call builtin:str.find") => `(tactic| (k_here; (with_reducible show wpAny _ _ (call (Value.builtin "str.find") [Value.str (PySem.Str.ofString "0123456789") _, Value.str (PySem.Str.mk _) _]) _ _ _); (refine find_Tm ?_); intro _ _))
local macro_rules | `(tactic| walk_at "binaryOp Mod int int") => `(tactic| (k_here; (with_reducible show wpAny _ _ (binaryOp Operator.Mod (Value.int _ _) (Value.int 10 _)) _ _ _); (refine mod_10 ?_); intro _ _))
local macro_rules | `(tactic| walk_at "binaryOp FloorDiv int int") => `(tactic| (k_here; (with_reducible show wpAny _ _ (binaryOp Operator.FloorDiv (Value.int _ _) (Value.int 10 _)) _ _ _); (refine div_10 ?_); intro _ _))
local macro_rules | `(tactic| walk_at "inplaceOp FloorDiv int int") => `(tactic| (k_here; (with_reducible show wpAny _ _ (inplaceOp Operator.FloorDiv (Value.int _ _) (Value.int 10 _)) _ _ _); (refine idiv_10 ?_); intro _ _))
local macro_rules | `(tactic| walk_at "call builtin:abs") => `(tactic| (k_here; (with_reducible show wpAny _ _ (call (Value.builtin "abs") [Value.int _ _]) _ _ _); (refine abs_T ?_); intro _ _))
local macro_rules | `(tactic| ktr_rel) => `(tactic| first | assumption | exact Held.of (by k_mem) | exact Held.sub (by assumption) (fun p hp => List.mem_cons_of_mem _ hp))
local macro_rules | `(tactic| walk_at "assign Tuple") => `(tactic| (k_here; (with_reducible show wpAny _ _ (assign (Expr.Tuple _ _ _) _ (Value.ref _)) _ _ _); k_dflt (refine' unpack_H ?k1 ?k2 ?k3 ?k4 ?k5 ?k6 ?k7 ?_; (case k1 => k_asm); (case k2 => k_asm); (case k3 => k_asm); (case k4 => ktr_rel); (case k5 => exact rfl); (case k6 => exact rfl); (case k7 => exact rfl)); intro t1' t2' h' F' N'; (try k_sweep)))
local macro_rules | `(tactic| walk_at "subscriptTail Name Constant ref int") => `(tactic| (k_here; first
  | ((with_reducible show wpAny _ _ (subscriptTail _ _ (Value.ref _) (Value.int 0 _)) _ _ _); k_dflt (refine' item_H0 ?k1 ?k2 ?k3 ?k4 ?_ ?hs; (case k1 => k_asm); (case k2 => k_asm); (case k3 => k_asm); (case k4 => ktr_rel); (case hs => with_unfolding_all rfl)); intro t')
  | ((with_reducible show wpAny _ _ (subscriptTail _ _ (Value.ref _) (Value.int 1 _)) _ _ _); k_dflt (refine' item_H1 ?k1 ?k2 ?k3 ?k4 ?_ ?hs; (case k1 => k_asm); (case k2 => k_asm); (case k3 => k_asm); (case k4 => ktr_rel); (case hs => with_unfolding_all rfl)); intro t')))
local macro_rules | `(tactic| walk_at "call builtin:min") => `(tactic| (k_here; (with_reducible show wpAny _ _ (call (Value.builtin "min") [Value.int _ _, Value.int _ _]) _ _ _); k_dflt (refine' min_same ?k1 ?k2 ?k3 ?_; (case k1 => exact rfl); (case k2 => k_asm); (case k3 => k_asm)); intro t' h' tk' F' N'; (try k_sweep)))
local macro_rules | `(tactic| walk_at "call builtin:max") => `(tactic| (k_here; (with_reducible show wpAny _ _ (call (Value.builtin "max") [Value.int _ _, Value.int _ _]) _ _ _); k_dflt (refine' max_T ?k1 ?k2 ?k3 ?_; (case k1 => exact rfl); (case k2 => k_asm); (case k3 => k_asm)); intro t' h' tk' F' N'; (try k_sweep)))
local macro_rules | `(tactic| walk_at "binaryOp Pow int int") => `(tactic| (k_here; (with_reducible show wpAny _ _ (binaryOp Operator.Pow (Value.int 10 _) (Value.int _ _)) _ _ _); (refine pow_0 ?k1 ?_); (case k1 => omega); intro _ _))
local macro_rules | `(tactic| walk_at "binaryOp Mult int int") => `(tactic| (k_here; (with_reducible show wpAny _ _ (binaryOp Operator.Mult (Value.int _ _) (Value.int 1 _)) _ _ _); (refine mul_1 ?_); intro _ _))
local macro_rules | `(tactic| walk_at "subscriptTail Call") => `(tactic| (k_here; first
  | ((with_reducible show wpAny _ _ (subscriptTail _ _ (Value.ref _) (Value.int 0 _)) _ _ _); k_dflt (refine' item_H0 ?k1 ?k2 ?k3 ?k4 ?_ ?hs; (case k1 => k_asm); (case k2 => k_asm); (case k3 => k_asm); (case k4 => ktr_rel); (case hs => with_unfolding_all rfl)); intro t')
  | ((with_reducible show wpAny _ _ (subscriptTail _ _ (Value.ref _) (Value.int 1 _)) _ _ _); k_dflt (refine' item_H1 ?k1 ?k2 ?k3 ?k4 ?_ ?hs; (case k1 => k_asm); (case k2 => k_asm); (case k3 => k_asm); (case k4 => ktr_rel); (case hs => with_unfolding_all rfl)); intro t')))
local macro_rules | `(tactic| walk_at "CutI") => `(tactic| (refine' cutI_end ?k1 ?k2 ?k3; (case k1 => k_asm); (case k2 => k_asm); (case k3 => k_extra "cut")))
local macro_rules | `(tactic| walk_at "ite") => `(tactic| (k_here; first
  | with_reducible refine ite_tt ?_
  | with_reducible refine ite_ff ?_
  | (with_reducible refine ite_ieq_t ?h ?_; (case h => omega))
  | (with_reducible refine ite_ieq_f ?h ?_; (case h => omega))
  | (with_reducible refine split_ieq ?_ ?_ <;> intro _)
  | (with_reducible refine ite_dec_t ?h ?_; (case h => first | with_reducible assumption | omega))
  | (with_reducible refine ite_dec_f ?h ?_; (case h => first | with_reducible assumption | omega))
  | (with_reducible refine split_dec ?_ ?_ <;> intro _)))
local macro_rules | `(tactic| walk_at "CutB") => `(tactic| (refine' cutB_end ?k1 ?k2 ?k3; (case k1 => k_asm); (case k2 => k_asm); (case k3 => k_extra "cutb")))

/-! read_exponent -/
/-- the whole number of a row of figures behind a number read so far; none at another sign -/
def dval : List Nat → Int → Option Int
  | [], n => some n
  | c :: r, n => if figv c < 0 then none else dval r (10 * n + figv c)

theorem dval_app (a b : List Nat) : ∀ n, dval (a ++ b) n = (dval a n).bind (dval b) := by
  induction a with
  | nil => intro n; rfl
  | cons c r ih =>
    intro n
    show (if figv c < 0 then none else dval (r ++ b) _) = (if figv c < 0 then none else dval r _).bind _
    split
    · rfl
    · exact ih _
theorem dval_step {pre : List Int} {found : Int} {n : Nat} (h : dval (pre.map Int.toNat) 0 = some found) (h1 : ¬ figv n < 0) : dval ((pre ++ [(n : Int)]).map Int.toNat) 0 = some (10 * found + figv n) := by
  rw [List.map_append, dval_app, h]
  show (if figv (Int.toNat (n : Int)) < 0 then none else some (10 * found + figv (Int.toNat (n : Int)))) = _
  rw [Int.toNat_natCast, if_neg h1]

def jump (l : List Nat) (i : Int) : Int := if sl l (some (i + 1)) (some (i + 1 + 1)) = [45] ∨ sl l (some (i + 1)) (some (i + 1 + 1)) = [43] then i + 1 + 1 else i + 1
/-- what read_exponent makes of a text -/
def readRaw (l : List Nat) (i : Int) : Option Int :=
  if [l.getD i.toNat 0] ≠ [69] ∧ [l.getD i.toNat 0] ≠ [68] then none
  else if jump l i = (l.length : Int) then none
  else if sl l (some (i + 1)) (some (i + 1 + 1)) = [45] then (dval (sl l (some (jump l i)) none) 0).map (fun n => -n)
  else dval (sl l (some (jump l i)) none) 0

section
variable {l x : List Nat} {i j : Int} {pre post : List Int} {n : Nat} {v : Int} {t : Tok}
theorem codes_T (x : List Nat) : (KStt.codes (T x)).map Int.toNat = x := by
  unfold KStt.codes T
  rw [List.map_map]
  have : (Int.toNat ∘ fun (c : Nat) => (c : Int)) = id := by funext c; simp
  rw [this]
  simp
theorem dval_bad (h : KStt.codes (T x) = pre ++ (n : Int) :: post) (h1 : dval (pre.map Int.toNat) 0 = some v) (h2 : figv n < 0) : dval x 0 = none := by
  have := congrArg (List.map Int.toNat) h
  rw [codes_T, List.map_append, List.map_cons, Int.toNat_natCast] at this
  rw [this, dval_app, h1]
  show (if figv n < 0 then none else _) = none
  rw [if_pos h2]
theorem dval_ok (h : dval ((KStt.codes (T x)).map Int.toNat) 0 = some v) : dval x 0 = some v := by
  rw [codes_T] at h
  exact h
abbrev IsEx (l : List Nat) (i : Int) (b : Bool) : Prop := b = decide ([l.getD i.toNat 0] ≠ [69] ∧ [l.getD i.toNat 0] ≠ [68])
theorem ex_1 (h : [l.getD i.toNat 0] ≠ [69]) (h2 : [l.getD i.toNat 0] ≠ [68]) : IsEx l i true := (decide_eq_true ⟨h, h2⟩).symm
theorem ex_2 (h : ¬ [l.getD i.toNat 0] ≠ [69]) : IsEx l i false := (decide_eq_false fun q => h q.1).symm
theorem ex_3 (h : ¬ [l.getD i.toNat 0] ≠ [68]) : IsEx l i false := (decide_eq_false fun q => h q.2).symm
theorem jump_1 (h : sl l (some (i + 1)) (some (i + 1 + 1)) = [45]) : i + 1 + 1 = jump l i := by unfold jump; rw [if_pos (.inl h)]
theorem jump_2 (h : sl l (some (i + 1)) (some (i + 1 + 1)) = [43]) : i + 1 + 1 = jump l i := by unfold jump; rw [if_pos (.inr h)]
theorem jump_3 (h : ¬ sl l (some (i + 1)) (some (i + 1 + 1)) = [45]) (h2 : ¬ sl l (some (i + 1)) (some (i + 1 + 1)) = [43]) : i + 1 = jump l i := by unfold jump; rw [if_neg (fun q => q.elim h h2)]
theorem jump_lo : i + 1 ≤ jump l i ∧ jump l i ≤ i + 2 := by unfold jump; split <;> omega
theorem rw_0 (h1 : IsEx l i true) : IsOpt (readRaw l i) .none := by
  unfold readRaw
  rw [if_pos (of_decide_eq_true h1.symm)]
  rfl
theorem rw_1 (hE : IsEx l i false) (hj : j = jump l i) (h : j = (l.length : Int)) : IsOpt (readRaw l i) .none := by
  subst hj
  unfold readRaw
  rw [if_neg (of_decide_eq_false hE.symm), if_pos h]
  rfl
theorem rw_2 (hE : IsEx l i false) (hj : j = jump l i) (h0 : j ≠ (l.length : Int)) (h : KStt.codes (T (sl l (some j) none)) = pre ++ (n : Int) :: post) (h3 : dval (pre.map Int.toNat) 0 = some v) (h4 : figv n < 0) : IsOpt (readRaw l i) .none := by
  subst hj
  unfold readRaw
  rw [if_neg (of_decide_eq_false hE.symm), if_neg h0, dval_bad h h3 h4]
  split <;> rfl
theorem rw_3 (hE : IsEx l i false) (hj : j = jump l i) (h0 : j ≠ (l.length : Int)) (h1 : sl l (some (i + 1)) (some (i + 1 + 1)) = [45]) (h : dval ((KStt.codes (T (sl l (some j) none))).map Int.toNat) 0 = some v) : IsOpt (readRaw l i) (.int (-v) t) := by
  subst hj
  unfold readRaw
  rw [if_neg (of_decide_eq_false hE.symm), if_neg h0, if_pos h1, dval_ok h]
  exact ⟨_, rfl⟩
theorem rw_4 (hE : IsEx l i false) (hj : j = jump l i) (h0 : j ≠ (l.length : Int)) (h1 : ¬ sl l (some (i + 1)) (some (i + 1 + 1)) = [45]) (h : dval ((KStt.codes (T (sl l (some j) none))).map Int.toNat) 0 = some v) : IsOpt (readRaw l i) (.int v t) := by
  subst hj
  unfold readRaw
  rw [if_neg (of_decide_eq_false hE.symm), if_neg h0, if_neg h1, dval_ok h]
  exact ⟨_, rfl⟩
theorem fr_same {x : PySem.Str} {c : Int} {t : Tok} {m : PySem.Str → Option Value} (h : m x = some (.int c t)) : m = frN [(x, c, t)] m := by
  funext z
  show m z = if z = x then some (.int c t) else m z
  by_cases e : z = x
  · rw [if_pos e, e, h]
  · rw [if_neg e]
theorem fr_over {x : PySem.Str} {c d : Value} {m : PySem.Str → Option Value} : (fun y => if y = x then some c else if y = x then some d else m y) = fun y => if y = x then some c else m y := by
  funext z
  by_cases e : z = x
  · rw [if_pos e, if_pos e]
  · rw [if_neg e, if_neg e, if_neg e]
end
abbrev atF (c : Int × Tok) : List (PySem.Str × Int × Tok) := [(PySem.Str.ofString "at", c.1, c.2)]

theorem read_exponent_con {w : World} {mean : ExcName → Option Value} {mg mb : Str → Option Value} {news : List (Addr × Obj)} {l : List Nat} {i : Int} {tx te : Tok} :
    Con w mean mg mb 57 2 news [.str (T l) tx, .int i te] (l.length ≤ 10000 ∧ 0 ≤ i ∧ i < l.length) (RetO news (readRaw l i)) := by
  unfold Con; k_fill
  intro dp un gd cn cs a ccd cl outer A₀ base h₀ L m s Q E B F X N Tp hk hpre hdp hun hret
  k_with_none
  w_top off
  k_with "isTrue BoolOp" => (with_reducible show wpAny _ _ (isTrue (Expr.BoolOp BoolOp.And _ _) _ _) _ _ _); (fail_if_success (with_reducible show wpAny _ _ _ (CutB _ _ _ _ _ _) _ _)); (rename Fr _ _ _ _ => lF'); (rename News _ _ _ _ => lN'); (refine' cut_bool (IsEx l i) lF' lN' ?_ ?_); rotate_left; (intro b0 h0 tk0 hb0 F0 N0; try k_sweep); (cases b0)
  k_with "cutb" => first | exact ex_1 (by assumption) (by assumption) | exact ex_2 (by assumption) | exact ex_3 (by assumption)
  k_with "exec If BoolOp" => (with_reducible show wpAny _ _ (exec (Stmt.If (Expr.BoolOp _ _ _) [Stmt.AugAssign _ _ _ _] _ _) _) _ _ _); (fail_if_success (with_reducible show wpAny _ _ _ (CutN _ _ _ _ _ _ _) _ _)); (rename Fr _ _ _ _ => lF'); (rename News _ _ _ _ => lN'); (refine' cut_stmt atF (fun c => c.1 = jump l i) lF' lN' ?_ ?_); rotate_left; (rintro ⟨j1, t1⟩ h1 tk1 hJ F1 N1); (dsimp only [frN, atF] at F1 hJ); (have hj1 := jump_lo (l := l) (i := i)); (rw [← hJ] at hj1); (try k_sweep)
  k_with "CutN" => (first
    | (refine' cutN_end (_, _) ?F ?N ?e ?P; (case F => k_asm); (case N => k_asm); (case e => exact fr_same (by rfl)); (case P => dsimp only; first | exact jump_1 (by assumption) | exact jump_2 (by assumption) | exact jump_3 (by assumption) (by assumption)))
    | (refine' cutN_end (_, _) ?F ?N ?e ?P; (case F => k_asm); (case N => k_asm); (case e => rfl); (case P => dsimp only; first | exact jump_1 (by assumption) | exact jump_2 (by assumption) | exact jump_3 (by assumption) (by assumption))))
  k_with "pyIter str" => k_state (fun pre found => dval (pre.map Int.toNat) 0 = some found) "found"
  k_with "state" => first | exact rfl | exact dval_step (by assumption) (by assumption)
  obtain ⟨hx, hi0, hi1⟩ := hpre
  refine wpAny_call ?_
  k_dflt ktr_enter
  k_steps
  all_goals first
    | ((refine hret _ _ _ ?_ (by k_asm) (by first | k_asm | exact cb_drop (by assumption) (fun p hp => List.mem_append_left _ hp))); first
      | exact rw_0 (by assumption)
      | exact rw_1 (by assumption) (by assumption) (by assumption)
      | exact rw_2 (by assumption) (by assumption) (by assumption) (by assumption) (by assumption) (by assumption)
      | exact rw_3 (by assumption) (by assumption) (by assumption) (by assumption) (by assumption)
      | exact rw_4 (by assumption) (by assumption) (by assumption) (by assumption) (by assumption))
    | trace_state

/-! _law_row -/
/-- the law's own row of figures: none of nought -/
def lrow (m : Int) : List Nat := if m ≤ 0 then [] else digs m.toNat
theorem lrow_step {m : Int} (h : 0 < m) : lrow m = lrow (m / 10) ++ [48 + (m % 10).toNat] := by
  unfold lrow
  rw [if_neg (by omega)]
  by_cases h10 : m < 10
  · rw [if_pos (by omega), digs_lt (by omega)]
    congr 2
    omega
  · rw [if_neg (by omega), digs_ge (by omega)]
    congr 3
    · omega
    · omega
theorem lrow_len {m : Int} (h : m < 10 ^ 16) : (lrow m).length ≤ 16 := by
  unfold lrow
  split
  · exact Nat.zero_le _
  · exact digs_len (by decide) (by omega)
def RowW (m₀ m : Int) (row : PySem.Str) : Prop := ∃ r, row = T r ∧ 0 ≤ m ∧ lrow m ++ r = lrow m₀
theorem row_start {m : Int} (h : 0 ≤ m) : RowW m m (T []) := ⟨[], rfl, h, by simp⟩
theorem row_digit {m : Int} : [48, 49, 50, 51, 52, 53, 54, 55, 56, 57].getD (m % 10).toNat 0 = 48 + (m % 10).toNat := by
  have : ∀ k, k < 10 → [48, 49, 50, 51, 52, 53, 54, 55, 56, 57].getD k 0 = 48 + k := by decide
  exact this _ (by omega)
theorem row_step {m₀ m : Int} {r : List Nat} (h1 : lrow m ++ r = lrow m₀) (h : 0 < m) : RowW m₀ (m / 10) (T ([[48, 49, 50, 51, 52, 53, 54, 55, 56, 57].getD (m % 10).toNat 0] ++ r)) := by
  refine ⟨_, rfl, by omega, ?_⟩
  rw [row_digit, ← h1, lrow_step h]
  simp
theorem row_end {m₀ m : Int} {r : List Nat} (h0 : 0 ≤ m) (h1 : lrow m ++ r = lrow m₀) (h : ¬ 0 < m) : r = lrow m₀ := by
  have : m = 0 := by omega
  subst this
  exact h1
theorem row_room {m₀ m : Int} {r : List Nat} (hm : m₀ < 10 ^ 16) (h1 : lrow m ++ r = lrow m₀) : r.length ≤ 16 := by
  have := congrArg List.length h1
  rw [List.length_append] at this
  have := lrow_len hm
  omega

theorem law_row_con {w : World} {mean : ExcName → Option Value} {mg mb : Str → Option Value} {news : List (Addr × Obj)} {n : Int} {tn : Tok} :
    Con w mean mg mb 78 2 news [.int n tn] (0 ≤ n ∧ n < 10 ^ 16) (RetP news (Value.str (T (rst (lrow n)))) (Value.int ((lrow n).length - (rst (lrow n)).length))) := by
  unfold Con; k_fill
  intro dp un gd cn cs a ccd cl outer A₀ base h₀ L m s Q E B F X N Tp hk hpre hdp hun hret
  k_with_none
  w_top off
  k_with "exec While Compare cons nil" => k_while_given ["m!"] (fun m₀ script m row => RowW m₀ m row) (fun m₀ script m row => m.toNat) "m" "row"; (obtain ⟨r, hr, hm0, hrow⟩ := kInv); subst hr; (have hroom := row_room hpre.2 hrow)
  k_with "state" => first | exact row_start hpre.1 | exact row_step (by assumption) (by assumption)
  k_with "measure" => omega
  refine wpAny_call ?_
  k_dflt ktr_enter
  k_steps
  all_goals (first
    | (have hr := row_end (by assumption) (by assumption) (by assumption); subst hr; exact hret _ _ _ _ _ _ (by k_asm) (by k_asm) (by assumption))
    | trace_state)

/-! _law_number -/
local macro_rules | `(tactic| walk_at "call ref") => `(tactic| (k_here; (with_reducible show wpAny _ _ (call (Value.ref 78) _) _ _ _); k_dflt (refine' con_use law_row_con ?k1 ?k2 ?k3 ?k4 ?k5 ?kK ?kp ?kd ?ku ?_; (case k1 => k_asm); (case k2 => k_asm); (case k3 => k_asm); (case k4 => k_asm); (case k5 => k_asm); (case kK => first | exact rfl | assumption); (case kp => omega); (case kd => ktr_room); (case ku => ktr_units)); intro D' t1' t2' c' h' tk' F' N' l1; (try k_lt l1); (try k_sweep); (try dsimp only)))

theorem tw_rep (p : Nat → Bool) (hp : ∀ c, p c = true → c = 48) : ∀ l : List Nat, l.takeWhile p = List.replicate (l.takeWhile p).length 48
  | [] => rfl
  | c :: r => by
    by_cases h : p c = true
    · rw [List.takeWhile_cons_of_pos h, List.length_cons, List.replicate_succ, ← tw_rep p hp r, hp c h]
    · rw [List.takeWhile_cons_of_neg h]; rfl
theorem rst_app (l : List Nat) : rst l ++ List.replicate (l.length - (rst l).length) 48 = l := by
  have h := List.takeWhile_append_dropWhile (p := (· == 48)) (l := l.reverse)
  have h2 : l = (l.reverse.dropWhile (· == 48)).reverse ++ (l.reverse.takeWhile (· == 48)).reverse := by
    have := congrArg List.reverse h
    rw [List.reverse_append, List.reverse_reverse] at this
    exact this.symm
  have h3 : l.length = (rst l).length + (l.reverse.takeWhile (· == 48)).length := by
    have := congrArg List.length h2
    rw [List.length_append, List.length_reverse, List.length_reverse] at this
    unfold rst
    rw [List.length_reverse]
    exact this
  have h4 : (l.reverse.takeWhile (· == 48)).reverse = List.replicate (l.length - (rst l).length) 48 := by
    rw [tw_rep (· == 48) (fun c h => by simpa using h) l.reverse, List.reverse_replicate]
    congr 1
    omega
  rw [← h4]
  exact h2.symm
theorem lnum_zero {n : Int} (h : n = 0) : [48] = dec n := by subst h; decide +kernel
theorem lnum_neg {n : Int} (h : n < 0) : [45] ++ rst (lrow (n.natAbs : Int)) ++ List.replicate (((lrow (n.natAbs : Int)).length : Int) - ((rst (lrow (n.natAbs : Int))).length : Int)).toNat 48 = dec n := by
  have e : (((lrow (n.natAbs : Int)).length : Int) - ((rst (lrow (n.natAbs : Int))).length : Int)).toNat = (lrow (n.natAbs : Int)).length - (rst (lrow (n.natAbs : Int))).length := by omega
  rw [e, List.append_assoc, rst_app]
  unfold lrow dec
  rw [if_neg (by omega), if_pos h]
  simp
theorem lnum_pos {n : Int} (h0 : n ≠ 0) (h : ¬ n < 0) : [] ++ rst (lrow (n.natAbs : Int)) ++ List.replicate (((lrow (n.natAbs : Int)).length : Int) - ((rst (lrow (n.natAbs : Int))).length : Int)).toNat 48 = dec n := by
  have e : (((lrow (n.natAbs : Int)).length : Int) - ((rst (lrow (n.natAbs : Int))).length : Int)).toNat = (lrow (n.natAbs : Int)).length - (rst (lrow (n.natAbs : Int))).length := by omega
  rw [e, List.append_assoc, rst_app]
  unfold lrow dec
  rw [if_neg (by omega), if_neg h]
  simp

theorem law_number_con {w : World} {mean : ExcName → Option Value} {mg mb : Str → Option Value} {news : List (Addr × Obj)} {n : Int} {tn : Tok} :
    Con w mean mg mb 85 4 news [.int n tn] (n.natAbs < 10 ^ 15) (RetV news (Value.str (T (dec n)))) := by
  unfold Con; k_fill
  intro dp un gd cn cs a ccd cl outer A₀ base h₀ L m s Q E B F X N Tp hk hpre hdp hun hret
  k_with_none
  w_top off
  have hlen := rst_len (lrow (n.natAbs : Int))
  have hlen2 := lrow_len (m := (n.natAbs : Int)) (by omega)
  refine wpAny_call ?_
  k_dflt ktr_enter
  k_steps
  all_goals first
    | exact retT hret (lnum_zero (by assumption)) (by k_asm) (by k_asm)
    | exact retT hret (lnum_neg (by assumption)) (by k_asm) (cb_drop (by k_asm) fun p hp => List.mem_cons_of_mem _ hp)
    | exact retT hret (lnum_pos (by assumption) (by assumption)) (by k_asm) (cb_drop (by k_asm) fun p hp => List.mem_cons_of_mem _ hp)

/-! _law_laid -/
local macro_rules | `(tactic| walk_at "call ref") => `(tactic| (k_here; (with_reducible show wpAny _ _ (call (Value.ref 85) _) _ _ _); k_dflt (refine' con_use law_number_con ?k1 ?k2 ?k3 ?k4 ?k5 ?kK ?kp ?kd ?ku ?_; (case k1 => k_asm); (case k2 => k_asm); (case k3 => k_asm); (case k4 => k_asm); (case k5 => k_asm); (case kK => first | exact rfl | assumption); (case kp => omega); (case kd => ktr_room); (case ku => ktr_units)); intro t' h' tk' F' N'; (try k_sweep); (try dsimp only)))

def laid (l : List Nat) (f : Int) (g : List Nat) : List Nat :=
  if g = [69] ∧ f - (l.length : Int) + 1 ≥ 0 ∧ f < 7 then l ++ List.replicate (f - (l.length : Int) + 1).toNat 48 ++ [46]
  else if g = [69] ∧ f - (l.length : Int) + 1 < 0 ∧ 0 ≤ f then sl l none (some (f + 1)) ++ [46] ++ sl l (some (f + 1)) none
  else if g = [69] ∧ f < 0 ∧ f - (l.length : Int) + 1 ≥ -7 then [46] ++ List.replicate (-f - 1).toNat 48 ++ l
  else sl l none (some 1) ++ [46] ++ sl l (some 1) none ++ g ++ dec f

section
variable {l g : List Nat} {f : Int}
theorem laid_1 (hg : g = [69]) (h1 : f - (l.length : Int) + 1 ≥ 0) (h2 : f < 7) : l ++ List.replicate (f - (l.length : Int) + 1).toNat 48 ++ [46] = laid l f g := by
  unfold laid
  rw [if_pos ⟨hg, h1, h2⟩]
theorem laid_2 (hg : g = [69]) (h1 : f - (l.length : Int) + 1 < 0) (h2 : 0 ≤ f) : sl l none (some (f + 1)) ++ [46] ++ sl l (some (f + 1)) none = laid l f g := by
  unfold laid
  rw [if_neg (by omega), if_pos ⟨hg, h1, h2⟩]
theorem laid_3 (hg : g = [69]) (h1 : f < 0) (h2 : f - (l.length : Int) + 1 ≥ -7) (h3 : f - (l.length : Int) + 1 < 0) : [46] ++ List.replicate (-f - 1).toNat 48 ++ l = laid l f g := by
  unfold laid
  rw [if_neg (by omega), if_neg (by omega), if_pos ⟨hg, h1, h2⟩]
theorem laid_4 (hg : ¬ g = [69]) : sl l none (some 1) ++ [46] ++ sl l (some 1) none ++ g ++ dec f = laid l f g := by
  unfold laid
  rw [if_neg fun h => hg h.1, if_neg fun h => hg h.1, if_neg fun h => hg h.1]
theorem laid_5 (h1 : ¬ (f - (l.length : Int) + 1 ≥ 0 ∧ f < 7)) (h2 : ¬ (f - (l.length : Int) + 1 < 0 ∧ 0 ≤ f)) (h3 : ¬ (f < 0 ∧ f - (l.length : Int) + 1 ≥ -7)) : sl l none (some 1) ++ [46] ++ sl l (some 1) none ++ g ++ dec f = laid l f g := by
  unfold laid
  rw [if_neg fun h => h1 h.2, if_neg fun h => h2 h.2, if_neg fun h => h3 h.2]
end

theorem law_laid_con {w : World} {mean : ExcName → Option Value} {mg mb : Str → Option Value} {news : List (Addr × Obj)} {l g : List Nat} {f : Int} {t1 t2 t3 : Tok} :
    Con w mean mg mb 92 6 news [.str (T l) t1, .int f t2, .str (T g) t3] (l.length ≤ 20 ∧ -2000 ≤ f ∧ f ≤ 2000 ∧ g.length ≤ 1) (RetV news (Value.str (T (laid l f g)))) := by
  unfold Con; k_fill
  intro dp un gd cn cs a ccd cl outer A₀ base h₀ L m s Q E B F X N Tp hk hpre hdp hun hret
  k_with_none
  w_top off
  obtain ⟨hl, hf0, hf1, hg⟩ := hpre
  have hdec := dec_len (a := f) (k := 4) (by decide) (by omega)
  refine wpAny_call ?_
  k_dflt ktr_enter
  k_steps
  all_goals first
    | exact retT hret (laid_1 (by assumption) (by omega) (by omega)) (by k_asm) (by k_asm)
    | exact retT hret (laid_2 (by assumption) (by omega) (by omega)) (by k_asm) (by k_asm)
    | exact retT hret (laid_3 (by assumption) (by omega) (by omega) (by omega)) (by k_asm) (by k_asm)
    | exact retT hret (laid_4 (by assumption)) (by k_asm) (by k_asm)
    | exact retT hret (laid_5 (by omega) (by omega) (by omega)) (by k_asm) (by k_asm)

/-! real_text -/
def sgn (m : Int) : List Nat := if m < 0 then [45] else []
def rtext (m e : Int) (g : List Nat) : List Nat :=
  if g = [69] ∧ 0 ≤ e ∧ e ≤ 7 - ((dec m.natAbs).length : Int) then sgn m ++ dec m.natAbs ++ List.replicate e.toNat 48 ++ [46]
  else if g = [69] ∧ -((dec m.natAbs).length : Int) < e ∧ e < 0 then sgn m ++ sl (dec m.natAbs) none (some e) ++ [46] ++ sl (dec m.natAbs) (some e) none
  else if g = [69] ∧ -7 ≤ e ∧ e < 0 then sgn m ++ [46] ++ List.replicate (-e - ((dec m.natAbs).length : Int)).toNat 48 ++ dec m.natAbs
  else sgn m ++ [(dec m.natAbs).getD (Int.toNat 0) 0] ++ [46] ++ sl (dec m.natAbs) (some 1) none ++ g ++ dec (e + ((dec m.natAbs).length : Int) - 1)
theorem dec_nat (n : Nat) : dec (n : Int) = digs n := by
  unfold dec
  rw [if_neg (by omega), Int.natAbs_natCast]
theorem digs_pos (n : Nat) : 0 < (digs n).length := by
  by_cases h : n < 10
  · rw [digs_lt h]; exact Nat.one_pos
  · rw [digs_ge (by omega), List.length_append]; simp
section
variable {m e : Int} {g sg : List Nat}
theorem sgn_n (h : m < 0) : sgn m = [45] := if_pos h
theorem sgn_p (h : ¬ m < 0) : sgn m = [] := if_neg h
theorem rt_1 (hs : sgn m = sg) (hg : g = [69]) (h1 : 0 ≤ e) (h2 : e ≤ 7 - ((dec m.natAbs).length : Int)) : sg ++ dec m.natAbs ++ List.replicate e.toNat 48 ++ [46] = rtext m e g := by
  unfold rtext
  rw [if_pos ⟨hg, h1, h2⟩, hs]
theorem rt_2 (hs : sgn m = sg) (hg : g = [69]) (h1 : -((dec m.natAbs).length : Int) < e) (h2 : e < 0) : sg ++ sl (dec m.natAbs) none (some e) ++ [46] ++ sl (dec m.natAbs) (some e) none = rtext m e g := by
  unfold rtext
  rw [if_neg (by omega), if_pos ⟨hg, h1, h2⟩, hs]
theorem rt_3n (hs : m < 0) (hg : g = [69]) (h1 : -7 ≤ e) (h2 : e < 0) (h3 : ¬ (-((dec m.natAbs).length : Int) < e)) : [45, 46] ++ List.replicate (-e - ((dec m.natAbs).length : Int)).toNat 48 ++ dec m.natAbs = rtext m e g := by
  unfold rtext
  rw [if_neg (by omega), if_neg (by omega), if_pos ⟨hg, h1, h2⟩, sgn_n hs]
  rfl
theorem rt_3p (hs : ¬ m < 0) (hg : g = [69]) (h1 : -7 ≤ e) (h2 : e < 0) (h3 : ¬ (-((dec m.natAbs).length : Int) < e)) : [46] ++ List.replicate (-e - ((dec m.natAbs).length : Int)).toNat 48 ++ dec m.natAbs = rtext m e g := by
  unfold rtext
  rw [if_neg (by omega), if_neg (by omega), if_pos ⟨hg, h1, h2⟩, sgn_p hs]
  rfl
theorem rt_4 (hg : ¬ g = [69]) : sgn m ++ [(dec m.natAbs).getD (Int.toNat 0) 0] ++ [46] ++ sl (dec m.natAbs) (some 1) none ++ g ++ dec (e + ((dec m.natAbs).length : Int) - 1) = rtext m e g := by
  unfold rtext
  rw [if_neg fun h => hg h.1, if_neg fun h => hg h.1, if_neg fun h => hg h.1]
theorem rt_5 (h1 : ¬ (0 ≤ e ∧ e ≤ 7 - ((dec m.natAbs).length : Int))) (h2 : ¬ (-((dec m.natAbs).length : Int) < e ∧ e < 0)) (h3 : ¬ (-7 ≤ e ∧ e < 0)) :
    sgn m ++ [(dec m.natAbs).getD (Int.toNat 0) 0] ++ [46] ++ sl (dec m.natAbs) (some 1) none ++ g ++ dec (e + ((dec m.natAbs).length : Int) - 1) = rtext m e g := by
  unfold rtext
  rw [if_neg fun h => h1 h.2, if_neg fun h => h2 h.2, if_neg fun h => h3 h.2]
end

theorem real_text_con {w : World} {mean : ExcName → Option Value} {mg mb : Str → Option Value} {news : List (Addr × Obj)} {D : Addr} {x y : Int} {g : List Nat} {t3 : Tok} :
    Con w mean mg mb 50 2 news [.ref D, .str (T g) t3] (Held news D x y ∧ x.natAbs < 10 ^ 15 ∧ -3000 ≤ y ∧ y ≤ 3000 ∧ g.length ≤ 1) (RetV news (Value.str (T (rtext x y g)))) := by
  unfold Con; k_fill
  intro dp un gd cn cs a ccd cl outer A₀ base h₀ L m s Q E B F X N Tp hk hpre hdp hun hret
  k_with_none
  w_top off
  obtain ⟨hH, hx, hy0, hy1, hg⟩ := hpre
  have hpos : 0 < (dec (x.natAbs : Int)).length := by rw [dec_nat]; exact digs_pos _
  refine wpAny_call ?_
  k_dflt ktr_enter
  k_steps
  all_goals first
    | exact retT hret (rt_1 (by first | exact sgn_n (by assumption) | exact sgn_p (by assumption)) (by assumption) (by omega) (by omega)) (by k_asm) (by k_asm)
    | exact retT hret (rt_2 (by first | exact sgn_n (by assumption) | exact sgn_p (by assumption)) (by assumption) (by omega) (by omega)) (by k_asm) (by k_asm)
    | exact retT hret (rt_3n (by assumption) (by assumption) (by omega) (by omega) (by omega)) (by k_asm) (by k_asm)
    | exact retT hret (rt_3p (by assumption) (by assumption) (by omega) (by omega) (by omega)) (by k_asm) (by k_asm)
    | exact retT hret (Eq.trans (by first | (rw [sgn_n (by assumption)]; first | rfl | (simp; done)) | (rw [sgn_p (by assumption)]; first | rfl | (simp; done))) (rt_4 (by assumption))) (by k_asm) (by k_asm)
    | exact retT hret (Eq.trans (by first | (rw [sgn_n (by assumption)]; first | rfl | (simp; done)) | (rw [sgn_p (by assumption)]; first | rfl | (simp; done))) (rt_5 (by omega) (by omega) (by omega))) (by k_asm) (by k_asm)
    | trace_state

/-! real_compare -/
local macro_rules | `(tactic| walk_at "call ref") => `(tactic| (k_here; (with_reducible show wpAny _ _ (call (Value.ref 36) _) _ _ _); (refine wpAny_call ?_); k_dflt (refine' code_def ?k1 ?k2 ?k3 ?k4 ?k5 ?kA ?kF ?kK ?k6 ?k7 ?k8 ?k9 ?kB ?_ ?c2 ?c3 ?c4 ?c5; (case kA => exact rfl); (case kF => exact rfl); (case kK => first | exact rfl | assumption); (case k1 => k_asm); (case k2 => k_asm); (case k3 => k_asm); (case k4 => k_asm); (case k5 => k_asm); (case k6 => k_is); (case k7 => k_is); (case k8 => ktr_room); (case k9 => exact BindsTo.of_eq rfl); (case c5 => decide); (case kB => exact locs rfl); (case c2 => exact rfl); (case c3 => exact rfl); (case c4 => exact rfl); k_whole; intro g' L' h' FG' F' N' B' X' T'; (try dsimp only); (try k_fold))))
local macro_rules | `(tactic| walk_at "call ref") => `(tactic| (k_here; (with_reducible show wpAny _ _ (call (Value.ref 29) _) _ _ _); (refine wpAny_call ?_); k_dflt (refine' code_def ?k1 ?k2 ?k3 ?k4 ?k5 ?kA ?kF ?kK ?k6 ?k7 ?k8 ?k9 ?kB ?_ ?c2 ?c3 ?c4 ?c5; (case kA => exact rfl); (case kF => exact rfl); (case kK => first | exact rfl | assumption); (case k1 => k_asm); (case k2 => k_asm); (case k3 => k_asm); (case k4 => k_asm); (case k5 => k_asm); (case k6 => k_is); (case k7 => k_is); (case k8 => ktr_room); (case k9 => exact BindsTo.of_eq rfl); (case c5 => decide); (case kB => exact locs rfl); (case c2 => exact rfl); (case c3 => exact rfl); (case c4 => exact rfl); k_whole; intro g' L' h' FG' F' N' B' X' T'; (try dsimp only); (try k_fold))))

theorem real_compare_con {w : World} {mean : ExcName → Option Value} {mg mb : Str → Option Value} {news : List (Addr × Obj)} {D1 D2 : Addr} {x y e : Int} :
    Con w mean mg mb 43 4 news [.ref D1, .ref D2] (Held news D1 x e ∧ Held news D2 y e) (RetV news (Value.int (if x = y then 0 else if x > y then 1 else -1))) := by
  unfold Con; k_fill
  intro dp un gd cn cs a ccd cl outer A₀ base h₀ L m s Q E B F X N Tp hk hpre hdp hun hret
  k_with_none
  w_top off
  obtain ⟨hH1, hH2⟩ := hpre
  refine wpAny_call ?_
  k_dflt ktr_enter
  k_steps
  all_goals exact retI hret (by (repeat' split) <;> omega) (by k_asm) (cb_drop (by k_asm) (by intro p hp; (repeat' first | assumption | apply List.mem_cons_of_mem)))

/-! strip_zeros -/
/-- what strip_zeros makes of a pair -/
def Strips (x e x' e' : Int) : Prop := (x = 0 ∧ x' = 0 ∧ e' = 0) ∨ (x ≠ 0 ∧ ∃ k : Nat, x = x' * 10 ^ k ∧ x' % 10 ≠ 0 ∧ e' = e + (k : Int))
def SzW (x e m n : Int) : Prop := m ≠ 0 ∧ ∃ j : Nat, x = m * 10 ^ j ∧ n = e + (j : Int)
theorem sz_start {x e : Int} (h : x ≠ 0) : SzW x e x e := ⟨h, 0, by simp, by simp⟩
theorem sz_step {x e m n : Int} (h : SzW x e m n) (h1 : m % 10 = 0) : SzW x e (m / 10) (n + 1) := by
  obtain ⟨h0, j, h2, h3⟩ := h
  refine ⟨by omega, j + 1, ?_, by omega⟩
  rw [h2, Int.pow_succ, Int.mul_comm (10 ^ j) 10, ← Int.mul_assoc]
  congr 1
  omega
theorem sz_meas {x e m n : Int} (h : SzW x e m n) (h1 : m % 10 = 0) : (m / 10).natAbs < m.natAbs := by
  obtain ⟨h0, _⟩ := h
  omega
theorem sz_uniq {a b : Int} (ha : a % 10 ≠ 0) (hb : b % 10 ≠ 0) : ∀ {j k : Nat}, a * 10 ^ j = b * 10 ^ k → a = b ∧ j = k := by
  intro j
  induction j with
  | zero =>
    intro k h
    cases k with
    | zero => simpa using h
    | succ k =>
      rw [Int.pow_succ, ← Int.mul_assoc] at h
      omega
  | succ j ih =>
    intro k h
    cases k with
    | zero =>
      rw [Int.pow_succ, ← Int.mul_assoc] at h
      omega
    | succ k =>
      rw [Int.pow_succ, Int.pow_succ, ← Int.mul_assoc, ← Int.mul_assoc] at h
      have := ih (k := k) (by omega)
      exact ⟨this.1, by omega⟩
section
variable {news : List (Addr × Obj)} {h₀ h' : Heap} {L D : Addr} {M : PySem.Str → Option Value} {s : Shared} {Q : Value → Shared → Prop} {x e x' e' m n : Int} {t1 t2 : Tok} {c tk' : Nat}
theorem sz_ret0 (hret : RetH news x' e' h₀ L M s Q) (hp : Strips x e x' e') (h : x = 0) (F : Fr h₀ L h' M) (N : News h₀ L h' news) : Q (.ref 15) { s with heap := h', toks := tk' } := by
  rcases hp with ⟨_, h1, h2⟩ | ⟨h1, _⟩
  · exact hret 15 [] h' tk' F (by rw [List.append_nil]; exact N) (.inl ⟨rfl, h1, h2⟩)
  · exact absurd h h1
theorem sz_ret (hret : RetH news x' e' h₀ L M s Q) (hp : Strips x e x' e') (h : SzW x e m n) (h1 : m % 10 ≠ 0) (F : Fr h₀ L h' M) (N : News h₀ L h' ((D, tup2 (.int m t1) (.int n t2) c) :: news)) : Q (.ref D) { s with heap := h', toks := tk' } := by
  obtain ⟨h0, j, h2, h3⟩ := h
  rcases hp with ⟨h4, _⟩ | ⟨_, k, h5, h6, h7⟩
  · rw [h4] at h2
    rcases Int.mul_eq_zero.mp h2.symm with h | h
    · exact absurd h h0
    · exact absurd h (Int.pow_ne_zero (by decide))
  · obtain ⟨rfl, rfl⟩ := sz_uniq h1 h6 (j := j) (k := k) (by rw [← h2, h5])
    obtain rfl : n = e' := by rw [h3, h7]
    refine hret D [(D, tup2 (.int m t1) (.int n t2) c)] h' tk' F (cb_drop N ?_) (Held.of (List.Mem.head _))
    intro p hp
    rcases List.mem_append.mp hp with hp | hp
    · exact List.mem_cons_of_mem _ hp
    · rw [List.mem_singleton.mp hp]; exact List.Mem.head _
end

theorem strip_zeros_con {w : World} {mean : ExcName → Option Value} {mg mb : Str → Option Value} {news : List (Addr × Obj)} {x e x' e' : Int} {tx te : Tok} :
    Con w mean mg mb 22 2 news [.int x tx, .int e te] (Strips x e x' e') (RetH news x' e') := by
  unfold Con; k_fill
  intro dp un gd cn cs a ccd cl outer A₀ base h₀ L m s Q E B F X N Tp hk hpre hdp hun hret
  k_with_none
  w_top off
  k_with "exec While Compare cons nil" => k_while_given ["m!", "e!"] (fun x e script m n => SzW x e m n) (fun x e script m n => m.natAbs) "m" "e"
  k_with "state" => first | exact sz_start (by assumption) | exact sz_step (by assumption) (by assumption)
  k_with "measure" => exact sz_meas (by assumption) (by assumption)
  refine wpAny_call ?_
  k_dflt ktr_enter
  k_steps
  all_goals first
    | exact sz_ret0 hret hpre (by assumption) (by k_asm) (by k_asm)
    | exact sz_ret hret hpre (by assumption) (by assumption) (by k_asm) (by k_asm)

/-! parse_real -/
theorem strips_ex (x e : Int) : ∃ x' e', Strips x e x' e' := by
  by_cases h : x = 0
  · exact ⟨0, 0, .inl ⟨h, rfl, rfl⟩⟩
  · have key : ∀ n : Nat, ∀ m f : Int, m.natAbs ≤ n → SzW x e m f → ∃ x' e', Strips x e x' e' := by
      intro n
      induction n with
      | zero => intro m f hm hw; exact absurd (by omega : m = 0) hw.1
      | succ n ih =>
        intro m f hm hw
        by_cases h1 : m % 10 = 0
        · have := sz_meas hw h1
          exact ih _ _ (by omega) (sz_step hw h1)
        · obtain ⟨_, j, h2, h3⟩ := hw
          exact ⟨m, f, .inr ⟨h, j, h2, h1, h3⟩⟩
    exact key _ x e (Nat.le_refl _) (sz_start h)
theorem strips_uniq {x e a b c d : Int} (h1 : Strips x e a b) (h2 : Strips x e c d) : a = c ∧ b = d := by
  rcases h1 with ⟨p, q, r⟩ | ⟨p, j, q, r, t⟩
  · rcases h2 with ⟨p', q', r'⟩ | ⟨p', _⟩
    · exact ⟨by rw [q, q'], by rw [r, r']⟩
    · exact absurd p p'
  · rcases h2 with ⟨p', _⟩ | ⟨p', k, q', r', t'⟩
    · exact absurd p' p
    · obtain ⟨h3, h4⟩ := sz_uniq r r' (j := j) (k := k) (by rw [← q, q'])
      exact ⟨h3, by rw [t, t', h4]⟩
abbrev RetS (news : List (Addr × Obj)) (x e : Int) : Heap → Addr → (PySem.Str → Option Value) → Shared → (Value → Shared → Prop) → Prop :=
  fun h₀ L m s Q => ∀ (D : Addr) (own : List (Addr × Obj)) (h' : Heap) (tk' : Nat) (x' e' : Int), Strips x e x' e' → Fr h₀ L h' m → News h₀ L h' (news ++ own) → Held own D x' e' → Q (.ref D) { s with heap := h', toks := tk' }
theorem strip_zeros_all {w : World} {mean : ExcName → Option Value} {mg mb : Str → Option Value} {news : List (Addr × Obj)} {x e : Int} {tx te : Tok} :
    Con w mean mg mb 22 2 news [.int x tx, .int e te] True (RetS news x e) := by
  intro dp un gd cn cs a ccd cl outer A₀ base h₀ L m s Q E B F X N Tp hk hpre hdp hun hret
  obtain ⟨x', e', hs⟩ := strips_ex x e
  exact strip_zeros_con dp un gd cn cs a ccd cl outer A₀ base h₀ L m s Q E B F X N Tp hk hs hdp hun fun D own h' tk' F' N' H' => hret D own h' tk' x' e' hs F' N' H'

local macro_rules | `(tactic| walk_at "call ref") => `(tactic| (k_here; (with_reducible show wpAny _ _ (call (Value.ref 22) _) _ _ _); k_dflt (refine' con_use strip_zeros_all ?k1 ?k2 ?k3 ?k4 ?k5 ?kK ?kp ?kd ?ku ?_; (case k1 => k_asm); (case k2 => k_asm); (case k3 => k_asm); (case k4 => k_asm); (case k5 => k_asm); (case kK => first | exact rfl | assumption); (case kp => exact trivial); (case kd => ktr_room); (case ku => ktr_units)); intro D' own' h' tk' x' e' hS' F' N' H'; (try k_sweep); (try dsimp only)))
theorem isOpt_cases {o : Option Int} {v : Value} (h : IsOpt o v) : (o = none ∧ v = .none) ∨ ∃ n t, o = some n ∧ v = .int n t := by
  cases o with
  | none => exact .inl ⟨rfl, h⟩
  | some n => obtain ⟨t, h⟩ := h; exact .inr ⟨n, t, rfl, h⟩
local macro_rules | `(tactic| walk_at "call ref") => `(tactic| (k_here; (with_reducible show wpAny _ _ (call (Value.ref 57) _) _ _ _); k_dflt (refine' con_use read_exponent_con ?k1 ?k2 ?k3 ?k4 ?k5 ?kK ?kp ?kd ?ku ?_; (case k1 => k_asm); (case k2 => k_asm); (case k3 => k_asm); (case k4 => k_asm); (case k5 => k_asm); (case kK => first | exact rfl | assumption); (case kp => omega); (case kd => ktr_room); (case ku => ktr_units)); intro v' h' tk' hv' F' N'; (try k_sweep); (rcases isOpt_cases hv' with ⟨hO', hE'⟩ | ⟨n', t', hO', hE'⟩ <;> subst hE'); all_goals (try dsimp only)))

/-- the scan of a constant's figures: the whole number, the figures' count, the places behind the point (-1: no point), what is left -/
def scan : List Nat → Int → Int → Int → Int × Int × Int × List Nat
  | [], m, c, p => (m, c, p, [])
  | x :: r, m, c, p =>
    if figv x ≥ 0 then scan r (10 * m + figv x) (c + 1) (if p ≥ 0 then p + 1 else p)
    else if x = 46 ∧ p < 0 then scan r m c 0
    else (m, c, p, x :: r)
def ScanW (l : List Nat) (a i m c p : Int) : Prop := 0 ≤ i ∧ i ≤ (l.length : Int) ∧ scan (l.drop i.toNat) m c p = scan (l.drop a.toNat) 0 0 (-1)

def startOf (l : List Nat) : Int := if sl l none (some 1) = [45] ∨ sl l none (some 1) = [43] then 1 else 0
section
variable {l : List Nat} {a i m c p : Int}
theorem drop_at (h0 : 0 ≤ i) (h : i < (l.length : Int)) : l.drop i.toNat = l.getD i.toNat 0 :: l.drop (i + 1).toNat := by
  have hlt : i.toNat < l.length := by omega
  rw [List.drop_eq_getElem_cons hlt]
  have e : (i + 1).toNat = i.toNat + 1 := by omega
  rw [e]
  congr 1
  simp [hlt]
theorem start_1 (h : sl l none (some 1) = [45]) : (1 : Int) = startOf l := by unfold startOf; rw [if_pos (.inl h)]
theorem start_2 (h : sl l none (some 1) = [43]) : (1 : Int) = startOf l := by unfold startOf; rw [if_pos (.inr h)]
theorem start_3 (h : ¬ sl l none (some 1) = [45]) (h2 : ¬ sl l none (some 1) = [43]) : (0 : Int) = startOf l := by unfold startOf; rw [if_neg (fun q => q.elim h h2)]
theorem scan_start (h : a = startOf l) : ScanW l a a 0 0 (-1) := by
  unfold startOf at h
  split at h
  · rename_i hh
    subst h
    refine ⟨by omega, ?_, rfl⟩
    have : 0 < l.length := by
      have h1 := sl_len l none (some 1)
      rcases hh with h | h <;> (rw [h] at h1; simp at h1; omega)
    omega
  · subst h
    exact ⟨by omega, by omega, rfl⟩
theorem scan_dot (h0 : 0 ≤ i) (h : i < (l.length : Int)) (hs : scan (l.drop i.toNat) m c p = scan (l.drop a.toNat) 0 0 (-1)) (h1 : ¬ 0 ≤ figv (l.getD i.toNat 0)) (h2 : [l.getD i.toNat 0] = [46]) (h3 : p < 0) : ScanW l a (i + 1) m c 0 := by
  refine ⟨by omega, by omega, ?_⟩
  rw [← hs, drop_at h0 h]
  have h2' : l.getD i.toNat 0 = 46 := by simpa using h2
  show _ = (if _ then _ else if _ then _ else _)
  rw [if_neg h1, if_pos ⟨h2', h3⟩]
theorem scan_fig (h0 : 0 ≤ i) (h : i < (l.length : Int)) (hs : scan (l.drop i.toNat) m c p = scan (l.drop a.toNat) 0 0 (-1)) (h1 : 0 ≤ figv (l.getD i.toNat 0)) (h3 : 0 ≤ p) : ScanW l a (i + 1) (10 * m + figv (l.getD i.toNat 0)) (c + 1) (p + 1) := by
  refine ⟨by omega, by omega, ?_⟩
  rw [← hs, drop_at h0 h]
  show _ = (if _ then _ else if _ then _ else _)
  rw [if_pos h1, if_pos h3]
theorem scan_figB (h0 : 0 ≤ i) (h : i < (l.length : Int)) (hs : scan (l.drop i.toNat) m c p = scan (l.drop a.toNat) 0 0 (-1)) (h1 : 0 ≤ figv (l.getD i.toNat 0)) (h3 : ¬ 0 ≤ p) : ScanW l a (i + 1) (10 * m + figv (l.getD i.toNat 0)) (c + 1) p := by
  refine ⟨by omega, by omega, ?_⟩
  rw [← hs, drop_at h0 h]
  show _ = (if _ then _ else if _ then _ else _)
  rw [if_pos h1, if_neg h3]
theorem scan_abs (h1 : 0 ≤ figv (l.getD i.toNat 0)) (h2 : [l.getD i.toNat 0] = [46]) : False := by
  have h2' : l.getD i.toNat 0 = 46 := by simpa using h2
  rw [h2'] at h1
  exact absurd h1 (by decide)
/-- where the scan of a text ends -/
def Scanned (l : List Nat) (i m c p : Int) : Prop := 0 ≤ i ∧ i ≤ (l.length : Int) ∧ (c = 0 ∨ 0 < (l.length : Int)) ∧ scan (l.drop (startOf l).toNat) 0 0 (-1) = (m, c, p, l.drop i.toNat)
theorem scanned_len (h : scan (l.drop (startOf l).toNat) 0 0 (-1) = (m, c, p, l.drop i.toNat)) : c = 0 ∨ 0 < (l.length : Int) := by
  by_cases hl : l = []
  · subst hl
    have e : scan (List.drop (startOf []).toNat []) 0 0 (-1) = (0, 0, -1, []) := by rw [List.drop_nil]; rfl
    rw [e] at h
    left
    have := congrArg (fun r => r.2.1) h
    exact this.symm
  · have := List.length_pos_iff.mpr hl
    omega
theorem scan_endA (ha : a = startOf l) (h0 : 0 ≤ i) (hi : i ≤ (l.length : Int)) (h : ¬ i < (l.length : Int)) (hs : scan (l.drop i.toNat) m c p = scan (l.drop a.toNat) 0 0 (-1)) : Scanned l i m c p := by
  have e : l.drop i.toNat = [] := List.drop_eq_nil_iff.mpr (by omega)
  rw [e, ha] at hs
  have hs' : scan (l.drop (startOf l).toNat) 0 0 (-1) = (m, c, p, l.drop i.toNat) := by rw [e, ← hs]; rfl
  exact ⟨h0, hi, scanned_len hs', hs'⟩
theorem scan_endB (ha : a = startOf l) (h0 : 0 ≤ i) (h : i < (l.length : Int)) (hs : scan (l.drop i.toNat) m c p = scan (l.drop a.toNat) 0 0 (-1)) (h1 : ¬ 0 ≤ figv (l.getD i.toNat 0)) (h2 : ¬ [l.getD i.toNat 0] = [46] ∨ ¬ p < 0) : Scanned l i m c p := by
  have hs' : scan (l.drop (startOf l).toNat) 0 0 (-1) = (m, c, p, l.drop i.toNat) := by
    rw [← ha, ← hs, drop_at h0 h]
    show (if _ then _ else if _ then _ else _) = _
    rw [if_neg h1, if_neg fun q => h2.elim (fun h2 => h2 (by rw [q.1])) fun h2 => h2 q.2]
  exact ⟨h0, by omega, scanned_len hs', hs'⟩
end
/-- what a constant's text says -/
def Parsed (l : List Nat) (x' e' : Int) : Prop := ∃ i m c p e, Scanned l i m c p ∧ c ≠ 0 ∧ ((i = (l.length : Int) ∧ e = 0 ∧ ¬ p < 0) ∨ (i ≠ (l.length : Int) ∧ readRaw l i = some e)) ∧ Strips (if [l.getD (Int.toNat 0) 0] = [45] then -m else m) (e - max p 0) x' e'
def NotParsed (l : List Nat) : Prop := ∃ i m c p, Scanned l i m c p ∧ (c = 0 ∨ (i = (l.length : Int) ∧ p < 0) ∨ (i ≠ (l.length : Int) ∧ readRaw l i = none))
abbrev RetPR (news : List (Addr × Obj)) (l : List Nat) : Heap → Addr → (PySem.Str → Option Value) → Shared → (Value → Shared → Prop) → Prop :=
  fun h₀ L m s Q => (∀ (D : Addr) (own : List (Addr × Obj)) (h' : Heap) (tk' : Nat) (x' e' : Int), Parsed l x' e' → Fr h₀ L h' m → News h₀ L h' (news ++ own) → Held own D x' e' → Q (.ref D) { s with heap := h', toks := tk' }) ∧
    (∀ (h' : Heap) (tk' : Nat), NotParsed l → Fr h₀ L h' m → News h₀ L h' news → Q .none { s with heap := h', toks := tk' })
section
variable {l : List Nat} {i m c p e x' e' : Int}
theorem np_0 (h : Scanned l i m c p) (h1 : c = 0) : NotParsed l := ⟨i, m, c, p, h, .inl h1⟩
theorem np_1 (h : Scanned l i m c p) (h1 : i = (l.length : Int)) (h2 : p < 0) : NotParsed l := ⟨i, m, c, p, h, .inr (.inl ⟨h1, h2⟩)⟩
theorem np_2 (h : Scanned l i m c p) (h1 : i ≠ (l.length : Int)) (h2 : readRaw l i = none) : NotParsed l := ⟨i, m, c, p, h, .inr (.inr ⟨h1, h2⟩)⟩
theorem pr_1n (h : Scanned l i m c p) (hc : c ≠ 0) (h1 : i = (l.length : Int)) (h2 : ¬ p < 0) (h3 : [l.getD (Int.toNat 0) 0] = [45]) (h4 : Strips (-m) (0 - max p 0) x' e') : Parsed l x' e' := ⟨i, m, c, p, 0, h, hc, .inl ⟨h1, rfl, h2⟩, by rw [if_pos h3]; exact h4⟩
theorem pr_1p (h : Scanned l i m c p) (hc : c ≠ 0) (h1 : i = (l.length : Int)) (h2 : ¬ p < 0) (h3 : ¬ [l.getD (Int.toNat 0) 0] = [45]) (h4 : Strips m (0 - max p 0) x' e') : Parsed l x' e' := ⟨i, m, c, p, 0, h, hc, .inl ⟨h1, rfl, h2⟩, by rw [if_neg h3]; exact h4⟩
theorem pr_2n (h : Scanned l i m c p) (hc : c ≠ 0) (h1 : i ≠ (l.length : Int)) (h2 : readRaw l i = some e) (h3 : [l.getD (Int.toNat 0) 0] = [45]) (h4 : Strips (-m) (e - max p 0) x' e') : Parsed l x' e' := ⟨i, m, c, p, e, h, hc, .inr ⟨h1, h2⟩, by rw [if_pos h3]; exact h4⟩
theorem pr_2p (h : Scanned l i m c p) (hc : c ≠ 0) (h1 : i ≠ (l.length : Int)) (h2 : readRaw l i = some e) (h3 : ¬ [l.getD (Int.toNat 0) 0] = [45]) (h4 : Strips m (e - max p 0) x' e') : Parsed l x' e' := ⟨i, m, c, p, e, h, hc, .inr ⟨h1, h2⟩, by rw [if_neg h3]; exact h4⟩
end
abbrev prF (c : (Int × Tok) × (Int × Tok) × (Int × Tok) × (Int × Tok)) : List (PySem.Str × Int × Tok) := [(PySem.Str.ofString "at", c.1.1, c.1.2), (PySem.Str.ofString "m", c.2.1.1, c.2.1.2), (PySem.Str.ofString "count", c.2.2.1.1, c.2.2.1.2), (PySem.Str.ofString "places", c.2.2.2.1, c.2.2.2.2)]

theorem parse_real_con {w : World} {mean : ExcName → Option Value} {mg mb : Str → Option Value} {news : List (Addr × Obj)} {l : List Nat} {tx : Tok} :
    Con w mean mg mb 64 4 news [.str (T l) tx] (l.length ≤ 10000) (RetPR news l) := by
  unfold Con; k_fill
  intro dp un gd cn cs a ccd cl outer A₀ base h₀ L m s Q E B F X N Tp hk hpre hdp hun hret
  k_with_none
  w_top off
  k_with "eval IfExp BoolOp" => (fail_if_success (with_reducible show wpAny _ _ _ (CutI _ _ _ _ _ _) _ _)); (rename Fr _ _ _ _ => lF'); (rename News _ _ _ _ => lN'); (refine' cut_int (fun a => a = startOf l) lF' lN' ?_ ?_); rotate_left; (intro a0 t0 h0 tk0 ha0 F0 N0; try k_sweep)
  k_with "cut" => first | exact start_1 (by assumption) | exact start_2 (by assumption) | exact start_3 (by assumption) (by assumption)
  k_with "exec While BoolOp cons nil" => (rename Fr _ _ _ _ => lF'); (rename News _ _ _ _ => lN'); (refine' cut_stmt prF (fun c => Scanned l c.1.1 c.2.1.1 c.2.2.1.1 c.2.2.2.1) lF' lN' ?cw ?_); (case' cw => (k_while_given ["at!"] (fun a script i m c p => ScanW l a i m c p) (fun a script i m c p => l.length - i.toNat) "at" "m" "count" "places"; (obtain ⟨hi0, hi1, hsc⟩ := kInv))); rotate_left; (rintro ⟨⟨i1, t1⟩, ⟨m1, t2⟩, ⟨c1, t3⟩, ⟨p1, t4⟩⟩ h1 tk1 hScan F1 N1); (dsimp only [frN, prF] at F1 hScan); (have hs1 := hScan.1); (have hs2 := hScan.2.1); (have hs3 := hScan.2.2.1); (try k_sweep); rotate_right
  k_with "CutN" => (refine' cutN_end ((_, _), (_, _), (_, _), _, _) ?F ?N ?e ?P; (case F => k_asm); (case N => k_asm); (case e => with_unfolding_all rfl); (case P => dsimp only; first | exact scan_endA ha0 hi0 hi1 (by assumption) hsc | exact scan_endB ha0 hi0 (by assumption) hsc (by assumption) (.inl (by assumption)) | exact scan_endB ha0 hi0 (by assumption) hsc (by assumption) (.inr (by assumption))))
  k_with "state" => first
    | exact scan_start (by assumption)
    | exact (scan_abs (by assumption) (by assumption)).elim
    | exact scan_dot (by assumption) (by assumption) (by assumption) (by assumption) (by assumption) (by assumption)
    | exact scan_fig (by assumption) (by assumption) (by assumption) (by assumption) (by assumption)
    | exact scan_figB (by assumption) (by assumption) (by assumption) (by assumption) (by assumption)
  k_with "measure" => omega
  refine wpAny_call ?_
  k_dflt ktr_enter
  k_steps
  all_goals first
    | exact hret.2 _ _ (np_0 (by assumption) (by assumption)) (by k_asm) (by k_asm)
    | exact hret.2 _ _ (np_1 (by assumption) (by assumption) (by assumption)) (by k_asm) (by k_asm)
    | exact hret.2 _ _ (np_2 (by assumption) (by assumption) (by assumption)) (by k_asm) (by k_asm)
    | exact hret.1 _ _ _ _ _ _ (pr_1n (by assumption) (by assumption) (by assumption) (by assumption) (by assumption) (by assumption)) (by k_asm) (by k_asm) (by assumption)
    | exact hret.1 _ _ _ _ _ _ (pr_1p (by assumption) (by assumption) (by assumption) (by assumption) (by assumption) (by assumption)) (by k_asm) (by k_asm) (by assumption)
    | exact hret.1 _ _ _ _ _ _ (pr_2n (by assumption) (by assumption) (by assumption) (by assumption) (by assumption) (by assumption)) (by k_asm) (by k_asm) (by assumption)
    | exact hret.1 _ _ _ _ _ _ (pr_2p (by assumption) (by assumption) (by assumption) (by assumption) (by assumption) (by assumption)) (by k_asm) (by k_asm) (by assumption)
    | trace_state

/-! the plain law: scan and exponent -/
/-- only figures -/
def IsD (l : List Nat) : Prop := ∀ c ∈ l, 48 ≤ c ∧ c ≤ 57
/-- the value of a row of figures behind a value -/
def dv : List Nat → Int → Int
  | [], n => n
  | c :: r, n => dv r (10 * n + ((c : Int) - 48))
theorem IsD.app {a b : List Nat} (ha : IsD a) (hb : IsD b) : IsD (a ++ b) := fun c hc => (List.mem_append.mp hc).elim (ha c) (hb c)
theorem IsD.left {a b : List Nat} (h : IsD (a ++ b)) : IsD a := fun c hc => h c (List.mem_append_left _ hc)
theorem IsD.right {a b : List Nat} (h : IsD (a ++ b)) : IsD b := fun c hc => h c (List.mem_append_right _ hc)
theorem IsD.rep (k : Nat) : IsD (List.replicate k 48) := fun c hc => by rw [(List.mem_replicate.mp hc).2]; decide
theorem IsD.nil : IsD [] := fun _ hc => nomatch hc
theorem figv_d {c : Nat} (h : 48 ≤ c ∧ c ≤ 57) : figv c = (c : Int) - 48 := if_pos h
theorem dv_app (a b : List Nat) : ∀ n, dv (a ++ b) n = dv b (dv a n) := by
  induction a with
  | nil => intro n; rfl
  | cons c r ih => intro n; exact ih _
theorem dv_rep (k : Nat) : ∀ n, dv (List.replicate k 48) n = n * 10 ^ k := by
  induction k with
  | zero => intro n; simp [dv]
  | succ k ih =>
    intro n
    rw [List.replicate_succ]
    show dv (List.replicate k 48) (10 * n + ((48 : Int) - 48)) = _
    rw [ih, Int.pow_succ, Int.sub_self, Int.add_zero, Int.mul_comm 10 n, Int.mul_assoc, Int.mul_comm 10]
theorem dv_rep0 (k : Nat) : dv (List.replicate k 48) 0 = 0 := by rw [dv_rep, Int.zero_mul]
theorem digs_isD (n : Nat) : IsD (digs n) := by
  induction n using Nat.strongRecOn with
  | ind n ih =>
    by_cases h : n < 10
    · rw [digs_lt h]
      intro c hc
      rw [List.mem_singleton.mp hc]
      omega
    · rw [digs_ge (by omega)]
      refine (ih (n / 10) (by omega)).app fun c hc => ?_
      rw [List.mem_singleton.mp hc]
      omega
theorem dv_digs (n : Nat) : dv (digs n) 0 = n := by
  induction n using Nat.strongRecOn with
  | ind n ih =>
    by_cases h : n < 10
    · rw [digs_lt h]
      show 10 * 0 + (((48 + n : Nat) : Int) - 48) = n
      omega
    · rw [digs_ge (by omega), dv_app, ih (n / 10) (by omega)]
      show 10 * ((n / 10 : Nat) : Int) + (((48 + n % 10 : Nat) : Int) - 48) = n
      omega
theorem dval_dv : ∀ {l : List Nat} (_ : IsD l) (n : Int), dval l n = some (dv l n)
  | [], _, n => rfl
  | c :: r, h, n => by
    have hc := h c (List.mem_cons_self ..)
    show (if figv c < 0 then none else dval r (10 * n + figv c)) = some (dv r (10 * n + ((c : Int) - 48)))
    rw [figv_d hc, if_neg (by omega)]
    exact dval_dv (fun x hx => h x (List.mem_cons_of_mem _ hx)) _
theorem dval_end {b : Nat} (hb : figv b < 0) (q : List Nat) : ∀ n, dval (q ++ [b]) n = none := by
  induction q with
  | nil =>
    intro n
    show (if figv b < 0 then none else _) = none
    rw [if_pos hb]
  | cons c r ih =>
    intro n
    show (if figv c < 0 then none else dval (r ++ [b]) _) = none
    split
    · rfl
    · exact ih _

/-- the scan goes over figures -/
theorem scan_D : ∀ {D : List Nat} (_ : IsD D) (r : List Nat) (m c p : Int), scan (D ++ r) m c p = scan r (dv D m) (c + (D.length : Int)) (if p ≥ 0 then p + (D.length : Int) else p)
  | [], _, r, m, c, p => by
    have : (if p ≥ 0 then p + (([] : List Nat).length : Int) else p) = p := by split <;> simp
    rw [this]
    simp [dv]
  | x :: D, h, r, m, c, p => by
    have hx := h x (List.mem_cons_self ..)
    have ih := scan_D (D := D) (fun y hy => h y (List.mem_cons_of_mem _ hy)) r
    show (if figv x ≥ 0 then scan (D ++ r) (10 * m + figv x) (c + 1) (if p ≥ 0 then p + 1 else p) else _) = _
    rw [figv_d hx, if_pos (by omega), ih]
    show scan r (dv D (10 * m + ((x : Int) - 48))) _ _ = scan r (dv D (10 * m + ((x : Int) - 48))) _ _
    congr 1
    · rw [List.length_cons]; omega
    · rw [List.length_cons]
      by_cases hp : p ≥ 0
      · rw [if_pos hp, if_pos (by omega), if_pos hp]; omega
      · rw [if_neg hp, if_neg hp, if_neg hp]
theorem scan_pt (r : List Nat) {m c p : Int} (hp : p < 0) : scan (46 :: r) m c p = scan r m c 0 := by
  show (if figv 46 ≥ 0 then _ else if 46 = 46 ∧ p < 0 then scan r m c 0 else _) = _
  rw [if_neg (by decide), if_pos ⟨rfl, hp⟩]
/-- a sign that ends the scan -/
def Stops (r : List Nat) : Prop := r = [] ∨ ∃ c q, r = c :: q ∧ figv c < 0 ∧ c ≠ 46
theorem scan_stop {r : List Nat} (h : Stops r) (m c p : Int) : scan r m c p = (m, c, p, r) := by
  rcases h with rfl | ⟨x, q, rfl, h1, h2⟩
  · rfl
  · show (if figv x ≥ 0 then _ else if x = 46 ∧ p < 0 then _ else _) = _
    rw [if_neg (by omega), if_neg fun h => h2 h.1]
theorem scan_body {D1 D2 r : List Nat} (h1 : IsD D1) (h2 : IsD D2) (hr : Stops r) : scan (D1 ++ 46 :: (D2 ++ r)) 0 0 (-1) = (dv (D1 ++ D2) 0, (D1.length : Int) + (D2.length : Int), (D2.length : Int), r) := by
  rw [scan_D h1, if_neg (by decide), scan_pt _ (by decide), scan_D h2, if_pos (by decide), scan_stop hr, dv_app, Int.zero_add, Int.zero_add]
theorem scan_bodyB {D1 r : List Nat} (h1 : IsD D1) (hr : Stops r) : scan (D1 ++ r) 0 0 (-1) = (dv D1 0, (D1.length : Int), -1, r) := by
  rw [scan_D h1, if_neg (by decide), scan_stop hr, Int.zero_add]

theorem cl_p {i : Int} {n : Nat} (h : 0 ≤ i) : cl i n = min i.toNat n := if_neg (by omega)
theorem cl_n {i : Int} {n : Nat} (h : i < 0) : cl i n = n - (-i).toNat := if_pos h
theorem sl_ns (l : List Nat) (j : Int) : sl l none (some j) = l.take (cl j l.length) := by
  show (l.drop 0).take (cl j l.length - 0) = _
  rw [List.drop_zero, Nat.sub_zero]
theorem sl_sn (l : List Nat) (i : Int) : sl l (some i) none = l.drop (cl i l.length) := by
  show (l.drop (cl i l.length)).take (l.length - cl i l.length) = _
  rw [List.take_of_length_le (by rw [List.length_drop]; omega)]
theorem sl_ss (l : List Nat) (i j : Int) : sl l (some i) (some j) = (l.drop (cl i l.length)).take (cl j l.length - cl i l.length) := rfl
/-- the first sign of a text -/
theorem sl_take1 (l : List Nat) : sl l none (some 1) = l.take 1 := by
  rw [sl_ns, cl_p (by decide)]
  cases l with
  | nil => rfl
  | cons a r => simp
theorem start_sg {s : Nat} {b : List Nat} (h : s = 45 ∨ s = 43) : startOf (s :: b) = 1 := by
  unfold startOf
  rw [sl_take1]
  rcases h with rfl | rfl
  · exact if_pos (.inl rfl)
  · exact if_pos (.inr rfl)
theorem start_no {b : List Nat} (h : ∀ c ∈ b.take 1, c ≠ 45 ∧ c ≠ 43) : startOf b = 0 := by
  unfold startOf
  rw [sl_take1]
  refine if_neg fun q => ?_
  rcases q with q | q
  · exact (h 45 (by rw [q]; exact List.Mem.head _)).1 rfl
  · exact (h 43 (by rw [q]; exact List.Mem.head _)).2 rfl

/-- the sign ahead -/
def SgOk (s b : List Nat) : Prop := s = [45] ∨ s = [43] ∨ (s = [] ∧ ∀ c ∈ b.take 1, c ≠ 45 ∧ c ≠ 43)
theorem drop_sg {s b : List Nat} (h : SgOk s b) : (s ++ b).drop (startOf (s ++ b)).toNat = b := by
  rcases h with rfl | rfl | ⟨rfl, h⟩
  · rw [List.cons_append, start_sg (.inl rfl)]; rfl
  · rw [List.cons_append, start_sg (.inr rfl)]; rfl
  · rw [List.nil_append, start_no h]; rfl
theorem scanned_of {s b r a : List Nat} {m c p : Int} (hs : SgOk s b) (hb : scan b 0 0 (-1) = (m, c, p, r)) (ha : s ++ b = a ++ r) (hc : c = 0 ∨ 0 < (a ++ r).length) : Scanned (s ++ b) (a.length : Int) m c p := by
  refine ⟨by omega, ?_, ?_, ?_⟩
  · rw [ha, List.length_append]; omega
  · rw [ha]; omega
  · rw [drop_sg hs, hb, ha, Int.toNat_natCast, List.drop_left]

theorem getD_mid (a : List Nat) (c : Nat) (r : List Nat) : (a ++ c :: r).getD ((a.length : Int)).toNat 0 = c := by
  rw [Int.toNat_natCast]
  simp
theorem sl_from (a b : List Nat) {i : Int} (h : i = (a.length : Int)) : sl (a ++ b) (some i) none = b := by
  subst h
  rw [sl_sn, cl_p (by omega), Int.toNat_natCast, Nat.min_eq_left (by rw [List.length_append]; omega), List.drop_left]
theorem sl_one (a b : List Nat) {i : Int} (h : i = (a.length : Int)) : sl (a ++ b) (some i) (some (i + 1)) = b.take 1 := by
  subst h
  have ha : cl (a.length : Int) (a ++ b).length = a.length := by rw [cl_p (by omega), Int.toNat_natCast, Nat.min_eq_left (by rw [List.length_append]; omega)]
  rw [sl_ss, ha, cl_p (by omega), List.drop_left]
  have e : ((a.length : Int) + 1).toNat = a.length + 1 := by omega
  rw [e, List.length_append]
  cases b with
  | nil => simp
  | cons x q =>
    have : min (a.length + 1) (a.length + (x :: q).length) - a.length = 1 := by rw [List.length_cons]; omega
    rw [this]
/-- read_exponent by the list behind its letter -/
def rd (r : List Nat) : Option Int :=
  if r.take 1 = [45] then (if r.drop 1 = [] then none else (dval (r.drop 1) 0).map fun n => -n)
  else if r.take 1 = [43] then (if r.drop 1 = [] then none else dval (r.drop 1) 0)
  else if r = [] then none else dval r 0
theorem take1_cases {r : List Nat} {x : Nat} (h : r.take 1 = [x]) : ∃ q, r = x :: q := by
  cases r with
  | nil => cases h
  | cons y q =>
    have : y = x := by simpa using h
    exact ⟨q, by rw [this]⟩
theorem readRaw_at (a : List Nat) {c : Nat} (r : List Nat) (hc : c = 69 ∨ c = 68) : readRaw (a ++ c :: r) (a.length : Int) = rd r := by
  have e1 : a ++ c :: r = (a ++ [c]) ++ r := by simp
  have hl1 : ((a.length : Int) + 1) = ((a ++ [c]).length : Int) := by rw [List.length_append]; simp
  have hsl : sl (a ++ c :: r) (some ((a.length : Int) + 1)) (some ((a.length : Int) + 1 + 1)) = r.take 1 := by rw [e1]; exact sl_one _ _ hl1
  have hlen : ((a ++ c :: r).length : Int) = (a.length : Int) + 1 + (r.length : Int) := by rw [List.length_append, List.length_cons]; omega
  have hE : ¬ ([c] ≠ [69] ∧ [c] ≠ [68]) := by rcases hc with rfl | rfl <;> simp
  have hj : jump (a ++ c :: r) (a.length : Int) = if r.take 1 = [45] ∨ r.take 1 = [43] then (a.length : Int) + 1 + 1 else (a.length : Int) + 1 := by
    unfold jump
    rw [hsl]
  unfold readRaw rd
  rw [getD_mid, hsl, if_neg hE, hj, hlen]
  by_cases h1 : r.take 1 = [45]
  · obtain ⟨q, rfl⟩ := take1_cases h1
    have e2 : a ++ c :: 45 :: q = (a ++ [c, 45]) ++ q := by simp
    have hq : sl (a ++ c :: 45 :: q) (some ((a.length : Int) + 1 + 1)) none = q := by rw [e2]; exact sl_from _ _ (by rw [List.length_append]; simp; omega)
    have hor : (45 :: q).take 1 = [45] ∨ (45 :: q).take 1 = [43] := .inl h1
    simp only [if_pos h1, if_pos hor]
    rw [hq]
    show _ = if q = [] then none else _
    by_cases hq0 : q = []
    · subst hq0
      rw [if_pos (by simp), if_pos rfl]
    · have := List.length_pos_iff.mpr hq0
      rw [if_neg (by rw [List.length_cons]; omega), if_neg hq0]
      rfl
  · by_cases h2 : r.take 1 = [43]
    · obtain ⟨q, rfl⟩ := take1_cases h2
      have e2 : a ++ c :: 43 :: q = (a ++ [c, 43]) ++ q := by simp
      have hq : sl (a ++ c :: 43 :: q) (some ((a.length : Int) + 1 + 1)) none = q := by rw [e2]; exact sl_from _ _ (by rw [List.length_append]; simp; omega)
      have hor : (43 :: q).take 1 = [45] ∨ (43 :: q).take 1 = [43] := .inr h2
      simp only [if_neg h1, if_pos h2, if_pos hor]
      rw [hq]
      show _ = if q = [] then none else _
      by_cases hq0 : q = []
      · subst hq0
        rw [if_pos (by simp), if_pos rfl]
      · have := List.length_pos_iff.mpr hq0
        rw [if_neg (by rw [List.length_cons]; omega), if_neg hq0]
        rfl
    · have hor : ¬ (r.take 1 = [45] ∨ r.take 1 = [43]) := fun q => q.elim h1 h2
      have hq : sl (a ++ c :: r) (some ((a.length : Int) + 1)) none = r := by rw [e1]; exact sl_from _ _ hl1
      simp only [if_neg h1, if_neg h2, if_neg hor]
      rw [hq]
      by_cases hr : r = []
      · subst hr
        rw [if_pos (by simp), if_pos rfl]
      · have := List.length_pos_iff.mpr hr
        rw [if_neg (by omega), if_neg hr]
theorem readRaw_no (a : List Nat) {c : Nat} (r : List Nat) (h1 : c ≠ 69) (h2 : c ≠ 68) : readRaw (a ++ c :: r) (a.length : Int) = none := by
  unfold readRaw
  rw [getD_mid, if_pos ⟨by simpa using h1, by simpa using h2⟩]
theorem rd_D {r : List Nat} (h : IsD r) (h0 : r ≠ []) : rd r = some (dv r 0) := by
  unfold rd
  have hn : ∀ x, (x = 45 ∨ x = 43) → r.take 1 ≠ [x] := fun x hx q => by
    obtain ⟨q', rfl⟩ := take1_cases q
    have := h x (List.mem_cons_self ..)
    omega
  rw [if_neg (hn 45 (.inl rfl)), if_neg (hn 43 (.inr rfl)), if_neg h0, dval_dv h]
theorem rd_neg {r : List Nat} (h : IsD r) (h0 : r ≠ []) : rd (45 :: r) = some (-(dv r 0)) := by
  unfold rd
  have e : (45 :: r).take 1 = [45] := rfl
  rw [if_pos e]
  show (if r = [] then none else _) = _
  rw [if_neg h0]
  show (dval r 0).map _ = _
  rw [dval_dv h]
  rfl
theorem rd_plus {r : List Nat} (h : IsD r) (h0 : r ≠ []) : rd (43 :: r) = some (dv r 0) := by
  unfold rd
  have e : (43 :: r).take 1 = [43] := rfl
  have e2 : ¬ (43 :: r).take 1 = [45] := by rw [e]; decide
  rw [if_neg e2, if_pos e]
  show (if r = [] then none else _) = _
  rw [if_neg h0]
  exact dval_dv h _
theorem digs_ne (n : Nat) : digs n ≠ [] := List.length_pos_iff.mp (digs_pos n)
theorem rd_dec (e : Int) : rd (dec e) = some e := by
  unfold dec
  split
  · rw [rd_neg (digs_isD _) (digs_ne _), dv_digs]
    congr 1
    omega
  · rw [rd_D (digs_isD _) (digs_ne _), dv_digs]
    congr 1
    omega
theorem rd_bad {b : Nat} (q : List Nat) (hb : figv b < 0) (h1 : b ≠ 45) (h2 : b ≠ 43) : rd (q ++ [b]) = none := by
  cases q with
  | nil =>
    unfold rd
    rw [if_neg (by simpa using h1), if_neg (by simpa using h2), if_neg (by simp)]
    exact dval_end hb [] 0
  | cons x q =>
    unfold rd
    have e : ((x :: q) ++ [b]).drop 1 = q ++ [b] := rfl
    have e2 : (x :: q) ++ [b] ≠ [] := by simp
    have e3 : q ++ [b] ≠ [] := by simp
    rw [e, dval_end hb, if_neg e3, if_neg e2, dval_end hb, if_neg e3]
    split
    · rfl
    · split <;> rfl

/-! the plain law: what parses -/
theorem scanned_uniq {l : List Nat} {i m c p i' m' c' p' : Int} (h : Scanned l i m c p) (h' : Scanned l i' m' c' p') : i = i' ∧ m = m' ∧ c = c' ∧ p = p' := by
  obtain ⟨h0, h1, _, h2⟩ := h
  obtain ⟨h0', h1', _, h2'⟩ := h'
  rw [h2] at h2'
  injection h2' with e1 e2
  injection e2 with e2 e3
  injection e3 with e3 e4
  have := congrArg List.length e4
  rw [List.length_drop, List.length_drop] at this
  exact ⟨by omega, e1, e2, e3⟩
theorem parsed_uniq {l : List Nat} {a b a' b' : Int} (h : Parsed l a b) (h' : Parsed l a' b') : a = a' ∧ b = b' := by
  obtain ⟨i, m, c, p, e, hs, hc, hr, ht⟩ := h
  obtain ⟨i', m', c', p', e', hs', hc', hr', ht'⟩ := h'
  obtain ⟨rfl, rfl, rfl, rfl⟩ := scanned_uniq hs hs'
  have he : e = e' := by
    rcases hr with ⟨r1, r2, _⟩ | ⟨r1, r2⟩
    · rcases hr' with ⟨s1, s2, _⟩ | ⟨s1, s2⟩
      · rw [r2, s2]
      · exact absurd r1 s1
    · rcases hr' with ⟨s1, s2, _⟩ | ⟨s1, s2⟩
      · exact absurd s1 r1
      · rw [r2] at s2
        exact Option.some.inj s2
  subst he
  exact strips_uniq ht ht'
theorem parsed_not {l : List Nat} {a b : Int} (h : Parsed l a b) (h' : NotParsed l) : False := by
  obtain ⟨i, m, c, p, e, hs, hc, hr, _⟩ := h
  obtain ⟨i', m', c', p', hs', hn⟩ := h'
  obtain ⟨rfl, rfl, rfl, rfl⟩ := scanned_uniq hs hs'
  rcases hn with hn | ⟨n1, n2⟩ | ⟨n1, n2⟩
  · exact hc hn
  · rcases hr with ⟨r1, _, r3⟩ | ⟨r1, _⟩
    · exact r3 n2
    · exact r1 n1
  · rcases hr with ⟨r1, _, r3⟩ | ⟨r1, r2⟩
    · exact n1 r1
    · rw [n2] at r2; cases r2
theorem parse_some {w : World} {mean : ExcName → Option Value} {mg mb : PySem.Str → Option Value} {news : List (Addr × Obj)} {l : List Nat} {tx : Tok} {a b : Int} :
    Con w mean mg mb 64 4 news [.str (T l) tx] (l.length ≤ 10000 ∧ Parsed l a b) (RetH news a b) := by
  intro dp un gd cn cs ad ccd cl outer A₀ base h₀ L m s Q E B F X N Tp hk hpre hdp hun hret
  refine parse_real_con dp un gd cn cs ad ccd cl outer A₀ base h₀ L m s Q E B F X N Tp hk hpre.1 hdp hun ⟨fun D own h' tk' x' e' hp F' N' H' => ?_, fun h' tk' hn _ _ => (parsed_not hpre.2 hn).elim⟩
  obtain ⟨rfl, rfl⟩ := parsed_uniq hp hpre.2
  exact hret D own h' tk' F' N' H'
theorem parse_none {w : World} {mean : ExcName → Option Value} {mg mb : PySem.Str → Option Value} {news : List (Addr × Obj)} {l : List Nat} {tx : Tok} :
    Con w mean mg mb 64 4 news [.str (T l) tx] (l.length ≤ 10000 ∧ NotParsed l) (RetV news (fun _ => Value.none)) := by
  intro dp un gd cn cs ad ccd cl outer A₀ base h₀ L m s Q E B F X N Tp hk hpre hdp hun hret
  exact parse_real_con dp un gd cn cs ad ccd cl outer A₀ base h₀ L m s Q E B F X N Tp hk hpre.1 hdp hun ⟨fun D own h' tk' x' e' hp F' N' H' => (parsed_not hp hpre.2).elim, fun h' tk' hn F' N' => hret 0 h' tk' F' N'⟩

theorem rst_rep (l : List Nat) (k : Nat) : rst (l ++ List.replicate k 48) = rst l := by
  unfold rst
  rw [List.reverse_append, List.reverse_replicate]
  congr 1
  induction k with
  | zero => rfl
  | succ k ih => rw [List.replicate_succ, List.cons_append, List.dropWhile_cons_of_pos (by decide)]; exact ih
theorem rst_last (l : List Nat) {c : Nat} (h : c ≠ 48) : rst (l ++ [c]) = l ++ [c] := by
  unfold rst
  rw [List.reverse_append]
  show (List.dropWhile (· == 48) (c :: l.reverse)).reverse = _
  rw [List.dropWhile_cons_of_neg (by simpa using h), List.reverse_cons, List.reverse_reverse]
theorem digs_last {q : Nat} (h : q % 10 ≠ 0) : rst (digs q) = digs q := by
  by_cases h1 : q < 10
  · rw [digs_lt h1]
    exact rst_last [] (by omega)
  · rw [digs_ge (by omega)]
    exact rst_last _ (by omega)
theorem digs_split (n : Nat) : 0 < n → ∃ q k, n = q * 10 ^ k ∧ q % 10 ≠ 0 ∧ digs n = digs q ++ List.replicate k 48 := by
  induction n using Nat.strongRecOn with
  | ind n ih =>
    intro h0
    by_cases h : n % 10 = 0
    · obtain ⟨q, k, h1, h2, h3⟩ := ih (n / 10) (by omega) (by omega)
      refine ⟨q, k + 1, ?_, h2, ?_⟩
      · rw [Nat.pow_succ, ← Nat.mul_assoc, ← h1]
        omega
      · rw [digs_ge (by omega), h3, h, List.replicate_succ', List.append_assoc]
    · exact ⟨n, 0, by simp, h, by simp⟩
theorem sit_ok {M f sg : Int} (h : ¬ rst (lrow M) = []) (hM : 0 ≤ M ∧ M < 10 ^ 15) (hsg : sg = 1 ∨ sg = -1) (hf : -1000 ≤ f ∧ f ≤ 1000) :
    Sit (rst (lrow M)) f sg (sg * (M / 10 ^ (((lrow M).length : Int) - ((rst (lrow M)).length : Int)).toNat)) (f - ((rst (lrow M)).length : Int) + 1) := by
  have hpos : 0 < M := by
    by_cases h0 : M ≤ 0
    · exfalso
      apply h
      unfold lrow
      rw [if_pos h0]
      rfl
    · omega
  obtain ⟨n, rfl⟩ := Int.eq_ofNat_of_zero_le hM.1
  have hl : lrow (n : Int) = digs n := by
    unfold lrow
    rw [if_neg (by omega), Int.toNat_natCast]
  obtain ⟨q, k, h1, h2, h3⟩ := digs_split n (by omega)
  have hr : rst (lrow (n : Int)) = digs q := by rw [hl, h3, rst_rep, digs_last h2]
  have hk : (((lrow (n : Int)).length : Int) - ((rst (lrow (n : Int))).length : Int)).toNat = k := by
    rw [hr, hl, h3, List.length_append, List.length_replicate]
    omega
  have hq : (n : Int) / 10 ^ k = (q : Int) := by
    have hp : (0 : Nat) < 10 ^ k := Nat.pow_pos (by decide)
    have e : n / 10 ^ k = q := by rw [h1, Nat.mul_div_cancel _ hp]
    rw [← e]
    simp
  rw [hk, hq, hr]
  have hq0 : 0 < q := by omega
  have hqn : q ≤ n := by
    have hp : 1 ≤ 10 ^ k := Nat.pow_pos (by decide)
    calc q = q * 1 := (Nat.mul_one q).symm
      _ ≤ q * 10 ^ k := Nat.mul_le_mul_left q hp
      _ = n := h1.symm
  exact .inr ⟨q, hq0, h2, by omega, rfl, hsg, rfl, rfl, hf.1, hf.2⟩

/-- the law's situation, in one -/
def Sit2 (d : List Nat) (f sg x y : Int) : Prop :=
  ∃ n : Nat, n < 10 ^ 15 ∧ d = digs n ∧ (sg = 1 ∨ sg = -1) ∧ x = sg * (n : Int) ∧ y = f - (d.length : Int) + 1 ∧ -1000 ≤ f ∧ f ≤ 1000 ∧ (n = 0 → f = 0 ∧ sg = 1) ∧ (n ≠ 0 → n % 10 ≠ 0)
theorem sit2 {d : List Nat} {f sg x y : Int} (h : Sit d f sg x y) : Sit2 d f sg x y := by
  rcases h with ⟨rfl, rfl, rfl, rfl, rfl⟩ | ⟨n, h0, h1, h2, h3, h4, h5, h6, h7, h8⟩
  · exact ⟨0, by decide, by decide +kernel, .inl rfl, by decide, by decide, by decide, by decide, fun _ => ⟨rfl, rfl⟩, fun h => absurd rfl h⟩
  · exact ⟨n, h2, h3, h4, h5, h6, h7, h8, fun h => absurd h (by omega), fun _ => h1⟩
abbrev ahd (sg : Int) : List Nat := if sg < 0 then [45] else []
theorem sit_bounds {d : List Nat} {f sg x y : Int} (h : Sit d f sg x y) : x.natAbs < 10 ^ 15 ∧ -3000 ≤ y ∧ y ≤ 3000 ∧ d.length ≤ 16 ∧ -1000 ≤ f ∧ f ≤ 1000 ∧ (ahd sg).length ≤ 1 := by
  obtain ⟨n, h2, h3, h4, h5, h6, h7, h8, _, _⟩ := sit2 h
  have hl : d.length ≤ 15 := by rw [h3]; exact digs_len (by decide) h2
  refine ⟨?_, by omega, by omega, by omega, h7, h8, ?_⟩
  · rw [h5, Int.natAbs_mul]
    rcases h4 with rfl | rfl <;> simp <;> omega
  · unfold ahd
    split <;> simp
theorem strips_sit {n k : Nat} {sg e y : Int} (hsg : sg = 1 ∨ sg = -1) (h0 : n = 0 → y = 0) (h1 : n ≠ 0 → n % 10 ≠ 0) (hy : y = e + (k : Int)) : Strips (sg * ((n : Int) * 10 ^ k)) e (sg * (n : Int)) y := by
  by_cases hn : n = 0
  · subst hn
    left
    exact ⟨by simp, by simp, h0 rfl⟩
  · right
    have hn' := h1 hn
    refine ⟨?_, k, by rw [Int.mul_assoc], ?_, hy⟩
    · have hp : (0 : Int) < 10 ^ k := Int.pow_pos (by decide)
      have hnn : (n : Int) * 10 ^ k ≠ 0 := by
        intro q
        rcases Int.mul_eq_zero.mp q with q | q
        · omega
        · omega
      rcases hsg with rfl | rfl
      · rw [Int.one_mul]; exact hnn
      · rw [Int.neg_one_mul]; omega
    · rcases hsg with rfl | rfl <;> omega
/-- a body's first sign is no sign -/
theorem sg_ok {sg : Int} {b : List Nat} (h : ∀ c ∈ b.take 1, c ≠ 45 ∧ c ≠ 43) : SgOk (ahd sg) b := by
  unfold ahd
  split
  · exact .inl rfl
  · exact .inr (.inr ⟨rfl, h⟩)
theorem first_D {D r : List Nat} (h : IsD D) (h0 : D ≠ []) : ∀ c ∈ (D ++ r).take 1, c ≠ 45 ∧ c ≠ 43 := by
  cases D with
  | nil => exact absurd rfl h0
  | cons x q =>
    intro c hc
    have : c = x := by simpa using hc
    have := h x (List.mem_cons_self ..)
    omega
theorem first_P {r : List Nat} : ∀ c ∈ (46 :: r).take 1, c ≠ 45 ∧ c ≠ 43 := by
  intro c hc
  have : c = 46 := by simpa using hc
  omega
theorem first_B {D1 r : List Nat} (h : IsD D1) : ∀ c ∈ (D1 ++ 46 :: r).take 1, c ≠ 45 ∧ c ≠ 43 := by
  cases D1 with
  | nil => exact first_P
  | cons x q => exact first_D h (by simp)
/-- the sign as it is read -/
theorem sign_read {sg m : Int} {b : List Nat} (hsg : sg = 1 ∨ sg = -1) (h : ∀ c ∈ b.take 1, c ≠ 45 ∧ c ≠ 43) (hb : b ≠ []) : (if [(ahd sg ++ b).getD (Int.toNat 0) 0] = [45] then -m else m) = sg * m := by
  rcases hsg with rfl | rfl
  · have e : ahd 1 ++ b = b := rfl
    rw [e, Int.one_mul]
    cases b with
    | nil => exact absurd rfl hb
    | cons x q =>
      have := h x (by simp)
      refine if_neg fun q' => this.1 ?_
      simpa using q'
  · have e : ahd (-1) ++ b = 45 :: b := rfl
    rw [e, Int.neg_one_mul]
    exact if_pos rfl

/-- a constant with a point: sign, figures, point, figures, what is behind -/
theorem parsed_pt {sg x y e : Int} {D1 D2 r s : List Nat} {n k : Nat} (hsg : sg = 1 ∨ sg = -1) (h1 : IsD D1) (h2 : IsD D2) (hne : D1 ++ D2 ≠ []) (hv : dv (D1 ++ D2) 0 = (n : Int) * 10 ^ k) (hs : s = ahd sg ∨ (s = [43] ∧ sg = 1))
    (hr : (r = [] ∧ e = 0) ∨ ∃ c q, r = c :: q ∧ (c = 69 ∨ c = 68) ∧ rd q = some e) (h0 : n = 0 → y = 0) (h10 : n ≠ 0 → n % 10 ≠ 0) (hx : x = sg * (n : Int)) (hy : y = e - (D2.length : Int) + (k : Int)) :
    Parsed (s ++ (D1 ++ 46 :: (D2 ++ r))) x y := by
  have hst : Stops r := by
    rcases hr with ⟨rfl, _⟩ | ⟨c, q, rfl, hc, _⟩
    · exact .inl rfl
    · exact .inr ⟨c, q, rfl, by rcases hc with rfl | rfl <;> decide, by rcases hc with rfl | rfl <;> decide⟩
  have hfirst := first_B (r := D2 ++ r) h1
  have hsgok : SgOk s (D1 ++ 46 :: (D2 ++ r)) := by
    rcases hs with rfl | ⟨rfl, _⟩
    · exact sg_ok hfirst
    · exact .inr (.inl rfl)
  have hlen : 0 < D1.length + D2.length := by
    have := List.length_pos_iff.mpr hne
    rw [List.length_append] at this
    exact this
  have hsc := scanned_of (a := s ++ (D1 ++ 46 :: D2)) hsgok (scan_body h1 h2 hst) (by simp) (by right; simp; omega)
  have hsign : (if [(s ++ (D1 ++ 46 :: (D2 ++ r))).getD (Int.toNat 0) 0] = [45] then -(dv (D1 ++ D2) 0) else dv (D1 ++ D2) 0) = sg * (dv (D1 ++ D2) 0) := by
    rcases hs with rfl | ⟨rfl, rfl⟩
    · exact sign_read hsg hfirst (by simp)
    · rw [Int.one_mul]
      have e43 : ([43] ++ (D1 ++ 46 :: (D2 ++ r))).getD (Int.toNat 0) 0 = 43 := rfl
      rw [e43]
      exact if_neg (by decide)
  refine ⟨_, _, _, _, e, hsc, by omega, ?_, ?_⟩
  · rcases hr with ⟨rfl, rfl⟩ | ⟨c, q, rfl, hc, hq⟩
    · left
      refine ⟨?_, rfl, by omega⟩
      simp
    · right
      refine ⟨?_, ?_⟩
      · simp only [List.length_append, List.length_cons]; omega
      · have e1 : s ++ (D1 ++ 46 :: (D2 ++ c :: q)) = (s ++ (D1 ++ 46 :: D2)) ++ c :: q := by simp
        rw [e1, readRaw_at _ _ hc, hq]
  · rw [hsign, hv, hx]
    refine strips_sit hsg h0 h10 ?_
    rw [Int.max_eq_left (by omega)]
    exact hy
/-- a constant without a point: sign, figures, exponent -/
theorem parsed_ex {sg x y e : Int} {D1 q : List Nat} {c n k : Nat} (hsg : sg = 1 ∨ sg = -1) (h1 : IsD D1) (hne : D1 ≠ []) (hv : dv D1 0 = (n : Int) * 10 ^ k)
    (hc : c = 69 ∨ c = 68) (hq : rd q = some e) (h0 : n = 0 → y = 0) (h10 : n ≠ 0 → n % 10 ≠ 0) (hx : x = sg * (n : Int)) (hy : y = e + (k : Int)) :
    Parsed (ahd sg ++ (D1 ++ c :: q)) x y := by
  have hst : Stops (c :: q) := .inr ⟨c, q, rfl, by rcases hc with rfl | rfl <;> decide, by rcases hc with rfl | rfl <;> decide⟩
  have hfirst := first_D (r := c :: q) h1 hne
  have hlen := List.length_pos_iff.mpr hne
  have hsc := scanned_of (a := ahd sg ++ D1) (sg_ok (sg := sg) hfirst) (scan_bodyB h1 hst) (by simp) (by right; simp; omega)
  refine ⟨_, _, _, _, e, hsc, by omega, ?_, ?_⟩
  · right
    refine ⟨?_, ?_⟩
    · simp only [List.length_append, List.length_cons]; omega
    · have e1 : ahd sg ++ (D1 ++ c :: q) = (ahd sg ++ D1) ++ c :: q := by simp
      rw [e1, readRaw_at _ _ hc, hq]
  · rw [sign_read hsg hfirst (by simp), hv, hx]
    refine strips_sit hsg h0 h10 ?_
    rw [Int.max_eq_right (by decide), Int.sub_zero]
    exact hy
/-- no constant: what is behind does not read -/
theorem not_pt {sg : Int} {D1 D2 q : List Nat} {c : Nat} (h1 : IsD D1) (h2 : IsD D2) (hc : figv c < 0 ∧ c ≠ 46) (hq : (c ≠ 69 ∧ c ≠ 68) ∨ ((c = 69 ∨ c = 68) ∧ rd q = none)) : NotParsed (ahd sg ++ (D1 ++ 46 :: (D2 ++ c :: q))) := by
  have hst : Stops (c :: q) := .inr ⟨c, q, rfl, hc.1, hc.2⟩
  have hfirst := first_B (r := D2 ++ c :: q) h1
  have hsc := scanned_of (a := ahd sg ++ (D1 ++ 46 :: D2)) (sg_ok (sg := sg) hfirst) (scan_body h1 h2 hst) (by simp) (by right; simp; omega)
  have e1 : ahd sg ++ (D1 ++ 46 :: (D2 ++ c :: q)) = (ahd sg ++ (D1 ++ 46 :: D2)) ++ c :: q := by simp
  refine np_2 hsc ?_ ?_
  · simp only [List.length_append, List.length_cons]; omega
  · rw [e1]
    rcases hq with ⟨q1, q2⟩ | ⟨q1, q2⟩
    · exact readRaw_no _ _ q1 q2
    · rw [readRaw_at _ _ q1, q2]
theorem not_sp (b : List Nat) : NotParsed (32 :: b) := by
  have hok : SgOk [] (32 :: b) := by
    refine .inr (.inr ⟨rfl, fun c hc => ?_⟩)
    have : c = 32 := by simpa using hc
    omega
  have hsc := scanned_of (s := []) (b := 32 :: b) (a := []) (r := 32 :: b) hok (scan_stop (.inr ⟨32, b, rfl, by decide, by decide⟩) 0 0 (-1)) rfl (.inl rfl)
  exact np_0 hsc rfl

/-! the plain law: the texts -/
theorem sit_sgn {n : Nat} {sg x : Int} (hsg : sg = 1 ∨ sg = -1) (hx : x = sg * (n : Int)) (h0 : n = 0 → sg = 1) : sgn x = ahd sg := by
  rcases hsg with rfl | rfl
  · have : ¬ x < 0 := by omega
    rw [sgn_p this]
    rfl
  · have hn : n ≠ 0 := fun h => by have := h0 h; omega
    have : x < 0 := by omega
    rw [sgn_n this]
    rfl
theorem sit_txt {d g : List Nat} {f sg x y : Int} {n : Nat} (hd : d = digs n) (hsg : sg = 1 ∨ sg = -1) (hx : x = sg * (n : Int)) (hy : y = f - (d.length : Int) + 1) (h0 : n = 0 → sg = 1) : rtext x y g = ahd sg ++ laid d f g := by
  have hs := sit_sgn hsg hx h0
  have hn : (x.natAbs : Int) = (n : Int) := by rcases hsg with rfl | rfl <;> omega
  have hdec : dec (x.natAbs : Int) = d := by rw [hn, dec_nat, hd]
  have hpos : 0 < d.length := by rw [hd]; exact digs_pos n
  unfold rtext laid
  rw [hdec, hs]
  by_cases c1 : g = [69] ∧ f - (d.length : Int) + 1 ≥ 0 ∧ f < 7
  · rw [if_pos c1, if_pos ⟨c1.1, by omega, by omega⟩, hy]
    simp
  · rw [if_neg c1, if_neg fun q => c1 ⟨q.1, by omega, by omega⟩]
    by_cases c2 : g = [69] ∧ f - (d.length : Int) + 1 < 0 ∧ 0 ≤ f
    · rw [if_pos c2, if_pos ⟨c2.1, by omega, by omega⟩]
      have e1 : cl y d.length = cl (f + 1) d.length := by rw [cl_n (by omega), cl_p (by omega)]; omega
      rw [sl_ns, sl_sn, sl_ns, sl_sn, e1]
      simp
    · rw [if_neg c2, if_neg fun q => c2 ⟨q.1, by omega, by omega⟩]
      by_cases c3 : g = [69] ∧ f < 0 ∧ f - (d.length : Int) + 1 ≥ -7
      · rw [if_pos c3, if_pos ⟨c3.1, by omega, by omega⟩]
        have e1 : -y - (d.length : Int) = -f - 1 := by omega
        rw [e1]
        simp
      · rw [if_neg c3]
        by_cases hg : g = [69]
        · rw [if_neg fun q => by
            have q1 : f < 0 ∨ 0 ≤ f := by omega
            rcases q1 with q1 | q1
            · exact c3 ⟨hg, q1, by omega⟩
            · have q2 : f - (d.length : Int) + 1 < 0 ∨ 0 ≤ f - (d.length : Int) + 1 := by omega
              rcases q2 with q2 | q2
              · exact c2 ⟨hg, q2, q1⟩
              · omega]
          have e1 : y + (d.length : Int) - 1 = f := by omega
          rw [e1, sl_take1]
          cases d with
          | nil => simp at hpos
          | cons a r => simp
        · rw [if_neg fun q => hg q.1]
          have e1 : y + (d.length : Int) - 1 = f := by omega
          rw [e1, sl_take1]
          cases d with
          | nil => simp at hpos
          | cons a r => simp
theorem laid_forms {d g : List Nat} {f y : Int} {n : Nat} (hd : d = digs n) (hn : n < 10 ^ 15) (hy : y = f - (d.length : Int) + 1) (hf : -1000 ≤ f ∧ f ≤ 1000) (hg : g = [69] ∨ g = [68]) :
    ∃ (D1 D2 r : List Nat) (k : Nat) (e : Int), laid d f g = D1 ++ 46 :: (D2 ++ r) ∧ IsD D1 ∧ IsD D2 ∧ D1 ++ D2 ≠ [] ∧ dv (D1 ++ D2) 0 = (n : Int) * 10 ^ k ∧ y = e - (D2.length : Int) + (k : Int) ∧ D1.length + D2.length ≤ 40 ∧
      ((r = [] ∧ e = 0 ∧ g = [69]) ∨ ∃ c, g = [c] ∧ (c = 69 ∨ c = 68) ∧ r = c :: dec f ∧ e = f) := by
  have hD : IsD d := by rw [hd]; exact digs_isD n
  have hv : dv d 0 = (n : Int) := by rw [hd]; exact dv_digs n
  have hpos : 0 < d.length := by rw [hd]; exact digs_pos n
  have hne : d ≠ [] := List.length_pos_iff.mp hpos
  have hl : d.length ≤ 15 := by rw [hd]; exact digs_len (by decide) hn
  unfold laid
  by_cases c1 : g = [69] ∧ f - (d.length : Int) + 1 ≥ 0 ∧ f < 7
  · rw [if_pos c1]
    refine ⟨d ++ List.replicate (f - (d.length : Int) + 1).toNat 48, [], [], (f - (d.length : Int) + 1).toNat, 0, by simp, hD.app (IsD.rep _), IsD.nil, by simp [hne], ?_, ?_, ?_, .inl ⟨rfl, rfl, c1.1⟩⟩
    · rw [List.append_nil, dv_app, hv, dv_rep]
    · simp; omega
    · simp; omega
  · rw [if_neg c1]
    by_cases c2 : g = [69] ∧ f - (d.length : Int) + 1 < 0 ∧ 0 ≤ f
    · rw [if_pos c2, sl_ns, sl_sn, cl_p (by omega)]
      have hm : min (f + 1).toNat d.length = (f + 1).toNat := by omega
      rw [hm]
      have ht : d.take (f + 1).toNat ++ d.drop (f + 1).toNat = d := List.take_append_drop _ _
      have hD' := hD
      rw [← ht] at hD'
      refine ⟨d.take (f + 1).toNat, d.drop (f + 1).toNat, [], 0, 0, by simp, hD'.left, hD'.right, by rw [ht]; exact hne, by rw [ht, hv]; simp, ?_, ?_, .inl ⟨rfl, rfl, c2.1⟩⟩
      · rw [List.length_drop]; omega
      · rw [List.length_take, List.length_drop]; omega
    · rw [if_neg c2]
      by_cases c3 : g = [69] ∧ f < 0 ∧ f - (d.length : Int) + 1 ≥ -7
      · rw [if_pos c3]
        refine ⟨[], List.replicate (-f - 1).toNat 48 ++ d, [], 0, 0, by simp, IsD.nil, (IsD.rep _).app hD, by simp [hne], ?_, ?_, ?_, .inl ⟨rfl, rfl, c3.1⟩⟩
        · rw [List.nil_append, dv_app, dv_rep0, hv]; simp
        · simp; omega
        · simp; omega
      · rw [if_neg c3, sl_take1, sl_sn, cl_p (by decide)]
        have hm : min (Int.toNat 1) d.length = 1 := by
          have : Int.toNat 1 = 1 := rfl
          omega
        rw [hm]
        have ht : d.take 1 ++ d.drop 1 = d := List.take_append_drop _ _
        have hD' := hD
        rw [← ht] at hD'
        refine ⟨d.take 1, d.drop 1, g ++ dec f, 0, f, by simp, hD'.left, hD'.right, by rw [ht]; exact hne, by rw [ht, hv]; simp, ?_, ?_, .inr ?_⟩
        · rw [List.length_drop]; omega
        · rw [List.length_take, List.length_drop]; omega
        · rcases hg with rfl | rfl
          · exact ⟨69, rfl, .inl rfl, rfl, rfl⟩
          · exact ⟨68, rfl, .inr rfl, rfl, rfl⟩

/-- what the law asks of a text by one letter -/
structure Facts (d : List Nat) (f sg x y : Int) (g : List Nat) : Prop where
  txt : ¬ rtext x y g ≠ ahd sg ++ laid d f g
  len : (rtext x y g).length ≤ 100
  pa : (rtext x y g).length ≤ 10000 ∧ Parsed (rtext x y g) x y
  np1 : (rtext x y g ++ [32]).length ≤ 10000 ∧ NotParsed (rtext x y g ++ [32])
  np2 : ([32] ++ rtext x y g).length ≤ 10000 ∧ NotParsed ([32] ++ rtext x y g)
  np3 : (rtext x y g ++ g).length ≤ 10000 ∧ NotParsed (rtext x y g ++ g)
  pp : 0 < sg → ([43] ++ rtext x y g).length ≤ 10000 ∧ Parsed ([43] ++ rtext x y g) x y
  llen : (laid d f g).length ≤ 100
theorem sit_facts {d : List Nat} {f sg x y : Int} {g : List Nat} (h : Sit d f sg x y) (hg : g = [69] ∨ g = [68]) : Facts d f sg x y g := by
  obtain ⟨n, h2, h3, h4, h5, h6, h7, h8, h9, h10⟩ := sit2 h
  have ht := sit_txt (g := g) h3 h4 h5 h6 fun q => (h9 q).2
  obtain ⟨D1, D2, r, k, e, hl, i1, i2, i3, i4, i5, i6, hr⟩ := laid_forms (g := g) h3 h2 h6 ⟨h7, h8⟩ hg
  have hy0 : n = 0 → y = 0 := fun q => by
    have := (h9 q).1
    have hd1 : d.length = 1 := by rw [h3, q]; decide +kernel
    omega
  have hdec := dec_len (a := f) (k := 4) (by decide) (by omega)
  have hahd : (ahd sg).length ≤ 1 := by unfold ahd; split <;> simp
  have hglen : g.length = 1 := by rcases hg with rfl | rfl <;> rfl
  have hrlen : r.length ≤ 6 := by
    rcases hr with ⟨rfl, _⟩ | ⟨c, _, _, rfl, _⟩
    · simp
    · rw [List.length_cons]; omega
  have hll : (laid d f g).length ≤ 60 := by
    rw [hl]
    simp only [List.length_append, List.length_cons]
    omega
  have htl : (rtext x y g).length ≤ 61 := by rw [ht, List.length_append]; omega
  have hr' : (r = [] ∧ e = 0) ∨ ∃ c q, r = c :: q ∧ (c = 69 ∨ c = 68) ∧ rd q = some e := by
    rcases hr with ⟨q1, q2, _⟩ | ⟨c, _, hc, q1, q2⟩
    · exact .inl ⟨q1, q2⟩
    · exact .inr ⟨c, dec f, q1, hc, by rw [rd_dec, q2]⟩
  refine ⟨fun q => q ht, by omega, ⟨by omega, ?_⟩, ⟨by rw [List.length_append]; simp; omega, ?_⟩, ⟨by rw [List.length_append]; simp; omega, not_sp _⟩, ⟨by rw [List.length_append]; omega, ?_⟩, fun hs => ⟨by rw [List.length_append]; simp; omega, ?_⟩, by omega⟩
  · rw [ht, hl]
    exact parsed_pt h4 i1 i2 i3 i4 (.inl rfl) hr' hy0 h10 h5 i5
  · have e1 : rtext x y g ++ [32] = ahd sg ++ (D1 ++ 46 :: (D2 ++ (r ++ [32]))) := by rw [ht, hl]; simp
    rw [e1]
    rcases hr with ⟨rfl, _⟩ | ⟨c, _, hc, rfl, _⟩
    · exact not_pt (q := []) i1 i2 (by decide) (.inl (by decide))
    · exact not_pt i1 i2 (by rcases hc with rfl | rfl <;> decide) (.inr ⟨hc, rd_bad _ (by decide) (by decide) (by decide)⟩)
  · have e1 : rtext x y g ++ g = ahd sg ++ (D1 ++ 46 :: (D2 ++ (r ++ g))) := by rw [ht, hl]; simp
    rw [e1]
    rcases hr with ⟨rfl, _, hg'⟩ | ⟨c, hg', hc, rfl, _⟩
    · rw [hg']
      exact not_pt (q := []) i1 i2 (by decide) (.inr ⟨.inl rfl, rfl⟩)
    · rw [hg']
      exact not_pt i1 i2 (by rcases hc with rfl | rfl <;> decide) (.inr ⟨hc, rd_bad _ (by rcases hc with rfl | rfl <;> decide) (by rcases hc with rfl | rfl <;> decide) (by rcases hc with rfl | rfl <;> decide)⟩)
  · have hs1 : sg = 1 := h4.elim id fun q => by rw [q] at hs; exact absurd hs (by decide)
    have ea : ahd sg = [] := by rw [hs1]; rfl
    have e1 : [43] ++ rtext x y g = [43] ++ (D1 ++ 46 :: (D2 ++ r)) := by rw [ht, hl, ea]; simp
    rw [e1]
    exact parsed_pt h4 i1 i2 i3 i4 (.inr ⟨rfl, hs1⟩) hr' hy0 h10 h5 i5

theorem sit_y0 {d : List Nat} {f y : Int} {n : Nat} (h3 : d = digs n) (h6 : y = f - (d.length : Int) + 1) (h9 : n = 0 → f = 0) : n = 0 → y = 0 := fun q => by
  have := h9 q
  have hd1 : d.length = 1 := by rw [h3, q]; decide +kernel
  omega
theorem bound_60 (x : Int) : 0 ≤ x % 60 ∧ x % 60 < 60 := by omega
theorem rd_zeros (w k : Nat) : rd (List.replicate w 48 ++ digs k) = some (k : Int) := by
  rw [rd_D ((IsD.rep w).app (digs_isD k)) (by simp [digs_ne]), dv_app, dv_rep0, dv_digs]
theorem rd_plus0 (w k : Nat) : rd (43 :: (List.replicate w 48 ++ digs k)) = some (k : Int) := by
  rw [rd_plus ((IsD.rep w).app (digs_isD k)) (by simp [digs_ne]), dv_app, dv_rep0, dv_digs]
theorem rd_neg0 (w k : Nat) : rd (45 :: (List.replicate w 48 ++ digs k)) = some (-(k : Int)) := by
  rw [rd_neg ((IsD.rep w).app (digs_isD k)) (by simp [digs_ne]), dv_app, dv_rep0, dv_digs]
theorem fin_a {d : List Nat} {f sg x y w : Int} {p : List Nat} (h : Sit d f sg x y) (hw : 0 ≤ w ∧ w < 60) (hp : p = [69] ∨ p = [68, 43]) (hl : 0 ≤ f - (d.length : Int) + 1) :
    (ahd sg ++ List.replicate w.toNat 48 ++ d ++ (p ++ List.replicate w.toNat 48 ++ dec ((f - (d.length : Int) + 1).natAbs : Int))).length ≤ 10000 ∧
      Parsed (ahd sg ++ List.replicate w.toNat 48 ++ d ++ (p ++ List.replicate w.toNat 48 ++ dec ((f - (d.length : Int) + 1).natAbs : Int))) x y := by
  obtain ⟨n, h2, h3, h4, h5, h6, h7, h8, h9, h10⟩ := sit2 h
  obtain ⟨_, _, _, b4, _, _, b7⟩ := sit_bounds h
  have hdec := dec_len (a := ((f - (d.length : Int) + 1).natAbs : Int)) (k := 5) (by decide) (by omega)
  have hD : IsD d := by rw [h3]; exact digs_isD n
  have hv : dv (List.replicate w.toNat 48 ++ d) 0 = (n : Int) * 10 ^ 0 := by rw [dv_app, dv_rep0, h3, dv_digs]; simp
  have hne : List.replicate w.toNat 48 ++ d ≠ [] := by rw [h3]; simp [digs_ne]
  have hy : y = ((f - (d.length : Int) + 1).natAbs : Int) + ((0 : Nat) : Int) := by omega
  refine ⟨?_, ?_⟩
  · simp only [List.length_append, List.length_replicate]
    rcases hp with rfl | rfl <;> simp <;> omega
  · rcases hp with rfl | rfl
    · have e1 : ahd sg ++ List.replicate w.toNat 48 ++ d ++ ([69] ++ List.replicate w.toNat 48 ++ dec ((f - (d.length : Int) + 1).natAbs : Int)) = ahd sg ++ ((List.replicate w.toNat 48 ++ d) ++ 69 :: (List.replicate w.toNat 48 ++ digs (f - (d.length : Int) + 1).natAbs)) := by rw [dec_nat]; simp
      rw [e1]
      exact parsed_ex h4 ((IsD.rep _).app hD) hne hv (.inl rfl) (rd_zeros _ _) (sit_y0 h3 h6 fun q => (h9 q).1) h10 h5 hy
    · have e1 : ahd sg ++ List.replicate w.toNat 48 ++ d ++ ([68, 43] ++ List.replicate w.toNat 48 ++ dec ((f - (d.length : Int) + 1).natAbs : Int)) = ahd sg ++ ((List.replicate w.toNat 48 ++ d) ++ 68 :: (43 :: (List.replicate w.toNat 48 ++ digs (f - (d.length : Int) + 1).natAbs))) := by rw [dec_nat]; simp
      rw [e1]
      exact parsed_ex h4 ((IsD.rep _).app hD) hne hv (.inr rfl) (rd_plus0 _ _) (sit_y0 h3 h6 fun q => (h9 q).1) h10 h5 hy
abbrev lowOf (ex : List Nat) (w n : Int) : List Nat := sl ex none (some 1) ++ [45] ++ sl ex (some (-((dec n).length : Int) - w)) none
theorem low_is {p0 : Nat} {p1 : List Nat} {w : Int} (hw : 0 ≤ w) (k : Nat) : lowOf (p0 :: p1 ++ List.replicate w.toNat 48 ++ dec (k : Int)) w (k : Int) = p0 :: (45 :: (List.replicate w.toNat 48 ++ digs k)) := by
  unfold lowOf
  have hpos := digs_pos k
  rw [dec_nat, sl_take1]
  have e : p0 :: p1 ++ List.replicate w.toNat 48 ++ digs k = (p0 :: p1) ++ (List.replicate w.toNat 48 ++ digs k) := by simp
  have hc : cl (-((digs k).length : Int) - w) ((p0 :: p1) ++ (List.replicate w.toNat 48 ++ digs k)).length = (p0 :: p1).length := by
    rw [cl_n (by omega)]
    simp only [List.length_append, List.length_replicate]
    omega
  rw [e, sl_sn, hc, List.drop_left]
  rfl
theorem fin_b {d : List Nat} {f sg x y w : Int} {p : List Nat} (h : Sit d f sg x y) (hw : 0 ≤ w ∧ w < 60) (hp : p = [69] ∨ p = [68, 43]) (hl : f - (d.length : Int) + 1 < 0) :
    (ahd sg ++ List.replicate w.toNat 48 ++ d ++ [46] ++ lowOf (p ++ List.replicate w.toNat 48 ++ dec ((f - (d.length : Int) + 1).natAbs : Int)) w ((f - (d.length : Int) + 1).natAbs : Int)).length ≤ 10000 ∧
      Parsed (ahd sg ++ List.replicate w.toNat 48 ++ d ++ [46] ++ lowOf (p ++ List.replicate w.toNat 48 ++ dec ((f - (d.length : Int) + 1).natAbs : Int)) w ((f - (d.length : Int) + 1).natAbs : Int)) x y := by
  obtain ⟨n, h2, h3, h4, h5, h6, h7, h8, h9, h10⟩ := sit2 h
  obtain ⟨_, _, _, b4, _, _, b7⟩ := sit_bounds h
  have hdec := digs_len (n := (f - (d.length : Int) + 1).natAbs) (k := 5) (by decide) (by omega)
  have hD : IsD d := by rw [h3]; exact digs_isD n
  have hv : dv ((List.replicate w.toNat 48 ++ d) ++ []) 0 = (n : Int) * 10 ^ 0 := by rw [List.append_nil, dv_app, dv_rep0, h3, dv_digs]; simp
  have hne : (List.replicate w.toNat 48 ++ d) ++ [] ≠ [] := by rw [h3]; simp [digs_ne]
  have hy : y = -((f - (d.length : Int) + 1).natAbs : Int) - (([] : List Nat).length : Int) + ((0 : Nat) : Int) := by simp; omega
  have key : ∀ c : Nat, (c = 69 ∨ c = 68) → (ahd sg ++ List.replicate w.toNat 48 ++ d ++ [46] ++ (c :: (45 :: (List.replicate w.toNat 48 ++ digs (f - (d.length : Int) + 1).natAbs)))).length ≤ 10000 ∧
      Parsed (ahd sg ++ List.replicate w.toNat 48 ++ d ++ [46] ++ (c :: (45 :: (List.replicate w.toNat 48 ++ digs (f - (d.length : Int) + 1).natAbs)))) x y := by
    intro c hc
    refine ⟨by simp only [List.length_append, List.length_replicate, List.length_cons, List.length_nil]; omega, ?_⟩
    have e1 : ahd sg ++ List.replicate w.toNat 48 ++ d ++ [46] ++ (c :: (45 :: (List.replicate w.toNat 48 ++ digs (f - (d.length : Int) + 1).natAbs))) = ahd sg ++ ((List.replicate w.toNat 48 ++ d) ++ 46 :: ([] ++ c :: (45 :: (List.replicate w.toNat 48 ++ digs (f - (d.length : Int) + 1).natAbs)))) := by simp
    rw [e1]
    exact parsed_pt h4 ((IsD.rep _).app hD) IsD.nil hne hv (.inl rfl) (.inr ⟨c, _, rfl, hc, rd_neg0 _ _⟩) (sit_y0 h3 h6 fun q => (h9 q).1) h10 h5 hy
  rcases hp with rfl | rfl
  · have e : [69] ++ List.replicate w.toNat 48 ++ dec ((f - (d.length : Int) + 1).natAbs : Int) = 69 :: [] ++ List.replicate w.toNat 48 ++ dec ((f - (d.length : Int) + 1).natAbs : Int) := rfl
    rw [e, low_is hw.1]
    exact key 69 (.inl rfl)
  · have e : [68, 43] ++ List.replicate w.toNat 48 ++ dec ((f - (d.length : Int) + 1).natAbs : Int) = 68 :: [43] ++ List.replicate w.toNat 48 ++ dec ((f - (d.length : Int) + 1).natAbs : Int) := rfl
    rw [e, low_is hw.1]
    exact key 68 (.inr rfl)
theorem fin_c {d : List Nat} {f sg x y w : Int} (h : Sit d f sg x y) (hw : 0 ≤ w ∧ w < 60) :
    (ahd sg ++ d ++ List.replicate w.toNat 48 ++ [46] ++ List.replicate w.toNat 48 ++ [69] ++ dec (f - (d.length : Int) + 1 - w)).length ≤ 10000 ∧
      Parsed (ahd sg ++ d ++ List.replicate w.toNat 48 ++ [46] ++ List.replicate w.toNat 48 ++ [69] ++ dec (f - (d.length : Int) + 1 - w)) x y := by
  obtain ⟨n, h2, h3, h4, h5, h6, h7, h8, h9, h10⟩ := sit2 h
  obtain ⟨_, _, _, b4, _, _, b7⟩ := sit_bounds h
  have hdec := dec_len (a := f - (d.length : Int) + 1 - w) (k := 5) (by decide) (by omega)
  have hD : IsD d := by rw [h3]; exact digs_isD n
  have hv : dv ((d ++ List.replicate w.toNat 48) ++ List.replicate w.toNat 48) 0 = (n : Int) * 10 ^ (w.toNat + w.toNat) := by
    rw [dv_app, dv_app, h3, dv_digs, dv_rep, dv_rep, Int.pow_add, Int.mul_assoc]
  have hne : (d ++ List.replicate w.toNat 48) ++ List.replicate w.toNat 48 ≠ [] := by rw [h3]; simp [digs_ne]
  refine ⟨by simp only [List.length_append, List.length_replicate, List.length_cons, List.length_nil]; omega, ?_⟩
  have e1 : ahd sg ++ d ++ List.replicate w.toNat 48 ++ [46] ++ List.replicate w.toNat 48 ++ [69] ++ dec (f - (d.length : Int) + 1 - w) = ahd sg ++ ((d ++ List.replicate w.toNat 48) ++ 46 :: (List.replicate w.toNat 48 ++ 69 :: dec (f - (d.length : Int) + 1 - w))) := by simp
  rw [e1]
  refine parsed_pt h4 (hD.app (IsD.rep _)) (IsD.rep _) hne hv (.inl rfl) (.inr ⟨69, _, rfl, .inl rfl, rd_dec _⟩) (sit_y0 h3 h6 fun q => (h9 q).1) h10 h5 ?_
  rw [List.length_replicate]
  omega

/-! the law's own walk -/
theorem row_ok15 {c : Int} {k : Nat} : 0 ≤ c % 10 ^ Int.toNat 15 % 10 ^ k ∧ c % 10 ^ Int.toNat 15 % 10 ^ k < 10 ^ 15 := by
  have h15 : (10 : Int) ^ Int.toNat 15 = 1000000000000000 := by decide
  rw [h15]
  have h1 := Int.emod_nonneg c (b := 1000000000000000) (by decide)
  have h2 := Int.emod_lt_of_pos c (b := 1000000000000000) (by decide)
  have hk : (0 : Int) < 10 ^ k := Int.pow_pos (by decide)
  have h3 := Int.emod_nonneg (c % 1000000000000000) (Int.ne_of_gt hk)
  have h4 : c % 1000000000000000 % 10 ^ k ≤ c % 1000000000000000 := by
    by_cases h : c % 1000000000000000 < 10 ^ k
    · rw [Int.emod_eq_of_lt h1 h]; exact Int.le_refl _
    · have := Int.emod_lt_of_pos (c % 1000000000000000) hk
      omega
  omega
theorem row_ok {c : Int} {k : Nat} : 0 ≤ c % 10 ^ Int.toNat 15 % 10 ^ k ∧ c % 10 ^ Int.toNat 15 % 10 ^ k < 10 ^ 16 := ⟨row_ok15.1, Int.lt_trans row_ok15.2 (by decide)⟩
abbrev RetR (news : List (Addr × Obj)) (n : Int) : Heap → Addr → (PySem.Str → Option Value) → Shared → (Value → Shared → Prop) → Prop :=
  fun h₀ L m s Q => ∀ (D : Addr) (t1 t2 : Tok) (c : Nat) (h' : Heap) (tk' : Nat), (lrow n).length ≤ 16 → (rst (lrow n)).length ≤ (lrow n).length → Fr h₀ L h' m → News h₀ L h' ((D, tup2 (Value.str (T (rst (lrow n))) t1) (Value.int ((lrow n).length - (rst (lrow n)).length) t2) c) :: news) → (∀ p ∈ news, p.1 < D) → Q (.ref D) { s with heap := h', toks := tk' }
theorem law_row_con2 {w : World} {mean : ExcName → Option Value} {mg mb : PySem.Str → Option Value} {news : List (Addr × Obj)} {n : Int} {tn : Tok} :
    Con w mean mg mb 78 2 news [.int n tn] (0 ≤ n ∧ n < 10 ^ 16) (RetR news n) := by
  intro dp un gd cn cs a ccd cl outer A₀ base h₀ L m s Q E B F X N Tp hk hpre hdp hun hret
  exact law_row_con dp un gd cn cs a ccd cl outer A₀ base h₀ L m s Q E B F X N Tp hk hpre hdp hun fun D t1 t2 c h' tk' F' N' l' => hret D t1 t2 c h' tk' (lrow_len hpre.2) (rst_len _) F' N' l'
abbrev RetD (news : List (Addr × Obj)) (n : Int) : Heap → Addr → (PySem.Str → Option Value) → Shared → (Value → Shared → Prop) → Prop :=
  fun h₀ L m s Q => ∀ (t : Tok) (h' : Heap) (tk' : Nat), (dec n).length ≤ 16 → Fr h₀ L h' m → News h₀ L h' news → Q (.str (T (dec n)) t) { s with heap := h', toks := tk' }
theorem law_number_con2 {w : World} {mean : ExcName → Option Value} {mg mb : PySem.Str → Option Value} {news : List (Addr × Obj)} {n : Int} {tn : Tok} :
    Con w mean mg mb 85 4 news [.int n tn] (n.natAbs < 10 ^ 15) (RetD news n) := by
  intro dp un gd cn cs a ccd cl outer A₀ base h₀ L m s Q E B F X N Tp hk hpre hdp hun hret
  exact law_number_con dp un gd cn cs a ccd cl outer A₀ base h₀ L m s Q E B F X N Tp hk hpre hdp hun fun t h' tk' F' N' => hret t h' tk' (dec_len (by decide) hpre) F' N'
abbrev fiF (c : Int × Tok) : List (PySem.Str × Int × Tok) := [(PySem.Str.ofString "first", c.1, c.2)]
theorem ahd_1 {sg : Int} (h : sg < 0) : [45] = ahd sg := (if_pos h).symm
theorem ahd_2 {sg : Int} (h : ¬ sg < 0) : [] = ahd sg := (if_neg h).symm
theorem bound_25 (x : Int) : -1000 ≤ x % 25 - 12 ∧ x % 25 - 12 ≤ 1000 := by omega
theorem bound_2001 (x : Int) : -1000 ≤ x % 2001 - 1000 ∧ x % 2001 - 1000 ≤ 1000 := by omega
theorem rc_same {w : World} {mean : ExcName → Option Value} {mg mb : PySem.Str → Option Value} {news : List (Addr × Obj)} {D1 D2 : Addr} {x e : Int} :
    Con w mean mg mb 43 4 news [.ref D1, .ref D2] (Held news D1 x e ∧ Held news D2 x e) (RetV news (Value.int 0)) := by
  have h := real_compare_con (w := w) (mean := mean) (mg := mg) (mb := mb) (news := news) (D1 := D1) (D2 := D2) (x := x) (y := x) (e := e)
  rw [if_pos rfl] at h
  exact h
theorem rc_less {w : World} {mean : ExcName → Option Value} {mg mb : PySem.Str → Option Value} {news : List (Addr × Obj)} {D1 D2 : Addr} {x e : Int} :
    Con w mean mg mb 43 4 news [.ref D1, .ref D2] (Held news D1 x e ∧ Held news D2 (x + 1) e) (RetV news (Value.int (-1))) := by
  have h := real_compare_con (w := w) (mean := mean) (mg := mg) (mb := mb) (news := news) (D1 := D1) (D2 := D2) (x := x) (y := x + 1) (e := e)
  rw [if_neg (by omega), if_neg (by omega)] at h
  exact h

local macro_rules | `(tactic| walk_at "binaryOp Mod int int") => `(tactic| (k_here; (with_reducible show wpAny _ _ (binaryOp Operator.Mod (Value.int _ _) (Value.int _ _)) _ _ _); (refine mod_T ?hb ?_); (case hb => first | decide | exact Int.pow_pos (by decide)); intro _ _))
local macro_rules | `(tactic| walk_at "binaryOp Pow int int") => `(tactic| (k_here; (with_reducible show wpAny _ _ (binaryOp Operator.Pow (Value.int 10 _) (Value.int _ _)) _ _ _); (refine pow_T ?k1 ?k2 ?_); (case k1 => omega); (case k2 => omega); intro _ _))
local macro_rules | `(tactic| walk_at "binaryOp FloorDiv int int") => `(tactic| (k_here; (with_reducible show wpAny _ _ (binaryOp Operator.FloorDiv (Value.int _ _) (Value.int (10 ^ _) _)) _ _ _); (refine div_T ?k1 ?_); (case k1 => omega); intro _ _))
local macro_rules | `(tactic| walk_at "binaryOp Mult int int") => `(tactic| (k_here; (with_reducible show wpAny _ _ (binaryOp Operator.Mult (Value.int _ _) (Value.int _ _)) _ _ _); (refine mul_s ?k1 ?_); (case k1 => with_reducible assumption); intro _ _))
local macro_rules | `(tactic| walk_at "CutS") => `(tactic| (refine' cutS_end ?k1 ?k2 ?k3; (case k1 => k_asm); (case k2 => k_asm); (case k3 => k_extra "cuts")))
local macro_rules | `(tactic| walk_at "call ref") => `(tactic| (k_here; (with_reducible show wpAny _ _ (call (Value.ref 78) _) _ _ _); k_dflt (refine' con_use law_row_con2 ?k1 ?k2 ?k3 ?k4 ?k5 ?kK ?kp ?kd ?ku ?_; (case k1 => k_asm); (case k2 => k_asm); (case k3 => k_asm); (case k4 => k_asm); (case k5 => k_asm); (case kK => first | exact rfl | assumption); (case kp => exact row_ok); (case kd => ktr_room); (case ku => ktr_units)); intro D' t1' t2' c' h' tk' hl1' hl2' F' N' l1; (try k_lt l1); (try k_sweep); (try dsimp only)))
local macro_rules | `(tactic| walk_at "call ref") => `(tactic| (k_here; (with_reducible show wpAny _ _ (call (Value.ref 50) _) _ _ _); k_dflt (refine' con_use real_text_con ?k1 ?k2 ?k3 ?k4 ?k5 ?kK ?kp ?kd ?ku ?_; (case k1 => k_asm); (case k2 => k_asm); (case k3 => k_asm); (case k4 => k_asm); (case k5 => k_asm); (case kK => first | exact rfl | assumption); (case kp => exact ⟨by ktr_rel, by assumption, by assumption, by assumption, by decide⟩); (case kd => ktr_room); (case ku => ktr_units)); intro t' h' tk' F' N'; (try k_sweep); (try dsimp only)))
local macro_rules | `(tactic| walk_at "call ref") => `(tactic| (k_here; (with_reducible show wpAny _ _ (call (Value.ref 92) _) _ _ _); k_dflt (refine' con_use law_laid_con ?k1 ?k2 ?k3 ?k4 ?k5 ?kK ?kp ?kd ?ku ?_; (case k1 => k_asm); (case k2 => k_asm); (case k3 => k_asm); (case k4 => k_asm); (case k5 => k_asm); (case kK => first | exact rfl | assumption); (case kp => exact ⟨by omega, by omega, by omega, by decide⟩); (case kd => ktr_room); (case ku => ktr_units)); intro t' h' tk' F' N'; (try k_sweep); (try dsimp only)))
local macro_rules | `(tactic| walk_at "call ref") => `(tactic| (k_here; (with_reducible show wpAny _ _ (call (Value.ref 85) _) _ _ _); k_dflt (refine' con_use law_number_con2 ?k1 ?k2 ?k3 ?k4 ?k5 ?kK ?kp ?kd ?ku ?_; (case k1 => k_asm); (case k2 => k_asm); (case k3 => k_asm); (case k4 => k_asm); (case k5 => k_asm); (case kK => first | exact rfl | assumption); (case kp => omega); (case kd => ktr_room); (case ku => ktr_units)); intro t' h' tk' hdl' F' N'; (try k_sweep); (try dsimp only)))
local macro_rules | `(tactic| walk_at "call ref") => `(tactic| (k_here; (with_reducible show wpAny _ _ (call (Value.ref 64) _) _ _ _); k_dflt (refine' con_use parse_none ?k1 ?k2 ?k3 ?k4 ?k5 ?kK ?kp ?kd ?ku ?_; (case k1 => k_asm); (case k2 => k_asm); (case k3 => k_asm); (case k4 => k_asm); (case k5 => k_asm); (case kK => first | exact rfl | assumption); (case kp => k_extra "notparsed"); (case kd => ktr_room); (case ku => ktr_units)); intro t' h' tk' F' N'; (try k_sweep); (try dsimp only)))
local macro_rules | `(tactic| walk_at "call ref") => `(tactic| (k_here; (with_reducible show wpAny _ _ (call (Value.ref 64) _) _ _ _); k_dflt (refine' con_use parse_some ?k1 ?k2 ?k3 ?k4 ?k5 ?kK ?kp ?kd ?ku ?_; (case k1 => k_asm); (case k2 => k_asm); (case k3 => k_asm); (case k4 => k_asm); (case k5 => k_asm); (case kK => first | exact rfl | assumption); (case kp => k_extra "parsed"); (case kd => ktr_room); (case ku => ktr_units)); intro D' own' h' tk' F' N' H'; (try k_sweep); (try dsimp only)))
local macro_rules | `(tactic| walk_at "call ref") => `(tactic| (k_here; (with_reducible show wpAny _ _ (call (Value.ref 43) _) _ _ _); k_dflt (refine' con_use rc_less ?k1 ?k2 ?k3 ?k4 ?k5 ?kK ?kp ?kd ?ku ?_; (case k1 => k_asm); (case k2 => k_asm); (case k3 => k_asm); (case k4 => k_asm); (case k5 => k_asm); (case kK => first | exact rfl | assumption); (case kp => exact ⟨by ktr_rel, by ktr_rel⟩); (case kd => ktr_room); (case ku => ktr_units)); intro t' h' tk' F' N'; (try replace N' := news_left2 N'); (try k_sweep); (try dsimp only)))
local macro_rules | `(tactic| walk_at "call ref") => `(tactic| (k_here; (with_reducible show wpAny _ _ (call (Value.ref 43) _) _ _ _); k_dflt (refine' con_use rc_same ?k1 ?k2 ?k3 ?k4 ?k5 ?kK ?kp ?kd ?ku ?_; (case k1 => k_asm); (case k2 => k_asm); (case k3 => k_asm); (case k4 => k_asm); (case k5 => k_asm); (case kK => first | exact rfl | assumption); (case kp => exact ⟨by ktr_rel, by ktr_rel⟩); (case kd => ktr_room); (case ku => ktr_units)); intro t' h' tk' F' N'; (try replace N' := news_left N'); (try k_sweep); (try dsimp only)))
local macro_rules | `(tactic| ktr_rel) => `(tactic| first | with_reducible assumption | exact Held.of (by k_mem) | exact Held.sub (by with_reducible assumption) (fun p hp => List.mem_append_right _ hp) | exact Held.of (List.mem_append_left _ (by k_mem)) | exact Held.sub (by with_reducible assumption) (fun p hp => List.mem_cons_of_mem _ (List.mem_append_right _ hp)))
local macro_rules | `(tactic| walk_at "compareOp NotEq ref ref") => `(tactic| (k_here; k_dflt (refine' ne_H ?k1 ?k2 ?k3 ?k4 ?k5 ?ku ?_; (case k1 => k_asm); (case k2 => k_asm); (case k3 => k_asm); (case k4 => ktr_rel); (case k5 => ktr_rel); (case ku => ke_room))))
local macro_rules | `(tactic| walk_at "compareOp Eq ref ref") => `(tactic| (k_here; k_dflt (refine' eq_H ?k1 ?k2 ?k3 ?k4 ?k5 ?ku ?_; (case k1 => k_asm); (case k2 => k_asm); (case k3 => k_asm); (case k4 => ktr_rel); (case k5 => ktr_rel); (case ku => ke_room))))
local macro_rules | `(tactic| walk_at "exec If") => `(tactic| (k_here; (with_reducible show wpAny _ _ (exec (Stmt.If _ [Stmt.Return _ _] [] _) _) _ _ _); (fail_if_success (with_reducible show wpAny _ _ _ (CutK _ _ _ _ _) _ _)); (rename Fr _ _ _ _ => lF'); (rename News _ _ _ _ => lN'); (refine cut_keep lF' lN' ?_ ?_); rotate_left; (intro hK' tkK' FK' NK'); (try k_sweep)))
local macro_rules | `(tactic| walk_at "CutK") => `(tactic| (refine' cutK_end ?qzF ?qzN; (case qzF => k_asm); (case qzN => first | with_reducible assumption | exact news_left (by with_reducible assumption) | exact news_left2 (by with_reducible assumption) | assumption | exact news_left (by assumption) | exact news_left2 (by assumption))))

theorem law_holds : PySem.Challenge.rw_pf0115_01.Holds := hd (by
  k_go0
  all_goals (try k_fold)
  k_with_none
  w_top off
  k_with "exec If Compare" => (with_reducible show wpAny _ _ (exec (Stmt.If (Expr.Compare _ _ _ _) [Stmt.Assign _ _ _] [] _) _) _ _ _); (fail_if_success (with_reducible show wpAny _ _ _ (CutN _ _ _ _ _ _ _) _ _)); (rename Fr _ _ _ _ => lF'); (rename News _ _ _ _ => lN'); (refine' cut_stmt fiF (fun c => -1000 ≤ c.1 ∧ c.1 ≤ 1000) lF' lN' ?_ ?_); rotate_left; (rintro ⟨f1, tf1⟩ hf1 tkf1 hF1 F1 N1); (dsimp only [frN, fiF] at F1 hF1); (try k_sweep)
  k_with "CutN" => (first
    | (refine' cutN_end (_, _) ?qzF ?qzN ?qze ?qzP; (case qzF => k_asm); (case qzN => k_asm); (case qze => exact fr_same (by rfl)); (case qzP => first | exact bound_25 _ | exact bound_2001 _))
    | (refine' cutN_end (_, _) ?qzF ?qzN ?qze ?qzP; (case qzF => k_asm); (case qzN => k_asm); (case qze => rfl); (case qzP => first | exact bound_25 _ | exact bound_2001 _)))
  k_with "eval IfExp Compare UnaryOp" => (fail_if_success (with_reducible show wpAny _ _ _ (CutI _ _ _ _ _ _) _ _)); (rename Fr _ _ _ _ => lF'); (rename News _ _ _ _ => lN'); (refine' cut_int (fun s => s = 1 ∨ s = -1) lF' lN' ?_ ?_); rotate_left; (intro sg0 tg0 hg0 tkg0 hsg0 F0 N0; try k_sweep)
  k_with "cut" => first | exact Or.inl rfl | exact Or.inr rfl | exact bound_60 _
  k_with "eval BinOp" => (with_reducible show wpAny _ _ (eval (Expr.BinOp _ Operator.Mod (Expr.Constant (Const.int 60) _ _) _) _) _ _ _); (fail_if_success (with_reducible show wpAny _ _ _ (CutI _ _ _ _ _ _) _ _)); (rename Fr _ _ _ _ => lF'); (rename News _ _ _ _ => lN'); (refine' cut_int (fun w => 0 ≤ w ∧ w < 60) lF' lN' ?_ ?_); rotate_left; (intro wd twd hwdH twdk hwd F0 N0; try k_sweep); (have hwd1 := hwd.1); (have hwd2 := hwd.2)
  k_with "exec If Compare" => (with_reducible show wpAny _ _ (exec (Stmt.If (Expr.Compare _ _ _ _) [Stmt.Assign _ _ _] [Stmt.Assign _ _ _] _) _) _ _ _); (fail_if_success (with_reducible show wpAny _ _ _ (CutP _ _ _ _) _ _)); (rename Fr _ _ _ _ => lF'); (refine' cut_pair lF' ?_ ?_); rotate_left; (intro d f sg x y t1 t2 t3 D u1 u2 cD h1 tk1 F1 N1 hSit); (try k_sweep); (have hE := sit_facts hSit (g := [69]) (.inl rfl)); (have hD := sit_facts hSit (g := [68]) (.inr rfl)); (have hE1 := hE.txt); (have hE2 := hE.len); (have hE3 := hE.llen); (have hD1 := hD.txt); (have hD2 := hD.len); (have hD3 := hD.llen); (obtain ⟨hB1, hB2, hB3, hB4, hB5, hB6, hB7⟩ := sit_bounds hSit)
  k_with "CutP" => (refine' cutP_end ?qzF ?qzN ?qzr ?qzf ?qzg ?qzq ?qzz ?qzm ?qzp; (case qzF => k_asm); (case qzN => k_asm); (case qzr => rfl); (case qzf => rfl); (case qzg => rfl); (case qzq => rfl); (case qzz => (intro z h1 h2 h3 h4; simp only [h1, h2, h3, h4, if_false])); (case qzm => k_mem); (case qzp => first | exact .inl ⟨rfl, rfl, rfl, rfl, rfl⟩ | exact sit_ok (of_decide_eq_false (by assumption)) row_ok15 (by assumption) (by assumption)))
  k_with "parsed" => first | exact hE.pa | exact hD.pa | exact hE.pp (by assumption) | exact hD.pp (by assumption) | exact fin_a hSit hwd (.inl rfl) (by omega) | exact fin_a hSit hwd (.inr rfl) (by omega) | exact fin_b hSit hwd (.inl rfl) (by omega) | exact fin_b hSit hwd (.inr rfl) (by omega) | exact fin_c hSit hwd | (have hqq := fin_a hSit hwd (p := [69]) (.inl rfl) (by omega); simpa using hqq) | (have hqq := fin_a hSit hwd (p := [68, 43]) (.inr rfl) (by omega); simpa using hqq) | (have hqq := fin_b hSit hwd (p := [69]) (.inl rfl) (by omega); simpa using hqq) | (have hqq := fin_b hSit hwd (p := [68, 43]) (.inr rfl) (by omega); simpa using hqq) | (have hqq := fin_c hSit hwd; simpa using hqq)
  k_with "notparsed" => first | exact hE.np1 | exact hE.np2 | exact hE.np3 | exact hD.np1 | exact hD.np2 | exact hD.np3
  k_with "eval IfExp Compare Constant" => (with_reducible show wpAny _ _ (eval (Expr.IfExp _ (Expr.Constant (Const.str _) _ _) _ _) _) _ _ _); (fail_if_success (with_reducible show wpAny _ _ _ (CutS _ _ _ _ _ _) _ _)); (rename Fr _ _ _ _ => lF'); (rename News _ _ _ _ => lN'); (refine' cut_str (ahd sg) lF' lN' ?_ ?_); rotate_left; (intro ta0 ha0 tka0 F0 N0; try k_sweep)
  k_with "cuts" => first | exact ahd_1 (by assumption) | exact ahd_2 (by assumption)
  k_steps
  all_goals done)

end Mine
theorem PySem.Challenge.cw_pf0115_01_holds : PySem.Challenge.rw_pf0115_01.Holds := by
  exact Mine.law_holds
