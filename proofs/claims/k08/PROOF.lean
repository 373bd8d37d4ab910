import PyProof.Rows.All
import Wide.All
import OpenK.AllK
import Wide.FinOn
import HandS.Text
import HandS.TupAny
import HandS.Style
import HandS.StrMore
import HandS.Wide
import HandS.Iter
import HandS.Comp
import HandS.Ends
import HandS.Words
import HandS.WordsList
import PyProof.Rows.StrStep
import PyProof.Rows.StrCase
import PyProof.Rows.RuleB_pow
import PyProof.StrOps2
import HandS.IsInst
import HandS.Flow
import HandS.More
import HandS.RaiseMore
import PyProof.CallFns
import PyProof.StrLawsRepr
import HandS.TryOnly
import PyProof.Rows.StrMeet
import PySem.Challenge.RW_sixthrows_k08_whole_rows_joined
set_option Elab.async false
set_option linter.all false
set_option maxRecDepth 100000
set_option maxHeartbeats 4000000
set_option maxHeartbeats 1000000
namespace NX
open PySem PySem.Spec PyProof.Rows L2

/-- a text of codes -/
def mkS (l : List Nat) : Str := ⟨l.toArray⟩
theorem mkS_len (l : List Nat) : (mkS l).length = l.length := by show l.toArray.size = _; simp
theorem mkS_tl (l : List Nat) : (mkS l).cps.toList = l := rfl
theorem mkS_inj {a b : List Nat} (h : mkS a = mkS b) : a = b := by
  have := congrArg (fun s : Str => s.cps.toList) h
  exact this
theorem mkS_add (a b : List Nat) : mkS a ++ mkS b = mkS (a ++ b) := by
  apply TL.ext_tl
  rw [TL.tl_append]; rfl
theorem mkS_of (z : Str) : mkS z.cps.toList = z := TL.mk_tl z
abbrev T (l : List Nat) : V := .str (mkS l)
theorem T_dec (a b : List Nat) : decide (T a = T b) = decide (a = b) := by
  by_cases h : a = b
  · subst h; simp
  · have : ¬ T a = T b := fun e => h (mkS_inj (V.str.inj e))
    rw [decide_eq_false h, decide_eq_false this]

/-! ### big powers -/
def CPowW (i j : Int) : Prop := 0 ≤ j ∧ (Builtin.Int.intBits i : Int) * j ≤ 2 ^ 27
theorem cpow_of {i j : Int} {k : Nat} (h0 : 0 ≤ j) (h : i.natAbs < 2 ^ k) (hk : (k : Int) * j ≤ 2 ^ 27) : CPowW i j :=
  ⟨h0, Int.le_trans (Int.mul_le_mul_of_nonneg_right (by exact_mod_cast intBits_le h) h0) hk⟩
section
variable {X : Cx}
theorem op_powW : OpR X (binaryOp .Pow) (rI CPowW fun i j => .int (i ^ j.toNat)) := opI fun _ _ _ _ _ _ _ hc q => pow_int hc.1 hc.2 q

/-! ### text times number -/
def repL (l : List Nat) (n : Nat) : List Nat := (List.replicate n l).flatten
theorem foldl_rep (l : List Nat) : ∀ (n : Nat) (acc : Array Nat), ((List.replicate n l.toArray).foldl (· ++ ·) acc).toList = acc.toList ++ repL l n
  | 0, acc => by simp [repL]
  | n + 1, acc => by
    rw [List.replicate_succ, List.foldl_cons, foldl_rep l n]
    simp [repL, List.replicate_succ]
theorem repL_len (l : List Nat) (n : Nat) : (repL l n).length = n * l.length := by
  unfold repL; simp
theorem repL_one (l : List Nat) : repL l 1 = l := by simp [repL]
def CMulS (l : List Nat) (n : Int) : Prop := n < 2 ^ 62 ∧ -(2 ^ 62) < n ∧ l.length * n.toNat ≤ 16777216
theorem op_mulS : OpR X (binaryOp .Mult) (fun x y H Q => ∃ l n, x = T l ∧ y = .int n ∧ CMulS l n ∧ Q (T (repL l n.toNat)) H) := by
  intro pins s σ H x y v u Q I rx ry h
  obtain ⟨l, n, rfl, rfl, ⟨h1, h2, h3⟩, q⟩ := h
  obtain ⟨t, rfl⟩ := rx
  obtain ⟨t', rfl⟩ := ry
  refine PySem.P.mul_str ?_ (fun hn _ => ?_) (fun hn _ => ?_) ?_
  · have a : ¬ n < -(2 ^ 63 : Int) := by omega
    have b : ¬ n ≥ 2 ^ 63 := by omega
    rw [decide_eq_false a, decide_eq_false b]; rfl
  · rw [mkS_len]
    have hn1 : 1 ≤ n := by omega
    obtain ⟨k, rfl⟩ : ∃ k : Nat, n = k := ⟨n.toNat, by omega⟩
    have h4 : l.length * k ≤ 16777216 := by simpa using h3
    intro hc
    have h5 : ((2 ^ 63 - 1 : Int)) / k < l.length := by omega
    have h6 := Int.lt_mul_of_ediv_lt (by omega : (0:Int) < k) h5
    have h7 : ((k : Int) * l.length) = ((l.length * k : Nat) : Int) := by rw [Nat.mul_comm]; simp
    have h8 : ((l.length : Int) * k) = ((l.length * k : Nat) : Int) := by simp
    omega
  · rw [mkS_len]; exact short24 h3
  · by_cases c1 : n < 1
    · rw [if_pos c1]
      refine ⟨by decide, .str _, H, I.tok _, ⟨_, rfl⟩, ?_⟩
      have : n.toNat = 0 := by omega
      rw [this] at q
      exact q
    · rw [if_neg c1]
      by_cases c2 : (n == 1 || (mkS l).length == 0) = true
      · rw [if_pos c2]
        refine ⟨T l, H, I, ⟨_, rfl⟩, ?_⟩
        have e : repL l n.toNat = l := by
          rw [mkS_len] at c2
          rcases Bool.or_eq_true _ _ ▸ c2 with c | c
          · have : n = 1 := by simpa using c
            subst this; exact repL_one l
          · have : l = [] := by simpa using c
            subst this; simp [repL]
        rw [e] at q
        exact q
      · rw [if_neg c2]
        have e : (⟨(List.replicate n.toNat (mkS l).cps).foldl (· ++ ·) #[]⟩ : Str) = mkS (repL l n.toNat) := by
          apply TL.ext_tl
          show ((List.replicate n.toNat l.toArray).foldl (· ++ ·) #[]).toList = _
          rw [foldl_rep]; rfl
        rw [e]
        refine ⟨?_, T _, H, I.tok _, ⟨_, rfl⟩, q⟩
        rw [mkS_len, repL_len, sizeLine_eq, Nat.mul_comm]; exact h3

/-! ### swapcase, upper, lower, islower of plain texts -/
def swp (c : Nat) : Nat := if 65 ≤ c ∧ c ≤ 90 then c + 32 else if 97 ≤ c ∧ c ≤ 122 then c - 32 else c
def Asc (l : List Nat) : Prop := ∀ c ∈ l, c < 128
theorem lowerAt_ascii {x : Str} {i c : Nat} (hc : x.cps[i]? = some c) (h : c < 128) : Unicode.lowerAt x.cps i = [lo1 c] := by
  unfold Unicode.lowerAt
  rw [hc]
  have hne : (c == 0x3A3) = false := by rw [beq_eq_false_iff_ne]; omega
  simp only [hne, Bool.false_and, Bool.false_eq_true, if_false]
  exact lowerOf_ascii c h
theorem isU_ascii : ∀ c, c < 128 → Unicode.isUpper c = decide (65 ≤ c ∧ c ≤ 90) := by decide +kernel
theorem isL_ascii : ∀ c, c < 128 → Unicode.isLower c = decide (97 ≤ c ∧ c ≤ 122) := by decide +kernel
theorem isT_ascii : ∀ c, c < 128 → Unicode.isTitle c = false := by decide +kernel
theorem swap_ascii {l : List Nat} (h : Asc l) : Txt.swapcase (mkS l) = mkS (l.map swp) := by
  unfold Txt.swapcase
  rw [placed_single (mkS l) _ swp fun i c hc => by
    have hc' : (mkS l).cps[i]? = some c := by simpa using hc
    have hlt := h c (List.mem_of_getElem? hc)
    rw [isU_ascii c hlt, isL_ascii c hlt, lowerAt_ascii hc' hlt, upperOf_ascii c hlt]
    unfold swp lo1 up1
    by_cases h1 : 65 ≤ c ∧ c ≤ 90
    · simp [h1]
    · by_cases h2 : 97 ≤ c ∧ c ≤ 122
      · simp [h1, h2]
      · simp [h1, h2]]
  simp [mkS]
theorem up_ascii {l : List Nat} (h : Asc l) : Txt.upper (mkS l) = mkS (l.map up1) := by
  rw [upper_ascii (x := mkS l) h]; simp [mkS]
theorem low_ascii {l : List Nat} (h : Asc l) : Txt.lower (mkS l) = mkS (l.map lo1) := by
  rw [lower_ascii (x := mkS l) h]; simp [mkS]
def isLo (c : Nat) : Bool := decide (97 ≤ c ∧ c ≤ 122)
theorem islow_one {c : Nat} (h : c < 128) : Txt.islower (mkS [c]) = isLo c := by
  unfold Txt.islower
  show (#[c].any Unicode.isLower && !#[c].any fun c => Unicode.isUpper c || Unicode.isTitle c) = _
  have e1 : #[c].any Unicode.isLower = Unicode.isLower c := by simp
  have e2 : (#[c].any fun c => Unicode.isUpper c || Unicode.isTitle c) = (Unicode.isUpper c || Unicode.isTitle c) := by simp
  rw [e1, e2, isL_ascii c h, isU_ascii c h, isT_ascii c h]
  unfold isLo
  by_cases h2 : 97 ≤ c ∧ c ≤ 122
  · have h1 : ¬ (65 ≤ c ∧ c ≤ 90) := by omega
    simp [h1, h2]
  · simp [h2]
abbrev rMap (f : Nat → Nat) : V → List V → Hp → VK → Prop := fun x xs H Q => ∃ l, x = T l ∧ xs = [] ∧ (Asc l ∧ l.length ≤ 5000000) ∧ Q (T (l.map f)) H
theorem mt_swapL : MtR X "str.swapcase" (rMap swp) := by
  intro pins s σ H x xs v us Q I rx rs h
  obtain ⟨l, rfl, rfl, ⟨ha, hl⟩, q⟩ := h
  obtain ⟨t, rfl⟩ := rx
  cases rs
  have e := swap_ascii ha
  refine PySem.SC.swapcase ?_ ⟨.str _, H, I.tok _, ⟨_, rfl⟩, by rw [e]; exact q⟩
  rw [e, mkS_len, List.length_map]
  exact short24 (by omega)
theorem mt_upL : MtR X "str.upper" (rMap up1) := by
  intro pins s σ H x xs v us Q I rx rs h
  obtain ⟨l, rfl, rfl, ⟨ha, hl⟩, q⟩ := h
  refine mt_upper pins s σ H _ _ v us Q I rx rs ⟨mkS l, rfl, rfl, by rw [mkS_len]; omega, ?_⟩
  rw [up_ascii ha]; exact q
theorem mt_lowL : MtR X "str.lower" (rMap lo1) := by
  intro pins s σ H x xs v us Q I rx rs h
  obtain ⟨l, rfl, rfl, ⟨ha, hl⟩, q⟩ := h
  refine mt_lower pins s σ H _ _ v us Q I rx rs ⟨mkS l, rfl, rfl, by rw [mkS_len]; omega, ?_⟩
  rw [low_ascii ha]; exact q
theorem mt_islowL : MtR X "str.islower" (fun x xs H Q => ∃ c, x = T [c] ∧ xs = [] ∧ c < 128 ∧ Q (.bl (isLo c)) H) := by
  intro pins s σ H x xs v us Q I rx rs h
  obtain ⟨c, rfl, rfl, hc, q⟩ := h
  refine mt_islower pins s σ H _ _ v us Q I rx rs ⟨mkS [c], rfl, rfl, trivial, ?_⟩
  rw [islow_one hc]; exact q

/-! ### the operators, whatever they are between -/
def rAddG (K : PySem.W.Frag) : R2 := fun x y H Q => match x, y with
  | .int i, .int j => Q (.int (i + j)) H
  | .str a, .str b => a.length + b.length ≤ sizeLine ∧ Q (.str (a ++ b)) H
  | .ref l, .ref b => (∃ xs zs, H l = some (.lst xs) ∧ H b = some (.lst zs) ∧ xs.length + zs.length ≤ sizeLine ∧ ∀ p, H p = none → Q (.ref p) (upd H p (.lst (xs ++ zs)))) ∨ rCatA K (.ref l) (.ref b) H Q
  | _, _ => False
theorem op_addG : OpR X (binaryOp .Add) (rAddG X.K) := by
  intro pins s σ H x y v u Q I rx ry h
  cases x <;> cases y <;> try exact (show False from h).elim
  · exact op_add pins s σ H _ _ v u Q I rx ry ⟨_, _, rfl, rfl, h⟩
  · rename_i a b
    obtain ⟨t, rfl⟩ := rx
    obtain ⟨t', rfl⟩ := ry
    exact op_add_str pins s σ H (.str a) (.str b) _ _ Q I ⟨t, rfl⟩ ⟨t', rfl⟩ ⟨a, b, rfl, rfl, h.1, h.2⟩
  · rename_i l b
    rcases h with ⟨xs, zs, h1, h2, h3, h4⟩ | h
    · exact op_cat pins s σ H _ _ v u Q I rx ry ⟨l, b, xs, zs, rfl, rfl, h1, h2, h3, h4⟩
    · exact op_catA pins s σ H _ _ v u Q I rx ry h
def rMulG : R2 := fun x y H Q => match x, y with
  | .int i, .int j => CMul i j ∧ Q (.int (i * j)) H
  | .str a, .int n => CMulS a.cps.toList n ∧ Q (T (repL a.cps.toList n.toNat)) H
  | .ref l, .int k => ∃ xs, H l = some (.lst xs) ∧ (-(2 ^ 62) < k ∧ k < 2 ^ 62) ∧ xs.length * k.toNat ≤ sizeLine ∧ ∀ p, H p = none → Q (.ref p) (upd H p (.lst (List.replicate k.toNat xs).flatten))
  | _, _ => False
theorem op_mulG : OpR X (binaryOp .Mult) rMulG := by
  intro pins s σ H x y v u Q I rx ry h
  cases x <;> cases y <;> try exact (show False from h).elim
  · exact op_mul pins s σ H _ _ v u Q I rx ry ⟨_, _, rfl, rfl, h.1, h.2⟩
  · rename_i a n
    refine op_mulS pins s σ H _ _ v u Q I rx ry ⟨a.cps.toList, n, ?_, rfl, h.1, h.2⟩
    rw [T, mkS_of]
  · rename_i l k
    obtain ⟨xs, h1, ⟨h2, h3⟩, h4, h5⟩ := h
    exact op_rep pins s σ H _ _ v u Q I rx ry ⟨l, k, xs, rfl, rfl, h1, by omega, by omega, h4, h5⟩

/-! ### slices -/
def cutL (l : List Nat) (lo hi : Option Int) : List Nat := (l.drop (HT.sIx l.length 0 lo)).take (HT.sIx l.length l.length hi - HT.sIx l.length 0 lo)
theorem cutS_mk (l : List Nat) (lo hi : Option Int) : cutS (mkS l) lo hi = mkS (cutL l lo hi) := by
  unfold cutS cutL
  rw [mkS_len]; rfl
def rSlG (K : PySem.W.Frag) : V → Option Int → Option Int → Hp → VK → Prop := fun x lo hi H Q => rSlS x lo hi H Q ∨ (rSlL K x lo hi H Q ∨ rSlA K x lo hi H Q)
theorem sl_G : SlR X (rSlG X.K) := SlR.or sl_str (SlR.or sl_list sl_tupA)

/-! ### x[::-1] of a text -/
def RevB (K : PySem.W.Frag) (Q : VK) (x : V) (H1 : Hp) : Prop := (∃ l, x = T l ∧ l.length ≤ 16777216 ∧ Q (T l.reverse) H1) ∨ (∃ a xs, x = .ref a ∧ SqL K H1 a xs ∧ ∀ p, H1 p = none → Q (.ref p) (upd H1 p (.lst xs.reverse)))
def tRevS (K : PySem.W.Frag) (te : TE) : TE := fun σ H Q => te σ H (RevB K Q)
theorem fm_congr {α β : Type} {f g : α → Option β} : ∀ {l : List α}, (∀ a ∈ l, f a = g a) → l.filterMap g = l.filterMap f
  | [], _ => rfl
  | a :: r, h => by
    have h1 := h a List.mem_cons_self
    have h2 := fm_congr (l := r) fun b hb => h b (List.mem_cons_of_mem _ hb)
    simp only [List.filterMap_cons, h1, h2]
theorem rev_pick : ∀ l : List Nat, ((List.range l.length).map fun k => l.length - 1 - k).filterMap (l[·]?) = l.reverse
  | [] => rfl
  | a :: r => by
    rw [List.length_cons, List.range_succ, List.map_append, List.filterMap_append, List.reverse_cons]
    have ih := rev_pick r
    congr 1
    · rw [← ih, ← fm_congr (f := fun k => r[k]?) (g := fun k => (a :: r)[k + 1]?) fun k _ => by simp]
      have e : (List.range r.length).map (fun k => r.length + 1 - 1 - k) = ((List.range r.length).map fun k => r.length - 1 - k).map (· + 1) := by
        rw [List.map_map]
        refine List.map_congr_left fun k hk => ?_
        have := List.mem_range.mp hk
        show r.length + 1 - 1 - k = r.length - 1 - k + 1
        omega
      rw [e, List.filterMap_map]
      rfl
    · simp
theorem rev_range (n : Nat) : sliceRange ((n : Int) - 1) (-1) (-1) = (List.range n).map fun k => n - 1 - k := by
  unfold sliceRange
  have h1 : ¬ ((-1 : Int) > 0) := by decide
  simp only [if_neg h1]
  by_cases hn : n = 0
  · subst hn; simp
  · have h2 : ((n : Int) - 1 > -1) := by omega
    rw [if_pos h2]
    have e : (((n : Int) - 1 - -1 - -1 - 1) / - -1).toNat = n := by
      have : ((n : Int) - 1 - -1 - -1 - 1) / - -1 = (n : Int) := by
        rw [show (- -1 : Int) = 1 from rfl, Int.ediv_one]; omega
      rw [this]; simp
    rw [e]
    refine List.map_congr_left fun k hk => ?_
    have := List.mem_range.mp hk
    omega
theorem rev_sliced (l : List Nat) (t : Tok) : Txt.sliceBy (mkS l) none none (-1, t) = mkS l.reverse := by
  have e : slicePicked (mkS l) none none (some (-1, t)) = (List.range l.length).map fun k => l.length - 1 - k := by
    show Builtin.Str.strSliceIndices none none (-1) (mkS l).length = _
    rw [mkS_len]
    show sliceRange ((l.length : Int) - 1) (-1) (-1) = _
    rw [rev_range]
  unfold Txt.sliceBy
  rw [e]
  rw [if_neg (by simp)]
  apply TL.ext_tl
  show (((List.range l.length).map fun k => l.length - 1 - k).filterMap (l.toArray[·]?)) = l.reverse
  rw [← rev_pick l]
  simp
theorem pe_revG {e : Expr} {te : TE} {k : Nat} {p1 p2 p3 pos : Pos} (he : PE X e te) : PE X (.Subscript e (.Slice none none (some (.UnaryOp .USub (.Constant (.int 1) k p1) p2)) p3) pos) (tRevS X.K te) := by
  refine ⟨fun pins s σ H Q I h => ?_⟩
  refine Subscript_ (thn (he.run pins s σ H _ I h) fun v s1 ⟨x, H1, I1, r1, q1⟩ => ?_)
  have hst : PO X (some (.UnaryOp .USub (.Constant (.int 1) k p1) p2)) (tPart (tUn (rU fun i => .int (-i)) (tC (.int 1)))) := po_some (pe_un un_neg pe_int)
  refine wpAny_Slice (thn (po_none.run pins s1 σ H1 (fun o H2 => o = none ∧ H2 = H1) I1 ⟨rfl, rfl⟩) fun vl s2 ⟨l, H2, I2, pl, el, e2⟩ => ?_)
  subst el e2
  refine thn (po_none.run pins s2 σ H2 (fun o H3 => o = none ∧ H3 = H2) I2 ⟨rfl, rfl⟩) fun vu s3 ⟨u, H3, I3, pu, eu, e3⟩ => ?_
  subst eu e3
  refine thn (hst.run pins s3 σ H3 (fun o H4 => o = some (-1) ∧ H4 = H3) I3 ⟨1, rfl, -1, rfl, rfl, rfl⟩) fun vs s4 ⟨o, H4, I4, ps, eo, e4⟩ => ?_
  subst eo e4
  have I5 : Inv X pins σ H4 { s4 with heap := s4.heap.push { cls := .type "slice", data := .fields #[vl, vu, vs] } } := I4.kept (t' := s4.toks) fun b ob q => Heap.get?_push_of_some _ q
  rcases q1 with ⟨l, rfl, hl, q⟩ | ⟨a, xs, ex, hx, q⟩
  · obtain ⟨t, rfl⟩ := r1
    cases pl
    cases pu
    cases ps with
    | int i uk =>
      show wpAny (model X.prog X.w) X.A (subscriptTail e (.Slice none none (some (.UnaryOp .USub (.Constant (.int 1) k p1) p2)) p3) (.str (mkS l) t) (.ref s4.heap.objs.size)) (EP X pins σ Q) X.xe { s4 with heap := s4.heap.push { cls := .type "slice", data := .fields #[.none, .none, .int (-1) uk] } }
      refine tail_any (ops := [.ref s4.heap.objs.size, .str (mkS l) t]) (typeIs_str _ _ _) (PySem.F.slot_str_getitem.lookup) ?_ (by with_unfolding_all rfl)
      refine wpAny_getItem_str_slice (l := none) (u := none) (st := some (-1, uk)) ⟨_, Heap.get?_push_size _ rfl, rfl, rfl⟩ (by rfl) ?_
      have er := rev_sliced l uk
      refine post_val_or_str ⟨?_, fun t' k => ?_⟩
      · show (Txt.sliceBy (mkS l) none none (-1, uk)).length ≤ sizeLine
        rw [er, mkS_len, List.length_reverse, sizeLine_eq]; exact hl
      · show EP X pins σ Q (.str (Txt.sliceBy (mkS l) none none (-1, uk)) t') _
        rw [er]
        exact ⟨T l.reverse, H4, I5.tok _, ⟨_, rfl⟩, q⟩
  · subst ex
    cases r1
    obtain ⟨its, r, ht, hz⟩ := I5.list hx
    have hlen := r.length
    show wpAny (model X.prog X.w) X.A (subscriptTail e (.Slice none none (some (.UnaryOp .USub (.Constant (.int 1) k p1) p2)) p3) (.ref a) (.ref s4.heap.objs.size)) (EP X pins σ Q) X.xe { s4 with heap := s4.heap.push { cls := .type "slice", data := .fields #[vl, vu, vs] } }
    refine tail_any (ops := [.ref a, .ref s4.heap.objs.size]) ht.isList.typeIs (PySem.slot_list_getitem.lookup) ?_ (by with_unfolding_all rfl)
    refine wpAny_getItem_list_slice ht.isList (Heap.IsSliceOf.new _ vl vu vs) pl pu ps (by decide) ?_ (by rw [List.size_toArray]; omega)
    rw [PySem.W.krv_pick]
    refine ⟨.ref _, _, I5.laid (t' := s4.toks) (o := .lst xs.reverse) (fun b ob q => Heap.get?_push_of_some _ q) (Nat.le_refl _) ?_, rfl, q _ (I5.hok.fresh (Nat.le_refl _))⟩
    exact ⟨by rw [List.length_reverse]; exact hz, _, 0, r.reverse, Heap.get?_push_size _ rfl⟩
end
end NX
set_option maxHeartbeats 1000000
namespace NX
open PySem PySem.Spec PyProof.Rows L2
section
variable {X : Cx}
theorem hu_of64 {A : Around} {k : Nat} (hr : Room k A) : A.units + 64 < cLine := hr.units
theorem pe_strL {x : Str} {l : List Nat} {j : Nat} {pos : Pos} (h : x = mkS l) : PE X (.Constant (.str x) j pos) (tC (T l)) := by
  subst h; exact pe_str
/-! ### == of whatever -/
def rEqG (K : PySem.W.Frag) : R2 := fun x y H Q => (scal x y = true ∧ Q (.bl (decide (x = y))) H) ∨ rEqD K x y H Q
def rNeG (K : PySem.W.Frag) : R2 := fun x y H Q => (scal x y = true ∧ Q (.bl (!decide (x = y))) H) ∨ rNeD K x y H Q
theorem op_eqG (hu : X.A.units + 64 < cLine) : OpR X (compareOp .Eq) (rEqG X.K) := by
  intro pins s σ H x y v u Q I rx ry h
  rcases h with h | h
  · exact op_eq pins s σ H x y v u Q I rx ry h
  · exact op_eqD hu pins s σ H x y v u Q I rx ry h
theorem op_neG (hu : X.A.units + 64 < cLine) : OpR X (compareOp .NotEq) (rNeG X.K) := by
  intro pins s σ H x y v u Q I rx ry h
  rcases h with h | h
  · exact op_ne pins s σ H x y v u Q I rx ry h
  · exact op_neD hu pins s σ H x y v u Q I rx ry h
/-! ### in -/
def subS (j i : Str) : Bool := !(Builtin.Str.occurrences j i 0 j.length 1).isEmpty
def rInG (K : PySem.W.Frag) : R2 := fun x y H Q => (∃ i j, x = .str i ∧ y = .str j ∧ Q (.bl (subS j i)) H) ∨ rIn K false x y H Q
def rNotInG (K : PySem.W.Frag) : R2 := fun x y H Q => (∃ i j, x = .str i ∧ y = .str j ∧ Q (.bl (!(subS j i))) H) ∨ rIn K true x y H Q
theorem op_inG : OpR X (compareOp .In) (rInG X.K) := by
  intro pins s σ H x y v u Q I rx ry h
  rcases h with h | h
  · exact op_in_str pins s σ H x y v u Q I rx ry h
  · exact op_in_seq pins s σ H x y v u Q I rx ry h
theorem op_notInG : OpR X (compareOp .NotIn) (rNotInG X.K) := by
  intro pins s σ H x y v u Q I rx ry h
  rcases h with h | h
  · exact op_notin_str pins s σ H x y v u Q I rx ry h
  · exact op_notIn_seq pins s σ H x y v u Q I rx ry h
theorem subS_one (l : List Nat) (c : Nat) : subS (mkS l) (mkS [c]) = decide (c ∈ l) := PySem.StrLaws.found_one (mkS l) c
/-! ### calls of the built-in -/
theorem call_lenG : CallR X (.builtin "len") (fun xs H Q => ∃ x n, xs = [x] ∧ LenV X.K x H n ∧ Q (.int n) H) := call_len
def rInt1 : List V → Hp → VK → Prop := fun xs H Q => (∃ i, xs = [.int i] ∧ Q (.int i) H) ∨ ∃ k, xs = [.bl k] ∧ Q (.int (if k then 1 else 0)) H
def rIntG : List V → Hp → VK → Prop := fun xs H Q => rInt1 xs H Q ∨ (∃ a n, xs = [.str a] ∧ PySem.intText? a = some n ∧ a.length ≤ 640 ∧ Q (.int n) H)
theorem call_intG : CallR X (.type "int") rIntG := by
  intro pins s σ H xs us Q I r h
  rcases h with h | h
  · exact call_int1 pins s σ H xs us Q I r h
  · exact call_int_str pins s σ H xs us Q I r h
def rIsiG (K : PySem.W.Frag) : List V → Hp → VK → Prop := fun xs H Q => rIsi K xs H Q ∨ rIsiT K xs H Q
theorem call_isiG : CallR X (.builtin "isinstance") (rIsiG X.K) := by
  intro pins s σ H xs us Q I r h
  rcases h with h | h
  · exact call_isi pins s σ H xs us Q I r h
  · exact call_isiT pins s σ H xs us Q I r h
/-! ### what is walked -/
def iG (K : PySem.W.Frag) (tl : TE) : TI := fun σ H R => tl σ H fun x H1 => (∃ a, x = .ref a ∧ (∃ xs, SqL K H1 a xs) ∧ R (Itl K a) H1) ∨ (∃ a, x = .ref a ∧ (∃ xs, SqT K H1 a xs) ∧ R (Itt K a) H1) ∨ (∃ z, x = .str z ∧ R (Its z) H1)
theorem pi_G {tg l : Expr} {tl : TE} (hl : PE X l tl) : PI X tg l (iG X.K tl) := by
  refine ⟨fun pins s σ H R I h => ?_⟩
  refine thn (hl.run pins s σ H _ I h) fun v s1 ⟨x, H1, I1, r1, q1⟩ => ?_
  rcases q1 with ⟨a, e, ⟨xs, hq⟩, q⟩ | ⟨a, e, ⟨xs, hq⟩, q⟩ | ⟨z, e, q⟩
  · subst e
    cases r1
    obtain ⟨its, rv, p, hz⟩ := I1.list hq
    refine wpAny_pyIter_list p.isList ?_
    refine ⟨s1.heap.objs.size, [s1.heap.objs.size], _, _, H1, rfl, I1.kept (t' := s1.toks) fun b o e => Heap.get?_push_of_some _ e, turn_list a _, ⟨_, Heap.get?_push_size _ rfl, rfl, rfl⟩, fun b hb => ?_, q⟩
    have e : b = s1.heap.objs.size := by simpa using hb
    subst e
    exact I1.fpOk (Nat.le_refl _) (I1.hok.fresh (Nat.le_refl _))
  · subst e
    cases r1
    obtain ⟨its, rv, p, hz⟩ := I1.tuple hq
    refine wpAny_pyIter_tuple (show s1.heap.IsTuple a its.toArray from p) ?_
    refine ⟨s1.heap.objs.size, [s1.heap.objs.size], _, _, H1, rfl, I1.kept (t' := s1.toks) fun b o e => Heap.get?_push_of_some _ e, turn_tuple a _, ⟨_, Heap.get?_push_size _ rfl, rfl, rfl⟩, fun b hb => ?_, q⟩
    have e : b = s1.heap.objs.size := by simpa using hb
    subst e
    exact I1.fpOk (Nat.le_refl _) (I1.hok.fresh (Nat.le_refl _))
  · subst e
    obtain ⟨t, rfl⟩ := r1
    cases ha : z.cps.all (· < 128)
    · exact wpAny_pyIter_wide ha (pi_one (tk := s1.toks) I1 _ (turn_str _ z t "str_iterator" (.inr rfl)) ⟨_, Heap.get?_push_size _ rfl, rfl, rfl⟩ q)
    · exact wpAny_pyIter_ascii ha (pi_one (tk := s1.toks) I1 _ (turn_str _ z t "str_ascii_iterator" (.inl rfl)) ⟨_, Heap.get?_push_size _ rfl, rfl, rfl⟩ q)
/-! ### f(k = v, ..) -/
variable {CX : CXT} {k : Nat} {f : Addr} {fd : FuncData} {ps ks : List Str} {sp : Sp} {E : XK} {x : Str} {p pos : Pos} {kws : List Keyword} {tk : TA} {g : List Value → List Value → List Value} {gV : List V → List V → List V}
def tCallKw (sp : Sp) (gV : List V → List V → List V) (E : XK) (tk : TA) : TE := fun σ H Q => tk σ H fun zs H2 => sp (gV [] zs) H2 Q E
theorem pe_callKw (F : FnOk X.prog X.w X.K X.mg X.base CX k f fd ps sp) (hr : Room k X.A) (hg : Gl X x) (hm : X.mg x = some (.ref f)) (hk : PySem.W.keepIn X.K (.ref f) = true) (hb : KBinds X.K fd ps ks g gV) (hx : Passes CX X E)
    (hkw : PK X kws tk) (hall : (backToKw pos (keywordEach kws X.env)).all (·.1.isSome) = true := by rfl) (hks : (backToKw pos (keywordEach kws X.env)).filterMap (·.1) = ks := by rfl)
    (hdb : (x == ("__debug__" : Str)) = false := by decide)
    (hpl : ((backTo pos (starEach [] X.env)).any (·.1) || (backToKw pos (keywordEach kws X.env)).any (·.1.isNone)) = false := by rfl) :
    PE X (.Call (.Name x p) [] kws pos) (tCallKw sp gV E tk) := by
  refine ⟨fun pins s σ H Q I h => ?_⟩
  refine wpAny_Call_Name_kw (ld_glob I hg hm ?_ hdb)
  refine PySem.W.callWith_KW0 (h₀ := X.base) I.ok.mod.kin hk hall ?_ hpl
  refine thn (hkw.run pos pins s σ H _ I h) fun ws s2 ⟨zs, H2, I2, rz, q2⟩ => ⟨I2.kIn, ?_⟩
  rw [hks]
  exact run_fnk (us := []) (vs := []) F hr hb hx I2 .nil rz q2
end
end NX
set_option maxHeartbeats 1000000
namespace NX
open PySem PySem.Spec PyProof.Rows L2
/-! ### heaps: all but one object are kept -/
def Kp (a : Addr) (H H' : Hp) : Prop := ∀ b o, b ≠ a → H b = some o → H' b = some o
theorem Kp.refl (a : Addr) (H : Hp) : Kp a H H := fun _ _ _ h => h
theorem Kp.trans {a : Addr} {H H1 H2 : Hp} (x : Kp a H H1) (y : Kp a H1 H2) : Kp a H H2 := fun b o n h => y b o n (x b o n h)
theorem Kp.of {a : Addr} {H H' : Hp} (s : Same H H') : Kp a H H' := fun b o _ h => s b o h
theorem Kp.new {a p : Addr} {H H' : Hp} {o : HO} (x : Kp a H H') (n : H' p = none) : Kp a H (upd H' p o) := fun b u nb h => by
  rw [upd_ne (ne_of_none (x b u nb h) n)]; exact x b u nb h
theorem Kp.put {a : Addr} {H H' : Hp} {o : HO} (x : Kp a H H') : Kp a H (upd H' a o) := fun b u nb h => by
  rw [upd_ne nb]; exact x b u nb h
/-- a change of what was not there at the beginning -/
theorem Kp.mut {a p : Addr} {H H' : Hp} {o : HO} (x : Kp a H H') (n : H p = none) : Kp a H (upd H' p o) := fun b u nb h => by
  rw [upd_ne (ne_of_none h n)]; exact x b u nb h
theorem Kp.seqL {K : PySem.W.Frag} {a b : Addr} {H H' : Hp} {xs : List V} (x : Kp a H H') (n : b ≠ a) (h : SqL K H b xs) : SqL K H' b xs := by
  rcases h with (h | ⟨o, h⟩) | h
  · exact .inl (.inl (x _ _ n h))
  · exact .inl (.inr ⟨o, x _ _ n h⟩)
  · exact .inr h
theorem Kp.seqT {K : PySem.W.Frag} {a b : Addr} {H H' : Hp} {xs : List V} (x : Kp a H H') (n : b ≠ a) (h : SqT K H b xs) : SqT K H' b xs := by
  rcases h with (h | ⟨o, h⟩) | h
  · exact .inl (.inl (x _ _ n h))
  · exact .inl (.inr ⟨o, x _ _ n h⟩)
  · exact .inr h
theorem Kp.free {a b : Addr} {H H' : Hp} (x : Kp a H H') (nb : b ≠ a) (n : H' b = none) : H b = none := by
  cases h : H b with
  | none => rfl
  | some o => rw [x b o nb h] at n; cases n
theorem _root_.L2.Same.new {p : Addr} {H H' : Hp} {o : HO} (x : Same H H') (n : H' p = none) : Same H (upd H' p o) := fun b u h => by
  rw [upd_ne (ne_of_none (x b u h) n)]; exact x b u h
theorem _root_.L2.Same.mut {p : Addr} {H H' : Hp} {o : HO} (x : Same H H') (n : H p = none) : Same H (upd H' p o) := fun b u h => by
  rw [upd_ne (ne_of_none h n)]; exact x b u h
theorem _root_.L2.Same.new1 {p : Addr} {H : Hp} {o : HO} (n : H p = none) : Same H (upd H p o) := Same.new (Same.refl H) n
theorem _root_.L2.Same.seqT {K : PySem.W.Frag} {H H' : Hp} {a : Addr} {xs : List V} (e : Same H H') (h : SqT K H a xs) : SqT K H' a xs := by
  rcases h with (h | ⟨o, h⟩) | h
  · exact .inl (.inl (e _ _ h))
  · exact .inl (.inr ⟨o, e _ _ h⟩)
  · exact .inr h

/-! ### readings, a step each -/
section
variable {K : PySem.W.Frag} {σ : L2.St} {H : Hp} {Q : VK} {QB : Bool → Hp → Prop} {QA : List V → Hp → Prop} {D : Ends} {ta tb tc te to ti : TE} {tt tu : TT} {sa sb : TS} {r : R2} {t : TA}
theorem r_seq (h : sa { D with nx := sb D } σ H) : tSeq sa sb D σ H := h
theorem r_asg {g : TG} (h : te σ H fun x H1 => g x σ H1 D.nx) : tAsg te g D σ H := h
theorem r_gname {i : Nat} {v : V} {QN : L2.St → Hp → Prop} (h : QN (σ.set i (some v)) H) : gName i v σ H QN := h
theorem r_gsub {v : V} {s : TSet} {QN : L2.St → Hp → Prop} (h : to σ H fun o H1 => ti σ H1 fun i H2 => s o i v H2 fun H3 => QN σ H3) : gSub to ti s v σ H QN := h
theorem r_par {i j : Nat} (h : t σ H fun vs H1 => ∃ v w, vs = [v, w] ∧ D.nx ((σ.set i (some v)).set j (some w)) H1) : tPar i j t D σ H := h
theorem r_par2 {v w : V} {P : V → V → Prop} (h : P v w) : ∃ v' w', [v, w] = [v', w'] ∧ P v' w' := ⟨v, w, rfl, h⟩
theorem r_ret (h : te σ H D.rt) : tRet te D σ H := h
theorem r_drop (h : te σ H fun _ H1 => D.nx σ H1) : tDrop te D σ H := h
theorem r_next (h : D.nx σ H) : tNext D σ H := h
theorem r_ifs (h : tt σ H fun b H1 => if b = true then sa D σ H1 else sb D σ H1) : tIfS tt sa sb D σ H := h
theorem r_var {i : Nat} {v : V} (e : σ[i]? = some (some v)) (h : Q v H) : tVar i σ H Q := ⟨v, e, h⟩
theorem r_c {v : V} (h : Q v H) : tC v σ H Q := h
theorem r_op (h : ta σ H fun x H1 => tb σ H1 fun y H2 => r x y H2 Q) : tOp r ta tb σ H Q := h
theorem r_un {f : V → Hp → VK → Prop} (h : ta σ H fun x H1 => f x H1 Q) : tUn f ta σ H Q := h
theorem r_neg {g : Int → V} {i : Int} (h : Q (g i) H) : rU g (.int i) H Q := ⟨i, rfl, h⟩
theorem r_tif (h : tt σ H fun c H1 => if c = true then ta σ H1 Q else tb σ H1 Q) : tIf tt ta tb σ H Q := h
theorem r_cb {f : List V → Hp → VK → Prop} (h : t σ H fun vs H1 => f vs H1 Q) : tCB f t σ H Q := h
theorem r_nil (h : QA [] H) : tNil σ H QA := h
theorem r_cons (h : ta σ H fun x H1 => t σ H1 fun xs H2 => QA (x :: xs) H2) : tCons ta t σ H QA := h
theorem r_call {sp : Sp} {dvs : List V} {E : XK} (h : t σ H fun vs H1 => sp (vs ++ dvs) H1 Q E) : tCall sp dvs E t σ H Q := h
theorem r_callkw {sp : Sp} {gV : List V → List V → List V} {E : XK} (h : t σ H fun zs H2 => sp (gV [] zs) H2 Q E) : tCallKw sp gV E t σ H Q := h
theorem r_bm0 {ty : String} {f : V → List V → Hp → VK → Prop} (h : to σ H fun x H1 => tyV K ty x H1 ∧ f x [] H1 Q) : tBM0 K ty f to σ H Q := h
theorem r_bm {ty : String} {f : V → List V → Hp → VK → Prop} (h : to σ H fun x H1 => tyV K ty x H1 ∧ t σ H1 fun xs H2 => f x xs H2 Q) : tBM K ty f to t σ H Q := h
theorem r_m1 {f : V → List V → Hp → VK → Prop} (h : to σ H fun x H1 => (∃ a, x = .str a) ∧ te σ H1 fun y H2 => f x [y] H2 Q) : tM1 f to te σ H Q := h
theorem r_isS {a : Str} {P : Prop} (h : P) : (∃ b, V.str a = .str b) ∧ P := ⟨⟨a, rfl⟩, h⟩
theorem r_tyS {a : Str} {P : Prop} (h : P) : tyV K "str" (.str a) H ∧ P := ⟨rfl, h⟩
theorem r_tyL {p : Addr} {xs : List V} {P : Prop} (e : H p = some (.lst xs)) (h : P) : tyV K "list" (.ref p) H ∧ P := ⟨.inl ⟨rfl, xs, .inl (.inl e)⟩, h⟩
theorem r_sl {f : V → Option Int → Option Int → Hp → VK → Prop} {tl th : TO} (h : te σ H fun x H1 => tl σ H1 fun l H2 => th σ H2 fun u H3 => f x l u H3 Q) : tSl f te tl th σ H Q := h
theorem r_lst (h : t σ H fun xs H1 => xs.length ≤ sizeLine ∧ ∀ p, H1 p = none → Q (.ref p) (upd H1 p (.lst xs))) : tLst t σ H Q := h
theorem r_tup (h : t σ H fun xs H1 => xs.length ≤ sizeLine ∧ ∀ p, H1 p = none → Q (.ref p) (upd H1 p (.tup xs))) : tTup t σ H Q := h
theorem small_len {xs : List V} {n : Nat} (h : xs.length ≤ n) (hn : n ≤ 100 := by decide) : xs.length ≤ sizeLine := by rw [sizeLine_eq]; omega
/-- tests -/
theorem r_test (h : te σ H fun x H' => ∃ k, x = .bl k ∧ QB k H') : tTest te σ H QB := h
theorem r_bl {b : Bool} {P : Bool → Prop} (h : P b) : ∃ k, V.bl b = .bl k ∧ P k := ⟨b, rfl, h⟩
theorem r_and (h : tt σ H fun c H1 => if c = true then tu σ H1 QB else QB false H1) : tAnd tt tu σ H QB := h
theorem r_or (h : tt σ H fun c H1 => if c = true then QB true H1 else tu σ H1 QB) : tOr tt tu σ H QB := h
theorem r_not (h : tt σ H fun c H1 => QB (!c) H1) : tNot tt σ H QB := h
theorem r_truB {b : Bool} {P : Bool → Prop} (h : P b) : ∃ k, TruV K (.bl b) H k ∧ P k := ⟨b, rfl, h⟩
theorem r_truI {i : Int} {P : Bool → Prop} (h : P (i != 0)) : ∃ k, TruV K (.int i) H k ∧ P k := ⟨_, rfl, h⟩
theorem r_truS {l : List Nat} {P : Bool → Prop} (hl : l.length ≤ 16777216) (h : P (!l.isEmpty)) : ∃ k, TruV K (T l) H k ∧ P k := by
  refine ⟨_, ⟨by rw [mkS_len, sizeLine_eq]; exact hl, ?_⟩, h⟩
  rw [mkS_len]; cases l with
  | nil => rfl
  | cons a r =>
    have h0 : ((r.length + 1 : Nat) : Int) ≠ 0 := by omega
    show (!(a :: r).isEmpty) = (((r.length + 1 : Nat) : Int) != 0)
    rw [bne_iff_ne.mpr h0]; rfl
theorem r_andT (h : ta σ H fun x H1 => ∃ k, TruV K x H1 k ∧ if k = true then tb σ H1 Q else Q x H1) : tAndT K ta tb σ H Q := h
theorem r_orT (h : ta σ H fun x H1 => ∃ k, TruV K x H1 k ∧ if k = true then Q x H1 else tb σ H1 Q) : tOrT K ta tb σ H Q := h
theorem r_notT (h : ta σ H fun x H1 => ∃ k, TruV K x H1 k ∧ Q (.bl (!k)) H1) : tNotT K ta σ H Q := h
theorem r_if {c : Bool} {A B : Prop} (h1 : c = true → A) (h2 : c = false → B) : if c = true then A else B := by
  cases c with
  | true => exact h1 rfl
  | false => rw [if_neg Bool.false_ne_true]; exact h2 rfl
theorem r_ifd {c : Prop} [Decidable c] {A B : Prop} (h1 : c → A) (h2 : ¬ c → B) : if decide c = true then A else B := by
  by_cases h : c
  · rw [decide_eq_true h]; exact h1 h
  · rw [decide_eq_false h, if_neg Bool.false_ne_true]; exact h2 h
theorem r_ifnd {c : Prop} [Decidable c] {A B : Prop} (h1 : ¬ c → A) (h2 : c → B) : if (!decide c) = true then A else B := by
  by_cases h : c
  · rw [decide_eq_true h]; exact h2 h
  · rw [decide_eq_false h]; exact h1 h
/-- operators -/
theorem r_I0 {g : Int → Int → V} {i j : Int} (h : Q (g i j) H) : rI0 g (.int i) (.int j) H Q := ⟨i, j, rfl, rfl, h⟩
theorem r_I {C : Int → Int → Prop} {g : Int → Int → V} {i j : Int} (hc : C i j) (h : Q (g i j) H) : rI C g (.int i) (.int j) H Q := ⟨i, j, rfl, rfl, hc, h⟩
theorem r_addI {i j : Int} (h : Q (.int (i + j)) H) : rAddG K (.int i) (.int j) H Q := h
theorem r_addS {a b : List Nat} (hl : a.length + b.length ≤ 16777216) (h : Q (T (a ++ b)) H) : rAddG K (T a) (T b) H Q := by
  refine ⟨by rw [mkS_len, mkS_len, sizeLine_eq]; exact hl, ?_⟩
  rw [mkS_add]; exact h
theorem r_addL {p q : Addr} {xs ys : List V} (h1 : H p = some (.lst xs)) (h2 : H q = some (.lst ys)) (hl : xs.length + ys.length ≤ 16777216) (h : ∀ d, H d = none → Q (.ref d) (upd H d (.lst (xs ++ ys)))) : rAddG K (.ref p) (.ref q) H Q :=
  .inl ⟨xs, ys, h1, h2, by rw [sizeLine_eq]; exact hl, h⟩
theorem r_mulI {i j : Int} (hc : CMul i j) (h : Q (.int (i * j)) H) : rMulG (.int i) (.int j) H Q := ⟨hc, h⟩
theorem r_mulS {l : List Nat} {n : Int} (hc : CMulS l n) (h : Q (T (repL l n.toNat)) H) : rMulG (T l) (.int n) H Q := ⟨hc, h⟩
theorem r_mulL {p : Addr} {xs : List V} {k : Int} (h1 : H p = some (.lst xs)) (hk : -(2 ^ 62) < k ∧ k < 2 ^ 62) (hl : xs.length * k.toNat ≤ 16777216) (h : ∀ d, H d = none → Q (.ref d) (upd H d (.lst (List.replicate k.toNat xs).flatten))) : rMulG (.ref p) (.int k) H Q :=
  ⟨xs, h1, hk, by rw [sizeLine_eq]; exact hl, h⟩
theorem r_eqS {a b : List Nat} (h : Q (.bl (decide (a = b))) H) : rEqG K (T a) (T b) H Q := .inl ⟨rfl, by rw [T_dec]; exact h⟩
theorem r_neS {a b : List Nat} (h : Q (.bl (!decide (a = b))) H) : rNeG K (T a) (T b) H Q := .inl ⟨rfl, by rw [T_dec]; exact h⟩
theorem r_eqI {a b : Int} (h : Q (.bl (decide (a = b))) H) : rEqG K (.int a) (.int b) H Q := .inl ⟨rfl, by rw [dec_int, Bool.beq_eq_decide_eq]; exact h⟩
theorem r_neI {a b : Int} (h : Q (.bl (!decide (a = b))) H) : rNeG K (.int a) (.int b) H Q := .inl ⟨rfl, by rw [dec_int, Bool.beq_eq_decide_eq]; exact h⟩
theorem r_eqB {a b : Bool} (h : Q (.bl (decide (a = b))) H) : rEqG K (.bl a) (.bl b) H Q := .inl ⟨rfl, by rw [dec_bl, Bool.beq_eq_decide_eq]; exact h⟩
theorem r_neB {a b : Bool} (h : Q (.bl (!decide (a = b))) H) : rNeG K (.bl a) (.bl b) H Q := .inl ⟨rfl, by rw [dec_bl, Bool.beq_eq_decide_eq]; exact h⟩
theorem r_in1 {c : Nat} {l : List Nat} (h : Q (.bl (decide (c ∈ l))) H) : rInG K (T [c]) (T l) H Q := .inl ⟨mkS [c], mkS l, rfl, rfl, by rw [subS_one]; exact h⟩
theorem r_notin1 {c : Nat} {l : List Nat} (h : Q (.bl (!decide (c ∈ l))) H) : rNotInG K (T [c]) (T l) H Q := .inl ⟨mkS [c], mkS l, rfl, rfl, by rw [subS_one]; exact h⟩
theorem r_ixL {p : Addr} {xs : List V} {i : Int} {v : V} (e : SqL K H p xs) (ha : atI xs i = some v) (h : Q v H) : rIx K (.ref p) (.int i) H Q := .inl ⟨p, xs, i, v, rfl, rfl, e, ha, h⟩
theorem r_ixT {p : Addr} {xs : List V} {i : Int} {v : V} (e : SqT K H p xs) (ha : atI xs i = some v) (h : Q v H) : rIx K (.ref p) (.int i) H Q := .inr (.inl ⟨p, xs, i, v, rfl, rfl, e, ha, h⟩)
theorem r_ixS {l : List Nat} {i : Int} {c : Nat} (hl : l.length ≤ 16777216) (ha : atI l i = some c) (h : Q (T [c]) H) : rIx K (T l) (.int i) H Q := .inr (.inr ⟨mkS l, i, c, rfl, rfl, by rw [mkS_len, sizeLine_eq]; exact hl, ha, h⟩)
theorem r_slS {l : List Nat} {lo hi : Option Int} (hl : l.length ≤ 16777216) (h : Q (T (cutL l lo hi)) H) : rSlG K (T l) lo hi H Q := .inl ⟨mkS l, rfl, by rw [mkS_len, sizeLine_eq]; exact hl, by rw [cutS_mk]; exact h⟩
theorem r_slL {p : Addr} {xs : List V} {lo hi : Option Int} (e : SqL K H p xs) (h : ∀ q, H q = none → Q (.ref q) (upd H q (.lst (cutV xs lo hi)))) : rSlG K (.ref p) lo hi H Q := .inr (.inl ⟨p, xs, rfl, e, h⟩)
theorem r_revS {l : List Nat} (hl : l.length ≤ 16777216) (h : Q (T l.reverse) H) : RevB K Q (T l) H := .inl ⟨l, rfl, hl, h⟩
theorem r_revL {p : Addr} {xs : List V} (e : SqL K H p xs) (h : ∀ d, H d = none → Q (.ref d) (upd H d (.lst xs.reverse))) : RevB K Q (.ref p) H := .inr ⟨p, xs, rfl, e, h⟩
theorem r_rev (h : te σ H (RevB K Q)) : tRevS K te σ H Q := h
/-- calls by values -/
theorem r_lenS {l : List Nat} (hl : l.length ≤ 16777216) {P : Nat → Prop} (h : P l.length) : ∃ x n, [T l] = [x] ∧ LenV K x H n ∧ P n := ⟨T l, l.length, rfl, ⟨by rw [mkS_len, sizeLine_eq]; exact hl, (mkS_len l).symm⟩, h⟩
theorem r_lenL {p : Addr} {xs : List V} (e : SqL K H p xs) {P : Nat → Prop} (h : P xs.length) : ∃ x n, [V.ref p] = [x] ∧ LenV K x H n ∧ P n := ⟨.ref p, xs.length, rfl, .inl ⟨xs, e, rfl⟩, h⟩
theorem r_lenT {p : Addr} {xs : List V} (e : SqT K H p xs) {P : Nat → Prop} (h : P xs.length) : ∃ x n, [V.ref p] = [x] ∧ LenV K x H n ∧ P n := ⟨.ref p, xs.length, rfl, .inr ⟨xs, e, rfl⟩, h⟩
theorem r_int {i : Int} (h : Q (.int i) H) : rIntG [.int i] H Q := .inl (.inl ⟨i, rfl, h⟩)
theorem r_intB {b : Bool} (h : Q (.int (if b then 1 else 0)) H) : rIntG [.bl b] H Q := .inl (.inr ⟨b, rfl, h⟩)
theorem r_c1 {i : Int} {P : Int → Prop} (h : P i) : ∃ i', [V.int i] = [.int i'] ∧ P i' := ⟨i, rfl, h⟩
theorem r_c2 {i j : Int} {P : Int → Int → Prop} (h : P i j) : ∃ i' j', [V.int i, V.int j] = [.int i', .int j'] ∧ P i' j' := ⟨i, j, rfl, h⟩
theorem r_map {f : Nat → Nat} {l : List Nat} (ha : Asc l) (hl : l.length ≤ 5000000) (h : Q (T (l.map f)) H) : rMap f (T l) [] H Q := ⟨l, rfl, rfl, ⟨ha, hl⟩, h⟩
theorem r_setL {p : Addr} {xs : List V} {i : Int} {j : Nat} {v : V} {QH : Hp → Prop} (e : H p = some (.lst xs)) (hj : ixN xs.length i = some j) (h : QH (upd H p (.lst (xs.set j v)))) : rSetL (.ref p) (.int i) v H QH := ⟨p, xs, i, j, rfl, rfl, e, hj, h⟩
theorem r_append {p : Addr} {xs : List V} {v : V} (e : H p = some (.lst xs)) (hl : xs.length < 16777216) (h : Q .non (upd H p (.lst (xs ++ [v])))) : rAppend (.ref p) [v] H Q := ⟨p, xs, v, rfl, rfl, e, by rw [sizeLine_eq]; exact hl, h⟩
theorem r_pop {p : Addr} {xs : List V} {v : V} (e : H p = some (.lst xs)) (hv : xs[xs.length - 1]? = some v) (h : Q v (upd H p (.lst xs.dropLast))) : rPop (.ref p) [] H Q := ⟨p, xs, v, rfl, rfl, e, hv, h⟩
theorem r_poN {QO : Option Int → Hp → Prop} (h : QO none H) : tNoPart σ H QO := h
theorem r_poS {QO : Option Int → Hp → Prop} (h : te σ H fun x H1 => ∃ i, x = .int i ∧ QO (some i) H1) : tPart te σ H QO := h
theorem r_int1 {i : Int} {P : Int → Prop} (h : P i) : ∃ i', V.int i = .int i' ∧ P i' := ⟨i, rfl, h⟩
/-- sep.join(parts) -/
abbrev rJoin (K : PySem.W.Frag) : V → List V → Hp → VK → Prop := fun x xs H Q => ∃ a p, ∃ ys : List Str, x = .str a ∧ xs = [.ref p] ∧ (SqL K H p (ys.map V.str) ∨ SqT K H p (ys.map V.str)) ∧ (ys.map (·.length)).sum + ys.length * a.length ≤ 16777216 ∧ Q (.str (Txt.join a ys)) H
theorem join_mk (a : List Nat) (ls : List (List Nat)) : Txt.join (mkS a) (ls.map mkS) = mkS (TL.joinL a ls) := by
  rw [TL.join_eq]
  apply TL.ext_tl
  rw [TL.tl_join]
  show TL.joinL a ((ls.map mkS).map TL.tl) = _
  rw [List.map_map]
  have : ls.map (TL.tl ∘ mkS) = ls := by
    conv => rhs; rw [← List.map_id ls]
    exact List.map_congr_left fun x _ => rfl
  rw [this]; rfl
theorem joinL_nil : ∀ ls : List (List Nat), TL.joinL [] ls = ls.flatten
  | [] => rfl
  | [p] => by show p = [p].flatten; simp
  | p :: q :: r => by
    show p ++ ([] ++ TL.joinL [] (q :: r)) = _
    rw [joinL_nil (q :: r)]; simp
theorem map_T (ls : List (List Nat)) : (ls.map mkS).map V.str = ls.map T := by rw [List.map_map]; rfl
theorem sum_len (ls : List (List Nat)) : ((ls.map mkS).map (·.length)).sum = ls.flatten.length := by
  rw [List.map_map, List.length_flatten]
  have : ls.map ((fun x : Str => x.length) ∘ mkS) = ls.map List.length := List.map_congr_left fun x _ => mkS_len x
  rw [this]
theorem r_join {a : List Nat} {p : Addr} {ls : List (List Nat)} (e : SqL K H p (ls.map T)) (hl : ls.flatten.length + ls.length * a.length ≤ 16777216) (h : Q (T (TL.joinL a ls)) H) : rJoin K (T a) [.ref p] H Q := by
  refine ⟨mkS a, p, ls.map mkS, rfl, rfl, .inl (by rw [map_T]; exact e), ?_, by rw [join_mk]; exact h⟩
  rw [sum_len, List.length_map, mkS_len]; exact hl
theorem r_join0 {p : Addr} {ls : List (List Nat)} (e : SqL K H p (ls.map T)) (hl : ls.flatten.length ≤ 16777216) (h : Q (T ls.flatten) H) : rJoin K (T []) [.ref p] H Q :=
  r_join e (by simpa using hl) (by rw [joinL_nil]; exact h)
/-- all(list of bools) -/
theorem r_all {p : Addr} {bs : List Bool} (e : SqL K H p (bs.map V.bl)) (h : Q (.bl (bs.all id)) H) : rAll K [.ref p] H Q := ⟨p, bs, rfl, e, h⟩
theorem r_any {p : Addr} {bs : List Bool} (e : SqL K H p (bs.map V.bl)) (h : Q (.bl (bs.any id)) H) : rAny K [.ref p] H Q := ⟨p, bs, rfl, e, h⟩
/-- isinstance(text, str) and the like -/
theorem r_isiS {l : List Nat} (h : Q (.bl true) H) : rIsiG K [T l, .ty "str"] H Q := .inl ⟨T l, .ty "str", _, _, true, rfl, .ty "str", .base (.str _), by rfl, h⟩

/-! ### loops: what is walked is reckoned first -/
def ForJ (g : TG) (tb : TS) (D : Ends) (σ : L2.St) (J : It) (H1 : Hp) : Prop := ∃ W : Nat → Nat → L2.St → Hp → Prop, (∃ m, W 0 m σ H1) ∧ ∀ i m σ H, W i m σ H →
  (J.stop i H ∧ D.nx σ H) ∨ (J.go i H ∧ ∃ N : L2.St → Hp → Prop, (∀ σ' H', N σ' H' → ∃ m', m' < m ∧ W (i + 1) m' σ' H') ∧ ∀ x H', J.yld i H x H' → g x σ H' fun σ2 H2 => tb { D with nx := N, ct := N, bk := D.nx } σ2 H2)
def LcJ (g : TG) (tt : TT) (te : TE) (vs : List Nat) (σ : L2.St) (Q : VK) (J : It) (H1 : Hp) : Prop := ∀ D, H1 D = none → ∃ W : Nat → Nat → Hp → Prop, (∃ m, W 0 m (upd H1 D (.lst []))) ∧ ∀ i m H, W i m H →
  (J.stop i H ∧ Q (.ref D) H) ∨ (J.go i H ∧ ∃ Nx : Hp → Prop, (∀ H', Nx H' → ∃ m', m' < m ∧ W (i + 1) m' H') ∧ ∀ x H', J.yld i H x H' → g x (wipe σ vs) H' fun σ2 H2 => wipe σ2 vs = wipe σ vs ∧ tt σ2 H2 fun b H3 =>
    if b = true then te σ2 H3 fun y H4 => ∃ acc, H4 D = some (.lst acc) ∧ acc.length < sizeLine ∧ Nx (upd H4 D (.lst (acc ++ [y]))) else Nx H3)
def GoG (K : PySem.W.Frag) (R : It → Hp → Prop) (x : V) (H1 : Hp) : Prop := (∃ a, x = .ref a ∧ (∃ xs, SqL K H1 a xs) ∧ R (Itl K a) H1) ∨ (∃ a, x = .ref a ∧ (∃ xs, SqT K H1 a xs) ∧ R (Itt K a) H1) ∨ (∃ z, x = .str z ∧ R (Its z) H1)
def GoR1 (R : It → Hp → Prop) (vs : List V) (H1 : Hp) : Prop := ∃ j : Int, vs = [.int j] ∧ -(2 ^ 62) ≤ j ∧ j < 2 ^ 62 ∧ R (Itr 0 j.toNat) H1
def GoR2 (R : It → Hp → Prop) (vs : List V) (H1 : Hp) : Prop := ∃ i j : Int, vs = [.int i, .int j] ∧ (-(2 ^ 62) ≤ i ∧ i < 2 ^ 62 ∧ -(2 ^ 62) ≤ j ∧ j < 2 ^ 62) ∧ R (Itr i (j - i).toNat) H1
theorem r_for {wi : TI} {g : TG} {tb : TS} (h : wi σ H (ForJ g tb D σ)) : tFor wi g tb D σ H := h
theorem r_lc {wi : TI} {g : TG} {te : TE} {vs : List Nat} (h : wi σ H (LcJ g tt te vs σ Q)) : tLc wi g tt te vs σ H Q := h
theorem r_iG {R : It → Hp → Prop} (h : te σ H (GoG K R)) : iG K te σ H R := h
theorem r_iR1 {R : It → Hp → Prop} (h : t σ H (GoR1 R)) : iRng1 t σ H R := h
theorem r_iR2 {R : It → Hp → Prop} (h : t σ H (GoR2 R)) : iRng2 t σ H R := h
theorem r_goS {R : It → Hp → Prop} {l : List Nat} (h : R (Its (mkS l)) H) : GoG K R (T l) H := .inr (.inr ⟨_, rfl, h⟩)
theorem r_goL {R : It → Hp → Prop} {p : Addr} {xs : List V} (e : SqL K H p xs) (h : R (Itl K p) H) : GoG K R (.ref p) H := .inl ⟨p, rfl, ⟨xs, e⟩, h⟩
theorem r_goT {R : It → Hp → Prop} {p : Addr} {xs : List V} (e : SqT K H p xs) (h : R (Itt K p) H) : GoG K R (.ref p) H := .inr (.inl ⟨p, rfl, ⟨xs, e⟩, h⟩)
theorem r_goR1 {R : It → Hp → Prop} {j : Int} (hj : -(2 ^ 62) ≤ j ∧ j < 2 ^ 62) (h : R (Itr 0 j.toNat) H) : GoR1 R [.int j] H := ⟨j, rfl, hj.1, hj.2, h⟩
theorem r_goR2 {R : It → Hp → Prop} {i j : Int} (hj : -(2 ^ 62) ≤ i ∧ i < 2 ^ 62 ∧ -(2 ^ 62) ≤ j ∧ j < 2 ^ 62) (h : R (Itr i (j - i).toNat) H) : GoR2 R [.int i, .int j] H := ⟨i, j, rfl, hj, h⟩
/-- an iterator over items that are known: item i is x, the heap as it was -/
def Known (J : It) (n : Nat) (f : Nat → V) (G : Hp → Prop) : Prop := ∀ i H, G H → (i < n → J.go i H ∧ ∀ x H', J.yld i H x H' → H' = H ∧ x = f i) ∧ (n ≤ i → J.stop i H)
theorem known_str (l : List Nat) : Known (Its (mkS l)) l.length (fun i => T [l.getD i 0]) fun _ => True := by
  intro i H _
  have hsz : (mkS l).cps.size = l.length := mkS_len l
  refine ⟨fun hi => ⟨by show i < (mkS l).cps.size; omega, fun x H' y => ?_⟩, fun hi => by show (mkS l).cps.size ≤ i; omega⟩
  obtain ⟨e, c, hc, ex⟩ := y
  have hc' : l[i]? = some c := by simpa [mkS] using hc
  refine ⟨e, ?_⟩
  show x = T [l.getD i 0]
  rw [ex, List.getD_eq_getElem?_getD, hc']; rfl
theorem known_list {p : Addr} (xs : List V) : Known (Itl K p) xs.length (fun i => xs.getD i .non) fun H => SqL K H p xs := by
  intro i H q
  refine ⟨fun hi => ⟨⟨xs, xs[i], q, by simp [hi]⟩, fun x H' y => ?_⟩, fun hi => ⟨xs, q, hi⟩⟩
  obtain ⟨e, y⟩ := y
  have := y xs q
  refine ⟨e, ?_⟩
  show x = xs.getD i V.non
  rw [List.getD_eq_getElem?_getD, this]; rfl
theorem known_tup {p : Addr} (xs : List V) : Known (Itt K p) xs.length (fun i => xs.getD i .non) fun H => SqT K H p xs := by
  intro i H q
  refine ⟨fun hi => ⟨⟨xs, xs[i], q, by simp [hi]⟩, fun x H' y => ?_⟩, fun hi => ⟨xs, q, hi⟩⟩
  obtain ⟨e, y⟩ := y
  have := y xs q
  refine ⟨e, ?_⟩
  show x = xs.getD i V.non
  rw [List.getD_eq_getElem?_getD, this]; rfl
theorem known_rng (lo : Int) (n : Nat) : Known (Itr lo n) n (fun i => .int (lo + i)) fun _ => True := by
  intro i H _
  exact ⟨fun hi => ⟨hi, fun x H' y => y⟩, fun hi => hi⟩
/-- a for loop over known items -/
theorem for_known {J : It} {n : Nat} {f : Nat → V} {G : Hp → Prop} {g : TG} {tb : TS} (kn : Known J n f G) (Pv : Nat → L2.St → Hp → Prop) (h0 : Pv 0 σ H) (hg : ∀ i σ H, i ≤ n → Pv i σ H → G H)
    (hs : ∀ i σ H, i < n → Pv i σ H → g (f i) σ H fun σ2 H2 => tb { D with nx := Pv (i + 1), ct := Pv (i + 1), bk := D.nx } σ2 H2) (hd : ∀ σ H, Pv n σ H → D.nx σ H) : ForJ g tb D σ J H := by
  refine ⟨fun i m σ H => m = n - i ∧ i ≤ n ∧ Pv i σ H, ⟨_, rfl, Nat.zero_le _, h0⟩, ?_⟩
  rintro i m σ H ⟨rfl, hi, p⟩
  obtain ⟨k1, k2⟩ := kn i H (hg i σ H hi p)
  by_cases hlt : i < n
  · obtain ⟨go, y⟩ := k1 hlt
    refine .inr ⟨go, Pv (i + 1), fun σ' H' p' => ⟨n - (i + 1), by omega, rfl, hlt, p'⟩, fun x H' yy => ?_⟩
    obtain ⟨e1, e2⟩ := y x H' yy
    subst e1 e2
    exact hs i σ _ hlt p
  · have e : i = n := by omega
    subst e
    exact .inl ⟨k2 (Nat.le_refl _), hd σ H p⟩
/-- a comprehension over known items that stay: f' tells what is made of item i (none: left out); the heap may grow -/
theorem lc_known {J : It} {n : Nat} {f : Nat → V} {G : Hp → Prop} {g : TG} {te : TE} {vs : List Nat} (kn : Known J n f G) (mk : Nat → Option V) (hn : n ≤ 16777216) (hG : ∀ H', Same H H' → G H')
    (hs : ∀ i H2 (QT : Option V → Hp → Prop), i < n → Same H H2 → (∀ H3, Same H2 H3 → QT (mk i) H3) →
      g (f i) (wipe σ vs) H2 fun σ2 H3 => wipe σ2 vs = wipe σ vs ∧ tt σ2 H3 fun b H4 => if b = true then te σ2 H4 fun y H5 => QT (some y) H5 else QT none H4)
    (hd : ∀ D H', H D = none → Same H H' → H' D = some (.lst ((List.range n).filterMap mk)) → Q (.ref D) H') : LcJ g tt te vs σ Q J H := by
  intro D nD
  refine ⟨fun i m H2 => m = n - i ∧ i ≤ n ∧ Same H H2 ∧ H2 D = some (.lst ((List.range i).filterMap mk)), ⟨_, rfl, Nat.zero_le _, Same.new1 nD, by rw [upd_same]; rfl⟩, ?_⟩
  rintro i m H2 ⟨rfl, hi, sm, eD⟩
  obtain ⟨k1, k2⟩ := kn i H2 (hG _ sm)
  by_cases hlt : i < n
  · obtain ⟨go, y⟩ := k1 hlt
    refine .inr ⟨go, fun H3 => Same H H3 ∧ H3 D = some (.lst ((List.range (i + 1)).filterMap mk)), fun H3 p => ⟨n - (i + 1), by omega, rfl, hlt, p⟩, fun x H' yy => ?_⟩
    obtain ⟨e1, e2⟩ := y x H' yy
    subst e1 e2
    refine hs i H' (fun o H4 => match o with
      | some y => ∃ acc, H4 D = some (.lst acc) ∧ acc.length < sizeLine ∧ Same H (upd H4 D (.lst (acc ++ [y]))) ∧ (upd H4 D (.lst (acc ++ [y]))) D = some (.lst ((List.range (i + 1)).filterMap mk))
      | none => Same H H4 ∧ H4 D = some (.lst ((List.range (i + 1)).filterMap mk))) hlt sm (fun H3 s3 => ?_)
    have hr : (List.range (i + 1)).filterMap mk = (List.range i).filterMap mk ++ (mk i).toList := by
      rw [List.range_succ, List.filterMap_append]
      congr 1
    cases e : mk i with
    | none => exact ⟨sm.trans s3, by rw [hr, e]; simpa using s3 _ _ eD⟩
    | some y =>
      refine ⟨_, s3 _ _ eD, ?_, Same.mut (sm.trans s3) nD, ?_⟩
      · have := List.length_filterMap_le mk (List.range i)
        rw [List.length_range] at this
        rw [sizeLine_eq]; omega
      · rw [upd_same, hr, e]; rfl
  · have e : i = n := by omega
    subst e
    exact .inl ⟨k2 (Nat.le_refl _), hd D H2 nD sm eD⟩
/-- a comprehension with an invariant of one's own (Pv D i H: what is so behind i items) -/
theorem lc_inv {J : It} {n : Nat} {f : Nat → V} {G : Hp → Prop} {g : TG} {te : TE} {vs : List Nat} (kn : Known J n f G) (Pv : Addr → Nat → Hp → Prop) (h0 : ∀ D, H D = none → Pv D 0 (upd H D (.lst []))) (hg : ∀ D i H, i ≤ n → Pv D i H → G H)
    (hs : ∀ D i H, i < n → Pv D i H → g (f i) (wipe σ vs) H fun σ2 H2 => wipe σ2 vs = wipe σ vs ∧ tt σ2 H2 fun b H3 =>
      if b = true then te σ2 H3 fun y H4 => ∃ acc, H4 D = some (.lst acc) ∧ acc.length < sizeLine ∧ Pv D (i + 1) (upd H4 D (.lst (acc ++ [y]))) else Pv D (i + 1) H3)
    (hd : ∀ D H, Pv D n H → Q (.ref D) H) : LcJ g tt te vs σ Q J H := by
  intro D nD
  refine ⟨fun i m H => m = n - i ∧ i ≤ n ∧ Pv D i H, ⟨_, rfl, Nat.zero_le _, h0 D nD⟩, ?_⟩
  rintro i m H2 ⟨rfl, hi, p⟩
  obtain ⟨k1, k2⟩ := kn i H2 (hg D i H2 hi p)
  by_cases hlt : i < n
  · obtain ⟨go, y⟩ := k1 hlt
    refine .inr ⟨go, Pv D (i + 1), fun H3 p => ⟨n - (i + 1), by omega, rfl, hlt, p⟩, fun x H' yy => ?_⟩
    obtain ⟨e1, e2⟩ := y x H' yy
    subst e1 e2
    exact hs D i H' hlt p
  · have e : i = n := by omega
    subst e
    exact .inl ⟨k2 (Nat.le_refl _), hd D H2 p⟩
theorem fm_range {α : Type} (l : List α) (f : α → V) (d : α) : (List.range l.length).filterMap (fun i => some (f (l.getD i d))) = l.map f := by
  rw [List.filterMap_eq_map']
  apply List.ext_getElem?
  intro i
  rw [List.getElem?_map, List.getElem?_map]
  by_cases h : i < l.length
  · rw [List.getElem?_range h]
    simp [h]
  · rw [List.getElem?_eq_none (by simpa using h), List.getElem?_eq_none (by simpa using h)]; rfl
end
end NX
namespace NX
open PySem PySem.Spec PyProof.Rows L2
theorem cxK {CX : CXT} {P : Program} {w : World} {K : PySem.W.Frag} {mg : Str → Option Value} {base : Heap} {N : List Str} {qual : Str} {scope : Scope} {f : Addr} {cd : Value} {A : Around} {outer : List Env} {s : Shared} {H : Hp} {E : XK} {xe : Value → Shared → Prop} :
    ((cxOf CX P w K mg base N qual scope f cd A outer s H E).wish xe).K = K := rfl
end NX
namespace NX
open PySem PySem.Spec PyProof.Rows L2
section
variable {K : PySem.W.Frag} {σ : L2.St} {H : Hp} {Q : VK} {D : Ends} {te : TE} {ts : TS} {tt : TT}
/-- what is wanted is put behind a word of one's own -/
theorem r_gen (R : V → Hp → Prop) (k : ∀ v H', R v H' → Q v H') (w : ∀ Q' : VK, (∀ v H', R v H' → Q' v H') → te σ H Q') : te σ H Q := w Q k
theorem r_genT {Q : Bool → Hp → Prop} (R : Bool → Hp → Prop) (k : ∀ b H', R b H' → Q b H') (w : ∀ Q' : Bool → Hp → Prop, (∀ v H', R v H' → Q' v H') → tt σ H Q') : tt σ H Q := w Q k
theorem r_genS (N : L2.St → Hp → Prop) (k : ∀ σ' H', N σ' H' → D.nx σ' H') (w : ∀ nx' : L2.St → Hp → Prop, (∀ σ' H', N σ' H' → nx' σ' H') → ts { D with nx := nx' } σ H) : ts D σ H := w D.nx k
theorem r_pw {a b c : Int} (k : Nat) (h0 : 0 ≤ b) (h1 : a.natAbs < 2 ^ k) (h2 : (k : Int) * b ≤ 2 ^ 27) (e : a ^ b.toNat = c) (h : Q (.int c) H) : rI CPowW (fun i j => .int (i ^ j.toNat)) (.int a) (.int b) H Q :=
  ⟨a, b, rfl, rfl, cpow_of h0 h1 h2, by show Q (.int (a ^ b.toNat)) H; rw [e]; exact h⟩
theorem r_p9 (h : Q (.int 1000000000) H) : rI CPowW (fun i j => .int (i ^ j.toNat)) (.int 10) (.int 9) H Q := r_pw 5 (by decide) (by decide) (by decide) (by decide) h
theorem r_p18 (h : Q (.int 1000000000000000000) H) : rI CPowW (fun i j => .int (i ^ j.toNat)) (.int 10) (.int 18) H Q := r_pw 5 (by decide) (by decide) (by decide) (by decide) h
theorem r_p20 (h : Q (.int 100000000000000000000) H) : rI CPowW (fun i j => .int (i ^ j.toNat)) (.int 10) (.int 20) H Q := r_pw 5 (by decide) (by decide) (by decide) (by decide) h
theorem r_p36 (h : Q (.int 1000000000000000000000000000000000000) H) : rI CPowW (fun i j => .int (i ^ j.toNat)) (.int 10) (.int 36) H Q := r_pw 5 (by decide) (by decide) (by decide) (by decide) h
theorem r_p40 (h : Q (.int 10000000000000000000000000000000000000000) H) : rI CPowW (fun i j => .int (i ^ j.toNat)) (.int 10) (.int 40) H Q := r_pw 5 (by decide) (by decide) (by decide) (by decide) h
theorem r_p41 (h : Q (.int 100000000000000000000000000000000000000000) H) : rI CPowW (fun i j => .int (i ^ j.toNat)) (.int 10) (.int 41) H Q := r_pw 5 (by decide) (by decide) (by decide) (by decide) h
theorem r_p43 (h : Q (.int 10000000000000000000000000000000000000000000) H) : rI CPowW (fun i j => .int (i ^ j.toNat)) (.int 10) (.int 43) H Q := r_pw 5 (by decide) (by decide) (by decide) (by decide) h
/-- % by a positive number, // likewise -/
theorem r_mod {i j : Int} (h0 : 0 < j) (h : Q (.int (i % j)) H) : rI (fun _ j => j ≠ 0) (fun i j => .int (i.fmod j)) (.int i) (.int j) H Q :=
  ⟨i, j, rfl, rfl, by omega, by show Q (.int (i.fmod j)) H; rw [Int.fmod_eq_emod_of_nonneg i (by omega)]; exact h⟩
theorem r_fdiv {i j : Int} (h0 : 0 < j ∧ j < 1073741824) (h : Q (.int (i / j)) H) : rI CDivN (fun i j => .int (i.fdiv j)) (.int i) (.int j) H Q :=
  ⟨i, j, rfl, rfl, ⟨by omega, by omega⟩, by show Q (.int (i.fdiv j)) H; rw [Int.fdiv_eq_ediv_of_nonneg i (by omega)]; exact h⟩
theorem r_mulc {i j : Int} (hi : -(2 ^ 64) < i ∧ i < 2 ^ 64) (h : Q (.int (i * j)) H) : rMulG (.int i) (.int j) H Q := ⟨.inl hi, h⟩
theorem r_mulc' {i j : Int} (hj : -(2 ^ 64) < j ∧ j < 2 ^ 64) (h : Q (.int (i * j)) H) : rMulG (.int i) (.int j) H Q := ⟨.inr hj, h⟩
theorem at_map {f : Int → V} {ns : List Int} {k : Nat} (h : k < ns.length) : atI (ns.map f) (k : Int) = some (f (ns[k])) := atI_nat (by rw [List.getElem?_map, List.getElem?_eq_getElem h]; rfl)
end
end NX
namespace NX
open L2
theorem r_new {xs : List V} {P : Prop} (h1 : xs.length ≤ 100) (h : P) : xs.length ≤ PySem.sizeLine ∧ P := ⟨small_len h1, h⟩
end NX
namespace NX
open PySem PySem.Spec PyProof.Rows L2
theorem r_fdivW {H : Hp} {Q : VK} {i j : Int} (h0 : 0 < j ∧ j < 2 ^ 200) (h : Q (.int (i / j)) H) : rI CDivW (fun i j => .int (i / j)) (.int i) (.int j) H Q :=
  ⟨i, j, rfl, rfl, wide_div (b := 200) h0.1 (by omega) (by decide) (by decide), h⟩
end NX
namespace NX
open PySem PySem.Spec PyProof.Rows L2
section
variable {K : PySem.W.Frag} {σ : L2.St} {H : Hp} {D : Ends} {t : TA}
theorem r_gtup {n : Nat} {g : TGs} {a : Addr} {xs : List V} {QN : L2.St → Hp → Prop} (e : SqT K H a xs) (hl : xs.length = n) (h : g xs σ H QN) : gTup K n g (.ref a) σ H QN := ⟨a, xs, rfl, e, hl, h⟩
theorem r_gcons {g : TG} {u : TGs} {v : V} {r : List V} {QN : L2.St → Hp → Prop} (h : g v σ H fun σ' H' => u r σ' H' QN) : gCons g u (v :: r) σ H QN := ⟨v, r, rfl, h⟩
theorem r_gnil {QN : L2.St → Hp → Prop} (h : QN σ H) : gNil [] σ H QN := ⟨rfl, h⟩
theorem r_par3 {i j l : Nat} (h : t σ H fun vs H1 => ∃ u v w, vs = [u, v, w] ∧ D.nx (((σ.set i (some u)).set j (some v)).set l (some w)) H1) : tPar3 i j l t D σ H := h
theorem r_par33 {u v w : V} {P : V → V → V → Prop} (h : P u v w) : ∃ u' v' w', [u, v, w] = [u', v', w'] ∧ P u' v' w' := ⟨u, v, w, rfl, h⟩
theorem upd_back {H : Hp} {p : Addr} {xs : List V} : SqT K (upd H p (.tup xs)) p xs := SqT.of upd_same
end
end NX
namespace NX
open PySem PySem.Spec PyProof.Rows L2
section
variable {K : PySem.W.Frag} {H : Hp} {Q : VK}
theorem r_eqSS {a : List Nat} (h : Q (.bl true) H) : rEqG K (T a) (T a) H Q := r_eqS (by rw [decide_eq_true rfl]; exact h)
theorem r_neSS {a : List Nat} (h : Q (.bl false) H) : rNeG K (T a) (T a) H Q := r_neS (by rw [decide_eq_true rfl]; exact h)
theorem r_eqII {a : Int} (h : Q (.bl true) H) : rEqG K (.int a) (.int a) H Q := r_eqI (by rw [decide_eq_true rfl]; exact h)
theorem r_neII {a : Int} (h : Q (.bl false) H) : rNeG K (.int a) (.int a) H Q := r_neI (by rw [decide_eq_true rfl]; exact h)
theorem r_eqBB {a : Bool} (h : Q (.bl true) H) : rEqG K (.bl a) (.bl a) H Q := r_eqB (by rw [decide_eq_true rfl]; exact h)
theorem r_neBB {a : Bool} (h : Q (.bl false) H) : rNeG K (.bl a) (.bl a) H Q := r_neB (by rw [decide_eq_true rfl]; exact h)
end
end NX
namespace NX
open PySem PySem.Spec PyProof.Rows L2
def WhB (W : Nat → L2.St → Hp → Prop) (tb : TS) (D : Ends) (m : Nat) (σ : L2.St) (H1 : Hp) : Prop := ∃ N : L2.St → Hp → Prop, (∀ σ' H', N σ' H' → ∃ m', m' < m ∧ W m' σ' H') ∧ tb { D with nx := N, ct := N, bk := D.nx } σ H1
theorem r_while {c : TT} {tb : TS} {D : Ends} {σ : L2.St} {H : Hp} (W : Nat → L2.St → Hp → Prop) (m0 : Nat) (h0 : W m0 σ H)
    (hs : ∀ m σ H, W m σ H → c σ H fun b H1 => if b = true then WhB W tb D m σ H1 else D.nx σ H1) : tWhile c tb D σ H := ⟨W, ⟨m0, h0⟩, hs⟩
theorem r_whb {W : Nat → L2.St → Hp → Prop} {tb : TS} {D : Ends} {m : Nat} {σ : L2.St} {H1 : Hp} (h : tb { D with nx := fun σ' H' => ∃ m', m' < m ∧ W m' σ' H', ct := fun σ' H' => ∃ m', m' < m ∧ W m' σ' H', bk := D.nx } σ H1) : WhB W tb D m σ H1 := ⟨_, fun _ _ h => h, h⟩
end NX
namespace NX
/-! ### plain rows: letters, backs, least rows -/
def lett (c : Nat) : Bool := decide (65 ≤ c ∧ c ≤ 90) || decide (97 ≤ c ∧ c ≤ 122)
def Row (l : List Nat) : Prop := ∀ c ∈ l, lett c = true
theorem lett_iff {c : Nat} : lett c = true ↔ (65 ≤ c ∧ c ≤ 90) ∨ (97 ≤ c ∧ c ≤ 122) := by simp [lett]
theorem swp_swp {c : Nat} (h : lett c = true) : swp (swp c) = c := by
  rw [lett_iff] at h
  unfold swp
  rcases h with h | h
  · rw [if_pos h, if_neg (by omega), if_pos (by omega)]; omega
  · have h' : ¬ (65 ≤ c ∧ c ≤ 90) := by omega
    rw [if_neg h', if_pos h, if_pos (by omega)]; omega
theorem swp_lett {c : Nat} (h : lett c = true) : lett (swp c) = true := by
  rw [lett_iff] at *
  unfold swp
  rcases h with h | h
  · rw [if_pos h]; omega
  · rw [if_neg (by omega), if_pos h]; omega
theorem swp_ne {c : Nat} (h : lett c = true) : swp c ≠ c := by
  rw [lett_iff] at h
  unfold swp
  rcases h with h | h
  · rw [if_pos h]; omega
  · rw [if_neg (by omega), if_pos h]; omega
theorem Row.asc {l : List Nat} (h : Row l) : Asc l := fun c hc => by
  have := lett_iff.mp (h c hc); omega
theorem Row.nil : Row [] := fun _ h => nomatch h
theorem Row.app {a b : List Nat} (ha : Row a) (hb : Row b) : Row (a ++ b) := fun c h => (List.mem_append.mp h).elim (ha c) (hb c)
theorem Row.one {c : Nat} (h : lett c = true) : Row [c] := fun x hx => by rw [List.mem_singleton.mp hx]; exact h
theorem Row.sub {a b : List Nat} (hb : Row b) (h : ∀ c ∈ a, c ∈ b) : Row a := fun c hc => hb c (h c hc)
theorem Row.take {l : List Nat} (h : Row l) (n : Nat) : Row (l.take n) := h.sub fun _ hc => List.mem_of_mem_take hc
theorem Row.drop {l : List Nat} (h : Row l) (n : Nat) : Row (l.drop n) := h.sub fun _ hc => List.mem_of_mem_drop hc
theorem Row.rev {l : List Nat} (h : Row l) : Row l.reverse := h.sub fun _ hc => List.mem_reverse.mp hc
theorem Row.map_swp {l : List Nat} (h : Row l) : Row (l.map swp) := fun c hc => by
  obtain ⟨d, hd, rfl⟩ := List.mem_map.mp hc; exact swp_lett (h d hd)
theorem Row.of_app {a b : List Nat} (h : Row (a ++ b)) : Row a ∧ Row b := ⟨h.sub fun _ hc => List.mem_append_left _ hc, h.sub fun _ hc => List.mem_append_right _ hc⟩
theorem Row.cons {c : Nat} {l : List Nat} (h : lett c = true) (hl : Row l) : Row (c :: l) := fun x hx => (List.mem_cons.mp hx).elim (fun e => e ▸ h) (hl x)
theorem Row.of_cons {c : Nat} {l : List Nat} (h : Row (c :: l)) : lett c = true ∧ Row l := ⟨h c List.mem_cons_self, fun x hx => h x (List.mem_cons_of_mem _ hx)⟩
theorem Row.rep {l : List Nat} (h : Row l) (n : Nat) : Row (repL l n) := fun c hc => by
  obtain ⟨r, hr, hc⟩ := List.mem_flatten.mp hc
  rw [(List.mem_replicate.mp hr).2] at hc; exact h c hc
/-- the back of a row -/
def bak (l : List Nat) : List Nat := l.reverse.map swp
theorem bak_len (l : List Nat) : (bak l).length = l.length := by simp [bak]
theorem Row.bak {l : List Nat} (h : Row l) : Row (bak l) := h.rev.map_swp
theorem bak_bak {l : List Nat} (h : Row l) : bak (bak l) = l := by
  unfold NX.bak
  rw [← List.map_reverse, List.reverse_reverse, List.map_map]
  conv => rhs; rw [← List.map_id l]
  exact List.map_congr_left fun c hc => swp_swp (h c hc)
theorem bak_app (a b : List Nat) : bak (a ++ b) = bak b ++ bak a := by simp [bak]
/-- a turn of the stack, its top first -/
def push : List Nat → Nat → List Nat
  | [], c => [c]
  | t :: r, c => if t = swp c then r else c :: t :: r
theorem push_cons (t : Nat) (r : List Nat) (c : Nat) : push (t :: r) c = if t = swp c then r else c :: t :: r := rfl
def stk (l : List Nat) : List Nat := l.foldl push []
/-- the least row -/
def red (l : List Nat) : List Nat := (stk l).reverse
theorem stk_snoc (l : List Nat) (c : Nat) : stk (l ++ [c]) = push (stk l) c := by simp [stk]
theorem push_len (s : List Nat) (c : Nat) : (push s c).length ≤ s.length + 1 := by
  cases s with
  | nil => simp [push]
  | cons t r => rw [push_cons]; split <;> simp only [List.length_cons] <;> omega
theorem foldl_len (l : List Nat) : ∀ s : List Nat, (l.foldl push s).length ≤ s.length + l.length := by
  induction l with
  | nil => intro s; simp
  | cons c l ih => intro s; have h1 := ih (push s c); have h2 := push_len s c; simp only [List.foldl_cons, List.length_cons]; omega
theorem stk_len (l : List Nat) : (stk l).length ≤ l.length := by have := foldl_len l []; simpa [stk] using this
theorem red_len (l : List Nat) : (red l).length ≤ l.length := by simp only [red, List.length_reverse]; exact stk_len l
theorem push_row {s : List Nat} {c : Nat} (hs : Row s) (hc : lett c = true) : Row (push s c) := by
  cases s with
  | nil => exact Row.one hc
  | cons t r =>
    rw [push_cons]; split
    · exact hs.of_cons.2
    · exact Row.cons hc hs
theorem foldl_row {l : List Nat} : ∀ {s : List Nat}, Row l → Row s → Row (l.foldl push s) := by
  induction l with
  | nil => intro s _ hs; exact hs
  | cons c l ih => intro s hl hs; exact ih hl.of_cons.2 (push_row hs hl.of_cons.1)
theorem stk_row {l : List Nat} (h : Row l) : Row (stk l) := foldl_row h Row.nil
theorem Row.red {l : List Nat} (h : Row l) : Row (red l) := (stk_row h).rev
theorem oth_up {c : Nat} (e : isLo c = true) : PyProof.Rows.up1 c = swp c := by
  have h : 97 ≤ c ∧ c ≤ 122 := of_decide_eq_true e
  unfold PyProof.Rows.up1 swp
  have h' : ¬ (65 ≤ c ∧ c ≤ 90) := by omega
  simp only [h, h', if_true, if_false, and_self]
theorem oth_lo {c : Nat} (e : isLo c = false) : PyProof.Rows.lo1 c = swp c := by
  have h : ¬ (97 ≤ c ∧ c ≤ 122) := of_decide_eq_false e
  unfold PyProof.Rows.lo1 swp
  rw [if_neg h]
theorem in_low {c : Nat} : c ∈ ([97, 98, 99, 100, 101, 102, 103, 104, 105, 106, 107, 108, 109, 110, 111, 112, 113, 114, 115, 116, 117, 118, 119, 120, 121, 122] : List Nat) ↔ 97 ≤ c ∧ c ≤ 122 := by
  simp only [List.mem_cons, List.not_mem_nil, or_false]; omega
theorem in_high {c : Nat} : c ∈ ([65, 66, 67, 68, 69, 70, 71, 72, 73, 74, 75, 76, 77, 78, 79, 80, 81, 82, 83, 84, 85, 86, 87, 88, 89, 90] : List Nat) ↔ 65 ≤ c ∧ c ≤ 90 := by
  simp only [List.mem_cons, List.not_mem_nil, or_false]; omega
theorem up1_lett {c : Nat} (h : lett c = true) : lett (PyProof.Rows.up1 c) = true := by
  rw [lett_iff] at *
  unfold PyProof.Rows.up1
  split <;> omega
theorem Row.map_up {l : List Nat} (h : Row l) : Row (l.map PyProof.Rows.up1) := fun c hc => by
  obtain ⟨d, hd, rfl⟩ := List.mem_map.mp hc; exact up1_lett (h d hd)
/-- the letters from a to z -/
abbrev lowL : List Nat := [97, 98, 99, 100, 101, 102, 103, 104, 105, 106, 107, 108, 109, 110, 111, 112, 113, 114, 115, 116, 117, 118, 119, 120, 121, 122]
theorem lowL_row : Row lowL := fun c hc => lett_iff.mpr (.inr (in_low.mp hc))
/-- what is drawn of letters: some letters and their backs -/
def Sgn (l : List Nat) : Prop := Row l ∧ 0 < l.length ∧ l.length ≤ 52
theorem sgn_all : Sgn (lowL ++ lowL.map PyProof.Rows.up1) := ⟨lowL_row.app lowL_row.map_up, by decide, by decide⟩
theorem sgn_some {s : List Nat} (h : Row s) (h0 : 0 < s.length) (h1 : s.length ≤ 26) : Sgn (s ++ s.map PyProof.Rows.up1) :=
  ⟨h.app h.map_up, by simp only [List.length_append]; omega, by simp only [List.length_append, List.length_map]; omega⟩
/-- free: no character beside its back -/
def Free : List Nat → Prop
  | [] => True
  | [_] => True
  | a :: b :: r => b ≠ swp a ∧ Free (b :: r)
/-- a stack is free upward -/
def FreeS : List Nat → Prop
  | [] => True
  | [_] => True
  | a :: b :: r => b ≠ swp a ∧ FreeS (b :: r)
theorem push_free {s : List Nat} {c : Nat} (hs : FreeS s) : FreeS (push s c) := by
  cases s with
  | nil => trivial
  | cons t r =>
    rw [push_cons]; split
    · cases r with
      | nil => trivial
      | cons u v => exact hs.2
    · rename_i h; exact ⟨h, hs⟩
theorem foldl_free (l : List Nat) : ∀ {s : List Nat}, FreeS s → FreeS (l.foldl push s) := by
  induction l with
  | nil => intro s hs; exact hs
  | cons c l ih => intro s hs; exact ih (push_free hs)
theorem stk_free (l : List Nat) : FreeS (stk l) := foldl_free l trivial
/-- pushing a letter, then its back, changes nothing -/
theorem push_push {s : List Nat} {c : Nat} (hs : FreeS s) (hr : Row s) (hc : lett c = true) : push (push s c) (swp c) = s := by
  cases s with
  | nil => simp [push, swp_swp hc]
  | cons t r =>
    by_cases h : t = swp c
    · have e : push (t :: r) c = r := by rw [push_cons, if_pos h]
      rw [e, ← h]
      cases r with
      | nil => rfl
      | cons u v =>
        have : u ≠ swp t := hs.1
        rw [push_cons, if_neg this]
    · have e : push (t :: r) c = c :: t :: r := by rw [push_cons, if_neg h]
      rw [e]
      show (if c = swp (swp c) then t :: r else _) = _
      rw [if_pos (swp_swp hc).symm]
theorem push_push' {s : List Nat} {c : Nat} (hs : FreeS s) (hr : Row s) (hc : lett c = true) : push (push s (swp c)) c = s := by
  have := push_push (c := swp c) hs hr (swp_lett hc)
  rwa [swp_swp hc] at this
/-- a pair taken out leaves the same stack -/
theorem stk_pair {a b : List Nat} {c : Nat} (ha : Row a) (hc : lett c = true) : stk (a ++ c :: swp c :: b) = stk (a ++ b) := by
  have h := push_push (stk_free a) (stk_row ha) hc
  unfold stk at *
  rw [List.foldl_append, List.foldl_append, List.foldl_cons, List.foldl_cons, h]
theorem red_pair {a b : List Nat} {c : Nat} (ha : Row a) (hc : lett c = true) : red (a ++ c :: swp c :: b) = red (a ++ b) := by
  unfold red; rw [stk_pair ha hc]
/-- a free row on a stack that it does not begin to take down -/
theorem fold_free : ∀ (l s : List Nat), Free l → (∀ t c, s.head? = some t → l.head? = some c → t ≠ swp c) → (∀ c ∈ l, lett c = true) → l.foldl push s = l.reverse ++ s
  | [], s, _, _, _ => rfl
  | c :: l, s, hf, hh, hr => by
    have e : push s c = c :: s := by
      cases s with
      | nil => rfl
      | cons t r => rw [push_cons, if_neg (hh t c rfl rfl)]
    rw [List.foldl_cons, e, fold_free l (c :: s) ?_ ?_ fun x hx => hr x (List.mem_cons_of_mem _ hx)]
    · simp
    · cases l with
      | nil => trivial
      | cons d l => exact hf.2
    · intro t d ht hd
      cases l with
      | nil => cases hd
      | cons d' l =>
        have e1 : c = t := by simpa using ht
        have e2 : d' = d := by simpa using hd
        subst e1 e2
        intro e
        have := hf.1
        have h1 := hr c List.mem_cons_self
        have h2 := hr d' (List.mem_cons_of_mem _ List.mem_cons_self)
        exact this (by rw [e, swp_swp h2])
theorem red_free {l : List Nat} (hf : Free l) (hr : Row l) : red l = l := by
  unfold red stk
  rw [fold_free l [] hf (fun t c h => nomatch h) hr]; simp
theorem FreeS.snoc : ∀ {s : List Nat} {t c : Nat}, FreeS (s ++ [t]) → c ≠ swp t → FreeS (s ++ [t, c])
  | [], t, c, _, h => ⟨h, trivial⟩
  | [a], t, c, h, h2 => ⟨h.1, h2, trivial⟩
  | a :: b :: r, t, c, h, h2 => ⟨h.1, FreeS.snoc (s := b :: r) h.2 h2⟩
theorem free_snoc : ∀ {s : List Nat} {t c : Nat}, Free (s ++ [t]) → c ≠ swp t → Free (s ++ [t, c])
  | [], t, c, _, h => ⟨h, trivial⟩
  | [a], t, c, h, h2 => ⟨h.1, h2, trivial⟩
  | a :: b :: r, t, c, h, h2 => ⟨h.1, free_snoc (s := b :: r) h.2 h2⟩
theorem free_rev : ∀ {s : List Nat}, Row s → FreeS s → Free s.reverse
  | [], _, _ => trivial
  | [a], _, _ => trivial
  | a :: b :: r, hr, h => by
    have ih := free_rev (s := b :: r) hr.of_cons.2 h.2
    rw [List.reverse_cons] at ih
    rw [List.reverse_cons, List.reverse_cons, List.append_assoc]
    refine free_snoc ih ?_
    intro e
    exact h.1 (by rw [e, swp_swp hr.of_cons.2.of_cons.1])
theorem free_red {l : List Nat} (h : Row l) : Free (red l) := free_rev (stk_row h) (stk_free l)
theorem red_red {l : List Nat} (h : Row l) : red (red l) = red l := red_free (free_red h) h.red
theorem free_of : ∀ {w : List Nat}, (∀ k, k + 1 < w.length → w.getD (k + 1) 0 ≠ swp (w.getD k 0)) → Free w
  | [], _ => trivial
  | [_], _ => trivial
  | a :: b :: r, h => ⟨h 0 (by simp), free_of (w := b :: r) fun k hk => h (k + 1) (by simpa using hk)⟩
theorem split2 : ∀ {w : List Nat} {k : Nat}, k + 1 < w.length → w = w.take k ++ w.getD k 0 :: w.getD (k + 1) 0 :: w.drop (k + 2)
  | [], _, h => by simp at h
  | [_], _, h => by simp at h
  | a :: b :: r, 0, _ => by simp
  | a :: b :: r, k + 1, h => by
    have := split2 (w := b :: r) (k := k) (by simpa using h)
    conv => lhs; rw [this]
    simp
theorem red_nil : red [] = [] := rfl
theorem red_bak : ∀ (n : Nat) {w : List Nat}, w.length = n → Row w → red (w ++ bak w) = []
  | 0, w, h, _ => by rw [List.length_eq_zero_iff.mp h]; rfl
  | n + 1, w, h, hr => by
    obtain ⟨a, c, rfl⟩ : ∃ a c, w = a ++ [c] := by
      have hne : w ≠ [] := by intro e; subst e; simp at h
      exact ⟨w.dropLast, w.getLast hne, (List.dropLast_concat_getLast hne).symm⟩
    obtain ⟨ha, hc⟩ := hr.of_app
    have e : (a ++ [c]) ++ bak (a ++ [c]) = a ++ c :: swp c :: bak a := by simp [bak]
    rw [e, red_pair ha hc.of_cons.1]
    exact red_bak n (by simpa using h) ha
theorem red_self {w : List Nat} (h : Row w) : red (w ++ bak w) = [] := red_bak _ rfl h
theorem red_self' {w : List Nat} (h : Row w) : red (bak w ++ w) = [] := by
  have := red_self h.bak
  rwa [bak_bak h] at this
end NX
namespace NX
open PySem PySem.Spec PyProof.Rows L2
mutual
def plain : PyData → Bool
  | .none | .int _ | .str _ => true
  | .bool _ | .dict _ => false
  | .list xs | .tuple xs => plainAll xs
def plainAll : List PyData → Bool
  | [] => true
  | x :: xs => plain x && plainAll xs
end
mutual
theorem eqv_iff : ∀ d e : PyData, plain d = true → plain e = true → (PyData.eqv d e = true ↔ d = e)
  | .none, e, _, he => by cases e <;> simp_all [PyData.eqv, plain]
  | .int i, e, _, he => by cases e <;> simp_all [PyData.eqv, plain]
  | .str x, e, _, he => by cases e <;> simp_all [PyData.eqv, plain]
  | .bool b, e, hd, _ => by simp [plain] at hd
  | .dict b, e, hd, _ => by simp [plain] at hd
  | .list xs, e, hd, he => by
    cases e with
    | list ys =>
      have h := eqvAll_iff xs ys (by simpa [plain] using hd) (by simpa [plain] using he)
      simp only [PyData.eqv, PyData.list.injEq]; exact h
    | _ => simp_all [PyData.eqv, plain]
  | .tuple xs, e, hd, he => by
    cases e with
    | tuple ys =>
      have h := eqvAll_iff xs ys (by simpa [plain] using hd) (by simpa [plain] using he)
      simp only [PyData.eqv, PyData.tuple.injEq]; exact h
    | _ => simp_all [PyData.eqv, plain]
theorem eqvAll_iff : ∀ ds es : List PyData, plainAll ds = true → plainAll es = true → (PyData.eqvAll ds es = true ↔ ds = es)
  | [], [], _, _ => by simp [PyData.eqvAll]
  | [], _ :: _, _, _ => by simp [PyData.eqvAll]
  | _ :: _, [], _, _ => by simp [PyData.eqvAll]
  | d :: ds, e :: es, hd, he => by
    simp only [plainAll, Bool.and_eq_true] at hd he
    have h1 := eqv_iff d e hd.1 he.1
    have h2 := eqvAll_iff ds es hd.2 he.2
    simp only [PyData.eqvAll, Bool.and_eq_true, List.cons.injEq, h1, h2]
end
abbrev S (l : List Nat) : PyData := .str (mkS l)
section
variable {K : PySem.W.Frag} {H : Hp} {Q : VK}
theorem dp_all {vs : List V} {ds : List PyData} (h : DpAll K H vs ds) {p : Addr} (e : SqL K H p vs) : Dp K H (.ref p) (.list ds) := .lst e h
theorem dpAll_strs : ∀ ls : List (List Nat), DpAll K H (ls.map T) (ls.map S)
  | [] => .nil
  | l :: ls => .cons (.str _) (dpAll_strs ls)
theorem dpAll_ints : ∀ ns : List Int, DpAll K H (ns.map V.int) (ns.map PyData.int)
  | [] => .nil
  | n :: ns => .cons (.int _) (dpAll_ints ns)
/-- equal, or not, by one's own word -/
theorem r_eqD {d e : PyData} {x y : V} {c : Prop} [Decidable c] (h1 : Dp K H x d) (h2 : Dp K H y e) (s1 : SeqAt.shaped d = true) (s2 : SeqAt.shaped e = true) (p1 : plain d = true) (p2 : plain e = true) (hc : d = e ↔ c) (h : Q (.bl (decide c)) H) : rEqG K x y H Q := by
  refine .inr ⟨d, e, h1, h2, s1, s2, ?_⟩
  have := eqv_iff d e p1 p2
  rw [show PyData.eqv d e = decide c by rw [Bool.eq_iff_iff, this, hc]; simp]
  exact h
theorem r_neD {d e : PyData} {x y : V} {c : Prop} [Decidable c] (h1 : Dp K H x d) (h2 : Dp K H y e) (s1 : SeqAt.shaped d = true) (s2 : SeqAt.shaped e = true) (p1 : plain d = true) (p2 : plain e = true) (hc : d = e ↔ c) (h : Q (.bl (!decide c)) H) : rNeG K x y H Q := by
  refine .inr ⟨d, e, h1, h2, s1, s2, ?_⟩
  have := eqv_iff d e p1 p2
  rw [show PyData.eqv d e = decide c by rw [Bool.eq_iff_iff, this, hc]; simp]
  exact h
theorem strOk_mk {l : List Nat} (h : Asc l) : PyData.strOk (mkS l) = true := by
  unfold PyData.strOk
  rw [← Array.all_toList, List.all_eq_true]
  intro c hc
  have := h c hc
  exact decide_eq_true (by omega)
theorem lay_strs : ∀ {ls : List (List Nat)}, (∀ l ∈ ls, Asc l) → PyData.canLayAll0 (ls.map S) = true
  | [], _ => rfl
  | l :: ls, h => by
    show (PyData.canLay0 (S l) && PyData.canLayAll0 (ls.map S)) = true
    rw [lay_strs fun x hx => h x (List.mem_cons_of_mem _ hx), Bool.and_true]
    exact strOk_mk (h l List.mem_cons_self)
theorem depth_strs : ∀ ls : List (List Nat), PyData.depthAll (ls.map S) = 0
  | [] => rfl
  | l :: ls => by
    show max (PyData.depth (S l)) (PyData.depthAll (ls.map S)) = 0
    rw [depth_strs ls]; rfl
theorem plain_strs : ∀ ls : List (List Nat), plainAll (ls.map S) = true
  | [] => rfl
  | l :: ls => by
    show (plain (S l) && plainAll (ls.map S)) = true
    rw [plain_strs ls]; rfl
theorem strs_inj {as bs : List (List Nat)} : as.map S = bs.map S ↔ as = bs := by
  constructor
  · intro h
    induction as generalizing bs with
    | nil => cases bs with
      | nil => rfl
      | cons _ _ => simp at h
    | cons a as ih => cases bs with
      | nil => simp at h
      | cons b bs =>
        simp only [List.map_cons, List.cons.injEq] at h
        have e : mkS a = mkS b := by injection h.1
        rw [mkS_inj e, ih h.2]
  · intro h; rw [h]
theorem shaped_list {ds : List PyData} (h : PyData.canLayAll0 ds = true) (hd : PyData.depthAll ds ≤ 60) : SeqAt.shaped (.list ds) = true := by
  unfold SeqAt.shaped
  rw [Bool.and_eq_true]
  exact ⟨h, decide_eq_true (by show PyData.depthAll ds + 1 ≤ 64; omega)⟩
theorem shaped_tup {ds : List PyData} (h : PyData.canLayAll0 ds = true) (hd : PyData.depthAll ds ≤ 60) : SeqAt.shaped (.tuple ds) = true := by
  unfold SeqAt.shaped
  rw [Bool.and_eq_true]
  exact ⟨h, decide_eq_true (by show PyData.depthAll ds + 1 ≤ 64; omega)⟩
theorem shaped_strs {ls : List (List Nat)} (h : ∀ l ∈ ls, Asc l) : SeqAt.shaped (.list (ls.map S)) = true := shaped_list (lay_strs h) (by rw [depth_strs]; decide)
/-- lists of texts -/
theorem r_eqLs {p q : Addr} {as bs : List (List Nat)} (h1 : SqL K H p (as.map T)) (h2 : SqL K H q (bs.map T)) (a1 : ∀ l ∈ as, Asc l) (a2 : ∀ l ∈ bs, Asc l) (h : Q (.bl (decide (as = bs))) H) : rEqG K (.ref p) (.ref q) H Q :=
  r_eqD (dp_all (dpAll_strs as) h1) (dp_all (dpAll_strs bs) h2) (shaped_strs a1) (shaped_strs a2) (plain_strs as) (plain_strs bs) (by rw [PyData.list.injEq]; exact strs_inj) h
theorem r_neLs {p q : Addr} {as bs : List (List Nat)} (h1 : SqL K H p (as.map T)) (h2 : SqL K H q (bs.map T)) (a1 : ∀ l ∈ as, Asc l) (a2 : ∀ l ∈ bs, Asc l) (h : Q (.bl (!decide (as = bs))) H) : rNeG K (.ref p) (.ref q) H Q :=
  r_neD (dp_all (dpAll_strs as) h1) (dp_all (dpAll_strs bs) h2) (shaped_strs a1) (shaped_strs a2) (plain_strs as) (plain_strs bs) (by rw [PyData.list.injEq]; exact strs_inj) h
theorem asc_one {a : List Nat} (ha : Asc a) : ∀ l ∈ [a], Asc l := fun l h => by rw [List.mem_singleton.mp h]; exact ha
theorem asc_two {a b : List Nat} (ha : Asc a) (hb : Asc b) : ∀ l ∈ [a, b], Asc l := fun l h => by
  rcases List.mem_cons.mp h with e | h
  · rw [e]; exact ha
  · exact asc_one hb l h
theorem asc_nil : Asc [] := fun _ h => nomatch h
/-- tuples of texts -/
theorem dp_allT {vs : List V} {ds : List PyData} (h : DpAll K H vs ds) {p : Addr} (e : SqT K H p vs) : Dp K H (.ref p) (.tuple ds) := .tup e h
theorem r_eqTs {p q : Addr} {as bs : List (List Nat)} (h1 : SqT K H p (as.map T)) (h2 : SqT K H q (bs.map T)) (a1 : ∀ l ∈ as, Asc l) (a2 : ∀ l ∈ bs, Asc l) (h : Q (.bl (decide (as = bs))) H) : rEqG K (.ref p) (.ref q) H Q :=
  r_eqD (dp_allT (dpAll_strs as) h1) (dp_allT (dpAll_strs bs) h2) (shaped_tup (lay_strs a1) (by rw [depth_strs]; decide)) (shaped_tup (lay_strs a2) (by rw [depth_strs]; decide)) (plain_strs as) (plain_strs bs) (by rw [PyData.tuple.injEq]; exact strs_inj) h
theorem r_neTs {p q : Addr} {as bs : List (List Nat)} (h1 : SqT K H p (as.map T)) (h2 : SqT K H q (bs.map T)) (a1 : ∀ l ∈ as, Asc l) (a2 : ∀ l ∈ bs, Asc l) (h : Q (.bl (!decide (as = bs))) H) : rNeG K (.ref p) (.ref q) H Q :=
  r_neD (dp_allT (dpAll_strs as) h1) (dp_allT (dpAll_strs bs) h2) (shaped_tup (lay_strs a1) (by rw [depth_strs]; decide)) (shaped_tup (lay_strs a2) (by rw [depth_strs]; decide)) (plain_strs as) (plain_strs bs) (by rw [PyData.tuple.injEq]; exact strs_inj) h
/-- any list against the empty one -/
theorem r_neL0 {p q : Addr} {xs : List V} {ds : List PyData} (h1 : SqL K H p xs) (hd : DpAll K H xs ds) (s1 : SeqAt.shaped (.list ds) = true) (p1 : plainAll ds = true) (h2 : SqL K H q []) (h : Q (.bl (!decide (ds = []))) H) : rNeG K (.ref p) (.ref q) H Q :=
  r_neD (dp_all hd h1) (dp_all (vs := []) (ds := []) .nil h2) s1 (by rfl) p1 rfl (by rw [PyData.list.injEq]) h
theorem r_isiT {p : Addr} {xs : List V} (e : H p = some (.tup xs)) (h : Q (.bl true) H) : rIsiG K [.ref p, .ty "tuple"] H Q := .inl ⟨.ref p, .ty "tuple", _, _, true, rfl, .ty "tuple", .base (.tup e), by rfl, h⟩
theorem r_isiL {p : Addr} {xs : List V} (e : H p = some (.lst xs)) (h : Q (.bl true) H) : rIsiG K [.ref p, .ty "list"] H Q := .inl ⟨.ref p, .ty "list", _, _, true, rfl, .ty "list", .base (.lst e), by rfl, h⟩
theorem r_isiI {i : Int} (h : Q (.bl true) H) : rIsiG K [.int i, .ty "int"] H Q := .inl ⟨.int i, .ty "int", _, _, true, rfl, .ty "int", .base (.int _), by rfl, h⟩
theorem r_isiIb {i : Int} (h : Q (.bl false) H) : rIsiG K [.int i, .ty "bool"] H Q := .inl ⟨.int i, .ty "bool", _, _, false, rfl, .ty "bool", .base (.int _), by rfl, h⟩
theorem lay_ints : ∀ ns : List Int, PyData.canLayAll0 (ns.map PyData.int) = true
  | [] => rfl
  | n :: ns => by
    show (true && PyData.canLayAll0 (ns.map PyData.int)) = true
    rw [lay_ints ns]; rfl
theorem depth_ints : ∀ ns : List Int, PyData.depthAll (ns.map PyData.int) = 0
  | [] => rfl
  | n :: ns => by
    show max 0 (PyData.depthAll (ns.map PyData.int)) = 0
    rw [depth_ints ns]; rfl
theorem plain_ints : ∀ ns : List Int, plainAll (ns.map PyData.int) = true
  | [] => rfl
  | n :: ns => by
    show (true && plainAll (ns.map PyData.int)) = true
    rw [plain_ints ns]; rfl
theorem ints_inj {as bs : List Int} : as.map PyData.int = bs.map PyData.int ↔ as = bs := by
  constructor
  · intro h
    induction as generalizing bs with
    | nil => cases bs with
      | nil => rfl
      | cons _ _ => simp at h
    | cons a as ih => cases bs with
      | nil => simp at h
      | cons b bs =>
        simp only [List.map_cons, List.cons.injEq] at h
        have e : a = b := by injection h.1
        rw [e, ih h.2]
  · intro h; rw [h]
theorem r_eqLi {p q : Addr} {as bs : List Int} (h1 : SqL K H p (as.map V.int)) (h2 : SqL K H q (bs.map V.int)) (h : Q (.bl (decide (as = bs))) H) : rEqG K (.ref p) (.ref q) H Q :=
  r_eqD (dp_all (dpAll_ints as) h1) (dp_all (dpAll_ints bs) h2) (shaped_list (lay_ints as) (by rw [depth_ints]; decide)) (shaped_list (lay_ints bs) (by rw [depth_ints]; decide)) (plain_ints as) (plain_ints bs) (by rw [PyData.list.injEq]; exact ints_inj) h
theorem r_neLi {p q : Addr} {as bs : List Int} (h1 : SqL K H p (as.map V.int)) (h2 : SqL K H q (bs.map V.int)) (h : Q (.bl (!decide (as = bs))) H) : rNeG K (.ref p) (.ref q) H Q :=
  r_neD (dp_all (dpAll_ints as) h1) (dp_all (dpAll_ints bs) h2) (shaped_list (lay_ints as) (by rw [depth_ints]; decide)) (shaped_list (lay_ints bs) (by rw [depth_ints]; decide)) (plain_ints as) (plain_ints bs) (by rw [PyData.list.injEq]; exact ints_inj) h
theorem r_wipe {a b : L2.St} {vs : List Nat} {P : Prop} (e : wipe a vs = wipe b vs) (h : P) : wipe a vs = wipe b vs ∧ P := ⟨e, h⟩
theorem r_yes {σ : L2.St} {QB : Bool → Hp → Prop} (h : QB true H) : tYes σ H QB := h
theorem r_ifNT {A B : Prop} (h : B) : if (!true) = true then A else B := h
theorem r_ifNF {A B : Prop} (h : A) : if (!false) = true then A else B := h
theorem at_last {α : Type} {xs : List α} {v : α} (h : xs.getLast? = some v) : atI xs (-1) = some v := by
  obtain ⟨ys, rfl⟩ : ∃ ys, xs = ys ++ [v] := List.getLast?_eq_some_iff.mp h
  exact atI_last ys v
/-- the last of a stack that is held bottom first -/
theorem last_rev {s : List Nat} {t : Nat} {r : List Nat} (h : s = t :: r) : atI (s.reverse.map fun c => T [c]) (-1) = some (T [t]) := by
  apply at_last; rw [h]; simp
theorem pop_rev {s : List Nat} {t : Nat} {r : List Nat} (h : s = t :: r) : (s.reverse.map fun c => T [c])[(s.reverse.map fun c => T [c]).length - 1]? = some (T [t]) ∧ (s.reverse.map fun c => T [c]).dropLast = r.reverse.map fun c => T [c] := by
  subst h
  simp
theorem ones_T (l : List Nat) : (l.map fun c => T [c]) = (l.map fun c => [c]).map T := by rw [List.map_map]; rfl
theorem ones_flat (l : List Nat) : (l.map fun c => [c]).flatten = l := by
  induction l with
  | nil => rfl
  | cons a l ih => simp only [List.map_cons, List.flatten_cons, ih]; rfl
theorem ones_nil {l : List Nat} : (l.map fun c => [c]) = [] ↔ l = [] := by simp
theorem take_snoc {l : List Nat} {i : Nat} {c : Nat} (h : l[i]? = some c) : l.take (i + 1) = l.take i ++ [c] := by rw [List.take_add_one, h]; rfl
theorem at_nat {l : List Nat} {i : Int} (h0 : 0 ≤ i) (h : i < l.length) : atI l i = some (l.getD i.toNat 0) := by
  obtain ⟨k, rfl⟩ : ∃ k : Nat, i = k := ⟨i.toNat, by omega⟩
  have hk : k < l.length := by omega
  rw [Int.toNat_natCast]
  exact atI_nat (by rw [List.getD_eq_getElem?_getD, List.getElem?_eq_getElem hk]; rfl)
theorem at_neg {l : List Nat} {k : Nat} (h : k < l.length) : atI l (-1 - (k : Int)) = some (l.getD (l.length - 1 - k) 0) := by
  have e : ixN l.length (-1 - (k : Int)) = some (l.length - 1 - k) := by
    unfold ixN
    rw [if_neg (by omega), if_pos (by omega)]
    congr 1; omega
  unfold atI
  rw [e]
  show l[l.length - 1 - k]? = _
  rw [List.getD_eq_getElem?_getD, List.getElem?_eq_getElem (by omega)]; rfl
/-- the well at a: its numbers; n draws at most were made of the mixed ones -/
def Wl (H : Hp) (a : Addr) (n : Nat) : Prop := ∃ w0 w1 w2 : Int, H a = some (.lst [.int w0, .int w1, .int w2]) ∧ 0 ≤ w0 ∧ 0 ≤ w1 ∧ w1 < 2 ^ 130 ∧ 0 ≤ w2 ∧ w2 ≤ n
theorem Wl.same {H H' : Hp} {a : Addr} {n : Nat} (w : Wl H a n) (s : Same H H') : Wl H' a n := by
  obtain ⟨w0, w1, w2, e, r⟩ := w
  exact ⟨w0, w1, w2, s _ _ e, r⟩
theorem Wl.new {H : Hp} {a p : Addr} {n : Nat} {o : HO} (w : Wl H a n) (h : H p = none) : Wl (upd H p o) a n := w.same (Same.new1 h)
theorem Wl.mono {H : Hp} {a : Addr} {n m : Nat} (w : Wl H a n) (h : n ≤ m) : Wl H a m := by
  obtain ⟨w0, w1, w2, e, h0, h1, h2, h3, h4⟩ := w
  exact ⟨w0, w1, w2, e, h0, h1, h2, h3, by omega⟩
theorem Wl.ne {H : Hp} {a p : Addr} {n : Nat} (w : Wl H a n) (h : H p = none) : p ≠ a := by
  obtain ⟨w0, w1, w2, e, _⟩ := w
  exact (ne_of_none e h).symm
/-- a change of another object leaves the well -/
theorem Wl.put {H : Hp} {a p : Addr} {n : Nat} {o : HO} (w : Wl H a n) (h : p ≠ a) : Wl (upd H p o) a n := by
  obtain ⟨w0, w1, w2, e, r⟩ := w
  exact ⟨w0, w1, w2, by rw [upd_ne h.symm]; exact e, r⟩
theorem cut_from (l : List Nat) (j : Nat) : cutL l (some (j : Int)) none = l.drop j := by
  unfold cutL
  rw [HT.sIx_none, HT.sIx_nat]
  by_cases h : j ≤ l.length
  · rw [Nat.min_eq_left h, List.take_of_length_le (by rw [List.length_drop]; omega)]
  · rw [Nat.min_eq_right (by omega), List.drop_length, List.drop_of_length_le (by omega)]; simp
theorem cut_to (l : List Nat) (j : Nat) : cutL l none (some (j : Int)) = l.take j := by
  unfold cutL
  rw [HT.sIx_none, HT.sIx_nat, List.drop_zero, Nat.sub_zero]
  by_cases h : j ≤ l.length
  · rw [Nat.min_eq_left h]
  · rw [Nat.min_eq_right (by omega), List.take_length, List.take_of_length_le (by omega)]
theorem cut_mid (l : List Nat) (i j : Nat) : cutL l (some (i : Int)) (some (j : Int)) = (l.take j).drop i := by
  unfold cutL
  rw [HT.sIx_nat, HT.sIx_nat, List.drop_take]
  by_cases hj : j ≤ l.length
  · by_cases hi : i ≤ l.length
    · rw [Nat.min_eq_left hj, Nat.min_eq_left hi]
    · rw [Nat.min_eq_right (by omega : l.length ≤ i), List.drop_length, List.drop_of_length_le (by omega : l.length ≤ i)]; simp
  · rw [Nat.min_eq_right (by omega : l.length ≤ j)]
    by_cases hi : i ≤ l.length
    · rw [Nat.min_eq_left hi, List.take_of_length_le (by rw [List.length_drop]; omega), List.take_of_length_le (by rw [List.length_drop]; omega)]
    · rw [Nat.min_eq_right (by omega : l.length ≤ i), List.drop_length, List.drop_of_length_le (by omega : l.length ≤ i)]; simp
theorem fm_filter {α : Type} (p : Nat → Bool) (f : Nat → α) : ∀ l : List Nat, l.filterMap (fun k => if p k = true then some (f k) else none) = (l.filter p).map f
  | [] => rfl
  | a :: l => by
    have ih := fm_filter p f l
    cases h : p a with
    | true => rw [List.filterMap_cons, List.filter_cons, h]; simp [ih]
    | false => rw [List.filterMap_cons, List.filter_cons, h]; simp [ih]
theorem seq_new {K : PySem.W.Frag} {H H1 H2 : Hp} {a p : Addr} {xs : List V} (h : SqL K H a xs) (np : H p = none) (s : Same H H1) (k : Kp p H1 H2) : SqL K H2 a xs := by
  rcases h with (h | ⟨o, h⟩) | h
  · exact .inl (.inl (k _ _ (ne_of_none h np) (s _ _ h)))
  · exact .inl (.inr ⟨o, k _ _ (ne_of_none h np) (s _ _ h)⟩)
  · exact .inr h
theorem getD_some {l : List Nat} {i : Nat} (h : i < l.length) : l[i]? = some (l.getD i 0) := by
  rw [List.getD_eq_getElem?_getD, List.getElem?_eq_getElem h]; rfl
theorem getD_mem {l : List Nat} {i : Nat} (h : i < l.length) : l.getD i 0 ∈ l := List.mem_of_getElem? (getD_some h)
end
end NX
namespace NX
open PySem PySem.Spec PyProof.Rows L2
/-! ### the rules with the written part named -/
section
variable {X : Cx} {K : PySem.W.Frag} {a b e l o : Expr} {es rest : List Expr} {ta tb te tl to : TE} {t : TA} {pos apos cpos : Pos} {tg : Expr}
theorem op_addK (K : PySem.W.Frag) (hK : X.K = K := by rfl) : OpR X (binaryOp .Add) (rAddG K) := hK ▸ op_addG
theorem op_eqK (K : PySem.W.Frag) (hu : X.A.units + 64 < cLine) (hK : X.K = K := by rfl) : OpR X (compareOp .Eq) (rEqG K) := hK ▸ op_eqG hu
theorem op_neK (K : PySem.W.Frag) (hu : X.A.units + 64 < cLine) (hK : X.K = K := by rfl) : OpR X (compareOp .NotEq) (rNeG K) := hK ▸ op_neG hu
theorem op_inK (K : PySem.W.Frag) (hK : X.K = K := by rfl) : OpR X (compareOp .In) (rInG K) := hK ▸ op_inG
theorem op_notInK (K : PySem.W.Frag) (hK : X.K = K := by rfl) : OpR X (compareOp .NotIn) (rNotInG K) := hK ▸ op_notInG
theorem sl_K (K : PySem.W.Frag) (hK : X.K = K := by rfl) : SlR X (rSlG K) := hK ▸ sl_G
theorem ix_K (K : PySem.W.Frag) (hK : X.K = K := by rfl) : IxR X (rIx K) := hK ▸ ix_seq
theorem pe_revK (K : PySem.W.Frag) {k : Nat} {p1 p2 p3 : Pos} (he : PE X e te) (hK : X.K = K := by rfl) : PE X (.Subscript e (.Slice none none (some (.UnaryOp .USub (.Constant (.int 1) k p1) p2)) p3) pos) (tRevS K te) := hK ▸ pe_revG he
theorem call_lenK (K : PySem.W.Frag) (hK : X.K = K := by rfl) : CallR X (.builtin "len") (fun xs H Q => ∃ x n, xs = [x] ∧ LenV K x H n ∧ Q (.int n) H) := hK ▸ call_lenG
theorem call_isiK' (K : PySem.W.Frag) (hK : X.K = K := by rfl) : CallR X (.builtin "isinstance") (rIsiG K) := hK ▸ call_isiG
theorem cr_allK (K : PySem.W.Frag) (hc : X.calm = true) (hK : X.K = K := by rfl) : CallR X (.builtin "all") (rAll K) := hK ▸ cr_all hc
theorem cr_anyK (K : PySem.W.Frag) (hc : X.calm = true) (hK : X.K = K := by rfl) : CallR X (.builtin "any") (rAny K) := hK ▸ cr_any hc
theorem pi_K (K : PySem.W.Frag) (hl : PE X l tl) (hK : X.K = K := by rfl) : PI X tg l (iG K tl) := hK ▸ pi_G hl
theorem pe_andK (K : PySem.W.Frag) (ha : PE X a ta) (hb : PE X (.BoolOp .And (b :: rest) pos) tb) (hK : X.K = K := by rfl) : PE X (.BoolOp .And (a :: b :: rest) pos) (tAndT K ta tb) := hK ▸ pe_andT ha hb
theorem pe_orK (K : PySem.W.Frag) (ha : PE X a ta) (hb : PE X (.BoolOp .Or (b :: rest) pos) tb) (hK : X.K = K := by rfl) : PE X (.BoolOp .Or (a :: b :: rest) pos) (tOrT K ta tb) := hK ▸ pe_orT ha hb
theorem pe_notK (K : PySem.W.Frag) (ha : PE X a ta) (hK : X.K = K := by rfl) : PE X (.UnaryOp .Not a pos) (tNotT K ta) := hK ▸ pe_notT ha
def tTru (K : PySem.W.Frag) (ta : TE) : TT := fun σ H Q => ta σ H fun x H' => ∃ k, TruV K x H' k ∧ Q k H'
theorem pt_truK (K : PySem.W.Frag) (ha : PE X a ta) (he : ∀ whole, isTrue a X.env whole = (do let v ← whole; standAt a.pos; holding [v] (truthy v))) (hK : X.K = K := by rfl) : PT X a (tTru K ta) := hK ▸ pt_truth ha he
theorem r_tru {σ : L2.St} {H : Hp} {QB : Bool → Hp → Prop} (h : ta σ H fun x H' => ∃ k, TruV K x H' k ∧ QB k H') : tTru K ta σ H QB := h
theorem pe_joinK (K : PySem.W.Frag) (ho : PE X o to) (he : PE X e te) (hK : X.K = K := by rfl) (hs : starEach [e] X.env = [(false, eval e X.env)] := by rfl) (hbase : attributeBase o "join" X.env (eval o X.env) = eval o X.env := by rfl) (hline : (apos.endLine == pos.line) = true := by rfl) :
    PE X (.Call (.Attribute o "join" apos) [e] [] pos) (tM1 (rJoin K) to te) := hK ▸ pe_join ho he hs hbase hline
theorem pe_bmK (K : PySem.W.Frag) {T id : String} {name : Str} {r : V → List V → Hp → VK → Prop} (pa : PlainAttrs T) (slot : Slot T name id) (hty : typeOf (.builtin id) = pure (.type "method_descriptor")) (hm : MtR X id r) (ho : PE X o to) (ha : PA X (e :: es) t)
    (hK : X.K = K := by rfl) (hbase : attributeBase o name X.env (eval o X.env) = eval o X.env := by rfl)
    (hfew : ((backTo cpos (starEach (e :: es) X.env)).all (fun x => !x.1) && (backToKw cpos (keywordEach [] X.env)).all (fun x => x.1.isSome)
      && decide ((e :: es).length + ([] : List Keyword).length + (if ([] : List Keyword).isEmpty then 0 else 1) < 30)) = true := by rfl)
    (hline : (apos.endLine == cpos.line) = true := by rfl) (hs : starEach (e :: es) X.env = (false, eval e X.env) :: starEach es X.env := by rfl) (hplain : (backTo cpos (starEach es X.env)).any (·.1) = false := by rfl) :
    PE X (.Call (.Attribute o name apos) (e :: es) [] cpos) (tBM K T r to t) := hK ▸ pe_bm pa slot hty hm ho ha hbase hfew hline hs hplain
theorem pe_bm0K (K : PySem.W.Frag) {T id : String} {name : Str} {r : V → List V → Hp → VK → Prop} (pa : PlainAttrs T) (slot : Slot T name id) (hty : typeOf (.builtin id) = pure (.type "method_descriptor")) (hm : MtR X id r) (ho : PE X o to)
    (hK : X.K = K := by rfl) (hbase : attributeBase o name X.env (eval o X.env) = eval o X.env := by rfl) (hline : (apos.endLine == cpos.line) = true := by rfl) : PE X (.Call (.Attribute o name apos) [] [] cpos) (tBM0 K T r to) :=
  hK ▸ pe_bm0 pa slot hty hm ho hbase hline
theorem pg_tupK (K : PySem.W.Frag) {k : Nat} {t : TGs} {n : Nat} (hc : X.calm = true) (h : PGs X es t) (hK : X.K = K := by rfl)
    (hn : (assignEach es X.env).length = n := by rfl) (hst : (assignEach es X.env).findIdx? (·.1) = none := by rfl) : PG X (.Tuple es k pos) (gTup K n t) := hK ▸ pg_tup hc h hn hst
theorem pi_enumK (K : PySem.W.Frag) {ta : TA} {p pos tpos : Pos} {elts : List Expr} {kk : Nat} (hg : Gl X "enumerate") (hm : X.mg "enumerate" = none) (ha : PA X [e] ta) (hK : X.K = K := by rfl) (hs : starEach [e] X.env = [(false, eval e X.env)] := by rfl) :
    PI X (.Tuple elts kk tpos) (.Call (.Name "enumerate" p) [e] [] pos) (iEnum K ta) := hK ▸ pi_enum hg hm ha hs
end
end NX
namespace NX
open PySem PySem.Spec PyProof.Rows L2
section
variable {X : Cx}
/-- repr of what is no object -/
def rpV : V → Str
  | .non => "None"
  | .bl b => if b then "True" else "False"
  | .int i => toString i
  | .str x => reprText x
  | _ => ""
def rpOk : V → Prop
  | .non => True
  | .bl _ => True
  | .int i => i.natAbs.log2 < 1920
  | .str x => (reprText x).length ≤ sizeLine
  | _ => False
def rRepr : List V → Hp → VK → Prop := fun xs H Q => ∃ v, xs = [v] ∧ rpOk v ∧ Q (.str (rpV v)) H
theorem call_reprG : CallR X (.builtin "repr") rRepr := by
  intro pins s σ H xs us Q I r h
  obtain ⟨v, rfl, ok, q⟩ := h
  obtain ⟨u, rfl, rx⟩ := vals1 r
  cases v with
  | non => cases (show u = Value.none from rx); exact PySem.P.repr_of_none ⟨.str _, H, I.tok _, ⟨_, rfl⟩, q⟩
  | bl b => cases (show u = Value.bool b from rx); exact PySem.P.repr_of_bool ⟨.str _, H, I.tok _, ⟨_, rfl⟩, q⟩
  | int i => obtain ⟨t, rfl⟩ := rx; exact PySem.P.repr_of_int ok ⟨.str _, H, I.tok _, ⟨_, rfl⟩, q⟩
  | str x => obtain ⟨t, rfl⟩ := rx; exact PySem.P.repr_of_str (hsz := ok) ⟨.str _, H, I.tok _, ⟨_, rfl⟩, q⟩
  | _ => exact (show False from ok).elim
/-- is -/
def rIsG : R2 := fun x y H Q => (y = .non ∧ Q (.bl (decide (x = .non))) H) ∨ rIsB x y H Q
def rIsNotG : R2 := fun x y H Q => (y = .non ∧ Q (.bl (!decide (x = .non))) H) ∨ rNotB x y H Q
theorem op_isG : OpR X (compareOp .Is) rIsG := by
  intro pins s σ H x y v u Q I rx ry h
  rcases h with h | h
  · exact op_isN pins s σ H x y v u Q I rx ry h
  · exact op_isBl pins s σ H x y v u Q I rx ry h
theorem op_isNotG : OpR X (compareOp .IsNot) rIsNotG := by
  intro pins s σ H x y v u Q I rx ry h
  rcases h with h | h
  · exact op_notN pins s σ H x y v u Q I rx ry h
  · exact op_notBl pins s σ H x y v u Q I rx ry h
variable {K : PySem.W.Frag} {H : Hp} {Q : VK}
theorem r_repr {v : V} (ok : rpOk v) (h : Q (.str (rpV v)) H) : rRepr [v] H Q := ⟨v, rfl, ok, h⟩
theorem r_reprB {b : Bool} (h : Q (.str (rpV (.bl b))) H) : rRepr [.bl b] H Q := ⟨_, rfl, trivial, h⟩
theorem r_eqZZ {a : Str} (h : Q (.bl true) H) : rEqG K (.str a) (.str a) H Q := .inl ⟨rfl, by rw [decide_eq_true rfl]; exact h⟩
theorem r_neZZ {a : Str} (h : Q (.bl false) H) : rNeG K (.str a) (.str a) H Q := .inl ⟨rfl, by rw [decide_eq_true rfl]; exact h⟩
theorem r_isTT {b : Bool} (h : Q (.bl (decide (b = true))) H) : rIsG (.bl b) (.bl true) H Q := .inr ⟨b, true, rfl, rfl, h⟩
theorem r_isT1 (h : Q (.bl true) H) : rIsG (.bl true) (.bl true) H Q := .inr ⟨true, true, rfl, rfl, h⟩
theorem r_isT0 (h : Q (.bl false) H) : rIsG (.bl false) (.bl true) H Q := .inr ⟨false, true, rfl, rfl, h⟩
theorem r_isNN (h : Q (.bl true) H) : rIsG .non .non H Q := .inl ⟨rfl, by simpa using h⟩
theorem r_isSN {s : Str} (h : Q (.bl false) H) : rIsG (.str s) .non H Q := .inl ⟨rfl, by simpa using h⟩
theorem r_isRN {a : Addr} (h : Q (.bl false) H) : rIsG (.ref a) .non H Q := .inl ⟨rfl, by simpa using h⟩
theorem r_isnNN (h : Q (.bl false) H) : rIsNotG .non .non H Q := .inl ⟨rfl, by simpa using h⟩
theorem r_isnSN {s : Str} (h : Q (.bl true) H) : rIsNotG (.str s) .non H Q := .inl ⟨rfl, by simpa using h⟩
theorem r_isnRN {a : Addr} (h : Q (.bl true) H) : rIsNotG (.ref a) .non H Q := .inl ⟨rfl, by simpa using h⟩
end
end NX
namespace NX
/-! ### rows as a group -/
theorem stk_app (a b : List Nat) : stk (a ++ b) = b.foldl push (stk a) := by simp [stk]
theorem snoc_ind {P : List Nat → Prop} (h0 : P []) (h1 : ∀ a c, P a → P (a ++ [c])) (l : List Nat) : P l := by
  have : ∀ n (l : List Nat), l.length = n → P l := by
    intro n
    induction n with
    | zero => intro l h; rw [List.length_eq_zero_iff.mp h]; exact h0
    | succ n ih =>
      intro l h
      have hne : l ≠ [] := by intro e; subst e; simp at h
      rw [← List.dropLast_concat_getLast hne]
      exact h1 _ _ (ih _ (by simp [h]))
  exact this _ l rfl
theorem fold_red {s : List Nat} (hs : FreeS s) (hr : Row s) (b : List Nat) : Row b → b.foldl push s = (red b).foldl push s := by
  induction b using snoc_ind with
  | h0 => intro _; rfl
  | h1 b c ih =>
    intro hb
    obtain ⟨h1, h2⟩ := hb.of_app
    have hc : lett c = true := h2.of_cons.1
    have ih' := ih h1
    rw [List.foldl_append, ih']
    show push ((red b).foldl push s) c = _
    unfold red at *
    rw [stk_snoc]
    cases e : stk b with
    | nil => rfl
    | cons t r =>
      rw [push_cons]
      split
      · rename_i h
        rw [List.reverse_cons, List.foldl_append]
        show push (push _ t) c = _
        rw [h]
        have hrr : Row r := (e ▸ stk_row h1).of_cons.2
        exact push_push' (foldl_free _ hs) (foldl_row hrr.rev hr) hc
      · rw [List.reverse_cons (a := c), List.foldl_append]
        rfl
theorem red_app {a b : List Nat} (ha : Row a) (hb : Row b) : red (a ++ b) = red (red a ++ red b) := by
  have h1 : stk (red a) = stk a := by
    have := red_red ha
    unfold red at this ⊢
    exact List.reverse_inj.mp this
  unfold red
  rw [stk_app, fold_red (stk_free a) (stk_row ha) b hb]
  show _ = (stk (red a ++ red b)).reverse
  rw [stk_app, h1]
/-- freely alike -/
def Eqv (a b : List Nat) : Prop := Row a ∧ Row b ∧ red a = red b
theorem Eqv.refl {a : List Nat} (h : Row a) : Eqv a a := ⟨h, h, rfl⟩
theorem Eqv.symm {a b : List Nat} (h : Eqv a b) : Eqv b a := ⟨h.2.1, h.1, h.2.2.symm⟩
theorem Eqv.trans {a b c : List Nat} (h : Eqv a b) (g : Eqv b c) : Eqv a c := ⟨h.1, g.2.1, h.2.2.trans g.2.2⟩
theorem Eqv.app {a b c d : List Nat} (h : Eqv a b) (g : Eqv c d) : Eqv (a ++ c) (b ++ d) :=
  ⟨h.1.app g.1, h.2.1.app g.2.1, by rw [red_app h.1 g.1, red_app h.2.1 g.2.1, h.2.2, g.2.2]⟩
theorem Eqv.red {a : List Nat} (h : Row a) : Eqv (NX.red a) a := ⟨h.red, h, red_red h⟩
theorem Eqv.self {a : List Nat} (h : Row a) : Eqv (a ++ NX.bak a) [] := ⟨h.app h.bak, Row.nil, red_self h⟩
theorem Eqv.self' {a : List Nat} (h : Row a) : Eqv (NX.bak a ++ a) [] := ⟨h.bak.app h, Row.nil, red_self' h⟩
theorem Eqv.appL {b c : List Nat} (a : List Nat) (ha : Row a) (g : Eqv b c) : Eqv (a ++ b) (a ++ c) := (Eqv.refl ha).app g
theorem Eqv.appR {a b : List Nat} (c : List Nat) (hc : Row c) (g : Eqv a b) : Eqv (a ++ c) (b ++ c) := g.app (Eqv.refl hc)
theorem Eqv.cancelL {a b c : List Nat} (ha : Row a) (hb : Row b) (hc : Row c) (h : Eqv (a ++ b) (a ++ c)) : Eqv b c := by
  have h1 := h.appL (NX.bak a) ha.bak
  rw [← List.append_assoc, ← List.append_assoc] at h1
  have h2 : Eqv (NX.bak a ++ a ++ b) b := by simpa using (Eqv.self' ha).appR b hb
  have h3 : Eqv (NX.bak a ++ a ++ c) c := by simpa using (Eqv.self' ha).appR c hc
  exact h2.symm.trans (h1.trans h3)
theorem Eqv.cancelR {a b c : List Nat} (ha : Row a) (hb : Row b) (hc : Row c) (h : Eqv (b ++ a) (c ++ a)) : Eqv b c := by
  have h1 := h.appR (NX.bak a) ha.bak
  rw [List.append_assoc, List.append_assoc] at h1
  have h2 : Eqv (b ++ (a ++ NX.bak a)) b := by simpa using (Eqv.self ha).appL b hb
  have h3 : Eqv (c ++ (a ++ NX.bak a)) c := by simpa using (Eqv.self ha).appL c hc
  exact h2.symm.trans (h1.trans h3)
/-- a pair within -/
theorem Eqv.mid {a b c : List Nat} (ha : Row a) (hb : Row b) (hc : Row c) : Eqv (a ++ (NX.bak c ++ c) ++ b) (a ++ b) := by
  have := ((Eqv.self' hc).appL a ha).appR b hb
  simpa using this
theorem Eqv.mid' {a b c : List Nat} (ha : Row a) (hb : Row b) (hc : Row c) : Eqv (a ++ (c ++ NX.bak c) ++ b) (a ++ b) := by
  have := ((Eqv.self hc).appL a ha).appR b hb
  simpa using this
/-- backs of alike rows -/
theorem Eqv.bak {a b : List Nat} (h : Eqv a b) : Eqv (NX.bak a) (NX.bak b) := by
  obtain ⟨ha, hb, e⟩ := id h
  refine Eqv.cancelL ha ha.bak hb.bak ?_
  have h1 : Eqv (a ++ NX.bak b) (b ++ NX.bak b) := h.appR _ hb.bak
  exact (Eqv.self ha).trans ((Eqv.self hb).symm.trans h1.symm)
/-- rows that pass by one another -/
def Com (a b : List Nat) : Prop := Eqv (a ++ b) (b ++ a)
theorem Com.symm {a b : List Nat} (h : Com a b) : Com b a := Eqv.symm h
theorem Com.refl {a : List Nat} (h : Row a) : Com a a := Eqv.refl (h.app h)
theorem Com.nil {a : List Nat} (h : Row a) : Com a [] := by unfold Com; simpa using Eqv.refl h
theorem Com.app {a b c : List Nat} (ha : Row a) (hb : Row b) (hc : Row c) (h : Com a b) (g : Com a c) : Com a (b ++ c) := by
  have h1 : Eqv (a ++ b ++ c) (b ++ a ++ c) := Eqv.appR c hc h
  have h2 : Eqv (b ++ (a ++ c)) (b ++ (c ++ a)) := Eqv.appL b hb g
  simp only [List.append_assoc] at h1 h2
  unfold Com
  simp only [List.append_assoc]
  exact h1.trans h2
theorem Com.bak {a b : List Nat} (ha : Row a) (hb : Row b) (h : Com a b) : Com a (NX.bak b) := by
  -- b · (a · b⁻¹) = a = b · (b⁻¹ · a)
  unfold Com
  refine Eqv.cancelL hb (ha.app hb.bak) (hb.bak.app ha) ?_
  have h1 : Eqv (b ++ a ++ NX.bak b) (a ++ b ++ NX.bak b) := Eqv.appR _ hb.bak (Eqv.symm h)
  have h2 : Eqv (a ++ (b ++ NX.bak b)) (a ++ []) := Eqv.appL a ha (Eqv.self hb)
  have h3 : Eqv (b ++ NX.bak b ++ a) ([] ++ a) := Eqv.appR a ha (Eqv.self hb)
  simp only [List.append_assoc, List.append_nil, List.nil_append] at h1 h2 h3 ⊢
  exact h1.trans (h2.trans h3.symm)
theorem repL_succ (l : List Nat) (n : Nat) : repL l (n + 1) = l ++ repL l n := by simp [repL, List.replicate_succ]
theorem repL_zero (l : List Nat) : repL l 0 = [] := rfl
theorem Com.rep {a b : List Nat} (ha : Row a) (hb : Row b) (h : Com a b) : ∀ n, Com a (repL b n)
  | 0 => Com.nil ha
  | n + 1 => by rw [repL_succ]; exact Com.app ha hb (hb.rep n) h (Com.rep ha hb h n)
theorem Com.nil' {a : List Nat} (h : Row a) : Com [] a := (Com.nil h).symm
/-- within one lead -/
theorem Com.conj {a b c : List Nat} (ha : Row a) (hb : Row b) (hc : Row c) (h : Com a b) : Com (c ++ a ++ NX.bak c) (c ++ b ++ NX.bak c) := by
  have key : ∀ {x y : List Nat}, Row x → Row y → Eqv (c ++ x ++ NX.bak c ++ (c ++ y ++ NX.bak c)) (c ++ (x ++ y) ++ NX.bak c) := fun {x y} hx hy => by
    have := Eqv.mid (a := c ++ x) (b := y ++ NX.bak c) (c := c) (hc.app hx) (hy.app hc.bak) hc
    simp only [List.append_assoc] at this ⊢
    exact this
  refine (key ha hb).trans (Eqv.trans ?_ (key hb ha).symm)
  exact (Eqv.appL c hc h).appR _ hc.bak
theorem bak_repL (l : List Nat) : ∀ n, bak (repL l n) = repL (bak l) n
  | 0 => rfl
  | n + 1 => by
    rw [repL_succ, bak_app, bak_repL l n]
    have : ∀ m, repL (bak l) m ++ bak l = bak l ++ repL (bak l) m := by
      intro m
      induction m with
      | zero => simp [repL_zero]
      | succ m ih => rw [repL_succ, List.append_assoc, ih]
    rw [this, ← repL_succ]
/-- a power of i or of its back, within l -/
def PwrIn (i l v : List Nat) : Prop := ∃ u n, (u = i ∨ u = bak i) ∧ n ≤ 5 ∧ v = l ++ repL u n ++ bak l
theorem PwrIn.com {i l v w : List Nat} (hi : Row i) (hl : Row l) (h : PwrIn i l v) (g : PwrIn i l w) : red (v ++ w) = red (w ++ v) := by
  obtain ⟨u, n, hu, _, rfl⟩ := h
  obtain ⟨x, m, hx, _, rfl⟩ := g
  have ru : Row u := by rcases hu with e | e <;> subst e; exact hi; exact hi.bak
  have rx : Row x := by rcases hx with e | e <;> subst e; exact hi; exact hi.bak
  have c0 : Com u x := by
    have c1 : Com i i := Com.refl hi
    have c2 : Com i (bak i) := Com.bak hi hi c1
    rcases hu with e | e <;> rcases hx with e' | e' <;> subst e e'
    · exact c1
    · exact c2
    · exact c2.symm
    · exact Com.refl hi.bak
  have c1 : Com (repL u n) (repL x m) := (Com.rep rx ru (Com.symm (Com.rep ru rx c0 m) |> fun c => by
    exact (Com.symm c0)) n).symm |> fun c => by
      exact Com.rep (ru.rep n) rx c m
  exact (Com.conj (ru.rep n) (rx.rep m) hl c1).2.2
theorem PwrIn.row {i l v : List Nat} (hi : Row i) (hl : Row l) (h : PwrIn i l v) : Row v := by
  obtain ⟨u, n, hu, _, rfl⟩ := h
  have ru : Row u := by rcases hu with e | e <;> subst e; exact hi; exact hi.bak
  exact (hl.app (ru.rep n)).app hl.bak
theorem PwrIn.len {i l v : List Nat} (h : PwrIn i l v) (li : i.length ≤ 8) (ll : l.length ≤ 8) : v.length ≤ 56 := by
  obtain ⟨u, n, hu, hn, rfl⟩ := h
  have lu : u.length ≤ 8 := by rcases hu with e | e <;> subst e; exact li; rw [bak_len]; exact li
  have := Nat.mul_le_mul hn lu
  simp only [List.length_append, repL_len, bak_len]
  omega
end NX
namespace NX
/-! ### the core of a row -/
theorem getD_mem' {l : List Nat} {i : Nat} (h : i < l.length) : l.getD i 0 ∈ l := by
  rw [List.getD_eq_getElem?_getD, List.getElem?_eq_getElem h]; exact List.getElem_mem h
def cstep (l : List Nat) (k : Nat) : Prop := 2 * k + 1 < l.length ∧ l.getD k 0 = swp (l.getD (l.length - 1 - k) 0)
instance (l : List Nat) (k : Nat) : Decidable (cstep l k) := by unfold cstep; exact inferInstance
def csz (l : List Nat) : Nat → Nat → Nat
  | 0, k => k
  | f + 1, k => if cstep l k then csz l f (k + 1) else k
/-- how many characters at the ends face their backs -/
def csize (l : List Nat) : Nat := csz l l.length 0
theorem csz_spec (l : List Nat) : ∀ (f k : Nat), l.length ≤ f + k → (∀ j, j < k → cstep l j) → (∀ j, j < csz l f k → cstep l j) ∧ ¬ cstep l (csz l f k)
  | 0, k, hf, h => ⟨h, fun c => by have h1 : 2 * k + 1 < l.length := c.1; omega⟩
  | f + 1, k, hf, h => by
    unfold csz
    by_cases c : cstep l k
    · rw [if_pos c]
      refine csz_spec l f (k + 1) (by omega) fun j hj => ?_
      by_cases e : j = k
      · rw [e]; exact c
      · exact h j (by omega)
    · rw [if_neg c]; exact ⟨h, c⟩
theorem csize_spec (l : List Nat) : (∀ j, j < csize l → cstep l j) ∧ ¬ cstep l (csize l) := csz_spec l l.length 0 (by omega) fun j hj => absurd hj (by omega)
theorem csize_eq {l : List Nat} {k : Nat} (h : ∀ j, j < k → cstep l j) (h2 : ¬ cstep l k) : csize l = k := by
  obtain ⟨a, b⟩ := csize_spec l
  rcases Nat.lt_trichotomy (csize l) k with c | c | c
  · exact absurd (h _ c) b
  · exact c
  · exact absurd (a _ c) h2
theorem csize_le (l : List Nat) : 2 * csize l ≤ l.length := by
  by_cases h : csize l = 0
  · omega
  · have := ((csize_spec l).1 (csize l - 1) (by omega)).1
    omega
def lead (l : List Nat) : List Nat := l.take (csize l)
def ring (l : List Nat) : List Nat := (l.take (l.length - csize l)).drop (csize l)
theorem Row.lead {l : List Nat} (h : Row l) : Row (lead l) := h.take _
theorem Row.ring {l : List Nat} (h : Row l) : Row (ring l) := (h.take _).drop _
theorem lead_len (l : List Nat) : (lead l).length = csize l := by
  have := csize_le l
  unfold lead; rw [List.length_take]; omega
theorem ring_len (l : List Nat) : (ring l).length = l.length - 2 * csize l := by
  have := csize_le l
  unfold ring; rw [List.length_drop, List.length_take]; omega
theorem getD_take {l : List Nat} {n i : Nat} (h : i < n) : (l.take n).getD i 0 = l.getD i 0 := by
  rw [List.getD_eq_getElem?_getD, List.getD_eq_getElem?_getD, List.getElem?_take_of_lt h]
theorem getD_drop (l : List Nat) (n i : Nat) : (l.drop n).getD i 0 = l.getD (n + i) 0 := by
  rw [List.getD_eq_getElem?_getD, List.getD_eq_getElem?_getD, List.getElem?_drop]
theorem getD_bak {l : List Nat} {i : Nat} (h : i < l.length) : (bak l).getD i 0 = swp (l.getD (l.length - 1 - i) 0) := by
  unfold bak
  rw [List.getD_eq_getElem?_getD, List.getD_eq_getElem?_getD, List.getElem?_map, List.getElem?_reverse h, List.getElem?_eq_getElem (by omega)]
  rfl
theorem ext_getD {a b : List Nat} (hl : a.length = b.length) (h : ∀ i, i < a.length → a.getD i 0 = b.getD i 0) : a = b := by
  apply List.ext_getElem hl
  intro i h1 h2
  have := h i h1
  rw [List.getD_eq_getElem?_getD, List.getD_eq_getElem?_getD, List.getElem?_eq_getElem h1, List.getElem?_eq_getElem h2] at this
  exact this
/-- lead, ring and the back of lead are the row -/
theorem core_join {l : List Nat} (hr : Row l) : lead l ++ ring l ++ bak (lead l) = l := by
  have hc := csize_le l
  have e1 : l = l.take (csize l) ++ ((l.take (l.length - csize l)).drop (csize l) ++ l.drop (l.length - csize l)) := by
    conv => lhs; rw [← List.take_append_drop (l.length - csize l) l, ← List.take_append_drop (csize l) (l.take (l.length - csize l))]
    rw [List.take_take, Nat.min_eq_left (by omega), List.append_assoc]
  have e2 : bak (lead l) = l.drop (l.length - csize l) := by
    apply ext_getD
    · rw [bak_len, lead_len, List.length_drop]; omega
    · intro i hi
      rw [bak_len, lead_len] at hi
      rw [getD_bak (by rw [lead_len]; exact hi), lead_len, getD_drop]
      unfold lead
      rw [getD_take (by omega)]
      have h := ((csize_spec l).1 (csize l - 1 - i) (by omega)).2
      rw [h, swp_swp (hr _ (getD_mem' (by omega)))]
      congr 1; omega
  rw [e2]
  conv => rhs; rw [e1]
  rw [List.append_assoc]; rfl
theorem free_app_l : ∀ {a b : List Nat}, Free (a ++ b) → Free a
  | [], _, _ => trivial
  | [_], _, _ => trivial
  | a :: c :: r, b, h => ⟨h.1, free_app_l (a := c :: r) h.2⟩
theorem free_app_r : ∀ {a b : List Nat}, Free (a ++ b) → Free b
  | [], _, h => h
  | [a], [], _ => trivial
  | [a], _ :: _, h => h.2
  | a :: c :: r, b, h => free_app_r (a := c :: r) h.2
theorem Free.take {l : List Nat} (h : Free l) (n : Nat) : Free (l.take n) := by
  rw [← List.take_append_drop n l] at h; exact free_app_l h
theorem Free.drop {l : List Nat} (h : Free l) (n : Nat) : Free (l.drop n) := by
  rw [← List.take_append_drop n l] at h; exact free_app_r h
theorem free_at : ∀ {l : List Nat} {k : Nat}, Free l → k + 1 < l.length → l.getD (k + 1) 0 ≠ swp (l.getD k 0)
  | [], _, _, h => by simp at h
  | [_], _, _, h => by simp at h
  | a :: b :: r, 0, h, _ => h.1
  | a :: b :: r, k + 1, h, hk => free_at (l := b :: r) (k := k) h.2 (by simpa using hk)
/-- the ring of a free row is a ring row; it is empty for the empty row alone -/
theorem ring_pos {l : List Nat} (hr : Row l) (hf : Free l) (hn : l ≠ []) : 0 < (ring l).length := by
  rw [ring_len]
  have hc := csize_le l
  have hl : 0 < l.length := List.length_pos_iff.mpr hn
  by_cases h0 : csize l = 0
  · omega
  · have h := (csize_spec l).1 (csize l - 1) (by omega)
    by_cases e : l.length = 2 * csize l
    · have h2 := free_at (k := csize l - 1) hf (by omega)
      exfalso
      apply h2
      rw [h.2, swp_swp (hr _ (getD_mem' (by omega)))]
      congr 1; omega
    · omega
theorem getD_ring {l : List Nat} {i : Nat} (h : i < (ring l).length) : (ring l).getD i 0 = l.getD (csize l + i) 0 := by
  rw [ring_len] at h
  unfold ring
  rw [getD_drop, getD_take (by omega)]
theorem ring_ends {l : List Nat} (hr : Row l) (hf : Free l) (hn : 0 < (ring l).length) : (ring l).getD ((ring l).length - 1) 0 ≠ swp ((ring l).getD 0 0) := by
  have h2 := (csize_spec l).2
  have hc := csize_le l
  rw [getD_ring (by omega), getD_ring hn, Nat.add_zero]
  rw [ring_len] at hn ⊢
  intro e
  by_cases h1 : 2 * csize l + 1 < l.length
  · apply h2
    refine ⟨h1, ?_⟩
    have ee : csize l + (l.length - 2 * csize l - 1) = l.length - 1 - csize l := by omega
    rw [ee] at e
    rw [e, swp_swp (hr _ (getD_mem' (by omega)))]
  · have ee : csize l + (l.length - 2 * csize l - 1) = csize l := by omega
    rw [ee] at e
    exact swp_ne (hr _ (getD_mem' (by omega))) e.symm
end NX
namespace NX
open PySem PySem.Spec PyProof.Rows L2
section
variable {K : PySem.W.Frag} {σ : L2.St} {H : Hp} {Q : VK} {D : Ends}
/-- for i, x in enumerate(list) -/
def GoE (K : PySem.W.Frag) (R : It → Hp → Prop) (vs : List V) (H1 : Hp) : Prop := ∃ a xs, vs = [.ref a] ∧ SqL K H1 a xs ∧ R (Ite K a) H1
theorem r_iE {t : TA} {R : It → Hp → Prop} (h : t σ H (GoE K R)) : iEnum K t σ H R := h
theorem r_goE {R : It → Hp → Prop} {p : Addr} {xs : List V} (e : SqL K H p xs) (h : R (Ite K p) H) : GoE K R [.ref p] H := ⟨p, xs, rfl, e, h⟩
theorem for_enum {p : Addr} {xs : List V} {g : TG} {tb : TS} (Pv : Nat → L2.St → Hp → Prop) (h0 : Pv 0 σ H) (hg : ∀ i σ H, i ≤ xs.length → Pv i σ H → SqL K H p xs)
    (hs : ∀ i σ H q, i < xs.length → Pv i σ H → H q = none → g (.ref q) σ (upd H q (.tup [.int (i : Int), xs.getD i .non])) fun σ2 H2 => tb { D with nx := Pv (i + 1), ct := Pv (i + 1), bk := D.nx } σ2 H2)
    (hd : ∀ σ H, Pv xs.length σ H → D.nx σ H) : ForJ g tb D σ (Ite K p) H := by
  refine ⟨fun i m σ H => m = xs.length - i ∧ i ≤ xs.length ∧ Pv i σ H, ⟨_, rfl, Nat.zero_le _, h0⟩, ?_⟩
  rintro i m σ H ⟨rfl, hi, pv⟩
  have q := hg i σ H hi pv
  by_cases hlt : i < xs.length
  · refine .inr ⟨⟨xs, xs[i], q, by simp [hlt]⟩, Pv (i + 1), fun σ' H' p' => ⟨xs.length - (i + 1), by omega, rfl, hlt, p'⟩, fun x H' y => ?_⟩
    obtain ⟨T, z, ex, nT, eH, hz⟩ := y
    subst ex eH
    have e1 := hz xs q
    have e2 : z = xs.getD i .non := by rw [List.getD_eq_getElem?_getD, e1]; rfl
    rw [e2]
    exact hs i σ H T hlt pv nT
  · have e : i = xs.length := by omega
    subst e
    exact .inl ⟨⟨xs, q, Nat.le_refl _⟩, hd σ H pv⟩
theorem map_getD (ls : List (List Nat)) {i : Nat} (h : i < ls.length) : (ls.map T).getD i .non = T (ls.getD i []) := by
  rw [List.getD_eq_getElem?_getD, List.getD_eq_getElem?_getD, List.getElem?_map, List.getElem?_eq_getElem h]; rfl
theorem getD_memL {ls : List (List Nat)} {i : Nat} (h : i < ls.length) : ls.getD i [] ∈ ls := by
  rw [List.getD_eq_getElem?_getD, List.getElem?_eq_getElem h]; exact List.getElem_mem h
theorem flat_len {ls : List (List Nat)} {m : Nat} (h : ∀ l ∈ ls, l.length ≤ m) : ls.flatten.length ≤ ls.length * m := by
  induction ls with
  | nil => simp
  | cons a ls ih =>
    have h1 := h a List.mem_cons_self
    have h2 := ih fun l hl => h l (List.mem_cons_of_mem _ hl)
    rw [List.flatten_cons, List.length_append, List.length_cons, Nat.succ_mul]
    omega
theorem flat_mem_len {ls : List (List Nat)} {l : List Nat} (h : l ∈ ls) : l.length ≤ ls.flatten.length := by
  induction ls with
  | nil => exact nomatch h
  | cons a ls ih =>
    rw [List.flatten_cons, List.length_append]
    rcases List.mem_cons.mp h with e | h
    · rw [e]; omega
    · have := ih h; omega
theorem flat_row {ls : List (List Nat)} (h : ∀ l ∈ ls, Row l) : Row ls.flatten := fun c hc => by
  obtain ⟨l, hl, hc⟩ := List.mem_flatten.mp hc
  exact h l hl c hc
theorem rep_flat (l : List Nat) (n : Nat) : (List.replicate n (T l)) = (List.replicate n l).map T := by simp
theorem rep_flatV (v : V) (n : Nat) : (List.replicate n [v]).flatten = List.replicate n v := by
  induction n with
  | zero => rfl
  | succ n ih => rw [List.replicate_succ, List.flatten_cons, ih]; rfl
end
end NX
namespace NX
theorem flat_eqv {ls ms : List (List Nat)} : ls.length = ms.length → (∀ i, i < ls.length → Eqv (ls.getD i []) (ms.getD i [])) → Eqv ls.flatten ms.flatten := by
  induction ls generalizing ms with
  | nil => intro h _; cases ms with
    | nil => exact Eqv.refl Row.nil
    | cons _ _ => simp at h
  | cons a ls ih =>
    intro h1 h2
    cases ms with
    | nil => simp at h1
    | cons b ms =>
      rw [List.flatten_cons, List.flatten_cons]
      refine Eqv.app (h2 0 (by simp)) (ih (by simpa using h1) fun i hi => ?_)
      exact h2 (i + 1) (by simpa using hi)
theorem bak_flat (ls : List (List Nat)) : bak ls.flatten = (ls.reverse.map bak).flatten := by
  induction ls with
  | nil => rfl
  | cons a ls ih => rw [List.flatten_cons, bak_app, ih, List.reverse_cons, List.map_append, List.flatten_append]; simp
theorem red_bak_comm {l : List Nat} (h : Row l) : red (bak l) = bak (red l) := by
  have h1 : Eqv (bak l) (bak (red l)) := (Eqv.red h).symm.bak
  rw [h1.2.2]
  -- the back of a free row is free
  have hf : Free (bak (red l)) := by
    have hs := stk_free l
    have hr := stk_row h
    have : bak (red l) = (stk l).map swp := by unfold bak red; rw [List.reverse_reverse]
    rw [this]
    generalize stk l = s at hs hr
    clear h h1 this
    induction s with
    | nil => trivial
    | cons a s ih =>
      cases s with
      | nil => trivial
      | cons b s =>
        refine ⟨fun e => hs.1 ?_, ih hs.2 hr.of_cons.2⟩
        have e2 := congrArg swp e
        rw [swp_swp hr.of_cons.2.of_cons.1, swp_swp (swp_lett hr.of_cons.1)] at e2
        exact e2
  exact red_free hf h.red.bak
theorem rep_free {c : Nat} (h : lett c = true) : ∀ n, Free (List.replicate n c)
  | 0 => trivial
  | 1 => trivial
  | n + 2 => ⟨fun e => swp_ne h e.symm, rep_free h (n + 1)⟩
theorem rep_row {c : Nat} (h : lett c = true) (n : Nat) : Row (List.replicate n c) := fun x hx => by rw [(List.mem_replicate.mp hx).2]; exact h
theorem red_rep {c : Nat} (h : lett c = true) (n : Nat) : red (List.replicate n c) = List.replicate n c := red_free (rep_free h n) (rep_row h n)
theorem repL_one' (c n : Nat) : repL [c] n = List.replicate n c := by
  induction n with
  | zero => rfl
  | succ n ih => rw [repL_succ, ih]; rfl
theorem rep_rep (c n m : Nat) : (List.replicate m (List.replicate n c)).flatten = List.replicate (m * n) c := by
  induction m with
  | zero => simp
  | succ m ih => rw [List.replicate_succ, List.flatten_cons, ih, List.replicate_append_replicate, Nat.succ_mul, Nat.add_comm]
end NX
namespace NX
/-! ### rotations -/
def rot (l : List Nat) (i : Nat) : List Nat := l.drop i ++ l.take i
theorem rot_len (l : List Nat) (i : Nat) : (rot l i).length = l.length := by
  unfold rot; rw [List.length_append, List.length_drop, List.length_take]; omega
theorem rot_zero (l : List Nat) : rot l 0 = l := by simp [rot]
theorem rot_all (l : List Nat) : rot l l.length = l := by simp [rot]
theorem rot_rot (l : List Nat) {i j : Nat} (h : i + j ≤ l.length) : rot (rot l i) j = rot l (i + j) := by
  unfold rot
  rw [List.drop_append_of_le_length (by rw [List.length_drop]; omega), List.take_append_of_le_length (by rw [List.length_drop]; omega), List.drop_drop, List.append_assoc]
  congr 1
  rw [List.take_add]
theorem rot_mul {l : List Nat} {p : Nat} (h : rot l p = l) : ∀ q, q * p ≤ l.length → rot l (q * p) = l
  | 0, _ => by rw [Nat.zero_mul]; exact rot_zero l
  | q + 1, hq => by
    rw [Nat.succ_mul] at hq ⊢
    rw [← rot_rot l hq, rot_mul h q (by omega), h]
/-- the first turn that gives the row back -/
def IsPer (l : List Nat) (p : Nat) : Prop := 0 < p ∧ p ≤ l.length ∧ rot l p = l ∧ ∀ k, 0 < k → k < p → rot l k ≠ l
theorem isPer_exists {l : List Nat} (h : 0 < l.length) : ∃ p, IsPer l p := by
  have key : ∀ n, n ≤ l.length → (∃ p, IsPer l p) ∨ ∀ k, 0 < k → k ≤ n → rot l k ≠ l := by
    intro n
    induction n with
    | zero => intro _; exact .inr fun k h1 h2 => by omega
    | succ n ih =>
      intro hn
      rcases ih (by omega) with h1 | h1
      · exact .inl h1
      · by_cases e : rot l (n + 1) = l
        · exact .inl ⟨n + 1, by omega, hn, e, fun k a b => h1 k a (by omega)⟩
        · refine .inr fun k a b => ?_
          by_cases e2 : k = n + 1
          · rw [e2]; exact e
          · exact h1 k a (by omega)
  rcases key l.length (Nat.le_refl _) with h1 | h1
  · exact h1
  · exact absurd (rot_all l) (h1 _ h (Nat.le_refl _))
theorem IsPer.dvd {l : List Nat} {p d : Nat} (h : IsPer l p) (hd : d ≤ l.length) (e : rot l d = l) : p ∣ d := by
  obtain ⟨h0, h1, h2, h3⟩ := h
  have hdm := Nat.div_add_mod d p
  have hm := Nat.mod_lt d h0
  have hq : (d / p) * p ≤ l.length := by rw [Nat.mul_comm]; omega
  have e2 := rot_mul h2 (d / p) hq
  have e3 : rot l (d % p) = l := by
    have := rot_rot l (i := d / p * p) (j := d % p) (by rw [Nat.mul_comm]; omega)
    rw [e2] at this
    rw [this, Nat.mul_comm, hdm, e]
  have h4 : ¬ 0 < d % p := fun h5 => h3 _ h5 hm e3
  exact Nat.dvd_of_mod_eq_zero (by omega)
theorem IsPer.dvd_len {l : List Nat} {p : Nat} (h : IsPer l p) : p ∣ l.length := h.dvd (Nat.le_refl _) (rot_all l)
theorem IsPer.uniq {l : List Nat} {p q : Nat} (h : IsPer l p) (g : IsPer l q) : p = q := Nat.dvd_antisymm (h.dvd g.2.1 g.2.2.1) (g.dvd h.2.1 h.2.2.1)
theorem repL_take {l : List Nat} {p : Nat} (h : rot l p = l) : ∀ k, k * p ≤ l.length → l.take (k * p) = repL (l.take p) k
  | 0, _ => by simp [repL_zero]
  | k + 1, hk => by
    rw [Nat.succ_mul] at hk
    have e1 : l.take ((k + 1) * p) = l.take p ++ (l.drop p).take (k * p) := by rw [Nat.succ_mul, Nat.add_comm, List.take_add]
    have e2 : (l.drop p).take (k * p) = l.take (k * p) := by
      conv => rhs; rw [← h]
      unfold rot
      rw [List.take_append_of_le_length (by rw [List.length_drop]; omega)]
    rw [e1, e2, repL_take h k (by omega), repL_succ]
theorem IsPer.rep {l : List Nat} {p : Nat} (h : IsPer l p) : repL (l.take p) (l.length / p) = l := by
  have e := Nat.div_mul_cancel h.dvd_len
  rw [← repL_take h.2.2.1 _ (by rw [e]; exact Nat.le_refl _), e, List.take_length]
theorem repL_snoc (l : List Nat) : ∀ n, repL l n ++ l = repL l (n + 1)
  | 0 => by simp [repL_succ, repL_zero]
  | n + 1 => by rw [repL_succ, List.append_assoc, repL_snoc l n, ← repL_succ]
theorem rot_repL (l : List Nat) (n : Nat) : rot (repL l n) l.length = repL l n := by
  cases n with
  | zero => rw [repL_zero]; unfold rot; simp
  | succ n =>
    conv => rhs; rw [← repL_snoc]
    unfold rot
    rw [repL_succ, List.drop_left, List.take_left]
theorem repL_mul (l : List Nat) (n : Nat) : ∀ m, repL (repL l n) m = repL l (n * m)
  | 0 => by rw [Nat.mul_zero, repL_zero, repL_zero]
  | m + 1 => by
    rw [repL_succ, repL_mul l n m, Nat.mul_succ]
    unfold repL
    rw [← List.flatten_append, List.replicate_append_replicate, Nat.add_comm]
theorem repL_len' (l : List Nat) (n : Nat) : (repL l n).length = n * l.length := repL_len l n
/-- rows turned around -/
def Turn (R S : List Nat) : Prop := ∃ A B, R = A ++ B ∧ S = B ++ A
theorem Turn.refl (R : List Nat) : Turn R R := ⟨[], R, rfl, by simp⟩
theorem Turn.symm {R S : List Nat} (h : Turn R S) : Turn S R := by obtain ⟨A, B, h1, h2⟩ := h; exact ⟨B, A, h2, h1⟩
theorem Turn.trans {R S U : List Nat} (h : Turn R S) (g : Turn S U) : Turn R U := by
  obtain ⟨A, B, rfl, rfl⟩ := h
  obtain ⟨C, D, e, rfl⟩ := g
  rcases List.append_eq_append_iff.mp e with ⟨E, rfl, rfl⟩ | ⟨E, rfl, rfl⟩
  · exact ⟨E, D ++ B, by simp, by simp⟩
  · exact ⟨A ++ C, E, by simp, by simp⟩
theorem Turn.len {R S : List Nat} (h : Turn R S) : R.length = S.length := by obtain ⟨A, B, rfl, rfl⟩ := h; simp [Nat.add_comm]
theorem Turn.rot {R S : List Nat} (h : Turn R S) : ∃ i, i ≤ R.length ∧ S = NX.rot R i := by
  obtain ⟨A, B, rfl, rfl⟩ := h
  refine ⟨A.length, by simp, ?_⟩
  unfold NX.rot
  rw [List.drop_left, List.take_left]
theorem turn_rot (R : List Nat) (i : Nat) : Turn R (rot R i) := ⟨R.take i, R.drop i, (List.take_append_drop i R).symm, rfl⟩
theorem Turn.row {R S : List Nat} (h : Turn R S) (hr : Row R) : Row S := by
  obtain ⟨A, B, rfl, rfl⟩ := h; exact hr.of_app.2.app hr.of_app.1
/-- the turns of a row that gives itself back by d -/
theorem Turn.back {R S : List Nat} (h : Turn R S) {d : Nat} (hd : d ≤ R.length) (e : NX.rot R d = R) : NX.rot S d = S := by
  obtain ⟨i, hi, rfl⟩ := h.rot
  by_cases c : i + d ≤ R.length
  · rw [rot_rot R c, Nat.add_comm, ← rot_rot R (by omega), e]
  · have e1 : i + (R.length - i) = R.length := by omega
    have e2 : NX.rot (NX.rot R i) d = NX.rot (NX.rot (NX.rot R i) (R.length - i)) (d - (R.length - i)) := by
      rw [rot_rot (NX.rot R i) (by rw [rot_len]; omega)]
      congr 1; omega
    rw [e2, rot_rot R (by omega), e1, rot_all]
    -- rot R (d + i - n) = rot R i
    have e3 : NX.rot (NX.rot R d) (R.length - d) = R := by rw [rot_rot R (by omega), show d + (R.length - d) = R.length by omega, rot_all]
    rw [e] at e3
    have e4 : NX.rot R (d - (R.length - i)) = NX.rot (NX.rot R (R.length - d)) (d - (R.length - i)) := by rw [e3]
    rw [e4, rot_rot R (by omega)]
    congr 1; omega
theorem Turn.per {R S : List Nat} (h : Turn R S) {p : Nat} (hp : IsPer R p) : IsPer S p :=
  ⟨hp.1, by rw [← h.len]; exact hp.2.1, h.back hp.2.1 hp.2.2.1, fun k a b c => hp.2.2.2 k a b (h.symm.back (by have := h.len; have := hp.2.1; omega) c)⟩
/-! ### ring rows -/
theorem free_glue : ∀ {a b c : List Nat}, Free (a ++ b) → Free (b ++ c) → b ≠ [] → Free (a ++ (b ++ c))
  | [], _, _, _, h, _ => h
  | [x], [], _, _, _, hb => absurd rfl hb
  | [x], y :: b, c, h1, h2, _ => ⟨h1.1, h2⟩
  | x :: z :: a, b, c, h1, h2, hb => ⟨h1.1, free_glue (a := z :: a) h1.2 h2 hb⟩
theorem free_join : ∀ {a b : List Nat} {c d : Nat}, Free (a ++ [c]) → Free (d :: b) → d ≠ swp c → Free (a ++ [c] ++ d :: b) := fun {a b c d} h1 h2 h3 => by
  rw [List.append_assoc]
  exact free_glue (a := a) (b := [c]) (c := d :: b) h1 ⟨h3, h2⟩ (by simp)
def Cy (R : List Nat) : Prop := Row R ∧ Free (R ++ R)
theorem Cy.free {R : List Nat} (h : Cy R) : Free R := free_app_l h.2
theorem cy_nil : Cy [] := ⟨Row.nil, trivial⟩
theorem Cy.turn {R S : List Nat} (h : Cy R) (t : Turn R S) : Cy S := by
  refine ⟨t.row h.1, ?_⟩
  obtain ⟨A, B, rfl, rfl⟩ := t
  by_cases c : A ++ B = []
  · obtain ⟨rfl, rfl⟩ := List.append_eq_nil_iff.mp c; trivial
  · have h3 := free_glue h.2 h.2 c
    have : (A ++ B) ++ ((A ++ B) ++ (A ++ B)) = A ++ ((B ++ A ++ (B ++ A)) ++ B) := by simp
    rw [this] at h3
    exact free_app_l (free_app_r h3)
theorem cy_of {R : List Nat} (hr : Row R) (hf : Free R) (h : 0 < R.length → R.getD (R.length - 1) 0 ≠ swp (R.getD 0 0)) : Cy R := by
  refine ⟨hr, ?_⟩
  cases hR : R with
  | nil => trivial
  | cons d b =>
    have hne : R ≠ [] := by rw [hR]; simp
    obtain ⟨a, c, e⟩ : ∃ a c, R = a ++ [c] := ⟨R.dropLast, R.getLast hne, (List.dropLast_concat_getLast hne).symm⟩
    have h0 : 0 < R.length := by rw [hR]; simp
    have h1 := h h0
    have e1 : R.getD (R.length - 1) 0 = c := by rw [e]; simp
    have e2 : R.getD 0 0 = d := by rw [hR]; rfl
    rw [e1, e2] at h1
    rw [← hR]
    conv => rhs; lhs; rw [e]
    conv => rhs; rhs; rw [hR]
    refine free_join (by rw [← e]; exact hf) (by rw [← hR]; exact hf) ?_
    intro e3
    apply h1
    rw [e3, swp_swp (hr c (by rw [e]; simp))]
theorem cy_ring {f : List Nat} (hr : Row f) (hf : Free f) : Cy (ring f) :=
  cy_of hr.ring ((hf.take _).drop _) fun h => ring_ends hr hf h
theorem free_bak {l : List Nat} (hr : Row l) (hf : Free l) : Free (bak l) := by
  have h := red_bak_comm hr
  rw [red_free hf hr] at h
  rw [← h]; exact free_red hr.bak
/-- rows alike up to a lead: their ring rows are turns of one another -/
theorem conj : ∀ (n : Nat) (x R S : List Nat), x.length = n → Row x → Free x → Cy R → Cy S → Eqv (x ++ R ++ bak x) S → Turn R S
  | 0, x, R, S, hn, _, _, hR, hS, h => by
    rw [List.length_eq_zero_iff.mp hn] at h
    have e := h.2.2
    rw [show bak [] = [] from rfl, List.append_nil, List.nil_append, red_free hR.free hR.1, red_free hS.free hS.1] at e
    rw [e]; exact Turn.refl _
  | n + 1, x, R, S, hn, hx, fx, hR, hS, h => by
    have hne : x ≠ [] := by intro e; subst e; simp at hn
    obtain ⟨y, c, rfl⟩ : ∃ y c, x = y ++ [c] := ⟨x.dropLast, x.getLast hne, (List.dropLast_concat_getLast hne).symm⟩
    have hy : Row y := hx.of_app.1
    have hc : lett c = true := hx.of_app.2.of_cons.1
    have hcr : Row [c] := Row.one hc
    have hsr : Row [swp c] := Row.one (swp_lett hc)
    have hny : y.length = n := by simpa using hn
    have eb : bak (y ++ [c]) = [swp c] ++ bak y := by simp [bak]
    have fy : Free y := free_app_l fx
    have pr : ∀ {a b : List Nat}, Row a → Row b → Eqv (a ++ ([c] ++ [swp c]) ++ b) (a ++ b) := fun {a b} ha hb => Eqv.mid' (c := [c]) ha hb hcr
    have pr' : ∀ {a b : List Nat}, Row a → Row b → Eqv (a ++ ([swp c] ++ [c]) ++ b) (a ++ b) := fun {a b} ha hb => by
      have := Eqv.mid' (c := [swp c]) ha hb hsr
      rw [show bak [swp c] = [c] by simp [bak, swp_swp hc]] at this
      exact this
    by_cases hR0 : R = []
    · subst hR0
      have h1 : Eqv (y ++ [c] ++ [] ++ bak (y ++ [c])) [] := by rw [List.append_nil]; exact Eqv.self hx
      have e := (h1.symm.trans h).2.2
      rw [red_nil, red_free hS.free hS.1] at e
      rw [← e]; exact Turn.refl _
    obtain ⟨d, R', eR⟩ : ∃ d R', R = d :: R' := by
      cases R with
      | nil => exact absurd rfl hR0
      | cons d R' => exact ⟨d, R', rfl⟩
    obtain ⟨R2, z, eR2⟩ : ∃ R2 z, R = R2 ++ [z] := ⟨R.dropLast, R.getLast hR0, (List.dropLast_concat_getLast hR0).symm⟩
    by_cases c1 : d = swp c
    · have t : Turn R (R' ++ [d]) := ⟨[d], R', by rw [eR]; rfl, rfl⟩
      refine t.trans (conj n y (R' ++ [d]) S hny hy fy (hR.turn t) hS ?_)
      have hR' : Row R' := (eR ▸ hR.1).of_cons.2
      have := pr (a := y) (b := R' ++ ([swp c] ++ bak y)) hy (hR'.app (hsr.app hy.bak))
      rw [eb, eR, c1] at h
      rw [c1]
      simp only [List.append_assoc, List.cons_append, List.nil_append] at this h ⊢
      exact this.symm.trans h
    by_cases c2 : z = c
    · have t : Turn R ([z] ++ R2) := ⟨R2, [z], eR2, rfl⟩
      refine t.trans (conj n y ([z] ++ R2) S hny hy fy (hR.turn t) hS ?_)
      have hR' : Row R2 := (eR2 ▸ hR.1).of_app.1
      have := pr (a := y ++ ([c] ++ R2)) (b := bak y) (hy.app (hcr.app hR')) hy.bak
      rw [eb, eR2, c2] at h
      rw [c2]
      simp only [List.append_assoc, List.cons_append, List.nil_append] at this h ⊢
      exact this.symm.trans h
    -- the whole is free
    exfalso
    have hz : lett z = true := hR.1 z (by rw [eR2]; simp)
    have f1 : Free (y ++ [c] ++ R) := by rw [eR]; exact free_join fx (eR ▸ hR.free) c1
    have fb := free_bak hx fx
    have f2 : Free (R ++ bak (y ++ [c])) := by
      rw [eb] at fb ⊢
      rw [eR2]
      refine free_join (d := swp c) (by rw [← eR2]; exact hR.free) fb ?_
      intro e
      have := congrArg swp e
      rw [swp_swp hc, swp_swp hz] at this
      exact c2 this.symm
    have f3 : Free (y ++ [c] ++ (R ++ bak (y ++ [c]))) := free_glue f1 f2 hR0
    have e := h.2.2
    rw [List.append_assoc, red_free f3 (hx.app (hR.1.app hx.bak)), red_free hS.free hS.1] at e
    have h2 := hS.2
    rw [← e] at h2
    obtain ⟨a, x', ex⟩ : ∃ a x', y ++ [c] = a :: x' := by
      cases hh : y ++ [c] with
      | nil => exact absurd hh hne
      | cons a x' => exact ⟨a, x', rfl⟩
    rw [ex] at h2 hx
    have ha : lett a = true := hx.of_cons.1
    have e5 : bak (a :: x') = bak x' ++ [swp a] := by simp [bak]
    rw [e5] at h2
    have e6 : a :: x' ++ (R ++ (bak x' ++ [swp a])) ++ (a :: x' ++ (R ++ (bak x' ++ [swp a]))) = (a :: x' ++ (R ++ bak x')) ++ (swp a :: a :: (x' ++ (R ++ (bak x' ++ [swp a])))) := by simp
    rw [e6] at h2
    have h7 := (free_app_r h2).1
    exact h7 (swp_swp ha).symm
theorem conj' {x R S : List Nat} (hx : Row x) (hR : Cy R) (hS : Cy S) (h : Eqv (x ++ R ++ bak x) S) : Turn R S := by
  refine conj _ (red x) R S rfl hx.red (free_red hx) hR hS (Eqv.trans ?_ h)
  have h1 := Eqv.red hx
  exact (h1.appR R hR.1).app h1.bak
end NX
namespace NX
open PySem PySem.Spec PyProof.Rows L2
open Builtin Builtin.Str
/-! ### a text within a text -/
def AtL (l m : List Nat) (i : Nat) : Prop := i + m.length ≤ l.length ∧ (l.drop i).take m.length = m
theorem at_mkS (l m : List Nat) (i : Nat) : StrLaws.At (mkS l) (mkS m) (mkS l).length i ↔ AtL l m i := by
  unfold StrLaws.At AtL
  rw [StrLaws.subAt_eq, mkS_len, mkS_len, beq_iff_eq]; rfl
theorem find_mk (l m : List Nat) : (Txt.find (mkS l) (mkS m) = -1 ∧ ∀ i, ¬ AtL l m i) ∨ ∃ i : Nat, Txt.find (mkS l) (mkS m) = (i : Int) ∧ AtL l m i ∧ ∀ k, k < i → ¬ AtL l m k := by
  rcases find_whole (mkS l) (mkS m) with ⟨h, g⟩ | ⟨i, h, g, f⟩
  · exact .inl ⟨h, fun i hi => g i ((at_mkS l m i).mpr hi)⟩
  · exact .inr ⟨i, h, (at_mkS l m i).mp g, fun k hk hi => f k hk ((at_mkS l m k).mpr hi)⟩
theorem subS_mk (l m : List Nat) : subS (mkS l) (mkS m) = true ↔ ∃ i, AtL l m i := by
  unfold subS
  rw [StrLaws.found_iff]
  exact ⟨fun ⟨i, h⟩ => ⟨i, (at_mkS l m i).mp h⟩, fun ⟨i, h⟩ => ⟨i, (at_mkS l m i).mpr h⟩⟩
theorem range1_split {n a : Nat} {pre post : List Nat} (h : List.range' 1 n = pre ++ a :: post) : ∀ k, 0 < k → k < a → k ∈ pre := by
  intro k hk0 hk
  have hL : n = pre.length + (post.length + 1) := by
    have := congrArg List.length h
    simpa using this
  have hlen : 1 + pre.length = a := by
    have h1 : (List.range' 1 n)[pre.length]? = some a := by rw [h]; simp
    rw [List.getElem?_range' (by omega)] at h1
    have := Option.some.inj h1
    omega
  have h2 : (List.range' 1 n)[k - 1]? = pre[k - 1]? := by rw [h, List.getElem?_append_left (by omega)]
  rw [List.getElem?_range' (by omega)] at h2
  have h3 : pre[k - 1]? = some k := by rw [← h2]; congr 1; omega
  exact List.mem_of_getElem? h3
theorem indexFrom_mk {l m : List Nat} {p : Nat} (h0 : 0 < p) (hp : AtL l m p) (hn : ∀ k, 0 < k → k < p → ¬ AtL l m k) : Txt.indexFrom (mkS l) (mkS m) 1 = some p := by
  unfold Txt.indexFrom
  have e1 : fromIndex (mkS l).length 1 = 1 := by unfold fromIndex; rw [if_neg (by omega)]; rfl
  rw [e1, StrLaws.occ_eq]
  have hl : p < 1 + ((mkS l).length + 1 - 1) := by have := hp.1; rw [mkS_len]; omega
  rcases StrLaws.occ_first (mkS l) (mkS m) (mkS l).length 1 (Nat.le_refl 1) (List.range' 1 ((mkS l).length + 1 - 1)) 1 (fun i hi => by rw [List.mem_range'_1] at hi; exact hi.1) with ⟨_, hn2⟩ | ⟨pre, a, post, e, h1, ha, hn2⟩
  · exact absurd ((at_mkS l m p).mpr hp) (hn2 p (by rw [List.mem_range'_1]; omega))
  · have ha1 : a ∈ List.range' 1 ((mkS l).length + 1 - 1) := by rw [e]; simp
    rw [List.mem_range'_1] at ha1
    have eap : a = p := by
      rcases Nat.lt_trichotomy a p with c | c | c
      · exact absurd ((at_mkS l m a).mp ha) (hn a (by omega) c)
      · exact c
      · exact absurd ((at_mkS l m p).mpr hp) (hn2 p (range1_split e p h0 c))
    generalize (forIn (List.range' 1 ((mkS l).length + 1 - 1)) ((#[] : Array Nat), 1) (StrLaws.occBody (mkS l) (mkS m) (mkS l).length 1)).run.fst = arr at h1
    have h2 : arr.toList[0]? = some a := by simpa using h1
    cases hL : arr.toList with
    | nil => rw [hL] at h2; cases h2
    | cons b t => rw [hL] at h2; simp at h2; rw [h2, eap]; rfl
section
variable {X : Cx}
/-- s.index(y, i), found -/
def rIndexF : V → List V → Hp → VK → Prop := fun x xs H Q => ∃ (a b : Str) (i : Int) (k : Nat), x = .str a ∧ xs = [.str b, .int i] ∧ Txt.indexFrom a b i = some k ∧ Q (.int k) H
theorem mt_indexF : MtR X "str.index" rIndexF := by
  intro pins s σ H x xs v us Q I rx rs h
  obtain ⟨a, b, i, k, rfl, rfl, hk, hy⟩ := h
  obtain ⟨t, rfl⟩ := rx
  cases rs with
  | cons r1 rs =>
    cases rs with
    | cons r2 rs =>
      cases rs
      obtain ⟨u, rfl⟩ := r1
      obtain ⟨z, rfl⟩ := r2
      cases q : Builtin.Str.occurrences a b (PySem.fromIndex a.length i) a.length 1 with
      | nil => unfold Txt.indexFrom at hk; rw [q] at hk; cases hk
      | cons k' rest =>
        unfold Txt.indexFrom at hk; rw [q] at hk
        have e : k' = k := by simpa using hk
        subst e
        exact call_gives PySem.F.slot_str_index (typeIs_str _ _ _) PySem.F.entry_str_index (PySem.F.args_str_index_3 _ _ _) (gives_str_index_from a b i t u z k' rest q) ⟨.int (k' : Nat), H, I.tok _, ⟨_, rfl⟩, hy⟩
end
section
variable {K : PySem.W.Frag} {H : Hp} {Q : VK} {σ : L2.St} {ta tb tc : TE} {r r' : R2}
theorem r_indexF {l m : List Nat} {p : Nat} (h0 : 0 < p) (hp : AtL l m p) (hn : ∀ k, 0 < k → k < p → ¬ AtL l m k) (h : Q (.int (p : Nat)) H) : rIndexF (T l) [T m, .int 1] H Q := ⟨mkS l, mkS m, 1, p, rfl, rfl, indexFrom_mk h0 hp hn, h⟩
theorem r_inT {l m : List Nat} (h : Q (.bl (subS (mkS l) (mkS m))) H) : rInG K (T m) (T l) H Q := .inl ⟨mkS m, mkS l, rfl, rfl, h⟩
theorem r_notinT {l m : List Nat} (h : Q (.bl (!subS (mkS l) (mkS m))) H) : rNotInG K (T m) (T l) H Q := .inl ⟨mkS m, mkS l, rfl, rfl, h⟩
theorem r_chain (h : ta σ H fun x H1 => tb σ H1 fun y H2 => r x y H2 fun z H3 => ∃ k, z = .bl k ∧ (if k = true then tc σ H3 fun w' H4 => r' y w' H4 Q else Q (.bl false) H3)) : tChain r r' ta tb tc σ H Q := h
/-- (text, number) -/
theorem r_eqSI {p q : Addr} {a b : List Nat} {i j : Int} (h1 : SqT K H p [T a, .int i]) (h2 : SqT K H q [T b, .int j]) (ha : Asc a) (hb : Asc b) (h : Q (.bl (decide (a = b ∧ i = j))) H) : rEqG K (.ref p) (.ref q) H Q := by
  have lay : ∀ {l : List Nat} {n : Int}, Asc l → PyData.canLayAll0 [PyData.str (mkS l), .int n] = true := fun {l n} hl => by
    show (PyData.strOk (mkS l) && (true && true)) = true
    rw [strOk_mk hl]; rfl
  refine r_eqD (d := .tuple [.str (mkS a), .int i]) (e := .tuple [.str (mkS b), .int j]) (dp_allT (.cons (.str _) (.cons (.int _) .nil)) h1) (dp_allT (.cons (.str _) (.cons (.int _) .nil)) h2) (shaped_tup (lay ha) (by show (0:Nat) ≤ 60; decide)) (shaped_tup (lay hb) (by show (0:Nat) ≤ 60; decide)) (by rfl) (by rfl) ?_ h
  rw [PyData.tuple.injEq]
  constructor
  · intro e
    simp only [List.cons.injEq, PyData.str.injEq, PyData.int.injEq, and_true] at e
    exact ⟨mkS_inj e.1, e.2⟩
  · rintro ⟨rfl, rfl⟩; rfl
theorem r_neSI {p q : Addr} {a b : List Nat} {i j : Int} (h1 : SqT K H p [T a, .int i]) (h2 : SqT K H q [T b, .int j]) (ha : Asc a) (hb : Asc b) (h : Q (.bl (!decide (a = b ∧ i = j))) H) : rNeG K (.ref p) (.ref q) H Q := by
  have lay : ∀ {l : List Nat} {n : Int}, Asc l → PyData.canLayAll0 [PyData.str (mkS l), .int n] = true := fun {l n} hl => by
    show (PyData.strOk (mkS l) && (true && true)) = true
    rw [strOk_mk hl]; rfl
  refine r_neD (d := .tuple [.str (mkS a), .int i]) (e := .tuple [.str (mkS b), .int j]) (dp_allT (.cons (.str _) (.cons (.int _) .nil)) h1) (dp_allT (.cons (.str _) (.cons (.int _) .nil)) h2) (shaped_tup (lay ha) (by show (0:Nat) ≤ 60; decide)) (shaped_tup (lay hb) (by show (0:Nat) ≤ 60; decide)) (by rfl) (by rfl) ?_ h
  rw [PyData.tuple.injEq]
  constructor
  · intro e
    simp only [List.cons.injEq, PyData.str.injEq, PyData.int.injEq, and_true] at e
    exact ⟨mkS_inj e.1, e.2⟩
  · rintro ⟨rfl, rfl⟩; rfl
end
end NX
namespace NX
/-! ### cores of what is made of a lead and a ring row -/
theorem csize_of {L P : List Nat} (hL : Row L) (hP : Cy P) (h0 : P ≠ []) : csize (L ++ P ++ bak L) = L.length := by
  have hlen : (L ++ P ++ bak L).length = 2 * L.length + P.length := by simp only [List.length_append, bak_len]; omega
  have hp : 0 < P.length := List.length_pos_iff.mpr h0
  have g1 : ∀ j, j < L.length → (L ++ P ++ bak L).getD j 0 = L.getD j 0 := fun j hj => by
    rw [List.append_assoc, List.getD_eq_getElem?_getD, List.getD_eq_getElem?_getD, List.getElem?_append_left hj]
  have g2 : ∀ j, j < P.length → (L ++ P ++ bak L).getD (L.length + j) 0 = P.getD j 0 := fun j hj => by
    rw [List.append_assoc, List.getD_eq_getElem?_getD, List.getD_eq_getElem?_getD, List.getElem?_append_right (by omega), List.getElem?_append_left (by omega)]
    congr 2; omega
  have g3 : ∀ j, j < L.length → (L ++ P ++ bak L).getD (L.length + P.length + j) 0 = (bak L).getD j 0 := fun j hj => by
    rw [List.getD_eq_getElem?_getD, List.getD_eq_getElem?_getD, List.getElem?_append_right (by simp only [List.length_append]; omega)]
    congr 2; simp only [List.length_append]; omega
  refine csize_eq (fun j hj => ⟨by rw [hlen]; omega, ?_⟩) ?_
  · have e : (L ++ P ++ bak L).length - 1 - j = L.length + P.length + (L.length - 1 - j) := by rw [hlen]; omega
    rw [e, g3 _ (by omega), g1 j hj, getD_bak (by omega), swp_swp (hL _ (getD_mem' (by omega)))]
    congr 1; omega
  · rintro ⟨h1, h2⟩
    rw [hlen] at h1
    have e : (L ++ P ++ bak L).length - 1 - L.length = L.length + (P.length - 1) := by rw [hlen]; omega
    rw [e, g2 _ (by omega), show L.length = L.length + 0 from rfl, g2 0 hp] at h2
    obtain ⟨d, b, e1⟩ : ∃ d b, P = d :: b := by
      cases P with
      | nil => exact absurd rfl h0
      | cons d b => exact ⟨d, b, rfl⟩
    obtain ⟨a, c, e2⟩ : ∃ a c, P = a ++ [c] := ⟨P.dropLast, P.getLast h0, (List.dropLast_concat_getLast h0).symm⟩
    have ea : P.getD 0 0 = d := by rw [e1]; rfl
    have eb : P.getD (P.length - 1) 0 = c := by rw [e2]; simp
    rw [ea, eb] at h2
    have hf := hP.2
    have : P ++ P = a ++ (c :: d :: b) := by conv => lhs; lhs; rw [e2]
                                             conv => lhs; rhs; rw [e1]
                                             simp
    rw [this] at hf
    exact (free_app_r hf).1 h2
theorem lead_of {L P : List Nat} (hL : Row L) (hP : Cy P) (h0 : P ≠ []) : lead (L ++ P ++ bak L) = L := by
  unfold lead
  rw [csize_of hL hP h0, List.append_assoc, List.take_left]
theorem ring_of {L P : List Nat} (hL : Row L) (hP : Cy P) (h0 : P ≠ []) : ring (L ++ P ++ bak L) = P := by
  unfold ring
  rw [csize_of hL hP h0]
  have : (L ++ P ++ bak L).length - L.length = (L ++ P).length := by simp only [List.length_append, bak_len]; omega
  rw [this, List.take_left, List.drop_left]
theorem lead_nil : lead [] = [] := rfl
theorem ring_nil : ring [] = [] := rfl
theorem ring_eq_nil {f : List Nat} (hr : Row f) (hf : Free f) : ring f = [] ↔ f = [] := by
  constructor
  · intro h
    refine Classical.byContradiction fun hn => ?_
    have := ring_pos hr hf hn
    rw [h] at this; simp at this
  · intro h; rw [h]; rfl
/-- a row is its lead around its ring row -/
theorem eqv_core {w : List Nat} (h : Row w) : Eqv (lead (red w) ++ ring (red w) ++ bak (lead (red w))) w := by
  rw [core_join h.red]; exact Eqv.red h
/-- rows alike up to a lead have ring rows that are turns -/
theorem ring_conj {x a b : List Nat} (hx : Row x) (ha : Row a) (hb : Row b) (h : Eqv (x ++ a ++ bak x) b) : Turn (ring (red a)) (ring (red b)) := by
  have h1 := eqv_core ha
  have h2 := eqv_core hb
  have la := ha.red.lead
  have lb := hb.red.lead
  have ra := ha.red.ring
  have rb := hb.red.ring
  have ca := cy_ring ha.red (free_red ha)
  have cb := cy_ring hb.red (free_red hb)
  generalize lead (red a) = L at *
  generalize ring (red a) = R at *
  generalize lead (red b) = M at *
  generalize ring (red b) = U at *
  refine conj' (x := bak M ++ x ++ L) ((lb.bak.app hx).app la) ca cb ?_
  have e1 : Eqv (x ++ (L ++ R ++ bak L) ++ bak x) (M ++ U ++ bak M) := (((Eqv.appL x hx h1).appR (bak x) hx.bak).trans h).trans h2.symm
  have e2 := ((Eqv.appL (bak M) lb.bak e1).appR M lb)
  have e3 : Eqv (bak M ++ (M ++ U ++ bak M) ++ M) U := by
    have a1 := Eqv.mid (a := []) (b := U ++ (bak M ++ M)) Row.nil (rb.app (lb.bak.app lb)) lb
    have a2 := Eqv.mid (a := U) (b := []) rb Row.nil lb
    simp only [List.append_assoc, List.nil_append, List.append_nil] at a1 a2 ⊢
    exact a1.trans a2
  have e4 : bak (bak M ++ x ++ L) = bak L ++ bak x ++ M := by rw [bak_app, bak_app, bak_bak lb]; simp
  rw [e4]
  have e5 := e2.trans e3
  simp only [List.append_assoc] at e5 ⊢
  exact e5
/-! ### roots -/
theorem conj_rep {L P : List Nat} (hL : Row L) (hP : Row P) : ∀ n, Eqv (repL (L ++ P ++ bak L) n) (L ++ repL P n ++ bak L)
  | 0 => by rw [repL_zero, repL_zero, List.append_nil]; exact (Eqv.self hL).symm
  | n + 1 => by
    rw [repL_succ, repL_succ]
    have h1 := Eqv.appL (L ++ P ++ bak L) ((hL.app hP).app hL.bak) (conj_rep hL hP n)
    refine h1.trans ?_
    have h2 := Eqv.mid (a := L ++ P) (b := repL P n ++ bak L) (hL.app hP) ((hP.rep n).app hL.bak) hL
    simp only [List.append_assoc] at h2 ⊢
    exact h2
open Classical in
noncomputable def per (R : List Nat) : Nat := if h : ∃ p, IsPer R p then Classical.choose h else 0
theorem per_spec {R : List Nat} (h : R ≠ []) : IsPer R (per R) := by
  have g := isPer_exists (List.length_pos_iff.mpr h)
  unfold per
  rw [dif_pos g]
  exact Classical.choose_spec g
noncomputable def root1 (f : List Nat) : List Nat := lead f ++ (ring f).take (per (ring f)) ++ bak (lead f)
noncomputable def rootn (f : List Nat) : Nat := (ring f).length / per (ring f)
theorem root1_nil : root1 [] = [] := by unfold root1; rw [lead_nil, ring_nil, List.take_nil]; rfl
theorem rootn_nil : rootn [] = 0 := by unfold rootn; rw [ring_nil]; simp
theorem Row.root1 {f : List Nat} (h : Row f) : Row (NX.root1 f) := (h.lead.app (h.ring.take _)).app h.lead.bak
theorem root1_len (f : List Nat) : (root1 f).length ≤ f.length := by
  have h1 := csize_le f
  have h2 := ring_len f
  unfold root1
  simp only [List.length_append, lead_len, bak_len, List.length_take]
  omega
section
variable {f : List Nat} (hr : Row f) (hf : Free f) (hn : f ≠ [])
include hr hf hn
theorem ring_ne : ring f ≠ [] := fun e => hn ((ring_eq_nil hr hf).mp e)
theorem prim_cy : Cy ((ring f).take (per (ring f))) := by
  have hR := cy_ring hr hf
  have hp := per_spec (ring_ne hr hf hn)
  have e := hp.rep
  generalize hRe : ring f = R at *
  generalize hpe : per R = p at *
  have hp1 := Nat.div_pos hp.2.1 hp.1
  obtain ⟨m, em⟩ : ∃ m, R.length / p = m + 1 := ⟨R.length / p - 1, by omega⟩
  rw [em] at e
  refine ⟨hR.1.take _, ?_⟩
  have h2 := hR.2
  have e1 : R ++ R = (R.take p ++ R.take p) ++ (R.drop p ++ R.drop p) ∨ ∃ z w, R ++ R = z ++ (R.take p ++ R.take p) ++ w := by
    refine .inr ⟨repL (R.take p) m, repL (R.take p) m, ?_⟩
    conv => lhs; lhs; rw [← e, ← repL_snoc]
    conv => lhs; rhs; rw [← e, repL_succ]
    simp
  rcases e1 with e1 | ⟨z, w, e1⟩
  · rw [e1] at h2; exact free_app_l h2
  · rw [e1, List.append_assoc] at h2; exact free_app_l (free_app_r h2)
theorem prim_ne : (ring f).take (per (ring f)) ≠ [] := by
  have hp := per_spec (ring_ne hr hf hn)
  intro e
  have := congrArg List.length e
  rw [List.length_take, List.length_nil] at this
  have := hp.1; have := hp.2.1
  omega
theorem ring_root1 : ring (root1 f) = (ring f).take (per (ring f)) := ring_of hr.lead (prim_cy hr hf hn) (prim_ne hr hf hn)
theorem lead_root1 : lead (root1 f) = lead f := lead_of hr.lead (prim_cy hr hf hn) (prim_ne hr hf hn)
theorem rootn_pos : 0 < rootn f := Nat.div_pos (per_spec (ring_ne hr hf hn)).2.1 (per_spec (ring_ne hr hf hn)).1
theorem rootn_le : rootn f ≤ f.length := by
  have h1 := ring_len f
  have h2 := Nat.div_le_self (ring f).length (per (ring f))
  unfold rootn; omega
theorem ring_rep : repL ((ring f).take (per (ring f))) (rootn f) = ring f := (per_spec (ring_ne hr hf hn)).rep
theorem root1_free : Free (root1 f) := by
  have e := core_join hr
  have hp := per_spec (ring_ne hr hf hn)
  have hrep := hp.rep
  have hne := prim_ne hr hf hn
  obtain ⟨m, em⟩ : ∃ m, (ring f).length / per (ring f) = m + 1 := ⟨rootn f - 1, by have := rootn_pos hr hf hn; unfold rootn at *; omega⟩
  rw [em] at hrep
  have f1 : Free (lead f ++ (ring f).take (per (ring f))) := by
    have h1 := hf
    rw [← e] at h1
    rw [← List.take_append_drop (per (ring f)) (ring f)] at h1
    simp only [List.append_assoc] at h1
    rw [← List.append_assoc] at h1
    have := free_app_l h1
    simpa using this
  have f2 : Free ((ring f).take (per (ring f)) ++ bak (lead f)) := by
    have h1 := hf
    rw [← e] at h1
    have h2 := congrArg (fun z => lead f ++ z ++ bak (lead f)) hrep
    simp only [← repL_snoc] at h2
    rw [← h2] at h1
    simp only [List.append_assoc] at h1
    exact free_app_r (free_app_r h1)
  unfold root1
  rw [List.append_assoc]
  exact free_glue f1 f2 hne
theorem root_rep : Eqv (repL (root1 f) (rootn f)) f := by
  have h1 := conj_rep hr.lead (hr.ring.take (per (ring f))) (rootn f)
  rw [ring_rep hr hf hn, core_join hr] at h1
  exact h1
/-- no part of the root's ring row makes it -/
theorem root_prim {k : Nat} (hk0 : 0 < k) (hk : k < (ring (root1 f)).length) (m : Nat) : repL ((ring (root1 f)).take k) m ≠ ring (root1 f) := by
  rw [ring_root1 hr hf hn] at *
  intro e
  have hp := per_spec (ring_ne hr hf hn)
  have e2 := ring_rep hr hf hn
  rw [← e, repL_mul] at e2
  have h3 : rot (ring f) (((ring f).take (per (ring f))).take k).length = ring f := by
    exact (fun (R Q : List Nat) (n : Nat) (h : repL Q n = R) => by subst h; exact rot_repL Q n : ∀ (R Q : List Nat) (n : Nat), repL Q n = R → rot R Q.length = R) _ _ _ e2
  rw [List.length_take] at h3 hk
  rw [List.length_take, Nat.min_eq_left (by omega)] at h3
  exact hp.2.2.2 k hk0 (by omega) h3
end
/-- a row that is a power has a root's number that the power's divides -/
theorem rootn_dvd {w x i : List Nat} {t : Nat} (hx : Row x) (hi : Row i) (hw : Row w) (h : Eqv (x ++ repL i t ++ bak x) w) (hn : red w ≠ []) : t ∣ rootn (red w) := by
  have hri := hi.red
  have fi := free_red hi
  -- the ring row of i
  have ci := cy_ring hri fi
  have t0 : t ≠ 0 := by
    rintro rfl
    rw [repL_zero, List.append_nil] at h
    have := ((Eqv.self hx).symm.trans h).2.2
    rw [red_nil] at this
    exact hn this.symm
  have e1 : Eqv (repL i t) (lead (red i) ++ repL (ring (red i)) t ++ bak (lead (red i))) := by
    have h1 : Eqv (repL i t) (repL (lead (red i) ++ ring (red i) ++ bak (lead (red i))) t) := by
      have : ∀ n, Eqv (repL i n) (repL (lead (red i) ++ ring (red i) ++ bak (lead (red i))) n) := by
        intro n
        induction n with
        | zero => exact Eqv.refl Row.nil
        | succ n ih => rw [repL_succ, repL_succ]; exact (eqv_core hi).symm.app ih
      exact this t
    exact h1.trans (conj_rep hri.lead hri.ring t)
  -- the power of a ring row is a ring row
  have cy : Cy (repL (ring (red i)) t) := by
    have : ∀ n, Free (repL (ring (red i)) n) := by
      intro n
      induction n with
      | zero => trivial
      | succ n ih =>
        cases n with
        | zero => rw [repL_succ, repL_zero, List.append_nil]; exact ci.free
        | succ n =>
          by_cases e : ring (red i) = []
          · rw [e]
            have : ∀ k, repL [] k = [] := fun k => by simp [repL]
            rw [this]; trivial
          · rw [repL_succ, repL_succ]
            rw [repL_succ] at ih
            exact free_glue ci.2 ih e
    refine ⟨ci.1.rep t, ?_⟩
    have h2 := this (t + t)
    have e : repL (ring (red i)) (t + t) = repL (ring (red i)) t ++ repL (ring (red i)) t := by
      unfold repL
      rw [← List.flatten_append, List.replicate_append_replicate]
    rw [← e]; exact h2
  have e2 : Eqv ((x ++ lead (red i)) ++ repL (ring (red i)) t ++ bak (x ++ lead (red i))) w := by
    have := ((Eqv.appL x hx e1).appR (bak x) hx.bak).symm.trans h
    rw [bak_app]
    simp only [List.append_assoc] at this ⊢
    exact this
  have e3 := ring_conj (hx.app hri.lead) (hri.ring.rep t) hw e2
  -- the ring of the power is the power
  have e4 : ring (red (repL (ring (red i)) t)) = repL (ring (red i)) t := by
    rw [red_free cy.free cy.1]
    by_cases e : repL (ring (red i)) t = []
    · rw [e]; rfl
    · have := ring_of (L := []) Row.nil cy e
      simpa [bak] using this
  rw [e4] at e3
  have hne := ring_ne hw.red (free_red hw) hn
  have hp := per_spec hne
  have hq := e3.symm.per hp
  have hlen := e3.len
  rw [repL_len'] at hlen
  have hd : per (ring (red w)) ∣ (ring (red i)).length := by
    refine hq.dvd ?_ (rot_repL _ _)
    rw [repL_len']
    exact Nat.le_mul_of_pos_left _ (by omega)
  obtain ⟨k, hk⟩ := hd
  refine ⟨k, ?_⟩
  unfold rootn
  rw [← hlen, hk, Nat.mul_left_comm]
  exact Nat.mul_div_cancel_left _ hp.1
/-- a character's power -/
theorem root_char {c : Nat} (hc : lett c = true) {n : Nat} (h0 : 0 < n) : root1 (List.replicate n c) = [c] ∧ rootn (List.replicate n c) = n := by
  have e0 : csize (List.replicate n c) = 0 := by
    refine csize_eq (fun j hj => absurd hj (by omega)) ?_
    rintro ⟨h1, h2⟩
    rw [List.length_replicate] at h1 h2
    have g : ∀ i, i < n → (List.replicate n c).getD i 0 = c := fun i hi => by
      rw [List.getD_eq_getElem?_getD, List.getElem?_replicate, if_pos hi]; rfl
    rw [g 0 h0, g _ (by omega)] at h2
    exact swp_ne hc h2.symm
  have e1 : lead (List.replicate n c) = [] := by unfold lead; rw [e0]; rfl
  have e2 : ring (List.replicate n c) = List.replicate n c := by
    unfold ring; rw [e0, Nat.sub_zero, List.drop_zero, List.take_length]
  have hne : List.replicate n c ≠ [] := by intro e; have := congrArg List.length e; simp at this; omega
  obtain ⟨m, rfl⟩ : ∃ m, n = m + 1 := ⟨n - 1, by omega⟩
  have hp : IsPer (List.replicate (m + 1) c) 1 := by
    refine ⟨by omega, by simp, ?_, fun k a b => by omega⟩
    unfold rot
    rw [List.replicate_succ, List.drop_succ_cons, List.drop_zero, List.take_succ_cons, List.take_zero]
    rw [← List.replicate_succ, List.replicate_succ']
  have e3 : per (List.replicate (m + 1) c) = 1 := (per_spec hne).uniq hp
  unfold root1 rootn
  rw [e1, e2, e3]
  refine ⟨by rw [List.replicate_succ]; rfl, by rw [List.length_replicate, Nat.div_one]⟩
theorem at_ring {R : List Nat} {i : Nat} (hi : i ≤ R.length) : (i + R.length ≤ (R ++ R).length ∧ ((R ++ R).drop i).take R.length = R) ↔ rot R i = R := by
  have e : ((R ++ R).drop i).take R.length = rot R i := by
    unfold rot
    rw [List.drop_append_of_le_length hi, List.take_append, List.take_of_length_le (by rw [List.length_drop]; omega), List.length_drop]
    congr 2; omega
  rw [e, List.length_append]
  exact ⟨fun h => h.2, fun h => ⟨by omega, h⟩⟩
end NX
namespace NX
open PySem PySem.Spec PyProof.Rows L2
/-! ### rings alike -/
/-- what the search says of two free rows -/
def alk (f g : List Nat) : Bool := decide ((ring f).length = (ring g).length) && subS (mkS (ring g ++ ring g)) (mkS (ring f))
def leadB (f g : List Nat) : List Nat := red (lead f ++ bak ((ring g).take (Txt.find (mkS (ring g ++ ring g)) (mkS (ring f))).toNat) ++ bak (lead g))
def ldv (f g : List Nat) : V := if alk f g = true then T (leadB f g) else .non
theorem take_rot {R : List Nat} {i : Nat} (hi : i ≤ R.length) : ((R ++ R).drop i).take R.length = rot R i := by
  unfold rot
  rw [List.drop_append_of_le_length hi, List.take_append, List.take_of_length_le (by rw [List.length_drop]; omega), List.length_drop]
  congr 2; omega
theorem at_rot {R S : List Nat} (hl : S.length = R.length) (i : Nat) : AtL (R ++ R) S i ↔ i ≤ R.length ∧ rot R i = S := by
  unfold AtL
  rw [hl, List.length_append]
  constructor
  · rintro ⟨h1, h2⟩
    have hi : i ≤ R.length := by omega
    rw [take_rot hi] at h2
    exact ⟨hi, h2⟩
  · rintro ⟨hi, h⟩
    rw [take_rot hi]
    exact ⟨by omega, h⟩
theorem alk_iff (f g : List Nat) : alk f g = true ↔ Turn (ring g) (ring f) := by
  unfold alk
  rw [Bool.and_eq_true, decide_eq_true_iff, subS_mk]
  constructor
  · rintro ⟨h1, i, h2⟩
    rw [at_rot h1] at h2
    rw [← h2.2]; exact turn_rot _ _
  · intro h
    obtain ⟨i, hi, e⟩ := h.rot
    exact ⟨h.len.symm, i, (at_rot h.len.symm i).mpr ⟨hi, e.symm⟩⟩
theorem find_turn {f g : List Nat} (h : alk f g = true) : ∃ i : Nat, Txt.find (mkS (ring g ++ ring g)) (mkS (ring f)) = (i : Int) ∧ i ≤ (ring g).length ∧ ring f = (ring g).drop i ++ (ring g).take i := by
  have ht := (alk_iff f g).mp h
  obtain ⟨j, hj, e⟩ := ht.rot
  rcases find_mk (ring g ++ ring g) (ring f) with ⟨_, hn⟩ | ⟨i, h1, h2, _⟩
  · exact absurd ((at_rot ht.len.symm j).mpr ⟨hj, e.symm⟩) (hn j)
  · obtain ⟨hi, e2⟩ := (at_rot ht.len.symm i).mp h2
    exact ⟨i, h1, hi, e2.symm⟩
theorem leadB_row {f g : List Nat} (hf : Row f) (hg : Row g) : Row (leadB f g) := by
  unfold leadB
  exact ((hf.lead.app (hg.ring.take _).bak).app hg.lead.bak).red
theorem leadB_len (f g : List Nat) : (leadB f g).length ≤ f.length + 2 * g.length := by
  unfold leadB
  refine Nat.le_trans (red_len _) ?_
  have h1 := csize_le f
  have h2 := csize_le g
  have h3 := ring_len g
  simp only [List.length_append, bak_len, lead_len, List.length_take]
  omega
theorem leadB_red {f g : List Nat} (hf : Row f) (hg : Row g) : red (leadB f g) = leadB f g := by
  unfold leadB
  exact red_red ((hf.lead.app (hg.ring.take _).bak).app hg.lead.bak)
/-- the lead leads the one to the other -/
theorem leadB_eqv {a b : List Nat} (ha : Row a) (hb : Row b) (h : alk (red a) (red b) = true) : Eqv (leadB (red a) (red b) ++ b ++ bak (leadB (red a) (red b))) a := by
  obtain ⟨i, e1, hi, e2⟩ := find_turn h
  have h1 := eqv_core ha
  have h2 := eqv_core hb
  have la := ha.red.lead
  have lb := hb.red.lead
  have rb := hb.red.ring
  have e3 : leadB (red a) (red b) = red (lead (red a) ++ bak ((ring (red b)).take i) ++ bak (lead (red b))) := by unfold leadB; rw [e1, Int.toNat_natCast]
  rw [e3]
  rw [e2] at h1
  have eR : ring (red b) = (ring (red b)).take i ++ (ring (red b)).drop i := (List.take_append_drop i _).symm
  rw [eR] at h2
  have rB : Row ((ring (red b)).take i) := rb.take i
  have rC : Row ((ring (red b)).drop i) := rb.drop i
  generalize (ring (red b)).take i = B at *
  generalize (ring (red b)).drop i = C at *
  generalize lead (red a) = L at *
  generalize lead (red b) = M at *
  have rx : Row (L ++ bak B ++ bak M) := (la.app rB.bak).app lb.bak
  have hx := Eqv.red rx
  have g1 : Eqv (red (L ++ bak B ++ bak M) ++ b ++ bak (red (L ++ bak B ++ bak M))) ((L ++ bak B ++ bak M) ++ (M ++ (B ++ C) ++ bak M) ++ bak (L ++ bak B ++ bak M)) := (hx.app h2.symm).app hx.bak
  refine g1.trans (Eqv.trans ?_ h1)
  have e4 : bak (L ++ bak B ++ bak M) = M ++ B ++ bak L := by rw [bak_app, bak_app, bak_bak lb, bak_bak rB]; simp
  rw [e4]
  have a1 := Eqv.mid (a := L ++ bak B) (b := B ++ C ++ bak M ++ (M ++ B ++ bak L)) (la.app rB.bak) (((rB.app rC).app lb.bak).app ((lb.app rB).app la.bak)) lb
  have a2 := Eqv.mid (a := L) (b := C ++ bak M ++ (M ++ B ++ bak L)) la ((rC.app lb.bak).app ((lb.app rB).app la.bak)) rB
  have a3 := Eqv.mid (a := L ++ C) (b := B ++ bak L) (la.app rC) (rB.app la.bak) lb
  simp only [List.append_assoc] at a1 a2 a3 ⊢
  exact a1.trans (a2.trans a3)
/-- a ring row turned, within a lead -/
theorem alk_turned {w x : List Nat} (hw : Row w) (hx : Row x) (i : Nat) : alk (red w) (red (x ++ (ring (red w)).drop i ++ (ring (red w)).take i ++ bak x)) = true := by
  rw [alk_iff]
  have cw := cy_ring hw.red (free_red hw)
  have t := turn_rot (ring (red w)) i
  have ct := cw.turn t
  have h1 : Eqv (x ++ rot (ring (red w)) i ++ bak x) (x ++ (ring (red w)).drop i ++ (ring (red w)).take i ++ bak x) := by
    have : x ++ rot (ring (red w)) i ++ bak x = x ++ (ring (red w)).drop i ++ (ring (red w)).take i ++ bak x := by unfold rot; simp
    rw [this]
    exact Eqv.refl (((hx.app (hw.red.ring.drop _)).app (hw.red.ring.take _)).app hx.bak)
  have h2 := ring_conj hx ct.1 h1.2.1 h1
  have h3 : ring (red (rot (ring (red w)) i)) = rot (ring (red w)) i := by
    rw [red_free ct.free ct.1]
    by_cases e : rot (ring (red w)) i = []
    · rw [e]; rfl
    · have := ring_of (L := []) Row.nil ct e
      simpa [bak] using this
  rw [h3] at h2
  exact (t.trans h2).symm
theorem rpOk_row {l : List Nat} (hr : Row l) (hl : l.length ≤ 100000) : rpOk (T l) := by
  show (reprText (mkS l)).length ≤ sizeLine
  refine Nat.le_trans (PySem.StrLaws.reprText_len _ ?_) ?_
  · intro c hc
    have := hr.asc c hc
    omega
  · rw [mkS_len, sizeLine_eq]; omega
theorem at_ls {ws : List (List Nat)} {r : Int} (h0 : 0 ≤ r) (h : r < ws.length) : atI (ws.map T) r = some (T (ws.getD r.toNat [])) := by
  obtain ⟨k, rfl⟩ : ∃ k : Nat, r = k := ⟨r.toNat, by omega⟩
  have hk : k < ws.length := by omega
  rw [Int.toNat_natCast]
  exact atI_nat (by rw [List.getElem?_map, List.getElem?_eq_getElem hk, List.getD_eq_getElem?_getD, List.getElem?_eq_getElem hk]; rfl)
end NX
namespace NX
/-! ### roots are one: powers, leads, backs -/
theorem Eqv.rep {a b : List Nat} (h : Eqv a b) : ∀ n, Eqv (repL a n) (repL b n)
  | 0 => Eqv.refl Row.nil
  | n + 1 => by rw [repL_succ, repL_succ]; exact h.app (Eqv.rep h n)
theorem repL_nil (n : Nat) : repL [] n = [] := by simp [repL]
theorem repL_add (l : List Nat) (n m : Nat) : repL l (n + m) = repL l n ++ repL l m := by
  unfold repL
  rw [← List.flatten_append, List.replicate_append_replicate]
theorem Cy.rep {R : List Nat} (h : Cy R) (t : Nat) : Cy (repL R t) := by
  have : ∀ n, Free (repL R n) := by
    intro n
    induction n with
    | zero => trivial
    | succ n ih =>
      cases n with
      | zero => rw [repL_succ, repL_zero, List.append_nil]; exact h.free
      | succ n =>
        by_cases e : R = []
        · rw [e, repL_nil]; trivial
        · rw [repL_succ, repL_succ]
          rw [repL_succ] at ih
          exact free_glue h.2 ih e
  refine ⟨h.1.rep t, ?_⟩
  rw [← repL_add]; exact this _
theorem repL_ne {l : List Nat} (h : l ≠ []) {n : Nat} (hn : 0 < n) : repL l n ≠ [] := by
  obtain ⟨m, rfl⟩ : ∃ m, n = m + 1 := ⟨n - 1, by omega⟩
  rw [repL_succ]; intro e; exact h (List.append_eq_nil_iff.mp e).1
theorem ring_cy {R : List Nat} (h : Cy R) : ring R = R := by
  by_cases e : R = []
  · rw [e]; rfl
  · have := ring_of (L := []) Row.nil h e
    simpa [bak] using this
theorem lead_cy {R : List Nat} (h : Cy R) : lead R = [] := by
  by_cases e : R = []
  · rw [e]; rfl
  · have := lead_of (L := []) Row.nil h e
    simpa [bak] using this
/-- a lead around a ring row: free as it stands when the junctions are -/
theorem free_core {L R : List Nat} (hL : Row L) (hR : Cy R) (h : R ≠ []) {m : Nat} (hm : 0 < m) (hf : Free (L ++ R ++ bak L)) : Free (L ++ repL R m ++ bak L) := by
  obtain ⟨k, rfl⟩ : ∃ k, m = k + 1 := ⟨m - 1, by omega⟩
  have f1 : Free (L ++ R) := free_app_l hf
  have f2 : Free (R ++ bak L) := by rw [List.append_assoc] at hf; exact free_app_r hf
  have fr := (hR.rep (k + 1)).free
  have g1 : Free (L ++ repL R (k + 1)) := by
    have h2 := fr
    rw [repL_succ] at h2 ⊢
    exact free_glue f1 h2 h
  have g2 : Free (repL R (k + 1) ++ bak L) := by
    have h2 := fr
    rw [← repL_snoc] at h2 ⊢
    rw [List.append_assoc]
    exact free_glue h2 f2 h
  rw [List.append_assoc]
  exact free_glue g1 g2 (repL_ne h hm)
/-- the power of a row: its core -/
theorem core_pow {v : List Nat} (hv : Row v) (hn : red v ≠ []) {m : Nat} (hm : 0 < m) : red (repL v m) = lead (red v) ++ repL (ring (red v)) m ++ bak (lead (red v)) := by
  have hf := free_red hv
  have hR := cy_ring hv.red hf
  have hne := ring_ne hv.red hf hn
  have hfc : Free (lead (red v) ++ repL (ring (red v)) m ++ bak (lead (red v))) := free_core hv.red.lead hR hne hm (by rw [core_join hv.red]; exact hf)
  have h1 := (eqv_core hv).symm.rep m
  have h2 := h1.trans (conj_rep hv.red.lead hv.red.ring m)
  rw [h2.2.2, red_free hfc h2.2.1]
theorem ring_pow {v : List Nat} (hv : Row v) (m : Nat) : ring (red (repL v m)) = repL (ring (red v)) m := by
  by_cases hn : red v = []
  · have h1 : Eqv (repL v m) (repL [] m) := Eqv.rep ⟨hv, Row.nil, hn⟩ m
    rw [repL_nil] at h1
    rw [h1.2.2, hn, red_nil, ring_nil, repL_nil]
  · rcases Nat.eq_zero_or_pos m with rfl | hm
    · rw [repL_zero, repL_zero]; rfl
    · rw [core_pow hv hn hm]
      exact ring_of hv.red.lead ((cy_ring hv.red (free_red hv)).rep m) (repL_ne (ring_ne hv.red (free_red hv) hn) hm)
theorem lead_pow {v : List Nat} (hv : Row v) {m : Nat} (hm : 0 < m) : lead (red (repL v m)) = lead (red v) := by
  by_cases hn : red v = []
  · have h1 : Eqv (repL v m) (repL [] m) := Eqv.rep ⟨hv, Row.nil, hn⟩ m
    rw [repL_nil] at h1
    rw [h1.2.2, hn, red_nil]
  · rw [core_pow hv hn hm]
    exact lead_of hv.red.lead ((cy_ring hv.red (free_red hv)).rep m) (repL_ne (ring_ne hv.red (free_red hv) hn) hm)
/-- the first turn of a power is that of the row -/
theorem rot_take {R : List Nat} {p : Nat} (h : p ∣ R.length) : rot R p = R ↔ ∃ n, repL (R.take p) n = R := by
  constructor
  · intro e
    obtain ⟨k, hk⟩ := h
    refine ⟨k, ?_⟩
    rw [← repL_take e k (by rw [Nat.mul_comm]; omega), Nat.mul_comm, ← hk, List.take_length]
  · rintro ⟨n, e⟩
    by_cases hp : p ≤ R.length
    · have := rot_repL (R.take p) n
      rw [e, List.length_take, Nat.min_eq_left hp] at this
      exact this
    · unfold rot
      rw [List.drop_of_length_le (by omega), List.take_of_length_le (by omega)]; rfl
theorem repL_inj {a b : List Nat} {n : Nat} (hn : 0 < n) (h : repL a n = repL b n) : a = b := by
  have hl := congrArg List.length h
  rw [repL_len', repL_len'] at hl
  have hl2 : a.length = b.length := Nat.eq_of_mul_eq_mul_left hn hl
  obtain ⟨m, rfl⟩ : ∃ m, n = m + 1 := ⟨n - 1, by omega⟩
  rw [repL_succ, repL_succ] at h
  exact (List.append_inj h hl2).1
theorem per_pow {R : List Nat} (h : R ≠ []) {m : Nat} (hm : 0 < m) : per (repL R m) = per R := by
  have hp := per_spec h
  have hq := per_spec (repL_ne h hm)
  have hle : R.length ≤ m * R.length := Nat.le_mul_of_pos_left _ hm
  have e := hp.rep
  refine Nat.dvd_antisymm ?_ ?_
  · -- rot (R^m) (per R) = R^m
    refine hq.dvd (by rw [repL_len']; exact Nat.le_trans hp.2.1 hle) ?_
    have h1 : repL R m = repL (R.take (per R)) ((R.length / per R) * m) := by rw [← repL_mul, e]
    have h2 := rot_repL (R.take (per R)) ((R.length / per R) * m)
    rw [← h1, List.length_take, Nat.min_eq_left hp.2.1] at h2
    exact h2
  · -- per (R^m) divides |R|, and turns R
    have hd : per (repL R m) ∣ R.length := hq.dvd (by rw [repL_len']; exact hle) (rot_repL R m)
    have hl : per (repL R m) ≤ R.length := Nat.le_of_dvd (List.length_pos_iff.mpr h) hd
    refine hp.dvd hl ?_
    have h1 := repL_take hq.2.2.1 (R.length / per (repL R m)) (by rw [Nat.div_mul_cancel hd, repL_len']; exact hle)
    rw [Nat.div_mul_cancel hd] at h1
    obtain ⟨k, rfl⟩ : ∃ k, m = k + 1 := ⟨m - 1, by omega⟩
    rw [repL_succ, List.take_left] at h1
    rw [List.take_append_of_le_length (by rw [← repL_succ]; exact hl)] at h1
    exact (rot_take hd).mpr ⟨_, h1.symm⟩
theorem root_pow {v : List Nat} (hv : Row v) {m : Nat} (hm : 0 < m) : root1 (red (repL v m)) = root1 (red v) ∧ rootn (red (repL v m)) = rootn (red v) * m := by
  by_cases hn : red v = []
  · have h1 : Eqv (repL v m) (repL [] m) := Eqv.rep ⟨hv, Row.nil, hn⟩ m
    rw [repL_nil] at h1
    rw [h1.2.2, hn, red_nil, rootn_nil]
    exact ⟨rfl, by simp⟩
  · have hne := ring_ne hv.red (free_red hv) hn
    have hp := per_spec hne
    unfold root1 rootn
    rw [ring_pow hv m, lead_pow hv hm, per_pow hne hm]
    constructor
    · congr 2
      obtain ⟨k, rfl⟩ : ∃ k, m = k + 1 := ⟨m - 1, by omega⟩
      rw [repL_succ, List.take_append_of_le_length hp.2.1]
    · rw [repL_len', Nat.mul_comm, Nat.mul_div_right_comm hp.dvd_len]
/-- no power but of itself -/
def Prim (u : List Nat) : Prop := Row u ∧ Free u ∧ u ≠ [] ∧ per (ring u) = (ring u).length
theorem Prim.root {u : List Nat} (h : Prim u) : root1 u = u ∧ rootn u = 1 := by
  obtain ⟨hr, hf, hn, hp⟩ := h
  have hne := ring_ne hr hf hn
  unfold root1 rootn
  rw [hp, List.take_length, core_join hr]
  exact ⟨rfl, Nat.div_self (List.length_pos_iff.mpr hne)⟩
theorem prim_root {f : List Nat} (hr : Row f) (hf : Free f) (hn : f ≠ []) : Prim (root1 f) := by
  have hne := ring_ne hr hf hn
  have hp := per_spec hne
  have h1 := prim_ne hr hf hn
  refine ⟨hr.root1, root1_free hr hf hn, ?_, ?_⟩
  · intro e
    have := ring_root1 hr hf hn
    rw [e, ring_nil] at this
    exact h1 this.symm
  · rw [ring_root1 hr hf hn]
    have e := ring_rep hr hf hn
    have := per_pow h1 (rootn_pos hr hf hn)
    rw [e] at this
    rw [← this, List.length_take, Nat.min_eq_left hp.2.1]
/-- what is alike a power of a row that is no power -/
theorem root_of {u w : List Nat} (hu : Prim u) {m : Nat} (hm : 0 < m) (hw : Row w) (h : Eqv (repL u m) w) : root1 (red w) = u ∧ rootn (red w) = m := by
  have h1 := root_pow hu.1 hm
  rw [← h.2.2, h1.1, h1.2, red_free hu.2.1 hu.1, hu.root.1, hu.root.2]
  exact ⟨rfl, by omega⟩
theorem prim_conj {u x : List Nat} (hu : Prim u) (hx : Row x) : Prim (red (x ++ u ++ bak x)) := by
  have hr : Row (x ++ u ++ bak x) := (hx.app hu.1).app hx.bak
  have t := ring_conj hx hu.1 hr (Eqv.refl hr)
  rw [red_free hu.2.1 hu.1] at t
  have hne := ring_ne hu.1 hu.2.1 hu.2.2.1
  have hp := t.per (per_spec hne)
  have hne2 : ring (red (x ++ u ++ bak x)) ≠ [] := by
    intro e
    have := t.len
    rw [e] at this
    exact hne (List.length_eq_zero_iff.mp this)
  refine ⟨hr.red, free_red hr, ?_, ?_⟩
  · intro e; rw [e] at hne2; exact hne2 rfl
  · rw [(per_spec hne2).uniq hp, hu.2.2.2, t.len]
theorem rot_app (A B : List Nat) : rot (A ++ B) A.length = B ++ A := by
  unfold rot; rw [List.drop_left, List.take_left]
theorem rot_bak {R : List Nat} {k : Nat} (hk : k ≤ R.length) : rot (bak R) k = bak (rot R (R.length - k)) := by
  obtain ⟨A, B, rfl, hB⟩ : ∃ A B, R = A ++ B ∧ B.length = k := ⟨R.take (R.length - k), R.drop (R.length - k), (List.take_append_drop _ _).symm, by rw [List.length_drop]; omega⟩
  subst hB
  have e1 := rot_app (bak B) (bak A)
  rw [bak_len] at e1
  rw [bak_app, e1, List.length_append, show A.length + B.length - B.length = A.length by omega, rot_app, bak_app]
theorem per_bak {R : List Nat} (hr : Row R) (h : R ≠ []) : per (bak R) = per R := by
  have hp := per_spec h
  have hb : bak R ≠ [] := by intro e; have := congrArg List.length e; rw [bak_len] at this; exact h (List.length_eq_zero_iff.mp this)
  refine (per_spec hb).uniq ⟨hp.1, by rw [bak_len]; exact hp.2.1, ?_, fun k a b e => ?_⟩
  · rw [rot_bak hp.2.1]
    have e2 : rot R (R.length - per R) = R := by
      conv => lhs; lhs; rw [← hp.2.2.1]
      rw [rot_rot R (by have := hp.2.1; omega), show per R + (R.length - per R) = R.length by have := hp.2.1; omega, rot_all]
    rw [e2]
  · have hk : k ≤ R.length := by have := hp.2.1; omega
    rw [rot_bak hk] at e
    have e1 := congrArg bak e
    rw [bak_bak (by exact (turn_rot R _).row hr), bak_bak hr] at e1
    have e2 : rot R k = R := by
      conv => lhs; lhs; rw [← e1]
      rw [rot_rot R (by omega), show R.length - k + k = R.length by omega, rot_all]
    exact hp.2.2.2 k a b e2
theorem core_bak {f : List Nat} (hr : Row f) (hf : Free f) : lead (bak f) = lead f ∧ ring (bak f) = bak (ring f) := by
  by_cases hn : f = []
  · subst hn; exact ⟨rfl, rfl⟩
  have hR := cy_ring hr hf
  have hne := ring_ne hr hf hn
  have hcb : Cy (bak (ring f)) := by
    refine ⟨hR.1.bak, ?_⟩
    rw [← bak_app]
    exact free_bak (hR.1.app hR.1) hR.2
  have hb : bak (ring f) ≠ [] := by intro e; have := congrArg List.length e; rw [bak_len] at this; exact hne (List.length_eq_zero_iff.mp this)
  have e : bak f = lead f ++ bak (ring f) ++ bak (lead f) := by
    conv => lhs; rw [← core_join hr]
    rw [bak_app, bak_app, bak_bak hr.lead, List.append_assoc]
  rw [e]
  exact ⟨lead_of hr.lead hcb hb, ring_of hr.lead hcb hb⟩
theorem prim_bak {u : List Nat} (hu : Prim u) : Prim (bak u) := by
  have hne := ring_ne hu.1 hu.2.1 hu.2.2.1
  refine ⟨hu.1.bak, free_bak hu.1 hu.2.1, ?_, ?_⟩
  · intro e; have := congrArg List.length e; rw [bak_len] at this; exact hu.2.2.1 (List.length_eq_zero_iff.mp this)
  · rw [(core_bak hu.1 hu.2.1).2, per_bak hu.1.ring hne, bak_len]; exact hu.2.2.2
/-- roots of a row within a lead -/
theorem root_conj {w x : List Nat} (hw : Row w) (hx : Row x) (hn : red w ≠ []) : root1 (red (x ++ w ++ bak x)) = red (x ++ root1 (red w) ++ bak x) ∧ rootn (red (x ++ w ++ bak x)) = rootn (red w) := by
  have hf := free_red hw
  have hu := prim_root hw.red hf hn
  have h1 := (root_rep hw.red hf hn).trans (Eqv.red hw)
  have h0 := rootn_pos hw.red hf hn
  refine root_of (prim_conj hu hx) h0 ((hx.app hw).app hx.bak) ?_
  have h2 := (Eqv.red ((hx.app hu.1).app hx.bak)).rep (rootn (red w))
  exact (h2.trans (conj_rep hx hu.1 _)).trans ((Eqv.appL x hx h1).appR _ hx.bak)
theorem root_bak {w : List Nat} (hw : Row w) : root1 (red (bak w)) = bak (root1 (red w)) ∧ rootn (red (bak w)) = rootn (red w) := by
  by_cases hn : red w = []
  · rw [red_bak_comm hw, hn]; exact ⟨by rw [show bak [] = [] from rfl, root1_nil]; rfl, rfl⟩
  have hf := free_red hw
  have hu := prim_root hw.red hf hn
  have h1 := ((root_rep hw.red hf hn).trans (Eqv.red hw)).bak
  rw [bak_repL] at h1
  exact root_of (prim_bak hu) (rootn_pos hw.red hf hn) hw.bak h1
end NX
namespace NX
/-! ### rows that pass by one another -/
theorem Com.eqv {a b c d : List Nat} (h : Com a b) (g1 : Eqv a c) (g2 : Eqv b d) : Com c d := ((g1.symm.app g2.symm).trans h).trans (g2.app g1)
theorem com_conj {a b : List Nat} (ha : Row a) (hb : Row b) (h : Com a b) : Eqv (b ++ a ++ bak b) a := by
  have h1 : Eqv (b ++ a ++ bak b) (a ++ b ++ bak b) := Eqv.appR _ hb.bak (Eqv.symm h)
  have h2 := Eqv.mid' (a := a) (b := []) ha Row.nil hb
  simp only [List.append_assoc, List.append_nil] at h1 h2
  rw [List.append_assoc]
  exact h1.trans h2
theorem conj_com {a b : List Nat} (ha : Row a) (hb : Row b) (h : Eqv (b ++ a ++ bak b) a) : Com a b := by
  have h1 := h.appR b hb
  have h2 := Eqv.mid (a := b ++ a) (b := []) (hb.app ha) Row.nil hb
  simp only [List.append_assoc, List.append_nil] at h1 h2
  unfold Com
  exact h1.symm.trans h2
theorem eqv_of_root {w f : List Nat} (hw : Row w) (hf : Row f) (h1 : root1 (red w) = root1 (red f)) (h2 : rootn (red w) = rootn (red f)) : Eqv w f := by
  by_cases a : red w = []
  · by_cases b : red f = []
    · exact ⟨hw, hf, by rw [a, b]⟩
    · have := rootn_pos hf.red (free_red hf) b
      rw [← h2, a, rootn_nil] at this
      omega
  · by_cases b : red f = []
    · have := rootn_pos hw.red (free_red hw) a
      rw [h2, b, rootn_nil] at this
      omega
    · have e1 := (root_rep hw.red (free_red hw) a).trans (Eqv.red hw)
      have e2 := (root_rep hf.red (free_red hf) b).trans (Eqv.red hf)
      rw [h1, h2] at e1
      exact e1.symm.trans e2
theorem com_pow {f g : List Nat} (hf : Row f) (hg : Row g) {m : Nat} (hm : 0 < m) : Com (repL f m) g ↔ Com f g := by
  constructor
  · intro h
    have hw : Row (g ++ f ++ bak g) := (hg.app hf).app hg.bak
    have h1 := com_conj (hf.rep m) hg h
    have h2 := (conj_rep hg hf m).trans h1
    have r1 := root_pow hw hm
    have r2 := root_pow hf hm
    rw [h2.2.2, r2.1, r2.2] at r1
    exact conj_com hf hg (eqv_of_root hw hf r1.1.symm (Nat.eq_of_mul_eq_mul_right hm r1.2).symm)
  · intro h
    exact (Com.rep hg hf h.symm m).symm
theorem com_bak {f g : List Nat} (hf : Row f) (hg : Row g) : Com (bak f) g ↔ Com f g := by
  constructor
  · intro h
    have := Com.bak hg hf.bak h.symm
    rw [bak_bak hf] at this
    exact this.symm
  · intro h
    exact (Com.bak hg hf h.symm).symm
/-- a lead around a ring row, alike a ring row: the lead's end goes with it -/
theorem ends {y R S : List Nat} {c : Nat} (hx : Row (y ++ [c])) (fx : Free (y ++ [c])) (hR : Cy R) (hR0 : R ≠ []) (hS : Cy S) (h : Eqv (y ++ [c] ++ R ++ bak (y ++ [c])) S) :
    (∃ R', R = swp c :: R') ∨ ∃ R2, R = R2 ++ [c] := by
  refine Classical.byContradiction fun hn => ?_
  have hc : lett c = true := hx.of_app.2.of_cons.1
  have eb : bak (y ++ [c]) = [swp c] ++ bak y := by simp [bak]
  obtain ⟨d, R', eR⟩ : ∃ d R', R = d :: R' := by
    cases R with
    | nil => exact absurd rfl hR0
    | cons d R' => exact ⟨d, R', rfl⟩
  obtain ⟨R2, z, eR2⟩ : ∃ R2 z, R = R2 ++ [z] := ⟨R.dropLast, R.getLast hR0, (List.dropLast_concat_getLast hR0).symm⟩
  have c1 : ¬ d = swp c := fun e => hn (.inl ⟨R', by rw [eR, e]⟩)
  have c2 : ¬ z = c := fun e => hn (.inr ⟨R2, by rw [eR2, e]⟩)
  have hz : lett z = true := hR.1 z (by rw [eR2]; simp)
  have f1 : Free (y ++ [c] ++ R) := by rw [eR]; exact free_join fx (eR ▸ hR.free) c1
  have fb := free_bak hx fx
  have f2 : Free (R ++ bak (y ++ [c])) := by
    rw [eb] at fb ⊢
    rw [eR2]
    refine free_join (d := swp c) (by rw [← eR2]; exact hR.free) fb ?_
    intro e
    have := congrArg swp e
    rw [swp_swp hc, swp_swp hz] at this
    exact c2 this.symm
  have f3 : Free (y ++ [c] ++ (R ++ bak (y ++ [c]))) := free_glue f1 f2 hR0
  have e := h.2.2
  rw [List.append_assoc, red_free f3 (hx.app (hR.1.app hx.bak)), red_free hS.free hS.1] at e
  have h2 := hS.2
  rw [← e] at h2
  obtain ⟨a, x', ex⟩ : ∃ a x', y ++ [c] = a :: x' := by
    cases hh : y ++ [c] with
    | nil => simp at hh
    | cons a x' => exact ⟨a, x', rfl⟩
  rw [ex] at h2 hx
  have ha : lett a = true := hx.of_cons.1
  have e5 : bak (a :: x') = bak x' ++ [swp a] := by simp [bak]
  rw [e5] at h2
  have e6 : a :: x' ++ (R ++ (bak x' ++ [swp a])) ++ (a :: x' ++ (R ++ (bak x' ++ [swp a]))) = (a :: x' ++ (R ++ bak x')) ++ (swp a :: a :: (x' ++ (R ++ (bak x' ++ [swp a])))) := by simp
  rw [e6] at h2
  have h7 := (free_app_r h2).1
  exact h7 (swp_swp ha).symm
theorem getD_rot1 {d : Nat} {R' : List Nat} {i : Nat} (hi : i < R'.length + 1) : (R' ++ [d]).getD i 0 = (d :: R').getD ((i + 1) % (R'.length + 1)) 0 := by
  by_cases h : i < R'.length
  · rw [Nat.mod_eq_of_lt (by omega), List.getD_cons_succ, List.getD_eq_getElem?_getD, List.getD_eq_getElem?_getD, List.getElem?_append_left h]
  · have e : i = R'.length := by omega
    subst e
    rw [Nat.mod_self]
    simp
theorem cent1 : ∀ (n : Nat) (x R S : List Nat), x.length = n → Row x → Free x → Cy R → R ≠ [] → Cy S → Eqv (x ++ R ++ bak x) S → (∀ y c, x = y ++ [c] → ∃ R', R = swp c :: R') →
    (∀ j, j < n → (bak x).getD j 0 = R.getD (j % R.length) 0) ∧ S = rot R (n % R.length)
  | 0, x, R, S, hn, _, _, hR, h0, hS, h, _ => by
    rw [List.length_eq_zero_iff.mp hn] at h
    have e := h.2.2
    rw [show bak [] = [] from rfl, List.append_nil, List.nil_append, red_free hR.free hR.1, red_free hS.free hS.1] at e
    exact ⟨fun j hj => absurd hj (by omega), by rw [Nat.zero_mod, rot_zero, e]⟩
  | n + 1, x, R, S, hn, hx, fx, hR, h0, hS, h, hh => by
    have hne : x ≠ [] := by intro e; subst e; simp at hn
    obtain ⟨y, c, rfl⟩ : ∃ y c, x = y ++ [c] := ⟨x.dropLast, x.getLast hne, (List.dropLast_concat_getLast hne).symm⟩
    obtain ⟨R', rfl⟩ := hh y c rfl
    have hy : Row y := hx.of_app.1
    have hc : lett c = true := hx.of_app.2.of_cons.1
    have hcr : Row [c] := Row.one hc
    have hsr : Row [swp c] := Row.one (swp_lett hc)
    have hny : y.length = n := by simpa using hn
    have eb : bak (y ++ [c]) = [swp c] ++ bak y := by simp [bak]
    have fy : Free y := free_app_l fx
    have hR' : Row R' := hR.1.of_cons.2
    have t : Turn (swp c :: R') (R' ++ [swp c]) := ⟨[swp c], R', rfl, rfl⟩
    have h1 : Eqv (y ++ (R' ++ [swp c]) ++ bak y) S := by
      have := Eqv.mid' (a := y) (b := R' ++ ([swp c] ++ bak y)) (c := [c]) hy (hR'.app (hsr.app hy.bak)) hcr
      rw [show bak [c] = [swp c] from rfl] at this
      rw [eb] at h
      simp only [List.append_assoc, List.cons_append, List.nil_append] at this h ⊢
      exact this.symm.trans h
    have ih := cent1 n y (R' ++ [swp c]) S hny hy fy (hR.turn t) (by simp) hS h1 fun z d ez => by
      subst ez
      rcases ends hy fy (hR.turn t) (by simp) hS h1 with ⟨R2, e⟩ | ⟨R2, e⟩
      · exact ⟨R2, e⟩
      · exfalso
        have e2 := (List.append_inj' e rfl).2
        have e3 : swp c = d := (List.cons.inj e2).1
        rw [List.append_assoc] at fx
        have f2 := free_app_r fx
        have f3 : c ≠ swp d := f2.1
        rw [← e3, swp_swp hc] at f3
        exact f3 rfl
    obtain ⟨i1, i2⟩ := ih
    have hL : (R' ++ [swp c]).length = R'.length + 1 := by simp
    have hL2 : (swp c :: R').length = R'.length + 1 := by simp
    rw [hL] at i1 i2
    rw [hL2]
    refine ⟨fun j hj => ?_, ?_⟩
    · rw [eb]
      cases j with
      | zero => simp
      | succ j =>
        show (bak y).getD j 0 = _
        rw [i1 j (by omega), getD_rot1 (Nat.mod_lt _ (by omega)), Nat.mod_add_mod]
    · rw [i2]
      have e1 : R' ++ [swp c] = rot (swp c :: R') 1 := rfl
      have hm := Nat.mod_lt n (show 0 < R'.length + 1 by omega)
      rw [e1, rot_rot _ (by rw [hL2]; omega)]
      by_cases hlt : n % (R'.length + 1) + 1 < R'.length + 1
      · have : (n + 1) % (R'.length + 1) = n % (R'.length + 1) + 1 := by
          rw [← Nat.mod_add_mod, Nat.mod_eq_of_lt hlt]
        rw [this, Nat.add_comm]
      · have e2 : n % (R'.length + 1) + 1 = R'.length + 1 := by omega
        have : (n + 1) % (R'.length + 1) = 0 := by
          rw [← Nat.mod_add_mod, e2, Nat.mod_self]
        rw [this, rot_zero, Nat.add_comm, e2, ← hL2, rot_all]
theorem getD_repL (l : List Nat) : ∀ (k j : Nat), j < k * l.length → (repL l k).getD j 0 = l.getD (j % l.length) 0
  | 0, j, h => by omega
  | k + 1, j, h => by
    rw [repL_succ]
    by_cases c : j < l.length
    · rw [Nat.mod_eq_of_lt c, List.getD_eq_getElem?_getD, List.getD_eq_getElem?_getD, List.getElem?_append_left c]
    · have e := getD_repL l k (j - l.length) (by rw [Nat.succ_mul] at h; omega)
      rw [List.getD_eq_getElem?_getD, List.getElem?_append_right (by omega), ← List.getD_eq_getElem?_getD, e, ← Nat.mod_eq_sub_mod (by omega)]
theorem cent2 {U x : List Nat} (hU : Cy U) (h0 : U ≠ []) (hp : per U = U.length) (hx : Row x) (fx : Free x) (h : Eqv (x ++ U ++ bak x) U) (hh : ∀ y c, x = y ++ [c] → ∃ R', U = swp c :: R') : ∃ k, bak x = repL U k := by
  obtain ⟨h1, h2⟩ := cent1 _ x U U rfl hx fx hU h0 hU h hh
  have hq := per_spec h0
  have hm := Nat.mod_lt x.length (List.length_pos_iff.mpr h0)
  have hd := hq.dvd (d := x.length % U.length) (by omega) h2.symm
  rw [hp] at hd
  have hz : x.length % U.length = 0 := by
    rcases Nat.eq_zero_or_pos (x.length % U.length) with h3 | h3
    · exact h3
    · have := Nat.le_of_dvd h3 hd; omega
  obtain ⟨k, hk⟩ := Nat.dvd_of_mod_eq_zero hz
  refine ⟨k, ext_getD ?_ fun j hj => ?_⟩
  · rw [bak_len, repL_len', hk, Nat.mul_comm]
  · rw [bak_len] at hj
    rw [h1 j hj, getD_repL U k j (by rw [Nat.mul_comm, ← hk]; exact hj)]
theorem bak_conj (U : List Nat) {x : List Nat} (hx : Row x) : bak (x ++ U ++ bak x) = x ++ bak U ++ bak x := by
  rw [bak_app, bak_app, bak_bak hx, List.append_assoc]
theorem cent {U x : List Nat} (hU : Cy U) (h0 : U ≠ []) (hp : per U = U.length) (hx : Row x) (fx : Free x) (h : Com U x) : ∃ k, x = repL (bak U) k ∨ x = repL U k := by
  have h1 := com_conj hU.1 hx h
  by_cases hn : x = []
  · exact ⟨0, .inl (by rw [hn]; rfl)⟩
  obtain ⟨y, c, rfl⟩ : ∃ y c, x = y ++ [c] := ⟨x.dropLast, x.getLast hn, (List.dropLast_concat_getLast hn).symm⟩
  rcases ends hx fx hU h0 hU h1 with ⟨R', e⟩ | ⟨R2, e⟩
  · obtain ⟨k, hk⟩ := cent2 hU h0 hp hx fx h1 fun y' c' e' => by
      have : c' = c := ((List.cons.inj (List.append_inj' e' rfl).2).1).symm
      rw [this]; exact ⟨R', e⟩
    refine ⟨k, .inl ?_⟩
    have := congrArg bak hk
    rw [bak_bak hx, bak_repL] at this
    exact this
  · have hB : Cy (bak U) := ⟨hU.1.bak, by rw [← bak_app]; exact free_bak (hU.1.app hU.1) hU.2⟩
    have hB0 : bak U ≠ [] := by intro e; have := congrArg List.length e; rw [bak_len] at this; exact h0 (List.length_eq_zero_iff.mp this)
    have h2 : Eqv (y ++ [c] ++ bak U ++ bak (y ++ [c])) (bak U) := by
      have := h1.bak
      rw [bak_conj U hx] at this
      exact this
    obtain ⟨k, hk⟩ := cent2 hB hB0 (by rw [per_bak hU.1 h0, bak_len]; exact hp) hx fx h2 fun y' c' e' => by
      have : c' = c := ((List.cons.inj (List.append_inj' e' rfl).2).1).symm
      rw [this, e]
      exact ⟨bak R2, by simp [bak]⟩
    refine ⟨k, .inr ?_⟩
    have := congrArg bak hk
    rw [bak_bak hx, bak_repL, bak_bak hU.1] at this
    exact this
theorem prim_com {u v : List Nat} (hu : Prim u) (hv : Prim v) (h : Com u v) : u = v ∨ u = bak v := by
  have hc := cy_ring hu.1 hu.2.1
  have hne := ring_ne hu.1 hu.2.1 hu.2.2.1
  have hL := hu.1.lead
  have eu := core_join hu.1
  have hx : Row (bak (lead u) ++ v ++ lead u) := (hL.bak.app hv.1).app hL
  have h1 := Com.conj hu.1 hv.1 hL.bak h
  rw [bak_bak hL] at h1
  have h2 : Eqv (bak (lead u) ++ u ++ lead u) (ring u) := by
    conv => lhs; lhs; rhs; rw [← eu]
    have a1 := Eqv.mid (a := []) (b := ring u ++ (bak (lead u) ++ lead u)) Row.nil (hc.1.app (hL.bak.app hL)) hL
    have a2 := Eqv.mid (a := ring u) (b := []) hc.1 Row.nil hL
    simp only [List.append_assoc, List.nil_append, List.append_nil] at a1 a2 ⊢
    exact a1.trans a2
  have h3 : Com (ring u) (red (bak (lead u) ++ v ++ lead u)) := h1.eqv h2 (Eqv.red hx).symm
  obtain ⟨k, hk⟩ := cent hc hne hu.2.2.2 hx.red (free_red hx) h3
  -- v is alike lead u, x, the back of lead u
  have h4 : Eqv (lead u ++ red (bak (lead u) ++ v ++ lead u) ++ bak (lead u)) v := by
    have b1 := (Eqv.appL (lead u) hL (Eqv.red hx)).appR (bak (lead u)) hL.bak
    have a1 := Eqv.mid' (a := []) (b := v ++ (lead u ++ bak (lead u))) Row.nil (hv.1.app (hL.app hL.bak)) hL
    have a2 := Eqv.mid' (a := v) (b := []) hv.1 Row.nil hL
    simp only [List.append_assoc, List.nil_append, List.append_nil] at a1 a2 b1 ⊢
    exact b1.trans (a1.trans a2)
  have key : ∀ W, Prim W → Eqv (repL W k) v → W = v := fun W hW h5 => by
    have k0 : 0 < k := by
      rcases Nat.eq_zero_or_pos k with rfl | h6
      · have := h5.2.2
        rw [repL_zero, red_nil, red_free hv.2.1 hv.1] at this
        exact absurd this.symm hv.2.2.1
      · exact h6
    have := (root_of hW k0 hv.1 h5).1
    rw [red_free hv.2.1 hv.1, hv.root.1] at this
    exact this.symm
  rcases hk with e | e
  · right
    rw [e] at h4
    have h5 := (conj_rep hL hc.1.bak k).trans h4
    have e6 : lead u ++ bak (ring u) ++ bak (lead u) = bak u := by
      conv => rhs; rw [← eu]
      rw [bak_app, bak_app, bak_bak hL, List.append_assoc]
    rw [e6] at h5
    have := key _ (prim_bak hu) h5
    rw [← this, bak_bak hu.1]
  · left
    rw [e] at h4
    have h5 := (conj_rep hL hc.1 k).trans h4
    rw [eu] at h5
    exact key _ hu h5
/-- when rows pass by one another -/
theorem com_due {f g : List Nat} (hf : Row f) (hg : Row g) : Com f g ↔ root1 (red f) = [] ∨ root1 (red g) = [] ∨ root1 (red f) = root1 (red g) ∨ root1 (red f) = bak (root1 (red g)) := by
  by_cases a : red f = []
  · have e : Eqv f [] := ⟨hf, Row.nil, a⟩
    exact ⟨fun _ => .inl (by rw [a, root1_nil]), fun _ => (Com.nil' hg).eqv e.symm (Eqv.refl hg)⟩
  by_cases b : red g = []
  · have e : Eqv g [] := ⟨hg, Row.nil, b⟩
    exact ⟨fun _ => .inr (.inl (by rw [b, root1_nil])), fun _ => (Com.nil hf).eqv (Eqv.refl hf) e.symm⟩
  have pf := prim_root hf.red (free_red hf) a
  have pg := prim_root hg.red (free_red hg) b
  have ef := (root_rep hf.red (free_red hf) a).trans (Eqv.red hf)
  have eg := (root_rep hg.red (free_red hg) b).trans (Eqv.red hg)
  have nf := rootn_pos hf.red (free_red hf) a
  have ng := rootn_pos hg.red (free_red hg) b
  generalize root1 (red f) = u at *
  generalize root1 (red g) = v at *
  have key : Com f g ↔ Com u v := by
    constructor
    · intro h
      have h1 := h.eqv ef.symm eg.symm
      have h2 := (com_pow pf.1 (pg.1.rep _) nf).mp h1
      exact ((com_pow pg.1 pf.1 ng).mp h2.symm).symm
    · intro h
      have h1 := ((com_pow pg.1 pf.1 ng).mpr h.symm).symm
      exact ((com_pow pf.1 (pg.1.rep _) nf).mpr h1).eqv ef eg
  rw [key]
  constructor
  · intro h; exact .inr (.inr (prim_com pf pg h))
  · rintro (h | h | h | h)
    · exact absurd h pf.2.2.1
    · exact absurd h pg.2.2.1
    · rw [h]; exact Com.refl pg.1
    · rw [h]; exact (com_bak pg.1 pg.1).mpr (Com.refl pg.1)
/-- rings of powers -/
theorem alk_pow {f g : List Nat} (hf : Row f) (hg : Row g) {m : Nat} (hm : 0 < m) : alk (red (repL f m)) (red (repL g m)) = alk (red f) (red g) := by
  rw [Bool.eq_iff_iff, alk_iff, alk_iff, ring_pow hf, ring_pow hg]
  constructor
  · intro h
    have hl := h.len
    rw [repL_len', repL_len'] at hl
    have hl2 : (ring (red g)).length = (ring (red f)).length := Nat.eq_of_mul_eq_mul_left hm hl
    by_cases h0 : ring (red g) = []
    · rw [h0] at hl2 ⊢
      rw [List.length_eq_zero_iff.mp hl2.symm]
      exact Turn.refl _
    obtain ⟨i, hi, e⟩ := h.rot
    -- the turn within one ring row
    have hR : 0 < (ring (red g)).length := List.length_pos_iff.mpr h0
    generalize ring (red g) = R at *
    generalize ring (red f) = S at *
    have hmod := Nat.mod_lt i hR
    have e2 : rot (repL R m) i = repL (rot R (i % R.length)) m := by
      have e3 : rot (repL R m) i = rot (repL R m) (i % R.length) := by
        have hq : i = i / R.length * R.length + i % R.length := by rw [Nat.mul_comm]; exact (Nat.div_add_mod i R.length).symm
        have h6 := rot_rot (repL R m) (i := i / R.length * R.length) (j := i % R.length) (by omega)
        rw [rot_mul (rot_repL R m) (i / R.length) (by omega)] at h6
        rw [h6, ← hq]
      rw [e3]
      have h7 : ∀ A B : List Nat, ∀ n, rot (repL (A ++ B) (n + 1)) A.length = repL (B ++ A) (n + 1) := by
        intro A B n
        have h8 : ∀ n, A ++ repL (B ++ A) n = repL (A ++ B) n ++ A := by
          intro n
          induction n with
          | zero => simp [repL_zero]
          | succ n ih => rw [repL_succ, repL_succ, List.append_assoc, List.append_assoc, ih, List.append_assoc]
        have h9 : repL (A ++ B) (n + 1) = A ++ (repL (B ++ A) n ++ B) := by
          rw [← repL_snoc, ← List.append_assoc, ← List.append_assoc, h8 n]
        rw [h9, rot_app, List.append_assoc, repL_snoc]
      obtain ⟨n, rfl⟩ : ∃ n, m = n + 1 := ⟨m - 1, by omega⟩
      have h10 := h7 (R.take (i % R.length)) (R.drop (i % R.length)) n
      rw [List.take_append_drop, List.length_take, Nat.min_eq_left (by omega)] at h10
      exact h10
    rw [e2] at e
    rw [repL_inj hm e]
    exact turn_rot _ _
  · rintro ⟨A, B, e1, e2⟩
    rw [e1, e2]
    obtain ⟨n, rfl⟩ : ∃ n, m = n + 1 := ⟨m - 1, by omega⟩
    refine ⟨A, repL (B ++ A) n ++ B, ?_, ?_⟩
    · have h8 : ∀ n, A ++ repL (B ++ A) n = repL (A ++ B) n ++ A := by
        intro n
        induction n with
        | zero => simp [repL_zero]
        | succ n ih => rw [repL_succ, repL_succ, List.append_assoc, List.append_assoc, ih, List.append_assoc]
      rw [← repL_snoc, ← List.append_assoc, ← List.append_assoc, h8 n]
    · rw [List.append_assoc, repL_snoc]
theorem root_all {w : List Nat} (hw : Row w) : Eqv (repL (root1 (red w)) (rootn (red w))) w := by
  by_cases h : red w = []
  · rw [h, root1_nil, rootn_nil, repL_zero]
    exact ⟨Row.nil, hw, by rw [h, red_nil]⟩
  · exact (root_rep hw.red (free_red hw) h).trans (Eqv.red hw)
theorem com_dec {f g : List Nat} (hf : Row f) (hg : Row g) : red (f ++ g) = red (g ++ f) ↔ Com f g := ⟨fun h => ⟨hf.app hg, hg.app hf, h⟩, fun h => h.2.2⟩
theorem com_self {f g : List Nat} (hf : Row f) (hg : Row g) : Com f (f ++ g ++ bak f) ↔ Com f g := by
  have key : ∀ {x y}, Row x → Row y → Com x y → Com x (x ++ y ++ bak x) := fun {x y} hx hy h => by
    have h1 := Com.conj hx hy hx h
    have h2 := Com.conj hx hx hx (Com.refl hx)
    have h3 : Eqv (x ++ x ++ bak x) x := by
      have := Eqv.mid' (a := x) (b := []) hx Row.nil hx
      simp only [List.append_assoc, List.append_nil] at this ⊢
      exact this
    exact h1.eqv h3 (Eqv.refl ((hx.app hy).app hx.bak))
  constructor
  · intro h
    have hw : Row (f ++ g ++ bak f) := (hf.app hg).app hf.bak
    have h1 := key hf.bak hw ((com_bak hf hw).mpr h)
    rw [bak_bak hf] at h1
    have h2 := (com_bak hf ((hf.bak.app hw).app hf)).mp h1
    refine h2.eqv (Eqv.refl hf) ?_
    have a1 := Eqv.mid (a := []) (b := g ++ (bak f ++ f)) Row.nil (hg.app (hf.bak.app hf)) hf
    have a2 := Eqv.mid (a := g) (b := []) hg Row.nil hf
    simp only [List.append_assoc, List.nil_append, List.append_nil] at a1 a2 ⊢
    exact a1.trans a2
  · exact key hf hg
theorem com_due' {f g : List Nat} (hf : Row f) (hg : Row g) : (red (f ++ g) = red (g ++ f)) ↔ root1 (red f) = [] ∨ root1 (red g) = [] ∨ root1 (red f) = root1 (red g) ∨ root1 (red f) = bak (root1 (red g)) := by
  rw [com_dec hf hg]; exact com_due hf hg
theorem rep_flat' (l : List Nat) (n : Nat) : (List.replicate n l).flatten = repL l n := rfl
end NX
namespace NX
open PySem PySem.Spec PyProof.Rows L2
section
variable {X : Cx} {pos : Pos}
theorem pg_lstK (K : PySem.W.Frag) {es : List Expr} {k : Nat} {t : TGs} {n : Nat} (hc : X.calm = true) (h : PGs X es t) (hK : X.K = K := by rfl)
    (hn : (assignEach es X.env).length = n := by rfl) (hst : (assignEach es X.env).findIdx? (·.1) = none := by rfl) : PG X (.Tuple es k pos) (gLst K n t) := hK ▸ pg_lst hc h hn hst
theorem cr_sortedSK (K : PySem.W.Frag) (hK : X.K = K := by rfl) : CallR X (.builtin "sorted") (rSortedS K) := hK ▸ cr_sortedS
end
section
variable {K : PySem.W.Frag} {σ : L2.St} {H : Hp} {Q : VK}
theorem r_glst {n : Nat} {g : TGs} {a : Addr} {xs : List V} {QN : L2.St → Hp → Prop} (e : SqL K H a xs) (hl : xs.length = n) (h : g xs σ H QN) : gLst K n g (.ref a) σ H QN := ⟨a, xs, rfl, e, hl, h⟩
/-! ### sorted texts -/
theorem rising_pw : ∀ (p : Str) (l : List Str), risingS p l = true → (p :: l).Pairwise (fun a b => a.cps.toList ≤ b.cps.toList)
  | p, [], _ => by simp
  | p, x :: r, h => by
    have h' : (!ltCps x.cps.toList p.cps.toList && risingS x r) = true := h
    rw [Bool.and_eq_true] at h'
    have ih := rising_pw x r h'.2
    have h1 : p.cps.toList ≤ x.cps.toList := by
      have h3 := h'.1
      rw [ltCps_eq] at h3
      exact List.not_lt.mp (by simpa using h3)
    refine List.pairwise_cons.mpr ⟨fun y hy => ?_, ih⟩
    rcases List.mem_cons.mp hy with e | hy
    · rw [e]; exact h1
    · exact List.le_trans h1 ((List.pairwise_cons.mp ih).1 y hy)
theorem sorted_pw (l : List Str) (h : sortedS l = true) : l.Pairwise (fun a b => a.cps.toList ≤ b.cps.toList) := by
  cases l with
  | nil => exact List.Pairwise.nil
  | cons p r => exact rising_pw p r h
theorem sorted_uniq {ys zs : List Str} (hp : ys.Perm zs) (hy : sortedS ys = true) (hz : sortedS zs = true) : ys = zs := by
  refine List.Perm.eq_of_pairwise (le := fun a b : Str => a.cps.toList ≤ b.cps.toList) (fun a b _ _ h1 h2 => ?_) (sorted_pw _ hy) (sorted_pw _ hz) hp
  have e := List.le_antisymm h1 h2
  obtain ⟨a⟩ := a; obtain ⟨b⟩ := b
  have : a.toList = b.toList := e
  rw [Array.toList_inj.mp this]
/-- the turns of a row -/
def rots (R : List Nat) : List (List Nat) := (List.range R.length).map (rot R)
theorem rots_turn {R S : List Nat} (h : Turn R S) : (rots R).Perm (rots S) := by
  obtain ⟨i, hi, rfl⟩ := h.rot
  unfold rots
  rw [rot_len]
  have e1 : List.range R.length = List.range i ++ (List.range (R.length - i)).map (i + ·) := by
    rw [← List.range_add]; congr 1; omega
  have e2 : List.range R.length = List.range (R.length - i) ++ (List.range i).map ((R.length - i) + ·) := by
    rw [← List.range_add]; congr 1; omega
  conv => lhs; rw [e1]
  conv => rhs; rw [e2]
  rw [List.map_append, List.map_append, List.map_map, List.map_map]
  have h1 : (List.range (R.length - i)).map (rot R ∘ (i + ·)) = (List.range (R.length - i)).map (rot (rot R i)) := by
    refine List.map_congr_left fun k hk => ?_
    have := List.mem_range.mp hk
    exact (rot_rot R (by omega)).symm
  have h2 : (List.range i).map (rot (rot R i) ∘ ((R.length - i) + ·)) = (List.range i).map (rot R) := by
    refine List.map_congr_left fun j hj => ?_
    have := List.mem_range.mp hj
    show rot (rot R i) ((R.length - i) + j) = rot R j
    rw [← rot_rot (rot R i) (by rw [rot_len]; omega), rot_rot R (by omega), show i + (R.length - i) = R.length by omega, rot_all]
  rw [h1, h2]
  exact List.perm_append_comm
theorem r_sortedS {p : Addr} {ls : List (List Nat)} (e : SqL K H p (ls.map T)) (hl : ls.length < 64) (h : ∀ (zs : List (List Nat)) (d : Addr), zs.Perm ls → sortedS (zs.map mkS) = true → H d = none → Q (.ref d) (upd H d (.lst (zs.map T)))) : rSortedS K [.ref p] H Q := by
  refine ⟨p, ls.map mkS, rfl, by rw [List.map_map]; exact e, by rw [List.length_map]; exact hl, fun ys d hp hs nd => ?_⟩
  have e2 : (ys.map fun s : Str => s.cps.toList).map mkS = ys := by
    rw [List.map_map]
    conv => rhs; rw [← List.map_id ys]
    exact List.map_congr_left fun s _ => by cases s; rfl
  have e3 : ys.map V.str = (ys.map fun s : Str => s.cps.toList).map T := by
    conv => lhs; rw [← e2]
    rw [List.map_map]; rfl
  rw [e3]
  refine h _ d ?_ (by rw [e2]; exact hs) nd
  have h5 := hp.map fun s : Str => s.cps.toList
  rw [List.map_map] at h5
  have h6 : ls.map ((fun s : Str => s.cps.toList) ∘ mkS) = ls := by
    conv => rhs; rw [← List.map_id ls]
    exact List.map_congr_left fun s _ => rfl
  rw [h6] at h5
  exact h5
theorem sorted_one {zs ws ls ms : List (List Nat)} (h1 : zs.Perm ls) (h2 : ws.Perm ms) (hp : ls.Perm ms) (s1 : sortedS (zs.map mkS) = true) (s2 : sortedS (ws.map mkS) = true) : zs = ws := by
  have h := sorted_uniq ((h1.trans (hp.trans h2.symm)).map mkS) s1 s2
  exact List.map_inj_right (fun a b e => mkS_inj e) |>.mp h
end
theorem row2 {a b : List Nat} (ha : Row a) (hb : Row b) : ∀ l ∈ [a, b], Row l := fun x hx => by
  simp only [List.mem_cons, List.not_mem_nil, or_false] at hx
  rcases hx with rfl | rfl
  · exact ha
  · exact hb
theorem row3 {a b c : List Nat} (ha : Row a) (hb : Row b) (hc : Row c) : ∀ l ∈ [a, b, c], Row l := fun x hx => by
  simp only [List.mem_cons, List.not_mem_nil, or_false] at hx
  rcases hx with rfl | rfl | rfl
  · exact ha
  · exact hb
  · exact hc
theorem conj_back {x a b : List Nat} (hx : Row x) (hb : Row b) (h : Eqv (x ++ b ++ bak x) a) : Eqv (bak x ++ a ++ x) b := by
  have h1 := (Eqv.appL (bak x) hx.bak h).appR x hx
  have a1 := Eqv.mid (a := []) (b := b ++ (bak x ++ x)) Row.nil (hb.app (hx.bak.app hx)) hx
  have a2 := Eqv.mid (a := b) (b := []) hb Row.nil hx
  simp only [List.append_assoc, List.nil_append, List.append_nil] at h1 a1 a2 ⊢
  exact h1.symm.trans (a1.trans a2)
theorem conj_through {x y a b c : List Nat} (hx : Row x) (hy : Row y) (hc : Row c) (h : Eqv (x ++ b ++ bak x) a) (g : Eqv (y ++ c ++ bak y) b) : Eqv (red (x ++ y) ++ c ++ bak (red (x ++ y))) a := by
  have h0 := Eqv.red (hx.app hy)
  have h1 := (h0.appR c hc).app h0.bak
  rw [bak_app] at h1
  have h2 := (Eqv.appL x hx g).appR (bak x) hx.bak
  simp only [List.append_assoc] at h1 h2 h ⊢
  exact h1.trans (h2.trans h)
theorem alk_conj {x a b : List Nat} (hx : Row x) (hb : Row b) (h : Eqv (x ++ b ++ bak x) a) : alk (red a) (red b) = true ∧ alk (red b) (red a) = true := by
  have t := ring_conj hx hb h.2.1 h
  exact ⟨(alk_iff _ _).mpr t, (alk_iff _ _).mpr t.symm⟩
theorem alk_comm (f g : List Nat) : alk f g = alk g f := by
  rw [Bool.eq_iff_iff, alk_iff, alk_iff]
  exact ⟨Turn.symm, Turn.symm⟩
theorem alk_same {f g : List Nat} (h : alk f g = true) (t : List Nat) : alk f t = alk g t := by
  rw [alk_iff] at h
  rw [Bool.eq_iff_iff, alk_iff, alk_iff]
  exact ⟨fun k => k.trans h.symm, fun k => k.trans h⟩
theorem rots_map (R : List Nat) : (List.range R.length).filterMap (fun i => some (T (rot R i))) = (rots R).map T := by
  unfold rots
  rw [List.map_map]
  exact List.filterMap_eq_map (f := fun i => T (rot R i)) ▸ rfl
theorem rots_row {R : List Nat} (h : Row R) : ∀ l ∈ rots R, Row l := fun l hl => by
  obtain ⟨i, _, rfl⟩ := List.mem_map.mp hl
  exact (turn_rot R i).row h
theorem rots_len (R : List Nat) : (rots R).length = R.length := by unfold rots; rw [List.length_map, List.length_range]
theorem row5 {a b c d e : List Nat} (ha : Row a) (hb : Row b) (hc : Row c) (hd : Row d) (he : Row e) : ∀ l ∈ [a, b, c, d, e], Row l := fun x hx => by
  simp only [List.mem_cons, List.not_mem_nil, or_false] at hx
  rcases hx with rfl | rfl | rfl | rfl | rfl
  · exact ha
  · exact hb
  · exact hc
  · exact hd
  · exact he
end NX
local macro_rules | `(tactic| walk_at "len") => `(tactic| first | assumption | omega | (simp only [List.length_append, List.length_map, List.length_reverse, List.length_cons, List.length_nil, List.length_drop, List.length_take, List.length_singleton, NX.repL_len] at *; omega))
local macro_rules | `(tactic| walk_at "ne") => `(tactic| first | assumption | (apply Ne.symm; assumption) | exact L2.ne_of_none (by assumption) (by assumption) | exact (L2.ne_of_none (by assumption) (by assumption)).symm)
local macro_rules | `(tactic| walk_at "look") => `(tactic| first | assumption | exact L2.upd_same | (refine Eq.trans (L2.upd_ne (by walk_at "ne")) ?_; walk_at "look"))
local macro_rules | `(tactic| walk_at "sql") => `(tactic| first | assumption | exact L2.SqL.of (by walk_at "look"))
local macro_rules | `(tactic| walk_at "sqt") => `(tactic| first | assumption | exact L2.SqT.of (by walk_at "look"))
local macro_rules | `(tactic| walk_at "st") => `(tactic| first
  | with_reducible refine NX.r_seq ?_
  | with_reducible refine NX.r_asg ?_
  | with_reducible refine NX.r_gname ?_
  | with_reducible refine NX.r_gsub ?_
  | with_reducible refine NX.r_par ?_
  | with_reducible refine NX.r_par2 ?_
  | with_reducible refine NX.r_par3 ?_
  | with_reducible refine NX.r_par33 ?_
  | ((with_reducible refine' NX.r_gtup ?h ?a ?_); (case h => walk_at "sqt"); (case a => rfl))
  | with_reducible refine NX.r_gcons ?_
  | with_reducible refine NX.r_gnil ?_
  | with_reducible refine NX.r_ret ?_
  | with_reducible refine NX.r_drop ?_
  | with_reducible refine NX.r_next ?_
  | with_reducible refine NX.r_ifs ?_
  | with_reducible refine NX.r_var (by with_unfolding_all rfl) ?_
  | with_reducible refine NX.r_c ?_
  | with_reducible refine NX.r_op ?_
  | with_reducible refine NX.r_un ?_
  | with_reducible refine NX.r_neg ?_
  | with_reducible refine NX.r_tif ?_
  | with_reducible refine NX.r_cb ?_
  | with_reducible refine NX.r_nil ?_
  | with_reducible refine NX.r_cons ?_
  | with_reducible refine NX.r_call ?_
  | with_reducible refine NX.r_callkw ?_
  | with_reducible refine NX.r_bm0 ?_
  | with_reducible refine NX.r_bm ?_
  | with_reducible refine NX.r_m1 ?_
  | with_reducible refine NX.r_isS ?_
  | with_reducible refine NX.r_tyS ?_
  | ((with_reducible refine' NX.r_tyL ?h ?_); (case h => walk_at "look"))
  | with_reducible refine NX.r_sl ?_
  | with_reducible refine NX.r_poN ?_
  | with_reducible refine NX.r_poS ?_
  | with_reducible refine NX.r_int1 ?_
  | with_reducible refine NX.r_rev ?_
  | ((with_reducible refine' NX.r_revS ?h ?_); (case h => walk_at "len"))
  | ((with_reducible refine' NX.r_revL ?h ?_); (case h => walk_at "sql"))
  | with_reducible refine NX.r_wipe (by with_unfolding_all rfl) ?_
  | with_reducible refine NX.r_yes ?_
  | with_reducible refine NX.r_ifNT ?_
  | with_reducible refine NX.r_ifNF ?_
  | with_reducible refine NX.r_test ?_
  | with_reducible refine NX.r_bl ?_
  | with_reducible refine NX.r_and ?_
  | with_reducible refine NX.r_or ?_
  | with_reducible refine NX.r_not ?_
  | with_reducible refine NX.r_andT ?_
  | with_reducible refine NX.r_orT ?_
  | with_reducible refine NX.r_notT ?_
  | with_reducible refine NX.r_tru ?_
  | with_reducible refine NX.r_truB ?_
  | with_reducible refine NX.r_truI ?_
  | ((with_reducible refine' NX.r_truS ?h ?_); (case h => walk_at "len"))
  | with_reducible refine L2.iteT ?_
  | with_reducible refine L2.iteF ?_
  | with_reducible refine NX.r_I0 ?_
  | with_reducible refine NX.r_p9 ?_
  | with_reducible refine NX.r_p18 ?_
  | with_reducible refine NX.r_p20 ?_
  | with_reducible refine NX.r_p36 ?_
  | with_reducible refine NX.r_p40 ?_
  | with_reducible refine NX.r_p41 ?_
  | with_reducible refine NX.r_p43 ?_
  | ((with_reducible refine' NX.r_mod ?h ?_); (case h => first | decide | omega))
  | ((with_reducible refine' NX.r_fdivW ?h ?_); (case h => first | decide | omega))
  | ((with_reducible refine' NX.r_ixL ?h ?a ?_); (case h => walk_at "sql"); (case a => rfl))
  | ((with_reducible refine' NX.r_setL ?h ?a ?_); (case h => walk_at "look"); (case a => rfl))
  | ((with_reducible refine' NX.r_mulc ?h ?_); (case h => first | decide | omega))
  | ((with_reducible refine' NX.r_mulc' ?h ?_); (case h => first | decide | omega))
  | with_reducible refine NX.r_lst ?_
  | with_reducible refine NX.r_tup ?_
  | ((with_reducible refine' NX.r_new ?h ?_); (case h => simp only [List.length_cons, List.length_nil]; decide))
  | with_reducible refine NX.r_addI ?_
  | ((with_reducible refine' NX.r_addS ?h ?_); (case h => walk_at "len"))
  | with_reducible refine NX.r_eqSS ?_
  | with_reducible refine NX.r_neSS ?_
  | with_reducible refine NX.r_eqII ?_
  | with_reducible refine NX.r_neII ?_
  | with_reducible refine NX.r_eqBB ?_
  | with_reducible refine NX.r_neBB ?_
  | with_reducible refine NX.r_eqS ?_
  | with_reducible refine NX.r_neS ?_
  | with_reducible refine NX.r_eqI ?_
  | with_reducible refine NX.r_neI ?_
  | with_reducible refine NX.r_eqB ?_
  | with_reducible refine NX.r_neB ?_
  | with_reducible refine NX.r_in1 ?_
  | with_reducible refine NX.r_notin1 ?_
  | ((with_reducible refine' NX.r_slS ?h ?_); (case h => walk_at "len"))
  | ((with_reducible refine' NX.r_lenS ?h ?_); (case h => walk_at "len"))
  | ((with_reducible refine' NX.r_lenL ?h ?_); (case h => walk_at "sql"))
  | with_reducible refine NX.r_int ?_
  | with_reducible refine NX.r_c1 ?_
  | with_reducible refine NX.r_c2 ?_
  | with_reducible refine NX.r_isiS ?_
  | with_reducible refine NX.r_isiI ?_
  | with_reducible refine NX.r_isiIb ?_
  | ((with_reducible refine' NX.r_isiT ?h ?_); (case h => walk_at "look"))
  | ((with_reducible refine' NX.r_isiL ?h ?_); (case h => walk_at "look"))
  | ((with_reducible refine' NX.r_lenT ?h ?_); (case h => walk_at "sqt"))
  | ((with_reducible refine' NX.r_ixT ?h ?a ?_); (case h => walk_at "sqt"); (case a => rfl))
  | with_reducible refine NX.r_reprB ?_
  | with_reducible refine NX.r_eqZZ ?_
  | with_reducible refine NX.r_neZZ ?_
  | with_reducible refine NX.r_isT1 ?_
  | with_reducible refine NX.r_isT0 ?_
  | with_reducible refine NX.r_isTT ?_
  | with_reducible refine NX.r_isNN ?_
  | with_reducible refine NX.r_isSN ?_
  | with_reducible refine NX.r_isRN ?_
  | with_reducible refine NX.r_isnNN ?_
  | with_reducible refine NX.r_isnSN ?_
  | with_reducible refine NX.r_isnRN ?_
  | with_reducible refine NX.r_whb ?_
  | with_reducible refine NX.r_for ?_
  | with_reducible refine NX.r_lc ?_
  | with_reducible refine NX.r_iG ?_
  | with_reducible refine NX.r_iR1 ?_
  | with_reducible refine NX.r_iR2 ?_
  | with_reducible refine NX.r_goS ?_
  | with_reducible refine NX.r_iE ?_
  | with_reducible refine NX.r_chain ?_
  | with_reducible refine NX.r_inT ?_
  | with_reducible refine NX.r_notinT ?_)
local macro_rules | `(tactic| walk_at "go") => `(tactic| repeat walk_at "st")

namespace K08
open PySem PySem.Spec PyProof.Rows L2 NX
def topS (i : Nat) : Stmt := PySem.Challenge.pw_sixthrows_k08_whole_rows_joined.main.body.getD i (.Pass ⟨0, 0, 0, 0⟩)
abbrev s_is_row : Stmt := topS 7
abbrev N_is_row : List Str := ["value", "sign"]
theorem sc_is_row : FnScope N_is_row ["value"] (defScope s_is_row) := ⟨rfl, rfl, rfl, by decide +kernel, rfl, by decide +kernel, by decide +kernel⟩
abbrev s_check_row : Stmt := topS 8
abbrev N_check_row : List Str := ["value"]
theorem sc_check_row : FnScope N_check_row ["value"] (defScope s_check_row) := ⟨rfl, rfl, rfl, by decide +kernel, rfl, by decide +kernel, by decide +kernel⟩
abbrev s_back_of : Stmt := topS 10
abbrev N_back_of : List Str := ["row"]
theorem sc_back_of : FnScope N_back_of ["row"] (defScope s_back_of) := ⟨rfl, rfl, rfl, by decide +kernel, rfl, by decide +kernel, by decide +kernel⟩
abbrev s_least_of : Stmt := topS 11
abbrev N_least_of : List Str := ["row", "kept", "sign"]
theorem sc_least_of : FnScope N_least_of ["row"] (defScope s_least_of) := ⟨rfl, rfl, rfl, by decide +kernel, rfl, by decide +kernel, by decide +kernel⟩
abbrev s_core_of : Stmt := topS 12
abbrev N_core_of : List Str := ["free", "size"]
theorem sc_core_of : FnScope N_core_of ["free"] (defScope s_core_of) := ⟨rfl, rfl, rfl, by decide +kernel, rfl, by decide +kernel, by decide +kernel⟩
abbrev s_lead_between : Stmt := topS 13
abbrev N_lead_between : List Str := ["one", "two", "first_lead", "first", "second_lead", "second", "begun"]
theorem sc_lead_between : FnScope N_lead_between ["one", "two"] (defScope s_lead_between) := ⟨rfl, rfl, rfl, by decide +kernel, rfl, by decide +kernel, by decide +kernel⟩
abbrev s_back : Stmt := topS 14
abbrev N_back : List Str := ["row"]
theorem sc_back : FnScope N_back ["row"] (defScope s_back) := ⟨rfl, rfl, rfl, by decide +kernel, rfl, by decide +kernel, by decide +kernel⟩
abbrev s_least : Stmt := topS 15
abbrev N_least : List Str := ["row"]
theorem sc_least : FnScope N_least ["row"] (defScope s_least) := ⟨rfl, rfl, rfl, by decide +kernel, rfl, by decide +kernel, by decide +kernel⟩
abbrev s_joined : Stmt := topS 16
abbrev N_joined : List Str := ["rows", "index", "row"]
theorem sc_joined : FnScope N_joined ["rows"] (defScope s_joined) := ⟨rfl, rfl, rfl, by decide +kernel, rfl, by decide +kernel, by decide +kernel⟩
abbrev s_core : Stmt := topS 17
abbrev N_core : List Str := ["row"]
theorem sc_core : FnScope N_core ["row"] (defScope s_core) := ⟨rfl, rfl, rfl, by decide +kernel, rfl, by decide +kernel, by decide +kernel⟩
abbrev s_root : Stmt := topS 18
abbrev N_root : List Str := ["row", "lead", "ring", "size"]
theorem sc_root : FnScope N_root ["row"] (defScope s_root) := ⟨rfl, rfl, rfl, by decide +kernel, rfl, by decide +kernel, by decide +kernel⟩
abbrev s_ring_lead : Stmt := topS 19
abbrev N_ring_lead : List Str := ["one", "two"]
theorem sc_ring_lead : FnScope N_ring_lead ["one", "two"] (defScope s_ring_lead) := ⟨rfl, rfl, rfl, by decide +kernel, rfl, by decide +kernel, by decide +kernel⟩
abbrev s_ring_alike : Stmt := topS 20
abbrev N_ring_alike : List Str := ["one", "two"]
theorem sc_ring_alike : FnScope N_ring_alike ["one", "two"] (defScope s_ring_alike) := ⟨rfl, rfl, rfl, by decide +kernel, rfl, by decide +kernel, by decide +kernel⟩
abbrev s__law_well : Stmt := topS 22
abbrev N__law_well : List Str := ["script", "k", "cell"]
theorem sc__law_well : FnScope N__law_well ["script", "k"] (defScope s__law_well) := ⟨rfl, rfl, rfl, by decide +kernel, rfl, by decide +kernel, by decide +kernel⟩
abbrev s__law_draw : Stmt := topS 23
abbrev N__law_draw : List Str := ["well", "many", "found", "stirred"]
theorem sc__law_draw : FnScope N__law_draw ["well", "many"] (defScope s__law_draw) := ⟨rfl, rfl, rfl, by decide +kernel, rfl, by decide +kernel, by decide +kernel⟩
abbrev s__law_other : Stmt := topS 24
abbrev N__law_other : List Str := ["sign"]
theorem sc__law_other : FnScope N__law_other ["sign"] (defScope s__law_other) := ⟨rfl, rfl, rfl, by decide +kernel, rfl, by decide +kernel, by decide +kernel⟩
abbrev s__law_back : Stmt := topS 25
abbrev N__law_back : List Str := ["given", "sign"]
theorem sc__law_back : FnScope N__law_back ["given"] (defScope s__law_back) := ⟨rfl, rfl, rfl, by decide +kernel, rfl, by decide +kernel, by decide +kernel⟩
abbrev s__law_signs : Stmt := topS 27
abbrev N__law_signs : List Str := ["well", "small", "signs", "k"]
theorem sc__law_signs : FnScope N__law_signs ["well"] (defScope s__law_signs) := ⟨rfl, rfl, rfl, by decide +kernel, rfl, by decide +kernel, by decide +kernel⟩
abbrev s__law_word : Stmt := topS 28
abbrev N__law_word : List Str := ["well", "signs", "most", "word", "k", "way"]
theorem sc__law_word : FnScope N__law_word ["well", "signs", "most"] (defScope s__law_word) := ⟨rfl, rfl, rfl, by decide +kernel, rfl, by decide +kernel, by decide +kernel⟩
abbrev s__law_backs_right : Stmt := topS 29
abbrev N__law_backs_right : List Str := ["word", "lead", "ring", "power", "times"]
theorem sc__law_backs_right : FnScope N__law_backs_right ["word"] (defScope s__law_backs_right) := ⟨rfl, rfl, rfl, by decide +kernel, rfl, by decide +kernel, by decide +kernel⟩
abbrev s__law_leads_right : Stmt := topS 30
abbrev N__law_leads_right : List Str := ["first", "second", "third", "here", "there", "through"]
theorem sc__law_leads_right : FnScope N__law_leads_right ["first", "second", "third"] (defScope s__law_leads_right) := ⟨rfl, rfl, rfl, by decide +kernel, rfl, by decide +kernel, by decide +kernel⟩
abbrev s__law_right : Stmt := topS 31
abbrev N__law_right : List Str := ["well", "signs", "first", "second", "third", "both", "within", "again", "power", "times", "due", "ring", "k", "word"]
theorem sc__law_right : FnScope N__law_right ["well"] (defScope s__law_right) := ⟨rfl, rfl, rfl, by decide +kernel, rfl, by decide +kernel, by decide +kernel⟩
abbrev s_law : Stmt := topS 32
abbrev N_law : List Str := ["script", "k"]
theorem sc_law : FnScope N_law ["script"] (defScope s_law) := ⟨rfl, rfl, rfl, by decide +kernel, rfl, by decide +kernel, by decide +kernel⟩
abbrev k_LOW : Str := mkS [97, 98, 99, 100, 101, 102, 103, 104, 105, 106, 107, 108, 109, 110, 111, 112, 113, 114, 115, 116, 117, 118, 119, 120, 121, 122]
abbrev k_HIGH : Str := mkS [65, 66, 67, 68, 69, 70, 71, 72, 73, 74, 75, 76, 77, 78, 79, 80, 81, 82, 83, 84, 85, 86, 87, 88, 89, 90]
/-- what the top has written -/
structure Tx (K : PySem.W.Frag) (mg : Str → Option Value) where
  a_is_row : Addr
  d_is_row : FuncData
  F_is_row : Fun K "is_row" "is_row" s_is_row a_is_row d_is_row
  b_is_row : Binds K d_is_row ["value"] []
  g_is_row : mg "is_row" = some (.ref a_is_row)
  a_check_row : Addr
  d_check_row : FuncData
  F_check_row : Fun K "check_row" "check_row" s_check_row a_check_row d_check_row
  b_check_row : Binds K d_check_row ["value"] []
  g_check_row : mg "check_row" = some (.ref a_check_row)
  a_back_of : Addr
  d_back_of : FuncData
  F_back_of : Fun K "back_of" "back_of" s_back_of a_back_of d_back_of
  b_back_of : Binds K d_back_of ["row"] []
  g_back_of : mg "back_of" = some (.ref a_back_of)
  a_least_of : Addr
  d_least_of : FuncData
  F_least_of : Fun K "least_of" "least_of" s_least_of a_least_of d_least_of
  b_least_of : Binds K d_least_of ["row"] []
  g_least_of : mg "least_of" = some (.ref a_least_of)
  a_core_of : Addr
  d_core_of : FuncData
  F_core_of : Fun K "core_of" "core_of" s_core_of a_core_of d_core_of
  b_core_of : Binds K d_core_of ["free"] []
  g_core_of : mg "core_of" = some (.ref a_core_of)
  a_lead_between : Addr
  d_lead_between : FuncData
  F_lead_between : Fun K "lead_between" "lead_between" s_lead_between a_lead_between d_lead_between
  b_lead_between : Binds K d_lead_between ["one", "two"] []
  g_lead_between : mg "lead_between" = some (.ref a_lead_between)
  a_back : Addr
  d_back : FuncData
  F_back : Fun K "back" "back" s_back a_back d_back
  b_back : Binds K d_back ["row"] []
  g_back : mg "back" = some (.ref a_back)
  a_least : Addr
  d_least : FuncData
  F_least : Fun K "least" "least" s_least a_least d_least
  b_least : Binds K d_least ["row"] []
  g_least : mg "least" = some (.ref a_least)
  a_joined : Addr
  d_joined : FuncData
  F_joined : Fun K "joined" "joined" s_joined a_joined d_joined
  b_joined : Binds K d_joined ["rows"] []
  g_joined : mg "joined" = some (.ref a_joined)
  a_core : Addr
  d_core : FuncData
  F_core : Fun K "core" "core" s_core a_core d_core
  b_core : Binds K d_core ["row"] []
  g_core : mg "core" = some (.ref a_core)
  a_root : Addr
  d_root : FuncData
  F_root : Fun K "root" "root" s_root a_root d_root
  b_root : Binds K d_root ["row"] []
  g_root : mg "root" = some (.ref a_root)
  a_ring_lead : Addr
  d_ring_lead : FuncData
  F_ring_lead : Fun K "ring_lead" "ring_lead" s_ring_lead a_ring_lead d_ring_lead
  b_ring_lead : Binds K d_ring_lead ["one", "two"] []
  g_ring_lead : mg "ring_lead" = some (.ref a_ring_lead)
  a_ring_alike : Addr
  d_ring_alike : FuncData
  F_ring_alike : Fun K "ring_alike" "ring_alike" s_ring_alike a_ring_alike d_ring_alike
  b_ring_alike : Binds K d_ring_alike ["one", "two"] []
  g_ring_alike : mg "ring_alike" = some (.ref a_ring_alike)
  a__law_well : Addr
  d__law_well : FuncData
  F__law_well : Fun K "_law_well" "_law_well" s__law_well a__law_well d__law_well
  b__law_well : Binds K d__law_well ["script", "k"] []
  g__law_well : mg "_law_well" = some (.ref a__law_well)
  a__law_draw : Addr
  d__law_draw : FuncData
  F__law_draw : Fun K "_law_draw" "_law_draw" s__law_draw a__law_draw d__law_draw
  b__law_draw : Binds K d__law_draw ["well", "many"] []
  g__law_draw : mg "_law_draw" = some (.ref a__law_draw)
  a__law_other : Addr
  d__law_other : FuncData
  F__law_other : Fun K "_law_other" "_law_other" s__law_other a__law_other d__law_other
  b__law_other : Binds K d__law_other ["sign"] []
  g__law_other : mg "_law_other" = some (.ref a__law_other)
  a__law_back : Addr
  d__law_back : FuncData
  F__law_back : Fun K "_law_back" "_law_back" s__law_back a__law_back d__law_back
  b__law_back : Binds K d__law_back ["given"] []
  g__law_back : mg "_law_back" = some (.ref a__law_back)
  a__law_signs : Addr
  d__law_signs : FuncData
  F__law_signs : Fun K "_law_signs" "_law_signs" s__law_signs a__law_signs d__law_signs
  b__law_signs : Binds K d__law_signs ["well"] []
  g__law_signs : mg "_law_signs" = some (.ref a__law_signs)
  a__law_word : Addr
  d__law_word : FuncData
  F__law_word : Fun K "_law_word" "_law_word" s__law_word a__law_word d__law_word
  b__law_word : Binds K d__law_word ["well", "signs", "most"] []
  g__law_word : mg "_law_word" = some (.ref a__law_word)
  a__law_backs_right : Addr
  d__law_backs_right : FuncData
  F__law_backs_right : Fun K "_law_backs_right" "_law_backs_right" s__law_backs_right a__law_backs_right d__law_backs_right
  b__law_backs_right : Binds K d__law_backs_right ["word"] []
  g__law_backs_right : mg "_law_backs_right" = some (.ref a__law_backs_right)
  a__law_leads_right : Addr
  d__law_leads_right : FuncData
  F__law_leads_right : Fun K "_law_leads_right" "_law_leads_right" s__law_leads_right a__law_leads_right d__law_leads_right
  b__law_leads_right : Binds K d__law_leads_right ["first", "second", "third"] []
  g__law_leads_right : mg "_law_leads_right" = some (.ref a__law_leads_right)
  a__law_right : Addr
  d__law_right : FuncData
  F__law_right : Fun K "_law_right" "_law_right" s__law_right a__law_right d__law_right
  b__law_right : Binds K d__law_right ["well"] []
  g__law_right : mg "_law_right" = some (.ref a__law_right)
  a_law : Addr
  d_law : FuncData
  F_law : Fun K "law" "law" s_law a_law d_law
  b_law : Binds K d_law ["script"] []
  g_law : mg "law" = some (.ref a_law)
  n_isinstance : mg "isinstance" = none
  n_str : mg "str" = none
  n_all : mg "all" = none
  n_len : mg "len" = none
  n_enumerate : mg "enumerate" = none
  n_list : mg "list" = none
  n_abs : mg "abs" = none
  n_max : mg "max" = none
  n_int : mg "int" = none
  n_range : mg "range" = none
  n_sorted : mg "sorted" = none
  n_min : mg "min" = none
  t_LOW : Tok
  g_LOW : mg "LOW" = some (.str k_LOW t_LOW)
  t_HIGH : Tok
  g_HIGH : mg "HIGH" = some (.str k_HIGH t_HIGH)
section
variable {P : Program} {w : World} {K : PySem.W.Frag} {mg : Str → Option Value} {base : Heap}
/-! ### is_row -/
def sp_is_row (_ : PySem.W.Frag) : Sp := fun vs H Q _ => ∃ l : List Nat, vs = [T l] ∧ Asc l ∧ l.length ≤ 5000000 ∧ ∀ H', Same H H' → Q (.bl (l.all lett)) H'
set_option maxHeartbeats 4000000 in
theorem ok_is_row (Z : Tx K mg) : FnOk P w K mg base CX0 1 Z.a_is_row Z.d_is_row ["value"] (sp_is_row K) := by
  refine Z.F_is_row.ok sc_is_row (fun vs H Q E h => ?_) (fun cdv A outer s H vs Q E rm h => ?_)
  · obtain ⟨l, rfl, ha, hl, q⟩ := h; rfl
  · obtain ⟨l, rfl, ha, hl, q⟩ := h
    refine ⟨_,
      (pss_one (ps_ret (pe_andK K (pe_callB (call_isiK' K) (by rfl) Z.n_isinstance (by decide +kernel) (pa_cons (pv 0) (pa_cons (pe_bltn (v := .ty "str") (u := .type "str") (by rfl) Z.n_str (by decide +kernel) rfl) pa_nil))) (pe_one (pe_callB (cr_allK K rfl) (by rfl) Z.n_all (by decide +kernel) (pa_cons (pe_lc (own := [("sign", 1)]) (g := gName 1) (tt := tYes) rfl sc_is_row.nd (pi_K K (pv 0)) (blkOk_by (N := N_is_row) (sc := defScope s_is_row) (by decide +kernel)) (fun _ _ _ _ _ => pg_name (i := 1) sc_is_row.nd rfl (Or.inl rfl)) (fun _ _ _ _ _ => pts_nil) (fun _ _ _ _ _ => (pe_orK K (pe_cmpR (op_inK K) (pv 1) (pe_glob (v := .str k_LOW) (by rfl) Z.g_LOW ⟨_, rfl⟩) (by rfl)) (pe_one (pe_cmpR (op_inK K) (pv 1) (pe_glob (v := .str k_HIGH) (by rfl) Z.g_HIGH ⟨_, rfl⟩) (by rfl)))))) pa_nil)))))), ?_⟩
    rw [show L2.start N_is_row [T l] = [some (T l), none] from rfl]
    walk_at "go"
    refine lc_known (known_str l) (fun i => some (.bl (lett (l.getD i 0)))) (by omega) (fun _ _ => trivial) (fun i H2 QT hi sm hk => ?_) (fun D H' nD sm eD => ?_)
    · walk_at "go"
      have hk1 := hk H2 (Same.refl H2)
      refine r_ifd (fun c => ?_) (fun c => ?_)
      · have e : lett (l.getD i 0) = true := lett_iff.mpr (.inr (in_low.mp c))
        rw [e] at hk1
        rw [decide_eq_true c]; exact hk1
      · walk_at "go"
        have e : lett (l.getD i 0) = decide (l.getD i 0 ∈ ([65, 66, 67, 68, 69, 70, 71, 72, 73, 74, 75, 76, 77, 78, 79, 80, 81, 82, 83, 84, 85, 86, 87, 88, 89, 90] : List Nat)) := by
          rw [Bool.eq_iff_iff, lett_iff, decide_eq_true_iff, in_high]
          have h97 : ¬ (97 ≤ l.getD i 0 ∧ l.getD i 0 ≤ 122) := fun h => c (in_low.mpr h)
          omega
        rw [e] at hk1
        exact hk1
    · walk_at "go"
      rw [fm_range l (fun c => .bl (lett c)) 0] at eD
      refine r_all (bs := l.map lett) (SqL.of (by rw [eD, List.map_map]; rfl)) ?_
      rw [List.all_map]
      exact q _ sm
/-! ### check_row -/
def sp_check_row (_ : PySem.W.Frag) : Sp := fun vs H Q _ => ∃ l : List Nat, vs = [T l] ∧ Row l ∧ l.length ≤ 5000000 ∧ ∀ H', Same H H' → Q .non H'
set_option maxHeartbeats 4000000 in
theorem ok_check_row (Z : Tx K mg) : FnOk P w K mg base CX0 2 Z.a_check_row Z.d_check_row ["value"] (sp_check_row K) := by
  refine Z.F_check_row.ok sc_check_row (fun vs H Q E h => ?_) (fun cdv A outer s H vs Q E rm h => ?_)
  · obtain ⟨l, rfl, ha, hl, q⟩ := h; rfl
  · obtain ⟨l, rfl, ha, hl, q⟩ := h
    refine ⟨_,
      (pss_one (ps_if (pt_not (pt_truK K (pe_call (ok_is_row Z) rm (by rfl) Z.g_is_row Z.F_is_row.kp Z.b_is_row .nil pass0 (pa_cons (pv 0) pa_nil)) (by intro _; rfl)))
        (pss_one (ps_never))
        pss_nil)), ?_⟩
    rw [show L2.start N_check_row [T l] = [some (T l)] from rfl]
    walk_at "go"
    refine ⟨l, rfl, ha.asc, hl, fun H1 s1 => ?_⟩
    rw [show l.all lett = true from List.all_eq_true.mpr ha]
    walk_at "go"
    exact q _ s1
/-! ### back_of -/
def sp_back_of (_ : PySem.W.Frag) : Sp := fun vs H Q _ => ∃ l : List Nat, vs = [T l] ∧ Row l ∧ l.length ≤ 5000000 ∧ Q (T (bak l)) H
set_option maxHeartbeats 4000000 in
theorem ok_back_of (Z : Tx K mg) : FnOk P w K mg base CX0 1 Z.a_back_of Z.d_back_of ["row"] (sp_back_of K) := by
  refine Z.F_back_of.ok sc_back_of (fun vs H Q E h => ?_) (fun cdv A outer s H vs Q E rm h => ?_)
  · obtain ⟨l, rfl, ha, hl, q⟩ := h; rfl
  · obtain ⟨l, rfl, ha, hl, q⟩ := h
    refine ⟨_,
      (pss_one (ps_ret (pe_bm0K K PySem.F.plainAttrs_str PySem.F.slot_str_swapcase PySem.F.type_str_swapcase mt_swapL (pe_revK K (pv 0))))), ?_⟩
    rw [show L2.start N_back_of [T l] = [some (T l)] from rfl]
    walk_at "go"
    refine r_map ha.rev.asc (by rw [List.length_reverse]; exact hl) ?_
    exact q
/-! ### least_of -/
def sp_least_of (_ : PySem.W.Frag) : Sp := fun vs H Q _ => ∃ l : List Nat, vs = [T l] ∧ Row l ∧ l.length ≤ 5000000 ∧ ∀ H', Same H H' → Q (T (red l)) H'
set_option maxHeartbeats 4000000 in
theorem ok_least_of (Z : Tx K mg) : FnOk P w K mg base CX0 1 Z.a_least_of Z.d_least_of ["row"] (sp_least_of K) := by
  refine Z.F_least_of.ok sc_least_of (fun vs H Q E h => ?_) (fun cdv A outer s H vs Q E rm h => ?_)
  · obtain ⟨l, rfl, ha, hl, q⟩ := h; rfl
  · obtain ⟨l, rfl, ha, hl, q⟩ := h
    refine ⟨_,
      (pss_cons (ps_set (i := 1) sc_least_of.nd rfl (.inl rfl) (pe_lst pa_nil))
      (pss_cons (ps_for PassesOwn.never rfl (pi_K K (pv 0)) (pg_name (i := 2) sc_least_of.nd rfl (.inl rfl))
        (pss_one (ps_if (PW.pt (pw_and (pt_cmpR (op_neK K (hu_of64 rm)) (pv 1) (pe_lst pa_nil) (nomark _)) (pw_and1 (pt_cmpR (op_eqK K (hu_of64 rm)) (pe_ix (ix_K K) (pv 1) (pe_un un_neg pe_int) (fun _ _ => rfl)) (pe_bm0K K PySem.F.plainAttrs_str PySem.F.slot_str_swapcase PySem.F.type_str_swapcase mt_swapL (pv 2)) (nomark _)))))
          (pss_one (ps_expr (pe_bm0K K PySem.F.plainAttrs_list PySem.F.slot_list_pop PySem.F.type_list_pop mt_pop (pv 1))))
          (pss_one (ps_expr (pe_bmK K PySem.F.plainAttrs_list PySem.F.slot_list_append PySem.F.type_list_append mt_append (pv 1) (pa_cons (pv 2) pa_nil)))))))
      (pss_one (ps_ret (pe_joinK K (pe_strL (l := []) (by decide +kernel)) (pv 1)))))), ?_⟩
    rw [show L2.start N_least_of [T l] = [some (T l), none, none] from rfl]
    walk_at "go"
    intro p np
    walk_at "go"
    refine for_known (known_str l) (fun i σ H' => ∃ x, σ = [some (T l), some (.ref p), x] ∧ Same H H' ∧ H' p = some (.lst ((stk (l.take i)).reverse.map fun c => T [c])))
      ⟨none, rfl, Same.new1 np, by rw [upd_same]; rfl⟩ (fun _ _ _ _ _ => trivial) ?_ ?_
    · rintro i σ H' hi ⟨x, rfl, sm, eK⟩
      have hsn := take_snoc (getD_some hi)
      have hc : lett (l.getD i 0) = true := ha _ (getD_mem hi)
      have hr : Row (stk (l.take i)) := stk_row (ha.take i)
      have hlen : (stk (l.take i)).length ≤ l.length := Nat.le_trans (stk_len _) (by rw [List.length_take]; omega)
      rw [hsn, stk_snoc]
      generalize l.getD i 0 = c at hc
      generalize stk (l.take i) = s at eK hr hlen
      walk_at "go"
      intro e ne
      have npe : p ≠ e := ne_of_none eK ne
      have eK' : (upd H' e (.lst [])) p = some (.lst (s.reverse.map fun c => T [c])) := by rw [upd_ne npe]; exact eK
      have sm' : Same H (upd H' e (.lst [])) := sm.new ne
      refine r_neLs (as := s.reverse.map fun c => [c]) (bs := []) (SqL.of (by rw [eK', ones_T])) (SqL.of upd_same) (fun x hx => ?_) (fun x hx => nomatch hx) ?_
      · obtain ⟨d, hd, rfl⟩ := List.mem_map.mp hx
        exact (Row.one (hr.rev d hd)).asc
      walk_at "go"
      cases s with
      | nil =>
        rw [decide_eq_true (show (([] : List Nat).reverse.map fun c => [c]) = [] from rfl)]
        walk_at "go"
        refine r_append eK' (by simp) ?_
        exact ⟨_, rfl, sm'.mut np, by rw [upd_same]; rfl⟩
      | cons t r =>
        rw [decide_eq_false (show ¬ (((t :: r).reverse.map fun c => [c]) = []) by simp)]
        walk_at "go"
        refine r_ixL (SqL.of eK') (last_rev rfl) ?_
        walk_at "go"
        refine r_map (Row.one hc).asc (by simp) ?_
        show rEqG _ (T [t]) (T [swp c]) _ _
        walk_at "go"
        rw [push_cons]
        refine r_ifd (fun h => ?_) (fun h => ?_)
        · have h' : t = swp c := by injection h
          rw [if_pos h']
          walk_at "go"
          refine r_pop eK' (pop_rev rfl).1 ?_
          exact ⟨_, rfl, sm'.mut np, by rw [upd_same, (pop_rev rfl).2]⟩
        · have h' : ¬ t = swp c := fun e => h (by rw [e])
          rw [if_neg h']
          walk_at "go"
          refine r_append eK' (by simp only [List.length_map, List.length_reverse]; omega) ?_
          exact ⟨_, rfl, sm'.mut np, by rw [upd_same]; simp⟩
    · rintro σ H' ⟨x, rfl, sm, eK⟩
      rw [List.take_length] at eK
      walk_at "go"
      refine r_join0 (ls := (red l).map fun c => [c]) (SqL.of (by rw [eK, ← ones_T]; rfl)) (by rw [ones_flat]; have := red_len l; omega) ?_
      rw [ones_flat]
      exact q _ sm
/-! ### core_of -/
def sp_core_of (_ : PySem.W.Frag) : Sp := fun vs H Q _ => ∃ l : List Nat, vs = [T l] ∧ Row l ∧ l.length ≤ 1000000 ∧ ∀ p H', H p = none → Same H H' → H' p = some (.tup [T (lead l), T (ring l)]) → Q (.ref p) H'
set_option maxHeartbeats 4000000 in
theorem ok_core_of (Z : Tx K mg) : FnOk P w K mg base CX0 1 Z.a_core_of Z.d_core_of ["free"] (sp_core_of K) := by
  refine Z.F_core_of.ok sc_core_of (fun vs H Q E h => ?_) (fun cdv A outer s H vs Q E rm h => ?_)
  · obtain ⟨l, rfl, ha, hl, q⟩ := h; rfl
  · obtain ⟨l, rfl, ha, hl, q⟩ := h
    refine ⟨_,
      (pss_cons (ps_set (i := 1) sc_core_of.nd rfl (.inl rfl) pe_int)
      (pss_cons (ps_while PassesOwn.never (PW.pt (pw_and (pt_cmpR op_lt (pe_op (op_addK K) (pe_op op_mulG pe_int (pv 1)) pe_int) (pe_callB (call_lenK K) (by rfl) Z.n_len PySem.boot_len (pa_cons (pv 0) pa_nil)) (nomark _)) (pw_and1 (pt_cmpR (op_eqK K (hu_of64 rm)) (pe_ix (ix_K K) (pv 0) (pv 1) (fun _ _ => rfl)) (pe_bm0K K PySem.F.plainAttrs_str PySem.F.slot_str_swapcase PySem.F.type_str_swapcase mt_swapL (pe_ix (ix_K K) (pv 0) (pe_op op_sub (pe_un un_neg pe_int) (pv 1)) (fun _ _ => rfl))) (nomark _)))))
        (pss_one (ps_set (i := 1) sc_core_of.nd rfl (.inl rfl) (pe_op (op_addK K) (pv 1) pe_int))))
      (pss_one (ps_ret (pe_tup (pa_cons (pe_slice (sl_K K) (pv 0) po_none (po_some (pv 1))) (pa_cons (pe_slice (sl_K K) (pv 0) (po_some (pv 1)) (po_some (pe_op op_sub (pe_callB (call_lenK K) (by rfl) Z.n_len PySem.boot_len (pa_cons (pv 0) pa_nil)) (pv 1)))) pa_nil))))))), ?_⟩
    rw [show L2.start N_core_of [T l] = [some (T l), none] from rfl]
    walk_at "go"
    refine r_while (fun m σ H' => ∃ k : Nat, σ = [some (T l), some (.int (k : Int))] ∧ m + k = l.length ∧ H' = H ∧ ∀ j, j < k → cstep l j) l.length ⟨0, rfl, by omega, rfl, fun j hj => absurd hj (by omega)⟩ ?_
    rintro m σ H' ⟨k, rfl, hm, rfl, hk⟩
    refine r_genT (fun b H1 => b = decide (cstep l k) ∧ H1 = H') (fun b H1 hb => ?_) (fun Q' k' => ?_)
    · obtain ⟨rfl, rfl⟩ := hb
      refine r_ifd (fun c => ?_) (fun c => ?_)
      · have hkl := c.1
        walk_at "go"
        refine ⟨m - 1, by omega, k + 1, rfl, by omega, rfl, fun j hj => ?_⟩
        by_cases e : j = k
        · rw [e]; exact c
        · exact hk j (by omega)
      · have ek : csize l = k := csize_eq hk c
        have hle := csize_le l
        walk_at "go"
        rw [show (l.length : Int) - (k : Int) = ((l.length - k : Nat) : Int) by omega, cut_to, cut_mid]
        intro p np
        refine q p _ np (Same.new1 np) ?_
        rw [upd_same]
        unfold lead ring
        rw [ek]
    · walk_at "go"
      refine r_ifd (fun c1 => ?_) (fun c1 => ?_)
      · have hkl : 2 * k + 1 < l.length := by omega
        walk_at "go"
        refine r_ixS (by omega) (at_nat (by omega) (by omega)) ?_
        walk_at "go"
        refine r_ixS (by omega) (at_neg (by omega)) ?_
        walk_at "go"
        have hrow := ha _ (getD_mem (show l.length - 1 - k < l.length by omega))
        refine r_map (Row.one hrow).asc (by simp) ?_
        show rEqG _ _ (T [swp (l.getD (l.length - 1 - k) 0)]) _ _
        rw [Int.toNat_natCast]
        walk_at "go"
        refine k' _ _ ⟨?_, rfl⟩
        rw [Bool.eq_iff_iff, decide_eq_true_iff, decide_eq_true_iff]
        unfold cstep
        simp [hkl]
      · walk_at "go"
        refine k' _ _ ⟨?_, rfl⟩
        rw [decide_eq_false fun c => c1 (by have := c.1; omega)]
/-! ### lead_between -/
def sp_lead_between (_ : PySem.W.Frag) : Sp := fun vs H Q _ => ∃ f g : List Nat, vs = [T f, T g] ∧ Row f ∧ Row g ∧ f.length ≤ 100000 ∧ g.length ≤ 100000 ∧ ∀ H', Same H H' → Q (ldv f g) H'
set_option maxHeartbeats 4000000 in
theorem ok_lead_between (Z : Tx K mg) : FnOk P w K mg base CX0 2 Z.a_lead_between Z.d_lead_between ["one", "two"] (sp_lead_between K) := by
  refine Z.F_lead_between.ok sc_lead_between (fun vs H Q E h => ?_) (fun cdv A outer s H vs Q E rm h => ?_)
  · obtain ⟨f, g, rfl, hf, hg, lf, lg, q⟩ := h; rfl
  · obtain ⟨f, g, rfl, hf, hg, lf, lg, q⟩ := h
    refine ⟨_,
      (pss_cons (ps_asg (pe_call (ok_core_of Z) rm (by rfl) Z.g_core_of Z.F_core_of.kp Z.b_core_of .nil pass0 (pa_cons (pv 0) pa_nil)) (pg_tupK K rfl (pgs_cons (pg_name (i := 2) sc_lead_between.nd rfl (.inl rfl)) (pgs_cons (pg_name (i := 3) sc_lead_between.nd rfl (.inl rfl)) pgs_nil))))
      (pss_cons (ps_asg (pe_call (ok_core_of Z) rm (by rfl) Z.g_core_of Z.F_core_of.kp Z.b_core_of .nil pass0 (pa_cons (pv 1) pa_nil)) (pg_tupK K rfl (pgs_cons (pg_name (i := 4) sc_lead_between.nd rfl (.inl rfl)) (pgs_cons (pg_name (i := 5) sc_lead_between.nd rfl (.inl rfl)) pgs_nil))))
      (pss_cons (ps_if (PW.pt (pw_or (pt_cmpR (op_neK K (hu_of64 rm)) (pe_callB (call_lenK K) (by rfl) Z.n_len PySem.boot_len (pa_cons (pv 3) pa_nil)) (pe_callB (call_lenK K) (by rfl) Z.n_len PySem.boot_len (pa_cons (pv 5) pa_nil)) (nomark _)) (pw_or1 (pt_cmpR (op_notInK K) (pv 3) (pe_op (op_addK K) (pv 5) (pv 5)) (by rfl)))))
        (pss_one (ps_ret pe_non))
        pss_nil)
      (pss_cons (ps_set (i := 6) sc_lead_between.nd rfl (.inl rfl) (pe_slice (sl_K K) (pv 5) po_none (po_some (pe_bmK K PySem.F.plainAttrs_str PySem.F.slot_str_find PySem.F.type_str_find mt_find (pe_op (op_addK K) (pv 5) (pv 5)) (pa_cons (pv 3) pa_nil)))))
      (pss_one (ps_ret (pe_call (ok_least_of Z) rm (by rfl) Z.g_least_of Z.F_least_of.kp Z.b_least_of .nil pass0 (pa_cons (pe_op (op_addK K) (pe_op (op_addK K) (pv 2) (pe_call (ok_back_of Z) rm (by rfl) Z.g_back_of Z.F_back_of.kp Z.b_back_of .nil pass0 (pa_cons (pv 6) pa_nil))) (pe_call (ok_back_of Z) rm (by rfl) Z.g_back_of Z.F_back_of.kp Z.b_back_of .nil pass0 (pa_cons (pv 4) pa_nil))) pa_nil)))))))), ?_⟩
    rw [show L2.start N_lead_between [T f, T g] = [some (T f), some (T g), none, none, none, none, none] from rfl]
    have h1 := csize_le f
    have h2 := csize_le g
    have h3 := ring_len f
    have h4 := ring_len g
    have h5 := lead_len f
    have h6 := lead_len g
    walk_at "go"
    refine ⟨f, rfl, hf, by omega, fun p H1 np s1 ep => ?_⟩
    walk_at "go"
    refine ⟨g, rfl, hg, by omega, fun p2 H2 np2 s2 ep2 => ?_⟩
    walk_at "go"
    refine r_ifnd (fun c => ?_) (fun c => ?_)
    · have ek : alk f g = false := by
        unfold alk
        rw [decide_eq_false (fun e => c (by omega))]; rfl
      have q1 := q _ (s1.trans s2)
      unfold ldv at q1
      rw [ek, if_neg (by decide)] at q1
      walk_at "go"
      exact q1
    · walk_at "go"
      cases hk : subS (mkS (ring g ++ ring g)) (mkS (ring f)) with
      | false =>
        have ek : alk f g = false := by unfold alk; rw [hk, Bool.and_false]
        have q1 := q _ (s1.trans s2)
        unfold ldv at q1
        rw [ek, if_neg (by decide)] at q1
        walk_at "go"
        exact q1
      | true =>
        have ek : alk f g = true := by
          unfold alk
          rw [hk, decide_eq_true (show (ring f).length = (ring g).length by omega)]; rfl
        obtain ⟨i, e1, hi, e2⟩ := find_turn ek
        walk_at "go"
        refine ⟨mkS (ring g ++ ring g), mkS (ring f), rfl, rfl, ?_⟩
        rw [e1]
        walk_at "go"
        rw [cut_to]
        have htl : ((ring g).take i).length ≤ (ring g).length := by rw [List.length_take]; omega
        have hbl := bak_len ((ring g).take i)
        have hbl2 := bak_len (lead g)
        walk_at "go"
        refine ⟨(ring g).take i, rfl, hg.ring.take i, by omega, ?_⟩
        walk_at "go"
        refine ⟨lead g, rfl, hg.lead, by omega, ?_⟩
        walk_at "go"
        refine ⟨lead f ++ bak ((ring g).take i) ++ bak (lead g), rfl, (hf.lead.app (hg.ring.take i).bak).app hg.lead.bak, by simp only [List.length_append]; omega, fun H3 s3 => ?_⟩
        have q1 := q _ ((s1.trans s2).trans s3)
        unfold ldv leadB at q1
        rw [ek, if_pos rfl, e1, Int.toNat_natCast] at q1
        exact q1
/-! ### back -/
def sp_back (_ : PySem.W.Frag) : Sp := fun vs H Q _ => ∃ l : List Nat, vs = [T l] ∧ Row l ∧ l.length ≤ 5000000 ∧ ∀ H', Same H H' → Q (T (bak l)) H'
set_option maxHeartbeats 4000000 in
theorem ok_back (Z : Tx K mg) : FnOk P w K mg base CX0 3 Z.a_back Z.d_back ["row"] (sp_back K) := by
  refine Z.F_back.ok sc_back (fun vs H Q E h => ?_) (fun cdv A outer s H vs Q E rm h => ?_)
  · obtain ⟨l, rfl, ha, hl, q⟩ := h; rfl
  · obtain ⟨l, rfl, ha, hl, q⟩ := h
    refine ⟨_,
      (pss_cons (ps_expr (pe_call (ok_check_row Z) rm (by rfl) Z.g_check_row Z.F_check_row.kp Z.b_check_row .nil pass0 (pa_cons (pv 0) pa_nil)))
      (pss_one (ps_ret (pe_call (ok_back_of Z) (rm.mono (by decide)) (by rfl) Z.g_back_of Z.F_back_of.kp Z.b_back_of .nil pass0 (pa_cons (pv 0) pa_nil))))), ?_⟩
    rw [show L2.start N_back [T l] = [some (T l)] from rfl]
    walk_at "go"
    refine ⟨l, rfl, ha, hl, fun H1 s1 => ?_⟩
    walk_at "go"
    exact ⟨l, rfl, ha, hl, q _ s1⟩
/-! ### least -/
def sp_least (_ : PySem.W.Frag) : Sp := fun vs H Q _ => ∃ l : List Nat, vs = [T l] ∧ Row l ∧ l.length ≤ 5000000 ∧ ∀ H', Same H H' → Q (T (red l)) H'
set_option maxHeartbeats 4000000 in
theorem ok_least (Z : Tx K mg) : FnOk P w K mg base CX0 3 Z.a_least Z.d_least ["row"] (sp_least K) := by
  refine Z.F_least.ok sc_least (fun vs H Q E h => ?_) (fun cdv A outer s H vs Q E rm h => ?_)
  · obtain ⟨l, rfl, ha, hl, q⟩ := h; rfl
  · obtain ⟨l, rfl, ha, hl, q⟩ := h
    refine ⟨_,
      (pss_cons (ps_expr (pe_call (ok_check_row Z) rm (by rfl) Z.g_check_row Z.F_check_row.kp Z.b_check_row .nil pass0 (pa_cons (pv 0) pa_nil)))
      (pss_one (ps_ret (pe_call (ok_least_of Z) (rm.mono (by decide)) (by rfl) Z.g_least_of Z.F_least_of.kp Z.b_least_of .nil pass0 (pa_cons (pv 0) pa_nil))))), ?_⟩
    rw [show L2.start N_least [T l] = [some (T l)] from rfl]
    walk_at "go"
    refine ⟨l, rfl, ha, hl, fun H1 s1 => ?_⟩
    walk_at "go"
    exact ⟨l, rfl, ha, hl, fun H2 s2 => q _ (s1.trans s2)⟩
/-! ### joined -/
def sp_joined (_ : PySem.W.Frag) : Sp := fun vs H Q _ => ∃ (p : Addr) (ls : List (List Nat)), vs = [.ref p] ∧ H p = some (.lst (ls.map T)) ∧ (∀ l ∈ ls, Row l) ∧ ls.flatten.length ≤ 1000000 ∧ ∀ H', Same H H' → Q (T (red ls.flatten)) H'
set_option maxHeartbeats 4000000 in
theorem ok_joined (Z : Tx K mg) : FnOk P w K mg base CX0 2 Z.a_joined Z.d_joined ["rows"] (sp_joined K) := by
  refine Z.F_joined.ok sc_joined (fun vs H Q E h => ?_) (fun cdv A outer s H vs Q E rm h => ?_)
  · obtain ⟨p, ls, rfl, ep, hr, hl, q⟩ := h; rfl
  · obtain ⟨p, ls, rfl, ep, hr, hl, q⟩ := h
    refine ⟨_,
      (pss_cons (ps_if (pt_not (pt_truK K (pe_callB (call_isiK' K) (by rfl) Z.n_isinstance (by decide +kernel) (pa_cons (pv 0) (pa_cons (pe_bltn (v := .ty "list") (u := .type "list") (by rfl) Z.n_list (by decide +kernel) rfl) pa_nil))) (by intro _; rfl)))
        (pss_one (ps_never))
        pss_nil)
      (pss_cons (ps_for PassesOwn.never rfl (pi_enumK K (by rfl) Z.n_enumerate (pa_cons (pv 0) pa_nil)) (pg_tupK K rfl (pgs_cons (pg_name (i := 1) sc_joined.nd rfl (.inl rfl)) (pgs_cons (pg_name (i := 2) sc_joined.nd rfl (.inl rfl)) pgs_nil)))
        (pss_one (ps_if (pt_not (pt_truK K (pe_call (ok_is_row Z) rm (by rfl) Z.g_is_row Z.F_is_row.kp Z.b_is_row .nil pass0 (pa_cons (pv 2) pa_nil)) (by intro _; rfl)))
          (pss_one (ps_never))
          pss_nil)))
      (pss_one (ps_ret (pe_call (ok_least_of Z) rm (by rfl) Z.g_least_of Z.F_least_of.kp Z.b_least_of .nil pass0 (pa_cons (pe_joinK K (pe_strL (l := []) (by decide +kernel)) (pv 0)) pa_nil)))))), ?_⟩
    rw [show L2.start N_joined [.ref p] = [some (.ref p), none, none] from rfl]
    walk_at "go"
    refine r_goE (SqL.of ep) ?_
    refine for_enum (fun i σ H' => ∃ x y, σ = [some (.ref p), x, y] ∧ Same H H') ⟨_, _, rfl, Same.refl H⟩ (fun _ _ _ _ ⟨_, _, _, s⟩ => SqL.of (s _ _ ep)) ?_ ?_
    · rintro i σ H' d hi ⟨x, y, rfl, sm⟩ nd
      have hi' : i < ls.length := by simpa using hi
      rw [map_getD ls hi']
      have hm := getD_memL hi'
      have hrow := hr _ hm
      have hlen : (ls.getD i []).length ≤ ls.flatten.length := by
        exact flat_mem_len hm
      generalize ls.getD i [] = l at hrow hlen
      walk_at "go"
      refine ⟨l, rfl, hrow.asc, by omega, fun H2 s2 => ?_⟩
      rw [show l.all lett = true from List.all_eq_true.mpr hrow]
      walk_at "go"
      exact ⟨_, _, rfl, (sm.new nd).trans s2⟩
    · rintro σ H' ⟨x, y, rfl, sm⟩
      walk_at "go"
      refine r_join0 (SqL.of (sm _ _ ep)) (by omega) ?_
      exact ⟨ls.flatten, rfl, flat_row hr, by omega, fun H2 s2 => q _ (sm.trans s2)⟩
/-! ### core -/
def sp_core (_ : PySem.W.Frag) : Sp := fun vs H Q _ => ∃ l : List Nat, vs = [T l] ∧ Row l ∧ l.length ≤ 1000000 ∧ ∀ p H', H p = none → Same H H' → H' p = some (.tup [T (lead (red l)), T (ring (red l))]) → Q (.ref p) H'
set_option maxHeartbeats 4000000 in
theorem ok_core (Z : Tx K mg) : FnOk P w K mg base CX0 3 Z.a_core Z.d_core ["row"] (sp_core K) := by
  refine Z.F_core.ok sc_core (fun vs H Q E h => ?_) (fun cdv A outer s H vs Q E rm h => ?_)
  · obtain ⟨l, rfl, ha, hl, q⟩ := h; rfl
  · obtain ⟨l, rfl, ha, hl, q⟩ := h
    refine ⟨_,
      (pss_cons (ps_expr (pe_call (ok_check_row Z) rm (by rfl) Z.g_check_row Z.F_check_row.kp Z.b_check_row .nil pass0 (pa_cons (pv 0) pa_nil)))
      (pss_one (ps_ret (pe_call (ok_core_of Z) (rm.mono (by decide)) (by rfl) Z.g_core_of Z.F_core_of.kp Z.b_core_of .nil pass0 (pa_cons (pe_call (ok_least_of Z) (rm.mono (by decide)) (by rfl) Z.g_least_of Z.F_least_of.kp Z.b_least_of .nil pass0 (pa_cons (pv 0) pa_nil)) pa_nil))))), ?_⟩
    rw [show L2.start N_core [T l] = [some (T l)] from rfl]
    walk_at "go"
    refine ⟨l, rfl, ha, by omega, fun H1 s1 => ?_⟩
    walk_at "go"
    refine ⟨l, rfl, ha, by omega, fun H2 s2 => ?_⟩
    refine ⟨red l, rfl, ha.red, by have := red_len l; omega, fun p H3 np s3 e => ?_⟩
    exact q p _ ((s1.trans s2).free np) ((s1.trans s2).trans s3) e
/-! ### root -/
def sp_root (_ : PySem.W.Frag) : Sp := fun vs H Q _ => ∃ l : List Nat, vs = [T l] ∧ Row l ∧ l.length ≤ 1000000 ∧ ∀ p H', H p = none → Same H H' → H' p = some (.tup [T (root1 (red l)), .int (rootn (red l) : Nat)]) → Q (.ref p) H'
set_option maxHeartbeats 4000000 in
theorem ok_root (Z : Tx K mg) : FnOk P w K mg base CX0 3 Z.a_root Z.d_root ["row"] (sp_root K) := by
  refine Z.F_root.ok sc_root (fun vs H Q E h => ?_) (fun cdv A outer s H vs Q E rm h => ?_)
  · obtain ⟨l, rfl, ha, hl, q⟩ := h; rfl
  · obtain ⟨l, rfl, ha, hl, q⟩ := h
    refine ⟨_,
      (pss_cons (ps_expr (pe_call (ok_check_row Z) rm (by rfl) Z.g_check_row Z.F_check_row.kp Z.b_check_row .nil pass0 (pa_cons (pv 0) pa_nil)))
      (pss_cons (ps_asg (pe_call (ok_core_of Z) (rm.mono (by decide)) (by rfl) Z.g_core_of Z.F_core_of.kp Z.b_core_of .nil pass0 (pa_cons (pe_call (ok_least_of Z) (rm.mono (by decide)) (by rfl) Z.g_least_of Z.F_least_of.kp Z.b_least_of .nil pass0 (pa_cons (pv 0) pa_nil)) pa_nil)) (pg_tupK K rfl (pgs_cons (pg_name (i := 1) sc_root.nd rfl (.inl rfl)) (pgs_cons (pg_name (i := 2) sc_root.nd rfl (.inl rfl)) pgs_nil))))
      (pss_cons (ps_if (pt_cmpR (op_eqK K (hu_of64 rm)) (pv 2) (pe_strL (l := []) (by decide +kernel)) (nomark _))
        (pss_one (ps_ret (pe_tup (pa_cons (pe_strL (l := []) (by decide +kernel)) (pa_cons pe_int pa_nil)))))
        pss_nil)
      (pss_cons (ps_set (i := 3) sc_root.nd rfl (.inl rfl) (pe_bmK K PySem.F.plainAttrs_str PySem.F.slot_str_index PySem.F.type_str_index mt_indexF (pe_op (op_addK K) (pv 2) (pv 2)) (pa_cons (pv 2) (pa_cons pe_int pa_nil))))
      (pss_one (ps_ret (pe_tup (pa_cons (pe_op (op_addK K) (pe_op (op_addK K) (pv 1) (pe_slice (sl_K K) (pv 2) po_none (po_some (pv 3)))) (pe_call (ok_back_of Z) (rm.mono (by decide)) (by rfl) Z.g_back_of Z.F_back_of.kp Z.b_back_of .nil pass0 (pa_cons (pv 1) pa_nil))) (pa_cons (pe_op op_fdivW (pe_callB (call_lenK K) (by rfl) Z.n_len PySem.boot_len (pa_cons (pv 2) pa_nil)) (pv 3)) pa_nil))))))))), ?_⟩
    rw [show L2.start N_root [T l] = [some (T l), none, none, none] from rfl]
    walk_at "go"
    refine ⟨l, rfl, ha, by omega, fun H1 s1 => ?_⟩
    walk_at "go"
    refine ⟨l, rfl, ha, by omega, fun H2 s2 => ?_⟩
    refine ⟨red l, rfl, ha.red, by have := red_len l; omega, fun p H3 np s3 e => ?_⟩
    have hrl := red_len l
    have hll := lead_len (red l)
    have hgl := ring_len (red l)
    have hbl := bak_len (lead (red l))
    have hcs := csize_le (red l)
    walk_at "go"
    refine r_ifd (fun c => ?_) (fun c => ?_)
    · have hn : red l = [] := (ring_eq_nil ha.red (free_red ha)).mp c
      walk_at "go"
      intro p2 np2
      refine q p2 _ (((s1.trans s2).trans s3).free np2) (((s1.trans s2).trans s3).new np2) ?_
      rw [upd_same, hn, root1_nil, rootn_nil]; rfl
    · have hp := per_spec c
      have hpl := hp.2.1
      have hp0 := hp.1
      walk_at "go"
      refine r_indexF (p := per (ring (red l))) hp.1 ((at_ring hp.2.1).mpr hp.2.2.1) (fun k k0 kp hk => hp.2.2.2 k k0 kp ((at_ring (by omega)).mp hk)) ?_
      have htl : ((ring (red l)).take (per (ring (red l)))).length ≤ (ring (red l)).length := by rw [List.length_take]; omega
      walk_at "go"
      rw [cut_to]
      walk_at "go"
      refine ⟨lead (red l), rfl, ha.red.lead, by omega, ?_⟩
      walk_at "go"
      intro p2 np2
      refine q p2 _ (((s1.trans s2).trans s3).free np2) (((s1.trans s2).trans s3).new np2) ?_
      rw [upd_same]; rfl
/-! ### ring_lead -/
def sp_ring_lead (_ : PySem.W.Frag) : Sp := fun vs H Q _ => ∃ a b : List Nat, vs = [T a, T b] ∧ Row a ∧ Row b ∧ a.length ≤ 100000 ∧ b.length ≤ 100000 ∧ ∀ H', Same H H' → Q (ldv (red a) (red b)) H'
set_option maxHeartbeats 4000000 in
theorem ok_ring_lead (Z : Tx K mg) : FnOk P w K mg base CX0 3 Z.a_ring_lead Z.d_ring_lead ["one", "two"] (sp_ring_lead K) := by
  refine Z.F_ring_lead.ok sc_ring_lead (fun vs H Q E h => ?_) (fun cdv A outer s H vs Q E rm h => ?_)
  · obtain ⟨a, b, rfl, ha, hb, la, lb, q⟩ := h; rfl
  · obtain ⟨a, b, rfl, ha, hb, la, lb, q⟩ := h
    refine ⟨_,
      (pss_cons (ps_expr (pe_call (ok_check_row Z) rm (by rfl) Z.g_check_row Z.F_check_row.kp Z.b_check_row .nil pass0 (pa_cons (pv 0) pa_nil)))
      (pss_cons (ps_expr (pe_call (ok_check_row Z) rm (by rfl) Z.g_check_row Z.F_check_row.kp Z.b_check_row .nil pass0 (pa_cons (pv 1) pa_nil)))
      (pss_one (ps_ret (pe_call (ok_lead_between Z) rm (by rfl) Z.g_lead_between Z.F_lead_between.kp Z.b_lead_between .nil pass0 (pa_cons (pe_call (ok_least_of Z) (rm.mono (by decide)) (by rfl) Z.g_least_of Z.F_least_of.kp Z.b_least_of .nil pass0 (pa_cons (pv 0) pa_nil)) (pa_cons (pe_call (ok_least_of Z) (rm.mono (by decide)) (by rfl) Z.g_least_of Z.F_least_of.kp Z.b_least_of .nil pass0 (pa_cons (pv 1) pa_nil)) pa_nil))))))), ?_⟩
    rw [show L2.start N_ring_lead [T a, T b] = [some (T a), some (T b)] from rfl]
    have h1 := red_len a
    have h2 := red_len b
    walk_at "go"
    refine ⟨a, rfl, ha, by omega, fun H1 s1 => ?_⟩
    walk_at "go"
    refine ⟨b, rfl, hb, by omega, fun H2 s2 => ?_⟩
    walk_at "go"
    refine ⟨a, rfl, ha, by omega, fun H3 s3 => ?_⟩
    walk_at "go"
    refine ⟨b, rfl, hb, by omega, fun H4 s4 => ?_⟩
    walk_at "go"
    exact ⟨red a, red b, rfl, ha.red, hb.red, by omega, by omega, fun H5 s5 => q _ ((((s1.trans s2).trans s3).trans s4).trans s5)⟩
/-! ### ring_alike -/
def sp_ring_alike (_ : PySem.W.Frag) : Sp := fun vs H Q _ => ∃ a b : List Nat, vs = [T a, T b] ∧ Row a ∧ Row b ∧ a.length ≤ 100000 ∧ b.length ≤ 100000 ∧ ∀ H', Same H H' → Q (.bl (alk (red a) (red b))) H'
set_option maxHeartbeats 4000000 in
theorem ok_ring_alike (Z : Tx K mg) : FnOk P w K mg base CX0 4 Z.a_ring_alike Z.d_ring_alike ["one", "two"] (sp_ring_alike K) := by
  refine Z.F_ring_alike.ok sc_ring_alike (fun vs H Q E h => ?_) (fun cdv A outer s H vs Q E rm h => ?_)
  · obtain ⟨a, b, rfl, ha, hb, la, lb, q⟩ := h; rfl
  · obtain ⟨a, b, rfl, ha, hb, la, lb, q⟩ := h
    refine ⟨_,
      (pss_one (ps_ret (pe_cmpR op_isNotG (pe_call (ok_ring_lead Z) rm (by rfl) Z.g_ring_lead Z.F_ring_lead.kp Z.b_ring_lead .nil pass0 (pa_cons (pv 0) (pa_cons (pv 1) pa_nil))) pe_non (nomark _)))), ?_⟩
    rw [show L2.start N_ring_alike [T a, T b] = [some (T a), some (T b)] from rfl]
    walk_at "go"
    refine ⟨a, b, rfl, ha, hb, la, lb, fun H1 s1 => ?_⟩
    have q1 := q _ s1
    unfold ldv
    cases hk : alk (red a) (red b) with
    | true =>
      rw [hk] at q1
      rw [if_pos rfl]
      walk_at "go"
      exact q1
    | false =>
      rw [hk] at q1
      rw [if_neg (by decide)]
      walk_at "go"
      exact q1
/-! ### _law_well -/
def sp__law_well (K : PySem.W.Frag) : Sp := fun vs H Q _ => ∃ (a : Addr) (ns : List Int) (k : Nat), vs = [.ref a, .int (k : Int)] ∧ SqL K H a (ns.map V.int) ∧ k ≤ 100 ∧ ∀ p H', H p = none → Same H H' → Wl H' p 0 → Q (.ref p) H'
set_option maxHeartbeats 4000000 in
theorem ok__law_well (Z : Tx K mg) : FnOk P w K mg base CX0 1 Z.a__law_well Z.d__law_well ["script", "k"] (sp__law_well K) := by
  refine Z.F__law_well.ok sc__law_well (fun vs H Q E h => ?_) (fun cdv A outer s H vs Q E rm h => ?_)
  · obtain ⟨a, ns, k, rfl, hS, hk, q⟩ := h; rfl
  · obtain ⟨a, ns, k, rfl, hS, hk, q⟩ := h
    refine ⟨_,
      (pss_cons (ps_set (i := 2) sc__law_well.nd rfl (.inl rfl) (pe_ifExp (pt_cmpR op_lt (pv 1) (pe_callB (call_lenK K) (by rfl) Z.n_len PySem.boot_len (pa_cons (pv 0) pa_nil)) (nomark _)) (pe_callB call_abs (by rfl) Z.n_abs (by decide +kernel) (pa_cons (pe_callTy call_intG (by rfl) Z.n_int (by decide +kernel) (pa_cons (pe_ix (ix_K K) (pv 0) (pv 1) (fun _ _ => rfl)) pa_nil)) pa_nil)) (pe_op op_mulG pe_int (pv 1))))
      (pss_one (ps_ret (pe_lst (pa_cons (pe_callB (call_max2 rfl) (by rfl) Z.n_max (by decide +kernel) (pa_cons pe_int (pa_cons (pe_op op_sub (pv 2) (pe_op op_powW pe_int pe_int)) pa_nil))) (pa_cons (pe_op (op_addK K) (pe_op (op_addK K) (pe_op op_modN (pe_callTy call_intG (by rfl) Z.n_int (by decide +kernel) (pa_cons (pv 2) pa_nil)) (pe_op (op_addK K) (pe_op op_powW pe_int pe_int) pe_int)) (pe_op op_mulG pe_int (pv 1))) pe_int) (pa_cons pe_int pa_nil))))))), ?_⟩
    rw [show L2.start N__law_well [.ref a, .int (k : Int)] = [some (.ref a), some (.int (k : Int)), none] from rfl]
    refine r_seq ?_
    refine r_asg ?_
    refine r_gen (fun v H' => ∃ cell : Int, v = .int cell ∧ 0 ≤ cell ∧ H' = H) (fun v H' hv => ?_) (fun Q' k' => ?_)
    · obtain ⟨cell, rfl, h0, rfl⟩ := hv
      walk_at "go"
      intro p np
      have h1 : 0 ≤ cell % (1000000000000000000000000000000000000 + 67) := Int.emod_nonneg _ (by decide)
      have h2 : cell % (1000000000000000000000000000000000000 + 67) < 1000000000000000000000000000000000000 + 67 := Int.emod_lt_of_pos _ (by decide)
      generalize cell % (1000000000000000000000000000000000000 + 67) = y at h1 h2
      refine q p _ np (Same.new1 np) ⟨_, _, _, upd_same, ?_, ?_, ?_, ?_, ?_⟩
      · split <;> omega
      · omega
      · omega
      · omega
      · omega
    · walk_at "go"
      refine r_ifd (fun c => ?_) (fun c => ?_)
      · have hlt : k < ns.length := by rw [List.length_map] at c; omega
        walk_at "go"
        refine r_ixL hS (at_map hlt) ?_
        walk_at "go"
        exact k' _ _ ⟨_, rfl, by split <;> omega, rfl⟩
      · walk_at "go"
        exact k' _ _ ⟨_, rfl, by omega, rfl⟩
/-! ### _law_draw -/
def sp__law_draw (_ : PySem.W.Frag) : Sp := fun vs H Q _ => ∃ (a : Addr) (m : Int) (n : Nat), vs = [.ref a, .int m] ∧ Wl H a n ∧ n < 2 ^ 60 ∧ (0 < m ∧ m < 2 ^ 200) ∧ ∀ (r : Int) H', 0 ≤ r → r < m → Kp a H H' → Wl H' a (n + 1) → Q (.int r) H'
set_option maxHeartbeats 4000000 in
theorem ok__law_draw (Z : Tx K mg) : FnOk P w K mg base CX0 1 Z.a__law_draw Z.d__law_draw ["well", "many"] (sp__law_draw K) := by
  refine Z.F__law_draw.ok sc__law_draw (fun vs H Q E h => ?_) (fun cdv A outer s H vs Q E rm h => ?_)
  · obtain ⟨a, m, n, rfl, hw, hn, hm, q⟩ := h; rfl
  · obtain ⟨a, m, n, rfl, hw, hn, hm, q⟩ := h
    refine ⟨_,
      (pss_cons (ps_if (pt_cmpR op_gt (pe_ix (ix_K K) (pv 0) pe_int (fun _ _ => rfl)) pe_int (nomark _))
        (pss_cons (ps_set (i := 2) sc__law_draw.nd rfl (.inl rfl) (pe_op op_modN (pe_callTy call_intG (by rfl) Z.n_int (by decide +kernel) (pa_cons (pe_ix (ix_K K) (pv 0) pe_int (fun _ _ => rfl)) pa_nil)) (pv 1)))
        (pss_cons (ps_asg (pe_op op_fdivW (pe_ix (ix_K K) (pv 0) pe_int (fun _ _ => rfl)) (pv 1)) (pg_sub (pv 0) pe_int set_list))
        (pss_one (ps_ret (pv 2)))))
        pss_nil)
      (pss_cons (ps_asg (pe_op (op_addK K) (pe_ix (ix_K K) (pv 0) pe_int (fun _ _ => rfl)) pe_int) (pg_sub (pv 0) pe_int set_list))
      (pss_cons (ps_set (i := 3) sc__law_draw.nd rfl (.inl rfl) (pe_op op_modN (pe_callTy call_intG (by rfl) Z.n_int (by decide +kernel) (pa_cons (pe_op op_powW (pe_op (op_addK K) (pe_ix (ix_K K) (pv 0) pe_int (fun _ _ => rfl)) (pe_op op_mulG pe_int (pe_ix (ix_K K) (pv 0) pe_int (fun _ _ => rfl)))) pe_int) pa_nil)) (pe_op (op_addK K) (pe_op op_powW pe_int pe_int) pe_int)))
      (pss_cons (ps_set (i := 3) sc__law_draw.nd rfl (.inl rfl) (pe_op op_modN (pe_callTy call_intG (by rfl) Z.n_int (by decide +kernel) (pa_cons (pe_op op_powW (pe_op (op_addK K) (pv 3) (pe_op op_mulG pe_int (pe_ix (ix_K K) (pv 0) pe_int (fun _ _ => rfl)))) pe_int) pa_nil)) (pe_op (op_addK K) (pe_op op_powW pe_int pe_int) pe_int)))
      (pss_one (ps_ret (pe_op op_modN (pe_callTy call_intG (by rfl) Z.n_int (by decide +kernel) (pa_cons (pe_op op_fdivW (pv 3) (pe_op op_powW pe_int pe_int)) pa_nil)) (pv 1)))))))), ?_⟩
    rw [show L2.start N__law_draw [.ref a, .int m] = [some (.ref a), some (.int m), none, none] from rfl]
    obtain ⟨w0, w1, w2, eH, p0, p1, p2, p3, p4⟩ := hw
    walk_at "go"
    refine r_ifd (fun c => ?_) (fun c => ?_)
    · walk_at "go"
      exact q _ _ (Int.emod_nonneg _ (by omega)) (Int.emod_lt_of_pos _ hm.1) (Kp.put (Kp.refl a H)) ⟨_, _, _, upd_same, Int.ediv_nonneg p0 (by omega), p1, p2, p3, by omega⟩
    · walk_at "go"
      refine r_I (cpow_of (k := 140) (by decide) (by omega) (by decide)) ?_
      walk_at "go"
      have h1 : 0 ≤ (w1 + 15485863 * (w2 + 1)) ^ (5 : Int).toNat % (10000000000000000000000000000000000000000000 + 63) := Int.emod_nonneg _ (by decide)
      have h2 : (w1 + 15485863 * (w2 + 1)) ^ (5 : Int).toNat % (10000000000000000000000000000000000000000000 + 63) < 10000000000000000000000000000000000000000000 + 63 := Int.emod_lt_of_pos _ (by decide)
      generalize (w1 + 15485863 * (w2 + 1)) ^ (5 : Int).toNat % (10000000000000000000000000000000000000000000 + 63) = y at h1 h2
      refine r_I (cpow_of (k := 150) (by decide) (by omega) (by decide)) ?_
      walk_at "go"
      exact q _ _ (Int.emod_nonneg _ (by omega)) (Int.emod_lt_of_pos _ hm.1) (Kp.put (Kp.refl a H)) ⟨_, _, _, upd_same, p0, p1, p2, by omega, by omega⟩
/-! ### _law_other -/
def sp__law_other (_ : PySem.W.Frag) : Sp := fun vs H Q _ => ∃ c : Nat, vs = [T [c]] ∧ c < 128 ∧ Q (T [swp c]) H
set_option maxHeartbeats 4000000 in
theorem ok__law_other (Z : Tx K mg) : FnOk P w K mg base CX0 1 Z.a__law_other Z.d__law_other ["sign"] (sp__law_other K) := by
  refine Z.F__law_other.ok sc__law_other (fun vs H Q E h => ?_) (fun cdv A outer s H vs Q E rm h => ?_)
  · obtain ⟨c, rfl, hc, q⟩ := h; rfl
  · obtain ⟨c, rfl, hc, q⟩ := h
    refine ⟨_,
      (pss_one (ps_ret (pe_ifExp (pt_truK K (pe_bm0K K PySem.F.plainAttrs_str PySem.F.slot_str_islower PySem.F.type_str_islower mt_islowL (pv 0)) (by intro _; rfl)) (pe_bm0K K PySem.F.plainAttrs_str PySem.F.slot_str_upper PySem.F.type_str_upper mt_upL (pv 0)) (pe_bm0K K PySem.F.plainAttrs_str PySem.F.slot_str_lower PySem.F.type_str_lower mt_lowL (pv 0))))), ?_⟩
    rw [show L2.start N__law_other [T [c]] = [some (T [c])] from rfl]
    have ha : Asc [c] := fun x hx => by rw [List.mem_singleton.mp hx]; exact hc
    walk_at "go"
    refine ⟨c, rfl, rfl, hc, ?_⟩
    walk_at "go"
    refine r_if (fun e => ?_) (fun e => ?_)
    · walk_at "go"
      refine r_map ha (by simp) ?_
      show Q (T [up1 c]) H
      rw [oth_up e]; exact q
    · walk_at "go"
      refine r_map ha (by simp) ?_
      show Q (T [lo1 c]) H
      rw [oth_lo e]; exact q
/-! ### _law_back -/
def sp__law_back (_ : PySem.W.Frag) : Sp := fun vs H Q _ => ∃ l : List Nat, vs = [T l] ∧ Row l ∧ l.length ≤ 5000000 ∧ ∀ H', Same H H' → Q (T (bak l)) H'
set_option maxHeartbeats 4000000 in
theorem ok__law_back (Z : Tx K mg) : FnOk P w K mg base CX0 2 Z.a__law_back Z.d__law_back ["given"] (sp__law_back K) := by
  refine Z.F__law_back.ok sc__law_back (fun vs H Q E h => ?_) (fun cdv A outer s H vs Q E rm h => ?_)
  · obtain ⟨l, rfl, ha, hl, q⟩ := h; rfl
  · obtain ⟨l, rfl, ha, hl, q⟩ := h
    refine ⟨_,
      (pss_one (ps_ret (pe_joinK K (pe_strL (l := []) (by decide +kernel)) (pe_lc (own := [("sign", 1)]) (g := gName 1) (tt := tYes) rfl sc__law_back.nd (pi_K K (pe_revK K (pv 0))) (blkOk_by (N := N__law_back) (sc := defScope s__law_back) (by decide +kernel)) (fun _ _ _ _ _ => pg_name (i := 1) sc__law_back.nd rfl (Or.inl rfl)) (fun _ _ _ _ _ => pts_nil) (fun _ _ _ _ _ => (pe_call (ok__law_other Z) rm (by rfl) Z.g__law_other Z.F__law_other.kp Z.b__law_other .nil pass0 (pa_cons (pv 1) pa_nil))))))), ?_⟩
    rw [show L2.start N__law_back [T l] = [some (T l), none] from rfl]
    walk_at "go"
    refine lc_known (known_str l.reverse) (fun i => some (T [swp (l.reverse.getD i 0)])) (by rw [List.length_reverse]; omega) (fun _ _ => trivial) (fun i H2 QT hi sm hk => ?_) (fun D H' nD sm eD => ?_)
    · have hc : lett (l.reverse.getD i 0) = true := ha.rev _ (getD_mem hi)
      generalize l.reverse.getD i 0 = c at hc hk
      walk_at "go"
      refine ⟨c, rfl, (Row.one hc).asc c (by simp), ?_⟩
      exact hk _ (Same.refl _)
    · walk_at "go"
      rw [fm_range l.reverse (fun c => T [swp c]) 0] at eD
      refine r_join0 (ls := (bak l).map fun c => [c]) (SqL.of (by rw [eD, ← ones_T, bak, List.map_map]; rfl)) (by rw [ones_flat, bak_len]; omega) ?_
      rw [ones_flat]
      exact q _ sm
/-! ### _law_signs -/
def sp__law_signs (_ : PySem.W.Frag) : Sp := fun vs H Q _ => ∃ (a : Addr) (n : Nat), vs = [.ref a] ∧ Wl H a n ∧ n < 2 ^ 50 ∧ ∀ l H', Sgn l → Kp a H H' → Wl H' a (n + 6) → Q (T l) H'
set_option maxHeartbeats 4000000 in
theorem ok__law_signs (Z : Tx K mg) : FnOk P w K mg base CX0 2 Z.a__law_signs Z.d__law_signs ["well"] (sp__law_signs K) := by
  refine Z.F__law_signs.ok sc__law_signs (fun vs H Q E h => ?_) (fun cdv A outer s H vs Q E rm h => ?_)
  · obtain ⟨a, n, rfl, hw, hn, q⟩ := h; rfl
  · obtain ⟨a, n, rfl, hw, hn, q⟩ := h
    refine ⟨_,
      (pss_cons (ps_asg (pe_tup (pa_cons (pe_strL (l := [97, 98, 99, 100, 101, 102, 103, 104, 105, 106, 107, 108, 109, 110, 111, 112, 113, 114, 115, 116, 117, 118, 119, 120, 121, 122]) (by decide +kernel)) (pa_cons (pe_strL (l := []) (by decide +kernel)) pa_nil))) (pg_tupK K rfl (pgs_cons (pg_name (i := 1) sc__law_signs.nd rfl (.inl rfl)) (pgs_cons (pg_name (i := 2) sc__law_signs.nd rfl (.inl rfl)) pgs_nil))))
      (pss_cons (ps_if (pt_cmpR (op_eqK K (hu_of64 rm)) (pe_call (ok__law_draw Z) rm (by rfl) Z.g__law_draw Z.F__law_draw.kp Z.b__law_draw .nil pass0 (pa_cons (pv 0) (pa_cons pe_int pa_nil))) pe_int (nomark _))
        (pss_one (ps_ret (pe_op (op_addK K) (pv 1) (pe_bm0K K PySem.F.plainAttrs_str PySem.F.slot_str_upper PySem.F.type_str_upper mt_upL (pv 1)))))
        pss_nil)
      (pss_cons (ps_for PassesOwn.never rfl (pi_range1 (by rfl) Z.n_range (pa_cons (pe_op (op_addK K) pe_int (pe_call (ok__law_draw Z) rm (by rfl) Z.g__law_draw Z.F__law_draw.kp Z.b__law_draw .nil pass0 (pa_cons (pv 0) (pa_cons pe_int pa_nil)))) pa_nil)) (pg_name (i := 3) sc__law_signs.nd rfl (.inl rfl))
        (pss_one (ps_set (i := 2) sc__law_signs.nd rfl (.inl rfl) (pe_op (op_addK K) (pv 2) (pe_ix (ix_K K) (pv 1) (pe_call (ok__law_draw Z) rm (by rfl) Z.g__law_draw Z.F__law_draw.kp Z.b__law_draw .nil pass0 (pa_cons (pv 0) (pa_cons pe_int pa_nil))) (fun _ _ => rfl))))))
      (pss_one (ps_ret (pe_op (op_addK K) (pv 2) (pe_bm0K K PySem.F.plainAttrs_str PySem.F.slot_str_upper PySem.F.type_str_upper mt_upL (pv 2)))))))), ?_⟩
    rw [show L2.start N__law_signs [.ref a] = [some (.ref a), none, none, none] from rfl]
    walk_at "go"
    intro p np
    walk_at "go"
    refine ⟨a, 6, n, rfl, hw.new np, by omega, by decide, fun r H1 r0 r1 k1 w1 => ?_⟩
    walk_at "go"
    have k0 : Kp a H H1 := (Kp.of (Same.new1 np)).trans k1
    refine r_ifd (fun c => ?_) (fun c => ?_)
    · walk_at "go"
      refine r_map lowL_row.asc (by decide) ?_
      walk_at "go"
      exact q _ _ sgn_all k0 (w1.mono (by omega))
    · walk_at "go"
      refine ⟨a, 4, n + 1, rfl, w1, by omega, by decide, fun r2 H2 r20 r21 k2 w2 => ?_⟩
      walk_at "go"
      refine r_goR1 (by omega) ?_
      refine for_known (known_rng 0 _) (fun i σ H' => ∃ s x, σ = [some (.ref a), some (T lowL), some (T s), x] ∧ s.length = i ∧ Row s ∧ Kp a H H' ∧ Wl H' a (n + 2 + i))
        ⟨[], none, rfl, rfl, Row.nil, k0.trans k2, w2⟩ (fun _ _ _ _ _ => trivial) ?_ ?_
      · rintro i σ H' hi ⟨s, x, rfl, hs, hr, k3, w3⟩
        walk_at "go"
        refine ⟨a, 26, n + 2 + i, rfl, w3, by omega, by decide, fun r4 H4 r40 r41 k4 w4 => ?_⟩
        refine r_ixS (by decide) (at_nat r40 (by show r4 < 26; exact r41)) ?_
        walk_at "go"
        have hm : lowL.getD r4.toNat 0 ∈ lowL := getD_mem (by show r4.toNat < 26; omega)
        exact ⟨_, _, rfl, by rw [List.length_append, hs]; rfl, hr.app (Row.one (lowL_row _ hm)), k3.trans k4, w4⟩
      · rintro σ H' ⟨s, x, rfl, hs, hr, k3, w3⟩
        walk_at "go"
        refine r_map hr.asc (by omega) ?_
        walk_at "go"
        exact q _ _ (sgn_some hr (by omega) (by omega)) k3 (w3.mono (by omega))
/-! ### _law_word -/
def sp__law_word (_ : PySem.W.Frag) : Sp := fun vs H Q _ => ∃ (a : Addr) (s : List Nat) (m n : Nat), vs = [.ref a, T s, .int (m : Int)] ∧ Wl H a n ∧ n < 2 ^ 40 ∧ Sgn s ∧ m ≤ 1000 ∧ ∀ l H', Row l → l.length ≤ m → Kp a H H' → Wl H' a (n + 2 * m + 1) → Q (T l) H'
set_option maxHeartbeats 4000000 in
theorem ok__law_word (Z : Tx K mg) : FnOk P w K mg base CX0 3 Z.a__law_word Z.d__law_word ["well", "signs", "most"] (sp__law_word K) := by
  refine Z.F__law_word.ok sc__law_word (fun vs H Q E h => ?_) (fun cdv A outer s H vs Q E rm h => ?_)
  · obtain ⟨a, s, m, n, rfl, hw, hn, hs, hm, q⟩ := h; rfl
  · obtain ⟨a, s, m, n, rfl, hw, hn, hs, hm, q⟩ := h
    refine ⟨_,
      (pss_cons (ps_set (i := 3) sc__law_word.nd rfl (.inl rfl) (pe_strL (l := []) (by decide +kernel)))
      (pss_cons (ps_for PassesOwn.never rfl (pi_range1 (by rfl) Z.n_range (pa_cons (pe_call (ok__law_draw Z) (rm.mono (by decide)) (by rfl) Z.g__law_draw Z.F__law_draw.kp Z.b__law_draw .nil pass0 (pa_cons (pv 0) (pa_cons (pe_op (op_addK K) (pv 2) pe_int) pa_nil))) pa_nil)) (pg_name (i := 4) sc__law_word.nd rfl (.inl rfl))
        (pss_cons (ps_set (i := 5) sc__law_word.nd rfl (.inl rfl) (pe_call (ok__law_draw Z) (rm.mono (by decide)) (by rfl) Z.g__law_draw Z.F__law_draw.kp Z.b__law_draw .nil pass0 (pa_cons (pv 0) (pa_cons pe_int pa_nil))))
        (pss_one (ps_if (pt_cmpR (op_eqK K (hu_of64 rm)) (pv 5) pe_int (nomark _))
          (pss_one (ps_set (i := 3) sc__law_word.nd rfl (.inl rfl) (pe_ifExp (pt_cmpR op_gt (pe_callB (call_lenK K) (by rfl) Z.n_len PySem.boot_len (pa_cons (pv 3) pa_nil)) pe_int (nomark _)) (pe_op (op_addK K) (pv 3) (pe_call (ok__law_back Z) rm (by rfl) Z.g__law_back Z.F__law_back.kp Z.b__law_back .nil pass0 (pa_cons (pe_slice (sl_K K) (pv 3) (po_some (pe_op op_sub (pe_op op_sub (pe_callB (call_lenK K) (by rfl) Z.n_len PySem.boot_len (pa_cons (pv 3) pa_nil)) pe_int) (pe_call (ok__law_draw Z) (rm.mono (by decide)) (by rfl) Z.g__law_draw Z.F__law_draw.kp Z.b__law_draw .nil pass0 (pa_cons (pv 0) (pa_cons pe_int pa_nil))))) po_none) pa_nil))) (pv 3))))
          (pss_one (ps_if (PW.pt (pw_and (pt_cmpR (op_eqK K (hu_of64 rm)) (pv 5) pe_int (nomark _)) (pw_and1 (pt_cmpR (op_neK K (hu_of64 rm)) (pv 3) (pe_strL (l := []) (by decide +kernel)) (nomark _)))))
            (pss_one (ps_set (i := 3) sc__law_word.nd rfl (.inl rfl) (pe_op (op_addK K) (pv 3) (pe_ix (ix_K K) (pe_lst (pa_cons (pe_ix (ix_K K) (pv 3) (pe_un un_neg pe_int) (fun _ _ => rfl)) (pa_cons (pe_call (ok__law_other Z) (rm.mono (by decide)) (by rfl) Z.g__law_other Z.F__law_other.kp Z.b__law_other .nil pass0 (pa_cons (pe_ix (ix_K K) (pv 3) (pe_un un_neg pe_int) (fun _ _ => rfl)) pa_nil)) pa_nil))) (pe_call (ok__law_draw Z) (rm.mono (by decide)) (by rfl) Z.g__law_draw Z.F__law_draw.kp Z.b__law_draw .nil pass0 (pa_cons (pv 0) (pa_cons pe_int pa_nil))) (fun _ _ => rfl)))))
            (pss_one (ps_set (i := 3) sc__law_word.nd rfl (.inl rfl) (pe_op (op_addK K) (pv 3) (pe_ix (ix_K K) (pv 1) (pe_call (ok__law_draw Z) (rm.mono (by decide)) (by rfl) Z.g__law_draw Z.F__law_draw.kp Z.b__law_draw .nil pass0 (pa_cons (pv 0) (pa_cons (pe_callB (call_lenK K) (by rfl) Z.n_len PySem.boot_len (pa_cons (pv 1) pa_nil)) pa_nil))) (fun _ _ => rfl)))))))))))
      (pss_one (ps_ret (pe_slice (sl_K K) (pv 3) po_none (po_some (pv 2))))))), ?_⟩
    rw [show L2.start N__law_word [.ref a, T s, .int (m : Int)] = [some (.ref a), some (T s), some (.int (m : Int)), none, none, none] from rfl]
    obtain ⟨hs1, hs2, hs3⟩ := hs
    walk_at "go"
    refine ⟨a, (m : Int) + 1, n, rfl, hw, by omega, by omega, fun r H1 r0 r1 k1 w1 => ?_⟩
    refine r_goR1 (by omega) ?_
    refine for_known (known_rng 0 _) (fun i σ H' => ∃ w x y, σ = [some (.ref a), some (T s), some (.int m), some (T w), x, y] ∧ w.length ≤ 6 * i ∧ Row w ∧ Kp a H H' ∧ Wl H' a (n + 1 + 2 * i))
      ⟨[], none, none, rfl, by simp, Row.nil, k1, w1⟩ (fun _ _ _ _ _ => trivial) ?_ ?_
    · rintro i σ H' hi ⟨w, x, y, rfl, hl, hr, k3, w3⟩
      have hi' : i < m + 1 := by omega
      walk_at "go"
      refine ⟨a, 6, n + 1 + 2 * i, rfl, w3, by omega, by decide, fun r4 H4 r40 r41 k4 w4 => ?_⟩
      walk_at "go"
      refine r_ifd (fun c => ?_) (fun c => ?_)
      · walk_at "go"
        refine r_ifd (fun c5 => ?_) (fun c5 => ?_)
        · walk_at "go"
          refine ⟨a, 5, n + 1 + 2 * i + 1, rfl, w4, by omega, by decide, fun r6 H6 r60 r61 k6 w6 => ?_⟩
          walk_at "go"
          have hcut : ∃ j : Nat, ((w.length : Int) - 1 - r6) = j ∧ w.length ≤ j + 5 := ⟨w.length - 1 - r6.toNat, by omega, by omega⟩
          obtain ⟨j, ej, hj⟩ := hcut
          rw [ej, cut_from]
          refine ⟨w.drop j, rfl, hr.drop j, by rw [List.length_drop]; omega, fun H7 s7 => ?_⟩
          have hb := bak_len (w.drop j)
          rw [List.length_drop] at hb
          walk_at "go"
          exact ⟨_, _, _, rfl, by rw [List.length_append]; omega, hr.app (hr.drop j).bak, (k3.trans (k4.trans (k6.trans (Kp.of s7)))), (w6.same s7).mono (by omega)⟩
        · walk_at "go"
          exact ⟨_, _, _, rfl, by omega, hr, k3.trans k4, w4.mono (by omega)⟩
      · walk_at "go"
        refine r_ifd (fun c1 => ?_) (fun c1 => ?_)
        · walk_at "go"
          refine r_ifnd (fun c2 => ?_) (fun c2 => ?_)
          · obtain ⟨w', t, rfl⟩ : ∃ w' t, w = w' ++ [t] := ⟨w.dropLast, w.getLast c2, (List.dropLast_concat_getLast c2).symm⟩
            have ht : lett t = true := hr.of_app.2.of_cons.1
            walk_at "go"
            refine r_ixS (by walk_at "len") (at_last (v := t) (by simp)) ?_
            walk_at "go"
            refine r_ixS (by walk_at "len") (at_last (v := t) (by simp)) ?_
            walk_at "go"
            refine ⟨t, rfl, (Row.one ht).asc t (by simp), ?_⟩
            walk_at "go"
            intro p np
            walk_at "go"
            refine ⟨a, 2, n + 1 + 2 * i + 1, rfl, w4.new np, by omega, by decide, fun r6 H6 r60 r61 k6 w6 => ?_⟩
            have ep : H6 p = some (.lst [T [t], T [swp t]]) := k6 _ _ (w4.ne np) upd_same
            have kk : Kp a H H6 := k3.trans (k4.trans ((Kp.of (Same.new1 np)).trans k6))
            rcases (show r6 = 0 ∨ r6 = 1 by omega) with e | e
            · subst e
              walk_at "go"
              exact ⟨_, _, _, rfl, by walk_at "len", hr.app (Row.one ht), kk, w6.mono (by omega)⟩
            · subst e
              walk_at "go"
              exact ⟨_, _, _, rfl, by walk_at "len", hr.app (Row.one (swp_lett ht)), kk, w6.mono (by omega)⟩
          · subst c2
            walk_at "go"
            refine ⟨a, (s.length : Int), n + 1 + 2 * i + 1, rfl, w4, by omega, by omega, fun r6 H6 r60 r61 k6 w6 => ?_⟩
            refine r_ixS (by omega) (at_nat r60 r61) ?_
            walk_at "go"
            exact ⟨_, _, _, rfl, by walk_at "len", Row.app Row.nil (Row.one (hs1 _ (getD_mem (by omega)))), k3.trans (k4.trans k6), w6.mono (by omega)⟩
        · walk_at "go"
          refine ⟨a, (s.length : Int), n + 1 + 2 * i + 1, rfl, w4, by omega, by omega, fun r6 H6 r60 r61 k6 w6 => ?_⟩
          refine r_ixS (by omega) (at_nat r60 r61) ?_
          walk_at "go"
          exact ⟨_, _, _, rfl, by walk_at "len", hr.app (Row.one (hs1 _ (getD_mem (by omega)))), k3.trans (k4.trans k6), w6.mono (by omega)⟩
    · rintro σ H' ⟨w, x, y, rfl, hl, hr, k3, w3⟩
      walk_at "go"
      rw [cut_to]
      exact q _ _ (hr.take m) (by rw [List.length_take]; omega) k3 (w3.mono (by omega))
/-! ### _law_backs_right -/
def sp__law_backs_right (_ : PySem.W.Frag) : Sp := fun vs H Q _ => ∃ w : List Nat, vs = [T w] ∧ Row w ∧ w.length ≤ 1000 ∧ ∀ H', Same H H' → Q (.bl true) H'
set_option maxHeartbeats 4000000 in
theorem ok__law_backs_right (Z : Tx K mg) : FnOk P w K mg base CX0 4 Z.a__law_backs_right Z.d__law_backs_right ["word"] (sp__law_backs_right K) := by
  refine Z.F__law_backs_right.ok sc__law_backs_right (fun vs H Q E h => ?_) (fun cdv A outer s H vs Q E rm h => ?_)
  · obtain ⟨w, rfl, hr, hl, q⟩ := h; rfl
  · obtain ⟨w, rfl, hr, hl, q⟩ := h
    refine ⟨_,
      (pss_cons (ps_asg (pe_call (ok_core Z) rm (by rfl) Z.g_core Z.F_core.kp Z.b_core .nil pass0 (pa_cons (pv 0) pa_nil)) (pg_tupK K rfl (pgs_cons (pg_name (i := 1) sc__law_backs_right.nd rfl (.inl rfl)) (pgs_cons (pg_name (i := 2) sc__law_backs_right.nd rfl (.inl rfl)) pgs_nil))))
      (pss_cons (ps_if (PW.pt (pw_or (pt_cmpR (op_neK K (hu_of64 rm)) (pe_call (ok_core Z) rm (by rfl) Z.g_core Z.F_core.kp Z.b_core .nil pass0 (pa_cons (pe_call (ok_back Z) rm (by rfl) Z.g_back Z.F_back.kp Z.b_back .nil pass0 (pa_cons (pv 0) pa_nil)) pa_nil)) (pe_tup (pa_cons (pv 1) (pa_cons (pe_call (ok_back Z) rm (by rfl) Z.g_back Z.F_back.kp Z.b_back .nil pass0 (pa_cons (pv 2) pa_nil)) pa_nil))) (nomark _)) (pw_or1 (pt_cmpR (op_neK K (hu_of64 rm)) (pe_call (ok_back Z) rm (by rfl) Z.g_back Z.F_back.kp Z.b_back .nil pass0 (pa_cons (pe_call (ok_least Z) rm (by rfl) Z.g_least Z.F_least.kp Z.b_least .nil pass0 (pa_cons (pv 0) pa_nil)) pa_nil)) (pe_call (ok_least Z) rm (by rfl) Z.g_least Z.F_least.kp Z.b_least .nil pass0 (pa_cons (pe_call (ok_back Z) rm (by rfl) Z.g_back Z.F_back.kp Z.b_back .nil pass0 (pa_cons (pv 0) pa_nil)) pa_nil)) (nomark _)))))
        (pss_one (ps_ret pe_bl))
        pss_nil)
      (pss_cons (ps_asg (pe_call (ok_root Z) rm (by rfl) Z.g_root Z.F_root.kp Z.b_root .nil pass0 (pa_cons (pv 0) pa_nil)) (pg_tupK K rfl (pgs_cons (pg_name (i := 3) sc__law_backs_right.nd rfl (.inl rfl)) (pgs_cons (pg_name (i := 4) sc__law_backs_right.nd rfl (.inl rfl)) pgs_nil))))
      (pss_cons (ps_if (PW.pt (pw_or (pt_cmpR (op_neK K (hu_of64 rm)) (pe_call (ok_root Z) rm (by rfl) Z.g_root Z.F_root.kp Z.b_root .nil pass0 (pa_cons (pe_call (ok_back Z) rm (by rfl) Z.g_back Z.F_back.kp Z.b_back .nil pass0 (pa_cons (pv 0) pa_nil)) pa_nil)) (pe_tup (pa_cons (pe_call (ok_back Z) rm (by rfl) Z.g_back Z.F_back.kp Z.b_back .nil pass0 (pa_cons (pv 3) pa_nil)) (pa_cons (pv 4) pa_nil))) (nomark _)) (pw_or1 (pt_cmpR (op_neK K (hu_of64 rm)) (pe_call (ok_joined Z) (rm.mono (by decide)) (by rfl) Z.g_joined Z.F_joined.kp Z.b_joined .nil pass0 (pa_cons (pe_lst (pa_cons (pv 0) (pa_cons (pe_call (ok_back Z) rm (by rfl) Z.g_back Z.F_back.kp Z.b_back .nil pass0 (pa_cons (pv 0) pa_nil)) pa_nil))) pa_nil)) (pe_strL (l := []) (by decide +kernel)) (nomark _)))))
        (pss_one (ps_ret pe_bl))
        pss_nil)
      (pss_one (ps_ret (pe_cmpR (op_eqK K (hu_of64 rm)) (pe_call (ok_least Z) rm (by rfl) Z.g_least Z.F_least.kp Z.b_least .nil pass0 (pa_cons (pv 0) pa_nil)) (pe_call (ok_joined Z) (rm.mono (by decide)) (by rfl) Z.g_joined Z.F_joined.kp Z.b_joined .nil pass0 (pa_cons (pe_lst (pa_cons (pv 0) pa_nil)) pa_nil)) (nomark _)))))))), ?_⟩
    rw [show L2.start N__law_backs_right [T w] = [some (T w), none, none, none, none] from rfl]
    have hrl := red_len w
    have hbl := bak_len w
    have hcs := csize_le (red w)
    have hrg := ring_len (red w)
    have cb := core_bak hr.red (free_red hr)
    have rb := root_bak hr
    rw [red_bak_comm hr] at rb
    have l1 := root1_len (red w)
    walk_at "go"
    refine ⟨w, rfl, hr, by omega, fun p H1 np s1 ep => ?_⟩
    walk_at "go"
    refine ⟨w, rfl, hr, by omega, fun H2 s2 => ?_⟩
    walk_at "go"
    refine ⟨bak w, rfl, hr.bak, by omega, fun p3 H3 np3 s3 ep3 => ?_⟩
    rw [red_bak_comm hr, cb.1, cb.2] at ep3
    walk_at "go"
    refine ⟨ring (red w), rfl, hr.red.ring, by omega, fun H4 s4 => ?_⟩
    walk_at "go"
    intro d nd
    have ep4 := s4 _ _ ep3
    refine r_neTs (as := [lead (red w), bak (ring (red w))]) (bs := [lead (red w), bak (ring (red w))]) (SqT.of (by rw [upd_ne (ne_of_none ep4 nd)]; exact ep4)) (SqT.of upd_same) (asc_two hr.red.lead.asc hr.red.ring.bak.asc) (asc_two hr.red.lead.asc hr.red.ring.bak.asc) ?_
    rw [decide_eq_true rfl]
    have s04 : Same H _ := (((s1.trans s2).trans s3).trans s4).new (o := HO.tup [T (lead (red w)), T (bak (ring (red w)))]) nd
    walk_at "go"
    refine ⟨w, rfl, hr, by omega, fun H5 s5 => ?_⟩
    walk_at "go"
    refine ⟨red w, rfl, hr.red, by omega, fun H6 s6 => ?_⟩
    walk_at "go"
    refine ⟨w, rfl, hr, by omega, fun H7 s7 => ?_⟩
    walk_at "go"
    refine ⟨bak w, rfl, hr.bak, by omega, fun H8 s8 => ?_⟩
    rw [red_bak_comm hr]
    walk_at "go"
    refine ⟨w, rfl, hr, by omega, fun p9 H9 np9 s9 ep9 => ?_⟩
    walk_at "go"
    refine ⟨w, rfl, hr, by omega, fun H10 s10 => ?_⟩
    walk_at "go"
    refine ⟨bak w, rfl, hr.bak, by omega, fun p11 H11 np11 s11 ep11 => ?_⟩
    rw [red_bak_comm hr, rb.1, rb.2] at ep11
    walk_at "go"
    refine ⟨root1 (red w), rfl, hr.red.root1, by omega, fun H12 s12 => ?_⟩
    walk_at "go"
    intro d2 nd2
    have ep12 := s12 _ _ ep11
    refine r_neSI (SqT.of (by rw [upd_ne (ne_of_none ep12 nd2)]; exact ep12)) (SqT.of upd_same) hr.red.root1.bak.asc hr.red.root1.bak.asc ?_
    rw [decide_eq_true ⟨rfl, rfl⟩]
    have s12' := ((((((((s04.trans s5).trans s6).trans s7).trans s8).trans s9).trans s10).trans s11).trans s12).new (o := HO.tup [T (bak (root1 (red w))), V.int (rootn (red w) : Nat)]) nd2
    walk_at "go"
    refine ⟨w, rfl, hr, by omega, fun H13 s13 => ?_⟩
    walk_at "go"
    intro p14 n14
    walk_at "go"
    refine ⟨p14, [w, bak w], rfl, upd_same, ?_, by simp only [List.flatten_cons, List.flatten_nil, List.length_append, List.length_nil]; omega, fun H15 s15 => ?_⟩
    · intro x hx
      simp only [List.mem_cons, List.not_mem_nil, or_false] at hx
      rcases hx with rfl | rfl
      · exact hr
      · exact hr.bak
    rw [show [w, bak w].flatten = w ++ bak w by simp, red_self hr]
    walk_at "go"
    refine ⟨w, rfl, hr, by omega, fun H16 s16 => ?_⟩
    walk_at "go"
    intro p17 n17
    walk_at "go"
    refine ⟨p17, [w], rfl, upd_same, ?_, by simp only [List.flatten_cons, List.flatten_nil, List.length_append, List.length_nil]; omega, fun H18 s18 => ?_⟩
    · intro x hx
      rw [List.mem_singleton.mp hx]; exact hr
    rw [show [w].flatten = w by simp]
    walk_at "go"
    exact q _ (((((s12'.trans s13).new n14).trans s15).trans s16).new n17 |>.trans s18)
/-! ### _law_leads_right -/
def sp__law_leads_right (_ : PySem.W.Frag) : Sp := fun vs H Q _ => ∃ a b c : List Nat, vs = [T a, T b, T c] ∧ Row a ∧ Row b ∧ Row c ∧ a.length ≤ 1000 ∧ b.length ≤ 1000 ∧ c.length ≤ 1000 ∧ alk (red a) (red b) = true ∧ alk (red b) (red c) = true ∧ ∀ H', Same H H' → Q (.bl true) H'
set_option maxHeartbeats 4000000 in
theorem ok__law_leads_right (Z : Tx K mg) : FnOk P w K mg base CX0 5 Z.a__law_leads_right Z.d__law_leads_right ["first", "second", "third"] (sp__law_leads_right K) := by
  refine Z.F__law_leads_right.ok sc__law_leads_right (fun vs H Q E h => ?_) (fun cdv A outer s H vs Q E rm h => ?_)
  · obtain ⟨a, b, c, rfl, ha, hb, hc, la, lb, lc, kab, kbc, q⟩ := h; rfl
  · obtain ⟨a, b, c, rfl, ha, hb, hc, la, lb, lc, kab, kbc, q⟩ := h
    refine ⟨_,
      (pss_cons (ps_par (i := 3) (j := 4) (by rfl) sc__law_leads_right.nd rfl rfl (by decide) rfl rfl (pa_cons (pe_call (ok_ring_lead Z) (rm.mono (by decide)) (by rfl) Z.g_ring_lead Z.F_ring_lead.kp Z.b_ring_lead .nil pass0 (pa_cons (pv 0) (pa_cons (pv 1) pa_nil))) (pa_cons (pe_call (ok_ring_lead Z) (rm.mono (by decide)) (by rfl) Z.g_ring_lead Z.F_ring_lead.kp Z.b_ring_lead .nil pass0 (pa_cons (pv 1) (pa_cons (pv 2) pa_nil))) pa_nil)) (by rfl))
      (pss_cons (ps_if (PW.pt (pw_or (pt_cmpR op_isG (pv 3) pe_non (nomark _)) (pw_or1 (pt_cmpR op_isG (pv 4) pe_non (nomark _)))))
        (pss_one (ps_ret pe_bl))
        pss_nil)
      (pss_cons (ps_if (PW.pt (pw_or (pt_cmpR (op_neK K (hu_of64 rm)) (pe_call (ok_joined Z) (rm.mono (by decide)) (by rfl) Z.g_joined Z.F_joined.kp Z.b_joined .nil pass0 (pa_cons (pe_lst (pa_cons (pv 3) (pa_cons (pv 1) (pa_cons (pe_call (ok_back Z) (rm.mono (by decide)) (by rfl) Z.g_back Z.F_back.kp Z.b_back .nil pass0 (pa_cons (pv 3) pa_nil)) pa_nil)))) pa_nil)) (pe_call (ok_least Z) (rm.mono (by decide)) (by rfl) Z.g_least Z.F_least.kp Z.b_least .nil pass0 (pa_cons (pv 0) pa_nil)) (nomark _)) (pw_or1 (pt_cmpR (op_neK K (hu_of64 rm)) (pe_call (ok_joined Z) (rm.mono (by decide)) (by rfl) Z.g_joined Z.F_joined.kp Z.b_joined .nil pass0 (pa_cons (pe_lst (pa_cons (pe_call (ok_back Z) (rm.mono (by decide)) (by rfl) Z.g_back Z.F_back.kp Z.b_back .nil pass0 (pa_cons (pv 3) pa_nil)) (pa_cons (pv 0) (pa_cons (pv 3) pa_nil)))) pa_nil)) (pe_call (ok_least Z) (rm.mono (by decide)) (by rfl) Z.g_least Z.F_least.kp Z.b_least .nil pass0 (pa_cons (pv 1) pa_nil)) (nomark _)))))
        (pss_one (ps_ret pe_bl))
        pss_nil)
      (pss_cons (ps_set (i := 5) sc__law_leads_right.nd rfl (.inl rfl) (pe_call (ok_joined Z) (rm.mono (by decide)) (by rfl) Z.g_joined Z.F_joined.kp Z.b_joined .nil pass0 (pa_cons (pe_lst (pa_cons (pv 3) (pa_cons (pv 4) pa_nil))) pa_nil)))
      (pss_one (ps_ret (pe_andK K (pe_cmpR (op_eqK K (hu_of64 rm)) (pe_call (ok_joined Z) (rm.mono (by decide)) (by rfl) Z.g_joined Z.F_joined.kp Z.b_joined .nil pass0 (pa_cons (pe_lst (pa_cons (pv 5) (pa_cons (pv 2) (pa_cons (pe_call (ok_back Z) (rm.mono (by decide)) (by rfl) Z.g_back Z.F_back.kp Z.b_back .nil pass0 (pa_cons (pv 5) pa_nil)) pa_nil)))) pa_nil)) (pe_call (ok_least Z) (rm.mono (by decide)) (by rfl) Z.g_least Z.F_least.kp Z.b_least .nil pass0 (pa_cons (pv 0) pa_nil)) (nomark _)) (pe_one (pe_call (ok_ring_alike Z) rm (by rfl) Z.g_ring_alike Z.F_ring_alike.kp Z.b_ring_alike .nil pass0 (pa_cons (pv 2) (pa_cons (pv 0) pa_nil))))))))))), ?_⟩
    rw [show L2.start N__law_leads_right [T a, T b, T c] = [some (T a), some (T b), some (T c), none, none, none] from rfl]
    have ra := red_len a
    have rb := red_len b
    have rc := red_len c
    have eab : ldv (red a) (red b) = T (leadB (red a) (red b)) := by unfold ldv; rw [kab]; rfl
    have ebc : ldv (red b) (red c) = T (leadB (red b) (red c)) := by unfold ldv; rw [kbc]; rfl
    have vab := leadB_eqv ha hb kab
    have vbc := leadB_eqv hb hc kbc
    have rab := leadB_row ha.red hb.red
    have rbc := leadB_row hb.red hc.red
    have lab := leadB_len (red a) (red b)
    have lbc := leadB_len (red b) (red c)
    have kca : alk (red c) (red a) = true := by
      rw [alk_iff] at kab kbc ⊢
      exact (kab.symm.trans kbc.symm)
    walk_at "go"
    refine ⟨a, b, rfl, ha, hb, by omega, by omega, fun H1 s1 => ?_⟩
    rw [eab]
    walk_at "go"
    refine ⟨b, c, rfl, hb, hc, by omega, by omega, fun H2 s2 => ?_⟩
    rw [ebc]
    generalize leadB (red a) (red b) = x at *
    generalize leadB (red b) (red c) = y at *
    have hbx := bak_len x
    have hby := bak_len y
    walk_at "go"
    refine ⟨x, rfl, rab, by omega, fun H3 s3 => ?_⟩
    walk_at "go"
    intro p4 n4
    walk_at "go"
    refine ⟨p4, [x, b, bak x], rfl, upd_same, row3 rab hb rab.bak, by simp only [List.flatten_cons, List.flatten_nil, List.length_append, List.length_nil]; omega, fun H5 s5 => ?_⟩
    rw [show [x, b, bak x].flatten = x ++ b ++ bak x by simp, vab.2.2]
    walk_at "go"
    refine ⟨a, rfl, ha, by omega, fun H6 s6 => ?_⟩
    walk_at "go"
    refine ⟨x, rfl, rab, by omega, fun H7 s7 => ?_⟩
    walk_at "go"
    intro p8 n8
    walk_at "go"
    refine ⟨p8, [bak x, a, x], rfl, upd_same, row3 rab.bak ha rab, by simp only [List.flatten_cons, List.flatten_nil, List.length_append, List.length_nil]; omega, fun H9 s9 => ?_⟩
    rw [show [bak x, a, x].flatten = bak x ++ a ++ x by simp, (conj_back rab hb vab).2.2]
    walk_at "go"
    refine ⟨b, rfl, hb, by omega, fun H10 s10 => ?_⟩
    walk_at "go"
    intro p11 n11
    walk_at "go"
    refine ⟨p11, [x, y], rfl, upd_same, row2 rab rbc, by simp only [List.flatten_cons, List.flatten_nil, List.length_append, List.length_nil]; omega, fun H12 s12 => ?_⟩
    rw [show [x, y].flatten = x ++ y by simp]
    have rxy := rab.app rbc
    have lxy := red_len (x ++ y)
    rw [List.length_append] at lxy
    have hbxy := bak_len (red (x ++ y))
    walk_at "go"
    refine ⟨red (x ++ y), rfl, rxy.red, by omega, fun H13 s13 => ?_⟩
    walk_at "go"
    intro p14 n14
    walk_at "go"
    refine ⟨p14, [red (x ++ y), c, bak (red (x ++ y))], rfl, upd_same, row3 rxy.red hc rxy.red.bak, by simp only [List.flatten_cons, List.flatten_nil, List.length_append, List.length_nil]; omega, fun H15 s15 => ?_⟩
    rw [show [red (x ++ y), c, bak (red (x ++ y))].flatten = red (x ++ y) ++ c ++ bak (red (x ++ y)) by simp, (conj_through rab rbc hc vab vbc).2.2]
    walk_at "go"
    refine ⟨a, rfl, ha, by omega, fun H16 s16 => ?_⟩
    walk_at "go"
    refine ⟨c, a, rfl, hc, ha, by omega, by omega, fun H17 s17 => ?_⟩
    rw [kca]
    exact q _ (s1.trans s2 |>.trans s3 |>.new n4 |>.trans s5 |>.trans s6 |>.trans s7 |>.new n8 |>.trans s9 |>.trans s10 |>.new n11 |>.trans s12 |>.trans s13 |>.new n14 |>.trans s15 |>.trans s16 |>.trans s17)
/-! ### _law_right -/
def sp__law_right (_ : PySem.W.Frag) : Sp := fun vs H Q _ => ∃ (a : Addr) (n : Nat), vs = [.ref a] ∧ Wl H a n ∧ n < 2 ^ 30 ∧ ∀ H', Kp a H H' → Q (.bl true) H'
set_option maxHeartbeats 4000000 in
theorem ok__law_right (Z : Tx K mg) : FnOk P w K mg base CX0 6 Z.a__law_right Z.d__law_right ["well"] (sp__law_right K) := by
  refine Z.F__law_right.ok sc__law_right (fun vs H Q E h => ?_) (fun cdv A outer s H vs Q E rm h => ?_)
  · obtain ⟨a, n, rfl, hw, hn, q⟩ := h; rfl
  · obtain ⟨a, n, rfl, hw, hn, q⟩ := h
    refine ⟨_,
      (pss_cons (ps_set (i := 1) sc__law_right.nd rfl (.inr rfl) (pe_call (ok__law_signs Z) (rm.mono (by decide)) (by rfl) Z.g__law_signs Z.F__law_signs.kp Z.b__law_signs .nil pass0 (pa_cons (pv 0) pa_nil)))
      (pss_cons (ps_asg (pe_lc (own := [("k", 12)]) (g := gName 12) (tt := tYes) rfl sc__law_right.nd (pi_range1 (by rfl) Z.n_range (pa_cons pe_int pa_nil)) (blkOk_by (N := N__law_right) (sc := defScope s__law_right) (by decide +kernel)) (fun _ _ _ _ _ => pg_name (i := 12) sc__law_right.nd rfl (Or.inl rfl)) (fun _ _ _ _ _ => pts_nil) (fun _ _ _ _ _ => (pe_call (ok__law_word Z) (rm.mono (by decide)) (by rfl) Z.g__law_word Z.F__law_word.kp Z.b__law_word .nil pass0 (pa_cons (pv 0) (pa_cons (pv 1) (pa_cons pe_int pa_nil)))))) (pg_lstK K rfl (pgs_cons (pg_name (i := 2) sc__law_right.nd rfl (.inr rfl)) (pgs_cons (pg_name (i := 3) sc__law_right.nd rfl (.inl rfl)) (pgs_cons (pg_name (i := 4) sc__law_right.nd rfl (.inl rfl)) pgs_nil)))))
      (pss_cons (ps_if (pt_cmpR (op_neK K (hu_of64 rm)) (pe_call (ok_joined Z) (rm.mono (by decide)) (by rfl) Z.g_joined Z.F_joined.kp Z.b_joined .nil pass0 (pa_cons (pe_lst (pa_cons (pe_call (ok_joined Z) (rm.mono (by decide)) (by rfl) Z.g_joined Z.F_joined.kp Z.b_joined .nil pass0 (pa_cons (pe_lst (pa_cons (pv 2) (pa_cons (pv 3) pa_nil))) pa_nil)) (pa_cons (pv 4) pa_nil))) pa_nil)) (pe_call (ok_joined Z) (rm.mono (by decide)) (by rfl) Z.g_joined Z.F_joined.kp Z.b_joined .nil pass0 (pa_cons (pe_lst (pa_cons (pv 2) (pa_cons (pe_call (ok_joined Z) (rm.mono (by decide)) (by rfl) Z.g_joined Z.F_joined.kp Z.b_joined .nil pass0 (pa_cons (pe_lst (pa_cons (pv 3) (pa_cons (pv 4) pa_nil))) pa_nil)) pa_nil))) pa_nil)) (nomark _))
        (pss_one (ps_ret pe_bl))
        pss_nil)
      (pss_cons (ps_set (i := 5) sc__law_right.nd rfl (.inl rfl) (pe_call (ok_joined Z) (rm.mono (by decide)) (by rfl) Z.g_joined Z.F_joined.kp Z.b_joined .nil pass0 (pa_cons (pe_lst (pa_cons (pv 2) (pa_cons (pv 3) pa_nil))) pa_nil)))
      (pss_cons (ps_if (PW.pt (pw_or (pt_cmpR (op_neK K (hu_of64 rm)) (pe_call (ok_joined Z) (rm.mono (by decide)) (by rfl) Z.g_joined Z.F_joined.kp Z.b_joined .nil pass0 (pa_cons (pe_lst (pa_cons (pv 2) (pa_cons (pe_strL (l := []) (by decide +kernel)) (pa_cons (pv 3) pa_nil)))) pa_nil)) (pv 5) (nomark _)) (pw_or1 (pt_cmpR (op_neK K (hu_of64 rm)) (pe_call (ok_joined Z) (rm.mono (by decide)) (by rfl) Z.g_joined Z.F_joined.kp Z.b_joined .nil pass0 (pa_cons (pe_lst (pa_cons (pe_call (ok_least Z) (rm.mono (by decide)) (by rfl) Z.g_least Z.F_least.kp Z.b_least .nil pass0 (pa_cons (pv 2) pa_nil)) (pa_cons (pv 3) pa_nil))) pa_nil)) (pv 5) (nomark _)))))
        (pss_one (ps_ret pe_bl))
        pss_nil)
      (pss_cons (ps_if (pt_cmpR (op_neK K (hu_of64 rm)) (pe_lc (own := [("word", 13)]) (g := gName 13)  rfl sc__law_right.nd (pi_K K (pe_lst (pa_cons (pv 2) (pa_cons (pv 3) (pa_cons (pv 4) pa_nil))))) (blkOk_by (N := N__law_right) (sc := defScope s__law_right) (by decide +kernel)) (fun _ _ _ _ _ => pg_name (i := 13) sc__law_right.nd rfl (Or.inl rfl)) (fun _ _ _ _ _ => (pts_one (pt_not (pt_truK K (pe_call (ok__law_backs_right Z) (rm.mono (by decide)) (by rfl) Z.g__law_backs_right Z.F__law_backs_right.kp Z.b__law_backs_right .nil pass0 (pa_cons (pv 13) pa_nil)) (by intro _; rfl))))) (fun _ _ _ _ _ => (pv 13))) (pe_lst pa_nil) (nomark _))
        (pss_one (ps_ret pe_bl))
        pss_nil)
      (pss_cons (ps_par (i := 6) (j := 7) (by rfl) sc__law_right.nd rfl rfl (by decide) rfl rfl (pa_cons (pe_call (ok_joined Z) (rm.mono (by decide)) (by rfl) Z.g_joined Z.F_joined.kp Z.b_joined .nil pass0 (pa_cons (pe_lst (pa_cons (pv 3) (pa_cons (pv 2) (pa_cons (pe_call (ok_back Z) (rm.mono (by decide)) (by rfl) Z.g_back Z.F_back.kp Z.b_back .nil pass0 (pa_cons (pv 3) pa_nil)) pa_nil)))) pa_nil)) (pa_cons (pe_call (ok_joined Z) (rm.mono (by decide)) (by rfl) Z.g_joined Z.F_joined.kp Z.b_joined .nil pass0 (pa_cons (pe_lst (pa_cons (pv 4) (pa_cons (pv 3) (pa_cons (pv 2) (pa_cons (pe_call (ok_back Z) (rm.mono (by decide)) (by rfl) Z.g_back Z.F_back.kp Z.b_back .nil pass0 (pa_cons (pv 3) pa_nil)) (pa_cons (pe_call (ok_back Z) (rm.mono (by decide)) (by rfl) Z.g_back Z.F_back.kp Z.b_back .nil pass0 (pa_cons (pv 4) pa_nil)) pa_nil)))))) pa_nil)) pa_nil)) (by rfl))
      (pss_cons (ps_if (PW.pt (pw_or (pt_not (pt_truK K (pe_call (ok__law_leads_right Z) rm (by rfl) Z.g__law_leads_right Z.F__law_leads_right.kp Z.b__law_leads_right .nil pass0 (pa_cons (pv 2) (pa_cons (pv 6) (pa_cons (pv 7) pa_nil)))) (by intro _; rfl))) (pw_or1 (pt_not (pt_truK K (pe_call (ok__law_leads_right Z) rm (by rfl) Z.g__law_leads_right Z.F__law_leads_right.kp Z.b__law_leads_right .nil pass0 (pa_cons (pv 7) (pa_cons (pv 6) (pa_cons (pv 2) pa_nil)))) (by intro _; rfl))))))
        (pss_one (ps_ret pe_bl))
        pss_nil)
      (pss_cons (ps_asg (pe_call (ok_root Z) (rm.mono (by decide)) (by rfl) Z.g_root Z.F_root.kp Z.b_root .nil pass0 (pa_cons (pv 2) pa_nil)) (pg_tupK K rfl (pgs_cons (pg_name (i := 8) sc__law_right.nd rfl (.inl rfl)) (pgs_cons (pg_name (i := 9) sc__law_right.nd rfl (.inl rfl)) pgs_nil))))
      (pss_cons (ps_if (pt_cmpR (op_neK K (hu_of64 rm)) (pe_call (ok_root Z) (rm.mono (by decide)) (by rfl) Z.g_root Z.F_root.kp Z.b_root .nil pass0 (pa_cons (pv 6) pa_nil)) (pe_tup (pa_cons (pe_ifExp (pt_cmpR op_gt (pv 9) pe_int (nomark _)) (pe_call (ok_joined Z) (rm.mono (by decide)) (by rfl) Z.g_joined Z.F_joined.kp Z.b_joined .nil pass0 (pa_cons (pe_lst (pa_cons (pv 3) (pa_cons (pv 8) (pa_cons (pe_call (ok_back Z) (rm.mono (by decide)) (by rfl) Z.g_back Z.F_back.kp Z.b_back .nil pass0 (pa_cons (pv 3) pa_nil)) pa_nil)))) pa_nil)) (pe_strL (l := []) (by decide +kernel))) (pa_cons (pv 9) pa_nil))) (nomark _))
        (pss_one (ps_ret pe_bl))
        pss_nil)
      (pss_cons (ps_if (PW.pt (pw_or (pt_cmpR (op_neK K (hu_of64 rm)) (pe_call (ok_ring_alike Z) (rm.mono (by decide)) (by rfl) Z.g_ring_alike Z.F_ring_alike.kp Z.b_ring_alike .nil pass0 (pa_cons (pv 3) (pa_cons (pv 4) pa_nil))) (pe_call (ok_ring_alike Z) (rm.mono (by decide)) (by rfl) Z.g_ring_alike Z.F_ring_alike.kp Z.b_ring_alike .nil pass0 (pa_cons (pv 4) (pa_cons (pv 3) pa_nil))) (nomark _)) (pw_or1 (pt_cmpR (op_neK K (hu_of64 rm)) (pe_call (ok_ring_alike Z) (rm.mono (by decide)) (by rfl) Z.g_ring_alike Z.F_ring_alike.kp Z.b_ring_alike .nil pass0 (pa_cons (pv 6) (pa_cons (pv 4) pa_nil))) (pe_call (ok_ring_alike Z) (rm.mono (by decide)) (by rfl) Z.g_ring_alike Z.F_ring_alike.kp Z.b_ring_alike .nil pass0 (pa_cons (pv 2) (pa_cons (pv 4) pa_nil))) (nomark _)))))
        (pss_one (ps_ret pe_bl))
        pss_nil)
      (pss_cons (ps_set (i := 10) sc__law_right.nd rfl (.inl rfl) (pe_callB (cr_sortedSK K) (by rfl) Z.n_sorted (by decide +kernel) (pa_cons (pe_lc (own := [("k", 12)]) (g := gName 12) (tt := tYes) rfl sc__law_right.nd (pi_range1 (by rfl) Z.n_range (pa_cons (pe_callB (call_lenK K) (by rfl) Z.n_len PySem.boot_len (pa_cons (pe_ix (ix_K K) (pe_call (ok_core Z) (rm.mono (by decide)) (by rfl) Z.g_core Z.F_core.kp Z.b_core .nil pass0 (pa_cons (pv 2) pa_nil)) pe_int (fun _ _ => rfl)) pa_nil)) pa_nil)) (blkOk_by (N := N__law_right) (sc := defScope s__law_right) (by decide +kernel)) (fun _ _ _ _ _ => pg_name (i := 12) sc__law_right.nd rfl (Or.inl rfl)) (fun _ _ _ _ _ => pts_nil) (fun _ _ _ _ _ => (pe_op (op_addK K) (pe_slice (sl_K K) (pe_ix (ix_K K) (pe_call (ok_core Z) (rm.mono (by decide)) (by rfl) Z.g_core Z.F_core.kp Z.b_core .nil pass0 (pa_cons (pv 2) pa_nil)) pe_int (fun _ _ => rfl)) (po_some (pv 12)) po_none) (pe_slice (sl_K K) (pe_ix (ix_K K) (pe_call (ok_core Z) (rm.mono (by decide)) (by rfl) Z.g_core Z.F_core.kp Z.b_core .nil pass0 (pa_cons (pv 2) pa_nil)) pe_int (fun _ _ => rfl)) po_none (po_some (pv 12)))))) pa_nil)))
      (pss_cons (ps_set (i := 11) sc__law_right.nd rfl (.inr rfl) (pe_ix (ix_K K) (pe_call (ok_core Z) (rm.mono (by decide)) (by rfl) Z.g_core Z.F_core.kp Z.b_core .nil pass0 (pa_cons (pv 6) pa_nil)) pe_int (fun _ _ => rfl)))
      (pss_one (ps_ret (pe_cmpR (op_eqK K (hu_of64 rm)) (pv 10) (pe_callB (cr_sortedSK K) (by rfl) Z.n_sorted (by decide +kernel) (pa_cons (pe_lc (own := [("k", 12)]) (g := gName 12) (tt := tYes) rfl sc__law_right.nd (pi_range1 (by rfl) Z.n_range (pa_cons (pe_callB (call_lenK K) (by rfl) Z.n_len PySem.boot_len (pa_cons (pv 11) pa_nil)) pa_nil)) (blkOk_by (N := N__law_right) (sc := defScope s__law_right) (by decide +kernel)) (fun _ _ _ _ _ => pg_name (i := 12) sc__law_right.nd rfl (Or.inl rfl)) (fun _ _ _ _ _ => pts_nil) (fun _ _ _ _ _ => (pe_op (op_addK K) (pe_slice (sl_K K) (pv 11) (po_some (pv 12)) po_none) (pe_slice (sl_K K) (pv 11) po_none (po_some (pv 12)))))) pa_nil)) (nomark _))))))))))))))))), ?_⟩
    rw [show L2.start N__law_right [.ref a] = [some (.ref a), none, none, none, none, none, none, none, none, none, none, none, none, none] from rfl]
    walk_at "go"
    refine ⟨a, n, rfl, hw, by omega, fun s H1 hs k1 w1 => ?_⟩
    walk_at "go"
    refine r_goR1 (by omega) ?_
    refine lc_inv (known_rng 0 _) (fun D i H' => ∃ ls : List (List Nat), ls.length = i ∧ (∀ l ∈ ls, NX.Row l ∧ l.length ≤ 20) ∧ H1 D = none ∧ D ≠ a ∧ H' D = some (.lst (ls.map T)) ∧ Kp a H H' ∧ Wl H' a (n + 6 + 41 * i))
      (fun D nD => ⟨[], rfl, (fun l hl => nomatch hl), nD, w1.ne nD, upd_same, k1.new nD, w1.new nD⟩) (fun _ _ _ _ _ => trivial) ?_ ?_
    · rintro D i H' hi ⟨ls, hlen, hls, nD, nDa, eD, k3, w3⟩
      walk_at "go"
      refine ⟨a, s, 20, n + 6 + 41 * i, rfl, w3, by omega, hs, by omega, fun l H3 hl ll k4 w4 => ?_⟩
      refine ⟨ls.map T, k4 _ _ nDa eD, by rw [List.length_map, sizeLine_eq]; omega, ls ++ [l], by rw [List.length_append, hlen]; rfl, ?_, nD, nDa, by rw [upd_same]; simp, (k3.trans k4).mut (Kp.free k1 nDa nD), (w4.put nDa).mono (by omega)⟩
      intro x hx
      rcases List.mem_append.mp hx with hx | hx
      · exact hls x hx
      · rw [List.mem_singleton.mp hx]; exact ⟨hl, ll⟩
    rintro p H3 ⟨ls, hlen, hls, nD, npa, ep, k3, w3⟩
    obtain ⟨f, g, t, rfl⟩ : ∃ f g t, ls = [f, g, t] := by
      match ls, hlen with
      | [f, g, t], _ => exact ⟨f, g, t, rfl⟩
    obtain ⟨hf, lf⟩ := hls f (by simp)
    obtain ⟨hg, lg⟩ := hls g (by simp)
    obtain ⟨ht, lt⟩ := hls t (by simp)
    clear hls hlen
    have rf := red_len f
    have bf := bak_len f
    have bg := bak_len g
    have bt := bak_len t
    have hfg := hf.app hg
    have hgt := hg.app ht
    have lfg := red_len (f ++ g)
    have lgt := red_len (g ++ t)
    rw [List.length_append] at lfg lgt
    refine r_glst (xs := [T f, T g, T t]) (SqL.of ep) (by rfl) ?_
    walk_at "go"
    intro p20 n20
    walk_at "go"
    refine ⟨p20, [f, g], rfl, upd_same, row2 hf hg, by simp only [List.flatten_cons, List.flatten_nil, List.length_append, List.length_nil]; omega, fun H20 s20 => ?_⟩
    rw [show [f, g].flatten = f ++ g by simp]
    walk_at "go"
    intro p21 n21
    walk_at "go"
    refine ⟨p21, [red (f ++ g), t], rfl, upd_same, row2 hfg.red ht, by simp only [List.flatten_cons, List.flatten_nil, List.length_append, List.length_nil]; omega, fun H21 s21 => ?_⟩
    rw [show [red (f ++ g), t].flatten = red (f ++ g) ++ t by simp]
    walk_at "go"
    intro p22 n22
    walk_at "go"
    refine ⟨p22, [g, t], rfl, upd_same, row2 hg ht, by simp only [List.flatten_cons, List.flatten_nil, List.length_append, List.length_nil]; omega, fun H22 s22 => ?_⟩
    rw [show [g, t].flatten = g ++ t by simp]
    walk_at "go"
    intro p23 n23
    walk_at "go"
    refine ⟨p23, [f, red (g ++ t)], rfl, upd_same, row2 hf hgt.red, by simp only [List.flatten_cons, List.flatten_nil, List.length_append, List.length_nil]; omega, fun H23 s23 => ?_⟩
    rw [show [f, red (g ++ t)].flatten = f ++ red (g ++ t) by simp]
    have e1 : red (red (f ++ g) ++ t) = red (f ++ g ++ t) := ((Eqv.red hfg).appR t ht).2.2
    have e2 : red (f ++ red (g ++ t)) = red (f ++ g ++ t) := by
      have := (Eqv.appL f hf (Eqv.red hgt)).2.2
      rw [← List.append_assoc] at this; exact this
    rw [e1, e2]
    walk_at "go"
    intro p24 n24
    walk_at "go"
    refine ⟨p24, [f, g], rfl, upd_same, row2 hf hg, by simp only [List.flatten_cons, List.flatten_nil, List.length_append, List.length_nil]; omega, fun H24 s24 => ?_⟩
    rw [show [f, g].flatten = f ++ g by simp]
    walk_at "go"
    intro p25 n25
    walk_at "go"
    refine ⟨p25, [f, [], g], rfl, upd_same, row3 hf Row.nil hg, by simp only [List.flatten_cons, List.flatten_nil, List.length_append, List.length_nil]; omega, fun H25 s25 => ?_⟩
    rw [show [f, [], g].flatten = f ++ g by simp]
    walk_at "go"
    refine ⟨f, rfl, hf, by omega, fun H26 s26 => ?_⟩
    walk_at "go"
    intro p27 n27
    walk_at "go"
    refine ⟨p27, [red f, g], rfl, upd_same, row2 hf.red hg, by simp only [List.flatten_cons, List.flatten_nil, List.length_append, List.length_nil]; omega, fun H27 s27 => ?_⟩
    rw [show [red f, g].flatten = red f ++ g by simp]
    rw [show red (red f ++ g) = red (f ++ g) from ((Eqv.red hf).appR g hg).2.2]
    walk_at "go"
    intro pl nl
    walk_at "go"
    refine r_goL (SqL.of upd_same) ?_
    refine lc_known (known_list [T f, T g, T t]) (fun _ => none) (by simp only [List.length_cons, List.length_nil]; omega) (fun J2 q2 => SqL.of (q2 _ _ upd_same)) (fun i J2 QT hi qm hk => ?_) (fun D J2 nD2 qm2 eD => ?_)
    · obtain ⟨x, ex, hx, lx⟩ : ∃ x, [T f, T g, T t].getD i .non = T x ∧ NX.Row x ∧ x.length ≤ 20 := by
        match i, hi with
        | 0, _ => exact ⟨f, rfl, hf, lf⟩
        | 1, _ => exact ⟨g, rfl, hg, lg⟩
        | 2, _ => exact ⟨t, rfl, ht, lt⟩
      rw [ex]
      walk_at "go"
      refine ⟨x, rfl, hx, by omega, fun J3 q3 => ?_⟩
      walk_at "go"
      exact hk _ q3
    have e0 : J2 D = some (.lst (([] : List (List Nat)).map T)) := by rw [eD, List.filterMap_eq_nil_iff.mpr fun _ _ => rfl]; rfl
    walk_at "go"
    intro pe ne
    refine r_neLs (as := []) (bs := []) (SqL.of (by rw [upd_ne (ne_of_none e0 ne)]; exact e0)) (SqL.of upd_same) (fun x hx => nomatch hx) (fun x hx => nomatch hx) ?_
    rw [decide_eq_true (rfl : ([] : List (List Nat)) = [])]
    have hw1 : NX.Row (g ++ f ++ bak g) := (hg.app hf).app hg.bak
    have lw1 := red_len (g ++ f ++ bak g)
    have hw2 : NX.Row (t ++ g ++ f ++ bak g ++ bak t) := (((ht.app hg).app hf).app hg.bak).app ht.bak
    have lw2 := red_len (t ++ g ++ f ++ bak g ++ bak t)
    simp only [List.length_append] at lw1 lw2
    walk_at "go"
    refine ⟨g, rfl, hg, by omega, fun H28 s28 => ?_⟩
    walk_at "go"
    intro p29 n29
    walk_at "go"
    refine ⟨p29, [g, f, bak g], rfl, upd_same, row3 hg hf hg.bak, by simp only [List.flatten_cons, List.flatten_nil, List.length_append, List.length_nil]; omega, fun H29 s29 => ?_⟩
    rw [show [g, f, bak g].flatten = g ++ f ++ bak g by simp]
    walk_at "go"
    refine ⟨g, rfl, hg, by omega, fun H30 s30 => ?_⟩
    walk_at "go"
    refine ⟨t, rfl, ht, by omega, fun H31 s31 => ?_⟩
    walk_at "go"
    intro p32 n32
    walk_at "go"
    refine ⟨p32, [t, g, f, bak g, bak t], rfl, upd_same, row5 ht hg hf hg.bak ht.bak, by simp only [List.flatten_cons, List.flatten_nil, List.length_append, List.length_nil]; omega, fun H32 s32 => ?_⟩
    rw [show [t, g, f, bak g, bak t].flatten = t ++ g ++ f ++ bak g ++ bak t by simp]
    have v1 : Eqv (g ++ f ++ bak g) (red (g ++ f ++ bak g)) := (Eqv.red hw1).symm
    have v2 : Eqv (t ++ red (g ++ f ++ bak g) ++ bak t) (red (t ++ g ++ f ++ bak g ++ bak t)) := by
      have h1 := (Eqv.appL t ht v1.symm).appR (bak t) ht.bak
      have h2 := (Eqv.red hw2).symm
      simp only [List.append_assoc] at h1 h2 ⊢
      exact h1.trans h2
    have a1 := alk_conj hg hf v1
    have a2 := alk_conj ht hw1.red v2
    have t1 := ring_conj hg hf v1.2.1 v1
    have rr1 := red_red hw1
    have hroot : root1 (red (red (g ++ f ++ bak g))) = (if 0 < rootn (red f) then red (g ++ root1 (red f) ++ bak g) else []) ∧ rootn (red (red (g ++ f ++ bak g))) = rootn (red f) := by
      rw [rr1]
      by_cases hn : red f = []
      · have e : red (g ++ f ++ bak g) = [] := by
          have h1 := ((Eqv.appL g hg (show Eqv f [] from ⟨hf, Row.nil, hn⟩)).appR (bak g) hg.bak).2.2
          rw [List.append_nil, red_self hg] at h1
          exact h1
        rw [e, hn, root1_nil, rootn_nil]; exact ⟨rfl, rfl⟩
      · rw [if_pos (rootn_pos hf.red (free_red hf) hn)]
        exact root_conj hf hg hn
    generalize red (g ++ f ++ bak g) = W at *
    generalize red (t ++ g ++ f ++ bak g ++ bak t) = U at *
    have hW : NX.Row W := v1.2.1
    have hU : NX.Row U := v2.2.1
    walk_at "go"
    refine ⟨f, W, U, rfl, hf, hW, hU, by omega, by omega, by omega, a1.2, a2.2, fun H33 s33 => ?_⟩
    walk_at "go"
    refine ⟨U, W, f, rfl, hU, hW, hf, by omega, by omega, by omega, a2.1, a1.1, fun H34 s34 => ?_⟩
    walk_at "go"
    refine ⟨f, rfl, hf, by omega, fun pr Hr npr sr epr => ?_⟩
    have lu := root1_len (red f)
    have hu := hf.red.root1
    generalize root1 (red f) = u at *
    generalize rootn (red f) = m at *
    walk_at "go"
    refine ⟨W, rfl, hW, by omega, fun pw Hw npw sw epw => ?_⟩
    rw [hroot.1, hroot.2] at epw
    have hgu : NX.Row (g ++ u ++ bak g) := (hg.app hu).app hg.bak
    walk_at "go"
    refine r_ifd (fun c => ?_) (fun c => ?_)
    · walk_at "go"
      refine ⟨g, rfl, hg, by omega, fun Ha sa => ?_⟩
      walk_at "go"
      intro pb nb
      walk_at "go"
      refine ⟨pb, [g, u, bak g], rfl, upd_same, row3 hg hu hg.bak, by simp only [List.flatten_cons, List.flatten_nil, List.length_append, List.length_nil]; omega, fun Hb sb => ?_⟩
      rw [show [g, u, bak g].flatten = g ++ u ++ bak g by simp]
      walk_at "go"
      intro pt nt
      rw [if_pos (show 0 < m by omega)] at epw
      have epb := sb _ _ (Same.new1 nb _ _ (sa _ _ epw))
      refine r_neSI (SqT.of (Same.new1 nt _ _ epb)) (SqT.of upd_same) hgu.red.asc hgu.red.asc ?_
      rw [decide_eq_true ⟨rfl, rfl⟩]
      walk_at "go"
      refine ⟨g, t, rfl, hg, ht, by omega, by omega, fun H60 s60 => ?_⟩
      walk_at "go"
      refine ⟨t, g, rfl, ht, hg, by omega, by omega, fun H61 s61 => ?_⟩
      rw [alk_comm (red t) (red g)]
      walk_at "go"
      refine ⟨W, t, rfl, hW, ht, by omega, by omega, fun H62 s62 => ?_⟩
      walk_at "go"
      refine ⟨f, t, rfl, hf, ht, by omega, by omega, fun H63 s63 => ?_⟩
      rw [alk_same a1.1 (red t)]
      have cf := csize_le (red f)
      have lrf := ring_len (red f)
      have rrf := hf.red.ring
      have lw := t1.len
      have rrw := hW.red.ring
      have hrots := rots_turn t1
      walk_at "go"
      refine ⟨f, rfl, hf, by omega, fun pc Hc npc sc epc => ?_⟩
      generalize eqR : ring (red f) = R at *
      generalize eqV : ring (red W) = V at *
      walk_at "go"
      refine r_goR1 (by omega) ?_
      refine lc_known (known_rng 0 _) (fun i => some (T (rot R i))) (by omega) (fun _ _ => trivial) (fun i J3 QT hi qm3 hk => ?_) (fun D3 J3 nD3 qm3 eD3 => ?_)
      · rw [Int.zero_add]
        have hiR : i < R.length := by omega
        walk_at "go"
        refine ⟨f, rfl, hf, by omega, fun pc2 Hc2 npc2 sc2 epc2 => ?_⟩
        rw [eqR] at epc2
        walk_at "go"
        rw [cut_from]
        walk_at "go"
        refine ⟨f, rfl, hf, by omega, fun pc3 Hc3 npc3 sc3 epc3 => ?_⟩
        rw [eqR] at epc3
        walk_at "go"
        rw [cut_to]
        have hd1 : (R.drop i).length ≤ R.length := by rw [List.length_drop]; omega
        have hd2 : (R.take i).length ≤ R.length := by rw [List.length_take]; omega
        walk_at "go"
        exact hk _ (sc2.trans sc3)
      rw [Int.toNat_natCast, rots_map] at eD3
      walk_at "go"
      refine r_sortedS (ls := rots R) (SqL.of eD3) (by rw [rots_len]; omega) fun zs d hp1 hs1 nd => ?_
      walk_at "go"
      refine ⟨W, rfl, hW, by omega, fun pc4 Hc4 npc4 sc4 epc4 => ?_⟩
      rw [eqV] at epc4
      walk_at "go"
      refine r_goR1 (by omega) ?_
      refine lc_known (known_rng 0 _) (fun i => some (T (rot V i))) (by omega) (fun _ _ => trivial) (fun i J4 QT hi qm4 hk => ?_) (fun D4 J4 nD4 qm4 eD4 => ?_)
      · rw [Int.zero_add]
        walk_at "go"
        rw [cut_from]
        walk_at "go"
        rw [cut_to]
        have hd1 : (V.drop i).length ≤ V.length := by rw [List.length_drop]; omega
        have hd2 : (V.take i).length ≤ V.length := by rw [List.length_take]; omega
        walk_at "go"
        exact hk _ (Same.refl _)
      rw [Int.toNat_natCast, rots_map] at eD4
      walk_at "go"
      refine r_sortedS (ls := rots V) (SqL.of eD4) (by rw [rots_len]; omega) fun ws d2 hp2 hs2 nd2 => ?_
      have ezw : zs = ws := sorted_one hp1 hp2 hrots hs1 hs2
      have ed : (upd J4 d2 (.lst (ws.map T))) d = some (.lst (zs.map T)) := Same.new1 nd2 _ _ (qm4 _ _ (sc4 _ _ upd_same))
      refine r_eqLs (as := zs) (bs := ws) (SqL.of ed) (SqL.of upd_same) (fun l hl => (rots_row rrf l (hp1.mem_iff.mp hl)).asc) (fun l hl => (rots_row rrw l (hp2.mem_iff.mp hl)).asc) ?_
      rw [decide_eq_true ezw]
      exact q _ (k3.trans (Kp.of (Same.refl H3 |>.new n20 |>.trans s20 |>.new n21 |>.trans s21 |>.new n22 |>.trans s22 |>.new n23 |>.trans s23 |>.new n24 |>.trans s24 |>.new n25 |>.trans s25 |>.trans s26 |>.new n27 |>.trans s27 |>.new nl |>.trans qm2 |>.new ne |>.trans s28 |>.new n29 |>.trans s29 |>.trans s30 |>.trans s31 |>.new n32 |>.trans s32 |>.trans s33 |>.trans s34 |>.trans sr |>.trans sw |>.trans sa |>.new nb |>.trans sb |>.new nt |>.trans s60 |>.trans s61 |>.trans s62 |>.trans s63 |>.trans sc |>.trans qm3 |>.new nd |>.trans sc4 |>.trans qm4 |>.new nd2)))
    · rw [if_neg (show ¬ 0 < m by omega)] at epw
      walk_at "go"
      intro pt nt
      refine r_neSI (SqT.of (Same.new1 nt _ _ epw)) (SqT.of upd_same) asc_nil asc_nil ?_
      rw [decide_eq_true ⟨rfl, rfl⟩]
      walk_at "go"
      refine ⟨g, t, rfl, hg, ht, by omega, by omega, fun H60 s60 => ?_⟩
      walk_at "go"
      refine ⟨t, g, rfl, ht, hg, by omega, by omega, fun H61 s61 => ?_⟩
      rw [alk_comm (red t) (red g)]
      walk_at "go"
      refine ⟨W, t, rfl, hW, ht, by omega, by omega, fun H62 s62 => ?_⟩
      walk_at "go"
      refine ⟨f, t, rfl, hf, ht, by omega, by omega, fun H63 s63 => ?_⟩
      rw [alk_same a1.1 (red t)]
      have cf := csize_le (red f)
      have lrf := ring_len (red f)
      have rrf := hf.red.ring
      have lw := t1.len
      have rrw := hW.red.ring
      have hrots := rots_turn t1
      walk_at "go"
      refine ⟨f, rfl, hf, by omega, fun pc Hc npc sc epc => ?_⟩
      generalize eqR : ring (red f) = R at *
      generalize eqV : ring (red W) = V at *
      walk_at "go"
      refine r_goR1 (by omega) ?_
      refine lc_known (known_rng 0 _) (fun i => some (T (rot R i))) (by omega) (fun _ _ => trivial) (fun i J3 QT hi qm3 hk => ?_) (fun D3 J3 nD3 qm3 eD3 => ?_)
      · rw [Int.zero_add]
        have hiR : i < R.length := by omega
        walk_at "go"
        refine ⟨f, rfl, hf, by omega, fun pc2 Hc2 npc2 sc2 epc2 => ?_⟩
        rw [eqR] at epc2
        walk_at "go"
        rw [cut_from]
        walk_at "go"
        refine ⟨f, rfl, hf, by omega, fun pc3 Hc3 npc3 sc3 epc3 => ?_⟩
        rw [eqR] at epc3
        walk_at "go"
        rw [cut_to]
        have hd1 : (R.drop i).length ≤ R.length := by rw [List.length_drop]; omega
        have hd2 : (R.take i).length ≤ R.length := by rw [List.length_take]; omega
        walk_at "go"
        exact hk _ (sc2.trans sc3)
      rw [Int.toNat_natCast, rots_map] at eD3
      walk_at "go"
      refine r_sortedS (ls := rots R) (SqL.of eD3) (by rw [rots_len]; omega) fun zs d hp1 hs1 nd => ?_
      walk_at "go"
      refine ⟨W, rfl, hW, by omega, fun pc4 Hc4 npc4 sc4 epc4 => ?_⟩
      rw [eqV] at epc4
      walk_at "go"
      refine r_goR1 (by omega) ?_
      refine lc_known (known_rng 0 _) (fun i => some (T (rot V i))) (by omega) (fun _ _ => trivial) (fun i J4 QT hi qm4 hk => ?_) (fun D4 J4 nD4 qm4 eD4 => ?_)
      · rw [Int.zero_add]
        walk_at "go"
        rw [cut_from]
        walk_at "go"
        rw [cut_to]
        have hd1 : (V.drop i).length ≤ V.length := by rw [List.length_drop]; omega
        have hd2 : (V.take i).length ≤ V.length := by rw [List.length_take]; omega
        walk_at "go"
        exact hk _ (Same.refl _)
      rw [Int.toNat_natCast, rots_map] at eD4
      walk_at "go"
      refine r_sortedS (ls := rots V) (SqL.of eD4) (by rw [rots_len]; omega) fun ws d2 hp2 hs2 nd2 => ?_
      have ezw : zs = ws := sorted_one hp1 hp2 hrots hs1 hs2
      have ed : (upd J4 d2 (.lst (ws.map T))) d = some (.lst (zs.map T)) := Same.new1 nd2 _ _ (qm4 _ _ (sc4 _ _ upd_same))
      refine r_eqLs (as := zs) (bs := ws) (SqL.of ed) (SqL.of upd_same) (fun l hl => (rots_row rrf l (hp1.mem_iff.mp hl)).asc) (fun l hl => (rots_row rrw l (hp2.mem_iff.mp hl)).asc) ?_
      rw [decide_eq_true ezw]
      exact q _ (k3.trans (Kp.of (Same.refl H3 |>.new n20 |>.trans s20 |>.new n21 |>.trans s21 |>.new n22 |>.trans s22 |>.new n23 |>.trans s23 |>.new n24 |>.trans s24 |>.new n25 |>.trans s25 |>.trans s26 |>.new n27 |>.trans s27 |>.new nl |>.trans qm2 |>.new ne |>.trans s28 |>.new n29 |>.trans s29 |>.trans s30 |>.trans s31 |>.new n32 |>.trans s32 |>.trans s33 |>.trans s34 |>.trans sr |>.trans sw |>.new nt |>.trans s60 |>.trans s61 |>.trans s62 |>.trans s63 |>.trans sc |>.trans qm3 |>.new nd |>.trans sc4 |>.trans qm4 |>.new nd2)))
/-! ### law -/
def sp_law (K : PySem.W.Frag) : Sp := fun vs H Q _ => ∃ (a : Addr) (ns : List Int), vs = [.ref a] ∧ SqL K H a (ns.map V.int) ∧ ns.length ≤ 63 ∧ ∀ H', Q (.bl true) H'
set_option maxHeartbeats 4000000 in
theorem ok_law (Z : Tx K mg) : FnOk P w K mg base CX0 7 Z.a_law Z.d_law ["script"] (sp_law K) := by
  refine Z.F_law.ok sc_law (fun vs H Q E h => ?_) (fun cdv A outer s H vs Q E rm h => ?_)
  · obtain ⟨a, ns, rfl, hS, hlen, q⟩ := h; rfl
  · obtain ⟨a, ns, rfl, hS, hlen, q⟩ := h
    refine ⟨_,
      (pss_cons (ps_for PassesOwn.never rfl (pi_range1 (by rfl) Z.n_range (pa_cons (pe_callB (call_max2 rfl) (by rfl) Z.n_max (by decide +kernel) (pa_cons pe_int (pa_cons (pe_callB (call_min2 rfl) (by rfl) Z.n_min (by decide +kernel) (pa_cons pe_int (pa_cons (pe_callB (call_lenK K) (by rfl) Z.n_len PySem.boot_len (pa_cons (pv 0) pa_nil)) pa_nil))) pa_nil))) pa_nil)) (pg_name (i := 1) sc_law.nd rfl (.inl rfl))
        (pss_one (ps_if (pt_not (pt_truK K (pe_call (ok__law_right Z) rm (by rfl) Z.g__law_right Z.F__law_right.kp Z.b__law_right .nil pass0 (pa_cons (pe_call (ok__law_well Z) (rm.mono (by decide)) (by rfl) Z.g__law_well Z.F__law_well.kp Z.b__law_well .nil pass0 (pa_cons (pv 0) (pa_cons (pv 1) pa_nil))) pa_nil)) (by intro _; rfl)))
          (pss_one (ps_ret pe_bl))
          pss_nil)))
      (pss_one (ps_ret pe_bl))), ?_⟩
    rw [show L2.start N_law [.ref a] = [some (.ref a), none] from rfl]
    walk_at "go"
    simp only [List.length_map]
    obtain ⟨t, ht, et⟩ : ∃ t : Nat, t ≤ 63 ∧ (if (if (ns.length : Int) < 63 then (ns.length : Int) else 63) > 1 then (if (ns.length : Int) < 63 then (ns.length : Int) else 63) else 1) = (t : Int) :=
      ⟨(if (if (ns.length : Int) < 63 then (ns.length : Int) else 63) > 1 then (if (ns.length : Int) < 63 then (ns.length : Int) else 63) else 1).toNat, by split <;> split <;> omega, by split <;> split <;> omega⟩
    rw [et]
    refine r_goR1 (by omega) ?_
    refine for_known (known_rng 0 _) (fun i σ H' => ∃ x, σ = [some (.ref a), x] ∧ SqL K H' a (ns.map V.int)) ⟨none, rfl, hS⟩ (fun _ _ _ _ _ => trivial) ?_ ?_
    · rintro i σ H' hi ⟨x, rfl, hS'⟩
      rw [Int.zero_add]
      walk_at "go"
      refine ⟨a, ns, i, rfl, hS', by omega, fun p H1 np s1 w1 => ?_⟩
      walk_at "go"
      refine ⟨p, 0, rfl, w1, by decide, fun H2 k2 => ?_⟩
      walk_at "go"
      exact ⟨_, rfl, seq_new hS' np s1 k2⟩
    · rintro σ H' ⟨x, rfl, hS'⟩
      walk_at "go"
      exact q _
end
/-! ### what the top has written; the end -/
theorem all_mk {l : PySem.W.OpenLaw} {w : World} {K : PySem.W.Frag} {h : Heap} {mg : Str → Option Value} {fa : Addr} (X : K.In h) (G : h.Ns mainGlobals mg) (hfa : mg "law" = some (.ref fa))
    {f_is_row : Addr} {od_is_row an_is_row : Option Addr} {sl_is_row : Array (Option Value)} {oc_is_row kV_is_row dc_is_row pm_is_row cd_is_row ct_is_row : Value}
    (a_is_row : PySem.W.nsIn K mainGlobals "is_row" = some (some (.ref f_is_row))) (l_is_row : K.lookup f_is_row = some ⟨oc_is_row, od_is_row, .func (PySem.W.fnOf "is_row" "is_row" (defArgs s_is_row) (defBody s_is_row) (defScope s_is_row) .none kV_is_row dc_is_row pm_is_row an_is_row cd_is_row ct_is_row), sl_is_row⟩) (c_is_row : PySem.W.codeIn K cd_is_row "is_row" = true) (k_is_row : PySem.W.keepIn K (.ref f_is_row) = true)
    {f_check_row : Addr} {od_check_row an_check_row : Option Addr} {sl_check_row : Array (Option Value)} {oc_check_row kV_check_row dc_check_row pm_check_row cd_check_row ct_check_row : Value}
    (a_check_row : PySem.W.nsIn K mainGlobals "check_row" = some (some (.ref f_check_row))) (l_check_row : K.lookup f_check_row = some ⟨oc_check_row, od_check_row, .func (PySem.W.fnOf "check_row" "check_row" (defArgs s_check_row) (defBody s_check_row) (defScope s_check_row) .none kV_check_row dc_check_row pm_check_row an_check_row cd_check_row ct_check_row), sl_check_row⟩) (c_check_row : PySem.W.codeIn K cd_check_row "check_row" = true) (k_check_row : PySem.W.keepIn K (.ref f_check_row) = true)
    {f_back_of : Addr} {od_back_of an_back_of : Option Addr} {sl_back_of : Array (Option Value)} {oc_back_of kV_back_of dc_back_of pm_back_of cd_back_of ct_back_of : Value}
    (a_back_of : PySem.W.nsIn K mainGlobals "back_of" = some (some (.ref f_back_of))) (l_back_of : K.lookup f_back_of = some ⟨oc_back_of, od_back_of, .func (PySem.W.fnOf "back_of" "back_of" (defArgs s_back_of) (defBody s_back_of) (defScope s_back_of) .none kV_back_of dc_back_of pm_back_of an_back_of cd_back_of ct_back_of), sl_back_of⟩) (c_back_of : PySem.W.codeIn K cd_back_of "back_of" = true) (k_back_of : PySem.W.keepIn K (.ref f_back_of) = true)
    {f_least_of : Addr} {od_least_of an_least_of : Option Addr} {sl_least_of : Array (Option Value)} {oc_least_of kV_least_of dc_least_of pm_least_of cd_least_of ct_least_of : Value}
    (a_least_of : PySem.W.nsIn K mainGlobals "least_of" = some (some (.ref f_least_of))) (l_least_of : K.lookup f_least_of = some ⟨oc_least_of, od_least_of, .func (PySem.W.fnOf "least_of" "least_of" (defArgs s_least_of) (defBody s_least_of) (defScope s_least_of) .none kV_least_of dc_least_of pm_least_of an_least_of cd_least_of ct_least_of), sl_least_of⟩) (c_least_of : PySem.W.codeIn K cd_least_of "least_of" = true) (k_least_of : PySem.W.keepIn K (.ref f_least_of) = true)
    {f_core_of : Addr} {od_core_of an_core_of : Option Addr} {sl_core_of : Array (Option Value)} {oc_core_of kV_core_of dc_core_of pm_core_of cd_core_of ct_core_of : Value}
    (a_core_of : PySem.W.nsIn K mainGlobals "core_of" = some (some (.ref f_core_of))) (l_core_of : K.lookup f_core_of = some ⟨oc_core_of, od_core_of, .func (PySem.W.fnOf "core_of" "core_of" (defArgs s_core_of) (defBody s_core_of) (defScope s_core_of) .none kV_core_of dc_core_of pm_core_of an_core_of cd_core_of ct_core_of), sl_core_of⟩) (c_core_of : PySem.W.codeIn K cd_core_of "core_of" = true) (k_core_of : PySem.W.keepIn K (.ref f_core_of) = true)
    {f_lead_between : Addr} {od_lead_between an_lead_between : Option Addr} {sl_lead_between : Array (Option Value)} {oc_lead_between kV_lead_between dc_lead_between pm_lead_between cd_lead_between ct_lead_between : Value}
    (a_lead_between : PySem.W.nsIn K mainGlobals "lead_between" = some (some (.ref f_lead_between))) (l_lead_between : K.lookup f_lead_between = some ⟨oc_lead_between, od_lead_between, .func (PySem.W.fnOf "lead_between" "lead_between" (defArgs s_lead_between) (defBody s_lead_between) (defScope s_lead_between) .none kV_lead_between dc_lead_between pm_lead_between an_lead_between cd_lead_between ct_lead_between), sl_lead_between⟩) (c_lead_between : PySem.W.codeIn K cd_lead_between "lead_between" = true) (k_lead_between : PySem.W.keepIn K (.ref f_lead_between) = true)
    {f_back : Addr} {od_back an_back : Option Addr} {sl_back : Array (Option Value)} {oc_back kV_back dc_back pm_back cd_back ct_back : Value}
    (a_back : PySem.W.nsIn K mainGlobals "back" = some (some (.ref f_back))) (l_back : K.lookup f_back = some ⟨oc_back, od_back, .func (PySem.W.fnOf "back" "back" (defArgs s_back) (defBody s_back) (defScope s_back) .none kV_back dc_back pm_back an_back cd_back ct_back), sl_back⟩) (c_back : PySem.W.codeIn K cd_back "back" = true) (k_back : PySem.W.keepIn K (.ref f_back) = true)
    {f_least : Addr} {od_least an_least : Option Addr} {sl_least : Array (Option Value)} {oc_least kV_least dc_least pm_least cd_least ct_least : Value}
    (a_least : PySem.W.nsIn K mainGlobals "least" = some (some (.ref f_least))) (l_least : K.lookup f_least = some ⟨oc_least, od_least, .func (PySem.W.fnOf "least" "least" (defArgs s_least) (defBody s_least) (defScope s_least) .none kV_least dc_least pm_least an_least cd_least ct_least), sl_least⟩) (c_least : PySem.W.codeIn K cd_least "least" = true) (k_least : PySem.W.keepIn K (.ref f_least) = true)
    {f_joined : Addr} {od_joined an_joined : Option Addr} {sl_joined : Array (Option Value)} {oc_joined kV_joined dc_joined pm_joined cd_joined ct_joined : Value}
    (a_joined : PySem.W.nsIn K mainGlobals "joined" = some (some (.ref f_joined))) (l_joined : K.lookup f_joined = some ⟨oc_joined, od_joined, .func (PySem.W.fnOf "joined" "joined" (defArgs s_joined) (defBody s_joined) (defScope s_joined) .none kV_joined dc_joined pm_joined an_joined cd_joined ct_joined), sl_joined⟩) (c_joined : PySem.W.codeIn K cd_joined "joined" = true) (k_joined : PySem.W.keepIn K (.ref f_joined) = true)
    {f_core : Addr} {od_core an_core : Option Addr} {sl_core : Array (Option Value)} {oc_core kV_core dc_core pm_core cd_core ct_core : Value}
    (a_core : PySem.W.nsIn K mainGlobals "core" = some (some (.ref f_core))) (l_core : K.lookup f_core = some ⟨oc_core, od_core, .func (PySem.W.fnOf "core" "core" (defArgs s_core) (defBody s_core) (defScope s_core) .none kV_core dc_core pm_core an_core cd_core ct_core), sl_core⟩) (c_core : PySem.W.codeIn K cd_core "core" = true) (k_core : PySem.W.keepIn K (.ref f_core) = true)
    {f_root : Addr} {od_root an_root : Option Addr} {sl_root : Array (Option Value)} {oc_root kV_root dc_root pm_root cd_root ct_root : Value}
    (a_root : PySem.W.nsIn K mainGlobals "root" = some (some (.ref f_root))) (l_root : K.lookup f_root = some ⟨oc_root, od_root, .func (PySem.W.fnOf "root" "root" (defArgs s_root) (defBody s_root) (defScope s_root) .none kV_root dc_root pm_root an_root cd_root ct_root), sl_root⟩) (c_root : PySem.W.codeIn K cd_root "root" = true) (k_root : PySem.W.keepIn K (.ref f_root) = true)
    {f_ring_lead : Addr} {od_ring_lead an_ring_lead : Option Addr} {sl_ring_lead : Array (Option Value)} {oc_ring_lead kV_ring_lead dc_ring_lead pm_ring_lead cd_ring_lead ct_ring_lead : Value}
    (a_ring_lead : PySem.W.nsIn K mainGlobals "ring_lead" = some (some (.ref f_ring_lead))) (l_ring_lead : K.lookup f_ring_lead = some ⟨oc_ring_lead, od_ring_lead, .func (PySem.W.fnOf "ring_lead" "ring_lead" (defArgs s_ring_lead) (defBody s_ring_lead) (defScope s_ring_lead) .none kV_ring_lead dc_ring_lead pm_ring_lead an_ring_lead cd_ring_lead ct_ring_lead), sl_ring_lead⟩) (c_ring_lead : PySem.W.codeIn K cd_ring_lead "ring_lead" = true) (k_ring_lead : PySem.W.keepIn K (.ref f_ring_lead) = true)
    {f_ring_alike : Addr} {od_ring_alike an_ring_alike : Option Addr} {sl_ring_alike : Array (Option Value)} {oc_ring_alike kV_ring_alike dc_ring_alike pm_ring_alike cd_ring_alike ct_ring_alike : Value}
    (a_ring_alike : PySem.W.nsIn K mainGlobals "ring_alike" = some (some (.ref f_ring_alike))) (l_ring_alike : K.lookup f_ring_alike = some ⟨oc_ring_alike, od_ring_alike, .func (PySem.W.fnOf "ring_alike" "ring_alike" (defArgs s_ring_alike) (defBody s_ring_alike) (defScope s_ring_alike) .none kV_ring_alike dc_ring_alike pm_ring_alike an_ring_alike cd_ring_alike ct_ring_alike), sl_ring_alike⟩) (c_ring_alike : PySem.W.codeIn K cd_ring_alike "ring_alike" = true) (k_ring_alike : PySem.W.keepIn K (.ref f_ring_alike) = true)
    {f__law_well : Addr} {od__law_well an__law_well : Option Addr} {sl__law_well : Array (Option Value)} {oc__law_well kV__law_well dc__law_well pm__law_well cd__law_well ct__law_well : Value}
    (a__law_well : PySem.W.nsIn K mainGlobals "_law_well" = some (some (.ref f__law_well))) (l__law_well : K.lookup f__law_well = some ⟨oc__law_well, od__law_well, .func (PySem.W.fnOf "_law_well" "_law_well" (defArgs s__law_well) (defBody s__law_well) (defScope s__law_well) .none kV__law_well dc__law_well pm__law_well an__law_well cd__law_well ct__law_well), sl__law_well⟩) (c__law_well : PySem.W.codeIn K cd__law_well "_law_well" = true) (k__law_well : PySem.W.keepIn K (.ref f__law_well) = true)
    {f__law_draw : Addr} {od__law_draw an__law_draw : Option Addr} {sl__law_draw : Array (Option Value)} {oc__law_draw kV__law_draw dc__law_draw pm__law_draw cd__law_draw ct__law_draw : Value}
    (a__law_draw : PySem.W.nsIn K mainGlobals "_law_draw" = some (some (.ref f__law_draw))) (l__law_draw : K.lookup f__law_draw = some ⟨oc__law_draw, od__law_draw, .func (PySem.W.fnOf "_law_draw" "_law_draw" (defArgs s__law_draw) (defBody s__law_draw) (defScope s__law_draw) .none kV__law_draw dc__law_draw pm__law_draw an__law_draw cd__law_draw ct__law_draw), sl__law_draw⟩) (c__law_draw : PySem.W.codeIn K cd__law_draw "_law_draw" = true) (k__law_draw : PySem.W.keepIn K (.ref f__law_draw) = true)
    {f__law_other : Addr} {od__law_other an__law_other : Option Addr} {sl__law_other : Array (Option Value)} {oc__law_other kV__law_other dc__law_other pm__law_other cd__law_other ct__law_other : Value}
    (a__law_other : PySem.W.nsIn K mainGlobals "_law_other" = some (some (.ref f__law_other))) (l__law_other : K.lookup f__law_other = some ⟨oc__law_other, od__law_other, .func (PySem.W.fnOf "_law_other" "_law_other" (defArgs s__law_other) (defBody s__law_other) (defScope s__law_other) .none kV__law_other dc__law_other pm__law_other an__law_other cd__law_other ct__law_other), sl__law_other⟩) (c__law_other : PySem.W.codeIn K cd__law_other "_law_other" = true) (k__law_other : PySem.W.keepIn K (.ref f__law_other) = true)
    {f__law_back : Addr} {od__law_back an__law_back : Option Addr} {sl__law_back : Array (Option Value)} {oc__law_back kV__law_back dc__law_back pm__law_back cd__law_back ct__law_back : Value}
    (a__law_back : PySem.W.nsIn K mainGlobals "_law_back" = some (some (.ref f__law_back))) (l__law_back : K.lookup f__law_back = some ⟨oc__law_back, od__law_back, .func (PySem.W.fnOf "_law_back" "_law_back" (defArgs s__law_back) (defBody s__law_back) (defScope s__law_back) .none kV__law_back dc__law_back pm__law_back an__law_back cd__law_back ct__law_back), sl__law_back⟩) (c__law_back : PySem.W.codeIn K cd__law_back "_law_back" = true) (k__law_back : PySem.W.keepIn K (.ref f__law_back) = true)
    {f__law_signs : Addr} {od__law_signs an__law_signs : Option Addr} {sl__law_signs : Array (Option Value)} {oc__law_signs kV__law_signs dc__law_signs pm__law_signs cd__law_signs ct__law_signs : Value}
    (a__law_signs : PySem.W.nsIn K mainGlobals "_law_signs" = some (some (.ref f__law_signs))) (l__law_signs : K.lookup f__law_signs = some ⟨oc__law_signs, od__law_signs, .func (PySem.W.fnOf "_law_signs" "_law_signs" (defArgs s__law_signs) (defBody s__law_signs) (defScope s__law_signs) .none kV__law_signs dc__law_signs pm__law_signs an__law_signs cd__law_signs ct__law_signs), sl__law_signs⟩) (c__law_signs : PySem.W.codeIn K cd__law_signs "_law_signs" = true) (k__law_signs : PySem.W.keepIn K (.ref f__law_signs) = true)
    {f__law_word : Addr} {od__law_word an__law_word : Option Addr} {sl__law_word : Array (Option Value)} {oc__law_word kV__law_word dc__law_word pm__law_word cd__law_word ct__law_word : Value}
    (a__law_word : PySem.W.nsIn K mainGlobals "_law_word" = some (some (.ref f__law_word))) (l__law_word : K.lookup f__law_word = some ⟨oc__law_word, od__law_word, .func (PySem.W.fnOf "_law_word" "_law_word" (defArgs s__law_word) (defBody s__law_word) (defScope s__law_word) .none kV__law_word dc__law_word pm__law_word an__law_word cd__law_word ct__law_word), sl__law_word⟩) (c__law_word : PySem.W.codeIn K cd__law_word "_law_word" = true) (k__law_word : PySem.W.keepIn K (.ref f__law_word) = true)
    {f__law_backs_right : Addr} {od__law_backs_right an__law_backs_right : Option Addr} {sl__law_backs_right : Array (Option Value)} {oc__law_backs_right kV__law_backs_right dc__law_backs_right pm__law_backs_right cd__law_backs_right ct__law_backs_right : Value}
    (a__law_backs_right : PySem.W.nsIn K mainGlobals "_law_backs_right" = some (some (.ref f__law_backs_right))) (l__law_backs_right : K.lookup f__law_backs_right = some ⟨oc__law_backs_right, od__law_backs_right, .func (PySem.W.fnOf "_law_backs_right" "_law_backs_right" (defArgs s__law_backs_right) (defBody s__law_backs_right) (defScope s__law_backs_right) .none kV__law_backs_right dc__law_backs_right pm__law_backs_right an__law_backs_right cd__law_backs_right ct__law_backs_right), sl__law_backs_right⟩) (c__law_backs_right : PySem.W.codeIn K cd__law_backs_right "_law_backs_right" = true) (k__law_backs_right : PySem.W.keepIn K (.ref f__law_backs_right) = true)
    {f__law_leads_right : Addr} {od__law_leads_right an__law_leads_right : Option Addr} {sl__law_leads_right : Array (Option Value)} {oc__law_leads_right kV__law_leads_right dc__law_leads_right pm__law_leads_right cd__law_leads_right ct__law_leads_right : Value}
    (a__law_leads_right : PySem.W.nsIn K mainGlobals "_law_leads_right" = some (some (.ref f__law_leads_right))) (l__law_leads_right : K.lookup f__law_leads_right = some ⟨oc__law_leads_right, od__law_leads_right, .func (PySem.W.fnOf "_law_leads_right" "_law_leads_right" (defArgs s__law_leads_right) (defBody s__law_leads_right) (defScope s__law_leads_right) .none kV__law_leads_right dc__law_leads_right pm__law_leads_right an__law_leads_right cd__law_leads_right ct__law_leads_right), sl__law_leads_right⟩) (c__law_leads_right : PySem.W.codeIn K cd__law_leads_right "_law_leads_right" = true) (k__law_leads_right : PySem.W.keepIn K (.ref f__law_leads_right) = true)
    {f__law_right : Addr} {od__law_right an__law_right : Option Addr} {sl__law_right : Array (Option Value)} {oc__law_right kV__law_right dc__law_right pm__law_right cd__law_right ct__law_right : Value}
    (a__law_right : PySem.W.nsIn K mainGlobals "_law_right" = some (some (.ref f__law_right))) (l__law_right : K.lookup f__law_right = some ⟨oc__law_right, od__law_right, .func (PySem.W.fnOf "_law_right" "_law_right" (defArgs s__law_right) (defBody s__law_right) (defScope s__law_right) .none kV__law_right dc__law_right pm__law_right an__law_right cd__law_right ct__law_right), sl__law_right⟩) (c__law_right : PySem.W.codeIn K cd__law_right "_law_right" = true) (k__law_right : PySem.W.keepIn K (.ref f__law_right) = true)
    {f_law : Addr} {od_law an_law : Option Addr} {sl_law : Array (Option Value)} {oc_law kV_law dc_law pm_law cd_law ct_law : Value}
    (a_law : PySem.W.nsIn K mainGlobals "law" = some (some (.ref f_law))) (l_law : K.lookup f_law = some ⟨oc_law, od_law, .func (PySem.W.fnOf "law" "law" (defArgs s_law) (defBody s_law) (defScope s_law) .none kV_law dc_law pm_law an_law cd_law ct_law), sl_law⟩) (c_law : PySem.W.codeIn K cd_law "law" = true) (k_law : PySem.W.keepIn K (.ref f_law) = true)
    (z_isinstance : PySem.W.nsIn K mainGlobals "isinstance" = some none)
    (z_str : PySem.W.nsIn K mainGlobals "str" = some none)
    (z_all : PySem.W.nsIn K mainGlobals "all" = some none)
    (z_len : PySem.W.nsIn K mainGlobals "len" = some none)
    (z_enumerate : PySem.W.nsIn K mainGlobals "enumerate" = some none)
    (z_list : PySem.W.nsIn K mainGlobals "list" = some none)
    (z_abs : PySem.W.nsIn K mainGlobals "abs" = some none)
    (z_max : PySem.W.nsIn K mainGlobals "max" = some none)
    (z_int : PySem.W.nsIn K mainGlobals "int" = some none)
    (z_range : PySem.W.nsIn K mainGlobals "range" = some none)
    (z_sorted : PySem.W.nsIn K mainGlobals "sorted" = some none)
    (z_min : PySem.W.nsIn K mainGlobals "min" = some none)
    {t_LOW : Tok} (y_LOW : PySem.W.nsIn K mainGlobals "LOW" = some (some (.str k_LOW t_LOW)))
    {t_HIGH : Tok} (y_HIGH : PySem.W.nsIn K mainGlobals "HIGH" = some (some (.str k_HIGH t_HIGH)))
    : ∃ fd : FuncData, (∀ (s : Shared) (v : Value), BindsTo s fd ⟨[v], []⟩ [("script", v)]) ∧ ∀ base : Heap, K.In base → base.Ns mainGlobals mg → FnOk l.prog w K mg base CX0 7 fa fd ["script"] (sp_law K) := by
  have e := hfa.symm.trans (PySem.W.mg_of X G a_law)
  cases e
  have F_is_row := fun_mk (st := s_is_row) l_is_row c_is_row k_is_row
  have F_check_row := fun_mk (st := s_check_row) l_check_row c_check_row k_check_row
  have F_back_of := fun_mk (st := s_back_of) l_back_of c_back_of k_back_of
  have F_least_of := fun_mk (st := s_least_of) l_least_of c_least_of k_least_of
  have F_core_of := fun_mk (st := s_core_of) l_core_of c_core_of k_core_of
  have F_lead_between := fun_mk (st := s_lead_between) l_lead_between c_lead_between k_lead_between
  have F_back := fun_mk (st := s_back) l_back c_back k_back
  have F_least := fun_mk (st := s_least) l_least c_least k_least
  have F_joined := fun_mk (st := s_joined) l_joined c_joined k_joined
  have F_core := fun_mk (st := s_core) l_core c_core k_core
  have F_root := fun_mk (st := s_root) l_root c_root k_root
  have F_ring_lead := fun_mk (st := s_ring_lead) l_ring_lead c_ring_lead k_ring_lead
  have F_ring_alike := fun_mk (st := s_ring_alike) l_ring_alike c_ring_alike k_ring_alike
  have F__law_well := fun_mk (st := s__law_well) l__law_well c__law_well k__law_well
  have F__law_draw := fun_mk (st := s__law_draw) l__law_draw c__law_draw k__law_draw
  have F__law_other := fun_mk (st := s__law_other) l__law_other c__law_other k__law_other
  have F__law_back := fun_mk (st := s__law_back) l__law_back c__law_back k__law_back
  have F__law_signs := fun_mk (st := s__law_signs) l__law_signs c__law_signs k__law_signs
  have F__law_word := fun_mk (st := s__law_word) l__law_word c__law_word k__law_word
  have F__law_backs_right := fun_mk (st := s__law_backs_right) l__law_backs_right c__law_backs_right k__law_backs_right
  have F__law_leads_right := fun_mk (st := s__law_leads_right) l__law_leads_right c__law_leads_right k__law_leads_right
  have F__law_right := fun_mk (st := s__law_right) l__law_right c__law_right k__law_right
  have F_law := fun_mk (st := s_law) l_law c_law k_law
  let Z : Tx K mg := {
    a_is_row := f_is_row, d_is_row := _, F_is_row := F_is_row, b_is_row := F_is_row.binds (ps := ["value"]) (fun _ _ _ _ _ _ us hl => match us, hl with | [_], _ => rfl), g_is_row := PySem.W.mg_of X G a_is_row,
    a_check_row := f_check_row, d_check_row := _, F_check_row := F_check_row, b_check_row := F_check_row.binds (ps := ["value"]) (fun _ _ _ _ _ _ us hl => match us, hl with | [_], _ => rfl), g_check_row := PySem.W.mg_of X G a_check_row,
    a_back_of := f_back_of, d_back_of := _, F_back_of := F_back_of, b_back_of := F_back_of.binds (ps := ["row"]) (fun _ _ _ _ _ _ us hl => match us, hl with | [_], _ => rfl), g_back_of := PySem.W.mg_of X G a_back_of,
    a_least_of := f_least_of, d_least_of := _, F_least_of := F_least_of, b_least_of := F_least_of.binds (ps := ["row"]) (fun _ _ _ _ _ _ us hl => match us, hl with | [_], _ => rfl), g_least_of := PySem.W.mg_of X G a_least_of,
    a_core_of := f_core_of, d_core_of := _, F_core_of := F_core_of, b_core_of := F_core_of.binds (ps := ["free"]) (fun _ _ _ _ _ _ us hl => match us, hl with | [_], _ => rfl), g_core_of := PySem.W.mg_of X G a_core_of,
    a_lead_between := f_lead_between, d_lead_between := _, F_lead_between := F_lead_between, b_lead_between := F_lead_between.binds (ps := ["one", "two"]) (fun _ _ _ _ _ _ us hl => match us, hl with | [_, _], _ => rfl), g_lead_between := PySem.W.mg_of X G a_lead_between,
    a_back := f_back, d_back := _, F_back := F_back, b_back := F_back.binds (ps := ["row"]) (fun _ _ _ _ _ _ us hl => match us, hl with | [_], _ => rfl), g_back := PySem.W.mg_of X G a_back,
    a_least := f_least, d_least := _, F_least := F_least, b_least := F_least.binds (ps := ["row"]) (fun _ _ _ _ _ _ us hl => match us, hl with | [_], _ => rfl), g_least := PySem.W.mg_of X G a_least,
    a_joined := f_joined, d_joined := _, F_joined := F_joined, b_joined := F_joined.binds (ps := ["rows"]) (fun _ _ _ _ _ _ us hl => match us, hl with | [_], _ => rfl), g_joined := PySem.W.mg_of X G a_joined,
    a_core := f_core, d_core := _, F_core := F_core, b_core := F_core.binds (ps := ["row"]) (fun _ _ _ _ _ _ us hl => match us, hl with | [_], _ => rfl), g_core := PySem.W.mg_of X G a_core,
    a_root := f_root, d_root := _, F_root := F_root, b_root := F_root.binds (ps := ["row"]) (fun _ _ _ _ _ _ us hl => match us, hl with | [_], _ => rfl), g_root := PySem.W.mg_of X G a_root,
    a_ring_lead := f_ring_lead, d_ring_lead := _, F_ring_lead := F_ring_lead, b_ring_lead := F_ring_lead.binds (ps := ["one", "two"]) (fun _ _ _ _ _ _ us hl => match us, hl with | [_, _], _ => rfl), g_ring_lead := PySem.W.mg_of X G a_ring_lead,
    a_ring_alike := f_ring_alike, d_ring_alike := _, F_ring_alike := F_ring_alike, b_ring_alike := F_ring_alike.binds (ps := ["one", "two"]) (fun _ _ _ _ _ _ us hl => match us, hl with | [_, _], _ => rfl), g_ring_alike := PySem.W.mg_of X G a_ring_alike,
    a__law_well := f__law_well, d__law_well := _, F__law_well := F__law_well, b__law_well := F__law_well.binds (ps := ["script", "k"]) (fun _ _ _ _ _ _ us hl => match us, hl with | [_, _], _ => rfl), g__law_well := PySem.W.mg_of X G a__law_well,
    a__law_draw := f__law_draw, d__law_draw := _, F__law_draw := F__law_draw, b__law_draw := F__law_draw.binds (ps := ["well", "many"]) (fun _ _ _ _ _ _ us hl => match us, hl with | [_, _], _ => rfl), g__law_draw := PySem.W.mg_of X G a__law_draw,
    a__law_other := f__law_other, d__law_other := _, F__law_other := F__law_other, b__law_other := F__law_other.binds (ps := ["sign"]) (fun _ _ _ _ _ _ us hl => match us, hl with | [_], _ => rfl), g__law_other := PySem.W.mg_of X G a__law_other,
    a__law_back := f__law_back, d__law_back := _, F__law_back := F__law_back, b__law_back := F__law_back.binds (ps := ["given"]) (fun _ _ _ _ _ _ us hl => match us, hl with | [_], _ => rfl), g__law_back := PySem.W.mg_of X G a__law_back,
    a__law_signs := f__law_signs, d__law_signs := _, F__law_signs := F__law_signs, b__law_signs := F__law_signs.binds (ps := ["well"]) (fun _ _ _ _ _ _ us hl => match us, hl with | [_], _ => rfl), g__law_signs := PySem.W.mg_of X G a__law_signs,
    a__law_word := f__law_word, d__law_word := _, F__law_word := F__law_word, b__law_word := F__law_word.binds (ps := ["well", "signs", "most"]) (fun _ _ _ _ _ _ us hl => match us, hl with | [_, _, _], _ => rfl), g__law_word := PySem.W.mg_of X G a__law_word,
    a__law_backs_right := f__law_backs_right, d__law_backs_right := _, F__law_backs_right := F__law_backs_right, b__law_backs_right := F__law_backs_right.binds (ps := ["word"]) (fun _ _ _ _ _ _ us hl => match us, hl with | [_], _ => rfl), g__law_backs_right := PySem.W.mg_of X G a__law_backs_right,
    a__law_leads_right := f__law_leads_right, d__law_leads_right := _, F__law_leads_right := F__law_leads_right, b__law_leads_right := F__law_leads_right.binds (ps := ["first", "second", "third"]) (fun _ _ _ _ _ _ us hl => match us, hl with | [_, _, _], _ => rfl), g__law_leads_right := PySem.W.mg_of X G a__law_leads_right,
    a__law_right := f__law_right, d__law_right := _, F__law_right := F__law_right, b__law_right := F__law_right.binds (ps := ["well"]) (fun _ _ _ _ _ _ us hl => match us, hl with | [_], _ => rfl), g__law_right := PySem.W.mg_of X G a__law_right,
    a_law := fa, d_law := _, F_law := F_law, b_law := F_law.binds (ps := ["script"]) (fun _ _ _ _ _ _ us hl => match us, hl with | [_], _ => rfl), g_law := hfa,
    n_isinstance := PySem.W.mg_none_of X G z_isinstance,
    n_str := PySem.W.mg_none_of X G z_str,
    n_all := PySem.W.mg_none_of X G z_all,
    n_len := PySem.W.mg_none_of X G z_len,
    n_enumerate := PySem.W.mg_none_of X G z_enumerate,
    n_list := PySem.W.mg_none_of X G z_list,
    n_abs := PySem.W.mg_none_of X G z_abs,
    n_max := PySem.W.mg_none_of X G z_max,
    n_int := PySem.W.mg_none_of X G z_int,
    n_range := PySem.W.mg_none_of X G z_range,
    n_sorted := PySem.W.mg_none_of X G z_sorted,
    n_min := PySem.W.mg_none_of X G z_min,
    t_LOW := t_LOW, g_LOW := PySem.W.mg_of X G y_LOW,
    t_HIGH := t_HIGH, g_HIGH := PySem.W.mg_of X G y_HIGH }
  exact ⟨Z.d_law, fun s v => by exact .of_eq rfl, fun base _ _ => ok_law Z⟩
end K08
open PySem PySem.W PyProof.Rows
set_option maxRecDepth 100000 in
set_option maxHeartbeats 0 in
theorem PySem.Challenge.cw_sixthrows_k08_whole_rows_joined_holds : PySem.Challenge.rw_sixthrows_k08_whole_rows_joined.Holds := by
  w_on; o_law; k_head; (case hw => w_witness2)
  k_fill
  refine L2.walk_ofK (l := PySem.Challenge.rw_sixthrows_k08_whole_rows_joined) (n := 63) (k := 7) (x := "script") (CX := L2.CX0) (sp := K08.sp_law) rfl (by decide) rfl ⟨rfl, by decide, by decide⟩ (fun w h Y => PySem.W.kIn_of Y) ?F (fun K _ a ns hl _ hS => ⟨a, ns, rfl, hS, hl, fun _ => rfl⟩) (fun _ _ _ _ h => h)
  case F =>
    intro w mg fa h KX G hmg
    refine' K08.all_mk KX G hmg ?a_is_row ?l_is_row ?c_is_row ?k_is_row ?a_check_row ?l_check_row ?c_check_row ?k_check_row ?a_back_of ?l_back_of ?c_back_of ?k_back_of ?a_least_of ?l_least_of ?c_least_of ?k_least_of ?a_core_of ?l_core_of ?c_core_of ?k_core_of ?a_lead_between ?l_lead_between ?c_lead_between ?k_lead_between ?a_back ?l_back ?c_back ?k_back ?a_least ?l_least ?c_least ?k_least ?a_joined ?l_joined ?c_joined ?k_joined ?a_core ?l_core ?c_core ?k_core ?a_root ?l_root ?c_root ?k_root ?a_ring_lead ?l_ring_lead ?c_ring_lead ?k_ring_lead ?a_ring_alike ?l_ring_alike ?c_ring_alike ?k_ring_alike ?a__law_well ?l__law_well ?c__law_well ?k__law_well ?a__law_draw ?l__law_draw ?c__law_draw ?k__law_draw ?a__law_other ?l__law_other ?c__law_other ?k__law_other ?a__law_back ?l__law_back ?c__law_back ?k__law_back ?a__law_signs ?l__law_signs ?c__law_signs ?k__law_signs ?a__law_word ?l__law_word ?c__law_word ?k__law_word ?a__law_backs_right ?l__law_backs_right ?c__law_backs_right ?k__law_backs_right ?a__law_leads_right ?l__law_leads_right ?c__law_leads_right ?k__law_leads_right ?a__law_right ?l__law_right ?c__law_right ?k__law_right ?a_law ?l_law ?c_law ?k_law ?z_isinstance ?z_str ?z_all ?z_len ?z_enumerate ?z_list ?z_abs ?z_max ?z_int ?z_range ?z_sorted ?z_min ?y_LOW ?y_HIGH
    (case a_is_row => k_is)
    (case l_is_row => k_is)
    (case c_is_row => k_is)
    (case k_is_row => k_is)
    (case a_check_row => k_is)
    (case l_check_row => k_is)
    (case c_check_row => k_is)
    (case k_check_row => k_is)
    (case a_back_of => k_is)
    (case l_back_of => k_is)
    (case c_back_of => k_is)
    (case k_back_of => k_is)
    (case a_least_of => k_is)
    (case l_least_of => k_is)
    (case c_least_of => k_is)
    (case k_least_of => k_is)
    (case a_core_of => k_is)
    (case l_core_of => k_is)
    (case c_core_of => k_is)
    (case k_core_of => k_is)
    (case a_lead_between => k_is)
    (case l_lead_between => k_is)
    (case c_lead_between => k_is)
    (case k_lead_between => k_is)
    (case a_back => k_is)
    (case l_back => k_is)
    (case c_back => k_is)
    (case k_back => k_is)
    (case a_least => k_is)
    (case l_least => k_is)
    (case c_least => k_is)
    (case k_least => k_is)
    (case a_joined => k_is)
    (case l_joined => k_is)
    (case c_joined => k_is)
    (case k_joined => k_is)
    (case a_core => k_is)
    (case l_core => k_is)
    (case c_core => k_is)
    (case k_core => k_is)
    (case a_root => k_is)
    (case l_root => k_is)
    (case c_root => k_is)
    (case k_root => k_is)
    (case a_ring_lead => k_is)
    (case l_ring_lead => k_is)
    (case c_ring_lead => k_is)
    (case k_ring_lead => k_is)
    (case a_ring_alike => k_is)
    (case l_ring_alike => k_is)
    (case c_ring_alike => k_is)
    (case k_ring_alike => k_is)
    (case a__law_well => k_is)
    (case l__law_well => k_is)
    (case c__law_well => k_is)
    (case k__law_well => k_is)
    (case a__law_draw => k_is)
    (case l__law_draw => k_is)
    (case c__law_draw => k_is)
    (case k__law_draw => k_is)
    (case a__law_other => k_is)
    (case l__law_other => k_is)
    (case c__law_other => k_is)
    (case k__law_other => k_is)
    (case a__law_back => k_is)
    (case l__law_back => k_is)
    (case c__law_back => k_is)
    (case k__law_back => k_is)
    (case a__law_signs => k_is)
    (case l__law_signs => k_is)
    (case c__law_signs => k_is)
    (case k__law_signs => k_is)
    (case a__law_word => k_is)
    (case l__law_word => k_is)
    (case c__law_word => k_is)
    (case k__law_word => k_is)
    (case a__law_backs_right => k_is)
    (case l__law_backs_right => k_is)
    (case c__law_backs_right => k_is)
    (case k__law_backs_right => k_is)
    (case a__law_leads_right => k_is)
    (case l__law_leads_right => k_is)
    (case c__law_leads_right => k_is)
    (case k__law_leads_right => k_is)
    (case a__law_right => k_is)
    (case l__law_right => k_is)
    (case c__law_right => k_is)
    (case k__law_right => k_is)
    (case a_law => k_is)
    (case l_law => k_is)
    (case c_law => k_is)
    (case k_law => k_is)
    (case z_isinstance => k_is)
    (case z_str => k_is)
    (case z_all => k_is)
    (case z_len => k_is)
    (case z_enumerate => k_is)
    (case z_list => k_is)
    (case z_abs => k_is)
    (case z_max => k_is)
    (case z_int => k_is)
    (case z_range => k_is)
    (case z_sorted => k_is)
    (case z_min => k_is)
    (case y_LOW => k_is)
    (case y_HIGH => k_is)
