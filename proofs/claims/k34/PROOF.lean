import PyProof.Rows.All
import Wide.All
import OpenK.AllK
import Wide.FinOn
import HandS.Text
import HandS.TupAny
import HandS.Style
import HandS.StrMore
import HandS.Wide
import HandS.Iter
import HandS.Comp
import HandS.Ends
import HandS.Words
import HandS.WordsList
import PyProof.Rows.StrStep
import PyProof.Rows.StrCase
import PyProof.Rows.RuleB_pow
import PyProof.StrOps2
import HandS.IsInst
import HandS.Flow
import HandS.More
import HandS.RaiseMore
import PyProof.CallFns
import PyProof.StrLawsRepr
import HandS.TryOnly
import PyProof.Rows.StrMeet
import HandS.Zip
import KE.GoesEnum
import KE.GoesMore
import PyProof.ReprRoads
import PyProof.TupleOfSeq
import KE.KIndexOf
import HandS.Replace
import HandS.Conv
import HandS.Defaults
import HandS.ExcInit
import HandS.ExcField
import HandS.ExcIs
import HandS.TryMany
import HandS.WordsExc
import KE.KExcIs
import OpenK.KCls
import HandS.Small
import HandS.FStr
import KE.KIntText
import PyProof.Rows.StrBin
import HandS.Set
import HandS.SetFor
import HandS.Strs
import HandS.SlotsOwn
import HandS.MakeKw
import PyProof.Rows.SortShellAny
import HandS.TupSets
import KE.GoesZip
import HandS.Star
import PyProof.ReprBulk
import PyProof.CollectStr
import PyProof.CollectIter
import KE.KUnpack
import PyProof.StrLawsChain
import PyProof.StrLawsTight
import PyProof.Rows.StrItems
import PyProof.FString5
import PySem.Challenge.RW_sixthrows_k34_whole_free_rows_led_apart
set_option Elab.async false
set_option linter.all false
set_option maxRecDepth 100000
set_option maxHeartbeats 4000000
set_option maxHeartbeats 1000000
namespace NX
open PySem PySem.Spec PyProof.Rows L2

/-- a text of codes -/
def mkS (l : List Nat) : Str := ⟨l.toArray⟩
theorem mkS_len (l : List Nat) : (mkS l).length = l.length := by show l.toArray.size = _; simp
theorem mkS_tl (l : List Nat) : (mkS l).cps.toList = l := rfl
theorem mkS_inj {a b : List Nat} (h : mkS a = mkS b) : a = b := by
  have := congrArg (fun s : Str => s.cps.toList) h
  exact this
theorem mkS_add (a b : List Nat) : mkS a ++ mkS b = mkS (a ++ b) := by
  apply TL.ext_tl
  rw [TL.tl_append]; rfl
theorem mkS_of (z : Str) : mkS z.cps.toList = z := TL.mk_tl z
abbrev T (l : List Nat) : V := .str (mkS l)
theorem T_dec (a b : List Nat) : decide (T a = T b) = decide (a = b) := by
  by_cases h : a = b
  · subst h; simp
  · have : ¬ T a = T b := fun e => h (mkS_inj (V.str.inj e))
    rw [decide_eq_false h, decide_eq_false this]

/-! ### big powers -/
def CPowW (i j : Int) : Prop := 0 ≤ j ∧ (Builtin.Int.intBits i : Int) * j ≤ 2 ^ 27
theorem cpow_of {i j : Int} {k : Nat} (h0 : 0 ≤ j) (h : i.natAbs < 2 ^ k) (hk : (k : Int) * j ≤ 2 ^ 27) : CPowW i j :=
  ⟨h0, Int.le_trans (Int.mul_le_mul_of_nonneg_right (by exact_mod_cast intBits_le h) h0) hk⟩
section
variable {X : Cx}
theorem op_powW : OpR X (binaryOp .Pow) (rI CPowW fun i j => .int (i ^ j.toNat)) := opI fun _ _ _ _ _ _ _ hc q => pow_int hc.1 hc.2 q

/-! ### text times number -/
def repL (l : List Nat) (n : Nat) : List Nat := (List.replicate n l).flatten
theorem foldl_rep (l : List Nat) : ∀ (n : Nat) (acc : Array Nat), ((List.replicate n l.toArray).foldl (· ++ ·) acc).toList = acc.toList ++ repL l n
  | 0, acc => by simp [repL]
  | n + 1, acc => by
    rw [List.replicate_succ, List.foldl_cons, foldl_rep l n]
    simp [repL, List.replicate_succ]
theorem repL_len (l : List Nat) (n : Nat) : (repL l n).length = n * l.length := by
  unfold repL; simp
theorem repL_one (l : List Nat) : repL l 1 = l := by simp [repL]
def CMulS (l : List Nat) (n : Int) : Prop := n < 2 ^ 62 ∧ -(2 ^ 62) < n ∧ l.length * n.toNat ≤ 16777216
theorem op_mulS : OpR X (binaryOp .Mult) (fun x y H Q => ∃ l n, x = T l ∧ y = .int n ∧ CMulS l n ∧ Q (T (repL l n.toNat)) H) := by
  intro pins s σ H x y v u Q I rx ry h
  obtain ⟨l, n, rfl, rfl, ⟨h1, h2, h3⟩, q⟩ := h
  obtain ⟨t, rfl⟩ := rx
  obtain ⟨t', rfl⟩ := ry
  refine PySem.P.mul_str ?_ (fun hn _ => ?_) (fun hn _ => ?_) ?_
  · have a : ¬ n < -(2 ^ 63 : Int) := by omega
    have b : ¬ n ≥ 2 ^ 63 := by omega
    rw [decide_eq_false a, decide_eq_false b]; rfl
  · rw [mkS_len]
    have hn1 : 1 ≤ n := by omega
    obtain ⟨k, rfl⟩ : ∃ k : Nat, n = k := ⟨n.toNat, by omega⟩
    have h4 : l.length * k ≤ 16777216 := by simpa using h3
    intro hc
    have h5 : ((2 ^ 63 - 1 : Int)) / k < l.length := by omega
    have h6 := Int.lt_mul_of_ediv_lt (by omega : (0:Int) < k) h5
    have h7 : ((k : Int) * l.length) = ((l.length * k : Nat) : Int) := by rw [Nat.mul_comm]; simp
    have h8 : ((l.length : Int) * k) = ((l.length * k : Nat) : Int) := by simp
    omega
  · rw [mkS_len]; exact short24 h3
  · by_cases c1 : n < 1
    · rw [if_pos c1]
      refine ⟨by decide, .str _, H, I.tok _, ⟨_, rfl⟩, ?_⟩
      have : n.toNat = 0 := by omega
      rw [this] at q
      exact q
    · rw [if_neg c1]
      by_cases c2 : (n == 1 || (mkS l).length == 0) = true
      · rw [if_pos c2]
        refine ⟨T l, H, I, ⟨_, rfl⟩, ?_⟩
        have e : repL l n.toNat = l := by
          rw [mkS_len] at c2
          rcases Bool.or_eq_true _ _ ▸ c2 with c | c
          · have : n = 1 := by simpa using c
            subst this; exact repL_one l
          · have : l = [] := by simpa using c
            subst this; simp [repL]
        rw [e] at q
        exact q
      · rw [if_neg c2]
        have e : (⟨(List.replicate n.toNat (mkS l).cps).foldl (· ++ ·) #[]⟩ : Str) = mkS (repL l n.toNat) := by
          apply TL.ext_tl
          show ((List.replicate n.toNat l.toArray).foldl (· ++ ·) #[]).toList = _
          rw [foldl_rep]; rfl
        rw [e]
        refine ⟨?_, T _, H, I.tok _, ⟨_, rfl⟩, q⟩
        rw [mkS_len, repL_len, sizeLine_eq, Nat.mul_comm]; exact h3

/-! ### swapcase, upper, lower, islower of plain texts -/
def swp (c : Nat) : Nat := if 65 ≤ c ∧ c ≤ 90 then c + 32 else if 97 ≤ c ∧ c ≤ 122 then c - 32 else c
def Asc (l : List Nat) : Prop := ∀ c ∈ l, c < 128
theorem lowerAt_ascii {x : Str} {i c : Nat} (hc : x.cps[i]? = some c) (h : c < 128) : Unicode.lowerAt x.cps i = [lo1 c] := by
  unfold Unicode.lowerAt
  rw [hc]
  have hne : (c == 0x3A3) = false := by rw [beq_eq_false_iff_ne]; omega
  simp only [hne, Bool.false_and, Bool.false_eq_true, if_false]
  exact lowerOf_ascii c h
theorem isU_ascii : ∀ c, c < 128 → Unicode.isUpper c = decide (65 ≤ c ∧ c ≤ 90) := by decide +kernel
theorem isL_ascii : ∀ c, c < 128 → Unicode.isLower c = decide (97 ≤ c ∧ c ≤ 122) := by decide +kernel
theorem isT_ascii : ∀ c, c < 128 → Unicode.isTitle c = false := by decide +kernel
theorem swap_ascii {l : List Nat} (h : Asc l) : Txt.swapcase (mkS l) = mkS (l.map swp) := by
  unfold Txt.swapcase
  rw [placed_single (mkS l) _ swp fun i c hc => by
    have hc' : (mkS l).cps[i]? = some c := by simpa using hc
    have hlt := h c (List.mem_of_getElem? hc)
    rw [isU_ascii c hlt, isL_ascii c hlt, lowerAt_ascii hc' hlt, upperOf_ascii c hlt]
    unfold swp lo1 up1
    by_cases h1 : 65 ≤ c ∧ c ≤ 90
    · simp [h1]
    · by_cases h2 : 97 ≤ c ∧ c ≤ 122
      · simp [h1, h2]
      · simp [h1, h2]]
  simp [mkS]
theorem up_ascii {l : List Nat} (h : Asc l) : Txt.upper (mkS l) = mkS (l.map up1) := by
  rw [upper_ascii (x := mkS l) h]; simp [mkS]
theorem low_ascii {l : List Nat} (h : Asc l) : Txt.lower (mkS l) = mkS (l.map lo1) := by
  rw [lower_ascii (x := mkS l) h]; simp [mkS]
def isLo (c : Nat) : Bool := decide (97 ≤ c ∧ c ≤ 122)
theorem islow_one {c : Nat} (h : c < 128) : Txt.islower (mkS [c]) = isLo c := by
  unfold Txt.islower
  show (#[c].any Unicode.isLower && !#[c].any fun c => Unicode.isUpper c || Unicode.isTitle c) = _
  have e1 : #[c].any Unicode.isLower = Unicode.isLower c := by simp
  have e2 : (#[c].any fun c => Unicode.isUpper c || Unicode.isTitle c) = (Unicode.isUpper c || Unicode.isTitle c) := by simp
  rw [e1, e2, isL_ascii c h, isU_ascii c h, isT_ascii c h]
  unfold isLo
  by_cases h2 : 97 ≤ c ∧ c ≤ 122
  · have h1 : ¬ (65 ≤ c ∧ c ≤ 90) := by omega
    simp [h1, h2]
  · simp [h2]
abbrev rMap (f : Nat → Nat) : V → List V → Hp → VK → Prop := fun x xs H Q => ∃ l, x = T l ∧ xs = [] ∧ (Asc l ∧ l.length ≤ 5000000) ∧ Q (T (l.map f)) H
theorem mt_swapL : MtR X "str.swapcase" (rMap swp) := by
  intro pins s σ H x xs v us Q I rx rs h
  obtain ⟨l, rfl, rfl, ⟨ha, hl⟩, q⟩ := h
  obtain ⟨t, rfl⟩ := rx
  cases rs
  have e := swap_ascii ha
  refine PySem.SC.swapcase ?_ ⟨.str _, H, I.tok _, ⟨_, rfl⟩, by rw [e]; exact q⟩
  rw [e, mkS_len, List.length_map]
  exact short24 (by omega)
theorem mt_upL : MtR X "str.upper" (rMap up1) := by
  intro pins s σ H x xs v us Q I rx rs h
  obtain ⟨l, rfl, rfl, ⟨ha, hl⟩, q⟩ := h
  refine mt_upper pins s σ H _ _ v us Q I rx rs ⟨mkS l, rfl, rfl, by rw [mkS_len]; omega, ?_⟩
  rw [up_ascii ha]; exact q
theorem mt_lowL : MtR X "str.lower" (rMap lo1) := by
  intro pins s σ H x xs v us Q I rx rs h
  obtain ⟨l, rfl, rfl, ⟨ha, hl⟩, q⟩ := h
  refine mt_lower pins s σ H _ _ v us Q I rx rs ⟨mkS l, rfl, rfl, by rw [mkS_len]; omega, ?_⟩
  rw [low_ascii ha]; exact q
theorem mt_islowL : MtR X "str.islower" (fun x xs H Q => ∃ c, x = T [c] ∧ xs = [] ∧ c < 128 ∧ Q (.bl (isLo c)) H) := by
  intro pins s σ H x xs v us Q I rx rs h
  obtain ⟨c, rfl, rfl, hc, q⟩ := h
  refine mt_islower pins s σ H _ _ v us Q I rx rs ⟨mkS [c], rfl, rfl, trivial, ?_⟩
  rw [islow_one hc]; exact q

/-! ### the operators, whatever they are between -/
def rAddG (K : PySem.W.Frag) : R2 := fun x y H Q => match x, y with
  | .int i, .int j => Q (.int (i + j)) H
  | .str a, .str b => a.length + b.length ≤ sizeLine ∧ Q (.str (a ++ b)) H
  | .ref l, .ref b => (∃ xs zs, H l = some (.lst xs) ∧ H b = some (.lst zs) ∧ xs.length + zs.length ≤ sizeLine ∧ ∀ p, H p = none → Q (.ref p) (upd H p (.lst (xs ++ zs)))) ∨ rCatA K (.ref l) (.ref b) H Q
  | _, _ => False
theorem op_addG : OpR X (binaryOp .Add) (rAddG X.K) := by
  intro pins s σ H x y v u Q I rx ry h
  cases x <;> cases y <;> try exact (show False from h).elim
  · exact op_add pins s σ H _ _ v u Q I rx ry ⟨_, _, rfl, rfl, h⟩
  · rename_i a b
    obtain ⟨t, rfl⟩ := rx
    obtain ⟨t', rfl⟩ := ry
    exact op_add_str pins s σ H (.str a) (.str b) _ _ Q I ⟨t, rfl⟩ ⟨t', rfl⟩ ⟨a, b, rfl, rfl, h.1, h.2⟩
  · rename_i l b
    rcases h with ⟨xs, zs, h1, h2, h3, h4⟩ | h
    · exact op_cat pins s σ H _ _ v u Q I rx ry ⟨l, b, xs, zs, rfl, rfl, h1, h2, h3, h4⟩
    · exact op_catA pins s σ H _ _ v u Q I rx ry h
def rMulG : R2 := fun x y H Q => match x, y with
  | .int i, .int j => CMul i j ∧ Q (.int (i * j)) H
  | .str a, .int n => CMulS a.cps.toList n ∧ Q (T (repL a.cps.toList n.toNat)) H
  | .ref l, .int k => ∃ xs, H l = some (.lst xs) ∧ (-(2 ^ 62) < k ∧ k < 2 ^ 62) ∧ xs.length * k.toNat ≤ sizeLine ∧ ∀ p, H p = none → Q (.ref p) (upd H p (.lst (List.replicate k.toNat xs).flatten))
  | _, _ => False
theorem op_mulG : OpR X (binaryOp .Mult) rMulG := by
  intro pins s σ H x y v u Q I rx ry h
  cases x <;> cases y <;> try exact (show False from h).elim
  · exact op_mul pins s σ H _ _ v u Q I rx ry ⟨_, _, rfl, rfl, h.1, h.2⟩
  · rename_i a n
    refine op_mulS pins s σ H _ _ v u Q I rx ry ⟨a.cps.toList, n, ?_, rfl, h.1, h.2⟩
    rw [T, mkS_of]
  · rename_i l k
    obtain ⟨xs, h1, ⟨h2, h3⟩, h4, h5⟩ := h
    exact op_rep pins s σ H _ _ v u Q I rx ry ⟨l, k, xs, rfl, rfl, h1, by omega, by omega, h4, h5⟩

/-! ### slices -/
def cutL (l : List Nat) (lo hi : Option Int) : List Nat := (l.drop (HT.sIx l.length 0 lo)).take (HT.sIx l.length l.length hi - HT.sIx l.length 0 lo)
theorem cutS_mk (l : List Nat) (lo hi : Option Int) : cutS (mkS l) lo hi = mkS (cutL l lo hi) := by
  unfold cutS cutL
  rw [mkS_len]; rfl
def rSlG (K : PySem.W.Frag) : V → Option Int → Option Int → Hp → VK → Prop := fun x lo hi H Q => rSlS x lo hi H Q ∨ (rSlL K x lo hi H Q ∨ rSlA K x lo hi H Q)
theorem sl_G : SlR X (rSlG X.K) := SlR.or sl_str (SlR.or sl_list sl_tupA)

/-! ### x[::-1] of a text -/
def RevB (K : PySem.W.Frag) (Q : VK) (x : V) (H1 : Hp) : Prop := (∃ l, x = T l ∧ l.length ≤ 16777216 ∧ Q (T l.reverse) H1) ∨ (∃ a xs, x = .ref a ∧ SqL K H1 a xs ∧ ∀ p, H1 p = none → Q (.ref p) (upd H1 p (.lst xs.reverse)))
def tRevS (K : PySem.W.Frag) (te : TE) : TE := fun σ H Q => te σ H (RevB K Q)
theorem fm_congr {α β : Type} {f g : α → Option β} : ∀ {l : List α}, (∀ a ∈ l, f a = g a) → l.filterMap g = l.filterMap f
  | [], _ => rfl
  | a :: r, h => by
    have h1 := h a List.mem_cons_self
    have h2 := fm_congr (l := r) fun b hb => h b (List.mem_cons_of_mem _ hb)
    simp only [List.filterMap_cons, h1, h2]
theorem rev_pick : ∀ l : List Nat, ((List.range l.length).map fun k => l.length - 1 - k).filterMap (l[·]?) = l.reverse
  | [] => rfl
  | a :: r => by
    rw [List.length_cons, List.range_succ, List.map_append, List.filterMap_append, List.reverse_cons]
    have ih := rev_pick r
    congr 1
    · rw [← ih, ← fm_congr (f := fun k => r[k]?) (g := fun k => (a :: r)[k + 1]?) fun k _ => by simp]
      have e : (List.range r.length).map (fun k => r.length + 1 - 1 - k) = ((List.range r.length).map fun k => r.length - 1 - k).map (· + 1) := by
        rw [List.map_map]
        refine List.map_congr_left fun k hk => ?_
        have := List.mem_range.mp hk
        show r.length + 1 - 1 - k = r.length - 1 - k + 1
        omega
      rw [e, List.filterMap_map]
      rfl
    · simp
theorem rev_range (n : Nat) : sliceRange ((n : Int) - 1) (-1) (-1) = (List.range n).map fun k => n - 1 - k := by
  unfold sliceRange
  have h1 : ¬ ((-1 : Int) > 0) := by decide
  simp only [if_neg h1]
  by_cases hn : n = 0
  · subst hn; simp
  · have h2 : ((n : Int) - 1 > -1) := by omega
    rw [if_pos h2]
    have e : (((n : Int) - 1 - -1 - -1 - 1) / - -1).toNat = n := by
      have : ((n : Int) - 1 - -1 - -1 - 1) / - -1 = (n : Int) := by
        rw [show (- -1 : Int) = 1 from rfl, Int.ediv_one]; omega
      rw [this]; simp
    rw [e]
    refine List.map_congr_left fun k hk => ?_
    have := List.mem_range.mp hk
    omega
theorem rev_sliced (l : List Nat) (t : Tok) : Txt.sliceBy (mkS l) none none (-1, t) = mkS l.reverse := by
  have e : slicePicked (mkS l) none none (some (-1, t)) = (List.range l.length).map fun k => l.length - 1 - k := by
    show Builtin.Str.strSliceIndices none none (-1) (mkS l).length = _
    rw [mkS_len]
    show sliceRange ((l.length : Int) - 1) (-1) (-1) = _
    rw [rev_range]
  unfold Txt.sliceBy
  rw [e]
  rw [if_neg (by simp)]
  apply TL.ext_tl
  show (((List.range l.length).map fun k => l.length - 1 - k).filterMap (l.toArray[·]?)) = l.reverse
  rw [← rev_pick l]
  simp
theorem pe_revG {e : Expr} {te : TE} {k : Nat} {p1 p2 p3 pos : Pos} (he : PE X e te) : PE X (.Subscript e (.Slice none none (some (.UnaryOp .USub (.Constant (.int 1) k p1) p2)) p3) pos) (tRevS X.K te) := by
  refine ⟨fun pins s σ H Q I h => ?_⟩
  refine Subscript_ (thn (he.run pins s σ H _ I h) fun v s1 ⟨x, H1, I1, r1, q1⟩ => ?_)
  have hst : PO X (some (.UnaryOp .USub (.Constant (.int 1) k p1) p2)) (tPart (tUn (rU fun i => .int (-i)) (tC (.int 1)))) := po_some (pe_un un_neg pe_int)
  refine wpAny_Slice (thn (po_none.run pins s1 σ H1 (fun o H2 => o = none ∧ H2 = H1) I1 ⟨rfl, rfl⟩) fun vl s2 ⟨l, H2, I2, pl, el, e2⟩ => ?_)
  subst el e2
  refine thn (po_none.run pins s2 σ H2 (fun o H3 => o = none ∧ H3 = H2) I2 ⟨rfl, rfl⟩) fun vu s3 ⟨u, H3, I3, pu, eu, e3⟩ => ?_
  subst eu e3
  refine thn (hst.run pins s3 σ H3 (fun o H4 => o = some (-1) ∧ H4 = H3) I3 ⟨1, rfl, -1, rfl, rfl, rfl⟩) fun vs s4 ⟨o, H4, I4, ps, eo, e4⟩ => ?_
  subst eo e4
  have I5 : Inv X pins σ H4 { s4 with heap := s4.heap.push { cls := .type "slice", data := .fields #[vl, vu, vs] } } := I4.kept (t' := s4.toks) fun b ob q => Heap.get?_push_of_some _ q
  rcases q1 with ⟨l, rfl, hl, q⟩ | ⟨a, xs, ex, hx, q⟩
  · obtain ⟨t, rfl⟩ := r1
    cases pl
    cases pu
    cases ps with
    | int i uk =>
      show wpAny (model X.prog X.w) X.A (subscriptTail e (.Slice none none (some (.UnaryOp .USub (.Constant (.int 1) k p1) p2)) p3) (.str (mkS l) t) (.ref s4.heap.objs.size)) (EP X pins σ Q) X.xe { s4 with heap := s4.heap.push { cls := .type "slice", data := .fields #[.none, .none, .int (-1) uk] } }
      refine tail_any (ops := [.ref s4.heap.objs.size, .str (mkS l) t]) (typeIs_str _ _ _) (PySem.F.slot_str_getitem.lookup) ?_ (by with_unfolding_all rfl)
      refine wpAny_getItem_str_slice (l := none) (u := none) (st := some (-1, uk)) ⟨_, Heap.get?_push_size _ rfl, rfl, rfl⟩ (by rfl) ?_
      have er := rev_sliced l uk
      refine post_val_or_str ⟨?_, fun t' k => ?_⟩
      · show (Txt.sliceBy (mkS l) none none (-1, uk)).length ≤ sizeLine
        rw [er, mkS_len, List.length_reverse, sizeLine_eq]; exact hl
      · show EP X pins σ Q (.str (Txt.sliceBy (mkS l) none none (-1, uk)) t') _
        rw [er]
        exact ⟨T l.reverse, H4, I5.tok _, ⟨_, rfl⟩, q⟩
  · subst ex
    cases r1
    obtain ⟨its, r, ht, hz⟩ := I5.list hx
    have hlen := r.length
    show wpAny (model X.prog X.w) X.A (subscriptTail e (.Slice none none (some (.UnaryOp .USub (.Constant (.int 1) k p1) p2)) p3) (.ref a) (.ref s4.heap.objs.size)) (EP X pins σ Q) X.xe { s4 with heap := s4.heap.push { cls := .type "slice", data := .fields #[vl, vu, vs] } }
    refine tail_any (ops := [.ref a, .ref s4.heap.objs.size]) ht.isList.typeIs (PySem.slot_list_getitem.lookup) ?_ (by with_unfolding_all rfl)
    refine wpAny_getItem_list_slice ht.isList (Heap.IsSliceOf.new _ vl vu vs) pl pu ps (by decide) ?_ (by rw [List.size_toArray]; omega)
    rw [PySem.W.krv_pick]
    refine ⟨.ref _, _, I5.laid (t' := s4.toks) (o := .lst xs.reverse) (fun b ob q => Heap.get?_push_of_some _ q) (Nat.le_refl _) ?_, rfl, q _ (I5.hok.fresh (Nat.le_refl _))⟩
    exact ⟨by rw [List.length_reverse]; exact hz, _, 0, r.reverse, Heap.get?_push_size _ rfl⟩
end
end NX
set_option maxHeartbeats 1000000
namespace NX
open PySem PySem.Spec PyProof.Rows L2
section
variable {X : Cx}
theorem hu_of64 {A : Around} {k : Nat} (hr : Room k A) : A.units + 64 < cLine := hr.units
theorem pe_strL {x : Str} {l : List Nat} {j : Nat} {pos : Pos} (h : x = mkS l) : PE X (.Constant (.str x) j pos) (tC (T l)) := by
  subst h; exact pe_str
/-! ### == of whatever -/
def rEqG (K : PySem.W.Frag) : R2 := fun x y H Q => (scal x y = true ∧ Q (.bl (decide (x = y))) H) ∨ rEqD K x y H Q
def rNeG (K : PySem.W.Frag) : R2 := fun x y H Q => (scal x y = true ∧ Q (.bl (!decide (x = y))) H) ∨ rNeD K x y H Q
theorem op_eqG (hu : X.A.units + 64 < cLine) : OpR X (compareOp .Eq) (rEqG X.K) := by
  intro pins s σ H x y v u Q I rx ry h
  rcases h with h | h
  · exact op_eq pins s σ H x y v u Q I rx ry h
  · exact op_eqD hu pins s σ H x y v u Q I rx ry h
theorem op_neG (hu : X.A.units + 64 < cLine) : OpR X (compareOp .NotEq) (rNeG X.K) := by
  intro pins s σ H x y v u Q I rx ry h
  rcases h with h | h
  · exact op_ne pins s σ H x y v u Q I rx ry h
  · exact op_neD hu pins s σ H x y v u Q I rx ry h
/-! ### in -/
def subS (j i : Str) : Bool := !(Builtin.Str.occurrences j i 0 j.length 1).isEmpty
def rInG (K : PySem.W.Frag) : R2 := fun x y H Q => (∃ i j, x = .str i ∧ y = .str j ∧ Q (.bl (subS j i)) H) ∨ rIn K false x y H Q
def rNotInG (K : PySem.W.Frag) : R2 := fun x y H Q => (∃ i j, x = .str i ∧ y = .str j ∧ Q (.bl (!(subS j i))) H) ∨ rIn K true x y H Q
theorem op_inG : OpR X (compareOp .In) (rInG X.K) := by
  intro pins s σ H x y v u Q I rx ry h
  rcases h with h | h
  · exact op_in_str pins s σ H x y v u Q I rx ry h
  · exact op_in_seq pins s σ H x y v u Q I rx ry h
theorem op_notInG : OpR X (compareOp .NotIn) (rNotInG X.K) := by
  intro pins s σ H x y v u Q I rx ry h
  rcases h with h | h
  · exact op_notin_str pins s σ H x y v u Q I rx ry h
  · exact op_notIn_seq pins s σ H x y v u Q I rx ry h
theorem subS_one (l : List Nat) (c : Nat) : subS (mkS l) (mkS [c]) = decide (c ∈ l) := PySem.StrLaws.found_one (mkS l) c
/-! ### calls of the built-in -/
theorem call_lenG : CallR X (.builtin "len") (fun xs H Q => ∃ x n, xs = [x] ∧ LenV X.K x H n ∧ Q (.int n) H) := call_len
def rInt1 : List V → Hp → VK → Prop := fun xs H Q => (∃ i, xs = [.int i] ∧ Q (.int i) H) ∨ ∃ k, xs = [.bl k] ∧ Q (.int (if k then 1 else 0)) H
def rIntG : List V → Hp → VK → Prop := fun xs H Q => rInt1 xs H Q ∨ (∃ a n, xs = [.str a] ∧ PySem.intText? a = some n ∧ a.length ≤ 640 ∧ Q (.int n) H)
theorem call_intG : CallR X (.type "int") rIntG := by
  intro pins s σ H xs us Q I r h
  rcases h with h | h
  · exact call_int1 pins s σ H xs us Q I r h
  · exact call_int_str pins s σ H xs us Q I r h
def rIsiG (K : PySem.W.Frag) : List V → Hp → VK → Prop := fun xs H Q => rIsi K xs H Q ∨ rIsiT K xs H Q
theorem call_isiG : CallR X (.builtin "isinstance") (rIsiG X.K) := by
  intro pins s σ H xs us Q I r h
  rcases h with h | h
  · exact call_isi pins s σ H xs us Q I r h
  · exact call_isiT pins s σ H xs us Q I r h
/-! ### what is walked -/
def iG (K : PySem.W.Frag) (tl : TE) : TI := fun σ H R => tl σ H fun x H1 => (∃ a, x = .ref a ∧ (∃ xs, SqL K H1 a xs) ∧ R (Itl K a) H1) ∨ (∃ a, x = .ref a ∧ (∃ xs, SqT K H1 a xs) ∧ R (Itt K a) H1) ∨ (∃ z, x = .str z ∧ R (Its z) H1)
theorem pi_G {tg l : Expr} {tl : TE} (hl : PE X l tl) : PI X tg l (iG X.K tl) := by
  refine ⟨fun pins s σ H R I h => ?_⟩
  refine thn (hl.run pins s σ H _ I h) fun v s1 ⟨x, H1, I1, r1, q1⟩ => ?_
  rcases q1 with ⟨a, e, ⟨xs, hq⟩, q⟩ | ⟨a, e, ⟨xs, hq⟩, q⟩ | ⟨z, e, q⟩
  · subst e
    cases r1
    obtain ⟨its, rv, p, hz⟩ := I1.list hq
    refine wpAny_pyIter_list p.isList ?_
    refine ⟨s1.heap.objs.size, [s1.heap.objs.size], _, _, H1, rfl, I1.kept (t' := s1.toks) fun b o e => Heap.get?_push_of_some _ e, turn_list a _, ⟨_, Heap.get?_push_size _ rfl, rfl, rfl⟩, fun b hb => ?_, q⟩
    have e : b = s1.heap.objs.size := by simpa using hb
    subst e
    exact I1.fpOk (Nat.le_refl _) (I1.hok.fresh (Nat.le_refl _))
  · subst e
    cases r1
    obtain ⟨its, rv, p, hz⟩ := I1.tuple hq
    refine wpAny_pyIter_tuple (show s1.heap.IsTuple a its.toArray from p) ?_
    refine ⟨s1.heap.objs.size, [s1.heap.objs.size], _, _, H1, rfl, I1.kept (t' := s1.toks) fun b o e => Heap.get?_push_of_some _ e, turn_tuple a _, ⟨_, Heap.get?_push_size _ rfl, rfl, rfl⟩, fun b hb => ?_, q⟩
    have e : b = s1.heap.objs.size := by simpa using hb
    subst e
    exact I1.fpOk (Nat.le_refl _) (I1.hok.fresh (Nat.le_refl _))
  · subst e
    obtain ⟨t, rfl⟩ := r1
    cases ha : z.cps.all (· < 128)
    · exact wpAny_pyIter_wide ha (pi_one (tk := s1.toks) I1 _ (turn_str _ z t "str_iterator" (.inr rfl)) ⟨_, Heap.get?_push_size _ rfl, rfl, rfl⟩ q)
    · exact wpAny_pyIter_ascii ha (pi_one (tk := s1.toks) I1 _ (turn_str _ z t "str_ascii_iterator" (.inl rfl)) ⟨_, Heap.get?_push_size _ rfl, rfl, rfl⟩ q)
/-! ### f(k = v, ..) -/
variable {CX : CXT} {k : Nat} {f : Addr} {fd : FuncData} {ps ks : List Str} {sp : Sp} {E : XK} {x : Str} {p pos : Pos} {kws : List Keyword} {tk : TA} {g : List Value → List Value → List Value} {gV : List V → List V → List V}
def tCallKw (sp : Sp) (gV : List V → List V → List V) (E : XK) (tk : TA) : TE := fun σ H Q => tk σ H fun zs H2 => sp (gV [] zs) H2 Q E
theorem pe_callKw (F : FnOk X.prog X.w X.K X.mg X.base CX k f fd ps sp) (hr : Room k X.A) (hg : Gl X x) (hm : X.mg x = some (.ref f)) (hk : PySem.W.keepIn X.K (.ref f) = true) (hb : KBinds X.K fd ps ks g gV) (hx : Passes CX X E)
    (hkw : PK X kws tk) (hall : (backToKw pos (keywordEach kws X.env)).all (·.1.isSome) = true := by rfl) (hks : (backToKw pos (keywordEach kws X.env)).filterMap (·.1) = ks := by rfl)
    (hdb : (x == ("__debug__" : Str)) = false := by decide)
    (hpl : ((backTo pos (starEach [] X.env)).any (·.1) || (backToKw pos (keywordEach kws X.env)).any (·.1.isNone)) = false := by rfl) :
    PE X (.Call (.Name x p) [] kws pos) (tCallKw sp gV E tk) := by
  refine ⟨fun pins s σ H Q I h => ?_⟩
  refine wpAny_Call_Name_kw (ld_glob I hg hm ?_ hdb)
  refine PySem.W.callWith_KW0 (h₀ := X.base) I.ok.mod.kin hk hall ?_ hpl
  refine thn (hkw.run pos pins s σ H _ I h) fun ws s2 ⟨zs, H2, I2, rz, q2⟩ => ⟨I2.kIn, ?_⟩
  rw [hks]
  exact run_fnk (us := []) (vs := []) F hr hb hx I2 .nil rz q2
end
end NX
set_option maxHeartbeats 1000000
namespace NX
open PySem PySem.Spec PyProof.Rows L2
/-! ### heaps: all but one object are kept -/
def Kp (a : Addr) (H H' : Hp) : Prop := ∀ b o, b ≠ a → H b = some o → H' b = some o
theorem Kp.refl (a : Addr) (H : Hp) : Kp a H H := fun _ _ _ h => h
theorem Kp.trans {a : Addr} {H H1 H2 : Hp} (x : Kp a H H1) (y : Kp a H1 H2) : Kp a H H2 := fun b o n h => y b o n (x b o n h)
theorem Kp.of {a : Addr} {H H' : Hp} (s : Same H H') : Kp a H H' := fun b o _ h => s b o h
theorem Kp.new {a p : Addr} {H H' : Hp} {o : HO} (x : Kp a H H') (n : H' p = none) : Kp a H (upd H' p o) := fun b u nb h => by
  rw [upd_ne (ne_of_none (x b u nb h) n)]; exact x b u nb h
theorem Kp.put {a : Addr} {H H' : Hp} {o : HO} (x : Kp a H H') : Kp a H (upd H' a o) := fun b u nb h => by
  rw [upd_ne nb]; exact x b u nb h
/-- a change of what was not there at the beginning -/
theorem Kp.mut {a p : Addr} {H H' : Hp} {o : HO} (x : Kp a H H') (n : H p = none) : Kp a H (upd H' p o) := fun b u nb h => by
  rw [upd_ne (ne_of_none h n)]; exact x b u nb h
theorem Kp.seqL {K : PySem.W.Frag} {a b : Addr} {H H' : Hp} {xs : List V} (x : Kp a H H') (n : b ≠ a) (h : SqL K H b xs) : SqL K H' b xs := by
  rcases h with (h | ⟨o, h⟩) | h
  · exact .inl (.inl (x _ _ n h))
  · exact .inl (.inr ⟨o, x _ _ n h⟩)
  · exact .inr h
theorem Kp.seqT {K : PySem.W.Frag} {a b : Addr} {H H' : Hp} {xs : List V} (x : Kp a H H') (n : b ≠ a) (h : SqT K H b xs) : SqT K H' b xs := by
  rcases h with (h | ⟨o, h⟩) | h
  · exact .inl (.inl (x _ _ n h))
  · exact .inl (.inr ⟨o, x _ _ n h⟩)
  · exact .inr h
theorem Kp.free {a b : Addr} {H H' : Hp} (x : Kp a H H') (nb : b ≠ a) (n : H' b = none) : H b = none := by
  cases h : H b with
  | none => rfl
  | some o => rw [x b o nb h] at n; cases n
theorem _root_.L2.Same.new {p : Addr} {H H' : Hp} {o : HO} (x : Same H H') (n : H' p = none) : Same H (upd H' p o) := fun b u h => by
  rw [upd_ne (ne_of_none (x b u h) n)]; exact x b u h
theorem _root_.L2.Same.mut {p : Addr} {H H' : Hp} {o : HO} (x : Same H H') (n : H p = none) : Same H (upd H' p o) := fun b u h => by
  rw [upd_ne (ne_of_none h n)]; exact x b u h
theorem _root_.L2.Same.new1 {p : Addr} {H : Hp} {o : HO} (n : H p = none) : Same H (upd H p o) := Same.new (Same.refl H) n
theorem _root_.L2.Same.seqT {K : PySem.W.Frag} {H H' : Hp} {a : Addr} {xs : List V} (e : Same H H') (h : SqT K H a xs) : SqT K H' a xs := by
  rcases h with (h | ⟨o, h⟩) | h
  · exact .inl (.inl (e _ _ h))
  · exact .inl (.inr ⟨o, e _ _ h⟩)
  · exact .inr h

/-! ### readings, a step each -/
section
variable {K : PySem.W.Frag} {σ : L2.St} {H : Hp} {Q : VK} {QB : Bool → Hp → Prop} {QA : List V → Hp → Prop} {D : Ends} {ta tb tc te to ti : TE} {tt tu : TT} {sa sb : TS} {r : R2} {t : TA}
theorem r_seq (h : sa { D with nx := sb D } σ H) : tSeq sa sb D σ H := h
theorem r_asg {g : TG} (h : te σ H fun x H1 => g x σ H1 D.nx) : tAsg te g D σ H := h
theorem r_gname {i : Nat} {v : V} {QN : L2.St → Hp → Prop} (h : QN (σ.set i (some v)) H) : gName i v σ H QN := h
theorem r_gsub {v : V} {s : TSet} {QN : L2.St → Hp → Prop} (h : to σ H fun o H1 => ti σ H1 fun i H2 => s o i v H2 fun H3 => QN σ H3) : gSub to ti s v σ H QN := h
theorem r_par {i j : Nat} (h : t σ H fun vs H1 => ∃ v w, vs = [v, w] ∧ D.nx ((σ.set i (some v)).set j (some w)) H1) : tPar i j t D σ H := h
theorem r_par2 {v w : V} {P : V → V → Prop} (h : P v w) : ∃ v' w', [v, w] = [v', w'] ∧ P v' w' := ⟨v, w, rfl, h⟩
theorem r_ret (h : te σ H D.rt) : tRet te D σ H := h
theorem r_drop (h : te σ H fun _ H1 => D.nx σ H1) : tDrop te D σ H := h
theorem r_next (h : D.nx σ H) : tNext D σ H := h
theorem r_ifs (h : tt σ H fun b H1 => if b = true then sa D σ H1 else sb D σ H1) : tIfS tt sa sb D σ H := h
theorem r_var {i : Nat} {v : V} (e : σ[i]? = some (some v)) (h : Q v H) : tVar i σ H Q := ⟨v, e, h⟩
theorem r_c {v : V} (h : Q v H) : tC v σ H Q := h
theorem r_op (h : ta σ H fun x H1 => tb σ H1 fun y H2 => r x y H2 Q) : tOp r ta tb σ H Q := h
theorem r_un {f : V → Hp → VK → Prop} (h : ta σ H fun x H1 => f x H1 Q) : tUn f ta σ H Q := h
theorem r_neg {g : Int → V} {i : Int} (h : Q (g i) H) : rU g (.int i) H Q := ⟨i, rfl, h⟩
theorem r_tif (h : tt σ H fun c H1 => if c = true then ta σ H1 Q else tb σ H1 Q) : tIf tt ta tb σ H Q := h
theorem r_cb {f : List V → Hp → VK → Prop} (h : t σ H fun vs H1 => f vs H1 Q) : tCB f t σ H Q := h
theorem r_nil (h : QA [] H) : tNil σ H QA := h
theorem r_cons (h : ta σ H fun x H1 => t σ H1 fun xs H2 => QA (x :: xs) H2) : tCons ta t σ H QA := h
theorem r_call {sp : Sp} {dvs : List V} {E : XK} (h : t σ H fun vs H1 => sp (vs ++ dvs) H1 Q E) : tCall sp dvs E t σ H Q := h
theorem r_callkw {sp : Sp} {gV : List V → List V → List V} {E : XK} (h : t σ H fun zs H2 => sp (gV [] zs) H2 Q E) : tCallKw sp gV E t σ H Q := h
theorem r_bm0 {ty : String} {f : V → List V → Hp → VK → Prop} (h : to σ H fun x H1 => tyV K ty x H1 ∧ f x [] H1 Q) : tBM0 K ty f to σ H Q := h
theorem r_bm {ty : String} {f : V → List V → Hp → VK → Prop} (h : to σ H fun x H1 => tyV K ty x H1 ∧ t σ H1 fun xs H2 => f x xs H2 Q) : tBM K ty f to t σ H Q := h
theorem r_m1 {f : V → List V → Hp → VK → Prop} (h : to σ H fun x H1 => (∃ a, x = .str a) ∧ te σ H1 fun y H2 => f x [y] H2 Q) : tM1 f to te σ H Q := h
theorem r_isS {a : Str} {P : Prop} (h : P) : (∃ b, V.str a = .str b) ∧ P := ⟨⟨a, rfl⟩, h⟩
theorem r_tyS {a : Str} {P : Prop} (h : P) : tyV K "str" (.str a) H ∧ P := ⟨rfl, h⟩
theorem r_tyL {p : Addr} {xs : List V} {P : Prop} (e : H p = some (.lst xs)) (h : P) : tyV K "list" (.ref p) H ∧ P := ⟨.inl ⟨rfl, xs, .inl (.inl e)⟩, h⟩
theorem r_sl {f : V → Option Int → Option Int → Hp → VK → Prop} {tl th : TO} (h : te σ H fun x H1 => tl σ H1 fun l H2 => th σ H2 fun u H3 => f x l u H3 Q) : tSl f te tl th σ H Q := h
theorem r_lst (h : t σ H fun xs H1 => xs.length ≤ sizeLine ∧ ∀ p, H1 p = none → Q (.ref p) (upd H1 p (.lst xs))) : tLst t σ H Q := h
theorem r_tup (h : t σ H fun xs H1 => xs.length ≤ sizeLine ∧ ∀ p, H1 p = none → Q (.ref p) (upd H1 p (.tup xs))) : tTup t σ H Q := h
theorem small_len {xs : List V} {n : Nat} (h : xs.length ≤ n) (hn : n ≤ 100 := by decide) : xs.length ≤ sizeLine := by rw [sizeLine_eq]; omega
/-- tests -/
theorem r_test (h : te σ H fun x H' => ∃ k, x = .bl k ∧ QB k H') : tTest te σ H QB := h
theorem r_bl {b : Bool} {P : Bool → Prop} (h : P b) : ∃ k, V.bl b = .bl k ∧ P k := ⟨b, rfl, h⟩
theorem r_and (h : tt σ H fun c H1 => if c = true then tu σ H1 QB else QB false H1) : tAnd tt tu σ H QB := h
theorem r_or (h : tt σ H fun c H1 => if c = true then QB true H1 else tu σ H1 QB) : tOr tt tu σ H QB := h
theorem r_not (h : tt σ H fun c H1 => QB (!c) H1) : tNot tt σ H QB := h
theorem r_truB {b : Bool} {P : Bool → Prop} (h : P b) : ∃ k, TruV K (.bl b) H k ∧ P k := ⟨b, rfl, h⟩
theorem r_truI {i : Int} {P : Bool → Prop} (h : P (i != 0)) : ∃ k, TruV K (.int i) H k ∧ P k := ⟨_, rfl, h⟩
theorem r_truS {l : List Nat} {P : Bool → Prop} (hl : l.length ≤ 16777216) (h : P (!l.isEmpty)) : ∃ k, TruV K (T l) H k ∧ P k := by
  refine ⟨_, ⟨by rw [mkS_len, sizeLine_eq]; exact hl, ?_⟩, h⟩
  rw [mkS_len]; cases l with
  | nil => rfl
  | cons a r =>
    have h0 : ((r.length + 1 : Nat) : Int) ≠ 0 := by omega
    show (!(a :: r).isEmpty) = (((r.length + 1 : Nat) : Int) != 0)
    rw [bne_iff_ne.mpr h0]; rfl
theorem r_andT (h : ta σ H fun x H1 => ∃ k, TruV K x H1 k ∧ if k = true then tb σ H1 Q else Q x H1) : tAndT K ta tb σ H Q := h
theorem r_orT (h : ta σ H fun x H1 => ∃ k, TruV K x H1 k ∧ if k = true then Q x H1 else tb σ H1 Q) : tOrT K ta tb σ H Q := h
theorem r_notT (h : ta σ H fun x H1 => ∃ k, TruV K x H1 k ∧ Q (.bl (!k)) H1) : tNotT K ta σ H Q := h
theorem r_if {c : Bool} {A B : Prop} (h1 : c = true → A) (h2 : c = false → B) : if c = true then A else B := by
  cases c with
  | true => exact h1 rfl
  | false => rw [if_neg Bool.false_ne_true]; exact h2 rfl
theorem r_ifd {c : Prop} [Decidable c] {A B : Prop} (h1 : c → A) (h2 : ¬ c → B) : if decide c = true then A else B := by
  by_cases h : c
  · rw [decide_eq_true h]; exact h1 h
  · rw [decide_eq_false h, if_neg Bool.false_ne_true]; exact h2 h
theorem r_ifnd {c : Prop} [Decidable c] {A B : Prop} (h1 : ¬ c → A) (h2 : c → B) : if (!decide c) = true then A else B := by
  by_cases h : c
  · rw [decide_eq_true h]; exact h2 h
  · rw [decide_eq_false h]; exact h1 h
/-- operators -/
theorem r_I0 {g : Int → Int → V} {i j : Int} (h : Q (g i j) H) : rI0 g (.int i) (.int j) H Q := ⟨i, j, rfl, rfl, h⟩
theorem r_I {C : Int → Int → Prop} {g : Int → Int → V} {i j : Int} (hc : C i j) (h : Q (g i j) H) : rI C g (.int i) (.int j) H Q := ⟨i, j, rfl, rfl, hc, h⟩
theorem r_addI {i j : Int} (h : Q (.int (i + j)) H) : rAddG K (.int i) (.int j) H Q := h
theorem r_addS {a b : List Nat} (hl : a.length + b.length ≤ 16777216) (h : Q (T (a ++ b)) H) : rAddG K (T a) (T b) H Q := by
  refine ⟨by rw [mkS_len, mkS_len, sizeLine_eq]; exact hl, ?_⟩
  rw [mkS_add]; exact h
theorem r_addL {p q : Addr} {xs ys : List V} (h1 : H p = some (.lst xs)) (h2 : H q = some (.lst ys)) (hl : xs.length + ys.length ≤ 16777216) (h : ∀ d, H d = none → Q (.ref d) (upd H d (.lst (xs ++ ys)))) : rAddG K (.ref p) (.ref q) H Q :=
  .inl ⟨xs, ys, h1, h2, by rw [sizeLine_eq]; exact hl, h⟩
theorem r_mulI {i j : Int} (hc : CMul i j) (h : Q (.int (i * j)) H) : rMulG (.int i) (.int j) H Q := ⟨hc, h⟩
theorem r_mulS {l : List Nat} {n : Int} (hc : CMulS l n) (h : Q (T (repL l n.toNat)) H) : rMulG (T l) (.int n) H Q := ⟨hc, h⟩
theorem r_mulL {p : Addr} {xs : List V} {k : Int} (h1 : H p = some (.lst xs)) (hk : -(2 ^ 62) < k ∧ k < 2 ^ 62) (hl : xs.length * k.toNat ≤ 16777216) (h : ∀ d, H d = none → Q (.ref d) (upd H d (.lst (List.replicate k.toNat xs).flatten))) : rMulG (.ref p) (.int k) H Q :=
  ⟨xs, h1, hk, by rw [sizeLine_eq]; exact hl, h⟩
theorem r_eqS {a b : List Nat} (h : Q (.bl (decide (a = b))) H) : rEqG K (T a) (T b) H Q := .inl ⟨rfl, by rw [T_dec]; exact h⟩
theorem r_neS {a b : List Nat} (h : Q (.bl (!decide (a = b))) H) : rNeG K (T a) (T b) H Q := .inl ⟨rfl, by rw [T_dec]; exact h⟩
theorem r_eqI {a b : Int} (h : Q (.bl (decide (a = b))) H) : rEqG K (.int a) (.int b) H Q := .inl ⟨rfl, by rw [dec_int, Bool.beq_eq_decide_eq]; exact h⟩
theorem r_neI {a b : Int} (h : Q (.bl (!decide (a = b))) H) : rNeG K (.int a) (.int b) H Q := .inl ⟨rfl, by rw [dec_int, Bool.beq_eq_decide_eq]; exact h⟩
theorem r_eqB {a b : Bool} (h : Q (.bl (decide (a = b))) H) : rEqG K (.bl a) (.bl b) H Q := .inl ⟨rfl, by rw [dec_bl, Bool.beq_eq_decide_eq]; exact h⟩
theorem r_neB {a b : Bool} (h : Q (.bl (!decide (a = b))) H) : rNeG K (.bl a) (.bl b) H Q := .inl ⟨rfl, by rw [dec_bl, Bool.beq_eq_decide_eq]; exact h⟩
theorem r_in1 {c : Nat} {l : List Nat} (h : Q (.bl (decide (c ∈ l))) H) : rInG K (T [c]) (T l) H Q := .inl ⟨mkS [c], mkS l, rfl, rfl, by rw [subS_one]; exact h⟩
theorem r_notin1 {c : Nat} {l : List Nat} (h : Q (.bl (!decide (c ∈ l))) H) : rNotInG K (T [c]) (T l) H Q := .inl ⟨mkS [c], mkS l, rfl, rfl, by rw [subS_one]; exact h⟩
theorem r_ixL {p : Addr} {xs : List V} {i : Int} {v : V} (e : SqL K H p xs) (ha : atI xs i = some v) (h : Q v H) : rIx K (.ref p) (.int i) H Q := .inl ⟨p, xs, i, v, rfl, rfl, e, ha, h⟩
theorem r_ixT {p : Addr} {xs : List V} {i : Int} {v : V} (e : SqT K H p xs) (ha : atI xs i = some v) (h : Q v H) : rIx K (.ref p) (.int i) H Q := .inr (.inl ⟨p, xs, i, v, rfl, rfl, e, ha, h⟩)
theorem r_ixS {l : List Nat} {i : Int} {c : Nat} (hl : l.length ≤ 16777216) (ha : atI l i = some c) (h : Q (T [c]) H) : rIx K (T l) (.int i) H Q := .inr (.inr ⟨mkS l, i, c, rfl, rfl, by rw [mkS_len, sizeLine_eq]; exact hl, ha, h⟩)
theorem r_slS {l : List Nat} {lo hi : Option Int} (hl : l.length ≤ 16777216) (h : Q (T (cutL l lo hi)) H) : rSlG K (T l) lo hi H Q := .inl ⟨mkS l, rfl, by rw [mkS_len, sizeLine_eq]; exact hl, by rw [cutS_mk]; exact h⟩
theorem r_slL {p : Addr} {xs : List V} {lo hi : Option Int} (e : SqL K H p xs) (h : ∀ q, H q = none → Q (.ref q) (upd H q (.lst (cutV xs lo hi)))) : rSlG K (.ref p) lo hi H Q := .inr (.inl ⟨p, xs, rfl, e, h⟩)
theorem r_revS {l : List Nat} (hl : l.length ≤ 16777216) (h : Q (T l.reverse) H) : RevB K Q (T l) H := .inl ⟨l, rfl, hl, h⟩
theorem r_revL {p : Addr} {xs : List V} (e : SqL K H p xs) (h : ∀ d, H d = none → Q (.ref d) (upd H d (.lst xs.reverse))) : RevB K Q (.ref p) H := .inr ⟨p, xs, rfl, e, h⟩
theorem r_rev (h : te σ H (RevB K Q)) : tRevS K te σ H Q := h
/-- calls by values -/
theorem r_lenS {l : List Nat} (hl : l.length ≤ 16777216) {P : Nat → Prop} (h : P l.length) : ∃ x n, [T l] = [x] ∧ LenV K x H n ∧ P n := ⟨T l, l.length, rfl, ⟨by rw [mkS_len, sizeLine_eq]; exact hl, (mkS_len l).symm⟩, h⟩
theorem r_lenL {p : Addr} {xs : List V} (e : SqL K H p xs) {P : Nat → Prop} (h : P xs.length) : ∃ x n, [V.ref p] = [x] ∧ LenV K x H n ∧ P n := ⟨.ref p, xs.length, rfl, .inl ⟨xs, e, rfl⟩, h⟩
theorem r_lenT {p : Addr} {xs : List V} (e : SqT K H p xs) {P : Nat → Prop} (h : P xs.length) : ∃ x n, [V.ref p] = [x] ∧ LenV K x H n ∧ P n := ⟨.ref p, xs.length, rfl, .inr ⟨xs, e, rfl⟩, h⟩
theorem r_int {i : Int} (h : Q (.int i) H) : rIntG [.int i] H Q := .inl (.inl ⟨i, rfl, h⟩)
theorem r_intB {b : Bool} (h : Q (.int (if b then 1 else 0)) H) : rIntG [.bl b] H Q := .inl (.inr ⟨b, rfl, h⟩)
theorem r_c1 {i : Int} {P : Int → Prop} (h : P i) : ∃ i', [V.int i] = [.int i'] ∧ P i' := ⟨i, rfl, h⟩
theorem r_c2 {i j : Int} {P : Int → Int → Prop} (h : P i j) : ∃ i' j', [V.int i, V.int j] = [.int i', .int j'] ∧ P i' j' := ⟨i, j, rfl, h⟩
theorem r_map {f : Nat → Nat} {l : List Nat} (ha : Asc l) (hl : l.length ≤ 5000000) (h : Q (T (l.map f)) H) : rMap f (T l) [] H Q := ⟨l, rfl, rfl, ⟨ha, hl⟩, h⟩
theorem r_setL {p : Addr} {xs : List V} {i : Int} {j : Nat} {v : V} {QH : Hp → Prop} (e : H p = some (.lst xs)) (hj : ixN xs.length i = some j) (h : QH (upd H p (.lst (xs.set j v)))) : rSetL (.ref p) (.int i) v H QH := ⟨p, xs, i, j, rfl, rfl, e, hj, h⟩
theorem r_append {p : Addr} {xs : List V} {v : V} (e : H p = some (.lst xs)) (hl : xs.length < 16777216) (h : Q .non (upd H p (.lst (xs ++ [v])))) : rAppend (.ref p) [v] H Q := ⟨p, xs, v, rfl, rfl, e, by rw [sizeLine_eq]; exact hl, h⟩
theorem r_pop {p : Addr} {xs : List V} {v : V} (e : H p = some (.lst xs)) (hv : xs[xs.length - 1]? = some v) (h : Q v (upd H p (.lst xs.dropLast))) : rPop (.ref p) [] H Q := ⟨p, xs, v, rfl, rfl, e, hv, h⟩
theorem r_poN {QO : Option Int → Hp → Prop} (h : QO none H) : tNoPart σ H QO := h
theorem r_poS {QO : Option Int → Hp → Prop} (h : te σ H fun x H1 => ∃ i, x = .int i ∧ QO (some i) H1) : tPart te σ H QO := h
theorem r_int1 {i : Int} {P : Int → Prop} (h : P i) : ∃ i', V.int i = .int i' ∧ P i' := ⟨i, rfl, h⟩
/-- sep.join(parts) -/
abbrev rJoin (K : PySem.W.Frag) : V → List V → Hp → VK → Prop := fun x xs H Q => ∃ a p, ∃ ys : List Str, x = .str a ∧ xs = [.ref p] ∧ (SqL K H p (ys.map V.str) ∨ SqT K H p (ys.map V.str)) ∧ (ys.map (·.length)).sum + ys.length * a.length ≤ 16777216 ∧ Q (.str (Txt.join a ys)) H
theorem join_mk (a : List Nat) (ls : List (List Nat)) : Txt.join (mkS a) (ls.map mkS) = mkS (TL.joinL a ls) := by
  rw [TL.join_eq]
  apply TL.ext_tl
  rw [TL.tl_join]
  show TL.joinL a ((ls.map mkS).map TL.tl) = _
  rw [List.map_map]
  have : ls.map (TL.tl ∘ mkS) = ls := by
    conv => rhs; rw [← List.map_id ls]
    exact List.map_congr_left fun x _ => rfl
  rw [this]; rfl
theorem joinL_nil : ∀ ls : List (List Nat), TL.joinL [] ls = ls.flatten
  | [] => rfl
  | [p] => by show p = [p].flatten; simp
  | p :: q :: r => by
    show p ++ ([] ++ TL.joinL [] (q :: r)) = _
    rw [joinL_nil (q :: r)]; simp
theorem map_T (ls : List (List Nat)) : (ls.map mkS).map V.str = ls.map T := by rw [List.map_map]; rfl
theorem sum_len (ls : List (List Nat)) : ((ls.map mkS).map (·.length)).sum = ls.flatten.length := by
  rw [List.map_map, List.length_flatten]
  have : ls.map ((fun x : Str => x.length) ∘ mkS) = ls.map List.length := List.map_congr_left fun x _ => mkS_len x
  rw [this]
theorem r_join {a : List Nat} {p : Addr} {ls : List (List Nat)} (e : SqL K H p (ls.map T)) (hl : ls.flatten.length + ls.length * a.length ≤ 16777216) (h : Q (T (TL.joinL a ls)) H) : rJoin K (T a) [.ref p] H Q := by
  refine ⟨mkS a, p, ls.map mkS, rfl, rfl, .inl (by rw [map_T]; exact e), ?_, by rw [join_mk]; exact h⟩
  rw [sum_len, List.length_map, mkS_len]; exact hl
theorem r_join0 {p : Addr} {ls : List (List Nat)} (e : SqL K H p (ls.map T)) (hl : ls.flatten.length ≤ 16777216) (h : Q (T ls.flatten) H) : rJoin K (T []) [.ref p] H Q :=
  r_join e (by simpa using hl) (by rw [joinL_nil]; exact h)
/-- all(list of bools) -/
theorem r_all {p : Addr} {bs : List Bool} (e : SqL K H p (bs.map V.bl)) (h : Q (.bl (bs.all id)) H) : rAll K [.ref p] H Q := ⟨p, bs, rfl, e, h⟩
theorem r_any {p : Addr} {bs : List Bool} (e : SqL K H p (bs.map V.bl)) (h : Q (.bl (bs.any id)) H) : rAny K [.ref p] H Q := ⟨p, bs, rfl, e, h⟩
/-- isinstance(text, str) and the like -/
theorem r_isiS {l : List Nat} (h : Q (.bl true) H) : rIsiG K [T l, .ty "str"] H Q := .inl ⟨T l, .ty "str", _, _, true, rfl, .ty "str", .base (.str _), by rfl, h⟩

/-! ### loops: what is walked is reckoned first -/
def ForJ (g : TG) (tb : TS) (D : Ends) (σ : L2.St) (J : It) (H1 : Hp) : Prop := ∃ W : Nat → Nat → L2.St → Hp → Prop, (∃ m, W 0 m σ H1) ∧ ∀ i m σ H, W i m σ H →
  (J.stop i H ∧ D.nx σ H) ∨ (J.go i H ∧ ∃ N : L2.St → Hp → Prop, (∀ σ' H', N σ' H' → ∃ m', m' < m ∧ W (i + 1) m' σ' H') ∧ ∀ x H', J.yld i H x H' → g x σ H' fun σ2 H2 => tb { D with nx := N, ct := N, bk := D.nx } σ2 H2)
def LcJ (g : TG) (tt : TT) (te : TE) (vs : List Nat) (σ : L2.St) (Q : VK) (J : It) (H1 : Hp) : Prop := ∀ D, H1 D = none → ∃ W : Nat → Nat → Hp → Prop, (∃ m, W 0 m (upd H1 D (.lst []))) ∧ ∀ i m H, W i m H →
  (J.stop i H ∧ Q (.ref D) H) ∨ (J.go i H ∧ ∃ Nx : Hp → Prop, (∀ H', Nx H' → ∃ m', m' < m ∧ W (i + 1) m' H') ∧ ∀ x H', J.yld i H x H' → g x (wipe σ vs) H' fun σ2 H2 => wipe σ2 vs = wipe σ vs ∧ tt σ2 H2 fun b H3 =>
    if b = true then te σ2 H3 fun y H4 => ∃ acc, H4 D = some (.lst acc) ∧ acc.length < sizeLine ∧ Nx (upd H4 D (.lst (acc ++ [y]))) else Nx H3)
def GoG (K : PySem.W.Frag) (R : It → Hp → Prop) (x : V) (H1 : Hp) : Prop := (∃ a, x = .ref a ∧ (∃ xs, SqL K H1 a xs) ∧ R (Itl K a) H1) ∨ (∃ a, x = .ref a ∧ (∃ xs, SqT K H1 a xs) ∧ R (Itt K a) H1) ∨ (∃ z, x = .str z ∧ R (Its z) H1)
def GoR1 (R : It → Hp → Prop) (vs : List V) (H1 : Hp) : Prop := ∃ j : Int, vs = [.int j] ∧ -(2 ^ 62) ≤ j ∧ j < 2 ^ 62 ∧ R (Itr 0 j.toNat) H1
def GoR2 (R : It → Hp → Prop) (vs : List V) (H1 : Hp) : Prop := ∃ i j : Int, vs = [.int i, .int j] ∧ (-(2 ^ 62) ≤ i ∧ i < 2 ^ 62 ∧ -(2 ^ 62) ≤ j ∧ j < 2 ^ 62) ∧ R (Itr i (j - i).toNat) H1
theorem r_for {wi : TI} {g : TG} {tb : TS} (h : wi σ H (ForJ g tb D σ)) : tFor wi g tb D σ H := h
theorem r_lc {wi : TI} {g : TG} {te : TE} {vs : List Nat} (h : wi σ H (LcJ g tt te vs σ Q)) : tLc wi g tt te vs σ H Q := h
theorem r_iG {R : It → Hp → Prop} (h : te σ H (GoG K R)) : iG K te σ H R := h
theorem r_iR1 {R : It → Hp → Prop} (h : t σ H (GoR1 R)) : iRng1 t σ H R := h
theorem r_iR2 {R : It → Hp → Prop} (h : t σ H (GoR2 R)) : iRng2 t σ H R := h
theorem r_goS {R : It → Hp → Prop} {l : List Nat} (h : R (Its (mkS l)) H) : GoG K R (T l) H := .inr (.inr ⟨_, rfl, h⟩)
theorem r_goL {R : It → Hp → Prop} {p : Addr} {xs : List V} (e : SqL K H p xs) (h : R (Itl K p) H) : GoG K R (.ref p) H := .inl ⟨p, rfl, ⟨xs, e⟩, h⟩
theorem r_goT {R : It → Hp → Prop} {p : Addr} {xs : List V} (e : SqT K H p xs) (h : R (Itt K p) H) : GoG K R (.ref p) H := .inr (.inl ⟨p, rfl, ⟨xs, e⟩, h⟩)
theorem r_goR1 {R : It → Hp → Prop} {j : Int} (hj : -(2 ^ 62) ≤ j ∧ j < 2 ^ 62) (h : R (Itr 0 j.toNat) H) : GoR1 R [.int j] H := ⟨j, rfl, hj.1, hj.2, h⟩
theorem r_goR2 {R : It → Hp → Prop} {i j : Int} (hj : -(2 ^ 62) ≤ i ∧ i < 2 ^ 62 ∧ -(2 ^ 62) ≤ j ∧ j < 2 ^ 62) (h : R (Itr i (j - i).toNat) H) : GoR2 R [.int i, .int j] H := ⟨i, j, rfl, hj, h⟩
/-- an iterator over items that are known: item i is x, the heap as it was -/
def Known (J : It) (n : Nat) (f : Nat → V) (G : Hp → Prop) : Prop := ∀ i H, G H → (i < n → J.go i H ∧ ∀ x H', J.yld i H x H' → H' = H ∧ x = f i) ∧ (n ≤ i → J.stop i H)
theorem known_str (l : List Nat) : Known (Its (mkS l)) l.length (fun i => T [l.getD i 0]) fun _ => True := by
  intro i H _
  have hsz : (mkS l).cps.size = l.length := mkS_len l
  refine ⟨fun hi => ⟨by show i < (mkS l).cps.size; omega, fun x H' y => ?_⟩, fun hi => by show (mkS l).cps.size ≤ i; omega⟩
  obtain ⟨e, c, hc, ex⟩ := y
  have hc' : l[i]? = some c := by simpa [mkS] using hc
  refine ⟨e, ?_⟩
  show x = T [l.getD i 0]
  rw [ex, List.getD_eq_getElem?_getD, hc']; rfl
theorem known_list {p : Addr} (xs : List V) : Known (Itl K p) xs.length (fun i => xs.getD i .non) fun H => SqL K H p xs := by
  intro i H q
  refine ⟨fun hi => ⟨⟨xs, xs[i], q, by simp [hi]⟩, fun x H' y => ?_⟩, fun hi => ⟨xs, q, hi⟩⟩
  obtain ⟨e, y⟩ := y
  have := y xs q
  refine ⟨e, ?_⟩
  show x = xs.getD i V.non
  rw [List.getD_eq_getElem?_getD, this]; rfl
theorem known_tup {p : Addr} (xs : List V) : Known (Itt K p) xs.length (fun i => xs.getD i .non) fun H => SqT K H p xs := by
  intro i H q
  refine ⟨fun hi => ⟨⟨xs, xs[i], q, by simp [hi]⟩, fun x H' y => ?_⟩, fun hi => ⟨xs, q, hi⟩⟩
  obtain ⟨e, y⟩ := y
  have := y xs q
  refine ⟨e, ?_⟩
  show x = xs.getD i V.non
  rw [List.getD_eq_getElem?_getD, this]; rfl
theorem known_rng (lo : Int) (n : Nat) : Known (Itr lo n) n (fun i => .int (lo + i)) fun _ => True := by
  intro i H _
  exact ⟨fun hi => ⟨hi, fun x H' y => y⟩, fun hi => hi⟩
/-- a for loop over known items -/
theorem for_known {J : It} {n : Nat} {f : Nat → V} {G : Hp → Prop} {g : TG} {tb : TS} (kn : Known J n f G) (Pv : Nat → L2.St → Hp → Prop) (h0 : Pv 0 σ H) (hg : ∀ i σ H, i ≤ n → Pv i σ H → G H)
    (hs : ∀ i σ H, i < n → Pv i σ H → g (f i) σ H fun σ2 H2 => tb { D with nx := Pv (i + 1), ct := Pv (i + 1), bk := D.nx } σ2 H2) (hd : ∀ σ H, Pv n σ H → D.nx σ H) : ForJ g tb D σ J H := by
  refine ⟨fun i m σ H => m = n - i ∧ i ≤ n ∧ Pv i σ H, ⟨_, rfl, Nat.zero_le _, h0⟩, ?_⟩
  rintro i m σ H ⟨rfl, hi, p⟩
  obtain ⟨k1, k2⟩ := kn i H (hg i σ H hi p)
  by_cases hlt : i < n
  · obtain ⟨go, y⟩ := k1 hlt
    refine .inr ⟨go, Pv (i + 1), fun σ' H' p' => ⟨n - (i + 1), by omega, rfl, hlt, p'⟩, fun x H' yy => ?_⟩
    obtain ⟨e1, e2⟩ := y x H' yy
    subst e1 e2
    exact hs i σ _ hlt p
  · have e : i = n := by omega
    subst e
    exact .inl ⟨k2 (Nat.le_refl _), hd σ H p⟩
/-- a comprehension over known items that stay: f' tells what is made of item i (none: left out); the heap may grow -/
theorem lc_known {J : It} {n : Nat} {f : Nat → V} {G : Hp → Prop} {g : TG} {te : TE} {vs : List Nat} (kn : Known J n f G) (mk : Nat → Option V) (hn : n ≤ 16777216) (hG : ∀ H', Same H H' → G H')
    (hs : ∀ i H2 (QT : Option V → Hp → Prop), i < n → Same H H2 → (∀ H3, Same H2 H3 → QT (mk i) H3) →
      g (f i) (wipe σ vs) H2 fun σ2 H3 => wipe σ2 vs = wipe σ vs ∧ tt σ2 H3 fun b H4 => if b = true then te σ2 H4 fun y H5 => QT (some y) H5 else QT none H4)
    (hd : ∀ D H', H D = none → Same H H' → H' D = some (.lst ((List.range n).filterMap mk)) → Q (.ref D) H') : LcJ g tt te vs σ Q J H := by
  intro D nD
  refine ⟨fun i m H2 => m = n - i ∧ i ≤ n ∧ Same H H2 ∧ H2 D = some (.lst ((List.range i).filterMap mk)), ⟨_, rfl, Nat.zero_le _, Same.new1 nD, by rw [upd_same]; rfl⟩, ?_⟩
  rintro i m H2 ⟨rfl, hi, sm, eD⟩
  obtain ⟨k1, k2⟩ := kn i H2 (hG _ sm)
  by_cases hlt : i < n
  · obtain ⟨go, y⟩ := k1 hlt
    refine .inr ⟨go, fun H3 => Same H H3 ∧ H3 D = some (.lst ((List.range (i + 1)).filterMap mk)), fun H3 p => ⟨n - (i + 1), by omega, rfl, hlt, p⟩, fun x H' yy => ?_⟩
    obtain ⟨e1, e2⟩ := y x H' yy
    subst e1 e2
    refine hs i H' (fun o H4 => match o with
      | some y => ∃ acc, H4 D = some (.lst acc) ∧ acc.length < sizeLine ∧ Same H (upd H4 D (.lst (acc ++ [y]))) ∧ (upd H4 D (.lst (acc ++ [y]))) D = some (.lst ((List.range (i + 1)).filterMap mk))
      | none => Same H H4 ∧ H4 D = some (.lst ((List.range (i + 1)).filterMap mk))) hlt sm (fun H3 s3 => ?_)
    have hr : (List.range (i + 1)).filterMap mk = (List.range i).filterMap mk ++ (mk i).toList := by
      rw [List.range_succ, List.filterMap_append]
      congr 1
    cases e : mk i with
    | none => exact ⟨sm.trans s3, by rw [hr, e]; simpa using s3 _ _ eD⟩
    | some y =>
      refine ⟨_, s3 _ _ eD, ?_, Same.mut (sm.trans s3) nD, ?_⟩
      · have := List.length_filterMap_le mk (List.range i)
        rw [List.length_range] at this
        rw [sizeLine_eq]; omega
      · rw [upd_same, hr, e]; rfl
  · have e : i = n := by omega
    subst e
    exact .inl ⟨k2 (Nat.le_refl _), hd D H2 nD sm eD⟩
/-- a comprehension with an invariant of one's own (Pv D i H: what is so behind i items) -/
theorem lc_inv {J : It} {n : Nat} {f : Nat → V} {G : Hp → Prop} {g : TG} {te : TE} {vs : List Nat} (kn : Known J n f G) (Pv : Addr → Nat → Hp → Prop) (h0 : ∀ D, H D = none → Pv D 0 (upd H D (.lst []))) (hg : ∀ D i H, i ≤ n → Pv D i H → G H)
    (hs : ∀ D i H, i < n → Pv D i H → g (f i) (wipe σ vs) H fun σ2 H2 => wipe σ2 vs = wipe σ vs ∧ tt σ2 H2 fun b H3 =>
      if b = true then te σ2 H3 fun y H4 => ∃ acc, H4 D = some (.lst acc) ∧ acc.length < sizeLine ∧ Pv D (i + 1) (upd H4 D (.lst (acc ++ [y]))) else Pv D (i + 1) H3)
    (hd : ∀ D H, Pv D n H → Q (.ref D) H) : LcJ g tt te vs σ Q J H := by
  intro D nD
  refine ⟨fun i m H => m = n - i ∧ i ≤ n ∧ Pv D i H, ⟨_, rfl, Nat.zero_le _, h0 D nD⟩, ?_⟩
  rintro i m H2 ⟨rfl, hi, p⟩
  obtain ⟨k1, k2⟩ := kn i H2 (hg D i H2 hi p)
  by_cases hlt : i < n
  · obtain ⟨go, y⟩ := k1 hlt
    refine .inr ⟨go, Pv D (i + 1), fun H3 p => ⟨n - (i + 1), by omega, rfl, hlt, p⟩, fun x H' yy => ?_⟩
    obtain ⟨e1, e2⟩ := y x H' yy
    subst e1 e2
    exact hs D i H' hlt p
  · have e : i = n := by omega
    subst e
    exact .inl ⟨k2 (Nat.le_refl _), hd D H2 p⟩
theorem fm_range {α : Type} (l : List α) (f : α → V) (d : α) : (List.range l.length).filterMap (fun i => some (f (l.getD i d))) = l.map f := by
  rw [List.filterMap_eq_map']
  apply List.ext_getElem?
  intro i
  rw [List.getElem?_map, List.getElem?_map]
  by_cases h : i < l.length
  · rw [List.getElem?_range h]
    simp [h]
  · rw [List.getElem?_eq_none (by simpa using h), List.getElem?_eq_none (by simpa using h)]; rfl
end
end NX
namespace NX
open PySem PySem.Spec PyProof.Rows L2
theorem cxK {CX : CXT} {P : Program} {w : World} {K : PySem.W.Frag} {mg : Str → Option Value} {base : Heap} {N : List Str} {qual : Str} {scope : Scope} {f : Addr} {cd : Value} {A : Around} {outer : List Env} {s : Shared} {H : Hp} {E : XK} {xe : Value → Shared → Prop} :
    ((cxOf CX P w K mg base N qual scope f cd A outer s H E).wish xe).K = K := rfl
end NX
namespace NX
open PySem PySem.Spec PyProof.Rows L2
section
variable {K : PySem.W.Frag} {σ : L2.St} {H : Hp} {Q : VK} {D : Ends} {te : TE} {ts : TS} {tt : TT}
/-- what is wanted is put behind a word of one's own -/
theorem r_gen (R : V → Hp → Prop) (k : ∀ v H', R v H' → Q v H') (w : ∀ Q' : VK, (∀ v H', R v H' → Q' v H') → te σ H Q') : te σ H Q := w Q k
theorem r_genT {Q : Bool → Hp → Prop} (R : Bool → Hp → Prop) (k : ∀ b H', R b H' → Q b H') (w : ∀ Q' : Bool → Hp → Prop, (∀ v H', R v H' → Q' v H') → tt σ H Q') : tt σ H Q := w Q k
theorem r_genS (N : L2.St → Hp → Prop) (k : ∀ σ' H', N σ' H' → D.nx σ' H') (w : ∀ nx' : L2.St → Hp → Prop, (∀ σ' H', N σ' H' → nx' σ' H') → ts { D with nx := nx' } σ H) : ts D σ H := w D.nx k
theorem r_pw {a b c : Int} (k : Nat) (h0 : 0 ≤ b) (h1 : a.natAbs < 2 ^ k) (h2 : (k : Int) * b ≤ 2 ^ 27) (e : a ^ b.toNat = c) (h : Q (.int c) H) : rI CPowW (fun i j => .int (i ^ j.toNat)) (.int a) (.int b) H Q :=
  ⟨a, b, rfl, rfl, cpow_of h0 h1 h2, by show Q (.int (a ^ b.toNat)) H; rw [e]; exact h⟩
theorem r_p9 (h : Q (.int 1000000000) H) : rI CPowW (fun i j => .int (i ^ j.toNat)) (.int 10) (.int 9) H Q := r_pw 5 (by decide) (by decide) (by decide) (by decide) h
theorem r_p18 (h : Q (.int 1000000000000000000) H) : rI CPowW (fun i j => .int (i ^ j.toNat)) (.int 10) (.int 18) H Q := r_pw 5 (by decide) (by decide) (by decide) (by decide) h
theorem r_p20 (h : Q (.int 100000000000000000000) H) : rI CPowW (fun i j => .int (i ^ j.toNat)) (.int 10) (.int 20) H Q := r_pw 5 (by decide) (by decide) (by decide) (by decide) h
theorem r_p36 (h : Q (.int 1000000000000000000000000000000000000) H) : rI CPowW (fun i j => .int (i ^ j.toNat)) (.int 10) (.int 36) H Q := r_pw 5 (by decide) (by decide) (by decide) (by decide) h
theorem r_p40 (h : Q (.int 10000000000000000000000000000000000000000) H) : rI CPowW (fun i j => .int (i ^ j.toNat)) (.int 10) (.int 40) H Q := r_pw 5 (by decide) (by decide) (by decide) (by decide) h
theorem r_p41 (h : Q (.int 100000000000000000000000000000000000000000) H) : rI CPowW (fun i j => .int (i ^ j.toNat)) (.int 10) (.int 41) H Q := r_pw 5 (by decide) (by decide) (by decide) (by decide) h
theorem r_p43 (h : Q (.int 10000000000000000000000000000000000000000000) H) : rI CPowW (fun i j => .int (i ^ j.toNat)) (.int 10) (.int 43) H Q := r_pw 5 (by decide) (by decide) (by decide) (by decide) h
/-- % by a positive number, // likewise -/
theorem r_mod {i j : Int} (h0 : 0 < j) (h : Q (.int (i % j)) H) : rI (fun _ j => j ≠ 0) (fun i j => .int (i.fmod j)) (.int i) (.int j) H Q :=
  ⟨i, j, rfl, rfl, by omega, by show Q (.int (i.fmod j)) H; rw [Int.fmod_eq_emod_of_nonneg i (by omega)]; exact h⟩
theorem r_fdiv {i j : Int} (h0 : 0 < j ∧ j < 1073741824) (h : Q (.int (i / j)) H) : rI CDivN (fun i j => .int (i.fdiv j)) (.int i) (.int j) H Q :=
  ⟨i, j, rfl, rfl, ⟨by omega, by omega⟩, by show Q (.int (i.fdiv j)) H; rw [Int.fdiv_eq_ediv_of_nonneg i (by omega)]; exact h⟩
theorem r_mulc {i j : Int} (hi : -(2 ^ 64) < i ∧ i < 2 ^ 64) (h : Q (.int (i * j)) H) : rMulG (.int i) (.int j) H Q := ⟨.inl hi, h⟩
theorem r_mulc' {i j : Int} (hj : -(2 ^ 64) < j ∧ j < 2 ^ 64) (h : Q (.int (i * j)) H) : rMulG (.int i) (.int j) H Q := ⟨.inr hj, h⟩
theorem at_map {f : Int → V} {ns : List Int} {k : Nat} (h : k < ns.length) : atI (ns.map f) (k : Int) = some (f (ns[k])) := atI_nat (by rw [List.getElem?_map, List.getElem?_eq_getElem h]; rfl)
end
end NX
namespace NX
open L2
theorem r_new {xs : List V} {P : Prop} (h1 : xs.length ≤ 100) (h : P) : xs.length ≤ PySem.sizeLine ∧ P := ⟨small_len h1, h⟩
end NX
namespace NX
open PySem PySem.Spec PyProof.Rows L2
theorem r_fdivW {H : Hp} {Q : VK} {i j : Int} (h0 : 0 < j ∧ j < 2 ^ 200) (h : Q (.int (i / j)) H) : rI CDivW (fun i j => .int (i / j)) (.int i) (.int j) H Q :=
  ⟨i, j, rfl, rfl, wide_div (b := 200) h0.1 (by omega) (by decide) (by decide), h⟩
end NX
namespace NX
open PySem PySem.Spec PyProof.Rows L2
section
variable {K : PySem.W.Frag} {σ : L2.St} {H : Hp} {D : Ends} {t : TA}
theorem r_gtup {n : Nat} {g : TGs} {a : Addr} {xs : List V} {QN : L2.St → Hp → Prop} (e : SqT K H a xs) (hl : xs.length = n) (h : g xs σ H QN) : gTup K n g (.ref a) σ H QN := ⟨a, xs, rfl, e, hl, h⟩
theorem r_gcons {g : TG} {u : TGs} {v : V} {r : List V} {QN : L2.St → Hp → Prop} (h : g v σ H fun σ' H' => u r σ' H' QN) : gCons g u (v :: r) σ H QN := ⟨v, r, rfl, h⟩
theorem r_gnil {QN : L2.St → Hp → Prop} (h : QN σ H) : gNil [] σ H QN := ⟨rfl, h⟩
theorem r_par3 {i j l : Nat} (h : t σ H fun vs H1 => ∃ u v w, vs = [u, v, w] ∧ D.nx (((σ.set i (some u)).set j (some v)).set l (some w)) H1) : tPar3 i j l t D σ H := h
theorem r_par33 {u v w : V} {P : V → V → V → Prop} (h : P u v w) : ∃ u' v' w', [u, v, w] = [u', v', w'] ∧ P u' v' w' := ⟨u, v, w, rfl, h⟩
theorem upd_back {H : Hp} {p : Addr} {xs : List V} : SqT K (upd H p (.tup xs)) p xs := SqT.of upd_same
end
end NX
namespace NX
open PySem PySem.Spec PyProof.Rows L2
section
variable {K : PySem.W.Frag} {H : Hp} {Q : VK}
theorem r_eqSS {a : List Nat} (h : Q (.bl true) H) : rEqG K (T a) (T a) H Q := r_eqS (by rw [decide_eq_true rfl]; exact h)
theorem r_neSS {a : List Nat} (h : Q (.bl false) H) : rNeG K (T a) (T a) H Q := r_neS (by rw [decide_eq_true rfl]; exact h)
theorem r_eqII {a : Int} (h : Q (.bl true) H) : rEqG K (.int a) (.int a) H Q := r_eqI (by rw [decide_eq_true rfl]; exact h)
theorem r_neII {a : Int} (h : Q (.bl false) H) : rNeG K (.int a) (.int a) H Q := r_neI (by rw [decide_eq_true rfl]; exact h)
theorem r_eqBB {a : Bool} (h : Q (.bl true) H) : rEqG K (.bl a) (.bl a) H Q := r_eqB (by rw [decide_eq_true rfl]; exact h)
theorem r_neBB {a : Bool} (h : Q (.bl false) H) : rNeG K (.bl a) (.bl a) H Q := r_neB (by rw [decide_eq_true rfl]; exact h)
end
end NX
namespace NX
open PySem PySem.Spec PyProof.Rows L2
def WhB (W : Nat → L2.St → Hp → Prop) (tb : TS) (D : Ends) (m : Nat) (σ : L2.St) (H1 : Hp) : Prop := ∃ N : L2.St → Hp → Prop, (∀ σ' H', N σ' H' → ∃ m', m' < m ∧ W m' σ' H') ∧ tb { D with nx := N, ct := N, bk := D.nx } σ H1
theorem r_while {c : TT} {tb : TS} {D : Ends} {σ : L2.St} {H : Hp} (W : Nat → L2.St → Hp → Prop) (m0 : Nat) (h0 : W m0 σ H)
    (hs : ∀ m σ H, W m σ H → c σ H fun b H1 => if b = true then WhB W tb D m σ H1 else D.nx σ H1) : tWhile c tb D σ H := ⟨W, ⟨m0, h0⟩, hs⟩
theorem r_whb {W : Nat → L2.St → Hp → Prop} {tb : TS} {D : Ends} {m : Nat} {σ : L2.St} {H1 : Hp} (h : tb { D with nx := fun σ' H' => ∃ m', m' < m ∧ W m' σ' H', ct := fun σ' H' => ∃ m', m' < m ∧ W m' σ' H', bk := D.nx } σ H1) : WhB W tb D m σ H1 := ⟨_, fun _ _ h => h, h⟩
end NX
namespace NX
/-! ### plain rows: letters, backs, least rows -/
def lett (c : Nat) : Bool := decide (65 ≤ c ∧ c ≤ 90) || decide (97 ≤ c ∧ c ≤ 122)
def Row (l : List Nat) : Prop := ∀ c ∈ l, lett c = true
theorem lett_iff {c : Nat} : lett c = true ↔ (65 ≤ c ∧ c ≤ 90) ∨ (97 ≤ c ∧ c ≤ 122) := by simp [lett]
theorem swp_swp {c : Nat} (h : lett c = true) : swp (swp c) = c := by
  rw [lett_iff] at h
  unfold swp
  rcases h with h | h
  · rw [if_pos h, if_neg (by omega), if_pos (by omega)]; omega
  · have h' : ¬ (65 ≤ c ∧ c ≤ 90) := by omega
    rw [if_neg h', if_pos h, if_pos (by omega)]; omega
theorem swp_lett {c : Nat} (h : lett c = true) : lett (swp c) = true := by
  rw [lett_iff] at *
  unfold swp
  rcases h with h | h
  · rw [if_pos h]; omega
  · rw [if_neg (by omega), if_pos h]; omega
theorem swp_ne {c : Nat} (h : lett c = true) : swp c ≠ c := by
  rw [lett_iff] at h
  unfold swp
  rcases h with h | h
  · rw [if_pos h]; omega
  · rw [if_neg (by omega), if_pos h]; omega
theorem Row.asc {l : List Nat} (h : Row l) : Asc l := fun c hc => by
  have := lett_iff.mp (h c hc); omega
theorem Row.nil : Row [] := fun _ h => nomatch h
theorem Row.app {a b : List Nat} (ha : Row a) (hb : Row b) : Row (a ++ b) := fun c h => (List.mem_append.mp h).elim (ha c) (hb c)
theorem Row.one {c : Nat} (h : lett c = true) : Row [c] := fun x hx => by rw [List.mem_singleton.mp hx]; exact h
theorem Row.sub {a b : List Nat} (hb : Row b) (h : ∀ c ∈ a, c ∈ b) : Row a := fun c hc => hb c (h c hc)
theorem Row.take {l : List Nat} (h : Row l) (n : Nat) : Row (l.take n) := h.sub fun _ hc => List.mem_of_mem_take hc
theorem Row.drop {l : List Nat} (h : Row l) (n : Nat) : Row (l.drop n) := h.sub fun _ hc => List.mem_of_mem_drop hc
theorem Row.rev {l : List Nat} (h : Row l) : Row l.reverse := h.sub fun _ hc => List.mem_reverse.mp hc
theorem Row.map_swp {l : List Nat} (h : Row l) : Row (l.map swp) := fun c hc => by
  obtain ⟨d, hd, rfl⟩ := List.mem_map.mp hc; exact swp_lett (h d hd)
theorem Row.of_app {a b : List Nat} (h : Row (a ++ b)) : Row a ∧ Row b := ⟨h.sub fun _ hc => List.mem_append_left _ hc, h.sub fun _ hc => List.mem_append_right _ hc⟩
theorem Row.cons {c : Nat} {l : List Nat} (h : lett c = true) (hl : Row l) : Row (c :: l) := fun x hx => (List.mem_cons.mp hx).elim (fun e => e ▸ h) (hl x)
theorem Row.of_cons {c : Nat} {l : List Nat} (h : Row (c :: l)) : lett c = true ∧ Row l := ⟨h c List.mem_cons_self, fun x hx => h x (List.mem_cons_of_mem _ hx)⟩
theorem Row.rep {l : List Nat} (h : Row l) (n : Nat) : Row (repL l n) := fun c hc => by
  obtain ⟨r, hr, hc⟩ := List.mem_flatten.mp hc
  rw [(List.mem_replicate.mp hr).2] at hc; exact h c hc
/-- the back of a row -/
def bak (l : List Nat) : List Nat := l.reverse.map swp
theorem bak_len (l : List Nat) : (bak l).length = l.length := by simp [bak]
theorem Row.bak {l : List Nat} (h : Row l) : Row (bak l) := h.rev.map_swp
theorem bak_bak {l : List Nat} (h : Row l) : bak (bak l) = l := by
  unfold NX.bak
  rw [← List.map_reverse, List.reverse_reverse, List.map_map]
  conv => rhs; rw [← List.map_id l]
  exact List.map_congr_left fun c hc => swp_swp (h c hc)
theorem bak_app (a b : List Nat) : bak (a ++ b) = bak b ++ bak a := by simp [bak]
/-- a turn of the stack, its top first -/
def push : List Nat → Nat → List Nat
  | [], c => [c]
  | t :: r, c => if t = swp c then r else c :: t :: r
theorem push_cons (t : Nat) (r : List Nat) (c : Nat) : push (t :: r) c = if t = swp c then r else c :: t :: r := rfl
def stk (l : List Nat) : List Nat := l.foldl push []
/-- the least row -/
def red (l : List Nat) : List Nat := (stk l).reverse
theorem stk_snoc (l : List Nat) (c : Nat) : stk (l ++ [c]) = push (stk l) c := by simp [stk]
theorem push_len (s : List Nat) (c : Nat) : (push s c).length ≤ s.length + 1 := by
  cases s with
  | nil => simp [push]
  | cons t r => rw [push_cons]; split <;> simp only [List.length_cons] <;> omega
theorem foldl_len (l : List Nat) : ∀ s : List Nat, (l.foldl push s).length ≤ s.length + l.length := by
  induction l with
  | nil => intro s; simp
  | cons c l ih => intro s; have h1 := ih (push s c); have h2 := push_len s c; simp only [List.foldl_cons, List.length_cons]; omega
theorem stk_len (l : List Nat) : (stk l).length ≤ l.length := by have := foldl_len l []; simpa [stk] using this
theorem red_len (l : List Nat) : (red l).length ≤ l.length := by simp only [red, List.length_reverse]; exact stk_len l
theorem push_row {s : List Nat} {c : Nat} (hs : Row s) (hc : lett c = true) : Row (push s c) := by
  cases s with
  | nil => exact Row.one hc
  | cons t r =>
    rw [push_cons]; split
    · exact hs.of_cons.2
    · exact Row.cons hc hs
theorem foldl_row {l : List Nat} : ∀ {s : List Nat}, Row l → Row s → Row (l.foldl push s) := by
  induction l with
  | nil => intro s _ hs; exact hs
  | cons c l ih => intro s hl hs; exact ih hl.of_cons.2 (push_row hs hl.of_cons.1)
theorem stk_row {l : List Nat} (h : Row l) : Row (stk l) := foldl_row h Row.nil
theorem Row.red {l : List Nat} (h : Row l) : Row (red l) := (stk_row h).rev
theorem oth_up {c : Nat} (e : isLo c = true) : PyProof.Rows.up1 c = swp c := by
  have h : 97 ≤ c ∧ c ≤ 122 := of_decide_eq_true e
  unfold PyProof.Rows.up1 swp
  have h' : ¬ (65 ≤ c ∧ c ≤ 90) := by omega
  simp only [h, h', if_true, if_false, and_self]
theorem oth_lo {c : Nat} (e : isLo c = false) : PyProof.Rows.lo1 c = swp c := by
  have h : ¬ (97 ≤ c ∧ c ≤ 122) := of_decide_eq_false e
  unfold PyProof.Rows.lo1 swp
  rw [if_neg h]
theorem in_low {c : Nat} : c ∈ ([97, 98, 99, 100, 101, 102, 103, 104, 105, 106, 107, 108, 109, 110, 111, 112, 113, 114, 115, 116, 117, 118, 119, 120, 121, 122] : List Nat) ↔ 97 ≤ c ∧ c ≤ 122 := by
  simp only [List.mem_cons, List.not_mem_nil, or_false]; omega
theorem in_high {c : Nat} : c ∈ ([65, 66, 67, 68, 69, 70, 71, 72, 73, 74, 75, 76, 77, 78, 79, 80, 81, 82, 83, 84, 85, 86, 87, 88, 89, 90] : List Nat) ↔ 65 ≤ c ∧ c ≤ 90 := by
  simp only [List.mem_cons, List.not_mem_nil, or_false]; omega
theorem up1_lett {c : Nat} (h : lett c = true) : lett (PyProof.Rows.up1 c) = true := by
  rw [lett_iff] at *
  unfold PyProof.Rows.up1
  split <;> omega
theorem Row.map_up {l : List Nat} (h : Row l) : Row (l.map PyProof.Rows.up1) := fun c hc => by
  obtain ⟨d, hd, rfl⟩ := List.mem_map.mp hc; exact up1_lett (h d hd)
/-- the letters from a to z -/
abbrev lowL : List Nat := [97, 98, 99, 100, 101, 102, 103, 104, 105, 106, 107, 108, 109, 110, 111, 112, 113, 114, 115, 116, 117, 118, 119, 120, 121, 122]
theorem lowL_row : Row lowL := fun c hc => lett_iff.mpr (.inr (in_low.mp hc))
/-- what is drawn of letters: some letters and their backs -/
def Sgn (l : List Nat) : Prop := Row l ∧ 0 < l.length ∧ l.length ≤ 52
theorem sgn_all : Sgn (lowL ++ lowL.map PyProof.Rows.up1) := ⟨lowL_row.app lowL_row.map_up, by decide, by decide⟩
theorem sgn_some {s : List Nat} (h : Row s) (h0 : 0 < s.length) (h1 : s.length ≤ 26) : Sgn (s ++ s.map PyProof.Rows.up1) :=
  ⟨h.app h.map_up, by simp only [List.length_append]; omega, by simp only [List.length_append, List.length_map]; omega⟩
/-- free: no character beside its back -/
def Free : List Nat → Prop
  | [] => True
  | [_] => True
  | a :: b :: r => b ≠ swp a ∧ Free (b :: r)
/-- a stack is free upward -/
def FreeS : List Nat → Prop
  | [] => True
  | [_] => True
  | a :: b :: r => b ≠ swp a ∧ FreeS (b :: r)
theorem push_free {s : List Nat} {c : Nat} (hs : FreeS s) : FreeS (push s c) := by
  cases s with
  | nil => trivial
  | cons t r =>
    rw [push_cons]; split
    · cases r with
      | nil => trivial
      | cons u v => exact hs.2
    · rename_i h; exact ⟨h, hs⟩
theorem foldl_free (l : List Nat) : ∀ {s : List Nat}, FreeS s → FreeS (l.foldl push s) := by
  induction l with
  | nil => intro s hs; exact hs
  | cons c l ih => intro s hs; exact ih (push_free hs)
theorem stk_free (l : List Nat) : FreeS (stk l) := foldl_free l trivial
/-- pushing a letter, then its back, changes nothing -/
theorem push_push {s : List Nat} {c : Nat} (hs : FreeS s) (hr : Row s) (hc : lett c = true) : push (push s c) (swp c) = s := by
  cases s with
  | nil => simp [push, swp_swp hc]
  | cons t r =>
    by_cases h : t = swp c
    · have e : push (t :: r) c = r := by rw [push_cons, if_pos h]
      rw [e, ← h]
      cases r with
      | nil => rfl
      | cons u v =>
        have : u ≠ swp t := hs.1
        rw [push_cons, if_neg this]
    · have e : push (t :: r) c = c :: t :: r := by rw [push_cons, if_neg h]
      rw [e]
      show (if c = swp (swp c) then t :: r else _) = _
      rw [if_pos (swp_swp hc).symm]
theorem push_push' {s : List Nat} {c : Nat} (hs : FreeS s) (hr : Row s) (hc : lett c = true) : push (push s (swp c)) c = s := by
  have := push_push (c := swp c) hs hr (swp_lett hc)
  rwa [swp_swp hc] at this
/-- a pair taken out leaves the same stack -/
theorem stk_pair {a b : List Nat} {c : Nat} (ha : Row a) (hc : lett c = true) : stk (a ++ c :: swp c :: b) = stk (a ++ b) := by
  have h := push_push (stk_free a) (stk_row ha) hc
  unfold stk at *
  rw [List.foldl_append, List.foldl_append, List.foldl_cons, List.foldl_cons, h]
theorem red_pair {a b : List Nat} {c : Nat} (ha : Row a) (hc : lett c = true) : red (a ++ c :: swp c :: b) = red (a ++ b) := by
  unfold red; rw [stk_pair ha hc]
/-- a free row on a stack that it does not begin to take down -/
theorem fold_free : ∀ (l s : List Nat), Free l → (∀ t c, s.head? = some t → l.head? = some c → t ≠ swp c) → (∀ c ∈ l, lett c = true) → l.foldl push s = l.reverse ++ s
  | [], s, _, _, _ => rfl
  | c :: l, s, hf, hh, hr => by
    have e : push s c = c :: s := by
      cases s with
      | nil => rfl
      | cons t r => rw [push_cons, if_neg (hh t c rfl rfl)]
    rw [List.foldl_cons, e, fold_free l (c :: s) ?_ ?_ fun x hx => hr x (List.mem_cons_of_mem _ hx)]
    · simp
    · cases l with
      | nil => trivial
      | cons d l => exact hf.2
    · intro t d ht hd
      cases l with
      | nil => cases hd
      | cons d' l =>
        have e1 : c = t := by simpa using ht
        have e2 : d' = d := by simpa using hd
        subst e1 e2
        intro e
        have := hf.1
        have h1 := hr c List.mem_cons_self
        have h2 := hr d' (List.mem_cons_of_mem _ List.mem_cons_self)
        exact this (by rw [e, swp_swp h2])
theorem red_free {l : List Nat} (hf : Free l) (hr : Row l) : red l = l := by
  unfold red stk
  rw [fold_free l [] hf (fun t c h => nomatch h) hr]; simp
theorem FreeS.snoc : ∀ {s : List Nat} {t c : Nat}, FreeS (s ++ [t]) → c ≠ swp t → FreeS (s ++ [t, c])
  | [], t, c, _, h => ⟨h, trivial⟩
  | [a], t, c, h, h2 => ⟨h.1, h2, trivial⟩
  | a :: b :: r, t, c, h, h2 => ⟨h.1, FreeS.snoc (s := b :: r) h.2 h2⟩
theorem free_snoc : ∀ {s : List Nat} {t c : Nat}, Free (s ++ [t]) → c ≠ swp t → Free (s ++ [t, c])
  | [], t, c, _, h => ⟨h, trivial⟩
  | [a], t, c, h, h2 => ⟨h.1, h2, trivial⟩
  | a :: b :: r, t, c, h, h2 => ⟨h.1, free_snoc (s := b :: r) h.2 h2⟩
theorem free_rev : ∀ {s : List Nat}, Row s → FreeS s → Free s.reverse
  | [], _, _ => trivial
  | [a], _, _ => trivial
  | a :: b :: r, hr, h => by
    have ih := free_rev (s := b :: r) hr.of_cons.2 h.2
    rw [List.reverse_cons] at ih
    rw [List.reverse_cons, List.reverse_cons, List.append_assoc]
    refine free_snoc ih ?_
    intro e
    exact h.1 (by rw [e, swp_swp hr.of_cons.2.of_cons.1])
theorem free_red {l : List Nat} (h : Row l) : Free (red l) := free_rev (stk_row h) (stk_free l)
theorem red_red {l : List Nat} (h : Row l) : red (red l) = red l := red_free (free_red h) h.red
theorem free_of : ∀ {w : List Nat}, (∀ k, k + 1 < w.length → w.getD (k + 1) 0 ≠ swp (w.getD k 0)) → Free w
  | [], _ => trivial
  | [_], _ => trivial
  | a :: b :: r, h => ⟨h 0 (by simp), free_of (w := b :: r) fun k hk => h (k + 1) (by simpa using hk)⟩
theorem split2 : ∀ {w : List Nat} {k : Nat}, k + 1 < w.length → w = w.take k ++ w.getD k 0 :: w.getD (k + 1) 0 :: w.drop (k + 2)
  | [], _, h => by simp at h
  | [_], _, h => by simp at h
  | a :: b :: r, 0, _ => by simp
  | a :: b :: r, k + 1, h => by
    have := split2 (w := b :: r) (k := k) (by simpa using h)
    conv => lhs; rw [this]
    simp
theorem red_nil : red [] = [] := rfl
theorem red_bak : ∀ (n : Nat) {w : List Nat}, w.length = n → Row w → red (w ++ bak w) = []
  | 0, w, h, _ => by rw [List.length_eq_zero_iff.mp h]; rfl
  | n + 1, w, h, hr => by
    obtain ⟨a, c, rfl⟩ : ∃ a c, w = a ++ [c] := by
      have hne : w ≠ [] := by intro e; subst e; simp at h
      exact ⟨w.dropLast, w.getLast hne, (List.dropLast_concat_getLast hne).symm⟩
    obtain ⟨ha, hc⟩ := hr.of_app
    have e : (a ++ [c]) ++ bak (a ++ [c]) = a ++ c :: swp c :: bak a := by simp [bak]
    rw [e, red_pair ha hc.of_cons.1]
    exact red_bak n (by simpa using h) ha
theorem red_self {w : List Nat} (h : Row w) : red (w ++ bak w) = [] := red_bak _ rfl h
theorem red_self' {w : List Nat} (h : Row w) : red (bak w ++ w) = [] := by
  have := red_self h.bak
  rwa [bak_bak h] at this
end NX
namespace NX
open PySem PySem.Spec PyProof.Rows L2
mutual
def plain : PyData → Bool
  | .none | .int _ | .str _ => true
  | .bool _ | .dict _ => false
  | .list xs | .tuple xs => plainAll xs
def plainAll : List PyData → Bool
  | [] => true
  | x :: xs => plain x && plainAll xs
end
mutual
theorem eqv_iff : ∀ d e : PyData, plain d = true → plain e = true → (PyData.eqv d e = true ↔ d = e)
  | .none, e, _, he => by cases e <;> simp_all [PyData.eqv, plain]
  | .int i, e, _, he => by cases e <;> simp_all [PyData.eqv, plain]
  | .str x, e, _, he => by cases e <;> simp_all [PyData.eqv, plain]
  | .bool b, e, hd, _ => by simp [plain] at hd
  | .dict b, e, hd, _ => by simp [plain] at hd
  | .list xs, e, hd, he => by
    cases e with
    | list ys =>
      have h := eqvAll_iff xs ys (by simpa [plain] using hd) (by simpa [plain] using he)
      simp only [PyData.eqv, PyData.list.injEq]; exact h
    | _ => simp_all [PyData.eqv, plain]
  | .tuple xs, e, hd, he => by
    cases e with
    | tuple ys =>
      have h := eqvAll_iff xs ys (by simpa [plain] using hd) (by simpa [plain] using he)
      simp only [PyData.eqv, PyData.tuple.injEq]; exact h
    | _ => simp_all [PyData.eqv, plain]
theorem eqvAll_iff : ∀ ds es : List PyData, plainAll ds = true → plainAll es = true → (PyData.eqvAll ds es = true ↔ ds = es)
  | [], [], _, _ => by simp [PyData.eqvAll]
  | [], _ :: _, _, _ => by simp [PyData.eqvAll]
  | _ :: _, [], _, _ => by simp [PyData.eqvAll]
  | d :: ds, e :: es, hd, he => by
    simp only [plainAll, Bool.and_eq_true] at hd he
    have h1 := eqv_iff d e hd.1 he.1
    have h2 := eqvAll_iff ds es hd.2 he.2
    simp only [PyData.eqvAll, Bool.and_eq_true, List.cons.injEq, h1, h2]
end
abbrev S (l : List Nat) : PyData := .str (mkS l)
section
variable {K : PySem.W.Frag} {H : Hp} {Q : VK}
theorem dp_all {vs : List V} {ds : List PyData} (h : DpAll K H vs ds) {p : Addr} (e : SqL K H p vs) : Dp K H (.ref p) (.list ds) := .lst e h
theorem dpAll_strs : ∀ ls : List (List Nat), DpAll K H (ls.map T) (ls.map S)
  | [] => .nil
  | l :: ls => .cons (.str _) (dpAll_strs ls)
theorem dpAll_ints : ∀ ns : List Int, DpAll K H (ns.map V.int) (ns.map PyData.int)
  | [] => .nil
  | n :: ns => .cons (.int _) (dpAll_ints ns)
/-- equal, or not, by one's own word -/
theorem r_eqD {d e : PyData} {x y : V} {c : Prop} [Decidable c] (h1 : Dp K H x d) (h2 : Dp K H y e) (s1 : SeqAt.shaped d = true) (s2 : SeqAt.shaped e = true) (p1 : plain d = true) (p2 : plain e = true) (hc : d = e ↔ c) (h : Q (.bl (decide c)) H) : rEqG K x y H Q := by
  refine .inr ⟨d, e, h1, h2, s1, s2, ?_⟩
  have := eqv_iff d e p1 p2
  rw [show PyData.eqv d e = decide c by rw [Bool.eq_iff_iff, this, hc]; simp]
  exact h
theorem r_neD {d e : PyData} {x y : V} {c : Prop} [Decidable c] (h1 : Dp K H x d) (h2 : Dp K H y e) (s1 : SeqAt.shaped d = true) (s2 : SeqAt.shaped e = true) (p1 : plain d = true) (p2 : plain e = true) (hc : d = e ↔ c) (h : Q (.bl (!decide c)) H) : rNeG K x y H Q := by
  refine .inr ⟨d, e, h1, h2, s1, s2, ?_⟩
  have := eqv_iff d e p1 p2
  rw [show PyData.eqv d e = decide c by rw [Bool.eq_iff_iff, this, hc]; simp]
  exact h
theorem strOk_mk {l : List Nat} (h : Asc l) : PyData.strOk (mkS l) = true := by
  unfold PyData.strOk
  rw [← Array.all_toList, List.all_eq_true]
  intro c hc
  have := h c hc
  exact decide_eq_true (by omega)
theorem lay_strs : ∀ {ls : List (List Nat)}, (∀ l ∈ ls, Asc l) → PyData.canLayAll0 (ls.map S) = true
  | [], _ => rfl
  | l :: ls, h => by
    show (PyData.canLay0 (S l) && PyData.canLayAll0 (ls.map S)) = true
    rw [lay_strs fun x hx => h x (List.mem_cons_of_mem _ hx), Bool.and_true]
    exact strOk_mk (h l List.mem_cons_self)
theorem depth_strs : ∀ ls : List (List Nat), PyData.depthAll (ls.map S) = 0
  | [] => rfl
  | l :: ls => by
    show max (PyData.depth (S l)) (PyData.depthAll (ls.map S)) = 0
    rw [depth_strs ls]; rfl
theorem plain_strs : ∀ ls : List (List Nat), plainAll (ls.map S) = true
  | [] => rfl
  | l :: ls => by
    show (plain (S l) && plainAll (ls.map S)) = true
    rw [plain_strs ls]; rfl
theorem strs_inj {as bs : List (List Nat)} : as.map S = bs.map S ↔ as = bs := by
  constructor
  · intro h
    induction as generalizing bs with
    | nil => cases bs with
      | nil => rfl
      | cons _ _ => simp at h
    | cons a as ih => cases bs with
      | nil => simp at h
      | cons b bs =>
        simp only [List.map_cons, List.cons.injEq] at h
        have e : mkS a = mkS b := by injection h.1
        rw [mkS_inj e, ih h.2]
  · intro h; rw [h]
theorem shaped_list {ds : List PyData} (h : PyData.canLayAll0 ds = true) (hd : PyData.depthAll ds ≤ 60) : SeqAt.shaped (.list ds) = true := by
  unfold SeqAt.shaped
  rw [Bool.and_eq_true]
  exact ⟨h, decide_eq_true (by show PyData.depthAll ds + 1 ≤ 64; omega)⟩
theorem shaped_tup {ds : List PyData} (h : PyData.canLayAll0 ds = true) (hd : PyData.depthAll ds ≤ 60) : SeqAt.shaped (.tuple ds) = true := by
  unfold SeqAt.shaped
  rw [Bool.and_eq_true]
  exact ⟨h, decide_eq_true (by show PyData.depthAll ds + 1 ≤ 64; omega)⟩
theorem shaped_strs {ls : List (List Nat)} (h : ∀ l ∈ ls, Asc l) : SeqAt.shaped (.list (ls.map S)) = true := shaped_list (lay_strs h) (by rw [depth_strs]; decide)
/-- lists of texts -/
theorem r_eqLs {p q : Addr} {as bs : List (List Nat)} (h1 : SqL K H p (as.map T)) (h2 : SqL K H q (bs.map T)) (a1 : ∀ l ∈ as, Asc l) (a2 : ∀ l ∈ bs, Asc l) (h : Q (.bl (decide (as = bs))) H) : rEqG K (.ref p) (.ref q) H Q :=
  r_eqD (dp_all (dpAll_strs as) h1) (dp_all (dpAll_strs bs) h2) (shaped_strs a1) (shaped_strs a2) (plain_strs as) (plain_strs bs) (by rw [PyData.list.injEq]; exact strs_inj) h
theorem r_neLs {p q : Addr} {as bs : List (List Nat)} (h1 : SqL K H p (as.map T)) (h2 : SqL K H q (bs.map T)) (a1 : ∀ l ∈ as, Asc l) (a2 : ∀ l ∈ bs, Asc l) (h : Q (.bl (!decide (as = bs))) H) : rNeG K (.ref p) (.ref q) H Q :=
  r_neD (dp_all (dpAll_strs as) h1) (dp_all (dpAll_strs bs) h2) (shaped_strs a1) (shaped_strs a2) (plain_strs as) (plain_strs bs) (by rw [PyData.list.injEq]; exact strs_inj) h
theorem asc_one {a : List Nat} (ha : Asc a) : ∀ l ∈ [a], Asc l := fun l h => by rw [List.mem_singleton.mp h]; exact ha
theorem asc_two {a b : List Nat} (ha : Asc a) (hb : Asc b) : ∀ l ∈ [a, b], Asc l := fun l h => by
  rcases List.mem_cons.mp h with e | h
  · rw [e]; exact ha
  · exact asc_one hb l h
theorem asc_nil : Asc [] := fun _ h => nomatch h
/-- tuples of texts -/
theorem dp_allT {vs : List V} {ds : List PyData} (h : DpAll K H vs ds) {p : Addr} (e : SqT K H p vs) : Dp K H (.ref p) (.tuple ds) := .tup e h
theorem r_eqTs {p q : Addr} {as bs : List (List Nat)} (h1 : SqT K H p (as.map T)) (h2 : SqT K H q (bs.map T)) (a1 : ∀ l ∈ as, Asc l) (a2 : ∀ l ∈ bs, Asc l) (h : Q (.bl (decide (as = bs))) H) : rEqG K (.ref p) (.ref q) H Q :=
  r_eqD (dp_allT (dpAll_strs as) h1) (dp_allT (dpAll_strs bs) h2) (shaped_tup (lay_strs a1) (by rw [depth_strs]; decide)) (shaped_tup (lay_strs a2) (by rw [depth_strs]; decide)) (plain_strs as) (plain_strs bs) (by rw [PyData.tuple.injEq]; exact strs_inj) h
theorem r_neTs {p q : Addr} {as bs : List (List Nat)} (h1 : SqT K H p (as.map T)) (h2 : SqT K H q (bs.map T)) (a1 : ∀ l ∈ as, Asc l) (a2 : ∀ l ∈ bs, Asc l) (h : Q (.bl (!decide (as = bs))) H) : rNeG K (.ref p) (.ref q) H Q :=
  r_neD (dp_allT (dpAll_strs as) h1) (dp_allT (dpAll_strs bs) h2) (shaped_tup (lay_strs a1) (by rw [depth_strs]; decide)) (shaped_tup (lay_strs a2) (by rw [depth_strs]; decide)) (plain_strs as) (plain_strs bs) (by rw [PyData.tuple.injEq]; exact strs_inj) h
/-- any list against the empty one -/
theorem r_neL0 {p q : Addr} {xs : List V} {ds : List PyData} (h1 : SqL K H p xs) (hd : DpAll K H xs ds) (s1 : SeqAt.shaped (.list ds) = true) (p1 : plainAll ds = true) (h2 : SqL K H q []) (h : Q (.bl (!decide (ds = []))) H) : rNeG K (.ref p) (.ref q) H Q :=
  r_neD (dp_all hd h1) (dp_all (vs := []) (ds := []) .nil h2) s1 (by rfl) p1 rfl (by rw [PyData.list.injEq]) h
theorem r_isiT {p : Addr} {xs : List V} (e : H p = some (.tup xs)) (h : Q (.bl true) H) : rIsiG K [.ref p, .ty "tuple"] H Q := .inl ⟨.ref p, .ty "tuple", _, _, true, rfl, .ty "tuple", .base (.tup e), by rfl, h⟩
theorem r_isiL {p : Addr} {xs : List V} (e : H p = some (.lst xs)) (h : Q (.bl true) H) : rIsiG K [.ref p, .ty "list"] H Q := .inl ⟨.ref p, .ty "list", _, _, true, rfl, .ty "list", .base (.lst e), by rfl, h⟩
theorem r_isiI {i : Int} (h : Q (.bl true) H) : rIsiG K [.int i, .ty "int"] H Q := .inl ⟨.int i, .ty "int", _, _, true, rfl, .ty "int", .base (.int _), by rfl, h⟩
theorem r_isiIb {i : Int} (h : Q (.bl false) H) : rIsiG K [.int i, .ty "bool"] H Q := .inl ⟨.int i, .ty "bool", _, _, false, rfl, .ty "bool", .base (.int _), by rfl, h⟩
theorem lay_ints : ∀ ns : List Int, PyData.canLayAll0 (ns.map PyData.int) = true
  | [] => rfl
  | n :: ns => by
    show (true && PyData.canLayAll0 (ns.map PyData.int)) = true
    rw [lay_ints ns]; rfl
theorem depth_ints : ∀ ns : List Int, PyData.depthAll (ns.map PyData.int) = 0
  | [] => rfl
  | n :: ns => by
    show max 0 (PyData.depthAll (ns.map PyData.int)) = 0
    rw [depth_ints ns]; rfl
theorem plain_ints : ∀ ns : List Int, plainAll (ns.map PyData.int) = true
  | [] => rfl
  | n :: ns => by
    show (true && plainAll (ns.map PyData.int)) = true
    rw [plain_ints ns]; rfl
theorem ints_inj {as bs : List Int} : as.map PyData.int = bs.map PyData.int ↔ as = bs := by
  constructor
  · intro h
    induction as generalizing bs with
    | nil => cases bs with
      | nil => rfl
      | cons _ _ => simp at h
    | cons a as ih => cases bs with
      | nil => simp at h
      | cons b bs =>
        simp only [List.map_cons, List.cons.injEq] at h
        have e : a = b := by injection h.1
        rw [e, ih h.2]
  · intro h; rw [h]
theorem r_eqLi {p q : Addr} {as bs : List Int} (h1 : SqL K H p (as.map V.int)) (h2 : SqL K H q (bs.map V.int)) (h : Q (.bl (decide (as = bs))) H) : rEqG K (.ref p) (.ref q) H Q :=
  r_eqD (dp_all (dpAll_ints as) h1) (dp_all (dpAll_ints bs) h2) (shaped_list (lay_ints as) (by rw [depth_ints]; decide)) (shaped_list (lay_ints bs) (by rw [depth_ints]; decide)) (plain_ints as) (plain_ints bs) (by rw [PyData.list.injEq]; exact ints_inj) h
theorem r_neLi {p q : Addr} {as bs : List Int} (h1 : SqL K H p (as.map V.int)) (h2 : SqL K H q (bs.map V.int)) (h : Q (.bl (!decide (as = bs))) H) : rNeG K (.ref p) (.ref q) H Q :=
  r_neD (dp_all (dpAll_ints as) h1) (dp_all (dpAll_ints bs) h2) (shaped_list (lay_ints as) (by rw [depth_ints]; decide)) (shaped_list (lay_ints bs) (by rw [depth_ints]; decide)) (plain_ints as) (plain_ints bs) (by rw [PyData.list.injEq]; exact ints_inj) h
theorem r_wipe {a b : L2.St} {vs : List Nat} {P : Prop} (e : wipe a vs = wipe b vs) (h : P) : wipe a vs = wipe b vs ∧ P := ⟨e, h⟩
theorem r_yes {σ : L2.St} {QB : Bool → Hp → Prop} (h : QB true H) : tYes σ H QB := h
theorem r_ifNT {A B : Prop} (h : B) : if (!true) = true then A else B := h
theorem r_ifNF {A B : Prop} (h : A) : if (!false) = true then A else B := h
theorem at_last {α : Type} {xs : List α} {v : α} (h : xs.getLast? = some v) : atI xs (-1) = some v := by
  obtain ⟨ys, rfl⟩ : ∃ ys, xs = ys ++ [v] := List.getLast?_eq_some_iff.mp h
  exact atI_last ys v
/-- the last of a stack that is held bottom first -/
theorem last_rev {s : List Nat} {t : Nat} {r : List Nat} (h : s = t :: r) : atI (s.reverse.map fun c => T [c]) (-1) = some (T [t]) := by
  apply at_last; rw [h]; simp
theorem pop_rev {s : List Nat} {t : Nat} {r : List Nat} (h : s = t :: r) : (s.reverse.map fun c => T [c])[(s.reverse.map fun c => T [c]).length - 1]? = some (T [t]) ∧ (s.reverse.map fun c => T [c]).dropLast = r.reverse.map fun c => T [c] := by
  subst h
  simp
theorem ones_T (l : List Nat) : (l.map fun c => T [c]) = (l.map fun c => [c]).map T := by rw [List.map_map]; rfl
theorem ones_flat (l : List Nat) : (l.map fun c => [c]).flatten = l := by
  induction l with
  | nil => rfl
  | cons a l ih => simp only [List.map_cons, List.flatten_cons, ih]; rfl
theorem ones_nil {l : List Nat} : (l.map fun c => [c]) = [] ↔ l = [] := by simp
theorem take_snoc {l : List Nat} {i : Nat} {c : Nat} (h : l[i]? = some c) : l.take (i + 1) = l.take i ++ [c] := by rw [List.take_add_one, h]; rfl
theorem at_nat {l : List Nat} {i : Int} (h0 : 0 ≤ i) (h : i < l.length) : atI l i = some (l.getD i.toNat 0) := by
  obtain ⟨k, rfl⟩ : ∃ k : Nat, i = k := ⟨i.toNat, by omega⟩
  have hk : k < l.length := by omega
  rw [Int.toNat_natCast]
  exact atI_nat (by rw [List.getD_eq_getElem?_getD, List.getElem?_eq_getElem hk]; rfl)
theorem at_neg {l : List Nat} {k : Nat} (h : k < l.length) : atI l (-1 - (k : Int)) = some (l.getD (l.length - 1 - k) 0) := by
  have e : ixN l.length (-1 - (k : Int)) = some (l.length - 1 - k) := by
    unfold ixN
    rw [if_neg (by omega), if_pos (by omega)]
    congr 1; omega
  unfold atI
  rw [e]
  show l[l.length - 1 - k]? = _
  rw [List.getD_eq_getElem?_getD, List.getElem?_eq_getElem (by omega)]; rfl
/-- the well at a: its numbers; n draws at most were made of the mixed ones -/
def Wl (H : Hp) (a : Addr) (n : Nat) : Prop := ∃ w0 w1 w2 : Int, H a = some (.lst [.int w0, .int w1, .int w2]) ∧ 0 ≤ w0 ∧ 0 ≤ w1 ∧ w1 < 2 ^ 130 ∧ 0 ≤ w2 ∧ w2 ≤ n
theorem Wl.same {H H' : Hp} {a : Addr} {n : Nat} (w : Wl H a n) (s : Same H H') : Wl H' a n := by
  obtain ⟨w0, w1, w2, e, r⟩ := w
  exact ⟨w0, w1, w2, s _ _ e, r⟩
theorem Wl.new {H : Hp} {a p : Addr} {n : Nat} {o : HO} (w : Wl H a n) (h : H p = none) : Wl (upd H p o) a n := w.same (Same.new1 h)
theorem Wl.mono {H : Hp} {a : Addr} {n m : Nat} (w : Wl H a n) (h : n ≤ m) : Wl H a m := by
  obtain ⟨w0, w1, w2, e, h0, h1, h2, h3, h4⟩ := w
  exact ⟨w0, w1, w2, e, h0, h1, h2, h3, by omega⟩
theorem Wl.ne {H : Hp} {a p : Addr} {n : Nat} (w : Wl H a n) (h : H p = none) : p ≠ a := by
  obtain ⟨w0, w1, w2, e, _⟩ := w
  exact (ne_of_none e h).symm
/-- a change of another object leaves the well -/
theorem Wl.put {H : Hp} {a p : Addr} {n : Nat} {o : HO} (w : Wl H a n) (h : p ≠ a) : Wl (upd H p o) a n := by
  obtain ⟨w0, w1, w2, e, r⟩ := w
  exact ⟨w0, w1, w2, by rw [upd_ne h.symm]; exact e, r⟩
theorem cut_from (l : List Nat) (j : Nat) : cutL l (some (j : Int)) none = l.drop j := by
  unfold cutL
  rw [HT.sIx_none, HT.sIx_nat]
  by_cases h : j ≤ l.length
  · rw [Nat.min_eq_left h, List.take_of_length_le (by rw [List.length_drop]; omega)]
  · rw [Nat.min_eq_right (by omega), List.drop_length, List.drop_of_length_le (by omega)]; simp
theorem cut_to (l : List Nat) (j : Nat) : cutL l none (some (j : Int)) = l.take j := by
  unfold cutL
  rw [HT.sIx_none, HT.sIx_nat, List.drop_zero, Nat.sub_zero]
  by_cases h : j ≤ l.length
  · rw [Nat.min_eq_left h]
  · rw [Nat.min_eq_right (by omega), List.take_length, List.take_of_length_le (by omega)]
theorem cut_mid (l : List Nat) (i j : Nat) : cutL l (some (i : Int)) (some (j : Int)) = (l.take j).drop i := by
  unfold cutL
  rw [HT.sIx_nat, HT.sIx_nat, List.drop_take]
  by_cases hj : j ≤ l.length
  · by_cases hi : i ≤ l.length
    · rw [Nat.min_eq_left hj, Nat.min_eq_left hi]
    · rw [Nat.min_eq_right (by omega : l.length ≤ i), List.drop_length, List.drop_of_length_le (by omega : l.length ≤ i)]; simp
  · rw [Nat.min_eq_right (by omega : l.length ≤ j)]
    by_cases hi : i ≤ l.length
    · rw [Nat.min_eq_left hi, List.take_of_length_le (by rw [List.length_drop]; omega), List.take_of_length_le (by rw [List.length_drop]; omega)]
    · rw [Nat.min_eq_right (by omega : l.length ≤ i), List.drop_length, List.drop_of_length_le (by omega : l.length ≤ i)]; simp
theorem fm_filter {α : Type} (p : Nat → Bool) (f : Nat → α) : ∀ l : List Nat, l.filterMap (fun k => if p k = true then some (f k) else none) = (l.filter p).map f
  | [] => rfl
  | a :: l => by
    have ih := fm_filter p f l
    cases h : p a with
    | true => rw [List.filterMap_cons, List.filter_cons, h]; simp [ih]
    | false => rw [List.filterMap_cons, List.filter_cons, h]; simp [ih]
theorem seq_new {K : PySem.W.Frag} {H H1 H2 : Hp} {a p : Addr} {xs : List V} (h : SqL K H a xs) (np : H p = none) (s : Same H H1) (k : Kp p H1 H2) : SqL K H2 a xs := by
  rcases h with (h | ⟨o, h⟩) | h
  · exact .inl (.inl (k _ _ (ne_of_none h np) (s _ _ h)))
  · exact .inl (.inr ⟨o, k _ _ (ne_of_none h np) (s _ _ h)⟩)
  · exact .inr h
theorem getD_some {l : List Nat} {i : Nat} (h : i < l.length) : l[i]? = some (l.getD i 0) := by
  rw [List.getD_eq_getElem?_getD, List.getElem?_eq_getElem h]; rfl
theorem getD_mem {l : List Nat} {i : Nat} (h : i < l.length) : l.getD i 0 ∈ l := List.mem_of_getElem? (getD_some h)
end
end NX
namespace NX
open PySem PySem.Spec PyProof.Rows L2
/-! ### the rules with the written part named -/
section
variable {X : Cx} {K : PySem.W.Frag} {a b e l o : Expr} {es rest : List Expr} {ta tb te tl to : TE} {t : TA} {pos apos cpos : Pos} {tg : Expr}
theorem op_addK (K : PySem.W.Frag) (hK : X.K = K := by rfl) : OpR X (binaryOp .Add) (rAddG K) := hK ▸ op_addG
theorem op_eqK (K : PySem.W.Frag) (hu : X.A.units + 64 < cLine) (hK : X.K = K := by rfl) : OpR X (compareOp .Eq) (rEqG K) := hK ▸ op_eqG hu
theorem op_neK (K : PySem.W.Frag) (hu : X.A.units + 64 < cLine) (hK : X.K = K := by rfl) : OpR X (compareOp .NotEq) (rNeG K) := hK ▸ op_neG hu
theorem op_inK (K : PySem.W.Frag) (hK : X.K = K := by rfl) : OpR X (compareOp .In) (rInG K) := hK ▸ op_inG
theorem op_notInK (K : PySem.W.Frag) (hK : X.K = K := by rfl) : OpR X (compareOp .NotIn) (rNotInG K) := hK ▸ op_notInG
theorem sl_K (K : PySem.W.Frag) (hK : X.K = K := by rfl) : SlR X (rSlG K) := hK ▸ sl_G
theorem ix_K (K : PySem.W.Frag) (hK : X.K = K := by rfl) : IxR X (rIx K) := hK ▸ ix_seq
theorem pe_revK (K : PySem.W.Frag) {k : Nat} {p1 p2 p3 : Pos} (he : PE X e te) (hK : X.K = K := by rfl) : PE X (.Subscript e (.Slice none none (some (.UnaryOp .USub (.Constant (.int 1) k p1) p2)) p3) pos) (tRevS K te) := hK ▸ pe_revG he
theorem call_lenK (K : PySem.W.Frag) (hK : X.K = K := by rfl) : CallR X (.builtin "len") (fun xs H Q => ∃ x n, xs = [x] ∧ LenV K x H n ∧ Q (.int n) H) := hK ▸ call_lenG
theorem call_isiK' (K : PySem.W.Frag) (hK : X.K = K := by rfl) : CallR X (.builtin "isinstance") (rIsiG K) := hK ▸ call_isiG
theorem cr_allK (K : PySem.W.Frag) (hc : X.calm = true) (hK : X.K = K := by rfl) : CallR X (.builtin "all") (rAll K) := hK ▸ cr_all hc
theorem cr_anyK (K : PySem.W.Frag) (hc : X.calm = true) (hK : X.K = K := by rfl) : CallR X (.builtin "any") (rAny K) := hK ▸ cr_any hc
theorem pi_K (K : PySem.W.Frag) (hl : PE X l tl) (hK : X.K = K := by rfl) : PI X tg l (iG K tl) := hK ▸ pi_G hl
theorem pe_andK (K : PySem.W.Frag) (ha : PE X a ta) (hb : PE X (.BoolOp .And (b :: rest) pos) tb) (hK : X.K = K := by rfl) : PE X (.BoolOp .And (a :: b :: rest) pos) (tAndT K ta tb) := hK ▸ pe_andT ha hb
theorem pe_orK (K : PySem.W.Frag) (ha : PE X a ta) (hb : PE X (.BoolOp .Or (b :: rest) pos) tb) (hK : X.K = K := by rfl) : PE X (.BoolOp .Or (a :: b :: rest) pos) (tOrT K ta tb) := hK ▸ pe_orT ha hb
theorem pe_notK (K : PySem.W.Frag) (ha : PE X a ta) (hK : X.K = K := by rfl) : PE X (.UnaryOp .Not a pos) (tNotT K ta) := hK ▸ pe_notT ha
def tTru (K : PySem.W.Frag) (ta : TE) : TT := fun σ H Q => ta σ H fun x H' => ∃ k, TruV K x H' k ∧ Q k H'
theorem pt_truK (K : PySem.W.Frag) (ha : PE X a ta) (he : ∀ whole, isTrue a X.env whole = (do let v ← whole; standAt a.pos; holding [v] (truthy v))) (hK : X.K = K := by rfl) : PT X a (tTru K ta) := hK ▸ pt_truth ha he
theorem r_tru {σ : L2.St} {H : Hp} {QB : Bool → Hp → Prop} (h : ta σ H fun x H' => ∃ k, TruV K x H' k ∧ QB k H') : tTru K ta σ H QB := h
theorem pe_joinK (K : PySem.W.Frag) (ho : PE X o to) (he : PE X e te) (hK : X.K = K := by rfl) (hs : starEach [e] X.env = [(false, eval e X.env)] := by rfl) (hbase : attributeBase o "join" X.env (eval o X.env) = eval o X.env := by rfl) (hline : (apos.endLine == pos.line) = true := by rfl) :
    PE X (.Call (.Attribute o "join" apos) [e] [] pos) (tM1 (rJoin K) to te) := hK ▸ pe_join ho he hs hbase hline
theorem pe_bmK (K : PySem.W.Frag) {T id : String} {name : Str} {r : V → List V → Hp → VK → Prop} (pa : PlainAttrs T) (slot : Slot T name id) (hty : typeOf (.builtin id) = pure (.type "method_descriptor")) (hm : MtR X id r) (ho : PE X o to) (ha : PA X (e :: es) t)
    (hK : X.K = K := by rfl) (hbase : attributeBase o name X.env (eval o X.env) = eval o X.env := by rfl)
    (hfew : ((backTo cpos (starEach (e :: es) X.env)).all (fun x => !x.1) && (backToKw cpos (keywordEach [] X.env)).all (fun x => x.1.isSome)
      && decide ((e :: es).length + ([] : List Keyword).length + (if ([] : List Keyword).isEmpty then 0 else 1) < 30)) = true := by rfl)
    (hline : (apos.endLine == cpos.line) = true := by rfl) (hs : starEach (e :: es) X.env = (false, eval e X.env) :: starEach es X.env := by rfl) (hplain : (backTo cpos (starEach es X.env)).any (·.1) = false := by rfl) :
    PE X (.Call (.Attribute o name apos) (e :: es) [] cpos) (tBM K T r to t) := hK ▸ pe_bm pa slot hty hm ho ha hbase hfew hline hs hplain
theorem pe_bm0K (K : PySem.W.Frag) {T id : String} {name : Str} {r : V → List V → Hp → VK → Prop} (pa : PlainAttrs T) (slot : Slot T name id) (hty : typeOf (.builtin id) = pure (.type "method_descriptor")) (hm : MtR X id r) (ho : PE X o to)
    (hK : X.K = K := by rfl) (hbase : attributeBase o name X.env (eval o X.env) = eval o X.env := by rfl) (hline : (apos.endLine == cpos.line) = true := by rfl) : PE X (.Call (.Attribute o name apos) [] [] cpos) (tBM0 K T r to) :=
  hK ▸ pe_bm0 pa slot hty hm ho hbase hline
theorem pg_tupK (K : PySem.W.Frag) {k : Nat} {t : TGs} {n : Nat} (hc : X.calm = true) (h : PGs X es t) (hK : X.K = K := by rfl)
    (hn : (assignEach es X.env).length = n := by rfl) (hst : (assignEach es X.env).findIdx? (·.1) = none := by rfl) : PG X (.Tuple es k pos) (gTup K n t) := hK ▸ pg_tup hc h hn hst
theorem pi_enumK (K : PySem.W.Frag) {ta : TA} {p pos tpos : Pos} {elts : List Expr} {kk : Nat} (hg : Gl X "enumerate") (hm : X.mg "enumerate" = none) (ha : PA X [e] ta) (hK : X.K = K := by rfl) (hs : starEach [e] X.env = [(false, eval e X.env)] := by rfl) :
    PI X (.Tuple elts kk tpos) (.Call (.Name "enumerate" p) [e] [] pos) (iEnum K ta) := hK ▸ pi_enum hg hm ha hs
end
end NX
namespace NX
open PySem PySem.Spec PyProof.Rows L2
section
variable {X : Cx}
/-- repr of what is no object -/
def rpV : V → Str
  | .non => "None"
  | .bl b => if b then "True" else "False"
  | .int i => toString i
  | .str x => reprText x
  | _ => ""
def rpOk : V → Prop
  | .non => True
  | .bl _ => True
  | .int i => i.natAbs.log2 < 1920
  | .str x => (reprText x).length ≤ sizeLine
  | _ => False
def rRepr : List V → Hp → VK → Prop := fun xs H Q => ∃ v, xs = [v] ∧ rpOk v ∧ Q (.str (rpV v)) H
theorem call_reprG : CallR X (.builtin "repr") rRepr := by
  intro pins s σ H xs us Q I r h
  obtain ⟨v, rfl, ok, q⟩ := h
  obtain ⟨u, rfl, rx⟩ := vals1 r
  cases v with
  | non => cases (show u = Value.none from rx); exact PySem.P.repr_of_none ⟨.str _, H, I.tok _, ⟨_, rfl⟩, q⟩
  | bl b => cases (show u = Value.bool b from rx); exact PySem.P.repr_of_bool ⟨.str _, H, I.tok _, ⟨_, rfl⟩, q⟩
  | int i => obtain ⟨t, rfl⟩ := rx; exact PySem.P.repr_of_int ok ⟨.str _, H, I.tok _, ⟨_, rfl⟩, q⟩
  | str x => obtain ⟨t, rfl⟩ := rx; exact PySem.P.repr_of_str (hsz := ok) ⟨.str _, H, I.tok _, ⟨_, rfl⟩, q⟩
  | _ => exact (show False from ok).elim
/-- is -/
def rIsG : R2 := fun x y H Q => (y = .non ∧ Q (.bl (decide (x = .non))) H) ∨ rIsB x y H Q
def rIsNotG : R2 := fun x y H Q => (y = .non ∧ Q (.bl (!decide (x = .non))) H) ∨ rNotB x y H Q
theorem op_isG : OpR X (compareOp .Is) rIsG := by
  intro pins s σ H x y v u Q I rx ry h
  rcases h with h | h
  · exact op_isN pins s σ H x y v u Q I rx ry h
  · exact op_isBl pins s σ H x y v u Q I rx ry h
theorem op_isNotG : OpR X (compareOp .IsNot) rIsNotG := by
  intro pins s σ H x y v u Q I rx ry h
  rcases h with h | h
  · exact op_notN pins s σ H x y v u Q I rx ry h
  · exact op_notBl pins s σ H x y v u Q I rx ry h
variable {K : PySem.W.Frag} {H : Hp} {Q : VK}
theorem r_repr {v : V} (ok : rpOk v) (h : Q (.str (rpV v)) H) : rRepr [v] H Q := ⟨v, rfl, ok, h⟩
theorem r_reprB {b : Bool} (h : Q (.str (rpV (.bl b))) H) : rRepr [.bl b] H Q := ⟨_, rfl, trivial, h⟩
theorem r_eqZZ {a : Str} (h : Q (.bl true) H) : rEqG K (.str a) (.str a) H Q := .inl ⟨rfl, by rw [decide_eq_true rfl]; exact h⟩
theorem r_neZZ {a : Str} (h : Q (.bl false) H) : rNeG K (.str a) (.str a) H Q := .inl ⟨rfl, by rw [decide_eq_true rfl]; exact h⟩
theorem r_isTT {b : Bool} (h : Q (.bl (decide (b = true))) H) : rIsG (.bl b) (.bl true) H Q := .inr ⟨b, true, rfl, rfl, h⟩
theorem r_isT1 (h : Q (.bl true) H) : rIsG (.bl true) (.bl true) H Q := .inr ⟨true, true, rfl, rfl, h⟩
theorem r_isT0 (h : Q (.bl false) H) : rIsG (.bl false) (.bl true) H Q := .inr ⟨false, true, rfl, rfl, h⟩
theorem r_isNN (h : Q (.bl true) H) : rIsG .non .non H Q := .inl ⟨rfl, by simpa using h⟩
theorem r_isSN {s : Str} (h : Q (.bl false) H) : rIsG (.str s) .non H Q := .inl ⟨rfl, by simpa using h⟩
theorem r_isRN {a : Addr} (h : Q (.bl false) H) : rIsG (.ref a) .non H Q := .inl ⟨rfl, by simpa using h⟩
theorem r_isnNN (h : Q (.bl false) H) : rIsNotG .non .non H Q := .inl ⟨rfl, by simpa using h⟩
theorem r_isnSN {s : Str} (h : Q (.bl true) H) : rIsNotG (.str s) .non H Q := .inl ⟨rfl, by simpa using h⟩
theorem r_isnRN {a : Addr} (h : Q (.bl true) H) : rIsNotG (.ref a) .non H Q := .inl ⟨rfl, by simpa using h⟩
end
end NX
namespace NX
/-! ### rows as a group -/
theorem stk_app (a b : List Nat) : stk (a ++ b) = b.foldl push (stk a) := by simp [stk]
theorem snoc_ind {P : List Nat → Prop} (h0 : P []) (h1 : ∀ a c, P a → P (a ++ [c])) (l : List Nat) : P l := by
  have : ∀ n (l : List Nat), l.length = n → P l := by
    intro n
    induction n with
    | zero => intro l h; rw [List.length_eq_zero_iff.mp h]; exact h0
    | succ n ih =>
      intro l h
      have hne : l ≠ [] := by intro e; subst e; simp at h
      rw [← List.dropLast_concat_getLast hne]
      exact h1 _ _ (ih _ (by simp [h]))
  exact this _ l rfl
theorem fold_red {s : List Nat} (hs : FreeS s) (hr : Row s) (b : List Nat) : Row b → b.foldl push s = (red b).foldl push s := by
  induction b using snoc_ind with
  | h0 => intro _; rfl
  | h1 b c ih =>
    intro hb
    obtain ⟨h1, h2⟩ := hb.of_app
    have hc : lett c = true := h2.of_cons.1
    have ih' := ih h1
    rw [List.foldl_append, ih']
    show push ((red b).foldl push s) c = _
    unfold red at *
    rw [stk_snoc]
    cases e : stk b with
    | nil => rfl
    | cons t r =>
      rw [push_cons]
      split
      · rename_i h
        rw [List.reverse_cons, List.foldl_append]
        show push (push _ t) c = _
        rw [h]
        have hrr : Row r := (e ▸ stk_row h1).of_cons.2
        exact push_push' (foldl_free _ hs) (foldl_row hrr.rev hr) hc
      · rw [List.reverse_cons (a := c), List.foldl_append]
        rfl
theorem red_app {a b : List Nat} (ha : Row a) (hb : Row b) : red (a ++ b) = red (red a ++ red b) := by
  have h1 : stk (red a) = stk a := by
    have := red_red ha
    unfold red at this ⊢
    exact List.reverse_inj.mp this
  unfold red
  rw [stk_app, fold_red (stk_free a) (stk_row ha) b hb]
  show _ = (stk (red a ++ red b)).reverse
  rw [stk_app, h1]
/-- freely alike -/
def Eqv (a b : List Nat) : Prop := Row a ∧ Row b ∧ red a = red b
theorem Eqv.refl {a : List Nat} (h : Row a) : Eqv a a := ⟨h, h, rfl⟩
theorem Eqv.symm {a b : List Nat} (h : Eqv a b) : Eqv b a := ⟨h.2.1, h.1, h.2.2.symm⟩
theorem Eqv.trans {a b c : List Nat} (h : Eqv a b) (g : Eqv b c) : Eqv a c := ⟨h.1, g.2.1, h.2.2.trans g.2.2⟩
theorem Eqv.app {a b c d : List Nat} (h : Eqv a b) (g : Eqv c d) : Eqv (a ++ c) (b ++ d) :=
  ⟨h.1.app g.1, h.2.1.app g.2.1, by rw [red_app h.1 g.1, red_app h.2.1 g.2.1, h.2.2, g.2.2]⟩
theorem Eqv.red {a : List Nat} (h : Row a) : Eqv (NX.red a) a := ⟨h.red, h, red_red h⟩
theorem Eqv.self {a : List Nat} (h : Row a) : Eqv (a ++ NX.bak a) [] := ⟨h.app h.bak, Row.nil, red_self h⟩
theorem Eqv.self' {a : List Nat} (h : Row a) : Eqv (NX.bak a ++ a) [] := ⟨h.bak.app h, Row.nil, red_self' h⟩
theorem Eqv.appL {b c : List Nat} (a : List Nat) (ha : Row a) (g : Eqv b c) : Eqv (a ++ b) (a ++ c) := (Eqv.refl ha).app g
theorem Eqv.appR {a b : List Nat} (c : List Nat) (hc : Row c) (g : Eqv a b) : Eqv (a ++ c) (b ++ c) := g.app (Eqv.refl hc)
theorem Eqv.cancelL {a b c : List Nat} (ha : Row a) (hb : Row b) (hc : Row c) (h : Eqv (a ++ b) (a ++ c)) : Eqv b c := by
  have h1 := h.appL (NX.bak a) ha.bak
  rw [← List.append_assoc, ← List.append_assoc] at h1
  have h2 : Eqv (NX.bak a ++ a ++ b) b := by simpa using (Eqv.self' ha).appR b hb
  have h3 : Eqv (NX.bak a ++ a ++ c) c := by simpa using (Eqv.self' ha).appR c hc
  exact h2.symm.trans (h1.trans h3)
theorem Eqv.cancelR {a b c : List Nat} (ha : Row a) (hb : Row b) (hc : Row c) (h : Eqv (b ++ a) (c ++ a)) : Eqv b c := by
  have h1 := h.appR (NX.bak a) ha.bak
  rw [List.append_assoc, List.append_assoc] at h1
  have h2 : Eqv (b ++ (a ++ NX.bak a)) b := by simpa using (Eqv.self ha).appL b hb
  have h3 : Eqv (c ++ (a ++ NX.bak a)) c := by simpa using (Eqv.self ha).appL c hc
  exact h2.symm.trans (h1.trans h3)
/-- a pair within -/
theorem Eqv.mid {a b c : List Nat} (ha : Row a) (hb : Row b) (hc : Row c) : Eqv (a ++ (NX.bak c ++ c) ++ b) (a ++ b) := by
  have := ((Eqv.self' hc).appL a ha).appR b hb
  simpa using this
theorem Eqv.mid' {a b c : List Nat} (ha : Row a) (hb : Row b) (hc : Row c) : Eqv (a ++ (c ++ NX.bak c) ++ b) (a ++ b) := by
  have := ((Eqv.self hc).appL a ha).appR b hb
  simpa using this
/-- backs of alike rows -/
theorem Eqv.bak {a b : List Nat} (h : Eqv a b) : Eqv (NX.bak a) (NX.bak b) := by
  obtain ⟨ha, hb, e⟩ := id h
  refine Eqv.cancelL ha ha.bak hb.bak ?_
  have h1 : Eqv (a ++ NX.bak b) (b ++ NX.bak b) := h.appR _ hb.bak
  exact (Eqv.self ha).trans ((Eqv.self hb).symm.trans h1.symm)
/-- rows that pass by one another -/
def Com (a b : List Nat) : Prop := Eqv (a ++ b) (b ++ a)
theorem Com.symm {a b : List Nat} (h : Com a b) : Com b a := Eqv.symm h
theorem Com.refl {a : List Nat} (h : Row a) : Com a a := Eqv.refl (h.app h)
theorem Com.nil {a : List Nat} (h : Row a) : Com a [] := by unfold Com; simpa using Eqv.refl h
theorem Com.app {a b c : List Nat} (ha : Row a) (hb : Row b) (hc : Row c) (h : Com a b) (g : Com a c) : Com a (b ++ c) := by
  have h1 : Eqv (a ++ b ++ c) (b ++ a ++ c) := Eqv.appR c hc h
  have h2 : Eqv (b ++ (a ++ c)) (b ++ (c ++ a)) := Eqv.appL b hb g
  simp only [List.append_assoc] at h1 h2
  unfold Com
  simp only [List.append_assoc]
  exact h1.trans h2
theorem Com.bak {a b : List Nat} (ha : Row a) (hb : Row b) (h : Com a b) : Com a (NX.bak b) := by
  -- b · (a · b⁻¹) = a = b · (b⁻¹ · a)
  unfold Com
  refine Eqv.cancelL hb (ha.app hb.bak) (hb.bak.app ha) ?_
  have h1 : Eqv (b ++ a ++ NX.bak b) (a ++ b ++ NX.bak b) := Eqv.appR _ hb.bak (Eqv.symm h)
  have h2 : Eqv (a ++ (b ++ NX.bak b)) (a ++ []) := Eqv.appL a ha (Eqv.self hb)
  have h3 : Eqv (b ++ NX.bak b ++ a) ([] ++ a) := Eqv.appR a ha (Eqv.self hb)
  simp only [List.append_assoc, List.append_nil, List.nil_append] at h1 h2 h3 ⊢
  exact h1.trans (h2.trans h3.symm)
theorem repL_succ (l : List Nat) (n : Nat) : repL l (n + 1) = l ++ repL l n := by simp [repL, List.replicate_succ]
theorem repL_zero (l : List Nat) : repL l 0 = [] := rfl
theorem Com.rep {a b : List Nat} (ha : Row a) (hb : Row b) (h : Com a b) : ∀ n, Com a (repL b n)
  | 0 => Com.nil ha
  | n + 1 => by rw [repL_succ]; exact Com.app ha hb (hb.rep n) h (Com.rep ha hb h n)
theorem Com.nil' {a : List Nat} (h : Row a) : Com [] a := (Com.nil h).symm
/-- within one lead -/
theorem Com.conj {a b c : List Nat} (ha : Row a) (hb : Row b) (hc : Row c) (h : Com a b) : Com (c ++ a ++ NX.bak c) (c ++ b ++ NX.bak c) := by
  have key : ∀ {x y : List Nat}, Row x → Row y → Eqv (c ++ x ++ NX.bak c ++ (c ++ y ++ NX.bak c)) (c ++ (x ++ y) ++ NX.bak c) := fun {x y} hx hy => by
    have := Eqv.mid (a := c ++ x) (b := y ++ NX.bak c) (c := c) (hc.app hx) (hy.app hc.bak) hc
    simp only [List.append_assoc] at this ⊢
    exact this
  refine (key ha hb).trans (Eqv.trans ?_ (key hb ha).symm)
  exact (Eqv.appL c hc h).appR _ hc.bak
theorem bak_repL (l : List Nat) : ∀ n, bak (repL l n) = repL (bak l) n
  | 0 => rfl
  | n + 1 => by
    rw [repL_succ, bak_app, bak_repL l n]
    have : ∀ m, repL (bak l) m ++ bak l = bak l ++ repL (bak l) m := by
      intro m
      induction m with
      | zero => simp [repL_zero]
      | succ m ih => rw [repL_succ, List.append_assoc, ih]
    rw [this, ← repL_succ]
/-- a power of i or of its back, within l -/
def PwrIn (i l v : List Nat) : Prop := ∃ u n, (u = i ∨ u = bak i) ∧ n ≤ 5 ∧ v = l ++ repL u n ++ bak l
theorem PwrIn.com {i l v w : List Nat} (hi : Row i) (hl : Row l) (h : PwrIn i l v) (g : PwrIn i l w) : red (v ++ w) = red (w ++ v) := by
  obtain ⟨u, n, hu, _, rfl⟩ := h
  obtain ⟨x, m, hx, _, rfl⟩ := g
  have ru : Row u := by rcases hu with e | e <;> subst e; exact hi; exact hi.bak
  have rx : Row x := by rcases hx with e | e <;> subst e; exact hi; exact hi.bak
  have c0 : Com u x := by
    have c1 : Com i i := Com.refl hi
    have c2 : Com i (bak i) := Com.bak hi hi c1
    rcases hu with e | e <;> rcases hx with e' | e' <;> subst e e'
    · exact c1
    · exact c2
    · exact c2.symm
    · exact Com.refl hi.bak
  have c1 : Com (repL u n) (repL x m) := (Com.rep rx ru (Com.symm (Com.rep ru rx c0 m) |> fun c => by
    exact (Com.symm c0)) n).symm |> fun c => by
      exact Com.rep (ru.rep n) rx c m
  exact (Com.conj (ru.rep n) (rx.rep m) hl c1).2.2
theorem PwrIn.row {i l v : List Nat} (hi : Row i) (hl : Row l) (h : PwrIn i l v) : Row v := by
  obtain ⟨u, n, hu, _, rfl⟩ := h
  have ru : Row u := by rcases hu with e | e <;> subst e; exact hi; exact hi.bak
  exact (hl.app (ru.rep n)).app hl.bak
theorem PwrIn.len {i l v : List Nat} (h : PwrIn i l v) (li : i.length ≤ 8) (ll : l.length ≤ 8) : v.length ≤ 56 := by
  obtain ⟨u, n, hu, hn, rfl⟩ := h
  have lu : u.length ≤ 8 := by rcases hu with e | e <;> subst e; exact li; rw [bak_len]; exact li
  have := Nat.mul_le_mul hn lu
  simp only [List.length_append, repL_len, bak_len]
  omega
end NX
namespace NX
/-! ### the core of a row -/
theorem getD_mem' {l : List Nat} {i : Nat} (h : i < l.length) : l.getD i 0 ∈ l := by
  rw [List.getD_eq_getElem?_getD, List.getElem?_eq_getElem h]; exact List.getElem_mem h
def cstep (l : List Nat) (k : Nat) : Prop := 2 * k + 1 < l.length ∧ l.getD k 0 = swp (l.getD (l.length - 1 - k) 0)
instance (l : List Nat) (k : Nat) : Decidable (cstep l k) := by unfold cstep; exact inferInstance
def csz (l : List Nat) : Nat → Nat → Nat
  | 0, k => k
  | f + 1, k => if cstep l k then csz l f (k + 1) else k
/-- how many characters at the ends face their backs -/
def csize (l : List Nat) : Nat := csz l l.length 0
theorem csz_spec (l : List Nat) : ∀ (f k : Nat), l.length ≤ f + k → (∀ j, j < k → cstep l j) → (∀ j, j < csz l f k → cstep l j) ∧ ¬ cstep l (csz l f k)
  | 0, k, hf, h => ⟨h, fun c => by have h1 : 2 * k + 1 < l.length := c.1; omega⟩
  | f + 1, k, hf, h => by
    unfold csz
    by_cases c : cstep l k
    · rw [if_pos c]
      refine csz_spec l f (k + 1) (by omega) fun j hj => ?_
      by_cases e : j = k
      · rw [e]; exact c
      · exact h j (by omega)
    · rw [if_neg c]; exact ⟨h, c⟩
theorem csize_spec (l : List Nat) : (∀ j, j < csize l → cstep l j) ∧ ¬ cstep l (csize l) := csz_spec l l.length 0 (by omega) fun j hj => absurd hj (by omega)
theorem csize_eq {l : List Nat} {k : Nat} (h : ∀ j, j < k → cstep l j) (h2 : ¬ cstep l k) : csize l = k := by
  obtain ⟨a, b⟩ := csize_spec l
  rcases Nat.lt_trichotomy (csize l) k with c | c | c
  · exact absurd (h _ c) b
  · exact c
  · exact absurd (a _ c) h2
theorem csize_le (l : List Nat) : 2 * csize l ≤ l.length := by
  by_cases h : csize l = 0
  · omega
  · have := ((csize_spec l).1 (csize l - 1) (by omega)).1
    omega
def lead (l : List Nat) : List Nat := l.take (csize l)
def ring (l : List Nat) : List Nat := (l.take (l.length - csize l)).drop (csize l)
theorem Row.lead {l : List Nat} (h : Row l) : Row (lead l) := h.take _
theorem Row.ring {l : List Nat} (h : Row l) : Row (ring l) := (h.take _).drop _
theorem lead_len (l : List Nat) : (lead l).length = csize l := by
  have := csize_le l
  unfold lead; rw [List.length_take]; omega
theorem ring_len (l : List Nat) : (ring l).length = l.length - 2 * csize l := by
  have := csize_le l
  unfold ring; rw [List.length_drop, List.length_take]; omega
theorem getD_take {l : List Nat} {n i : Nat} (h : i < n) : (l.take n).getD i 0 = l.getD i 0 := by
  rw [List.getD_eq_getElem?_getD, List.getD_eq_getElem?_getD, List.getElem?_take_of_lt h]
theorem getD_drop (l : List Nat) (n i : Nat) : (l.drop n).getD i 0 = l.getD (n + i) 0 := by
  rw [List.getD_eq_getElem?_getD, List.getD_eq_getElem?_getD, List.getElem?_drop]
theorem getD_bak {l : List Nat} {i : Nat} (h : i < l.length) : (bak l).getD i 0 = swp (l.getD (l.length - 1 - i) 0) := by
  unfold bak
  rw [List.getD_eq_getElem?_getD, List.getD_eq_getElem?_getD, List.getElem?_map, List.getElem?_reverse h, List.getElem?_eq_getElem (by omega)]
  rfl
theorem ext_getD {a b : List Nat} (hl : a.length = b.length) (h : ∀ i, i < a.length → a.getD i 0 = b.getD i 0) : a = b := by
  apply List.ext_getElem hl
  intro i h1 h2
  have := h i h1
  rw [List.getD_eq_getElem?_getD, List.getD_eq_getElem?_getD, List.getElem?_eq_getElem h1, List.getElem?_eq_getElem h2] at this
  exact this
/-- lead, ring and the back of lead are the row -/
theorem core_join {l : List Nat} (hr : Row l) : lead l ++ ring l ++ bak (lead l) = l := by
  have hc := csize_le l
  have e1 : l = l.take (csize l) ++ ((l.take (l.length - csize l)).drop (csize l) ++ l.drop (l.length - csize l)) := by
    conv => lhs; rw [← List.take_append_drop (l.length - csize l) l, ← List.take_append_drop (csize l) (l.take (l.length - csize l))]
    rw [List.take_take, Nat.min_eq_left (by omega), List.append_assoc]
  have e2 : bak (lead l) = l.drop (l.length - csize l) := by
    apply ext_getD
    · rw [bak_len, lead_len, List.length_drop]; omega
    · intro i hi
      rw [bak_len, lead_len] at hi
      rw [getD_bak (by rw [lead_len]; exact hi), lead_len, getD_drop]
      unfold lead
      rw [getD_take (by omega)]
      have h := ((csize_spec l).1 (csize l - 1 - i) (by omega)).2
      rw [h, swp_swp (hr _ (getD_mem' (by omega)))]
      congr 1; omega
  rw [e2]
  conv => rhs; rw [e1]
  rw [List.append_assoc]; rfl
theorem free_app_l : ∀ {a b : List Nat}, Free (a ++ b) → Free a
  | [], _, _ => trivial
  | [_], _, _ => trivial
  | a :: c :: r, b, h => ⟨h.1, free_app_l (a := c :: r) h.2⟩
theorem free_app_r : ∀ {a b : List Nat}, Free (a ++ b) → Free b
  | [], _, h => h
  | [a], [], _ => trivial
  | [a], _ :: _, h => h.2
  | a :: c :: r, b, h => free_app_r (a := c :: r) h.2
theorem Free.take {l : List Nat} (h : Free l) (n : Nat) : Free (l.take n) := by
  rw [← List.take_append_drop n l] at h; exact free_app_l h
theorem Free.drop {l : List Nat} (h : Free l) (n : Nat) : Free (l.drop n) := by
  rw [← List.take_append_drop n l] at h; exact free_app_r h
theorem free_at : ∀ {l : List Nat} {k : Nat}, Free l → k + 1 < l.length → l.getD (k + 1) 0 ≠ swp (l.getD k 0)
  | [], _, _, h => by simp at h
  | [_], _, _, h => by simp at h
  | a :: b :: r, 0, h, _ => h.1
  | a :: b :: r, k + 1, h, hk => free_at (l := b :: r) (k := k) h.2 (by simpa using hk)
/-- the ring of a free row is a ring row; it is empty for the empty row alone -/
theorem ring_pos {l : List Nat} (hr : Row l) (hf : Free l) (hn : l ≠ []) : 0 < (ring l).length := by
  rw [ring_len]
  have hc := csize_le l
  have hl : 0 < l.length := List.length_pos_iff.mpr hn
  by_cases h0 : csize l = 0
  · omega
  · have h := (csize_spec l).1 (csize l - 1) (by omega)
    by_cases e : l.length = 2 * csize l
    · have h2 := free_at (k := csize l - 1) hf (by omega)
      exfalso
      apply h2
      rw [h.2, swp_swp (hr _ (getD_mem' (by omega)))]
      congr 1; omega
    · omega
theorem getD_ring {l : List Nat} {i : Nat} (h : i < (ring l).length) : (ring l).getD i 0 = l.getD (csize l + i) 0 := by
  rw [ring_len] at h
  unfold ring
  rw [getD_drop, getD_take (by omega)]
theorem ring_ends {l : List Nat} (hr : Row l) (hf : Free l) (hn : 0 < (ring l).length) : (ring l).getD ((ring l).length - 1) 0 ≠ swp ((ring l).getD 0 0) := by
  have h2 := (csize_spec l).2
  have hc := csize_le l
  rw [getD_ring (by omega), getD_ring hn, Nat.add_zero]
  rw [ring_len] at hn ⊢
  intro e
  by_cases h1 : 2 * csize l + 1 < l.length
  · apply h2
    refine ⟨h1, ?_⟩
    have ee : csize l + (l.length - 2 * csize l - 1) = l.length - 1 - csize l := by omega
    rw [ee] at e
    rw [e, swp_swp (hr _ (getD_mem' (by omega)))]
  · have ee : csize l + (l.length - 2 * csize l - 1) = csize l := by omega
    rw [ee] at e
    exact swp_ne (hr _ (getD_mem' (by omega))) e.symm
end NX
namespace NX
open PySem PySem.Spec PyProof.Rows L2
section
variable {K : PySem.W.Frag} {σ : L2.St} {H : Hp} {Q : VK} {D : Ends}
/-- for i, x in enumerate(list) -/
def GoE (K : PySem.W.Frag) (R : It → Hp → Prop) (vs : List V) (H1 : Hp) : Prop := ∃ a xs, vs = [.ref a] ∧ SqL K H1 a xs ∧ R (Ite K a) H1
theorem r_iE {t : TA} {R : It → Hp → Prop} (h : t σ H (GoE K R)) : iEnum K t σ H R := h
theorem r_goE {R : It → Hp → Prop} {p : Addr} {xs : List V} (e : SqL K H p xs) (h : R (Ite K p) H) : GoE K R [.ref p] H := ⟨p, xs, rfl, e, h⟩
theorem for_enum {p : Addr} {xs : List V} {g : TG} {tb : TS} (Pv : Nat → L2.St → Hp → Prop) (h0 : Pv 0 σ H) (hg : ∀ i σ H, i ≤ xs.length → Pv i σ H → SqL K H p xs)
    (hs : ∀ i σ H q, i < xs.length → Pv i σ H → H q = none → g (.ref q) σ (upd H q (.tup [.int (i : Int), xs.getD i .non])) fun σ2 H2 => tb { D with nx := Pv (i + 1), ct := Pv (i + 1), bk := D.nx } σ2 H2)
    (hd : ∀ σ H, Pv xs.length σ H → D.nx σ H) : ForJ g tb D σ (Ite K p) H := by
  refine ⟨fun i m σ H => m = xs.length - i ∧ i ≤ xs.length ∧ Pv i σ H, ⟨_, rfl, Nat.zero_le _, h0⟩, ?_⟩
  rintro i m σ H ⟨rfl, hi, pv⟩
  have q := hg i σ H hi pv
  by_cases hlt : i < xs.length
  · refine .inr ⟨⟨xs, xs[i], q, by simp [hlt]⟩, Pv (i + 1), fun σ' H' p' => ⟨xs.length - (i + 1), by omega, rfl, hlt, p'⟩, fun x H' y => ?_⟩
    obtain ⟨T, z, ex, nT, eH, hz⟩ := y
    subst ex eH
    have e1 := hz xs q
    have e2 : z = xs.getD i .non := by rw [List.getD_eq_getElem?_getD, e1]; rfl
    rw [e2]
    exact hs i σ H T hlt pv nT
  · have e : i = xs.length := by omega
    subst e
    exact .inl ⟨⟨xs, q, Nat.le_refl _⟩, hd σ H pv⟩
theorem map_getD (ls : List (List Nat)) {i : Nat} (h : i < ls.length) : (ls.map T).getD i .non = T (ls.getD i []) := by
  rw [List.getD_eq_getElem?_getD, List.getD_eq_getElem?_getD, List.getElem?_map, List.getElem?_eq_getElem h]; rfl
theorem getD_memL {ls : List (List Nat)} {i : Nat} (h : i < ls.length) : ls.getD i [] ∈ ls := by
  rw [List.getD_eq_getElem?_getD, List.getElem?_eq_getElem h]; exact List.getElem_mem h
theorem flat_len {ls : List (List Nat)} {m : Nat} (h : ∀ l ∈ ls, l.length ≤ m) : ls.flatten.length ≤ ls.length * m := by
  induction ls with
  | nil => simp
  | cons a ls ih =>
    have h1 := h a List.mem_cons_self
    have h2 := ih fun l hl => h l (List.mem_cons_of_mem _ hl)
    rw [List.flatten_cons, List.length_append, List.length_cons, Nat.succ_mul]
    omega
theorem flat_mem_len {ls : List (List Nat)} {l : List Nat} (h : l ∈ ls) : l.length ≤ ls.flatten.length := by
  induction ls with
  | nil => exact nomatch h
  | cons a ls ih =>
    rw [List.flatten_cons, List.length_append]
    rcases List.mem_cons.mp h with e | h
    · rw [e]; omega
    · have := ih h; omega
theorem flat_row {ls : List (List Nat)} (h : ∀ l ∈ ls, Row l) : Row ls.flatten := fun c hc => by
  obtain ⟨l, hl, hc⟩ := List.mem_flatten.mp hc
  exact h l hl c hc
theorem rep_flat (l : List Nat) (n : Nat) : (List.replicate n (T l)) = (List.replicate n l).map T := by simp
theorem rep_flatV (v : V) (n : Nat) : (List.replicate n [v]).flatten = List.replicate n v := by
  induction n with
  | zero => rfl
  | succ n ih => rw [List.replicate_succ, List.flatten_cons, ih]; rfl
end
end NX
namespace NX
theorem flat_eqv {ls ms : List (List Nat)} : ls.length = ms.length → (∀ i, i < ls.length → Eqv (ls.getD i []) (ms.getD i [])) → Eqv ls.flatten ms.flatten := by
  induction ls generalizing ms with
  | nil => intro h _; cases ms with
    | nil => exact Eqv.refl Row.nil
    | cons _ _ => simp at h
  | cons a ls ih =>
    intro h1 h2
    cases ms with
    | nil => simp at h1
    | cons b ms =>
      rw [List.flatten_cons, List.flatten_cons]
      refine Eqv.app (h2 0 (by simp)) (ih (by simpa using h1) fun i hi => ?_)
      exact h2 (i + 1) (by simpa using hi)
theorem bak_flat (ls : List (List Nat)) : bak ls.flatten = (ls.reverse.map bak).flatten := by
  induction ls with
  | nil => rfl
  | cons a ls ih => rw [List.flatten_cons, bak_app, ih, List.reverse_cons, List.map_append, List.flatten_append]; simp
theorem red_bak_comm {l : List Nat} (h : Row l) : red (bak l) = bak (red l) := by
  have h1 : Eqv (bak l) (bak (red l)) := (Eqv.red h).symm.bak
  rw [h1.2.2]
  -- the back of a free row is free
  have hf : Free (bak (red l)) := by
    have hs := stk_free l
    have hr := stk_row h
    have : bak (red l) = (stk l).map swp := by unfold bak red; rw [List.reverse_reverse]
    rw [this]
    generalize stk l = s at hs hr
    clear h h1 this
    induction s with
    | nil => trivial
    | cons a s ih =>
      cases s with
      | nil => trivial
      | cons b s =>
        refine ⟨fun e => hs.1 ?_, ih hs.2 hr.of_cons.2⟩
        have e2 := congrArg swp e
        rw [swp_swp hr.of_cons.2.of_cons.1, swp_swp (swp_lett hr.of_cons.1)] at e2
        exact e2
  exact red_free hf h.red.bak
theorem rep_free {c : Nat} (h : lett c = true) : ∀ n, Free (List.replicate n c)
  | 0 => trivial
  | 1 => trivial
  | n + 2 => ⟨fun e => swp_ne h e.symm, rep_free h (n + 1)⟩
theorem rep_row {c : Nat} (h : lett c = true) (n : Nat) : Row (List.replicate n c) := fun x hx => by rw [(List.mem_replicate.mp hx).2]; exact h
theorem red_rep {c : Nat} (h : lett c = true) (n : Nat) : red (List.replicate n c) = List.replicate n c := red_free (rep_free h n) (rep_row h n)
theorem repL_one' (c n : Nat) : repL [c] n = List.replicate n c := by
  induction n with
  | zero => rfl
  | succ n ih => rw [repL_succ, ih]; rfl
theorem rep_rep (c n m : Nat) : (List.replicate m (List.replicate n c)).flatten = List.replicate (m * n) c := by
  induction m with
  | zero => simp
  | succ m ih => rw [List.replicate_succ, List.flatten_cons, ih, List.replicate_append_replicate, Nat.succ_mul, Nat.add_comm]
end NX
namespace NX
/-! ### rotations -/
def rot (l : List Nat) (i : Nat) : List Nat := l.drop i ++ l.take i
theorem rot_len (l : List Nat) (i : Nat) : (rot l i).length = l.length := by
  unfold rot; rw [List.length_append, List.length_drop, List.length_take]; omega
theorem rot_zero (l : List Nat) : rot l 0 = l := by simp [rot]
theorem rot_all (l : List Nat) : rot l l.length = l := by simp [rot]
theorem rot_rot (l : List Nat) {i j : Nat} (h : i + j ≤ l.length) : rot (rot l i) j = rot l (i + j) := by
  unfold rot
  rw [List.drop_append_of_le_length (by rw [List.length_drop]; omega), List.take_append_of_le_length (by rw [List.length_drop]; omega), List.drop_drop, List.append_assoc]
  congr 1
  rw [List.take_add]
theorem rot_mul {l : List Nat} {p : Nat} (h : rot l p = l) : ∀ q, q * p ≤ l.length → rot l (q * p) = l
  | 0, _ => by rw [Nat.zero_mul]; exact rot_zero l
  | q + 1, hq => by
    rw [Nat.succ_mul] at hq ⊢
    rw [← rot_rot l hq, rot_mul h q (by omega), h]
/-- the first turn that gives the row back -/
def IsPer (l : List Nat) (p : Nat) : Prop := 0 < p ∧ p ≤ l.length ∧ rot l p = l ∧ ∀ k, 0 < k → k < p → rot l k ≠ l
theorem isPer_exists {l : List Nat} (h : 0 < l.length) : ∃ p, IsPer l p := by
  have key : ∀ n, n ≤ l.length → (∃ p, IsPer l p) ∨ ∀ k, 0 < k → k ≤ n → rot l k ≠ l := by
    intro n
    induction n with
    | zero => intro _; exact .inr fun k h1 h2 => by omega
    | succ n ih =>
      intro hn
      rcases ih (by omega) with h1 | h1
      · exact .inl h1
      · by_cases e : rot l (n + 1) = l
        · exact .inl ⟨n + 1, by omega, hn, e, fun k a b => h1 k a (by omega)⟩
        · refine .inr fun k a b => ?_
          by_cases e2 : k = n + 1
          · rw [e2]; exact e
          · exact h1 k a (by omega)
  rcases key l.length (Nat.le_refl _) with h1 | h1
  · exact h1
  · exact absurd (rot_all l) (h1 _ h (Nat.le_refl _))
theorem IsPer.dvd {l : List Nat} {p d : Nat} (h : IsPer l p) (hd : d ≤ l.length) (e : rot l d = l) : p ∣ d := by
  obtain ⟨h0, h1, h2, h3⟩ := h
  have hdm := Nat.div_add_mod d p
  have hm := Nat.mod_lt d h0
  have hq : (d / p) * p ≤ l.length := by rw [Nat.mul_comm]; omega
  have e2 := rot_mul h2 (d / p) hq
  have e3 : rot l (d % p) = l := by
    have := rot_rot l (i := d / p * p) (j := d % p) (by rw [Nat.mul_comm]; omega)
    rw [e2] at this
    rw [this, Nat.mul_comm, hdm, e]
  have h4 : ¬ 0 < d % p := fun h5 => h3 _ h5 hm e3
  exact Nat.dvd_of_mod_eq_zero (by omega)
theorem IsPer.dvd_len {l : List Nat} {p : Nat} (h : IsPer l p) : p ∣ l.length := h.dvd (Nat.le_refl _) (rot_all l)
theorem IsPer.uniq {l : List Nat} {p q : Nat} (h : IsPer l p) (g : IsPer l q) : p = q := Nat.dvd_antisymm (h.dvd g.2.1 g.2.2.1) (g.dvd h.2.1 h.2.2.1)
theorem repL_take {l : List Nat} {p : Nat} (h : rot l p = l) : ∀ k, k * p ≤ l.length → l.take (k * p) = repL (l.take p) k
  | 0, _ => by simp [repL_zero]
  | k + 1, hk => by
    rw [Nat.succ_mul] at hk
    have e1 : l.take ((k + 1) * p) = l.take p ++ (l.drop p).take (k * p) := by rw [Nat.succ_mul, Nat.add_comm, List.take_add]
    have e2 : (l.drop p).take (k * p) = l.take (k * p) := by
      conv => rhs; rw [← h]
      unfold rot
      rw [List.take_append_of_le_length (by rw [List.length_drop]; omega)]
    rw [e1, e2, repL_take h k (by omega), repL_succ]
theorem IsPer.rep {l : List Nat} {p : Nat} (h : IsPer l p) : repL (l.take p) (l.length / p) = l := by
  have e := Nat.div_mul_cancel h.dvd_len
  rw [← repL_take h.2.2.1 _ (by rw [e]; exact Nat.le_refl _), e, List.take_length]
theorem repL_snoc (l : List Nat) : ∀ n, repL l n ++ l = repL l (n + 1)
  | 0 => by simp [repL_succ, repL_zero]
  | n + 1 => by rw [repL_succ, List.append_assoc, repL_snoc l n, ← repL_succ]
theorem rot_repL (l : List Nat) (n : Nat) : rot (repL l n) l.length = repL l n := by
  cases n with
  | zero => rw [repL_zero]; unfold rot; simp
  | succ n =>
    conv => rhs; rw [← repL_snoc]
    unfold rot
    rw [repL_succ, List.drop_left, List.take_left]
theorem repL_mul (l : List Nat) (n : Nat) : ∀ m, repL (repL l n) m = repL l (n * m)
  | 0 => by rw [Nat.mul_zero, repL_zero, repL_zero]
  | m + 1 => by
    rw [repL_succ, repL_mul l n m, Nat.mul_succ]
    unfold repL
    rw [← List.flatten_append, List.replicate_append_replicate, Nat.add_comm]
theorem repL_len' (l : List Nat) (n : Nat) : (repL l n).length = n * l.length := repL_len l n
/-- rows turned around -/
def Turn (R S : List Nat) : Prop := ∃ A B, R = A ++ B ∧ S = B ++ A
theorem Turn.refl (R : List Nat) : Turn R R := ⟨[], R, rfl, by simp⟩
theorem Turn.symm {R S : List Nat} (h : Turn R S) : Turn S R := by obtain ⟨A, B, h1, h2⟩ := h; exact ⟨B, A, h2, h1⟩
theorem Turn.trans {R S U : List Nat} (h : Turn R S) (g : Turn S U) : Turn R U := by
  obtain ⟨A, B, rfl, rfl⟩ := h
  obtain ⟨C, D, e, rfl⟩ := g
  rcases List.append_eq_append_iff.mp e with ⟨E, rfl, rfl⟩ | ⟨E, rfl, rfl⟩
  · exact ⟨E, D ++ B, by simp, by simp⟩
  · exact ⟨A ++ C, E, by simp, by simp⟩
theorem Turn.len {R S : List Nat} (h : Turn R S) : R.length = S.length := by obtain ⟨A, B, rfl, rfl⟩ := h; simp [Nat.add_comm]
theorem Turn.rot {R S : List Nat} (h : Turn R S) : ∃ i, i ≤ R.length ∧ S = NX.rot R i := by
  obtain ⟨A, B, rfl, rfl⟩ := h
  refine ⟨A.length, by simp, ?_⟩
  unfold NX.rot
  rw [List.drop_left, List.take_left]
theorem turn_rot (R : List Nat) (i : Nat) : Turn R (rot R i) := ⟨R.take i, R.drop i, (List.take_append_drop i R).symm, rfl⟩
theorem Turn.row {R S : List Nat} (h : Turn R S) (hr : Row R) : Row S := by
  obtain ⟨A, B, rfl, rfl⟩ := h; exact hr.of_app.2.app hr.of_app.1
/-- the turns of a row that gives itself back by d -/
theorem Turn.back {R S : List Nat} (h : Turn R S) {d : Nat} (hd : d ≤ R.length) (e : NX.rot R d = R) : NX.rot S d = S := by
  obtain ⟨i, hi, rfl⟩ := h.rot
  by_cases c : i + d ≤ R.length
  · rw [rot_rot R c, Nat.add_comm, ← rot_rot R (by omega), e]
  · have e1 : i + (R.length - i) = R.length := by omega
    have e2 : NX.rot (NX.rot R i) d = NX.rot (NX.rot (NX.rot R i) (R.length - i)) (d - (R.length - i)) := by
      rw [rot_rot (NX.rot R i) (by rw [rot_len]; omega)]
      congr 1; omega
    rw [e2, rot_rot R (by omega), e1, rot_all]
    -- rot R (d + i - n) = rot R i
    have e3 : NX.rot (NX.rot R d) (R.length - d) = R := by rw [rot_rot R (by omega), show d + (R.length - d) = R.length by omega, rot_all]
    rw [e] at e3
    have e4 : NX.rot R (d - (R.length - i)) = NX.rot (NX.rot R (R.length - d)) (d - (R.length - i)) := by rw [e3]
    rw [e4, rot_rot R (by omega)]
    congr 1; omega
theorem Turn.per {R S : List Nat} (h : Turn R S) {p : Nat} (hp : IsPer R p) : IsPer S p :=
  ⟨hp.1, by rw [← h.len]; exact hp.2.1, h.back hp.2.1 hp.2.2.1, fun k a b c => hp.2.2.2 k a b (h.symm.back (by have := h.len; have := hp.2.1; omega) c)⟩
/-! ### ring rows -/
theorem free_glue : ∀ {a b c : List Nat}, Free (a ++ b) → Free (b ++ c) → b ≠ [] → Free (a ++ (b ++ c))
  | [], _, _, _, h, _ => h
  | [x], [], _, _, _, hb => absurd rfl hb
  | [x], y :: b, c, h1, h2, _ => ⟨h1.1, h2⟩
  | x :: z :: a, b, c, h1, h2, hb => ⟨h1.1, free_glue (a := z :: a) h1.2 h2 hb⟩
theorem free_join : ∀ {a b : List Nat} {c d : Nat}, Free (a ++ [c]) → Free (d :: b) → d ≠ swp c → Free (a ++ [c] ++ d :: b) := fun {a b c d} h1 h2 h3 => by
  rw [List.append_assoc]
  exact free_glue (a := a) (b := [c]) (c := d :: b) h1 ⟨h3, h2⟩ (by simp)
def Cy (R : List Nat) : Prop := Row R ∧ Free (R ++ R)
theorem Cy.free {R : List Nat} (h : Cy R) : Free R := free_app_l h.2
theorem cy_nil : Cy [] := ⟨Row.nil, trivial⟩
theorem Cy.turn {R S : List Nat} (h : Cy R) (t : Turn R S) : Cy S := by
  refine ⟨t.row h.1, ?_⟩
  obtain ⟨A, B, rfl, rfl⟩ := t
  by_cases c : A ++ B = []
  · obtain ⟨rfl, rfl⟩ := List.append_eq_nil_iff.mp c; trivial
  · have h3 := free_glue h.2 h.2 c
    have : (A ++ B) ++ ((A ++ B) ++ (A ++ B)) = A ++ ((B ++ A ++ (B ++ A)) ++ B) := by simp
    rw [this] at h3
    exact free_app_l (free_app_r h3)
theorem cy_of {R : List Nat} (hr : Row R) (hf : Free R) (h : 0 < R.length → R.getD (R.length - 1) 0 ≠ swp (R.getD 0 0)) : Cy R := by
  refine ⟨hr, ?_⟩
  cases hR : R with
  | nil => trivial
  | cons d b =>
    have hne : R ≠ [] := by rw [hR]; simp
    obtain ⟨a, c, e⟩ : ∃ a c, R = a ++ [c] := ⟨R.dropLast, R.getLast hne, (List.dropLast_concat_getLast hne).symm⟩
    have h0 : 0 < R.length := by rw [hR]; simp
    have h1 := h h0
    have e1 : R.getD (R.length - 1) 0 = c := by rw [e]; simp
    have e2 : R.getD 0 0 = d := by rw [hR]; rfl
    rw [e1, e2] at h1
    rw [← hR]
    conv => rhs; lhs; rw [e]
    conv => rhs; rhs; rw [hR]
    refine free_join (by rw [← e]; exact hf) (by rw [← hR]; exact hf) ?_
    intro e3
    apply h1
    rw [e3, swp_swp (hr c (by rw [e]; simp))]
theorem cy_ring {f : List Nat} (hr : Row f) (hf : Free f) : Cy (ring f) :=
  cy_of hr.ring ((hf.take _).drop _) fun h => ring_ends hr hf h
theorem free_bak {l : List Nat} (hr : Row l) (hf : Free l) : Free (bak l) := by
  have h := red_bak_comm hr
  rw [red_free hf hr] at h
  rw [← h]; exact free_red hr.bak
/-- rows alike up to a lead: their ring rows are turns of one another -/
theorem conj : ∀ (n : Nat) (x R S : List Nat), x.length = n → Row x → Free x → Cy R → Cy S → Eqv (x ++ R ++ bak x) S → Turn R S
  | 0, x, R, S, hn, _, _, hR, hS, h => by
    rw [List.length_eq_zero_iff.mp hn] at h
    have e := h.2.2
    rw [show bak [] = [] from rfl, List.append_nil, List.nil_append, red_free hR.free hR.1, red_free hS.free hS.1] at e
    rw [e]; exact Turn.refl _
  | n + 1, x, R, S, hn, hx, fx, hR, hS, h => by
    have hne : x ≠ [] := by intro e; subst e; simp at hn
    obtain ⟨y, c, rfl⟩ : ∃ y c, x = y ++ [c] := ⟨x.dropLast, x.getLast hne, (List.dropLast_concat_getLast hne).symm⟩
    have hy : Row y := hx.of_app.1
    have hc : lett c = true := hx.of_app.2.of_cons.1
    have hcr : Row [c] := Row.one hc
    have hsr : Row [swp c] := Row.one (swp_lett hc)
    have hny : y.length = n := by simpa using hn
    have eb : bak (y ++ [c]) = [swp c] ++ bak y := by simp [bak]
    have fy : Free y := free_app_l fx
    have pr : ∀ {a b : List Nat}, Row a → Row b → Eqv (a ++ ([c] ++ [swp c]) ++ b) (a ++ b) := fun {a b} ha hb => Eqv.mid' (c := [c]) ha hb hcr
    have pr' : ∀ {a b : List Nat}, Row a → Row b → Eqv (a ++ ([swp c] ++ [c]) ++ b) (a ++ b) := fun {a b} ha hb => by
      have := Eqv.mid' (c := [swp c]) ha hb hsr
      rw [show bak [swp c] = [c] by simp [bak, swp_swp hc]] at this
      exact this
    by_cases hR0 : R = []
    · subst hR0
      have h1 : Eqv (y ++ [c] ++ [] ++ bak (y ++ [c])) [] := by rw [List.append_nil]; exact Eqv.self hx
      have e := (h1.symm.trans h).2.2
      rw [red_nil, red_free hS.free hS.1] at e
      rw [← e]; exact Turn.refl _
    obtain ⟨d, R', eR⟩ : ∃ d R', R = d :: R' := by
      cases R with
      | nil => exact absurd rfl hR0
      | cons d R' => exact ⟨d, R', rfl⟩
    obtain ⟨R2, z, eR2⟩ : ∃ R2 z, R = R2 ++ [z] := ⟨R.dropLast, R.getLast hR0, (List.dropLast_concat_getLast hR0).symm⟩
    by_cases c1 : d = swp c
    · have t : Turn R (R' ++ [d]) := ⟨[d], R', by rw [eR]; rfl, rfl⟩
      refine t.trans (conj n y (R' ++ [d]) S hny hy fy (hR.turn t) hS ?_)
      have hR' : Row R' := (eR ▸ hR.1).of_cons.2
      have := pr (a := y) (b := R' ++ ([swp c] ++ bak y)) hy (hR'.app (hsr.app hy.bak))
      rw [eb, eR, c1] at h
      rw [c1]
      simp only [List.append_assoc, List.cons_append, List.nil_append] at this h ⊢
      exact this.symm.trans h
    by_cases c2 : z = c
    · have t : Turn R ([z] ++ R2) := ⟨R2, [z], eR2, rfl⟩
      refine t.trans (conj n y ([z] ++ R2) S hny hy fy (hR.turn t) hS ?_)
      have hR' : Row R2 := (eR2 ▸ hR.1).of_app.1
      have := pr (a := y ++ ([c] ++ R2)) (b := bak y) (hy.app (hcr.app hR')) hy.bak
      rw [eb, eR2, c2] at h
      rw [c2]
      simp only [List.append_assoc, List.cons_append, List.nil_append] at this h ⊢
      exact this.symm.trans h
    -- the whole is free
    exfalso
    have hz : lett z = true := hR.1 z (by rw [eR2]; simp)
    have f1 : Free (y ++ [c] ++ R) := by rw [eR]; exact free_join fx (eR ▸ hR.free) c1
    have fb := free_bak hx fx
    have f2 : Free (R ++ bak (y ++ [c])) := by
      rw [eb] at fb ⊢
      rw [eR2]
      refine free_join (d := swp c) (by rw [← eR2]; exact hR.free) fb ?_
      intro e
      have := congrArg swp e
      rw [swp_swp hc, swp_swp hz] at this
      exact c2 this.symm
    have f3 : Free (y ++ [c] ++ (R ++ bak (y ++ [c]))) := free_glue f1 f2 hR0
    have e := h.2.2
    rw [List.append_assoc, red_free f3 (hx.app (hR.1.app hx.bak)), red_free hS.free hS.1] at e
    have h2 := hS.2
    rw [← e] at h2
    obtain ⟨a, x', ex⟩ : ∃ a x', y ++ [c] = a :: x' := by
      cases hh : y ++ [c] with
      | nil => exact absurd hh hne
      | cons a x' => exact ⟨a, x', rfl⟩
    rw [ex] at h2 hx
    have ha : lett a = true := hx.of_cons.1
    have e5 : bak (a :: x') = bak x' ++ [swp a] := by simp [bak]
    rw [e5] at h2
    have e6 : a :: x' ++ (R ++ (bak x' ++ [swp a])) ++ (a :: x' ++ (R ++ (bak x' ++ [swp a]))) = (a :: x' ++ (R ++ bak x')) ++ (swp a :: a :: (x' ++ (R ++ (bak x' ++ [swp a])))) := by simp
    rw [e6] at h2
    have h7 := (free_app_r h2).1
    exact h7 (swp_swp ha).symm
theorem conj' {x R S : List Nat} (hx : Row x) (hR : Cy R) (hS : Cy S) (h : Eqv (x ++ R ++ bak x) S) : Turn R S := by
  refine conj _ (red x) R S rfl hx.red (free_red hx) hR hS (Eqv.trans ?_ h)
  have h1 := Eqv.red hx
  exact (h1.appR R hR.1).app h1.bak
end NX
namespace NX
open PySem PySem.Spec PyProof.Rows L2
open Builtin Builtin.Str
/-! ### a text within a text -/
def AtL (l m : List Nat) (i : Nat) : Prop := i + m.length ≤ l.length ∧ (l.drop i).take m.length = m
theorem at_mkS (l m : List Nat) (i : Nat) : StrLaws.At (mkS l) (mkS m) (mkS l).length i ↔ AtL l m i := by
  unfold StrLaws.At AtL
  rw [StrLaws.subAt_eq, mkS_len, mkS_len, beq_iff_eq]; rfl
theorem find_mk (l m : List Nat) : (Txt.find (mkS l) (mkS m) = -1 ∧ ∀ i, ¬ AtL l m i) ∨ ∃ i : Nat, Txt.find (mkS l) (mkS m) = (i : Int) ∧ AtL l m i ∧ ∀ k, k < i → ¬ AtL l m k := by
  rcases find_whole (mkS l) (mkS m) with ⟨h, g⟩ | ⟨i, h, g, f⟩
  · exact .inl ⟨h, fun i hi => g i ((at_mkS l m i).mpr hi)⟩
  · exact .inr ⟨i, h, (at_mkS l m i).mp g, fun k hk hi => f k hk ((at_mkS l m k).mpr hi)⟩
theorem subS_mk (l m : List Nat) : subS (mkS l) (mkS m) = true ↔ ∃ i, AtL l m i := by
  unfold subS
  rw [StrLaws.found_iff]
  exact ⟨fun ⟨i, h⟩ => ⟨i, (at_mkS l m i).mp h⟩, fun ⟨i, h⟩ => ⟨i, (at_mkS l m i).mpr h⟩⟩
theorem range1_split {n a : Nat} {pre post : List Nat} (h : List.range' 1 n = pre ++ a :: post) : ∀ k, 0 < k → k < a → k ∈ pre := by
  intro k hk0 hk
  have hL : n = pre.length + (post.length + 1) := by
    have := congrArg List.length h
    simpa using this
  have hlen : 1 + pre.length = a := by
    have h1 : (List.range' 1 n)[pre.length]? = some a := by rw [h]; simp
    rw [List.getElem?_range' (by omega)] at h1
    have := Option.some.inj h1
    omega
  have h2 : (List.range' 1 n)[k - 1]? = pre[k - 1]? := by rw [h, List.getElem?_append_left (by omega)]
  rw [List.getElem?_range' (by omega)] at h2
  have h3 : pre[k - 1]? = some k := by rw [← h2]; congr 1; omega
  exact List.mem_of_getElem? h3
theorem indexFrom_mk {l m : List Nat} {p : Nat} (h0 : 0 < p) (hp : AtL l m p) (hn : ∀ k, 0 < k → k < p → ¬ AtL l m k) : Txt.indexFrom (mkS l) (mkS m) 1 = some p := by
  unfold Txt.indexFrom
  have e1 : fromIndex (mkS l).length 1 = 1 := by unfold fromIndex; rw [if_neg (by omega)]; rfl
  rw [e1, StrLaws.occ_eq]
  have hl : p < 1 + ((mkS l).length + 1 - 1) := by have := hp.1; rw [mkS_len]; omega
  rcases StrLaws.occ_first (mkS l) (mkS m) (mkS l).length 1 (Nat.le_refl 1) (List.range' 1 ((mkS l).length + 1 - 1)) 1 (fun i hi => by rw [List.mem_range'_1] at hi; exact hi.1) with ⟨_, hn2⟩ | ⟨pre, a, post, e, h1, ha, hn2⟩
  · exact absurd ((at_mkS l m p).mpr hp) (hn2 p (by rw [List.mem_range'_1]; omega))
  · have ha1 : a ∈ List.range' 1 ((mkS l).length + 1 - 1) := by rw [e]; simp
    rw [List.mem_range'_1] at ha1
    have eap : a = p := by
      rcases Nat.lt_trichotomy a p with c | c | c
      · exact absurd ((at_mkS l m a).mp ha) (hn a (by omega) c)
      · exact c
      · exact absurd ((at_mkS l m p).mpr hp) (hn2 p (range1_split e p h0 c))
    generalize (forIn (List.range' 1 ((mkS l).length + 1 - 1)) ((#[] : Array Nat), 1) (StrLaws.occBody (mkS l) (mkS m) (mkS l).length 1)).run.fst = arr at h1
    have h2 : arr.toList[0]? = some a := by simpa using h1
    cases hL : arr.toList with
    | nil => rw [hL] at h2; cases h2
    | cons b t => rw [hL] at h2; simp at h2; rw [h2, eap]; rfl
section
variable {X : Cx}
/-- s.index(y, i), found -/
def rIndexF : V → List V → Hp → VK → Prop := fun x xs H Q => ∃ (a b : Str) (i : Int) (k : Nat), x = .str a ∧ xs = [.str b, .int i] ∧ Txt.indexFrom a b i = some k ∧ Q (.int k) H
theorem mt_indexF : MtR X "str.index" rIndexF := by
  intro pins s σ H x xs v us Q I rx rs h
  obtain ⟨a, b, i, k, rfl, rfl, hk, hy⟩ := h
  obtain ⟨t, rfl⟩ := rx
  cases rs with
  | cons r1 rs =>
    cases rs with
    | cons r2 rs =>
      cases rs
      obtain ⟨u, rfl⟩ := r1
      obtain ⟨z, rfl⟩ := r2
      cases q : Builtin.Str.occurrences a b (PySem.fromIndex a.length i) a.length 1 with
      | nil => unfold Txt.indexFrom at hk; rw [q] at hk; cases hk
      | cons k' rest =>
        unfold Txt.indexFrom at hk; rw [q] at hk
        have e : k' = k := by simpa using hk
        subst e
        exact call_gives PySem.F.slot_str_index (typeIs_str _ _ _) PySem.F.entry_str_index (PySem.F.args_str_index_3 _ _ _) (gives_str_index_from a b i t u z k' rest q) ⟨.int (k' : Nat), H, I.tok _, ⟨_, rfl⟩, hy⟩
end
section
variable {K : PySem.W.Frag} {H : Hp} {Q : VK} {σ : L2.St} {ta tb tc : TE} {r r' : R2}
theorem r_indexF {l m : List Nat} {p : Nat} (h0 : 0 < p) (hp : AtL l m p) (hn : ∀ k, 0 < k → k < p → ¬ AtL l m k) (h : Q (.int (p : Nat)) H) : rIndexF (T l) [T m, .int 1] H Q := ⟨mkS l, mkS m, 1, p, rfl, rfl, indexFrom_mk h0 hp hn, h⟩
theorem r_inT {l m : List Nat} (h : Q (.bl (subS (mkS l) (mkS m))) H) : rInG K (T m) (T l) H Q := .inl ⟨mkS m, mkS l, rfl, rfl, h⟩
theorem r_notinT {l m : List Nat} (h : Q (.bl (!subS (mkS l) (mkS m))) H) : rNotInG K (T m) (T l) H Q := .inl ⟨mkS m, mkS l, rfl, rfl, h⟩
theorem r_chain (h : ta σ H fun x H1 => tb σ H1 fun y H2 => r x y H2 fun z H3 => ∃ k, z = .bl k ∧ (if k = true then tc σ H3 fun w' H4 => r' y w' H4 Q else Q (.bl false) H3)) : tChain r r' ta tb tc σ H Q := h
/-- (text, number) -/
theorem r_eqSI {p q : Addr} {a b : List Nat} {i j : Int} (h1 : SqT K H p [T a, .int i]) (h2 : SqT K H q [T b, .int j]) (ha : Asc a) (hb : Asc b) (h : Q (.bl (decide (a = b ∧ i = j))) H) : rEqG K (.ref p) (.ref q) H Q := by
  have lay : ∀ {l : List Nat} {n : Int}, Asc l → PyData.canLayAll0 [PyData.str (mkS l), .int n] = true := fun {l n} hl => by
    show (PyData.strOk (mkS l) && (true && true)) = true
    rw [strOk_mk hl]; rfl
  refine r_eqD (d := .tuple [.str (mkS a), .int i]) (e := .tuple [.str (mkS b), .int j]) (dp_allT (.cons (.str _) (.cons (.int _) .nil)) h1) (dp_allT (.cons (.str _) (.cons (.int _) .nil)) h2) (shaped_tup (lay ha) (by show (0:Nat) ≤ 60; decide)) (shaped_tup (lay hb) (by show (0:Nat) ≤ 60; decide)) (by rfl) (by rfl) ?_ h
  rw [PyData.tuple.injEq]
  constructor
  · intro e
    simp only [List.cons.injEq, PyData.str.injEq, PyData.int.injEq, and_true] at e
    exact ⟨mkS_inj e.1, e.2⟩
  · rintro ⟨rfl, rfl⟩; rfl
theorem r_neSI {p q : Addr} {a b : List Nat} {i j : Int} (h1 : SqT K H p [T a, .int i]) (h2 : SqT K H q [T b, .int j]) (ha : Asc a) (hb : Asc b) (h : Q (.bl (!decide (a = b ∧ i = j))) H) : rNeG K (.ref p) (.ref q) H Q := by
  have lay : ∀ {l : List Nat} {n : Int}, Asc l → PyData.canLayAll0 [PyData.str (mkS l), .int n] = true := fun {l n} hl => by
    show (PyData.strOk (mkS l) && (true && true)) = true
    rw [strOk_mk hl]; rfl
  refine r_neD (d := .tuple [.str (mkS a), .int i]) (e := .tuple [.str (mkS b), .int j]) (dp_allT (.cons (.str _) (.cons (.int _) .nil)) h1) (dp_allT (.cons (.str _) (.cons (.int _) .nil)) h2) (shaped_tup (lay ha) (by show (0:Nat) ≤ 60; decide)) (shaped_tup (lay hb) (by show (0:Nat) ≤ 60; decide)) (by rfl) (by rfl) ?_ h
  rw [PyData.tuple.injEq]
  constructor
  · intro e
    simp only [List.cons.injEq, PyData.str.injEq, PyData.int.injEq, and_true] at e
    exact ⟨mkS_inj e.1, e.2⟩
  · rintro ⟨rfl, rfl⟩; rfl
end
end NX
namespace NX
/-! ### cores of what is made of a lead and a ring row -/
theorem csize_of {L P : List Nat} (hL : Row L) (hP : Cy P) (h0 : P ≠ []) : csize (L ++ P ++ bak L) = L.length := by
  have hlen : (L ++ P ++ bak L).length = 2 * L.length + P.length := by simp only [List.length_append, bak_len]; omega
  have hp : 0 < P.length := List.length_pos_iff.mpr h0
  have g1 : ∀ j, j < L.length → (L ++ P ++ bak L).getD j 0 = L.getD j 0 := fun j hj => by
    rw [List.append_assoc, List.getD_eq_getElem?_getD, List.getD_eq_getElem?_getD, List.getElem?_append_left hj]
  have g2 : ∀ j, j < P.length → (L ++ P ++ bak L).getD (L.length + j) 0 = P.getD j 0 := fun j hj => by
    rw [List.append_assoc, List.getD_eq_getElem?_getD, List.getD_eq_getElem?_getD, List.getElem?_append_right (by omega), List.getElem?_append_left (by omega)]
    congr 2; omega
  have g3 : ∀ j, j < L.length → (L ++ P ++ bak L).getD (L.length + P.length + j) 0 = (bak L).getD j 0 := fun j hj => by
    rw [List.getD_eq_getElem?_getD, List.getD_eq_getElem?_getD, List.getElem?_append_right (by simp only [List.length_append]; omega)]
    congr 2; simp only [List.length_append]; omega
  refine csize_eq (fun j hj => ⟨by rw [hlen]; omega, ?_⟩) ?_
  · have e : (L ++ P ++ bak L).length - 1 - j = L.length + P.length + (L.length - 1 - j) := by rw [hlen]; omega
    rw [e, g3 _ (by omega), g1 j hj, getD_bak (by omega), swp_swp (hL _ (getD_mem' (by omega)))]
    congr 1; omega
  · rintro ⟨h1, h2⟩
    rw [hlen] at h1
    have e : (L ++ P ++ bak L).length - 1 - L.length = L.length + (P.length - 1) := by rw [hlen]; omega
    rw [e, g2 _ (by omega), show L.length = L.length + 0 from rfl, g2 0 hp] at h2
    obtain ⟨d, b, e1⟩ : ∃ d b, P = d :: b := by
      cases P with
      | nil => exact absurd rfl h0
      | cons d b => exact ⟨d, b, rfl⟩
    obtain ⟨a, c, e2⟩ : ∃ a c, P = a ++ [c] := ⟨P.dropLast, P.getLast h0, (List.dropLast_concat_getLast h0).symm⟩
    have ea : P.getD 0 0 = d := by rw [e1]; rfl
    have eb : P.getD (P.length - 1) 0 = c := by rw [e2]; simp
    rw [ea, eb] at h2
    have hf := hP.2
    have : P ++ P = a ++ (c :: d :: b) := by conv => lhs; lhs; rw [e2]
                                             conv => lhs; rhs; rw [e1]
                                             simp
    rw [this] at hf
    exact (free_app_r hf).1 h2
theorem lead_of {L P : List Nat} (hL : Row L) (hP : Cy P) (h0 : P ≠ []) : lead (L ++ P ++ bak L) = L := by
  unfold lead
  rw [csize_of hL hP h0, List.append_assoc, List.take_left]
theorem ring_of {L P : List Nat} (hL : Row L) (hP : Cy P) (h0 : P ≠ []) : ring (L ++ P ++ bak L) = P := by
  unfold ring
  rw [csize_of hL hP h0]
  have : (L ++ P ++ bak L).length - L.length = (L ++ P).length := by simp only [List.length_append, bak_len]; omega
  rw [this, List.take_left, List.drop_left]
theorem lead_nil : lead [] = [] := rfl
theorem ring_nil : ring [] = [] := rfl
theorem ring_eq_nil {f : List Nat} (hr : Row f) (hf : Free f) : ring f = [] ↔ f = [] := by
  constructor
  · intro h
    refine Classical.byContradiction fun hn => ?_
    have := ring_pos hr hf hn
    rw [h] at this; simp at this
  · intro h; rw [h]; rfl
/-- a row is its lead around its ring row -/
theorem eqv_core {w : List Nat} (h : Row w) : Eqv (lead (red w) ++ ring (red w) ++ bak (lead (red w))) w := by
  rw [core_join h.red]; exact Eqv.red h
/-- rows alike up to a lead have ring rows that are turns -/
theorem ring_conj {x a b : List Nat} (hx : Row x) (ha : Row a) (hb : Row b) (h : Eqv (x ++ a ++ bak x) b) : Turn (ring (red a)) (ring (red b)) := by
  have h1 := eqv_core ha
  have h2 := eqv_core hb
  have la := ha.red.lead
  have lb := hb.red.lead
  have ra := ha.red.ring
  have rb := hb.red.ring
  have ca := cy_ring ha.red (free_red ha)
  have cb := cy_ring hb.red (free_red hb)
  generalize lead (red a) = L at *
  generalize ring (red a) = R at *
  generalize lead (red b) = M at *
  generalize ring (red b) = U at *
  refine conj' (x := bak M ++ x ++ L) ((lb.bak.app hx).app la) ca cb ?_
  have e1 : Eqv (x ++ (L ++ R ++ bak L) ++ bak x) (M ++ U ++ bak M) := (((Eqv.appL x hx h1).appR (bak x) hx.bak).trans h).trans h2.symm
  have e2 := ((Eqv.appL (bak M) lb.bak e1).appR M lb)
  have e3 : Eqv (bak M ++ (M ++ U ++ bak M) ++ M) U := by
    have a1 := Eqv.mid (a := []) (b := U ++ (bak M ++ M)) Row.nil (rb.app (lb.bak.app lb)) lb
    have a2 := Eqv.mid (a := U) (b := []) rb Row.nil lb
    simp only [List.append_assoc, List.nil_append, List.append_nil] at a1 a2 ⊢
    exact a1.trans a2
  have e4 : bak (bak M ++ x ++ L) = bak L ++ bak x ++ M := by rw [bak_app, bak_app, bak_bak lb]; simp
  rw [e4]
  have e5 := e2.trans e3
  simp only [List.append_assoc] at e5 ⊢
  exact e5
/-! ### roots -/
theorem conj_rep {L P : List Nat} (hL : Row L) (hP : Row P) : ∀ n, Eqv (repL (L ++ P ++ bak L) n) (L ++ repL P n ++ bak L)
  | 0 => by rw [repL_zero, repL_zero, List.append_nil]; exact (Eqv.self hL).symm
  | n + 1 => by
    rw [repL_succ, repL_succ]
    have h1 := Eqv.appL (L ++ P ++ bak L) ((hL.app hP).app hL.bak) (conj_rep hL hP n)
    refine h1.trans ?_
    have h2 := Eqv.mid (a := L ++ P) (b := repL P n ++ bak L) (hL.app hP) ((hP.rep n).app hL.bak) hL
    simp only [List.append_assoc] at h2 ⊢
    exact h2
open Classical in
noncomputable def per (R : List Nat) : Nat := if h : ∃ p, IsPer R p then Classical.choose h else 0
theorem per_spec {R : List Nat} (h : R ≠ []) : IsPer R (per R) := by
  have g := isPer_exists (List.length_pos_iff.mpr h)
  unfold per
  rw [dif_pos g]
  exact Classical.choose_spec g
noncomputable def root1 (f : List Nat) : List Nat := lead f ++ (ring f).take (per (ring f)) ++ bak (lead f)
noncomputable def rootn (f : List Nat) : Nat := (ring f).length / per (ring f)
theorem root1_nil : root1 [] = [] := by unfold root1; rw [lead_nil, ring_nil, List.take_nil]; rfl
theorem rootn_nil : rootn [] = 0 := by unfold rootn; rw [ring_nil]; simp
theorem Row.root1 {f : List Nat} (h : Row f) : Row (NX.root1 f) := (h.lead.app (h.ring.take _)).app h.lead.bak
theorem root1_len (f : List Nat) : (root1 f).length ≤ f.length := by
  have h1 := csize_le f
  have h2 := ring_len f
  unfold root1
  simp only [List.length_append, lead_len, bak_len, List.length_take]
  omega
section
variable {f : List Nat} (hr : Row f) (hf : Free f) (hn : f ≠ [])
include hr hf hn
theorem ring_ne : ring f ≠ [] := fun e => hn ((ring_eq_nil hr hf).mp e)
theorem prim_cy : Cy ((ring f).take (per (ring f))) := by
  have hR := cy_ring hr hf
  have hp := per_spec (ring_ne hr hf hn)
  have e := hp.rep
  generalize hRe : ring f = R at *
  generalize hpe : per R = p at *
  have hp1 := Nat.div_pos hp.2.1 hp.1
  obtain ⟨m, em⟩ : ∃ m, R.length / p = m + 1 := ⟨R.length / p - 1, by omega⟩
  rw [em] at e
  refine ⟨hR.1.take _, ?_⟩
  have h2 := hR.2
  have e1 : R ++ R = (R.take p ++ R.take p) ++ (R.drop p ++ R.drop p) ∨ ∃ z w, R ++ R = z ++ (R.take p ++ R.take p) ++ w := by
    refine .inr ⟨repL (R.take p) m, repL (R.take p) m, ?_⟩
    conv => lhs; lhs; rw [← e, ← repL_snoc]
    conv => lhs; rhs; rw [← e, repL_succ]
    simp
  rcases e1 with e1 | ⟨z, w, e1⟩
  · rw [e1] at h2; exact free_app_l h2
  · rw [e1, List.append_assoc] at h2; exact free_app_l (free_app_r h2)
theorem prim_ne : (ring f).take (per (ring f)) ≠ [] := by
  have hp := per_spec (ring_ne hr hf hn)
  intro e
  have := congrArg List.length e
  rw [List.length_take, List.length_nil] at this
  have := hp.1; have := hp.2.1
  omega
theorem ring_root1 : ring (root1 f) = (ring f).take (per (ring f)) := ring_of hr.lead (prim_cy hr hf hn) (prim_ne hr hf hn)
theorem lead_root1 : lead (root1 f) = lead f := lead_of hr.lead (prim_cy hr hf hn) (prim_ne hr hf hn)
theorem rootn_pos : 0 < rootn f := Nat.div_pos (per_spec (ring_ne hr hf hn)).2.1 (per_spec (ring_ne hr hf hn)).1
theorem rootn_le : rootn f ≤ f.length := by
  have h1 := ring_len f
  have h2 := Nat.div_le_self (ring f).length (per (ring f))
  unfold rootn; omega
theorem ring_rep : repL ((ring f).take (per (ring f))) (rootn f) = ring f := (per_spec (ring_ne hr hf hn)).rep
theorem root1_free : Free (root1 f) := by
  have e := core_join hr
  have hp := per_spec (ring_ne hr hf hn)
  have hrep := hp.rep
  have hne := prim_ne hr hf hn
  obtain ⟨m, em⟩ : ∃ m, (ring f).length / per (ring f) = m + 1 := ⟨rootn f - 1, by have := rootn_pos hr hf hn; unfold rootn at *; omega⟩
  rw [em] at hrep
  have f1 : Free (lead f ++ (ring f).take (per (ring f))) := by
    have h1 := hf
    rw [← e] at h1
    rw [← List.take_append_drop (per (ring f)) (ring f)] at h1
    simp only [List.append_assoc] at h1
    rw [← List.append_assoc] at h1
    have := free_app_l h1
    simpa using this
  have f2 : Free ((ring f).take (per (ring f)) ++ bak (lead f)) := by
    have h1 := hf
    rw [← e] at h1
    have h2 := congrArg (fun z => lead f ++ z ++ bak (lead f)) hrep
    simp only [← repL_snoc] at h2
    rw [← h2] at h1
    simp only [List.append_assoc] at h1
    exact free_app_r (free_app_r h1)
  unfold root1
  rw [List.append_assoc]
  exact free_glue f1 f2 hne
theorem root_rep : Eqv (repL (root1 f) (rootn f)) f := by
  have h1 := conj_rep hr.lead (hr.ring.take (per (ring f))) (rootn f)
  rw [ring_rep hr hf hn, core_join hr] at h1
  exact h1
/-- no part of the root's ring row makes it -/
theorem root_prim {k : Nat} (hk0 : 0 < k) (hk : k < (ring (root1 f)).length) (m : Nat) : repL ((ring (root1 f)).take k) m ≠ ring (root1 f) := by
  rw [ring_root1 hr hf hn] at *
  intro e
  have hp := per_spec (ring_ne hr hf hn)
  have e2 := ring_rep hr hf hn
  rw [← e, repL_mul] at e2
  have h3 : rot (ring f) (((ring f).take (per (ring f))).take k).length = ring f := by
    exact (fun (R Q : List Nat) (n : Nat) (h : repL Q n = R) => by subst h; exact rot_repL Q n : ∀ (R Q : List Nat) (n : Nat), repL Q n = R → rot R Q.length = R) _ _ _ e2
  rw [List.length_take] at h3 hk
  rw [List.length_take, Nat.min_eq_left (by omega)] at h3
  exact hp.2.2.2 k hk0 (by omega) h3
end
/-- a row that is a power has a root's number that the power's divides -/
theorem rootn_dvd {w x i : List Nat} {t : Nat} (hx : Row x) (hi : Row i) (hw : Row w) (h : Eqv (x ++ repL i t ++ bak x) w) (hn : red w ≠ []) : t ∣ rootn (red w) := by
  have hri := hi.red
  have fi := free_red hi
  -- the ring row of i
  have ci := cy_ring hri fi
  have t0 : t ≠ 0 := by
    rintro rfl
    rw [repL_zero, List.append_nil] at h
    have := ((Eqv.self hx).symm.trans h).2.2
    rw [red_nil] at this
    exact hn this.symm
  have e1 : Eqv (repL i t) (lead (red i) ++ repL (ring (red i)) t ++ bak (lead (red i))) := by
    have h1 : Eqv (repL i t) (repL (lead (red i) ++ ring (red i) ++ bak (lead (red i))) t) := by
      have : ∀ n, Eqv (repL i n) (repL (lead (red i) ++ ring (red i) ++ bak (lead (red i))) n) := by
        intro n
        induction n with
        | zero => exact Eqv.refl Row.nil
        | succ n ih => rw [repL_succ, repL_succ]; exact (eqv_core hi).symm.app ih
      exact this t
    exact h1.trans (conj_rep hri.lead hri.ring t)
  -- the power of a ring row is a ring row
  have cy : Cy (repL (ring (red i)) t) := by
    have : ∀ n, Free (repL (ring (red i)) n) := by
      intro n
      induction n with
      | zero => trivial
      | succ n ih =>
        cases n with
        | zero => rw [repL_succ, repL_zero, List.append_nil]; exact ci.free
        | succ n =>
          by_cases e : ring (red i) = []
          · rw [e]
            have : ∀ k, repL [] k = [] := fun k => by simp [repL]
            rw [this]; trivial
          · rw [repL_succ, repL_succ]
            rw [repL_succ] at ih
            exact free_glue ci.2 ih e
    refine ⟨ci.1.rep t, ?_⟩
    have h2 := this (t + t)
    have e : repL (ring (red i)) (t + t) = repL (ring (red i)) t ++ repL (ring (red i)) t := by
      unfold repL
      rw [← List.flatten_append, List.replicate_append_replicate]
    rw [← e]; exact h2
  have e2 : Eqv ((x ++ lead (red i)) ++ repL (ring (red i)) t ++ bak (x ++ lead (red i))) w := by
    have := ((Eqv.appL x hx e1).appR (bak x) hx.bak).symm.trans h
    rw [bak_app]
    simp only [List.append_assoc] at this ⊢
    exact this
  have e3 := ring_conj (hx.app hri.lead) (hri.ring.rep t) hw e2
  -- the ring of the power is the power
  have e4 : ring (red (repL (ring (red i)) t)) = repL (ring (red i)) t := by
    rw [red_free cy.free cy.1]
    by_cases e : repL (ring (red i)) t = []
    · rw [e]; rfl
    · have := ring_of (L := []) Row.nil cy e
      simpa [bak] using this
  rw [e4] at e3
  have hne := ring_ne hw.red (free_red hw) hn
  have hp := per_spec hne
  have hq := e3.symm.per hp
  have hlen := e3.len
  rw [repL_len'] at hlen
  have hd : per (ring (red w)) ∣ (ring (red i)).length := by
    refine hq.dvd ?_ (rot_repL _ _)
    rw [repL_len']
    exact Nat.le_mul_of_pos_left _ (by omega)
  obtain ⟨k, hk⟩ := hd
  refine ⟨k, ?_⟩
  unfold rootn
  rw [← hlen, hk, Nat.mul_left_comm]
  exact Nat.mul_div_cancel_left _ hp.1
/-- a character's power -/
theorem root_char {c : Nat} (hc : lett c = true) {n : Nat} (h0 : 0 < n) : root1 (List.replicate n c) = [c] ∧ rootn (List.replicate n c) = n := by
  have e0 : csize (List.replicate n c) = 0 := by
    refine csize_eq (fun j hj => absurd hj (by omega)) ?_
    rintro ⟨h1, h2⟩
    rw [List.length_replicate] at h1 h2
    have g : ∀ i, i < n → (List.replicate n c).getD i 0 = c := fun i hi => by
      rw [List.getD_eq_getElem?_getD, List.getElem?_replicate, if_pos hi]; rfl
    rw [g 0 h0, g _ (by omega)] at h2
    exact swp_ne hc h2.symm
  have e1 : lead (List.replicate n c) = [] := by unfold lead; rw [e0]; rfl
  have e2 : ring (List.replicate n c) = List.replicate n c := by
    unfold ring; rw [e0, Nat.sub_zero, List.drop_zero, List.take_length]
  have hne : List.replicate n c ≠ [] := by intro e; have := congrArg List.length e; simp at this; omega
  obtain ⟨m, rfl⟩ : ∃ m, n = m + 1 := ⟨n - 1, by omega⟩
  have hp : IsPer (List.replicate (m + 1) c) 1 := by
    refine ⟨by omega, by simp, ?_, fun k a b => by omega⟩
    unfold rot
    rw [List.replicate_succ, List.drop_succ_cons, List.drop_zero, List.take_succ_cons, List.take_zero]
    rw [← List.replicate_succ, List.replicate_succ']
  have e3 : per (List.replicate (m + 1) c) = 1 := (per_spec hne).uniq hp
  unfold root1 rootn
  rw [e1, e2, e3]
  refine ⟨by rw [List.replicate_succ]; rfl, by rw [List.length_replicate, Nat.div_one]⟩
theorem at_ring {R : List Nat} {i : Nat} (hi : i ≤ R.length) : (i + R.length ≤ (R ++ R).length ∧ ((R ++ R).drop i).take R.length = R) ↔ rot R i = R := by
  have e : ((R ++ R).drop i).take R.length = rot R i := by
    unfold rot
    rw [List.drop_append_of_le_length hi, List.take_append, List.take_of_length_le (by rw [List.length_drop]; omega), List.length_drop]
    congr 2; omega
  rw [e, List.length_append]
  exact ⟨fun h => h.2, fun h => ⟨by omega, h⟩⟩
end NX
namespace NX
open PySem PySem.Spec PyProof.Rows L2
/-! ### rings alike -/
/-- what the search says of two free rows -/
def alk (f g : List Nat) : Bool := decide ((ring f).length = (ring g).length) && subS (mkS (ring g ++ ring g)) (mkS (ring f))
def leadB (f g : List Nat) : List Nat := red (lead f ++ bak ((ring g).take (Txt.find (mkS (ring g ++ ring g)) (mkS (ring f))).toNat) ++ bak (lead g))
def ldv (f g : List Nat) : V := if alk f g = true then T (leadB f g) else .non
theorem take_rot {R : List Nat} {i : Nat} (hi : i ≤ R.length) : ((R ++ R).drop i).take R.length = rot R i := by
  unfold rot
  rw [List.drop_append_of_le_length hi, List.take_append, List.take_of_length_le (by rw [List.length_drop]; omega), List.length_drop]
  congr 2; omega
theorem at_rot {R S : List Nat} (hl : S.length = R.length) (i : Nat) : AtL (R ++ R) S i ↔ i ≤ R.length ∧ rot R i = S := by
  unfold AtL
  rw [hl, List.length_append]
  constructor
  · rintro ⟨h1, h2⟩
    have hi : i ≤ R.length := by omega
    rw [take_rot hi] at h2
    exact ⟨hi, h2⟩
  · rintro ⟨hi, h⟩
    rw [take_rot hi]
    exact ⟨by omega, h⟩
theorem alk_iff (f g : List Nat) : alk f g = true ↔ Turn (ring g) (ring f) := by
  unfold alk
  rw [Bool.and_eq_true, decide_eq_true_iff, subS_mk]
  constructor
  · rintro ⟨h1, i, h2⟩
    rw [at_rot h1] at h2
    rw [← h2.2]; exact turn_rot _ _
  · intro h
    obtain ⟨i, hi, e⟩ := h.rot
    exact ⟨h.len.symm, i, (at_rot h.len.symm i).mpr ⟨hi, e.symm⟩⟩
theorem find_turn {f g : List Nat} (h : alk f g = true) : ∃ i : Nat, Txt.find (mkS (ring g ++ ring g)) (mkS (ring f)) = (i : Int) ∧ i ≤ (ring g).length ∧ ring f = (ring g).drop i ++ (ring g).take i := by
  have ht := (alk_iff f g).mp h
  obtain ⟨j, hj, e⟩ := ht.rot
  rcases find_mk (ring g ++ ring g) (ring f) with ⟨_, hn⟩ | ⟨i, h1, h2, _⟩
  · exact absurd ((at_rot ht.len.symm j).mpr ⟨hj, e.symm⟩) (hn j)
  · obtain ⟨hi, e2⟩ := (at_rot ht.len.symm i).mp h2
    exact ⟨i, h1, hi, e2.symm⟩
theorem leadB_row {f g : List Nat} (hf : Row f) (hg : Row g) : Row (leadB f g) := by
  unfold leadB
  exact ((hf.lead.app (hg.ring.take _).bak).app hg.lead.bak).red
theorem leadB_len (f g : List Nat) : (leadB f g).length ≤ f.length + 2 * g.length := by
  unfold leadB
  refine Nat.le_trans (red_len _) ?_
  have h1 := csize_le f
  have h2 := csize_le g
  have h3 := ring_len g
  simp only [List.length_append, bak_len, lead_len, List.length_take]
  omega
theorem leadB_red {f g : List Nat} (hf : Row f) (hg : Row g) : red (leadB f g) = leadB f g := by
  unfold leadB
  exact red_red ((hf.lead.app (hg.ring.take _).bak).app hg.lead.bak)
/-- the lead leads the one to the other -/
theorem leadB_eqv {a b : List Nat} (ha : Row a) (hb : Row b) (h : alk (red a) (red b) = true) : Eqv (leadB (red a) (red b) ++ b ++ bak (leadB (red a) (red b))) a := by
  obtain ⟨i, e1, hi, e2⟩ := find_turn h
  have h1 := eqv_core ha
  have h2 := eqv_core hb
  have la := ha.red.lead
  have lb := hb.red.lead
  have rb := hb.red.ring
  have e3 : leadB (red a) (red b) = red (lead (red a) ++ bak ((ring (red b)).take i) ++ bak (lead (red b))) := by unfold leadB; rw [e1, Int.toNat_natCast]
  rw [e3]
  rw [e2] at h1
  have eR : ring (red b) = (ring (red b)).take i ++ (ring (red b)).drop i := (List.take_append_drop i _).symm
  rw [eR] at h2
  have rB : Row ((ring (red b)).take i) := rb.take i
  have rC : Row ((ring (red b)).drop i) := rb.drop i
  generalize (ring (red b)).take i = B at *
  generalize (ring (red b)).drop i = C at *
  generalize lead (red a) = L at *
  generalize lead (red b) = M at *
  have rx : Row (L ++ bak B ++ bak M) := (la.app rB.bak).app lb.bak
  have hx := Eqv.red rx
  have g1 : Eqv (red (L ++ bak B ++ bak M) ++ b ++ bak (red (L ++ bak B ++ bak M))) ((L ++ bak B ++ bak M) ++ (M ++ (B ++ C) ++ bak M) ++ bak (L ++ bak B ++ bak M)) := (hx.app h2.symm).app hx.bak
  refine g1.trans (Eqv.trans ?_ h1)
  have e4 : bak (L ++ bak B ++ bak M) = M ++ B ++ bak L := by rw [bak_app, bak_app, bak_bak lb, bak_bak rB]; simp
  rw [e4]
  have a1 := Eqv.mid (a := L ++ bak B) (b := B ++ C ++ bak M ++ (M ++ B ++ bak L)) (la.app rB.bak) (((rB.app rC).app lb.bak).app ((lb.app rB).app la.bak)) lb
  have a2 := Eqv.mid (a := L) (b := C ++ bak M ++ (M ++ B ++ bak L)) la ((rC.app lb.bak).app ((lb.app rB).app la.bak)) rB
  have a3 := Eqv.mid (a := L ++ C) (b := B ++ bak L) (la.app rC) (rB.app la.bak) lb
  simp only [List.append_assoc] at a1 a2 a3 ⊢
  exact a1.trans (a2.trans a3)
/-- a ring row turned, within a lead -/
theorem alk_turned {w x : List Nat} (hw : Row w) (hx : Row x) (i : Nat) : alk (red w) (red (x ++ (ring (red w)).drop i ++ (ring (red w)).take i ++ bak x)) = true := by
  rw [alk_iff]
  have cw := cy_ring hw.red (free_red hw)
  have t := turn_rot (ring (red w)) i
  have ct := cw.turn t
  have h1 : Eqv (x ++ rot (ring (red w)) i ++ bak x) (x ++ (ring (red w)).drop i ++ (ring (red w)).take i ++ bak x) := by
    have : x ++ rot (ring (red w)) i ++ bak x = x ++ (ring (red w)).drop i ++ (ring (red w)).take i ++ bak x := by unfold rot; simp
    rw [this]
    exact Eqv.refl (((hx.app (hw.red.ring.drop _)).app (hw.red.ring.take _)).app hx.bak)
  have h2 := ring_conj hx ct.1 h1.2.1 h1
  have h3 : ring (red (rot (ring (red w)) i)) = rot (ring (red w)) i := by
    rw [red_free ct.free ct.1]
    by_cases e : rot (ring (red w)) i = []
    · rw [e]; rfl
    · have := ring_of (L := []) Row.nil ct e
      simpa [bak] using this
  rw [h3] at h2
  exact (t.trans h2).symm
theorem rpOk_row {l : List Nat} (hr : Row l) (hl : l.length ≤ 100000) : rpOk (T l) := by
  show (reprText (mkS l)).length ≤ sizeLine
  refine Nat.le_trans (PySem.StrLaws.reprText_len _ ?_) ?_
  · intro c hc
    have := hr.asc c hc
    omega
  · rw [mkS_len, sizeLine_eq]; omega
theorem at_ls {ws : List (List Nat)} {r : Int} (h0 : 0 ≤ r) (h : r < ws.length) : atI (ws.map T) r = some (T (ws.getD r.toNat [])) := by
  obtain ⟨k, rfl⟩ : ∃ k : Nat, r = k := ⟨r.toNat, by omega⟩
  have hk : k < ws.length := by omega
  rw [Int.toNat_natCast]
  exact atI_nat (by rw [List.getElem?_map, List.getElem?_eq_getElem hk, List.getD_eq_getElem?_getD, List.getElem?_eq_getElem hk]; rfl)
end NX
namespace NX
/-! ### roots are one: powers, leads, backs -/
theorem Eqv.rep {a b : List Nat} (h : Eqv a b) : ∀ n, Eqv (repL a n) (repL b n)
  | 0 => Eqv.refl Row.nil
  | n + 1 => by rw [repL_succ, repL_succ]; exact h.app (Eqv.rep h n)
theorem repL_nil (n : Nat) : repL [] n = [] := by simp [repL]
theorem repL_add (l : List Nat) (n m : Nat) : repL l (n + m) = repL l n ++ repL l m := by
  unfold repL
  rw [← List.flatten_append, List.replicate_append_replicate]
theorem Cy.rep {R : List Nat} (h : Cy R) (t : Nat) : Cy (repL R t) := by
  have : ∀ n, Free (repL R n) := by
    intro n
    induction n with
    | zero => trivial
    | succ n ih =>
      cases n with
      | zero => rw [repL_succ, repL_zero, List.append_nil]; exact h.free
      | succ n =>
        by_cases e : R = []
        · rw [e, repL_nil]; trivial
        · rw [repL_succ, repL_succ]
          rw [repL_succ] at ih
          exact free_glue h.2 ih e
  refine ⟨h.1.rep t, ?_⟩
  rw [← repL_add]; exact this _
theorem repL_ne {l : List Nat} (h : l ≠ []) {n : Nat} (hn : 0 < n) : repL l n ≠ [] := by
  obtain ⟨m, rfl⟩ : ∃ m, n = m + 1 := ⟨n - 1, by omega⟩
  rw [repL_succ]; intro e; exact h (List.append_eq_nil_iff.mp e).1
theorem ring_cy {R : List Nat} (h : Cy R) : ring R = R := by
  by_cases e : R = []
  · rw [e]; rfl
  · have := ring_of (L := []) Row.nil h e
    simpa [bak] using this
theorem lead_cy {R : List Nat} (h : Cy R) : lead R = [] := by
  by_cases e : R = []
  · rw [e]; rfl
  · have := lead_of (L := []) Row.nil h e
    simpa [bak] using this
/-- a lead around a ring row: free as it stands when the junctions are -/
theorem free_core {L R : List Nat} (hL : Row L) (hR : Cy R) (h : R ≠ []) {m : Nat} (hm : 0 < m) (hf : Free (L ++ R ++ bak L)) : Free (L ++ repL R m ++ bak L) := by
  obtain ⟨k, rfl⟩ : ∃ k, m = k + 1 := ⟨m - 1, by omega⟩
  have f1 : Free (L ++ R) := free_app_l hf
  have f2 : Free (R ++ bak L) := by rw [List.append_assoc] at hf; exact free_app_r hf
  have fr := (hR.rep (k + 1)).free
  have g1 : Free (L ++ repL R (k + 1)) := by
    have h2 := fr
    rw [repL_succ] at h2 ⊢
    exact free_glue f1 h2 h
  have g2 : Free (repL R (k + 1) ++ bak L) := by
    have h2 := fr
    rw [← repL_snoc] at h2 ⊢
    rw [List.append_assoc]
    exact free_glue h2 f2 h
  rw [List.append_assoc]
  exact free_glue g1 g2 (repL_ne h hm)
/-- the power of a row: its core -/
theorem core_pow {v : List Nat} (hv : Row v) (hn : red v ≠ []) {m : Nat} (hm : 0 < m) : red (repL v m) = lead (red v) ++ repL (ring (red v)) m ++ bak (lead (red v)) := by
  have hf := free_red hv
  have hR := cy_ring hv.red hf
  have hne := ring_ne hv.red hf hn
  have hfc : Free (lead (red v) ++ repL (ring (red v)) m ++ bak (lead (red v))) := free_core hv.red.lead hR hne hm (by rw [core_join hv.red]; exact hf)
  have h1 := (eqv_core hv).symm.rep m
  have h2 := h1.trans (conj_rep hv.red.lead hv.red.ring m)
  rw [h2.2.2, red_free hfc h2.2.1]
theorem ring_pow {v : List Nat} (hv : Row v) (m : Nat) : ring (red (repL v m)) = repL (ring (red v)) m := by
  by_cases hn : red v = []
  · have h1 : Eqv (repL v m) (repL [] m) := Eqv.rep ⟨hv, Row.nil, hn⟩ m
    rw [repL_nil] at h1
    rw [h1.2.2, hn, red_nil, ring_nil, repL_nil]
  · rcases Nat.eq_zero_or_pos m with rfl | hm
    · rw [repL_zero, repL_zero]; rfl
    · rw [core_pow hv hn hm]
      exact ring_of hv.red.lead ((cy_ring hv.red (free_red hv)).rep m) (repL_ne (ring_ne hv.red (free_red hv) hn) hm)
theorem lead_pow {v : List Nat} (hv : Row v) {m : Nat} (hm : 0 < m) : lead (red (repL v m)) = lead (red v) := by
  by_cases hn : red v = []
  · have h1 : Eqv (repL v m) (repL [] m) := Eqv.rep ⟨hv, Row.nil, hn⟩ m
    rw [repL_nil] at h1
    rw [h1.2.2, hn, red_nil]
  · rw [core_pow hv hn hm]
    exact lead_of hv.red.lead ((cy_ring hv.red (free_red hv)).rep m) (repL_ne (ring_ne hv.red (free_red hv) hn) hm)
/-- the first turn of a power is that of the row -/
theorem rot_take {R : List Nat} {p : Nat} (h : p ∣ R.length) : rot R p = R ↔ ∃ n, repL (R.take p) n = R := by
  constructor
  · intro e
    obtain ⟨k, hk⟩ := h
    refine ⟨k, ?_⟩
    rw [← repL_take e k (by rw [Nat.mul_comm]; omega), Nat.mul_comm, ← hk, List.take_length]
  · rintro ⟨n, e⟩
    by_cases hp : p ≤ R.length
    · have := rot_repL (R.take p) n
      rw [e, List.length_take, Nat.min_eq_left hp] at this
      exact this
    · unfold rot
      rw [List.drop_of_length_le (by omega), List.take_of_length_le (by omega)]; rfl
theorem repL_inj {a b : List Nat} {n : Nat} (hn : 0 < n) (h : repL a n = repL b n) : a = b := by
  have hl := congrArg List.length h
  rw [repL_len', repL_len'] at hl
  have hl2 : a.length = b.length := Nat.eq_of_mul_eq_mul_left hn hl
  obtain ⟨m, rfl⟩ : ∃ m, n = m + 1 := ⟨n - 1, by omega⟩
  rw [repL_succ, repL_succ] at h
  exact (List.append_inj h hl2).1
theorem per_pow {R : List Nat} (h : R ≠ []) {m : Nat} (hm : 0 < m) : per (repL R m) = per R := by
  have hp := per_spec h
  have hq := per_spec (repL_ne h hm)
  have hle : R.length ≤ m * R.length := Nat.le_mul_of_pos_left _ hm
  have e := hp.rep
  refine Nat.dvd_antisymm ?_ ?_
  · -- rot (R^m) (per R) = R^m
    refine hq.dvd (by rw [repL_len']; exact Nat.le_trans hp.2.1 hle) ?_
    have h1 : repL R m = repL (R.take (per R)) ((R.length / per R) * m) := by rw [← repL_mul, e]
    have h2 := rot_repL (R.take (per R)) ((R.length / per R) * m)
    rw [← h1, List.length_take, Nat.min_eq_left hp.2.1] at h2
    exact h2
  · -- per (R^m) divides |R|, and turns R
    have hd : per (repL R m) ∣ R.length := hq.dvd (by rw [repL_len']; exact hle) (rot_repL R m)
    have hl : per (repL R m) ≤ R.length := Nat.le_of_dvd (List.length_pos_iff.mpr h) hd
    refine hp.dvd hl ?_
    have h1 := repL_take hq.2.2.1 (R.length / per (repL R m)) (by rw [Nat.div_mul_cancel hd, repL_len']; exact hle)
    rw [Nat.div_mul_cancel hd] at h1
    obtain ⟨k, rfl⟩ : ∃ k, m = k + 1 := ⟨m - 1, by omega⟩
    rw [repL_succ, List.take_left] at h1
    rw [List.take_append_of_le_length (by rw [← repL_succ]; exact hl)] at h1
    exact (rot_take hd).mpr ⟨_, h1.symm⟩
theorem root_pow {v : List Nat} (hv : Row v) {m : Nat} (hm : 0 < m) : root1 (red (repL v m)) = root1 (red v) ∧ rootn (red (repL v m)) = rootn (red v) * m := by
  by_cases hn : red v = []
  · have h1 : Eqv (repL v m) (repL [] m) := Eqv.rep ⟨hv, Row.nil, hn⟩ m
    rw [repL_nil] at h1
    rw [h1.2.2, hn, red_nil, rootn_nil]
    exact ⟨rfl, by simp⟩
  · have hne := ring_ne hv.red (free_red hv) hn
    have hp := per_spec hne
    unfold root1 rootn
    rw [ring_pow hv m, lead_pow hv hm, per_pow hne hm]
    constructor
    · congr 2
      obtain ⟨k, rfl⟩ : ∃ k, m = k + 1 := ⟨m - 1, by omega⟩
      rw [repL_succ, List.take_append_of_le_length hp.2.1]
    · rw [repL_len', Nat.mul_comm, Nat.mul_div_right_comm hp.dvd_len]
/-- no power but of itself -/
def Prim (u : List Nat) : Prop := Row u ∧ Free u ∧ u ≠ [] ∧ per (ring u) = (ring u).length
theorem Prim.root {u : List Nat} (h : Prim u) : root1 u = u ∧ rootn u = 1 := by
  obtain ⟨hr, hf, hn, hp⟩ := h
  have hne := ring_ne hr hf hn
  unfold root1 rootn
  rw [hp, List.take_length, core_join hr]
  exact ⟨rfl, Nat.div_self (List.length_pos_iff.mpr hne)⟩
theorem prim_root {f : List Nat} (hr : Row f) (hf : Free f) (hn : f ≠ []) : Prim (root1 f) := by
  have hne := ring_ne hr hf hn
  have hp := per_spec hne
  have h1 := prim_ne hr hf hn
  refine ⟨hr.root1, root1_free hr hf hn, ?_, ?_⟩
  · intro e
    have := ring_root1 hr hf hn
    rw [e, ring_nil] at this
    exact h1 this.symm
  · rw [ring_root1 hr hf hn]
    have e := ring_rep hr hf hn
    have := per_pow h1 (rootn_pos hr hf hn)
    rw [e] at this
    rw [← this, List.length_take, Nat.min_eq_left hp.2.1]
/-- what is alike a power of a row that is no power -/
theorem root_of {u w : List Nat} (hu : Prim u) {m : Nat} (hm : 0 < m) (hw : Row w) (h : Eqv (repL u m) w) : root1 (red w) = u ∧ rootn (red w) = m := by
  have h1 := root_pow hu.1 hm
  rw [← h.2.2, h1.1, h1.2, red_free hu.2.1 hu.1, hu.root.1, hu.root.2]
  exact ⟨rfl, by omega⟩
theorem prim_conj {u x : List Nat} (hu : Prim u) (hx : Row x) : Prim (red (x ++ u ++ bak x)) := by
  have hr : Row (x ++ u ++ bak x) := (hx.app hu.1).app hx.bak
  have t := ring_conj hx hu.1 hr (Eqv.refl hr)
  rw [red_free hu.2.1 hu.1] at t
  have hne := ring_ne hu.1 hu.2.1 hu.2.2.1
  have hp := t.per (per_spec hne)
  have hne2 : ring (red (x ++ u ++ bak x)) ≠ [] := by
    intro e
    have := t.len
    rw [e] at this
    exact hne (List.length_eq_zero_iff.mp this)
  refine ⟨hr.red, free_red hr, ?_, ?_⟩
  · intro e; rw [e] at hne2; exact hne2 rfl
  · rw [(per_spec hne2).uniq hp, hu.2.2.2, t.len]
theorem rot_app (A B : List Nat) : rot (A ++ B) A.length = B ++ A := by
  unfold rot; rw [List.drop_left, List.take_left]
theorem rot_bak {R : List Nat} {k : Nat} (hk : k ≤ R.length) : rot (bak R) k = bak (rot R (R.length - k)) := by
  obtain ⟨A, B, rfl, hB⟩ : ∃ A B, R = A ++ B ∧ B.length = k := ⟨R.take (R.length - k), R.drop (R.length - k), (List.take_append_drop _ _).symm, by rw [List.length_drop]; omega⟩
  subst hB
  have e1 := rot_app (bak B) (bak A)
  rw [bak_len] at e1
  rw [bak_app, e1, List.length_append, show A.length + B.length - B.length = A.length by omega, rot_app, bak_app]
theorem per_bak {R : List Nat} (hr : Row R) (h : R ≠ []) : per (bak R) = per R := by
  have hp := per_spec h
  have hb : bak R ≠ [] := by intro e; have := congrArg List.length e; rw [bak_len] at this; exact h (List.length_eq_zero_iff.mp this)
  refine (per_spec hb).uniq ⟨hp.1, by rw [bak_len]; exact hp.2.1, ?_, fun k a b e => ?_⟩
  · rw [rot_bak hp.2.1]
    have e2 : rot R (R.length - per R) = R := by
      conv => lhs; lhs; rw [← hp.2.2.1]
      rw [rot_rot R (by have := hp.2.1; omega), show per R + (R.length - per R) = R.length by have := hp.2.1; omega, rot_all]
    rw [e2]
  · have hk : k ≤ R.length := by have := hp.2.1; omega
    rw [rot_bak hk] at e
    have e1 := congrArg bak e
    rw [bak_bak (by exact (turn_rot R _).row hr), bak_bak hr] at e1
    have e2 : rot R k = R := by
      conv => lhs; lhs; rw [← e1]
      rw [rot_rot R (by omega), show R.length - k + k = R.length by omega, rot_all]
    exact hp.2.2.2 k a b e2
theorem core_bak {f : List Nat} (hr : Row f) (hf : Free f) : lead (bak f) = lead f ∧ ring (bak f) = bak (ring f) := by
  by_cases hn : f = []
  · subst hn; exact ⟨rfl, rfl⟩
  have hR := cy_ring hr hf
  have hne := ring_ne hr hf hn
  have hcb : Cy (bak (ring f)) := by
    refine ⟨hR.1.bak, ?_⟩
    rw [← bak_app]
    exact free_bak (hR.1.app hR.1) hR.2
  have hb : bak (ring f) ≠ [] := by intro e; have := congrArg List.length e; rw [bak_len] at this; exact hne (List.length_eq_zero_iff.mp this)
  have e : bak f = lead f ++ bak (ring f) ++ bak (lead f) := by
    conv => lhs; rw [← core_join hr]
    rw [bak_app, bak_app, bak_bak hr.lead, List.append_assoc]
  rw [e]
  exact ⟨lead_of hr.lead hcb hb, ring_of hr.lead hcb hb⟩
theorem prim_bak {u : List Nat} (hu : Prim u) : Prim (bak u) := by
  have hne := ring_ne hu.1 hu.2.1 hu.2.2.1
  refine ⟨hu.1.bak, free_bak hu.1 hu.2.1, ?_, ?_⟩
  · intro e; have := congrArg List.length e; rw [bak_len] at this; exact hu.2.2.1 (List.length_eq_zero_iff.mp this)
  · rw [(core_bak hu.1 hu.2.1).2, per_bak hu.1.ring hne, bak_len]; exact hu.2.2.2
/-- roots of a row within a lead -/
theorem root_conj {w x : List Nat} (hw : Row w) (hx : Row x) (hn : red w ≠ []) : root1 (red (x ++ w ++ bak x)) = red (x ++ root1 (red w) ++ bak x) ∧ rootn (red (x ++ w ++ bak x)) = rootn (red w) := by
  have hf := free_red hw
  have hu := prim_root hw.red hf hn
  have h1 := (root_rep hw.red hf hn).trans (Eqv.red hw)
  have h0 := rootn_pos hw.red hf hn
  refine root_of (prim_conj hu hx) h0 ((hx.app hw).app hx.bak) ?_
  have h2 := (Eqv.red ((hx.app hu.1).app hx.bak)).rep (rootn (red w))
  exact (h2.trans (conj_rep hx hu.1 _)).trans ((Eqv.appL x hx h1).appR _ hx.bak)
theorem root_bak {w : List Nat} (hw : Row w) : root1 (red (bak w)) = bak (root1 (red w)) ∧ rootn (red (bak w)) = rootn (red w) := by
  by_cases hn : red w = []
  · rw [red_bak_comm hw, hn]; exact ⟨by rw [show bak [] = [] from rfl, root1_nil]; rfl, rfl⟩
  have hf := free_red hw
  have hu := prim_root hw.red hf hn
  have h1 := ((root_rep hw.red hf hn).trans (Eqv.red hw)).bak
  rw [bak_repL] at h1
  exact root_of (prim_bak hu) (rootn_pos hw.red hf hn) hw.bak h1
end NX
namespace NX
/-! ### rows that pass by one another -/
theorem Com.eqv {a b c d : List Nat} (h : Com a b) (g1 : Eqv a c) (g2 : Eqv b d) : Com c d := ((g1.symm.app g2.symm).trans h).trans (g2.app g1)
theorem com_conj {a b : List Nat} (ha : Row a) (hb : Row b) (h : Com a b) : Eqv (b ++ a ++ bak b) a := by
  have h1 : Eqv (b ++ a ++ bak b) (a ++ b ++ bak b) := Eqv.appR _ hb.bak (Eqv.symm h)
  have h2 := Eqv.mid' (a := a) (b := []) ha Row.nil hb
  simp only [List.append_assoc, List.append_nil] at h1 h2
  rw [List.append_assoc]
  exact h1.trans h2
theorem conj_com {a b : List Nat} (ha : Row a) (hb : Row b) (h : Eqv (b ++ a ++ bak b) a) : Com a b := by
  have h1 := h.appR b hb
  have h2 := Eqv.mid (a := b ++ a) (b := []) (hb.app ha) Row.nil hb
  simp only [List.append_assoc, List.append_nil] at h1 h2
  unfold Com
  exact h1.symm.trans h2
theorem eqv_of_root {w f : List Nat} (hw : Row w) (hf : Row f) (h1 : root1 (red w) = root1 (red f)) (h2 : rootn (red w) = rootn (red f)) : Eqv w f := by
  by_cases a : red w = []
  · by_cases b : red f = []
    · exact ⟨hw, hf, by rw [a, b]⟩
    · have := rootn_pos hf.red (free_red hf) b
      rw [← h2, a, rootn_nil] at this
      omega
  · by_cases b : red f = []
    · have := rootn_pos hw.red (free_red hw) a
      rw [h2, b, rootn_nil] at this
      omega
    · have e1 := (root_rep hw.red (free_red hw) a).trans (Eqv.red hw)
      have e2 := (root_rep hf.red (free_red hf) b).trans (Eqv.red hf)
      rw [h1, h2] at e1
      exact e1.symm.trans e2
theorem com_pow {f g : List Nat} (hf : Row f) (hg : Row g) {m : Nat} (hm : 0 < m) : Com (repL f m) g ↔ Com f g := by
  constructor
  · intro h
    have hw : Row (g ++ f ++ bak g) := (hg.app hf).app hg.bak
    have h1 := com_conj (hf.rep m) hg h
    have h2 := (conj_rep hg hf m).trans h1
    have r1 := root_pow hw hm
    have r2 := root_pow hf hm
    rw [h2.2.2, r2.1, r2.2] at r1
    exact conj_com hf hg (eqv_of_root hw hf r1.1.symm (Nat.eq_of_mul_eq_mul_right hm r1.2).symm)
  · intro h
    exact (Com.rep hg hf h.symm m).symm
theorem com_bak {f g : List Nat} (hf : Row f) (hg : Row g) : Com (bak f) g ↔ Com f g := by
  constructor
  · intro h
    have := Com.bak hg hf.bak h.symm
    rw [bak_bak hf] at this
    exact this.symm
  · intro h
    exact (Com.bak hg hf h.symm).symm
/-- a lead around a ring row, alike a ring row: the lead's end goes with it -/
theorem ends {y R S : List Nat} {c : Nat} (hx : Row (y ++ [c])) (fx : Free (y ++ [c])) (hR : Cy R) (hR0 : R ≠ []) (hS : Cy S) (h : Eqv (y ++ [c] ++ R ++ bak (y ++ [c])) S) :
    (∃ R', R = swp c :: R') ∨ ∃ R2, R = R2 ++ [c] := by
  refine Classical.byContradiction fun hn => ?_
  have hc : lett c = true := hx.of_app.2.of_cons.1
  have eb : bak (y ++ [c]) = [swp c] ++ bak y := by simp [bak]
  obtain ⟨d, R', eR⟩ : ∃ d R', R = d :: R' := by
    cases R with
    | nil => exact absurd rfl hR0
    | cons d R' => exact ⟨d, R', rfl⟩
  obtain ⟨R2, z, eR2⟩ : ∃ R2 z, R = R2 ++ [z] := ⟨R.dropLast, R.getLast hR0, (List.dropLast_concat_getLast hR0).symm⟩
  have c1 : ¬ d = swp c := fun e => hn (.inl ⟨R', by rw [eR, e]⟩)
  have c2 : ¬ z = c := fun e => hn (.inr ⟨R2, by rw [eR2, e]⟩)
  have hz : lett z = true := hR.1 z (by rw [eR2]; simp)
  have f1 : Free (y ++ [c] ++ R) := by rw [eR]; exact free_join fx (eR ▸ hR.free) c1
  have fb := free_bak hx fx
  have f2 : Free (R ++ bak (y ++ [c])) := by
    rw [eb] at fb ⊢
    rw [eR2]
    refine free_join (d := swp c) (by rw [← eR2]; exact hR.free) fb ?_
    intro e
    have := congrArg swp e
    rw [swp_swp hc, swp_swp hz] at this
    exact c2 this.symm
  have f3 : Free (y ++ [c] ++ (R ++ bak (y ++ [c]))) := free_glue f1 f2 hR0
  have e := h.2.2
  rw [List.append_assoc, red_free f3 (hx.app (hR.1.app hx.bak)), red_free hS.free hS.1] at e
  have h2 := hS.2
  rw [← e] at h2
  obtain ⟨a, x', ex⟩ : ∃ a x', y ++ [c] = a :: x' := by
    cases hh : y ++ [c] with
    | nil => simp at hh
    | cons a x' => exact ⟨a, x', rfl⟩
  rw [ex] at h2 hx
  have ha : lett a = true := hx.of_cons.1
  have e5 : bak (a :: x') = bak x' ++ [swp a] := by simp [bak]
  rw [e5] at h2
  have e6 : a :: x' ++ (R ++ (bak x' ++ [swp a])) ++ (a :: x' ++ (R ++ (bak x' ++ [swp a]))) = (a :: x' ++ (R ++ bak x')) ++ (swp a :: a :: (x' ++ (R ++ (bak x' ++ [swp a])))) := by simp
  rw [e6] at h2
  have h7 := (free_app_r h2).1
  exact h7 (swp_swp ha).symm
theorem getD_rot1 {d : Nat} {R' : List Nat} {i : Nat} (hi : i < R'.length + 1) : (R' ++ [d]).getD i 0 = (d :: R').getD ((i + 1) % (R'.length + 1)) 0 := by
  by_cases h : i < R'.length
  · rw [Nat.mod_eq_of_lt (by omega), List.getD_cons_succ, List.getD_eq_getElem?_getD, List.getD_eq_getElem?_getD, List.getElem?_append_left h]
  · have e : i = R'.length := by omega
    subst e
    rw [Nat.mod_self]
    simp
theorem cent1 : ∀ (n : Nat) (x R S : List Nat), x.length = n → Row x → Free x → Cy R → R ≠ [] → Cy S → Eqv (x ++ R ++ bak x) S → (∀ y c, x = y ++ [c] → ∃ R', R = swp c :: R') →
    (∀ j, j < n → (bak x).getD j 0 = R.getD (j % R.length) 0) ∧ S = rot R (n % R.length)
  | 0, x, R, S, hn, _, _, hR, h0, hS, h, _ => by
    rw [List.length_eq_zero_iff.mp hn] at h
    have e := h.2.2
    rw [show bak [] = [] from rfl, List.append_nil, List.nil_append, red_free hR.free hR.1, red_free hS.free hS.1] at e
    exact ⟨fun j hj => absurd hj (by omega), by rw [Nat.zero_mod, rot_zero, e]⟩
  | n + 1, x, R, S, hn, hx, fx, hR, h0, hS, h, hh => by
    have hne : x ≠ [] := by intro e; subst e; simp at hn
    obtain ⟨y, c, rfl⟩ : ∃ y c, x = y ++ [c] := ⟨x.dropLast, x.getLast hne, (List.dropLast_concat_getLast hne).symm⟩
    obtain ⟨R', rfl⟩ := hh y c rfl
    have hy : Row y := hx.of_app.1
    have hc : lett c = true := hx.of_app.2.of_cons.1
    have hcr : Row [c] := Row.one hc
    have hsr : Row [swp c] := Row.one (swp_lett hc)
    have hny : y.length = n := by simpa using hn
    have eb : bak (y ++ [c]) = [swp c] ++ bak y := by simp [bak]
    have fy : Free y := free_app_l fx
    have hR' : Row R' := hR.1.of_cons.2
    have t : Turn (swp c :: R') (R' ++ [swp c]) := ⟨[swp c], R', rfl, rfl⟩
    have h1 : Eqv (y ++ (R' ++ [swp c]) ++ bak y) S := by
      have := Eqv.mid' (a := y) (b := R' ++ ([swp c] ++ bak y)) (c := [c]) hy (hR'.app (hsr.app hy.bak)) hcr
      rw [show bak [c] = [swp c] from rfl] at this
      rw [eb] at h
      simp only [List.append_assoc, List.cons_append, List.nil_append] at this h ⊢
      exact this.symm.trans h
    have ih := cent1 n y (R' ++ [swp c]) S hny hy fy (hR.turn t) (by simp) hS h1 fun z d ez => by
      subst ez
      rcases ends hy fy (hR.turn t) (by simp) hS h1 with ⟨R2, e⟩ | ⟨R2, e⟩
      · exact ⟨R2, e⟩
      · exfalso
        have e2 := (List.append_inj' e rfl).2
        have e3 : swp c = d := (List.cons.inj e2).1
        rw [List.append_assoc] at fx
        have f2 := free_app_r fx
        have f3 : c ≠ swp d := f2.1
        rw [← e3, swp_swp hc] at f3
        exact f3 rfl
    obtain ⟨i1, i2⟩ := ih
    have hL : (R' ++ [swp c]).length = R'.length + 1 := by simp
    have hL2 : (swp c :: R').length = R'.length + 1 := by simp
    rw [hL] at i1 i2
    rw [hL2]
    refine ⟨fun j hj => ?_, ?_⟩
    · rw [eb]
      cases j with
      | zero => simp
      | succ j =>
        show (bak y).getD j 0 = _
        rw [i1 j (by omega), getD_rot1 (Nat.mod_lt _ (by omega)), Nat.mod_add_mod]
    · rw [i2]
      have e1 : R' ++ [swp c] = rot (swp c :: R') 1 := rfl
      have hm := Nat.mod_lt n (show 0 < R'.length + 1 by omega)
      rw [e1, rot_rot _ (by rw [hL2]; omega)]
      by_cases hlt : n % (R'.length + 1) + 1 < R'.length + 1
      · have : (n + 1) % (R'.length + 1) = n % (R'.length + 1) + 1 := by
          rw [← Nat.mod_add_mod, Nat.mod_eq_of_lt hlt]
        rw [this, Nat.add_comm]
      · have e2 : n % (R'.length + 1) + 1 = R'.length + 1 := by omega
        have : (n + 1) % (R'.length + 1) = 0 := by
          rw [← Nat.mod_add_mod, e2, Nat.mod_self]
        rw [this, rot_zero, Nat.add_comm, e2, ← hL2, rot_all]
theorem getD_repL (l : List Nat) : ∀ (k j : Nat), j < k * l.length → (repL l k).getD j 0 = l.getD (j % l.length) 0
  | 0, j, h => by omega
  | k + 1, j, h => by
    rw [repL_succ]
    by_cases c : j < l.length
    · rw [Nat.mod_eq_of_lt c, List.getD_eq_getElem?_getD, List.getD_eq_getElem?_getD, List.getElem?_append_left c]
    · have e := getD_repL l k (j - l.length) (by rw [Nat.succ_mul] at h; omega)
      rw [List.getD_eq_getElem?_getD, List.getElem?_append_right (by omega), ← List.getD_eq_getElem?_getD, e, ← Nat.mod_eq_sub_mod (by omega)]
theorem cent2 {U x : List Nat} (hU : Cy U) (h0 : U ≠ []) (hp : per U = U.length) (hx : Row x) (fx : Free x) (h : Eqv (x ++ U ++ bak x) U) (hh : ∀ y c, x = y ++ [c] → ∃ R', U = swp c :: R') : ∃ k, bak x = repL U k := by
  obtain ⟨h1, h2⟩ := cent1 _ x U U rfl hx fx hU h0 hU h hh
  have hq := per_spec h0
  have hm := Nat.mod_lt x.length (List.length_pos_iff.mpr h0)
  have hd := hq.dvd (d := x.length % U.length) (by omega) h2.symm
  rw [hp] at hd
  have hz : x.length % U.length = 0 := by
    rcases Nat.eq_zero_or_pos (x.length % U.length) with h3 | h3
    · exact h3
    · have := Nat.le_of_dvd h3 hd; omega
  obtain ⟨k, hk⟩ := Nat.dvd_of_mod_eq_zero hz
  refine ⟨k, ext_getD ?_ fun j hj => ?_⟩
  · rw [bak_len, repL_len', hk, Nat.mul_comm]
  · rw [bak_len] at hj
    rw [h1 j hj, getD_repL U k j (by rw [Nat.mul_comm, ← hk]; exact hj)]
theorem bak_conj (U : List Nat) {x : List Nat} (hx : Row x) : bak (x ++ U ++ bak x) = x ++ bak U ++ bak x := by
  rw [bak_app, bak_app, bak_bak hx, List.append_assoc]
theorem cent {U x : List Nat} (hU : Cy U) (h0 : U ≠ []) (hp : per U = U.length) (hx : Row x) (fx : Free x) (h : Com U x) : ∃ k, x = repL (bak U) k ∨ x = repL U k := by
  have h1 := com_conj hU.1 hx h
  by_cases hn : x = []
  · exact ⟨0, .inl (by rw [hn]; rfl)⟩
  obtain ⟨y, c, rfl⟩ : ∃ y c, x = y ++ [c] := ⟨x.dropLast, x.getLast hn, (List.dropLast_concat_getLast hn).symm⟩
  rcases ends hx fx hU h0 hU h1 with ⟨R', e⟩ | ⟨R2, e⟩
  · obtain ⟨k, hk⟩ := cent2 hU h0 hp hx fx h1 fun y' c' e' => by
      have : c' = c := ((List.cons.inj (List.append_inj' e' rfl).2).1).symm
      rw [this]; exact ⟨R', e⟩
    refine ⟨k, .inl ?_⟩
    have := congrArg bak hk
    rw [bak_bak hx, bak_repL] at this
    exact this
  · have hB : Cy (bak U) := ⟨hU.1.bak, by rw [← bak_app]; exact free_bak (hU.1.app hU.1) hU.2⟩
    have hB0 : bak U ≠ [] := by intro e; have := congrArg List.length e; rw [bak_len] at this; exact h0 (List.length_eq_zero_iff.mp this)
    have h2 : Eqv (y ++ [c] ++ bak U ++ bak (y ++ [c])) (bak U) := by
      have := h1.bak
      rw [bak_conj U hx] at this
      exact this
    obtain ⟨k, hk⟩ := cent2 hB hB0 (by rw [per_bak hU.1 h0, bak_len]; exact hp) hx fx h2 fun y' c' e' => by
      have : c' = c := ((List.cons.inj (List.append_inj' e' rfl).2).1).symm
      rw [this, e]
      exact ⟨bak R2, by simp [bak]⟩
    refine ⟨k, .inr ?_⟩
    have := congrArg bak hk
    rw [bak_bak hx, bak_repL, bak_bak hU.1] at this
    exact this
theorem prim_com {u v : List Nat} (hu : Prim u) (hv : Prim v) (h : Com u v) : u = v ∨ u = bak v := by
  have hc := cy_ring hu.1 hu.2.1
  have hne := ring_ne hu.1 hu.2.1 hu.2.2.1
  have hL := hu.1.lead
  have eu := core_join hu.1
  have hx : Row (bak (lead u) ++ v ++ lead u) := (hL.bak.app hv.1).app hL
  have h1 := Com.conj hu.1 hv.1 hL.bak h
  rw [bak_bak hL] at h1
  have h2 : Eqv (bak (lead u) ++ u ++ lead u) (ring u) := by
    conv => lhs; lhs; rhs; rw [← eu]
    have a1 := Eqv.mid (a := []) (b := ring u ++ (bak (lead u) ++ lead u)) Row.nil (hc.1.app (hL.bak.app hL)) hL
    have a2 := Eqv.mid (a := ring u) (b := []) hc.1 Row.nil hL
    simp only [List.append_assoc, List.nil_append, List.append_nil] at a1 a2 ⊢
    exact a1.trans a2
  have h3 : Com (ring u) (red (bak (lead u) ++ v ++ lead u)) := h1.eqv h2 (Eqv.red hx).symm
  obtain ⟨k, hk⟩ := cent hc hne hu.2.2.2 hx.red (free_red hx) h3
  -- v is alike lead u, x, the back of lead u
  have h4 : Eqv (lead u ++ red (bak (lead u) ++ v ++ lead u) ++ bak (lead u)) v := by
    have b1 := (Eqv.appL (lead u) hL (Eqv.red hx)).appR (bak (lead u)) hL.bak
    have a1 := Eqv.mid' (a := []) (b := v ++ (lead u ++ bak (lead u))) Row.nil (hv.1.app (hL.app hL.bak)) hL
    have a2 := Eqv.mid' (a := v) (b := []) hv.1 Row.nil hL
    simp only [List.append_assoc, List.nil_append, List.append_nil] at a1 a2 b1 ⊢
    exact b1.trans (a1.trans a2)
  have key : ∀ W, Prim W → Eqv (repL W k) v → W = v := fun W hW h5 => by
    have k0 : 0 < k := by
      rcases Nat.eq_zero_or_pos k with rfl | h6
      · have := h5.2.2
        rw [repL_zero, red_nil, red_free hv.2.1 hv.1] at this
        exact absurd this.symm hv.2.2.1
      · exact h6
    have := (root_of hW k0 hv.1 h5).1
    rw [red_free hv.2.1 hv.1, hv.root.1] at this
    exact this.symm
  rcases hk with e | e
  · right
    rw [e] at h4
    have h5 := (conj_rep hL hc.1.bak k).trans h4
    have e6 : lead u ++ bak (ring u) ++ bak (lead u) = bak u := by
      conv => rhs; rw [← eu]
      rw [bak_app, bak_app, bak_bak hL, List.append_assoc]
    rw [e6] at h5
    have := key _ (prim_bak hu) h5
    rw [← this, bak_bak hu.1]
  · left
    rw [e] at h4
    have h5 := (conj_rep hL hc.1 k).trans h4
    rw [eu] at h5
    exact key _ hu h5
/-- when rows pass by one another -/
theorem com_due {f g : List Nat} (hf : Row f) (hg : Row g) : Com f g ↔ root1 (red f) = [] ∨ root1 (red g) = [] ∨ root1 (red f) = root1 (red g) ∨ root1 (red f) = bak (root1 (red g)) := by
  by_cases a : red f = []
  · have e : Eqv f [] := ⟨hf, Row.nil, a⟩
    exact ⟨fun _ => .inl (by rw [a, root1_nil]), fun _ => (Com.nil' hg).eqv e.symm (Eqv.refl hg)⟩
  by_cases b : red g = []
  · have e : Eqv g [] := ⟨hg, Row.nil, b⟩
    exact ⟨fun _ => .inr (.inl (by rw [b, root1_nil])), fun _ => (Com.nil hf).eqv (Eqv.refl hf) e.symm⟩
  have pf := prim_root hf.red (free_red hf) a
  have pg := prim_root hg.red (free_red hg) b
  have ef := (root_rep hf.red (free_red hf) a).trans (Eqv.red hf)
  have eg := (root_rep hg.red (free_red hg) b).trans (Eqv.red hg)
  have nf := rootn_pos hf.red (free_red hf) a
  have ng := rootn_pos hg.red (free_red hg) b
  generalize root1 (red f) = u at *
  generalize root1 (red g) = v at *
  have key : Com f g ↔ Com u v := by
    constructor
    · intro h
      have h1 := h.eqv ef.symm eg.symm
      have h2 := (com_pow pf.1 (pg.1.rep _) nf).mp h1
      exact ((com_pow pg.1 pf.1 ng).mp h2.symm).symm
    · intro h
      have h1 := ((com_pow pg.1 pf.1 ng).mpr h.symm).symm
      exact ((com_pow pf.1 (pg.1.rep _) nf).mpr h1).eqv ef eg
  rw [key]
  constructor
  · intro h; exact .inr (.inr (prim_com pf pg h))
  · rintro (h | h | h | h)
    · exact absurd h pf.2.2.1
    · exact absurd h pg.2.2.1
    · rw [h]; exact Com.refl pg.1
    · rw [h]; exact (com_bak pg.1 pg.1).mpr (Com.refl pg.1)
/-- rings of powers -/
theorem alk_pow {f g : List Nat} (hf : Row f) (hg : Row g) {m : Nat} (hm : 0 < m) : alk (red (repL f m)) (red (repL g m)) = alk (red f) (red g) := by
  rw [Bool.eq_iff_iff, alk_iff, alk_iff, ring_pow hf, ring_pow hg]
  constructor
  · intro h
    have hl := h.len
    rw [repL_len', repL_len'] at hl
    have hl2 : (ring (red g)).length = (ring (red f)).length := Nat.eq_of_mul_eq_mul_left hm hl
    by_cases h0 : ring (red g) = []
    · rw [h0] at hl2 ⊢
      rw [List.length_eq_zero_iff.mp hl2.symm]
      exact Turn.refl _
    obtain ⟨i, hi, e⟩ := h.rot
    -- the turn within one ring row
    have hR : 0 < (ring (red g)).length := List.length_pos_iff.mpr h0
    generalize ring (red g) = R at *
    generalize ring (red f) = S at *
    have hmod := Nat.mod_lt i hR
    have e2 : rot (repL R m) i = repL (rot R (i % R.length)) m := by
      have e3 : rot (repL R m) i = rot (repL R m) (i % R.length) := by
        have hq : i = i / R.length * R.length + i % R.length := by rw [Nat.mul_comm]; exact (Nat.div_add_mod i R.length).symm
        have h6 := rot_rot (repL R m) (i := i / R.length * R.length) (j := i % R.length) (by omega)
        rw [rot_mul (rot_repL R m) (i / R.length) (by omega)] at h6
        rw [h6, ← hq]
      rw [e3]
      have h7 : ∀ A B : List Nat, ∀ n, rot (repL (A ++ B) (n + 1)) A.length = repL (B ++ A) (n + 1) := by
        intro A B n
        have h8 : ∀ n, A ++ repL (B ++ A) n = repL (A ++ B) n ++ A := by
          intro n
          induction n with
          | zero => simp [repL_zero]
          | succ n ih => rw [repL_succ, repL_succ, List.append_assoc, List.append_assoc, ih, List.append_assoc]
        have h9 : repL (A ++ B) (n + 1) = A ++ (repL (B ++ A) n ++ B) := by
          rw [← repL_snoc, ← List.append_assoc, ← List.append_assoc, h8 n]
        rw [h9, rot_app, List.append_assoc, repL_snoc]
      obtain ⟨n, rfl⟩ : ∃ n, m = n + 1 := ⟨m - 1, by omega⟩
      have h10 := h7 (R.take (i % R.length)) (R.drop (i % R.length)) n
      rw [List.take_append_drop, List.length_take, Nat.min_eq_left (by omega)] at h10
      exact h10
    rw [e2] at e
    rw [repL_inj hm e]
    exact turn_rot _ _
  · rintro ⟨A, B, e1, e2⟩
    rw [e1, e2]
    obtain ⟨n, rfl⟩ : ∃ n, m = n + 1 := ⟨m - 1, by omega⟩
    refine ⟨A, repL (B ++ A) n ++ B, ?_, ?_⟩
    · have h8 : ∀ n, A ++ repL (B ++ A) n = repL (A ++ B) n ++ A := by
        intro n
        induction n with
        | zero => simp [repL_zero]
        | succ n ih => rw [repL_succ, repL_succ, List.append_assoc, List.append_assoc, ih, List.append_assoc]
      rw [← repL_snoc, ← List.append_assoc, ← List.append_assoc, h8 n]
    · rw [List.append_assoc, repL_snoc]
theorem root_all {w : List Nat} (hw : Row w) : Eqv (repL (root1 (red w)) (rootn (red w))) w := by
  by_cases h : red w = []
  · rw [h, root1_nil, rootn_nil, repL_zero]
    exact ⟨Row.nil, hw, by rw [h, red_nil]⟩
  · exact (root_rep hw.red (free_red hw) h).trans (Eqv.red hw)
theorem com_dec {f g : List Nat} (hf : Row f) (hg : Row g) : red (f ++ g) = red (g ++ f) ↔ Com f g := ⟨fun h => ⟨hf.app hg, hg.app hf, h⟩, fun h => h.2.2⟩
theorem com_self {f g : List Nat} (hf : Row f) (hg : Row g) : Com f (f ++ g ++ bak f) ↔ Com f g := by
  have key : ∀ {x y}, Row x → Row y → Com x y → Com x (x ++ y ++ bak x) := fun {x y} hx hy h => by
    have h1 := Com.conj hx hy hx h
    have h2 := Com.conj hx hx hx (Com.refl hx)
    have h3 : Eqv (x ++ x ++ bak x) x := by
      have := Eqv.mid' (a := x) (b := []) hx Row.nil hx
      simp only [List.append_assoc, List.append_nil] at this ⊢
      exact this
    exact h1.eqv h3 (Eqv.refl ((hx.app hy).app hx.bak))
  constructor
  · intro h
    have hw : Row (f ++ g ++ bak f) := (hf.app hg).app hf.bak
    have h1 := key hf.bak hw ((com_bak hf hw).mpr h)
    rw [bak_bak hf] at h1
    have h2 := (com_bak hf ((hf.bak.app hw).app hf)).mp h1
    refine h2.eqv (Eqv.refl hf) ?_
    have a1 := Eqv.mid (a := []) (b := g ++ (bak f ++ f)) Row.nil (hg.app (hf.bak.app hf)) hf
    have a2 := Eqv.mid (a := g) (b := []) hg Row.nil hf
    simp only [List.append_assoc, List.nil_append, List.append_nil] at a1 a2 ⊢
    exact a1.trans a2
  · exact key hf hg
theorem com_due' {f g : List Nat} (hf : Row f) (hg : Row g) : (red (f ++ g) = red (g ++ f)) ↔ root1 (red f) = [] ∨ root1 (red g) = [] ∨ root1 (red f) = root1 (red g) ∨ root1 (red f) = bak (root1 (red g)) := by
  rw [com_dec hf hg]; exact com_due hf hg
theorem rep_flat' (l : List Nat) (n : Nat) : (List.replicate n l).flatten = repL l n := rfl
end NX
namespace NX
open PySem PySem.Spec PyProof.Rows L2
section
variable {X : Cx} {pos : Pos}
theorem pg_lstK (K : PySem.W.Frag) {es : List Expr} {k : Nat} {t : TGs} {n : Nat} (hc : X.calm = true) (h : PGs X es t) (hK : X.K = K := by rfl)
    (hn : (assignEach es X.env).length = n := by rfl) (hst : (assignEach es X.env).findIdx? (·.1) = none := by rfl) : PG X (.Tuple es k pos) (gLst K n t) := hK ▸ pg_lst hc h hn hst
theorem cr_sortedSK (K : PySem.W.Frag) (hK : X.K = K := by rfl) : CallR X (.builtin "sorted") (rSortedS K) := hK ▸ cr_sortedS
end
section
variable {K : PySem.W.Frag} {σ : L2.St} {H : Hp} {Q : VK}
theorem r_glst {n : Nat} {g : TGs} {a : Addr} {xs : List V} {QN : L2.St → Hp → Prop} (e : SqL K H a xs) (hl : xs.length = n) (h : g xs σ H QN) : gLst K n g (.ref a) σ H QN := ⟨a, xs, rfl, e, hl, h⟩
/-! ### sorted texts -/
theorem rising_pw : ∀ (p : Str) (l : List Str), risingS p l = true → (p :: l).Pairwise (fun a b => a.cps.toList ≤ b.cps.toList)
  | p, [], _ => by simp
  | p, x :: r, h => by
    have h' : (!ltCps x.cps.toList p.cps.toList && risingS x r) = true := h
    rw [Bool.and_eq_true] at h'
    have ih := rising_pw x r h'.2
    have h1 : p.cps.toList ≤ x.cps.toList := by
      have h3 := h'.1
      rw [ltCps_eq] at h3
      exact List.not_lt.mp (by simpa using h3)
    refine List.pairwise_cons.mpr ⟨fun y hy => ?_, ih⟩
    rcases List.mem_cons.mp hy with e | hy
    · rw [e]; exact h1
    · exact List.le_trans h1 ((List.pairwise_cons.mp ih).1 y hy)
theorem sorted_pw (l : List Str) (h : sortedS l = true) : l.Pairwise (fun a b => a.cps.toList ≤ b.cps.toList) := by
  cases l with
  | nil => exact List.Pairwise.nil
  | cons p r => exact rising_pw p r h
theorem sorted_uniq {ys zs : List Str} (hp : ys.Perm zs) (hy : sortedS ys = true) (hz : sortedS zs = true) : ys = zs := by
  refine List.Perm.eq_of_pairwise (le := fun a b : Str => a.cps.toList ≤ b.cps.toList) (fun a b _ _ h1 h2 => ?_) (sorted_pw _ hy) (sorted_pw _ hz) hp
  have e := List.le_antisymm h1 h2
  obtain ⟨a⟩ := a; obtain ⟨b⟩ := b
  have : a.toList = b.toList := e
  rw [Array.toList_inj.mp this]
/-- the turns of a row -/
def rots (R : List Nat) : List (List Nat) := (List.range R.length).map (rot R)
theorem rots_turn {R S : List Nat} (h : Turn R S) : (rots R).Perm (rots S) := by
  obtain ⟨i, hi, rfl⟩ := h.rot
  unfold rots
  rw [rot_len]
  have e1 : List.range R.length = List.range i ++ (List.range (R.length - i)).map (i + ·) := by
    rw [← List.range_add]; congr 1; omega
  have e2 : List.range R.length = List.range (R.length - i) ++ (List.range i).map ((R.length - i) + ·) := by
    rw [← List.range_add]; congr 1; omega
  conv => lhs; rw [e1]
  conv => rhs; rw [e2]
  rw [List.map_append, List.map_append, List.map_map, List.map_map]
  have h1 : (List.range (R.length - i)).map (rot R ∘ (i + ·)) = (List.range (R.length - i)).map (rot (rot R i)) := by
    refine List.map_congr_left fun k hk => ?_
    have := List.mem_range.mp hk
    exact (rot_rot R (by omega)).symm
  have h2 : (List.range i).map (rot (rot R i) ∘ ((R.length - i) + ·)) = (List.range i).map (rot R) := by
    refine List.map_congr_left fun j hj => ?_
    have := List.mem_range.mp hj
    show rot (rot R i) ((R.length - i) + j) = rot R j
    rw [← rot_rot (rot R i) (by rw [rot_len]; omega), rot_rot R (by omega), show i + (R.length - i) = R.length by omega, rot_all]
  rw [h1, h2]
  exact List.perm_append_comm
theorem r_sortedS {p : Addr} {ls : List (List Nat)} (e : SqL K H p (ls.map T)) (hl : ls.length < 64) (h : ∀ (zs : List (List Nat)) (d : Addr), zs.Perm ls → sortedS (zs.map mkS) = true → H d = none → Q (.ref d) (upd H d (.lst (zs.map T)))) : rSortedS K [.ref p] H Q := by
  refine ⟨p, ls.map mkS, rfl, by rw [List.map_map]; exact e, by rw [List.length_map]; exact hl, fun ys d hp hs nd => ?_⟩
  have e2 : (ys.map fun s : Str => s.cps.toList).map mkS = ys := by
    rw [List.map_map]
    conv => rhs; rw [← List.map_id ys]
    exact List.map_congr_left fun s _ => by cases s; rfl
  have e3 : ys.map V.str = (ys.map fun s : Str => s.cps.toList).map T := by
    conv => lhs; rw [← e2]
    rw [List.map_map]; rfl
  rw [e3]
  refine h _ d ?_ (by rw [e2]; exact hs) nd
  have h5 := hp.map fun s : Str => s.cps.toList
  rw [List.map_map] at h5
  have h6 : ls.map ((fun s : Str => s.cps.toList) ∘ mkS) = ls := by
    conv => rhs; rw [← List.map_id ls]
    exact List.map_congr_left fun s _ => rfl
  rw [h6] at h5
  exact h5
theorem sorted_one {zs ws ls ms : List (List Nat)} (h1 : zs.Perm ls) (h2 : ws.Perm ms) (hp : ls.Perm ms) (s1 : sortedS (zs.map mkS) = true) (s2 : sortedS (ws.map mkS) = true) : zs = ws := by
  have h := sorted_uniq ((h1.trans (hp.trans h2.symm)).map mkS) s1 s2
  exact List.map_inj_right (fun a b e => mkS_inj e) |>.mp h
end
theorem row2 {a b : List Nat} (ha : Row a) (hb : Row b) : ∀ l ∈ [a, b], Row l := fun x hx => by
  simp only [List.mem_cons, List.not_mem_nil, or_false] at hx
  rcases hx with rfl | rfl
  · exact ha
  · exact hb
theorem row3 {a b c : List Nat} (ha : Row a) (hb : Row b) (hc : Row c) : ∀ l ∈ [a, b, c], Row l := fun x hx => by
  simp only [List.mem_cons, List.not_mem_nil, or_false] at hx
  rcases hx with rfl | rfl | rfl
  · exact ha
  · exact hb
  · exact hc
theorem conj_back {x a b : List Nat} (hx : Row x) (hb : Row b) (h : Eqv (x ++ b ++ bak x) a) : Eqv (bak x ++ a ++ x) b := by
  have h1 := (Eqv.appL (bak x) hx.bak h).appR x hx
  have a1 := Eqv.mid (a := []) (b := b ++ (bak x ++ x)) Row.nil (hb.app (hx.bak.app hx)) hx
  have a2 := Eqv.mid (a := b) (b := []) hb Row.nil hx
  simp only [List.append_assoc, List.nil_append, List.append_nil] at h1 a1 a2 ⊢
  exact h1.symm.trans (a1.trans a2)
theorem conj_through {x y a b c : List Nat} (hx : Row x) (hy : Row y) (hc : Row c) (h : Eqv (x ++ b ++ bak x) a) (g : Eqv (y ++ c ++ bak y) b) : Eqv (red (x ++ y) ++ c ++ bak (red (x ++ y))) a := by
  have h0 := Eqv.red (hx.app hy)
  have h1 := (h0.appR c hc).app h0.bak
  rw [bak_app] at h1
  have h2 := (Eqv.appL x hx g).appR (bak x) hx.bak
  simp only [List.append_assoc] at h1 h2 h ⊢
  exact h1.trans (h2.trans h)
theorem alk_conj {x a b : List Nat} (hx : Row x) (hb : Row b) (h : Eqv (x ++ b ++ bak x) a) : alk (red a) (red b) = true ∧ alk (red b) (red a) = true := by
  have t := ring_conj hx hb h.2.1 h
  exact ⟨(alk_iff _ _).mpr t, (alk_iff _ _).mpr t.symm⟩
theorem alk_comm (f g : List Nat) : alk f g = alk g f := by
  rw [Bool.eq_iff_iff, alk_iff, alk_iff]
  exact ⟨Turn.symm, Turn.symm⟩
theorem alk_same {f g : List Nat} (h : alk f g = true) (t : List Nat) : alk f t = alk g t := by
  rw [alk_iff] at h
  rw [Bool.eq_iff_iff, alk_iff, alk_iff]
  exact ⟨fun k => k.trans h.symm, fun k => k.trans h⟩
theorem rots_map (R : List Nat) : (List.range R.length).filterMap (fun i => some (T (rot R i))) = (rots R).map T := by
  unfold rots
  rw [List.map_map]
  exact List.filterMap_eq_map (f := fun i => T (rot R i)) ▸ rfl
theorem rots_row {R : List Nat} (h : Row R) : ∀ l ∈ rots R, Row l := fun l hl => by
  obtain ⟨i, _, rfl⟩ := List.mem_map.mp hl
  exact (turn_rot R i).row h
theorem rots_len (R : List Nat) : (rots R).length = R.length := by unfold rots; rw [List.length_map, List.length_range]
theorem row5 {a b c d e : List Nat} (ha : Row a) (hb : Row b) (hc : Row c) (hd : Row d) (he : Row e) : ∀ l ∈ [a, b, c, d, e], Row l := fun x hx => by
  simp only [List.mem_cons, List.not_mem_nil, or_false] at hx
  rcases hx with rfl | rfl | rfl | rfl | rfl
  · exact ha
  · exact hb
  · exact hc
  · exact hd
  · exact he
end NX
set_option maxHeartbeats 2000000
namespace PySem
open Builtin Builtin.Str
theorem nx_meets_enumerate {v : Value} {o : Obj} {H : Heap → Prop} (B : Begins v o H) :
    Meets (Builtin.«enumerate.__new__» ⟨[.type "enumerate", v], []⟩) (fun _ R s => H s.heap ∧
      R (.ok (.ret (.ref (s.heap.push o).objs.size))) { s with heap := (s.heap.push o).push { cls := .type "enumerate", data := .fields #[.none, .bool false, .ref s.heap.objs.size, rawInt 0, .none, .none] } }) :=
  .of_wp fun prog w A R s h => by
    obtain ⟨hp, g, d, tk, os⟩ := s; obtain ⟨h1, h⟩ := h
    have hsub := sub_enumerate
    have q1 : ∀ {A' : Around} {E : Value → Shared → Prop} {Q : Value → Shared → Prop}, Q (.ref hp.objs.size) ⟨hp.push o, g, d, tk, os⟩ → wpAny (model prog w) A' (pyIter v) Q E ⟨hp, g, d, tk, os⟩ :=
      fun q => B.iter prog w _ _ ⟨hp, g, d, tk, os⟩ _ h1 q
    wp_walk using q1
    refine wpAny_stack_any fun st => wpAny_pure ?_
    split
    · rename_i c _ _ _ _ _
      cases (c == Value.type "enumerate")
      · wp_walk using q1
        exact ⟨_, rfl, h⟩
      · wp_walk using q1
        exact ⟨_, rfl, h⟩
    · wp_walk using q1
      exact ⟨_, rfl, h⟩
theorem nx_enum_begins {prog : Program} {w : World} {A : Around} {E : Value → Shared → Prop} {s : Shared} {v : Value} {o : Obj} {H : Heap → Prop} {Q : Value → Shared → Prop} (B : Begins v o H) (h1 : H s.heap)
    (h : ∀ h', IsEnum h' (s.heap.objs.size + 1) s.heap.objs.size 0 .none → h'.get? s.heap.objs.size = some o → h'.objs.size = s.heap.objs.size + 2 →
      (∀ b o, s.heap.get? b = some o → h'.get? b = some o) → Q (.ref (s.heap.objs.size + 1)) { s with heap := h' }) :
    wpAny (model prog w) A (call (.type "enumerate") [v]) Q E s := by
  refine callType_new F.called_enumerate (by decide) (F.typeCall_enumerate_1 _) (F.newCall_enumerate_1 _) (fun obj => F.args_object_init_2 obj _) F.entry_enumerate_new
    (nx_meets_enumerate B) ⟨h1, ?_⟩
  have hz : (s.heap.push o).objs.size = s.heap.objs.size + 1 := Heap.size_push ..
  show _ ∧ _
  rw [hz]
  have he : IsEnum ((s.heap.push o).push { cls := .type "enumerate", data := .fields #[.none, .bool false, .ref s.heap.objs.size, rawInt 0, .none, .none] }) (s.heap.objs.size + 1) s.heap.objs.size 0 .none := by
    have := Heap.get?_push_size (s.heap.push o) (o := { cls := .type "enumerate", data := .fields #[.none, .bool false, .ref s.heap.objs.size, rawInt 0, .none, .none] }) rfl
    rw [hz] at this; exact this
  refine ⟨⟨_, he, rfl⟩, h _ he (Heap.get?_push_of_some _ (Heap.get?_push_size _ B.free)) (by rw [Heap.size_push, hz]) fun b o x => Heap.get?_push_of_some _ (Heap.get?_push_of_some _ x)⟩
end PySem
namespace NX
open PySem PySem.Spec PyProof.Rows L2
/-! ### enumerate and zip over texts, tuples, lists -/
/-- an iterator that stands at its i-th item; what its items are -/
structure Src (K : PySem.W.Frag) (it : Addr) (fs : List Addr) (St : Nat → Heap → Prop) (G : Hp → List V → Prop) : Prop where
  obj : ∀ i h, St i h → ∃ o, h.get? it = some o ∧ ∀ v, o.data ≠ .cell v
  keep : ∀ i h h', St i h → (∀ o, h.get? it = some o → h'.get? it = some o) → St i h'
  inj : ∀ (X : Cx), X.K = K → ∀ (pins : List (Addr × Obj)) (s : Shared) (σ : L2.St) (H : Hp) (xs ys : List V), Inv X pins σ H s → G H xs → G H ys → xs = ys
  draws : ∀ (X : Cx), X.K = K → X.calm = true → ∀ (pins : List (Addr × Obj)) (s : Shared) (σ : L2.St) (H : Hp) (xs : List V), Inv X pins σ H s → G H xs →
    ∃ (Pv : Nat → Value → Prop) (St' : Nat → Heap → Prop), Draws X.prog X.w X.A.in1 it (it :: fs) xs.length Pv St' ∧
      (∀ i, St i s.heap → St' i s.heap) ∧ (∀ i h, St' i h → St i h) ∧ ∀ i v, Pv i v → ∃ x, xs[i]? = some x ∧ RelV x v
variable {P : Program} {w : World} {K : PySem.W.Frag}
theorem vals_get' : ∀ {xs : List V} {us : List Value} {i : Nat} {u : Value}, Vals xs us → us[i]? = some u → ∃ x, xs[i]? = some x ∧ RelV x u
  | _, _, _, _, .nil, e => by simp at e
  | _, _, 0, _, .cons r _, e => by simp at e; subst e; exact ⟨_, rfl, r⟩
  | _, _, i + 1, x, .cons _ t, e => by
    obtain ⟨y, h1, h2⟩ := vals_get' (i := i) t (by simpa using e)
    exact ⟨y, by simpa using h1, h2⟩
theorem src_list {a it : Addr} (hne : a ≠ it) : Src K it [a] (fun i h => h.IsListIter it a i) (fun H xs => SqL K H a xs) where
  obj := fun i h ⟨o, ho, hc, hd⟩ => ⟨o, ho, fun v q => by rw [hd] at q; cases q⟩
  keep := fun i h h' st k => st.at fun o q => k o q
  inj := fun X hK pins s σ H xs ys I h1 h2 => by subst hK; exact I.list_inj h1 h2
  draws := fun X hK hc pins s σ H xs I h => by
    subst hK
    obtain ⟨its, rv, p, hz⟩ := I.list h
    have hl := rv.length
    have D := Draws.list (prog := X.prog) (w := X.w) (A := X.A.in1) (I.ok.hd hc) it a hne its.toArray
    rw [show its.toArray.size = xs.length by simp [hl]] at D
    exact ⟨_, _, D, fun i st => ⟨st, p.isList⟩, fun i h' (st : _ ∧ _) => st.1, fun i v (hv : its.toArray[i]? = some v) => vals_get' rv (by simpa using hv)⟩
theorem src_tup {a it : Addr} (hne : a ≠ it) : Src K it [a] (fun i h => h.IsTupleIter it a i) (fun H xs => SqT K H a xs) where
  obj := fun i h ⟨o, ho, hc, hd⟩ => ⟨o, ho, fun v q => by rw [hd] at q; cases q⟩
  keep := fun i h h' st k => st.at fun o q => k o q
  inj := fun X hK pins s σ H xs ys I h1 h2 => by subst hK; exact I.tuple_inj h1 h2
  draws := fun X hK hc pins s σ H xs I h => by
    subst hK
    obtain ⟨its, rv, p, hz⟩ := I.tuple h
    have hl := rv.length
    have D := Draws.tuple (prog := X.prog) (w := X.w) (A := X.A.in1) (I.ok.hd hc) it a hne its.toArray
    rw [show its.toArray.size = xs.length by simp [hl]] at D
    exact ⟨_, _, D, fun i st => ⟨st, p⟩, fun i h' (st : _ ∧ _) => st.1, fun i v (hv : its.toArray[i]? = some v) => vals_get' rv (by simpa using hv)⟩
theorem src_txt (l : List Nat) (t : Tok) (it : Addr) : Src K it [] (fun i h => h.IsStrIter it (strIterType (mkS l)) (mkS l) t i) (fun _ xs => xs = l.map fun c => T [c]) where
  obj := fun i h ⟨o, ho, hc, hd⟩ => ⟨o, ho, fun v q => by rw [hd] at q; cases q⟩
  keep := fun i h h' st k => let ⟨o, ho, r⟩ := st; ⟨o, k o ho, r⟩
  inj := fun X hK pins s σ H xs ys I h1 h2 => h1.trans h2.symm
  draws := fun X hK hc pins s σ H xs I h => by
    subst hK h
    have D := Draws.text (prog := X.prog) (w := X.w) (A := X.A.in1) (I.ok.hd hc) it (mkS l) t
    rw [show (mkS l).cps.size = (l.map fun c => T [c]).length by simp [mkS]] at D
    refine ⟨_, _, D, fun i st => st, fun i h' st => st, fun i v hv => ?_⟩
    obtain ⟨c, u, hcu, rfl⟩ := hv
    refine ⟨T [c], ?_, ⟨u, rfl⟩⟩
    have : l[i]? = some c := by simpa [mkS] using hcu
    rw [List.getElem?_map, this]; rfl
/-- enumerate over what Src tells -/
def ItE (G : Hp → List V → Prop) : It :=
  ⟨fun i H => ∃ (xs : List V) (x : V), G H xs ∧ xs[i]? = some x, fun i H v H' => ∃ T x, v = .ref T ∧ H T = none ∧ H' = upd H T (.tup [.int (i : Nat), x]) ∧ ∀ xs, G H xs → xs[i]? = some x, fun i H => ∃ xs : List V, G H xs ∧ xs.length = i⟩
theorem turn_enumS {elts : List Expr} {kk : Nat} {tpos : Pos} {e it : Addr} {fs : List Addr} {St : Nat → Heap → Prop} {G : Hp → List V → Prop} (S : Src K it fs St G) (hef : e ∉ it :: fs) :
    L2.Turn P w K (.Tuple elts kk tpos) (ItE G) [e, it] e (fun i h => (∃ old, IsEnum h e it ((i : Nat) : Int) old) ∧ St i h) where
  mem := by simp
  obj := fun i h st b hb => by
    obtain ⟨⟨old, he⟩, hs⟩ := st
    have e' : b = e ∨ b = it := by simpa using hb
    rcases e' with z | z
    · rw [z]; exact ⟨_, he, fun v q => nomatch q⟩
    · rw [z]; exact S.obj i h hs
  keep := fun i h h' st k => let ⟨⟨old, he⟩, hi⟩ := st; ⟨⟨old, k e (by simp) _ he⟩, S.keep i h h' hi fun o q => k it (by simp) o q⟩
  item := by
    intro X hP hw hK hc i pins s σ H E I hf st hg
    subst hP hw
    obtain ⟨⟨old, he⟩, hit⟩ := st
    have hne : e ≠ it := fun q => hef (by rw [q]; simp)
    obtain ⟨xs, x, hq, hx⟩ := hg
    obtain ⟨Pv, St', D, to, from', hPv⟩ := S.draws X hK hc pins s σ H xs I hq
    have hlt : i < xs.length := (List.getElem?_eq_some_iff.mp hx).1
    have hel : e < s.heap.objs.size := Heap.lt_size he
    refine wpAny_pyNext_enum_itemD D he (to i hit) hlt hne hef fun u h' tk hu ho hit' hT hsz hk => ?_
    obtain ⟨x', hx', ru⟩ := hPv i u hu
    have exx : x' = x := by rw [hx] at hx'; exact (Option.some.inj hx').symm
    subst exx
    refine ⟨_, rfl, wpAny_letOwnedTupleGo_enum (s := { s with heap := h', toks := tk + 1 }) ho fun h'' he' sb => ?_⟩
    have hT2 : h''.get? s.heap.objs.size = some { cls := .type "tuple", data := .seq #[.int i tk, u] } := (sb.2 _ (Nat.ne_of_gt hel)).trans hT
    have new : ObjOk X.prog X.w (upd H s.heap.objs.size (.tup [.int (i : Nat), x'])) h'' s.heap.objs.size (.tup [.int (i : Nat), x']) :=
      ⟨by show 2 ≤ sizeLine; decide, [.int i tk, u], .cons ⟨_, rfl⟩ (.cons ru .nil), ⟨_, hT2, rfl, _, rfl⟩⟩
    have I1 : Inv X pins σ (upd H s.heap.objs.size (.tup [.int (i : Nat), x'])) { s with heap := h'', toks := tk + 1 } :=
      I.turnedNew (ch := [e, it]) (fun b ob hb q => (sb.2 b (fun z => hb (by simp [z]))).trans (hk b ob (fun z => hb (by simp [z])) (fun z => hb (by simp [z])) q)) hf (Nat.le_refl _) new
    have hil : it < s.heap.objs.size := by obtain ⟨o, q, _⟩ := S.obj i _ hit; exact Heap.lt_size q
    refine ⟨.ref s.heap.objs.size, _, I1, rfl, ⟨_, x', rfl, I.hok.fresh (Nat.le_refl _), rfl, fun ys hy => by rw [S.inj X hK pins s σ H ys xs I hy hq]; exact hx⟩, ⟨⟨u, ?_⟩, S.keep _ _ _ (from' _ _ hit') fun o q => (sb.2 it (Ne.symm hne)).trans q⟩, fun b hb => ?_⟩
    · have e1 : ((i + 1 : Nat) : Int) = (i : Int) + 1 := by omega
      rw [e1]; exact he'
    · have hb' : b < s.heap.objs.size := by
        have e' : b = e ∨ b = it := by simpa using hb
        rcases e' with z | z
        · rw [z]; exact hel
        · rw [z]; exact hil
      rw [upd_ne (Nat.ne_of_lt hb')]
      exact (hf b hb).1
  done := by
    intro X hP hw hK hc i pins s σ H E I hf st hg
    subst hP hw
    obtain ⟨⟨old, he⟩, hit⟩ := st
    obtain ⟨xs, hq, hx⟩ := hg
    subst hx
    obtain ⟨Pv, St', D, to, from', hPv⟩ := S.draws X hK hc pins s σ H xs I hq
    obtain ⟨f0, f1, f2, f3, f4, f5⟩ := hf it (by simp)
    exact wpAny_pyNext_enum_endD D he (to _ hit) fun h' eb => ⟨rfl, I.turned (t' := s.toks) (fun b o hb q => eb b o hb q) f0 f1 f3 f4 f5⟩
  self := fun A i s Q E st h => let ⟨⟨_, he⟩, _⟩ := st; wpAny_pyIter_enum he h
/-- zip of what two Srcs tell -/
def ItZ (G1 G2 : Hp → List V → Prop) : It :=
  ⟨fun i H => ∃ (xs ys : List V) (x y : V), G1 H xs ∧ G2 H ys ∧ xs[i]? = some x ∧ ys[i]? = some y,
    fun i H v H' => ∃ T x y, v = .ref T ∧ H T = none ∧ H' = upd H T (.tup [x, y]) ∧ (∀ xs, G1 H xs → xs[i]? = some x) ∧ ∀ ys, G2 H ys → ys[i]? = some y,
    fun i H => ∃ xs ys : List V, G1 H xs ∧ G2 H ys ∧ i ≤ xs.length ∧ i ≤ ys.length ∧ (i = xs.length ∨ i = ys.length)⟩
theorem turn_zipS {elts : List Expr} {kk : Nat} {tpos : Pos} {z TI TO i1 i2 : Addr} {fs1 fs2 : List Addr} {St1 St2 : Nat → Heap → Prop} {G1 G2 : Hp → List V → Prop}
    (S1 : Src K i1 fs1 St1 G1) (S2 : Src K i2 fs2 St2 G2) (Z : ZipSep2 z TI TO i1 i2 (i1 :: fs1) (i2 :: fs2)) :
    L2.Turn P w K (.Tuple elts kk tpos) (ItZ G1 G2) [z, TI, TO, i1, i2] z (fun i h => IsZip h z TI TO .none ∧ IsTupOf2 h TI (.ref i1) (.ref i2) ∧ (∃ x y, IsTupOf2 h TO x y) ∧ St1 i h ∧ St2 i h) where
  mem := by simp
  obj := fun i h st c hc => by
    obtain ⟨hz, hTI, ⟨x, y, hTO⟩, h1, h2⟩ := st
    have e' : c = z ∨ c = TI ∨ c = TO ∨ c = i1 ∨ c = i2 := by simpa using hc
    rcases e' with q | q | q | q | q
    · rw [q]; exact ⟨_, hz, fun v q => nomatch q⟩
    · rw [q]; exact ⟨_, hTI, fun v q => nomatch q⟩
    · rw [q]; exact ⟨_, hTO, fun v q => nomatch q⟩
    · rw [q]; exact S1.obj i h h1
    · rw [q]; exact S2.obj i h h2
  keep := fun i h h' st k => by
    obtain ⟨hz, hTI, ⟨x, y, hTO⟩, h1, h2⟩ := st
    exact ⟨k z (by simp) _ hz, k TI (by simp) _ hTI, ⟨x, y, k TO (by simp) _ hTO⟩, S1.keep i h h' h1 fun o q => k i1 (by simp) o q, S2.keep i h h' h2 fun o q => k i2 (by simp) o q⟩
  item := by
    intro X hP hw hK hc i pins s σ H E I hf st hg
    subst hP hw
    obtain ⟨hz, hTI, ⟨x0, y0, hTO⟩, h1, h2⟩ := st
    obtain ⟨xs, ys, x, y, hqx, hqy, hx, hy⟩ := hg
    obtain ⟨P1, St1', D1, to1, from1, hP1⟩ := S1.draws X hK hc pins s σ H xs I hqx
    obtain ⟨P2, St2', D2, to2, from2, hP2⟩ := S2.draws X hK hc pins s σ H ys I hqy
    have hlt1 : i < xs.length := (List.getElem?_eq_some_iff.mp hx).1
    have hlt2 : i < ys.length := (List.getElem?_eq_some_iff.mp hy).1
    have hzl : z < s.heap.objs.size := Heap.lt_size hz
    refine wpAny_pyNext_zipD2_item Z D1 D2 hz hTI hTO (to1 i h1) (to2 i h2) hlt1 hlt2 fun u u2 h' tk hu hu2 z' TO' h1' h2' hT hsz hk => ?_
    obtain ⟨x', hx', ru⟩ := hP1 i u hu
    obtain ⟨y', hy', ru2⟩ := hP2 i u2 hu2
    have exx : x' = x := by rw [hx] at hx'; exact (Option.some.inj hx').symm
    have eyy : y' = y := by rw [hy] at hy'; exact (Option.some.inj hy').symm
    subst exx eyy
    refine ⟨_, rfl, wpAny_letOwnedTupleGo_zip (s := { s with heap := h', toks := tk }) z' fun h'' z'' sb => ?_⟩
    have hT2 : h''.get? s.heap.objs.size = some { cls := .type "tuple", data := .seq #[u, u2] } := (sb.2 _ (Nat.ne_of_gt hzl)).trans hT
    have new : ObjOk X.prog X.w (upd H s.heap.objs.size (.tup [x', y'])) h'' s.heap.objs.size (.tup [x', y']) :=
      ⟨by show 2 ≤ sizeLine; decide, [u, u2], .cons ru (.cons ru2 .nil), ⟨_, hT2, rfl, _, rfl⟩⟩
    have I1 : Inv X pins σ (upd H s.heap.objs.size (.tup [x', y'])) { s with heap := h'', toks := tk } :=
      I.turnedNew (t' := tk) (ch := [z, TI, TO, i1, i2]) (fun c o hb q => (sb.2 c (fun q' => hb (by simp [q']))).trans (hk c o (fun q' => hb (by simp [q'])) (fun q' => hb (by simp [q'])) (fun q' => hb (by simp [q'])) (fun q' => hb (by simp [q'])) q)) hf (Nat.le_refl _) new
    refine ⟨.ref s.heap.objs.size, _, I1, rfl, ⟨_, x', y', rfl, I.hok.fresh (Nat.le_refl _), rfl, fun l hl => by rw [S1.inj X hK pins s σ H l xs I hl hqx]; exact hx, fun l hl => by rw [S2.inj X hK pins s σ H l ys I hl hqy]; exact hy⟩, ⟨z'', ?_, ⟨u, u2, ?_⟩, ?_, ?_⟩, fun c hcm => ?_⟩
    · exact (sb.2 _ Z.TIz).trans (hk _ _ Z.TIz Z.TITO Z.TIi1 Z.TIi2 hTI)
    · exact (sb.2 _ Z.TOz).trans TO'
    · exact S1.keep _ _ _ (from1 _ _ h1') fun o q => (sb.2 _ Z.zi1.symm).trans q
    · exact S2.keep _ _ _ (from2 _ _ h2') fun o q => (sb.2 _ Z.zi2.symm).trans q
    · have hlt : c < s.heap.objs.size := by
        have e' : c = z ∨ c = TI ∨ c = TO ∨ c = i1 ∨ c = i2 := by simpa using hcm
        rcases e' with q | q | q | q | q
        · rw [q]; exact hzl
        · rw [q]; exact Heap.lt_size hTI
        · rw [q]; exact Heap.lt_size hTO
        · rw [q]; obtain ⟨_, e1, _⟩ := S1.obj i _ h1; exact Heap.lt_size e1
        · rw [q]; obtain ⟨_, e2, _⟩ := S2.obj i _ h2; exact Heap.lt_size e2
      rw [upd_ne (Nat.ne_of_lt hlt)]
      exact (hf c hcm).1
  done := by
    intro X hP hw hK hc i pins s σ H E I hf st hg
    subst hP hw
    obtain ⟨hz, hTI, ⟨x0, y0, hTO⟩, h1, h2⟩ := st
    obtain ⟨xs, ys, hqx, hqy, hl1, hl2, hend⟩ := hg
    obtain ⟨P1, St1', D1, to1, from1, hP1⟩ := S1.draws X hK hc pins s σ H xs I hqx
    obtain ⟨P2, St2', D2, to2, from2, hP2⟩ := S2.draws X hK hc pins s σ H ys I hqy
    exact wpAny_pyNext_zipD2_end Z D1 D2 hz hTI hTO (to1 i h1) (to2 i h2) hl1 hl2 hend fun h' tk hk => ⟨rfl, I.turnedL (t' := tk) (ch := [z, TI, TO, i1, i2]) (fun c o hb q =>
      hk c o (fun q' => hb (by simp [q'])) (fun q' => hb (by simp [q'])) (fun q' => hb (by simp [q'])) (fun q' => hb (by simp [q'])) q) hf⟩
  self := fun A i s Q E st h => wpAny_pyIter_zip st.1 h
/-- what is walked: a list, a tuple, a text; and its items -/
def Wk (K : PySem.W.Frag) (x : V) (H : Hp) (R : (Hp → List V → Prop) → Prop) : Prop :=
  (∃ a xs, x = .ref a ∧ SqL K H a xs ∧ R (fun H ys => SqL K H a ys)) ∨ (∃ a xs, x = .ref a ∧ SqT K H a xs ∧ R (fun H ys => SqT K H a ys)) ∨ (∃ l, x = T l ∧ R (fun _ ys => ys = l.map fun c => T [c]))
def iEnumS (K : PySem.W.Frag) (ta : TA) : TI := fun σ H R => ta σ H fun vs H1 => ∃ x, vs = [x] ∧ Wk K x H1 fun G => R (ItE G) H1
/-- its beginning: an object for the iterator, a Src -/
theorem wk_begins {X : Cx} {pins : List (Addr × Obj)} {σ : L2.St} {H : Hp} {s : Shared} {x : V} {v : Value} {R : (Hp → List V → Prop) → Prop} (I : Inv X pins σ H s) (r : RelV x v) (h : Wk X.K x H R) :
    ∃ (o : Obj) (Hb : Heap → Prop) (G : Hp → List V → Prop) (fs : List Addr), Begins v o Hb ∧ Hb s.heap ∧ (∀ b ∈ fs, b < s.heap.objs.size) ∧ R G ∧
      ∀ it, s.heap.objs.size ≤ it → ∃ St : Nat → Heap → Prop, Src X.K it fs St G ∧ ∀ h' : Heap, h'.get? it = some o → St 0 h' := by
  rcases h with ⟨a, xs, rfl, hq, q⟩ | ⟨a, xs, rfl, hq, q⟩ | ⟨l, rfl, q⟩
  · obtain rfl : v = Value.ref a := r
    obtain ⟨its, rv, p, hz⟩ := I.list hq
    refine ⟨_, _, _, [a], begins_list a its.toArray, p.isList, fun b hb => ?_, q, fun it hit => ⟨_, src_list (show a ≠ it from Nat.ne_of_lt (Nat.lt_of_lt_of_le p.lt hit)), fun h' e => ⟨_, e, rfl, rfl⟩⟩⟩
    rw [List.mem_singleton.mp hb]; exact p.lt
  · obtain rfl : v = Value.ref a := r
    obtain ⟨its, rv, p, hz⟩ := I.tuple hq
    have hlt : a < s.heap.objs.size := by obtain ⟨o, e, _⟩ := id p; exact Heap.lt_size e
    refine ⟨_, _, _, [a], begins_tuple a its.toArray, p, fun b hb => ?_, q, fun it hit => ⟨_, src_tup (show a ≠ it from Nat.ne_of_lt (Nat.lt_of_lt_of_le hlt hit)), fun h' e => ⟨_, e, rfl, rfl⟩⟩⟩
    rw [List.mem_singleton.mp hb]; exact hlt
  · obtain ⟨t, rfl⟩ := r
    exact ⟨_, _, _, [], begins_text (mkS l) t, trivial, fun b hb => (nomatch hb), q, fun it hit => ⟨_, src_txt l t it, fun h' e => ⟨_, e, rfl, rfl⟩⟩⟩
theorem pi_enumS {X : Cx} {e : Expr} {ta : TA} {p pos tpos : Pos} {elts : List Expr} {kk : Nat} (hg : Gl X "enumerate") (hm : X.mg "enumerate" = none) (ha : PA X [e] ta) (hs : starEach [e] X.env = [(false, eval e X.env)] := by rfl) :
    PI X (.Tuple elts kk tpos) (.Call (.Name "enumerate" p) [e] [] pos) (iEnumS X.K ta) := by
  refine ⟨fun pins s σ H R I h => ?_⟩
  refine Call_ (ld_blt I hg hm boot_enumerate (PyProof.Rows.callWith_type1 (thn (ha.run pos pins s σ H _ I h) fun us s1 ⟨vs, H1, I1, r1, q1⟩ => ?_) hs rfl))
  obtain ⟨x, ex, q⟩ := q1
  subst ex
  cases r1 with
  | cons r rr =>
    cases rr
    obtain ⟨o, Hb, G, fs, B, hb, hfs, q, src⟩ := wk_begins I1 r q
    refine nx_enum_begins B hb fun h' he hit hsz hk => wpAny_pyIter_enum he ?_
    have I2 : Inv X pins σ H1 { s1 with heap := h' } := I1.kept (t' := s1.toks) hk
    obtain ⟨St, S, s0⟩ := src s1.heap.objs.size (Nat.le_refl _)
    refine ⟨s1.heap.objs.size + 1, [s1.heap.objs.size + 1, s1.heap.objs.size], _, _, H1, rfl, I2, turn_enumS (e := s1.heap.objs.size + 1) (it := s1.heap.objs.size) S ?_, ⟨⟨.none, he⟩, s0 _ hit⟩, fun b hb => ?_, q⟩
    · intro hm
      rcases List.mem_cons.mp hm with z | z
      · exact Nat.succ_ne_self _ z
      · exact absurd (hfs _ z) (Nat.not_lt.mpr (Nat.le_succ _))
    · have e' : b = s1.heap.objs.size + 1 ∨ b = s1.heap.objs.size := by simpa using hb
      have hle : s1.heap.objs.size ≤ b := by
        rcases e' with z | z
        · rw [z]; exact Nat.le_add_right _ _
        · rw [z]; exact Nat.le_refl _
      exact I1.fpOk hle (I1.hok.fresh hle)
def iZipS (K : PySem.W.Frag) (ta : TA) : TI := fun σ H R => ta σ H fun vs H1 => ∃ x y, vs = [x, y] ∧ Wk K x H1 fun G1 => Wk K y H1 fun G2 => R (ItZ G1 G2) H1
theorem pi_zipS {X : Cx} {e e2 : Expr} {ta : TA} {p pos tpos : Pos} {elts : List Expr} {kk : Nat} (hg : Gl X "zip") (hm : X.mg "zip" = none) (ha : PA X [e, e2] ta)
    (hs : starEach [e, e2] X.env = (false, eval e X.env) :: starEach [e2] X.env := by rfl) (hpl : (backTo pos (starEach [e2] X.env)).any (·.1) = false := by rfl) :
    PI X (.Tuple elts kk tpos) (.Call (.Name "zip" p) [e, e2] [] pos) (iZipS X.K ta) := by
  refine ⟨fun pins s σ H R I h => ?_⟩
  refine Call_ (ld_blt I hg hm PyProof.Rows.boot_zip (PyProof.Rows.callWith_type1 (thn (ha.run pos pins s σ H _ I h) fun us s1 ⟨vs, H1, I1, r1, q1⟩ => ?_) hs hpl))
  obtain ⟨x, y, ex, q⟩ := q1
  subst ex
  cases r1 with
  | cons r rr =>
    cases rr with
    | cons r' rr =>
      cases rr
      obtain ⟨o1, Hb1, G1, fs1, B1, hb1, hfs1, q, src1⟩ := wk_begins I1 r q
      obtain ⟨o2, Hb2, G2, fs2, B2, hb2, hfs2, q, src2⟩ := wk_begins I1 r' q
      refine zip_begins2 B1 B2 hb1 hb2 fun h' hz hTI hTO h1 h2 hsz hk => wpAny_pyIter_zip hz ?_
      have I2 : Inv X pins σ H1 { s1 with heap := h' } := I1.kept (t' := s1.toks) hk
      obtain ⟨St1, S1, s01⟩ := src1 s1.heap.objs.size (Nat.le_refl _)
      obtain ⟨St2, S2, s02⟩ := src2 (s1.heap.objs.size + 1) (Nat.le_succ _)
      refine ⟨s1.heap.objs.size + 4, [s1.heap.objs.size + 4, s1.heap.objs.size + 2, s1.heap.objs.size + 3, s1.heap.objs.size, s1.heap.objs.size + 1], _, _, H1, rfl, I2, turn_zipS S1 S2 (zip_sep2 hfs1 hfs2), ⟨hz, hTI, ⟨_, _, hTO⟩, s01 _ h1, s02 _ h2⟩, fun c hcm => ?_, q⟩
      have e' : c = s1.heap.objs.size + 4 ∨ c = s1.heap.objs.size + 2 ∨ c = s1.heap.objs.size + 3 ∨ c = s1.heap.objs.size ∨ c = s1.heap.objs.size + 1 := by simpa using hcm
      have hle : s1.heap.objs.size ≤ c := by
        rcases e' with z | z | z | z | z
        · rw [z]; exact Nat.le_add_right _ _
        · rw [z]; exact Nat.le_add_right _ _
        · rw [z]; exact Nat.le_add_right _ _
        · rw [z]; exact Nat.le_refl _
        · rw [z]; exact Nat.le_add_right _ _
      exact I1.fpOk hle (I1.hok.fresh hle)
end NX
namespace NX
open PySem PySem.Spec PyProof.Rows L2
section
variable {X : Cx} {pos tpos p : Pos} {e e2 : Expr} {ta : TA} {elts : List Expr} {kk : Nat}
theorem pi_enumSK (K : PySem.W.Frag) (hg : Gl X "enumerate") (hm : X.mg "enumerate" = none) (ha : PA X [e] ta) (hK : X.K = K := by rfl) (hs : starEach [e] X.env = [(false, eval e X.env)] := by rfl) :
    PI X (.Tuple elts kk tpos) (.Call (.Name "enumerate" p) [e] [] pos) (iEnumS K ta) := hK ▸ pi_enumS hg hm ha hs
theorem pi_zipSK (K : PySem.W.Frag) (hg : Gl X "zip") (hm : X.mg "zip" = none) (ha : PA X [e, e2] ta) (hK : X.K = K := by rfl)
    (hs : starEach [e, e2] X.env = (false, eval e X.env) :: starEach [e2] X.env := by rfl) (hpl : (backTo pos (starEach [e2] X.env)).any (·.1) = false := by rfl) :
    PI X (.Tuple elts kk tpos) (.Call (.Name "zip" p) [e, e2] [] pos) (iZipS K ta) := hK ▸ pi_zipS hg hm ha hs hpl
end
section
variable {K : PySem.W.Frag} {σ : L2.St} {H : Hp} {Q : VK} {D : Ends} {R : (Hp → List V → Prop) → Prop}
theorem wkL {a : Addr} {xs : List V} (e : SqL K H a xs) (h : R (fun H ys => SqL K H a ys)) : Wk K (.ref a) H R := .inl ⟨a, xs, rfl, e, h⟩
theorem wkT {a : Addr} {xs : List V} (e : SqT K H a xs) (h : R (fun H ys => SqT K H a ys)) : Wk K (.ref a) H R := .inr (.inl ⟨a, xs, rfl, e, h⟩)
theorem wkS {l : List Nat} (h : R (fun _ ys => ys = l.map fun c => T [c])) : Wk K (T l) H R := .inr (.inr ⟨l, rfl, h⟩)
def GoES (K : PySem.W.Frag) (R : It → Hp → Prop) (vs : List V) (H1 : Hp) : Prop := ∃ x, vs = [x] ∧ Wk K x H1 fun G => R (ItE G) H1
def GoZS (K : PySem.W.Frag) (R : It → Hp → Prop) (vs : List V) (H1 : Hp) : Prop := ∃ x y, vs = [x, y] ∧ Wk K x H1 fun G1 => Wk K y H1 fun G2 => R (ItZ G1 G2) H1
theorem r_iES {t : TA} {R : It → Hp → Prop} (h : t σ H (GoES K R)) : iEnumS K t σ H R := h
theorem r_iZS {t : TA} {R : It → Hp → Prop} (h : t σ H (GoZS K R)) : iZipS K t σ H R := h
theorem r_goES {R : It → Hp → Prop} {x : V} (h : Wk K x H fun G => R (ItE G) H) : GoES K R [x] H := ⟨x, rfl, h⟩
theorem r_goZS {R : It → Hp → Prop} {x y : V} (h : Wk K x H fun G1 => Wk K y H fun G2 => R (ItZ G1 G2) H) : GoZS K R [x, y] H := ⟨x, y, rfl, h⟩
/-- an iterator over pairs that are known -/
def KnownP (J : It) (n : Nat) (f g : Nat → V) (G : Hp → Prop) : Prop := ∀ i H, G H → (i < n → J.go i H ∧ ∀ x H', J.yld i H x H' → ∃ q, x = .ref q ∧ H q = none ∧ H' = upd H q (.tup [f i, g i])) ∧ (i = n → J.stop i H)
theorem getD_of {xs : List V} {i : Nat} {x : V} (h : xs[i]? = some x) : xs.getD i .non = x := by rw [List.getD_eq_getElem?_getD, h]; rfl
theorem known_enumS {G : Hp → List V → Prop} (xs : List V) : KnownP (ItE G) xs.length (fun i => .int (i : Nat)) (fun i => xs.getD i .non) (fun H => G H xs) := by
  intro i H hG
  refine ⟨fun hi => ⟨⟨xs, xs[i], hG, by simp [hi]⟩, fun x H' y => ?_⟩, fun e => ⟨xs, hG, e.symm⟩⟩
  obtain ⟨q, z, e1, e2, e3, e4⟩ := y
  exact ⟨q, e1, e2, by rw [e3]; show _ = upd H q (.tup [.int (i : Nat), xs.getD i .non]); rw [getD_of (e4 xs hG)]⟩
theorem known_zipS {G1 G2 : Hp → List V → Prop} (xs ys : List V) : KnownP (ItZ G1 G2) (min xs.length ys.length) (fun i => xs.getD i .non) (fun i => ys.getD i .non) (fun H => G1 H xs ∧ G2 H ys) := by
  intro i H hG
  refine ⟨fun hi => ⟨⟨xs, ys, xs[i]'(by omega), ys[i]'(by omega), hG.1, hG.2, by simp, by simp⟩, fun x H' y => ?_⟩, fun e => ⟨xs, ys, hG.1, hG.2, by omega, by omega, by omega⟩⟩
  obtain ⟨q, z, u, e1, e2, e3, e4, e5⟩ := y
  exact ⟨q, e1, e2, by rw [e3]; show _ = upd H q (.tup [xs.getD i .non, ys.getD i .non]); rw [getD_of (e4 xs hG.1), getD_of (e5 ys hG.2)]⟩
theorem for_pair {J : It} {n : Nat} {f g : Nat → V} {G : Hp → Prop} {gg : TG} {tb : TS} (kn : KnownP J n f g G) (Pv : Nat → L2.St → Hp → Prop) (h0 : Pv 0 σ H) (hG : ∀ i σ H, i ≤ n → Pv i σ H → G H)
    (hs : ∀ i σ H q, i < n → Pv i σ H → H q = none → gg (.ref q) σ (upd H q (.tup [f i, g i])) fun σ2 H2 => tb { D with nx := Pv (i + 1), ct := Pv (i + 1), bk := D.nx } σ2 H2)
    (hd : ∀ σ H, Pv n σ H → D.nx σ H) : ForJ gg tb D σ J H := by
  refine ⟨fun i m σ H => m = n - i ∧ i ≤ n ∧ Pv i σ H, ⟨_, rfl, Nat.zero_le _, h0⟩, ?_⟩
  rintro i m σ H ⟨rfl, hi, pv⟩
  obtain ⟨k1, k2⟩ := kn i H (hG i σ H hi pv)
  by_cases hlt : i < n
  · obtain ⟨go, y⟩ := k1 hlt
    refine .inr ⟨go, Pv (i + 1), fun σ' H' p' => ⟨n - (i + 1), by omega, rfl, hlt, p'⟩, fun x H' yy => ?_⟩
    obtain ⟨q, rfl, nq, rfl⟩ := y x H' yy
    exact hs i σ H q hlt pv nq
  · have e : i = n := by omega
    subst e
    exact .inl ⟨k2 rfl, hd σ H pv⟩
theorem lc_pair {J : It} {n : Nat} {f g : Nat → V} {G : Hp → Prop} {gg : TG} {tt : TT} {te : TE} {vs : List Nat} (kn : KnownP J n f g G) (mk : Nat → Option V) (hn : n ≤ 16777216) (hG : ∀ H', Same H H' → G H')
    (hs : ∀ i H2 q (QT : Option V → Hp → Prop), i < n → Same H H2 → H2 q = none → (∀ H3, Same (upd H2 q (.tup [f i, g i])) H3 → QT (mk i) H3) →
      gg (.ref q) (wipe σ vs) (upd H2 q (.tup [f i, g i])) fun σ2 H3 => wipe σ2 vs = wipe σ vs ∧ tt σ2 H3 fun b H4 => if b = true then te σ2 H4 fun y H5 => QT (some y) H5 else QT none H4)
    (hd : ∀ D H', H D = none → Same H H' → H' D = some (.lst ((List.range n).filterMap mk)) → Q (.ref D) H') : LcJ gg tt te vs σ Q J H := by
  intro D nD
  refine ⟨fun i m H2 => m = n - i ∧ i ≤ n ∧ Same H H2 ∧ H2 D = some (.lst ((List.range i).filterMap mk)), ⟨_, rfl, Nat.zero_le _, Same.new1 nD, by rw [upd_same]; rfl⟩, ?_⟩
  rintro i m H2 ⟨rfl, hi, sm, eD⟩
  obtain ⟨k1, k2⟩ := kn i H2 (hG _ sm)
  by_cases hlt : i < n
  · obtain ⟨go, y⟩ := k1 hlt
    refine .inr ⟨go, fun H3 => Same H H3 ∧ H3 D = some (.lst ((List.range (i + 1)).filterMap mk)), fun H3 p => ⟨n - (i + 1), by omega, rfl, hlt, p⟩, fun x H' yy => ?_⟩
    obtain ⟨q, rfl, nq, rfl⟩ := y x H' yy
    have sq : Same H2 (upd H2 q (.tup [f i, g i])) := Same.new1 nq
    refine hs i H2 q (fun o H4 => match o with
      | some y => ∃ acc, H4 D = some (.lst acc) ∧ acc.length < sizeLine ∧ Same H (upd H4 D (.lst (acc ++ [y]))) ∧ (upd H4 D (.lst (acc ++ [y]))) D = some (.lst ((List.range (i + 1)).filterMap mk))
      | none => Same H H4 ∧ H4 D = some (.lst ((List.range (i + 1)).filterMap mk))) hlt sm nq (fun H3 s3 => ?_)
    have hr : (List.range (i + 1)).filterMap mk = (List.range i).filterMap mk ++ (mk i).toList := by
      rw [List.range_succ, List.filterMap_append]
      congr 1
    have s23 := sq.trans s3
    cases e : mk i with
    | none => exact ⟨sm.trans s23, by rw [hr, e]; simpa using s23 _ _ eD⟩
    | some y =>
      refine ⟨_, s23 _ _ eD, ?_, Same.mut (sm.trans s23) nD, ?_⟩
      · have := List.length_filterMap_le mk (List.range i)
        rw [List.length_range] at this
        rw [sizeLine_eq]; omega
      · rw [upd_same, hr, e]; rfl
  · have e : i = n := by omega
    subst e
    exact .inl ⟨k2 rfl, hd D H2 nD sm eD⟩
theorem chars_getD {l : List Nat} {i : Nat} (h : i < l.length) : (l.map fun c => T [c]).getD i .non = T [l.getD i 0] := by
  rw [List.getD_eq_getElem?_getD, List.getD_eq_getElem?_getD, List.getElem?_map, List.getElem?_eq_getElem h]; rfl
end
end NX
set_option maxHeartbeats 2000000
namespace NX
open PySem PySem.Spec PyProof.Rows L2
/-! ### defs where no guard (a repr under way) stands: repr of lists and tuples -/
/-- as FnOk, asked only where no guard stands -/
structure FnG (P : Program) (w : World) (K : PySem.W.Frag) (mg : Str → Option Value) (base : Heap) (CX : CXT) (k : Nat) (f : Addr) (fd : FuncData) (ps : List Str) (sp : Sp) : Prop where
  len : ∀ vs H Q E, sp vs H Q E → vs.length = ps.length
  run : ∀ (A : Around) (outer : List Env) (s : Shared) (H : Hp) (args : Args) (us : List Value) (vs : List V) (Q : VK) (E : XK), A.guards = some [] → Room k A → Env0 P w K mg base A outer s H → BindsTo s fd args (ps.zip us) → Vals vs us → sp vs H Q E →
    codeAny (model P w) A (.call (.ref f) args) (CR CX outer P w H s Q E) s
theorem FnG.of {P : Program} {w : World} {K : PySem.W.Frag} {mg : Str → Option Value} {base : Heap} {CX : CXT} {k : Nat} {f : Addr} {fd : FuncData} {ps : List Str} {sp : Sp} (F : FnOk P w K mg base CX k f fd ps sp) : FnG P w K mg base CX k f fd ps sp :=
  ⟨F.len, fun A outer s H args us vs Q E _ => F.run A outer s H args us vs Q E⟩
theorem FnG.mono {P : Program} {w : World} {K : PySem.W.Frag} {mg : Str → Option Value} {base : Heap} {CX : CXT} {j k : Nat} {f : Addr} {fd : FuncData} {ps : List Str} {sp : Sp} (F : FnG P w K mg base CX j f fd ps sp) (h : j ≤ k) : FnG P w K mg base CX k f fd ps sp :=
  ⟨F.len, fun A outer s H args us vs Q E hg hr => F.run A outer s H args us vs Q E hg (hr.mono h)⟩
section
variable {CX : CXT} {P : Program} {w : World} {K : PySem.W.Frag} {mg : Str → Option Value} {base : Heap} {k : Nat} {f : Addr}
theorem fnG_of {name qual : Str} {params : Arguments} {body : List Stmt} {scope : Scope} {dV kV doc pm cdv ct oc : Value} {an od : Option Addr}
    {osl : Array (Option Value)} {N ps : List Str} {sp : Sp} (lk : K.lookup f = some ⟨oc, od, .func (PySem.W.fnOf name qual params body scope dV kV doc pm an cdv ct), osl⟩) (hcd : PySem.W.codeIn K cdv qual = true) (S : FnScope N ps scope)
    (len : ∀ vs H Q E, sp vs H Q E → vs.length = ps.length)
    (hbody : ∀ (A : Around) (outer : List Env) (s : Shared) (H : Hp) (vs : List V) (Q : VK) (E : XK), (A.deeper (envOfC qual scope s.heap.objs.size f cdv)).guards = some [] → Room k (A.deeper (envOfC qual scope s.heap.objs.size f cdv)) → sp vs H Q E →
      ∃ t, PSs (cxOf CX P w K mg base N qual scope f cdv A outer s H E) body t ∧ t { nx := fun _ H' => Q .non H', rt := Q } (L2.start N vs) H) :
    FnG P w K mg base CX (k + 1) f (PySem.W.fnOf name qual params body scope dV kV doc pm an cdv ct) ps sp := by
  refine ⟨len, fun A outer s H args us vs Q E hgu hr e0 hb r hsp => ?_⟩
  have hl := len _ _ _ _ hsp
  have KX : K.In s.heap := e0.mod.kin.keeps fun b o e => (e0.bs b o e).1
  have lim : s.heap.NoLimit := e0.mod.nolimit.keeps fun b o e => (e0.bs b o e).1
  have hkind : ∀ y ∈ ps.zip us, scope.names.lookup y.1 = some .local ∨ (scope.names.lookup y.1 = some .cell ∧ ((cellsFrom (s.heap.objs.size + 1) scope.names []).lookup y.1).isSome = true) := by
    intro y hy
    rcases S.par y.1 (List.of_mem_zip hy).1 with q | q
    · exact .inl q
    · exact .inr ⟨q, PySem.W.cellsFrom_some _ _ _ (.inl q)⟩
  refine codeAny_call_function hr.depth (KX _ _ lk) rfl S.co S.gen rfl (PySem.W.codeRec_of KX hcd) (hb _ _ _ _ ?_)
  refine wpAny_newFunctionEnv_cells S.kind hkind fun env he s1 x => ?_
  subst he
  refine ⟨lim.keeps x.toInCall.keep, codeAny_func ?_⟩
  obtain ⟨t, ht, hq⟩ := hbody A outer s H vs Q E hgu (hr.deeper _) hsp
  have I := inv_start (CX := CX) (E := E) S hr.hd e0 hl r x
  refine wpAny_mono (ht.run [] s1 (L2.start N vs) H _ I hq) (fun fl s' hs => ?_) fun e s' hs => hs
  cases fl with
  | ret u =>
    obtain ⟨v, σ', H', J, rv, q⟩ := hs
    exact ⟨v, H', J.os, J.bare, J.base, J.hok, rv, q⟩
  | next =>
    obtain ⟨σ', H', J, q⟩ := hs
    exact ⟨.non, H', J.os, J.bare, J.base, J.hok, rfl, q⟩
  | brk =>
    obtain ⟨_, _, _, q⟩ := hs
    exact False.elim q
  | cont =>
    obtain ⟨_, _, _, q⟩ := hs
    exact False.elim q
theorem funG {x qual : Str} {st : Stmt} {fd : FuncData} {N ps : List Str} {sp : Sp} (F : Fun K x qual st f fd) (S : FnScope N ps (defScope st)) (len : ∀ vs H Q E, sp vs H Q E → vs.length = ps.length)
    (hbody : ∀ (cdv : Value) (A : Around) (outer : List Env) (s : Shared) (H : Hp) (vs : List V) (Q : VK) (E : XK), (A.deeper (envOfC qual (defScope st) s.heap.objs.size f cdv)).guards = some [] → Room k (A.deeper (envOfC qual (defScope st) s.heap.objs.size f cdv)) → sp vs H Q E →
      ∃ t, PSs (cxOf CX0 P w K mg base N qual (defScope st) f cdv A outer s H E).nox (defBody st) t ∧ t { nx := fun _ H' => Q .non H', rt := Q } (L2.start N vs) H) : FnG P w K mg base CX0 (k + 1) f fd ps sp := by
  obtain ⟨oc, od, kV, doc, pm, an, cdv, ct, osl, rfl, lk, hcd⟩ := F.ex
  refine fnG_of lk hcd S len fun A outer s H vs Q E hgu hr hsp => ?_
  obtain ⟨t, h, q⟩ := hbody cdv A outer s H vs Q E hgu hr hsp
  exact ⟨t, h.nox, q⟩
end
section
variable {X : Cx} {CX : CXT} {k : Nat} {f C : Addr} {fd : FuncData} {ps : List Str} {sp : Sp} {dvs : List V} {ds : List Value} {E : XK} {x m : Str} {p pos apos : Pos} {e o : Expr} {es : List Expr} {ta : TE} {t : TA}
theorem run_fnG {pins : List (Addr × Obj)} {σ : L2.St} {H : Hp} {s : Shared} {Q : VK} {us : List Value} {vs : List V} (F : FnG X.prog X.w X.K X.mg X.base CX k f fd ps sp) (hgu : X.A.guards = some []) (hr : Room k X.A) (hb : Binds X.K fd ps ds) (hd : Vals dvs ds) (hx : Passes CX X E)
    (I : Inv X pins σ H s) (r : Vals vs us) (h : sp (vs ++ dvs) H Q E) : wpAny (model X.prog X.w) X.A (call (.ref f) us) (EP X pins σ Q) X.xe s := by
  have r2 : Vals (vs ++ dvs) (us ++ ds) := r.append hd
  have hl : (us ++ ds).length = ps.length := by rw [← r2.length]; exact F.len _ _ _ _ h
  refine wpAny_call (codeAny_mono (F.run X.A X.stack s H ⟨us, []⟩ (us ++ ds) (vs ++ dvs) Q E hgu hr I.env0 (hb s us I.kIn hl) r2 h) fun r s' hq => ?_)
  cases r with
  | error e => exact hx pins σ H s e s' I hq
  | ok fl =>
    cases fl with
    | ret u => exact I.after hq
    | next => exact False.elim hq
    | brk => exact False.elim hq
    | cont => exact False.elim hq
theorem pe_callG (hgu : X.A.guards = some []) (F : FnG X.prog X.w X.K X.mg X.base CX k f fd ps sp) (hr : Room k X.A) (hg : Gl X x) (hm : X.mg x = some (.ref f)) (hk : PySem.W.keepIn X.K (.ref f) = true) (hb : Binds X.K fd ps ds) (hd : Vals dvs ds) (hx : Passes CX X E)
    (ha : PA X (e :: es) t) (hdb : (x == ("__debug__" : Str)) = false := by decide) (he : starEach (e :: es) X.env = (false, eval e X.env) :: starEach es X.env := by rfl) (hpl : (backTo pos (starEach es X.env)).any (·.1) = false := by rfl) :
    PE X (.Call (.Name x p) (e :: es) [] pos) (tCall sp dvs E t) := by
  refine ⟨fun pins s σ H Q I h => ?_⟩
  refine wpAny_Call_Name_kw (ld_glob I hg hm ?_ hdb)
  refine PySem.W.callWith_K (h₀ := X.base) I.ok.mod.kin hk (thn (ha.run pos pins s σ H _ I h) fun us s1 ⟨vs, H1, I1, r, q⟩ => ⟨I1.kIn, ?_⟩) he hpl
  exact run_fnG F hgu hr hb hd hx I1 r q
theorem pe_call0G (hgu : X.A.guards = some []) (F : FnG X.prog X.w X.K X.mg X.base CX k f fd ps sp) (hr : Room k X.A) (hg : Gl X x) (hm : X.mg x = some (.ref f)) (hk : PySem.W.keepIn X.K (.ref f) = true) (hb : Binds X.K fd ps ds) (hd : Vals dvs ds) (hx : Passes CX X E)
    (hdb : (x == ("__debug__" : Str)) = false := by decide) : PE X (.Call (.Name x p) [] [] pos) (tCall sp dvs E tNil) := by
  refine ⟨fun pins s σ H Q I h => ?_⟩
  refine wpAny_Call_Name_kw (ld_glob I hg hm ?_ hdb)
  exact PySem.W.callWith_K0 I.kIn hk (run_fnG (us := []) F hgu hr hb hd hx I .nil h)
/-- repr of a list or a tuple, by its data -/
def rReprD (K : PySem.W.Frag) : List V → Hp → VK → Prop := fun xs H Q => (∃ v, xs = [v] ∧ rpOk v ∧ Q (.str (rpV v)) H) ∨
  ∃ (a : Addr) (d : PyData), xs = [.ref a] ∧ Dp K H (.ref a) d ∧ d.showable = true ∧ d.hasDict = false ∧ d.depth ≤ 20 ∧ d.shown.length ≤ sizeLine ∧ Q (.str d.shown) H
theorem call_reprD (hgu : X.A.guards = some []) (hu : X.A.units + 64 < cLine) : CallR X (.builtin "repr") (rReprD X.K) := by
  intro pins s σ H xs us Q I r h
  rcases h with h | ⟨a, d, rfl, hd, hs, hdi, hdep, hsz, q⟩
  · exact call_reprG pins s σ H xs us Q I r h
  · cases r with
    | cons r rr =>
      cases rr
      obtain ⟨as, rd⟩ := Dp.reads I d _ _ hd r
      obtain rfl := (show _ = Value.ref a from r)
      refine repr_of_reads' rd hs (fun z => by rw [hdi] at z; cases z) hgu (by omega) (fun b o e => e) (fun h' u tk hk => ⟨.str _, H, I.kept (t' := tk) hk, ⟨u, rfl⟩, q⟩) hsz
end
end NX
set_option maxHeartbeats 2000000
namespace NX
open PySem PySem.Spec PyProof.Rows L2
/-! ### keyword calls, and the end, for FnG -/
section
variable {X : Cx} {CX : CXT} {k : Nat} {f : Addr} {fd : FuncData} {ps ks : List Str} {sp : Sp} {E : XK} {x : Str} {p pos : Pos} {kws : List Keyword} {tk : TA} {g : List Value → List Value → List Value} {gV : List V → List V → List V}
theorem pe_callKwG (hgu : X.A.guards = some []) (F : FnG X.prog X.w X.K X.mg X.base CX k f fd ps sp) (hr : Room k X.A) (hg : Gl X x) (hm : X.mg x = some (.ref f)) (hk : PySem.W.keepIn X.K (.ref f) = true) (hb : KBinds X.K fd ps ks g gV) (hx : Passes CX X E)
    (hkw : PK X kws tk) (hall : (backToKw pos (keywordEach kws X.env)).all (·.1.isSome) = true := by rfl) (hks : (backToKw pos (keywordEach kws X.env)).filterMap (·.1) = ks := by rfl)
    (hdb : (x == ("__debug__" : Str)) = false := by decide)
    (hpl : ((backTo pos (starEach [] X.env)).any (·.1) || (backToKw pos (keywordEach kws X.env)).any (·.1.isNone)) = false := by rfl) :
    PE X (.Call (.Name x p) [] kws pos) (tCallKw sp gV E tk) := by
  refine ⟨fun pins s σ H Q I h => ?_⟩
  refine wpAny_Call_Name_kw (ld_glob I hg hm ?_ hdb)
  refine PySem.W.callWith_KW0 (h₀ := X.base) I.ok.mod.kin hk hall ?_ hpl
  refine thn (hkw.run pos pins s σ H _ I h) fun ws s2 ⟨zs, H2, I2, rz, q2⟩ => ⟨I2.kIn, ?_⟩
  rw [hks]
  have r2 := hb.rel (us := []) (vs := []) .nil rz
  have hl : (g [] ws).length = ps.length := by rw [← r2.length]; exact F.len _ _ _ _ q2
  refine wpAny_call (codeAny_mono (F.run X.A X.stack s2 H2 ⟨[], ks.zip ws⟩ (g [] ws) (gV [] zs) Q E hgu hr I2.env0 (hb.to s2 [] ws I2.kIn hl) r2 q2) fun r s' hq => ?_)
  cases r with
  | error e => exact hx pins σ H2 s2 e s' I2 hq
  | ok fl =>
    cases fl with
    | ret u => exact I2.after hq
    | next => exact False.elim hq
    | brk => exact False.elim hq
    | cont => exact False.elim hq
end
/-- the law is called from outside: no guard stands there -/
theorem law_callG {P : Program} {w : World} {K : PySem.W.Frag} {mg mb : Str → Option Value} {CX : CXT} {k : Nat} {fa a : Addr} {fd : FuncData} {x : Str} {sp : Sp} {s₁ : Shared} {vs : List Value} {ns : List Int}
    (KX : K.In s₁.heap) (hns : s₁.heap.Ns mainGlobals mg) (hb : s₁.heap.Ns builtinsNs mb) (hbb : ∀ x : Str, x ≠ "__name__" → mb x = bootBuiltins x) (hlim : s₁.heap.NoLimit) (hg : s₁.gens = #[])
    (ha : s₁.heap.get? a = some { cls := .type "list", data := .seq vs.toArray }) (hi : IntsAre vs ns) (hl : ns.length ≤ sizeLine) (hr : Room k callerA)
    (F : ∀ base : Heap, K.In base → base.Ns mainGlobals mg → FnG P w K mg base CX k fa fd [x] sp) (hbind : ∀ (s : Shared) (u : Value), BindsTo s fd ⟨[u], []⟩ [(x, u)])
    (hsp : ∀ H : Hp, Only H → SqL K H a (ns.map V.int) → sp [.ref a] H (fun v _ => v = .bl true) fun _ _ _ => False)
    (hCX : ∀ H e s', CX [] H s₁ (fun _ _ _ => False) e s' → False) :
    codeAny (model P w) callerA (.call (.ref fa) ⟨[.ref a], []⟩) (fun r s' => r = .ok (.ret (.bool true)) ∧ OldK s₁.heap s'.heap ∧ s'.os = s₁.os ∧ AllBare s'.gens) s₁ := by
  have rv := vals_ints hi
  have lenV := hi.length
  have core : ∀ H : Hp, Only H → SqL K H a (ns.map V.int) → HOk P w H s₁.heap → (∀ b, H b ≠ none → b = a) → (H a ≠ none → K.lookup a = none) →
      codeAny (model P w) callerA (.call (.ref fa) ⟨[.ref a], []⟩) (fun r s' => r = .ok (.ret (.bool true)) ∧ OldK s₁.heap s'.heap ∧ s'.os = s₁.os ∧ AllBare s'.gens) s₁ := by
    intro H hO hS hok hA hK
    have noA : ∀ {b : Addr} {o : Obj} {es : Array DictEntry} {ep : Nat}, s₁.heap.get? b = some o → o.data = .dict es ep → H b = none := by
      intro b o es ep e d
      cases q : H b with
      | none => rfl
      | some u =>
        obtain rfl : b = a := hA b (by rw [q]; simp)
        rw [ha] at e; cases e
        have d' : Data.seq vs.toArray _ = Data.dict es ep := d
        cases d'
    have nsK : ∀ {b : Addr} {m : Str → Option Value}, s₁.heap.Ns b m → (hidT s₁.heap H).Ns b m := fun {b m} ⟨o, es, ep, e, d, r⟩ => ⟨o, es, ep, hidT_get e (noA e d), d, r⟩
    have hKb : K.In (hidT s₁.heap H) := by
      intro b o e
      refine hidT_get (KX b o e) ?_
      cases q : H b with
      | none => rfl
      | some u =>
        obtain rfl : b = a := hA b (by rw [q]; simp)
        rw [hK (by rw [q]; simp)] at e; cases e
    have hM : Mod K mg (hidT s₁.heap H) := ⟨hKb, nsK hns, ⟨mb, nsK hb, hbb⟩, let ⟨mc, h1, h2⟩ := hlim; ⟨mc, nsK h1, h2⟩⟩
    have e0 : Env0 P w K mg (hidT s₁.heap H) callerA [] s₁ H := ⟨rfl, hM, fun b o e => of_hidT e, Nat.le_of_eq (hidT_size _ _), trivial, fun b hb => absurd (show b ∈ ([] : List Addr) from hb) (by simp), hok, .of_eq hg⟩
    refine codeAny_mono ((F _ hKb (nsK hns)).run callerA [] s₁ H ⟨[.ref a], []⟩ [.ref a] [.ref a] _ _ rfl hr e0 (hbind s₁ (.ref a)) (.cons rfl .nil) (hsp H hO hS)) fun r s' h => ?_
    cases r with
    | error e => exact (hCX H e s' h).elim
    | ok fl =>
      cases fl with
      | next => exact False.elim h
      | brk => exact False.elim h
      | cont => exact False.elim h
      | ret u =>
        obtain ⟨v, H', os, bare, un, hok', r', q⟩ := h
        have q' : v = .bl true := q
        subst q'
        obtain rfl : u = Value.bool true := r'
        refine ⟨rfl, OldK.of_keep fun b o e => ?_, os, bare⟩
        cases q : H b with
        | none => exact un.keep b o e q (by intro z; exact absurd (show b ∈ ([] : List Addr) from z) (by simp)) (by simp)
        | some u =>
          rcases hO b with z | ⟨ob, xs, z⟩
          · rw [q] at z; cases z
          · obtain ⟨e1, _⟩ := hok b _ z
            obtain ⟨e2, _⟩ := hok' b _ (un.frzs b ob _ z)
            rw [e] at e1; cases e1
            exact e2
  cases hk : K.lookup a with
  | some o =>
    have e := KX a o hk
    rw [ha] at e
    cases e
    exact core (fun _ => none) (fun _ => .inl rfl) (.inr ⟨_, vs.toArray, _, hk, rfl, rfl, rfl, by rw [List.size_toArray, lenV]; exact hl, by simpa using rv⟩) (fun b u z => nomatch (show (none : Option HO) = some u from z)) (fun b z => absurd rfl z) fun z => absurd rfl z
  | none =>
    refine core (fun b => if b = a then some (.frz { cls := .type "list", data := .seq vs.toArray } (.lst (ns.map V.int))) else none) (fun b => ?_) (.inl (.inr ⟨{ cls := .type "list", data := .seq vs.toArray }, if_pos rfl⟩)) (fun b u z => ?_) (fun b z => ?_) fun _ => hk
    · by_cases hb : b = a
      · exact .inr ⟨_, _, if_pos hb⟩
      · exact .inl (if_neg hb)
    · by_cases hb : b = a
      · have z' := (if_pos hb).symm.trans z
        cases z'
        subst hb
        exact ⟨ha, by rw [List.length_map]; exact hl, vs, _, rv, ha⟩
      · have z' := (if_neg hb).symm.trans z
        cases z'
    · by_cases hb : b = a
      · exact hb
      · exact absurd (if_neg hb) z
theorem walk_ofKG {l : PySem.W.OpenLaw} {n k : Nat} {q : Program} {loose : List Str} {XP : (Str → Option Value) → Heap → Prop} {YP : World → Heap → Prop} {d : DefRec} {K : Params → PySem.W.Frag} {CX : CXT} {sp : PySem.W.Frag → Sp} {x : Str}
    (hn : l.most = some n) (hn2 : n ≤ sizeLine) (hdf : d.params.defaults = []) (hr : Room k callerA)
    (hY : ∀ (w : World) (h : Heap), YP w h → (K w.params).In h)
    (F : ∀ (w : World) (mg : Str → Option Value) (fa : Addr) (h : Heap), (K w.params).In h → h.Ns mainGlobals mg → mg d.name = some (.ref fa) →
      ∃ fd : FuncData, (∀ (s : Shared) (u : Value), BindsTo s fd ⟨[u], []⟩ [(x, u)]) ∧
        ∀ base : Heap, (K w.params).In base → base.Ns mainGlobals mg → FnG l.prog w (K w.params) mg base CX k fa fd [x] (sp (K w.params)))
    (hsp : ∀ (K : PySem.W.Frag) (H : Hp) (a : Addr) (ns : List Int), ns.length ≤ n → Only H → SqL K H a (ns.map V.int) → sp K [.ref a] H (fun v _ => v = .bl true) fun _ _ _ => False)
    (hCX : ∀ (H : Hp) (s : Shared) (e : Value) (s' : Shared), CX [] H s (fun _ _ _ => False) e s' → False) :
    PySem.W.WalkO q loose XP YP l.row.toRowW d [] (fun f vs => PySem.call f vs) := by
  refine Att.attach_call hn hdf fun w s₀ s₁ mg mb fa o pm cd doc a vs ns G Y ho hd hcd hmg hobj hints hlen hg => ?_
  have KX := hY w _ Y
  obtain ⟨fd, hb, hF⟩ := F w mg fa _ KX G.T.g hmg
  exact law_callG KX G.T.g G.T.b G.T.builtins G.T.nolimit hg hobj hints (Nat.le_trans hlen hn2) hr hF hb (fun H hO hS => hsp _ H a ns hlen hO hS) fun H e s' => hCX H s₁ e s'
end NX
set_option maxHeartbeats 2000000
namespace PyProof.Rows
open PySem PySem.Spec PySem.Builtin PySem.Calls
section
variable {prog : Program} {w : World} {A : Around} {E : Value → Shared → Prop} {s : Shared}
theorem nx_sorted_tup {l : Addr} {o : Obj} {vs : List Value} {ns : List Int} {n : Nat} {Q : Value → Shared → Prop} (ho : s.heap.get? l = some o) (hc : o.cls = .type "tuple") (hd : o.data = .seq vs.toArray n) (hI : IntsAre vs ns) (h64 : vs.length < 64)
    (h : ∀ (h' : Heap) (out : Array Value) (ns' : List Int), (∀ b o', s.heap.get? b = some o' → h'.get? b = some o') → IntsAre out.toList ns' → ns'.Perm ns → ns'.Pairwise (· ≤ ·) →
      Q (.ref h'.objs.size) { s with heap := sortedHeap (h'.push (seqObj "list" vs.toArray 0)) h'.objs.size vs out }) :
    wpAny (model prog w) A (call (.builtin "sorted") [.ref l]) Q E s := by
  refine Calls.call_function_entry kind_sorted plain_sorted entry_sorted (args_sorted1 _) ?_
  unfold Builtin.«sorted»
  refine wpAny_bind (m := checkCount "sorted" 1 1 _) (wpAny_pure ?_)
  refine wpAny_bind (wpAny_collect_seq l (T := "tuple") (.inr rfl) ho hc hd (fun h' hk => ?_) (by rw [sizeLine_eq, List.size_toArray]; omega))
  refine wpAny_bind (wpAny_newList ?_)
  have hoL : (h'.push (seqObj "list" vs.toArray 0)).get? h'.objs.size = some (seqObj "list" vs.toArray 0) := Heap.get?_push_size _ rfl
  show wpAny _ _ _ _ _ { s with heap := h'.push (seqObj "list" vs.toArray 0) }
  refine wpAny_bind (wpAny_holding (wpAny_call_entry slot_list_sort ⟨_, hoL, rfl⟩ entry_list_sort (list_sort_tree hoL hI h64 fun out ns' a1 a2 a3 => ⟨_, rfl, ?_⟩) (args_list_sort _)))
  exact wpAny_pure ⟨_, rfl, h h' out ns' hk a1 a2 a3⟩
end
end PyProof.Rows
namespace NX
open PySem PySem.Spec PyProof.Rows L2
section
variable {X : Cx}
/-- sorted of a list or a tuple of ints -/
def rSortedLT (K : PySem.W.Frag) : List V → Hp → VK → Prop := fun vs H Q => rSorted K vs H Q ∨ ∃ (a : Addr) (ns : List Int), vs = [V.ref a] ∧ SqT K H a (ns.map V.int) ∧ ns.length < 64 ∧
  ∀ (ns' : List Int) (p : Addr), ns'.Perm ns → ns'.Pairwise (· ≤ ·) → H p = none → Q (.ref p) (upd H p (.lst (ns'.map V.int)))
theorem cr_sortedLT : CallR X (.builtin "sorted") (rSortedLT X.K) := by
  intro pins s σ H vs us Q I r h
  rcases h with h | ⟨a, ns, rfl, hs, h64, q⟩
  · exact cr_sorted pins s σ H vs us Q I r h
  · obtain ⟨its, rv, ⟨o, ho, hc, n, hd⟩, _⟩ := I.tuple hs
    rw [Vals.ref1 r]
    have hi := rv.ints
    refine nx_sorted_tup ho hc hd hi (by rw [hi.length]; exact h64) fun h' out ns' hk h1 h2 h3 => ?_
    have I1 : Inv X pins σ H { s with heap := h' } := I.kept (t' := s.toks) hk
    obtain ⟨ep, he'⟩ := PyProof.Rows.sortedHeap_at (vs := its) (out := out) (h := h'.push (seqObj "list" its.toArray 0)) (a := h'.objs.size) (n := 0) (Heap.get?_push_size _ rfl)
    have hlen : (ns'.map V.int).length ≤ sizeLine := by rw [List.length_map, h2.length_eq]; exact small64 h64
    have kp : ∀ b o', h'.get? b = some o' → (sortedHeap (h'.push (seqObj "list" its.toArray 0)) h'.objs.size its out).get? b = some o' := fun b o' hb => by
      have hlt : b < h'.objs.size := Heap.lt_size hb
      have hu := Heap.get?_push_of_some (seqObj "list" its.toArray 0) hb
      rw [PyProof.Rows.sortedHeap_old (Nat.ne_of_lt hlt) (Heap.lt_size hu)]
      exact hu
    exact ⟨.ref _, upd H h'.objs.size (.lst (ns'.map V.int)), I1.laid (t' := s.toks) (fun b o' => kp b o') (Nat.le_refl _) ⟨hlen, out.toList, ep, vals_of_ints h1, he'⟩, rfl, q ns' _ h2 h3 (I1.hok.fresh (Nat.le_refl _))⟩
/-- tuple.index of ints -/
def rIdxT (K : PySem.W.Frag) : V → List V → Hp → VK → Prop := fun x xs H Q => ∃ (p : Addr) (ns : List Int) (k : Int), x = .ref p ∧ xs = [.int k] ∧ SqT K H p (ns.map V.int) ∧ k ∈ ns ∧ Q (.int (ns.idxOf k : Nat)) H
theorem mt_tupIdx : MtR X "tuple.index" (rIdxT X.K) := by
  intro pins s σ H x xs v us Q I rx rs h
  obtain ⟨p, ns, k, rfl, rfl, hq, hk, q⟩ := h
  cases rx
  obtain ⟨u, rfl, t, rfl⟩ := vals1 rs
  obtain ⟨its, r, pl, hz⟩ := I.tuple hq
  exact PySem.SeqAt.tuple_index_ints (show s.heap.IsTuple p its.toArray from pl) r.ints hk ⟨.int _, H, I.tok _, ⟨_, rfl⟩, q⟩
end
end NX
set_option maxHeartbeats 2000000
namespace NX
open PySem PySem.Spec PyProof.Rows L2
section
variable {X : Cx}
theorem call_reprDK (K : PySem.W.Frag) (hgu : X.A.guards = some []) (hu : X.A.units + 64 < cLine) (hK : X.K = K := by rfl) : CallR X (.builtin "repr") (rReprD K) := hK ▸ call_reprD hgu hu
theorem cr_sortedLTK (K : PySem.W.Frag) (hK : X.K = K := by rfl) : CallR X (.builtin "sorted") (rSortedLT K) := hK ▸ cr_sortedLT
theorem mt_tupIdxK (K : PySem.W.Frag) (hK : X.K = K := by rfl) : MtR X "tuple.index" (rIdxT K) := hK ▸ mt_tupIdx
def rTupOf (K : PySem.W.Frag) : List V → Hp → VK → Prop := fun xs H Q => ∃ p ys, xs = [.ref p] ∧ ((SqL K H p ys ∧ ∀ l, H l = none → Q (.ref l) (upd H l (.tup ys))) ∨ (SqT K H p ys ∧ Q (.ref p) H))
theorem call_tupleK (K : PySem.W.Frag) (hK : X.K = K := by rfl) : CallR X (.type "tuple") (rTupOf K) := hK ▸ call_tuple_of
/-- < of ints, of texts -/
def rLtG : R2 := fun x y H Q => match x, y with
  | .int i, .int j => Q (.bl (decide (i < j))) H
  | .str a, .str b => Q (.bl (decide (a.cps.toList < b.cps.toList))) H
  | _, _ => False
theorem op_ltG : OpR X (compareOp .Lt) rLtG := by
  intro pins s σ H x y v u Q I rx ry h
  unfold rLtG at h
  split at h
  · exact op_lt pins s σ H _ _ v u Q I rx ry ⟨_, _, rfl, rfl, h⟩
  · exact op_lt_str pins s σ H _ _ v u Q I rx ry ⟨_, _, rfl, rfl, h⟩
  · exact h.elim
end
section
variable {K : PySem.W.Frag} {σ : L2.St} {H : Hp} {Q : VK}
theorem r_ltI {i j : Int} (h : Q (.bl (decide (i < j))) H) : rLtG (.int i) (.int j) H Q := h
theorem r_ltS {a b : List Nat} (h : Q (.bl (decide (a < b))) H) : rLtG (T a) (T b) H Q := h
theorem r_tupL {p : Addr} {ys : List V} (e : SqL K H p ys) (h : ∀ l, H l = none → Q (.ref l) (upd H l (.tup ys))) : rTupOf K [.ref p] H Q := ⟨p, ys, rfl, .inl ⟨e, h⟩⟩
theorem r_srtT {p : Addr} {ns : List Int} (e : SqT K H p (ns.map V.int)) (hl : ns.length < 64) (h : ∀ (ns' : List Int) (d : Addr), ns'.Perm ns → ns'.Pairwise (· ≤ ·) → H d = none → Q (.ref d) (upd H d (.lst (ns'.map V.int)))) : rSortedLT K [.ref p] H Q := .inr ⟨p, ns, rfl, e, hl, h⟩
theorem r_idxT {p : Addr} {ns : List Int} {k : Int} (e : SqT K H p (ns.map V.int)) (hk : k ∈ ns) (h : Q (.int (ns.idxOf k : Nat)) H) : rIdxT K (.ref p) [.int k] H Q := ⟨p, ns, k, rfl, rfl, e, hk, h⟩
/-- text.index(character) -/
abbrev rIdxS : V → List V → Hp → VK → Prop := fun x xs H Q => ∃ a b i rest, x = .str a ∧ xs = [.str b] ∧ Builtin.Str.occurrences a b 0 a.length 1 = i :: rest ∧ Q (.int (i : Nat)) H
theorem atL_one {l : List Nat} {c i : Nat} : AtL l [c] i ↔ l[i]? = some c := by
  unfold AtL
  constructor
  · rintro ⟨h1, h2⟩
    have hi : i < l.length := by have h3 := h1; simp only [List.length_cons, List.length_nil] at h3; omega
    have : ((l.drop i).take 1)[0]? = some c := by rw [show (l.drop i).take 1 = [c] from h2]; rfl
    simpa [List.getElem?_take, List.getElem?_drop] using this
  · intro h
    have hi : i < l.length := (List.getElem?_eq_some_iff.mp h).1
    have e : l[i] = c := (List.getElem?_eq_some_iff.mp h).2
    refine ⟨by simp only [List.length_cons, List.length_nil]; omega, ?_⟩
    show (l.drop i).take 1 = [c]
    rw [List.drop_eq_getElem_cons hi, e]; rfl
theorem r_idxS {l : List Nat} {c : Nat} (hc : c ∈ l) (h : Q (.int (l.idxOf c : Nat)) H) : rIdxS (T l) [T [c]] H Q := by
  have hlt := List.idxOf_lt_length_of_mem hc
  have e : l[l.idxOf c]? = some c := by rw [List.getElem?_eq_getElem hlt, List.getElem_idxOf hlt]
  rcases StrLaws.occ_head (mkS l) (mkS [c]) 1 (Nat.le_refl 1) with ⟨_, hn⟩ | ⟨i, r, h0, hi, hn⟩
  · exact absurd ((at_mkS l [c] _).mpr (atL_one.mpr e)) (hn _)
  · have hi2 := atL_one.mp ((at_mkS l [c] i).mp hi)
    have hil : i < l.length := (List.getElem?_eq_some_iff.mp hi2).1
    have : i = l.idxOf c := by
      rcases Nat.lt_trichotomy i (l.idxOf c) with q | q | q
      · have h3 := List.not_of_lt_findIdx (p := (· == c)) (xs := l) (i := i) (by simpa [List.idxOf] using q)
        have h4 : l[i] = c := (List.getElem?_eq_some_iff.mp hi2).2
        simp [h4] at h3
      · exact q
      · exact absurd ((at_mkS l [c] _).mpr (atL_one.mpr e)) (hn _ q)
    subst this
    exact ⟨mkS l, mkS [c], _, r, rfl, rfl, h0, h⟩
end
end NX
namespace NX
open PySem PySem.Spec PyProof.Rows L2
/-! ### letters, rows of letters, permutations -/
/-- one to four letters from a to z, ascending -/
def Al (a : List Nat) : Prop := 0 < a.length ∧ a.length ≤ 4 ∧ (∀ c ∈ a, 97 ≤ c ∧ c ≤ 122) ∧ a.Pairwise (· < ·)
theorem Al.asc {a : List Nat} (h : Al a) : Asc a := fun c hc => by have := h.2.2.1 c hc; omega
def RowOf (a l : List Nat) : Prop := ∀ c ∈ l, c ∈ a ++ a.map up1
theorem Al.row {a : List Nat} (h : Al a) : Row a := fun c hc => lett_iff.mpr (.inr (h.2.2.1 c hc))
theorem RowOf.row {a l : List Nat} (ha : Al a) (h : RowOf a l) : Row l := fun c hc => by
  rcases List.mem_append.mp (h c hc) with q | q
  · exact ha.row c q
  · exact ha.row.map_up c q
theorem fm_const {α : Type} (n : Nat) (v : α) : (List.range n).filterMap (fun _ => some v) = List.replicate n v := by
  induction n with
  | zero => rfl
  | succ n ih => rw [List.range_succ, List.filterMap_append, ih, List.replicate_succ']; rfl
theorem all_rep (n : Nat) : (List.replicate n true).all id = true := by
  rw [List.all_eq_true]; intro x hx; exact (List.mem_replicate.mp hx).2
theorem one_lt {x y : Nat} (h : x < y) : decide ([x] < [y]) = true := decide_eq_true (List.cons_lt_cons_iff.mpr (.inl h))
theorem Al.lt {a : List Nat} (h : Al a) {i j : Nat} (hij : i < j) (hj : j < a.length) : a.getD i 0 < a.getD j 0 := by
  have := List.pairwise_iff_getElem.mp h.2.2.2 i j (by omega) hj hij
  rw [List.getD_eq_getElem?_getD, List.getD_eq_getElem?_getD, List.getElem?_eq_getElem (by omega), List.getElem?_eq_getElem hj]
  exact this
/-- numbers as values -/
abbrev nV (x : Nat) : V := .int (x : Int)
/-- a permutation of the first n numbers -/
def Prm (n : Nat) (l : List Nat) : Prop := l.Perm (List.range n)
theorem Prm.len {n : Nat} {l : List Nat} (h : Prm n l) : l.length = n := by rw [List.Perm.length_eq h, List.length_range]
theorem Prm.mem {n : Nat} {l : List Nat} (h : Prm n l) {x : Nat} : x ∈ l ↔ x < n := by rw [List.Perm.mem_iff h, List.mem_range]
theorem rgV_nat (n : Nat) : rgV 0 (n : Int) = (List.range n).map nV := by
  unfold rgV
  rw [show ((n : Int) - 0).toNat = n by omega]
  exact List.map_congr_left fun i _ => by show V.int (0 + (i : Int)) = _; rw [Int.zero_add]
theorem sorted_prm {n : Nat} {l : List Nat} (h : Prm n l) {ns : List Int} (hp : ns.Perm (l.map fun x : Nat => (x : Int))) (hs : ns.Pairwise (· ≤ ·)) : ns = (List.range n).map fun x : Nat => (x : Int) := by
  refine List.Perm.eq_of_pairwise (le := fun a b : Int => a ≤ b) (fun a b _ _ h1 h2 => Int.le_antisymm h1 h2) hs ?_ (hp.trans (List.Perm.map _ h))
  rw [List.pairwise_map]
  exact (List.pairwise_lt_range (n := n)).imp fun h => by omega
theorem _root_.L2.Rd.same {H H' : Hp} {a : Addr} {u : HO} (h : Rd H a u) (s : Same H H') : Rd H' a u := h.imp (s _ _) fun ⟨o, e⟩ => ⟨o, s _ _ e⟩
theorem _root_.L2.SqT.rd {K : PySem.W.Frag} {H : Hp} {p : Addr} {xs : List V} (h : Rd H p (.tup xs)) : SqT K H p xs := .inl h
/-- figures: a list of tuples, each a permutation -/
def Figs (H : Hp) (p : Addr) (n : Nat) (im : List (List Nat)) : Prop := ∃ ps : List Addr, H p = some (.lst (ps.map V.ref)) ∧ ps.length = im.length ∧ ∀ i, i < im.length → (∃ ob : Obj, ob.dict = none ∧ H (ps.getD i 0) = some (.frz ob (.tup ((im.getD i []).map nV)))) ∧ Prm n (im.getD i [])
theorem Figs.same {H H' : Hp} {p : Addr} {n : Nat} {im : List (List Nat)} (h : Figs H p n im) (s : Same H H') : Figs H' p n im := by
  obtain ⟨ps, h1, h2, h3⟩ := h
  exact ⟨ps, s _ _ h1, h2, fun i hi => ⟨by obtain ⟨ob, hd, e⟩ := (h3 i hi).1; exact ⟨ob, hd, s _ _ e⟩, (h3 i hi).2⟩⟩
theorem refs_getD {ps : List Addr} {i : Nat} (h : i < ps.length) : (ps.map V.ref).getD i .non = .ref (ps.getD i 0) := by
  rw [List.getD_eq_getElem?_getD, List.getD_eq_getElem?_getD, List.getElem?_map, List.getElem?_eq_getElem h]; rfl
theorem nats_getD {l : List Nat} {i : Nat} (h : i < l.length) : (l.map nV).getD i .non = nV (l.getD i 0) := by
  rw [List.getD_eq_getElem?_getD, List.getD_eq_getElem?_getD, List.getElem?_map, List.getElem?_eq_getElem h]; rfl
theorem nats_int (l : List Nat) : l.map nV = (l.map fun x : Nat => (x : Int)).map V.int := by rw [List.map_map]; rfl
section
variable {K : PySem.W.Frag} {σ : L2.St} {H : Hp} {Q : VK} {ta : TE}
def LRg (Q : VK) (x : V) (H1 : Hp) : Prop := ∃ n, x = .int n ∧ RgOk 0 n ∧ ∀ q, H1 q = none → Q (.ref q) (upd H1 q (.lst (rgV 0 n)))
def TRg (Q : VK) (x : V) (H1 : Hp) : Prop := ∃ n, x = .int n ∧ RgOk 0 n ∧ ∀ q, H1 q = none → Q (.ref q) (upd H1 q (.tup (rgV 0 n)))
theorem r_lstRg (h : ta σ H (LRg Q)) : tLstRg (tRg1 ta) σ H Q := h
theorem r_tupRg (h : ta σ H (TRg Q)) : tTupRg (tRg1 ta) σ H Q := h
theorem r_lRg {n : Nat} (hn : n ≤ 16777216) (h : ∀ q, H q = none → Q (.ref q) (upd H q (.lst ((List.range n).map nV)))) : LRg Q (.int (n : Int)) H :=
  ⟨n, rfl, RgOk.of_le (by omega) (by omega) (by omega) (by omega), by rw [rgV_nat]; exact h⟩
theorem r_tRg {n : Nat} (hn : n ≤ 16777216) (h : ∀ q, H q = none → Q (.ref q) (upd H q (.tup ((List.range n).map nV)))) : TRg Q (.int (n : Int)) H :=
  ⟨n, rfl, RgOk.of_le (by omega) (by omega) (by omega) (by omega), by rw [rgV_nat]; exact h⟩
end
/-- where points go back -/
def inv (n : Nat) (l : List Nat) : List Nat := (List.range n).map fun x => l.idxOf x
/-- the steps of the first i letters, in a dict -/
def Stps (H : Hp) (d : Addr) (a : List Nat) (im : List (List Nat)) (n i : Nat) : Prop := ∃ kvs, H d = some (.dK kvs) ∧ kvs.length ≤ 2 * i ∧ ∀ j, j < i →
  (∃ b, valV kvs (Sum.inr (mkS [a.getD j 0])) = some (.ref b) ∧ Rd H b (.tup ((im.getD j []).map nV))) ∧
  ∃ b, valV kvs (Sum.inr (mkS [up1 (a.getD j 0)])) = some (.ref b) ∧ Rd H b (.tup ((inv n (im.getD j [])).map nV))
theorem Stps.zero {H : Hp} {d : Addr} {a : List Nat} {im : List (List Nat)} {n : Nat} (e : H d = some (.dK [])) : Stps H d a im n 0 := ⟨[], e, by simp, fun j hj => absurd hj (by omega)⟩
theorem key_ne {c d : Nat} (h : c ≠ d) : (Sum.inr (mkS [c]) : L2.Key) ≠ Sum.inr (mkS [d]) := fun e => by
  have := mkS_inj (Sum.inr.inj e)
  exact h (List.cons.inj this).1
theorem put_len (c : List (L2.Key × V)) (k : L2.Key) (x : V) : (putK c k x).length ≤ c.length + 1 := by
  unfold putK
  split
  · rw [List.length_map]; omega
  · simp
theorem Al.up {a : List Nat} (h : Al a) {j : Nat} (hj : j < a.length) : up1 (a.getD j 0) = a.getD j 0 - 32 ∧ 97 ≤ a.getD j 0 ∧ a.getD j 0 ≤ 122 := by
  have := h.2.2.1 _ (getD_mem hj)
  unfold up1
  rw [if_pos this]
  exact ⟨rfl, this⟩
theorem Stps.step {H H' : Hp} {d b1 b2 : Addr} {a : List Nat} {im : List (List Nat)} {n i : Nat} {kvs : List (L2.Key × V)} (ha : Al a) (hi : i < a.length) (ed : H d = some (.dK kvs)) (hl : kvs.length ≤ 2 * i)
    (h : ∀ j, j < i → (∃ b, valV kvs (Sum.inr (mkS [a.getD j 0])) = some (.ref b) ∧ Rd H b (.tup ((im.getD j []).map nV))) ∧ ∃ b, valV kvs (Sum.inr (mkS [up1 (a.getD j 0)])) = some (.ref b) ∧ Rd H b (.tup ((inv n (im.getD j [])).map nV)))
    (e : H' d = some (.dK (putK (putK kvs (Sum.inr (mkS [a.getD i 0])) (.ref b1)) (Sum.inr (mkS [up1 (a.getD i 0)])) (.ref b2))))
    (h1 : Rd H' b1 (.tup ((im.getD i []).map nV))) (h2 : Rd H' b2 (.tup ((inv n (im.getD i [])).map nV))) (kp : Kp d H H') : Stps H' d a im n (i + 1) := by
  refine ⟨_, e, ?_, fun j hj => ?_⟩
  · have p1 := put_len (putK kvs (Sum.inr (mkS [a.getD i 0])) (.ref b1)) (Sum.inr (mkS [up1 (a.getD i 0)])) (.ref b2)
    have p2 := put_len kvs (Sum.inr (mkS [a.getD i 0])) (.ref b1)
    omega
  · have ui := ha.up hi
    have uj := ha.up (show j < a.length by omega)
    by_cases c : j = i
    · subst c
      refine ⟨⟨b1, ?_, h1⟩, ⟨b2, ?_, h2⟩⟩
      · rw [valV_put, if_neg (key_ne (by omega)), valV_put, if_pos rfl]
      · rw [valV_put, if_pos rfl]
    · have hlt := ha.lt (show j < i by omega) hi
      obtain ⟨⟨x, x1, x2⟩, ⟨y, y1, y2⟩⟩ := h j (by omega)
      have nd : ∀ {b : Addr} {xs : List V}, Rd H b (.tup xs) → Rd H' b (.tup xs) := fun {b xs} hb => by
        have hbd : b ≠ d := by
          rintro rfl
          rcases hb with hb | ⟨o, hb⟩ <;> (rw [ed] at hb; cases hb)
        exact hb.imp (kp _ _ hbd) fun ⟨o, e⟩ => ⟨o, kp _ _ hbd e⟩
      refine ⟨⟨x, ?_, nd x2⟩, ⟨y, ?_, nd y2⟩⟩
      · rw [valV_put, if_neg (key_ne (by omega)), valV_put, if_neg (key_ne (by omega)), x1]
      · rw [valV_put, if_neg (key_ne (by omega)), valV_put, if_neg (key_ne (by omega)), y1]
theorem idx_cast (l : List Nat) (x : Nat) : (l.map fun x : Nat => (x : Int)).idxOf (x : Int) = l.idxOf x := by
  induction l with
  | nil => rfl
  | cons a l ih =>
    rw [List.map_cons, List.idxOf_cons, List.idxOf_cons, ih]
    by_cases h : a = x
    · subst h; simp
    · have h2 : ¬ (a : Int) = (x : Int) := by omega
      have q1 : ((a : Int) == (x : Int)) = false := beq_eq_false_iff_ne.mpr h2
      have q2 : (a == x) = false := beq_eq_false_iff_ne.mpr h
      rw [q1, q2]
theorem fm_some {α : Type} (n : Nat) (f : Nat → α) : (List.range n).filterMap (fun i => some (f i)) = (List.range n).map f := by
  induction n with
  | zero => rfl
  | succ n ih => rw [List.range_succ, List.filterMap_append, ih, List.map_append]; rfl
section
variable {K : PySem.W.Frag} {σ : L2.St} {H : Hp} {Q : VK} {D : Ends} {td ty tv : TE}
def DPutJ (D : Ends) (σ : L2.St) (x y v : V) (H3 : Hp) : Prop := ∃ a H4, x = .ref a ∧ DPut H3 a y v H4 ∧ D.nx σ H4
theorem r_dput (h : tv σ H fun v H1 => td σ H1 fun x H2 => ty σ H2 fun y H3 => DPutJ D σ x y v H3) : sDPut td ty tv D σ H := h
theorem r_dputK {a : Addr} {kvs : List (L2.Key × V)} {l : List Nat} {v : V} (e : H a = some (.dK kvs)) (hl : kvs.length < 16777216) (h : D.nx σ (upd H a (.dK (putK kvs (Sum.inr (mkS l)) v)))) : DPutJ D σ (.ref a) (T l) v H :=
  ⟨a, _, rfl, DPut.k (k := Sum.inr (mkS l)) e (by rw [sizeLine_eq]; exact hl), h⟩
def DGetJ (Q : VK) (x y : V) (H2 : Hp) : Prop := ∃ a v, x = .ref a ∧ DGet H2 a y (some v) ∧ Q v H2
theorem r_dget (h : td σ H fun x H1 => ty σ H1 fun y H2 => DGetJ Q x y H2) : tDGet td ty σ H Q := h
theorem r_dgetK {a : Addr} {kvs : List (L2.Key × V)} {l : List Nat} {v : V} (e : H a = some (.dK kvs)) (hv : valV kvs (Sum.inr (mkS l)) = some v) (h : Q v H) : DGetJ Q (.ref a) (T l) H :=
  ⟨a, v, rfl, by have := DGet.k (k := Sum.inr (mkS l)) e; rw [hv] at this; exact this, h⟩
end
/-- the step of a sign -/
def stp (a : List Nat) (im : List (List Nat)) (c x : Nat) : Nat := if c ∈ a then (im.getD (a.idxOf c) []).getD x 0 else (im.getD (a.idxOf (lo1 c)) []).idxOf x
def ledF (a : List Nat) (im : List (List Nat)) (l : List Nat) (x : Nat) : Nat := l.foldl (fun y c => stp a im c y) x
theorem ledF_snoc (a : List Nat) (im : List (List Nat)) (l : List Nat) (c x : Nat) : ledF a im (l ++ [c]) x = stp a im c (ledF a im l x) := by unfold ledF; rw [List.foldl_append]; rfl
theorem at_nats {l : List Nat} {x : Nat} (h : x < l.length) : atI (l.map nV) (x : Int) = some (nV (l.getD x 0)) :=
  atI_nat (by rw [List.getElem?_map, List.getElem?_eq_getElem h, List.getD_eq_getElem?_getD, List.getElem?_eq_getElem h]; rfl)
theorem at_refs {ps : List Addr} {x : Nat} (h : x < ps.length) : atI (ps.map V.ref) (x : Int) = some (.ref (ps.getD x 0)) :=
  atI_nat (by rw [List.getElem?_map, List.getElem?_eq_getElem h, List.getD_eq_getElem?_getD, List.getElem?_eq_getElem h]; rfl)
theorem Stps.same {H H' : Hp} {d : Addr} {a : List Nat} {im : List (List Nat)} {n i : Nat} (h : Stps H d a im n i) (s : Same H H') : Stps H' d a im n i := by
  obtain ⟨kvs, h1, h2, h3⟩ := h
  refine ⟨kvs, s _ _ h1, h2, fun j hj => ?_⟩
  obtain ⟨⟨b, b1, b2⟩, ⟨c, c1, c2⟩⟩ := h3 j hj
  exact ⟨⟨b, b1, b2.same s⟩, ⟨c, c1, c2.same s⟩⟩
theorem lo_mem {a : List Nat} (ha : Al a) {c : Nat} (hc : c ∈ a ++ a.map up1) (hn : c ∉ a) : lo1 c ∈ a ∧ up1 (lo1 c) = c := by
  rcases List.mem_append.mp hc with h | h
  · exact absurd h hn
  · obtain ⟨d, hd, rfl⟩ := List.mem_map.mp h
    have hr := ha.2.2.1 d hd
    have e : lo1 (up1 d) = d := by
      unfold up1
      rw [if_pos hr]
      unfold lo1
      rw [if_pos (by omega)]; omega
    rw [e]; exact ⟨hd, rfl⟩
theorem idx_getD {a : List Nat} {c : Nat} (h : c ∈ a) : a.getD (a.idxOf c) 0 = c := by
  have hlt := List.idxOf_lt_length_of_mem h
  rw [List.getD_eq_getElem?_getD, List.getElem?_eq_getElem hlt, List.getElem_idxOf hlt]; rfl
theorem idx_lt {n : Nat} {l : List Nat} (h : Prm n l) {x : Nat} (hx : x < n) : l.idxOf x < n := by
  have := List.idxOf_lt_length_of_mem (h.mem.mpr hx)
  rw [h.len] at this; exact this
theorem stp_lt {a : List Nat} {im : List (List Nat)} {n c x : Nat} (ha : Al a) (hl : im.length = a.length) (hp : ∀ i, i < im.length → Prm n (im.getD i [])) (hc : c ∈ a ++ a.map up1) (hx : x < n) : stp a im c x < n := by
  unfold stp
  by_cases h : c ∈ a
  · rw [if_pos h]
    have hj := List.idxOf_lt_length_of_mem h
    have p := hp (a.idxOf c) (by omega)
    exact p.mem.mp (getD_mem (by rw [p.len]; exact hx))
  · rw [if_neg h]
    have hj := List.idxOf_lt_length_of_mem (lo_mem ha hc h).1
    exact idx_lt (hp _ (by omega)) hx
theorem inv_getD {n : Nat} {l : List Nat} {x : Nat} (hx : x < n) : (inv n l).getD x 0 = l.idxOf x := by
  unfold inv
  rw [List.getD_eq_getElem?_getD, List.getElem?_map, List.getElem?_range hx]; rfl
theorem stp_spec {H : Hp} {d : Addr} {a : List Nat} {im : List (List Nat)} {n c x : Nat} (ha : Al a) (hl : im.length = a.length) (hp : ∀ i, i < im.length → Prm n (im.getD i [])) (hs : Stps H d a im n a.length) (hc : c ∈ a ++ a.map up1) (hx : x < n) :
    ∃ (kvs : List (L2.Key × V)) (b : Addr) (l' : List Nat), H d = some (.dK kvs) ∧ valV kvs (Sum.inr (mkS [c])) = some (.ref b) ∧ Rd H b (.tup (l'.map nV)) ∧ l'.length = n ∧ l'.getD x 0 = stp a im c x ∧ stp a im c x < n := by
  obtain ⟨kvs, h1, h2, h3⟩ := hs
  have hlt := stp_lt ha hl hp hc hx
  by_cases h : c ∈ a
  · have hj := List.idxOf_lt_length_of_mem h
    obtain ⟨⟨b, b1, b2⟩, _⟩ := h3 _ hj
    rw [idx_getD h] at b1
    refine ⟨kvs, b, _, h1, b1, b2, (hp _ (by omega)).len, ?_, hlt⟩
    unfold stp; rw [if_pos h]
  · obtain ⟨hm, hu⟩ := lo_mem ha hc h
    have hj := List.idxOf_lt_length_of_mem hm
    obtain ⟨_, ⟨b, b1, b2⟩⟩ := h3 _ hj
    rw [idx_getD hm, hu] at b1
    refine ⟨kvs, b, _, h1, b1, b2, by unfold inv; rw [List.length_map, List.length_range], ?_, hlt⟩
    rw [inv_getD hx]; unfold stp; rw [if_neg h]
end NX
namespace NX
open PySem PySem.Spec PyProof.Rows L2
/-! ### told rows -/
def tnd (a b : List Nat) : Bool := decide (a.length = b.length) && subS (mkS (b ++ b)) (mkS a)
theorem tnd_iff (a b : List Nat) : tnd a b = true ↔ Turn b a := by
  unfold tnd
  rw [Bool.and_eq_true, decide_eq_true_iff, subS_mk]
  constructor
  · rintro ⟨h1, i, h2⟩
    rw [at_rot h1] at h2
    rw [← h2.2]; exact turn_rot _ _
  · intro h
    obtain ⟨i, hi, e⟩ := h.rot
    exact ⟨h.len.symm, i, (at_rot h.len.symm i).mpr ⟨hi, e.symm⟩⟩
/-- a ring row of the letters, of one to forty characters -/
def RR (a l : List Nat) : Prop := RowOf a l ∧ 1 ≤ l.length ∧ l.length ≤ 40 ∧ ∀ i, i < l.length → l.getD i 0 ≠ swp (l.getD ((i + l.length - 1) % l.length) 0)
/-- rows that can be told -/
def Told (a : List Nat) (rs : List (List Nat)) : Prop := rs.length ≤ 6 ∧ (∀ r ∈ rs, RR a r) ∧ ∀ i j, i < j → j < rs.length → (tnd (rs.getD j []) (rs.getD i []) || tnd (rs.getD j []) (bak (rs.getD i []))) = false
theorem at_prev {l : List Nat} {i : Nat} (h : i < l.length) : atI l ((i : Int) - 1) = some (l.getD ((i + l.length - 1) % l.length) 0) := by
  by_cases c : i = 0
  · subst c
    rw [show ((0 : Nat) : Int) - 1 = -1 by omega]
    have := at_neg (l := l) (k := 0) h
    rw [show (0 + l.length - 1) % l.length = l.length - 1 - 0 by rw [Nat.mod_eq_of_lt (by omega)]; omega]
    exact this
  · have e : ((i : Int) - 1) = ((i - 1 : Nat) : Int) := by omega
    rw [e, at_nat (by omega) (by omega), Int.toNat_natCast]
    congr 2
    rw [show i + l.length - 1 = (i - 1) + l.length by omega, Nat.add_mod_right, Nat.mod_eq_of_lt (by omega)]
theorem any_rep (n : Nat) : (List.replicate n false).any id = false := by
  rw [List.any_eq_false]; intro x hx; rw [(List.mem_replicate.mp hx).2]; simp
theorem take_memL {ls : List (List Nat)} {i : Nat} {z : List Nat} (h : z ∈ ls.take i) : ∃ j, j < i ∧ z = ls.getD j [] := by
  obtain ⟨j, hj, e⟩ := List.mem_iff_getElem.mp h
  rw [List.length_take] at hj
  refine ⟨j, by omega, ?_⟩
  rw [List.getD_eq_getElem?_getD, List.getElem?_eq_getElem (by omega), ← e, List.getElem_take]; rfl
theorem fld2 {f g : Str} {u v : V} (h : (g == f) = false) : List.lookup g [(f, u), (g, v)] = some v := by
  have e : (g == g) = true := beq_self_eq_true g
  simp only [List.lookup, h, e]
theorem put2 {f g : Str} {u v : V} (h : ¬ f = g) : putF g v (putF f u []) = [(f, u), (g, v)] := by
  show (if f = g then _ else _) = _
  rw [if_neg h]; rfl
theorem flip_up {c : Nat} (hc : lett c = true) (h : lo1 c = c) : up1 c = swp c := by
  rw [lett_iff] at hc
  unfold lo1 at h
  unfold up1 swp
  by_cases g : 65 ≤ c ∧ c ≤ 90
  · rw [if_pos g] at h; omega
  · rw [if_neg g]
theorem flip_lo {c : Nat} (hc : lett c = true) (h : ¬ lo1 c = c) : lo1 c = swp c := by
  rw [lett_iff] at hc
  unfold lo1 at h ⊢
  unfold swp
  by_cases g : 65 ≤ c ∧ c ≤ 90
  · rw [if_pos g, if_pos g]
  · rw [if_neg g] at h; exact absurd rfl h
end NX
set_option maxHeartbeats 2000000
namespace NX
open PySem PySem.Spec PyProof.Rows L2
/-! ### objects of own classes, for FnG -/
section
variable {X : Cx} {CX : CXT} {k : Nat} {f C : Addr} {fd : FuncData} {ps : List Str} {sp : Sp} {dvs : List V} {ds : List Value} {E : XK} {x m : Str} {p pos apos : Pos} {e o : Expr} {es : List Expr} {ta : TE} {t : TA}
theorem pe_meth0G (hgu : X.A.guards = some []) {pl : Sem Bool} (he : PE X o ta) (c : Cls X.K C) (hm : Meth X.K C m f) (F : FnG X.prog X.w X.K X.mg X.base CX k f fd ps sp) (hr : Room k X.A) (hb : Binds X.K fd ps ds) (hd : Vals dvs ds) (hx : Passes CX X E)
    (ht : eval (.Call (.Attribute o m apos) [] [] pos) X.env = (do
      let ov ← eval o X.env
      standAt apos.atName
      let (f, first) ← holding [ov] (getMethod ov m pl)
      callWith pos f first (backTo pos (starEach [] X.env)) (backToKw pos (keywordEach [] X.env))) := by rfl) :
    PE X (.Call (.Attribute o m apos) [] [] pos) (tMeth C m sp dvs E ta tNil) := by
  refine ⟨fun pins s σ H Q I h => ?_⟩
  refine PySem.W.methodCall_KW (pl := pl) (thn (he.run pins s σ H _ I h) fun u s1 ⟨x, H1, I1, rx, a, dx, fs, ex, ea, l, q⟩ => ?_) ht
  subst ex
  obtain rfl : u = Value.ref a := rx
  refine getmeth_ok I1 ea c hm l ?_
  exact PySem.W.callWith_K0 (first := [.ref a]) I1.kIn hm.kp (run_fnG (us := [.ref a]) (vs := [.ref a]) F hgu hr hb hd hx I1 (.cons rfl .nil) q)
theorem run_makeG {pins : List (Addr × Obj)} {σ : L2.St} {H : Hp} {s : Shared} {Q : VK} {us : List Value} {vs : List V} (hgu : X.A.guards = some []) (M : Mk X.K C f) (F : FnG X.prog X.w X.K X.mg X.base CX k f fd ps sp) (hr : Room (k + 1) X.A) (hb : Binds X.K fd ps ds) (hd : Vals dvs ds)
    (hx : Passes CX X E) (I : Inv X pins σ H s) (r : Vals vs us)
    (h : ∀ x dx, H x = none → H dx = none → dx ≠ x → sp (.ref x :: (vs ++ dvs)) (upd (upd H dx (.own x)) x (.ins C dx [])) (fun v H2 => v = .non ∧ Q (.ref x) H2) E) :
    wpAny (model X.prog X.w) X.A (call (.ref C) us) (EP X pins σ Q) X.xe s := by
  have hq := h (s.heap.objs.size + 1) s.heap.objs.size (I.hok.fresh (Nat.le_succ _)) (I.hok.fresh (Nat.le_refl _)) (Nat.ne_of_lt (Nat.lt_succ_self _))
  have I2 := Inv.made (C := C) I
  have r2 : Vals (V.ref (s.heap.objs.size + 1) :: (vs ++ dvs)) (Value.ref (s.heap.objs.size + 1) :: (us ++ ds)) := .cons rfl (r.append hd)
  have hl : (Value.ref (s.heap.objs.size + 1) :: us ++ ds).length = ps.length := by
    have e := r2.length
    rw [F.len _ _ _ _ hq] at e
    exact e.symm
  refine wpAny_call (make_map (f := f) I.kIn M.makes M.init (beq_iff_eq.mp M.fn) (codeAny_mono (F.run _ X.stack _ _ ⟨Value.ref (s.heap.objs.size + 1) :: us, []⟩ (Value.ref (s.heap.objs.size + 1) :: (us ++ ds)) _ _ E ?_ (hr.make C us [])
    (I2.env0.make C us []) (hb _ (Value.ref (s.heap.objs.size + 1) :: us) I2.kIn hl) r2 hq) fun r s' hq' => ?_))
  · have h1 : (Code.builtin "type.__call__" ⟨Value.ref C :: us, []⟩).guards = [] := by
      have h2 : (Code.builtin "type.__call__" ⟨Value.ref C :: us, []⟩).isGuard = false := (by decide +kernel : guardIds.contains "type.__call__" = false)
      unfold Code.guards
      rw [h2]; rfl
    unfold Around.under
    simp only [h1, pushGuards]
    exact hgu
  cases r with
  | error e => exact hx pins σ _ _ e s' I2 hq'
  | ok fl =>
    cases fl with
    | ret u =>
      obtain ⟨v, H', I3, rv, ev, q3⟩ := I2.after hq'
      subst ev
      exact ⟨rv, ⟨V.ref (s.heap.objs.size + 1), H', I3, rfl, q3⟩⟩
    | next => exact False.elim hq'
    | brk => exact False.elim hq'
    | cont => exact False.elim hq'
theorem pe_makeG (hgu : X.A.guards = some []) (M : Mk X.K C f) (F : FnG X.prog X.w X.K X.mg X.base CX k f fd ps sp) (hr : Room (k + 1) X.A) (hg : Gl X x) (hm : X.mg x = some (.ref C)) (hb : Binds X.K fd ps ds) (hd : Vals dvs ds) (hx : Passes CX X E)
    (ha : PA X (e :: es) t) (hdb : (x == ("__debug__" : Str)) = false := by decide) (he : starEach (e :: es) X.env = (false, eval e X.env) :: starEach es X.env := by rfl) (hpl : (backTo pos (starEach es X.env)).any (·.1) = false := by rfl) :
    PE X (.Call (.Name x p) (e :: es) [] pos) (tMake C sp dvs E t) := by
  refine ⟨fun pins s σ H Q I h => ?_⟩
  refine wpAny_Call_Name_kw (ld_glob I hg hm ?_ hdb)
  refine PySem.W.callWith_K (h₀ := X.base) I.ok.mod.kin M.kp (thn (ha.run pos pins s σ H _ I h) fun us s1 ⟨vs, H1, I1, r, q⟩ => ⟨I1.kIn, ?_⟩) he hpl
  exact run_makeG hgu M F hr hb hd hx I1 r q
end
section
variable {P : Program} {w : World} {K : PySem.W.Frag} {mg : Str → Option Value} {base : Heap} {k : Nat} {f : Addr}
theorem funDG {x qual : Str} {st : Stmt} {dvs : List V} {kws : List (Str × V)} {fd : FuncData} {N ps : List Str} {sp : Sp} (F : FunD K x qual (defArgs st) (defBody st) (defScope st) dvs kws f fd) (S : FnScope N ps (defScope st)) (len : ∀ vs H Q E, sp vs H Q E → vs.length = ps.length)
    (hbody : ∀ (cdv : Value) (A : Around) (outer : List Env) (s : Shared) (H : Hp) (vs : List V) (Q : VK) (E : XK), (A.deeper (envOfC qual (defScope st) s.heap.objs.size f cdv)).guards = some [] → Room k (A.deeper (envOfC qual (defScope st) s.heap.objs.size f cdv)) → sp vs H Q E →
      ∃ t, PSs (cxOf CX0 P w K mg base N qual (defScope st) f cdv A outer s H E).nox (defBody st) t ∧ t { nx := fun _ H' => Q .non H', rt := Q } (L2.start N vs) H) : FnG P w K mg base CX0 (k + 1) f fd ps sp := by
  obtain ⟨oc, od, dV, kV, doc, pm, an, cdv, ct, osl, rfl, lk, hcd, _, _⟩ := F.ex
  refine fnG_of lk hcd S len fun A outer s H vs Q E hgu hr hsp => ?_
  obtain ⟨t, h, q⟩ := hbody cdv A outer s H vs Q E hgu hr hsp
  exact ⟨t, h.nox, q⟩
variable {σ : L2.St} {H : Hp} {Q : VK} {D : Ends} {ta tv : TE} {t : TA}
/-- fields -/
def FldJ (K : PySem.W.Frag) (fn : Str) (Q : VK) (x : V) (H1 : Hp) : Prop := ∃ a C dx fs v, x = .ref a ∧ H1 a = some (.ins C dx fs) ∧ Cls K C ∧ NoAttr K C fn ∧ fs.lookup fn = some v ∧ Q v H1
theorem r_fld {fn : Str} (h : ta σ H (FldJ K fn Q)) : tFld K ta fn σ H Q := h
theorem r_fldI {fn : Str} {a C dx : Addr} {fs : List (Str × V)} {v : V} (e : H a = some (.ins C dx fs)) (c : Cls K C) (n : NoAttr K C fn) (l : fs.lookup fn = some v) (h : Q v H) : FldJ K fn Q (.ref a) H := ⟨a, C, dx, fs, v, rfl, e, c, n, l, h⟩
def SFldJ (K : PySem.W.Frag) (fn : Str) (D : Ends) (σ : L2.St) (y x : V) (H2 : Hp) : Prop := ∃ a C dx fs, x = .ref a ∧ H2 a = some (.ins C dx fs) ∧ Cls K C ∧ NoAttr K C fn ∧ fs.length < 1000 ∧ D.nx σ (upd H2 a (.ins C dx (putF fn y fs)))
theorem r_sfld {fn : Str} (h : tv σ H fun y H1 => ta σ H1 fun x H2 => SFldJ K fn D σ y x H2) : sFld K ta tv fn D σ H := h
theorem r_sfldI {fn : Str} {a C dx : Addr} {fs : List (Str × V)} {y : V} (e : H a = some (.ins C dx fs)) (c : Cls K C) (n : NoAttr K C fn) (l : fs.length < 1000) (h : D.nx σ (upd H a (.ins C dx (putF fn y fs)))) : SFldJ K fn D σ y (.ref a) H := ⟨a, C, dx, fs, rfl, e, c, n, l, h⟩
theorem r_make {C : Addr} {sp : Sp} {dvs : List V} {E : XK} (h : t σ H fun vs H1 => ∀ x dx, H1 x = none → H1 dx = none → dx ≠ x → sp (.ref x :: (vs ++ dvs)) (upd (upd H1 dx (.own x)) x (.ins C dx [])) (fun v H2 => v = .non ∧ Q (.ref x) H2) E) : tMake C sp dvs E t σ H Q := h
def MethJ (C : Addr) (m : Str) (sp : Sp) (dvs : List V) (E : XK) (t : TA) (σ : L2.St) (Q : VK) (x : V) (H1 : Hp) : Prop := ∃ a dx fs, x = .ref a ∧ H1 a = some (.ins C dx fs) ∧ fs.lookup m = none ∧ t σ H1 fun vs H2 => sp (x :: (vs ++ dvs)) H2 Q E
theorem r_meth {C : Addr} {m : Str} {sp : Sp} {dvs : List V} {E : XK} (h : ta σ H (MethJ C m sp dvs E t σ Q)) : tMeth C m sp dvs E ta t σ H Q := h
theorem r_methI {C : Addr} {m : Str} {sp : Sp} {dvs : List V} {E : XK} {a dx : Addr} {fs : List (Str × V)} (e : H a = some (.ins C dx fs)) (l : fs.lookup m = none) (h : t σ H fun vs H2 => sp (.ref a :: (vs ++ dvs)) H2 Q E) : MethJ C m sp dvs E t σ Q (.ref a) H := ⟨a, dx, fs, rfl, e, l, h⟩
/-- the front of a tuple -/
theorem r_slT {p : Addr} {xs : List V} {i : Nat} (e : SqT K H p xs) (hi : i < xs.length) (h : ∀ q, H q = none → Q (.ref q) (upd H q (.tup (xs.take i)))) : rSlG K (.ref p) none (some (i : Int)) H Q := by
  refine .inr (.inr ⟨p, xs, rfl, e, fun z => ?_, fun _ q nq => ?_⟩)
  · have := z.2
    rw [HT.sIx_nat] at this
    omega
  · have e2 : cutV xs none (some (i : Int)) = xs.take i := by
      unfold cutV
      rw [HT.sIx_none, HT.sIx_nat, List.drop_zero, Nat.sub_zero, Nat.min_eq_left (by omega)]
    rw [e2]; exact h q nq
end
end NX
namespace NX
open PySem PySem.Spec PyProof.Rows L2
/-! ### a text among texts -/
theorem eqV_T (a b : List Nat) : eqV (T a) (T b) = decide (a = b) := by
  show (mkS a == mkS b) = _
  rw [Bool.eq_iff_iff, beq_iff_eq, decide_eq_true_iff]
  exact ⟨fun h => mkS_inj h, fun h => by rw [h]⟩
theorem inV_T (w : List Nat) (ls : List (List Nat)) : inV (T w) (ls.map T) = decide (w ∈ ls) := by
  unfold inV
  rw [List.any_map, Bool.eq_iff_iff, List.any_eq_true, decide_eq_true_iff]
  constructor
  · rintro ⟨x, hx, e⟩
    have e' : eqV (T x) (T w) = true := e
    rw [eqV_T, decide_eq_true_iff] at e'
    rw [← e']; exact hx
  · intro h
    refine ⟨w, h, ?_⟩
    show eqV (T w) (T w) = true
    rw [eqV_T, decide_eq_true rfl]
theorem flat_T (ls : List (List Nat)) : (ls.map T).all flatV = true := by
  rw [List.all_map, List.all_eq_true]; intro x _; rfl
section
variable {K : PySem.W.Frag} {H : Hp} {Q : VK}
theorem r_inL {p : Addr} {w : List Nat} {ls : List (List Nat)} (e : SqL K H p (ls.map T)) (h : Q (.bl (decide (w ∈ ls))) H) : rInG K (T w) (.ref p) H Q :=
  .inr ⟨p, _, rfl, .inl e, rfl, flat_T ls, by rw [inV_T]; exact h⟩
theorem r_notinL {p : Addr} {w : List Nat} {ls : List (List Nat)} (e : SqL K H p (ls.map T)) (h : Q (.bl (!decide (w ∈ ls))) H) : rNotInG K (T w) (.ref p) H Q :=
  .inr ⟨p, _, rfl, .inl e, rfl, flat_T ls, by rw [inV_T]; exact h⟩
theorem cutV_take (xs : List V) (i : Nat) : cutV xs none (some (i : Int)) = xs.take i := by
  unfold cutV
  rw [HT.sIx_none, HT.sIx_nat, List.drop_zero, Nat.sub_zero]
  by_cases h : i ≤ xs.length
  · rw [Nat.min_eq_left h]
  · rw [Nat.min_eq_right (by omega), List.take_length, List.take_of_length_le (by omega)]
/-- the front of a list of texts -/
theorem r_slLT {p : Addr} {ls : List (List Nat)} {i : Nat} (e : SqL K H p (ls.map T)) (h : ∀ q, H q = none → Q (.ref q) (upd H q (.lst ((ls.take i).map T)))) : rSlG K (.ref p) none (some (i : Int)) H Q := by
  refine r_slL e fun q nq => ?_
  rw [cutV_take, ← List.map_take]; exact h q nq
end
/-- each once, at its first place -/
def once (ls : List (List Nat)) : List (List Nat) := (List.range ls.length).filterMap fun i => if ls.getD i [] ∈ ls.take i then none else some (ls.getD i [])
theorem once_mem (ls : List (List Nat)) (w : List Nat) : w ∈ once ls ↔ w ∈ ls := by
  unfold once
  rw [List.mem_filterMap]
  constructor
  · rintro ⟨i, hi, e⟩
    split at e
    · cases e
    · rw [← Option.some.inj e]; exact getD_memL (List.mem_range.mp hi)
  · intro h
    -- the first place
    have hlt := List.idxOf_lt_length_of_mem h
    have e : ls.getD (ls.idxOf w) [] = w := by rw [List.getD_eq_getElem?_getD, List.getElem?_eq_getElem hlt, List.getElem_idxOf hlt]; rfl
    refine ⟨ls.idxOf w, List.mem_range.mpr hlt, ?_⟩
    rw [e, if_neg]
    intro hm
    obtain ⟨j, hj, e2⟩ := List.mem_iff_getElem.mp hm
    rw [List.length_take] at hj
    have h3 := List.not_of_lt_findIdx (p := (· == w)) (xs := ls) (i := j) (by
      have : j < ls.idxOf w := by omega
      simpa [List.idxOf] using this)
    rw [List.getElem_take] at e2
    rw [e2] at h3
    simp at h3
theorem once_len (ls : List (List Nat)) : (once ls).length ≤ ls.length := by
  unfold once
  refine Nat.le_trans (List.length_filterMap_le _ _) ?_
  rw [List.length_range]; exact Nat.le_refl _
theorem fm_once (ls : List (List Nat)) : (List.range ls.length).filterMap (fun i => if ls.getD i [] ∈ ls.take i then none else some (T (ls.getD i []))) = (once ls).map T := by
  unfold once
  rw [List.map_filterMap]
  congr 1
  funext i
  split <;> rfl
section
variable {H : Hp} {Q : VK}
theorem r_p6 (h : Q (.int 1000000) H) : rI CPowW (fun i j => .int (i ^ j.toNat)) (.int 10) (.int 6) H Q := r_pw 5 (by decide) (by decide) (by decide) (by decide) h
theorem r_p7 (h : Q (.int 10000000) H) : rI CPowW (fun i j => .int (i ^ j.toNat)) (.int 10) (.int 7) H Q := r_pw 5 (by decide) (by decide) (by decide) (by decide) h
theorem r_p31 (h : Q (.int 10000000000000000000000000000000) H) : rI CPowW (fun i j => .int (i ^ j.toNat)) (.int 10) (.int 31) H Q := r_pw 5 (by decide) (by decide) (by decide) (by decide) h
theorem r_p33 (h : Q (.int 1000000000000000000000000000000000) H) : rI CPowW (fun i j => .int (i ^ j.toNat)) (.int 10) (.int 33) H Q := r_pw 5 (by decide) (by decide) (by decide) (by decide) h
theorem r_p37 (h : Q (.int 10000000000000000000000000000000000000) H) : rI CPowW (fun i j => .int (i ^ j.toNat)) (.int 10) (.int 37) H Q := r_pw 5 (by decide) (by decide) (by decide) (by decide) h
theorem r_p39 (h : Q (.int 1000000000000000000000000000000000000000) H) : rI CPowW (fun i j => .int (i ^ j.toNat)) (.int 10) (.int 39) H Q := r_pw 5 (by decide) (by decide) (by decide) (by decide) h
end
/-- how many characters two rows share at their beginnings -/
def cpl : List Nat → List Nat → Nat
  | a :: l, b :: m => if a = b then cpl l m + 1 else 0
  | _, _ => 0
theorem cpl_le (l m : List Nat) : cpl l m ≤ l.length ∧ cpl l m ≤ m.length := by
  induction l generalizing m with
  | nil => simp [cpl]
  | cons a l ih => cases m with
    | nil => simp [cpl]
    | cons b m =>
      unfold cpl
      split
      · have := ih m; simp only [List.length_cons]; omega
      · simp
theorem cpl_at {l m : List Nat} {k : Nat} (hl : k < l.length) (hm : k < m.length) (h : ∀ j, j < k → l.getD j 0 = m.getD j 0) (hn : l.getD k 0 ≠ m.getD k 0) : cpl l m = k := by
  induction k generalizing l m with
  | zero =>
    cases l with
    | nil => simp at hl
    | cons a l => cases m with
      | nil => simp at hm
      | cons b m =>
        have : a ≠ b := hn
        unfold cpl; rw [if_neg this]
  | succ k ih =>
    cases l with
    | nil => simp at hl
    | cons a l => cases m with
      | nil => simp at hm
      | cons b m =>
        have e : a = b := h 0 (by omega)
        unfold cpl
        rw [if_pos e, ih (by simpa using hl) (by simpa using hm) (fun j hj => h (j + 1) (by omega)) hn]
theorem cpl_all {l m : List Nat} (h : ∀ j, j < min l.length m.length → l.getD j 0 = m.getD j 0) : cpl l m = min l.length m.length := by
  induction l generalizing m with
  | nil => simp [cpl]
  | cons a l ih => cases m with
    | nil => simp [cpl]
    | cons b m =>
      have e : a = b := h 0 (by simp)
      unfold cpl
      rw [if_pos e, ih fun j hj => h (j + 1) (by simp only [List.length_cons]; omega)]
      simp only [List.length_cons]; omega
end NX
namespace NX
open PySem PySem.Spec PyProof.Rows L2
/-- nowhere a character behind its back, around the ring -/
def frg (l : List Nat) : Bool := decide (∀ i, i < l.length → l.getD ((i + l.length - 1) % l.length) 0 ≠ swp (l.getD i 0))
theorem frg_eq {l : List Nat} : decide ((((List.range l.length).filter fun i => decide (l.getD ((i + l.length - 1) % l.length) 0 = swp (l.getD i 0))).map fun x : Nat => (x : Int)) = []) = frg l := by
  unfold frg
  rw [Bool.eq_iff_iff, decide_eq_true_iff, decide_eq_true_iff, List.map_eq_nil_iff, List.filter_eq_nil_iff]
  constructor
  · intro h i hi e
    exact h i (List.mem_range.mpr hi) (decide_eq_true e)
  · intro h i hi e
    exact h i (List.mem_range.mp hi) (of_decide_eq_true e)
theorem frg_ring {l : List Nat} (hr : Row l) (h : frg l = true) : ∀ i, i < l.length → l.getD i 0 ≠ swp (l.getD ((i + l.length - 1) % l.length) 0) := by
  unfold frg at h
  rw [decide_eq_true_iff] at h
  intro i hi e
  have hp : (i + l.length - 1) % l.length < l.length := Nat.mod_lt _ (by omega)
  apply h i hi
  rw [e, swp_swp (hr _ (getD_mem hp))]
theorem rot_step {ws : List (List Nat)} {z w : List Nat} {j : Nat} : ((w ∈ ws ∨ ∃ k, k < j ∧ w = rot z k) ∨ w = rot z j) ↔ w ∈ ws ∨ ∃ k, k < j + 1 ∧ w = rot z k := by
  constructor
  · rintro ((h | ⟨k, hk, e⟩) | h)
    · exact .inl h
    · exact .inr ⟨k, by omega, e⟩
    · exact .inr ⟨j, by omega, h⟩
  · rintro (h | ⟨k, hk, e⟩)
    · exact .inl (.inl h)
    · by_cases c : k = j
      · exact .inr (c ▸ e)
      · exact .inl (.inr ⟨k, by omega, e⟩)
theorem rot_step' {ws : List (List Nat)} {z w : List Nat} {j : Nat} (h : w = rot z j → w ∈ ws ∨ ∃ k, k < j ∧ w = rot z k) : (w ∈ ws ∨ ∃ k, k < j ∧ w = rot z k) ↔ w ∈ ws ∨ ∃ k, k < j + 1 ∧ w = rot z k := by
  rw [← rot_step]
  exact ⟨.inl, fun h2 => h2.elim id h⟩
theorem rots_mem {z w : List Nat} : w ∈ rots z ↔ ∃ k, k < z.length ∧ w = rot z k := by
  unfold rots
  rw [List.mem_map]
  exact ⟨fun ⟨k, hk, e⟩ => ⟨k, List.mem_range.mp hk, e.symm⟩, fun ⟨k, hk, e⟩ => ⟨k, List.mem_range.mpr hk, e.symm⟩⟩
theorem cut_in (l : List Nat) (h : 1 < l.length) : cutL l (some 1) (some (-1)) = (l.take (l.length - 1)).drop 1 := by
  have e : HT.sIx l.length l.length (some (-1)) = l.length - 1 := by
    show _ = _
    unfold HT.sIx
    simp only
    split <;> omega
  unfold cutL
  rw [e, show (some (1 : Int)) = some ((1 : Nat) : Int) from rfl, HT.sIx_nat, Nat.min_eq_left (by omega), List.drop_take]
/-- no ends that face -/
def NF (r : List Nat) : Prop := ¬ (1 < r.length ∧ r.getD 0 0 = swp (r.getD (r.length - 1) 0))
theorem rr_of {a r : List Nat} (hr : Row r) (ho : RowOf a r) (h1 : 1 ≤ r.length) (h2 : r.length ≤ 40) (hf : Free r) (hn : NF r) : RR a r := by
  refine ⟨ho, h1, h2, fun i hi => ?_⟩
  by_cases c : i = 0
  · subst c
    rw [show (0 + r.length - 1) % r.length = r.length - 1 by rw [Nat.mod_eq_of_lt (by omega)]; omega]
    by_cases d : 1 < r.length
    · exact fun e => hn ⟨d, e⟩
    · have : r.length - 1 = 0 := by omega
      rw [this]
      exact fun e => swp_ne (hr _ (getD_mem hi)) e.symm
  · have e : (i + r.length - 1) % r.length = i - 1 := by
      rw [show i + r.length - 1 = (i - 1) + r.length by omega, Nat.add_mod_right, Nat.mod_eq_of_lt (by omega)]
    rw [e]
    have := free_at (l := r) (k := i - 1) hf (by omega)
    rwa [show i - 1 + 1 = i by omega] at this
theorem some_sign {a : List Nat} (ha : Al a) (x : Nat) : ((a ++ a.map up1).filter fun c => decide (¬ c = x)) ≠ [] := by
  intro h
  rw [List.filter_eq_nil_iff] at h
  have h0 := ha.1
  have u := ha.up h0
  have m1 : a.getD 0 0 ∈ a ++ a.map up1 := List.mem_append_left _ (getD_mem h0)
  have m2 : up1 (a.getD 0 0) ∈ a ++ a.map up1 := List.mem_append_right _ (List.mem_map.mpr ⟨_, getD_mem h0, rfl⟩)
  have e1 := h _ m1
  have e2 := h _ m2
  simp only [decide_eq_true_eq, Decidable.not_not] at e1 e2
  omega
theorem free_add {r : List Nat} {d : Nat} (hf : Free r) (h : ∀ c, r.getLast? = some c → d ≠ swp c) : Free (r ++ [d]) := by
  by_cases e : r = []
  · subst e; trivial
  · obtain ⟨y, c, rfl⟩ : ∃ y c, r = y ++ [c] := ⟨r.dropLast, r.getLast e, (List.dropLast_concat_getLast e).symm⟩
    have := free_snoc hf (h c (by simp))
    simpa using this
theorem range_getD (l : List Nat) : (List.range l.length).map (fun i => l.getD i 0) = l := by
  apply List.ext_getElem?
  intro i
  rw [List.getElem?_map]
  by_cases h : i < l.length
  · rw [List.getElem?_range h]; simp [h]
  · rw [List.getElem?_eq_none (by simpa using h), List.getElem?_eq_none (by simpa using h)]; rfl
theorem fm_get (l : List Nat) (g : Nat → Option V) : (List.range l.length).filterMap (fun i => g (l.getD i 0)) = l.filterMap g := by
  conv => rhs; rw [← range_getD l]
  rw [List.filterMap_map]; rfl
theorem fm_ones (l : List Nat) (x : Nat) : l.filterMap (fun c => if decide (¬ c = x) = true then some (T [c]) else none) = ((l.filter fun c => decide (¬ c = x)).map fun c => [c]).map T := by
  rw [fm_filter, List.map_map]; rfl
theorem last_getD {r : List Nat} {c : Nat} (h : r.getLast? = some c) : r.getD (r.length - 1) 0 = c := by
  obtain ⟨y, rfl⟩ := List.getLast?_eq_some_iff.mp h
  simp
end NX
namespace NX
open PySem PySem.Spec PyProof.Rows L2
section
variable {K : PySem.W.Frag} {σ : L2.St} {H : Hp} {Q : VK} {D : Ends}
/-- a comprehension over pairs, with an invariant of one's own -/
theorem lc_pinv {J : It} {n : Nat} {f g : Nat → V} {G : Hp → Prop} {gg : TG} {tt : TT} {te : TE} {vs : List Nat} (kn : KnownP J n f g G) (Pv : Addr → Nat → Hp → Prop) (h0 : ∀ D, H D = none → Pv D 0 (upd H D (.lst []))) (hG : ∀ D i H, i ≤ n → Pv D i H → G H)
    (hs : ∀ D i H q, i < n → Pv D i H → H q = none → gg (.ref q) (wipe σ vs) (upd H q (.tup [f i, g i])) fun σ2 H2 => wipe σ2 vs = wipe σ vs ∧ tt σ2 H2 fun b H3 =>
      if b = true then te σ2 H3 fun y H4 => ∃ acc, H4 D = some (.lst acc) ∧ acc.length < sizeLine ∧ Pv D (i + 1) (upd H4 D (.lst (acc ++ [y]))) else Pv D (i + 1) H3)
    (hd : ∀ D H, Pv D n H → Q (.ref D) H) : LcJ gg tt te vs σ Q J H := by
  intro D nD
  refine ⟨fun i m H => m = n - i ∧ i ≤ n ∧ Pv D i H, ⟨_, rfl, Nat.zero_le _, h0 D nD⟩, ?_⟩
  rintro i m H2 ⟨rfl, hi, p⟩
  obtain ⟨k1, k2⟩ := kn i H2 (hG D i H2 hi p)
  by_cases hlt : i < n
  · obtain ⟨go, y⟩ := k1 hlt
    refine .inr ⟨go, Pv D (i + 1), fun H3 p => ⟨n - (i + 1), by omega, rfl, hlt, p⟩, fun x H' yy => ?_⟩
    obtain ⟨q, rfl, nq, rfl⟩ := y x H' yy
    exact hs D i H2 q hlt p nq
  · have e : i = n := by omega
    subst e
    exact .inl ⟨k2 rfl, hd D H2 p⟩
end
/-- a list of tuples (text, number, number) -/
def Kns (H : Hp) (xs : List V) (ws : List (List Nat)) : Prop := xs.length = ws.length ∧ ∀ i, i < ws.length → ∃ (b : Addr) (u v : Int), xs.getD i .non = .ref b ∧ H b = some (.tup [T (ws.getD i []), .int u, .int v])
theorem Kns.nil {H : Hp} : Kns H [] [] := ⟨rfl, fun i hi => absurd hi (by simp)⟩
theorem Kns.same {H H' : Hp} {xs : List V} {ws : List (List Nat)} (h : Kns H xs ws) (s : Same H H') : Kns H' xs ws := ⟨h.1, fun i hi => by
  obtain ⟨b, u, v, e1, e2⟩ := h.2 i hi
  exact ⟨b, u, v, e1, s _ _ e2⟩⟩
theorem Kns.snoc {H : Hp} {xs : List V} {ws : List (List Nat)} (h : Kns H xs ws) {b : Addr} {w : List Nat} {u v : Int} (e : H b = some (.tup [T w, .int u, .int v])) : Kns H (xs ++ [.ref b]) (ws ++ [w]) := by
  obtain ⟨hl, hh⟩ := h
  refine ⟨by simp [hl], fun i hi => ?_⟩
  rw [List.length_append, List.length_singleton] at hi
  by_cases hlt : i < ws.length
  · obtain ⟨b', u', v', e1, e2⟩ := hh i hlt
    refine ⟨b', u', v', ?_, ?_⟩
    · rw [List.getD_eq_getElem?_getD, List.getElem?_append_left (by omega), ← List.getD_eq_getElem?_getD]; exact e1
    · rw [List.getD_eq_getElem?_getD, List.getElem?_append_left hlt, ← List.getD_eq_getElem?_getD]; exact e2
  · have hi2 : i = ws.length := by omega
    subst hi2
    refine ⟨b, u, v, ?_, ?_⟩
    · rw [List.getD_eq_getElem?_getD, ← hl, List.getElem?_concat_length]; rfl
    · rw [List.getD_eq_getElem?_getD, List.getElem?_concat_length]; exact e
theorem Kns.app {H : Hp} {xs ys : List V} {ws us : List (List Nat)} (h : Kns H xs ws) (k : Kns H ys us) : Kns H (xs ++ ys) (ws ++ us) := by
  obtain ⟨hl, hh⟩ := h
  obtain ⟨kl, kk⟩ := k
  refine ⟨by simp [hl, kl], fun i hi => ?_⟩
  rw [List.length_append] at hi
  by_cases hlt : i < ws.length
  · obtain ⟨b', u', v', e1, e2⟩ := hh i hlt
    refine ⟨b', u', v', ?_, ?_⟩
    · rw [List.getD_eq_getElem?_getD, List.getElem?_append_left (by omega), ← List.getD_eq_getElem?_getD]; exact e1
    · rw [List.getD_eq_getElem?_getD, List.getElem?_append_left hlt, ← List.getD_eq_getElem?_getD]; exact e2
  · obtain ⟨b', u', v', e1, e2⟩ := kk (i - ws.length) (by omega)
    refine ⟨b', u', v', ?_, ?_⟩
    · rw [List.getD_eq_getElem?_getD, List.getElem?_append_right (by omega), ← List.getD_eq_getElem?_getD, hl]; exact e1
    · rw [List.getD_eq_getElem?_getD, List.getElem?_append_right (by omega), ← List.getD_eq_getElem?_getD]; exact e2
theorem Kns.keep {H H' : Hp} {xs : List V} {ws : List (List Nat)} (h : Kns H xs ws) (k : ∀ b t, H b = some (.tup t) → H' b = some (.tup t)) : Kns H' xs ws := ⟨h.1, fun i hi => by
  obtain ⟨b, u, v, e1, e2⟩ := h.2 i hi
  exact ⟨b, u, v, e1, k _ _ e2⟩⟩
/-- one more round of a comprehension that writes (text, number, number) -/
theorem Kns.step {H : Hp} {D d e : Addr} {xs : List V} {ws : List (List Nat)} {w : List Nat} {o : HO} {u v : Int} (h : Kns H xs ws) (eD : H D = some (.lst xs)) (nd : H d = none) (ne : upd H d o e = none) :
    upd (upd H d o) e (.tup [T w, .int u, .int v]) D = some (.lst xs) ∧ (∀ c o', c ≠ D → H c = some o' → upd (upd (upd H d o) e (.tup [T w, .int u, .int v])) D (.lst (xs ++ [.ref e])) c = some o') ∧ Kns (upd (upd (upd H d o) e (.tup [T w, .int u, .int v])) D (.lst (xs ++ [.ref e]))) (xs ++ [.ref e]) (ws ++ [w]) := by
  have hed : e ≠ d := by rintro rfl; rw [upd_same] at ne; cases ne
  have ne2 : H e = none := by rwa [upd_ne hed] at ne
  have hDd : D ≠ d := by rintro rfl; rw [nd] at eD; cases eD
  have hDe : D ≠ e := by rintro rfl; rw [ne2] at eD; cases eD
  have k : ∀ c o', c ≠ D → H c = some o' → upd (upd (upd H d o) e (.tup [T w, .int u, .int v])) D (.lst (xs ++ [.ref e])) c = some o' := fun c o' hc ec => by
    have h1 : c ≠ d := by rintro rfl; rw [nd] at ec; cases ec
    have h2 : c ≠ e := by rintro rfl; rw [ne2] at ec; cases ec
    rw [upd_ne hc, upd_ne h2, upd_ne h1]; exact ec
  refine ⟨by rw [upd_ne hDe, upd_ne hDd]; exact eD, k, (h.keep fun b t eb => k _ _ (by rintro rfl; rw [eD] at eb; cases eb) eb).snoc (by rw [upd_ne hDe.symm, upd_same])⟩
/-- a comprehension in a comprehension: it reads no name of the def -/
abbrev sc0 : PySem.Scope := { kind := .function, names := [], isGenerator := false, isCoroutine := false }
theorem blkOk_in {N : List Str} {sc scope : Scope} {own : List (Str × Nat)} (ok : BlkOk N sc0 scope own) : BlkOk N sc scope own :=
  ⟨ok.kind, ok.uniq, ok.ix, fun y hy e => by rcases ok.free y hy e with k | k <;> exact absurd k (by simp), ok.own⟩
/-- the kin of a row, each once: the row turned, and its back turned -/
def kinL (l : List Nat) : List (List Nat) := once (rots l) ++ once (rots (bak l))
theorem kinL_len (l : List Nat) : (kinL l).length ≤ 2 * l.length := by
  have h1 := once_len (rots l)
  have h2 := once_len (rots (bak l))
  rw [rots_len] at h1 h2
  have h3 : (bak l).length = l.length := by simp [bak]
  unfold kinL
  rw [List.length_append]
  omega
end NX
set_option maxHeartbeats 2000000
namespace NX
open PySem PySem.Spec PyProof.Rows L2
/-! ### a caught exception, tracked -/
/-- at a: an exception of the class cls; its dict at d (none: it has none) -/
def ExH (cls : Value) (d : Option Addr) (a : Addr) : HO := .ext fun h => ∃ (oe : Obj) (vs : Array Value), h.get? a = some oe ∧ Zc cls d oe ∧ oe.data = .fields vs
theorem exH_ok {P : Program} {w : World} {H : Hp} {h : Heap} {a : Addr} {cls : Value} {d : Option Addr} {oe : Obj} {vs : Array Value} (e : h.get? a = some oe) (z : Zc cls d oe) (f : oe.data = .fields vs) : ObjOk P w H h a (ExH cls d a) :=
  ⟨⟨oe, vs, e, z, f⟩, ⟨oe, e⟩, fun _ _ ⟨o, v, q, r⟩ k => ⟨o, v, k o q, r⟩⟩
theorem exH_at {P : Program} {w : World} {H : Hp} {h : Heap} {a : Addr} {cls : Value} {d : Option Addr} (hok : HOk P w H h) (e : H a = some (ExH cls d a)) : ∃ (oe : Obj) (vs : Array Value), h.get? a = some oe ∧ Zc cls d oe ∧ oe.data = .fields vs := by
  have x : ObjOk P w H h a (ExH cls d a) := hok a _ e
  exact x.1
theorem track {X : Cx} {pins : List (Addr × Obj)} {σ : L2.St} {H : Hp} {s : Shared} {a : Addr} {o : HO} (I : Inv X pins σ H s) (n0 : X.s_0.heap.get? a = none) (na : H a = none) (nL : a ≠ X.env.locals) (nC : ∀ x c, X.env.cells.lookup x = some c → c ≠ a) (np : ∀ p ∈ X.pn ++ pins, p.1 ≠ a)
    (ok : ObjOk X.prog X.w (upd H a o) s.heap a o) : Inv X pins σ (upd H a o) s :=
  ⟨I.ok, I.os, I.bare, ⟨I.base.keep, I.base.slot, fun b ob e n hx => by
      rw [upd_ne (by rintro rfl; rw [n0] at e; cases e)]; exact I.base.free b ob e n hx, I.base.there,
    fun b xs q => by rw [upd_ne (ne_of_none (I.base.tups b xs q) na)]; exact I.base.tups b xs q,
    fun b ob u q => by rw [upd_ne (ne_of_none (I.base.frzs b ob u q) na)]; exact I.base.frzs b ob u q,
    fun b ps q => by
      obtain ⟨more, e⟩ := I.base.tbls b ps q
      exact ⟨more, by rw [upd_ne (ne_of_none e na)]; exact e⟩⟩, I.loc, I.cell, by rw [upd_ne (Ne.symm nL)]; exact I.free,
    fun x c e => by rw [upd_ne (nC x c e)]; exact I.freeC x c e,
    fun p hp => by
      obtain ⟨e, n, r⟩ := I.pin p hp
      exact ⟨e, by rw [upd_ne (np p hp)]; exact n, r⟩,
    fun b ob e => by
      by_cases hb : b = a
      · subst hb
        rw [upd_same] at e
        cases e
        exact ok
      · rw [upd_ne hb] at e
        exact (I.hok b ob e).stay (fun _ _ _ q => q) (fun c q => by rw [upd_ne (ne_of_none q na)]; exact q) fun c xs q => by rw [upd_ne (ne_of_none q na)]; exact q, I.len⟩
/-! ### try: body, clauses with or without a name; what is caught is tracked -/
def wT (K : PySem.W.Frag) (Wout : WX) (D : Ends) : List (Value × Option Nat × TS) → WX
  | [] => Wout
  | (c, none, ts) :: l => fun cls d σ H => ∃ b, PySem.W.exmOne K cls c = some b ∧ (b = true → ∀ a, H a = none → ts D σ (upd H a (ExH cls d a))) ∧ (b = false → wT K Wout D l cls d σ H)
  | (c, some i, ts) :: l => fun cls d σ H => ∃ b, PySem.W.exmOne K cls c = some b ∧
      (b = true → ∀ a, H a = none → ts { nx := fun σ' H' => D.nx (σ'.set i none) H', rt := D.rt, bk := fun σ' H' => D.bk (σ'.set i none) H', ct := fun σ' H' => D.ct (σ'.set i none) H' } (σ.set i (some (.ref a))) (upd H a (ExH cls d a))) ∧
      (b = false → wT K Wout D l cls d σ H)
inductive HdsT (X : Cx) : List ExceptHandler → List (Value × Option Nat × TS) → Prop
  | nil : HdsT X [] []
  | cons0 {x : Str} {c : Value} {ts : TS} {b₀ : Stmt} {suite : List Stmt} {np pos' : Pos} {hds : List ExceptHandler} {l : List (Value × Option Nat × TS)} (hc : Names X x c)
      (hsu : ∀ (a : Addr) (pn : List (Addr × Obj)), PSs (X.suite a pn) (b₀ :: suite) ts) (r : HdsT X hds l) : HdsT X (.ExceptHandler (some (.Name x np)) none (b₀ :: suite) pos' :: hds) ((c, none, ts) :: l)
  | cons1 {x n : Str} {i : Nat} {c : Value} {ts : TS} {b₀ : Stmt} {suite : List Stmt} {np pos' : Pos} {hds : List ExceptHandler} {l : List (Value × Option Nat × TS)} (hc : Names X x c) (hN : X.N.Nodup) (hi : X.N[i]? = some n) (hln : X.env.kindOf n = some .local)
      (hsu : ∀ (a : Addr) (pn : List (Addr × Obj)), PSs (X.suite a pn) (b₀ :: suite) ts) (r : HdsT X hds l) : HdsT X (.ExceptHandler (some (.Name x np)) (some n) (b₀ :: suite) pos' :: hds) ((c, some i, ts) :: l)
section
variable {X : Cx} {pins : List (Addr × Obj)} {σ : L2.St} {H : Hp} {s : Shared}
theorem toSuite (I : Inv X pins σ H s) (a : Addr) : Inv (X.suite a (X.pn ++ pins)) [] σ H s :=
  ⟨I.ok.suite _ _, I.os, I.bare, I.base, I.loc, I.cell, I.free, I.freeC, fun p hp => I.pin p (by rw [List.append_nil] at hp; exact hp), I.hok, I.len⟩
theorem ofSuite {a : Addr} {pn' : List (Addr × Obj)} (I : Inv (X.suite a (X.pn ++ pins)) pn' σ H s) (ok : X.Ok) : Inv X pins σ H s :=
  ⟨ok, I.os, I.bare, I.base, I.loc, I.cell, I.free, I.freeC, fun p hp => I.pin p (List.mem_append_left _ hp), I.hok, I.len⟩
end
section
variable {X : Cx} {body : List Stmt} {h₀ : ExceptHandler} {hds : List ExceptHandler} {l : List (Value × Option Nat × TS)} {pos : Pos} {tb : WX → TS} {Wout : WX}
theorem ps_tryT (hs : X.stack = X.env :: X.outer) (hf : X.env.frame = some X.env.locals) (hex : X.ex = []) (tk : Takes X Wout)
    (hb : ∀ (W : WX) (pn : List (Addr × Obj)) (xe : Value → Shared → Prop), Takes (X.tr pn xe) W → PassesOwn (model X.prog X.w) X.A X.env xe → PSs (X.tr pn xe) body (tb W))
    (hh : HdsT X (h₀ :: hds) l) : PS X (.Try body (h₀ :: hds) [] [] pos) (fun D σ H => tb (wT X.K Wout D l) D σ H) := by
  refine ⟨fun pins s σ H D I h => ?_⟩
  have ok := I.ok
  have hfr : X.A.frames = some (X.env :: X.outer) := by rw [ok.frames, hs]
  refine wpAny_Try_except ?_
  refine wpAny_mono ((hb (wT X.K Wout D l) (X.pn ++ pins) (fun e s₁ => wpAny (model X.prog X.w) X.A (noteFrame e X.env) (fun _ s₂ => wpAny (model X.prog X.w) X.A (setFlight e none) (fun _ s₃ =>
    wpAny (model X.prog X.w) X.A (handleBy e X.env (h₀ :: hds)) (SP X pins D) X.xe s₃) X.xe s₂) X.xe s₁) (fun u s' xx => ?_) PassesOwn.looking).run [] s σ H D (I.toTry _) h) (fun f s1 hsp => ?_) (fun e s1 he => he)
  · -- the catch
    obtain ⟨a, B, sI, pins', σ', H', cls, d, rfl, J', nb, up, sky, na, os, ag, w⟩ := xx
    have J : Inv X pins σ' H' sI := J'.ofTry ok
    have sky' : Sky B (X.env :: X.outer) a (Zc cls d) X.env.locals s'.heap := by rw [← hs]; exact sky
    show wpAny (model X.prog X.w) X.A (noteFrame (.ref a) X.env) _ _ _
    refine Sky.land Zc.steady hfr hf sky' fun h3 fl3 up3 => ?_
    have J3 : Inv X pins σ' H' { s' with heap := h3 } := J.landed nb fl3.1 (up.trans up3) os ag
    obtain ⟨oe3, vs3, he3, hz3, hd3⟩ := fl3.there
    have notFr : ∀ {h : Heap} {o : Obj} {vs : Array Value}, h.FunFrames B (X.env :: X.outer) → h.get? a = some o → o.data = .fields vs → a ∉ frs (X.env :: X.outer) := fun {h o vs} ff e dd hm => by
      obtain ⟨_, o', e', hnf⟩ := ff.mem hm
      rw [e] at e'; cases e'
      exact hnf _ dd
    have nfr := notFr fl3.2.2.1 he3 hd3
    have nL : a ≠ X.env.locals := fun z => nfr (List.mem_filterMap.mpr ⟨X.env, List.mem_cons_self, by rw [hf, z]⟩)
    have nI : ∀ o, sI.heap.get? a = some o → False := fun o e => by
      have z := nb a o e (by rw [hs]; exact nfr)
      rw [fl3.2.1] at z
      cases z
    have n0 : X.s_0.heap.get? a = none := by
      cases e : X.s_0.heap.get? a with
      | none => rfl
      | some o =>
        obtain ⟨o', e'⟩ := J.base.there a o e (by rw [hex]; exact fun z => nomatch z)
        exact (nI _ e').elim
    have nC : ∀ x c, X.env.cells.lookup x = some c → c ≠ a := fun x c e z => by
      obtain ⟨v, o, e1, _⟩ := J.cell x c e
      rw [z] at e1
      exact nI _ e1
    have np : ∀ p ∈ X.pn ++ pins, p.1 ≠ a := fun p hp z => by
      have e1 := (J.pin p hp).1
      rw [z] at e1
      exact nI _ e1
    have S3 : Inv (X.suite a (X.pn ++ pins)) [] σ' H' { s' with heap := h3 } := toSuite J3 a
    have LT : PySem.W.Looks (model X.prog X.w) h3 (typeOf (.ref a)) cls := fun A Q E s k q => wpAny_typeOf_ref (k _ _ he3) (by rw [hz3.1]; exact q)
    have test : ∀ {x : Str} {c : Value} {np : Pos} {Q : Value → Shared → Prop} {E : Value → Shared → Prop}, Names X x c → Q c { s' with heap := h3 } → wpAny (model X.prog X.w) (X.A.mark (some (.ref a))) (eval (.Name x np) X.env) Q E { s' with heap := h3 } := fun {x c np Q E} hc q => by
      obtain ⟨hg, hdbg, hm | ⟨hm, hv, hnn⟩⟩ := hc
      · exact ld_glob (X := X.suite a (X.pn ++ pins)) S3 hg hm q hdbg
      · exact ld_blt (X := X.suite a (X.pn ++ pins)) S3 hg hm hv q hnn hdbg
    have go : ∀ {hds' : List ExceptHandler} {l' : List (Value × Option Nat × TS)}, HdsT X hds' l' → wT X.K Wout D l' cls d σ' H' →
        wpAny (model X.prog X.w) X.A (handleBy (.ref a) X.env hds') (SP X pins D) X.xe { s' with heap := h3 } := by
      intro hds' l' hk
      induction hk with
      | nil =>
        intro w
        refine wpAny_handleBy_nil ?_
        obtain ⟨k1, k2, k3, oe, vs, T, oT, ts', he, hz, hd, h1, hr⟩ := id fl3
        unfold PySem.passOn
        refine wpAny_bind (wpAny_field he hd h1 ?_)
        rw [if_neg (show ¬ ((Value.ref T == Value.none) = true) from by simp)]
        have fin : wpAny (model X.prog X.w) X.A (setFlight (.ref a) X.env.frame) (fun _ s4 => wpAny (model X.prog X.w) X.A (throw (.ref a) : Sem Flow) (SP X pins D) X.xe s4) X.xe { s' with heap := h3 } := by
          rw [hf]
          refine HandSPX.setFlight_upZ fl3 fun h4 hh4 up4 => wpAny_throw (tk _ _ ?_)
          exact ⟨a, B, sI, pins, σ', H', cls, d, rfl, J, nb, (up.trans up3).trans up4, .inr (.inr (by rw [hs]; exact hh4)), na, os, ag, w⟩
        first
          | exact wpAny_bind (wpAny_pure (wpAny_bind fin))
          | exact wpAny_bind fin
      | @cons0 x c ts b₀ suite np' pos' hds2 l2 hc hsu r ih =>
        intro w
        obtain ⟨b, hb1, hyes, hno⟩ := w
        refine wpAny_handleBy_cons (codeAny_handlers_test ?_) (by intro q; cases q)
        have LM := PySem.W.exm_one (M := model X.prog X.w) (J3.kIn) LT hb1
        refine test hc (LM.here ?_)
        cases b with
        | true =>
          refine codeAny_handlers_suite ?_
          refine HandSPX.lands_againZ fl3 fun h4 fl4 up4 => ?_
          have J4 : Inv X pins σ' H' { s' with heap := h4 } := J.landed nb fl4.1 ((up.trans up3).trans up4) os ag
          obtain ⟨oe4, vs4, he4, hz4, hd4⟩ := fl4.there
          have J5 := track J4 n0 na nL nC np (exH_ok (cls := cls) (d := d) he4 hz4 hd4)
          have S4 := toSuite J5 a
          refine wpAny_mono ((hsu a (X.pn ++ pins)).run [] _ _ _ _ S4 (hyes rfl a na)) (fun f s6 hsp => ?_) (fun _ _ z => False.elim z)
          cases f with
          | next =>
            obtain ⟨σ6, H6, S6, q6⟩ := hsp
            exact ⟨_, _, ofSuite S6 ok, q6⟩
          | brk =>
            obtain ⟨σ6, H6, S6, q6⟩ := hsp
            exact ⟨_, _, ofSuite S6 ok, q6⟩
          | cont =>
            obtain ⟨σ6, H6, S6, q6⟩ := hsp
            exact ⟨_, _, ofSuite S6 ok, q6⟩
          | ret u =>
            obtain ⟨v6, σ6, H6, S6, r6, q6⟩ := hsp
            exact ⟨_, _, _, ofSuite S6 ok, r6, q6⟩
        | false =>
          show wpAny _ X.A (handleBy (.ref a) X.env hds2) _ _ _
          exact ih (hno rfl)
      | @cons1 x n i c ts b₀ suite np' pos' hds2 l2 hc hN hi hln hsu r ih =>
        intro w
        obtain ⟨b, hb1, hyes, hno⟩ := w
        refine wpAny_handleBy_cons (codeAny_handlers_test ?_) (by intro q; cases q)
        have LM := PySem.W.exm_one (M := model X.prog X.w) (J3.kIn) LT hb1
        have hloc : Loc X.env.scope n := .inl hln
        refine test hc (LM.here ?_)
        cases b with
        | true =>
          refine codeAny_handlers_suite_as ?_
          refine HandSPX.lands_againZ fl3 fun h4 fl4 up4 => ?_
          have J4 : Inv X pins σ' H' { s' with heap := h4 } := J.landed nb fl4.1 ((up.trans up3).trans up4) os ag
          obtain ⟨oe4, vs4, he4, hz4, hd4⟩ := fl4.there
          have J5 := track J4 n0 na nL nC np (exH_ok (cls := cls) (d := d) he4 hz4 hd4)
          have S4 := toSuite J5 a
          refine store_ok (X := X.suite a (X.pn ++ pins)) (v := .ref a) S4 hN hi hloc rfl (fun s5 S5 => ?_) (.inr hln)
          refine wpAny_mono ((hsu a (X.pn ++ pins)).run [] s5 _ _ _ S5 (hyes rfl a na)) (fun f s6 hsp => ?_) (fun _ _ z => False.elim z)
          have end_ : ∀ {σ6 : L2.St} {H6 : Hp} {Q : Shared → Prop}, Inv (X.suite a (X.pn ++ pins)) [] σ6 H6 s6 → (∀ s7, Inv X pins (σ6.set i none) H6 s7 → Q s7) →
              wpAny (model X.prog X.w) X.A (do bindName X.env n .none; unbindBehindTheSuite X.env n pos') (fun _ s7 => Q s7) X.xe s6 := fun {σ6 H6 Q} S6 hq => gone_ok (ofSuite S6 ok) hN hi hln hq
          cases f with
          | next =>
            obtain ⟨σ6, H6, S6, q6⟩ := hsp
            exact end_ S6 fun s7 J7 => ⟨_, _, J7, q6⟩
          | brk =>
            obtain ⟨σ6, H6, S6, q6⟩ := hsp
            exact end_ S6 fun s7 J7 => ⟨_, _, J7, q6⟩
          | cont =>
            obtain ⟨σ6, H6, S6, q6⟩ := hsp
            exact end_ S6 fun s7 J7 => ⟨_, _, J7, q6⟩
          | ret u =>
            obtain ⟨v6, σ6, H6, S6, r6, q6⟩ := hsp
            exact end_ S6 fun s7 J7 => ⟨_, _, _, J7, r6, q6⟩
        | false =>
          show wpAny _ X.A (handleBy (.ref a) X.env hds2) _ _ _
          exact ih (hno rfl)
    exact go hh w
  · cases f with
    | next =>
      obtain ⟨σ', H', J', q⟩ := hsp
      exact wpAny_execs_nil ⟨σ', H', J'.ofTry ok, q⟩
    | brk =>
      obtain ⟨σ', H', J', q⟩ := hsp
      exact ⟨σ', H', J'.ofTry ok, q⟩
    | cont =>
      obtain ⟨σ', H', J', q⟩ := hsp
      exact ⟨σ', H', J'.ofTry ok, q⟩
    | ret u =>
      obtain ⟨v, σ', H', J', r, q⟩ := hsp
      exact ⟨v, σ', H', J'.ofTry ok, r, q⟩
end
/-! ### isinstance, also of a tracked exception -/
inductive TyE (K : PySem.W.Frag) (H : Hp) : V → Value → Prop where
  | base {x : V} {t : Value} (h : TyX K H x t) : TyE K H x t
  | frt {a : Addr} {o : Obj} {xs : List V} (e : H a = some (.frz o (.tup xs))) : TyE K H (.ref a) (.type "tuple")
  | exc {a D : Addr} {d : Option Addr} (e : H a = some (ExH (.ref D) d a)) (c : ExcC K D) (dd : ∀ b, d = some b → ∃ fs, H b = some (.xd fs)) : TyE K H (.ref a) (.ref D)
section
variable {X : Cx} {pins : List (Addr × Obj)} {σ : L2.St} {H : Hp} {s : Shared}
theorem inst_of {a D : Addr} {d : Option Addr} (I : Inv X pins σ H s) (e : H a = some (ExH (.ref D) d a)) (dd : ∀ b, d = some b → ∃ fs, H b = some (.xd fs)) : ∃ oe od, PySem.W.InstAt s.heap a oe D od := by
  obtain ⟨oe, vs, h1, h2, h3⟩ := exH_at I.hok e
  cases d with
  | none =>
    refine ⟨oe, none, h1, h2.1, by unfold PySem.W.notCls; rw [h3] <;> rfl, ?_⟩
    rw [h2.2]
    exact True.intro
  | some b =>
    obtain ⟨fs, eb⟩ := dd b rfl
    have hx : ObjOk X.prog X.w H s.heap b (.xd fs) := I.hok b _ eb
    obtain ⟨mA, hns, hr⟩ := hx
    obtain ⟨od, ho, hl⟩ := lookIn_ns hns
    exact ⟨oe, some od, h1, h2.1, by unfold PySem.W.notCls; rw [h3] <;> rfl, by rw [h2.2]; exact ho⟩
theorem kit_ofE {x : V} {u t : Value} (I : Inv X pins σ H s) (rx : RelV x u) (ty : TyE X.K H x t) : ∃ P : Heap → Prop, PySem.W.KitX X.K u t P ∧ P s.heap ∧ u ≠ .builtin "__main__.__loader__#opaque" := by
  cases ty with
  | base h => exact kit_of I rx h
  | @frt a ob xs ea =>
    cases (show u = Value.ref a from rx)
    obtain ⟨_, _, _, _, p⟩ := (show ObjOk X.prog X.w H s.heap a (.frz ob (.tup xs)) from I.hok a _ ea)
    obtain ⟨o, h1, h2, _⟩ := p
    exact ⟨_, PySem.W.kitx_tuple, ⟨o, h1, h2⟩, fun z => nomatch z⟩
  | @exc a D d e c dd =>
    cases (show u = Value.ref a from rx)
    obtain ⟨oe, od, J⟩ := inst_of I e dd
    obtain ⟨cd, hc, _⟩ := PySem.W.any_some c.hd
    exact ⟨_, PySem.W.kitx_exc (od := od) (ox := oe) (by rw [hc]; rfl) c.hg c.hk c.hs c.ha c.hn c.ht c.hm, J, fun z => nomatch z⟩
def rIsX (K : PySem.W.Frag) : List V → Hp → VK → Prop := fun xs H Q =>
  (∃ (x c : V) (t u : Value) (b : Bool), xs = [x, c] ∧ ClsV c u ∧ TyE K H x t ∧ PySem.W.kitOne K t u = some b ∧ Q (.bl b) H) ∨
  ∃ (x : V) (tp : Addr) (cs : List V) (t : Value) (us : List Value) (b : Bool), xs = [x, .ref tp] ∧ H tp = some (.tup cs) ∧ Paired ClsV cs us ∧ TyE K H x t ∧ PySem.W.kitAny K t us = some b ∧ Q (.bl b) H
theorem call_isX : CallR X (.builtin "isinstance") (rIsX X.K) := by
  intro pins s σ H xs us Q I r h
  rcases h with ⟨x, c, t, u, b, rfl, k, ty, e, q⟩ | ⟨x, tp, cs, t, ws, b, rfl, hT, k, ty, e, q⟩
  · obtain ⟨u1, u2, rfl, r1, r2⟩ := vals2 r
    have e2 := k.eq r2
    subst e2
    obtain ⟨P, Z, p, hx⟩ := kit_ofE I r1 ty
    exact PySem.W.kia_one Z I.kIn p e hx fun tk => ⟨.bl b, H, I.tok tk, rfl, q⟩
  · obtain ⟨u1, u2, rfl, r1, r2⟩ := vals2 r
    cases (show u2 = Value.ref tp from r2)
    obtain ⟨P, Z, p, hx⟩ := kit_ofE I r1 ty
    obtain ⟨_, its, rv, o, h1, h2, n, h3⟩ := (show ObjOk X.prog X.w H s.heap tp (.tup cs) from I.hok tp _ hT)
    have e3 := ClsV.all k rv
    subst e3
    obtain ⟨oc, od, dt, sl⟩ := o
    simp only at h2 h3
    subst h2 h3
    exact PySem.W.kia_tup Z I.kIn p h1 e hx fun tk => ⟨.bl b, H, I.tok tk, rfl, q⟩
theorem call_isXK (K : PySem.W.Frag) (hK : X.K = K := by rfl) : CallR X (.builtin "isinstance") (rIsX K) := hK ▸ call_isX
end
/-! ### a field of a tracked exception -/
def XfJ (K : PySem.W.Frag) (f : Str) (Q : VK) (x : V) (H1 : Hp) : Prop := ∃ (a D dd : Addr) (fs : List (Str × V)) (v : V), x = .ref a ∧ H1 a = some (ExH (.ref D) (some dd) a) ∧ XfC K D ∧ PySem.W.findIn K (.ref D) f = some none ∧ H1 dd = some (.xd fs) ∧ fs.lookup f = some v ∧ Q v H1
def tXF (K : PySem.W.Frag) (f : Str) (te : TE) : TE := fun σ H Q => te σ H (XfJ K f Q)
theorem pe_xfT {X : Cx} (K : PySem.W.Frag) {e : Expr} {te : TE} {pos : Pos} {n : Str} (he : PE X e te) (hb : attributeBase e n X.env (eval e X.env) = eval e X.env := by rfl) (hK : X.K = K := by rfl) : PE X (.Attribute e n pos) (tXF K n te) := by
  subst hK
  refine ⟨fun pins s σ H Q I h => ?_⟩
  refine attr_of hb (thn (he.run pins s σ H _ I h) fun u s1 hh => ?_)
  obtain ⟨x, H1, I1, rx, a, D, dd, fs, v, ex, ea, T, hno, ed, l, q⟩ := hh
  subst ex
  obtain rfl : u = Value.ref a := rx
  obtain ⟨oe, vs, h1, h2, h3⟩ := exH_at I1.hok ea
  have hx : ObjOk X.prog X.w H1 s1.heap dd (.xd fs) := I1.hok dd _ ed
  obtain ⟨mA, hns, hr⟩ := hx
  obtain ⟨od, ho, hl⟩ := lookIn_ns hns
  obtain ⟨u, hu, ru⟩ := RelO.some_of (v := v) (o := mA n) (by rw [← l]; exact hr n)
  have J : PySem.W.InstAt s1.heap a oe D (some od) := ⟨h1, h2.1, by unfold PySem.W.notCls; rw [h3] <;> rfl, by rw [h2.2]; exact ho⟩
  exact HandSPX.exc_get I1.kIn J T.ga T.gg T.exC (PySem.W.findObj_own T.hdC hno rfl (by rw [hl, hu])) (handed_of ru) ⟨v, H1, I1.tok _, ru, q⟩
end NX
set_option maxHeartbeats 2000000
namespace NX
open PySem PySem.Spec PyProof.Rows L2
/-! ### defs that may raise (FnG with CX) -/
section
variable {P : Program} {w : World} {K : PySem.W.Frag} {mg : Str → Option Value} {base : Heap} {k : Nat} {f : Addr}
theorem funGX {x qual : Str} {st : Stmt} {fd : FuncData} {N ps : List Str} {sp : Sp} (F : Fun K x qual st f fd) (S : FnScope N ps (defScope st)) (len : ∀ vs H Q E, sp vs H Q E → vs.length = ps.length)
    (hbody : ∀ (cdv : Value) (A : Around) (outer : List Env) (s : Shared) (H : Hp) (vs : List V) (Q : VK) (E : XK), (A.deeper (envOfC qual (defScope st) s.heap.objs.size f cdv)).guards = some [] → Room k (A.deeper (envOfC qual (defScope st) s.heap.objs.size f cdv)) → sp vs H Q E →
      ∃ t, PSs (cxOf (L2.CX P w) P w K mg base N qual (defScope st) f cdv A outer s H E) (defBody st) t ∧ t { nx := fun _ H' => Q .non H', rt := Q } (L2.start N vs) H) : FnG P w K mg base (L2.CX P w) (k + 1) f fd ps sp := by
  obtain ⟨oc, od, kV, doc, pm, an, cdv, ct, osl, rfl, lk, hcd⟩ := F.ex
  exact fnG_of lk hcd S len fun A outer s H vs Q E hgu hr hsp => hbody cdv A outer s H vs Q E hgu hr hsp
theorem funDGX {x qual : Str} {st : Stmt} {dvs : List V} {kws : List (Str × V)} {fd : FuncData} {N ps : List Str} {sp : Sp} (F : FunD K x qual (defArgs st) (defBody st) (defScope st) dvs kws f fd) (S : FnScope N ps (defScope st)) (len : ∀ vs H Q E, sp vs H Q E → vs.length = ps.length)
    (hbody : ∀ (cdv : Value) (A : Around) (outer : List Env) (s : Shared) (H : Hp) (vs : List V) (Q : VK) (E : XK), (A.deeper (envOfC qual (defScope st) s.heap.objs.size f cdv)).guards = some [] → Room k (A.deeper (envOfC qual (defScope st) s.heap.objs.size f cdv)) → sp vs H Q E →
      ∃ t, PSs (cxOf (L2.CX P w) P w K mg base N qual (defScope st) f cdv A outer s H E) (defBody st) t ∧ t { nx := fun _ H' => Q .non H', rt := Q } (L2.start N vs) H) : FnG P w K mg base (L2.CX P w) (k + 1) f fd ps sp := by
  obtain ⟨oc, od, dV, kV, doc, pm, an, cdv, ct, osl, rfl, lk, hcd, _, _⟩ := F.ex
  exact fnG_of lk hcd S len fun A outer s H vs Q E hgu hr hsp => hbody cdv A outer s H vs Q E hgu hr hsp
end
theorem passS {X : Cx} {W : WX} (tk : Takes X W) (σ : L2.St) : PassesAt (L2.CX X.prog X.w) X σ (WE W σ) := passAt tk σ
section
variable {X : Cx} {CX : CXT} {k : Nat} {f C : Addr} {fd : FuncData} {ps ks : List Str} {sp : Sp} {dvs : List V} {ds : List Value} {E : L2.St → XK} {x m : Str} {p pos apos : Pos} {e o : Expr} {es : List Expr} {ta : TE} {t tk : TA} {kws : List Keyword} {g : List Value → List Value → List Value} {gV : List V → List V → List V}
theorem run_fnGS {pins : List (Addr × Obj)} {σ : L2.St} {H : Hp} {s : Shared} {Q : VK} {us : List Value} {vs : List V} (F : FnG X.prog X.w X.K X.mg X.base CX k f fd ps sp) (hgu : X.A.guards = some []) (hr : Room k X.A) (hb : Binds X.K fd ps ds) (hd : Vals dvs ds) (hx : PassesAt CX X σ (E σ))
    (I : Inv X pins σ H s) (r : Vals vs us) (h : sp (vs ++ dvs) H Q (E σ)) : wpAny (model X.prog X.w) X.A (call (.ref f) us) (EP X pins σ Q) X.xe s := by
  have r2 : Vals (vs ++ dvs) (us ++ ds) := r.append hd
  have hl : (us ++ ds).length = ps.length := by rw [← r2.length]; exact F.len _ _ _ _ h
  refine wpAny_call (codeAny_mono (F.run X.A X.stack s H ⟨us, []⟩ (us ++ ds) (vs ++ dvs) Q (E σ) hgu hr I.env0 (hb s us I.kIn hl) r2 h) fun r s' hq => ?_)
  cases r with
  | error e => exact hx pins H s e s' I hq
  | ok fl =>
    cases fl with
    | ret u => exact I.after hq
    | next => exact False.elim hq
    | brk => exact False.elim hq
    | cont => exact False.elim hq
def tCallX (sp : Sp) (dvs : List V) (E : L2.St → XK) (t : TA) : TE := fun σ H Q => t σ H fun vs H1 => sp (vs ++ dvs) H1 Q (E σ)
theorem pe_callX (hgu : X.A.guards = some []) (F : FnG X.prog X.w X.K X.mg X.base CX k f fd ps sp) (hr : Room k X.A) (hg : Gl X x) (hm : X.mg x = some (.ref f)) (hk : PySem.W.keepIn X.K (.ref f) = true) (hb : Binds X.K fd ps ds) (hd : Vals dvs ds) (hx : ∀ σ, PassesAt CX X σ (E σ))
    (ha : PA X (e :: es) t) (hdb : (x == ("__debug__" : Str)) = false := by decide) (he : starEach (e :: es) X.env = (false, eval e X.env) :: starEach es X.env := by rfl) (hpl : (backTo pos (starEach es X.env)).any (·.1) = false := by rfl) :
    PE X (.Call (.Name x p) (e :: es) [] pos) (tCallX sp dvs E t) := by
  refine ⟨fun pins s σ H Q I h => ?_⟩
  refine wpAny_Call_Name_kw (ld_glob I hg hm ?_ hdb)
  refine PySem.W.callWith_K (h₀ := X.base) I.ok.mod.kin hk (thn (ha.run pos pins s σ H _ I h) fun us s1 ⟨vs, H1, I1, r, q⟩ => ⟨I1.kIn, ?_⟩) he hpl
  exact run_fnGS F hgu hr hb hd (hx σ) I1 r q
theorem pe_call0X (hgu : X.A.guards = some []) (F : FnG X.prog X.w X.K X.mg X.base CX k f fd ps sp) (hr : Room k X.A) (hg : Gl X x) (hm : X.mg x = some (.ref f)) (hk : PySem.W.keepIn X.K (.ref f) = true) (hb : Binds X.K fd ps ds) (hd : Vals dvs ds) (hx : ∀ σ, PassesAt CX X σ (E σ))
    (hdb : (x == ("__debug__" : Str)) = false := by decide) : PE X (.Call (.Name x p) [] [] pos) (tCallX sp dvs E tNil) := by
  refine ⟨fun pins s σ H Q I h => ?_⟩
  refine wpAny_Call_Name_kw (ld_glob I hg hm ?_ hdb)
  exact PySem.W.callWith_K0 I.kIn hk (run_fnGS (us := []) F hgu hr hb hd (hx σ) I .nil h)
def tCallKwX (sp : Sp) (gV : List V → List V → List V) (E : L2.St → XK) (tk : TA) : TE := fun σ H Q => tk σ H fun zs H2 => sp (gV [] zs) H2 Q (E σ)
theorem pe_callKwX (hgu : X.A.guards = some []) (F : FnG X.prog X.w X.K X.mg X.base CX k f fd ps sp) (hr : Room k X.A) (hg : Gl X x) (hm : X.mg x = some (.ref f)) (hk : PySem.W.keepIn X.K (.ref f) = true) (hb : KBinds X.K fd ps ks g gV) (hx : ∀ σ, PassesAt CX X σ (E σ))
    (hkw : PK X kws tk) (hall : (backToKw pos (keywordEach kws X.env)).all (·.1.isSome) = true := by rfl) (hks : (backToKw pos (keywordEach kws X.env)).filterMap (·.1) = ks := by rfl)
    (hdb : (x == ("__debug__" : Str)) = false := by decide)
    (hpl : ((backTo pos (starEach [] X.env)).any (·.1) || (backToKw pos (keywordEach kws X.env)).any (·.1.isNone)) = false := by rfl) :
    PE X (.Call (.Name x p) [] kws pos) (tCallKwX sp gV E tk) := by
  refine ⟨fun pins s σ H Q I h => ?_⟩
  refine wpAny_Call_Name_kw (ld_glob I hg hm ?_ hdb)
  refine PySem.W.callWith_KW0 (h₀ := X.base) I.ok.mod.kin hk hall ?_ hpl
  refine thn (hkw.run pos pins s σ H _ I h) fun ws s2 ⟨zs, H2, I2, rz, q2⟩ => ⟨I2.kIn, ?_⟩
  rw [hks]
  have r2 := hb.rel (us := []) (vs := []) .nil rz
  have hl : (g [] ws).length = ps.length := by rw [← r2.length]; exact F.len _ _ _ _ q2
  refine wpAny_call (codeAny_mono (F.run X.A X.stack s2 H2 ⟨[], ks.zip ws⟩ (g [] ws) (gV [] zs) Q (E σ) hgu hr I2.env0 (hb.to s2 [] ws I2.kIn hl) r2 q2) fun r s' hq => ?_)
  cases r with
  | error e => exact hx σ pins H2 s2 e s' I2 hq
  | ok fl =>
    cases fl with
    | ret u => exact I2.after hq
    | next => exact False.elim hq
    | brk => exact False.elim hq
    | cont => exact False.elim hq
/-- methods -/
def tMethX (C : Addr) (m : Str) (sp : Sp) (dvs : List V) (E : L2.St → XK) (ta : TE) (t : TA) : TE := fun σ H Q => ta σ H (MethJ C m sp dvs (E σ) t σ Q)
theorem pe_methX (hgu : X.A.guards = some []) {pl : Sem Bool} (he : PE X o ta) (c : Cls X.K C) (hm : Meth X.K C m f) (F : FnG X.prog X.w X.K X.mg X.base CX k f fd ps sp) (hr : Room k X.A) (hb : Binds X.K fd ps ds) (hd : Vals dvs ds) (hx : ∀ σ, PassesAt CX X σ (E σ)) (ha : PA X (e :: es) t)
    (hst : starEach (e :: es) X.env = (false, eval e X.env) :: starEach es X.env := by rfl) (hpl : (backTo pos (starEach es X.env)).any (·.1) = false := by rfl)
    (ht : eval (.Call (.Attribute o m apos) (e :: es) [] pos) X.env = (do
      let ov ← eval o X.env
      standAt apos.atName
      let (f, first) ← holding [ov] (getMethod ov m pl)
      callWith pos f first (backTo pos (starEach (e :: es) X.env)) (backToKw pos (keywordEach [] X.env))) := by rfl) :
    PE X (.Call (.Attribute o m apos) (e :: es) [] pos) (tMethX C m sp dvs E ta t) := by
  refine ⟨fun pins s σ H Q I h => ?_⟩
  refine PySem.W.methodCall_KW (pl := pl) (thn (he.run pins s σ H _ I h) fun u s1 ⟨x, H1, I1, rx, a, dx, fs, ex, ea, l, q⟩ => ?_) ht
  subst ex
  obtain rfl : u = Value.ref a := rx
  refine getmeth_ok I1 ea c hm l ?_
  refine PySem.W.callWith_K (first := [.ref a]) (h₀ := X.base) I.ok.mod.kin hm.kp (thn (ha.run pos pins s1 σ H1 _ I1 q) fun us s2 ⟨vs, H2, I2, r, q2⟩ => ⟨I2.kIn, ?_⟩) hst hpl
  exact run_fnGS (us := .ref a :: us) (vs := .ref a :: vs) F hgu hr hb hd (hx σ) I2 (.cons rfl r) q2
theorem pe_meth0X (hgu : X.A.guards = some []) {pl : Sem Bool} (he : PE X o ta) (c : Cls X.K C) (hm : Meth X.K C m f) (F : FnG X.prog X.w X.K X.mg X.base CX k f fd ps sp) (hr : Room k X.A) (hb : Binds X.K fd ps ds) (hd : Vals dvs ds) (hx : ∀ σ, PassesAt CX X σ (E σ))
    (ht : eval (.Call (.Attribute o m apos) [] [] pos) X.env = (do
      let ov ← eval o X.env
      standAt apos.atName
      let (f, first) ← holding [ov] (getMethod ov m pl)
      callWith pos f first (backTo pos (starEach [] X.env)) (backToKw pos (keywordEach [] X.env))) := by rfl) :
    PE X (.Call (.Attribute o m apos) [] [] pos) (tMethX C m sp dvs E ta tNil) := by
  refine ⟨fun pins s σ H Q I h => ?_⟩
  refine PySem.W.methodCall_KW (pl := pl) (thn (he.run pins s σ H _ I h) fun u s1 ⟨x, H1, I1, rx, a, dx, fs, ex, ea, l, q⟩ => ?_) ht
  subst ex
  obtain rfl : u = Value.ref a := rx
  refine getmeth_ok I1 ea c hm l ?_
  exact PySem.W.callWith_K0 (first := [.ref a]) I1.kIn hm.kp (run_fnGS (us := [.ref a]) (vs := [.ref a]) F hgu hr hb hd (hx σ) I1 (.cons rfl .nil) q)
/-- C(e, ..) -/
theorem run_makeGS {pins : List (Addr × Obj)} {σ : L2.St} {H : Hp} {s : Shared} {Q : VK} {us : List Value} {vs : List V} (hgu : X.A.guards = some []) (M : Mk X.K C f) (F : FnG X.prog X.w X.K X.mg X.base CX k f fd ps sp) (hr : Room (k + 1) X.A) (hb : Binds X.K fd ps ds) (hd : Vals dvs ds)
    (hx : PassesAt CX X σ (E σ)) (I : Inv X pins σ H s) (r : Vals vs us)
    (h : ∀ x dx, H x = none → H dx = none → dx ≠ x → sp (.ref x :: (vs ++ dvs)) (upd (upd H dx (.own x)) x (.ins C dx [])) (fun v H2 => v = .non ∧ Q (.ref x) H2) (E σ)) :
    wpAny (model X.prog X.w) X.A (call (.ref C) us) (EP X pins σ Q) X.xe s := by
  have hq := h (s.heap.objs.size + 1) s.heap.objs.size (I.hok.fresh (Nat.le_succ _)) (I.hok.fresh (Nat.le_refl _)) (Nat.ne_of_lt (Nat.lt_succ_self _))
  have I2 := Inv.made (C := C) I
  have r2 : Vals (V.ref (s.heap.objs.size + 1) :: (vs ++ dvs)) (Value.ref (s.heap.objs.size + 1) :: (us ++ ds)) := .cons rfl (r.append hd)
  have hl : (Value.ref (s.heap.objs.size + 1) :: us ++ ds).length = ps.length := by
    have e := r2.length
    rw [F.len _ _ _ _ hq] at e
    exact e.symm
  refine wpAny_call (make_map (f := f) I.kIn M.makes M.init (beq_iff_eq.mp M.fn) (codeAny_mono (F.run _ X.stack _ _ ⟨Value.ref (s.heap.objs.size + 1) :: us, []⟩ (Value.ref (s.heap.objs.size + 1) :: (us ++ ds)) _ _ (E σ) ?_ (hr.make C us [])
    (I2.env0.make C us []) (hb _ (Value.ref (s.heap.objs.size + 1) :: us) I2.kIn hl) r2 hq) fun r s' hq' => ?_))
  · have h1 : (Code.builtin "type.__call__" ⟨Value.ref C :: us, []⟩).guards = [] := by
      have h2 : (Code.builtin "type.__call__" ⟨Value.ref C :: us, []⟩).isGuard = false := (by decide +kernel : guardIds.contains "type.__call__" = false)
      unfold Code.guards
      rw [h2]; rfl
    unfold Around.under
    simp only [h1, pushGuards]
    exact hgu
  cases r with
  | error e => exact hx pins _ _ e s' I2 hq'
  | ok fl =>
    cases fl with
    | ret u =>
      obtain ⟨v, H', I3, rv, ev, q3⟩ := I2.after hq'
      subst ev
      exact ⟨rv, ⟨V.ref (s.heap.objs.size + 1), H', I3, rfl, q3⟩⟩
    | next => exact False.elim hq'
    | brk => exact False.elim hq'
    | cont => exact False.elim hq'
def tMakeX (C : Addr) (sp : Sp) (dvs : List V) (E : L2.St → XK) (t : TA) : TE := fun σ H Q => t σ H fun vs H1 => ∀ x dx, H1 x = none → H1 dx = none → dx ≠ x → sp (.ref x :: (vs ++ dvs)) (upd (upd H1 dx (.own x)) x (.ins C dx [])) (fun v H2 => v = .non ∧ Q (.ref x) H2) (E σ)
theorem pe_makeX (hgu : X.A.guards = some []) (M : Mk X.K C f) (F : FnG X.prog X.w X.K X.mg X.base CX k f fd ps sp) (hr : Room (k + 1) X.A) (hg : Gl X x) (hm : X.mg x = some (.ref C)) (hb : Binds X.K fd ps ds) (hd : Vals dvs ds) (hx : ∀ σ, PassesAt CX X σ (E σ))
    (ha : PA X (e :: es) t) (hdb : (x == ("__debug__" : Str)) = false := by decide) (he : starEach (e :: es) X.env = (false, eval e X.env) :: starEach es X.env := by rfl) (hpl : (backTo pos (starEach es X.env)).any (·.1) = false := by rfl) :
    PE X (.Call (.Name x p) (e :: es) [] pos) (tMakeX C sp dvs E t) := by
  refine ⟨fun pins s σ H Q I h => ?_⟩
  refine wpAny_Call_Name_kw (ld_glob I hg hm ?_ hdb)
  refine PySem.W.callWith_K (h₀ := X.base) I.ok.mod.kin M.kp (thn (ha.run pos pins s σ H _ I h) fun us s1 ⟨vs, H1, I1, r, q⟩ => ⟨I1.kIn, ?_⟩) he hpl
  exact run_makeGS hgu M F hr hb hd (hx σ) I1 r q
end
/-! ### raising -/
/-- what a class of exceptions without an own __init__ must have -/
structure XcC (K : PySem.W.Frag) (C : Addr) : Prop where
  x : PySem.W.excIn K C [.type "ValueError", .type "Exception", .type "BaseException", .type "object"] "ValueError.__new__" = true
  k : PySem.W.keepIn K (.ref C) = true
  b : PySem.W.subIn K (.ref C) (.type "BaseException") = some true
  t : PySem.W.typeIn K (.ref C) = some (.type "type")
def cA (K : PySem.W.Frag) (x : Str) : Addr := match PySem.W.nsIn K mainGlobals x with | some (some (.ref C)) => C | _ => 0
theorem cA_eq {K : PySem.W.Frag} {x : Str} {C : Addr} (h : PySem.W.nsIn K mainGlobals x = some (some (.ref C))) : cA K x = C := by unfold cA; rw [h]
def tRz (C : Addr) (W : WX) (t : TA) : TS := fun _ σ H => t σ H fun vs H1 => vs.length ≤ sizeLine ∧ W (.ref C) none σ H1
section
variable {X : Cx} {W : WX} {x : Str} {p pos pos2 : Pos} {e : Expr} {es : List Expr} {t : TA} {C : Addr}
theorem ps_rz (hc : X.calm = true) (tk : Takes X W) (c : XcC X.K C) (gC : X.mg x = some (.ref C)) (hg : Gl X x) (ha : PA X (e :: es) t) (hdb : (x == ("__debug__" : Str)) = false := by decide)
    (he : starEach (e :: es) X.env = (false, eval e X.env) :: starEach es X.env := by rfl) (hpl : (backTo pos (starEach es X.env)).any (·.1) = false := by rfl) :
    PS X (.Raise (some (.Call (.Name x p) (e :: es) [] pos)) none pos2) (tRz C W t) :=
  ps_raise hc tk (pmk_ownA F.excBase_ValueError c.x gC c.k (raises_own c.b c.t) hg ha hdb he hpl)
theorem r_rz {D : Ends} {σ : L2.St} {H : Hp} (h : t σ H fun vs H1 => vs.length ≤ sizeLine ∧ W (.ref C) none σ H1) : tRz C W t D σ H := h
end
/-! ### RowError.__init__(self, ..), R a class of one's own over ValueError without __init__ -/
structure RiC (K : PySem.W.Frag) (R : Addr) : Prop where
  rd : PySem.W.readsIn K R (.type "type") = true
  ga : PySem.W.specialIn K (.ref R) "__getattribute__" = some (some (.builtin "type.__getattribute__"))
  at_ : PySem.W.findCls K (.ref R) (.type "type") "__init__" = some (.val (.builtin "ValueError.__init__"))
section
variable {X : Cx} {x : Str} {p1 p2 pos : Pos} {e : Expr} {es : List Expr} {ta : TA} {R : Addr}
theorem pe_rinit {pl : Sem Bool} (K : PySem.W.Frag) (c : RiC K R) (hg : Gl X x) (hm : X.mg x = some (.ref R)) (ha : PA X (e :: es) ta)
    (hc : eval (.Call (.Attribute (.Name x p1) "__init__" p2) (e :: es) [] pos) X.env = (do
      let ov ← eval (.Name x p1) X.env
      standAt p2.atName
      let (f, first) ← holding [ov] (getMethod ov "__init__" pl)
      callWith pos f first (backTo pos (starEach (e :: es) X.env)) (backToKw pos (keywordEach [] X.env))) := by rfl) (hdb : (x == ("__debug__" : Str)) = false := by decide)
    (he : starEach (e :: es) X.env = (false, eval e X.env) :: starEach es X.env := by rfl) (hpl : (backTo pos (starEach es X.env)).any (·.1) = false := by rfl) (hK : X.K = K := by rfl) :
    PE X (.Call (.Attribute (.Name x p1) "__init__" p2) (e :: es) [] pos) (tVeI K ta) := by
  subst hK
  refine ⟨fun pins s σ H Q I h => ?_⟩
  refine PySem.W.methodCall_KW (ld_glob I hg hm ?_ hdb) hc
  refine PySem.W.method_cls I.kIn c.ga (PySem.W.cls_value I.kIn c.rd c.at_ (by decide +kernel) ?_)
  show wpAny _ _ (callWith pos (Value.builtin "ValueError.__init__") [] (backTo pos (starEach (e :: es) X.env)) []) _ _ _
  refine PyProof.Rows.callWith_method1 (thn (ha.run pos pins _ σ H _ (I.tok _) h) fun us s1 ⟨vs, H1, I1, r1, a, C, ws, ev, hl, T, ea, q⟩ => ?_) he hpl
  subst ev
  cases r1 with
  | @cons _ u0 _ ur ra rw' =>
    obtain rfl : u0 = Value.ref a := ra
    have hlen : ur.length ≤ sizeLine := by
      rw [← Paired.length rw', sizeLine_eq]
      omega
    exact oinit_ok T I1 ea hlen fun s' J => ⟨.non, H1, J, rfl, q⟩
end
/-- the promise of such an __init__(self, i), i an int: field f holds it -/
def spXI (C : PySem.W.Frag → Addr) (f : Str) (K : PySem.W.Frag) : Sp := fun vs H Q _ => ∃ (x : Addr) (i : Int), vs = [.ref x, .int i] ∧ (0 ≤ i ∧ i < 2 ^ 60) ∧ H x = some (exo x (C K) none) ∧
  ∀ d, H d = none → d ≠ x → Q .non (upd (upd H d (exd d [(f, .int i)])) x (exo x (C K) (some d)))
/-- raise C(i), C's __init__ keeping spXI -/
def tRi (C : Addr) (f : Str) (W : WX) (t : TA) : TS := fun _ σ H => t σ H fun vs H1 => ∃ i : Int, vs = [.int i] ∧ (0 ≤ i ∧ i < 2 ^ 60) ∧ ∀ d, H1 d = none → W (.ref C) (some d) σ (upd H1 d (.xd [(f, .int i)]))
/-- a reading that bears a weaker wish -/
def tMono (t : TA) : TA := fun σ H Q => ∃ Q0 : List V → Hp → Prop, t σ H Q0 ∧ ∀ vs H', Q0 vs H' → Q vs H'
theorem pa_mono {X : Cx} {es : List Expr} {t : TA} (h : PA X es t) : PA X es (tMono t) := ⟨fun pos pins s σ H Q I hh => by
  obtain ⟨Q0, q, k⟩ := hh
  exact thn (h.run pos pins s σ H Q0 I q) fun us s1 ⟨vs, H1, I1, r1, q1⟩ => ⟨vs, H1, I1, r1, k _ _ q1⟩⟩
section
variable {X : Cx} {W : WX} {x f : Str} {p pos pos2 : Pos} {e : Expr} {es : List Expr} {t : TA} {fI : Addr} {k : Nat} {fd : FuncData} {ps : List Str} {C : Addr} {CF : PySem.W.Frag → Addr}
theorem ps_ri (hc : X.calm = true) (tk : Takes X W) (T : OexC X.K C) (iC : PySem.W.findIn X.K (.ref C) "__init__" = some (some (.ref fI))) (tI : PySem.W.typeIn X.K (.ref fI) = some (.type "function"))
    (F1 : FnOk X.prog X.w X.K X.mg X.base CX0 k fI fd ps (spXI CF f X.K)) (eC : CF X.K = C) (hr : Room (k + 1) X.A) (hb : Binds X.K fd ps []) (hg : Gl X x) (hm : X.mg x = some (.ref C)) (ha : PA X (e :: es) t)
    (hdb : (x == ("__debug__" : Str)) = false := by decide) (he : starEach (e :: es) X.env = (false, eval e X.env) :: starEach es X.env := by rfl) (hpl : (backTo pos (starEach es X.env)).any (·.1) = false := by rfl) :
    PS X (.Raise (some (.Call (.Name x p) (e :: es) [] pos)) none pos2) (tRi C f W t) := by
  refine ⟨fun pins s σ H D I h => ?_⟩
  refine (ps_raise hc tk (pmk_oex (CX := CX0) T iC tI F1 hr hb .nil (fun _ _ _ _ _ _ _ z => z.elim) hg hm (pa_mono ha) hdb he hpl)).run pins s σ H D I ?_
  refine ⟨_, h, fun vs H1 hq => ?_⟩
  obtain ⟨i, rfl, hi, q⟩ := hq
  refine ⟨by show 1 ≤ 1000; decide, fun a na => ?_⟩
  refine ⟨a, i, rfl, hi, by rw [upd_same, eC], fun d nd hda => ⟨rfl, d, [(f, .int i)], ?_, ?_, ?_, ?_⟩⟩
  · rw [upd_same, eC]
  · rw [upd_ne hda, upd_same]
  · rwa [upd_ne hda] at nd
  · have nd1 : H1 d = none := by rwa [upd_ne hda] at nd
    have e2 : upd (del (upd (upd (upd H1 a (exo a C none)) d (exd d [(f, .int i)])) a (exo a (CF X.K) (some d))) a) d (.xd [(f, .int i)]) = upd H1 d (.xd [(f, .int i)]) := by
      funext b
      by_cases hb : b = d
      · rw [hb, upd_same, upd_same]
      · rw [upd_ne hb, upd_ne hb]
        by_cases hba : b = a
        · rw [hba, del_same, na]
        · rw [del_ne hba, upd_ne hba, upd_ne hb, upd_ne hba]
    rw [e2]
    exact q d nd1
theorem r_ri {D : Ends} {σ : L2.St} {H : Hp} (h : t σ H fun vs H1 => ∃ i : Int, vs = [.int i] ∧ (0 ≤ i ∧ i < 2 ^ 60) ∧ ∀ d, H1 d = none → W (.ref C) (some d) σ (upd H1 d (.xd [(f, .int i)]))) : tRi C f W t D σ H := h
end
/-- values that are no text -/
def NotS (K : PySem.W.Frag) (H : Hp) (v : V) : Prop := ∃ t, TyX K H v (.type t) ∧ kitB t "str" = some false
end NX
namespace NX
open PySem PySem.Spec PyProof.Rows L2
/-- what is asked of a class of exceptions -/
structure XcA (K : PySem.W.Frag) (C : Addr) : Prop where
  b : PySem.W.subIn K (.ref C) (.type "BaseException") = some true
  t : PySem.W.typeIn K (.ref C) = some (.type "type")
  k : PySem.W.keepIn K (.ref C) = true
  d : PySem.W.hasDictIn K C = true
  v : PySem.W.subIn K (.ref C) (.type "ValueError") = some true
  hg : PySem.W.findIn K (.ref C) "__getattribute__" = some (some (.builtin "BaseException.__getattribute__"))
  hk : PySem.W.findIn K (.ref C) "__getattr__" = some none
  ha : PySem.W.findIn K (.ref C) "__class__" = some (some (.builtin "object.__class__"))
  hn : PySem.W.specialIn K (.builtin "object.__class__") "__get__" = some (some (.builtin "getset_descriptor.__get__"))
  ht : PySem.W.takesIn K (.builtin "object.__class__") = some true
  hm : PySem.W.mroIn K C (.type "object") = some true
theorem XcA.exc {K : PySem.W.Frag} {C : Addr} (x : XcA K C) : ExcC K C := ⟨x.hg, x.hk, x.b, x.d, x.ha, x.hn, x.ht, x.hm⟩
theorem XcA.xf {K : PySem.W.Frag} {C : Addr} (x : XcA K C) : XfC K C := ⟨x.hg, x.hk, x.b, x.d⟩
/-- the clause that names the class C, for an exception of the class D -/
theorem XcA.em {K : PySem.W.Frag} {C D : Addr} {b : Bool} (x : XcA K C) (s : PySem.W.subIn K (.ref D) (.ref C) = some b) : PySem.W.exmOne K (.ref D) (.ref C) = some b := PySem.W.exm_ref x.b x.d x.t s
theorem kit_cl {K : PySem.W.Frag} {C : Addr} {t : Value} {b : Bool} (x : XcA K C) (s : PySem.W.subIn K t (.ref C) = some b) (hb : t = .ref C → b = true) : PySem.W.kitOne K t (.ref C) = some b := by
  unfold PySem.W.kitOne
  by_cases h : (t == Value.ref C) = true
  · rw [if_pos h, hb (beq_iff_eq.mp h)]
  · rw [if_neg h]
    obtain ⟨cd, hc, _⟩ := PySem.W.any_some x.d
    show (if ((PySem.W.clsIn K C).isSome && PySem.W.typeIn K (.ref C) == some (.type "type")) = true then PySem.W.subIn K t (.ref C) else none) = some b
    rw [if_pos (by rw [hc, x.t]; rfl)]
    exact s
theorem kit_ex {K : PySem.W.Frag} {C D : Addr} {b : Bool} (x : XcA K C) (s : PySem.W.subIn K (.ref D) (.ref C) = some b) (self : PySem.W.subIn K (.ref C) (.ref C) = some true) : PySem.W.kitOne K (.ref D) (.ref C) = some b :=
  kit_cl x s fun e => by
    cases e
    rw [self] at s
    exact (Option.some.inj s).symm
theorem kit_ve {K : PySem.W.Frag} {C : Addr} (x : XcA K C) : PySem.W.kitOne K (.ref C) (.type "ValueError") = some true := by
  unfold PySem.W.kitOne
  rw [if_neg (by intro h; cases beq_iff_eq.mp h)]
  show (if PySem.W.kitMeta "ValueError" = true then PySem.W.subIn K (.ref C) (.type "ValueError") else none) = some true
  rw [if_pos (by decide +kernel : PySem.W.kitMeta "ValueError" = true)]
  exact x.v
theorem pass0S {X : Cx} {σ : L2.St} : PassesAt CX0 X σ E0 := fun _ _ _ _ _ _ h => h.elim
/-- RowError.__init__, self.f = e: with the written part named -/
theorem ps_ostK {X : Cx} (K : PySem.W.Frag) {o e : Expr} {to te : TE} {f : Str} {p' pos : Pos} (ho : PE X o to) (he : PE X e te) (hs : swapsWith e (some (.Attribute o f p')) pos.line X.env = pure false := by rfl) (hK : X.K = K := by rfl) : PS X (.Assign [.Attribute o f p'] e pos) (tOst K f to te) := hK ▸ ps_ost ho he hs
section
variable {K : PySem.W.Frag} {σ : L2.St} {H : Hp} {Q : VK} {D : Ends} {t : TA} {te to : TE}
def VeiJ (K : PySem.W.Frag) (Q : VK) (vs : List V) (H1 : Hp) : Prop := ∃ (a C : Addr) (ws : List V), vs = .ref a :: ws ∧ ws.length ≤ 1000 ∧ OexC K C ∧ H1 a = some (exo a C none) ∧ Q .non H1
theorem r_vei (h : t σ H (VeiJ K Q)) : tVeI K t σ H Q := h
def OstJ (K : PySem.W.Frag) (f : Str) (D : Ends) (σ : L2.St) (y x : V) (H2 : Hp) : Prop := ∃ a C : Addr, x = .ref a ∧ OexC K C ∧ PySem.W.findIn K (.ref C) f = some none ∧
  ((H2 a = some (exo a C none) ∧ ∀ dx, H2 dx = none → dx ≠ a → D.nx σ (upd (upd H2 dx (exd dx [(f, y)])) a (exo a C (some dx)))) ∨
    ∃ (dx : Addr) (fs : List (Str × V)), H2 a = some (exo a C (some dx)) ∧ H2 dx = some (exd dx fs) ∧ fs.length ≤ 900 ∧ D.nx σ (upd H2 dx (exd dx ((f, y) :: fs))))
theorem r_ost {f : Str} (h : te σ H fun y H1 => to σ H1 fun x H2 => OstJ K f D σ y x H2) : tOst K f to te D σ H := h
theorem r_xf {f : Str} (h : te σ H (XfJ K f Q)) : tXF K f te σ H Q := h
theorem r_xfI {f : Str} {a C dd : Addr} {fs : List (Str × V)} {v : V} (e : H a = some (ExH (.ref C) (some dd) a)) (c : XcA K C) (n : PySem.W.findIn K (.ref C) f = some none) (ed : H dd = some (.xd fs)) (l : fs.lookup f = some v) (h : Q v H) : XfJ K f Q (.ref a) H := ⟨a, C, dd, fs, v, rfl, e, c.xf, n, ed, l, h⟩
theorem r_callx {sp : Sp} {dvs : List V} {E : L2.St → XK} (h : t σ H fun vs H1 => sp (vs ++ dvs) H1 Q (E σ)) : tCallX sp dvs E t σ H Q := h
theorem r_callkwx {sp : Sp} {gV : List V → List V → List V} {E : L2.St → XK} (h : t σ H fun zs H2 => sp (gV [] zs) H2 Q (E σ)) : tCallKwX sp gV E t σ H Q := h
theorem r_methx {C : Addr} {m : Str} {sp : Sp} {dvs : List V} {E : L2.St → XK} (h : to σ H (MethJ C m sp dvs (E σ) t σ Q)) : tMethX C m sp dvs E to t σ H Q := h
theorem r_makex {C : Addr} {sp : Sp} {dvs : List V} {E : L2.St → XK} (h : t σ H fun vs H1 => ∀ x dx, H1 x = none → H1 dx = none → dx ≠ x → sp (.ref x :: (vs ++ dvs)) (upd (upd H1 dx (.own x)) x (.ins C dx [])) (fun v H2 => v = .non ∧ Q (.ref x) H2) (E σ)) : tMakeX C sp dvs E t σ H Q := h
/-- isinstance -/
theorem r_ixB {x : V} {a n : String} {b : Bool} (ty : TyX K H x (.type a)) (k : kitB a n = some b) (h : Q (.bl b) H) : rIsX K [x, .ty n] H Q := .inl ⟨x, .ty n, _, _, b, rfl, .ty n, .base ty, k, h⟩
theorem r_ixN {x : V} {a : String} {C : Addr} (ty : TyX K H x (.type a)) (c : XcA K C) (k : PySem.W.subIn K (.type a) (.ref C) = some false) (h : Q (.bl false) H) : rIsX K [x, .ref C] H Q := .inl ⟨x, .ref C, _, _, false, rfl, .own C, .base ty, kit_cl c k (fun z => nomatch z), h⟩
theorem r_ixE {a C D : Addr} {d : Option Addr} {b : Bool} (e : H a = some (ExH (.ref D) d a)) (dd : ∀ b, d = some b → ∃ fs, H b = some (.xd fs)) (cD : XcA K D) (c : XcA K C) (s : PySem.W.subIn K (.ref D) (.ref C) = some b) (self : PySem.W.subIn K (.ref C) (.ref C) = some true) (h : Q (.bl b) H) : rIsX K [.ref a, .ref C] H Q :=
  .inl ⟨.ref a, .ref C, _, _, b, rfl, .own C, .exc e cD.exc dd, kit_ex c s self, h⟩
theorem r_ixV {a D : Addr} {d : Option Addr} (e : H a = some (ExH (.ref D) d a)) (dd : ∀ b, d = some b → ∃ fs, H b = some (.xd fs)) (cD : XcA K D) (h : Q (.bl true) H) : rIsX K [.ref a, .ty "ValueError"] H Q :=
  .inl ⟨.ref a, .ty "ValueError", _, _, true, rfl, .ty _, .exc e cD.exc dd, kit_ve cD, h⟩
/-- of an exception, a tuple of classes of which it is of none -/
def NoneOf (K : PySem.W.Frag) (D : Addr) : List V → Prop
  | [] => True
  | c :: l => (∃ C, c = .ref C ∧ XcA K C ∧ PySem.W.subIn K (.ref D) (.ref C) = some false ∧ PySem.W.subIn K (.ref C) (.ref C) = some true) ∧ NoneOf K D l
theorem noneOf_any {K : PySem.W.Frag} {D : Addr} : ∀ {cs : List V}, NoneOf K D cs → ∃ us, Paired ClsV cs us ∧ PySem.W.kitAny K (.ref D) us = some false
  | [], _ => ⟨[], .nil, rfl⟩
  | c :: l, ⟨⟨C, e, x, s, self⟩, r⟩ => by
    obtain ⟨us, p, k⟩ := noneOf_any r
    subst e
    exact ⟨.ref C :: us, .cons (.own C) p, kitAny_cons (b := false) (kit_ex x s self) (fun _ => k) (fun z => nomatch z)⟩
theorem r_ixT0 {a t D : Addr} {d : Option Addr} {cs : List V} (et : H t = some (.tup cs)) (e : H a = some (ExH (.ref D) d a)) (dd : ∀ b, d = some b → ∃ fs, H b = some (.xd fs)) (cD : XcA K D) (n : NoneOf K D cs) (h : Q (.bl false) H) : rIsX K [.ref a, .ref t] H Q := by
  obtain ⟨us, p, k⟩ := noneOf_any n
  exact .inr ⟨.ref a, t, cs, _, us, false, rfl, et, p, .exc e cD.exc dd, k, h⟩
end
end NX
namespace NX
open PySem PySem.Spec PyProof.Rows L2
theorem TyX.same {K : PySem.W.Frag} {H H' : Hp} {v : V} {t : Value} (h : TyX K H v t) (s : Same H H') : TyX K H' v t := by
  cases h with
  | base b =>
    refine .base ?_
    cases b with
    | non => exact .non
    | bl y => exact .bl y
    | int i => exact .int i
    | str y => exact .str y
    | flt y => exact .flt y
    | lst e => exact .lst (s _ _ e)
    | frz e => exact .frz (s _ _ e)
    | tup e => exact .tup (s _ _ e)
    | dK e => exact .dK (s _ _ e)
    | dT e => exact .dT (s _ _ e)
    | ins e cl ha hn htk hm => exact .ins (s _ _ e) cl ha hn htk hm
  | byt b => exact .byt b
  | set e => exact .set (s _ _ e)
  | kList e c => exact .kList e c
  | kTuple e c => exact .kTuple e c
  | kDict e c => exact .kDict e c
  | fTuple e => exact .fTuple (s _ _ e)
  | fDict e => exact .fDict (s _ _ e)
theorem NotS.same {K : PySem.W.Frag} {H H' : Hp} {v : V} (h : NotS K H v) (s : Same H H') : NotS K H' v := by
  obtain ⟨t, ty, k⟩ := h
  exact ⟨t, TyX.same ty s, k⟩
/-- values that are no list -/
def NotL (K : PySem.W.Frag) (H : Hp) (v : V) : Prop := ∃ t, TyX K H v (.type t) ∧ kitB t "list" = some false
theorem NotL.same {K : PySem.W.Frag} {H H' : Hp} {v : V} (h : NotL K H v) (s : Same H H') : NotL K H' v := by
  obtain ⟨t, ty, k⟩ := h
  exact ⟨t, TyX.same ty s, k⟩
end NX
namespace NX
open PySem PySem.Spec PyProof.Rows L2
/-! ### decimal digits -/
def dec (n : Nat) : List Nat := (Nat.toDigits 10 n).map Char.toNat
theorem str_dec (n : Nat) : V.str (Str.ofString (toString ((n : Nat) : Int))) = T (dec n) := by
  show V.str _ = V.str (mkS (dec n))
  congr 1
  apply TL.ext_tl
  exact PySem.W.KIN.signs_num n
theorem dec_len {n k : Nat} (hk : 1 ≤ k) (h : n < 10 ^ k) : (dec n).length ≤ k := by
  unfold dec
  rw [List.length_map]
  exact toDigits_len_pow (by decide) hk h
theorem dec_pos (n : Nat) : 1 ≤ (dec n).length := by
  unfold dec
  rw [List.length_map]
  exact toDigits_len_ge 10 n
end NX
namespace NX
theorem log_small {n : Nat} (h : n < 2 ^ 60) : n.log2 < 1920 := by
  by_cases e : n = 0
  · rw [e]; decide
  · exact Nat.lt_of_lt_of_le ((Nat.log2_lt e).mpr h) (by decide)
end NX
namespace NX
open PySem PySem.Spec PyProof.Rows L2
/-- a list of values that are texts -/
theorem texts_of {P : List Nat → Prop} : ∀ {xs : List V}, (∀ i, i < xs.length → ∃ l, xs.getD i .non = T l ∧ P l) → ∃ ls : List (List Nat), xs = ls.map T ∧ ∀ l ∈ ls, P l
  | [], _ => ⟨[], rfl, fun l h => nomatch h⟩
  | v :: xs, h => by
    obtain ⟨l, e, p⟩ := h 0 (by simp)
    obtain ⟨ls, e2, p2⟩ := texts_of (xs := xs) fun i hi => h (i + 1) (by simpa using hi)
    have e' : v = T l := e
    refine ⟨l :: ls, by rw [e', e2]; rfl, fun x hx => ?_⟩
    rcases List.mem_cons.mp hx with rfl | hx
    · exact p
    · exact p2 x hx
theorem flat_le {m : Nat} : ∀ {ls : List (List Nat)}, (∀ l ∈ ls, l.length ≤ m) → ls.flatten.length ≤ ls.length * m
  | [], _ => by simp
  | l :: ls, h => by
    have h1 := h l (by simp)
    have h2 := flat_le (ls := ls) fun x hx => h x (by simp [hx])
    rw [List.flatten_cons, List.length_append, List.length_cons, Nat.add_mul, Nat.one_mul]
    omega
end NX
namespace NX
theorem r_ifdT {c : Prop} [Decidable c] {A B : Prop} (h : c) (a : A) : if decide c = true then A else B := by rw [decide_eq_true h]; exact a
theorem r_ifdF {c : Prop} [Decidable c] {A B : Prop} (h : ¬ c) (b : B) : if decide c = true then A else B := by rw [decide_eq_false h, if_neg Bool.false_ne_true]; exact b
theorem r_ifndT {c : Prop} [Decidable c] {A B : Prop} (h : ¬ c) (a : A) : if (!decide c) = true then A else B := by rw [decide_eq_false h]; exact a
theorem r_ifndF {c : Prop} [Decidable c] {A B : Prop} (h : c) (b : B) : if (!decide c) = true then A else B := by rw [decide_eq_true h]; exact b
end NX
namespace NX
open PySem PySem.Spec PyProof.Rows L2
section
variable {K : PySem.W.Frag} {H : Hp} {Q : VK}
theorem r_rpI {i : Int} (hi : i.natAbs.log2 < 1920) (h : Q (.str (rpV (.int i))) H) : rReprD K [.int i] H Q := .inl ⟨_, rfl, hi, h⟩
theorem r_rpB {b : Bool} (h : Q (.str (rpV (.bl b))) H) : rReprD K [.bl b] H Q := .inl ⟨_, rfl, trivial, h⟩
theorem r_rpN (h : Q (.str (rpV .non)) H) : rReprD K [.non] H Q := .inl ⟨_, rfl, trivial, h⟩
end
/-- values in a list, all of a kind that lasts -/
theorem kp_tyx {K : PySem.W.Frag} {H H' : Hp} {v : V} {t : Value} {a : Addr} (h : TyX K H v t) (k : Kp a H H') (ha : v ≠ .ref a) : TyX K H' v t := by
  have n : ∀ {b : Addr}, V.ref b ≠ V.ref a → b ≠ a := fun z e => z (by rw [e])
  cases h with
  | base b =>
    refine .base ?_
    cases b with
    | non => exact .non
    | bl y => exact .bl y
    | int i => exact .int i
    | str y => exact .str y
    | flt y => exact .flt y
    | lst e => exact .lst (k _ _ (n ha) e)
    | frz e => exact .frz (k _ _ (n ha) e)
    | tup e => exact .tup (k _ _ (n ha) e)
    | dK e => exact .dK (k _ _ (n ha) e)
    | dT e => exact .dT (k _ _ (n ha) e)
    | ins e cl ha' hn htk hm => exact .ins (k _ _ (n ha) e) cl ha' hn htk hm
  | byt b => exact .byt b
  | set e => exact .set (k _ _ (n ha) e)
  | kList e c => exact .kList e c
  | kTuple e c => exact .kTuple e c
  | kDict e c => exact .kDict e c
  | fTuple e => exact .fTuple (k _ _ (n ha) e)
  | fDict e => exact .fDict (k _ _ (n ha) e)
theorem NotS.kp {K : PySem.W.Frag} {H H' : Hp} {v : V} {a : Addr} (h : NotS K H v) (k : Kp a H H') (ha : v ≠ .ref a) : NotS K H' v := by
  obtain ⟨t, ty, hk⟩ := h
  exact ⟨t, kp_tyx ty k ha, hk⟩
theorem NotL.kp {K : PySem.W.Frag} {H H' : Hp} {v : V} {a : Addr} (h : NotL K H v) (k : Kp a H H') (ha : v ≠ .ref a) : NotL K H' v := by
  obtain ⟨t, ty, hk⟩ := h
  exact ⟨t, kp_tyx ty k ha, hk⟩
end NX
namespace NX
open PySem PySem.Spec PyProof.Rows L2
theorem rep2_mem {α : Type} {x y z : α} {n : Nat} (h : z ∈ (List.replicate n [x, y]).flatten) : z = x ∨ z = y := by
  obtain ⟨l, h1, h2⟩ := List.mem_flatten.mp h
  rw [(List.mem_replicate.mp h1).2] at h2
  simpa using h2
theorem rep2_len {α : Type} {x y : α} {n : Nat} : (List.replicate n [x, y]).flatten.length = 2 * n := by
  induction n with
  | zero => rfl
  | succ n ih => rw [List.replicate_succ, List.flatten_cons, List.length_append, ih]; simp only [List.length_cons, List.length_nil]; omega
theorem getV_left {A B : List V} {i : Nat} (h : i < A.length) : (A ++ B).getD i .non = A.getD i .non := by
  rw [List.getD_eq_getElem?_getD, List.getElem?_append_left h, ← List.getD_eq_getElem?_getD]
theorem getV_mid {A B : List V} {v : V} : (A ++ [v] ++ B).getD A.length .non = v := by
  rw [List.append_assoc, List.getD_eq_getElem?_getD, List.getElem?_append_right (Nat.le_refl _), Nat.sub_self]; rfl
theorem getV_mem {A : List V} {i : Nat} (h : i < A.length) : A.getD i .non ∈ A := by
  rw [List.getD_eq_getElem?_getD, List.getElem?_eq_getElem h]; exact List.getElem_mem h
end NX
namespace NX
open PySem PySem.Spec PyProof.Rows L2
/-- no row -/
def NR (K : PySem.W.Frag) (H : Hp) (v : V) : Prop := (∃ l, v = T l ∧ Asc l ∧ l.length ≤ 5000000 ∧ l.all lett = false) ∨ NotS K H v
theorem NR.same {K : PySem.W.Frag} {H H' : Hp} {v : V} (h : NR K H v) (s : Same H H') : NR K H' v := h.imp id fun z => z.same s
/-- two values, of which the first that is no row is refused -/
def Two (K : PySem.W.Frag) (H : Hp) (v u : V) (m : Nat) (G : List Nat → List Nat → Prop) (B : Prop) : Prop :=
  (∃ a b : List Nat, v = T a ∧ u = T b ∧ Row a ∧ Row b ∧ a.length ≤ m ∧ b.length ≤ m ∧ G a b) ∨ (NR K H v ∧ B) ∨ (∃ a, v = T a ∧ Row a ∧ a.length ≤ m ∧ NR K H u ∧ B)
theorem NR.kp {K : PySem.W.Frag} {H H' : Hp} {v : V} {a : Addr} (h : NR K H v) (k : Kp a H H') (ha : v ≠ .ref a) : NR K H' v := h.imp id fun z => z.kp k ha
end NX
namespace NX
open PySem PySem.Spec PyProof.Rows L2
/-! ### new objects, the heap named anew -/
theorem new_eq {H H2 : Hp} {p : Addr} {o : HO} (np : H p = none) (hh : upd H p o = H2) : Same H H2 ∧ H2 p = some o := by
  subst hh; exact ⟨Same.new1 np, upd_same⟩
theorem put_eq {H H2 : Hp} {p : Addr} {o : HO} (hh : upd H p o = H2) : Kp p H H2 ∧ H2 p = some o := by
  subst hh; exact ⟨Kp.put (Kp.refl p H), upd_same⟩
example (H : Hp) (Q : Hp → Prop) (k : ∀ H2, Same H H2 → Q H2) : ∀ p, H p = none → Q (upd H p (.lst [.int 3])) := by
  intro p np; generalize hh : upd _ p _ = H2; obtain ⟨s2, ep⟩ := new_eq np hh
  exact k _ s2
/-! ### lists of tuples -/
def Tps (H : Hp) (xs : List V) (ts : List (List V)) : Prop := xs.length = ts.length ∧ ∀ i, i < ts.length → ∃ b : Addr, xs.getD i .non = .ref b ∧ H b = some (.tup (ts.getD i []))
theorem Tps.nil {H : Hp} : Tps H [] [] := ⟨rfl, fun i hi => absurd hi (by simp)⟩
theorem Tps.keep {H H' : Hp} {xs : List V} {ts : List (List V)} (h : Tps H xs ts) (k : ∀ b t, H b = some (.tup t) → H' b = some (.tup t)) : Tps H' xs ts := ⟨h.1, fun i hi => by
  obtain ⟨b, e1, e2⟩ := h.2 i hi
  exact ⟨b, e1, k _ _ e2⟩⟩
theorem Tps.same {H H' : Hp} {xs : List V} {ts : List (List V)} (h : Tps H xs ts) (s : Same H H') : Tps H' xs ts := h.keep fun b t e => s _ _ e
theorem Tps.kp {H H' : Hp} {a : Addr} {xs ys : List V} {ts : List (List V)} (h : Tps H xs ts) (k : Kp a H H') (ea : H a = some (.lst ys)) : Tps H' xs ts := h.keep fun b t e => k _ _ (by rintro rfl; rw [ea] at e; cases e) e
theorem Tps.snoc {H : Hp} {xs : List V} {ts : List (List V)} (h : Tps H xs ts) {b : Addr} {t : List V} (e : H b = some (.tup t)) : Tps H (xs ++ [.ref b]) (ts ++ [t]) := by
  obtain ⟨hl, hh⟩ := h
  refine ⟨by simp [hl], fun i hi => ?_⟩
  rw [List.length_append, List.length_singleton] at hi
  by_cases hlt : i < ts.length
  · obtain ⟨b', e1, e2⟩ := hh i hlt
    refine ⟨b', ?_, ?_⟩
    · rw [List.getD_eq_getElem?_getD, List.getElem?_append_left (by omega), ← List.getD_eq_getElem?_getD]; exact e1
    · rw [List.getD_eq_getElem?_getD, List.getElem?_append_left hlt, ← List.getD_eq_getElem?_getD]; exact e2
  · have hi2 : i = ts.length := by omega
    subst hi2
    refine ⟨b, ?_, ?_⟩
    · rw [List.getD_eq_getElem?_getD, ← hl, List.getElem?_concat_length]; rfl
    · rw [List.getD_eq_getElem?_getD, List.getElem?_concat_length]; exact e
/-! ### stretches of like characters -/
def run : List Nat → Nat
  | [] => 0
  | c :: l => 1 + (l.takeWhile (· == c)).length
theorem run_cons (c : Nat) (l : List Nat) : run (c :: l) = 1 + (l.takeWhile (· == c)).length := rfl
theorem tw_get {c : Nat} : ∀ {l : List Nat} {i : Nat}, i < (l.takeWhile (· == c)).length → l.getD i 0 = c
  | [], i, h => by simp at h
  | d :: l, i, h => by
    by_cases e : (d == c) = true
    · rw [List.takeWhile_cons, if_pos e, List.length_cons] at h
      cases i with
      | zero => simpa using e
      | succ i => rw [List.getD_cons_succ]; exact tw_get (by omega)
    · rw [List.takeWhile_cons, if_neg e] at h
      simp at h
theorem run_le : ∀ l : List Nat, run l ≤ l.length
  | [] => Nat.le_refl _
  | c :: l => by
    rw [run_cons, List.length_cons]
    have := (List.takeWhile_sublist (l := l) (· == c)).length_le
    omega
theorem run_pos {l : List Nat} (h : l ≠ []) : 1 ≤ run l := by
  cases l with
  | nil => exact absurd rfl h
  | cons c l => rw [run_cons]; omega
theorem tw_eq {c : Nat} : ∀ {l : List Nat} {n : Nat}, n ≤ l.length → (∀ i, i < n → l.getD i 0 = c) → (n = l.length ∨ l.getD n 0 ≠ c) → (l.takeWhile (· == c)).length = n
  | [], n, h, _, _ => by
    have : n = 0 := by simpa using h
    subst this; rfl
  | d :: l, n, h, h1, h2 => by
    cases n with
    | zero =>
      rcases h2 with h2 | h2
      · simp at h2
      · have e : (d == c) = false := by simpa using h2
        rw [List.takeWhile_cons, e]; rfl
    | succ n =>
      have e : (d == c) = true := by simpa using h1 0 (by omega)
      rw [List.takeWhile_cons, if_pos e, List.length_cons, tw_eq (by simpa using h) (fun i hi => h1 (i + 1) (by omega)) (by simpa using h2)]
theorem run_eq {l : List Nat} {n : Nat} (h0 : 0 < n) (h : n ≤ l.length) (h1 : ∀ i, i < n → l.getD i 0 = l.getD 0 0) (h2 : n = l.length ∨ l.getD n 0 ≠ l.getD 0 0) : run l = n := by
  cases l with
  | nil => simp at h; omega
  | cons c l =>
    rw [run_cons, tw_eq (n := n - 1) (by rw [List.length_cons] at h; omega) (fun i hi => by simpa using h1 (i + 1) (by omega)) ?_]
    · omega
    · rcases h2 with h2 | h2
      · left; rw [List.length_cons] at h2; omega
      · right
        obtain ⟨m, rfl⟩ : ∃ m, n = m + 1 := ⟨n - 1, by omega⟩
        simpa using h2
theorem run_all {l : List Nat} {i : Nat} (h : i < run l) : l.getD i 0 = l.getD 0 0 := by
  cases l with
  | nil => simp [run] at h
  | cons c l =>
    cases i with
    | zero => rfl
    | succ i =>
      rw [run_cons] at h
      show (c :: l).getD (i + 1) 0 = c
      rw [List.getD_cons_succ]
      exact tw_get (by omega)
/-- a row's short text, the blocks one behind another; n a bound of the rows -/
def wrt (l : List Nat) : List Nat :=
  match l with
  | [] => []
  | c :: l => [c] ++ (if run (c :: l) = 1 then [] else dec (run (c :: l))) ++ wrt ((c :: l).drop (run (c :: l)))
termination_by l.length
decreasing_by
  have := run_pos (l := c :: l) (by simp)
  rw [List.length_drop, List.length_cons]; omega
theorem wrt_ne {l : List Nat} (h : l ≠ []) : wrt l = [l.getD 0 0] ++ (if run l = 1 then [] else dec (run l)) ++ wrt (l.drop (run l)) := by
  cases l with
  | nil => exact absurd rfl h
  | cons c l => rw [wrt]; rfl
theorem wrt_nil : wrt [] = [] := by rw [wrt]
def short (l : List Nat) : List Nat := if l = [] then [45] else wrt l
theorem wrt_len : ∀ (n : Nat) (l : List Nat), l.length ≤ n → n < 10 ^ 9 → (wrt l).length ≤ 10 * l.length := by
  intro n
  induction n with
  | zero =>
    intro l h _
    have : l = [] := by simpa using h
    subst this; simp [wrt]
  | succ n ih =>
    intro l h hn
    by_cases e : l = []
    · subst e; simp [wrt]
    · rw [wrt_ne e]
      have h1 := run_pos e
      have h2 := run_le l
      have h3 := ih (l.drop (run l)) (by rw [List.length_drop]; omega) (by omega)
      have h4 : (dec (run l)).length ≤ 9 := dec_len (by decide) (by omega)
      rw [List.length_drop] at h3
      simp only [List.length_append, List.length_singleton]
      split
      · simp only [List.length_nil]; omega
      · omega
end NX
namespace NX
open PySem PySem.Spec PyProof.Rows L2
/-! ### f-strings, str(n) -/
section
variable {K : PySem.W.Frag} {σ : L2.St} {H : Hp} {Q : VK} {QS : Str → Hp → Prop} {te t : TE} {ts : List TE} {acc : Str} {a l : List Nat}
theorem r_jsE (h : tJs ts (mkS []) σ H QS) : tJs ts Str.empty σ H QS := h
def JsJ (ts : List TE) (acc : Str) (σ : L2.St) (QS : Str → Hp → Prop) (x : V) (H1 : Hp) : Prop := ∃ y : Str, x = .str y ∧ (acc ++ y).length ≤ sizeLine ∧ tJs ts (acc ++ y) σ H1 QS
theorem r_js (h : t σ H (JsJ ts acc σ QS)) : tJs (t :: ts) acc σ H QS := h
theorem r_js0 (h : QS acc H) : tJs [] acc σ H QS := h
theorem r_jsT (hl : a.length + l.length ≤ 16777216) (h : tJs ts (mkS (a ++ l)) σ H QS) : JsJ ts (mkS a) σ QS (T l) H := ⟨mkS l, rfl, by rw [mkS_add, mkS_len, List.length_append, sizeLine_eq]; exact hl, by rw [mkS_add]; exact h⟩
def FmtJ (Q : VK) (x : V) (H1 : Hp) : Prop := (∃ y : Str, x = .str y ∧ y.length ≤ sizeLine ∧ Q (.str y) H1) ∨ ∃ i : Int, x = .int i ∧ i.natAbs.log2 < 1920 ∧ Q (.str (toString i)) H1
theorem r_fmt (h : te σ H (FmtJ Q)) : tFmt te σ H Q := h
theorem r_fmtS (hl : l.length ≤ 16777216) (h : Q (T l) H) : FmtJ Q (T l) H := .inl ⟨mkS l, rfl, by rw [mkS_len, sizeLine_eq]; exact hl, h⟩
theorem r_fmtI {n : Nat} (hn : n < 2 ^ 60) (h : Q (T (dec n)) H) : FmtJ Q (.int (n : Nat)) H := .inr ⟨_, rfl, log_small hn, by rw [str_dec]; exact h⟩
/-- str(n) -/
def StrJ (Q : VK) (xs : List V) (H : Hp) : Prop := ∃ i, xs = [V.int i] ∧ i.natAbs.log2 < 1920 ∧ Q (V.str (Str.ofString (toString i))) H
theorem r_strI {n : Nat} {P : V → Prop} (hn : n < 2 ^ 60) (h : P (T (dec n))) : (n : Int).natAbs.log2 < 1920 ∧ P (V.str (Str.ofString (toString (n : Int)))) := ⟨log_small hn, by rw [str_dec]; exact h⟩
end
end NX
namespace NX
open PySem PySem.Spec PyProof.Rows L2
theorem short_one (c : Nat) : short [c] = [c] := by
  unfold short
  rw [if_neg (by simp), wrt_ne (by simp), run_eq (l := [c]) (n := 1) (by decide) (by simp) (fun i hi => by rw [show i = 0 by omega]) (.inl rfl)]
  show [c] ++ [] ++ wrt [] = [c]
  rw [wrt_nil]; rfl
theorem rep1 (c n : Nat) : repL [c] n = List.replicate n c := by
  induction n with
  | zero => rfl
  | succ n ih => unfold repL at *; rw [List.replicate_succ, List.flatten_cons, ih, List.replicate_succ]; rfl
theorem run_rep (c n : Nat) (h : 0 < n) : run (repL [c] n) = n := by
  rw [rep1]
  have e : ∀ i, i < n → (List.replicate n c).getD i 0 = c := fun i hi => by rw [List.getD_eq_getElem?_getD, List.getElem?_replicate, if_pos hi]; rfl
  exact run_eq h (by simp) (fun i hi => by rw [e i hi, e 0 h]) (.inl (by simp))
theorem short_rep (c n : Nat) (h : 1 < n) : short (repL [c] n) = [c] ++ dec n := by
  have hne : repL [c] n ≠ [] := by
    intro z
    have := congrArg List.length z
    rw [repL_len, List.length_singleton, List.length_nil] at this
    omega
  unfold short
  rw [if_neg hne, wrt_ne hne, run_rep c n (by omega), if_neg (by omega), List.drop_of_length_le (by rw [repL_len, List.length_singleton]; omega)]
  rw [show (repL [c] n).getD 0 0 = c by rw [rep1, List.getD_eq_getElem?_getD, List.getElem?_replicate, if_pos (by omega)]; rfl]
  rw [wrt_nil, List.append_nil]
theorem short_two (u c : Nat) (h : u ≠ c) : short ([u] ++ repL [c] 2) = [u, c, 50] := by
  have e : [u] ++ repL [c] 2 = [u, c, c] := rfl
  unfold short
  rw [e, if_neg (by simp), wrt_ne (by simp), run_eq (l := [u, c, c]) (n := 1) (by decide) (by simp) (fun i hi => by rw [show i = 0 by omega]) (.inr (by simpa using h.symm))]
  show [u] ++ [] ++ wrt [c, c] = _
  rw [wrt_ne (by simp), run_eq (l := [c, c]) (n := 2) (by decide) (by simp) (fun i hi => by rcases (show i = 0 ∨ i = 1 by omega) with rfl | rfl <;> rfl) (.inl rfl)]
  show [u] ++ [] ++ ([c] ++ dec 2 ++ wrt []) = _
  rw [wrt_nil]; rfl
/-- a run that ends behind m + 1 characters from j on -/
theorem run_at {l : List Nat} {j m : Nat} (hj : j + m < l.length) (h1 : ∀ i, i < m → l.getD (j + i) 0 = l.getD j 0) (h0 : l.getD (j + m) 0 = l.getD j 0) (h2 : j + m + 1 = l.length ∨ l.getD (j + m + 1) 0 ≠ l.getD (j + m) 0) : run (l.drop j) = m + 1 := by
  have hd : ∀ i, (l.drop j).getD i 0 = l.getD (j + i) 0 := fun i => by rw [List.getD_eq_getElem?_getD, List.getElem?_drop, ← List.getD_eq_getElem?_getD]
  refine run_eq (by omega) (by rw [List.length_drop]; omega) (fun i hi => ?_) ?_
  · rw [hd, hd, Nat.add_zero]
    by_cases e : i = m
    · rw [e, h0]
    · exact h1 i (by omega)
  · rw [List.length_drop, hd, hd, Nat.add_zero]
    rcases h2 with h2 | h2
    · left; omega
    · right; rw [← Nat.add_assoc]; rw [h0] at h2; exact h2
end NX
namespace NX
open PySem PySem.Spec PyProof.Rows L2
section
variable {H : Hp} {Q : VK}
theorem r_isIN {i : Int} (h : Q (.bl false) H) : rIsG (.int i) .non H Q := .inl ⟨rfl, by simpa using h⟩
theorem r_isnIN {i : Int} (h : Q (.bl true) H) : rIsNotG (.int i) .non H Q := .inl ⟨rfl, by simpa using h⟩
end
end NX
namespace NX
open PySem PySem.Spec PyProof.Rows L2
/-- blocks (character, how many) -/
def bks (bs : List (Nat × Nat)) : List (List V) := bs.map fun b => [T [b.1], .int (b.2 : Nat)]
def spr (bs : List (Nat × Nat)) : List Nat := (bs.map fun b => repL [b.1] b.2).flatten
theorem bks_getD {bs : List (Nat × Nat)} {i : Nat} (h : i < bs.length) : (bks bs).getD i [] = [T [(bs.getD i (0, 0)).1], .int ((bs.getD i (0, 0)).2 : Nat)] := by
  unfold bks
  rw [List.getD_eq_getElem?_getD, List.getD_eq_getElem?_getD, List.getElem?_map, List.getElem?_eq_getElem h]; rfl
/-- blocks of at most m characters together, at most n of them -/
def Bk (bs : List (Nat × Nat)) (m n : Nat) : Prop := bs.length ≤ n ∧ (∀ b ∈ bs, lett b.1 = true ∧ 1 ≤ b.2 ∧ b.2 ≤ m) ∧ (spr bs).length ≤ m
theorem spr_row {bs : List (Nat × Nat)} {m n : Nat} (h : Bk bs m n) : Row (spr bs) := by
  intro c hc
  obtain ⟨l, h1, h2⟩ := List.mem_flatten.mp hc
  obtain ⟨b, hb, rfl⟩ := List.mem_map.mp h1
  unfold repL at h2
  obtain ⟨l2, h3, h4⟩ := List.mem_flatten.mp h2
  rw [(List.mem_replicate.mp h3).2] at h4
  rw [List.mem_singleton.mp h4]
  exact (h.2.1 b hb).1
end NX
namespace NX
open PySem PySem.Spec PyProof.Rows L2 PySem.NumText
/-! ### reading short texts -/
def dig (c : Nat) : Bool := decide (48 ≤ c ∧ c ≤ 57)
theorem dig_iff {c : Nat} : dig c = true ↔ 48 ≤ c ∧ c ≤ 57 := by unfold dig; exact decide_eq_true_iff
theorem dig_lett {c : Nat} (h : lett c = true) : dig c = false := by
  cases e : dig c with
  | false => rfl
  | true => rw [lett_iff] at h; rw [dig_iff] at e; omega
/-- the number that digits write without leading zeros -/
def numL (d : List Nat) : Option Nat := if d = [] ∨ d.all dig = false then none else if d = [48] ∨ d.getD 0 0 ≠ 48 then some (digitsVal d) else none
/-- how often a character stands there -/
def timesL (d : List Nat) : Option Nat := if d = [] then some 1 else if 3 < d.length then none else match numL d with
  | some n => if 1 < n then some n else none
  | none => none
def rd (most : Nat) (l acc : List Nat) : Option (List Nat) :=
  match l with
  | [] => some acc
  | c :: l => if lett c = false then none else match timesL (l.takeWhile dig) with
    | none => none
    | some t => if most < acc.length + t then none else rd most (l.drop (l.takeWhile dig).length) (acc ++ repL [c] t)
termination_by l.length
decreasing_by rw [List.length_drop, List.length_cons]; omega
theorem rd_nil (most : Nat) (acc : List Nat) : rd most [] acc = some acc := by rw [rd]
theorem rd_cons (most c : Nat) (l acc : List Nat) : rd most (c :: l) acc = if lett c = false then none else match timesL (l.takeWhile dig) with
    | none => none
    | some t => if most < acc.length + t then none else rd most (l.drop (l.takeWhile dig).length) (acc ++ repL [c] t) := by rw [rd]
theorem rd_bad0 {most c : Nat} {l acc : List Nat} (h : lett c = false) : rd most (c :: l) acc = none := by rw [rd_cons, if_pos h]
theorem rd_bad1 {most c : Nat} {l acc : List Nat} (h : timesL (l.takeWhile dig) = none) : rd most (c :: l) acc = none := by
  rw [rd_cons]
  split
  · rfl
  · rw [h]
/-- a row's text, as it is read -/
def rowL (most : Nat) (l : List Nat) : Option (List Nat) := match rd most l [] with
  | some r => if r = [] then none else some r
  | none => none
/-- .. and - for the empty row -/
def anyL (l : List Nat) : Option (List Nat) := if l = [45] then some [] else rowL 300 l
/-- a sign that is no letter and no digit is never read -/
theorem rd_sign {most c : Nat} (h1 : lett c = false) (h2 : dig c = false) : ∀ (n : Nat) (l acc : List Nat), l.length ≤ n → c ∈ l → rd most l acc = none := by
  intro n
  induction n with
  | zero =>
    intro l acc hl hc
    have : l = [] := by simpa using hl
    subst this; cases hc
  | succ n ih =>
    intro l acc hl hc
    cases l with
    | nil => cases hc
    | cons b l =>
      rw [rd_cons]
      split
      · rfl
      · rename_i hb
        have hcb : c ≠ b := fun e => hb (e ▸ h1)
        have hcl : c ∈ l := by
          rcases List.mem_cons.mp hc with e | e
          · exact absurd e hcb
          · exact e
        split
        · rfl
        · split
          · rfl
          · refine ih _ _ (by rw [List.length_drop]; rw [List.length_cons] at hl; omega) ?_
            have e := List.takeWhile_append_dropWhile (p := dig) (l := l)
            have hd : l.drop (l.takeWhile dig).length = l.dropWhile dig := by
              conv => lhs; rw [← e]
              rw [List.takeWhile_append_dropWhile, ]
              conv => lhs; arg 2; rw [← e]
              rw [List.drop_left]
            rw [hd]
            rw [← e] at hcl
            rcases List.mem_append.mp hcl with q | q
            · have := List.all_takeWhile (p := dig) (l := l)
              rw [List.all_eq_true] at this
              have := this c q
              rw [h2] at this; cases this
            · exact q
theorem any_sign {c : Nat} {l : List Nat} (h1 : lett c = false) (h2 : dig c = false) (hc : c ∈ l) (hl : 2 ≤ l.length ∨ c ≠ 45) : anyL l = none := by
  unfold anyL
  rw [if_neg ?_]
  · unfold rowL
    rw [rd_sign h1 h2 _ l [] (Nat.le_refl _) hc]
  · rintro rfl
    rcases hl with hl | hl
    · simp at hl
    · simp at hc; exact hl hc
/-! ### digits -/
theorem dec_dig (n : Nat) : ∀ c ∈ dec n, dig c = true := by
  intro c hc
  obtain ⟨x, hx, rfl⟩ := List.mem_map.mp hc
  have h := Nat.isDigit_of_mem_toDigits (by decide) (by decide) hx
  have h2 : 48 ≤ x.toNat ∧ x.toNat ≤ 57 := by
    unfold Char.isDigit at h
    simp only [Bool.and_eq_true, decide_eq_true_eq] at h
    exact ⟨h.1, h.2⟩
  exact dig_iff.mpr h2
theorem dec_val (n : Nat) : digitsVal (dec n) = n := PySem.W.KIN.val_back n
theorem dec_first : ∀ (n : Nat), 0 < n → (dec n).getD 0 0 ≠ 48 := by
  intro n
  induction n using Nat.strongRecOn with
  | _ n ih =>
    intro h
    unfold dec
    by_cases hb : n < 10
    · rw [Nat.toDigits_of_lt_base hb]
      have : ∀ m, m < 10 → 0 < m → (Nat.digitChar m).toNat ≠ 48 := by decide
      exact this n hb h
    · rw [Nat.toDigits_of_base_le (by decide) (by omega), List.map_append]
      have h1 := ih (n / 10) (by omega) (by omega)
      have hp := dec_pos (n / 10)
      unfold dec at h1 hp
      rw [List.getD_eq_getElem?_getD, List.getElem?_append_left (by omega), ← List.getD_eq_getElem?_getD]
      exact h1
theorem num_dec {n : Nat} (h : 0 < n) : numL (dec n) = some n := by
  unfold numL
  have hne : dec n ≠ [] := List.length_pos_iff.mp (dec_pos n)
  rw [if_neg, if_pos (.inr (dec_first n h)), dec_val]
  rintro (e | e)
  · exact hne e
  · rw [List.all_eq_true.mpr (dec_dig n)] at e; cases e
theorem times_dec {n : Nat} (h : 1 < n) (h2 : n < 1000) : timesL (dec n) = some n := by
  unfold timesL
  have hne : dec n ≠ [] := List.length_pos_iff.mp (dec_pos n)
  rw [if_neg hne, if_neg (by have := dec_len (n := n) (k := 3) (by decide) (by omega); omega), num_dec (by omega)]
  show (if 1 < n then some n else none) = some n
  rw [if_pos h]
/-- what is no digit at the beginning -/
def Nod (l : List Nat) : Prop := l = [] ∨ dig (l.getD 0 0) = false
theorem tw_digits {d r : List Nat} (hd : ∀ c ∈ d, dig c = true) (hr : Nod r) : (d ++ r).takeWhile dig = d := by
  induction d with
  | nil =>
    cases r with
    | nil => rfl
    | cons c r =>
      rcases hr with h | h
      · cases h
      · rw [List.nil_append, List.takeWhile_cons, if_neg (by rw [show dig c = false from h]; decide)]
  | cons c d ih =>
    rw [List.cons_append, List.takeWhile_cons, if_pos (hd c (by simp)), ih fun x hx => hd x (by simp [hx])]
theorem rd_block {most c t : Nat} {d r acc : List Nat} (hc : lett c = true) (hd : ∀ c ∈ d, dig c = true) (hr : Nod r) (ht : timesL d = some t) (hm : acc.length + t ≤ most) : rd most ([c] ++ d ++ r) acc = rd most r (acc ++ repL [c] t) := by
  rw [List.append_assoc, List.singleton_append, rd_cons, if_neg (by rw [hc]; decide), tw_digits hd hr, ht]
  show (if most < acc.length + t then none else rd most ((d ++ r).drop d.length) (acc ++ repL [c] t)) = _
  rw [if_neg (by omega), List.drop_left]
theorem rd_over {most c t : Nat} {d r acc : List Nat} (hd : ∀ c ∈ d, dig c = true) (hr : Nod r) (ht : timesL d = some t) (hm : most < acc.length + t) : rd most ([c] ++ d ++ r) acc = none := by
  rw [List.append_assoc, List.singleton_append, rd_cons, tw_digits hd hr, ht]
  split
  · rfl
  · show (if most < acc.length + t then none else rd most ((d ++ r).drop d.length) (acc ++ repL [c] t)) = _
    rw [if_pos hm]
theorem rd_none {most c : Nat} {d r acc : List Nat} (hd : ∀ c ∈ d, dig c = true) (hr : Nod r) (ht : timesL d = none) : rd most ([c] ++ d ++ r) acc = none := by
  rw [List.append_assoc, List.singleton_append]
  exact rd_bad1 (by rw [tw_digits hd hr]; exact ht)
/-- t writes w -/
def Wr (most : Nat) (t w : List Nat) : Prop := Nod t ∧ (t = [] → w = []) ∧ Row w ∧ (w = [] → t = []) ∧ ∀ r acc, Nod r → acc.length + w.length ≤ most → rd most (t ++ r) acc = rd most r (acc ++ w)
theorem Nod.app {a b : List Nat} (h : Nod a) (k : Nod b) : Nod (a ++ b) := by
  cases a with
  | nil => exact k
  | cons c a =>
    rcases h with h | h
    · cases h
    · exact .inr h
theorem Wr.nil {most : Nat} : Wr most [] [] := ⟨.inl rfl, fun _ => rfl, Row.nil, fun _ => rfl, fun r acc _ _ => by rw [List.append_nil]; rfl⟩
theorem Wr.app {most : Nat} {t u w v : List Nat} (h : Wr most t w) (k : Wr most u v) : Wr most (t ++ u) (w ++ v) := by
  refine ⟨h.1.app k.1, fun e => ?_, h.2.2.1.app k.2.2.1, fun e => ?_, fun r acc hr hl => ?_⟩
  · rw [List.append_eq_nil_iff] at e
    rw [h.2.1 e.1, k.2.1 e.2]; rfl
  · rw [List.append_eq_nil_iff] at e
    rw [h.2.2.2.1 e.1, k.2.2.2.1 e.2]; rfl
  · rw [List.length_append] at hl
    rw [List.append_assoc, h.2.2.2.2 _ _ (k.1.app hr) (by omega), k.2.2.2.2 r _ hr (by rw [List.length_append]; omega), List.append_assoc]
theorem Wr.one {most c : Nat} (hc : lett c = true) : Wr most [c] [c] := by
  refine ⟨.inr (dig_lett hc), fun e => (by cases e), Row.one hc, fun e => (by cases e), fun r acc hr hl => ?_⟩
  have h := rd_block (most := most) (c := c) (t := 1) (d := []) (r := r) (acc := acc) hc (fun x hx => nomatch hx) hr rfl (by simpa using hl)
  rw [List.append_nil] at h
  rw [h, repL_one]
theorem Wr.rep {most c : Nat} (hc : lett c = true) : ∀ n, Wr most (repL [c] n) (repL [c] n)
  | 0 => Wr.nil
  | n + 1 => by
    have e : repL [c] (n + 1) = [c] ++ repL [c] n := by rw [rep1, rep1]; rfl
    rw [e]
    exact (Wr.one hc).app (Wr.rep hc n)
theorem Wr.dec {most c n : Nat} (hc : lett c = true) (h1 : 1 < n) (h2 : n < 1000) : Wr most ([c] ++ dec n) (repL [c] n) := by
  refine ⟨.inr (dig_lett hc), fun e => (by cases e), fun x hx => by rw [rep1] at hx; rw [List.eq_of_mem_replicate hx]; exact hc, fun e => absurd (congrArg List.length e) (by rw [repL_len, List.length_singleton, List.length_nil]; omega), fun r acc hr hl => ?_⟩
  rw [repL_len, List.length_singleton, Nat.mul_one] at hl
  exact rd_block hc (dec_dig n) hr (times_dec h1 h2) hl
theorem Wr.read {most : Nat} {t w : List Nat} (h : Wr most t w) (hl : w.length ≤ most) : rd most t [] = some w := by
  have := h.2.2.2.2 [] [] (.inl rfl) (by simpa using hl)
  rw [List.append_nil, rd_nil] at this
  exact this
theorem Wr.row {most : Nat} {t w : List Nat} (h : Wr most t w) (hl : w.length ≤ most) (hne : w ≠ []) : rowL most t = some w := by
  unfold rowL
  rw [h.read hl]
  show (if w = [] then none else some w) = _
  rw [if_neg hne]
theorem Wr.any {t w : List Nat} (h : Wr 300 t w) (hl : w.length ≤ 300) (hne : w ≠ []) : anyL t = some w := by
  unfold anyL
  rw [if_neg, h.row hl hne]
  rintro rfl
  have := h.read hl
  rw [rd_bad0 (by decide)] at this
  cases this
/-- the short text writes the row -/
theorem wrt_wr {most : Nat} : ∀ (n : Nat) (l : List Nat), l.length ≤ n → l.length < 1000 → Row l → Wr most (wrt l) l := by
  intro n
  induction n with
  | zero =>
    intro l h _ _
    have : l = [] := by simpa using h
    subst this; rw [wrt_nil]; exact Wr.nil
  | succ n ih =>
    intro l h hn hr
    by_cases e : l = []
    · subst e; rw [wrt_nil]; exact Wr.nil
    · rw [wrt_ne e]
      have h1 := run_pos e
      have h2 := run_le l
      have h3 := ih (l.drop (run l)) (by rw [List.length_drop]; omega) (by rw [List.length_drop]; omega) (hr.drop _)
      have hl0 : lett (l.getD 0 0) = true := hr _ (getD_mem (by omega))
      have e2 : l = repL [l.getD 0 0] (run l) ++ l.drop (run l) := by
        conv => lhs; rw [← List.take_append_drop (run l) l]
        congr 1
        rw [rep1]
        refine List.ext_getElem (by rw [List.length_take, List.length_replicate]; omega) fun i hi hi2 => ?_
        rw [List.getElem_take, List.getElem_replicate]
        rw [List.length_replicate] at hi2
        have := run_all hi2
        rw [List.getD_eq_getElem?_getD, List.getElem?_eq_getElem (by omega)] at this
        exact this
      have hb : Wr most ([l.getD 0 0] ++ (if run l = 1 then [] else dec (run l))) (repL [l.getD 0 0] (run l)) := by
        split
        · rename_i e1
          rw [e1, repL_one, List.append_nil]
          exact Wr.one hl0
        · exact Wr.dec hl0 (by omega) (by omega)
      have := hb.app h3
      rw [← e2] at this
      exact this
end NX
namespace NX
open PySem PySem.Spec PyProof.Rows L2 PySem.NumText
def oV : Option Nat → V
  | some n => .int (n : Nat)
  | none => .non
def oT : Option (List Nat) → V
  | some l => T l
  | none => .non
theorem in_digs {c : Nat} : c ∈ ([48, 49, 50, 51, 52, 53, 54, 55, 56, 57] : List Nat) ↔ dig c = true := by
  rw [dig_iff]
  simp only [List.mem_cons, List.not_mem_nil, or_false]
  omega
theorem in_both {c : Nat} : c ∈ ([97, 98, 99, 100, 101, 102, 103, 104, 105, 106, 107, 108, 109, 110, 111, 112, 113, 114, 115, 116, 117, 118, 119, 120, 121, 122] : List Nat) ++ [65, 66, 67, 68, 69, 70, 71, 72, 73, 74, 75, 76, 77, 78, 79, 80, 81, 82, 83, 84, 85, 86, 87, 88, 89, 90] ↔ lett c = true := by
  rw [List.mem_append, in_high, in_low, lett_iff]
  omega
theorem int_text {d : List Nat} (h : d.all dig = true) (hne : d ≠ []) (hl : d.length ≤ 600) : intText? (mkS d) = some ((digitsVal d : Nat) : Int) := by
  refine intText_digits (x := mkS d) (fun c hc => ?_) hne (by rw [mkS_len]; omega)
  exact dig_iff.mp (List.all_eq_true.mp h c hc)
section
variable {K : PySem.W.Frag} {H : Hp} {Q : VK}
theorem r_intT {d : List Nat} (h : d.all dig = true) (hne : d ≠ []) (hl : d.length ≤ 600) (q : Q (.int (digitsVal d : Nat)) H) : rIntG [T d] H Q := .inr ⟨mkS d, _, rfl, int_text h hne hl, by rw [mkS_len]; omega, q⟩
end
theorem tw_at {l : List Nat} {p e : Nat} (hpe : p ≤ e) (he : e ≤ l.length) (h1 : ∀ i, p ≤ i → i < e → dig (l.getD i 0) = true) (h2 : e = l.length ∨ dig (l.getD e 0) = false) : (l.drop p).takeWhile dig = (l.take e).drop p := by
  have e1 : l.drop p = (l.take e).drop p ++ l.drop e := by
    conv => lhs; rw [← List.take_append_drop e l]
    rw [List.drop_append]
    have : p - (l.take e).length = 0 := by rw [List.length_take]; omega
    rw [this, List.drop_zero]
  rw [e1]
  refine tw_digits (fun c hc => ?_) ?_
  · obtain ⟨i, hi, rfl⟩ := List.mem_iff_getElem.mp hc
    rw [List.length_drop, List.length_take] at hi
    rw [List.getElem_drop, List.getElem_take]
    have := h1 (p + i) (by omega) (by omega)
    rwa [List.getD_eq_getElem?_getD, List.getElem?_eq_getElem (by omega)] at this
  · rcases h2 with h2 | h2
    · left; rw [h2, List.drop_length]
    · right
      rw [List.getD_eq_getElem?_getD, List.getElem?_drop, ← List.getD_eq_getElem?_getD]
      exact h2
theorem drop_cons {l : List Nat} {k : Nat} (h : k < l.length) : l.drop k = l.getD k 0 :: l.drop (k + 1) := by
  rw [List.drop_eq_getElem_cons h, List.getD_eq_getElem?_getD, List.getElem?_eq_getElem h]; rfl
end NX
namespace NX
open PySem PySem.Spec PyProof.Rows L2 PySem.NumText
theorem any_of {c : Nat} {l : List Nat} (h : c ≠ 45) (e : rd 300 (c :: l) [] = none) : anyL (c :: l) = none := by
  unfold anyL rowL
  rw [if_neg (by intro z; exact h (List.cons.inj z).1), e]
theorem lett_45 {c : Nat} (h : lett c = true) : c ≠ 45 := by rintro rfl; cases h
theorem any_bad1 {c : Nat} {d r : List Nat} (hc : lett c = true) (hd : ∀ c ∈ d, dig c = true) (hr : Nod r) (ht : timesL d = none) : anyL ([c] ++ d ++ r) = none := by
  have := rd_none (most := 300) (c := c) (acc := []) hd hr ht
  rw [List.append_assoc, List.singleton_append] at this ⊢
  exact any_of (lett_45 hc) this
theorem any_over1 {c t : Nat} {d r : List Nat} (hc : lett c = true) (hd : ∀ c ∈ d, dig c = true) (hr : Nod r) (ht : timesL d = some t) (hm : 300 < t) : anyL ([c] ++ d ++ r) = none := by
  have := rd_over (most := 300) (c := c) (acc := []) hd hr ht (by simpa using hm)
  rw [List.append_assoc, List.singleton_append] at this ⊢
  exact any_of (lett_45 hc) this
/-- a good beginning, a bad rest -/
theorem any_then {c : Nat} {t w r : List Nat} (h : Wr 300 (c :: t) w) (hc : lett c = true) (hr : Nod r) (hw : w.length ≤ 300) (e : rd 300 r w = none) : anyL ((c :: t) ++ r) = none := by
  refine any_of (lett_45 hc) ?_
  have := h.2.2.2.2 r [] hr (by simpa using hw)
  rw [List.nil_append] at this
  exact this.trans e
/-- texts that are none, values that are no text -/
def OT (K : PySem.W.Frag) (H : Hp) (v : V) : Prop := (∃ l, v = T l ∧ l.length ≤ 100000 ∧ anyL l = none) ∨ NotS K H v
theorem OT.same {K : PySem.W.Frag} {H H' : Hp} {v : V} (h : OT K H v) (s : Same H H') : OT K H' v := h.imp id fun z => z.same s
theorem OT.of {K : PySem.W.Frag} {H : Hp} {l : List Nat} (h : anyL l = none) (hl : l.length ≤ 100000) : OT K H (T l) := .inl ⟨l, rfl, hl, h⟩
theorem Tps.app {H : Hp} {xs ys : List V} {ts us : List (List V)} (h : Tps H xs ts) (k : Tps H ys us) : Tps H (xs ++ ys) (ts ++ us) := by
  obtain ⟨hl, hh⟩ := h
  obtain ⟨kl, kk⟩ := k
  refine ⟨by simp [hl, kl], fun i hi => ?_⟩
  rw [List.length_append] at hi
  by_cases hlt : i < ts.length
  · obtain ⟨b', e1, e2⟩ := hh i hlt
    refine ⟨b', ?_, ?_⟩
    · rw [List.getD_eq_getElem?_getD, List.getElem?_append_left (by omega), ← List.getD_eq_getElem?_getD]; exact e1
    · rw [List.getD_eq_getElem?_getD, List.getElem?_append_left hlt, ← List.getD_eq_getElem?_getD]; exact e2
  · obtain ⟨b', e1, e2⟩ := kk (i - ts.length) (by omega)
    refine ⟨b', ?_, ?_⟩
    · rw [List.getD_eq_getElem?_getD, List.getElem?_append_right (by omega), ← List.getD_eq_getElem?_getD, hl]; exact e1
    · rw [List.getD_eq_getElem?_getD, List.getElem?_append_right (by omega), ← List.getD_eq_getElem?_getD]; exact e2
/-- the texts near a letter that are none -/
theorem odd_sign {c : Nat} (hc : lett c = true) : ∀ x ∈ [[c] ++ [49], [c] ++ [48], [c] ++ [48, 50], [c] ++ [48, 48, 50], [50] ++ [c], [48], [50], [49, 50], [], [32], [45, 45], [10],
    [c] ++ [51, 48, 49], [c] ++ [49, 48, 48, 48], [c] ++ repL [57] 60, [c] ++ [50] ++ [c] ++ [50, 57, 57], [c] ++ [51, 48, 48] ++ [c],
    [c] ++ [45, 50], [c] ++ [43, 50], [c] ++ [50, 32], [c] ++ [48, 48], [c] ++ [50, 46], [c] ++ [49, 95, 48], [c] ++ [48, 120, 50],
    [c] ++ [50] ++ [c] ++ [48, 49], [c] ++ [9, 50], [c] ++ [50, 10], repL [c] 301, repL [c] 200 ++ [up1 c] ++ [49, 48, 49], [c] ++ [48, 51, 48, 48]], anyL x = none ∧ x.length ≤ 100000 := by
  have hn : ∀ {r : List Nat} {x : Nat}, dig x = false → Nod (x :: r) := fun h => .inr h
  have n0 : Nod [] := .inl rfl
  have hdc := dig_lett hc
  have one : ∀ d : List Nat, (∀ x ∈ d, dig x = true) → timesL d = none → anyL ([c] ++ d) = none := fun d hd ht => by
    have := any_bad1 (r := []) hc hd n0 ht
    rwa [List.append_nil] at this
  have wb : ∀ n, 1 < n → n < 1000 → Wr 300 ([c] ++ dec n) (repL [c] n) := fun n h1 h2 => Wr.dec hc h1 h2
  have l1 : ∀ n, (repL [c] n).length = n := fun n => by rw [repL_len, List.length_singleton, Nat.mul_one]
  have d2 : dec 2 = [50] := by decide
  have d300 : dec 300 = [51, 48, 48] := by decide
  have sg : ∀ x (l : List Nat), lett x = false → dig x = false → x ∈ l → (2 ≤ l.length ∨ x ≠ 45) → anyL l = none := fun x l h1 h2 h3 h4 => any_sign h1 h2 h3 h4
  have hu := up1_lett hc
  intro x hx
  simp only [List.mem_cons, List.not_mem_nil, or_false] at hx
  rcases hx with rfl | rfl | rfl | rfl | rfl | rfl | rfl | rfl | rfl | rfl | rfl | rfl | rfl | rfl | rfl | rfl | rfl | rfl | rfl | rfl | rfl | rfl | rfl | rfl | rfl | rfl | rfl | rfl | rfl | rfl
  · exact ⟨one _ (by decide) (by decide), by simp⟩
  · exact ⟨one _ (by decide) (by decide), by simp⟩
  · exact ⟨one _ (by decide) (by decide), by simp⟩
  · exact ⟨one _ (by decide) (by decide), by simp⟩
  · exact ⟨any_of (by decide) (rd_bad0 (by decide)), by simp⟩
  · exact ⟨any_of (by decide) (rd_bad0 (by decide)), by simp⟩
  · exact ⟨any_of (by decide) (rd_bad0 (by decide)), by simp⟩
  · exact ⟨any_of (by decide) (rd_bad0 (by decide)), by simp⟩
  · refine ⟨?_, by simp⟩
    unfold anyL rowL
    rw [if_neg (by decide), rd_nil]; rfl
  · exact ⟨any_of (by decide) (rd_bad0 (by decide)), by simp⟩
  · exact ⟨sg 45 _ (by decide) (by decide) (by decide) (.inl (by decide)), by simp⟩
  · exact ⟨any_of (by decide) (rd_bad0 (by decide)), by simp⟩
  · refine ⟨?_, by simp⟩
    have := any_over1 (t := 301) (d := [51, 48, 49]) (r := []) hc (by decide) n0 (by decide) (by decide)
    rwa [List.append_nil] at this
  · exact ⟨one _ (by decide) (by decide), by simp⟩
  · refine ⟨one _ (fun x hx => ?_) ?_, by simp [repL_len]⟩
    · rw [rep1] at hx; rw [List.eq_of_mem_replicate hx]; decide
    · unfold timesL
      rw [if_neg, if_pos (by rw [repL_len]; decide)]
      intro z
      have := congrArg List.length z
      rw [repL_len] at this
      cases this
  · refine ⟨?_, by simp⟩
    have h2 := wb 2 (by decide) (by decide)
    rw [d2] at h2
    have := any_then (r := [c] ++ [50, 57, 57] ++ []) h2 hc (hn hdc) (by rw [l1]; decide) (rd_over (t := 299) (by decide) n0 (by decide) (by rw [l1]; decide))
    exact this
  · refine ⟨?_, by simp⟩
    have h2 := wb 300 (by decide) (by decide)
    rw [d300] at h2
    have := any_then (r := [c] ++ [] ++ []) h2 hc (hn hdc) (by rw [l1]; decide) (rd_over (t := 1) (fun x hx => nomatch hx) n0 rfl (by rw [l1]; decide))
    exact this
  · exact ⟨sg 45 _ (by decide) (by decide) (by simp) (.inl (by simp)), by simp⟩
  · exact ⟨sg 43 _ (by decide) (by decide) (by simp) (.inr (by decide)), by simp⟩
  · exact ⟨sg 32 _ (by decide) (by decide) (by simp) (.inr (by decide)), by simp⟩
  · exact ⟨one _ (by decide) (by decide), by simp⟩
  · exact ⟨sg 46 _ (by decide) (by decide) (by simp) (.inr (by decide)), by simp⟩
  · exact ⟨sg 95 _ (by decide) (by decide) (by simp) (.inr (by decide)), by simp⟩
  · exact ⟨any_bad1 (d := [48]) (r := [120, 50]) hc (by decide) (hn (by decide)) (by decide), by simp⟩
  · refine ⟨?_, by simp⟩
    have h2 := wb 2 (by decide) (by decide)
    rw [d2] at h2
    exact any_then (r := [c] ++ [48, 49] ++ []) h2 hc (hn hdc) (by rw [l1]; decide) (rd_none (by decide) n0 (by decide))
  · exact ⟨sg 9 _ (by decide) (by decide) (by simp) (.inr (by decide)), by simp⟩
  · exact ⟨sg 10 _ (by decide) (by decide) (by simp) (.inr (by decide)), by simp⟩
  · refine ⟨?_, by rw [l1]; decide⟩
    have e : repL [c] 301 = (c :: repL [c] 299) ++ ([c] ++ [] ++ []) := by
      rw [rep1, rep1, ← List.replicate_succ]
      exact List.replicate_succ' (n := 300)
    rw [e]
    have hw : Wr 300 (c :: repL [c] 299) (repL [c] 300) := by
      have := Wr.rep (most := 300) hc 300
      have e2 : repL [c] 300 = c :: repL [c] 299 := by rw [rep1, rep1, ← List.replicate_succ]
      rw [← e2]; exact this
    exact any_then hw hc (hn hdc) (by rw [l1]; decide) (rd_over (t := 1) (fun x hx => nomatch hx) n0 rfl (by rw [l1]; decide))
  · refine ⟨?_, by rw [List.length_append, List.length_append, l1]; simp⟩
    have e : repL [c] 200 ++ [up1 c] ++ [49, 48, 49] = (c :: repL [c] 199) ++ ([up1 c] ++ [49, 48, 49] ++ []) := by
      rw [rep1, rep1, ← List.replicate_succ, List.append_nil, List.append_assoc]
    rw [e]
    have hw : Wr 300 (c :: repL [c] 199) (repL [c] 200) := by
      have := Wr.rep (most := 300) hc 200
      have e2 : repL [c] 200 = c :: repL [c] 199 := by rw [rep1, rep1, ← List.replicate_succ]
      rw [← e2]; exact this
    exact any_then hw hc (hn (dig_lett hu)) (by rw [l1]; decide) (rd_over (t := 101) (by decide) n0 (by decide) (by rw [l1]; decide))
  · exact ⟨one _ (by decide) (by decide), by simp⟩
end NX
namespace NX
open PySem PySem.Spec PyProof.Rows L2
/-! ### sets of texts: set(list of texts), sorted(set) -/
def keyT (e : Int × Value) : Str := PyProof.Rows.strOf e.2
def GoodT (w : World) (e : Int × Value) : Prop := ∃ k tk, e.2 = Value.str k tk ∧ e.1 = hashStr w k

/-- the set of ints at a: S its members, n their number; its table rises and can be walked -/
def SetT (w : World) (h : Heap) (a : Addr) (S : Str → Bool) (n : Nat) : Prop :=
  ∃ o es ep t, h.get? a = some o ∧ o.ExactSet ∧ o.data = .set es ep t ∧ (∀ e ∈ es.toList, GoodT w e) ∧ (es.toList.map keyT).Nodup ∧ (∀ k, S k = true ↔ k ∈ es.toList.map keyT) ∧
    es.size < scanBound ∧ t.fits es.size = true ∧ es.size = n ∧ Ris t.place.toList ∧ (w.params.followText "set-order" = true ∨ t.led = true)

section
variable {P : Program} {w : World} {h h' : Heap} {a : Addr} {S : Str → Bool} {n : Nat}

theorem SetT.at (R : SetT w h a S n) (k : ∀ o, h.get? a = some o → h'.get? a = some o) : SetT w h' a S n := by
  obtain ⟨o, es, ep, t, ho, r⟩ := R
  exact ⟨o, es, ep, t, k o ho, r⟩
theorem SetT.lt (R : SetT w h a S n) : a < h.objs.size := by
  obtain ⟨o, es, ep, t, ho, r⟩ := R
  exact Heap.lt_size ho
theorem SetT.congr {S' : Str → Bool} (R : SetT w h a S n) (e : ∀ k, S' k = S k) : SetT w h a S' n := by
  have q : S' = S := funext e
  rw [q]; exact R
theorem goodT_elems {l : List (Int × Value)} (g : ∀ e ∈ l, GoodT w e) : ElemsOf (PySem.strKind P w) l := fun e he => by
  obtain ⟨k, tk, h1, h2⟩ := g e he
  exact ⟨⟨k, by rw [h1]; exact PySem.strKind_is P w k tk, h2⟩, by rw [h1] <;> rfl⟩
theorem goodT_is {e : Int × Value} (g : GoodT w e) (k : Str) : (PySem.strKind P w).is k e.2 = true ↔ keyT e = k := by
  obtain ⟨k0, tk, h1, _⟩ := g
  unfold keyT
  rw [h1]
  show ((k0 == k) = true) ↔ k0 = k
  exact beq_iff_eq
theorem goodT_mem {l : List (Int × Value)} (g : ∀ e ∈ l, GoodT w e) (k : Str) : k ∈ l.map keyT ↔ ∃ e ∈ l, (PySem.strKind P w).is k e.2 = true := by
  rw [List.mem_map]
  constructor
  · rintro ⟨e, he, q⟩
    exact ⟨e, he, (goodT_is (g e he) k).2 q⟩
  · rintro ⟨e, he, q⟩
    exact ⟨e, he, (goodT_is (g e he) k).1 q⟩
theorem SetT.setOf (R : SetT w h a S n) : h.SetOf (PySem.strKind P w) a S n := by
  obtain ⟨o, es, ep, t, ho, hx, hd, g, nd, hm, hb, hf, hn, _⟩ := R
  exact ⟨o, es, ep, t, ho, hx, hd, goodT_elems g, fun k => (hm k).trans (goodT_mem g k), hb, hf, hn⟩

section
variable {P : Program} {w : World} {A : Around} {E : Value → Shared → Prop} {s : Shared} {a : Addr} {S : Str → Bool} {n : Nat}
theorem setT_add_tail {g : Bool → Sem Unit} (hg : ∀ (b : Bool) (s₁ : Shared) (Q' : Unit → Shared → Prop), Q' () s₁ → wpAny (model P w) A (g b) Q' E s₁)
    {o : Obj} {es : Array (Int × Value)} {ep : Nat} {t : SetTable} (ho : s.heap.get? a = some o) (hex : o.ExactSet) (hd : o.data = .set es ep t)
    {es1 : Array (Int × Value)} {t2 : SetTable} {S' : Str → Bool} (g1 : ∀ e ∈ es1.toList, GoodT w e) (nd1 : (es1.toList.map keyT).Nodup) (m1 : ∀ k, S' k = true ↔ k ∈ es1.toList.map keyT)
    (hb1 : es1.size < scanBound) (hf2 : t2.fits es1.size = true) (hr : Ris t2.place.toList) (hl : w.params.followText "set-order" = true ∨ t2.led = true) {wasDummy : Bool} {R : Option Bool → Shared → Prop}
    (hR : ∀ h', Heap.SameBut a s.heap h' → SetT w h' a S' es1.size → R (some true) { s with heap := h' }) :
    wpAny (model P w) A (do
        storeSet a es1 t2
        if (!wasDummy && t2.tooFull) = true then do
            g (relayAll t2 es1 (SetTable.grown es1.size)).2.2
            storeSet a (relayAll t2 es1 (SetTable.grown es1.size)).1 (relayAll t2 es1 (SetTable.grown es1.size)).2.1
            pure (some true)
          else pure (some true)) R E s := by
  refine wpAny_bind (wpAny_storeSet_of ho hd ?_ (fits_of_scanBound hb1))
  have ho1 := store_at (es' := es1) (t' := t2) ho hd
  have sb1 := Heap.SameBut.update s.heap a (Obj.putSet es1 t2)
  split
  · have pm := relayAll_perm t2 es1 (SetTable.grown es1.size)
    have hf3 := relayAll_fits t2 es1 (SetTable.grown es1.size)
    have hr3 := relayAll_ris t2 es1 (SetTable.grown es1.size)
    have hl3 := relayAll_led t2 es1 (SetTable.grown es1.size)
    generalize relayAll t2 es1 (SetTable.grown es1.size) = Z at pm hf3 hr3 hl3 ⊢
    obtain ⟨es2, t3, gave⟩ := Z
    dsimp only at pm hf3 hr3 hl3 ⊢
    have hsz : es2.size = es1.size := by rw [← Array.length_toList, pm.length_eq, Array.length_toList]
    have hb2 : es2.size < scanBound := by rw [hsz]; exact hb1
    refine wpAny_bind (hg _ _ _ ?_)
    refine wpAny_bind (wpAny_storeSet_of ho1 rfl ?_ (fits_of_scanBound hb2))
    have ho2 := store_at (es' := es2) (t' := t3) ho1 rfl
    refine wpAny_pure (hR _ (sb1.trans (Heap.SameBut.update _ a _)) ?_)
    exact ⟨_, es2, _, t3, ho2, hex, rfl, fun e he => g1 e (pm.mem_iff.mp he), (pm.map keyT).nodup_iff.mpr nd1, fun k => (m1 k).trans (pm.map keyT).mem_iff.symm, hb2, hf3, hsz, hr3,
      hl.imp id fun z => by rw [hl3]; exact z⟩
  · exact wpAny_pure (hR _ sb1 ⟨_, es1, _, t2, ho1, hex, rfl, g1, nd1, m1, hb1, hf2, rfl, hr, hl⟩)

theorem setT_add_hashed {k : Str} {tk : Tok} {Q : Bool → Shared → Prop} (R : SetT w s.heap a S n) (room : n + 1 < scanBound)
    (hQ : ∀ h', Heap.SameBut a s.heap h' → SetT w h' a (fun j => S j || decide (j = k)) (if S k = true then n else n + 1) → Q (!S k) { s with heap := h' }) :
    wpAny (model P w) A (setAddHashed a (.str k tk) ((PySem.strKind P w).hash k)) Q E s := by
  obtain ⟨o, es, ep, t, ho, hex, hd, g, nd, hm, hb, hf, hn, hr, hl⟩ := R
  have hkey : (PySem.strKind P w).is k (.str k tk) = true := PySem.strKind_is P w k tk
  have hsc : (Value.str k tk).scannable = true := rfl
  have hel : ElemsOf (PySem.strKind P w) es.toList := goodT_elems g
  unfold setAddHashed setAddHashedIn
  refine wpAny_holding (wpAny_bind (wpAny_setState_of ho hd hf ?_))
  dsimp only
  rw [byScan_of hsc hb hel]
  simp only [↓reduceIte]
  unfold setAddByScan
  refine wpAny_bind ?_
  refine wpAny_bind (wpAny_rule ?_)
  refine wpAny_bind (wpAny_setScan_of hkey ho hd hf hel ?_)
  cases hfi : List.findIdx? (fun e => (PySem.strKind P w).is k e.2) es.toList with
  | some j =>
    dsimp only
    obtain ⟨hj, pj, _⟩ := List.findIdx?_eq_some_iff_getElem.mp hfi
    have hSk : S k = true := (hm k).2 ((goodT_mem (P := P) (w := w) g k).2 ⟨es.toList[j], List.getElem_mem hj, pj⟩)
    refine wpAny_pure (wpAny_pure ?_)
    have q := hQ s.heap (Heap.SameBut.refl a s.heap) ⟨o, es, ep, t, ho, hex, hd, g, nd, fun i => by
      rw [Bool.or_eq_true, decide_eq_true_eq, ← hm i]
      exact ⟨fun z => z.elim id (fun e => e ▸ hSk), .inl⟩, hb, hf, by rw [if_pos hSk]; exact hn, hr, hl⟩
    rw [hSk] at q
    exact q
  | none =>
    dsimp only
    have hnk : k ∉ es.toList.map keyT := fun z => by
      obtain ⟨e, he, q⟩ := (goodT_mem (P := P) (w := w) g k).1 z
      have c := List.findIdx?_eq_none_iff.mp hfi e he
      rw [q] at c
      cases c
    have hSk : S k = false := by
      cases q : S k with
      | false => rfl
      | true => exact absurd ((hm k).1 q) hnk
    have hgw : ∀ (b : Bool) {s₁ : Shared} {Q' : Unit → Shared → Prop}, Q' () s₁ → wpAny (model P w) A (match b with | true => rule "set.scan.the-table-gave-way" | false => pure ()) Q' E s₁ :=
      fun b s₁ Q' q => by cases b <;> first | exact wpAny_pure q | exact wpAny_rule q
    have pm := layNew_perm t es ((PySem.strKind P w).hash k) (.str k tk)
    have hf1 := layNew_fits t es ((PySem.strKind P w).hash k) (.str k tk)
    have hr1 := layNew_ris t es ((PySem.strKind P w).hash k) (.str k tk) hr
    have hl1 := layNew_led t es ((PySem.strKind P w).hash k) (.str k tk)
    generalize layNew t es ((PySem.strKind P w).hash k) (.str k tk) = Z at pm hf1 hr1 hl1 ⊢
    obtain ⟨es1, t1, wasDummy, gave⟩ := Z
    dsimp only at pm hf1 hr1 hl1 ⊢
    rw [Array.toList_push] at pm
    have pc : es1.toList.Perm (((PySem.strKind P w).hash k, Value.str k tk) :: es.toList) := pm.trans (List.perm_append_singleton _ _)
    have pk : (es1.toList.map keyT).Perm (k :: es.toList.map keyT) := pc.map keyT
    have g1 : ∀ e ∈ es1.toList, GoodT w e := fun e he => by
      rcases List.mem_cons.mp (pc.mem_iff.mp he) with z | z
      · rw [z]; exact ⟨k, tk, rfl, rfl⟩
      · exact g e z
    have nd1 : (es1.toList.map keyT).Nodup := pk.nodup_iff.mpr (List.nodup_cons.mpr ⟨hnk, nd⟩)
    have m1 : ∀ i, (S i || decide (i = k)) = true ↔ i ∈ es1.toList.map keyT := fun i => by
      rw [Bool.or_eq_true, decide_eq_true_eq, hm i, pk.mem_iff, List.mem_cons]
      exact Or.comm
    have hsz : es1.size = n + 1 := by rw [← Array.length_toList, pc.length_eq, List.length_cons, Array.length_toList, hn]
    have hb1 : es1.size < scanBound := by rw [hsz]; exact room
    have hled : w.params.followText "set-order" = true ∨ t1.led = true := hl.imp id fun z => by rw [hl1]; exact z
    have fin : ∀ h', Heap.SameBut a s.heap h' → SetT w h' a (fun j => S j || decide (j = k)) es1.size → Q true { s with heap := h' } := fun h' sb r => by
      have q := hQ h' sb
      rw [hSk] at q
      rw [hsz] at r
      exact q r
    refine wpAny_bind (hgw _ ?_)
    split
    · refine wpAny_bind ?_
      rw [hashByValue_scannable 8 hsc]
      refine wpAny_pure ?_
      refine setT_add_tail ?_ ho hex hd g1 nd1 m1 hb1 ?_ ?_ ?_ ?_
      · intro b s₁ Q' q; cases b <;> first | exact wpAny_pure q | exact wpAny_rule q
      · first | (split <;> first | exact hf1 | exact SetTable.fits_plain_off hf1) | exact hf1
      · first | (split <;> exact hr1) | exact hr1
      · first | (split <;> exact hled) | exact hled
      · intro h' sb r; dsimp only; exact wpAny_pure (fin h' sb r)
    · refine wpAny_bind (wpAny_pure ?_)
      simp only [↓reduceIte]
      refine setT_add_tail ?_ ho hex hd g1 nd1 m1 hb1 hf1 hr1 hled ?_
      · intro b s₁ Q' q; cases b <;> first | exact wpAny_pure q | exact wpAny_rule q
      · intro h' sb r; dsimp only; exact wpAny_pure (fin h' sb r)

end
theorem setT_new_at {w : World} {h : Heap} {a : Addr} {ns : List Str} (ho : h.get? a = some { cls := .type "set", dict := none, data := .set #[] 0 (.fresh 0 0 (!w.params.followText "set-order")) }) : SetT w h a (fun j => decide (j ∈ ns.take 0)) 0 :=
  ⟨_, #[], 0, _, ho, ⟨rfl, rfl, rfl⟩, rfl, (fun e he => by simp at he), (by simp), (fun k => by simp), (by decide), (by rfl), rfl, List.Pairwise.nil, by
    show _ ∨ (!w.params.followText "set-order") = true
    cases w.params.followText "set-order"
    · exact .inr rfl
    · exact .inl rfl⟩
section
variable {P : Program} {w : World} {A : Around} {E : Value → Shared → Prop} {s : Shared}
theorem set_update_texts {I : Addr} {fp wr : List Addr} {G : Array GenState → Array GenState → Prop} {n : Nat} {Pv : Nat → Value → Prop} {St : Nat → Shared → Prop} {R : Result → Shared → Prop}
    (W : WalksS P w A.in1 I fp wr G n Pv St) (S : Addr) (hSf : S ∉ fp) (ns : List Str) (hn : n = ns.length) (hb : ns.length + 1 < scanBound) (hval : ∀ i v, Pv i v → ∃ k t, ns[i]? = some k ∧ v = .str k t) :
    ∀ (k i : Nat) (s : Shared), n - i = k → i ≤ n → St i s → (∃ c, c ≤ i ∧ SetT w s.heap S (fun j => decide (j ∈ ns.take i)) c) →
      (∀ s' c, Moved (S :: wr) G s s' → c ≤ n → SetT w s'.heap S (fun j => decide (j ∈ ns)) c → R (.ok (.ret .none)) s') →
      codeAny (model P w) A (.builtin "set.update.loop" ⟨[.ref S, .ref I], []⟩) R s := by
  have hSw : S ∉ wr := fun h => hSf (W.sub _ h)
  have hsub : ∀ b ∈ wr, b ∈ S :: wr := fun b hb => List.mem_cons_of_mem _ hb
  intro k
  induction k with
  | zero =>
    intro i s hk' hi hst ⟨c, hc, hS⟩ hR
    have hin : i = n := by omega
    subst hin
    refine codeAny_builtin F.entry_set_update_loop ?_
    rw [Around.under_plainId F.plain_set_update_loop _]
    show wpAny _ A.in1 (pyNext (.ref I) >>= _) _ _ s
    refine wpAny_bind (W.done s _ _ hst fun s' hm => ?_)
    show wpAny _ A.in1 (ret Value.none) _ _ s'
    have e : ns.take i = ns := List.take_of_length_le (by omega)
    rw [e] at hS
    exact wpAny_pure (hR s' c (hm.mono hsub) hc (hS.at fun o e => hm.heap S o hSw e))
  | succ k ih =>
    intro i s hk' hi hst ⟨c, hc, hS⟩ hR
    have hlt : i < n := by omega
    refine codeAny_builtin F.entry_set_update_loop ?_
    rw [Around.under_plainId F.plain_set_update_loop _]
    show wpAny _ A.in1 (pyNext (.ref I) >>= _) _ _ s
    refine wpAny_bind (W.item i s _ _ hlt hst fun v s' hP hst' hm => ?_)
    obtain ⟨z, t, hz, rfl⟩ := hval i v hP
    have hS' : SetT w s'.heap S (fun j => decide (j ∈ ns.take i)) c := hS.at fun o e => hm.heap S o hSw e
    show wpAny _ A.in1 (holding [Value.str z t] (setAdd S (.str z t)) >>= _) _ _ s'
    refine wpAny_bind (wpAny_holding ?_)
    unfold setAdd
    refine wpAny_holding ?_
    refine wpAny_bind ((PySem.strKind P w).pyHash (k := z) (PySem.strKind_is _ _ _ _) ?_)
    refine setT_add_hashed (s := { s' with toks := s'.toks + 1 }) hS' (by omega) fun h' hsb hS2 => ?_
    have hS3 : SetT w h' S (fun j => decide (j ∈ ns.take (i + 1))) (if decide (z ∈ ns.take i) = true then c else c + 1) := hS2.congr fun j => by
      rw [List.take_add_one, hz]
      simp [List.mem_append]
    have hc3 : (if decide (z ∈ ns.take i) = true then c else c + 1) ≤ i + 1 := by
      split <;> omega
    refine wpAny_pure ⟨plainId_quiet F.plain_set_update_loop _, ih (i + 1) _ (by omega) hlt (W.frame _ s' _ _ hst' (Nat.le_succ _) fun b hb o e => ?_) ⟨_, hc3, hS3⟩ fun s'' c2 hm'' hc'' hS'' => ?_⟩
    · rw [hsb.2 b (fun h : b = S => hSf (by rw [← h]; exact hb))]; exact e
    · refine hR s'' c2 (Moved.trans W.gtrans ((hm.mono hsub).then_heap (Nat.le_succ _) fun b o hb e => ?_) hm'') hc'' hS''
      rw [hsb.2 b (fun h : b = S => hb (by rw [h]; exact List.mem_cons_self))]; exact e


set_option maxHeartbeats 3200000 in
theorem call_set_lstT {l : Addr} {items : Array Value} (ns : List Str) {Q : Value → Shared → Prop} (hh : A.handled = none) (hl : s.heap.IsList l items) (hit : StrsAre items.toList ns) (hb : ns.length + 1 < scanBound)
    (h : ∀ (h' : Heap) (tk c : Nat), SetT w h' s.heap.objs.size (fun j => decide (j ∈ ns)) c → c ≤ ns.length → (∀ b o, s.heap.get? b = some o → h'.get? b = some o) → Q (.ref s.heap.objs.size) { s with heap := h', toks := tk }) :
    wpAny (model P w) A (call (.type "set") [.ref l]) Q E s := by
  have hisz : items.size = ns.length := by
    rw [← StrsAre.len_eq hit, Array.length_toList]
  obtain ⟨c, tl, hmro⟩ := F.called_set.mro
  have hmade := F.called_set.made
  have hsub := F.called_set.sub
  refine wpAny_call (codeAny_of_tree ?_)
  show wpAny _ _ (callAny (.type "set") _) _ _ _
  refine wpAny_pure ⟨Code.quiet_builtin _ (by decide +kernel), codeAny_builtin F.entry_type_call ?_⟩
  rw [Around.under_plain (weight_type_call_type "set" [.ref l] []) rfl]
  have h1 := F.called_set.notType
  have h2 := F.called_set.canCreate
  have hct := F.typeCall_set_1 (.ref l)
  repeat (any_goals (first | assumption | wp_step))

  refine codeAny_mono (code_set_led1 (.ref l) (E := E) (Q₁ := fun obj s₁ => obj = .ref s.heap.objs.size ∧ s₁ = { s with heap := s.heap.push { cls := .type "set", dict := none, data := .set #[] 0 (.fresh 0 0 (!w.params.followText "set-order")) } }) ⟨rfl, rfl⟩) fun r s₁ hr => ?_
  cases r with
  | error e => exact hr
  | ok fl =>
    cases fl with
    | ret obj =>
      obtain ⟨rfl, rfl⟩ := hr
      have hS : (s.heap.push { cls := .type "set", dict := none, data := .set #[] 0 (.fresh 0 0 (!w.params.followText "set-order")) }).get? s.heap.objs.size = some { cls := .type "set", dict := none, data := .set #[] 0 (.fresh 0 0 (!w.params.followText "set-order")) } := Heap.get?_push_size _ rfl
      have hT : Shared.TypeIs { s with heap := s.heap.push { cls := .type "set", dict := none, data := .set #[] 0 (.fresh 0 0 (!w.params.followText "set-order")) } } (.ref s.heap.objs.size) "set" := ⟨_, hS, rfl⟩
      have hli := F.called_set.init.lookup
      have hbi := F.called_set.init.bind (.ref s.heap.objs.size)
      repeat (any_goals (first | assumption | wp_step))

      refine codeAny_mono (codeAny_call_builtin (R := wants (fun r s₂ => r = .none ∧ ∃ h' tk c, s₂ = { s with heap := h', toks := tk } ∧ SetT w h' s.heap.objs.size (fun j => decide (j ∈ ns)) c ∧ c ≤ ns.length ∧
          (∀ b o, s.heap.get? b = some o → h'.get? b = some o)) E) F.called_set.init.plain F.entry_set_init (check_set_init_1 hT ?_)) fun r₂ s₂ hr₂ => ?_
      · obtain ⟨ol, hol, hcl, nl, hdl⟩ := hl
        obtain ⟨ocls, odict, odata, oslots⟩ := ol
        simp only at hcl hdl
        subst hcl; subst hdl
        have hol' : (s.heap.push { cls := .type "set", dict := none, data := .set #[] 0 (.fresh 0 0 (!w.params.followText "set-order")) }).get? l = some { cls := .type "list", dict := odict, data := .seq items nl, slots := oslots } := Heap.get?_push_of_some _ hol
        have hsls := F.sub_list_set
        have hslf := F.sub_list_frozenset
        have hne : (Value.type "list" == Value.type "dict") = false := by decide
        have hl1 : (s.heap.push { cls := .type "set", dict := none, data := .set #[] 0 (.fresh 0 0 (!w.params.followText "set-order")) }).IsList l items := ⟨_, hol', rfl, nl, rfl⟩
        unfold Builtin.«set.__init__» noKeywords Builtin.Frozenset.updateFrom
        generalize hPI : pyIter = PI
        wp_walk
        subst hPI

        refine wpAny_pyIter_list hl1 ?_
        refine wpAny_bind (wpAny_runValue ?_)
        have hlS : l < s.heap.objs.size := Heap.lt_size hol
        have hh3 : A.in1.in1.in1.handled = none := by simp [hh]
        have hz1 : (s.heap.push { cls := .type "set", dict := none, data := .set #[] 0 (.fresh 0 0 (!w.params.followText "set-order")) }).objs.size = s.heap.objs.size + 1 := Heap.size_push ..
        have hneI : l ≠ (s.heap.push { cls := .type "set", dict := none, data := .set #[] 0 (.fresh 0 0 (!w.params.followText "set-order")) }).objs.size := by
          rw [Heap.size_push]; exact Nat.ne_of_lt (Nat.lt_succ_of_lt hlS)
        have hSf : s.heap.objs.size ∉ [(s.heap.push { cls := .type "set", dict := none, data := .set #[] 0 (.fresh 0 0 (!w.params.followText "set-order")) }).objs.size, l] := by
          rw [Heap.size_push]; simp only [List.mem_cons, List.mem_singleton, List.not_mem_nil, or_false, not_or]
          exact ⟨Nat.ne_of_lt (Nat.lt_succ_self _), Nat.ne_of_gt hlS⟩
        have hval : ∀ (i : Nat) (v : Value), items[i]? = some v → ∃ k t, ns[i]? = some k ∧ v = .str k t := fun i v hv => by
          have hi : i < ns.length := by rw [← hisz]; exact (Array.getElem?_eq_some_iff.mp hv).1
          obtain ⟨t, e⟩ := SS.strs_at hit i v (by rw [Array.getElem?_toList]; exact hv)
          refine ⟨ns[i], t, List.getElem?_eq_getElem hi, ?_⟩
          rw [e, List.getD_eq_getElem?_getD, List.getElem?_eq_getElem hi] <;> rfl
        refine set_update_texts ((Walks.list hh3 _ l hneI items).toS) s.heap.objs.size
          hSf ns hisz hb hval (items.size - 0) 0 _ (by omega) (Nat.zero_le _)
          ⟨⟨_, Heap.get?_push_size _ rfl, rfl, rfl⟩, (hl1.push _)⟩ ?hS0 ?hR
        case hS0 =>
          have hget : ((s.heap.push { cls := .type "set", dict := none, data := .set #[] 0 (.fresh 0 0 (!w.params.followText "set-order")) }).push { cls := .type "list_iterator", data := .fields #[.ref l, .int 0 0] }).get? s.heap.objs.size
              = some { cls := .type "set", dict := none, data := .set #[] 0 (.fresh 0 0 (!w.params.followText "set-order")) } := Heap.get?_push_of_some _ hS
          exact ⟨0, Nat.le_refl 0, setT_new_at hget⟩
        case hR =>
          intro s' c' hm hc' hS'
          obtain ⟨h', g2, d', tk', os'⟩ := s'
          have eg : g2 = s.gens := hm.gens
          have ed : d' = s.drawn := hm.drawn
          have eo : os' = s.os := hm.os
          subst eg; subst ed; subst eo
          show wpAny _ _ _ _ _ _
          refine wpAny_pure ?_
          show wpAny _ _ (ret Value.none) _ _ _
          rw [hisz] at hc'
          refine wpAny_pure ⟨rfl, h', tk', c', rfl, hS', hc', fun b o e => ?_⟩
          have hb0 : b < s.heap.objs.size := Heap.lt_size e
          have hb1 : b ≠ s.heap.objs.size := Nat.ne_of_lt hb0
          have hb2 : b ≠ (s.heap.push { cls := .type "set", dict := none, data := .set #[] 0 (.fresh 0 0 (!w.params.followText "set-order")) }).objs.size := by
            rw [Heap.size_push]; exact Nat.ne_of_lt (Nat.lt_succ_of_lt hb0)
          exact hm.heap b o (by simp only [List.mem_cons, List.mem_singleton, List.not_mem_nil, or_false, not_or]; exact ⟨hb1, hb2⟩) (Heap.get?_push_of_some _ (Heap.get?_push_of_some _ e))

      · cases r₂ with
        | error e => exact hr₂
        | ok fl₂ =>
          cases fl₂ with
          | ret r =>
            obtain ⟨rfl, h', tk, c', rfl, hS', hc', hk'⟩ := hr₂
            repeat (any_goals (first | assumption | wp_step))
            exact h _ _ _ hS' hc' hk'
          | _ => exact hr₂.elim
    | _ => exact hr.elim

end

end
section
variable {P : Program} {w : World} {A : Around} {E : Value → Shared → Prop} {s : Shared} {a : Addr}
theorem sorted_setT {S : Str → Bool} {n : Nat} {Q : Value → Shared → Prop} (R : SetT w s.heap a S n) (hh : A.handled = none) (h64 : n < 64)
    (hQ : ∀ s' p (out : Array Value) (c : Nat) (ns : List Str), (∀ b o, s.heap.get? b = some o → s'.heap.get? b = some o) → s'.gens = s.gens → s'.os = s.os → s.heap.objs.size ≤ p →
      s'.heap.get? p = some (seqObj "list" out c) → StrsAre out.toList ns → sortedS ns = true → ns.Nodup → (∀ k, k ∈ ns ↔ S k = true) → ns.length = n → Q (.ref p) s') :
    wpAny (model P w) A (call (.builtin "sorted") [.ref a]) Q E s := by
  obtain ⟨o, es, ep, t, ho, hex, hd, g, nd, hm, hb, hf, hn, hr, hl⟩ := R
  refine Calls.call_function_entry kind_sorted plain_sorted entry_sorted (args_sorted1 _) ?_
  unfold Builtin.«sorted»
  refine wpAny_bind (m := checkCount "sorted" 1 1 _) (wpAny_pure ?_)
  refine wpAny_bind (collect_set (A := A.in1) hh ⟨o, ho, hex.1, hd⟩ hf hb hr hl fun s1 vs k1 hz g1 o1 pm => ?_)
  have hvl : vs.length = n := by rw [pm.length_eq, List.length_map, Array.length_toList]; exact hn
  have hI : StrsAre vs (vs.map PyProof.Rows.strOf) := strsAre_map vs fun v hv => by
    obtain ⟨e, he, q⟩ := List.mem_map.mp (pm.mem_iff.mp hv)
    obtain ⟨k, tk, h1, _⟩ := g e he
    exact ⟨k, tk, by rw [← q]; exact h1⟩
  have pk : (vs.map PyProof.Rows.strOf).Perm (es.toList.map keyT) := by
    have q := pm.map PyProof.Rows.strOf
    rw [List.map_map] at q
    exact q
  refine wpAny_bind (wpAny_newList ?_ (by rw [hvl, sizeLine_eq]; omega))
  have hoL : (s1.heap.push (seqObj "list" vs.toArray 0)).get? s1.heap.objs.size = some (seqObj "list" vs.toArray 0) := Heap.get?_push_size _ rfl
  refine wpAny_bind (wpAny_holding (wpAny_call_entry slot_list_sort ⟨_, hoL, rfl⟩ entry_list_sort (list_sort_treeK strKind_oneLt hoL hI.keysOf (fun v₁ v₂ rest e => keyKind_strs (by rw [← e]; exact hI)) (by rw [hvl]; exact h64) fun st' hp hs => ⟨_, rfl, ?_⟩) (args_list_sort _)))
  obtain ⟨ns', a1, a2, a3⟩ := sorted_out_str hI hp hs
  obtain ⟨c, hc⟩ := sortedHeap_at (vs := vs) (out := (arrOf st').map (·.2)) hoL
  have pn : ns'.Perm (es.toList.map keyT) := a2.trans pk
  refine wpAny_pure ⟨_, rfl, hQ _ s1.heap.objs.size _ c ns' (fun b u e => ?_) g1 o1 hz hc a1 a3 (pn.nodup_iff.mpr nd) (fun k => by rw [pn.mem_iff, ← hm k]) ?_⟩
  · have q := k1 b u e
    have hlt := Heap.lt_size q
    show (sortedHeap (s1.heap.push (seqObj "list" vs.toArray 0)) s1.heap.objs.size vs ((arrOf st').map (·.2))).get? b = some u
    rw [sortedHeap_old (Nat.ne_of_lt hlt) (by rw [size_push']; exact Nat.lt_succ_of_lt hlt)]
    exact Heap.get?_push_of_some _ q
  · rw [pn.length_eq, List.length_map, Array.length_toList]; exact hn

end

section
variable {X : Cx}
/-- sorted(set(xs)), xs a list of texts -/
def tSortSet (K : PySem.W.Frag) (ta : TE) : TE := fun σ H Q => ta σ H fun x H1 => ∃ l, ∃ xs : List Str, x = .ref l ∧ SqL K H1 l (xs.map V.str) ∧ xs.length < 60 ∧
  ∀ (ys : List Str) (p : Addr), sortedS ys = true → ys.Nodup → (∀ k, k ∈ ys ↔ k ∈ xs) → H1 p = none → Q (.ref p) (upd H1 p (.lst (ys.map V.str)))
theorem pe_sortSet {a : Expr} {ta : TE} {p p2 q pos : Pos} (hc : X.calm = true) (hg : Gl X "sorted") (hm : X.mg "sorted" = none) (hg2 : Gl X "set") (hm2 : X.mg "set" = none) (ha : PE X a ta)
    (na : starEach [a] X.env = (false, eval a X.env) :: starEach [] X.env := by rfl) (hb : bootBuiltins "sorted" = some (.builtin "sorted") := by first | decide +kernel | rfl) : PE X (.Call (.Name "sorted" p) [.Call (.Name "set" p2) [a] [] q] [] pos) (tSortSet X.K ta) := by
  refine ⟨fun pins s σ H Q I h => ?_⟩
  refine Call_ (ld_blt I hg hm hb ?_)
  refine PyProof.Rows.callWith_builtin1 (PyProof.Rows.args_cons ?_ rfl) rfl rfl
  refine Call_ (ld_blt I hg2 hm2 boot_set ?_)
  refine PyProof.Rows.callWith_type1 (PyProof.Rows.args_cons (thn (ha.run pins s σ H _ I h) fun v s1 ⟨x, H1, I1, r1, q1⟩ => PyProof.Rows.args_nil ?_) na) na rfl
  obtain ⟨l, xs, rfl, hq, h1, q1⟩ := q1
  cases r1
  obtain ⟨its, r, pl, hz⟩ := I1.list hq
  have hlen : xs.length + 1 < scanBound := by unfold scanBound; omega
  refine call_set_lstT xs (I1.ok.hd hc) pl.isList (by simpa using strsAre_of r) hlen fun h' tk c hS hc' hk => ?_
  refine PyProof.Rows.args_nil ?_
  have I2 : Inv X pins σ H1 { s1 with heap := h', toks := tk } := I1.kept fun b o e => hk b o e
  generalize hss : ({ s1 with heap := h', toks := tk } : Shared) = s2 at *
  have hS2 : SetT X.w s2.heap s1.heap.objs.size (fun j => decide (j ∈ xs)) c := by rw [← hss]; exact hS
  refine sorted_setT hS2 (I1.ok.hd hc) (by omega) fun s' p out e ys k g o hp hg hi hs hn hm hl => ?_
  have hlen : (ys.map V.str).length ≤ sizeLine := by rw [List.length_map, hl, sizeLine_eq]; omega
  have hno : H1 p = none := I2.hok.fresh hp
  have J : Inv X pins σ (upd H1 p (.lst (ys.map V.str))) { s2 with heap := s'.heap, gens := s'.gens, drawn := s'.drawn, toks := s'.toks } :=
    I2.call (ch := []) (Un.laid k hp hno) (I2.hok.laid k hp ⟨hlen, out.toList, e, vals_of_strs hi, hg⟩) (by rw [g]; exact I2.bare) (fun _ z => nomatch z)
  have es : s' = { s2 with heap := s'.heap, gens := s'.gens, drawn := s'.drawn, toks := s'.toks } := by
    cases s'
    cases s2
    cases o
    rfl
  rw [es]
  exact ⟨.ref p, _, J, rfl, q1 ys p hs hn (fun k => (hm k).trans (by simp)) hno⟩
theorem pe_sortSetK (K : PySem.W.Frag) (hK : X.K = K := by rfl) {a : Expr} {ta : TE} {p p2 q pos : Pos} (hc : X.calm = true) (hg : Gl X "sorted") (hm : X.mg "sorted" = none) (hg2 : Gl X "set") (hm2 : X.mg "set" = none) (ha : PE X a ta)
    (na : starEach [a] X.env = (false, eval a X.env) :: starEach [] X.env := by rfl) (hb : bootBuiltins "sorted" = some (.builtin "sorted") := by first | decide +kernel | rfl) : PE X (.Call (.Name "sorted" p) [.Call (.Name "set" p2) [a] [] q] [] pos) (tSortSet K ta) := hK ▸ pe_sortSet hc hg hm hg2 hm2 ha na hb
end
section
variable {K : PySem.W.Frag} {ta : TE} {σ : L2.St} {H H1 : Hp} {Q : VK}
def SSet (K : PySem.W.Frag) (Q : VK) (x : V) (H1 : Hp) : Prop := ∃ l, ∃ xs : List Str, x = .ref l ∧ SqL K H1 l (xs.map V.str) ∧ xs.length < 60 ∧
  ∀ (ys : List Str) (p : Addr), sortedS ys = true → ys.Nodup → (∀ k, k ∈ ys ↔ k ∈ xs) → H1 p = none → Q (.ref p) (upd H1 p (.lst (ys.map V.str)))
theorem r_sortSet (h : ta σ H (SSet K Q)) : tSortSet K ta σ H Q := h
/-- a list of one-letter texts: the ascending letters -/
theorem r_ssetT {p : Addr} {ls : List Nat} (e : SqL K H p ((ls.map fun c => [c]).map T)) (hl : ls.length < 60) (h : ∀ (zs : List Nat) (d : Addr), zs.Pairwise (· < ·) → (∀ c, c ∈ zs ↔ c ∈ ls) → H d = none → Q (.ref d) (upd H d (.lst ((zs.map fun c => [c]).map T)))) : SSet K Q (.ref p) H := by
  refine ⟨p, (ls.map fun c => [c]).map mkS, rfl, ?_, ?_, fun ys d hs hn hm np => ?_⟩
  · have e2 : ((ls.map fun c => [c]).map mkS).map V.str = (ls.map fun c => [c]).map T := by rw [List.map_map]; rfl
    rw [e2]
    exact e
  · simpa using hl
  obtain ⟨zs, rfl⟩ : ∃ zs : List Nat, ys = (zs.map fun c => [c]).map mkS := by
    have : ∀ us : List Str, (∀ u ∈ us, ∃ c, u = mkS [c]) → ∃ zs : List Nat, us = (zs.map fun c => [c]).map mkS := by
      intro us
      induction us with
      | nil => intro _; exact ⟨[], rfl⟩
      | cons u us ih =>
        intro hu
        obtain ⟨c, rfl⟩ := hu _ List.mem_cons_self
        obtain ⟨zs, rfl⟩ := ih fun v hv => hu v (List.mem_cons_of_mem _ hv)
        exact ⟨c :: zs, rfl⟩
    refine this ys fun u hu => ?_
    obtain ⟨l, hl, rfl⟩ := List.mem_map.mp ((hm u).mp hu)
    obtain ⟨c, _, rfl⟩ := List.mem_map.mp hl
    exact ⟨c, rfl⟩
  have hmm : ∀ (us : List Nat) c, mkS [c] ∈ (us.map fun c => [c]).map mkS ↔ c ∈ us := fun us c => by
    rw [List.map_map]
    constructor
    · intro hc
      obtain ⟨d, hd, e⟩ := List.mem_map.mp hc
      have : [d] = [c] := by have := congrArg (fun s : Str => s.cps.toList) e; simpa [mkS] using this
      rw [← (List.cons.inj this).1]; exact hd
    · intro hc; exact List.mem_map.mpr ⟨c, hc, rfl⟩
  have h2 := h zs d ?_ (fun c => by rw [← hmm zs, ← hmm ls]; exact hm _) np
  · rw [show ((zs.map fun c => [c]).map mkS).map V.str = (zs.map fun c => [c]).map T by rw [List.map_map]; rfl]
    exact h2
  have hp := sorted_pw _ hs
  rw [List.map_map, List.pairwise_map] at hp
  have hd := hn
  rw [List.map_map, List.Nodup, List.pairwise_map] at hd
  refine (hp.and hd).imp fun {a b} h => ?_
  have h1 : [a] ≤ [b] := by simpa [mkS] using h.1
  have h3 : a ≠ b := fun z => h.2 (by rw [z])
  rcases Nat.lt_trichotomy a b with q | q | q
  · exact q
  · exact absurd q h3
  · exact absurd (List.cons_lt_cons_iff.mpr (.inl q)) (List.not_lt.mpr h1)
end
end NX
namespace NX
open PySem PySem.Spec PyProof.Rows L2
/-! ### rows that are kin: turns of a row or of its back -/
def kinB (a b : List Nat) : Bool := tnd a b || tnd a (bak b)
theorem kinB_iff (a b : List Nat) : kinB a b = true ↔ Turn b a ∨ Turn (bak b) a := by
  unfold kinB; rw [Bool.or_eq_true, tnd_iff, tnd_iff]
theorem Turn.bak {R S : List Nat} (h : Turn R S) : Turn (NX.bak R) (NX.bak S) := by
  obtain ⟨A, B, rfl, rfl⟩ := h
  exact ⟨NX.bak B, NX.bak A, bak_app A B, bak_app B A⟩
theorem kin_symm {a b : List Nat} (ha : Row a) (hb : Row b) : kinB a b = kinB b a := by
  have h : ∀ {x y : List Nat}, Row x → Row y → kinB x y = true → kinB y x = true := fun {x y} hx hy h => by
    rw [kinB_iff] at h ⊢
    rcases h with h | h
    · exact .inl h.symm
    · have := h.symm.bak
      rw [bak_bak hy] at this
      exact .inr this
  rw [Bool.eq_iff_iff]
  exact ⟨h ha hb, h hb ha⟩
theorem kin_turn {a b c : List Nat} (h : Turn b c) : kinB a c = kinB a b := by
  rw [Bool.eq_iff_iff, kinB_iff, kinB_iff]
  exact ⟨fun z => z.imp (fun z => h.trans z) (fun z => h.bak.trans z), fun z => z.imp (fun z => h.symm.trans z) (fun z => h.symm.bak.trans z)⟩
theorem kin_bak {a b : List Nat} (hb : Row b) : kinB a (bak b) = kinB a b := by
  rw [Bool.eq_iff_iff, kinB_iff, kinB_iff, bak_bak hb]
  exact Or.comm
theorem kin_refl (a : List Nat) : kinB a a = true := (kinB_iff _ _).mpr (.inl (Turn.refl a))
theorem kin_of {a b : List Nat} (h : Turn b a) : kinB a b = true := (kinB_iff _ _).mpr (.inl h)
theorem kin_trans {a b c : List Nat} (hb : Row b) (hc : Row c) (h1 : kinB a b = true) (h2 : kinB b c = true) : kinB a c = true := by
  rw [kinB_iff] at *
  rcases h1 with h1 | h1 <;> rcases h2 with h2 | h2
  · exact .inl (h2.trans h1)
  · exact .inr (h2.trans h1)
  · exact .inr (h2.bak.trans h1)
  · have := h2.bak; rw [bak_bak hc] at this; exact .inl (this.trans h1)
theorem kin_len {a b : List Nat} (h : kinB a b = true) : a.length = b.length := by
  rw [kinB_iff] at h
  rcases h with h | h
  · exact h.len.symm
  · have := h.len; rw [bak_len] at this; exact this.symm
/-! ### ring rows -/
theorem RR.row {a l : List Nat} (h : RR a l) (ha : Al a) : Row l := h.1.row ha
theorem RR.cy {a l : List Nat} (h : RR a l) (ha : Al a) : Cy l := by
  obtain ⟨h1, h2, h3, h4⟩ := h
  refine cy_of (h1.row ha) (free_of fun k hk => ?_) fun _ e => ?_
  · have := h4 (k + 1) hk
    rwa [show (k + 1 + l.length - 1) % l.length = k by rw [show k + 1 + l.length - 1 = k + l.length by omega, Nat.add_mod_right, Nat.mod_eq_of_lt (by omega)]] at this
  · have := h4 0 (by omega)
    rw [show (0 + l.length - 1) % l.length = l.length - 1 by rw [Nat.mod_eq_of_lt (by omega)]; omega, e] at this
    exact this (swp_swp ((h1.row ha) _ (getD_mem (by omega)))).symm
theorem rr_cy {a l : List Nat} (ho : RowOf a l) (hc : Cy l) (h1 : 1 ≤ l.length) (h2 : l.length ≤ 40) : RR a l := by
  refine rr_of hc.1 ho h1 h2 hc.free fun z => ?_
  have hf := hc.2
  have := free_at (l := l ++ l) (k := l.length - 1) hf (by rw [List.length_append]; omega)
  rw [show l.length - 1 + 1 = l.length by omega] at this
  rw [show (l ++ l).getD l.length 0 = l.getD 0 0 by rw [List.getD_eq_getElem?_getD, List.getElem?_append_right (Nat.le_refl _), Nat.sub_self, ← List.getD_eq_getElem?_getD],
    show (l ++ l).getD (l.length - 1) 0 = l.getD (l.length - 1) 0 by rw [List.getD_eq_getElem?_getD, List.getElem?_append_left (by omega), ← List.getD_eq_getElem?_getD]] at this
  exact this z.2
theorem RowOf.repL {a l : List Nat} (h : RowOf a l) : ∀ n, RowOf a (NX.repL l n)
  | 0 => fun c hc => by simp [NX.repL] at hc
  | n + 1 => fun c hc => by
    have e : NX.repL l (n + 1) = NX.repL l n ++ l := (repL_snoc l n).symm
    rw [e] at hc
    rcases List.mem_append.mp hc with hc | hc
    · exact RowOf.repL h n c hc
    · exact h c hc
theorem RR.rep {a l : List Nat} (h : RR a l) (ha : Al a) {n : Nat} (h1 : 1 ≤ n) (h2 : (repL l n).length ≤ 40) : RR a (repL l n) := by
  refine rr_cy (h.1.repL n) ((h.cy ha).rep n) ?_ h2
  rw [repL_len]
  exact Nat.mul_pos h1 h.2.1
theorem RR.turn {a l s : List Nat} (h : RR a l) (ha : Al a) (t : Turn l s) : RR a s := by
  have hl := t.len
  refine rr_cy ?_ ((h.cy ha).turn t) (by rw [← hl]; exact h.2.1) (by rw [← hl]; exact h.2.2.1)
  obtain ⟨A, B, rfl, rfl⟩ := t
  exact fun c hc => h.1 c (by rw [List.mem_append] at hc ⊢; exact hc.symm)
theorem RowOf.bak {a l : List Nat} (ha : Al a) (h : RowOf a l) : RowOf a (NX.bak l) := fun c hc => by
  unfold NX.bak at hc
  obtain ⟨d, hd, rfl⟩ := List.mem_map.mp hc
  have h1 := h d (List.mem_reverse.mp hd)
  rcases List.mem_append.mp h1 with z | z
  · have h2 := ha.2.2.1 d z
    refine List.mem_append_right _ (List.mem_map.mpr ⟨d, z, ?_⟩)
    unfold swp up1; split <;> split <;> omega
  · obtain ⟨e, he, rfl⟩ := List.mem_map.mp z
    have h2 := ha.2.2.1 e he
    refine List.mem_append_left _ ?_
    have : swp (up1 e) = e := by unfold swp up1; split <;> split <;> omega
    rw [this]; exact he
theorem RR.bak {a l : List Nat} (h : RR a l) (ha : Al a) : RR a (NX.bak l) := by
  have hc := h.cy ha
  refine rr_cy (h.1.bak ha) ⟨hc.1.bak, by rw [← bak_app]; exact free_bak (hc.1.app hc.1) hc.2⟩ ?_ ?_
  · rw [bak_len]; exact h.2.1
  · rw [bak_len]; exact h.2.2.1
/-! ### told rows -/
theorem told_nil (a : List Nat) : Told a [] := by
  refine ⟨by simp, ?_, ?_⟩
  · intro r hr; cases hr
  · intro i j h1 h2; exact absurd h2 (by simp)
theorem told_iff {a : List Nat} {rs : List (List Nat)} : Told a rs ↔ rs.length ≤ 6 ∧ (∀ r ∈ rs, RR a r) ∧ ∀ i j, i < j → j < rs.length → kinB (rs.getD j []) (rs.getD i []) = false := Iff.rfl
theorem Told.snoc {a : List Nat} {rs : List (List Nat)} {l : List Nat} (h : Told a rs) (hn : rs.length < 6) (hl : RR a l) (hk : ∀ r ∈ rs, kinB l r = false) : Told a (rs ++ [l]) := by
  obtain ⟨h1, h2, h3⟩ := h
  refine ⟨by rw [List.length_append, List.length_singleton]; omega, fun r hr => ?_, fun i j hij hj => ?_⟩
  · rcases List.mem_append.mp hr with z | z
    · exact h2 r z
    · rw [List.mem_singleton.mp z]; exact hl
  · rw [List.length_append, List.length_singleton] at hj
    have ei : (rs ++ [l]).getD i [] = rs.getD i [] := by rw [List.getD_eq_getElem?_getD, List.getElem?_append_left (by omega), ← List.getD_eq_getElem?_getD]
    by_cases c : j < rs.length
    · have ej : (rs ++ [l]).getD j [] = rs.getD j [] := by rw [List.getD_eq_getElem?_getD, List.getElem?_append_left c, ← List.getD_eq_getElem?_getD]
      rw [ei, ej]; exact h3 i j hij c
    · have ej : (rs ++ [l]).getD j [] = l := by
        have : j = rs.length := by omega
        rw [this, List.getD_eq_getElem?_getD, List.getElem?_append_right (Nat.le_refl _), Nat.sub_self]; rfl
      rw [ei, ej]
      exact hk _ (getD_memL (by omega))
/-! ### letters that are told -/
theorem nodup_le : ∀ (zs ls : List Nat), zs.Nodup → (∀ c ∈ zs, c ∈ ls) → zs.length ≤ ls.length
  | [], ls, _, _ => Nat.zero_le _
  | z :: zs, ls, hn, hm => by
    have hz := hm z List.mem_cons_self
    obtain ⟨n1, n2⟩ := List.nodup_cons.mp hn
    have := nodup_le zs (ls.erase z) n2 fun c hc => (List.mem_erase_of_ne (fun e : c = z => n1 (by rw [← e]; exact hc))).mpr (hm c (List.mem_cons_of_mem _ hc))
    rw [List.length_erase_of_mem hz] at this
    have := List.length_pos_of_mem hz
    rw [List.length_cons]; omega
theorem al_of {zs ls : List Nat} (h1 : zs.Pairwise (· < ·)) (h2 : ∀ c, c ∈ zs ↔ c ∈ ls) (h3 : ∀ c ∈ ls, 97 ≤ c ∧ c ≤ 122) (h4 : 0 < ls.length) (h5 : ls.length ≤ 4) : Al zs := by
  refine ⟨?_, ?_, fun c hc => h3 c ((h2 c).mp hc), h1⟩
  · obtain ⟨c, hc⟩ := List.exists_mem_of_length_pos h4
    exact List.length_pos_of_mem ((h2 c).mpr hc)
  · exact Nat.le_trans (nodup_le zs ls (h1.imp fun h => Nat.ne_of_lt h) fun c hc => (h2 c).mp hc) h5
/-! ### lists of rows, gone through -/
theorem fm_getL (ls : List (List Nat)) (g : List Nat → Option V) : (List.range ls.length).filterMap (fun i => g (ls.getD i [])) = ls.filterMap g := by
  have h : (List.range ls.length).map (fun i => ls.getD i []) = ls := by
    apply List.ext_getElem
    · simp
    · intro i h1 h2
      rw [List.getElem_map, List.getElem_range, List.getD_eq_getElem?_getD, List.getElem?_eq_getElem h2]; rfl
  conv => rhs; rw [← h, List.filterMap_map]
  rfl
theorem fm_keep (ls : List (List Nat)) (f : List Nat → Bool) : ls.filterMap (fun r => if f r = true then some (T r) else none) = (ls.filter f).map T := by
  induction ls with
  | nil => rfl
  | cons r ls ih =>
    rw [List.filterMap_cons, List.filter_cons]
    split
    · rename_i h; split at h
      · cases h
      · rename_i h2; rw [if_neg h2]; exact ih
    · rename_i v h; split at h
      · rename_i h2; cases h; rw [if_pos h2, List.map_cons, ih]
      · cases h
/-! ### asked of whatever -/
def NotU (K : PySem.W.Frag) (H : Hp) (v : V) : Prop := ∃ t, TyX K H v (.type t) ∧ kitB t "tuple" = some false
instance (a l : List Nat) : Decidable (RowOf a l) := inferInstanceAs (Decidable (∀ c ∈ l, c ∈ a ++ a.map up1))
instance (a l : List Nat) : Decidable (RR a l) := inferInstanceAs (Decidable (_ ∧ _ ∧ _ ∧ ∀ i, i < l.length → l.getD i 0 ≠ swp (l.getD ((i + l.length - 1) % l.length) 0)))
instance (a : List Nat) : Decidable (Al a) := inferInstanceAs (Decidable (_ ∧ _ ∧ (∀ c ∈ a, 97 ≤ c ∧ c ≤ 122) ∧ a.Pairwise (· < ·)))
theorem all_dec {α : Type} (l : List α) (p : α → Prop) [DecidablePred p] : (l.map fun c => decide (p c)).all id = decide (∀ c ∈ l, p c) := by
  rw [Bool.eq_iff_iff, List.all_eq_true, decide_eq_true_iff]
  constructor
  · intro h c hc
    have := h _ (List.mem_map.mpr ⟨c, hc, rfl⟩)
    simpa using this
  · intro h b hb
    obtain ⟨c, hc, rfl⟩ := List.mem_map.mp hb
    simpa using h c hc
theorem all_rng (n : Nat) (p : Nat → Prop) [DecidablePred p] : ((List.range n).map fun i => decide (p i)).all id = decide (∀ i, i < n → p i) := by
  rw [all_dec]
  exact decide_eq_decide.mpr ⟨fun h i hi => h i (List.mem_range.mpr hi), fun h i hi => h i (List.mem_range.mp hi)⟩
theorem one_ltd (x y : Nat) : decide ([x] < [y]) = decide (x < y) := by
  refine decide_eq_decide.mpr ?_
  rw [List.cons_lt_cons_iff]
  constructor
  · rintro (h | ⟨_, h⟩)
    · exact h
    · exact absurd h (List.not_lt_nil _)
  · exact .inl
theorem pw_adj {l : List Nat} (h : ∀ i, i + 1 < l.length → l.getD i 0 < l.getD (i + 1) 0) : l.Pairwise (· < ·) := by
  have h2 : ∀ (d i : Nat), i + d + 1 < l.length → l.getD i 0 < l.getD (i + d + 1) 0 := by
    intro d
    induction d with
    | zero => intro i hi; exact h i hi
    | succ d ih => intro i hi; exact Nat.lt_trans (ih i (by omega)) (h (i + d + 1) (by omega))
  rw [List.pairwise_iff_getElem]
  intro i j hi hj hij
  have := h2 (j - i - 1) i (by omega)
  rw [show i + (j - i - 1) + 1 = j by omega, List.getD_eq_getElem?_getD, List.getD_eq_getElem?_getD, List.getElem?_eq_getElem hi, List.getElem?_eq_getElem hj] at this
  exact this
/-- whether a row can stand behind others -/
def stB (a : List Nat) (es : List (List Nat)) (l : List Nat) : Bool := decide (es.length < 6) && (decide (RR a l) && es.all fun e => !kinB l e)
theorem Told.step {a : List Nat} {rs : List (List Nat)} {l : List Nat} (h : Told a rs) (hs : stB a rs l = true) : Told a (rs ++ [l]) := by
  unfold stB at hs
  rw [Bool.and_eq_true, Bool.and_eq_true, decide_eq_true_iff, decide_eq_true_iff, List.all_eq_true] at hs
  refine h.snoc hs.1 hs.2.1 fun r hr => ?_
  have := hs.2.2 r hr
  simpa using this
theorem Told.take {a : List Nat} {rs : List (List Nat)} (h : Told a rs) (n : Nat) : Told a (rs.take n) := by
  obtain ⟨h1, h2, h3⟩ := h
  refine ⟨by rw [List.length_take]; omega, fun r hr => h2 r (List.mem_of_mem_take hr), fun i j hij hj => ?_⟩
  rw [List.length_take] at hj
  have e : ∀ k, k < n → (rs.take n).getD k [] = rs.getD k [] := fun k hk => by rw [List.getD_eq_getElem?_getD, List.getElem?_take_of_lt hk, ← List.getD_eq_getElem?_getD]
  rw [e i (by omega), e j (by omega)]
  exact h3 i j hij (by omega)
theorem Told.stands {a : List Nat} {rs : List (List Nat)} (h : Told a rs) {i : Nat} (hi : i < rs.length) : stB a (rs.take i) (rs.getD i []) = true := by
  obtain ⟨h1, h2, h3⟩ := h
  unfold stB
  rw [decide_eq_true (show (rs.take i).length < 6 by rw [List.length_take]; omega), decide_eq_true (h2 _ (getD_memL hi)), Bool.true_and, Bool.true_and, List.all_eq_true]
  intro e he
  obtain ⟨j, hj, rfl⟩ := take_memL he
  have : kinB (rs.getD i []) (rs.getD j []) = false := h3 j i hj hi
  rw [this]; rfl
/-- what check_rows does with rows v: all stand (X), or the k-th does not (R k) -/
def RwsX (K : PySem.W.Frag) (H : Hp) (a : List Nat) (v : V) (X : Prop) (R : Nat → Prop) : Prop :=
  (∃ (p : Addr) (xs : List V) (rs : List (List Nat)), v = .ref p ∧ H p = some (.tup xs) ∧ xs.length ≤ 1000 ∧ xs.take rs.length = rs.map T ∧ Told a rs ∧
    ((rs.length = xs.length ∧ X) ∨ (rs.length < xs.length ∧ ((∃ l, xs.getD rs.length .non = T l ∧ l.length ≤ 5000 ∧ stB a rs l = false) ∨ NotS K H (xs.getD rs.length .non)) ∧ R rs.length))) ∨
  (NotU K H v ∧ R 0)
theorem NotU.same {K : PySem.W.Frag} {H H' : Hp} {v : V} (h : NotU K H v) (s : Same H H') : NotU K H' v := by
  obtain ⟨t, ty, k⟩ := h
  exact ⟨t, TyX.same ty s, k⟩
theorem RwsX.same {K : PySem.W.Frag} {H H' : Hp} {a : List Nat} {v : V} {X : Prop} {R : Nat → Prop} (h : RwsX K H a v X R) (s : Same H H') : RwsX K H' a v X R := by
  rcases h with ⟨p, xs, rs, rfl, ep, hl, hp, ht, q⟩ | ⟨hn, q⟩
  · exact .inl ⟨p, xs, rs, rfl, s _ _ ep, hl, hp, ht, q.imp id fun ⟨h1, h2, h3⟩ => ⟨h1, h2.imp id fun h => h.same s, h3⟩⟩
  · exact .inr ⟨hn.same s, q⟩
theorem RwsX.mono {K : PySem.W.Frag} {H : Hp} {a : List Nat} {v : V} {X Y : Prop} {R S : Nat → Prop} (h : RwsX K H a v X R) (hx : X → Y) (hr : ∀ k, R k → S k) : RwsX K H a v Y S := by
  rcases h with ⟨p, xs, rs, rfl, ep, hl, hp, ht, q⟩ | ⟨hn, q⟩
  · exact .inl ⟨p, xs, rs, rfl, ep, hl, hp, ht, q.imp (fun ⟨h1, h2⟩ => ⟨h1, hx h2⟩) fun ⟨h1, h2, h3⟩ => ⟨h1, h2, hr _ h3⟩⟩
  · exact .inr ⟨hn, hr _ q⟩
/-- what Rules(u, v) does -/
def RulX (K : PySem.W.Frag) (H : Hp) (u v : V) (X : List Nat → Addr → Prop) (L : Prop) (R : Nat → Prop) : Prop :=
  (((∃ l, u = T l ∧ l.length ≤ 5000 ∧ ¬ Al l) ∨ NotS K H u) ∧ L) ∨
  (∃ a, u = T a ∧ Al a ∧ ((∃ (p : Addr) (rs : List (List Nat)), v = .ref p ∧ H p = some (.tup (rs.map T)) ∧ Told a rs ∧ X a p) ∨ RwsX K H a v False R))
theorem RulX.same {K : PySem.W.Frag} {H H' : Hp} {u v : V} {X : List Nat → Addr → Prop} {L : Prop} {R : Nat → Prop} (h : RulX K H u v X L R) (s : Same H H') : RulX K H' u v X L R := by
  rcases h with ⟨h1, h2⟩ | ⟨a, h1, h2, h3⟩
  · exact .inl ⟨h1.imp id fun h => h.same s, h2⟩
  · exact .inr ⟨a, h1, h2, h3.imp (fun ⟨p, rs, e1, e2, e3⟩ => ⟨p, rs, e1, s _ _ e2, e3⟩) fun h => h.same s⟩
theorem RulX.mono {K : PySem.W.Frag} {H : Hp} {u v : V} {X Y : List Nat → Addr → Prop} {L M : Prop} {R S : Nat → Prop} (h : RulX K H u v X L R) (hx : ∀ a p, X a p → Y a p) (hl : L → M) (hr : ∀ k, R k → S k) : RulX K H u v Y M S := by
  rcases h with ⟨h1, h2⟩ | ⟨a, h1, h2, h3⟩
  · exact .inl ⟨h1, hl h2⟩
  · exact .inr ⟨a, h1, h2, h3.imp (fun ⟨p, rs, e1, e2, e3, e4⟩ => ⟨p, rs, e1, e2, e3, hx _ _ e4⟩) fun h => h.mono id hr⟩
/-! ### values that cannot be told -/
def OD (K : PySem.W.Frag) (w : Addr) (a : List Nat) (rs : List (List Nat)) (H : Hp) (v : V) : Prop :=
  (∃ l, v = T l ∧ l.length ≤ 400 ∧ (¬ RR a l ∨ ∃ r ∈ rs, kinB l r = true)) ∨ (NotS K H v ∧ v ≠ .ref w)
theorem OD.kp {K : PySem.W.Frag} {w : Addr} {a : List Nat} {rs : List (List Nat)} {H H' : Hp} {v : V} (h : OD K w a rs H v) (k : Kp w H H') : OD K w a rs H' v :=
  h.imp id fun ⟨h1, h2⟩ => ⟨h1.kp k h2, h2⟩
theorem rr_sign {a l : List Nat} {c : Nat} (ha : Al a) (h : lett c = false) (hc : c ∈ l) : ¬ RR a l := fun r => by
  have := (r.1.row ha) c hc
  rw [h] at this; cases this
theorem rr_out {a l : List Nat} {c : Nat} (h : c ∉ a ++ a.map up1) (hc : c ∈ l) : ¬ RR a l := fun r => h (r.1 c hc)
theorem out_lo {a : List Nat} {o : Nat} (ha : Al a) (h : o ∉ a) (ho : 97 ≤ o ∧ o ≤ 122) : o ∉ a ++ a.map up1 := fun z => by
  rcases List.mem_append.mp z with z | z
  · exact h z
  · obtain ⟨e, he, e2⟩ := List.mem_map.mp z
    have := ha.2.2.1 e he
    unfold up1 at e2; split at e2 <;> omega
theorem out_up {a : List Nat} {o : Nat} (ha : Al a) (h : o ∉ a) (ho : 97 ≤ o ∧ o ≤ 122) : up1 o ∉ a ++ a.map up1 := fun z => by
  have hu : up1 o = o - 32 := by unfold up1; split <;> omega
  rcases List.mem_append.mp z with z | z
  · have := ha.2.2.1 _ z; omega
  · obtain ⟨e, he, e2⟩ := List.mem_map.mp z
    have h1 := ha.2.2.1 e he
    have hu2 : up1 e = e - 32 := by unfold up1; split <;> omega
    have : e = o := by omega
    exact h (this ▸ he)
theorem rr_two {a : List Nat} {c d : Nat} (h : d = swp c ∨ c = swp d) : ¬ RR a [c, d] := fun r => by
  rcases h with h | h
  · have t := r.2.2.2 1 (by show 1 < 2; decide)
    simp at t; exact t h
  · exact r.2.2.2 0 (by simp) h
theorem rr_ends {a : List Nat} {c d e : Nat} (h : c = swp e) : ¬ RR a [c, d, e] := fun r => r.2.2.2 0 (by simp) h
theorem rr_long {a l : List Nat} (h : 40 < l.length) : ¬ RR a l := fun r => by have := r.2.2.1; omega
theorem rr_nil {a : List Nat} : ¬ RR a [] := fun r => by have := r.2.1; simp at this
theorem fm_outs (S a : List Nat) : S.filterMap (fun c => if decide (¬ (c ∈ a)) = true then some (T [c]) else none) = ((S.filter fun c => decide (¬ (c ∈ a))).map fun c => [c]).map T := by
  rw [fm_filter, List.map_map]; rfl
theorem out_ex {a : List Nat} (ha : Al a) (S : List Nat) (hn : S.Nodup) (hl : 4 < S.length) : ∃ o F, S.filter (fun c => decide (¬ (c ∈ a))) = o :: F ∧ o ∈ S ∧ o ∉ a := by
  cases e : S.filter (fun c => decide (¬ (c ∈ a))) with
  | nil =>
    have : ∀ c ∈ S, c ∈ a := fun c hc => by
      rcases Decidable.em (c ∈ a) with h | h
      · exact h
      · have : c ∈ S.filter (fun c => decide (¬ (c ∈ a))) := List.mem_filter.mpr ⟨hc, decide_eq_true h⟩
        rw [e] at this; cases this
    have := nodup_le S a hn this
    have := ha.2.1
    omega
  | cons o F =>
    have : o ∈ S.filter (fun c => decide (¬ (c ∈ a))) := by rw [e]; exact List.mem_cons_self
    obtain ⟨h1, h2⟩ := List.mem_filter.mp this
    exact ⟨o, F, rfl, h1, of_decide_eq_true h2⟩
/-- (text, None) against itself -/
theorem r_neSN {K : PySem.W.Frag} {H : Hp} {Q : VK} {p q : Addr} {a : List Nat} (h1 : SqT K H p [T a, .non]) (h2 : SqT K H q [T a, .non]) (ha : Asc a) (h : Q (.bl false) H) : rNeG K (.ref p) (.ref q) H Q := by
  have lay : PyData.canLayAll0 [PyData.str (mkS a), .none] = true := by
    show (PyData.strOk (mkS a) && (true && true)) = true
    rw [strOk_mk ha]; rfl
  have sh := shaped_tup (ds := [.str (mkS a), .none]) lay (by show (0:Nat) ≤ 60; decide)
  refine r_neD (c := True) (d := .tuple [.str (mkS a), .none]) (e := .tuple [.str (mkS a), .none]) (dp_allT (.cons (.str _) (.cons .non .nil)) h1) (dp_allT (.cons (.str _) (.cons .non .nil)) h2) sh sh (by rfl) (by rfl) ⟨fun _ => trivial, fun _ => rfl⟩ (by simpa using h)
/-! ### concrete kin -/
def kinD (a b : List Nat) : Bool := (List.range (b.length + 1)).any fun i => decide (a = rot b i) || decide (a = rot (bak b) i)
theorem kin_dec {a b : List Nat} (h : kinD a b = false) : kinB a b = false := by
  cases e : kinB a b with
  | false => rfl
  | true =>
    unfold kinD at h
    rw [List.any_eq_false] at h
    rw [kinB_iff] at e
    rcases e with e | e
    · obtain ⟨i, hi, e⟩ := e.rot
      have := h i (List.mem_range.mpr (by omega))
      rw [decide_eq_true e] at this
      exact absurd rfl this
    · obtain ⟨i, hi, e⟩ := e.rot
      rw [bak_len] at hi
      have := h i (List.mem_range.mpr (by omega))
      rw [decide_eq_true e, Bool.or_true] at this
      exact absurd rfl this
theorem kin_lens {a b : List Nat} (h : a.length ≠ b.length) : kinB a b = false := by
  cases e : kinB a b with
  | false => rfl
  | true => exact absurd (kin_len e) h
theorem told_of {a : List Nat} {rs : List (List Nat)} (h6 : rs.length ≤ 6) (h1 : ∀ r ∈ rs, RR a r) (h2 : ∀ j, j < rs.length → ∀ i, i < j → kinD (rs.getD j []) (rs.getD i []) = false) : Told a rs :=
  ⟨h6, h1, fun i j hij hj => kin_dec (h2 j hj i hij)⟩
/-- a ring row of the letters, by the letters it has -/
theorem rr_sub {a b l : List Nat} (hb : RR b l) (h : ∀ c ∈ b, c ∈ a) : RR a l := ⟨fun c hc => by
  rcases List.mem_append.mp (hb.1 c hc) with z | z
  · exact List.mem_append_left _ (h c z)
  · obtain ⟨d, hd, e⟩ := List.mem_map.mp z
    exact List.mem_append_right _ (List.mem_map.mpr ⟨d, h d hd, e⟩), hb.2⟩
theorem Told.sub {a b : List Nat} {rs : List (List Nat)} (ht : Told b rs) (h : ∀ c ∈ b, c ∈ a) : Told a rs := ⟨ht.1, fun r hr => rr_sub (ht.2.1 r hr) h, ht.2.2⟩
theorem rr_one {a : List Nat} {c : Nat} (hc : c ∈ a ++ a.map up1) (hl : lett c = true) {n : Nat} (h1 : 1 ≤ n) (h2 : n ≤ 40) : RR a (repL [c] n) := by
  have e : repL [c] n = List.replicate n c := by
    apply List.ext_getElem
    · rw [repL_len, List.length_replicate, List.length_singleton, Nat.mul_one]
    · intro i g1 g2
      have : (repL [c] n)[i] ∈ repL [c] n := List.getElem_mem g1
      have hm : ∀ n, ∀ x ∈ repL [c] n, x = c := by
        intro n
        induction n with
        | zero => intro x hx; simp [repL] at hx
        | succ n ih =>
          intro x hx
          rw [← repL_snoc] at hx
          rcases List.mem_append.mp hx with z | z
          · exact ih x z
          · exact List.mem_singleton.mp z
      rw [hm n _ this, List.getElem_replicate]
  rw [e]
  refine ⟨fun d hd => by rw [(List.mem_replicate.mp hd).2]; exact hc, by rw [List.length_replicate]; exact h1, by rw [List.length_replicate]; exact h2, fun i hi => ?_⟩
  rw [List.length_replicate] at hi ⊢
  have g : ∀ j, j < n → (List.replicate n c).getD j 0 = c := fun j hj => by rw [List.getD_eq_getElem?_getD, List.getElem?_replicate, if_pos hj]; rfl
  rw [g i hi, g _ (Nat.mod_lt _ (by omega))]
  exact fun z => swp_ne hl z.symm
/-! ### list(xs) -/
def rLstOf (K : PySem.W.Frag) : List V → Hp → VK → Prop := fun xs H Q => ∃ p ys, xs = [V.ref p] ∧ (SqL K H p ys ∨ SqT K H p ys) ∧ ∀ l, H l = none → Q (.ref l) (upd H l (.lst ys))
theorem call_listK {X : Cx} (K : PySem.W.Frag) (hK : X.K = K := by rfl) : CallR X (.type "list") (rLstOf K) := hK ▸ call_list_of
theorem r_listT {K : PySem.W.Frag} {H : Hp} {Q : VK} {p : Addr} {ys : List V} (e : H p = some (.tup ys)) (h : ∀ l, H l = none → Q (.ref l) (upd H l (.lst ys))) : rLstOf K [.ref p] H Q := ⟨p, ys, rfl, .inr (SqT.of e), h⟩
theorem r_listL {K : PySem.W.Frag} {H : Hp} {Q : VK} {p : Addr} {ys : List V} (e : H p = some (.lst ys)) (h : ∀ l, H l = none → Q (.ref l) (upd H l (.lst ys))) : rLstOf K [.ref p] H Q := ⟨p, ys, rfl, .inl (SqL.of e), h⟩
/-! ### cuts of tuples -/
theorem r_slTto {K : PySem.W.Frag} {H : Hp} {Q : VK} {p : Addr} {xs : List V} {i : Nat} (e : H p = some (.tup xs)) (h : ∀ q H', Same H H' → H' q = some (.tup (xs.take i)) → Q (.ref q) H') : rSlG K (.ref p) none (some (i : Int)) H Q := by
  refine .inr (.inr ⟨p, xs, rfl, SqT.of e, fun z => ?_, fun _ q nq => ?_⟩)
  · have := z.2
    rw [HT.sIx_nat] at this
    refine h p H (Same.refl _) ?_
    rw [List.take_of_length_le (by omega)]; exact e
  · have e2 : cutV xs none (some (i : Int)) = xs.take i := by
      unfold cutV
      rw [HT.sIx_none, HT.sIx_nat, List.drop_zero, Nat.sub_zero]
      rcases Nat.le_total i xs.length with z | z
      · rw [Nat.min_eq_left z]
      · rw [Nat.min_eq_right z, List.take_length, List.take_of_length_le z]
    rw [e2]; exact h q _ (Same.new1 nq) upd_same
theorem r_slTfr {K : PySem.W.Frag} {H : Hp} {Q : VK} {p : Addr} {xs : List V} {i : Nat} (e : H p = some (.tup xs)) (h : ∀ q H', Same H H' → H' q = some (.tup (xs.drop i)) → Q (.ref q) H') : rSlG K (.ref p) (some (i : Int)) none H Q := by
  refine .inr (.inr ⟨p, xs, rfl, SqT.of e, fun z => ?_, fun _ q nq => ?_⟩)
  · have := z.1
    rw [HT.sIx_nat] at this
    refine h p H (Same.refl _) ?_
    rcases Nat.le_total i xs.length with z | z
    · have : i = 0 := by omega
      rw [this, List.drop_zero]; exact e
    · have : xs = [] := List.length_eq_zero_iff.mp (by omega)
      rw [this] at e ⊢
      rw [List.drop_nil]; exact e
  · have e2 : cutV xs (some (i : Int)) none = xs.drop i := by
      unfold cutV
      rw [HT.sIx_none, HT.sIx_nat, List.take_of_length_le (by rw [List.length_drop]; omega)]
      rcases Nat.le_total i xs.length with z | z
      · rw [Nat.min_eq_left z]
      · rw [Nat.min_eq_right z, List.drop_length, List.drop_eq_nil_of_le z]
    rw [e2]; exact h q _ (Same.new1 nq) upd_same
theorem r_addTt {K : PySem.W.Frag} {H : Hp} {Q : VK} {p q : Addr} {xs ys : List V} (e1 : H p = some (.tup xs)) (e2 : H q = some (.tup ys)) (hl : xs.length + ys.length ≤ 1000000) (h : ∀ d H', Same H H' → H' d = some (.tup (xs ++ ys)) → Q (.ref d) H') : rAddG K (.ref p) (.ref q) H Q := by
  refine .inr ⟨p, q, xs, ys, rfl, rfl, SqT.of e1, SqT.of e2, by rw [sizeLine_eq]; omega, fun z => ?_, fun _ z => ?_, fun _ _ d nd => h d _ (Same.new1 nd) upd_same⟩
  · exact h q H (Same.refl _) (by rw [z, List.nil_append]; exact e2)
  · exact h p H (Same.refl _) (by rw [z, List.append_nil]; exact e1)
/-- bad: what a value at a place brings -/
def BadAt (K : PySem.W.Frag) (a : List Nat) (es : List (List Nat)) (H : Hp) (v : V) : Prop := (∃ l, v = T l ∧ l.length ≤ 5000 ∧ stB a es l = false) ∨ NotS K H v
theorem BadAt.same {K : PySem.W.Frag} {a : List Nat} {es : List (List Nat)} {H H' : Hp} {v : V} (h : BadAt K a es H v) (s : Same H H') : BadAt K a es H' v := h.imp id fun h => h.same s
theorem rulX_bad {K : PySem.W.Frag} {H : Hp} {a : List Nat} {p : Addr} {rs : List (List Nat)} {v : V} {zs : List V} {X : List Nat → Addr → Prop} {L : Prop} {R : Nat → Prop} (ha : Al a) (ht : Told a rs) (ep : H p = some (.tup (rs.map T ++ v :: zs))) (hz : zs.length ≤ 100) (hb : BadAt K a rs H v) (h : R rs.length) : RulX K H (T a) (.ref p) X L R := by
  have h6 := ht.1
  refine .inr ⟨a, rfl, ha, .inr (.inl ⟨p, _, rs, rfl, ep, ?_, ?_, ht, .inr ⟨?_, ?_, h⟩⟩)⟩
  · rw [List.length_append, List.length_map, List.length_cons]; omega
  · rw [List.take_append_of_le_length (by rw [List.length_map]; omega), List.take_of_length_le (by rw [List.length_map]; omega)]
  · rw [List.length_append, List.length_map, List.length_cons]; omega
  · have : (rs.map T ++ v :: zs).getD rs.length .non = v := by
      rw [List.getD_eq_getElem?_getD, List.getElem?_append_right (by rw [List.length_map]; omega), List.length_map, Nat.sub_self]; rfl
    rw [this]; exact hb
theorem stB_full {a : List Nat} {es : List (List Nat)} {l : List Nat} (h : 6 ≤ es.length) : stB a es l = false := by
  unfold stB; rw [decide_eq_false (by omega), Bool.false_and]
end NX
namespace NX
open PySem PySem.Spec PyProof.Rows L2
/-! ### own classes: == by an own __eq__, new objects by keywords or with defaults, methods by keywords -/
theorem tyx_inst {X : Cx} {pins : List (Addr × Obj)} {σ : L2.St} {H : Hp} {s : Shared} {x : V} {u t : Value} (I : Inv X pins σ H s) (rx : RelV x u) (ty : TyX X.K H x t) (M : Model) : PySem.W.Looks M s.heap (typeOf u) t := by
  obtain ⟨P, Z, hp, _⟩ := kit_of I rx ty
  exact Z.ty M _ I.kIn hp
/-- x == y, x an instance of the class at C with an own __eq__ -/
def rOwnE (K : PySem.W.Frag) (C : Addr) (sp : Sp) (E : XK) : R2 := fun x y H Q => ∃ a dx fs tb, x = .ref a ∧ H a = some (.ins C dx fs) ∧ TyX K H y tb ∧ PySem.W.notFirst K C tb = true ∧ sp [x, y] H Q E
def rEqO (K : PySem.W.Frag) (C : Addr) (sp : Sp) (E : XK) : R2 := fun x y H Q => rOwnE K C sp E x y H Q ∨ rEqG K x y H Q
section
variable {X : Cx} {CX : CXT} {k n : Nat} {f C : Addr} {fd : FuncData} {ps ks : List Str} {sp : Sp} {dvs : List V} {ds : List Value} {E : XK} {x m : Str} {p pos apos : Pos} {e o : Expr} {es : List Expr} {ta : TE} {t tk : TA} {kws : List Keyword} {g : List Value → List Value → List Value} {gV : List V → List V → List V}
theorem op_ownG (hgu : X.A.guards = some []) (hs : PySem.W.findIn X.K (.ref C) "__eq__" = some (some (.ref f))) (hf : PySem.W.isFn X.K (.ref f) = true) (F : FnG X.prog X.w X.K X.mg X.base CX k f fd ps sp) (hb : Binds X.K fd ps [])
    (hr : Room k X.A) (hx : Passes CX X E) (hu : X.A.units + 64 < cLine) : OpR X (compareOp .Eq) (rEqO X.K C sp E) := by
  intro pins s σ H x y v u Q I rx ry h
  rcases h with h | h
  · obtain ⟨a, dx, fs, tb, rfl, ea, ty, hn, q⟩ := h
    cases (show v = Value.ref a from rx)
    obtain ⟨mA, J, _⟩ := ins_get I.hok ea
    obtain ⟨od, J, _⟩ := J.look
    obtain ⟨mm, hF⟩ := I.fr
    show wpAny (model X.prog X.w) X.A (richCompare .Eq (.ref a) u) (EP X pins σ Q) X.xe s
    refine PySem.W.cmp_K (op := .Eq) (tb := tb) hr.units0 hF I.ok.mod.kin J (tyx_inst I ry ty _) hn hs hf ?_
    refine wpAny_mono (run_fnG (us := [.ref a, u]) (vs := [.ref a, y]) F hgu hr hb .nil hx I (.cons rfl (.cons ry .nil)) q) (fun w s' z => ?_) fun _ _ x => x
    obtain ⟨z', H', I', rz, qz⟩ := z
    exact SlX.cmpback rz ⟨z', H', I', rz, qz⟩
  · exact op_eqG hu pins s σ H x y v u Q I rx ry h
theorem op_ownK (K : PySem.W.Frag) (hK : X.K = K := by rfl) (hgu : X.A.guards = some []) (hs : PySem.W.findIn K (.ref C) "__eq__" = some (some (.ref f))) (hf : PySem.W.isFn K (.ref f) = true) (F : FnG X.prog X.w K X.mg X.base CX k f fd ps sp) (hb : Binds K fd ps [])
    (hr : Room k X.A) (hx : Passes CX X E) (hu : X.A.units + 64 < cLine) : OpR X (compareOp .Eq) (rEqO K C sp E) := by
  subst hK; exact op_ownG hgu hs hf F hb hr hx hu
/-- C(e, ..) with defaults -/
theorem pe_makeGD (hgu : X.A.guards = some []) (M : Mk X.K C f) (F : FnG X.prog X.w X.K X.mg X.base CX k f fd ps sp) (hr : Room (k + 1) X.A) (hg : Gl X x) (hm : X.mg x = some (.ref C)) (hb : ∃ ds, Vals dvs ds ∧ Binds X.K fd ps ds) (hx : Passes CX X E)
    (ha : PA X (e :: es) t) (hdb : (x == ("__debug__" : Str)) = false := by decide) (he : starEach (e :: es) X.env = (false, eval e X.env) :: starEach es X.env := by rfl) (hpl : (backTo pos (starEach es X.env)).any (·.1) = false := by rfl) :
    PE X (.Call (.Name x p) (e :: es) [] pos) (tMake C sp dvs E t) := by
  obtain ⟨ds, hd, hb⟩ := hb
  exact pe_makeG hgu M F hr hg hm hb hd hx ha hdb he hpl
theorem run_makeKG {pins : List (Addr × Obj)} {σ : L2.St} {H : Hp} {s : Shared} {Q : VK} {us ws : List Value} {vs zs : List V} (hgu : X.A.guards = some []) (M : Mk X.K C f) (F : FnG X.prog X.w X.K X.mg X.base CX k f fd ps sp) (hr : Room (k + 1) X.A) (hb : KBn X.K fd ps (n + 1) ks g gV) (hx : Passes CX X E)
    (I : Inv X pins σ H s) (r : Vals vs us) (rz : Vals zs ws) (l1 : vs.length = n) (l2 : zs.length = ks.length)
    (h : ∀ x dx, H x = none → H dx = none → dx ≠ x → sp (gV (.ref x :: vs) zs) (upd (upd H dx (.own x)) x (.ins C dx [])) (fun v H2 => v = .non ∧ Q (.ref x) H2) E) :
    wpAny (model X.prog X.w) X.A (call (.ref C) us (ks.zip ws)) (EP X pins σ Q) X.xe s := by
  have hq := h (s.heap.objs.size + 1) s.heap.objs.size (I.hok.fresh (Nat.le_succ _)) (I.hok.fresh (Nat.le_refl _)) (Nat.ne_of_lt (Nat.lt_succ_self _))
  have I2 := Inv.made (C := C) I
  have r1 : Vals (V.ref (s.heap.objs.size + 1) :: vs) (Value.ref (s.heap.objs.size + 1) :: us) := .cons rfl r
  have r2 := hb.rel r1 rz
  have n1 : (Value.ref (s.heap.objs.size + 1) :: us).length = n + 1 := by
    rw [List.length_cons, ← r.length, l1]
  refine wpAny_call (make_map (f := f) I.kIn M.makes M.init (beq_iff_eq.mp M.fn) (codeAny_mono (F.run _ X.stack _ _ ⟨Value.ref (s.heap.objs.size + 1) :: us, ks.zip ws⟩ (g (Value.ref (s.heap.objs.size + 1) :: us) ws) _ _ E ?_ (hr.make C us (ks.zip ws))
    (I2.env0.make C us (ks.zip ws)) (hb.to _ (Value.ref (s.heap.objs.size + 1) :: us) ws I2.kIn n1 (rz.length.symm.trans l2)) r2 hq) fun r s' hq' => ?_))
  · have h1 : (Code.builtin "type.__call__" ⟨Value.ref C :: us, ks.zip ws⟩).guards = [] := by
      have h2 : (Code.builtin "type.__call__" ⟨Value.ref C :: us, ks.zip ws⟩).isGuard = false := (by decide +kernel : guardIds.contains "type.__call__" = false)
      unfold Code.guards
      rw [h2]; rfl
    unfold Around.under
    simp only [h1, pushGuards]
    exact hgu
  cases r with
  | error e => exact hx pins σ _ _ e s' I2 hq'
  | ok fl =>
    cases fl with
    | ret u =>
      obtain ⟨v, H', I3, rv, ev, q3⟩ := I2.after hq'
      subst ev
      exact ⟨rv, ⟨V.ref (s.heap.objs.size + 1), H', I3, rfl, q3⟩⟩
    | next => exact False.elim hq'
    | brk => exact False.elim hq'
    | cont => exact False.elim hq'
/-- C(k = v, ..) -/
def tMakeKw (C : Addr) (m : Nat) (sp : Sp) (gV : List V → List V → List V) (E : XK) (tk : TA) : TE := fun σ H Q => tk σ H fun zs H2 => zs.length = m ∧ ∀ x dx, H2 x = none → H2 dx = none → dx ≠ x →
  sp (gV [.ref x] zs) (upd (upd H2 dx (.own x)) x (.ins C dx [])) (fun v H3 => v = .non ∧ Q (.ref x) H3) E
theorem pe_makeKwG (hgu : X.A.guards = some []) (M : Mk X.K C f) (F : FnG X.prog X.w X.K X.mg X.base CX k f fd ps sp) (hr : Room (k + 1) X.A) (hg : Gl X x) (hm : X.mg x = some (.ref C)) (hb : ∃ g, KBn X.K fd ps 1 ks g gV) (hx : Passes CX X E) (hkw : PK X kws tk)
    (hall : (backToKw pos (keywordEach kws X.env)).all (·.1.isSome) = true := by rfl) (hks : (backToKw pos (keywordEach kws X.env)).filterMap (·.1) = ks := by rfl) (hdb : (x == ("__debug__" : Str)) = false := by decide)
    (hpl : ((backTo pos (starEach [] X.env)).any (·.1) || (backToKw pos (keywordEach kws X.env)).any (·.1.isNone)) = false := by rfl) :
    PE X (.Call (.Name x p) [] kws pos) (tMakeKw C ks.length sp gV E tk) := by
  obtain ⟨g, hb⟩ := hb
  refine ⟨fun pins s σ H Q I h => ?_⟩
  refine wpAny_Call_Name_kw (ld_glob I hg hm ?_ hdb)
  refine PySem.W.callWith_KW0 (h₀ := X.base) I.ok.mod.kin M.kp hall ?_ hpl
  refine thn (hkw.run pos pins s σ H _ I h) fun ws s2 ⟨zs, H2, I2, rz, l2, q2⟩ => ⟨I2.kIn, ?_⟩
  rw [hks]
  exact run_makeKG (n := 0) (us := []) (vs := []) hgu M F hr hb hx I2 .nil rz rfl l2 q2
/-- o.m(k = v, ..) -/
def MethKJ (C : Addr) (m : Str) (n : Nat) (sp : Sp) (gV : List V → List V → List V) (E : XK) (tk : TA) (σ : L2.St) (Q : VK) (x : V) (H1 : Hp) : Prop := ∃ a dx fs, x = .ref a ∧ H1 a = some (.ins C dx fs) ∧ fs.lookup m = none ∧ tk σ H1 fun zs H2 => zs.length = n ∧ sp (gV [x] zs) H2 Q E
def tMethKw (C : Addr) (m : Str) (n : Nat) (sp : Sp) (gV : List V → List V → List V) (E : XK) (ta : TE) (tk : TA) : TE := fun σ H Q => ta σ H (MethKJ C m n sp gV E tk σ Q)
theorem pe_methKwG (hgu : X.A.guards = some []) {pl : Sem Bool} (he : PE X o ta) (c : Cls X.K C) (hm : Meth X.K C m f) (F : FnG X.prog X.w X.K X.mg X.base CX k f fd ps sp) (hr : Room k X.A) (hb : ∃ g, KBn X.K fd ps 1 ks g gV) (hx : Passes CX X E) (hkw : PK X kws tk)
    (hall : (backToKw pos (keywordEach kws X.env)).all (·.1.isSome) = true := by rfl) (hks : (backToKw pos (keywordEach kws X.env)).filterMap (·.1) = ks := by rfl)
    (hpl : ((backTo pos (starEach [] X.env)).any (·.1) || (backToKw pos (keywordEach kws X.env)).any (·.1.isNone)) = false := by rfl)
    (ht : eval (.Call (.Attribute o m apos) [] kws pos) X.env = (do
      let ov ← eval o X.env
      standAt apos.atName
      let (f, first) ← holding [ov] (getMethod ov m pl)
      callWith pos f first (backTo pos (starEach [] X.env)) (backToKw pos (keywordEach kws X.env))) := by rfl) :
    PE X (.Call (.Attribute o m apos) [] kws pos) (tMethKw C m ks.length sp gV E ta tk) := by
  obtain ⟨g, hb⟩ := hb
  refine ⟨fun pins s σ H Q I h => ?_⟩
  refine PySem.W.methodCall_KW (pl := pl) (thn (he.run pins s σ H _ I h) fun u s1 ⟨x, H1, I1, rx, a, dx, fs, ex, ea, l, q⟩ => ?_) ht
  subst ex
  obtain rfl : u = Value.ref a := rx
  refine getmeth_ok I1 ea c hm l ?_
  refine PySem.W.callWith_KW0 (first := [.ref a]) (h₀ := X.base) I1.ok.mod.kin hm.kp hall ?_ hpl
  refine thn (hkw.run pos pins s1 σ H1 _ I1 q) fun ws s2 ⟨zs, H2, I2, rz, l2, q2⟩ => ⟨I2.kIn, ?_⟩
  rw [hks]
  have r2 := hb.rel (vs := [.ref a]) (us := [.ref a]) (.cons rfl .nil) rz
  refine wpAny_call (codeAny_mono (F.run X.A X.stack s2 H2 ⟨[.ref a], ks.zip ws⟩ (g [.ref a] ws) (gV [.ref a] zs) Q E hgu hr I2.env0 (hb.to s2 [.ref a] ws I2.kIn rfl (rz.length.symm.trans l2)) r2 q2) fun r s' hq => ?_)
  cases r with
  | error e => exact hx pins σ H2 s2 e s' I2 hq
  | ok fl =>
    cases fl with
    | ret u => exact I2.after hq
    | next => exact False.elim hq
    | brk => exact False.elim hq
    | cont => exact False.elim hq
end
section
variable {K : PySem.W.Frag} {σ : L2.St} {H : Hp} {Q : VK} {D : Ends} {ta tv : TE} {t tk : TA}
theorem r_makeKw {C : Addr} {m : Nat} {sp : Sp} {gV : List V → List V → List V} {E : XK} (h : tk σ H fun zs H2 => zs.length = m ∧ ∀ x dx, H2 x = none → H2 dx = none → dx ≠ x → sp (gV [.ref x] zs) (upd (upd H2 dx (.own x)) x (.ins C dx [])) (fun v H3 => v = .non ∧ Q (.ref x) H3) E) : tMakeKw C m sp gV E tk σ H Q := h
theorem r_methKw {C : Addr} {m : Str} {n : Nat} {sp : Sp} {gV : List V → List V → List V} {E : XK} (h : ta σ H (MethKJ C m n sp gV E tk σ Q)) : tMethKw C m n sp gV E ta tk σ H Q := h
theorem r_methKwI {C : Addr} {m : Str} {n : Nat} {sp : Sp} {gV : List V → List V → List V} {E : XK} {a dx : Addr} {fs : List (Str × V)} (e : H a = some (.ins C dx fs)) (l : fs.lookup m = none) (h : tk σ H fun zs H2 => zs.length = n ∧ sp (gV [.ref a] zs) H2 Q E) : MethKJ C m n sp gV E tk σ Q (.ref a) H := ⟨a, dx, fs, rfl, e, l, h⟩
theorem r_eqOwn {C : Addr} {sp : Sp} {E : XK} {a dx : Addr} {fs : List (Str × V)} {y : V} {tb : Value} (e : H a = some (.ins C dx fs)) (ty : TyX K H y tb) (hn : PySem.W.notFirst K C tb = true) (h : sp [.ref a, y] H Q E) : rEqO K C sp E (.ref a) y H Q := .inl ⟨a, dx, fs, tb, rfl, e, ty, hn, h⟩
theorem r_eqO {C : Addr} {sp : Sp} {E : XK} {x y : V} (h : rEqG K x y H Q) : rEqO K C sp E x y H Q := .inr h
end
theorem funD_mk {K : PySem.W.Frag} {x qual : Str} {st : Stmt} {f T E : Addr} {oc kV doc pm cdv ct oT : Value} {od an pT : Option Addr} {osl sT : Array (Option Value)} {n : Nat}
    (l : K.lookup f = some ⟨oc, od, .func (PySem.W.fnOf x qual (defArgs st) (defBody st) (defScope st) (.ref T) kV doc pm an cdv ct), osl⟩) (c : PySem.W.codeIn K cdv qual = true) (k : PySem.W.keepIn K (.ref f) = true)
    (lt : K.lookup T = some ⟨oT, pT, .seq #[.ref E] n, sT⟩) : FunD K x qual (defArgs st) (defBody st) (defScope st) [V.ref E] [] f (PySem.W.fnOf x qual (defArgs st) (defBody st) (defScope st) (.ref T) kV doc pm an cdv ct) :=
  ⟨⟨_, _, _, _, _, _, _, _, _, _, rfl, l, c, .inr ⟨by simp, T, _, [.ref E], _, rfl, lt, rfl, .cons rfl .nil⟩, .inl rfl⟩, k⟩
theorem bD_full {K : PySem.W.Frag} {fd : FuncData} {ps : List Str} {v : V} (h : ∃ ds, Vals ([v].drop 1) ds ∧ Binds K fd ps ds) : Binds K fd ps [] := by
  obtain ⟨ds, h1, h2⟩ := h
  cases h1
  exact h2
/-- what a plain own class is, for isinstance and == -/
structure PlC (K : PySem.W.Frag) (C : Addr) : Prop where
  cl : Cls K C
  t : PySem.W.typeIn K (.ref C) = some (.type "type")
  ha : PySem.W.findIn K (.ref C) "__class__" = some (some (.builtin "object.__class__"))
  hn : PySem.W.specialIn K (.builtin "object.__class__") "__get__" = some (some (.builtin "getset_descriptor.__get__"))
  ht : PySem.W.takesIn K (.builtin "object.__class__") = some true
  hm : PySem.W.mroIn K C (.type "object") = some true
  sub : ∀ n : String, n ∈ ["NoneType", "bool", "int", "str", "list", "tuple", "dict"] → PySem.W.subIn K (.type n) (.ref C) = some false
theorem PlC.ty {K : PySem.W.Frag} {H : Hp} {a C dx : Addr} {fs : List (Str × V)} (p : PlC K C) (e : H a = some (.ins C dx fs)) : TyX K H (.ref a) (.ref C) := .base (.ins e p.cl p.ha p.hn p.ht p.hm)
theorem PlC.kno {K : PySem.W.Frag} {C : Addr} {n : String} (p : PlC K C) (hn : n ∈ ["NoneType", "bool", "int", "str", "list", "tuple", "dict"]) : PySem.W.kitOne K (.type n) (.ref C) = some false := by
  unfold PySem.W.kitOne
  rw [if_neg (by intro h; cases beq_iff_eq.mp h)]
  obtain ⟨cd, hc, _⟩ := PySem.W.any_some p.cl.hd
  show (if ((PySem.W.clsIn K C).isSome && PySem.W.typeIn K (.ref C) == some (.type "type")) = true then PySem.W.subIn K (.type n) (.ref C) else none) = some false
  rw [if_pos (by rw [hc, p.t]; rfl)]
  exact p.sub n hn
theorem PlC.nf {K : PySem.W.Frag} {C : Addr} {n : String} (p : PlC K C) (hn : n ∈ ["NoneType", "bool", "int", "str", "list", "tuple", "dict"]) : PySem.W.notFirst K C (.type n) = true := by
  unfold PySem.W.notFirst
  rw [p.sub n hn]
  simp
theorem PlC.nfC {K : PySem.W.Frag} {C : Addr} : PySem.W.notFirst K C (.ref C) = true := by simp [PySem.W.notFirst]
theorem r_isO {K : PySem.W.Frag} {H : Hp} {Q : VK} {a C dx : Addr} {fs : List (Str × V)} (p : PlC K C) (e : H a = some (.ins C dx fs)) (h : Q (.bl true) H) : rIsX K [.ref a, .ref C] H Q :=
  .inl ⟨.ref a, .ref C, _, _, true, rfl, .own C, .base (p.ty e), by unfold PySem.W.kitOne; rw [if_pos (beq_self_eq_true _)], h⟩
theorem r_isNo {K : PySem.W.Frag} {H : Hp} {Q : VK} {x : V} {C : Addr} {n : String} (p : PlC K C) (ty : TyX K H x (.type n)) (hn : n ∈ ["NoneType", "bool", "int", "str", "list", "tuple", "dict"]) (h : Q (.bl false) H) : rIsX K [x, .ref C] H Q :=
  .inl ⟨x, .ref C, _, _, false, rfl, .own C, .base ty, p.kno hn, h⟩
/-- a default that is the empty tuple -/
def Dfl0 (K : PySem.W.Frag) (v : V) : Prop := ∃ (E : Addr) (o : Obj) (n : Nat), v = .ref E ∧ K.lookup E = some o ∧ o.cls = .type "tuple" ∧ o.data = .seq #[] n
/-- a tuple value: a tracked one, or the empty default -/
def TupV (K : PySem.W.Frag) (H : Hp) (v : V) (xs : List V) : Prop := ∃ p, v = .ref p ∧ (H p = some (.tup xs) ∨ (xs = [] ∧ Dfl0 K v))
theorem TupV.of {K : PySem.W.Frag} {H : Hp} {p : Addr} {xs : List V} (e : H p = some (.tup xs)) : TupV K H (.ref p) xs := ⟨p, rfl, .inl e⟩
theorem Dfl0.tv {K : PySem.W.Frag} {H : Hp} {v : V} (h : Dfl0 K v) : TupV K H v [] := by
  obtain ⟨E, o, n, rfl, h1, h2, h3⟩ := h
  exact ⟨E, rfl, .inr ⟨rfl, E, o, n, rfl, h1, h2, h3⟩⟩
theorem TupV.sq {K : PySem.W.Frag} {H : Hp} {p : Addr} {xs : List V} (h : TupV K H (.ref p) xs) : SqT K H p xs := by
  obtain ⟨p', e, h | ⟨rfl, E, o, n, e2, h1, h2, h3⟩⟩ := h
  · cases e; exact SqT.of h
  · cases e2
    exact .inr ⟨o, #[], n, h1, h2, h3, Nat.zero_le _, .nil⟩
theorem TupV.ty {K : PySem.W.Frag} {H : Hp} {v : V} {xs : List V} (h : TupV K H v xs) : TyX K H v (.type "tuple") := by
  obtain ⟨p', rfl, h | ⟨rfl, E, o, n, e2, h1, h2, h3⟩⟩ := h
  · exact .base (.tup h)
  · cases e2; exact .kTuple h1 h2
theorem TupV.same {K : PySem.W.Frag} {H H' : Hp} {v : V} {xs : List V} (h : TupV K H v xs) (s : Same H H') : TupV K H' v xs := by
  obtain ⟨p', rfl, h | h⟩ := h
  · exact ⟨p', rfl, .inl (s _ _ h)⟩
  · exact ⟨p', rfl, .inr h⟩
theorem TupV.kp {K : PySem.W.Frag} {H H' : Hp} {v : V} {xs : List V} {w : Addr} (h : TupV K H v xs) (k : Kp w H H') (hw : ∀ ys, H w ≠ some (.tup ys)) : TupV K H' v xs := by
  obtain ⟨p', rfl, h | h⟩ := h
  · exact ⟨p', rfl, .inl (k _ _ (fun e => hw xs (e ▸ h)) h)⟩
  · exact ⟨p', rfl, .inr h⟩
end NX
namespace NX
open PySem PySem.Spec PyProof.Rows L2
/-! ### rules as objects -/
/-- an object of the class Rules (at C) with these letters and rows -/
def RulO (K : PySem.W.Frag) (C : Addr) (H : Hp) (x : Addr) (a : List Nat) (rs : List (List Nat)) : Prop := ∃ dx v, H x = some (.ins C dx [("alphabet", T a), ("told", v)]) ∧ TupV K H v (rs.map T) ∧ Al a ∧ Told a rs
theorem RulO.same {K : PySem.W.Frag} {C : Addr} {H H' : Hp} {x : Addr} {a : List Nat} {rs : List (List Nat)} (h : RulO K C H x a rs) (s : Same H H') : RulO K C H' x a rs := by
  obtain ⟨dx, v, e, t, ha, ht⟩ := h
  exact ⟨dx, v, s _ _ e, t.same s, ha, ht⟩
theorem RulO.kp {K : PySem.W.Frag} {C : Addr} {H H' : Hp} {x w : Addr} {n : Nat} {a : List Nat} {rs : List (List Nat)} (h : RulO K C H x a rs) (hw : Wl H w n) (k : Kp w H H') : RulO K C H' x a rs := by
  obtain ⟨dx, v, e, t, ha, ht⟩ := h
  obtain ⟨_, _, _, ew, _⟩ := hw
  refine ⟨dx, v, k _ _ (fun z => ?_) e, t.kp k (fun ys z => ?_), ha, ht⟩
  · rw [z, ew] at e; cases e
  · rw [ew] at z; cases z
theorem fld1 {f : Str} {u : V} {r : List (Str × V)} : List.lookup f ((f, u) :: r) = some u := by simp [List.lookup]
theorem TupV.ref {K : PySem.W.Frag} {H : Hp} {v : V} {xs : List V} (h : TupV K H v xs) : ∃ p, v = .ref p := h.imp fun _ h => h.1
/-- Rules.__init__ -/
def spRul (K : PySem.W.Frag) (C : Addr) : Sp := fun vs H Q _ => ∃ (x dx : Addr) (v : V) (a : List Nat) (rs : List (List Nat)), vs = [.ref x, T a, v] ∧ H x = some (.ins C dx []) ∧ TupV K H v (rs.map T) ∧ Al a ∧ Told a rs ∧ ∀ H', H' x = some (.ins C dx [("alphabet", T a), ("told", v)]) → Kp x H H' → Q .non H'
theorem spRul_new {K : PySem.W.Frag} {C C' : Addr} {H : Hp} {v : V} {a : List Nat} {rs : List (List Nat)} {P : Addr → Hp → Prop} {E : XK} (hC : C = C') (tv : TupV K H v (rs.map T)) (ha : Al a) (ht : Told a rs)
    (h : ∀ x H', H x = none → Same H H' → RulO K C H' x a rs → P x H') :
    ∀ x dx, H x = none → H dx = none → dx ≠ x → spRul K C [.ref x, T a, v] (upd (upd H dx (.own x)) x (.ins C' dx [])) (fun u H2 => u = .non ∧ P x H2) E := by
  subst hC
  intro x dx nx nd hne
  have s1 : Same H (upd (upd H dx (.own x)) x (.ins C dx [])) := fun b o e => by
    have h1 : b ≠ x := fun z => by rw [z, nx] at e; cases e
    have h2 : b ≠ dx := fun z => by rw [z, nd] at e; cases e
    rw [upd_ne h1, upd_ne h2]; exact e
  refine ⟨x, dx, v, a, rs, rfl, upd_same, tv.same s1, ha, ht, fun H' e k => ⟨rfl, h x H' nx (fun b o eb => ?_) ⟨dx, v, e, ?_, ha, ht⟩⟩⟩
  · have h1 : b ≠ x := fun z => by rw [z, nx] at eb; cases eb
    exact k _ _ h1 (s1 _ _ eb)
  · obtain ⟨p', rfl, e2 | e2⟩ := tv
    · exact ⟨p', rfl, .inl (k _ _ (fun z => by rw [z, nx] at e2; cases e2) (s1 _ _ e2))⟩
    · exact ⟨p', rfl, .inr e2⟩
/-- Rules.__eq__ -/
def spRulEq (K : PySem.W.Frag) (C : Addr) : Sp := fun vs H Q _ => ∃ (x : Addr) (y : V) (a : List Nat) (rs : List (List Nat)), vs = [.ref x, y] ∧ RulO K C H x a rs ∧
  ((∃ (z : Addr) (b : List Nat) (qs : List (List Nat)), y = .ref z ∧ RulO K C H z b qs ∧ Q (.bl (decide (a = b) && decide (rs = qs))) H) ∨
   (∃ n : String, TyX K H y (.type n) ∧ n ∈ ["NoneType", "bool", "int", "str", "list", "tuple", "dict"] ∧ Q (.bl false) H))
theorem r_eqRul {K : PySem.W.Frag} {C C' : Addr} {H : Hp} {Q : VK} {E : XK} {x z : Addr} {a b : List Nat} {rs qs : List (List Nat)} (hC : C = C') (p : PlC K C') (h1 : RulO K C H x a rs) (h2 : RulO K C H z b qs) (h : Q (.bl (decide (a = b) && decide (rs = qs))) H) : rEqO K C' (spRulEq K C) E (.ref x) (.ref z) H Q := by
  subst hC
  have h2' := h2
  have h1' := h1
  obtain ⟨dx, v, e, _⟩ := h1'
  obtain ⟨dz, u, ez, _⟩ := h2'
  exact r_eqOwn e (p.ty ez) PlC.nfC ⟨x, _, a, rs, rfl, h1, .inl ⟨z, b, qs, rfl, h2, h⟩⟩
theorem r_eqRulT {K : PySem.W.Frag} {C C' : Addr} {H : Hp} {Q : VK} {E : XK} {x z : Addr} {a : List Nat} {rs : List (List Nat)} (hC : C = C') (p : PlC K C') (h1 : RulO K C H x a rs) (h2 : RulO K C H z a rs) (h : Q (.bl true) H) : rEqO K C' (spRulEq K C) E (.ref x) (.ref z) H Q :=
  r_eqRul hC p h1 h2 (by rw [decide_eq_true rfl, decide_eq_true rfl]; exact h)
theorem r_eqRulF {K : PySem.W.Frag} {C C' : Addr} {H : Hp} {Q : VK} {E : XK} {x z : Addr} {a b : List Nat} {rs qs : List (List Nat)} (hC : C = C') (p : PlC K C') (h1 : RulO K C H x a rs) (h2 : RulO K C H z b qs) (hn : ¬ (a = b ∧ rs = qs)) (h : Q (.bl false) H) : rEqO K C' (spRulEq K C) E (.ref x) (.ref z) H Q :=
  r_eqRul hC p h1 h2 (by rw [show (decide (a = b) && decide (rs = qs)) = false by rw [← Bool.decide_and]; exact decide_eq_false hn]; exact h)
theorem r_neBl {K : PySem.W.Frag} {H : Hp} {Q : VK} {b : Bool} (h : Q (.bl false) H) : rNeG K (.bl b) (.bl b) H Q := .inl ⟨rfl, by rw [decide_eq_true rfl]; exact h⟩
theorem r_eqRulNo {K : PySem.W.Frag} {C C' : Addr} {H : Hp} {Q : VK} {E : XK} {x : Addr} {y : V} {n : String} {a : List Nat} {rs : List (List Nat)} (hC : C = C') (p : PlC K C') (h1 : RulO K C H x a rs) (ty : TyX K H y (.type n)) (hn : n ∈ ["NoneType", "bool", "int", "str", "list", "tuple", "dict"]) (h : Q (.bl false) H) : rEqO K C' (spRulEq K C) E (.ref x) y H Q := by
  subst hC
  have h1' := h1
  obtain ⟨dx, v, e, _⟩ := h1'
  exact r_eqOwn e ty (p.nf hn) ⟨x, _, a, rs, rfl, h1, .inr ⟨n, ty, hn, h⟩⟩
/-! ### repr of a tuple of texts -/
def dT (rs : List (List Nat)) : PyData := .tuple (rs.map fun r => PyData.str (mkS r))
theorem dpAll_T {K : PySem.W.Frag} {H : Hp} : ∀ rs : List (List Nat), DpAll K H (rs.map T) (rs.map fun r => PyData.str (mkS r))
  | [] => .nil
  | r :: rs => .cons (.str _) (dpAll_T rs)
theorem shAll_T : ∀ rs : List (List Nat), PyData.showableAll (rs.map fun r => PyData.str (mkS r)) = true
  | [] => by simp only [List.map_nil, PyData.showableAll]
  | r :: rs => by simp only [List.map_cons, PyData.showableAll, PyData.showable, shAll_T rs, Bool.and_self]
theorem hdAll_T : ∀ rs : List (List Nat), PyData.hasDictAll (rs.map fun r => PyData.str (mkS r)) = false
  | [] => by simp only [List.map_nil, PyData.hasDictAll]
  | r :: rs => by simp only [List.map_cons, PyData.hasDictAll, PyData.hasDict, hdAll_T rs, Bool.or_self]
theorem deAll_T : ∀ rs : List (List Nat), PyData.depthAll (rs.map fun r => PyData.str (mkS r)) ≤ 1
  | [] => by simp [PyData.depthAll]
  | r :: rs => by
    have := deAll_T rs
    simp only [List.map_cons, PyData.depthAll, PyData.depth]
    omega
theorem piled_T {m : Nat} : ∀ rs : List (List Nat), (∀ r ∈ rs, r.length ≤ m ∧ Asc r) → piled (PyData.shownAll (rs.map fun r => PyData.str (mkS r))) ≤ (10 * m + 4) * rs.length
  | [], _ => by simp [PyData.shownAll, piled]
  | r :: rs, h => by
    have h1 := piled_T rs fun z hz => h z (List.mem_cons_of_mem _ hz)
    obtain ⟨h2, h3⟩ := h r (List.mem_cons_self ..)
    have h4 := PySem.StrLaws.reprText_len (mkS r) (fun c hc => by
      have := h3 c (by simpa [mkS] using hc)
      have e : (16 : Nat) ^ 8 = 4294967296 := by decide
      omega)
    have h5 : (mkS r).length = r.length := by simp [mkS, Str.length]
    have e : (10 * m + 4) * (r :: rs).length = (10 * m + 4) * rs.length + (10 * m + 4) := by rw [List.length_cons, Nat.mul_succ]
    simp only [List.map_cons, PyData.shownAll, PyData.shown, piled, List.map_cons, List.sum_cons] at h1 ⊢
    omega
theorem shT_len (rs : List (List Nat)) (h : ∀ r ∈ rs, r.length ≤ 100 ∧ Asc r) (hl : rs.length ≤ 100) : (dT rs).shown.length ≤ sizeLine := by
  have hp := piled_T rs h
  have : (10 * 100 + 4) * rs.length ≤ 1004 * 100 := Nat.mul_le_mul_left _ hl
  unfold dT
  simp only [PyData.shown]
  unfold tupleText
  rw [strLen_append, strLen_append]
  have h1 : (("(" : String) : Str).length = 1 := rfl
  have h2 : ((if (PyData.shownAll (rs.map fun r => PyData.str (mkS r))).length == 1 then ",)" else ")" : String) : Str).length ≤ 2 := by split <;> decide
  have h3 : (Str.join ", " (PyData.shownAll (rs.map fun r => PyData.str (mkS r)))).length ≤ piled (PyData.shownAll (rs.map fun r => PyData.str (mkS r))) := by
    by_cases c : PyData.shownAll (rs.map fun r => PyData.str (mkS r)) = []
    · rw [c]; exact Nat.zero_le _
    · have := join_length_add _ c; omega
  have e : sizeLine = 16777216 := sizeLine_eq
  omega
theorem r_reprT {K : PySem.W.Frag} {H : Hp} {Q : VK} {p : Addr} {rs : List (List Nat)} (e : SqT K H p (rs.map T)) (hr : ∀ r ∈ rs, r.length ≤ 100 ∧ Asc r) (hl : rs.length ≤ 100) (h : Q (.str (dT rs).shown) H) : rReprD K [.ref p] H Q := by
  refine .inr ⟨p, dT rs, rfl, .tup e (dpAll_T rs), ?_, ?_, ?_, shT_len rs hr hl, h⟩
  · unfold dT; simp only [PyData.showable]; exact shAll_T rs
  · unfold dT; simp only [PyData.hasDict]; exact hdAll_T rs
  · unfold dT; simp only [PyData.depth]; have := deAll_T rs; omega
theorem r_eqStr {K : PySem.W.Frag} {H : Hp} {Q : VK} {s : Str} (h : Q (.bl true) H) : rEqG K (.str s) (.str s) H Q := .inl ⟨rfl, by rw [decide_eq_true rfl]; exact h⟩
/-! ### told rows, as a list without kin -/
theorem getD_el {α : Type} {l : List α} {d : α} {i : Nat} (h : i < l.length) : l.getD i d = l[i] := by rw [List.getD_eq_getElem?_getD, List.getElem?_eq_getElem h]; rfl
theorem told_pw {a : List Nat} {rs : List (List Nat)} : Told a rs ↔ rs.length ≤ 6 ∧ (∀ r ∈ rs, RR a r) ∧ rs.Pairwise fun x y => kinB y x = false := by
  rw [told_iff]
  refine and_congr_right fun _ => and_congr_right fun _ => ?_
  rw [List.pairwise_iff_getElem]
  constructor
  · intro h i j hi hj hij
    have := h i j hij hj
    rwa [getD_el hi, getD_el hj] at this
  · intro h i j hij hj
    have := h i j (by omega) hj hij
    rwa [getD_el (show i < rs.length by omega), getD_el hj]
theorem Told.sublist {a : List Nat} {rs qs : List (List Nat)} (h : Told a rs) (s : qs.Sublist rs) : Told a qs := by
  obtain ⟨h1, h2, h3⟩ := told_pw.mp h
  exact told_pw.mpr ⟨Nat.le_trans s.length_le h1, fun r hr => h2 r (s.subset hr), h3.sublist s⟩
theorem drop_sub (rs : List (List Nat)) (k : Nat) : (rs.take k ++ rs.drop (k + 1)).Sublist rs := by
  have h : (rs.take k ++ rs.drop (k + 1)).Sublist (rs.take k ++ rs.drop k) := by
    refine List.Sublist.append (List.Sublist.refl _) ?_
    rw [show rs.drop (k + 1) = (rs.drop k).drop 1 by rw [List.drop_drop]]
    exact List.drop_sublist _ _
  rwa [List.take_append_drop] at h
theorem Told.perm {a : List Nat} {rs qs : List (List Nat)} (ha : Al a) (h : Told a rs) (s : rs.Perm qs) : Told a qs := by
  obtain ⟨h1, h2, h3⟩ := told_pw.mp h
  have h2' : ∀ r ∈ qs, RR a r := fun r hr => h2 r (s.mem_iff.mpr hr)
  refine told_pw.mpr ⟨by rw [← s.length_eq]; exact h1, h2', ?_⟩
  have h4 : rs.Pairwise fun x y => Row x ∧ Row y ∧ kinB y x = false := by
    rw [List.pairwise_iff_getElem] at h3 ⊢
    exact fun i j hi hj hij => ⟨(h2 _ (List.getElem_mem hi)).row ha, (h2 _ (List.getElem_mem hj)).row ha, h3 i j hi hj hij⟩
  have h5 := (s.pairwise_iff (R := fun x y => Row x ∧ Row y ∧ kinB y x = false) (fun {x y} ⟨r1, r2, k⟩ => ⟨r2, r1, by rw [kin_symm r1 r2]; exact k⟩)).mp h4
  exact h5.imp fun ⟨_, _, k⟩ => k
theorem Told.put {a : List Nat} {A B : List (List Nat)} {r r' : List Nat} (ha : Al a) (h : Told a (A ++ r :: B)) (hr : RR a r') (hk : kinB r' r = true) : Told a (A ++ r' :: B) := by
  have p1 : (A ++ r :: B).Perm (r :: (A ++ B)) := List.perm_middle
  have h1 := told_pw.mp (h.perm ha p1)
  obtain ⟨h2, h3, h4⟩ := h1
  rw [List.pairwise_cons] at h4
  have hrr := h3 r (List.mem_cons_self ..)
  refine Told.perm ha (told_pw.mpr ⟨?_, ?_, ?_⟩) (List.perm_middle (a := r') (l₁ := A) (l₂ := B)).symm
  · simpa using h2
  · intro z hz
    rcases List.mem_cons.mp hz with rfl | hz
    · exact hr
    · exact h3 z (List.mem_cons_of_mem _ hz)
  · rw [List.pairwise_cons]
    refine ⟨fun s hs => ?_, h4.2⟩
    have h5 := h4.1 s hs
    have hsr := (h3 s (List.mem_cons_of_mem _ hs)).row ha
    cases e : kinB s r' with
    | false => rfl
    | true =>
      rw [kin_trans (hr.row ha) (hrr.row ha) e hk] at h5
      cases h5
theorem bak_ne {a l : List Nat} (h : RR a l) : bak l ≠ l := fun e => by
  obtain ⟨_, h1, _, h2⟩ := h
  have h3 := h2 0 (by omega)
  apply h3
  have h4 : (bak l).getD 0 0 = swp (l.getD (l.length - 1) 0) := by
    unfold bak
    rw [getD_el (show 0 < (l.reverse.map swp).length by simp; omega), List.getElem_map, List.getElem_reverse, getD_el (by omega)]
    simp
  rw [e] at h4
  rw [h4]
  congr 2
  rw [Nat.zero_add]
  exact (Nat.mod_eq_of_lt (by omega)).symm
theorem rot_ne {a : List Nat} {rs : List (List Nat)} {k : Nat} (h : Told a rs) (h0 : 0 < k) (hk : k < rs.length) : rs.drop k ++ rs.take k ≠ rs := fun e => by
  have h1 := (told_iff.mp h).2.2 0 k h0 hk
  have h2 : rs.getD 0 [] = rs.getD k [] := by
    have : (rs.drop k ++ rs.take k).getD 0 [] = rs.getD k [] := by
      rw [List.getD_eq_getElem?_getD, List.getElem?_append_left (by rw [List.length_drop]; omega), List.getElem?_drop, Nat.add_zero, ← List.getD_eq_getElem?_getD]
    rw [← this, e]
  rw [h2, kin_refl] at h1
  cases h1
theorem drop_ne {rs : List (List Nat)} {k : Nat} (hk : k < rs.length) : rs.take k ++ rs.drop (k + 1) ≠ rs := fun e => by
  have := congrArg List.length e
  rw [List.length_append, List.length_take, List.length_drop] at this
  omega
theorem split_at {rs : List (List Nat)} {k : Nat} (hk : k < rs.length) : rs = rs.take k ++ rs.getD k [] :: rs.drop (k + 1) := by
  rw [getD_el hk, ← List.drop_eq_getElem_cons hk, List.take_append_drop]
theorem put_ne {rs : List (List Nat)} {k : Nat} {r : List Nat} (hk : k < rs.length) (h : r ≠ rs.getD k []) : rs.take k ++ r :: rs.drop (k + 1) ≠ rs := fun e => by
  apply h
  have : (rs.take k ++ r :: rs.drop (k + 1)).getD k [] = r := by
    rw [List.getD_eq_getElem?_getD, List.getElem?_append_right (by rw [List.length_take]; omega), List.length_take, Nat.min_eq_left (by omega), Nat.sub_self]
    rfl
  rw [← this, e]
/-- letters and rows that are others than these -/
def Oth (K : PySem.W.Frag) (H : Hp) (a : List Nat) (rs : List (List Nat)) (v : V) : Prop := ∃ (t : Addr) (u : V) (b : List Nat) (qs : List (List Nat)), v = .ref t ∧ H t = some (.tup [T b, u]) ∧ TupV K H u (qs.map T) ∧ Al b ∧ Told b qs ∧ ¬ (b = a ∧ qs = rs)
theorem Oth.same {K : PySem.W.Frag} {H H' : Hp} {a : List Nat} {rs : List (List Nat)} {v : V} (h : Oth K H a rs v) (s : Same H H') : Oth K H' a rs v := by
  obtain ⟨t, u, b, qs, e, e1, tv, r⟩ := h
  exact ⟨t, u, b, qs, e, s _ _ e1, tv.same s, r⟩
end NX
namespace NX
open PySem PySem.Spec PyProof.Rows L2
theorem told_reps {a : List Nat} {c : Nat} (hc : c ∈ a ++ a.map up1) (hl : lett c = true) {n : Nat} (hn : n ≤ 6) : Told a ((List.range n).map fun k => repL [c] (k + 1)) := by
  refine told_pw.mpr ⟨by simpa using hn, fun r hr => ?_, ?_⟩
  · obtain ⟨k, hk, rfl⟩ := List.mem_map.mp hr
    rw [List.mem_range] at hk
    exact rr_one hc hl (by omega) (by omega)
  · rw [List.pairwise_iff_getElem]
    intro i j hi hj hij
    simp only [List.getElem_map, List.getElem_range]
    exact kin_lens (by rw [repL_len, repL_len]; simp only [List.length_singleton]; omega)
/-- a tuple of rows that can be told -/
def Good (H : Hp) (a : List Nat) (v : V) : Prop := ∃ (q : Addr) (rs : List (List Nat)), v = .ref q ∧ H q = some (.tup (rs.map T)) ∧ Told a rs
theorem Good.same {H H' : Hp} {a : List Nat} {v : V} (h : Good H a v) (s : Same H H') : Good H' a v := by
  obtain ⟨q, rs, e, e1, t⟩ := h
  exact ⟨q, rs, e, s _ _ e1, t⟩
theorem rr_dec {b l : List Nat} (h1 : ∀ c ∈ l, c ∈ b ++ b.map up1) (h2 : 1 ≤ l.length) (h3 : l.length ≤ 40) (h4 : ∀ i, i < l.length → l.getD i 0 ≠ swp (l.getD ((i + l.length - 1) % l.length) 0)) : RR b l := ⟨h1, h2, h3, h4⟩
theorem tk_sub {a b : List Nat} {n : Nat} (h : a.take n = b) : ∀ c ∈ b, c ∈ a := fun c hc => List.mem_of_mem_take (h ▸ hc)
theorem told_g1 : Told [97, 98] [[97, 97, 98, 65, 98]] := told_of (by decide) (fun r hr => by
  simp only [List.mem_cons, List.not_mem_nil, or_false] at hr
  rcases hr with rfl; exact rr_dec (by decide) (by decide) (by decide) (by decide)) (by decide)
theorem told_g2 : Told [97, 98] [[97, 97, 98, 65, 98], [97, 97, 98, 97, 98]] := told_of (by decide) (fun r hr => by
  simp only [List.mem_cons, List.not_mem_nil, or_false] at hr
  rcases hr with rfl | rfl <;> exact rr_dec (by decide) (by decide) (by decide) (by decide)) (by decide)
theorem told_g3 : Told [97, 98] [[97, 98, 65, 66], [97, 98, 97, 98], [97, 98, 97, 66]] := told_of (by decide) (fun r hr => by
  simp only [List.mem_cons, List.not_mem_nil, or_false] at hr
  rcases hr with rfl | rfl | rfl <;> exact rr_dec (by decide) (by decide) (by decide) (by decide)) (by decide)
theorem told_g4 : Told [97, 98, 99] [[97, 97, 98, 99, 99], [99, 99, 98, 97, 97]] := told_of (by decide) (fun r hr => by
  simp only [List.mem_cons, List.not_mem_nil, or_false] at hr
  rcases hr with rfl | rfl <;> exact rr_dec (by decide) (by decide) (by decide) (by decide)) (by decide)
theorem told_g5 : Told [97, 98, 99] [[97, 97, 98, 99, 99], [65, 65, 66, 67, 67]] := told_of (by decide) (fun r hr => by
  simp only [List.mem_cons, List.not_mem_nil, or_false] at hr
  rcases hr with rfl | rfl <;> exact rr_dec (by decide) (by decide) (by decide) (by decide)) (by decide)
theorem told_g6 : Told [97, 98, 99] [[97, 98, 99], [97, 99, 98]] := told_of (by decide) (fun r hr => by
  simp only [List.mem_cons, List.not_mem_nil, or_false] at hr
  rcases hr with rfl | rfl <;> exact rr_dec (by decide) (by decide) (by decide) (by decide)) (by decide)
theorem told_one {a l : List Nat} (h : RR a l) : Told a [l] := told_pw.mpr ⟨by simp, fun r hr => by rw [List.mem_singleton.mp hr]; exact h, List.pairwise_singleton _ _⟩
theorem told_two {a l m : List Nat} (h : RR a l) (h2 : RR a m) (hk : kinB m l = false) : Told a [l, m] := told_pw.mpr ⟨by simp, fun r hr => by
  simp only [List.mem_cons, List.not_mem_nil, or_false] at hr
  rcases hr with rfl | rfl <;> assumption, List.pairwise_pair.mpr hk⟩
/-! ### sorted, of texts of one sign too -/
/-- sorted of a list of texts, however long -/
def rSortedA (K : PySem.W.Frag) : List V → Hp → VK → Prop := fun vs H Q => ∃ (a : Addr) (ss : List Str), vs = [V.ref a] ∧ SqL K H a (ss.map V.str) ∧ ∀ (ys : List Str) (p : Addr), ys.Perm ss → sortedS ys = true → H p = none → Q (.ref p) (upd H p (.lst (ys.map V.str)))
theorem cr_sortedA {X : Cx} : CallR X (.builtin "sorted") (rSortedA X.K) := by
  intro pins s σ H vs us Q I r h
  obtain ⟨a, xs, rfl, hs, q⟩ := h
  obtain ⟨its, rv, hl, hz⟩ := I.list hs
  rw [Vals.ref1 r]
  have hlen0 := rv.length
  rw [List.length_map] at hlen0 hz
  refine PyProof.Rows.sorted_strsAny hl.isList rv.strs (by rw [← hlen0]; exact hz) fun out ys h1 h2 h3 => ?_
  obtain ⟨ep, he'⟩ := PyProof.Rows.sortedAll_at s.heap its out
  have hlen : (ys.map V.str).length ≤ sizeLine := by rw [List.length_map, h2.length_eq]; exact hz
  exact ⟨.ref _, upd H (s.heap.objs.size + 1) (.lst (ys.map V.str)), I.laid (t' := s.toks) (fun _ _ => PyProof.Rows.sortedAll_old) (Nat.le_succ _) ⟨hlen, out.toList, ep, vals_of_strs h1, he'⟩, rfl, q ys _ h2 h3 (I.hok.fresh (Nat.le_succ _))⟩
def rSortedG (K : PySem.W.Frag) : List V → Hp → VK → Prop := fun xs H Q => rSortedS K xs H Q ∨ rSortedLT K xs H Q ∨ (∃ (d : Nat) (B : Int), 1 ≤ d ∧ rSortU K d B xs H Q) ∨ rSortedA K xs H Q
theorem cr_sortedGK {X : Cx} (K : PySem.W.Frag) (hK : X.K = K := by rfl) : CallR X (.builtin "sorted") (rSortedG K) := by
  intro pins s σ H xs us Q I r h
  rcases h with h | h | ⟨d, B, hd, h⟩ | h
  · exact cr_sortedSK K hK pins s σ H xs us Q I r h
  · exact cr_sortedLTK K hK pins s σ H xs us Q I r h
  · subst hK; exact cr_sortT hd pins s σ H xs us Q I r h
  · subst hK; exact cr_sortedA pins s σ H xs us Q I r h
theorem ones_of (us : List (List Nat)) (h : ∀ u ∈ us, ∃ c, u = [c]) : ∃ zs : List Nat, us = zs.map fun c => [c] := by
  induction us with
  | nil => exact ⟨[], rfl⟩
  | cons u us ih =>
    obtain ⟨c, rfl⟩ := h _ List.mem_cons_self
    obtain ⟨zs, rfl⟩ := ih fun v hv => h v (List.mem_cons_of_mem _ hv)
    exact ⟨c :: zs, rfl⟩
theorem one_perm {zs ls : List Nat} (h : (zs.map fun c => [c]).Perm (ls.map fun c => [c])) : zs.Perm ls := by
  have := h.map fun u : List Nat => u.headD 0
  rw [List.map_map, List.map_map] at this
  have e : ∀ l : List Nat, l.map ((fun u : List Nat => u.headD 0) ∘ fun c => [c]) = l := fun l => by
    conv => rhs; rw [← List.map_id l]
    rfl
  rwa [e, e] at this
theorem r_sortCh {K : PySem.W.Frag} {H : Hp} {Q : VK} {p : Addr} {ls : List Nat} (e : SqL K H p ((ls.map fun c => [c]).map T)) (hl : ls.length < 64) (h : ∀ (zs : List Nat) (d : Addr), zs.Perm ls → zs.Pairwise (· ≤ ·) → H d = none → Q (.ref d) (upd H d (.lst ((zs.map fun c => [c]).map T)))) : rSortedG K [.ref p] H Q := by
  refine .inl (r_sortedS e (by simpa using hl) fun zs d hp hs nd => ?_)
  obtain ⟨cs, rfl⟩ := ones_of zs fun u hu => by
    obtain ⟨c, _, rfl⟩ := List.mem_map.mp (hp.mem_iff.mp hu)
    exact ⟨c, rfl⟩
  refine h cs d (one_perm hp) ?_ nd
  have hq := sorted_pw _ hs
  rw [List.map_map, List.pairwise_map] at hq
  refine hq.imp fun {a b} h => ?_
  have h1 : [a] ≤ [b] := by simpa [mkS] using h
  rcases Nat.lt_or_ge b a with q | q
  · exact absurd (List.cons_lt_cons_iff.mpr (.inl q)) (List.not_lt.mpr h1)
  · exact q
theorem al_snoc {a zs : List Nat} {o : Nat} (ha : Al a) (h4 : a.length < 4) (hoa : o ∉ a) (ho : 97 ≤ o ∧ o ≤ 122) (hp : zs.Perm (a ++ [o])) (hs : zs.Pairwise (· ≤ ·)) : Al zs := by
  have hn : zs.Nodup := by
    rw [hp.nodup_iff, List.nodup_append]
    refine ⟨ha.2.2.2.imp fun h => Nat.ne_of_lt h, by simp, fun x hx y hy => ?_⟩
    rw [List.mem_singleton.mp hy]
    exact fun z => hoa (z ▸ hx)
  refine al_of (ls := a ++ [o]) ((hs.and hn).imp fun h => Nat.lt_of_le_of_ne h.1 h.2) (fun c => hp.mem_iff) (fun c hc => ?_) (by simp) (by simp; omega)
  rcases List.mem_append.mp hc with z | z
  · exact ha.2.2.1 c z
  · rw [List.mem_singleton.mp z]; exact ho
/-- no int -/
def NotI (K : PySem.W.Frag) (H : Hp) (v : V) : Prop := ∃ t, TyX K H v (.type t) ∧ kitB t "int" = some false
theorem NotI.same {K : PySem.W.Frag} {H H' : Hp} {v : V} (h : NotI K H v) (s : Same H H') : NotI K H' v := by
  obtain ⟨t, ty, k⟩ := h
  exact ⟨t, TyX.same ty s, k⟩
/-- no index of n things -/
def BadIx (K : PySem.W.Frag) (H : Hp) (n : Nat) (v : V) : Prop := (∃ i : Int, v = .int i ∧ ¬ (0 ≤ i ∧ i < (n : Int))) ∨ ((∃ b, v = .bl b) ∨ NotI K H v)
theorem BadIx.same {K : PySem.W.Frag} {H H' : Hp} {n : Nat} {v : V} (h : BadIx K H n v) (s : Same H H') : BadIx K H' n v := h.imp id fun h => h.imp id fun h => h.same s
theorem TupV.tr {K : PySem.W.Frag} {H : Hp} {v : V} {xs : List V} (h : TupV K H v xs) (n : xs ≠ []) : ∃ p, v = .ref p ∧ H p = some (.tup xs) := by
  obtain ⟨p, e, h | h⟩ := h
  · exact ⟨p, e, h⟩
  · exact absurd h.1 n
/-- a value of a built-in kind -/
def OddV (K : PySem.W.Frag) (H : Hp) (v : V) : Prop := ∃ n : String, TyX K H v (.type n) ∧ n ∈ ["NoneType", "bool", "int", "str", "list", "tuple", "dict"]
theorem OddV.same {K : PySem.W.Frag} {H H' : Hp} {v : V} (h : OddV K H v) (s : Same H H') : OddV K H' v := by
  obtain ⟨n, ty, hn⟩ := h
  exact ⟨n, TyX.same ty s, hn⟩
/-! ### the list of others -/
theorem Oth.kp {K : PySem.W.Frag} {H H' : Hp} {a : List Nat} {rs : List (List Nat)} {v : V} {d : Addr} {ys : List V} (h : Oth K H a rs v) (k : Kp d H H') (hd : H d = some (.lst ys)) : Oth K H' a rs v := by
  obtain ⟨t, u, b, qs, e, e1, tv, r⟩ := h
  refine ⟨t, u, b, qs, e, k _ _ (fun z => ?_) e1, tv.kp k (fun ys z => ?_), r⟩
  · rw [z, hd] at e1; cases e1
  · rw [hd] at z; cases z
theorem perm_cut (rs : List (List Nat)) (i : Nat) : rs.Perm (rs.drop i ++ rs.take i) := by
  have h : (rs.take i ++ rs.drop i).Perm (rs.drop i ++ rs.take i) := List.perm_append_comm
  rwa [List.take_append_drop] at h
theorem turn_cut (l : List Nat) (i : Nat) : Turn l (l.drop i ++ l.take i) := ⟨l.take i, l.drop i, (List.take_append_drop i l).symm, rfl⟩
theorem fm_none {α : Type} (n : Nat) : (List.range n).filterMap (fun _ => (none : Option α)) = [] := by simp [List.filterMap_eq_nil_iff]
def Fnd (K : PySem.W.Frag) (H0 H' : Hp) (d : Addr) (a : List Nat) (rs : List (List Nat)) (m : Nat) : Prop := ∃ xs, H' d = some (.lst xs) ∧ xs.length ≤ m ∧ (∀ v ∈ xs, Oth K H' a rs v) ∧ Kp d H0 H'
theorem Fnd.add {K : PySem.W.Frag} {H0 H1 H2 : Hp} {d : Addr} {a : List Nat} {rs : List (List Nat)} {m : Nat} {v : V} {Q : VK} (h : Fnd K H0 H1 d a rs m) (s : Same H1 H2) (ho : Oth K H2 a rs v) (hm : m < 1000) (q : ∀ H3, Kp d H2 H3 → Fnd K H0 H3 d a rs (m + 1) → Q .non H3) : rAppend (.ref d) [v] H2 Q := by
  obtain ⟨xs, e, hl, hx, k⟩ := h
  have e2 := s _ _ e
  have k2 : Kp d H2 (upd H2 d (.lst (xs ++ [v]))) := fun b o hb hbo => by rw [upd_ne hb]; exact hbo
  refine r_append e2 (by omega) (q _ k2 ⟨_, upd_same, by simp; omega, fun u hu => ?_, (k.trans (Kp.of s)).trans k2⟩)
  rcases List.mem_append.mp hu with hu | hu
  · exact ((hx u hu).same s).kp k2 e2
  · rw [List.mem_singleton.mp hu]; exact ho.kp k2 e2
theorem Fnd.mono {K : PySem.W.Frag} {H0 H1 : Hp} {d : Addr} {a : List Nat} {rs : List (List Nat)} {m n : Nat} (h : Fnd K H0 H1 d a rs m) (hn : m ≤ n) : Fnd K H0 H1 d a rs n := by
  obtain ⟨xs, e, hl, r⟩ := h
  exact ⟨xs, e, by omega, r⟩
theorem Fnd.get {K : PySem.W.Frag} {H0 H1 : Hp} {d p : Addr} {a : List Nat} {rs : List (List Nat)} {m : Nat} {o : HO} (h : Fnd K H0 H1 d a rs m) (e : H0 p = some o) (n : p ≠ d) : H1 p = some o := by
  obtain ⟨_, _, _, _, k⟩ := h
  exact k _ _ n e
theorem Fnd.ls {K : PySem.W.Frag} {H0 H1 : Hp} {d : Addr} {a : List Nat} {rs : List (List Nat)} {m : Nat} (h : Fnd K H0 H1 d a rs m) : ∃ xs, H1 d = some (.lst xs) := by
  obtain ⟨xs, e, _⟩ := h
  exact ⟨xs, e⟩
theorem Kp.same {d : Addr} {H H' : Hp} (k : Kp d H H') (n : H d = none) : Same H H' := fun b o e => k b o (fun z => by rw [z, n] at e; cases e) e
theorem lk2 {f g h : Str} {u v : V} (h1 : (h == f) = false) (h2 : (h == g) = false) : List.lookup h [(f, u), (g, v)] = none := by simp [List.lookup, h1, h2]
end NX
namespace NX
open PySem PySem.Spec PyProof.Rows L2
inductive Or3 (A B C : Prop) : Prop
  | inl (h : A)
  | inr (h : B)
  | tup (h : C)
theorem RowOf.take {a l : List Nat} (h : RowOf a l) (n : Nat) : RowOf a (l.take n) := fun c hc => h c (List.mem_of_mem_take hc)
theorem RowOf.drop {a l : List Nat} (h : RowOf a l) (n : Nat) : RowOf a (l.drop n) := fun c hc => h c (List.mem_of_mem_drop hc)
theorem RowOf.app {a l m : List Nat} (h : RowOf a l) (g : RowOf a m) : RowOf a (l ++ m) := fun c hc => (List.mem_append.mp hc).elim (h c) (g c)
theorem RowOf.rev {a l : List Nat} (h : RowOf a l) : RowOf a l.reverse := fun c hc => h c (List.mem_reverse.mp hc)
/-- the kin of a row, listed -/
def kinAll (l : List Nat) : List (List Nat) := rots l ++ (rots l).map bak
theorem kinAll_mem {l m : List Nat} (hl : Row l) (hm : Row m) (hp : 0 < m.length) : l ∈ kinAll m ↔ kinB l m = true := by
  have hr : ∀ S : List Nat, S ∈ rots m ↔ Turn m S := fun S => by
    unfold rots
    rw [List.mem_map]
    constructor
    · rintro ⟨i, hi, rfl⟩
      exact turn_cut m i
    · intro h
      obtain ⟨i, hi, e⟩ := h.rot
      rcases Nat.lt_or_ge i m.length with q | q
      · exact ⟨i, List.mem_range.mpr q, e.symm⟩
      · refine ⟨0, List.mem_range.mpr hp, ?_⟩
        have : i = m.length := by omega
        subst this
        rw [e]; simp [rot]
  unfold kinAll
  rw [List.mem_append, kinB_iff, hr]
  refine or_congr Iff.rfl ?_
  rw [List.mem_map]
  constructor
  · rintro ⟨S, hS, rfl⟩
    exact ((hr S).mp hS).bak
  · intro h
    refine ⟨bak l, (hr _).mpr ?_, bak_bak hl⟩
    have := h.bak
    rwa [bak_bak hm] at this
/-- the row l made like to the letters by a kin that can be told -/
theorem rr_kin {a l r : List Nat} (ha : Al a) (hr : RR a r) (h : kinB l r = true) : RR a l := by
  rcases (kinB_iff _ _).mp h with t | t
  · exact hr.turn ha t
  · exact (hr.bak ha).turn ha t
theorem stB_iff {a : List Nat} {es : List (List Nat)} {l : List Nat} : stB a es l = true ↔ es.length < 6 ∧ RR a l ∧ ∀ e ∈ es, kinB l e = false := by
  unfold stB
  rw [Bool.and_eq_true, Bool.and_eq_true, decide_eq_true_eq, decide_eq_true_eq, List.all_eq_true]
  refine and_congr_right fun _ => and_congr_right fun _ => ⟨fun h e he => ?_, fun h e he => ?_⟩
  · have := h e he
    cases q : kinB l e with
    | false => rfl
    | true => rw [q] at this; cases this
  · rw [h e he]; rfl
/-- a row that is refused for a kin is let without that kin -/
theorem st_without {a : List Nat} {rs : List (List Nat)} {l : List Nat} {k : Nat} (ha : Al a) (ht : Told a rs) (hk : k < rs.length) (h6 : rs.length < 6) (h : kinB l (rs.getD k []) = true) : stB a (rs.take k ++ rs.drop (k + 1)) l = true := by
  have hrk := ht.2.1 _ (getD_memL hk)
  have hl := rr_kin ha hrk h
  refine stB_iff.mpr ⟨by rw [List.length_append, List.length_take, List.length_drop]; omega, hl, fun e he => ?_⟩
  cases q : kinB l e with
  | false => rfl
  | true =>
    have hpw := (told_pw.mp ht).2.2
    rw [split_at hk, List.pairwise_append] at hpw
    obtain ⟨_, h2, h3⟩ := hpw
    rw [List.pairwise_cons] at h2
    have her : RR a e := ht.2.1 e ((drop_sub rs k).subset he)
    have hkl : kinB (rs.getD k []) l = true := by rw [kin_symm (hrk.row ha) (hl.row ha)]; exact h
    have hke : kinB (rs.getD k []) e = true := kin_trans (hl.row ha) (her.row ha) hkl q
    rcases List.mem_append.mp he with z | z
    · rw [h3 e z _ (List.mem_cons_self ..)] at hke; cases hke
    · have := h2.1 e z
      rw [kin_symm (her.row ha) (hrk.row ha), hke] at this; cases this
theorem sqL_same {K : PySem.W.Frag} {H H' : Hp} {a : Addr} {xs : List V} (h : SqL K H a xs) (s : Same H H') : SqL K H' a xs :=
  h.elim (fun h => .inl (h.elim (fun h => .inl (s _ _ h)) fun ⟨o, h⟩ => .inr ⟨o, s _ _ h⟩)) fun h => .inr h
theorem fm_ints (f : Nat → Bool) (L : List Nat) : L.filterMap (fun i => if f i = true then some (V.int (i : Nat)) else none) = ((L.filter f).map fun i : Nat => (i : Int)).map V.int := by
  induction L with
  | nil => rfl
  | cons i L ih =>
    cases e : f i with
    | true => rw [List.filterMap_cons_some (b := V.int (i : Nat)) (by rw [if_pos e]), List.filter_cons_of_pos e, ih]; rfl
    | false => rw [List.filterMap_cons_none (by rw [if_neg (by rw [e]; decide)]), List.filter_cons_of_neg (by rw [e]; decide), ih]
end NX
set_option maxHeartbeats 2000000
namespace PySem
open Sem (wp)
/-! ### enumerate over zip: the zip's own tuple is not let go -/
abbrev IsZipX (h : Heap) (z TI TO : Addr) (f0 : Value) (b : Bool) : Prop :=
  h.get? z = some { cls := .type "zip", dict := none, data := .fields #[f0, .bool b, .bool false, .ref TI, .ref TO], slots := #[] }
def OwnZ (f0 : Value) : Prop := f0 = .none ∨ ∃ a : Nat, f0 = rawInt a
section
variable {prog : Program} {w : World} {A : Around} {E : Value → Shared → Prop} {s : Shared} {z TI TO i1 i2 : Addr} {fp1 fp2 : List Addr} {n1 n2 i : Nat} {P1 P2 : Nat → Value → Prop} {St1 St2 : Nat → Heap → Prop} {a1 a2 : Value}
theorem zx_alive {a : Addr} {Q : Option Obj → Shared → Prop} (h : Q (s.heap.get? a) s) : wpAny (model prog w) A (loadIfAlive a) Q E s := fun Γ p hΓ => h
theorem zx_free {f0 : Value} {b : Bool} {Q : Bool → Shared → Prop} (own : OwnZ f0) (hz : IsZipX s.heap z TI TO f0 b)
    (h1 : Q true s) (h2 : ∀ h' b', IsZipX h' z TI TO f0 b' → Heap.SameBut z s.heap h' → Q false { s with heap := h' }) :
    wpAny (model prog w) A (Builtin.SmallTypes.ownedTupleIsFree (.ref z)) Q E s := by
  unfold Builtin.SmallTypes.ownedTupleIsFree
  refine wpAny_bind (wpAny_field hz rfl (x := f0) rfl ?_)
  rcases own with rfl | ⟨a, rfl⟩
  · exact wpAny_pure h1
  · show wpAny _ _ (loadIfAlive ((a : Int).toNat) >>= _) _ _ _
    refine wpAny_bind (zx_alive ?_)
    cases hh : s.heap.get? ((a : Int).toNat) with
    | none => exact wpAny_pure h1
    | some o =>
      simp only [Option.isNone_some, Bool.false_eq_true, if_false]
      refine wpAny_bind (wpAny_field hz rfl (x := .bool b) rfl ?_)
      cases b with
      | true => exact wpAny_pure (h2 _ true hz (Heap.SameBut.refl _ _))
      | false =>
        refine wpAny_bind (wpAny_setField_rec hz (by simp) fun g hg hs => wpAny_pure (h2 g true hg hs))
theorem zx_next_item {f0 : Value} {b : Bool} {Q : Value → Shared → Prop} (S : ZipSep2 z TI TO i1 i2 fp1 fp2) (D1 : Draws prog w A i1 fp1 n1 P1 St1) (D2 : Draws prog w A i2 fp2 n2 P2 St2)
    (own : OwnZ f0) (hz : IsZipX s.heap z TI TO f0 b) (hTI : IsTupOf2 s.heap TI (.ref i1) (.ref i2)) (hTO : IsTupOf2 s.heap TO a1 a2) (st1 : St1 i s.heap) (st2 : St2 i s.heap) (hlt1 : i < n1) (hlt2 : i < n2)
    (hQ : ∀ x1 x2 y1 y2 h' tk f0' b', P1 i x1 → P2 i x2 → OwnZ f0' → IsZipX h' z TI TO f0' b' → IsTupOf2 h' TO y1 y2 → St1 (i + 1) h' → St2 (i + 1) h' → IsTupOf2 h' s.heap.objs.size x1 x2 → h'.objs.size = s.heap.objs.size + 1 →
      (∀ c o, c ≠ z → c ≠ TO → c ≠ i1 → c ≠ i2 → s.heap.get? c = some o → h'.get? c = some o) → Q (.ref s.heap.objs.size) { s with heap := h', toks := tk }) :
    wpAny (model prog w) A (Builtin.«zip.__next__» ⟨[.ref z], []⟩) (fun fin s' => ∃ v, fin = .done (.ret v) ∧ Q v s') E s := by
  obtain ⟨hp, g, d, tk0, os⟩ := s
  show wpAny _ _ (field (.ref z) 2 >>= _) _ _ _
  refine wpAny_bind (wpAny_field hz rfl (x := .bool false) rfl ?_)
  show wpAny _ _ (field (.ref z) 3 >>= _) _ _ _
  refine wpAny_bind (wpAny_field hz rfl (x := .ref TI) rfl ?_)
  refine wpAny_bind (wpAny_seqItems hTI rfl ?_)
  show wpAny _ _ (Builtin.SmallTypes.ownedTupleIsFree (.ref z) >>= _) _ _ _
  refine wpAny_bind (zx_free own hz ?_ fun g0 b0 hz0 hs0 => ?_)
  · simp only [if_true]
    refine wpAny_bind (wpAny_rule ?_)
    refine wpAny_bind (wpAny_field hz rfl (x := .ref TO) rfl ?_)
    refine wpAny_bind (wpAny_setField_rec hz (by simp) fun g0 hz0 hs0 => ?_)
    replace hz0 : IsZipX g0 z TI TO .ellipsis b := hz0
    replace hs0 : Heap.SameBut z hp g0 := hs0
    refine wpAny_bind ?_
    simp only [List.zipIdx_cons, List.zipIdx_nil, List.forIn_cons, List.forIn_nil]
    refine wpAny_bind (wpAny_bind (wpAny_onRaise ?_))
    show wpAny _ _ (Builtin.SmallTypes.nextOf (.ref i1) >>= _) _ _ ⟨g0, g, d, tk0, os⟩
    refine wpAny_bind (D1.item i _ _ _ hlt1 (D1.over st1 hs0 S.zf1) fun x1 p1 tk1 hx1 sn1 hp1 => wpAny_pure ?_)
    replace hp1 : Heap.SameBut i1 g0 p1 := hp1
    have hU1 : IsTupOf2 p1 TO a1 a2 := hp1.extBut _ _ S.Ti1 (hs0.extBut _ _ S.TOz hTO)
    refine wpAny_bind (wpAny_seqItems (s := ⟨p1, g, d, tk1, os⟩) hU1 rfl ?_)
    refine wpAny_bind (updateSeq_IsTupOf2 (s := ⟨p1, g, d, tk1, os⟩) hU1 fun g1 hT1 hs1 => ?_)
    replace hT1 : IsTupOf2 g1 TO x1 a2 := hT1
    replace hs1 : Heap.SameBut TO p1 g1 := hs1
    refine wpAny_bind (wpAny_letGo (wpAny_pure ?_))
    refine wpAny_bind (wpAny_bind (wpAny_onRaise ?_))
    show wpAny _ _ (Builtin.SmallTypes.nextOf (.ref i2) >>= _) _ _ ⟨g1, g, d, tk1, os⟩
    refine wpAny_bind (D2.item i _ _ _ hlt2 (D2.over (D2.over (D2.over st2 hs0 S.zf2) hp1 S.sep1_2) hs1 S.Tf2) fun x2 p2 tk2 hx2 sn2 hp2 => wpAny_pure ?_)
    replace hp2 : Heap.SameBut i2 g1 p2 := hp2
    have hU2 : IsTupOf2 p2 TO x1 a2 := hp2.extBut _ _ S.Ti2 hT1
    refine wpAny_bind (wpAny_seqItems (s := ⟨p2, g, d, tk2, os⟩) hU2 rfl ?_)
    refine wpAny_bind (updateSeq_IsTupOf2 (s := ⟨p2, g, d, tk2, os⟩) hU2 fun g2 hT2 hs2 => ?_)
    replace hT2 : IsTupOf2 g2 TO x1 x2 := hT2
    replace hs2 : Heap.SameBut TO p2 g2 := hs2
    refine wpAny_bind (wpAny_letGo (wpAny_pure (wpAny_pure ?_)))
    refine wpAny_bind (wpAny_seqItems (s := ⟨g2, g, d, tk2, os⟩) hT2 rfl ?_)
    refine wpAny_bind (wpAny_newTuple ?_)
    have hsz : g2.objs.size = hp.objs.size := by rw [hs2.1, hp2.1, hs1.1, hp1.1, hs0.1]
    have hzz : IsZipX g2 z TI TO .ellipsis b := (hs2.extBut _ _ S.TOz.symm (hp2.extBut _ _ S.zi2 (hs1.extBut _ _ S.TOz.symm (hp1.extBut _ _ S.zi1 hz0))))
    have hkk : ∀ c o, c ≠ z → c ≠ TO → c ≠ i1 → c ≠ i2 → hp.get? c = some o → g2.get? c = some o := fun c o cz cT c1 c2 e =>
      (hs2.extBut _ _ cT (hp2.extBut _ _ c2 (hs1.extBut _ _ cT (hp1.extBut _ _ c1 (hs0.extBut _ _ cz e)))))
    have hj1 : St1 (i + 1) g2 := (D1.over (D1.over (D1.over sn1 hs1 S.Tf1) hp2 S.sep2_1) hs2 S.Tf1)
    have hj2 : St2 (i + 1) g2 := (D2.over sn2 hs2 S.Tf2)
    have hzlt : z < g2.objs.size := Heap.lt_size hzz
    show wpAny _ _ (Builtin.SmallTypes.ownedTupleHandOut (.ref z) (.ref g2.objs.size) >>= _) _ _ ⟨g2.push { cls := .type "tuple", data := .seq #[x1, x2] }, g, d, tk2, os⟩
    refine wpAny_bind ?_
    unfold Builtin.SmallTypes.ownedTupleHandOut
    have hz₆ : IsZipX (g2.push { cls := .type "tuple", data := .seq #[x1, x2] }) z TI TO .ellipsis b := Heap.get?_push_of_some _ hzz
    refine wpAny_bind (wpAny_setField_rec hz₆ (by simp) fun h₇ hz₇ hs₇ => ?_)
    replace hz₇ : IsZipX h₇ z TI TO (rawInt g2.objs.size) b := hz₇
    refine wpAny_setField_rec hz₇ (by simp) fun h₈ hz₈ hs₈ => ?_
    replace hz₈ : IsZipX h₈ z TI TO (rawInt g2.objs.size) false := hz₈
    replace hs₇ : Heap.SameBut z (g2.push { cls := .type "tuple", data := .seq #[x1, x2] }) h₇ := hs₇
    replace hs₈ : Heap.SameBut z h₇ h₈ := hs₈
    have up : ∀ c o, c ≠ z → g2.get? c = some o → h₈.get? c = some o := fun c o c1 e => hs₈.extBut _ _ c1 (hs₇.extBut _ _ c1 (Heap.get?_push_of_some _ e))
    have hT₈ : IsTupOf2 h₈ g2.objs.size x1 x2 := hs₈.extBut _ _ (Nat.ne_of_gt hzlt) (hs₇.extBut _ _ (Nat.ne_of_gt hzlt) (Heap.get?_push_size _ rfl))
    have hz8 : h₈.objs.size = g2.objs.size + 1 := by rw [hs₈.1, hs₇.1, Heap.size_push]
    rw [hsz] at hz₈ hT₈ hz8
    refine wpAny_pure ⟨_, rfl, ?_⟩
    show Q (.ref g2.objs.size) ⟨h₈, g, d, tk2, os⟩
    rw [hsz]
    exact hQ x1 x2 x1 x2 h₈ tk2 _ _ hx1 hx2 (.inr ⟨_, rfl⟩) hz₈ (up _ _ S.TOz hT2) (D1.frame _ _ _ hj1 fun b hb o e => up b o (fun q => S.zf1 (q ▸ hb)) e) (D2.frame _ _ _ hj2 fun b hb o e => up b o (fun q => S.zf2 (q ▸ hb)) e) hT₈ hz8 fun c o cz cT c1 c2 e => up c o cz (hkk c o cz cT c1 c2 e)
  · replace hs0 : Heap.SameBut z hp g0 := hs0
    replace hz0 : IsZipX g0 z TI TO f0 b0 := hz0
    simp only [Bool.false_eq_true, if_false]
    refine wpAny_bind ?_
    simp only [List.forIn_toArray, List.forIn_cons, List.forIn_nil]
    refine wpAny_bind (wpAny_bind (wpAny_holding ?_))
    show wpAny _ _ (Builtin.SmallTypes.nextOf (.ref i1) >>= _) _ _ ⟨g0, g, d, tk0, os⟩
    refine wpAny_bind (D1.item i _ _ _ hlt1 (D1.over st1 hs0 S.zf1) fun x1 p1 tk1 hx1 sn1 hp1 => wpAny_pure (wpAny_pure ?_))
    replace hp1 : Heap.SameBut i1 g0 p1 := hp1
    refine wpAny_bind (wpAny_bind (wpAny_holding ?_))
    show wpAny _ _ (Builtin.SmallTypes.nextOf (.ref i2) >>= _) _ _ ⟨p1, g, d, tk1, os⟩
    refine wpAny_bind (D2.item i _ _ _ hlt2 (D2.over (D2.over st2 hs0 S.zf2) hp1 S.sep1_2) fun x2 p2 tk2 hx2 sn2 hp2 => wpAny_pure (wpAny_pure (wpAny_pure ?_)))
    replace hp2 : Heap.SameBut i2 p1 p2 := hp2
    show wpAny _ _ (newTuple [x1, x2] >>= _) _ _ ⟨p2, g, d, tk2, os⟩
    refine wpAny_bind (wpAny_newTuple ?_)
    have hsz : p2.objs.size = hp.objs.size := by rw [hp2.1, hp1.1, hs0.1]
    have hzz : IsZipX p2 z TI TO f0 b0 := hp2.extBut _ _ S.zi2 (hp1.extBut _ _ S.zi1 hz0)
    have hTT : IsTupOf2 p2 TO a1 a2 := hp2.extBut _ _ S.Ti2 (hp1.extBut _ _ S.Ti1 (hs0.extBut _ _ S.TOz hTO))
    have hkk : ∀ c o, c ≠ z → c ≠ TO → c ≠ i1 → c ≠ i2 → hp.get? c = some o → p2.get? c = some o := fun c o cz cT c1 c2 e => hp2.extBut _ _ c2 (hp1.extBut _ _ c1 (hs0.extBut _ _ cz e))
    have up : ∀ c o, p2.get? c = some o → (p2.push { cls := .type "tuple", data := .seq #[x1, x2] }).get? c = some o := fun c o e => Heap.get?_push_of_some _ e
    refine wpAny_pure ⟨_, rfl, ?_⟩
    show Q (.ref p2.objs.size) ⟨p2.push { cls := .type "tuple", data := .seq #[x1, x2] }, g, d, tk2, os⟩
    have e8 : IsTupOf2 (p2.push { cls := .type "tuple", data := .seq #[x1, x2] }) p2.objs.size x1 x2 := Heap.get?_push_size _ rfl
    rw [hsz] at e8 ⊢
    exact hQ x1 x2 a1 a2 _ tk2 f0 b0 hx1 hx2 own (up _ _ hzz) (up _ _ hTT) (D1.frame _ _ _ (D1.over sn1 hp2 S.sep2_1) fun b hb o e => up b o e) (D2.frame _ _ _ sn2 fun b hb o e => up b o e) e8 (by rw [Heap.size_push, hsz]) fun c o cz cT c1 c2 e => up c o (hkk c o cz cT c1 c2 e)
theorem zx_next_end {f0 : Value} {b : Bool} {Q : Fin → Shared → Prop} (S : ZipSep2 z TI TO i1 i2 fp1 fp2) (D1 : Draws prog w A i1 fp1 n1 P1 St1) (D2 : Draws prog w A i2 fp2 n2 P2 St2)
    (own : OwnZ f0) (hz : IsZipX s.heap z TI TO f0 b) (hTI : IsTupOf2 s.heap TI (.ref i1) (.ref i2)) (hTO : IsTupOf2 s.heap TO a1 a2) (st1 : St1 i s.heap) (st2 : St2 i s.heap) (hle1 : i ≤ n1) (hle2 : i ≤ n2) (hend : i = n1 ∨ i = n2)
    (hE : ∀ h' tk e, (∀ c o, c ≠ z → c ≠ TO → c ≠ i1 → c ≠ i2 → s.heap.get? c = some o → h'.get? c = some o) → (∃ o, h'.get? e = some o ∧ o.cls = .type "StopIteration") → E (.ref e) { s with heap := h', toks := tk }) :
    wpAny (model prog w) A (Builtin.«zip.__next__» ⟨[.ref z], []⟩) Q E s := by
  obtain ⟨hp, g, d, tk0, os⟩ := s
  show wpAny _ _ (field (.ref z) 2 >>= _) _ _ _
  refine wpAny_bind (wpAny_field hz rfl (x := .bool false) rfl ?_)
  show wpAny _ _ (field (.ref z) 3 >>= _) _ _ _
  refine wpAny_bind (wpAny_field hz rfl (x := .ref TI) rfl ?_)
  refine wpAny_bind (wpAny_seqItems hTI rfl ?_)
  show wpAny _ _ (Builtin.SmallTypes.ownedTupleIsFree (.ref z) >>= _) _ _ _
  refine wpAny_bind (zx_free own hz ?_ fun g0 b0 hz0 hs0 => ?_)
  · simp only [if_true]
    refine wpAny_bind (wpAny_rule ?_)
    refine wpAny_bind (wpAny_field hz rfl (x := .ref TO) rfl ?_)
    refine wpAny_bind (wpAny_setField_rec hz (by simp) fun g0 hz0 hs0 => ?_)
    replace hz0 : IsZipX g0 z TI TO .ellipsis b := hz0
    replace hs0 : Heap.SameBut z hp g0 := hs0
    refine wpAny_bind ?_
    simp only [List.zipIdx_cons, List.zipIdx_nil, List.forIn_cons, List.forIn_nil]
    refine wpAny_bind (wpAny_bind (wpAny_onRaise ?_))
    show wpAny _ _ (Builtin.SmallTypes.nextOf (.ref i1) >>= _) _ _ ⟨g0, g, d, tk0, os⟩
    by_cases hlt1 : i < n1
    · refine wpAny_bind (D1.item i _ _ _ hlt1 (D1.over st1 hs0 S.zf1) fun x1 p1 tk1 hx1 sn1 hp1 => wpAny_pure ?_)
      replace hp1 : Heap.SameBut i1 g0 p1 := hp1
      have hU1 : IsTupOf2 p1 TO a1 a2 := hp1.extBut _ _ S.Ti1 (hs0.extBut _ _ S.TOz hTO)
      refine wpAny_bind (wpAny_seqItems (s := ⟨p1, g, d, tk1, os⟩) hU1 rfl ?_)
      refine wpAny_bind (updateSeq_IsTupOf2 (s := ⟨p1, g, d, tk1, os⟩) hU1 fun g1 hT1 hs1 => ?_)
      replace hT1 : IsTupOf2 g1 TO x1 a2 := hT1
      replace hs1 : Heap.SameBut TO p1 g1 := hs1
      refine wpAny_bind (wpAny_letGo (wpAny_pure ?_))
      have hi2 : i = n2 := by omega
      refine wpAny_bind (wpAny_bind (wpAny_onRaise ?_))
      show wpAny _ _ (Builtin.SmallTypes.nextOf (.ref i2) >>= _) _ _ ⟨g1, g, d, tk1, os⟩
      refine wpAny_bind (D2.done ⟨g1, g, d, tk1, os⟩ _ _ (by rw [← hi2]; exact (D2.over (D2.over (D2.over st2 hs0 S.zf2) hp1 S.sep1_2) hs1 S.Tf2)) fun q e hq he => ?_)
      replace hq : Heap.ExtBut i2 g1 q := hq
      obtain ⟨oe, hoe, hce⟩ := he
      replace hoe : q.get? e = some oe := hoe
      have hzq : IsZipX q z TI TO .ellipsis b := hq _ _ S.zi2 (hs1.extBut _ _ S.TOz.symm (hp1.extBut _ _ S.zi1 hz0))
      have hez : e ≠ z := fun x => by subst x; rw [hzq] at hoe; cases hoe; simp at hce
      refine wpAny_setField_rec (s := ⟨q, g, d, tk1, os⟩) hzq (by simp) fun q' _ hq' => ?_
      replace hq' : Heap.SameBut z q q' := hq'
      exact hE q' tk1 e (fun c o cz cT c1 c2 x => hq'.extBut _ _ cz (hq _ _ c2 (hs1.extBut _ _ cT (hp1.extBut _ _ c1 (hs0.extBut _ _ cz x))))) ⟨oe, hq'.extBut _ _ hez hoe, hce⟩
    · have hi1 : i = n1 := by omega
      refine wpAny_bind (D1.done ⟨g0, g, d, tk0, os⟩ _ _ (by rw [← hi1]; exact (D1.over st1 hs0 S.zf1)) fun q e hq he => ?_)
      replace hq : Heap.ExtBut i1 g0 q := hq
      obtain ⟨oe, hoe, hce⟩ := he
      replace hoe : q.get? e = some oe := hoe
      have hzq : IsZipX q z TI TO .ellipsis b := hq _ _ S.zi1 hz0
      have hez : e ≠ z := fun x => by subst x; rw [hzq] at hoe; cases hoe; simp at hce
      refine wpAny_setField_rec (s := ⟨q, g, d, tk0, os⟩) hzq (by simp) fun q' _ hq' => ?_
      replace hq' : Heap.SameBut z q q' := hq'
      exact hE q' tk0 e (fun c o cz cT c1 c2 x => hq'.extBut _ _ cz (hq _ _ c1 (hs0.extBut _ _ cz x))) ⟨oe, hq'.extBut _ _ hez hoe, hce⟩
  · replace hs0 : Heap.SameBut z hp g0 := hs0
    replace hz0 : IsZipX g0 z TI TO f0 b0 := hz0
    simp only [Bool.false_eq_true, if_false]
    refine wpAny_bind ?_
    simp only [List.forIn_toArray, List.forIn_cons, List.forIn_nil]
    refine wpAny_bind (wpAny_bind (wpAny_holding ?_))
    show wpAny _ _ (Builtin.SmallTypes.nextOf (.ref i1) >>= _) _ _ ⟨g0, g, d, tk0, os⟩
    by_cases hlt1 : i < n1
    · refine wpAny_bind (D1.item i _ _ _ hlt1 (D1.over st1 hs0 S.zf1) fun x1 p1 tk1 hx1 sn1 hp1 => wpAny_pure (wpAny_pure ?_))
      replace hp1 : Heap.SameBut i1 g0 p1 := hp1
      have hi2 : i = n2 := by omega
      refine wpAny_bind (wpAny_bind (wpAny_holding ?_))
      show wpAny _ _ (Builtin.SmallTypes.nextOf (.ref i2) >>= _) _ _ ⟨p1, g, d, tk1, os⟩
      refine wpAny_bind (D2.done ⟨p1, g, d, tk1, os⟩ _ _ (by rw [← hi2]; exact (D2.over (D2.over st2 hs0 S.zf2) hp1 S.sep1_2)) fun q e hq he => ?_)
      replace hq : Heap.ExtBut i2 p1 q := hq
      exact hE q tk1 e (fun c o cz cT c1 c2 x => hq _ _ c2 (hp1.extBut _ _ c1 (hs0.extBut _ _ cz x))) he
    · have hi1 : i = n1 := by omega
      refine wpAny_bind (D1.done ⟨g0, g, d, tk0, os⟩ _ _ (by rw [← hi1]; exact (D1.over st1 hs0 S.zf1)) fun q e hq he => ?_)
      replace hq : Heap.ExtBut i1 g0 q := hq
      exact hE q tk0 e (fun c o cz cT c1 c2 x => hq _ _ c1 (hs0.extBut _ _ cz x)) he
theorem zx_nextOf_item {f0 : Value} {b : Bool} {Q : Value → Shared → Prop} (S : ZipSep2 z TI TO i1 i2 fp1 fp2) (D1 : Draws prog w A.in1 i1 fp1 n1 P1 St1) (D2 : Draws prog w A.in1 i2 fp2 n2 P2 St2)
    (own : OwnZ f0) (hz : IsZipX s.heap z TI TO f0 b) (hTI : IsTupOf2 s.heap TI (.ref i1) (.ref i2)) (hTO : IsTupOf2 s.heap TO a1 a2) (st1 : St1 i s.heap) (st2 : St2 i s.heap) (hlt1 : i < n1) (hlt2 : i < n2)
    (hQ : ∀ x1 x2 y1 y2 h' tk f0' b', P1 i x1 → P2 i x2 → OwnZ f0' → IsZipX h' z TI TO f0' b' → IsTupOf2 h' TO y1 y2 → St1 (i + 1) h' → St2 (i + 1) h' → IsTupOf2 h' s.heap.objs.size x1 x2 → h'.objs.size = s.heap.objs.size + 1 →
      (∀ c o, c ≠ z → c ≠ TO → c ≠ i1 → c ≠ i2 → s.heap.get? c = some o → h'.get? c = some o) → Q (.ref s.heap.objs.size) { s with heap := h', toks := tk }) :
    wpAny (model prog w) A (Builtin.SmallTypes.nextOf (.ref z)) Q E s := by
  have hT : s.TypeIs (.ref z) "zip" := ⟨_, hz, rfl⟩
  unfold Builtin.SmallTypes.nextOf
  exact wpAny_bind (wpAny_callSpecial?_slot (name := Str.ofString "__next__") hT F.slot_zip_next
    (wpAny_call_entry F.slot_zip_next hT F.entry_zip_next
      (zx_next_item S D1 D2 own hz hTI hTO st1 st2 hlt1 hlt2 fun x1 x2 y1 y2 h' tk f0' b' c1 c2 c3 c4 c5 c6 c7 c8 c9 c10 => wpAny_pure (hQ x1 x2 y1 y2 h' tk f0' b' c1 c2 c3 c4 c5 c6 c7 c8 c9 c10)) (F.args_zip_next_1 _)))
theorem zx_nextOf_end {f0 : Value} {b : Bool} {Q : Value → Shared → Prop} (S : ZipSep2 z TI TO i1 i2 fp1 fp2) (D1 : Draws prog w A.in1 i1 fp1 n1 P1 St1) (D2 : Draws prog w A.in1 i2 fp2 n2 P2 St2)
    (own : OwnZ f0) (hz : IsZipX s.heap z TI TO f0 b) (hTI : IsTupOf2 s.heap TI (.ref i1) (.ref i2)) (hTO : IsTupOf2 s.heap TO a1 a2) (st1 : St1 i s.heap) (st2 : St2 i s.heap) (hle1 : i ≤ n1) (hle2 : i ≤ n2) (hend : i = n1 ∨ i = n2)
    (hE : ∀ h' tk e, (∀ c o, c ≠ z → c ≠ TO → c ≠ i1 → c ≠ i2 → s.heap.get? c = some o → h'.get? c = some o) → (∃ o, h'.get? e = some o ∧ o.cls = .type "StopIteration") → E (.ref e) { s with heap := h', toks := tk }) :
    wpAny (model prog w) A (Builtin.SmallTypes.nextOf (.ref z)) Q E s := by
  have hT : s.TypeIs (.ref z) "zip" := ⟨_, hz, rfl⟩
  unfold Builtin.SmallTypes.nextOf
  exact wpAny_bind (wpAny_callSpecial?_slot (name := Str.ofString "__next__") hT F.slot_zip_next
    (wpAny_call_entry F.slot_zip_next hT F.entry_zip_next (zx_next_end S D1 D2 own hz hTI hTO st1 st2 hle1 hle2 hend hE) (F.args_zip_next_1 _)))
/-- the cells of the enumerate lie apart from those of the zip -/
structure EzSep (e z TI TO i1 i2 : Addr) (fp1 fp2 : List Addr) : Prop where
  ez : e ≠ z
  eT : e ≠ TI
  eO : e ≠ TO
  e1 : e ∉ fp1
  e2 : e ∉ fp2
theorem ez_next_item {e : Addr} {old f0 : Value} {b : Bool} {Q : Value → Shared → Prop} (S : ZipSep2 z TI TO i1 i2 fp1 fp2) (Se : EzSep e z TI TO i1 i2 fp1 fp2) (D1 : Draws prog w A.in1 i1 fp1 n1 P1 St1) (D2 : Draws prog w A.in1 i2 fp2 n2 P2 St2)
    (he : IsEnum s.heap e z (i : Nat) old) (own : OwnZ f0) (hz : IsZipX s.heap z TI TO f0 b) (hTI : IsTupOf2 s.heap TI (.ref i1) (.ref i2)) (hTO : IsTupOf2 s.heap TO a1 a2) (st1 : St1 i s.heap) (st2 : St2 i s.heap) (hlt1 : i < n1) (hlt2 : i < n2)
    (hQ : ∀ x1 x2 y1 y2 h' tk f0' b', P1 i x1 → P2 i x2 → IsEnumOut h' e z ((i : Int) + 1) (.ref s.heap.objs.size) (s.heap.objs.size + 1) → OwnZ f0' → IsZipX h' z TI TO f0' b' → IsTupOf2 h' TO y1 y2 → St1 (i + 1) h' → St2 (i + 1) h' → IsTupOf2 h' s.heap.objs.size x1 x2 →
      h'.get? (s.heap.objs.size + 1) = some { cls := .type "tuple", data := .seq #[.int i tk, .ref s.heap.objs.size] } → h'.objs.size = s.heap.objs.size + 2 →
      (∀ c o, c ≠ e → c ≠ z → c ≠ TO → c ≠ i1 → c ≠ i2 → s.heap.get? c = some o → h'.get? c = some o) → Q (.ref (s.heap.objs.size + 1)) { s with heap := h', toks := tk + 1 }) :
    wpAny (model prog w) A (Builtin.«enumerate.__next__» ⟨[.ref e], []⟩) (fun fin s' => ∃ v, fin = .done (.ret v) ∧ Q v s') E s := by
  obtain ⟨hp, g, d, tk₀, os⟩ := s
  have ei1 : e ≠ i1 := fun q => Se.e1 (q ▸ S.mem1)
  have ei2 : e ≠ i2 := fun q => Se.e2 (q ▸ S.mem2)
  show wpAny _ _ (field (.ref e) 2 >>= _) _ _ _
  refine wpAny_bind (wpAny_field he rfl (x := .ref z) rfl ?_)
  refine wpAny_bind (zx_nextOf_item S D1 D2 own hz hTI hTO st1 st2 hlt1 hlt2 fun x1 x2 y1 y2 h₁ tk f0' b' hP1 hP2 own' hz₁ hTO₁ s1₁ s2₁ hT₁ hsz₁ hk₁ => ?_)
  have he₁ : IsEnum h₁ e z i old := hk₁ e _ Se.ez Se.eO ei1 ei2 he
  show wpAny _ _ (field (.ref e) 3 >>= _) _ _ ⟨h₁, g, d, tk, os⟩
  refine wpAny_bind (wpAny_field he₁ rfl (x := rawInt i) rfl ?_)
  show wpAny _ _ (field (.ref e) 4 >>= _) _ _ ⟨h₁, g, d, tk, os⟩
  refine wpAny_bind (wpAny_field he₁ rfl (x := .none) rfl ?_)
  show wpAny _ _ (mkInt i >>= _) _ _ ⟨h₁, g, d, tk, os⟩
  refine wpAny_bind (wpAny_mkInt ?_)
  show wpAny _ _ (setField (.ref e) 3 (rawInt ((i : Int) + 1)) >>= _) _ _ ⟨h₁, g, d, tk + 1, os⟩
  refine wpAny_bind (wpAny_setField_rec he₁ (by simp) fun h₂ he₂ hs₂ => ?_)
  replace hs₂ : Heap.SameBut e h₁ h₂ := hs₂
  replace he₂ : IsEnum h₂ e z ((i : Int) + 1) old := he₂
  show wpAny _ _ (setField (.ref e) 4 .none >>= _) _ _ ⟨h₂, g, d, tk + 1, os⟩
  refine wpAny_bind (wpAny_setField_rec he₂ (by simp) fun h₃ he₃ hs₃ => ?_)
  replace hs₃ : Heap.SameBut e h₂ h₃ := hs₃
  replace he₃ : IsEnum h₃ e z ((i : Int) + 1) old := he₃
  show wpAny _ _ (newTuple [.int i tk, .ref hp.objs.size] >>= _) _ _ ⟨h₃, g, d, tk + 1, os⟩
  refine wpAny_bind (wpAny_newTuple ?_)
  have he₄ : IsEnum (h₃.push { cls := .type "tuple", data := .seq #[.int i tk, .ref hp.objs.size] }) e z ((i : Int) + 1) old := Heap.get?_push_of_some _ he₃
  generalize hh₄ : h₃.push { cls := .type "tuple", data := .seq #[.int i tk, .ref hp.objs.size] } = h₄ at he₄
  replace hsz₁ : h₁.objs.size = hp.objs.size + 1 := hsz₁
  have hsz : h₃.objs.size = hp.objs.size + 1 := by rw [hs₃.1, hs₂.1, hsz₁]
  have hel : e < hp.objs.size := Heap.lt_size he
  have ht₄ : h₄.get? (hp.objs.size + 1) = some { cls := .type "tuple", data := .seq #[.int i tk, .ref hp.objs.size] } := by rw [← hh₄, ← hsz]; exact Heap.get?_push_size _ rfl
  have hz₄ : h₄.objs.size = hp.objs.size + 2 := by rw [← hh₄, Heap.size_push, hsz]
  have up₄ : ∀ c o, c ≠ e → h₁.get? c = some o → h₄.get? c = some o := fun c o hc q => by
    rw [← hh₄]; exact Heap.get?_push_of_some _ (hs₃.extBut c o hc (hs₂.extBut c o hc q))
  show wpAny _ _ (Builtin.SmallTypes.ownedTupleIsFree (.ref e) >>= _) _ _ ⟨h₄, g, d, tk + 1, os⟩
  rw [hsz]
  refine wpAny_bind ?_
  · unfold Builtin.SmallTypes.ownedTupleIsFree
    refine wpAny_bind (wpAny_field he₄ rfl (x := .none) rfl (wpAny_pure ?_))
    simp only [if_true]
    refine wpAny_bind (wpAny_rule ?_)
    refine wpAny_bind (wpAny_field he₄ rfl (x := old) rfl ?_)
    refine wpAny_bind (wpAny_setField_rec he₄ (by simp) fun h₅ he₅ hs₅ => ?_)
    replace hs₅ : Heap.SameBut e h₄ h₅ := hs₅
    replace he₅ : IsEnum h₅ e z ((i : Int) + 1) (.ref hp.objs.size) := he₅
    show wpAny _ _ (Builtin.SmallTypes.ownedTupleHandOut (.ref e) (.ref (hp.objs.size + 1)) >>= _) _ _ ⟨h₅, g, d, tk + 1, os⟩
    refine wpAny_bind ?_
    · unfold Builtin.SmallTypes.ownedTupleHandOut
      refine wpAny_bind (wpAny_setField_rec he₅ (by simp) fun h₆ he₆ hs₆ => ?_)
      replace hs₆ : Heap.SameBut e h₅ h₆ := hs₆
      replace he₆ : IsEnumOut h₆ e z ((i : Int) + 1) (.ref hp.objs.size) (hp.objs.size + 1) := he₆
      refine wpAny_setField_rec he₆ (by simp) fun h₇ he₇ hs₇ => ?_
      replace hs₇ : Heap.SameBut e h₆ h₇ := hs₇
      replace he₇ : IsEnumOut h₇ e z ((i : Int) + 1) (.ref hp.objs.size) (hp.objs.size + 1) := he₇
      have up : ∀ c o, c ≠ e → h₁.get? c = some o → h₇.get? c = some o := fun c o hc q => hs₇.extBut c o hc (hs₆.extBut c o hc (hs₅.extBut c o hc (up₄ c o hc q)))
      refine wpAny_bind (wpAny_letGo (wpAny_pure ⟨_, rfl, hQ x1 x2 y1 y2 h₇ tk f0' b' hP1 hP2 he₇ own' (up _ _ Se.ez.symm hz₁) (up _ _ Se.eO.symm hTO₁) ?_ ?_ ?_ ?_ ?_ ?_⟩))
      · exact D1.frame _ _ _ s1₁ fun c hc o q => up c o (fun y => Se.e1 (y ▸ hc)) q
      · exact D2.frame _ _ _ s2₁ fun c hc o q => up c o (fun y => Se.e2 (y ▸ hc)) q
      · exact up _ _ (Nat.ne_of_gt hel) hT₁
      · exact hs₇.extBut _ _ (Nat.ne_of_gt (Nat.lt_succ_of_lt hel)) (hs₆.extBut _ _ (Nat.ne_of_gt (Nat.lt_succ_of_lt hel)) (hs₅.extBut _ _ (Nat.ne_of_gt (Nat.lt_succ_of_lt hel)) ht₄))
      · rw [hs₇.1, hs₆.1, hs₅.1, hz₄]
      · exact fun c o ce cz cT c1 c2 q => up c o ce (hk₁ c o cz cT c1 c2 q)
theorem ez_pyNext_item {e : Addr} {old f0 : Value} {b : Bool} {Q : Option Value → Shared → Prop} (S : ZipSep2 z TI TO i1 i2 fp1 fp2) (Se : EzSep e z TI TO i1 i2 fp1 fp2) (D1 : Draws prog w A.in1.in1 i1 fp1 n1 P1 St1) (D2 : Draws prog w A.in1.in1 i2 fp2 n2 P2 St2)
    (he : IsEnum s.heap e z (i : Nat) old) (own : OwnZ f0) (hz : IsZipX s.heap z TI TO f0 b) (hTI : IsTupOf2 s.heap TI (.ref i1) (.ref i2)) (hTO : IsTupOf2 s.heap TO a1 a2) (st1 : St1 i s.heap) (st2 : St2 i s.heap) (hlt1 : i < n1) (hlt2 : i < n2)
    (hQ : ∀ x1 x2 y1 y2 h' tk f0' b', P1 i x1 → P2 i x2 → IsEnumOut h' e z ((i : Int) + 1) (.ref s.heap.objs.size) (s.heap.objs.size + 1) → OwnZ f0' → IsZipX h' z TI TO f0' b' → IsTupOf2 h' TO y1 y2 → St1 (i + 1) h' → St2 (i + 1) h' → IsTupOf2 h' s.heap.objs.size x1 x2 →
      h'.get? (s.heap.objs.size + 1) = some { cls := .type "tuple", data := .seq #[.int i tk, .ref s.heap.objs.size] } → h'.objs.size = s.heap.objs.size + 2 →
      (∀ c o, c ≠ e → c ≠ z → c ≠ TO → c ≠ i1 → c ≠ i2 → s.heap.get? c = some o → h'.get? c = some o) → Q (some (.ref (s.heap.objs.size + 1))) { s with heap := h', toks := tk + 1 }) :
    wpAny (model prog w) A (pyNext (.ref e)) Q E s := by
  have hT : s.TypeIs (.ref e) "enumerate" := ⟨_, he, rfl⟩
  unfold pyNext
  exact wpAny_bind (wpAny_attempt (wpAny_callSpecial?_slot (name := Str.ofString "__next__") hT F.slot_enumerate_next
    (wpAny_call_entry F.slot_enumerate_next hT F.entry_enumerate_next
      (ez_next_item S Se D1 D2 he own hz hTI hTO st1 st2 hlt1 hlt2 fun x1 x2 y1 y2 h' tk f0' b' c1 c2 c3 c4 c5 c6 c7 c8 c9 c10 c11 c12 => wpAny_pure (hQ x1 x2 y1 y2 h' tk f0' b' c1 c2 c3 c4 c5 c6 c7 c8 c9 c10 c11 c12)) (F.args_enumerate_next_1 _))))
theorem ez_pyNext_end {e : Addr} {k : Int} {old f0 : Value} {b : Bool} {Q : Option Value → Shared → Prop} (S : ZipSep2 z TI TO i1 i2 fp1 fp2) (D1 : Draws prog w A.in1.in1 i1 fp1 n1 P1 St1) (D2 : Draws prog w A.in1.in1 i2 fp2 n2 P2 St2)
    (he : IsEnum s.heap e z k old) (own : OwnZ f0) (hz : IsZipX s.heap z TI TO f0 b) (hTI : IsTupOf2 s.heap TI (.ref i1) (.ref i2)) (hTO : IsTupOf2 s.heap TO a1 a2) (st1 : St1 i s.heap) (st2 : St2 i s.heap) (hle1 : i ≤ n1) (hle2 : i ≤ n2) (hend : i = n1 ∨ i = n2)
    (hQ : ∀ h' tk, (∀ c o, c ≠ z → c ≠ TO → c ≠ i1 → c ≠ i2 → s.heap.get? c = some o → h'.get? c = some o) → Q none { s with heap := h', toks := tk }) : wpAny (model prog w) A (pyNext (.ref e)) Q E s := by
  have hT : s.TypeIs (.ref e) "enumerate" := ⟨_, he, rfl⟩
  unfold pyNext
  refine wpAny_bind (wpAny_attempt (wpAny_callSpecial?_slot (name := Str.ofString "__next__") hT F.slot_enumerate_next
    (wpAny_call_entry F.slot_enumerate_next hT F.entry_enumerate_next ?_ (F.args_enumerate_next_1 _))))
  show wpAny _ _ (field (.ref e) 2 >>= _) _ _ _
  refine wpAny_bind (wpAny_field he rfl (x := .ref z) rfl ?_)
  refine wpAny_bind (zx_nextOf_end S D1 D2 own hz hTI hTO st1 st2 hle1 hle2 hend fun h' tk x hk hx => ?_)
  obtain ⟨o, ho, hc⟩ := hx
  refine wpAny_bind (wpAny_isInstance (T := "StopIteration") (b := true) ⟨o, ho, hc⟩ isSubtype_stop ?_)
  exact wpAny_pure (hQ _ _ hk)
end
end PySem
set_option maxHeartbeats 2000000
namespace PySem
open Builtin Builtin.Str
theorem nx_meets_enumSelf {z : Addr} {H : Heap → Prop} (self : ∀ (prog : Program) (w : World) (A : Around) (E : Value → Shared → Prop) (s : Shared) (Q : Value → Shared → Prop), H s.heap → Q (.ref z) s → wpAny (model prog w) A (pyIter (.ref z)) Q E s) :
    Meets (Builtin.«enumerate.__new__» ⟨[.type "enumerate", .ref z], []⟩) (fun _ R s => H s.heap ∧
      R (.ok (.ret (.ref s.heap.objs.size))) { s with heap := s.heap.push { cls := .type "enumerate", data := .fields #[.none, .bool false, .ref z, rawInt 0, .none, .none] } }) :=
  .of_wp fun prog w A R s h => by
    obtain ⟨hp, g, d, tk, os⟩ := s; obtain ⟨h1, h⟩ := h
    have hsub := sub_enumerate
    have q1 : ∀ {A' : Around} {E : Value → Shared → Prop} {Q : Value → Shared → Prop}, Q (.ref z) ⟨hp, g, d, tk, os⟩ → wpAny (model prog w) A' (pyIter (.ref z)) Q E ⟨hp, g, d, tk, os⟩ :=
      fun q => self prog w _ _ ⟨hp, g, d, tk, os⟩ _ h1 q
    wp_walk using q1
    refine wpAny_stack_any fun st => wpAny_pure ?_
    split
    · rename_i c _ _ _ _ _
      cases (c == Value.type "enumerate")
      · wp_walk using q1
        exact ⟨_, rfl, h⟩
      · wp_walk using q1
        exact ⟨_, rfl, h⟩
    · wp_walk using q1
      exact ⟨_, rfl, h⟩
theorem nx_enumSelf_begins {prog : Program} {w : World} {A : Around} {E : Value → Shared → Prop} {s : Shared} {z : Addr} {H : Heap → Prop} {Q : Value → Shared → Prop} (self : ∀ (prog : Program) (w : World) (A : Around) (E : Value → Shared → Prop) (s : Shared) (Q : Value → Shared → Prop), H s.heap → Q (.ref z) s → wpAny (model prog w) A (pyIter (.ref z)) Q E s) (h1 : H s.heap)
    (h : ∀ h', IsEnum h' s.heap.objs.size z 0 .none → h'.objs.size = s.heap.objs.size + 1 →
      (∀ b o, s.heap.get? b = some o → h'.get? b = some o) → Q (.ref s.heap.objs.size) { s with heap := h' }) :
    wpAny (model prog w) A (call (.type "enumerate") [.ref z]) Q E s := by
  refine callType_new F.called_enumerate (by decide) (F.typeCall_enumerate_1 _) (F.newCall_enumerate_1 _) (fun obj => F.args_object_init_2 obj _) F.entry_enumerate_new
    (nx_meets_enumSelf self) ⟨h1, ?_⟩
  have he : IsEnum (s.heap.push { cls := .type "enumerate", data := .fields #[.none, .bool false, .ref z, rawInt 0, .none, .none] }) s.heap.objs.size z 0 .none := Heap.get?_push_size s.heap rfl
  exact ⟨⟨_, he, rfl⟩, h _ he (Heap.size_push ..) fun b o x => Heap.get?_push_of_some _ x⟩
end PySem
namespace NX
open PySem PySem.Spec PyProof.Rows L2
/-- as Src, wherever the step runs -/
structure Srq (K : PySem.W.Frag) (it : Addr) (fs : List Addr) (St : Nat → Heap → Prop) (G : Hp → List V → Prop) : Prop where
  obj : ∀ i h, St i h → ∃ o, h.get? it = some o ∧ ∀ v, o.data ≠ .cell v
  keep : ∀ i h h', St i h → (∀ o, h.get? it = some o → h'.get? it = some o) → St i h'
  inj : ∀ (X : Cx), X.K = K → ∀ (pins : List (Addr × Obj)) (s : Shared) (σ : L2.St) (H : Hp) (xs ys : List V), Inv X pins σ H s → G H xs → G H ys → xs = ys
  draws : ∀ (X : Cx), X.K = K → ∀ (A : Around), A.handled = none → ∀ (pins : List (Addr × Obj)) (s : Shared) (σ : L2.St) (H : Hp) (xs : List V), Inv X pins σ H s → G H xs →
    ∃ (Pv : Nat → Value → Prop) (St' : Nat → Heap → Prop), Draws X.prog X.w A it (it :: fs) xs.length Pv St' ∧
      (∀ i, St i s.heap → St' i s.heap) ∧ (∀ i h, St' i h → St i h) ∧ ∀ i v, Pv i v → ∃ x, xs[i]? = some x ∧ RelV x v
variable {P : Program} {w : World} {K : PySem.W.Frag}
theorem srq_list {a it : Addr} (hne : a ≠ it) : Srq K it [a] (fun i h => h.IsListIter it a i) (fun H xs => SqL K H a xs) where
  obj := fun i h ⟨o, ho, hc, hd⟩ => ⟨o, ho, fun v q => by rw [hd] at q; cases q⟩
  keep := fun i h h' st k => st.at fun o q => k o q
  inj := fun X hK pins s σ H xs ys I h1 h2 => by subst hK; exact I.list_inj h1 h2
  draws := fun X hK A hc pins s σ H xs I h => by
    subst hK
    obtain ⟨its, rv, p, hz⟩ := I.list h
    have hl := rv.length
    have D := Draws.list (prog := X.prog) (w := X.w) (A := A) hc it a hne its.toArray
    rw [show its.toArray.size = xs.length by simp [hl]] at D
    exact ⟨_, _, D, fun i st => ⟨st, p.isList⟩, fun i h' (st : _ ∧ _) => st.1, fun i v (hv : its.toArray[i]? = some v) => vals_get' rv (by simpa using hv)⟩
theorem srq_tup {a it : Addr} (hne : a ≠ it) : Srq K it [a] (fun i h => h.IsTupleIter it a i) (fun H xs => SqT K H a xs) where
  obj := fun i h ⟨o, ho, hc, hd⟩ => ⟨o, ho, fun v q => by rw [hd] at q; cases q⟩
  keep := fun i h h' st k => st.at fun o q => k o q
  inj := fun X hK pins s σ H xs ys I h1 h2 => by subst hK; exact I.tuple_inj h1 h2
  draws := fun X hK A hc pins s σ H xs I h => by
    subst hK
    obtain ⟨its, rv, p, hz⟩ := I.tuple h
    have hl := rv.length
    have D := Draws.tuple (prog := X.prog) (w := X.w) (A := A) hc it a hne its.toArray
    rw [show its.toArray.size = xs.length by simp [hl]] at D
    exact ⟨_, _, D, fun i st => ⟨st, p⟩, fun i h' (st : _ ∧ _) => st.1, fun i v (hv : its.toArray[i]? = some v) => vals_get' rv (by simpa using hv)⟩
theorem srq_txt (l : List Nat) (t : Tok) (it : Addr) : Srq K it [] (fun i h => h.IsStrIter it (strIterType (mkS l)) (mkS l) t i) (fun _ xs => xs = l.map fun c => T [c]) where
  obj := fun i h ⟨o, ho, hc, hd⟩ => ⟨o, ho, fun v q => by rw [hd] at q; cases q⟩
  keep := fun i h h' st k => let ⟨o, ho, r⟩ := st; ⟨o, k o ho, r⟩
  inj := fun X hK pins s σ H xs ys I h1 h2 => h1.trans h2.symm
  draws := fun X hK A hc pins s σ H xs I h => by
    subst hK h
    have D := Draws.text (prog := X.prog) (w := X.w) (A := A) hc it (mkS l) t
    rw [show (mkS l).cps.size = (l.map fun c => T [c]).length by simp [mkS]] at D
    refine ⟨_, _, D, fun i st => st, fun i h' st => st, fun i v hv => ?_⟩
    obtain ⟨c, u, hcu, rfl⟩ := hv
    refine ⟨T [c], ?_, ⟨u, rfl⟩⟩
    have : l[i]? = some c := by simpa [mkS] using hcu
    rw [List.getElem?_map, this]; rfl
theorem wk_beginq {X : Cx} {pins : List (Addr × Obj)} {σ : L2.St} {H : Hp} {s : Shared} {x : V} {v : Value} {R : (Hp → List V → Prop) → Prop} (I : Inv X pins σ H s) (r : RelV x v) (h : Wk X.K x H R) :
    ∃ (o : Obj) (Hb : Heap → Prop) (G : Hp → List V → Prop) (fs : List Addr), Begins v o Hb ∧ Hb s.heap ∧ (∀ b ∈ fs, b < s.heap.objs.size) ∧ R G ∧
      ∀ it, s.heap.objs.size ≤ it → ∃ St : Nat → Heap → Prop, Srq X.K it fs St G ∧ ∀ h' : Heap, h'.get? it = some o → St 0 h' := by
  rcases h with ⟨a, xs, rfl, hq, q⟩ | ⟨a, xs, rfl, hq, q⟩ | ⟨l, rfl, q⟩
  · obtain rfl : v = Value.ref a := r
    obtain ⟨its, rv, p, hz⟩ := I.list hq
    refine ⟨_, _, _, [a], begins_list a its.toArray, p.isList, fun b hb => ?_, q, fun it hit => ⟨_, srq_list (show a ≠ it from Nat.ne_of_lt (Nat.lt_of_lt_of_le p.lt hit)), fun h' e => ⟨_, e, rfl, rfl⟩⟩⟩
    rw [List.mem_singleton.mp hb]; exact p.lt
  · obtain rfl : v = Value.ref a := r
    obtain ⟨its, rv, p, hz⟩ := I.tuple hq
    have hlt : a < s.heap.objs.size := by obtain ⟨o, e, _⟩ := id p; exact Heap.lt_size e
    refine ⟨_, _, _, [a], begins_tuple a its.toArray, p, fun b hb => ?_, q, fun it hit => ⟨_, srq_tup (show a ≠ it from Nat.ne_of_lt (Nat.lt_of_lt_of_le hlt hit)), fun h' e => ⟨_, e, rfl, rfl⟩⟩⟩
    rw [List.mem_singleton.mp hb]; exact hlt
  · obtain ⟨t, rfl⟩ := r
    exact ⟨_, _, _, [], begins_text (mkS l) t, trivial, fun b hb => (nomatch hb), q, fun it hit => ⟨_, srq_txt l t it, fun h' e => ⟨_, e, rfl, rfl⟩⟩⟩
/-- enumerate of a zip -/
def ItEZ (G1 G2 : Hp → List V → Prop) : It :=
  ⟨fun i H => ∃ (xs ys : List V) (x y : V), G1 H xs ∧ G2 H ys ∧ xs[i]? = some x ∧ ys[i]? = some y,
    fun i H v H' => ∃ T T2 x y, v = .ref T2 ∧ H T = none ∧ H T2 = none ∧ T2 ≠ T ∧ H' = upd (upd H T (.tup [x, y])) T2 (.tup [.int (i : Nat), .ref T]) ∧ (∀ xs, G1 H xs → xs[i]? = some x) ∧ ∀ ys, G2 H ys → ys[i]? = some y,
    fun i H => ∃ xs ys : List V, G1 H xs ∧ G2 H ys ∧ i ≤ xs.length ∧ i ≤ ys.length ∧ (i = xs.length ∨ i = ys.length)⟩
theorem turn_ezS {elts : List Expr} {kk : Nat} {tpos : Pos} {e z TI TO i1 i2 : Addr} {fs1 fs2 : List Addr} {St1 St2 : Nat → Heap → Prop} {G1 G2 : Hp → List V → Prop}
    (S1 : Srq K i1 fs1 St1 G1) (S2 : Srq K i2 fs2 St2 G2) (Z : ZipSep2 z TI TO i1 i2 (i1 :: fs1) (i2 :: fs2)) (Se : EzSep e z TI TO i1 i2 (i1 :: fs1) (i2 :: fs2)) :
    L2.Turn P w K (.Tuple elts kk tpos) (ItEZ G1 G2) [e, z, TI, TO, i1, i2] e (fun i h => (∃ old, IsEnum h e z ((i : Nat) : Int) old) ∧ (∃ f0 b, OwnZ f0 ∧ IsZipX h z TI TO f0 b) ∧ IsTupOf2 h TI (.ref i1) (.ref i2) ∧ (∃ x y, IsTupOf2 h TO x y) ∧ St1 i h ∧ St2 i h) where
  mem := by simp
  obj := fun i h st c hc => by
    obtain ⟨⟨old, he⟩, ⟨f0, b, _, hz⟩, hTI, ⟨x, y, hTO⟩, h1, h2⟩ := st
    have e' : c = e ∨ c = z ∨ c = TI ∨ c = TO ∨ c = i1 ∨ c = i2 := by simpa using hc
    rcases e' with q | q | q | q | q | q
    · rw [q]; exact ⟨_, he, fun v q => nomatch q⟩
    · rw [q]; exact ⟨_, hz, fun v q => nomatch q⟩
    · rw [q]; exact ⟨_, hTI, fun v q => nomatch q⟩
    · rw [q]; exact ⟨_, hTO, fun v q => nomatch q⟩
    · rw [q]; exact S1.obj i h h1
    · rw [q]; exact S2.obj i h h2
  keep := fun i h h' st k => by
    obtain ⟨⟨old, he⟩, ⟨f0, b, own, hz⟩, hTI, ⟨x, y, hTO⟩, h1, h2⟩ := st
    exact ⟨⟨old, k e (by simp) _ he⟩, ⟨f0, b, own, k z (by simp) _ hz⟩, k TI (by simp) _ hTI, ⟨x, y, k TO (by simp) _ hTO⟩, S1.keep i h h' h1 fun o q => k i1 (by simp) o q, S2.keep i h h' h2 fun o q => k i2 (by simp) o q⟩
  item := by
    intro X hP hw hK hc i pins s σ H E I hf st hg
    subst hP hw
    obtain ⟨⟨old, he⟩, ⟨f0, b, own, hz⟩, hTI, ⟨x0, y0, hTO⟩, h1, h2⟩ := st
    obtain ⟨xs, ys, x, y, hqx, hqy, hx, hy⟩ := hg
    have hA : X.A.in1.in1.handled = none := I.ok.hd hc
    obtain ⟨P1, St1', D1, to1, from1, hP1⟩ := S1.draws X hK X.A.in1.in1 hA pins s σ H xs I hqx
    obtain ⟨P2, St2', D2, to2, from2, hP2⟩ := S2.draws X hK X.A.in1.in1 hA pins s σ H ys I hqy
    have hlt1 : i < xs.length := (List.getElem?_eq_some_iff.mp hx).1
    have hlt2 : i < ys.length := (List.getElem?_eq_some_iff.mp hy).1
    have hel : e < s.heap.objs.size := Heap.lt_size he
    refine ez_pyNext_item Z Se D1 D2 he own hz hTI hTO (to1 i h1) (to2 i h2) hlt1 hlt2 fun u u2 y1 y2 h' tk f0' b' hu hu2 ho own' z' TO' h1' h2' hT hT2 hsz hk => ?_
    obtain ⟨x', hx', ru⟩ := hP1 i u hu
    obtain ⟨y', hy', ru2⟩ := hP2 i u2 hu2
    have exx : x' = x := by rw [hx] at hx'; exact (Option.some.inj hx').symm
    have eyy : y' = y := by rw [hy] at hy'; exact (Option.some.inj hy').symm
    subst exx eyy
    refine ⟨_, rfl, wpAny_letOwnedTupleGo_enum (s := { s with heap := h', toks := tk + 1 }) ho fun h'' he'' sb => ?_⟩
    have hTb : h''.get? s.heap.objs.size = some { cls := .type "tuple", data := .seq #[u, u2] } := (sb.2 _ (Nat.ne_of_gt hel)).trans hT
    have hT2b : h''.get? (s.heap.objs.size + 1) = some { cls := .type "tuple", data := .seq #[.int i tk, .ref s.heap.objs.size] } := (sb.2 _ (Nat.ne_of_gt (Nat.lt_succ_of_lt hel))).trans hT2
    have newT : ObjOk X.prog X.w (upd H s.heap.objs.size (.tup [x', y'])) (s.heap.push { cls := .type "tuple", data := .seq #[u, u2] }) s.heap.objs.size (.tup [x', y']) :=
      ⟨by show 2 ≤ sizeLine; decide, [u, u2], .cons ru (.cons ru2 .nil), ⟨_, Heap.get?_push_size _ rfl, rfl, _, rfl⟩⟩
    have I0 : Inv X pins σ (upd H s.heap.objs.size (.tup [x', y'])) { s with heap := s.heap.push { cls := .type "tuple", data := .seq #[u, u2] }, toks := s.toks } :=
      I.laid (t' := s.toks) (fun b u e => Heap.get?_push_of_some _ e) (Nat.le_refl _) newT
    have hlt : ∀ c ∈ [e, z, TI, TO, i1, i2], c < s.heap.objs.size := fun c hcm => by
      have e' : c = e ∨ c = z ∨ c = TI ∨ c = TO ∨ c = i1 ∨ c = i2 := by simpa using hcm
      rcases e' with q | q | q | q | q | q
      · rw [q]; exact hel
      · rw [q]; exact Heap.lt_size hz
      · rw [q]; exact Heap.lt_size hTI
      · rw [q]; exact Heap.lt_size hTO
      · rw [q]; obtain ⟨_, e1, _⟩ := S1.obj i _ h1; exact Heap.lt_size e1
      · rw [q]; obtain ⟨_, e2, _⟩ := S2.obj i _ h2; exact Heap.lt_size e2
    have hf0 : ∀ c ∈ [e, z, TI, TO, i1, i2], FpOk X pins (upd H s.heap.objs.size (.tup [x', y'])) c := fun c hcm => by
      obtain ⟨f0, fr⟩ := hf c hcm
      exact ⟨by rw [upd_ne (Nat.ne_of_lt (hlt c hcm))]; exact f0, fr⟩
    have hmid : (s.heap.push { cls := .type "tuple", data := .seq #[u, u2] }).objs.size = s.heap.objs.size + 1 := Heap.size_push ..
    have new2 : ObjOk X.prog X.w (upd (upd H s.heap.objs.size (.tup [x', y'])) (s.heap.objs.size + 1) (.tup [.int (i : Nat), .ref s.heap.objs.size])) h'' (s.heap.objs.size + 1) (.tup [.int (i : Nat), .ref s.heap.objs.size]) :=
      ⟨by show 2 ≤ sizeLine; decide, [.int i tk, .ref s.heap.objs.size], .cons ⟨_, rfl⟩ (.cons rfl .nil), ⟨_, hT2b, rfl, _, rfl⟩⟩
    have I1 : Inv X pins σ (upd (upd H s.heap.objs.size (.tup [x', y'])) (s.heap.objs.size + 1) (.tup [.int (i : Nat), .ref s.heap.objs.size])) { s with heap := h'', toks := tk + 1 } :=
      I0.turnedNew (t' := tk + 1) (ch := [e, z, TI, TO, i1, i2]) (fun c o hb q => by
        by_cases hcT : c = s.heap.objs.size
        · subst hcT
          have q2 : (s.heap.push { cls := .type "tuple", data := .seq #[u, u2] }).get? s.heap.objs.size = some { cls := .type "tuple", data := .seq #[u, u2] } := Heap.get?_push_size _ rfl
          rw [show (s.heap.push { cls := .type "tuple", data := .seq #[u, u2] }).get? s.heap.objs.size = some o from q] at q2
          rw [q2]; exact hTb
        · have q3 : s.heap.get? c = some o := by
            have q4 := show (s.heap.push { cls := .type "tuple", data := .seq #[u, u2] }).get? c = some o from q
            rwa [Heap.get?_push_ne _ _ _ hcT] at q4
          exact (sb.2 c (fun q' => hb (by simp [q']))).trans (hk c o (fun q' => hb (by simp [q'])) (fun q' => hb (by simp [q'])) (fun q' => hb (by simp [q'])) (fun q' => hb (by simp [q'])) (fun q' => hb (by simp [q'])) q3)) hf0 (by show (s.heap.push { cls := .type "tuple", data := .seq #[u, u2] }).objs.size ≤ _; rw [hmid]; exact Nat.le_refl _) new2
    have eZ : e ≠ z := Se.ez
    have eO : e ≠ TO := Se.eO
    have eT : e ≠ TI := Se.eT
    have ei1 : e ≠ i1 := fun q => Se.e1 (q ▸ List.mem_cons_self ..)
    have ei2 : e ≠ i2 := fun q => Se.e2 (q ▸ List.mem_cons_self ..)
    refine ⟨.ref (s.heap.objs.size + 1), _, I1, rfl, ⟨s.heap.objs.size, s.heap.objs.size + 1, x', y', rfl, I.hok.fresh (Nat.le_refl _), I.hok.fresh (Nat.le_succ _), Nat.succ_ne_self _, rfl, fun l hl => by rw [S1.inj X hK pins s σ H l xs I hl hqx]; exact hx, fun l hl => by rw [S2.inj X hK pins s σ H l ys I hl hqy]; exact hy⟩, ⟨⟨.ref s.heap.objs.size, ?_⟩, ⟨f0', b', own', (sb.2 _ eZ.symm).trans z'⟩, (sb.2 _ eT.symm).trans (hk _ _ eT.symm Z.TIz Z.TITO Z.TIi1 Z.TIi2 hTI), ⟨y1, y2, (sb.2 _ eO.symm).trans TO'⟩, S1.keep _ _ _ (from1 _ _ h1') fun o q => (sb.2 _ ei1.symm).trans q, S2.keep _ _ _ (from2 _ _ h2') fun o q => (sb.2 _ ei2.symm).trans q⟩, fun c hcm => ?_⟩
    · have e1 : ((i + 1 : Nat) : Int) = (i : Int) + 1 := by omega
      rw [e1]; exact he''
    · rw [upd_ne (Nat.ne_of_lt (Nat.lt_succ_of_lt (hlt c hcm))), upd_ne (Nat.ne_of_lt (hlt c hcm))]
      exact (hf c hcm).1
  done := by
    intro X hP hw hK hc i pins s σ H E I hf st hg
    subst hP hw
    obtain ⟨⟨old, he⟩, ⟨f0, b, own, hz⟩, hTI, ⟨x0, y0, hTO⟩, h1, h2⟩ := st
    obtain ⟨xs, ys, hqx, hqy, hl1, hl2, hend⟩ := hg
    have hA : X.A.in1.in1.handled = none := I.ok.hd hc
    obtain ⟨P1, St1', D1, to1, from1, hP1⟩ := S1.draws X hK X.A.in1.in1 hA pins s σ H xs I hqx
    obtain ⟨P2, St2', D2, to2, from2, hP2⟩ := S2.draws X hK X.A.in1.in1 hA pins s σ H ys I hqy
    exact ez_pyNext_end Z D1 D2 he own hz hTI hTO (to1 i h1) (to2 i h2) hl1 hl2 hend fun h' tk hk => ⟨rfl, I.turnedL (t' := tk) (ch := [e, z, TI, TO, i1, i2]) (fun c o hb q =>
      hk c o (fun q' => hb (by simp [q'])) (fun q' => hb (by simp [q'])) (fun q' => hb (by simp [q'])) (fun q' => hb (by simp [q'])) q) hf⟩
  self := fun A i s Q E st h => let ⟨⟨_, he⟩, _⟩ := st; wpAny_pyIter_enum he h
def iEZS (K : PySem.W.Frag) (ta : TA) : TI := fun σ H R => ta σ H fun vs H1 => ∃ x y, vs = [x, y] ∧ Wk K x H1 fun G1 => Wk K y H1 fun G2 => R (ItEZ G1 G2) H1
theorem pi_ezS {X : Cx} {e e2 : Expr} {ta : TA} {p pos p2 pos2 tpos : Pos} {elts : List Expr} {kk : Nat} (hge : Gl X "enumerate") (hme : X.mg "enumerate" = none) (hg : Gl X "zip") (hm : X.mg "zip" = none) (ha : PA X [e, e2] ta)
    (hs : starEach [e, e2] X.env = (false, eval e X.env) :: starEach [e2] X.env := by rfl) (hpl : (backTo pos (starEach [e2] X.env)).any (·.1) = false := by rfl)
    (hs2 : starEach [.Call (.Name "zip" p) [e, e2] [] pos] X.env = [(false, eval (.Call (.Name "zip" p) [e, e2] [] pos) X.env)] := by rfl) :
    PI X (.Tuple elts kk tpos) (.Call (.Name "enumerate" p2) [.Call (.Name "zip" p) [e, e2] [] pos] [] pos2) (iEZS X.K ta) := by
  refine ⟨fun pins s σ H R I h => ?_⟩
  refine Call_ (ld_blt I hge hme boot_enumerate ?_)
  rw [hs2]
  refine PySem.callWith_type1 ?_
  refine Call_ (ld_blt I hg hm PyProof.Rows.boot_zip (PyProof.Rows.callWith_type1 (thn (ha.run pos pins s σ H _ I h) fun us s1 ⟨vs, H1, I1, r1, q1⟩ => ?_) hs hpl))
  obtain ⟨x, y, ex, q⟩ := q1
  subst ex
  cases r1 with
  | cons r rr =>
    cases rr with
    | cons r' rr =>
      cases rr
      obtain ⟨o1, Hb1, G1, fs1, B1, hb1, hfs1, q, src1⟩ := wk_beginq I1 r q
      obtain ⟨o2, Hb2, G2, fs2, B2, hb2, hfs2, q, src2⟩ := wk_beginq I1 r' q
      refine zip_begins2 B1 B2 hb1 hb2 fun h' hz hTI hTO h1 h2 hsz hk => ?_
      obtain ⟨St1, S1, s01⟩ := src1 s1.heap.objs.size (Nat.le_refl _)
      obtain ⟨St2, S2, s02⟩ := src2 (s1.heap.objs.size + 1) (Nat.le_succ _)
      have s01' := s01 _ h1
      have s02' := s02 _ h2
      refine nx_enumSelf_begins (H := fun h => IsZip h (s1.heap.objs.size + 4) (s1.heap.objs.size + 2) (s1.heap.objs.size + 3) .none) (fun _ _ _ _ _ _ hz2 q2 => wpAny_pyIter_zip hz2 q2) hz fun h'' he hsz2 hk2 => ?_
      replace hsz2 : h''.objs.size = h'.objs.size + 1 := hsz2
      replace he : IsEnum h'' h'.objs.size (s1.heap.objs.size + 4) 0 .none := he
      replace hk2 : ∀ b o, h'.get? b = some o → h''.get? b = some o := hk2
      rw [hsz] at he
      show wpAny _ _ (pyIter (.ref h'.objs.size)) _ _ _
      rw [hsz]
      refine wpAny_pyIter_enum he ?_
      have I2 : Inv X pins σ H1 { s1 with heap := h'' } := I1.kept (t' := s1.toks) fun b o e => hk2 b o (hk b o e)
      have Z := zip_sep2 hfs1 hfs2
      have up : ∀ c o, c < s1.heap.objs.size + 5 → h'.get? c = some o → h''.get? c = some o := fun c o _ e => hk2 c o e
      refine ⟨s1.heap.objs.size + 5, [s1.heap.objs.size + 5, s1.heap.objs.size + 4, s1.heap.objs.size + 2, s1.heap.objs.size + 3, s1.heap.objs.size, s1.heap.objs.size + 1], _, _, H1, rfl, I2, turn_ezS S1 S2 Z ⟨?_, ?_, ?_, ?_, ?_⟩, ⟨⟨.none, he⟩, ⟨.none, false, .inl rfl, hk2 _ _ hz⟩, hk2 _ _ hTI, ⟨_, _, hk2 _ _ hTO⟩, S1.keep _ _ _ s01' fun o e => hk2 _ _ e, S2.keep _ _ _ s02' fun o e => hk2 _ _ e⟩, fun c hcm => ?_, q⟩
      · exact Nat.succ_ne_self _
      · intro e
        have e : (s1.heap.objs.size + 5 : Nat) = s1.heap.objs.size + 2 := e
        omega
      · intro e
        have e : (s1.heap.objs.size + 5 : Nat) = s1.heap.objs.size + 3 := e
        omega
      · intro hm
        rcases List.mem_cons.mp hm with e | e
        · have e : (s1.heap.objs.size + 5 : Nat) = s1.heap.objs.size := e
          omega
        · have e : (s1.heap.objs.size + 5 : Nat) < s1.heap.objs.size := hfs1 _ e
          omega
      · intro hm
        rcases List.mem_cons.mp hm with e | e
        · have e : (s1.heap.objs.size + 5 : Nat) = s1.heap.objs.size + 1 := e
          omega
        · have e : (s1.heap.objs.size + 5 : Nat) < s1.heap.objs.size := hfs2 _ e
          omega
      · have hle : s1.heap.objs.size ≤ c := by
          have e' : c = s1.heap.objs.size + 5 ∨ c = s1.heap.objs.size + 4 ∨ c = s1.heap.objs.size + 2 ∨ c = s1.heap.objs.size + 3 ∨ c = s1.heap.objs.size ∨ c = s1.heap.objs.size + 1 := by simpa using hcm
          rcases e' with z | z | z | z | z | z
          · rw [z]; exact Nat.le_add_right _ _
          · rw [z]; exact Nat.le_add_right _ _
          · rw [z]; exact Nat.le_add_right _ _
          · rw [z]; exact Nat.le_add_right _ _
          · rw [z]; exact Nat.le_refl _
          · rw [z]; exact Nat.le_add_right _ _
        exact I1.fpOk hle (I1.hok.fresh hle)
theorem pi_ezSK {X : Cx} {e e2 : Expr} {ta : TA} {p pos p2 pos2 tpos : Pos} {elts : List Expr} {kk : Nat} (K : PySem.W.Frag) (hge : Gl X "enumerate") (hme : X.mg "enumerate" = none) (hg : Gl X "zip") (hm : X.mg "zip" = none) (ha : PA X [e, e2] ta) (hK : X.K = K := by rfl)
    (hs : starEach [e, e2] X.env = (false, eval e X.env) :: starEach [e2] X.env := by rfl) (hpl : (backTo pos (starEach [e2] X.env)).any (·.1) = false := by rfl)
    (hs2 : starEach [.Call (.Name "zip" p) [e, e2] [] pos] X.env = [(false, eval (.Call (.Name "zip" p) [e, e2] [] pos) X.env)] := by rfl) :
    PI X (.Tuple elts kk tpos) (.Call (.Name "enumerate" p2) [.Call (.Name "zip" p) [e, e2] [] pos] [] pos2) (iEZS K ta) := hK ▸ pi_ezS hge hme hg hm ha hs hpl hs2
section
variable {σ : L2.St} {H : Hp} {D : Ends}
def GoEZ (K : PySem.W.Frag) (R : It → Hp → Prop) (vs : List V) (H1 : Hp) : Prop := ∃ x y, vs = [x, y] ∧ Wk K x H1 fun G1 => Wk K y H1 fun G2 => R (ItEZ G1 G2) H1
theorem r_iEZ {t : TA} {R : It → Hp → Prop} (h : t σ H (GoEZ K R)) : iEZS K t σ H R := h
theorem r_goEZ {R : It → Hp → Prop} {x y : V} (h : Wk K x H fun G1 => Wk K y H fun G2 => R (ItEZ G1 G2) H) : GoEZ K R [x, y] H := ⟨x, y, rfl, h⟩
/-- for i, (x, y) in enumerate(zip(..)) -/
theorem for_ez {G1 G2 : Hp → List V → Prop} {gg : TG} {tb : TS} (xs ys : List V) (Pv : Nat → L2.St → Hp → Prop) (h0 : Pv 0 σ H) (hG : ∀ i σ H, i ≤ min xs.length ys.length → Pv i σ H → G1 H xs ∧ G2 H ys)
    (hs : ∀ i σ H q q2 H', i < min xs.length ys.length → Pv i σ H → Same H H' → H' q = some (.tup [xs.getD i .non, ys.getD i .non]) → H' q2 = some (.tup [.int (i : Nat), .ref q]) → gg (.ref q2) σ H' fun σ2 H2 => tb { D with nx := Pv (i + 1), ct := Pv (i + 1), bk := D.nx } σ2 H2)
    (hd : ∀ σ H, Pv (min xs.length ys.length) σ H → D.nx σ H) : ForJ gg tb D σ (ItEZ G1 G2) H := by
  refine ⟨fun i m σ H => m = min xs.length ys.length - i ∧ i ≤ min xs.length ys.length ∧ Pv i σ H, ⟨_, rfl, Nat.zero_le _, h0⟩, ?_⟩
  rintro i m σ H ⟨rfl, hi, pv⟩
  obtain ⟨g1, g2⟩ := hG i σ H hi pv
  by_cases hlt : i < min xs.length ys.length
  · have l1 : i < xs.length := by omega
    have l2 : i < ys.length := by omega
    refine .inr ⟨⟨xs, ys, xs[i], ys[i], g1, g2, by simp [l1], by simp [l2]⟩, Pv (i + 1), fun σ' H' p' => ⟨min xs.length ys.length - (i + 1), by omega, rfl, hlt, p'⟩, fun x H' yy => ?_⟩
    obtain ⟨q, q2, x1, y1, rfl, n1, n2, hne, rfl, e1, e2⟩ := yy
    have s1 : Same H (upd H q (.tup [x1, y1])) := Same.new1 n1
    have n2' : (upd H q (.tup [x1, y1])) q2 = none := by rw [upd_ne hne]; exact n2
    refine hs i σ H q q2 _ hlt pv (s1.new n2') ?_ ?_
    · rw [upd_ne hne.symm, upd_same, getD_of (e1 xs g1), getD_of (e2 ys g2)]
    · rw [upd_same]
  · have e : i = min xs.length ys.length := by omega
    subst e
    exact .inl ⟨⟨xs, ys, g1, g2, by omega, by omega, by omega⟩, hd σ H pv⟩
end
end NX
namespace NX
open PySem PySem.Spec PyProof.Rows L2
section
variable {X : Cx} {e : Expr} {es : List Expr} {p : Pos} {te : TE} {t : TA}
theorem pa_starK (K : PySem.W.Frag) (he : PE X e te) (hr : PA X es t) (hK : X.K = K := by rfl) (hs : starEach (.Starred e p :: es) X.env = (true, eval e X.env) :: starEach es X.env := by rfl) : PA X (.Starred e p :: es) (StX.tStar K te t) := hK ▸ StX.pa_star he hr hs
theorem cr_maxK (K : PySem.W.Frag) (hc : X.calm = true := by rfl) (hK : X.K = K := by rfl) : CallR X (.builtin "max") (rMax K) := hK ▸ cr_max hc
theorem cr_minK (K : PySem.W.Frag) (hc : X.calm = true := by rfl) (hK : X.K = K := by rfl) : CallR X (.builtin "min") (rMin K) := hK ▸ cr_min hc
end
section
variable {K : PySem.W.Frag} {σ : L2.St} {H : Hp} {Q : VK} {te : TE} {t : TA}
theorem r_star {Q : List V → Hp → Prop} (h : te σ H fun x H1 => ∃ p xs, x = V.ref p ∧ (SqT K H1 p xs ∨ SqL K H1 p xs) ∧ t σ H1 fun ys H2 => Q (xs ++ ys) H2) : StX.tStar K te t σ H Q := h
end
/-- the largest common beginning of unlike members -/
def IsLg (as bs : List (List Nat)) (m : Nat) : Prop := (m = 0 ∨ ∃ a ∈ as, ∃ b ∈ bs, a ≠ b ∧ cpl a b = m) ∧ ∀ a ∈ as, ∀ b ∈ bs, a ≠ b → cpl a b ≤ m
theorem IsLg.nil {bs : List (List Nat)} : IsLg [] bs 0 := ⟨.inl rfl, fun a ha => nomatch ha⟩
theorem IsLg.uniq {as bs cs ds : List (List Nat)} {m n : Nat} (h : IsLg as bs m) (g : IsLg cs ds n) (h1 : ∀ w, w ∈ as ↔ w ∈ cs) (h2 : ∀ w, w ∈ bs ↔ w ∈ ds) : m = n := by
  have e : ∀ {as bs cs ds : List (List Nat)} {m n : Nat}, IsLg as bs m → IsLg cs ds n → (∀ w, w ∈ as ↔ w ∈ cs) → (∀ w, w ∈ bs ↔ w ∈ ds) → m ≤ n := fun {as bs cs ds m n} h g h1 h2 => by
    rcases h.1 with z | ⟨a, ha, b, hb, hne, z⟩
    · omega
    · rw [← z]; exact g.2 a ((h1 a).mp ha) b ((h2 b).mp hb) hne
  exact Nat.le_antisymm (e h g h1 h2) (e g h (fun w => (h1 w).symm) fun w => (h2 w).symm)
theorem IsLg.step {as bs : List (List Nat)} {a : List Nat} {m n : Nat} (h : IsLg as bs m) (h1 : (n : Int) ∈ (m : Int) :: ((bs.filter fun b => decide (a ≠ b)).map fun b => ((cpl a b : Nat) : Int))) (h2 : ∀ x ∈ (m : Int) :: ((bs.filter fun b => decide (a ≠ b)).map fun b => ((cpl a b : Nat) : Int)), x ≤ (n : Int)) : IsLg (as ++ [a]) bs n := by
  have hm : m ≤ n := by have := h2 _ (List.mem_cons_self ..); omega
  refine ⟨?_, fun x hx b hb hne => ?_⟩
  · rcases List.mem_cons.mp h1 with e | e
    · have e : n = m := by omega
      subst e
      exact h.1.imp id fun ⟨x, hx, r⟩ => ⟨x, List.mem_append_left _ hx, r⟩
    · obtain ⟨b, hb, e⟩ := List.mem_map.mp e
      obtain ⟨hb1, hb2⟩ := List.mem_filter.mp hb
      exact .inr ⟨a, by simp, b, hb1, of_decide_eq_true hb2, by omega⟩
  · rcases List.mem_append.mp hx with hx | hx
    · exact Nat.le_trans (h.2 x hx b hb hne) hm
    · rw [List.mem_singleton.mp hx] at hne ⊢
      have := h2 ((cpl a b : Nat) : Int) (List.mem_cons_of_mem _ (List.mem_map.mpr ⟨b, List.mem_filter.mpr ⟨hb, decide_eq_true hne⟩, rfl⟩))
      omega
theorem cpl_comm : ∀ l m : List Nat, cpl l m = cpl m l
  | [], [] => rfl
  | [], _ :: _ => rfl
  | _ :: _, [] => rfl
  | a :: l, b :: m => by
    unfold cpl
    by_cases h : a = b
    · rw [if_pos h, if_pos h.symm, cpl_comm l m]
    · rw [if_neg h, if_neg (fun e => h e.symm)]
theorem IsLg.symm {as bs : List (List Nat)} {m : Nat} (h : IsLg as bs m) : IsLg bs as m :=
  ⟨h.1.imp id fun ⟨a, ha, b, hb, hne, e⟩ => ⟨b, hb, a, ha, hne.symm, by rw [cpl_comm]; exact e⟩, fun b hb a ha hne => by rw [cpl_comm]; exact h.2 a ha b hb hne.symm⟩
theorem IsLg.congr {as bs cs ds : List (List Nat)} {m : Nat} (h : IsLg as bs m) (h1 : ∀ w, w ∈ as ↔ w ∈ cs) (h2 : ∀ w, w ∈ bs ↔ w ∈ ds) : IsLg cs ds m :=
  ⟨h.1.imp id fun ⟨a, ha, b, hb, r⟩ => ⟨a, (h1 a).mp ha, b, (h2 b).mp hb, r⟩, fun a ha b hb hne => h.2 a ((h1 a).mpr ha) b ((h2 b).mpr hb) hne⟩
theorem rots_iff {m S : List Nat} (hp : 0 < m.length) : S ∈ rots m ↔ Turn m S := by
  unfold rots
  rw [List.mem_map]
  constructor
  · rintro ⟨i, hi, rfl⟩
    exact turn_cut m i
  · intro h
    obtain ⟨i, hi, e⟩ := h.rot
    rcases Nat.lt_or_ge i m.length with q | q
    · exact ⟨i, List.mem_range.mpr q, e.symm⟩
    · refine ⟨0, List.mem_range.mpr hp, ?_⟩
      have : i = m.length := by omega
      subst this
      rw [e]; simp [rot]
theorem rots_kin {l w : List Nat} (hp : 0 < l.length) : w ∈ rots l ++ rots (bak l) ↔ kinB w l = true := by
  rw [List.mem_append, rots_iff hp, rots_iff (by rw [bak_len]; exact hp), kinB_iff]
theorem frg_rr {a l : List Nat} (ha : Al a) (ho : RowOf a l) (h1 : 1 ≤ l.length) (h2 : l.length ≤ 40) (h : frg l = true) : RR a l := ⟨ho, h1, h2, frg_ring (ho.row ha) h⟩
/-- of a list, what no earlier one is kin of -/
theorem told_first {a : List Nat} {L : List (List Nat)} (ha : Al a) (h6 : L.length ≤ 6) (hr : ∀ r ∈ L, RR a r) :
    Told a ((List.range L.length).filterMap fun k => if (List.range k).all (fun j => !kinB (L.getD k []) (L.getD j [])) = true then some (L.getD k []) else none) := by
  refine told_pw.mpr ⟨Nat.le_trans (List.length_filterMap_le _ _) (by rw [List.length_range]; exact h6), fun r hr' => ?_, ?_⟩
  · obtain ⟨k, hk, e⟩ := List.mem_filterMap.mp hr'
    split at e
    · cases e; exact hr _ (getD_memL (List.mem_range.mp hk))
    · cases e
  · rw [List.pairwise_filterMap]
    have : (List.range L.length).Pairwise (· < ·) := List.pairwise_lt_range
    refine this.imp fun {i j} hij x hx y hy => ?_
    split at hx
    · split at hy
      · rename_i h1 h2
        cases hx; cases hy
        have := List.all_eq_true.mp h2 i (List.mem_range.mpr hij)
        cases e : kinB (L.getD j []) (L.getD i []) with
        | false => rfl
        | true => rw [e] at this; cases this
      · cases hy
    · cases hx
theorem kinL_mem (l w : List Nat) : w ∈ kinL l ↔ w ∈ rots l ++ rots (bak l) := by
  unfold kinL
  rw [List.mem_append, List.mem_append, once_mem, once_mem]
theorem kinL_row {l w : List Nat} (hl : Row l) (h : w ∈ kinL l) : Row w ∧ w.length = l.length := by
  rw [kinL_mem, List.mem_append] at h
  rcases h with h | h
  · unfold rots at h
    obtain ⟨i, _, rfl⟩ := List.mem_map.mp h
    exact ⟨(turn_cut l i).row hl, rot_len l i⟩
  · unfold rots at h
    obtain ⟨i, _, rfl⟩ := List.mem_map.mp h
    exact ⟨(turn_cut (bak l) i).row hl.bak, by rw [rot_len, bak_len]⟩
theorem fm_ifmap {α β : Type} (f : α → Bool) (g : α → β) (L : List α) : L.filterMap (fun b => if f b = true then some (g b) else none) = (L.filter f).map g := by
  induction L with
  | nil => rfl
  | cons i L ih =>
    cases e : f i with
    | true => rw [List.filterMap_cons_some (b := g i) (by rw [if_pos e]), List.filter_cons_of_pos e, ih]; rfl
    | false => rw [List.filterMap_cons_none (by rw [if_neg (by rw [e]; decide)]), List.filter_cons_of_neg (by rw [e]; decide), ih]
theorem r_notinTl {K : PySem.W.Frag} {H : Hp} {Q : VK} {p : Addr} {w : List Nat} {ls : List (List Nat)} (e : SqT K H p (ls.map T)) (h : Q (.bl (!decide (w ∈ ls))) H) : rNotInG K (T w) (.ref p) H Q :=
  .inr ⟨p, _, rfl, .inr e, rfl, flat_T ls, by rw [inV_T]; exact h⟩
theorem r_inTl {K : PySem.W.Frag} {H : Hp} {Q : VK} {p : Addr} {w : List Nat} {ls : List (List Nat)} (e : SqT K H p (ls.map T)) (h : Q (.bl (decide (w ∈ ls))) H) : rInG K (T w) (.ref p) H Q :=
  .inr ⟨p, _, rfl, .inr e, rfl, flat_T ls, by rw [inV_T]; exact h⟩
theorem map_one (rs : List (List Nat)) : (rs.map fun r => repL r 1) = rs := by
  conv => rhs; rw [← List.map_id rs]
  exact List.map_congr_left fun r _ => by simp [repL]
theorem str_dec1 : V.str (Str.ofString (toString (1 : Int))) = T (dec 1) := str_dec 1
theorem last_T {rs : List (List Nat)} (h : 0 < rs.length) : (rs.map T).getLast? = some (T (rs.getD (rs.length - 1 - 0) [])) := by
  rw [List.getLast?_eq_getElem?, List.length_map, List.getElem?_map, List.getElem?_eq_getElem (show rs.length - 1 < rs.length by omega), List.getD_eq_getElem?_getD, List.getElem?_eq_getElem (show rs.length - 1 - 0 < rs.length by omega)]
  rfl
theorem IsLg.le {as bs : List (List Nat)} {m : Nat} (h : IsLg as bs m) {k : Nat} (hk : ∀ a ∈ as, a.length ≤ k) : m ≤ k := by
  rcases h.1 with z | ⟨a, ha, b, _, _, e⟩
  · omega
  · have := (cpl_le a b).1
    have := hk a ha
    omega
/-- a number that is no times -/
def BadTm (K : PySem.W.Frag) (H : Hp) (v : V) : Prop := (∃ i : Int, v = .int i ∧ ¬ (1 ≤ i ∧ i ≤ 40)) ∨ ((∃ b, v = .bl b) ∨ NotI K H v)
theorem BadTm.same {K : PySem.W.Frag} {H H' : Hp} {v : V} (h : BadTm K H v) (s : Same H H') : BadTm K H' v := h.imp id fun h => h.imp id fun h => h.same s
end NX
namespace NX
open PySem PySem.Spec PyProof.Rows L2
/-! ### lists of triples of numbers -/
abbrev Tri := Nat × Nat × Nat
def tri (t : Tri) : List Int := [((t.1 : Nat) : Int), ((t.2.1 : Nat) : Int), ((t.2.2 : Nat) : Int)]
def TriAt (H : Hp) (x : V) (t : Tri) : Prop := ∃ p, x = .ref p ∧ H p = some (.tup ((tri t).map V.int))
def Tris (H : Hp) (xs : List V) (ts : List Tri) : Prop := Paired (TriAt H) xs ts
theorem Tris.same {H H' : Hp} {xs : List V} {ts : List Tri} (h : Tris H xs ts) (s : Same H H') : Tris H' xs ts := by
  unfold Tris at h ⊢
  induction h with
  | nil => exact .nil
  | cons a _ ih => exact .cons (by obtain ⟨p, e, e1⟩ := a; exact ⟨p, e, s _ _ e1⟩) ih
theorem Tris.kp {H H' : Hp} {xs zs : List V} {ts : List Tri} {d : Addr} (h : Tris H xs ts) (k : Kp d H H') (hd : H d = some (.lst zs)) : Tris H' xs ts := by
  unfold Tris at h ⊢
  induction h with
  | nil => exact .nil
  | cons a _ ih =>
    refine .cons ?_ ih
    obtain ⟨p, e, e1⟩ := a
    exact ⟨p, e, k _ _ (fun z => by rw [z, hd] at e1; cases e1) e1⟩
theorem Tris.len {H : Hp} {xs : List V} {ts : List Tri} (h : Tris H xs ts) : xs.length = ts.length := by
  unfold Tris at h
  induction h with
  | nil => rfl
  | cons _ _ ih => rw [List.length_cons, List.length_cons, ih]
theorem paired_perm {α β : Type} {F : α → β → Prop} {xs ys : List α} (p : xs.Perm ys) : ∀ {ts : List β}, Paired F xs ts → ∃ us, Paired F ys us ∧ us.Perm ts := by
  induction p with
  | nil => intro ts h; cases h; exact ⟨[], .nil, .refl _⟩
  | cons x _ ih =>
    intro ts h
    cases h with
    | cons a h =>
      obtain ⟨us, h1, h2⟩ := ih h
      exact ⟨_, .cons a h1, h2.cons _⟩
  | swap x y l =>
    intro ts h
    cases h with
    | cons a h => cases h with
      | cons b h => exact ⟨_, .cons b (.cons a h), .swap _ _ _⟩
  | trans _ _ ih1 ih2 =>
    intro ts h
    obtain ⟨us, h1, h2⟩ := ih1 h
    obtain ⟨vs, h3, h4⟩ := ih2 h1
    exact ⟨vs, h3, h4.trans h2⟩
def key (t : Tri) : Int := (t.1 : Int) * 1000000 + (t.2.1 : Int) * 1000 + (t.2.2 : Int)
theorem code_tri (t : Tri) : TS.code 1000 (tri t) = key t := by
  unfold tri key
  simp only [TS.code, List.length_cons, List.length_nil]
  omega
/-- lists that rise, with the same members -/
theorem rise_ext {α : Type} (k : α → Int) : ∀ {l m : List α}, l.Pairwise (fun x y => k x < k y) → m.Pairwise (fun x y => k x < k y) → (∀ x, x ∈ l ↔ x ∈ m) → l = m
  | [], [], _, _, _ => rfl
  | [], b :: m, _, _, h => absurd ((h b).mpr (List.mem_cons_self ..)) (by simp)
  | a :: l, [], _, _, h => absurd ((h a).mp (List.mem_cons_self ..)) (by simp)
  | a :: l, b :: m, h1, h2, h => by
    rw [List.pairwise_cons] at h1 h2
    have e : a = b := by
      rcases List.mem_cons.mp ((h a).mp (List.mem_cons_self ..)) with q | q
      · exact q
      · rcases List.mem_cons.mp ((h b).mpr (List.mem_cons_self ..)) with r | r
        · exact r.symm
        · have := h2.1 a q
          have := h1.1 b r
          omega
    subst e
    congr 1
    refine rise_ext k h1.2 h2.2 fun x => ⟨fun hx => ?_, fun hx => ?_⟩
    · rcases List.mem_cons.mp ((h x).mp (List.mem_cons_of_mem _ hx)) with q | q
      · subst q; have := h1.1 x hx; omega
      · exact q
    · rcases List.mem_cons.mp ((h x).mpr (List.mem_cons_of_mem _ hx)) with q | q
      · subst q; have := h2.1 x hx; omega
      · exact q
/-! ### the clashes -/
theorem maxI : ∀ (l : List Int) (x : Int), ∃ n, n ∈ x :: l ∧ ∀ y ∈ x :: l, y ≤ n
  | [], x => ⟨x, by simp, fun y hy => by simp at hy; omega⟩
  | a :: l, x => by
    obtain ⟨n, h1, h2⟩ := maxI l a
    by_cases c : n ≤ x
    · exact ⟨x, List.mem_cons_self .., fun y hy => by
        rcases List.mem_cons.mp hy with rfl | hy
        · exact Int.le_refl _
        · have := h2 y hy; omega⟩
    · exact ⟨n, List.mem_cons_of_mem _ h1, fun y hy => by
        rcases List.mem_cons.mp hy with rfl | hy
        · omega
        · exact h2 y hy⟩
theorem isLg_ex (bs : List (List Nat)) : ∀ as : List (List Nat), ∃ m, IsLg as bs m := by
  have : ∀ n (as : List (List Nat)), n ≤ as.length → ∃ m, IsLg (as.take n) bs m := by
    intro n as
    induction n with
    | zero => intro _; exact ⟨0, IsLg.nil⟩
    | succ n ih =>
      intro hn
      obtain ⟨m, hm⟩ := ih (by omega)
      obtain ⟨k, h1, h2⟩ := maxI ((bs.filter fun b => decide (as.getD n [] ≠ b)).map fun b => ((cpl (as.getD n []) b : Nat) : Int)) (m : Int)
      obtain ⟨j, rfl⟩ : ∃ j : Nat, k = (j : Int) := ⟨k.toNat, by have := h2 _ (List.mem_cons_self ..); omega⟩
      refine ⟨j, ?_⟩
      rw [List.take_succ_eq_append_getElem (show n < as.length by omega), ← getD_el (d := []) (show n < as.length by omega)]
      exact hm.step h1 h2
  intro as
  obtain ⟨m, h⟩ := this as.length as (Nat.le_refl _)
  rw [List.take_length] at h
  exact ⟨m, h⟩
noncomputable def lgv (as bs : List (List Nat)) : Nat := Classical.epsilon fun m => IsLg as bs m
theorem lgv_is (as bs : List (List Nat)) : IsLg as bs (lgv as bs) := Classical.epsilon_spec (isLg_ex bs as)
theorem lgv_eq {as bs : List (List Nat)} {m : Nat} (h : IsLg as bs m) : m = lgv as bs := h.uniq (lgv_is as bs) (fun _ => Iff.rfl) fun _ => Iff.rfl
/-- the clash of two rows -/
noncomputable def clT (rs : List (List Nat)) (i j : Nat) : Option Tri :=
  if 0 < lgv (kinL (rs.getD i [])) (kinL (rs.getD j [])) ∧ min (rs.getD i []).length (rs.getD j []).length ≤ 6 * lgv (kinL (rs.getD i [])) (kinL (rs.getD j [])) then some (i, j, lgv (kinL (rs.getD i [])) (kinL (rs.getD j []))) else none
noncomputable def PLr (rs : List (List Nat)) (t : Nat) : List Tri := (List.range (t + 1)).filterMap fun o => clT rs o t
noncomputable def PL (rs : List (List Nat)) (n : Nat) : List Tri := (List.range n).flatMap (PLr rs)
noncomputable def CLr (rs : List (List Nat)) (n o : Nat) : List Tri := (List.range (n - o)).filterMap fun k => clT rs o (o + k)
noncomputable def CL (rs : List (List Nat)) (n m : Nat) : List Tri := (List.range m).flatMap (CLr rs n)
theorem clT_eq {rs : List (List Nat)} {i j : Nat} {t : Tri} (h : clT rs i j = some t) : t.1 = i ∧ t.2.1 = j ∧ t.2.2 = lgv (kinL (rs.getD i [])) (kinL (rs.getD j [])) := by
  unfold clT at h
  split at h
  · cases h; exact ⟨rfl, rfl, rfl⟩
  · cases h
theorem PL_mem {rs : List (List Nat)} {n : Nat} {t : Tri} : t ∈ PL rs n ↔ ∃ i j, i ≤ j ∧ j < n ∧ clT rs i j = some t := by
  unfold PL PLr
  rw [List.mem_flatMap]
  constructor
  · rintro ⟨j, hj, h⟩
    obtain ⟨i, hi, e⟩ := List.mem_filterMap.mp h
    rw [List.mem_range] at hi hj
    exact ⟨i, j, by omega, hj, e⟩
  · rintro ⟨i, j, hij, hj, e⟩
    exact ⟨j, List.mem_range.mpr hj, List.mem_filterMap.mpr ⟨i, List.mem_range.mpr (by omega), e⟩⟩
theorem CL_mem {rs : List (List Nat)} {n : Nat} {t : Tri} : t ∈ CL rs n n ↔ ∃ i j, i ≤ j ∧ j < n ∧ clT rs i j = some t := by
  unfold CL CLr
  rw [List.mem_flatMap]
  constructor
  · rintro ⟨i, hi, h⟩
    obtain ⟨k, hk, e⟩ := List.mem_filterMap.mp h
    rw [List.mem_range] at hi hk
    exact ⟨i, i + k, by omega, by omega, e⟩
  · rintro ⟨i, j, hij, hj, e⟩
    exact ⟨i, List.mem_range.mpr (by omega), List.mem_filterMap.mpr ⟨j - i, List.mem_range.mpr (by omega), by rw [show i + (j - i) = j by omega]; exact e⟩⟩
theorem CL_rise {rs : List (List Nat)} {n : Nat} (hn : n ≤ 6) (hl : ∀ i, i < n → (rs.getD i []).length ≤ 100 ∧ Row (rs.getD i [])) : (CL rs n n).Pairwise fun x y => key x < key y := by
  have hlg : ∀ i j, i < n → lgv (kinL (rs.getD i [])) (kinL (rs.getD j [])) ≤ 100 := fun i j hi => (lgv_is _ _).le fun a ha => by
    have := (kinL_row (hl i hi).2 ha).2
    have := (hl i hi).1
    omega
  unfold CL
  rw [List.pairwise_flatMap]
  refine ⟨fun o ho => ?_, ?_⟩
  · unfold CLr
    rw [List.pairwise_filterMap]
    refine (List.pairwise_lt_range (n := n - o)).imp_of_mem fun {x y} hx hy hxy a ha b hb => ?_
    rw [List.mem_range] at ho hx hy
    obtain ⟨a1, a2, a3⟩ := clT_eq ha
    obtain ⟨b1, b2, b3⟩ := clT_eq hb
    have h1 := hlg o (o + x) ho
    have h2 := hlg o (o + y) ho
    unfold key
    rw [a1, a2, a3, b1, b2, b3]
    generalize lgv (kinL (rs.getD o [])) (kinL (rs.getD (o + x) [])) = p at h1
    generalize lgv (kinL (rs.getD o [])) (kinL (rs.getD (o + y) [])) = q at h2
    omega
  · refine (List.pairwise_lt_range (n := n)).imp_of_mem fun {o u} ho hu hou x hx y hy => ?_
    unfold CLr at hx hy
    obtain ⟨k, hk, e⟩ := List.mem_filterMap.mp hx
    obtain ⟨k2, hk2, e2⟩ := List.mem_filterMap.mp hy
    rw [List.mem_range] at ho hu hk hk2
    obtain ⟨a1, a2, a3⟩ := clT_eq e
    obtain ⟨b1, b2, b3⟩ := clT_eq e2
    have h1 := hlg o (o + k) ho
    have h2 := hlg u (u + k2) hu
    unfold key
    rw [a1, a2, a3, b1, b2, b3]
    generalize lgv (kinL (rs.getD o [])) (kinL (rs.getD (o + k) [])) = p at h1
    generalize lgv (kinL (rs.getD u [])) (kinL (rs.getD (u + k2) [])) = q at h2
    omega
theorem PL_nodup {rs : List (List Nat)} {n : Nat} : (PL rs n).Nodup := by
  unfold PL List.Nodup
  rw [List.pairwise_flatMap]
  refine ⟨fun t ht => ?_, ?_⟩
  · unfold PLr
    rw [List.pairwise_filterMap]
    refine (List.pairwise_lt_range (n := t + 1)).imp fun {x y} hxy a ha b hb e => ?_
    have h1 := (clT_eq ha).1
    have h2 := (clT_eq hb).1
    rw [e] at h1
    omega
  · refine (List.pairwise_lt_range (n := n)).imp fun {o u} hou x hx y hy e => ?_
    unfold PLr at hx hy
    obtain ⟨k, hk, e1⟩ := List.mem_filterMap.mp hx
    obtain ⟨k2, hk2, e2⟩ := List.mem_filterMap.mp hy
    have h1 := (clT_eq e1).2.1
    have h2 := (clT_eq e2).2.1
    rw [e] at h1
    omega
theorem PL_bd {rs : List (List Nat)} {n : Nat} (hn : n ≤ 6) (hl : ∀ i, i < n → (rs.getD i []).length ≤ 100 ∧ Row (rs.getD i [])) {t : Tri} (h : t ∈ PL rs n) : t.1 < 6 ∧ t.2.1 < 6 ∧ t.2.2 ≤ 100 := by
  obtain ⟨i, j, hij, hj, e⟩ := PL_mem.mp h
  obtain ⟨a1, a2, a3⟩ := clT_eq e
  have hlg : lgv (kinL (rs.getD i [])) (kinL (rs.getD j [])) ≤ 100 := (lgv_is _ _).le fun a ha => by
    have := (kinL_row (hl i (by omega)).2 ha).2
    have := (hl i (by omega)).1
    omega
  omega
end NX
namespace NX
open PySem PySem.Spec PyProof.Rows L2
/-! ### lists of tuples of numbers: told by repr, sorted, compared -/
abbrev dIs (l : List Int) : PyData := .tuple (l.map PyData.int)
abbrev dLs (ls : List (List Int)) : PyData := .list (ls.map dIs)
def IsAt (K : PySem.W.Frag) (H : Hp) (x : V) (l : List Int) : Prop := ∃ p, x = .ref p ∧ SqT K H p (l.map V.int)
section
variable {K : PySem.W.Frag} {H : Hp}
theorem TriAt.isAt {x : V} {t : Tri} (h : TriAt H x t) : IsAt K H x (tri t) := by
  obtain ⟨p, e, h⟩ := h
  exact ⟨p, e, SqT.of h⟩
theorem Tris.isAt {xs : List V} {ts : List Tri} (h : Tris H xs ts) : Paired (IsAt K H) xs (ts.map tri) := by
  unfold Tris at h
  induction h with
  | nil => exact .nil
  | cons a _ ih => exact .cons a.isAt ih
theorem dpAll_I {xs : List V} {ls : List (List Int)} (h : Paired (IsAt K H) xs ls) : DpAll K H xs (ls.map dIs) := by
  induction h with
  | nil => exact .nil
  | cons a _ ih =>
    obtain ⟨p, rfl, e⟩ := a
    exact .cons (.tup e (dpAll_ints _)) ih
theorem shAll_I : ∀ l : List Int, (∀ i ∈ l, i.natAbs < 1000) → PyData.showableAll (l.map PyData.int) = true
  | [], _ => by simp only [List.map_nil, PyData.showableAll]
  | i :: l, h => by
    have h1 : i.natAbs.log2 < 1920 := log_small (Nat.lt_of_lt_of_le (h i (List.mem_cons_self ..)) (by decide))
    simp only [List.map_cons, PyData.showableAll, PyData.showable, shAll_I l fun z hz => h z (List.mem_cons_of_mem _ hz), Bool.and_true, decide_eq_true_eq]
    exact h1
theorem shAll_L : ∀ ls : List (List Int), (∀ l ∈ ls, ∀ i ∈ l, i.natAbs < 1000) → PyData.showableAll (ls.map dIs) = true
  | [], _ => by simp only [List.map_nil, PyData.showableAll]
  | l :: ls, h => by
    simp only [List.map_cons, PyData.showableAll, PyData.showable, shAll_L ls fun z hz => h z (List.mem_cons_of_mem _ hz), shAll_I l (h l (List.mem_cons_self ..)), Bool.and_self]
theorem hdAll_I : ∀ l : List Int, PyData.hasDictAll (l.map PyData.int) = false
  | [] => by simp only [List.map_nil, PyData.hasDictAll]
  | i :: l => by simp only [List.map_cons, PyData.hasDictAll, PyData.hasDict, hdAll_I l, Bool.or_self]
theorem hdAll_L : ∀ ls : List (List Int), PyData.hasDictAll (ls.map dIs) = false
  | [] => by simp only [List.map_nil, PyData.hasDictAll]
  | l :: ls => by simp only [List.map_cons, PyData.hasDictAll, PyData.hasDict, hdAll_L ls, hdAll_I l, Bool.or_self]
theorem deAll_L : ∀ ls : List (List Int), PyData.depthAll (ls.map dIs) ≤ 1
  | [] => by simp [PyData.depthAll]
  | l :: ls => by
    have := deAll_L ls
    have h2 := depth_ints l
    simp only [List.map_cons, PyData.depthAll, PyData.depth, h2]
    omega
theorem lay_L : ∀ ls : List (List Int), PyData.canLayAll0 (ls.map dIs) = true
  | [] => rfl
  | l :: ls => by
    show (PyData.canLayAll0 (l.map PyData.int) && PyData.canLayAll0 (ls.map dIs)) = true
    rw [lay_L ls, lay_ints l]; rfl
theorem plain_L : ∀ ls : List (List Int), plainAll (ls.map dIs) = true
  | [] => rfl
  | l :: ls => by
    show (plainAll (l.map PyData.int) && plainAll (ls.map dIs)) = true
    rw [plain_L ls, plain_ints l]; rfl
theorem ints_len {i : Int} (h : 0 ≤ i ∧ i < 1000) : (PyData.shown (.int i)).length ≤ 20 := by
  obtain ⟨n, rfl⟩ : ∃ n : Nat, i = (n : Int) := ⟨i.toNat, by omega⟩
  have e := str_dec n
  have e2 : (PyData.shown (.int (n : Int))) = mkS (dec n) := by
    simp only [PyData.shown]
    injection e
  have h3 := dec_len (n := n) (k := 3) (by decide) (by omega)
  rw [e2]
  simp only [mkS, Str.length, List.size_toArray]
  omega
theorem lsAll_I : ∀ l : List Int, (∀ i ∈ l, 0 ≤ i ∧ i < 1000) → PyData.leavesShortAll 20 (l.map PyData.int) = true
  | [], _ => by simp only [List.map_nil, PyData.leavesShortAll]
  | i :: l, h => by
    have h1 := ints_len (h i (List.mem_cons_self ..))
    simp only [List.map_cons, PyData.leavesShortAll, PyData.leavesShort, lsAll_I l fun z hz => h z (List.mem_cons_of_mem _ hz), Bool.and_true, decide_eq_true_eq]
    exact h1
theorem lsAll_L : ∀ ls : List (List Int), (∀ l ∈ ls, ∀ i ∈ l, 0 ≤ i ∧ i < 1000) → PyData.leavesShortAll 20 (ls.map dIs) = true
  | [], _ => by simp only [List.map_nil, PyData.leavesShortAll]
  | l :: ls, h => by
    simp only [List.map_cons, PyData.leavesShortAll, PyData.leavesShort, lsAll_L ls fun z hz => h z (List.mem_cons_of_mem _ hz), lsAll_I l (h l (List.mem_cons_self ..)), Bool.and_self]
theorem bulk_I : ∀ l : List Int, PyData.bulkAll (l.map PyData.int) = l.length
  | [] => by simp only [List.map_nil, PyData.bulkAll, List.length_nil]
  | i :: l => by simp only [List.map_cons, PyData.bulkAll, PyData.bulk, bulk_I l, List.length_cons]; omega
theorem bulk_L : ∀ ls : List (List Int), (∀ l ∈ ls, l.length ≤ 100) → PyData.bulkAll (ls.map dIs) ≤ 101 * ls.length
  | [], _ => by simp only [List.map_nil, PyData.bulkAll, List.length_nil]; omega
  | l :: ls, h => by
    have h1 := bulk_L ls fun z hz => h z (List.mem_cons_of_mem _ hz)
    have h2 := h l (List.mem_cons_self ..)
    simp only [List.map_cons, PyData.bulkAll, PyData.bulk, bulk_I l, List.length_cons]
    omega
theorem r_reprLs {Q : VK} {p : Addr} {xs : List V} {ls : List (List Int)} (e : SqL K H p xs) (hx : Paired (IsAt K H) xs ls) (hr : ∀ l ∈ ls, l.length ≤ 100 ∧ ∀ i ∈ l, 0 ≤ i ∧ i < 1000) (hl : ls.length ≤ 1000) (h : Q (.str (dLs ls).shown) H) : rReprD K [.ref p] H Q := by
  refine .inr ⟨p, dLs ls, rfl, dp_all (dpAll_I hx) e, ?_, ?_, ?_, ?_, h⟩
  · simp only [PyData.showable]; exact shAll_L ls fun l hl i hi => by have := (hr l hl).2 i hi; omega
  · simp only [PyData.hasDict]; exact hdAll_L ls
  · simp only [PyData.depth]; have := deAll_L ls; omega
  · have h1 := PyData.shown_le_bulk 20 (by decide) (dLs ls) (by simp only [PyData.leavesShort]; exact lsAll_L ls fun l hl => (hr l hl).2)
    have h2 := bulk_L ls fun l hl => (hr l hl).1
    have h3 : (dLs ls).bulk = PyData.bulkAll (ls.map dIs) := by simp only [PyData.bulk]
    have e : sizeLine = 16777216 := sizeLine_eq
    omega
theorem r_eqL0 {Q : VK} {p q : Addr} {xs : List V} {ls : List (List Int)} (h1 : SqL K H p xs) (hx : Paired (IsAt K H) xs ls) (h2 : SqL K H q []) (h : Q (.bl (decide (ls = []))) H) : rEqG K (.ref p) (.ref q) H Q :=
  r_eqD (dp_all (dpAll_I hx) h1) (dp_all (vs := []) (ds := []) .nil h2) (shaped_list (lay_L ls) (by have := deAll_L ls; omega)) (by rfl) (plain_L ls) rfl (by rw [PyData.list.injEq, List.map_eq_nil_iff]) h
theorem tri_bd {t : Tri} (h : t.1 < 1000 ∧ t.2.1 < 1000 ∧ t.2.2 < 1000) : (tri t).length ≤ 100 ∧ ∀ i ∈ tri t, 0 ≤ i ∧ i < 1000 := by
  unfold tri
  refine ⟨by simp, fun i hi => ?_⟩
  simp only [List.mem_cons, List.not_mem_nil, or_false] at hi
  omega
theorem r_reprTri {Q : VK} {p : Addr} {xs : List V} {ts : List Tri} (e : SqL K H p xs) (hx : Tris H xs ts) (hr : ∀ t ∈ ts, t.1 < 1000 ∧ t.2.1 < 1000 ∧ t.2.2 < 1000) (hl : ts.length ≤ 1000) (h : Q (.str (dLs (ts.map tri)).shown) H) : rReprD K [.ref p] H Q := by
  refine r_reprLs e hx.isAt (fun l hl => ?_) (by rw [List.length_map]; exact hl) h
  obtain ⟨t, ht, rfl⟩ := List.mem_map.mp hl
  exact tri_bd (hr t ht)
theorem r_eqTri0 {Q : VK} {p q : Addr} {xs : List V} {ts : List Tri} (h1 : SqL K H p xs) (hx : Tris H xs ts) (h2 : SqL K H q []) (h : Q (.bl (decide (ts = []))) H) : rEqG K (.ref p) (.ref q) H Q := by
  refine r_eqL0 h1 hx.isAt h2 ?_
  rw [show decide (ts.map tri = []) = decide (ts = []) by rw [decide_eq_decide, List.map_eq_nil_iff]]
  exact h
theorem paired_mem {α β : Type} {F : α → β → Prop} {xs : List α} {ts : List β} (h : Paired F xs ts) {x : α} (hx : x ∈ xs) : ∃ t ∈ ts, F x t := by
  induction h with
  | nil => exact absurd hx (by simp)
  | cons a _ ih =>
    rcases List.mem_cons.mp hx with rfl | hx
    · exact ⟨_, List.mem_cons_self .., a⟩
    · obtain ⟨t, h1, h2⟩ := ih hx
      exact ⟨t, List.mem_cons_of_mem _ h1, h2⟩
theorem paired_pw {α β : Type} {F : α → β → Prop} {R : α → α → Prop} {S : β → β → Prop} {xs : List α} {ts : List β} (h : Paired F xs ts) (hp : xs.Pairwise R) (c : ∀ x y s t, F x s → F y t → R x y → S s t) : ts.Pairwise S := by
  induction h with
  | nil => exact .nil
  | @cons x t xs ts a hh ih =>
    rw [List.pairwise_cons] at hp ⊢
    refine ⟨fun u hu => ?_, ih hp.2⟩
    have back : ∀ {xs : List α} {ts : List β}, Paired F xs ts → ∀ u ∈ ts, ∃ y ∈ xs, F y u := fun h => by
      induction h with
      | nil => intro u hu; exact absurd hu (by simp)
      | cons a _ ih =>
        intro u hu
        rcases List.mem_cons.mp hu with rfl | hu
        · exact ⟨_, List.mem_cons_self .., a⟩
        · obtain ⟨t, h1, h2⟩ := ih u hu
          exact ⟨t, List.mem_cons_of_mem _ h1, h2⟩
    obtain ⟨y, hy, f⟩ := back hh u hu
    exact c _ _ _ _ a f (hp.1 y hy)
theorem key_inj {s t : Tri} (hs : s.1 < 1000 ∧ s.2.1 < 1000 ∧ s.2.2 < 1000) (ht : t.1 < 1000 ∧ t.2.1 < 1000 ∧ t.2.2 < 1000) (h : key s = key t) : s = t := by
  obtain ⟨a, b, c⟩ := s
  obtain ⟨d, e, f⟩ := t
  unfold key at h
  simp only at h hs ht
  simp only [Prod.mk.injEq]
  omega
/-- sorted(list of triples), each but once -/
theorem r_sortTri {Q : VK} {p : Addr} {xs : List V} {ts : List Tri} (e : SqL K H p xs) (hx : Tris H xs ts) (hl : ts.length < 64) (hr : ∀ t ∈ ts, t.1 < 1000 ∧ t.2.1 < 1000 ∧ t.2.2 < 1000) (hn : ts.Nodup)
    (h : ∀ ys us d, Tris H ys us → us.Perm ts → us.Pairwise (fun x y => key x < key y) → H d = none → Q (.ref d) (upd H d (.lst ys))) : rSortedG K [.ref p] H Q := by
  refine .inr (.inr (.inl ⟨3, 1000, by decide, p, xs, rfl, e, by rw [hx.len]; exact hl, fun x m => ?_, fun ys d hp hs nd => ?_⟩))
  · obtain ⟨t, ht, f⟩ := paired_mem hx m
    obtain ⟨q, e1, e2⟩ := f
    exact ⟨tri t, ⟨q, e1, SqT.of e2⟩, by unfold tri; rfl, (tri_bd (hr t ht)).2⟩
  · obtain ⟨us, h1, h2⟩ := paired_perm hp.symm hx
    refine h ys us d h1 h2 ?_ nd
    have h3 : us.Pairwise fun x y => key x ≤ key y := paired_pw h1 hs fun x y s t f g c => by
      obtain ⟨q, e1, e2⟩ := f
      obtain ⟨q2, e3, e4⟩ := g
      have := c (tri s) (tri t) ⟨q, e1, SqT.of e2⟩ ⟨q2, e3, SqT.of e4⟩
      rwa [code_tri, code_tri] at this
    have hn2 : us.Nodup := h2.nodup_iff.mpr hn
    refine (h3.and hn2).imp_of_mem fun {s t} ms mt z => ?_
    have h4 := hr s (h2.mem_iff.mp ms)
    have h5 := hr t (h2.mem_iff.mp mt)
    rcases Int.lt_or_le (key s) (key t) with q | q
    · exact q
    · exact absurd (key_inj h4 h5 (by have := z.1; omega)) z.2
end
/-- what clash_rows returns -/
theorem clash_sorted {rs : List (List Nat)} {us : List Tri} {n : Nat} (hn : n ≤ 6) (hl : ∀ i, i < n → (rs.getD i []).length ≤ 100 ∧ Row (rs.getD i [])) (hp : us.Perm (PL rs n)) (hs : us.Pairwise fun x y => key x < key y) : us = CL rs n n :=
  rise_ext key hs (CL_rise hn hl) fun t => hp.mem_iff.trans (PL_mem.trans CL_mem.symm)
theorem PL_len (rs : List (List Nat)) {n : Nat} (hn : n ≤ 6) : (PL rs n).length ≤ 36 := by
  have h : ∀ m, m ≤ 6 → (PL rs m).length ≤ 6 * m := by
    intro m
    induction m with
    | zero => intro _; simp [PL]
    | succ m ih =>
      intro hm
      have e : PL rs (m + 1) = PL rs m ++ PLr rs m := by
        unfold PL; rw [List.range_succ, List.flatMap_append]; simp
      have h1 : (PLr rs m).length ≤ m + 1 := by
        unfold PLr
        exact Nat.le_trans (List.length_filterMap_le ..) (by rw [List.length_range]; omega)
      have h2 := ih (by omega)
      rw [e, List.length_append]
      omega
  have := h n hn
  omega
theorem CL_bd {rs : List (List Nat)} {n : Nat} (hn : n ≤ 6) (hl : ∀ i, i < n → (rs.getD i []).length ≤ 100 ∧ Row (rs.getD i [])) {t : Tri} (h : t ∈ CL rs n n) : t.1 < 6 ∧ t.2.1 < 6 ∧ t.2.2 ≤ 100 := PL_bd hn hl (PL_mem.mpr (CL_mem.mp h))
end NX
namespace NX
open PySem PySem.Spec PyProof.Rows L2
theorem paired_snoc {α β : Type} {F : α → β → Prop} {xs : List α} {ts : List β} (h : Paired F xs ts) {x : α} {t : β} (f : F x t) : Paired F (xs ++ [x]) (ts ++ [t]) := by
  induction h with
  | nil => exact .cons f .nil
  | cons a _ ih => exact .cons a ih
/-- a new triple, put at the end of a list -/
theorem Tris.snoc {H H' : Hp} {xs zs : List V} {ts : List Tri} {t p : Addr} {n : HO} (h : Tris H xs ts) (u : Tri) (e : H' t = some (.tup ((tri u).map V.int))) (s : Same H H') (ep : H' p = some (.lst zs)) : Tris (upd H' p n) (xs ++ [.ref t]) (ts ++ [u]) := by
  refine paired_snoc ?_ ⟨t, rfl, ?_⟩
  · have h2 := h.same s
    exact h2.kp (d := p) (H' := upd H' p n) (fun c o hc e => by rw [upd_ne hc]; exact e) ep
  · rw [upd_ne (by rintro rfl; rw [ep] at e; cases e)]; exact e
theorem CL_succ (rs : List (List Nat)) (n o : Nat) : CL rs n (o + 1) = CL rs n o ++ CLr rs n o := by
  unfold CL; rw [List.range_succ, List.flatMap_append]; simp
theorem CLp_succ (rs : List (List Nat)) (o k : Nat) (L : List Tri) : (L ++ (List.range (k + 1)).filterMap fun k => clT rs o (o + k)) = (L ++ (List.range k).filterMap fun k => clT rs o (o + k)) ++ (clT rs o (o + k)).toList := by
  rw [List.range_succ, List.filterMap_append, List.append_assoc]
  congr 2
theorem CL_len (rs : List (List Nat)) {n m : Nat} (hn : n ≤ 6) (hm : m ≤ 6) : (CL rs n m).length ≤ 36 := by
  have h : ∀ m, m ≤ 6 → (CL rs n m).length ≤ 6 * m := by
    intro m
    induction m with
    | zero => intro _; simp [CL]
    | succ m ih =>
      intro hm
      have h1 : (CLr rs n m).length ≤ n - m := by
        unfold CLr
        exact Nat.le_trans (List.length_filterMap_le ..) (by rw [List.length_range]; omega)
      have h2 := ih (by omega)
      rw [CL_succ, List.length_append]
      omega
  have := h m hm
  omega
end NX
namespace NX
open PySem PySem.Spec PyProof.Rows L2
section
variable {K : PySem.W.Frag} {H : Hp} {Q : VK} {σ : L2.St}
/-- sorted of a list of texts, of any length -/
theorem r_sortedA {p : Addr} {ls : List (List Nat)} (e : SqL K H p (ls.map T)) (h : ∀ (zs : List (List Nat)) (d : Addr), zs.Perm ls → sortedS (zs.map mkS) = true → H d = none → Q (.ref d) (upd H d (.lst (zs.map T)))) : rSortedG K [.ref p] H Q := by
  refine .inr (.inr (.inr ⟨p, ls.map mkS, rfl, by rw [List.map_map]; exact e, fun ys d hp hs nd => ?_⟩))
  have e2 : (ys.map fun s : Str => s.cps.toList).map mkS = ys := by
    rw [List.map_map]
    conv => rhs; rw [← List.map_id ys]
    exact List.map_congr_left fun s _ => by cases s; rfl
  have e3 : ys.map V.str = (ys.map fun s : Str => s.cps.toList).map T := by
    conv => lhs; rw [← e2]
    rw [List.map_map]; rfl
  rw [e3]
  refine h _ d ?_ (by rw [e2]; exact hs) nd
  have h5 := hp.map fun s : Str => s.cps.toList
  rw [List.map_map] at h5
  have h6 : ls.map ((fun s : Str => s.cps.toList) ∘ mkS) = ls := by
    conv => rhs; rw [← List.map_id ls]
    exact List.map_congr_left fun l _ => by simp [mkS]
  rw [h6] at h5
  exact h5
/-! ### comprehensions of two clauses -/
def Lc2I (g1 : TG) (tt1 : TT) (te : TE) (vs1 : List Nat) (σ2 : L2.St) (D : Addr) (Nx : Hp → Prop) (J1 : It) (H4 : Hp) : Prop := ∃ W1 : Nat → Nat → Hp → Prop, (∃ m, W1 0 m H4) ∧ ∀ j k H, W1 j k H →
  (J1.stop j H ∧ Nx H) ∨ (J1.go j H ∧ ∃ Nx1 : Hp → Prop, (∀ H', Nx1 H' → ∃ k', k' < k ∧ W1 (j + 1) k' H') ∧ ∀ x H', J1.yld j H x H' → g1 x (wipe σ2 vs1) H' fun σ3 H5 => wipe σ3 vs1 = wipe σ2 vs1 ∧ tt1 σ3 H5 fun b H6 =>
    if b = true then te σ3 H6 fun y H7 => ∃ acc, H7 D = some (.lst acc) ∧ acc.length < sizeLine ∧ Nx1 (upd H7 D (.lst (acc ++ [y]))) else Nx1 H6)
def Lc2J (g : TG) (tt : TT) (wi1 : TI) (g1 : TG) (tt1 : TT) (te : TE) (vs vs1 : List Nat) (σ : L2.St) (Q : VK) (J : It) (H1 : Hp) : Prop := ∀ D, H1 D = none → ∃ W : Nat → Nat → Hp → Prop, (∃ m, W 0 m (upd H1 D (.lst []))) ∧ ∀ i m H, W i m H →
  (J.stop i H ∧ Q (.ref D) H) ∨ (J.go i H ∧ ∃ Nx : Hp → Prop, (∀ H', Nx H' → ∃ m', m' < m ∧ W (i + 1) m' H') ∧ ∀ x H', J.yld i H x H' → g x (wipe σ vs) H' fun σ2 H2 => wipe σ2 vs = wipe σ vs ∧ tt σ2 H2 fun b H3 =>
    if b = true then wi1 σ2 H3 (Lc2I g1 tt1 te vs1 σ2 D Nx) else Nx H3)
theorem r_lc2 {wi wi1 : TI} {g g1 : TG} {tt tt1 : TT} {te : TE} {vs vs1 : List Nat} (h : wi σ H (Lc2J g tt wi1 g1 tt1 te vs vs1 σ Q)) : tLc2 wi g tt wi1 g1 tt1 te vs vs1 σ H Q := h
theorem lc2_inv {J : It} {n : Nat} {f : Nat → V} {G : Hp → Prop} {g g1 : TG} {tt tt1 : TT} {wi1 : TI} {te : TE} {vs vs1 : List Nat} (kn : Known J n f G) (Pv : Addr → Nat → Hp → Prop) (h0 : ∀ D, H D = none → Pv D 0 (upd H D (.lst []))) (hg : ∀ D i H, i ≤ n → Pv D i H → G H)
    (hs : ∀ D i H, i < n → Pv D i H → g (f i) (wipe σ vs) H fun σ2 H2 => wipe σ2 vs = wipe σ vs ∧ tt σ2 H2 fun b H3 =>
      if b = true then wi1 σ2 H3 (Lc2I g1 tt1 te vs1 σ2 D (Pv D (i + 1))) else Pv D (i + 1) H3)
    (hd : ∀ D H, Pv D n H → Q (.ref D) H) : Lc2J g tt wi1 g1 tt1 te vs vs1 σ Q J H := by
  intro D nD
  refine ⟨fun i m H => m = n - i ∧ i ≤ n ∧ Pv D i H, ⟨_, rfl, Nat.zero_le _, h0 D nD⟩, ?_⟩
  rintro i m H2 ⟨rfl, hi, p⟩
  obtain ⟨k1, k2⟩ := kn i H2 (hg D i H2 hi p)
  by_cases hlt : i < n
  · obtain ⟨go, y⟩ := k1 hlt
    refine .inr ⟨go, Pv D (i + 1), fun H' p' => ⟨_, by omega, rfl, by omega, p'⟩, fun x H' hy => ?_⟩
    obtain ⟨rfl, rfl⟩ := y x H' hy
    exact hs D i _ hlt p
  · have : i = n := by omega
    subst this
    exact .inl ⟨k2 (Nat.le_refl _), hd D _ p⟩
theorem lc2i_inv {J1 : It} {n : Nat} {f : Nat → V} {G : Hp → Prop} {g1 : TG} {tt1 : TT} {te : TE} {vs1 : List Nat} {D : Addr} {Nx : Hp → Prop} {σ2 : L2.St} (kn : Known J1 n f G) (Pv : Nat → Hp → Prop) (h0 : Pv 0 H) (hg : ∀ i H, i ≤ n → Pv i H → G H)
    (hs : ∀ i H, i < n → Pv i H → g1 (f i) (wipe σ2 vs1) H fun σ3 H5 => wipe σ3 vs1 = wipe σ2 vs1 ∧ tt1 σ3 H5 fun b H6 =>
      if b = true then te σ3 H6 fun y H7 => ∃ acc, H7 D = some (.lst acc) ∧ acc.length < sizeLine ∧ Pv (i + 1) (upd H7 D (.lst (acc ++ [y]))) else Pv (i + 1) H6)
    (hd : ∀ H, Pv n H → Nx H) : Lc2I g1 tt1 te vs1 σ2 D Nx J1 H := by
  refine ⟨fun i m H => m = n - i ∧ i ≤ n ∧ Pv i H, ⟨_, rfl, Nat.zero_le _, h0⟩, ?_⟩
  rintro i m H2 ⟨rfl, hi, p⟩
  obtain ⟨k1, k2⟩ := kn i H2 (hg i H2 hi p)
  by_cases hlt : i < n
  · obtain ⟨go, y⟩ := k1 hlt
    refine .inr ⟨go, Pv (i + 1), fun H' p' => ⟨_, by omega, rfl, by omega, p'⟩, fun x H' hy => ?_⟩
    obtain ⟨rfl, rfl⟩ := y x H' hy
    exact hs i _ hlt p
  · have : i = n := by omega
    subst this
    exact .inl ⟨k2 (Nat.le_refl _), hd _ p⟩
end
end NX
namespace NX
open PySem PySem.Spec PyProof.Rows L2
/-! ### pieces: what unlike rows begin with, the longest of these -/
def Pg (S : List (List Nat)) (p q : Nat) (x : List Nat) : Prop := S.getD p [] ≠ S.getD q [] ∧ 0 < cpl (S.getD p []) (S.getD q []) ∧ x = (S.getD p []).take (cpl (S.getD p []) (S.getD q []))
def IsPc (S : List (List Nat)) (x : List Nat) : Prop := ∃ a ∈ S, ∃ b ∈ S, a ≠ b ∧ 0 < cpl a b ∧ x = a.take (cpl a b)
theorem IsPc.congr {S S' : List (List Nat)} (h : ∀ w, w ∈ S ↔ w ∈ S') {x : List Nat} : IsPc S x ↔ IsPc S' x := by
  unfold IsPc
  constructor
  · rintro ⟨a, ha, b, hb, r⟩; exact ⟨a, (h a).mp ha, b, (h b).mp hb, r⟩
  · rintro ⟨a, ha, b, hb, r⟩; exact ⟨a, (h a).mpr ha, b, (h b).mpr hb, r⟩
def MaxPc (S : List (List Nat)) (x : List Nat) : Prop := IsPc S x ∧ ∀ y, IsPc S y → y ≠ x → ¬ x <+: y
theorem MaxPc.congr {S S' : List (List Nat)} (h : ∀ w, w ∈ S ↔ w ∈ S') {x : List Nat} : MaxPc S x ↔ MaxPc S' x := by
  unfold MaxPc
  exact and_congr (IsPc.congr h) (forall_congr' fun y => by rw [IsPc.congr h])
def IsPcs (S ps : List (List Nat)) : Prop := ps.Nodup ∧ sortedS (ps.map mkS) = true ∧ ∀ x, x ∈ ps ↔ MaxPc S x
theorem IsPcs.uniq {S S' ps qs : List (List Nat)} (h1 : IsPcs S ps) (h2 : IsPcs S' qs) (h : ∀ w, w ∈ S ↔ w ∈ S') : ps = qs := by
  have hp : ps.Perm qs := by
    rw [List.perm_ext_iff_of_nodup h1.1 h2.1]
    exact fun x => (h1.2.2 x).trans ((MaxPc.congr h).trans (h2.2.2 x).symm)
  have := sorted_uniq (hp.map mkS) h1.2.1 h2.2.1
  exact List.map_inj_right (fun _ _ => mkS_inj) |>.mp this
/-- what a turn of both loops has found -/
def FdAt (S : List (List Nat)) (i k : Nat) (x : List Nat) : Prop := (∃ p q, p < i ∧ q < p ∧ Pg S p q x) ∨ ∃ q, q < k ∧ Pg S i q x
theorem FdAt.zero {S : List (List Nat)} {x : List Nat} : ¬ FdAt S 0 0 x := by
  rintro (⟨p, q, h, _⟩ | ⟨q, h, _⟩) <;> omega
theorem FdAt.next {S : List (List Nat)} {i k : Nat} {x : List Nat} : FdAt S i (k + 1) x ↔ FdAt S i k x ∨ Pg S i k x := by
  unfold FdAt
  constructor
  · rintro (h | ⟨q, hq, h⟩)
    · exact .inl (.inl h)
    · by_cases e : q = k
      · subst e; exact .inr h
      · exact .inl (.inr ⟨q, by omega, h⟩)
  · rintro ((h | ⟨q, hq, h⟩) | h)
    · exact .inl h
    · exact .inr ⟨q, by omega, h⟩
    · exact .inr ⟨k, by omega, h⟩
theorem FdAt.row {S : List (List Nat)} {i : Nat} {x : List Nat} : FdAt S i i x ↔ FdAt S (i + 1) 0 x := by
  unfold FdAt
  constructor
  · rintro (⟨p, q, h1, h2, h⟩ | ⟨q, hq, h⟩)
    · exact .inl ⟨p, q, by omega, h2, h⟩
    · exact .inl ⟨i, q, by omega, hq, h⟩
  · rintro (⟨p, q, h1, h2, h⟩ | ⟨q, hq, h⟩)
    · by_cases e : p = i
      · subst e; exact .inr ⟨q, h2, h⟩
      · exact .inl ⟨p, q, by omega, h2, h⟩
    · omega
theorem cpl_take : ∀ a b : List Nat, a.take (cpl a b) = b.take (cpl a b)
  | [], [] => rfl
  | [], _ :: _ => rfl
  | _ :: _, [] => rfl
  | a :: l, b :: m => by
    unfold cpl
    split
    · rename_i e
      rw [List.take_succ_cons, List.take_succ_cons, cpl_take l m, e]
    · rfl
theorem FdAt.all {S : List (List Nat)} {x : List Nat} : FdAt S S.length 0 x ↔ IsPc S x := by
  constructor
  · rintro (⟨p, q, h1, h2, h⟩ | ⟨q, hq, h⟩)
    · exact ⟨_, getD_memL h1, _, getD_memL (show q < S.length by omega), h⟩
    · omega
  · rintro ⟨a, ha, b, hb, hne, hc, hx⟩
    obtain ⟨p, hp, rfl⟩ := List.getElem_of_mem ha
    obtain ⟨q, hq, rfl⟩ := List.getElem_of_mem hb
    rw [← getD_el (d := []) hp, ← getD_el (d := []) hq] at *
    rcases Nat.lt_trichotomy p q with h | h | h
    · exact .inl ⟨q, p, hq, h, hne.symm, by rw [cpl_comm]; exact hc, by rw [hx, cpl_take, cpl_comm]⟩
    · subst h; exact absurd rfl hne
    · exact .inl ⟨p, q, hp, h, hne, hc, hx⟩
/-! ### a dict whose keys are texts, all of one worth -/
def kvT (L : List (List Nat)) : List (L2.Key × V) := L.map fun l => (Sum.inr (mkS l), V.bl true)
theorem kvT_put (L : List (List Nat)) (l : List Nat) : putK (kvT L) (Sum.inr (mkS l)) (.bl true) = kvT (if l ∈ L then L else L ++ [l]) := by
  unfold putK kvT
  by_cases h : l ∈ L
  · rw [if_pos h, if_pos ?_]
    · rw [List.map_map]
      refine List.map_congr_left fun x _ => ?_
      simp only [Function.comp]
      split <;> rfl
    · rw [List.any_eq_true]
      exact ⟨_, List.mem_map.mpr ⟨l, h, rfl⟩, decide_eq_true rfl⟩
  · rw [if_neg h, if_neg ?_]
    · rw [List.map_append]; rfl
    · rw [List.any_eq_true]
      rintro ⟨kv, hkv, e⟩
      obtain ⟨x, hx, rfl⟩ := List.mem_map.mp hkv
      have := mkS_inj (Sum.inr.inj (of_decide_eq_true e))
      exact h (this ▸ hx)
theorem kvT_keys (L : List (List Nat)) : ((kvT L).map fun kv => kV kv.1) = L.map T := by
  unfold kvT
  rw [List.map_map]
  exact List.map_congr_left fun _ _ => rfl
theorem putL_nodup {L : List (List Nat)} {l : List Nat} (h : L.Nodup) : (if l ∈ L then L else L ++ [l]).Nodup := by
  split
  · exact h
  · rename_i hn
    rw [List.nodup_append]
    exact ⟨h, by simp, fun a ha b hb => by rw [List.mem_singleton.mp hb]; exact fun e => hn (e ▸ ha)⟩
theorem putL_mem {L : List (List Nat)} {l x : List Nat} : x ∈ (if l ∈ L then L else L ++ [l]) ↔ x ∈ L ∨ x = l := by
  split
  · rename_i h
    exact ⟨.inl, fun z => z.elim id fun e => e ▸ h⟩
  · rw [List.mem_append, List.mem_singleton]
theorem putL_len {L : List (List Nat)} {l : List Nat} : (if l ∈ L then L else L ++ [l]).length ≤ L.length + 1 := by
  split
  · omega
  · rw [List.length_append, List.length_singleton]; omega
theorem flat_lenK {α β : Type} {f : α → List β} {m : Nat} : ∀ (l : List α), (∀ r ∈ l, (f r).length ≤ m) → (l.flatMap f).length ≤ m * l.length
  | [], _ => by simp
  | a :: l, h => by
    have h1 := flat_lenK l fun r hr => h r (List.mem_cons_of_mem _ hr)
    have h2 := h a (List.mem_cons_self ..)
    rw [List.flatMap_cons, List.length_append, List.length_cons, Nat.mul_succ]
    omega
theorem rising_of : ∀ {l : List Str} {p : Str}, (p :: l).Pairwise (fun a b : Str => a.cps.toList ≤ b.cps.toList) → risingS p l = true
  | [], _, _ => rfl
  | x :: r, p, h => by
    rw [List.pairwise_cons] at h
    show (!ltCps x.cps.toList p.cps.toList && risingS x r) = true
    rw [rising_of h.2, Bool.and_true, ltCps_eq]
    have := List.not_lt.mpr (h.1 x (List.mem_cons_self ..))
    simpa using this
theorem sortedS_of {l : List Str} (h : l.Pairwise (fun a b : Str => a.cps.toList ≤ b.cps.toList)) : sortedS l = true := by
  cases l with
  | nil => rfl
  | cons p r => exact rising_of h
theorem sortedS_sub {l m : List Str} (h : l.Sublist m) (hs : sortedS m = true) : sortedS l = true := sortedS_of ((sorted_pw _ hs).sublist h)
/-! ### one text ahead of another -/
theorem starts_mk (l m : List Nat) : Txt.startswith (mkS l) (mkS m) = decide (m <+: l) := by
  unfold Txt.startswith
  rw [StrLaws.subAt_eq, Bool.eq_iff_iff, decide_eq_true_eq, Bool.and_eq_true, decide_eq_true_eq, beq_iff_eq, mkS_len, mkS_len]
  show 0 + m.length ≤ l.length ∧ (l.drop 0).take m.length = m ↔ m <+: l
  rw [List.drop_zero, List.prefix_iff_eq_take]
  exact ⟨fun h => h.2.symm, fun h => ⟨by have := congrArg List.length h; rw [List.length_take] at this; omega, h.symm⟩⟩
theorem fm_ifnot (c : List Nat → Bool) : ∀ zs : List (List Nat), (zs.filterMap fun z => if c z = true then none else some (T z)) = (zs.filter fun z => !c z).map T
  | [] => rfl
  | z :: zs => by
    rw [List.filterMap_cons, List.filter_cons]
    cases e : c z with
    | true => simp [fm_ifnot c zs]
    | false => simp [fm_ifnot c zs]
/-- what is left of a sorted list of all pieces -/
theorem pcs_of {S L zs : List (List Nat)} (hn : L.Nodup) (hp : zs.Perm L) (hs : sortedS (zs.map mkS) = true) (hm : ∀ z, z ∈ L ↔ IsPc S z) :
    IsPcs S (zs.filter fun z => !(zs.any fun o => decide (o ≠ z) && decide (z <+: o))) := by
  refine ⟨(hp.nodup_iff.mpr hn).sublist List.filter_sublist, ?_, fun x => ?_⟩
  · have := (List.filter_sublist (p := fun z => !(zs.any fun o => decide (o ≠ z) && decide (z <+: o))) (l := zs)).map mkS
    exact sortedS_sub this hs
  · rw [List.mem_filter, hp.mem_iff, hm]
    unfold MaxPc
    refine and_congr_right fun _ => ?_
    rw [Bool.not_eq_true', List.any_eq_false]
    constructor
    · intro h y hy hne hpre
      have := h y (hp.mem_iff.mpr ((hm y).mpr hy))
      simp [hne, hpre] at this
    · intro h y hy
      rw [Bool.and_eq_true, decide_eq_true_eq, decide_eq_true_eq]
      rintro ⟨h1, h2⟩
      exact h y ((hm y).mp (hp.mem_iff.mp hy)) h1 h2
theorem pcs_of2 {S L zs : List (List Nat)} (hn : L.Nodup) (hp : zs.Perm (L.filter fun z => decide ((L.filter fun o => decide (o ≠ z) && decide (o.take z.length = z)) = []))) (hs : sortedS (zs.map mkS) = true) (hm : ∀ z, z ∈ L ↔ IsPc S z) : IsPcs S zs := by
  refine ⟨hp.nodup_iff.mpr (hn.sublist List.filter_sublist), hs, fun x => ?_⟩
  rw [hp.mem_iff, List.mem_filter, hm]
  unfold MaxPc
  refine and_congr_right fun _ => ?_
  rw [decide_eq_true_eq, List.filter_eq_nil_iff]
  constructor
  · intro h y hy hne hpre
    have := h y ((hm y).mpr hy)
    rw [List.prefix_iff_eq_take] at hpre
    simp [hne, ← hpre] at this
  · intro h y hy
    rw [Bool.and_eq_true, decide_eq_true_eq, decide_eq_true_eq]
    rintro ⟨h1, h2⟩
    exact h y ((hm y).mp hy) h1 (List.prefix_iff_eq_take.mpr h2.symm)
theorem nodup_sub_len {α : Type} [DecidableEq α] : ∀ (l D : List α), l.Nodup → (∀ x ∈ l, x ∈ D) → l.length ≤ D.length
  | [], _, _, _ => Nat.zero_le _
  | x :: l, D, hn, hs => by
    obtain ⟨h1, h2⟩ := List.nodup_cons.mp hn
    have hx : x ∈ D := hs x List.mem_cons_self
    have ih := nodup_sub_len l (D.erase x) h2 fun y hy => by
      have hne : y ≠ x := fun e => h1 (e ▸ hy)
      exact (List.mem_erase_of_ne hne).2 (hs y (List.mem_cons_of_mem _ hy))
    have e := List.length_erase_of_mem hx
    have hp : 0 < D.length := List.length_pos_of_mem hx
    rw [List.length_cons]
    omega
theorem pcs_len {S ps : List (List Nat)} (h : IsPcs S ps) (hS : ∀ w ∈ S, w.length ≤ 40 ∧ Asc w) (hl : S.length ≤ 480) : ps.length ≤ 19680 ∧ ∀ z ∈ ps, z.length ≤ 40 ∧ Asc z := by
  have hz : ∀ z ∈ ps, ∃ a ∈ S, ∃ n, n < 41 ∧ z = a.take n := fun z hz => by
    obtain ⟨⟨a, ha, b, hb, _, _, e⟩, _⟩ := (h.2.2 z).mp hz
    have := (cpl_le a b).1
    have := (hS a ha).1
    exact ⟨a, ha, _, by omega, e⟩
  refine ⟨?_, fun z hz' => ?_⟩
  · have h1 := nodup_sub_len ps (S.flatMap fun a => (List.range 41).map fun n => a.take n) h.1 fun z hz' => by
      obtain ⟨a, ha, n, hn, rfl⟩ := hz z hz'
      exact List.mem_flatMap.mpr ⟨a, ha, List.mem_map.mpr ⟨n, List.mem_range.mpr hn, rfl⟩⟩
    have h2 := flat_lenK (f := fun a : List Nat => (List.range 41).map fun n => a.take n) (m := 41) S fun a _ => by rw [List.length_map, List.length_range]; omega
    omega
  · obtain ⟨a, ha, n, hn, rfl⟩ := hz z hz'
    exact ⟨by rw [List.length_take]; have := (hS a ha).1; omega, fun c hc => (hS a ha).2 c (List.mem_of_mem_take hc)⟩
theorem lsAll_T : ∀ rs : List (List Nat), (∀ r ∈ rs, Asc r) → PyData.leavesShortAll 8 (rs.map fun r => PyData.str (mkS r)) = true
  | [], _ => by simp only [List.map_nil, PyData.leavesShortAll]
  | r :: rs, h => by
    have h1 : ((mkS r).cps.toList.all fun c => decide (c < 16 ^ 8)) = true := by
      rw [List.all_eq_true]
      intro c hc
      have := h r (List.mem_cons_self ..) c (by simpa [mkS] using hc)
      have e : (16 : Nat) ^ 8 = 4294967296 := by decide
      exact decide_eq_true (by omega)
    simp only [List.map_cons, PyData.leavesShortAll, PyData.leavesShort, lsAll_T rs fun z hz => h z (List.mem_cons_of_mem _ hz), h1, Bool.and_self]
theorem bulk_T : ∀ rs : List (List Nat), (∀ r ∈ rs, r.length ≤ 40) → PyData.bulkAll (rs.map fun r => PyData.str (mkS r)) ≤ 41 * rs.length
  | [], _ => by simp only [List.map_nil, PyData.bulkAll, List.length_nil]; omega
  | r :: rs, h => by
    have h1 := bulk_T rs fun z hz => h z (List.mem_cons_of_mem _ hz)
    have h2 := h r (List.mem_cons_self ..)
    have h3 : (mkS r).cps.size = r.length := by simp [mkS]
    simp only [List.map_cons, PyData.bulkAll, PyData.bulk, List.length_cons, h3]
    omega
abbrev dTl (rs : List (List Nat)) : PyData := .list (rs.map fun r => PyData.str (mkS r))
theorem r_reprLT {K : PySem.W.Frag} {H : Hp} {Q : VK} {p : Addr} {rs : List (List Nat)} (e : SqL K H p (rs.map T)) (hl : rs.length ≤ 19680) (hr : ∀ r ∈ rs, r.length ≤ 40 ∧ Asc r) (h : Q (.str (dTl rs).shown) H) : rReprD K [.ref p] H Q := by
  refine .inr ⟨p, dTl rs, rfl, dp_all (dpAll_T rs) e, ?_, ?_, ?_, ?_, h⟩
  · simp only [PyData.showable]; exact shAll_T rs
  · simp only [PyData.hasDict]; exact hdAll_T rs
  · simp only [PyData.depth]; have := deAll_T rs; omega
  · have h1 := PyData.shown_le_bulk 8 (by decide) (dTl rs) (by simp only [PyData.leavesShort]; exact lsAll_T rs fun l hl => (hr l hl).2)
    have h2 := bulk_T rs fun l hl => (hr l hl).1
    have h3 : (dTl rs).bulk = PyData.bulkAll (rs.map fun r => PyData.str (mkS r)) := by simp only [PyData.bulk]
    have e : sizeLine = 16777216 := sizeLine_eq
    omega
end NX
namespace NX
open PySem PySem.Spec PyProof.Rows L2
/-! ### how often a sign stands in a text -/
theorem occ_one_len (x : Str) (c hi limit : Nat) : ∀ (m k : Nat) (st : Array Nat × Nat), st.snd ≤ k → st.fst.size + m ≤ limit →
    (forIn (List.range' k m) st (StrLaws.occBody x ⟨#[c]⟩ hi limit)).run.fst.size = st.fst.size + ((List.range' k m).filter fun i => decide (i + 1 ≤ hi) && Builtin.Str.subAt x ⟨#[c]⟩ i).length
  | 0, k, st, _, _ => by simp
  | m + 1, k, st, h1, h2 => by
    rw [List.range'_succ, List.forIn_cons, List.filter_cons]
    have e1 : (⟨#[c]⟩ : Str).length = 1 := rfl
    by_cases hc : k + 1 ≤ hi ∧ Builtin.Str.subAt x ⟨#[c]⟩ k = true
    · have c1 : ((st.fst.size < limit ∧ st.snd ≤ k) ∧ k + (⟨#[c]⟩ : Str).length ≤ hi) ∧ Builtin.Str.subAt x ⟨#[c]⟩ k = true := ⟨⟨⟨by omega, h1⟩, by rw [e1]; exact hc.1⟩, hc.2⟩
      unfold StrLaws.occBody
      rw [if_pos c1]
      rw [if_pos (by rw [decide_eq_true hc.1, hc.2]; rfl)]
      have ih := occ_one_len x c hi limit m (k + 1) (st.fst.push k, k + (⟨#[c]⟩ : Str).length) (by rw [e1]; omega) (by rw [Array.size_push]; omega)
      rw [Array.size_push] at ih
      rw [List.length_cons]
      have : (forIn (List.range' (k + 1) m) (st.fst.push k, k + (⟨#[c]⟩ : Str).length) (StrLaws.occBody x ⟨#[c]⟩ hi limit)).run.fst.size = st.fst.size + (((List.range' (k + 1) m).filter fun i => decide (i + 1 ≤ hi) && Builtin.Str.subAt x ⟨#[c]⟩ i).length + 1) := by
        rw [ih]; omega
      exact this
    · have c2 : ¬ (((st.fst.size < limit ∧ st.snd ≤ k) ∧ k + (⟨#[c]⟩ : Str).length ≤ hi) ∧ Builtin.Str.subAt x ⟨#[c]⟩ k = true) := fun z => hc ⟨by have := z.1.2; rw [e1] at this; exact this, z.2⟩
      unfold StrLaws.occBody
      rw [if_neg c2]
      rw [if_neg (by intro z; rw [Bool.and_eq_true, decide_eq_true_eq] at z; exact hc z)]
      exact occ_one_len x c hi limit m (k + 1) (st.fst, st.snd) (by show st.snd ≤ k + 1; omega) (by show st.fst.size + m ≤ limit; omega)
theorem filter_count (c : Nat) : ∀ (l : List Nat) (k : Nat) (p : Nat → Bool), (∀ i, i < l.length → p (k + i) = decide (l.getD i 0 = c)) → ((List.range' k l.length).filter p).length = l.count c
  | [], k, p, _ => by simp
  | a :: l, k, p, h => by
    have ih := filter_count c l (k + 1) p fun i hi => by
      have := h (i + 1) (by rw [List.length_cons]; omega)
      rw [show k + (i + 1) = k + 1 + i by omega] at this
      rw [this]; rfl
    have h0 := h 0 (by rw [List.length_cons]; omega)
    rw [Nat.add_zero] at h0
    rw [List.length_cons, List.range'_succ, List.filter_cons, h0, List.count_cons]
    by_cases e : a = c
    · rw [if_pos (decide_eq_true (show (a :: l).getD 0 0 = c from e)), List.length_cons, ih, if_pos (by simp [e])]
    · rw [if_neg (by rw [decide_eq_true_eq]; exact e), ih, if_neg (by simp [e])]; rfl
theorem count_one (l : List Nat) (c : Nat) : Txt.count (mkS l) (mkS [c]) = ((l.count c : Nat) : Int) := by
  unfold Txt.count
  rw [StrLaws.occ_eq, Array.length_toList]
  have e0 : mkS [c] = (⟨#[c]⟩ : Str) := rfl
  have hn : (mkS l).length = l.length := mkS_len l
  rw [e0, hn, occ_one_len (mkS l) c l.length (l.length + 1) (l.length + 1 - 0) 0 (#[], 0) (Nat.le_refl _) (by simp), show l.length + 1 - 0 = l.length + 1 by omega, List.range'_concat]
  have h1 := filter_count c l 0 (fun i => decide (i + 1 ≤ l.length) && Builtin.Str.subAt (mkS l) ⟨#[c]⟩ i) fun i hi => by
    rw [Nat.zero_add, decide_eq_true (by omega), Bool.true_and, StrLaws.subAt_eq]
    have e1 : (mkS l).cps.toList = l := by simp [mkS]
    have e2 : (⟨#[c]⟩ : Str).length = 1 := rfl
    rw [e1, e2, Bool.eq_iff_iff, beq_iff_eq, decide_eq_true_eq, List.drop_eq_getElem_cons hi, List.take_succ_cons, List.take_zero]
    rw [show l.getD i 0 = l[i] by rw [List.getD_eq_getElem?_getD, List.getElem?_eq_getElem hi]; rfl]
    simp
  rw [List.filter_append, List.length_append, h1, List.filter_cons, if_neg (by
    rw [Bool.and_eq_true, decide_eq_true_eq]
    rintro ⟨h, _⟩
    omega)]
  simp
end NX
namespace NX
open PySem PySem.Spec PyProof.Rows L2
/-! ### repr of a tuple of numbers -/
theorem int_shown {i : Int} (h : i.natAbs.log2 < 1920) : (PyData.shown (.int i)).length ≤ 1921 := by
  have := int_text_length_le (k := 1920) (by decide) h
  simp only [PyData.shown]
  show (Str.ofString (toString i)).length ≤ 1921
  rw [PySem.ofString_length]; omega
theorem lsAll_J : ∀ l : List Int, (∀ i ∈ l, i.natAbs.log2 < 1920) → PyData.leavesShortAll 1921 (l.map PyData.int) = true
  | [], _ => by simp only [List.map_nil, PyData.leavesShortAll]
  | i :: l, h => by
    have h1 := int_shown (h i (List.mem_cons_self ..))
    simp only [List.map_cons, PyData.leavesShortAll, PyData.leavesShort, lsAll_J l fun z hz => h z (List.mem_cons_of_mem _ hz), Bool.and_true, decide_eq_true_eq]
    exact h1
theorem shAll_J : ∀ l : List Int, (∀ i ∈ l, i.natAbs.log2 < 1920) → PyData.showableAll (l.map PyData.int) = true
  | [], _ => by simp only [List.map_nil, PyData.showableAll]
  | i :: l, h => by
    simp only [List.map_cons, PyData.showableAll, PyData.showable, shAll_J l fun z hz => h z (List.mem_cons_of_mem _ hz), Bool.and_true, decide_eq_true_eq]
    exact h i (List.mem_cons_self ..)
theorem r_reprI {K : PySem.W.Frag} {H : Hp} {Q : VK} {p : Addr} {l : List Int} (e : SqT K H p (l.map V.int)) (hr : ∀ i ∈ l, i.natAbs.log2 < 1920) (hl : l.length ≤ 1000) (h : Q (.str (dIs l).shown) H) : rReprD K [.ref p] H Q := by
  refine .inr ⟨p, dIs l, rfl, .tup e (dpAll_ints _), ?_, ?_, ?_, ?_, h⟩
  · simp only [PyData.showable]; exact shAll_J l hr
  · simp only [PyData.hasDict]; exact hdAll_I l
  · simp only [PyData.depth]; have := depth_ints l; omega
  · have h1 := PyData.shown_le_bulk 1921 (by decide) (dIs l) (by simp only [PyData.leavesShort]; exact lsAll_J l hr)
    have h2 := bulk_I l
    have h3 : (dIs l).bulk = PyData.bulkAll (l.map PyData.int) := by simp only [PyData.bulk]
    rw [h2] at h3
    have e : sizeLine = 16777216 := sizeLine_eq
    omega
end NX
namespace NX
open PySem PySem.Spec PyProof.Rows L2
/-! ### sums of rows -/
def sumsL (a l : List Nat) : List Int := a.map fun c => (l.count c : Int) - (l.count (up1 c) : Int)
theorem fm_cnt (l : List Nat) (c : Nat) : (l.filterMap (fun b => if decide (b = c) = true then some (T [b]) else none)).length = l.count c := by
  induction l with
  | nil => rfl
  | cons b l ih =>
    rw [List.filterMap_cons, List.count_cons]
    by_cases e : b = c
    · rw [if_pos (decide_eq_true e), if_pos (by simp [e])]
      show (T [b] :: _).length = _
      rw [List.length_cons, ih]
    · rw [if_neg (by rw [decide_eq_false e]; decide), ih]
      simp [e]
/-- a value that is no row of some letters -/
def NRo (K : PySem.W.Frag) (H : Hp) (a : List Nat) (v : V) : Prop := (∃ l, v = T l ∧ l.length ≤ 5000 ∧ ¬ RowOf a l) ∨ NotS K H v
theorem NRo.same {K : PySem.W.Frag} {H H' : Hp} {a : List Nat} {v : V} (h : NRo K H a v) (s : Same H H') : NRo K H' a v := h.imp id fun h => h.same s
end NX
namespace NX
open PySem PySem.Spec PyProof.Rows L2
/-! ### sorted of a text -/
def sgn1 (x : Str) : List Str := x.cps.toList.map fun c => (⟨#[c]⟩ : Str)
def rSortedX : List V → Hp → VK → Prop := fun vs H Q => ∃ (x : Str), vs = [V.str x] ∧ x.cps.size ≤ sizeLine ∧ ∀ (ys : List Str) (p : Addr), ys.Perm (sgn1 x) → sortedS ys = true → H p = none → Q (.ref p) (upd H p (.lst (ys.map V.str)))
theorem strs_of (l : List Nat) : ∀ vs : List Value, vs.length = l.length → (∀ (j : Nat) (c : Nat), l[j]? = some c → ∃ u, vs[j]? = some (.str ⟨#[c]⟩ u)) → StrsAre vs (l.map fun c => (⟨#[c]⟩ : Str)) := by
  induction l with
  | nil =>
    intro vs h _
    cases vs with
    | nil => exact .nil
    | cons _ _ => cases h
  | cons c l ih =>
    intro vs h hv
    cases vs with
    | nil => cases h
    | cons v vs =>
      obtain ⟨u, e⟩ := hv 0 c rfl
      simp only [List.getElem?_cons_zero, Option.some.injEq] at e
      subst e
      exact .cons _ _ (ih vs (by simpa using h) fun j d hd => by simpa using hv (j + 1) d (by simpa using hd))
theorem strs_signs {x : Str} {acc : Array Value} (h : ItemsOf (SignAt x) acc x.cps.size) : StrsAre acc.toList (sgn1 x) := by
  refine strs_of _ _ (by rw [Array.length_toList, Array.length_toList]; exact h.1) fun j c hc => ?_
  rw [Array.getElem?_toList] at hc
  have hj : j < acc.size := by
    rw [h.1]
    exact (Array.getElem?_eq_some_iff.mp hc).1
  obtain ⟨c2, u, e1, e2⟩ := h.2 j acc[j] (Array.getElem?_eq_getElem hj)
  rw [hc] at e1
  cases e1
  exact ⟨u, by rw [Array.getElem?_toList, Array.getElem?_eq_getElem hj, e2]⟩
theorem cr_sortedX {X : Cx} (hc : X.calm = true) : CallR X (.builtin "sorted") rSortedX := by
  intro pins s σ H vs us Q I r h
  obtain ⟨x, rfl, hx, q⟩ := h
  obtain ⟨t, rfl⟩ : ∃ t, us = [.str x t] := by
    cases r with
    | cons a r =>
      cases r
      obtain ⟨t, rfl⟩ := a
      exact ⟨t, rfl⟩
  refine Calls.call_function_entry kind_sorted plain_sorted entry_sorted (args_sorted1 _) ?_
  unfold Builtin.«sorted»
  refine wpAny_bind (m := checkCount "sorted" 1 1 _) (wpAny_pure ?_)
  refine wpAny_bind (wpAny_collect_str (show X.A.in1.handled = none from I.ok.hd hc) x t (fun s' acc hk hg hd ho hi => ?_) hx)
  have hst := strs_signs hi
  have hL : acc.toList.length ≤ sizeLine := by rw [Array.length_toList, hi.1]; exact hx
  refine wpAny_bind (wpAny_newList ?_)
  have hoL : (s'.heap.push (seqObj "list" acc.toList.toArray 0)).get? s'.heap.objs.size = some (seqObj "list" acc.toList.toArray 0) := Heap.get?_push_size _ rfl
  refine wpAny_bind (wpAny_holding (wpAny_call_entry slot_list_sort ⟨_, hoL, rfl⟩ entry_list_sort (list_sort_treeKAny strKind_oneLt hoL hst.keysOf (fun v₁ v₂ rest e => keyKind_strs (by rw [← e]; exact hst)) hL fun st' a1 a2 => ⟨_, rfl, ?_⟩) (args_list_sort _)))
  obtain ⟨ys, h1, h2, h3⟩ := sorted_out_str hst a1 a2
  have hs' : s' = { s with heap := s'.heap, toks := s'.toks } := by
    obtain ⟨hp', g', d', t', o'⟩ := s'
    cases hg; cases hd; cases ho; rfl
  have I1 : L2.Inv X pins σ H { s with heap := s'.heap, toks := s'.toks } := I.kept (t' := s'.toks) hk
  rw [← hs'] at I1
  have hlen : (ys.map V.str).length ≤ sizeLine := by
    rw [List.length_map, h2.length_eq]
    unfold sgn1
    rw [List.length_map, Array.length_toList]; exact hx
  have hold : ∀ b u, s'.heap.get? b = some u → (sortedHeap (s'.heap.push (seqObj "list" acc.toList.toArray 0)) s'.heap.objs.size acc.toList ((arrOf st').map (·.2))).get? b = some u := fun b u e => by
    have hlt : b < s'.heap.objs.size := Heap.lt_size e
    rw [sortedHeap_old (Nat.ne_of_lt hlt) (by rw [Heap.size_push]; exact Nat.lt_succ_of_lt hlt)]
    exact Heap.get?_push_of_some _ e
  obtain ⟨ep, he'⟩ := sortedHeap_at (out := (arrOf st').map (·.2)) hoL
  refine wpAny_pure ⟨_, rfl, .ref _, upd H s'.heap.objs.size (.lst (ys.map V.str)), ?_, rfl, q ys _ h2 h3 (I1.hok.fresh (Nat.le_refl _))⟩
  exact I1.laid (t' := s'.toks) hold (Nat.le_refl _) ⟨hlen, _, ep, vals_of_strs h1, he'⟩
theorem r_sortX {H : Hp} {Q : VK} {l : List Nat} (hl : l.length ≤ 16777216) (h : ∀ (zs : List Nat) (d : Addr), zs.Perm l → H d = none → Q (.ref d) (upd H d (.lst ((zs.map fun c => [c]).map T)))) : rSortedX [T l] H Q := by
  refine ⟨mkS l, rfl, by rw [sizeLine_eq]; show (mkS l).length ≤ _; rw [mkS_len]; exact hl, fun ys p hp hs np => ?_⟩
  have e1 : sgn1 (mkS l) = (l.map fun c => [c]).map mkS := by
    unfold sgn1
    rw [List.map_map, show (mkS l).cps.toList = l by simp [mkS]]; rfl
  rw [e1] at hp
  obtain ⟨us, rfl⟩ : ∃ us : List (List Nat), ys = us.map mkS := ⟨ys.map fun s => s.cps.toList, by
    rw [List.map_map]
    conv => lhs; rw [← List.map_id ys]
    exact List.map_congr_left fun s _ => by cases s; rfl⟩
  have hp2 : us.Perm (l.map fun c => [c]) := by
    have := hp.map fun s : Str => s.cps.toList
    rw [List.map_map, List.map_map] at this
    have e : ∀ w : List (List Nat), w.map ((fun s : Str => s.cps.toList) ∘ mkS) = w := fun w => by
      conv => rhs; rw [← List.map_id w]
      exact List.map_congr_left fun z _ => by simp [mkS]
    rwa [e, e] at this
  obtain ⟨zs, rfl⟩ := ones_of us fun u hu => by
    obtain ⟨c, _, rfl⟩ := List.mem_map.mp (hp2.mem_iff.mp hu)
    exact ⟨c, rfl⟩
  have := h zs p (one_perm hp2) np
  rw [List.map_map (g := V.str)]
  exact this
theorem cr_sortedXK {X : Cx} (K : PySem.W.Frag) (hK : X.K = K := by rfl) (hc : X.calm = true := by rfl) : CallR X (.builtin "sorted") (fun xs H Q => rSortedX xs H Q ∨ rSortedG K xs H Q) := by
  intro pins s σ H vs us Q I r h
  rcases h with h | h
  · exact cr_sortedX hc pins s σ H vs us Q I r h
  · exact cr_sortedGK K hK pins s σ H vs us Q I r h
end NX
namespace NX
open PySem PySem.Spec PyProof.Rows L2
/-! ### weights of rows: how often a letter stands there, less how often its back does -/
def wt (e : Nat) (l : List Nat) : Int := (l.count e : Int) - (l.count (up1 e) : Int)
theorem sumsL_wt (a l : List Nat) : sumsL a l = a.map fun e => wt e l := rfl
theorem wt_nil (e : Nat) : wt e [] = 0 := rfl
theorem wt_app (e : Nat) (l m : List Nat) : wt e (l ++ m) = wt e l + wt e m := by
  unfold wt
  rw [List.count_append, List.count_append]; omega
theorem wt_cons (e c : Nat) (l : List Nat) : wt e (c :: l) = wt e [c] + wt e l := wt_app e [c] l
theorem wt_perm {e : Nat} {l m : List Nat} (h : l.Perm m) : wt e l = wt e m := by
  unfold wt
  rw [h.count_eq, h.count_eq]
theorem wt_one (e c : Nat) : wt e [c] = (if c = e then 1 else 0) - (if c = up1 e then 1 else 0) := by
  unfold wt
  simp only [List.count_cons, List.count_nil, beq_iff_eq]
  split <;> split <;> simp
theorem up1_low {e : Nat} (he : 97 ≤ e ∧ e ≤ 122) : up1 e = e - 32 := by
  unfold up1; rw [if_pos he]
theorem wt_swp {e c : Nat} (he : 97 ≤ e ∧ e ≤ 122) (hc : lett c = true) : wt e [swp c] = - wt e [c] := by
  rw [wt_one, wt_one, up1_low he]
  rw [lett_iff] at hc
  have h : (65 ≤ c ∧ c ≤ 90 ∧ swp c = c + 32) ∨ (97 ≤ c ∧ c ≤ 122 ∧ swp c = c - 32) := by
    unfold swp
    rcases hc with hc | hc
    · rw [if_pos hc]; exact .inl ⟨hc.1, hc.2, rfl⟩
    · rw [if_neg (by omega), if_pos hc]; exact .inr ⟨hc.1, hc.2, rfl⟩
  generalize swp c = d at h ⊢
  repeat' split
  all_goals omega
theorem wt_push {e : Nat} (he : 97 ≤ e ∧ e ≤ 122) {c : Nat} (hc : lett c = true) : ∀ s : List Nat, wt e (push s c) = wt e s + wt e [c]
  | [] => by rw [show push [] c = [c] from rfl, wt_nil]; omega
  | t :: r => by
    rw [push_cons]
    split
    · rename_i h
      subst h
      rw [wt_cons e (swp c) r, wt_swp he hc]; omega
    · rw [wt_cons]; omega
theorem wt_stk {e : Nat} (he : 97 ≤ e ∧ e ≤ 122) : ∀ (l s : List Nat), Row l → wt e (l.foldl push s) = wt e s + wt e l
  | [], s, _ => by rw [wt_nil]; show wt e s = _; omega
  | c :: l, s, h => by
    obtain ⟨h1, h2⟩ := h.of_cons
    rw [List.foldl_cons, wt_stk he l _ h2, wt_push he h1, wt_cons e c l]; omega
theorem wt_red {e : Nat} (he : 97 ≤ e ∧ e ≤ 122) {l : List Nat} (h : Row l) : wt e (red l) = wt e l := by
  unfold red
  rw [wt_perm (List.reverse_perm _)]
  unfold stk
  rw [wt_stk he l [] h, wt_nil]; omega
theorem wt_map_swp {e : Nat} (he : 97 ≤ e ∧ e ≤ 122) : ∀ l : List Nat, Row l → wt e (l.map swp) = - wt e l
  | [], _ => rfl
  | c :: l, h => by
    obtain ⟨h1, h2⟩ := h.of_cons
    rw [List.map_cons, wt_cons, wt_swp he h1, wt_map_swp he l h2, wt_cons e c l]; omega
theorem wt_bak {e : Nat} (he : 97 ≤ e ∧ e ≤ 122) {l : List Nat} (h : Row l) : wt e (bak l) = - wt e l := by
  unfold bak
  rw [wt_map_swp he _ h.rev, wt_perm (List.reverse_perm _)]
theorem sumsL_congr {a l m : List Nat} (h : ∀ e ∈ a, wt e l = wt e m) : sumsL a l = sumsL a m := List.map_congr_left h
theorem sumsL_perm {a l m : List Nat} (h : l.Perm m) : sumsL a l = sumsL a m := sumsL_congr fun _ _ => wt_perm h
theorem sumsL_red {a l : List Nat} (ha : Al a) (h : Row l) : sumsL a (red l) = sumsL a l := sumsL_congr fun e he => wt_red (ha.2.2.1 e he) h
theorem sumsL_bak {a l : List Nat} (ha : Al a) (h : Row l) : sumsL a (bak l) = (sumsL a l).map fun i => -i := by
  rw [sumsL_wt, sumsL_wt, List.map_map]
  exact List.map_congr_left fun e he => wt_bak (ha.2.2.1 e he) h
theorem sumsL_len (a l : List Nat) : (sumsL a l).length = a.length := by unfold sumsL; rw [List.length_map]
theorem sumsL_at {a l : List Nat} {i : Nat} (h : i < a.length) : (sumsL a l).getD i 0 = wt (a.getD i 0) l := by
  rw [sumsL_wt, List.getD_eq_getElem?_getD, List.getElem?_map, List.getElem?_eq_getElem h, getD_el h]; rfl
theorem sumsL_add (a l m : List Nat) : (List.range a.length).map (fun i => (sumsL a l).getD i 0 + (sumsL a m).getD i 0) = sumsL a (l ++ m) := by
  apply List.ext_getElem
  · rw [List.length_map, List.length_range, sumsL_len]
  · intro i h1 h2
    rw [List.length_map, List.length_range] at h1
    rw [List.getElem_map, List.getElem_range, sumsL_at h1, sumsL_at h1, ← getD_el (d := 0) h2, sumsL_at h1, wt_app]
theorem wt_abs (e : Nat) (l : List Nat) : (wt e l).natAbs ≤ l.length := by
  unfold wt
  have h1 := List.count_le_length (a := e) (l := l)
  have h2 := List.count_le_length (a := up1 e) (l := l)
  omega
theorem sumsL_abs {a l : List Nat} : ∀ i ∈ sumsL a l, i.natAbs ≤ l.length := fun i hi => by
  rw [sumsL_wt] at hi
  obtain ⟨e, _, rfl⟩ := List.mem_map.mp hi
  exact wt_abs e l
theorem sumsL_nil (a : List Nat) : sumsL a [] = List.replicate a.length 0 := by
  rw [List.eq_replicate_iff]
  refine ⟨sumsL_len a [], fun i hi => ?_⟩
  have := sumsL_abs i hi
  simp only [List.length_nil] at this
  omega
theorem wt_rep (e c : Nat) : ∀ n, wt e (List.replicate n c) = n * wt e [c]
  | 0 => by simp [wt_nil]
  | n + 1 => by rw [List.replicate_succ, wt_cons, wt_rep e c n, Int.natCast_add, Int.add_mul]; simp [Int.add_comm]
theorem sumsL_first {a : List Nat} (ha : Al a) (n : Nat) : sumsL a (List.replicate n (a.getD 0 0)) = (List.range a.length).map fun k => (n : Int) * (if k = 0 then 1 else 0) := by
  apply List.ext_getElem
  · rw [List.length_map, List.length_range, sumsL_len]
  · intro i h1 h2
    rw [List.length_map, List.length_range] at h2
    rw [← getD_el (d := 0) h1, sumsL_at h2, List.getElem_map, List.getElem_range, wt_rep, wt_one]
    have hl := ha.1
    have e0 := ha.2.2.1 _ (getD_mem (show 0 < a.length by omega))
    have ei := ha.2.2.1 _ (getD_mem h2)
    rw [if_neg (show ¬ a.getD 0 0 = up1 (a.getD i 0) by rw [up1_low ei]; omega)]
    by_cases c : i = 0
    · subst c
      rw [if_pos rfl, if_pos rfl]; rfl
    · have := ha.lt (show 0 < i by omega) h2
      rw [if_neg (by omega), if_neg c]; rfl
end NX
namespace NX
theorem push_in {P : Nat → Prop} {s : List Nat} {c : Nat} (hs : ∀ d ∈ s, P d) (hc : P c) : ∀ d ∈ push s c, P d := by
  cases s with
  | nil => intro d hd; rw [List.mem_singleton.mp hd]; exact hc
  | cons t r =>
    rw [push_cons]
    split
    · exact fun d hd => hs d (List.mem_cons_of_mem _ hd)
    · intro d hd
      rcases List.mem_cons.mp hd with rfl | hd
      · exact hc
      · exact hs d hd
theorem foldl_in {P : Nat → Prop} : ∀ (l s : List Nat), (∀ d ∈ l, P d) → (∀ d ∈ s, P d) → ∀ d ∈ l.foldl push s, P d
  | [], _, _, hs => hs
  | c :: l, _, hl, hs => foldl_in l _ (fun d hd => hl d (List.mem_cons_of_mem _ hd)) (push_in hs (hl c List.mem_cons_self))
theorem red_in {P : Nat → Prop} {l : List Nat} (h : ∀ d ∈ l, P d) : ∀ d ∈ red l, P d := fun d hd => foldl_in l [] h (fun _ z => nomatch z) d (List.mem_reverse.mp hd)
theorem rowOf_red {a l : List Nat} (h : RowOf a l) : RowOf a (red l) := red_in h
theorem flat_one {α : Type} (x : α) : ∀ n, (List.replicate n [x]).flatten = List.replicate n x
  | 0 => rfl
  | n + 1 => by rw [List.replicate_succ, List.flatten_cons, flat_one x n, List.replicate_succ]; rfl
end NX
namespace NX
open PySem PySem.Spec PyProof.Rows L2
/-! ### a, *b = a list -/
section
variable {X : Cx} {pos p2 : Pos}
theorem pgs_starT {e : Expr} {es : List Expr} {t : TG} {u : TGs} (h1 : PG X e t) (h2 : PGs X es u)
    (hs : (assignEach (.Starred e p2 :: es) X.env).map (·.2) = assign e X.env :: (assignEach es X.env).map (·.2) := by rfl) : PGs X (.Starred e p2 :: es) (gCons t u) where
  run := by
    intro pins s σ H vs us Q I r h
    obtain ⟨v, vr, rfl, h⟩ := h
    cases r with
    | cons r rr =>
      rw [hs]
      refine assignInOrder_cons (thn (h1.run pins s σ H v _ _ I r h) ?_)
      rintro _ s1 ⟨σ1, H1, I1, q1⟩
      exact h2.run pins s1 σ1 H1 vr _ Q I1 rr q1
def gLstStar (K : PySem.W.Frag) (t : TGs) : TG := fun v σ H Q => ∃ a x ys, v = .ref a ∧ SqL K H a (x :: ys) ∧ ∀ p, H p = none → t [x, .ref p] σ (upd H p (.lst ys)) Q
theorem listWalk1 {P : Program} {w : World} {A : Around} (hh : A.handled = none) {it l : Addr} (hne : l ≠ it) (items : Array Value) (hpos : 0 < items.size) :
    WalksS P w A it [it, l] [it] (fun a b => b = a) (items.size - 1) (fun i v => items[i + 1]? = some v) (fun i s => s.heap.IsListIter it l (i + 1) ∧ s.heap.IsList l items) := by
  have W := Walks.list (prog := P) (w := w) hh it l hne items
  have V := W.toS
  exact {
    sub := V.sub, grefl := V.grefl, gtrans := V.gtrans
    frame := fun i s h' tk st ht k => V.frame (i + 1) s h' tk st ht k
    item := fun i s Q E hi st hQ => V.item (i + 1) s Q E (by omega) st hQ
    done := fun s Q E st hQ => V.done s Q E (by rw [show items.size - 1 + 1 = items.size by omega] at st; exact st) hQ
    self := fun i s Q E st hQ => V.self (i + 1) s Q E st hQ }
theorem unpackStar1 {P : Program} {w : World} {A : Around} {E : Value → Shared → Prop} {s : Shared} {l : Addr} {items : Array Value} {Q : List Value → Shared → Prop} (hh : A.handled = none) (hl : s.heap.IsList l items) (hpos : 0 < items.size) (hsz : items.size ≤ sizeLine)
    (hQ : ∀ s1 : Shared, (∀ b o, s.heap.get? b = some o → s1.heap.get? b = some o) → s1.gens = s.gens → s1.drawn = s.drawn → s1.os = s.os →
      Q [items[0], .ref s1.heap.objs.size] { s1 with heap := s1.heap.push { cls := .type "list", data := .seq (items.toList.drop 1).toArray } }) : wpAny (model P w) A (unpackItems (.ref l) 2 (some 1)) Q E s := by
  have hlt : l ≠ s.heap.objs.size := by
    obtain ⟨o, ho, _⟩ := hl
    exact Nat.ne_of_lt (Heap.lt_size ho)
  unfold unpackItems notIterableAtAll
  refine wpAny_bind (wpAny_bind (wpAny_specialOf hl.typeIs slot_list_iter.lookup (wpAny_pure ?_)))
  rw [if_neg (by decide)]
  refine wpAny_bind (wpAny_holding (wpAny_pyIter_list hl ?_))
  refine wpAny_bind (wpAny_holding (PySem.W.kun_draw hlt 1 0 _ _ ⟨_, Heap.get?_push_size _ rfl, rfl, rfl⟩ (hl.push _) (by omega) fun h₁ it1 hs₁ => ?_))
  have e1 : List.take 1 (List.drop 0 items.toList) = [items[0]] := by
    rw [List.drop_zero, List.take_one]
    cases items with
    | mk l => cases l with
      | nil => simp at hpos
      | cons a l => rfl
  rw [e1, if_neg (by simp)]
  have hlt1 : s.heap.objs.size < h₁.objs.size := by
    obtain ⟨o, ho, _⟩ := it1
    exact Heap.lt_size ho
  have hl1 : h₁.IsList l items := (hl.push _).extBut hs₁.extBut hlt
  have hlm : l < h₁.objs.size := by
    obtain ⟨o, ho, _⟩ := hl1
    exact Heap.lt_size ho
  refine wpAny_bind (wpAny_holding (wpAny_collect_iter (T := "list_iterator") (.inr (.inr (.inl rfl))) (listWalk1 (A := A.in1) hh hlt items hpos) (fun i s st => ?_) ⟨it1, hl1⟩ (fun b hb => ?_) (List.mem_cons_self ..) (fun s2 acc mv ho => ?_) (by omega)))
  · obtain ⟨o, ho, hc, _⟩ := st.1
    exact ⟨o, ho, hc⟩
  · rcases List.mem_cons.mp hb with rfl | hb
    · exact hlt1
    · rw [List.mem_singleton.mp hb]; exact hlm
  have hacc : acc.toList = items.toList.drop 1 := by
    apply List.ext_getElem?
    intro j
    rw [List.getElem?_drop, Array.getElem?_toList, Array.getElem?_toList]
    by_cases hj : j < acc.size
    · have := ho.2 j acc[j] (Array.getElem?_eq_getElem hj)
      rw [Array.getElem?_eq_getElem hj, show 1 + j = j + 1 by omega, this]
    · rw [Array.getElem?_eq_none (by omega), Array.getElem?_eq_none (by have := ho.1; omega)]
  have hk : ∀ b o, s.heap.get? b = some o → s2.heap.get? b = some o := fun b o e => by
    have hb : b ≠ s.heap.objs.size := Nat.ne_of_lt (Heap.lt_size e)
    exact mv.heap b o (fun z => hb (List.mem_singleton.mp z)) (hs₁.extBut b o hb (Heap.get?_push_of_some _ e))
  rw [if_neg (by simp), hacc]
  have e2 : (List.drop 1 items.toList).length - (2 - 1 - 1) = (List.drop 1 items.toList).length := by omega
  rw [e2]
  show wpAny (model P w) A (newList (List.take (List.drop 1 items.toList).length (List.drop 1 items.toList)) >>= fun r => pure ([items[0]] ++ [r] ++ List.drop (List.drop 1 items.toList).length (List.drop 1 items.toList))) Q E s2
  rw [List.take_length, List.drop_length]
  exact wpAny_bind (wpAny_newList (wpAny_pure (hQ s2 hk mv.gens mv.drawn mv.os)))
theorem pg_lstStar {es : List Expr} {k : Nat} {t : TGs} (hc : X.calm = true) (h : PGs X es t)
    (hn : (assignEach es X.env).length = 2 := by rfl) (hst : (assignEach es X.env).findIdx? (·.1) = some 1 := by rfl) : PG X (.Tuple es k pos) (gLstStar X.K t) where
  run := by
    intro pins s σ H v u Q I r hw
    obtain ⟨a, x, ys, rfl, hq, hw⟩ := hw
    cases r
    obtain ⟨its, rv, pl, hz⟩ := I.list hq
    rw [PyProof.Rows.assign_Tuple]
    refine wpAny_bind (wpAny_standAt ?_)
    unfold unpack
    rw [hn, hst]
    cases rv with
    | @cons _ u1 _ us r1 rr =>
      have hz' : (u1 :: us).length ≤ sizeLine := by
        have := rr.length
        simp only [List.length_cons] at hz ⊢
        omega
      refine wpAny_bind (wpAny_holding (unpackStar1 (I.ok.hd hc) pl.isList (by simp) (by simpa using hz') fun s1 hk hg hd ho => ?_))
      have hs1 : s1 = { s with heap := s1.heap, toks := s1.toks } := by
        obtain ⟨a1, a2, a3, a4, a5⟩ := s1
        cases hg; cases hd; cases ho; rfl
      have I1 : L2.Inv X pins σ H { s with heap := s1.heap, toks := s1.toks } := I.kept (t' := s1.toks) hk
      rw [← hs1] at I1
      have I2 : L2.Inv X pins σ (upd H s1.heap.objs.size (.lst ys)) { s1 with heap := s1.heap.push { cls := .type "list", data := .seq us.toArray } } :=
        I1.laid (t' := s1.toks) (fun b o e => Heap.get?_push_of_some _ e) (Nat.le_refl _) ⟨by simp only [List.length_cons] at hz; omega, us, 0, rr, Heap.get?_push_size _ rfl⟩
      exact h.run pins _ σ _ [x, .ref s1.heap.objs.size] _ Q I2 (.cons r1 (.cons rfl .nil)) (hw _ (I1.hok.fresh (Nat.le_refl _)))
theorem pg_lstStarK {es : List Expr} {k : Nat} {t : TGs} (K : PySem.W.Frag) (hc : X.calm = true) (h : PGs X es t) (hK : X.K = K := by rfl)
    (hn : (assignEach es X.env).length = 2 := by rfl) (hst : (assignEach es X.env).findIdx? (·.1) = some 1 := by rfl) : PG X (.Tuple es k pos) (gLstStar K t) := hK ▸ pg_lstStar hc h hn hst
theorem r_gstar {K : PySem.W.Frag} {H : Hp} {σ : L2.St} {t : TGs} {a : Addr} {x : V} {ys : List V} {Q : L2.St → Hp → Prop} (e : SqL K H a (x :: ys)) (h : ∀ p, H p = none → t [x, .ref p] σ (upd H p (.lst ys)) Q) : gLstStar K t (.ref a) σ H Q := ⟨a, x, ys, rfl, e, h⟩
end
end NX
namespace NX
open PySem PySem.Spec PyProof.Rows L2
/-! ### lines of a text -/
/-- a text cut at each c -/
def cutAt (c : Nat) : List Nat → List (List Nat)
  | [] => [[]]
  | d :: l => if d = c then [] :: cutAt c l else match cutAt c l with
    | h :: t => (d :: h) :: t
    | [] => [[d]]
theorem cutAt_ne (c : Nat) (l : List Nat) : cutAt c l ≠ [] := by
  cases l with
  | nil => simp [cutAt]
  | cons d l =>
    unfold cutAt
    split
    · simp
    · split <;> simp
/-- lines put together again -/
def glue (c : Nat) : List (List Nat) → List Nat
  | [] => []
  | [w] => w
  | w :: v :: r => w ++ [c] ++ glue c (v :: r)
theorem glue_cons (c : Nat) (w : List Nat) {r : List (List Nat)} (h : r ≠ []) : glue c (w :: r) = w ++ [c] ++ glue c r := by
  cases r with
  | nil => exact absurd rfl h
  | cons v r => rfl
/-- lines without the sign come back -/
theorem cutAt_app {c : Nat} : ∀ (w l : List Nat), c ∉ w → cutAt c (w ++ c :: l) = w :: cutAt c l
  | [], l, _ => by show cutAt c (c :: l) = _; rw [cutAt, if_pos rfl]
  | d :: w, l, h => by
    have hd : ¬ d = c := fun z => h (z ▸ List.mem_cons_self ..)
    have hw : c ∉ w := fun z => h (List.mem_cons_of_mem _ z)
    show cutAt c (d :: (w ++ c :: l)) = _
    rw [cutAt, if_neg hd, cutAt_app w l hw]
theorem cutAt_free {c : Nat} : ∀ w : List Nat, c ∉ w → cutAt c w = [w]
  | [], _ => rfl
  | d :: w, h => by
    have hd : ¬ d = c := fun z => h (z ▸ List.mem_cons_self ..)
    have hw : c ∉ w := fun z => h (List.mem_cons_of_mem _ z)
    rw [cutAt, if_neg hd, cutAt_free w hw]
theorem cutAt_glue {c : Nat} : ∀ ls : List (List Nat), ls ≠ [] → (∀ w ∈ ls, c ∉ w) → cutAt c (glue c ls) = ls
  | [], h, _ => absurd rfl h
  | [w], _, h => cutAt_free w (h w (List.mem_cons_self ..))
  | w :: v :: r, _, h => by
    rw [glue_cons c w (by simp), List.append_assoc]
    show cutAt c (w ++ c :: glue c (v :: r)) = _
    rw [cutAt_app _ _ (h w (List.mem_cons_self ..)), cutAt_glue (v :: r) (by simp) fun z hz => h z (List.mem_cons_of_mem _ hz)]
theorem cutAt_len (c : Nat) : ∀ l : List Nat, (cutAt c l).length ≤ l.length + 1
  | [] => by simp [cutAt]
  | d :: l => by
    have ih := cutAt_len c l
    unfold cutAt
    split
    · simp only [List.length_cons]; omega
    · split
      · rename_i h t e
        rw [e] at ih
        simp only [List.length_cons] at ih ⊢; omega
      · simp
theorem cutAt_part (c : Nat) : ∀ (l : List Nat) (w : List Nat), w ∈ cutAt c l → w.length ≤ l.length ∧ ∀ d ∈ w, d ∈ l ∧ d ≠ c
  | [], w, h => by simp [cutAt] at h; subst h; simp
  | d :: l, w, h => by
    have ih := cutAt_part c l
    unfold cutAt at h
    split at h
    · rcases List.mem_cons.mp h with rfl | h
      · simp
      · obtain ⟨h1, h2⟩ := ih w h
        exact ⟨by rw [List.length_cons]; omega, fun z hz => ⟨List.mem_cons_of_mem _ (h2 z hz).1, (h2 z hz).2⟩⟩
    · rename_i hd
      split at h
      · rename_i a t e
        rcases List.mem_cons.mp h with rfl | h
        · obtain ⟨h1, h2⟩ := ih a (by rw [e]; simp)
          refine ⟨by simp only [List.length_cons]; omega, fun z hz => ?_⟩
          rcases List.mem_cons.mp hz with rfl | hz
          · exact ⟨List.mem_cons_self .., hd⟩
          · exact ⟨List.mem_cons_of_mem _ (h2 z hz).1, (h2 z hz).2⟩
        · obtain ⟨h1, h2⟩ := ih w (by rw [e]; exact List.mem_cons_of_mem _ h)
          exact ⟨by rw [List.length_cons]; omega, fun z hz => ⟨List.mem_cons_of_mem _ (h2 z hz).1, (h2 z hz).2⟩⟩
      · rw [List.mem_singleton.mp h]
        refine ⟨by simp, fun z hz => ?_⟩
        rw [List.mem_singleton.mp hz]
        exact ⟨List.mem_cons_self .., hd⟩
theorem join_glue (c : Nat) : ∀ ys : List Str, (Str.join (mkS [c]) ys).cps.toList = glue c (ys.map fun s => s.cps.toList)
  | [] => rfl
  | [y] => rfl
  | y :: z :: r => by
    have ih := join_glue c (z :: r)
    show (y.cps ++ #[c] ++ (Str.join (mkS [c]) (z :: r)).cps).toList = y.cps.toList ++ [c] ++ glue c ((z :: r).map fun s => s.cps.toList)
    rw [Array.toList_append, Array.toList_append, ih]
theorem split_mk (l : List Nat) (c : Nat) : Txt.split (mkS l) (mkS [c]) = (cutAt c l).map mkS := by
  have e1 := StrLaws.join_split (mkS l) (mkS [c])
  have e2 : ∀ p ∈ Txt.split (mkS l) (mkS [c]), c ∉ p.cps.toList := StrLaws.split_free (mkS l) c
  have e3 := split_pos (mkS l) (mkS [c])
  generalize Txt.split (mkS l) (mkS [c]) = ys at e1 e2 e3
  have h1 := join_glue c ys
  rw [e1, show (mkS l).cps.toList = l by simp [mkS]] at h1
  rw [h1, cutAt_glue _ (by intro z; have := congrArg List.length z; rw [List.length_map, List.length_nil] at this; omega) (fun w hw => by
    obtain ⟨p, hp, rfl⟩ := List.mem_map.mp hw
    exact e2 p hp), List.map_map]
  conv => lhs; rw [← List.map_id ys]
  exact List.map_congr_left fun s _ => by cases s; rfl
theorem r_split {Q : VK} {H : Hp} {l : List Nat} {c : Nat} (hl : l.length ≤ 1000000) (h : ∀ p, H p = none → Q (.ref p) (upd H p (.lst ((cutAt c l).map T)))) :
    ∃ a b, T l = .str a ∧ [T [c]] = [.str b] ∧ (b.length == 0) = false ∧ a.length + 2 ≤ sizeLine ∧ rNewStrs (Txt.split a b) H Q := by
  refine ⟨mkS l, mkS [c], rfl, rfl, by rw [mkS_len]; rfl, by rw [mkS_len, sizeLine_eq]; omega, fun p np => ?_⟩
  have := h p np
  rw [split_mk, List.map_map]
  exact this
/-! ### beginnings and ends -/
theorem ends_mk (l m : List Nat) : Txt.endswith (mkS l) (mkS m) = decide (m <:+ l) := by
  unfold Txt.endswith
  rw [StrLaws.subAt_eq, Bool.eq_iff_iff, decide_eq_true_eq, Bool.and_eq_true, decide_eq_true_eq, beq_iff_eq, mkS_len, mkS_len]
  show 0 + m.length ≤ l.length ∧ (l.drop (l.length - m.length)).take m.length = m ↔ m <:+ l
  rw [List.suffix_iff_eq_drop]
  constructor
  · rintro ⟨h1, h2⟩
    rwa [List.take_of_length_le (by rw [List.length_drop]; omega), eq_comm] at h2
  · intro h
    have h1 : m.length ≤ l.length := by
      have := congrArg List.length h
      rw [List.length_drop] at this
      omega
    refine ⟨by omega, ?_⟩
    rw [← h, List.take_length]
theorem rmpre_mk (l m : List Nat) : Txt.removeprefix (mkS l) (mkS m) = mkS (if m <+: l then l.drop m.length else l) := by
  unfold Txt.removeprefix
  rw [StrLaws.subAt_eq, show (mkS l).cps.toList = l by simp [mkS], show (mkS m).cps.toList = m by simp [mkS], mkS_len, mkS_len, List.drop_zero]
  by_cases h : m <+: l
  · have h2 := List.prefix_iff_eq_take.mp h
    rw [if_pos (by rw [beq_iff_eq]; exact h2.symm), if_pos h]
    unfold Txt.affix
    rw [mkS_len]
    dsimp only
    by_cases e : l.length - m.length = l.length
    · rw [if_pos (by simpa using e)]
      have h3 : m.length ≤ l.length := h.length_le
      have : m.length = 0 := by omega
      rw [this, List.drop_zero]
    · rw [if_neg (by simpa using e)]
      apply TL.ext_tl
      show (Builtin.Str.strSub (mkS l) m.length l.length).cps.toList = (mkS (l.drop m.length)).cps.toList
      rw [StrLaws.strSub_toList, show (mkS l).cps.toList = l by simp [mkS], show (mkS (l.drop m.length)).cps.toList = l.drop m.length by simp [mkS]]
      exact List.take_of_length_le (by rw [List.length_drop]; omega)
  · rw [if_neg (by rw [beq_iff_eq]; exact fun z => h (List.prefix_iff_eq_take.mpr z.symm)), if_neg h]
    rfl
theorem rmsuf_mk (l m : List Nat) : Txt.removesuffix (mkS l) (mkS m) = mkS (if m <:+ l then l.take (l.length - m.length) else l) := by
  unfold Txt.removesuffix
  rw [StrLaws.subAt_eq, show (mkS l).cps.toList = l by simp [mkS], show (mkS m).cps.toList = m by simp [mkS], mkS_len, mkS_len]
  by_cases h : m <:+ l
  · have h2 := List.suffix_iff_eq_drop.mp h
    have h3 : m.length ≤ l.length := h.length_le
    rw [if_pos (by rw [Bool.and_eq_true, decide_eq_true_eq, beq_iff_eq]; exact ⟨h3, by rw [← h2, List.take_length]⟩), if_pos h]
    unfold Txt.affix
    rw [mkS_len]
    dsimp only
    by_cases e : l.length - m.length - 0 = l.length
    · rw [if_pos (by simpa using e)]
      rw [show l.length - m.length = l.length by omega, List.take_length]
    · rw [if_neg (by simpa using e)]
      apply TL.ext_tl
      show (Builtin.Str.strSub (mkS l) 0 (l.length - m.length)).cps.toList = (mkS (l.take (l.length - m.length))).cps.toList
      rw [StrLaws.strSub_toList, show (mkS l).cps.toList = l by simp [mkS], show (mkS (l.take (l.length - m.length))).cps.toList = l.take (l.length - m.length) by simp [mkS], List.drop_zero, Nat.sub_zero]
  · rw [if_neg (by
      rw [Bool.and_eq_true, decide_eq_true_eq, beq_iff_eq]
      rintro ⟨h1, h2⟩
      rw [List.take_of_length_le (by rw [List.length_drop]; omega)] at h2
      exact h (List.suffix_iff_eq_drop.mpr h2.symm)), if_neg h]
    rfl
end NX
namespace NX
open PySem PySem.Spec PyProof.Rows L2
/-! ### texts of rules -/
theorem joinL_glue (c : Nat) : ∀ ls : List (List Nat), TL.joinL [c] ls = glue c ls
  | [] => rfl
  | [w] => rfl
  | w :: v :: r => by
    have ih := joinL_glue c (v :: r)
    show w ++ ([c] ++ TL.joinL [c] (v :: r)) = w ++ [c] ++ glue c (v :: r)
    rw [ih, List.append_assoc]
theorem glue_len (c : Nat) : ∀ ls : List (List Nat), (glue c ls).length ≤ ls.flatten.length + ls.length
  | [] => by simp [glue]
  | [w] => by simp [glue]
  | w :: v :: r => by
    have ih := glue_len c (v :: r)
    rw [glue_cons c w (by simp), List.flatten_cons]
    simp only [List.length_append, List.length_cons, List.length_nil] at ih ⊢
    omega
abbrev HDL : List Nat := [108, 101, 116, 116, 101, 114, 115, 32]
abbrev TLL : List Nat := [32, 105, 115, 32, 110, 111, 116, 104, 105, 110, 103]
/-- the text of rules -/
def ruleT (a : List Nat) (rs : List (List Nat)) : List Nat := glue 10 ((HDL ++ a) :: rs.map fun r => short r ++ TLL)
/-- the row that a line tells -/
def tellL (l : List Nat) : Option (List Nat) := if TLL <:+ l then rowL 40 (l.take (l.length - 11)) else none
/-- told rows, line by line; else the first line that can't stand -/
def rdR (a : List Nat) : List (List Nat) → List (List Nat) → Except Nat (List (List Nat))
  | [], rs => .ok rs
  | l :: r, rs => match tellL l with
    | some w => if stB a rs w = true then rdR a r (rs ++ [w]) else .error (rs.length + 1)
    | none => .error (rs.length + 1)
def rdL (ls : List (List Nat)) : Except Nat (List Nat × List (List Nat)) := match ls with
  | [] => .error 0
  | f :: r => if HDL <+: f ∧ Al (f.drop 8) then match rdR (f.drop 8) r [] with
    | .ok rs => .ok (f.drop 8, rs)
    | .error k => .error k
    else .error 0
def rdT (l : List Nat) : Except Nat (List Nat × List (List Nat)) := rdL (cutAt 10 l)
theorem rdR_told {a : List Nat} : ∀ (ls rs qs : List (List Nat)), Told a rs → rdR a ls rs = .ok qs → Told a qs
  | [], rs, qs, h, e => by cases e; exact h
  | l :: r, rs, qs, h, e => by
    unfold rdR at e
    split at e
    · split at e
      · rename_i hs
        exact rdR_told r _ qs (h.step hs) e
      · cases e
    · cases e
/-- what reading a text comes to -/
def RdX (K : PySem.W.Frag) (H : Hp) (v : V) (X : List Nat → List (List Nat) → Prop) (R : Nat → Prop) : Prop :=
  (∃ l, v = T l ∧ l.length ≤ 5000 ∧ ((∃ a rs, rdT l = .ok (a, rs) ∧ X a rs) ∨ (∃ k, rdT l = .error k ∧ R k))) ∨ (NotS K H v ∧ R 0)
end NX
namespace NX
theorem short_len40 {r : List Nat} (h : r.length ≤ 40) : (short r).length ≤ 400 := by
  unfold short
  split
  · simp
  · have := wrt_len r.length r (Nat.le_refl _) (by omega)
    omega
theorem flat_lenM {α : Type} {f : α → List Nat} {m : Nat} : ∀ {ls : List α}, (∀ r ∈ ls, (f r).length ≤ m) → (ls.map f).flatten.length ≤ m * ls.length
  | [], _ => by simp
  | r :: ls, h => by
    have h1 := flat_lenM (ls := ls) fun z hz => h z (List.mem_cons_of_mem _ hz)
    have h2 := h r (List.mem_cons_self ..)
    rw [List.map_cons, List.flatten_cons, List.length_append, List.length_cons, Nat.mul_succ]
    omega
end NX
namespace NX
theorem rd_len {most : Nat} : ∀ (n : Nat) (l acc w : List Nat), l.length ≤ n → acc.length ≤ most → rd most l acc = some w → w.length ≤ most
  | _, [], acc, w, _, h, e => by rw [rd_nil] at e; cases e; exact h
  | 0, c :: l, _, _, hl, _, _ => by simp at hl
  | n + 1, c :: l, acc, w, hl, h, e => by
    rw [rd_cons] at e
    split at e
    · cases e
    · split at e
      · cases e
      · rename_i t _
        split at e
        · cases e
        · refine rd_len n _ _ w ?_ ?_ e
          · rw [List.length_drop]
            simp only [List.length_cons] at hl; omega
          · rw [List.length_append, repL_len]
            simp only [List.length_singleton]; omega
theorem row_len {most : Nat} {l w : List Nat} (e : rowL most l = some w) : w.length ≤ most := by
  unfold rowL at e
  split at e
  · rename_i r hr
    split at e
    · cases e
    · cases e
      exact rd_len l.length l [] w (Nat.le_refl _) (by simp) hr
  · cases e
theorem tell_len {l w : List Nat} (e : tellL l = some w) : w.length ≤ 40 := by
  unfold tellL at e
  split at e
  · exact row_len e
  · cases e
end NX
namespace NX
open PySem PySem.Spec PyProof.Rows L2
/-! ### lists of blocks -/
theorem Tps.tail {H : Hp} {x : V} {xs : List V} {t : List V} {ts : List (List V)} (h : Tps H (x :: xs) (t :: ts)) : (∃ b, x = .ref b ∧ H b = some (.tup t)) ∧ Tps H xs ts := by
  obtain ⟨h1, h2⟩ := h
  refine ⟨h2 0 (by simp), by simpa using h1, fun i hi => ?_⟩
  exact h2 (i + 1) (by simpa using hi)
theorem Tps.init {H : Hp} {v : V} {ys : List V} {t : List V} {ts : List (List V)} (h : Tps H (ys ++ [v]) (ts ++ [t])) : Tps H ys ts ∧ ∃ b, v = .ref b ∧ H b = some (.tup t) := by
  obtain ⟨h1, h2⟩ := h
  have hl : ys.length = ts.length := by simpa using h1
  refine ⟨⟨hl, fun i hi => ?_⟩, ?_⟩
  · obtain ⟨b, e1, e2⟩ := h2 i (by rw [List.length_append]; omega)
    rw [List.getD_eq_getElem?_getD, List.getElem?_append_left (by omega), ← List.getD_eq_getElem?_getD] at e1 e2
    exact ⟨b, e1, e2⟩
  · obtain ⟨b, e1, e2⟩ := h2 ts.length (by simp)
    rw [List.getD_eq_getElem?_getD, List.getElem?_append_right (by omega)] at e1 e2
    simp [hl] at e1 e2
    exact ⟨b, e1, e2⟩
abbrev dBk (b : Nat × Nat) : PyData := .tuple [.str (mkS [b.1]), .int (b.2 : Nat)]
theorem dpAll_bk {K : PySem.W.Frag} {H : Hp} : ∀ {bs : List (Nat × Nat)} {xs : List V}, Tps H xs (bks bs) → DpAll K H xs (bs.map dBk)
  | [], xs, h => by
    have := h.1
    cases xs with
    | nil => exact .nil
    | cons _ _ => simp [bks] at this
  | b :: bs, xs, h => by
    cases xs with
    | nil => have := h.1; simp [bks] at this
    | cons x xs =>
      obtain ⟨⟨p, rfl, e⟩, h2⟩ := Tps.tail (ts := bks bs) h
      exact .cons (.tup (SqT.of e) (.cons (.str _) (.cons (.int _) .nil))) (dpAll_bk h2)
theorem lay_bk : ∀ {bs : List (Nat × Nat)}, (∀ b ∈ bs, lett b.1 = true) → PyData.canLayAll0 (bs.map dBk) = true
  | [], _ => rfl
  | b :: bs, h => by
    show ((PyData.strOk (mkS [b.1]) && (true && true)) && PyData.canLayAll0 (bs.map dBk)) = true
    rw [lay_bk fun z hz => h z (List.mem_cons_of_mem _ hz), strOk_mk (Row.one (h b (List.mem_cons_self ..))).asc]; rfl
theorem deAll_bk : ∀ bs : List (Nat × Nat), PyData.depthAll (bs.map dBk) ≤ 1
  | [] => by simp [PyData.depthAll]
  | b :: bs => by
    have h1 := deAll_bk bs
    have h2 : PyData.depthAll [PyData.str (mkS [b.1]), .int (b.2 : Nat)] = 0 := by simp [PyData.depthAll, PyData.depth]
    simp only [List.map_cons, PyData.depthAll, PyData.depth] at h1 h2 ⊢
    omega
theorem plain_bk : ∀ bs : List (Nat × Nat), plainAll (bs.map dBk) = true
  | [] => rfl
  | b :: bs => by
    show ((true && (true && true)) && plainAll (bs.map dBk)) = true
    rw [plain_bk bs]; rfl
theorem r_neBk {K : PySem.W.Frag} {H : Hp} {Q : VK} {p q : Addr} {xs : List V} {bs : List (Nat × Nat)} (h1 : SqL K H p xs) (ht : Tps H xs (bks bs)) (hb : ∀ b ∈ bs, lett b.1 = true) (h2 : SqL K H q []) (h : Q (.bl (!decide (bs = []))) H) : rNeG K (.ref p) (.ref q) H Q := by
  refine r_neL0 h1 (dpAll_bk ht) (shaped_list (lay_bk hb) (by have := deAll_bk bs; omega)) (plain_bk bs) h2 ?_
  rw [show decide (bs.map dBk = []) = decide (bs = []) by rw [decide_eq_decide, List.map_eq_nil_iff]]
  exact h
theorem bks_app (as bs : List (Nat × Nat)) : bks (as ++ bs) = bks as ++ bks bs := by unfold bks; rw [List.map_append]
theorem spr_app (as bs : List (Nat × Nat)) : spr (as ++ bs) = spr as ++ spr bs := by unfold spr; rw [List.map_append, List.flatten_append]
theorem spr_one (c n : Nat) : spr [(c, n)] = List.replicate n c := by unfold spr; simp [rep1]
/-! ### reading what was written -/
theorem tell_of {t w : List Nat} (h : Wr 40 t w) (hl : w.length ≤ 40) (hne : w ≠ []) : tellL (t ++ TLL) = some w := by
  unfold tellL
  rw [if_pos (List.suffix_append t TLL), List.length_append, show t.length + TLL.length - 11 = t.length by simp, List.take_left]
  exact h.row hl hne
theorem tell_free {l w : List Nat} (h : tellL l = some w) : 10 ∉ l := by
  unfold tellL at h
  split at h
  · rename_i hs
    have h2 := List.suffix_iff_eq_append.mp hs
    intro hm
    rw [← h2, List.mem_append] at hm
    rcases hm with hm | hm
    · unfold rowL at h
      rw [show TLL.length = 11 from rfl] at hm
      rw [rd_sign (c := 10) (by decide) (by decide) _ _ _ (Nat.le_refl _) hm] at h
      cases h
    · revert hm; decide
  · cases h
theorem rdR_all {a : List Nat} {rs : List (List Nat)} (ht : Told a rs) : ∀ (ls pre suf : List (List Nat)), rs = pre ++ suf → ls.map tellL = suf.map some → rdR a ls pre = .ok rs
  | [], pre, suf, e, h => by
    have : suf = [] := by cases suf with
      | nil => rfl
      | cons _ _ => cases h
    subst this
    rw [List.append_nil] at e
    subst e; rfl
  | l :: ls, pre, [], e, h => by cases h
  | l :: ls, pre, w :: suf, e, h => by
    rw [List.map_cons, List.map_cons] at h
    have h1 : tellL l = some w := (List.cons.inj h).1
    have h2 := (List.cons.inj h).2
    have hp : pre.length < rs.length := by rw [e]; simp
    have hs := ht.stands hp
    rw [show rs.take pre.length = pre by rw [e, List.take_left], show rs.getD pre.length [] = w by rw [e, List.getD_eq_getElem?_getD]; simp] at hs
    unfold rdR
    rw [h1]
    dsimp only
    rw [if_pos hs]
    exact rdR_all ht ls (pre ++ [w]) suf (by rw [e]; simp) h2
theorem rdT_ok {a : List Nat} {rs ls : List (List Nat)} (ha : Al a) (ht : Told a rs) (h : ls.map tellL = rs.map some) : rdT (glue 10 ((HDL ++ a) :: ls)) = .ok (a, rs) := by
  unfold rdT
  rw [cutAt_glue _ (by simp) fun w hw => by
    rcases List.mem_cons.mp hw with rfl | hw
    · intro hm
      rcases List.mem_append.mp hm with hm | hm
      · revert hm; decide
      · have := ha.2.2.1 _ hm; omega
    · have : tellL w ∈ ls.map tellL := List.mem_map_of_mem hw
      rw [h] at this
      obtain ⟨r, _, e⟩ := List.mem_map.mp this
      exact tell_free e.symm]
  unfold rdL
  dsimp only
  have e8 : (HDL ++ a).drop 8 = a := rfl
  rw [e8, if_pos ⟨List.prefix_append _ _, ha⟩, rdR_all ht ls [] rs rfl h]
theorem tell_short {w : List Nat} (hr : Row w) (hl : w.length ≤ 40) (hne : w ≠ []) : tellL (short w ++ TLL) = some w := by
  unfold short
  rw [if_neg hne]
  exact tell_of (wrt_wr w.length w (Nat.le_refl _) (by omega) hr) hl hne
theorem rdT_rule {a : List Nat} {rs : List (List Nat)} (ha : Al a) (ht : Told a rs) : rdT (ruleT a rs) = .ok (a, rs) := by
  refine rdT_ok ha ht ?_
  rw [List.map_map]
  refine List.map_congr_left fun r hr => ?_
  obtain ⟨h1, h2, h3, _⟩ := ht.2.1 r hr
  exact tell_short (h1.row ha) h3 (fun z => by rw [z] at h2; simp at h2)
theorem ruleT_inj {a b : List Nat} {rs qs : List (List Nat)} (ha : Al a) (hb : Al b) (hr : Told a rs) (hq : Told b qs) (e : ruleT a rs = ruleT b qs) : a = b ∧ rs = qs := by
  have h1 := rdT_rule ha hr
  rw [e, rdT_rule hb hq] at h1
  cases h1
  exact ⟨rfl, rfl⟩
theorem ruleT_len {a : List Nat} {rs : List (List Nat)} (ha : Al a) (ht : Told a rs) : (ruleT a rs).length ≤ 5000 := by
  unfold ruleT
  have h1 := glue_len 10 ((HDL ++ a) :: rs.map fun r => short r ++ TLL)
  have h2 : (rs.map fun r => short r ++ TLL).flatten.length ≤ 500 * rs.length := flat_lenM fun r hr => by
    have := short_len40 (ht.2.1 r hr).2.2.1
    rw [List.length_append]
    simp only [List.length_cons, List.length_nil]; omega
  have h3 := ha.2.1
  have h4 := ht.1
  simp only [List.flatten_cons, List.length_append, List.length_cons, List.length_nil, List.length_map] at h1
  omega
end NX
namespace NX
open PySem PySem.Spec PyProof.Rows L2
theorem ixN_last {α : Type} (ys : List α) (v : α) : ixN (ys ++ [v]).length (-1) = some ys.length := by
  unfold ixN
  rw [if_neg (by decide), if_pos (by rw [List.length_append, List.length_singleton]; omega), List.length_append, List.length_singleton]
  congr 1
  omega
theorem set_last {α : Type} (ys : List α) (v w : α) : (ys ++ [v]).set ys.length w = ys ++ [w] := by simp
theorem spr_mem {bs : List (Nat × Nat)} {b : Nat × Nat} (h : b ∈ bs) : b.2 ≤ (spr bs).length := by
  unfold spr
  have h1 : repL [b.1] b.2 ∈ bs.map fun b => repL [b.1] b.2 := List.mem_map_of_mem h
  have := flat_mem_len h1
  rw [repL_len] at this
  simpa using this
theorem spr_inc {cs : List (Nat × Nat)} {d k : Nat} : spr (cs ++ [(d, k + 1)]) = spr (cs ++ [(d, k)]) ++ [d] := by
  rw [spr_app, spr_app, spr_one, spr_one, List.replicate_succ', List.append_assoc]
end NX
namespace NX
theorem rr_low {a l : List Nat} (ha : Al a) (h : ∀ c ∈ l, c ∈ a) (h1 : 1 ≤ l.length) (h2 : l.length ≤ 40) : RR a l := by
  refine ⟨fun c hc => List.mem_append_left _ (h c hc), h1, h2, fun i hi e => ?_⟩
  have m1 := ha.2.2.1 _ (h _ (getD_mem hi))
  have m2 := ha.2.2.1 _ (h _ (getD_mem (show (i + l.length - 1) % l.length < l.length from Nat.mod_lt _ (by omega))))
  rw [e] at m1
  generalize l.getD ((i + l.length - 1) % l.length) 0 = d at m1 m2
  unfold swp at m1
  rw [if_neg (by omega), if_pos m2] at m1
  omega
theorem told_cons {a l : List Nat} {rs : List (List Nat)} (ht : Told a rs) (h5 : rs.length < 6) (hl : RR a l) (hk : ∀ r ∈ rs, kinB r l = false) : Told a (l :: rs) := by
  obtain ⟨h1, h2, h3⟩ := told_pw.mp ht
  refine told_pw.mpr ⟨by rw [List.length_cons]; omega, fun r hr => ?_, List.pairwise_cons.mpr ⟨fun r hr => hk r hr, h3⟩⟩
  rcases List.mem_cons.mp hr with rfl | hr
  · exact hl
  · exact h2 r hr
end NX
namespace NX
open PySem PySem.Spec PyProof.Rows L2
/-! ### spoilt texts -/
/-- rd with steps counted -/
def rdF (most : Nat) : Nat → List Nat → List Nat → Option (List Nat)
  | _, [], acc => some acc
  | 0, _ :: _, _ => none
  | n + 1, c :: l, acc => if lett c = false then none else match timesL (l.takeWhile dig) with
    | none => none
    | some t => if most < acc.length + t then none else rdF most n (l.drop (l.takeWhile dig).length) (acc ++ repL [c] t)
theorem rdF_eq {most : Nat} : ∀ (n : Nat) (l acc : List Nat), l.length ≤ n → rdF most n l acc = rd most l acc
  | n, [], acc, _ => by rw [rd_nil]; cases n <;> rfl
  | 0, _ :: _, _, h => by simp at h
  | n + 1, c :: l, acc, h => by
    rw [rd_cons]
    show (if lett c = false then none else _) = _
    split
    · rfl
    · cases timesL (l.takeWhile dig) with
      | none => rfl
      | some t =>
        dsimp only
        split
        · rfl
        · exact rdF_eq n _ _ (by rw [List.length_drop]; simp only [List.length_cons] at h; omega)
def tellF (l : List Nat) : Option (List Nat) := if l.drop (l.length - 11) = TLL then (match rdF 40 l.length (l.take (l.length - 11)) [] with
  | some r => if r = [] then none else some r
  | none => none) else none
theorem tellF_eq (l : List Nat) : tellL l = tellF l := by
  unfold tellL tellF
  have h : TLL <:+ l ↔ l.drop (l.length - 11) = TLL := by
    rw [List.suffix_iff_eq_drop, eq_comm]
    rfl
  by_cases c : TLL <:+ l
  · rw [if_pos c, if_pos (h.mp c)]
    unfold rowL
    rw [rdF_eq _ _ _ (by rw [List.length_take]; omega)]
    all_goals (cases rd 40 (List.take (l.length - 11) l) [] <;> rfl)
  · rw [if_neg c, if_neg (fun z => c (h.mpr z))]
/-- a line that tells no row of the letters that could stand -/
def BadR (a l : List Nat) : Prop := tellL l = none ∨ ∃ w, tellL l = some w ∧ ¬ RR a w
/-- a line that tells kin of a told row -/
def BadK (rs : List (List Nat)) (l : List Nat) : Prop := ∃ w, l = w ++ TLL ∧ Row w ∧ 1 ≤ w.length ∧ w.length ≤ 40 ∧ ∃ own ∈ rs, kinB w own = true
def OddL (a : List Nat) (rs : List (List Nat)) (l : List Nat) : Prop := 10 ∉ l ∧ l.length ≤ 300 ∧ (BadR a l ∨ BadK rs l)
theorem wr_row {most : Nat} : ∀ w : List Nat, Row w → Wr most w w
  | [], _ => Wr.nil
  | c :: w, h => by
    obtain ⟨h1, h2⟩ := h.of_cons
    exact (Wr.one (most := most) h1).app (wr_row w h2)
theorem tell_row {w : List Nat} (h : Row w) (h1 : 1 ≤ w.length) (h2 : w.length ≤ 40) : tellL (w ++ TLL) = some w :=
  tell_of (wr_row w h) h2 fun z => by rw [z] at h1; simp at h1
theorem stB_rr {a w : List Nat} {es : List (List Nat)} (h : ¬ RR a w) : stB a es w = false := by
  unfold stB
  rw [decide_eq_false h, Bool.false_and, Bool.and_false]
theorem stB_kin {a w own : List Nat} {es : List (List Nat)} (h : own ∈ es) (hk : kinB w own = true) : stB a es w = false := by
  rw [Bool.eq_false_iff]
  intro z
  have := (stB_iff.mp z).2.2 own h
  rw [hk] at this; cases this
theorem rdR_err {a l : List Nat} {es suf : List (List Nat)} (h : BadR a l ∨ BadK es l) : rdR a (l :: suf) es = .error (es.length + 1) := by
  unfold rdR
  rcases h with (h | ⟨w, h, hw⟩) | ⟨w, rfl, hw, h1, h2, own, ho, hk⟩
  · rw [h]
  · rw [h]
    dsimp only
    rw [stB_rr hw, if_neg (by decide)]
  · rw [tell_row hw h1 h2]
    dsimp only
    rw [stB_kin ho hk, if_neg (by decide)]
theorem rdR_app {a : List Nat} {rs : List (List Nat)} (ht : Told a rs) (r : List (List Nat)) : ∀ (ls pre suf : List (List Nat)), rs = pre ++ suf → ls.map tellL = suf.map some → rdR a (ls ++ r) pre = rdR a r rs
  | [], pre, suf, e, h => by
    have : suf = [] := by cases suf with
      | nil => rfl
      | cons _ _ => cases h
    subst this
    rw [List.append_nil] at e
    subst e; rfl
  | l :: ls, pre, [], e, h => by cases h
  | l :: ls, pre, w :: suf, e, h => by
    rw [List.map_cons, List.map_cons] at h
    have h1 : tellL l = some w := (List.cons.inj h).1
    have hp : pre.length < rs.length := by rw [e]; simp
    have hs := ht.stands hp
    rw [show rs.take pre.length = pre by rw [e, List.take_left], show rs.getD pre.length [] = w by rw [e, List.getD_eq_getElem?_getD]; simp] at hs
    rw [List.cons_append]
    conv => lhs; unfold rdR
    rw [h1]
    dsimp only
    rw [if_pos hs]
    exact rdR_app ht r ls (pre ++ [w]) suf (by rw [e]; simp) (List.cons.inj h).2
theorem free_lines {ls : List (List Nat)} {rs : List (List Nat)} (h : ls.map tellL = rs.map some) : ∀ w ∈ ls, 10 ∉ w := fun w hw => by
  have : tellL w ∈ ls.map tellL := List.mem_map_of_mem hw
  rw [h] at this
  obtain ⟨r, _, e⟩ := List.mem_map.mp this
  exact tell_free e.symm
theorem free_head {a : List Nat} (ha : Al a) : 10 ∉ HDL ++ a := fun hm => by
  rcases List.mem_append.mp hm with hm | hm
  · revert hm; decide
  · have := ha.2.2.1 _ hm; omega
/-- a text whose first lines are good, and the next one is not -/
theorem rdT_err {a l : List Nat} {es ls suf : List (List Nat)} (ha : Al a) (ht : Told a es) (h : ls.map tellL = es.map some) (hb : BadR a l ∨ BadK es l) (hl : 10 ∉ l) (hs : ∀ w ∈ suf, 10 ∉ w) : rdT (glue 10 ((HDL ++ a) :: (ls ++ l :: suf))) = .error (es.length + 1) := by
  unfold rdT
  rw [cutAt_glue _ (by simp) fun w hw => by
    rcases List.mem_cons.mp hw with rfl | hw
    · exact free_head ha
    · rcases List.mem_append.mp hw with hw | hw
      · exact free_lines h w hw
      · rcases List.mem_cons.mp hw with rfl | hw
        · exact hl
        · exact hs w hw]
  unfold rdL
  dsimp only
  have e8 : (HDL ++ a).drop 8 = a := rfl
  rw [e8, if_pos ⟨List.prefix_append _ _, ha⟩, rdR_app ht _ ls [] es rfl h, rdR_err hb]
theorem rdT_head {f : List Nat} {ls : List (List Nat)} (hf : 10 ∉ f) (hs : ∀ w ∈ ls, 10 ∉ w) (h : ¬ (HDL <+: f ∧ Al (f.drop 8))) : rdT (glue 10 (f :: ls)) = .error 0 := by
  unfold rdT
  rw [cutAt_glue _ (by simp) fun w hw => by
    rcases List.mem_cons.mp hw with rfl | hw
    · exact hf
    · exact hs w hw]
  unfold rdL
  dsimp only
  rw [if_neg h]
theorem glue_snoc (c : Nat) : ∀ ls : List (List Nat), ls ≠ [] → glue c ls ++ [c] = glue c (ls ++ [[]])
  | [], h => absurd rfl h
  | [w], _ => by show w ++ [c] = w ++ [c] ++ []; rw [List.append_nil]
  | w :: v :: r, _ => by
    rw [glue_cons c w (by simp), List.cons_append, glue_cons c w (by simp), List.append_assoc, glue_snoc c (v :: r) (by simp)]
theorem glue_front (c : Nat) {ls : List (List Nat)} (h : ls ≠ []) : [c] ++ glue c ls = glue c ([] :: ls) := by
  rw [glue_cons c [] h]; rfl
theorem not_pre {f : List Nat} {i : Nat} (hi : i < 8) (h : f.getD i 0 ≠ HDL.getD i 0) : ¬ (HDL <+: f ∧ Al (f.drop 8)) := fun z => by
  obtain ⟨t, rfl⟩ := z.1
  apply h
  rw [List.getD_eq_getElem?_getD, List.getElem?_append_left (by simpa using hi), ← List.getD_eq_getElem?_getD]
theorem not_al {g : List Nat} (h : ¬ Al g) : ¬ (HDL <+: HDL ++ g ∧ Al ((HDL ++ g).drop 8)) := fun z => h z.2
theorem al_sign {g : List Nat} {c : Nat} (hc : c ∈ g) (h : ¬ (97 ≤ c ∧ c ≤ 122)) : ¬ Al g := fun z => h (z.2.2.1 c hc)
/-- lines that are odd for each letter -/
def lowB (p : Nat → Bool) : Bool := (List.range 26).all fun k => p (97 + k)
theorem lowB_at {p : Nat → Bool} (h : lowB p = true) {c : Nat} (hc : 97 ≤ c ∧ c ≤ 122) : p c = true := by
  unfold lowB at h
  rw [List.all_eq_true] at h
  have := h (c - 97) (List.mem_range.mpr (by omega))
  rwa [show 97 + (c - 97) = c by omega] at this
end NX
namespace NX
open PySem PySem.Spec PyProof.Rows L2
def okB (l : List Nat) : Bool := !l.contains 10 && decide (l.length ≤ 300) && (tellF l).isNone
theorem okB_odd {a : List Nat} {rs : List (List Nat)} {l : List Nat} (h : okB l = true) : OddL a rs l := by
  unfold okB at h
  rw [Bool.and_eq_true, Bool.and_eq_true, Bool.not_eq_true', decide_eq_true_eq, Option.isNone_iff_eq_none] at h
  obtain ⟨⟨h1, h2⟩, h3⟩ := h
  exact ⟨(fun z => by rw [List.contains_iff_mem.mpr z] at h1; cases h1), h2, .inl (.inl (by rw [tellF_eq]; exact h3))⟩
theorem odd_all {a : List Nat} {rs : List (List Nat)} {c : Nat} (G : Nat → List (List Nat)) (h : lowB (fun c => (G c).all okB) = true) (hc : 97 ≤ c ∧ c ≤ 122) : ∀ l ∈ G c, OddL a rs l := fun l hl => by
  have := lowB_at h hc
  rw [List.all_eq_true] at this
  exact okB_odd (this l hl)
def oG1 (c : Nat) : List (List Nat) := [[], [32], [45], [45] ++ TLL, TLL, [105, 115, 32, 110, 111, 116, 104, 105, 110, 103], [c], [c] ++ [32, 105, 115, 32, 32, 110, 111, 116, 104, 105, 110, 103], [c] ++ [32, 32, 105, 115, 32, 110, 111, 116, 104, 105, 110, 103]]
def oG2 (c : Nat) : List (List Nat) := [[32] ++ [c] ++ TLL, [c] ++ (TLL ++ [32]), [c] ++ [32, 105, 115, 32, 78, 111, 116, 104, 105, 110, 103], [c] ++ (TLL ++ [46])]
def oG3 (c : Nat) : List (List Nat) := [[c] ++ ([49] ++ TLL), [c] ++ ([48] ++ TLL), [c] ++ ([48, 50] ++ TLL), [50] ++ [c] ++ TLL]
def oG4 (c : Nat) : List (List Nat) := [[c] ++ ([52, 49] ++ TLL), [c] ++ [52, 48] ++ [c] ++ TLL, repL [c] 41 ++ TLL, [c] ++ ([51, 48, 48] ++ TLL)]
def oG5 (c : Nat) : List (List Nat) := [[c] ++ ([49, 95, 48] ++ TLL), [c] ++ [50, 9, 105, 115, 32, 110, 111, 116, 104, 105, 110, 103], [c] ++ [50, 32, 105, 115, 9, 110, 111, 116, 104, 105, 110, 103]]
def oG7 (c : Nat) : List (List Nat) := [[c] ++ [32] ++ [c] ++ TLL, [c] ++ ([95] ++ TLL), [c] ++ [9, 105, 115, 32, 110, 111, 116, 104, 105, 110, 103]]
theorem oG1_ok : lowB (fun c => (oG1 c).all okB) = true := by decide +kernel
theorem oG2_ok : lowB (fun c => (oG2 c).all okB) = true := by decide +kernel
theorem oG3_ok : lowB (fun c => (oG3 c).all okB) = true := by decide +kernel
theorem oG4_ok : lowB (fun c => (oG4 c).all okB) = true := by decide +kernel
theorem oG5_ok : lowB (fun c => (oG5 c).all okB) = true := by decide +kernel
theorem oG7_ok : lowB (fun c => (oG7 c).all okB) = true := by decide +kernel
/-- lines of rows: letters alone -/
theorem odd_rr {a w : List Nat} {rs : List (List Nat)} (hw : Row w) (h1 : 1 ≤ w.length) (h2 : w.length ≤ 40) (h : ¬ RR a w) : OddL a rs (w ++ TLL) :=
  ⟨tell_free (tell_row hw h1 h2), by rw [List.length_append]; simp only [List.length_cons, List.length_nil]; omega, .inl (.inr ⟨w, tell_row hw h1 h2, h⟩)⟩
theorem odd_kin {a w own : List Nat} {rs : List (List Nat)} (hw : Row w) (h1 : 1 ≤ w.length) (h2 : w.length ≤ 40) (ho : own ∈ rs) (hk : kinB w own = true) : OddL a rs (w ++ TLL) :=
  ⟨tell_free (tell_row hw h1 h2), by rw [List.length_append]; simp only [List.length_cons, List.length_nil]; omega, .inr ⟨w, rfl, hw, h1, h2, own, ho, hk⟩⟩
theorem odd_head {a : List Nat} {rs : List (List Nat)} (ha : Al a) : OddL a rs (HDL ++ a) := by
  have hal := ha.2.1
  refine ⟨free_head ha, by rw [List.length_append]; simp only [List.length_cons, List.length_nil]; omega, .inl (.inl ?_)⟩
  unfold tellL
  rw [if_neg]
  intro h
  obtain ⟨t, e⟩ := h
  have hl := congrArg List.length e
  simp only [List.length_append, List.length_cons, List.length_nil] at hl
  have e2 : (t ++ TLL).getD t.length 0 = 32 := by rw [List.getD_eq_getElem?_getD, List.getElem?_append_right (Nat.le_refl _), Nat.sub_self]; rfl
  rw [e] at e2
  have ht : t.length = 0 ∨ t.length = 1 := by omega
  rcases ht with z | z
  · rw [z] at e2
    exact absurd (show (108 : Nat) = 32 from e2) (by decide)
  · rw [z] at e2
    exact absurd (show (101 : Nat) = 32 from e2) (by decide)
/-- [c, c, s, C] -/
theorem odd_two {a : List Nat} {rs : List (List Nat)} {c s : Nat} (hc : 97 ≤ c ∧ c ≤ 122) (hs : 97 ≤ s ∧ s ≤ 122) : OddL a rs ([c] ++ [50] ++ [s] ++ [up1 c] ++ TLL) := by
  have hcl : lett c = true := lett_iff.mpr (.inr hc)
  have hsl : lett s = true := lett_iff.mpr (.inr hs)
  have hul : lett (up1 c) = true := by rw [up1_low hc, lett_iff]; omega
  have hw : Wr 40 ([c] ++ [50] ++ [s] ++ [up1 c]) (repL [c] 2 ++ [s] ++ [up1 c]) := by
    have h1 : Wr 40 ([c] ++ dec 2) (repL [c] 2) := Wr.dec hcl (by decide) (by decide)
    rw [show dec 2 = [50] by decide +kernel] at h1
    exact (h1.app (Wr.one hsl)).app (Wr.one hul)
  have hlen : (repL [c] 2 ++ [s] ++ [up1 c]).length = 4 := rfl
  have ht := tell_of hw (by omega) (by intro z; rw [z] at hlen; cases hlen)
  refine ⟨tell_free ht, by simp, .inl (.inr ⟨_, ht, fun r => ?_⟩)⟩
  have := r.2.2.2 0 (by omega)
  apply this
  show c = swp (up1 c)
  rw [up1_low hc]
  unfold swp
  rw [if_pos (by omega)]; omega
/-- a first line that is none -/
def BadH (f : List Nat) : Prop := 10 ∉ f ∧ f.length ≤ 300 ∧ ¬ (HDL <+: f ∧ Al (f.drop 8))
theorem low_free {a : List Nat} (ha : Al a) : 10 ∉ a := fun h => by have := ha.2.2.1 _ h; omega
theorem bh_con {f : List Nat} (h : (!f.contains 10 && decide (f.length ≤ 300) && !(List.isPrefixOf HDL f && decide (Al (f.drop 8)))) = true) : BadH f := by
  rw [Bool.and_eq_true, Bool.and_eq_true, Bool.not_eq_true', decide_eq_true_eq] at h
  obtain ⟨⟨h1, h2⟩, h3⟩ := h
  refine ⟨(fun z => by rw [List.contains_iff_mem.mpr z] at h1; cases h1), h2, fun z => ?_⟩
  rw [List.isPrefixOf_iff_prefix.mpr z.1, decide_eq_true z.2] at h3
  cases h3
theorem glue_in {c d : Nat} : ∀ ls : List (List Nat), d ∈ glue c ls → d = c ∨ ∃ w ∈ ls, d ∈ w
  | [], h => by cases h
  | [w], h => .inr ⟨w, by simp, h⟩
  | w :: v :: r, h => by
    rw [glue_cons c w (by simp)] at h
    rcases List.mem_append.mp h with h | h
    · rcases List.mem_append.mp h with h | h
      · exact .inr ⟨w, by simp, h⟩
      · exact .inl (List.mem_singleton.mp h)
    · rcases glue_in (v :: r) h with h | ⟨u, hu, h⟩
      · exact .inl h
      · exact .inr ⟨u, List.mem_cons_of_mem _ hu, h⟩
theorem heads_ok {a : List Nat} (ha : Al a) : ∀ f ∈ [[], [108, 101, 116, 116, 101, 114, 115], HDL, [108, 101, 116, 116, 101, 114, 32] ++ a, [108, 101, 116, 116, 101, 114, 115, 32, 32] ++ a, [32, 108, 101, 116, 116, 101, 114, 115, 32] ++ a] ++
    [HDL ++ a ++ [32], HDL ++ a.map up1, [76, 101, 116, 116, 101, 114, 115, 32] ++ a, [108, 101, 116, 116, 101, 114, 115, 32, 97, 50], a] ++
    [HDL ++ [a.getD 0 0] ++ a, HDL ++ a ++ [97], [108, 101, 116, 116, 101, 114, 115, 32, 97, 98, 99, 100, 101], [108, 101, 116, 116, 101, 114, 115, 32, 45], [108, 101, 116, 116, 101, 114, 115, 9, 97, 98]] ++
    [HDL ++ TL.joinL [32] ((a ++ [122]).map fun c => [c])], BadH f := by
  have hal := ha.1
  have hal2 := ha.2.1
  have hfr := low_free ha
  have fr : ∀ {x y : List Nat}, 10 ∉ x → 10 ∉ y → 10 ∉ x ++ y := fun hx hy z => (List.mem_append.mp z).elim hx hy
  have h0 : a.getD 0 0 ∈ a := getD_mem hal
  have h0l := ha.2.2.1 _ h0
  have hup : 10 ∉ a.map up1 := fun z => by
    obtain ⟨c, hc, e⟩ := List.mem_map.mp z
    rw [up1_low (ha.2.2.1 c hc)] at e
    have := ha.2.2.1 c hc
    omega
  intro f hf
  simp only [List.cons_append, List.nil_append, List.mem_cons, List.not_mem_nil, or_false] at hf
  rcases hf with rfl | rfl | rfl | rfl | rfl | rfl | rfl | rfl | rfl | rfl | rfl | rfl | rfl | rfl | rfl | rfl | rfl
  · exact bh_con (by decide +kernel)
  · exact bh_con (by decide +kernel)
  · exact bh_con (by decide +kernel)
  · exact ⟨by simpa using hfr, by simp; omega, not_pre (i := 6) (by decide) (by simp)⟩
  · exact ⟨by simpa using hfr, by simp; omega, not_al (g := [32] ++ a) (al_sign (c := 32) (by simp) (by decide))⟩
  · exact ⟨by simpa using hfr, by simp; omega, not_pre (i := 0) (by decide) (by simp)⟩
  · exact ⟨by simpa using hfr, by simp; omega, not_al (g := a ++ [32]) (al_sign (c := 32) (by simp) (by decide))⟩
  · refine ⟨by simpa using hup, by simp; omega, not_al (g := a.map up1) (al_sign (c := up1 (a.getD 0 0)) (List.mem_map_of_mem h0) ?_)⟩
    rw [up1_low h0l]; omega
  · exact ⟨by simpa using hfr, by simp; omega, not_pre (i := 0) (by decide) (by simp)⟩
  · exact bh_con (by decide +kernel)
  · refine ⟨hfr, by omega, fun z => ?_⟩
    have := z.1.length_le
    simp only [List.length_cons, List.length_nil] at this
    omega
  · show BadH (HDL ++ [a.getD 0 0] ++ a)
    refine ⟨fr (fr (x := HDL) (by decide) (by rw [List.mem_singleton]; omega)) hfr, by simp; omega, not_al (g := [a.getD 0 0] ++ a) fun z => ?_⟩
    have := z.2.2.2
    rw [List.singleton_append, List.pairwise_cons] at this
    exact Nat.lt_irrefl _ (this.1 _ h0)
  · refine ⟨by simpa using hfr, by simp; omega, not_al (g := a ++ [97]) fun z => ?_⟩
    have := z.2.2.2
    rw [List.pairwise_append] at this
    have := this.2.2 _ h0 97 (by simp)
    omega
  · exact bh_con (by decide +kernel)
  · exact bh_con (by decide +kernel)
  · exact bh_con (by decide +kernel)
  · rw [joinL_glue]
    show BadH (HDL ++ glue 32 ((a ++ [122]).map fun c => [c]))
    have hlen : ((a ++ [122]).map fun c => [c]).flatten.length = a.length + 1 := by rw [ones_flat, List.length_append]; rfl
    have hgl := glue_len 32 ((a ++ [122]).map fun c => [c])
    rw [hlen, List.length_map, List.length_append] at hgl
    simp only [List.length_cons, List.length_nil] at hgl
    refine ⟨fr (x := HDL) (by decide) fun z => ?_, by rw [List.length_append]; simp only [List.length_cons, List.length_nil]; omega, not_al (al_sign (c := 32) ?_ (by decide))⟩
    · rcases glue_in _ z with z | ⟨w, hw, hz⟩
      · exact absurd z (by decide)
      · obtain ⟨c, hc, rfl⟩ := List.mem_map.mp hw
        rw [List.mem_singleton] at hz
        subst hz
        rcases List.mem_append.mp hc with hc | hc
        · exact hfr hc
        · exact absurd (List.mem_singleton.mp hc) (by decide)
    · cases a with
      | nil => simp at hal
      | cons x l => cases l with
        | nil => show 32 ∈ [x] ++ [32] ++ [122]; simp
        | cons y l => rw [List.cons_append, List.cons_append, List.map_cons, List.map_cons, glue_cons _ _ (by simp)]; simp
end NX
namespace NX
open PySem PySem.Spec PyProof.Rows L2
theorem RdX.mono {K : PySem.W.Frag} {H : Hp} {v : V} {X Y : List Nat → List (List Nat) → Prop} {R S : Nat → Prop} (h : RdX K H v X R) (hx : ∀ a rs, X a rs → Y a rs) (hr : ∀ k, R k → S k) : RdX K H v Y S := by
  rcases h with ⟨l, e, hl, h⟩ | ⟨hn, h⟩
  · exact .inl ⟨l, e, hl, h.imp (fun ⟨a, rs, e, h⟩ => ⟨a, rs, e, hx _ _ h⟩) fun ⟨k, e, h⟩ => ⟨k, e, hr _ h⟩⟩
  · exact .inr ⟨hn, hr _ h⟩
end NX
namespace NX
open PySem PySem.Spec PyProof.Rows L2
theorem up1_swp {c : Nat} (hc : 97 ≤ c ∧ c ≤ 122) : up1 c = swp c := by
  rw [up1_low hc]
  unfold swp
  rw [if_neg (by omega), if_pos hc]
end NX
namespace NX
open PySem PySem.Spec PyProof.Rows L2
/-! ### the lines of a text, cut and joined -/
theorem lines_tell {a : List Nat} {rs : List (List Nat)} (ha : Al a) (ht : ∀ r ∈ rs, RR a r) : (rs.map fun r => r ++ TLL).map tellL = rs.map some := by
  rw [List.map_map]
  refine List.map_congr_left fun r hr => ?_
  have h := ht r hr
  exact tell_row (h.row ha) h.2.1 h.2.2.1
/-- a text whose first lines are good, and the next one is not -/
theorem rdT_err2 {a l : List Nat} {es ls suf : List (List Nat)} (ha : Al a) (ht : Told a es) (h : ls.map tellL = es.map some) (hb : rdR a (l :: suf) es = .error (es.length + 1)) (hl : 10 ∉ l) (hs : ∀ w ∈ suf, 10 ∉ w) : rdT (glue 10 ((HDL ++ a) :: (ls ++ l :: suf))) = .error (es.length + 1) := by
  unfold rdT
  rw [cutAt_glue _ (by simp) fun w hw => by
    rcases List.mem_cons.mp hw with rfl | hw
    · exact free_head ha
    · rcases List.mem_append.mp hw with hw | hw
      · exact free_lines h w hw
      · rcases List.mem_cons.mp hw with rfl | hw
        · exact hl
        · exact hs w hw]
  unfold rdL
  dsimp only
  have e8 : (HDL ++ a).drop 8 = a := rfl
  rw [e8, if_pos ⟨List.prefix_append _ _, ha⟩, rdR_app ht _ ls [] es rfl h, hb]
theorem tell_nil : tellL [] = none := by rw [tellF_eq]; rfl
theorem line_free {r : List Nat} (h : Row r) : 10 ∉ r ++ TLL := fun z => by
  rcases List.mem_append.mp z with z | z
  · have := h 10 z
    revert this; decide
  · revert z; decide
theorem row_full {a : List Nat} {es suf : List (List Nat)} {l : List Nat} (h : 6 ≤ es.length) : rdR a (l :: suf) es = .error (es.length + 1) := by
  unfold rdR
  cases tellL l with
  | none => rfl
  | some w =>
    dsimp only
    rw [stB_full h, if_neg (by decide)]
theorem cut_neg (l : List Nat) (k : Nat) : cutL l none (some (-((k + 1 : Nat) : Int))) = l.take (l.length - (k + 1)) := by
  unfold cutL
  have e : HT.sIx l.length l.length (some (-((k + 1 : Nat) : Int))) = l.length - (k + 1) := by
    show (if (-((k + 1 : Nat) : Int)) < 0 then (-((k + 1 : Nat) : Int) + (l.length : Int)).toNat else _) = _
    rw [if_pos (by omega)]
    omega
  rw [e, HT.sIx_none, List.drop_zero, Nat.sub_zero]
theorem cutV_drop (xs : List V) (i : Nat) : cutV xs (some (i : Int)) none = xs.drop i := by
  unfold cutV
  rw [HT.sIx_none, HT.sIx_nat]
  by_cases h : i ≤ xs.length
  · rw [Nat.min_eq_left h, List.take_of_length_le (by rw [List.length_drop]; omega)]
  · rw [Nat.min_eq_right (by omega), List.drop_length, List.drop_of_length_le (by omega)]; simp
theorem r_slLD {K : PySem.W.Frag} {H : Hp} {Q : VK} {p : Addr} {ls : List (List Nat)} {i : Nat} (e : SqL K H p (ls.map T)) (h : ∀ q, H q = none → Q (.ref q) (upd H q (.lst ((ls.drop i).map T)))) : rSlG K (.ref p) (some (i : Int)) none H Q := by
  refine r_slL e fun q nq => ?_
  rw [cutV_drop, ← List.map_drop]; exact h q nq
theorem r_addLs {K : PySem.W.Frag} {H : Hp} {Q : VK} {p q : Addr} {ls ms : List (List Nat)} (h1 : H p = some (.lst (ls.map T))) (h2 : H q = some (.lst (ms.map T))) (hl : ls.length + ms.length ≤ 16777216) (h : ∀ d H', Same H H' → H d = none → H' d = some (.lst ((ls ++ ms).map T)) → Q (.ref d) H') : rAddG K (.ref p) (.ref q) H Q := by
  refine r_addL h1 h2 (by rw [List.length_map, List.length_map]; exact hl) fun d nd => ?_
  refine h d _ (Same.new1 nd) nd ?_
  rw [upd_same, List.map_append]
theorem r_slTo {K : PySem.W.Frag} {H : Hp} {Q : VK} {p : Addr} {ls : List (List Nat)} {i : Nat} (e : SqL K H p (ls.map T)) (h : ∀ q H', Same H H' → H q = none → H' q = some (.lst ((ls.take i).map T)) → Q (.ref q) H') : rSlG K (.ref p) none (some (i : Int)) H Q :=
  r_slLT e fun q nq => h q _ (Same.new1 nq) nq upd_same
theorem r_slFr {K : PySem.W.Frag} {H : Hp} {Q : VK} {p : Addr} {ls : List (List Nat)} {i : Nat} (e : SqL K H p (ls.map T)) (h : ∀ q H', Same H H' → H q = none → H' q = some (.lst ((ls.drop i).map T)) → Q (.ref q) H') : rSlG K (.ref p) (some (i : Int)) none H Q :=
  r_slLD e fun q nq => h q _ (Same.new1 nq) nq upd_same
theorem r_joinN {K : PySem.W.Frag} {H : Hp} {Q : VK} {p : Addr} {ls : List (List Nat)} (e : H p = some (.lst (ls.map T))) (hl : ∀ l ∈ ls, l.length ≤ 1000) (hn : ls.length ≤ 1000) (h : Q (T (glue 10 ls)) H) : rJoin K (T [10]) [.ref p] H Q := by
  refine r_join (SqL.of e) ?_ (by rw [joinL_glue]; exact h)
  have h1 := flat_le hl
  have h2 := Nat.mul_le_mul_right 1000 hn
  simp only [List.length_cons, List.length_nil]
  omega
end NX
namespace NX
open PySem PySem.Spec PyProof.Rows L2
/-! ### >= of texts -/
section
variable {X : Cx}
def rGeG : R2 := fun x y H Q => match x, y with
  | .int i, .int j => Q (.bl (decide (j ≤ i))) H
  | .str a, .str b => Q (.bl (!decide (a.cps.toList < b.cps.toList))) H
  | _, _ => False
theorem op_geG : OpR X (compareOp .GtE) rGeG := by
  intro pins s σ H x y v u Q I rx ry h
  unfold rGeG at h
  split at h
  · exact op_ge pins s σ H _ _ v u Q I rx ry ⟨_, _, rfl, rfl, h⟩
  · obtain ⟨t, rfl⟩ := rx
    obtain ⟨t', rfl⟩ := ry
    exact PySem.P.ge_str (fin_bl I h rfl)
  · exact h.elim
end
theorem r_geS {a b : List Nat} {H : Hp} {Q : VK} (h : Q (.bl (!decide (a < b))) H) : rGeG (T a) (T b) H Q := h
theorem r_geI {i j : Int} {H : Hp} {Q : VK} (h : Q (.bl (decide (j ≤ i))) H) : rGeG (.int i) (.int j) H Q := h
theorem r_insert {K : PySem.W.Frag} {H : Hp} {Q : VK} {p : Addr} {xs : List V} {i : Nat} {y : V} (e : H p = some (.lst xs)) (hl : xs.length < 16777216) (hi : i < 2 ^ 60) (h : Q .non (upd H p (.lst (xs.take i ++ [y] ++ xs.drop i)))) :
    ∃ (l : Addr) (zs : List V) (j : Int) (v : V), V.ref p = .ref l ∧ [V.int (i : Int), y] = [.int j, v] ∧ H l = some (.lst zs) ∧ zs.length < sizeLine ∧ 0 ≤ j ∧ j < 2 ^ 63 ∧ Q .non (upd H l (.lst (zs.take j.toNat ++ [v] ++ zs.drop j.toNat))) :=
  ⟨p, xs, (i : Int), y, rfl, rfl, e, by rw [sizeLine_eq]; exact hl, by omega, by omega, h⟩
end NX
namespace NX
open PySem PySem.Spec PyProof.Rows L2 PySem.NumText
/-! ### reading rows sign by sign -/
/-- one more digit behind the last part -/
def incP : List (Nat × List Nat) → Nat → List (Nat × List Nat)
  | [], _ => []
  | [p], c => [(p.1, p.2 ++ [c])]
  | p :: q :: r, c => p :: incP (q :: r) c
theorem incP_app (ps : List (Nat × List Nat)) (s : Nat) (d : List Nat) (c : Nat) : incP (ps ++ [(s, d)]) c = ps ++ [(s, d ++ [c])] := by
  induction ps with
  | nil => rfl
  | cons p ps ih =>
    cases ps with
    | nil => rfl
    | cons q r => show p :: incP ((q :: r) ++ [(s, d)]) c = _; rw [ih]; rfl
def prs : List Nat → List (Nat × List Nat) → Option (List (Nat × List Nat))
  | [], ps => some ps
  | c :: l, ps => if dig c = true ∧ ps ≠ [] then prs l (incP ps c) else if lett c = true then prs l (ps ++ [(c, [])]) else none
/-- a part's times: none where it can't stand -/
def ptm (most : Nat) (d : List Nat) : Option Nat := if d = [] then some 1 else if d.getD 0 0 = 48 ∨ 3 < d.length ∨ digitsVal d < 2 ∨ most < digitsVal d then none else some (digitsVal d)
def evP (most : Nat) : List (Nat × List Nat) → List Nat → Option (List Nat)
  | [], acc => some acc
  | (c, d) :: r, acc => match ptm most d with
    | none => none
    | some t => evP most r (acc ++ repL [c] t)
def chk (most : Nat) (o : Option (List Nat)) : Option (List Nat) := match o with
  | some f => if f.length ≤ most then some f else none
  | none => none
def rowP (most : Nat) (l : List Nat) : Option (List Nat) := match prs l [] with
  | none => none
  | some ps => match evP most ps [] with
    | none => none
    | some f => if 0 < f.length ∧ f.length ≤ most then some f else none
theorem evP_len {most : Nat} : ∀ (qs : List (Nat × List Nat)) (acc f : List Nat), evP most qs acc = some f → acc.length ≤ f.length
  | [], acc, f, e => by cases e; exact Nat.le_refl _
  | (c, d) :: r, acc, f, e => by
    unfold evP at e
    split at e
    · cases e
    · have := evP_len r _ f e
      rw [List.length_append] at this; omega
theorem prs_digits : ∀ (d r : List Nat) (ps : List (Nat × List Nat)) (s : Nat) (e : List Nat), (∀ c ∈ d, dig c = true) → prs (d ++ r) (ps ++ [(s, e)]) = prs r (ps ++ [(s, e ++ d)])
  | [], r, ps, s, e, _ => by rw [List.nil_append, List.append_nil]
  | c :: d, r, ps, s, e, h => by
    rw [List.cons_append]
    conv => lhs; unfold prs
    rw [if_pos ⟨h c (List.mem_cons_self ..), by simp⟩, incP_app, prs_digits d r ps s (e ++ [c]) fun z hz => h z (List.mem_cons_of_mem _ hz), List.append_assoc]; rfl
theorem times_ptm {most : Nat} {d : List Nat} (hm : most < 1000) (hd : ∀ c ∈ d, dig c = true) : (∀ t, ptm most d = some t → timesL d = some t ∧ t ≤ most ∨ (d = [] ∧ t = 1 ∧ timesL d = some 1)) ∧ (ptm most d = none → timesL d = none ∨ ∃ t, timesL d = some t ∧ most < t) := by
  unfold ptm timesL
  by_cases h0 : d = []
  · subst h0
    exact ⟨(fun t e => by cases e; exact .inr ⟨rfl, rfl, rfl⟩), fun e => nomatch e⟩
  rw [if_neg h0, if_neg h0]
  have hall : d.all dig = true := List.all_eq_true.mpr hd
  have hnum : numL d = if d = [48] ∨ d.getD 0 0 ≠ 48 then some (digitsVal d) else none := by
    unfold numL
    rw [if_neg (by rw [hall]; simp [h0])]
  by_cases h3 : 3 < d.length
  · rw [if_pos h3, if_pos (.inr (.inl h3))]
    exact ⟨(fun t e => nomatch e), fun _ => .inl rfl⟩
  rw [if_neg h3]
  by_cases h48 : d.getD 0 0 = 48
  · rw [if_pos (.inl h48)]
    refine ⟨(fun t e => nomatch e), fun _ => .inl ?_⟩
    rw [hnum]
    by_cases e : d = [48]
    · rw [if_pos (.inl e), e]; rfl
    · rw [if_neg (by simp only [not_or, Classical.not_not]; exact ⟨e, h48⟩)]
  · rw [hnum, show (if d = [48] ∨ d.getD 0 0 ≠ 48 then some (digitsVal d) else none) = some (digitsVal d) from if_pos (.inr h48)]
    dsimp only
    by_cases h2 : digitsVal d < 2
    · rw [if_pos (.inr (.inr (.inl h2))), if_neg (by omega)]
      exact ⟨(fun t e => nomatch e), fun _ => .inl rfl⟩
    · rw [if_pos (show 1 < digitsVal d by omega)]
      by_cases hmm : most < digitsVal d
      · rw [if_pos (.inr (.inr (.inr hmm)))]
        exact ⟨(fun t e => nomatch e), fun _ => .inr ⟨_, rfl, hmm⟩⟩
      · rw [if_neg (by simp only [not_or]; exact ⟨h48, h3, h2, hmm⟩)]
        exact ⟨(fun t e => by cases e; exact .inl ⟨rfl, by omega⟩), fun e => nomatch e⟩
theorem dw_nod : ∀ l : List Nat, Nod (l.dropWhile dig)
  | [] => .inl rfl
  | c :: l => by
    cases h : dig c with
    | true => rw [List.dropWhile_cons_of_pos h]; exact dw_nod l
    | false => rw [List.dropWhile_cons_of_neg (by rw [h]; decide)]; exact .inr h
theorem prs_rd {most : Nat} (hm : most < 1000) : ∀ (n : Nat) (l : List Nat) (ps : List (Nat × List Nat)), l.length ≤ n → (ps = [] ∨ Nod l) →
    (prs l ps = none ∧ ∀ acc, rd most l acc = none) ∨ ∃ qs, prs l ps = some (ps ++ qs) ∧ ∀ acc, acc.length ≤ most → rd most l acc = chk most (evP most qs acc)
  | n, [], ps, _, _ => .inr ⟨[], by rw [List.append_nil]; rfl, fun acc h => by rw [rd_nil]; show some acc = chk most (some acc); unfold chk; dsimp only; rw [if_pos h]⟩
  | 0, _ :: _, _, h, _ => by simp at h
  | n + 1, c :: l, ps, hl, hp => by
    have hnd : ¬ (dig c = true ∧ ps ≠ []) := fun z => by
      rcases hp with h | h | h
      · exact z.2 h
      · cases h
      · rw [show (c :: l).getD 0 0 = c from rfl] at h; rw [h] at z; cases z.1
    cases hc : lett c with
    | false =>
      refine .inl ⟨?_, fun acc => by rw [rd_cons, if_pos hc]⟩
      unfold prs
      rw [if_neg hnd, if_neg (by rw [hc]; decide)]
    | true =>
      obtain ⟨d, r, e, hd, hr⟩ : ∃ d r, l = d ++ r ∧ (∀ x ∈ d, dig x = true) ∧ Nod r := by
        refine ⟨l.takeWhile dig, l.dropWhile dig, List.takeWhile_append_dropWhile.symm, fun x hx => List.all_eq_true.mp List.all_takeWhile x hx, ?_⟩
        exact dw_nod l
      have e1 : prs (c :: l) ps = prs r (ps ++ [(c, d)]) := by
        conv => lhs; unfold prs
        rw [if_neg hnd, if_pos hc, e, prs_digits d r ps c [] hd, List.nil_append]
      have htw : l.takeWhile dig = d := by rw [e]; exact tw_digits hd hr
      have hdr : l.drop d.length = r := by rw [e, List.drop_left]
      have hrl : r.length ≤ n := by
        have := congrArg List.length e
        rw [List.length_append] at this
        simp only [List.length_cons] at hl
        omega
      have hrd : ∀ acc, rd most (c :: l) acc = match timesL d with
          | none => none
          | some t => if most < acc.length + t then none else rd most r (acc ++ repL [c] t) := fun acc => by
        rw [rd_cons, if_neg (by rw [hc]; decide), htw, hdr]
        all_goals (cases timesL d <;> rfl)
      obtain ⟨p1, p2⟩ := times_ptm hm hd
      have ih := prs_rd hm n r (ps ++ [(c, d)]) hrl (.inr hr)
      rw [e1]
      rcases ih with ⟨h1, h2⟩ | ⟨qs, h1, h2⟩
      · refine .inl ⟨h1, fun acc => ?_⟩
        rw [hrd]
        cases timesL d with
        | none => rfl
        | some t =>
          dsimp only
          split
          · rfl
          · exact h2 _
      · refine .inr ⟨(c, d) :: qs, by rw [h1, List.append_assoc]; rfl, fun acc hacc => ?_⟩
        rw [hrd]
        cases hp : ptm most d with
        | none =>
          have e2 : evP most ((c, d) :: qs) acc = none := by unfold evP; rw [hp]
          rw [e2]
          rcases p2 hp with h | ⟨t, h, ht⟩
          · rw [h]; rfl
          · rw [h]
            dsimp only
            rw [if_pos (by omega)]; rfl
        | some t =>
          have e2 : evP most ((c, d) :: qs) acc = evP most qs (acc ++ repL [c] t) := by conv => lhs; unfold evP; rw [hp]
          have htm : timesL d = some t := by
            rcases p1 t hp with ⟨h, _⟩ | ⟨_, rfl, h⟩ <;> exact h
          rw [htm, e2]
          dsimp only
          have hl2 : (acc ++ repL [c] t).length = acc.length + t := by rw [List.length_append, repL_len]; simp
          by_cases hov : most < acc.length + t
          · rw [if_pos hov]
            unfold chk
            cases he : evP most qs (acc ++ repL [c] t) with
            | none => rfl
            | some f =>
              have := evP_len _ _ _ he
              dsimp only
              rw [if_neg (by omega)]
          · rw [if_neg hov]
            exact h2 _ (by omega)
theorem rowP_eq {most : Nat} (hm : most < 1000) (l : List Nat) : rowP most l = rowL most l := by
  unfold rowP rowL
  rcases prs_rd hm l.length l [] (Nat.le_refl _) (.inl rfl) with ⟨h1, h2⟩ | ⟨qs, h1, h2⟩
  · rw [h1, h2]
  · rw [h1, h2 [] (by simp), List.nil_append]
    dsimp only
    cases evP most qs [] with
    | none => rfl
    | some f =>
      unfold chk
      dsimp only
      by_cases hf : f.length ≤ most
      · rw [if_pos hf]
        dsimp only
        by_cases h0 : f = []
        · subst h0; rw [if_neg (by simp), if_pos rfl]
        · rw [if_pos ⟨List.length_pos_iff.mpr h0, hf⟩, if_neg h0]
      · rw [if_neg hf, if_neg (fun z => hf z.2)]
end NX
namespace NX
open PySem PySem.Spec PyProof.Rows L2 PySem.NumText
/-! ### how long a text is that is read -/
theorem times_len {d : List Nat} {t : Nat} (h : timesL d = some t) : d.length ≤ 3 ∧ 1 ≤ t := by
  unfold timesL at h
  split at h
  · rename_i e
    cases h
    rw [e]; simp
  · split at h
    · cases h
    · rename_i h3
      split at h
      · rename_i n hn
        split at h
        · cases h; exact ⟨by omega, by omega⟩
        · cases h
      · cases h
theorem rd_long {most : Nat} : ∀ (n : Nat) (l acc w : List Nat), l.length ≤ n → rd most l acc = some w → l.length + 4 * acc.length ≤ 4 * w.length
  | _, [], acc, w, _, e => by rw [rd_nil] at e; cases e; simp
  | 0, c :: l, _, _, hl, _ => by simp at hl
  | n + 1, c :: l, acc, w, hl, e => by
    rw [rd_cons] at e
    split at e
    · cases e
    · split at e
      · cases e
      · rename_i t ht
        split at e
        · cases e
        · have h1 := rd_long n _ _ w (by rw [List.length_drop]; simp only [List.length_cons] at hl; omega) e
          obtain ⟨h2, h3⟩ := times_len ht
          rw [List.length_drop, List.length_append, repL_len] at h1
          simp only [List.length_cons, List.length_nil] at h1 ⊢
          omega
theorem tell_long {l w : List Nat} (h : tellL l = some w) : l.length ≤ 171 := by
  have hw := tell_len h
  unfold tellL at h
  split at h
  · rename_i hs
    unfold rowL at h
    split at h
    · rename_i r hr
      split at h
      · cases h
      · cases h
        have := rd_long _ _ _ _ (Nat.le_refl _) hr
        rw [List.length_take] at this
        simp only [List.length_nil] at this
        omega
    · cases h
  · cases h
theorem rdR_long {a : List Nat} : ∀ (ls rs qs : List (List Nat)), rdR a ls rs = .ok qs → ls.length + rs.length ≤ max 6 rs.length ∧ ∀ l ∈ ls, l.length ≤ 171
  | [], rs, qs, _ => ⟨by simp; omega, fun l hl => nomatch hl⟩
  | l :: ls, rs, qs, e => by
    unfold rdR at e
    split at e
    · rename_i w hw
      split at e
      · rename_i hs
        obtain ⟨h1, h2⟩ := rdR_long ls _ qs e
        have h6 := (stB_iff.mp hs).1
        rw [List.length_append, List.length_singleton] at h1
        refine ⟨by rw [List.length_cons]; omega, fun z hz => ?_⟩
        rcases List.mem_cons.mp hz with rfl | hz
        · exact tell_long hw
        · exact h2 z hz
      · cases e
    · cases e
theorem glue_cut (c : Nat) : ∀ l : List Nat, glue c (cutAt c l) = l
  | [] => rfl
  | d :: l => by
    have ih := glue_cut c l
    have hne := cutAt_ne c l
    unfold cutAt
    split
    · rename_i e
      rw [glue_cons c [] hne, ih, e]; rfl
    · split
      · rename_i h t e
        rw [e] at ih
        cases t with
        | nil => show d :: h = _; rw [show glue c [h] = h from rfl] at ih; rw [ih]
        | cons v r =>
          rw [glue_cons c (d :: h) (by simp)]
          rw [glue_cons c h (by simp)] at ih
          rw [← ih]; rfl
      · rename_i e
        exact absurd e hne
theorem rdT_long {l a : List Nat} {rs : List (List Nat)} (h : rdT l = .ok (a, rs)) : l.length ≤ 1200 ∧ 9 ≤ l.length ∧ Al a ∧ Told a rs := by
  have hg := glue_cut 10 l
  unfold rdT at h
  generalize cutAt 10 l = ls at h hg
  unfold rdL at h
  cases ls with
  | nil => cases h
  | cons f r =>
    dsimp only at h
    split at h
    · rename_i hc
      split at h
      · rename_i qs hq
        cases h
        obtain ⟨h1, h2⟩ := rdR_long _ _ _ hq
        have hfl : f.length = 8 + (f.drop 8).length := by
          have := hc.1.length_le
          simp only [List.length_cons, List.length_nil] at this
          rw [List.length_drop]; omega
        have hal := hc.2.1
        have hal2 := hc.2.2.1
        have h3 := flat_le h2
        have h4 := glue_len 10 (f :: r)
        rw [hg, List.flatten_cons, List.length_append, List.length_cons] at h4
        simp only [List.length_nil] at h1
        have h5 := Nat.mul_le_mul_right 171 (show r.length ≤ 6 by omega)
        have h6 : f.length ≤ l.length := by
          rw [← hg]
          cases r with
          | nil => exact Nat.le_refl _
          | cons v r => rw [glue_cons 10 f (by simp), List.length_append, List.length_append]; omega
        exact ⟨by omega, by omega, hc.2, rdR_told _ _ _ (told_nil _) hq⟩
      · cases h
    · cases h
/-! ### lists of parts (two texts each) -/
def tks (ps : List (Nat × List Nat)) : List (List V) := ps.map fun p => [T [p.1], T p.2]
theorem tks_app (as bs : List (Nat × List Nat)) : tks (as ++ bs) = tks as ++ tks bs := by unfold tks; rw [List.map_append]
abbrev dTk (b : Nat × List Nat) : PyData := .tuple [.str (mkS [b.1]), .str (mkS b.2)]
theorem dpAll_tk {K : PySem.W.Frag} {H : Hp} : ∀ {bs : List (Nat × List Nat)} {xs : List V}, Tps H xs (tks bs) → DpAll K H xs (bs.map dTk)
  | [], xs, h => by
    have := h.1
    cases xs with
    | nil => exact .nil
    | cons _ _ => simp [tks] at this
  | b :: bs, xs, h => by
    cases xs with
    | nil => have := h.1; simp [tks] at this
    | cons x xs =>
      obtain ⟨⟨p, rfl, e⟩, h2⟩ := Tps.tail (ts := tks bs) h
      exact .cons (.tup (SqT.of e) (.cons (.str _) (.cons (.str _) .nil))) (dpAll_tk h2)
theorem lay_tk : ∀ {bs : List (Nat × List Nat)}, (∀ b ∈ bs, b.1 < 128 ∧ Asc b.2) → PyData.canLayAll0 (bs.map dTk) = true
  | [], _ => rfl
  | b :: bs, h => by
    have hb := h b (List.mem_cons_self ..)
    show ((PyData.strOk (mkS [b.1]) && (PyData.strOk (mkS b.2) && true)) && PyData.canLayAll0 (bs.map dTk)) = true
    rw [lay_tk fun z hz => h z (List.mem_cons_of_mem _ hz), strOk_mk (l := [b.1]) (fun c hc => by rw [List.mem_singleton.mp hc]; exact hb.1), strOk_mk hb.2]; rfl
theorem deAll_tk : ∀ bs : List (Nat × List Nat), PyData.depthAll (bs.map dTk) ≤ 1
  | [] => by simp [PyData.depthAll]
  | b :: bs => by
    have h1 := deAll_tk bs
    have h2 : PyData.depthAll [PyData.str (mkS [b.1]), .str (mkS b.2)] = 0 := by simp [PyData.depthAll, PyData.depth]
    simp only [List.map_cons, PyData.depthAll, PyData.depth] at h1 h2 ⊢
    omega
theorem plain_tk : ∀ bs : List (Nat × List Nat), plainAll (bs.map dTk) = true
  | [] => rfl
  | b :: bs => by
    show ((true && (true && true)) && plainAll (bs.map dTk)) = true
    rw [plain_tk bs]; rfl
theorem r_neTk {K : PySem.W.Frag} {H : Hp} {Q : VK} {p q : Addr} {xs : List V} {bs : List (Nat × List Nat)} (h1 : SqL K H p xs) (ht : Tps H xs (tks bs)) (hb : ∀ b ∈ bs, b.1 < 128 ∧ Asc b.2) (h2 : SqL K H q []) (h : Q (.bl (!decide (bs = []))) H) : rNeG K (.ref p) (.ref q) H Q := by
  refine r_neL0 h1 (dpAll_tk ht) (shaped_list (lay_tk hb) (by have := deAll_tk bs; omega)) (plain_tk bs) h2 ?_
  rw [show decide (bs.map dTk = []) = decide (bs = []) by rw [decide_eq_decide, List.map_eq_nil_iff]]
  exact h
theorem lo1_low {c : Nat} : lo1 c ∈ ([97, 98, 99, 100, 101, 102, 103, 104, 105, 106, 107, 108, 109, 110, 111, 112, 113, 114, 115, 116, 117, 118, 119, 120, 121, 122] : List Nat) ↔ lett c = true := by
  rw [in_low, lett_iff]
  unfold lo1
  split <;> omega
theorem lo1_in {a : List Nat} {c : Nat} (ha : Al a) (hc : lett c = true) : lo1 c ∈ a ↔ c ∈ a ++ a.map up1 := by
  rw [lett_iff] at hc
  rw [List.mem_append, List.mem_map]
  unfold lo1
  rcases hc with hc | hc
  · rw [if_pos hc]
    constructor
    · intro h
      exact .inr ⟨c + 32, h, by rw [up1_low (ha.2.2.1 _ h)]; omega⟩
    · rintro (h | ⟨e, he, h⟩)
      · have := ha.2.2.1 _ h; omega
      · have h2 := ha.2.2.1 _ he
        rw [up1_low h2] at h
        rw [show c + 32 = e by omega]; exact he
  · rw [if_neg (by omega)]
    constructor
    · exact .inl
    · rintro (h | ⟨e, he, h⟩)
      · exact h
      · have h2 := ha.2.2.1 _ he
        rw [up1_low h2] at h
        omega
end NX
namespace NX
open PySem PySem.Spec PyProof.Rows L2
theorem fm_bad (p : Nat → Bool) : ∀ l : List Nat, (l.filterMap fun c => if p c = true then some (T [c]) else none) = ((l.filter p).map fun c => [c]).map T
  | [] => rfl
  | c :: l => by
    rw [List.filterMap_cons, List.filter_cons]
    cases h : p c with
    | true => rw [if_pos rfl, if_pos rfl, fm_bad p l]; rfl
    | false => rw [if_neg (by decide), if_neg (by decide), fm_bad p l]
theorem fm_ints1 (p : Nat → Bool) (n : Nat) : ((List.range n).filterMap fun i => if p i = true then some (V.int (1 + (i : Nat))) else none) = (((List.range n).filter p).map fun i : Nat => (1 + (i : Int))).map V.int := by
  generalize List.range n = l
  induction l with
  | nil => rfl
  | cons a l ih =>
    rw [List.filterMap_cons, List.filter_cons]
    cases h : p a with
    | true => rw [if_pos rfl, if_pos rfl, ih]; rfl
    | false => rw [if_neg (by decide), if_neg (by decide), ih]
theorem fil_nil {α : Type} {p : α → Bool} {l : List α} : decide ((l.filter p).length = 0) = l.all fun x => !p x := by
  induction l with
  | nil => rfl
  | cons a l ih =>
    rw [List.filter_cons, List.all_cons]
    cases h : p a with
    | true => rw [if_pos rfl]; rfl
    | false => rw [if_neg (by decide), ih]; rfl
end NX
namespace NX
open PySem PySem.Spec PyProof.Rows L2
theorem cut_negF (l : List Nat) (k : Nat) : cutL l (some (-((k + 1 : Nat) : Int))) none = l.drop (l.length - (k + 1)) := by
  have e : HT.sIx l.length 0 (some (-((k + 1 : Nat) : Int))) = l.length - (k + 1) := by
    show (if (-((k + 1 : Nat) : Int)) < 0 then (-((k + 1 : Nat) : Int) + (l.length : Int)).toNat else _) = _
    rw [if_pos (by omega)]
    omega
  unfold cutL
  rw [e, HT.sIx_none, List.take_of_length_le (by rw [List.length_drop]; omega)]
theorem rd_row {most : Nat} : ∀ (n : Nat) (l acc w : List Nat), l.length ≤ n → Row acc → rd most l acc = some w → Row w
  | _, [], acc, w, _, h, e => by rw [rd_nil] at e; cases e; exact h
  | 0, c :: l, _, _, hl, _, _ => by simp at hl
  | n + 1, c :: l, acc, w, hl, h, e => by
    rw [rd_cons] at e
    split at e
    · cases e
    · rename_i hc
      split at e
      · cases e
      · split at e
        · cases e
        · refine rd_row n _ _ w (by rw [List.length_drop]; simp only [List.length_cons] at hl; omega) (h.app ?_) e
          exact (Row.one (by cases h : lett c with | true => rfl | false => exact absurd h hc)).rep _
theorem row_row {most : Nat} {l w : List Nat} (e : rowL most l = some w) : Row w ∧ 1 ≤ w.length := by
  unfold rowL at e
  split at e
  · rename_i r hr
    split at e
    · cases e
    · rename_i hne
      cases e
      exact ⟨rd_row _ _ _ _ (Nat.le_refl _) Row.nil hr, List.length_pos_iff.mpr hne⟩
  · cases e
end NX
namespace NX
open PySem PySem.Spec PyProof.Rows L2
theorem rdT_lines {l a : List Nat} {rs : List (List Nat)} (h : rdT l = .ok (a, rs)) : (cutAt 10 l).length ≤ 7 ∧ ∀ x ∈ cutAt 10 l, x.length ≤ 171 := by
  unfold rdT at h
  generalize cutAt 10 l = ls at h
  unfold rdL at h
  cases ls with
  | nil => cases h
  | cons f r =>
    dsimp only at h
    split at h
    · rename_i hc
      split at h
      · rename_i qs hq
        obtain ⟨h1, h2⟩ := rdR_long _ _ _ hq
        have hal2 := hc.2.2.1
        rw [List.length_drop] at hal2
        simp only [List.length_nil] at h1
        refine ⟨by rw [List.length_cons]; omega, fun x hx => ?_⟩
        rcases List.mem_cons.mp hx with rfl | hx
        · omega
        · exact h2 x hx
      · cases h
    · cases h
theorem glue_asc {ls : List (List Nat)} (h : ∀ x ∈ ls, Asc x) : Asc (glue 10 ls) := fun c hc => by
  rcases glue_in _ hc with rfl | ⟨w, hw, hz⟩
  · decide
  · exact h w hw c hz
theorem cutAt_asc {l : List Nat} (h : Asc l) : ∀ x ∈ cutAt 10 l, Asc x := fun x hx c hc => h c ((cutAt_part 10 l x hx).2 c hc).1
theorem glue_short {ls : List (List Nat)} (h : ∀ x ∈ ls, x.length ≤ 400) (hn : ls.length ≤ 10) : (glue 10 ls).length ≤ 5000 := by
  have h3 := glue_len 10 ls
  have h4 := flat_le h
  have h5 := Nat.mul_le_mul_right 400 hn
  omega
theorem asc_app {x y : List Nat} (h : Asc x) (g : Asc y) : Asc (x ++ y) := fun c hc => (List.mem_append.mp hc).elim (h c) (g c)
theorem dec_asc (n : Nat) : Asc (dec n) := fun c hc => by
  have := dig_iff.mp (dec_dig n c hc); omega
theorem wrt_asc : ∀ (n : Nat) (l : List Nat), l.length ≤ n → Asc l → Asc (wrt l)
  | _, [], _, _ => by rw [wrt_nil]; exact fun c hc => nomatch hc
  | 0, _ :: _, h, _ => by simp at h
  | n + 1, c :: l, h, ha => by
    have hne : c :: l ≠ [] := by simp
    have hp := run_pos hne
    rw [wrt_ne hne]
    refine asc_app (asc_app ?_ ?_) (wrt_asc n _ (by rw [List.length_drop]; simp only [List.length_cons] at h ⊢; omega) fun d hd => ha d (List.mem_of_mem_drop hd))
    · exact fun d hd => by rw [List.mem_singleton.mp hd]; exact ha c (List.mem_cons_self ..)
    · split
      · exact fun d hd => nomatch hd
      · exact dec_asc _
theorem short_asc {l : List Nat} (h : Asc l) : Asc (short l) := by
  unfold short
  split
  · intro c hc; rw [List.mem_singleton.mp hc]; decide
  · exact wrt_asc l.length l (Nat.le_refl _) h
theorem asc_hd : Asc HDL := fun c hc => (show ∀ c ∈ HDL, c < 128 by decide) c hc
theorem asc_tl : Asc TLL := fun c hc => (show ∀ c ∈ TLL, c < 128 by decide) c hc
theorem ruleT_asc {a : List Nat} {rs : List (List Nat)} (ha : Al a) (ht : Told a rs) : Asc (ruleT a rs) := by
  unfold ruleT
  refine glue_asc fun x hx => ?_
  rcases List.mem_cons.mp hx with rfl | hx
  · exact asc_app asc_hd ha.asc
  · obtain ⟨r, hr, rfl⟩ := List.mem_map.mp hx
    exact asc_app (short_asc ((ht.2.1 r hr).row ha).asc) asc_tl
end NX
namespace NX
open PySem PySem.Spec PyProof.Rows L2
/-! ### tuples whose object is known: methods -/
theorem _root_.L2.SqT.frz {K : PySem.W.Frag} {H : Hp} {p : Addr} {o : Obj} {xs : List V} (h : H p = some (.frz o (.tup xs))) : SqT K H p xs := .inl (.inr ⟨o, h⟩)
section
variable {X : Cx} {T id : String} {name : Str} {o e : Expr} {es : List Expr} {to : TE} {t : TA} {pos apos cpos : Pos} {r : V → List V → Hp → VK → Prop}
def tyF (x : V) (H : Hp) : Prop := ∃ p ob xs, x = .ref p ∧ H p = some (.frz ob (.tup xs)) ∧ ob.dict = none
def tBMF (f : V → List V → Hp → VK → Prop) (to : TE) (t : TA) : TE := fun σ H Q => to σ H fun x H1 => tyF x H1 ∧ t σ H1 fun xs H2 => f x xs H2 Q
theorem pe_bmF (pa : PlainAttrs "tuple") (slot : Slot "tuple" name id) (hty : typeOf (.builtin id) = pure (.type "method_descriptor")) (hm : MtR X id r) (ho : PE X o to) (ha : PA X (e :: es) t)
    (hbase : attributeBase o name X.env (eval o X.env) = eval o X.env := by rfl)
    (hfew : ((backTo cpos (starEach (e :: es) X.env)).all (fun x => !x.1) && (backToKw cpos (keywordEach [] X.env)).all (fun x => x.1.isSome)
      && decide ((e :: es).length + ([] : List Keyword).length + (if ([] : List Keyword).isEmpty then 0 else 1) < 30)) = true := by rfl)
    (hline : (apos.endLine == cpos.line) = true := by rfl) (hs : starEach (e :: es) X.env = (false, eval e X.env) :: starEach es X.env := by rfl) (hplain : (backTo cpos (starEach es X.env)).any (·.1) = false := by rfl) :
    PE X (.Call (.Attribute o name apos) (e :: es) [] cpos) (tBMF r to t) where
  run := by
    intro pins s σ H Q I h
    refine wpAny_Call_method_late hbase hfew hline rfl (thn (ho.run pins s σ H _ I h) ?_)
    rintro v s1 ⟨x, H1, I1, r1, ⟨p, ob, xs, rfl, ep, hd⟩, q1⟩
    cases (show v = Value.ref p from r1)
    obtain ⟨h1, _, _, _, ⟨o2, g1, g2, _⟩⟩ := (show ObjOk X.prog X.w H1 s1.heap p (.frz ob (.tup xs)) from I1.hok p _ ep)
    refine ⟨"tuple", id, pa, slot, hty, ⟨o2, g1, g2⟩, fun a ea => ?_, ?_⟩
    · cases ea
      exact ⟨ob, h1, hd⟩
    have hA := ha.run cpos pins s1 σ H1 _ I1 q1
    rw [hs] at hA ⊢
    refine Calls.callWith_builtin (show (false || (backTo cpos (starEach es X.env)).any (·.1)) = false by rw [hplain]; rfl) (Calls.evalArgs_plain (thn hA ?_))
    rintro us s2 ⟨vs, H2, I2, r2, q2⟩
    exact hm pins s2 σ H2 (.ref p) vs (.ref p) us Q I2 rfl r2 q2
/-- tuple(a list), its object known -/
def rTupF (K : PySem.W.Frag) : List V → Hp → VK → Prop := fun xs H Q => ∃ p ys, xs = [.ref p] ∧ SqL K H p ys ∧ ∀ l ob, H l = none → ob.dict = none → Q (.ref l) (upd H l (.frz ob (.tup ys)))
theorem call_tupleFK (K : PySem.W.Frag) (hK : X.K = K := by rfl) : CallR X (.type "tuple") (rTupF K) := by
  subst hK
  intro pins s σ H xs us Q I r h
  obtain ⟨p, ys, rfl, hq, q⟩ := h
  obtain ⟨u, rfl, rx⟩ := vals1 r
  cases rx
  obtain ⟨its, r', pl, hz⟩ := I.list hq
  have hlen := r'.length
  refine call_tuple_list pl.isList (fun h' kp => ?_) (by simp only [List.size_toArray]; omega)
  have I1 : L2.Inv X pins σ H { s with heap := h' } := I.kept (t' := s.toks) kp
  have I2 : L2.Inv X pins σ (upd H h'.objs.size (.frz { cls := .type "tuple", data := .seq its.toArray } (.tup ys))) { s with heap := h'.push { cls := .type "tuple", data := .seq its.toArray } } := by
    refine I1.laid (t' := s.toks) (fun b o e => Heap.get?_push_of_some _ e) (Nat.le_refl _) ?_
    exact ⟨Heap.get?_push_size _ rfl, hz, its, r', IsTup.new _ _⟩
  exact ⟨.ref h'.objs.size, _, I2, rfl, q _ _ (I1.hok.fresh (Nat.le_refl _)) rfl⟩
end
section
variable {K : PySem.W.Frag} {H : Hp} {Q : VK} {σ : L2.St}
theorem r_bmF {f : V → List V → Hp → VK → Prop} {to : TE} {t : TA} (h : to σ H fun x H1 => tyF x H1 ∧ t σ H1 fun xs H2 => f x xs H2 Q) : tBMF f to t σ H Q := h
theorem r_tyF {p : Addr} {ob : Obj} {xs : List V} {P : Prop} (e : H p = some (.frz ob (.tup xs))) (hd : ob.dict = none) (h : P) : tyF (.ref p) H ∧ P := ⟨⟨p, ob, xs, rfl, e, hd⟩, h⟩
theorem r_tupF {p : Addr} {ys : List V} (e : SqL K H p ys) (h : ∀ l ob H', H l = none → ob.dict = none → Same H H' → H' l = some (.frz ob (.tup ys)) → Q (.ref l) H') : rTupF K [.ref p] H Q :=
  ⟨p, ys, rfl, e, fun l ob n hd => h l ob _ n hd (Same.new1 n) upd_same⟩
theorem r_ixF {p : Addr} {ob : Obj} {xs : List V} {n : String} {b : Bool} (e : H p = some (.frz ob (.tup xs))) (k : kitB "tuple" n = some b) (h : Q (.bl b) H) : rIsX K [.ref p, .ty n] H Q := .inl ⟨_, .ty n, _, _, b, rfl, .ty n, .frt e, k, h⟩
end
end NX
namespace NX
open PySem PySem.Spec PyProof.Rows L2
theorem occ_idx {l : List Nat} {c : Nat} (hc : c ∈ l) : ∃ rest, Builtin.Str.occurrences (mkS l) (mkS [c]) 0 (mkS l).length 1 = l.idxOf c :: rest := by
  obtain ⟨a, b, i, rest, e1, e2, e3, e4⟩ := r_idxS (H := fun _ => none) (Q := fun v _ => v = .int (l.idxOf c : Nat)) hc rfl
  have h1 : a = mkS l := (V.str.inj e1).symm
  have h2 : b = mkS [c] := (V.str.inj (List.cons.inj e2).1).symm
  subst h1 h2
  have h3 : i = l.idxOf c := by
    have := V.int.inj e4
    omega
  exact ⟨rest, by rw [← h3]; exact e3⟩
end NX
namespace NX
open PySem PySem.Spec PyProof.Rows L2
/-! ### figures -/
theorem erase_map {α β : Type} (f : α → β) : ∀ (l : List α) (j : Nat), (l.map f).eraseIdx j = (l.eraseIdx j).map f
  | [], _ => rfl
  | _ :: _, 0 => rfl
  | a :: l, j + 1 => by show f a :: (l.map f).eraseIdx j = f a :: (l.eraseIdx j).map f; rw [erase_map f l j]
theorem seqIx_nat {j n : Nat} (h : j < n) : seqIndex? (j : Int) n = some j := by
  unfold seqIndex?
  simp only
  rw [if_neg (show ¬ (j : Int) < 0 by omega), if_pos (by simp; omega), Int.toNat_natCast]
def FigL (H : Hp) (ps : List Addr) (n : Nat) (im : List (List Nat)) : Prop := ps.length = im.length ∧ ∀ i, i < im.length → (∃ ob : Obj, ob.dict = none ∧ H (ps.getD i 0) = some (.frz ob (.tup ((im.getD i []).map nV)))) ∧ Prm n (im.getD i [])
theorem FigL.nil {H : Hp} {n : Nat} : FigL H [] n [] := ⟨rfl, fun i hi => absurd hi (by simp)⟩
theorem FigL.kp {H H' : Hp} {ps : List Addr} {n : Nat} {im : List (List Nat)} {w : Addr} {ys : List V} (h : FigL H ps n im) (k : Kp w H H') (e : H w = some (.lst ys)) : FigL H' ps n im :=
  ⟨h.1, fun i hi => by
    obtain ⟨⟨ob, hd, eo⟩, hp⟩ := h.2 i hi
    exact ⟨⟨ob, hd, k _ _ (fun z => by rw [z, e] at eo; cases eo) eo⟩, hp⟩⟩
theorem FigL.same {H H' : Hp} {ps : List Addr} {n : Nat} {im : List (List Nat)} (h : FigL H ps n im) (s : Same H H') : FigL H' ps n im :=
  ⟨h.1, fun i hi => by
    obtain ⟨⟨ob, hd, eo⟩, hp⟩ := h.2 i hi
    exact ⟨⟨ob, hd, s _ _ eo⟩, hp⟩⟩
theorem getD_appL {α : Type} {l : List α} {x d : α} {i : Nat} (h : i < l.length) : (l ++ [x]).getD i d = l.getD i d := by
  rw [List.getD_eq_getElem?_getD, List.getElem?_append_left h, ← List.getD_eq_getElem?_getD]
theorem getD_appR {α : Type} {l : List α} {x d : α} : (l ++ [x]).getD l.length d = x := by
  rw [List.getD_eq_getElem?_getD, List.getElem?_append_right (Nat.le_refl _)]; simp
theorem FigL.snoc {H : Hp} {ps : List Addr} {n : Nat} {im : List (List Nat)} {p : Addr} {ob : Obj} {l : List Nat} (h : FigL H ps n im) (hd : ob.dict = none) (e : H p = some (.frz ob (.tup (l.map nV)))) (hp : Prm n l) : FigL H (ps ++ [p]) n (im ++ [l]) := by
  refine ⟨by simp [h.1], fun i hi => ?_⟩
  rw [List.length_append, List.length_singleton] at hi
  by_cases c : i < im.length
  · rw [getD_appL (by rw [h.1]; exact c), getD_appL c]
    exact h.2 i c
  · have : i = im.length := by omega
    subst this
    rw [← h.1, getD_appR, h.1, getD_appR]
    exact ⟨⟨ob, hd, e⟩, hp⟩
theorem Figs.of {H : Hp} {p : Addr} {n : Nat} {im : List (List Nat)} {ps : List Addr} (e : H p = some (.lst (ps.map V.ref))) (h : FigL H ps n im) : Figs H p n im := ⟨ps, e, h.1, h.2⟩
/-- lists of tuples of numbers, alike -/
theorem figs_isAt {K : PySem.W.Frag} {H : Hp} : ∀ {ps : List Addr} {n : Nat} {im : List (List Nat)}, FigL H ps n im → Paired (IsAt K H) (ps.map V.ref) (im.map fun l => l.map fun x : Nat => (x : Int))
  | [], _, [], _ => .nil
  | [], _, _ :: _, h => by cases h.1
  | _ :: _, _, [], h => by cases h.1
  | p :: ps, n, l :: im, h => by
    refine .cons ⟨p, rfl, ?_⟩ (figs_isAt (n := n) ⟨by simpa using h.1, fun i hi => h.2 (i + 1) (by simpa using hi)⟩)
    obtain ⟨⟨ob, _, e⟩, _⟩ := h.2 0 (by simp)
    rw [← nats_int]
    exact SqT.frz e
theorem r_neLLs {K : PySem.W.Frag} {H : Hp} {Q : VK} {p q : Addr} {xs ys : List V} {ls : List (List Int)} (h1 : SqL K H p xs) (hx : Paired (IsAt K H) xs ls) (h2 : SqL K H q ys) (hy : Paired (IsAt K H) ys ls) (h : Q (.bl false) H) : rNeG K (.ref p) (.ref q) H Q :=
  r_neD (c := True) (dp_all (dpAll_I hx) h1) (dp_all (dpAll_I hy) h2) (shaped_list (lay_L ls) (by have := deAll_L ls; omega)) (shaped_list (lay_L ls) (by have := deAll_L ls; omega)) (plain_L ls) (plain_L ls) ⟨fun _ => trivial, fun _ => rfl⟩ (by simpa using h)
theorem ledF_nil (a : List Nat) (im : List (List Nat)) (x : Nat) : ledF a im [] x = x := rfl
theorem al_nodup {a : List Nat} (ha : Al a) : a.Nodup := ha.2.2.2.imp fun h => Nat.ne_of_lt h
theorem idx_at {a : List Nat} (ha : Al a) {k : Nat} (hk : k < a.length) : a.idxOf (a.getD k 0) = k := by
  have hm := getD_mem (l := a) hk
  have h1 := List.idxOf_lt_length_of_mem hm
  have h2 := idx_getD hm
  rcases Nat.lt_trichotomy (a.idxOf (a.getD k 0)) k with c | c | c
  · have := ha.lt c hk
    rw [h2] at this; exact absurd this (Nat.lt_irrefl _)
  · exact c
  · have := ha.lt c h1
    rw [h2] at this; exact absurd this (Nat.lt_irrefl _)
theorem ledF_one {a : List Nat} (ha : Al a) {im : List (List Nat)} {k x : Nat} (hk : k < a.length) : ledF a im [a.getD k 0] x = (im.getD k []).getD x 0 := by
  show stp a im (a.getD k 0) x = _
  unfold stp
  rw [if_pos (getD_mem hk), idx_at ha hk]
theorem range_getN {l : List Nat} {n : Nat} (h : l.length = n) : (List.range n).map (fun x => l.getD x 0) = l := by
  subst h
  apply List.ext_getElem
  · simp
  · intro i h1 h2
    rw [List.getElem_map, List.getElem_range, getD_el h2]
theorem log_pts {i : Int} (h0 : 0 ≤ i) (h : i < 1000) : i.natAbs.log2 < 1920 := log_small (by omega)
/-- repr of a tuple of small numbers -/
theorem r_reprN {K : PySem.W.Frag} {H : Hp} {Q : VK} {p : Addr} {l : List Nat} (e : SqT K H p (l.map nV)) (hr : ∀ x ∈ l, x < 1000) (hl : l.length ≤ 1000) (h : Q (.str (dIs (l.map fun x : Nat => (x : Int))).shown) H) : rReprD K [.ref p] H Q := by
  rw [nats_int] at e
  refine r_reprI e (fun i hi => ?_) (by rw [List.length_map]; exact hl) h
  obtain ⟨x, hx, rfl⟩ := List.mem_map.mp hi
  have := hr x hx
  exact log_pts (by omega) (by omega)
end NX
namespace NX
theorem ledF_lt {a : List Nat} {im : List (List Nat)} {n : Nat} (ha : Al a) (hl : im.length = a.length) (hp : ∀ i, i < im.length → Prm n (im.getD i [])) : ∀ {l : List Nat} {x : Nat}, RowOf a l → x < n → ledF a im l x < n
  | [], x, _, hx => hx
  | c :: l, x, hr, hx => by
    show ledF a im l (stp a im c x) < n
    exact ledF_lt ha hl hp (fun d hd => hr d (List.mem_cons_of_mem _ hd)) (stp_lt ha hl hp (hr c (List.mem_cons_self ..)) hx)
end NX
namespace NX
theorem erase_perm {α : Type} : ∀ (l : List α) (j : Nat) (h : j < l.length), (l[j] :: l.eraseIdx j).Perm l
  | a :: l, 0, _ => .refl _
  | a :: l, j + 1, h => by
    have hj : j < l.length := by simpa using h
    exact (List.Perm.swap a l[j] (l.eraseIdx j)).trans ((erase_perm l j hj).cons a)
end NX
namespace NX
open PySem PySem.Spec PyProof.Rows L2
/-! ### tuple(range(..)), its object known -/
section
variable {X : Cx} {e : Expr} {te : L2.St → Hp → (Int → Int → Hp → Prop) → Prop}
def tTupRgF (te : L2.St → Hp → (Int → Int → Hp → Prop) → Prop) : TE := fun σ H Q => te σ H fun a b H1 => RgOk a b ∧ ∀ q ob, H1 q = none → ob.dict = none → Q (.ref q) (upd H1 q (.frz ob (.tup (rgV a b))))
theorem pe_tupRgF {p pos : Pos} (hc : X.calm = true) (hg : Gl X "tuple") (hm : X.mg "tuple" = none) (he : PRg X e te) (na : starEach [e] X.env = (false, eval e X.env) :: starEach [] X.env := by rfl) : PE X (.Call (.Name "tuple" p) [e] [] pos) (tTupRgF te) := by
  refine ⟨fun pins s σ H Q I h => ?_⟩
  refine Call_ (ld_blt I hg hm boot_tuple (PyProof.Rows.callWith_type1 (args_cons (thn (he pins s σ H _ I h) fun x s1 ⟨r, a, b, t, u, v, H1, ex, hr, I1, ok, q⟩ => args_nil ?_) na) na))
  subst ex
  obtain ⟨b1, b2, b3, b4, b5⟩ := ok
  refine call_tuple_range (n := (b - a).toNat) (I1.ok.hd hc) hr (small_one b1 b2 b3 b4) (rangeSize_nat a b) b5 fun h' tk acc hk hi => ?_
  have I2 : Inv X pins σ H1 { s1 with heap := h', toks := tk } := I1.kept hk
  refine ⟨.ref h'.objs.size, upd H1 h'.objs.size (.frz { cls := .type "tuple", data := .seq acc } (.tup (rgV a b))), I2.laid (t' := tk) (fun c o e => Heap.get?_push_of_some _ e) (Nat.le_refl _) ?_, rfl, q _ _ (I2.hok.fresh (Nat.le_refl _)) rfl⟩
  refine ⟨Heap.get?_push_size _ rfl, ?_, acc.toList, vals_rg hi, ?_⟩
  · rw [rgV_length, sizeLine_eq]; omega
  · rw [Array.toArray_toList]; exact IsTup.new _ _
end
section
variable {K : PySem.W.Frag} {σ : L2.St} {H : Hp} {Q : VK} {ta : TE}
def TRgF (Q : VK) (x : V) (H1 : Hp) : Prop := ∃ n, x = .int n ∧ RgOk 0 n ∧ ∀ q ob, H1 q = none → ob.dict = none → Q (.ref q) (upd H1 q (.frz ob (.tup (rgV 0 n))))
theorem r_tupRgF (h : ta σ H (TRgF Q)) : tTupRgF (tRg1 ta) σ H Q := h
theorem r_tRgF {n : Nat} (hn : n ≤ 16777216) (h : ∀ q ob H', H q = none → ob.dict = none → Same H H' → H' q = some (.frz ob (.tup ((List.range n).map nV))) → Q (.ref q) H') : TRgF Q (.int (n : Int)) H :=
  ⟨n, rfl, RgOk.of_le (by omega) (by omega) (by omega) (by omega), fun q ob nq hd => by
    rw [rgV_nat]
    exact h q ob _ nq hd (Same.new1 nq) upd_same⟩
end
end NX
namespace NX
open PySem PySem.Spec PyProof.Rows L2
/-! ### rows that move no point -/
def stay (a : List Nat) (im : List (List Nat)) (n : Nat) (l : List Nat) : Bool := (List.range n).all fun x => decide (ledF a im l x = x)
theorem stay_iff {a : List Nat} {im : List (List Nat)} {n : Nat} {l : List Nat} : stay a im n l = true ↔ ∀ x, x < n → ledF a im l x = x := by
  unfold stay
  rw [List.all_eq_true]
  exact ⟨fun h x hx => of_decide_eq_true (h x (List.mem_range.mpr hx)), fun h x hx => decide_eq_true (h x (List.mem_range.mp hx))⟩
theorem stay_no {a : List Nat} {im : List (List Nat)} {n : Nat} {l : List Nat} {x : Nat} (hx : x < n) (h : ledF a im l x ≠ x) : stay a im n l = false := by
  cases e : stay a im n l with
  | false => rfl
  | true => exact absurd (stay_iff.mp e x hx) h
theorem Prm.range (n : Nat) : Prm n (List.range n) := List.Perm.refl _
theorem Prm.nodup {n : Nat} {l : List Nat} (h : Prm n l) : l.Nodup := (List.Perm.nodup_iff h).mpr List.nodup_range
theorem idx_of_nodup {l : List Nat} (h : l.Nodup) {i : Nat} (hi : i < l.length) : l.idxOf (l.getD i 0) = i := by
  rw [getD_el hi]
  exact h.idxOf_getElem i hi
theorem map_idx {l : List Nat} (h : l.Nodup) : l.map (fun x => l.idxOf x) = List.range l.length := by
  apply List.ext_getElem
  · simp
  · intro i h1 h2
    have hi : i < l.length := by simpa using h1
    rw [List.getElem_map, List.getElem_range, ← getD_el hi]
    exact idx_of_nodup h hi
theorem prm_inv {n : Nat} {l : List Nat} (h : Prm n l) : Prm n ((List.range n).map fun x => l.idxOf x) := by
  have h1 := (List.Perm.map (fun x => l.idxOf x) h).symm
  rw [map_idx h.nodup, h.len] at h1
  exact h1
theorem prm_stp {a : List Nat} {im : List (List Nat)} {n c : Nat} (ha : Al a) (hl : im.length = a.length) (hp : ∀ i, i < im.length → Prm n (im.getD i [])) (hc : c ∈ a ++ a.map up1) : Prm n ((List.range n).map (stp a im c)) := by
  by_cases h : c ∈ a
  · have hj := List.idxOf_lt_length_of_mem h
    have h1 := hp (a.idxOf c) (by omega)
    have : (List.range n).map (stp a im c) = im.getD (a.idxOf c) [] := by
      refine Eq.trans (List.map_congr_left fun x _ => ?_) (range_getN h1.len)
      unfold stp; rw [if_pos h]
    rw [this]; exact h1
  · have hlo := (lo_mem ha hc h).1
    have hj := List.idxOf_lt_length_of_mem hlo
    have h1 := hp (a.idxOf (lo1 c)) (by omega)
    have : (List.range n).map (stp a im c) = (List.range n).map fun x => (im.getD (a.idxOf (lo1 c)) []).idxOf x :=
      List.map_congr_left fun x _ => by unfold stp; rw [if_neg h]
    rw [this]; exact prm_inv h1
theorem prm_led {a : List Nat} {im : List (List Nat)} {n : Nat} (ha : Al a) (hl : im.length = a.length) (hp : ∀ i, i < im.length → Prm n (im.getD i [])) : ∀ {l : List Nat}, RowOf a l → Prm n ((List.range n).map (ledF a im l))
  | [], _ => by
    have : (List.range n).map (ledF a im []) = List.range n := by
      rw [show (ledF a im []) = id from rfl, List.map_id]
    rw [this]; exact Prm.range n
  | c :: l, hr => by
    have h1 := prm_led ha hl hp (l := l) fun d hd => hr d (List.mem_cons_of_mem _ hd)
    have h2 := prm_stp ha hl hp (hr c (List.mem_cons_self ..))
    have h3 := List.Perm.map (ledF a im l) h2
    rw [List.map_map] at h3
    exact h3.trans h1
/-- all arrangements -/
def arr : Nat → List Nat → List (List Nat)
  | 0, _ => [[]]
  | n + 1, L => L.flatMap fun x => (arr n (L.erase x)).map (x :: ·)
theorem arr_mem : ∀ (l L : List Nat), l.Perm L → l ∈ arr l.length L
  | [], _, _ => List.mem_singleton.mpr rfl
  | x :: t, L, h => by
    obtain ⟨h1, h2⟩ := List.cons_perm_iff_perm_erase.mp h
    refine List.mem_flatMap.mpr ⟨x, h1, List.mem_map.mpr ⟨t, arr_mem t _ h2, rfl⟩⟩
def itr (p : List Nat) : Nat → Nat → Nat
  | 0, x => x
  | k + 1, x => itr p k (p.getD x 0)
def homeB (n : Nat) : Bool := (arr n (List.range n)).all fun p => (List.range 6).any fun k => (List.range n).all fun x => Nat.beq (itr p (k + 1) x) x
theorem home_all : (List.range 7).all homeB = true := by decide +kernel
theorem home {n : Nat} {p : List Nat} (h : Prm n p) (hn : n ≤ 6) : ∃ k, k < 6 ∧ ∀ x, x < n → itr p (k + 1) x = x := by
  have h1 := List.all_eq_true.mp home_all n (List.mem_range.mpr (by omega))
  have h2 : p ∈ arr n (List.range n) := by
    have := arr_mem p _ h
    rwa [h.len] at this
  obtain ⟨k, hk, h3⟩ := List.any_eq_true.mp (List.all_eq_true.mp h1 p h2)
  exact ⟨k, List.mem_range.mp hk, fun x hx => Nat.eq_of_beq_eq_true (List.all_eq_true.mp h3 x (List.mem_range.mpr hx))⟩
theorem ledF_app (a : List Nat) (im : List (List Nat)) (l m : List Nat) (x : Nat) : ledF a im (l ++ m) x = ledF a im m (ledF a im l x) := by unfold ledF; rw [List.foldl_append]
theorem ledF_rep {a l : List Nat} {im : List (List Nat)} {n : Nat} (ha : Al a) (hl : im.length = a.length) (hp : ∀ i, i < im.length → Prm n (im.getD i [])) (hr : RowOf a l) : ∀ (k : Nat) {x : Nat}, x < n → ledF a im (repL l k) x = itr ((List.range n).map (ledF a im l)) k x
  | 0, _, _ => rfl
  | k + 1, x, hx => by
    rw [repL_succ, ledF_app, ledF_rep ha hl hp hr k (ledF_lt ha hl hp hr hx)]
    show _ = itr _ k (((List.range n).map (ledF a im l)).getD x 0)
    rw [List.getD_eq_getElem?_getD, List.getElem?_map, List.getElem?_range hx]; rfl
/-- some power up to the sixth moves no point -/
theorem home_row {a l : List Nat} {im : List (List Nat)} {n : Nat} (ha : Al a) (hl : im.length = a.length) (hp : ∀ i, i < im.length → Prm n (im.getD i [])) (hr : RowOf a l) (hn : n ≤ 6) : ∃ k, k < 6 ∧ stay a im n (repL l (k + 1)) = true := by
  obtain ⟨k, hk, h⟩ := home (prm_led ha hl hp hr) hn
  exact ⟨k, hk, stay_iff.mpr fun x hx => by rw [ledF_rep ha hl hp hr (k + 1) hx]; exact h x hx⟩
/-- the first of the times at which a row moves none -/
theorem home_first {a l : List Nat} {im : List (List Nat)} {n : Nat} (ha : Al a) (hl : im.length = a.length) (hp : ∀ i, i < im.length → Prm n (im.getD i [])) (hr : RowOf a l) (hn : n ≤ 6) :
    ∃ (k : Nat) (ks : List Nat), (List.range 6).filter (fun k => stay a im n (repL l (k + 1))) = k :: ks ∧ k < 6 ∧ stay a im n (repL l (k + 1)) = true := by
  obtain ⟨k0, h0, h1⟩ := home_row ha hl hp hr hn
  have hm : k0 ∈ (List.range 6).filter (fun k => stay a im n (repL l (k + 1))) := List.mem_filter.mpr ⟨List.mem_range.mpr h0, h1⟩
  cases e : (List.range 6).filter (fun k => stay a im n (repL l (k + 1))) with
  | nil => rw [e] at hm; cases hm
  | cons k ks =>
    have : k ∈ (List.range 6).filter (fun k => stay a im n (repL l (k + 1))) := by rw [e]; exact List.mem_cons_self ..
    obtain ⟨h2, h3⟩ := List.mem_filter.mp this
    exact ⟨k, ks, rfl, List.mem_range.mp h2, h3⟩
/-- the map that moves no point -/
theorem led_still {a : List Nat} {n m : Nat} (ha : Al a) {x : Nat} (hx : x < n) : ∀ {l : List Nat}, RowOf a l → ledF a (List.replicate a.length (List.range n)) l x = x
  | [], _ => rfl
  | c :: l, hr => by
    have hc := hr c (List.mem_cons_self ..)
    have hrep : ∀ i, i < a.length → (List.replicate a.length (List.range n)).getD i [] = List.range n := fun i hi => by
      rw [List.getD_eq_getElem?_getD, List.getElem?_replicate, if_pos hi]; rfl
    have : stp a (List.replicate a.length (List.range n)) c x = x := by
      unfold stp
      by_cases h : c ∈ a
      · rw [if_pos h, hrep _ (List.idxOf_lt_length_of_mem h), List.getD_eq_getElem?_getD, List.getElem?_range hx]; rfl
      · rw [if_neg h, hrep _ (List.idxOf_lt_length_of_mem (lo_mem ha hc h).1)]
        have := idx_of_nodup (l := List.range n) List.nodup_range (i := x) (by simpa using hx)
        rwa [List.getD_eq_getElem?_getD, List.getElem?_range hx] at this
    show ledF a _ l (stp a _ c x) = x
    rw [this]
    exact led_still (m := m) ha hx fun d hd => hr d (List.mem_cons_of_mem _ hd)
theorem stay_still {a l : List Nat} {n : Nat} (ha : Al a) (hr : RowOf a l) : stay a (List.replicate a.length (List.range n)) n l = true :=
  stay_iff.mpr fun x hx => led_still (m := 0) ha hx hr
theorem told_insert {a l : List Nat} {rs : List (List Nat)} (ha : Al a) (h : Told a rs) (hn : rs.length < 6) (hl : RR a l) (hk : ∀ r ∈ rs, kinB l r = false) (j : Nat) : Told a (rs.take j ++ [l] ++ rs.drop j) := by
  refine Told.perm ha (h.snoc hn hl hk) ?_
  have h1 : (rs ++ [l]).Perm (l :: rs) := List.perm_append_comm
  refine h1.trans ?_
  rw [List.append_assoc]
  have h2 : (l :: (rs.take j ++ rs.drop j)).Perm (rs.take j ++ l :: rs.drop j) := List.perm_middle.symm
  rwa [List.take_append_drop] at h2
/-- the kin, listed in two lots -/
theorem kin2_mem {l m : List Nat} (hl : Row l) (hm : Row m) (hp : 0 < m.length) : l ∈ rots m ++ rots (bak m) ↔ kinB l m = true := by
  have hr : ∀ m S : List Nat, 0 < m.length → (S ∈ rots m ↔ Turn m S) := fun m S hp => by
    unfold rots
    rw [List.mem_map]
    constructor
    · rintro ⟨i, hi, rfl⟩
      exact turn_cut m i
    · intro h
      obtain ⟨i, hi, e⟩ := h.rot
      rcases Nat.lt_or_ge i m.length with q | q
      · exact ⟨i, List.mem_range.mpr q, e.symm⟩
      · refine ⟨0, List.mem_range.mpr hp, ?_⟩
        have : i = m.length := by omega
        subst this
        rw [e]; simp [rot]
  rw [List.mem_append, kinB_iff, hr m l hp, hr (bak m) l (by rw [bak_len]; exact hp)]
end NX
namespace NX
theorem stay_filter (a : List Nat) (im : List (List Nat)) (n : Nat) (l : List Nat) : decide ((((List.range n).filter fun x => !decide (ledF a im l x = x)).map fun x : Nat => (x : Int)) = []) = stay a im n l := by
  cases e : stay a im n l with
  | true =>
    have h := stay_iff.mp e
    refine decide_eq_true ?_
    rw [List.map_eq_nil_iff, List.filter_eq_nil_iff]
    intro x hx
    rw [decide_eq_true (h x (List.mem_range.mp hx))]; decide
  | false =>
    refine decide_eq_false fun h => ?_
    rw [List.map_eq_nil_iff, List.filter_eq_nil_iff] at h
    have : stay a im n l = true := stay_iff.mpr fun x hx => by
      have h1 := h x (List.mem_range.mpr hx)
      by_cases c : ledF a im l x = x
      · exact c
      · rw [decide_eq_false c] at h1; exact absurd rfl h1
    rw [this] at e; cases e
end NX
namespace NX
theorem stay_all {a : List Nat} {im : List (List Nat)} {n : Nat} (rs : List (List Nat)) : decide (rs.filter (fun r => !stay a im n r) = []) = rs.all (stay a im n) := by
  cases e : rs.all (stay a im n) with
  | true =>
    refine decide_eq_true (List.filter_eq_nil_iff.mpr fun r hr => ?_)
    rw [List.all_eq_true.mp e r hr]; decide
  | false =>
    refine decide_eq_false fun h => ?_
    have : rs.all (stay a im n) = true := List.all_eq_true.mpr fun r hr => by
      have h1 := List.filter_eq_nil_iff.mp h r hr
      cases c : stay a im n r with
      | true => rfl
      | false => rw [c] at h1; exact absurd rfl h1
    rw [this] at e; cases e
theorem rep_snoc {α : Type} (n : Nat) (x : α) : List.replicate n x ++ [x] = List.replicate (n + 1) x := by
  rw [List.replicate_succ']
end NX
namespace NX
theorem fm_filterL (f : List Nat → Bool) (g : List Nat → V) : ∀ l : List (List Nat), l.filterMap (fun x => if f x = true then some (g x) else none) = (l.filter f).map g
  | [] => rfl
  | x :: l => by
    rw [List.filterMap_cons, List.filter_cons]
    cases e : f x with
    | true => simp [fm_filterL f g l]
    | false => simpa using fm_filterL f g l
end NX
namespace NX
open PySem PySem.Spec PyProof.Rows L2
/-! ### rows and their backs lead back -/
theorem swp_up1 {c : Nat} (h : 97 ≤ c ∧ c ≤ 122) : swp c = up1 c := by unfold swp up1; (repeat' split) <;> omega
theorem al_cases {a : List Nat} (ha : Al a) {c : Nat} (hc : c ∈ a ++ a.map up1) : (c ∈ a ∧ swp c = up1 c ∧ swp c ∉ a ∧ lo1 (swp c) = c) ∨ (c ∉ a ∧ swp c = lo1 c ∧ lo1 c ∈ a) := by
  by_cases h : c ∈ a
  · left
    have h1 := ha.2.2.1 c h
    have h2 : swp c = up1 c := swp_up1 h1
    have h3 : up1 c = c - 32 := by unfold up1; (repeat' split) <;> omega
    refine ⟨h, h2, fun z => ?_, ?_⟩
    · have := ha.2.2.1 _ z
      omega
    · rw [h2, h3]; unfold lo1; (repeat' split) <;> omega
  · right
    obtain ⟨h1, h2⟩ := lo_mem ha hc h
    have h3 := ha.2.2.1 _ h1
    have h4 : up1 (lo1 c) = lo1 c - 32 := by unfold up1; (repeat' split) <;> omega
    refine ⟨h, ?_, h1⟩
    have h5 : c = lo1 c - 32 := by omega
    generalize lo1 c = d at *
    subst h5
    unfold swp; (repeat' split) <;> omega
section
variable {a : List Nat} {im : List (List Nat)} {n : Nat}
theorem stp_swp (ha : Al a) (hl : im.length = a.length) (hp : ∀ i, i < im.length → Prm n (im.getD i [])) {c x : Nat} (hc : c ∈ a ++ a.map up1) (hx : x < n) : stp a im (swp c) (stp a im c x) = x := by
  rcases al_cases ha hc with ⟨h1, h2, h3, h4⟩ | ⟨h1, h2, h3⟩
  · have hj := List.idxOf_lt_length_of_mem h1
    have hq := hp (a.idxOf c) (by omega)
    unfold stp
    rw [if_pos h1, if_neg h3, h4]
    exact idx_of_nodup hq.nodup (by rw [hq.len]; exact hx)
  · have hj := List.idxOf_lt_length_of_mem h3
    have hq := hp (a.idxOf (lo1 c)) (by omega)
    unfold stp
    rw [if_neg h1, h2, if_pos h3]
    exact idx_getD (hq.mem.mpr hx)
theorem swp_in (ha : Al a) {c : Nat} (hc : c ∈ a ++ a.map up1) : swp c ∈ a ++ a.map up1 := by
  rcases al_cases ha hc with ⟨h1, h2, h3, h4⟩ | ⟨h1, h2, h3⟩
  · rw [h2]; exact List.mem_append_right _ (List.mem_map.mpr ⟨c, h1, rfl⟩)
  · rw [h2]; exact List.mem_append_left _ h3
theorem bak_cons (c : Nat) (l : List Nat) : bak (c :: l) = bak l ++ [swp c] := by unfold bak; rw [List.reverse_cons, List.map_append]; rfl
theorem led_bak (ha : Al a) (hl : im.length = a.length) (hp : ∀ i, i < im.length → Prm n (im.getD i [])) : ∀ {l : List Nat} {x : Nat}, RowOf a l → x < n → ledF a im (bak l) (ledF a im l x) = x
  | [], _, _, _ => rfl
  | c :: l, x, hr, hx => by
    have hc := hr c (List.mem_cons_self ..)
    have hr' : RowOf a l := fun d hd => hr d (List.mem_cons_of_mem _ hd)
    rw [bak_cons, ledF_app]
    show ledF a im [swp c] (ledF a im (bak l) (ledF a im l (stp a im c x))) = x
    rw [led_bak ha hl hp hr' (stp_lt ha hl hp hc hx)]
    exact stp_swp ha hl hp hc hx
theorem led_back (ha : Al a) (hl : im.length = a.length) (hp : ∀ i, i < im.length → Prm n (im.getD i [])) {l : List Nat} {x : Nat} (hr : RowOf a l) (hx : x < n) : ledF a im l (ledF a im (bak l) x) = x := by
  have h := led_bak ha hl hp (RowOf.bak ha hr) hx
  rwa [bak_bak (hr.row ha)] at h
theorem led_push (ha : Al a) (hl : im.length = a.length) (hp : ∀ i, i < im.length → Prm n (im.getD i [])) {s : List Nat} {c x : Nat} (hs : RowOf a s) (hc : c ∈ a ++ a.map up1) (hx : x < n) : ledF a im (push s c).reverse x = ledF a im (s.reverse ++ [c]) x := by
  cases s with
  | nil => rfl
  | cons t r =>
    rw [push_cons]
    by_cases h : t = swp c
    · rw [if_pos h, List.reverse_cons, ledF_app, ledF_app]
      have hr : RowOf a r.reverse := fun d hd => hs d (List.mem_cons_of_mem _ (List.mem_reverse.mp hd))
      have hy := ledF_lt ha hl hp hr hx
      show _ = stp a im c (stp a im t (ledF a im r.reverse x))
      have hlc : lett c = true := (RowOf.row ha (l := [c]) fun d hd => by rw [List.mem_singleton.mp hd]; exact hc) c (List.mem_singleton.mpr rfl)
      have h2 := stp_swp ha hl hp (swp_in ha hc) hy
      rw [swp_swp hlc] at h2
      rw [h, h2]
    · rw [if_neg h, List.reverse_cons]
theorem push_inR {s : List Nat} {c : Nat} (hs : RowOf a s) (hc : c ∈ a ++ a.map up1) : RowOf a (push s c) := by
  cases s with
  | nil => exact fun d hd => by rw [List.mem_singleton.mp hd]; exact hc
  | cons t r =>
    rw [push_cons]
    split
    · exact fun d hd => hs d (List.mem_cons_of_mem _ hd)
    · exact fun d hd => (List.mem_cons.mp hd).elim (fun e => by rw [e]; exact hc) (hs d)
theorem led_stk (ha : Al a) (hl : im.length = a.length) (hp : ∀ i, i < im.length → Prm n (im.getD i [])) : ∀ {l s : List Nat} {x : Nat}, RowOf a s → RowOf a l → x < n → ledF a im (l.foldl push s).reverse x = ledF a im (s.reverse ++ l) x
  | [], s, x, _, _, _ => by rw [List.append_nil]; rfl
  | c :: l, s, x, hs, hr, hx => by
    have hc := hr c (List.mem_cons_self ..)
    have hr' : RowOf a l := fun d hd => hr d (List.mem_cons_of_mem _ hd)
    show ledF a im (l.foldl push (push s c)).reverse x = _
    rw [led_stk ha hl hp (push_inR hs hc) hr' hx, ledF_app, led_push ha hl hp hs hc hx, ← ledF_app, List.append_assoc]; rfl
/-- a row leads as its least row -/
theorem led_red (ha : Al a) (hl : im.length = a.length) (hp : ∀ i, i < im.length → Prm n (im.getD i [])) {l : List Nat} {x : Nat} (hr : RowOf a l) (hx : x < n) : ledF a im (red l) x = ledF a im l x :=
  led_stk ha hl hp (s := []) (fun d hd => nomatch hd) hr hx
end
/-! ### a map along a row -/
/-- where a letter leads a point along a row, if told -/
def f0 (c : Nat) (l : List Nat) (x : Nat) : Option Nat := if l[x]? = some c then some (x + 1) else if 0 < x ∧ l[x - 1]? = some (up1 c) then some (x - 1) else none
def fr (c : Nat) (l : List Nat) (m : Nat) : List (Option Nat) := (List.range m).map (f0 c l)
def ov : Option Nat → V
  | none => .non
  | some k => nV k
theorem fr_len (c : Nat) (l : List Nat) (m : Nat) : (fr c l m).length = m := by unfold fr; simp
theorem fr_at {c : Nat} {l : List Nat} {m x : Nat} (h : x < m) : (fr c l m)[x]? = some (f0 c l x) := by unfold fr; rw [List.getElem?_map, List.getElem?_range h]; rfl
theorem fr_nil (c m : Nat) : fr c [] m = List.replicate m none := by
  apply List.ext_getElem?
  intro x
  by_cases h : x < m
  · rw [fr_at h, List.getElem?_replicate, if_pos h]; unfold f0; simp
  · rw [List.getElem?_eq_none (by rw [fr_len]; omega), List.getElem?_eq_none (by simp; omega)]
theorem f0_snoc {c d : Nat} {l : List Nat} {x : Nat} : f0 c (l ++ [d]) x = if x = l.length ∧ d = c then some (x + 1) else if x = l.length + 1 ∧ d = up1 c then some l.length else f0 c l x := by
  unfold f0
  have hat : ∀ y, (l ++ [d])[y]? = if y = l.length then some d else l[y]? := fun y => by
    by_cases h : y < l.length
    · rw [List.getElem?_append_left h, if_neg (by omega)]
    · rw [List.getElem?_append_right (by omega)]
      by_cases e : y = l.length
      · rw [if_pos e, e, Nat.sub_self]; rfl
      · rw [if_neg e, List.getElem?_eq_none (by simp; omega), List.getElem?_eq_none (by omega)]
  rw [hat, hat]
  rcases Nat.lt_trichotomy x l.length with h | h | h
  · rw [if_neg (show ¬ x = l.length by omega), if_neg (show ¬ (x = l.length ∧ d = c) by omega), if_neg (show ¬ (x = l.length + 1 ∧ d = up1 c) by omega), if_neg (show ¬ x - 1 = l.length by omega)]
  · subst h
    have e1 : l[l.length]? = none := List.getElem?_eq_none (Nat.le_refl _)
    by_cases h2 : d = c
    · simp [h2]
    · by_cases h3 : l.length = 0
      · have h4 : ¬ 0 < l.length := by omega
        simp [h2, h4]
      · have h4 : ¬ l.length - 1 = l.length := by omega
        simp [h2, h4]
  · have h1 : ¬ x = l.length := by omega
    have e1 : l[x]? = none := List.getElem?_eq_none (by omega)
    by_cases h2 : x = l.length + 1
    · subst h2
      have e2 : l[l.length]? = none := List.getElem?_eq_none (Nat.le_refl _)
      simp
    · have h3 : ¬ x - 1 = l.length := by omega
      have e2 : l[x - 1]? = none := List.getElem?_eq_none (by omega)
      simp [h1, h2, h3, e1]
theorem up_ne {c : Nat} (h : 97 ≤ c ∧ c ≤ 122) : up1 c ≠ c := by unfold up1; (repeat' split) <;> omega
theorem fr_set1 {c : Nat} {l : List Nat} {m : Nat} (hc : 97 ≤ c ∧ c ≤ 122) (h : l.length < m) : (fr c l m).set l.length (some (l.length + 1)) = fr c (l ++ [c]) m := by
  have hu := up_ne hc
  apply List.ext_getElem?
  intro x
  by_cases hx : x < m
  · rw [List.getElem?_set, fr_at hx, fr_at hx, f0_snoc]
    by_cases e : l.length = x
    · subst e; rw [if_pos rfl, if_pos (by rw [fr_len]; exact h), if_pos ⟨rfl, rfl⟩]
    · rw [if_neg e, if_neg (fun z => e z.1.symm), if_neg (fun z => hu z.2.symm)]
  · rw [List.getElem?_eq_none (by rw [List.length_set, fr_len]; omega), List.getElem?_eq_none (by rw [fr_len]; omega)]
theorem fr_set2 {c : Nat} {l : List Nat} {m : Nat} (hc : 97 ≤ c ∧ c ≤ 122) (h : l.length + 1 < m) : (fr c l m).set (l.length + 1) (some l.length) = fr c (l ++ [up1 c]) m := by
  have hu := up_ne hc
  apply List.ext_getElem?
  intro x
  by_cases hx : x < m
  · rw [List.getElem?_set, fr_at hx, fr_at hx, f0_snoc, if_neg (show ¬ (x = l.length ∧ up1 c = c) from fun z => hu z.2)]
    by_cases e : l.length + 1 = x
    · subst e; rw [if_pos rfl, if_pos (by rw [fr_len]; exact h), if_pos ⟨rfl, rfl⟩]
    · rw [if_neg e, if_neg (fun z => e z.1.symm)]
  · rw [List.getElem?_eq_none (by rw [List.length_set, fr_len]; omega), List.getElem?_eq_none (by rw [fr_len]; omega)]
theorem fr_skip {c d : Nat} {l : List Nat} {m : Nat} (h1 : d ≠ c) (h2 : d ≠ up1 c) : fr c (l ++ [d]) m = fr c l m := by
  unfold fr
  refine List.map_congr_left fun x _ => ?_
  rw [f0_snoc, if_neg (fun z => h1 z.2), if_neg (fun z => h2 z.2)]
/-- a part of a permutation -/
def Part (m : Nat) (g : List (Option Nat)) : Prop := g.length = m ∧ (∀ (x v : Nat), g[x]? = some (some v) → v < m) ∧ ∀ (x y v : Nat), g[x]? = some (some v) → g[y]? = some (some v) → x = y
theorem at_next {l : List Nat} (hf : Free l) {k c d : Nat} (h1 : l[k]? = some c) (h2 : l[k + 1]? = some d) : d ≠ swp c := by
  have hk : k + 1 < l.length := (List.getElem?_eq_some_iff.mp h2).1
  have := free_at hf hk
  rwa [List.getD_eq_getElem?_getD, List.getD_eq_getElem?_getD, h1, h2] at this
theorem swp_up2 {c : Nat} (h : 97 ≤ c ∧ c ≤ 122) : swp (up1 c) = c := by
  have h3 : up1 c = c - 32 := by unfold up1; (repeat' split) <;> omega
  rw [h3]; unfold swp; (repeat' split) <;> omega
theorem fr_part {c : Nat} {l : List Nat} (hc : 97 ≤ c ∧ c ≤ 122) (hf : Free l) : Part (l.length + 1) (fr c l (l.length + 1)) := by
  have hx : ∀ {x v : Nat}, (fr c l (l.length + 1))[x]? = some (some v) → x < l.length + 1 ∧ ((l[x]? = some c ∧ v = x + 1 ∧ x < l.length) ∨ (0 < x ∧ l[x - 1]? = some (up1 c) ∧ v = x - 1)) := fun {x v} h => by
    have hlt : x < l.length + 1 := by have := (List.getElem?_eq_some_iff.mp h).1; rwa [fr_len] at this
    rw [fr_at hlt] at h
    have h := Option.some.inj h
    unfold f0 at h
    refine ⟨hlt, ?_⟩
    split at h
    · rename_i h1
      exact .inl ⟨h1, (Option.some.inj h).symm, (List.getElem?_eq_some_iff.mp h1).1⟩
    · split at h
      · rename_i h1
        exact .inr ⟨h1.1, h1.2, (Option.some.inj h).symm⟩
      · cases h
  refine ⟨fr_len .., fun x v h => ?_, fun x y v h1 h2 => ?_⟩
  · obtain ⟨h0, h1 | h1⟩ := hx h <;> omega
  · obtain ⟨a0, a1 | a1⟩ := hx h1 <;> obtain ⟨b0, b1 | b1⟩ := hx h2
    · omega
    · have e : y - 1 = x + 1 := by omega
      have := at_next hf a1.1 (e ▸ b1.2.1)
      exact absurd (swp_up1 hc).symm this
    · have e : x - 1 = y + 1 := by omega
      have := at_next hf b1.1 (e ▸ a1.2.1)
      exact absurd (swp_up1 hc).symm this
    · omega
/-- a value is left for a point without one -/
theorem Part.left {m : Nat} {g : List (Option Nat)} (h : Part m g) {p : Nat} (hp : g[p]? = some none) : ∃ k, k < m ∧ some k ∉ g := by
  refine Classical.byContradiction fun hno => ?_
  have hall : ∀ k, k < m → some k ∈ g := fun k hk => Classical.byContradiction fun z => hno ⟨k, hk, z⟩
  have hnd : (none :: (List.range m).map some : List (Option Nat)).Nodup := by
    rw [List.nodup_cons]
    refine ⟨fun z => ?_, ?_⟩
    · obtain ⟨_, _, e⟩ := List.mem_map.mp z; cases e
    · exact List.Pairwise.map some (fun a b e z => e (Option.some.inj z)) List.nodup_range
  have hsub : (none :: (List.range m).map some : List (Option Nat)) ⊆ g := fun z hz => by
    rcases List.mem_cons.mp hz with rfl | hz
    · exact List.mem_of_getElem? hp
    · obtain ⟨k, hk, rfl⟩ := List.mem_map.mp hz
      exact hall k (List.mem_range.mp hk)
  have := hnd.length_le_of_subset hsub
  rw [List.length_cons, List.length_map, List.length_range] at this
  have := h.1
  omega
theorem Part.put {m : Nat} {g : List (Option Nat)} (h : Part m g) {p k : Nat} (hp : g[p]? = some none) (hk : k < m) (hn : some k ∉ g) : Part m (g.set p (some k)) := by
  have hat : ∀ {x v : Nat}, (g.set p (some k))[x]? = some (some v) → (x = p ∧ v = k) ∨ g[x]? = some (some v) := fun {x v} z => by
    rw [List.getElem?_set] at z
    by_cases e : p = x
    · rw [if_pos e] at z
      split at z
      · exact .inl ⟨e.symm, (Option.some.inj (Option.some.inj z)).symm⟩
      · cases z
    · rw [if_neg e] at z; exact .inr z
  refine ⟨by rw [List.length_set]; exact h.1, fun x v z => ?_, fun x y v z1 z2 => ?_⟩
  · rcases hat z with z | z
    · omega
    · exact h.2.1 x v z
  · rcases hat z1 with a1 | a1 <;> rcases hat z2 with b1 | b1
    · omega
    · exact absurd (List.mem_of_getElem? b1) (by rw [a1.2]; exact hn)
    · exact absurd (List.mem_of_getElem? a1) (by rw [b1.2]; exact hn)
    · exact h.2.2 x y v a1 b1
/-- a whole one is a permutation -/
theorem Part.prm {m : Nat} {g : List (Option Nat)} (h : Part m g) (hall : ∀ x, x < m → g[x]? ≠ some none) : ∃ l : List Nat, g = l.map some ∧ Prm m l := by
  have e : g = (g.map fun o => o.getD 0).map some := by
    apply List.ext_getElem?
    intro x
    rw [List.map_map, List.getElem?_map]
    by_cases hx : x < m
    · have h1 := hall x hx
      have h2 : x < g.length := by have := h.1; omega
      cases e : g[x]? with
      | none => rw [List.getElem?_eq_getElem h2] at e; cases e
      | some o => cases o with
        | none => exact absurd e h1
        | some v => rfl
    · have h2 : g.length ≤ x := by have := h.1; omega
      rw [List.getElem?_eq_none h2]; rfl
  refine ⟨_, e, ?_⟩
  generalize (g.map fun o => o.getD 0) = l at e
  subst e
  have hl : l.length = m := by have := h.1; rwa [List.length_map] at this
  have hg : ∀ {x v : Nat}, l[x]? = some v → (l.map some)[x]? = some (some v) := fun z => by rw [List.getElem?_map, z]; rfl
  have hnd : l.Nodup := by
    refine List.pairwise_iff_getElem.mpr fun i j hi hj hij e => ?_
    have h1 := List.getElem?_eq_getElem hj
    have h2 := List.getElem?_eq_getElem hi
    rw [e] at h2
    have := h.2.2 i j _ (hg h2) (hg h1)
    omega
  have hlt : ∀ v ∈ l, v < m := fun v hv => by
    obtain ⟨i, hi, rfl⟩ := List.getElem_of_mem hv
    exact h.2.1 i _ (hg (List.getElem?_eq_getElem hi))
  refine (List.perm_ext_iff_of_nodup hnd List.nodup_range).mpr fun v => ⟨fun hv => List.mem_range.mpr (hlt v hv), fun hv => ?_⟩
  refine Classical.byContradiction fun hn => ?_
  have := (List.nodup_cons.mpr ⟨hn, hnd⟩).length_le_of_subset (l₂ := List.range m) fun z hz => (List.mem_cons.mp hz).elim (fun e => e ▸ hv) fun hz => List.mem_range.mpr (hlt z hz)
  rw [List.length_cons, List.length_range, hl] at this
  omega
end NX
namespace NX
open PySem PySem.Spec PyProof.Rows L2
/-- a list of points goes on with what a row tells of a letter -/
def Ext (c : Nat) (l q : List Nat) : Prop := ∀ x v, x < l.length + 1 → f0 c l x = some v → q.getD x 0 = v
theorem fil_led {c : Nat} {l : List Nat} {g : List (Option Nat)} {q : List Nat} (h : ∀ (x v : Nat), (fr c l (l.length + 1))[x]? = some (some v) → g[x]? = some (some v)) (e : g = q.map some) : Ext c l q := fun x v hx hv => by
  have h1 := h x v (by rw [fr_at hx, hv])
  rw [e, List.getElem?_map] at h1
  rw [List.getD_eq_getElem?_getD]
  cases e2 : q[x]? with
  | none => rw [e2] at h1; cases h1
  | some u => rw [e2] at h1; exact Option.some.inj (Option.some.inj h1)
theorem along_stp {a l : List Nat} {im : List (List Nat)} (ha : Al a) (hr : RowOf a l) (hf : Free l) (hl : im.length = a.length) (hp : ∀ i, i < im.length → Prm (l.length + 1) (im.getD i [])) (he : ∀ i, i < im.length → Ext (a.getD i 0) l (im.getD i [])) {k : Nat} (hk : k < l.length) : stp a im (l.getD k 0) k = k + 1 := by
  have hc := hr _ (getD_mem hk)
  have hat : l[k]? = some (l.getD k 0) := by rw [List.getElem?_eq_getElem hk, getD_el hk]
  generalize l.getD k 0 = c at *
  unfold stp
  by_cases h : c ∈ a
  · have hj := List.idxOf_lt_length_of_mem h
    rw [if_pos h]
    refine he (a.idxOf c) (by omega) k (k + 1) (by omega) ?_
    rw [idx_getD h]
    unfold f0; rw [if_pos hat]
  · obtain ⟨h1, h2⟩ := lo_mem ha hc h
    have hj := List.idxOf_lt_length_of_mem h1
    have h3 := ha.2.2.1 _ h1
    rw [if_neg h]
    have h4 := he (a.idxOf (lo1 c)) (by omega) (k + 1) k (by omega) (by
      rw [idx_getD h1]
      unfold f0
      rw [if_neg, if_pos ⟨by omega, by rw [Nat.add_sub_cancel, h2]; exact hat⟩]
      · rfl
      · intro z
        refine at_next hf hat z ?_
        have h5 := swp_up2 h3
        rw [h2] at h5
        exact h5.symm)
    have hq := hp (a.idxOf (lo1 c)) (by omega)
    have := idx_of_nodup hq.nodup (i := k + 1) (by rw [hq.len]; omega)
    rwa [h4] at this
theorem along_led {a l : List Nat} {im : List (List Nat)} (h : ∀ k, k < l.length → stp a im (l.getD k 0) k = k + 1) : ∀ k, k ≤ l.length → ledF a im (l.take k) 0 = k
  | 0, _ => rfl
  | k + 1, hk => by
    rw [take_snoc (getD_some (show k < l.length by omega)), ledF_snoc, along_led h k (by omega)]
    exact h k (by omega)
theorem along_all {a l : List Nat} {im : List (List Nat)} (h : ∀ k, k < l.length → stp a im (l.getD k 0) k = k + 1) : ledF a im l 0 = l.length := by
  have := along_led h l.length (Nat.le_refl _)
  rwa [List.take_length] at this
theorem inV_ov (k : Nat) (g : List (Option Nat)) : inV (.int (k : Int)) (g.map ov) = decide (some k ∈ g) := by
  unfold inV
  rw [Bool.eq_iff_iff, decide_eq_true_iff, List.any_map, List.any_eq_true]
  constructor
  · rintro ⟨o, ho, h⟩
    cases o with
    | none => cases h
    | some v =>
      have : (v : Int) = (k : Int) := by simpa [Function.comp, ov, eqV, nV] using h
      have e : v = k := by omega
      exact e ▸ ho
  · intro h
    exact ⟨some k, h, by simp [Function.comp, ov, eqV, nV]⟩
theorem flat_ov (g : List (Option Nat)) : (g.map ov).all flatV = true := by
  rw [List.all_map, List.all_eq_true]; intro x _; cases x <;> rfl
theorem r_notinO {K : PySem.W.Frag} {H : Hp} {Q : VK} {p : Addr} {k : Nat} {g : List (Option Nat)} (e : SqL K H p (g.map ov)) (h : Q (.bl (!decide (some k ∈ g))) H) : rNotInG K (.int (k : Int)) (.ref p) H Q :=
  .inr ⟨p, _, rfl, .inl e, rfl, flat_ov g, by rw [inV_ov]; exact h⟩
end NX
namespace NX
open PySem PySem.Spec PyProof.Rows L2
theorem Part.first {m : Nat} {g : List (Option Nat)} (h : Part m g) {p : Nat} (hp : g[p]? = some none) : ∃ (k : Nat) (ks : List Nat), (List.range m).filter (fun k => !decide (some k ∈ g)) = k :: ks ∧ k < m ∧ some k ∉ g := by
  obtain ⟨k0, h0, h1⟩ := h.left hp
  have hm : k0 ∈ (List.range m).filter (fun k => !decide (some k ∈ g)) := List.mem_filter.mpr ⟨List.mem_range.mpr h0, by rw [decide_eq_false h1]; rfl⟩
  cases e : (List.range m).filter (fun k => !decide (some k ∈ g)) with
  | nil => rw [e] at hm; cases hm
  | cons k ks =>
    have : k ∈ (List.range m).filter (fun k => !decide (some k ∈ g)) := by rw [e]; exact List.mem_cons_self ..
    obtain ⟨h2, h3⟩ := List.mem_filter.mp this
    refine ⟨k, ks, rfl, List.mem_range.mp h2, fun z => ?_⟩
    rw [decide_eq_true z] at h3; cases h3
theorem ixN_at {n j : Nat} (h : j < n) : ixN n (j : Int) = some j := by
  unfold ixN
  rw [if_pos (by omega), if_pos (by omega), Int.toNat_natCast]
end NX
namespace NX
open PySem PySem.Spec PyProof.Rows L2
theorem Figs.kp {H H' : Hp} {p w : Addr} {n : Nat} {im : List (List Nat)} {ys : List V} (h : Figs H p n im) (hp : p ≠ w) (k : Kp w H H') (e : H w = some (.lst ys)) : Figs H' p n im := by
  obtain ⟨ps, e1, e2, e3⟩ := h
  exact Figs.of (k _ _ hp e1) (FigL.kp (⟨e2, e3⟩ : FigL H ps n im) k e)
theorem at_rng {m x : Nat} {f : Nat → V} (h : x < m) : atI ((List.range m).map f) (x : Int) = some (f x) := atI_nat (by rw [List.getElem?_map, List.getElem?_range h]; rfl)
theorem Figs.prm {H : Hp} {p : Addr} {n : Nat} {im : List (List Nat)} (h : Figs H p n im) : ∀ i, i < im.length → Prm n (im.getD i []) := by
  obtain ⟨ps, e1, e2, e3⟩ := h
  exact fun i hi => (e3 i hi).2
section
variable {a : List Nat} {im : List (List Nat)} {n : Nat}
theorem led_within (ha : Al a) (hl : im.length = a.length) (hp : ∀ i, i < im.length → Prm n (im.getD i [])) {f s : List Nat} {x : Nat} (hf : RowOf a f) (hs : RowOf a s) (hx : x < n) : ledF a im s (ledF a im (red [s, f, bak s].flatten) x) = ledF a im f (ledF a im s x) := by
  have hb := RowOf.bak ha hs
  have h1 := ledF_lt ha hl hp hs hx
  have h2 := ledF_lt ha hl hp hf h1
  rw [show [s, f, bak s].flatten = s ++ (f ++ bak s) by simp, led_red ha hl hp (hs.app (hf.app hb)) hx, ledF_app, ledF_app, led_back ha hl hp hs h2]
theorem led_both (ha : Al a) (hl : im.length = a.length) (hp : ∀ i, i < im.length → Prm n (im.getD i [])) {f s : List Nat} {x : Nat} (hf : RowOf a f) (hs : RowOf a s) (hx : x < n) : ledF a im (red [f, s].flatten) x = ledF a im s (ledF a im f x) := by
  rw [show [f, s].flatten = f ++ s by simp, led_red ha hl hp (hf.app hs) hx, ledF_app]
theorem led_nm (ha : Al a) (hl : im.length = a.length) (hp : ∀ i, i < im.length → Prm n (im.getD i [])) {f : List Nat} {x : Nat} (hf : RowOf a f) (hx : x < n) : ledF a im (f ++ bak f) x = x := by
  rw [ledF_app, led_bak ha hl hp hf hx]
end
end NX
namespace NX
open PySem PySem.Spec PyProof.Rows L2
theorem r_eqTi {K : PySem.W.Frag} {H : Hp} {Q : VK} {p q : Addr} {as bs : List Int} (h1 : SqT K H p (as.map V.int)) (h2 : SqT K H q (bs.map V.int)) (h : Q (.bl (decide (as = bs))) H) : rEqG K (.ref p) (.ref q) H Q :=
  r_eqD (dp_allT (dpAll_ints as) h1) (dp_allT (dpAll_ints bs) h2) (shaped_tup (lay_ints as) (by rw [depth_ints]; decide)) (shaped_tup (lay_ints bs) (by rw [depth_ints]; decide)) (plain_ints as) (plain_ints bs) (by rw [PyData.tuple.injEq]; exact ints_inj) h
end NX
local macro_rules | `(tactic| walk_at "len") => `(tactic| first | assumption | omega | (simp only [List.length_append, List.length_map, List.length_reverse, List.length_cons, List.length_nil, List.length_drop, List.length_take, List.length_singleton, NX.repL_len] at *; omega))
local macro_rules | `(tactic| walk_at "ne") => `(tactic| first | assumption | (apply Ne.symm; assumption) | exact L2.ne_of_none (by assumption) (by assumption) | exact (L2.ne_of_none (by assumption) (by assumption)).symm)
local macro_rules | `(tactic| walk_at "look") => `(tactic| first | assumption | exact L2.upd_same | (refine Eq.trans (L2.upd_ne (by walk_at "ne")) ?_; walk_at "look"))
local macro_rules | `(tactic| walk_at "sql") => `(tactic| first | assumption | exact L2.SqL.of (by walk_at "look"))
local macro_rules | `(tactic| walk_at "sqt") => `(tactic| first | assumption | exact L2.SqT.of (by walk_at "look"))
local macro_rules | `(tactic| walk_at "st") => `(tactic| first
  | with_reducible refine NX.r_seq ?_
  | with_reducible refine NX.r_asg ?_
  | with_reducible refine NX.r_gname ?_
  | with_reducible refine NX.r_gsub ?_
  | with_reducible refine NX.r_par ?_
  | with_reducible refine NX.r_par2 ?_
  | with_reducible refine NX.r_par3 ?_
  | with_reducible refine NX.r_par33 ?_
  | ((with_reducible refine' NX.r_gtup ?h ?a ?_); (case h => walk_at "sqt"); (case a => rfl))
  | with_reducible refine NX.r_gcons ?_
  | with_reducible refine NX.r_gnil ?_
  | with_reducible refine NX.r_ret ?_
  | with_reducible refine NX.r_drop ?_
  | with_reducible refine NX.r_next ?_
  | with_reducible refine NX.r_ifs ?_
  | with_reducible refine NX.r_var (by with_unfolding_all rfl) ?_
  | with_reducible refine NX.r_c ?_
  | with_reducible refine NX.r_op ?_
  | with_reducible refine NX.r_un ?_
  | with_reducible refine NX.r_neg ?_
  | with_reducible refine NX.r_tif ?_
  | with_reducible refine NX.r_cb ?_
  | with_reducible refine NX.r_nil ?_
  | with_reducible refine NX.r_cons ?_
  | with_reducible refine NX.r_call ?_
  | with_reducible refine NX.r_callkw ?_
  | with_reducible refine NX.r_bm0 ?_
  | with_reducible refine NX.r_bm ?_
  | with_reducible refine NX.r_m1 ?_
  | with_reducible refine NX.r_isS ?_
  | with_reducible refine NX.r_tyS ?_
  | ((with_reducible refine' NX.r_tyL ?h ?_); (case h => walk_at "look"))
  | with_reducible refine NX.r_sl ?_
  | with_reducible refine NX.r_poN ?_
  | with_reducible refine NX.r_poS ?_
  | with_reducible refine NX.r_int1 ?_
  | with_reducible refine NX.r_rev ?_
  | ((with_reducible refine' NX.r_revS ?h ?_); (case h => walk_at "len"))
  | ((with_reducible refine' NX.r_revL ?h ?_); (case h => walk_at "sql"))
  | with_reducible refine NX.r_wipe (by with_unfolding_all rfl) ?_
  | with_reducible refine NX.r_yes ?_
  | with_reducible refine NX.r_ifNT ?_
  | with_reducible refine NX.r_ifNF ?_
  | with_reducible refine NX.r_test ?_
  | with_reducible refine NX.r_bl ?_
  | with_reducible refine NX.r_and ?_
  | with_reducible refine NX.r_or ?_
  | with_reducible refine NX.r_not ?_
  | with_reducible refine NX.r_andT ?_
  | with_reducible refine NX.r_orT ?_
  | with_reducible refine NX.r_notT ?_
  | with_reducible refine NX.r_tru ?_
  | with_reducible refine NX.r_truB ?_
  | with_reducible refine NX.r_truI ?_
  | ((with_reducible refine' NX.r_truS ?h ?_); (case h => walk_at "len"))
  | with_reducible refine L2.iteT ?_
  | with_reducible refine L2.iteF ?_
  | with_reducible refine NX.r_I0 ?_
  | with_reducible refine NX.r_p9 ?_
  | with_reducible refine NX.r_p18 ?_
  | with_reducible refine NX.r_p20 ?_
  | with_reducible refine NX.r_p6 ?_
  | with_reducible refine NX.r_p7 ?_
  | with_reducible refine NX.r_p31 ?_
  | with_reducible refine NX.r_p33 ?_
  | with_reducible refine NX.r_p37 ?_
  | with_reducible refine NX.r_p39 ?_
  | with_reducible refine NX.r_p36 ?_
  | with_reducible refine NX.r_p40 ?_
  | with_reducible refine NX.r_p41 ?_
  | with_reducible refine NX.r_p43 ?_
  | ((with_reducible refine' NX.r_mod ?h ?_); (case h => first | decide | omega))
  | ((with_reducible refine' NX.r_fdivW ?h ?_); (case h => first | decide | omega))
  | ((with_reducible refine' NX.r_ixL ?h ?a ?_); (case h => walk_at "sql"); (case a => rfl))
  | ((with_reducible refine' NX.r_setL ?h ?a ?_); (case h => walk_at "look"); (case a => rfl))
  | ((with_reducible refine' NX.r_mulc ?h ?_); (case h => first | decide | omega))
  | ((with_reducible refine' NX.r_mulc' ?h ?_); (case h => first | decide | omega))
  | with_reducible refine NX.r_lst ?_
  | with_reducible refine NX.r_tup ?_
  | ((with_reducible refine' NX.r_new ?h ?_); (case h => simp only [List.length_cons, List.length_nil]; decide))
  | with_reducible refine NX.r_addI ?_
  | ((with_reducible refine' NX.r_addS ?h ?_); (case h => walk_at "len"))
  | with_reducible refine NX.r_eqSS ?_
  | with_reducible refine NX.r_neSS ?_
  | with_reducible refine NX.r_eqII ?_
  | with_reducible refine NX.r_neII ?_
  | with_reducible refine NX.r_eqBB ?_
  | with_reducible refine NX.r_neBB ?_
  | with_reducible refine NX.r_eqS ?_
  | with_reducible refine NX.r_neS ?_
  | with_reducible refine NX.r_eqI ?_
  | with_reducible refine NX.r_neI ?_
  | with_reducible refine NX.r_eqB ?_
  | with_reducible refine NX.r_neB ?_
  | with_reducible refine NX.r_in1 ?_
  | with_reducible refine NX.r_notin1 ?_
  | ((with_reducible refine' NX.r_slS ?h ?_); (case h => walk_at "len"))
  | ((with_reducible refine' NX.r_lenS ?h ?_); (case h => walk_at "len"))
  | ((with_reducible refine' NX.r_lenL ?h ?_); (case h => walk_at "sql"))
  | with_reducible refine NX.r_int ?_
  | with_reducible refine NX.r_c1 ?_
  | with_reducible refine NX.r_c2 ?_
  | with_reducible refine NX.r_isiS ?_
  | with_reducible refine NX.r_isiI ?_
  | with_reducible refine NX.r_isiIb ?_
  | ((with_reducible refine' NX.r_isiT ?h ?_); (case h => walk_at "look"))
  | ((with_reducible refine' NX.r_isiL ?h ?_); (case h => walk_at "look"))
  | ((with_reducible refine' NX.r_lenT ?h ?_); (case h => walk_at "sqt"))
  | ((with_reducible refine' NX.r_ixT ?h ?a ?_); (case h => walk_at "sqt"); (case a => rfl))
  | with_reducible refine NX.r_reprB ?_
  | with_reducible refine NX.r_eqZZ ?_
  | with_reducible refine NX.r_neZZ ?_
  | with_reducible refine NX.r_isT1 ?_
  | with_reducible refine NX.r_isT0 ?_
  | with_reducible refine NX.r_isTT ?_
  | with_reducible refine NX.r_isNN ?_
  | with_reducible refine NX.r_isSN ?_
  | with_reducible refine NX.r_isRN ?_
  | with_reducible refine NX.r_isnNN ?_
  | with_reducible refine NX.r_isnSN ?_
  | with_reducible refine NX.r_isnRN ?_
  | with_reducible refine NX.r_whb ?_
  | with_reducible refine NX.r_for ?_
  | with_reducible refine NX.r_lc ?_
  | with_reducible refine NX.r_lc2 ?_
  | with_reducible refine NX.r_iG ?_
  | with_reducible refine NX.r_iR1 ?_
  | with_reducible refine NX.r_iR2 ?_
  | with_reducible refine NX.r_goS ?_
  | with_reducible refine NX.r_iE ?_
  | with_reducible refine NX.r_ltI ?_
  | with_reducible refine NX.r_ltS ?_
  | with_reducible refine NX.r_iES ?_
  | with_reducible refine NX.r_iZS ?_
  | with_reducible refine NX.r_fld ?_
  | with_reducible refine NX.r_sfld ?_
  | with_reducible refine NX.r_make ?_
  | with_reducible refine NX.r_meth ?_
  | with_reducible refine NX.r_dput ?_
  | with_reducible refine NX.r_dget ?_
  | with_reducible refine NX.r_lstRg ?_
  | with_reducible refine NX.r_tupRg ?_
  | with_reducible refine NX.r_tupRgF ?_
  | with_reducible refine NX.r_chain ?_
  | with_reducible refine NX.r_inT ?_
  | with_reducible refine NX.r_notinT ?_)
local macro_rules | `(tactic| walk_at "go") => `(tactic| repeat walk_at "st")
local macro_rules | `(tactic| walk_at "ty") => `(tactic| first | assumption | exact L2.TyX.base L2.TyOf.non | exact L2.TyX.base (L2.TyOf.bl _) | exact L2.TyX.base (L2.TyOf.int _) | exact L2.TyX.base (L2.TyOf.str _) | exact L2.TyX.base (L2.TyOf.lst (by walk_at "look")) | exact L2.TyX.base (L2.TyOf.tup (by walk_at "look")) | exact L2.TyX.base (L2.TyOf.dK (by walk_at "look")))
local macro_rules | `(tactic| walk_at "st") => `(tactic| first
  | with_reducible refine NX.r_callx ?_
  | with_reducible refine NX.r_geI ?_
  | with_reducible refine NX.r_callkwx ?_
  | with_reducible refine NX.r_methx ?_
  | with_reducible refine NX.r_makex ?_
  | with_reducible refine NX.r_makeKw ?_
  | with_reducible refine NX.r_iEZ ?_
  | with_reducible refine NX.r_star ?_
  | with_reducible refine NX.r_methKw ?_
  | with_reducible refine NX.r_rz ?_
  | with_reducible refine NX.r_ri ?_
  | with_reducible refine NX.r_vei ?_
  | with_reducible refine NX.r_ost ?_
  | with_reducible refine NX.r_xf ?_
  | with_reducible refine NX.r_sortSet ?_
  | ((with_reducible refine' NX.r_ixB (b := true) ?ty ?k ?_); (case ty => walk_at "ty"); (case k => rfl))
  | ((with_reducible refine' NX.r_ixB (b := false) ?ty ?k ?_); (case ty => walk_at "ty"); (case k => rfl)))
local macro_rules | `(tactic| walk_at "st") => `(tactic| first
  | ((with_reducible refine' NX.r_ifdT ?h ?_); (case h => decide))
  | ((with_reducible refine' NX.r_ifdF ?h ?_); (case h => decide))
  | ((with_reducible refine' NX.r_ifndT ?h ?_); (case h => decide))
  | ((with_reducible refine' NX.r_ifndF ?h ?_); (case h => decide)))
local macro_rules | `(tactic| walk_at "st") => `(tactic| first
  | ((with_reducible refine' NX.r_rpI ?h ?_); (case h => first | assumption | exact NX.log_small (by omega) | decide))
  | with_reducible refine NX.r_rpB ?_
  | with_reducible refine NX.r_rpN ?_)
local macro_rules | `(tactic| walk_at "st") => `(tactic| first
  | with_reducible refine NX.r_jsE ?_
  | with_reducible refine NX.r_js ?_
  | with_reducible refine NX.r_js0 ?_
  | with_reducible refine NX.r_fmt ?_
  | ((with_reducible refine' NX.r_jsT ?h ?_); (case h => walk_at "len"))
  | ((with_reducible refine' NX.r_fmtS ?h ?_); (case h => walk_at "len"))
  | ((with_reducible refine' NX.r_fmtI ?h ?_); (case h => omega)))

namespace K34
open PySem PySem.Spec PyProof.Rows L2 NX
def topS (i : Nat) : Stmt := PySem.Challenge.pw_sixthrows_k34_whole_free_rows_led_apart.main.body.getD i (.Pass ⟨0, 0, 0, 0⟩)
abbrev s_is_whole : Stmt := topS 11
abbrev N_is_whole : List Str := ["value"]
theorem sc_is_whole : FnScope N_is_whole ["value"] (defScope s_is_whole) := ⟨rfl, rfl, rfl, by decide +kernel, rfl, by decide +kernel, by decide +kernel⟩
abbrev s_is_row : Stmt := topS 12
abbrev N_is_row : List Str := ["value", "sign"]
theorem sc_is_row : FnScope N_is_row ["value"] (defScope s_is_row) := ⟨rfl, rfl, rfl, by decide +kernel, rfl, by decide +kernel, by decide +kernel⟩
abbrev s_is_row_of : Stmt := topS 13
abbrev N_is_row_of : List Str := ["letters", "value", "both", "sign"]
theorem sc_is_row_of : FnScope N_is_row_of ["letters", "value"] (defScope s_is_row_of) := ⟨rfl, rfl, rfl, by decide +kernel, rfl, by decide +kernel, by decide +kernel⟩
abbrev s_are_letters : Stmt := topS 14
abbrev N_are_letters : List Str := ["value", "one", "two", "sign"]
theorem sc_are_letters : FnScope N_are_letters ["value"] (defScope s_are_letters) := ⟨rfl, rfl, rfl, by decide +kernel, rfl, by decide +kernel, by decide +kernel⟩
abbrev s_check_row : Stmt := topS 15
abbrev N_check_row : List Str := ["value"]
theorem sc_check_row : FnScope N_check_row ["value"] (defScope s_check_row) := ⟨rfl, rfl, rfl, by decide +kernel, rfl, by decide +kernel, by decide +kernel⟩
abbrev s_check_row_of : Stmt := topS 16
abbrev N_check_row_of : List Str := ["letters", "value"]
theorem sc_check_row_of : FnScope N_check_row_of ["letters", "value"] (defScope s_check_row_of) := ⟨rfl, rfl, rfl, by decide +kernel, rfl, by decide +kernel, by decide +kernel⟩
abbrev s_check_letters : Stmt := topS 17
abbrev N_check_letters : List Str := ["value"]
theorem sc_check_letters : FnScope N_check_letters ["value"] (defScope s_check_letters) := ⟨rfl, rfl, rfl, by decide +kernel, rfl, by decide +kernel, by decide +kernel⟩
abbrev s_is_permutation : Stmt := topS 20
abbrev N_is_permutation : List Str := ["value", "points", "point"]
theorem sc_is_permutation : FnScope N_is_permutation ["value", "points"] (defScope s_is_permutation) := ⟨rfl, rfl, rfl, by decide +kernel, rfl, by decide +kernel, by decide +kernel⟩
abbrev s_are_images : Stmt := topS 21
abbrev N_are_images : List Str := ["letters", "value", "points", "image"]
theorem sc_are_images : FnScope N_are_images ["letters", "value"] (defScope s_are_images) := ⟨rfl, rfl, rfl, by decide +kernel, rfl, by decide +kernel, by decide +kernel⟩
abbrev s_check_images : Stmt := topS 22
abbrev N_check_images : List Str := ["letters", "value"]
theorem sc_check_images : FnScope N_check_images ["letters", "value"] (defScope s_check_images) := ⟨rfl, rfl, rfl, by decide +kernel, rfl, by decide +kernel, by decide +kernel⟩
abbrev s_steps_by : Stmt := topS 23
abbrev N_steps_by : List Str := ["letters", "images", "steps", "letter", "image", "point"]
theorem sc_steps_by : FnScope N_steps_by ["letters", "images"] (defScope s_steps_by) := ⟨rfl, rfl, rfl, by decide +kernel, rfl, by decide +kernel, by decide +kernel⟩
abbrev s_led : Stmt := topS 24
abbrev N_led : List Str := ["steps", "row", "point", "sign"]
theorem sc_led : FnScope N_led ["steps", "row", "point"] (defScope s_led) := ⟨rfl, rfl, rfl, by decide +kernel, rfl, by decide +kernel, by decide +kernel⟩
abbrev s_moves_none : Stmt := topS 25
abbrev N_moves_none : List Str := ["steps", "row", "points", "point"]
theorem sc_moves_none : FnScope N_moves_none ["steps", "row", "points"] (defScope s_moves_none) := ⟨rfl, rfl, rfl, by decide +kernel, rfl, by decide +kernel, by decide +kernel⟩
abbrev s_holds_for : Stmt := topS 26
abbrev N_holds_for : List Str := ["told", "letters", "images", "steps", "row"]
theorem sc_holds_for : FnScope N_holds_for ["told", "letters", "images"] (defScope s_holds_for) := ⟨rfl, rfl, rfl, by decide +kernel, rfl, by decide +kernel, by decide +kernel⟩
abbrev s_moved : Stmt := topS 27
abbrev N_moved : List Str := ["letters", "images", "row", "steps", "point"]
theorem sc_moved : FnScope N_moved ["letters", "images", "row"] (defScope s_moved) := ⟨rfl, rfl, rfl, by decide +kernel, rfl, by decide +kernel, by decide +kernel⟩
abbrev s_map_holds : Stmt := topS 28
abbrev N_map_holds : List Str := ["rules", "images"]
theorem sc_map_holds : FnScope N_map_holds ["rules", "images"] (defScope s_map_holds) := ⟨rfl, rfl, rfl, by decide +kernel, rfl, by decide +kernel, by decide +kernel⟩
abbrev s_back_of : Stmt := topS 30
abbrev N_back_of : List Str := ["row"]
theorem sc_back_of : FnScope N_back_of ["row"] (defScope s_back_of) := ⟨rfl, rfl, rfl, by decide +kernel, rfl, by decide +kernel, by decide +kernel⟩
abbrev s_least_of : Stmt := topS 31
abbrev N_least_of : List Str := ["row", "kept", "sign"]
theorem sc_least_of : FnScope N_least_of ["row"] (defScope s_least_of) := ⟨rfl, rfl, rfl, by decide +kernel, rfl, by decide +kernel, by decide +kernel⟩
abbrev s_back : Stmt := topS 32
abbrev N_back : List Str := ["row"]
theorem sc_back : FnScope N_back ["row"] (defScope s_back) := ⟨rfl, rfl, rfl, by decide +kernel, rfl, by decide +kernel, by decide +kernel⟩
abbrev s_least : Stmt := topS 33
abbrev N_least : List Str := ["row"]
theorem sc_least : FnScope N_least ["row"] (defScope s_least) := ⟨rfl, rfl, rfl, by decide +kernel, rfl, by decide +kernel, by decide +kernel⟩
abbrev s_joined : Stmt := topS 34
abbrev N_joined : List Str := ["rows", "index", "row"]
theorem sc_joined : FnScope N_joined ["rows"] (defScope s_joined) := ⟨rfl, rfl, rfl, by decide +kernel, rfl, by decide +kernel, by decide +kernel⟩
abbrev s_is_turned : Stmt := topS 36
abbrev N_is_turned : List Str := ["one", "two"]
theorem sc_is_turned : FnScope N_is_turned ["one", "two"] (defScope s_is_turned) := ⟨rfl, rfl, rfl, by decide +kernel, rfl, by decide +kernel, by decide +kernel⟩
abbrev s_is_ring_row : Stmt := topS 40
abbrev N_is_ring_row : List Str := ["letters", "value", "place", "sign"]
theorem sc_is_ring_row : FnScope N_is_ring_row ["letters", "value"] (defScope s_is_ring_row) := ⟨rfl, rfl, rfl, by decide +kernel, rfl, by decide +kernel, by decide +kernel⟩
abbrev s_is_kin : Stmt := topS 41
abbrev N_is_kin : List Str := ["one", "two"]
theorem sc_is_kin : FnScope N_is_kin ["one", "two"] (defScope s_is_kin) := ⟨rfl, rfl, rfl, by decide +kernel, rfl, by decide +kernel, by decide +kernel⟩
abbrev s_can_stand : Stmt := topS 42
abbrev N_can_stand : List Str := ["letters", "earlier", "value", "row"]
theorem sc_can_stand : FnScope N_can_stand ["letters", "earlier", "value"] (defScope s_can_stand) := ⟨rfl, rfl, rfl, by decide +kernel, rfl, by decide +kernel, by decide +kernel⟩
abbrev s_check_rows : Stmt := topS 43
abbrev N_check_rows : List Str := ["letters", "rows", "index", "row"]
theorem sc_check_rows : FnScope N_check_rows ["letters", "rows"] (defScope s_check_rows) := ⟨rfl, rfl, rfl, by decide +kernel, rfl, by decide +kernel, by decide +kernel⟩
abbrev s_Rules_init : Stmt := inClass (topS 44) 0
abbrev N_Rules_init : List Str := ["self", "letters", "rows"]
theorem sc_Rules_init : FnScope N_Rules_init ["self", "letters", "rows"] (defScope s_Rules_init) := ⟨rfl, rfl, rfl, by decide +kernel, rfl, by decide +kernel, by decide +kernel⟩
abbrev s_Rules_letters : Stmt := inClass (topS 44) 1
abbrev N_Rules_letters : List Str := ["self"]
theorem sc_Rules_letters : FnScope N_Rules_letters ["self"] (defScope s_Rules_letters) := ⟨rfl, rfl, rfl, by decide +kernel, rfl, by decide +kernel, by decide +kernel⟩
abbrev s_Rules_rows : Stmt := inClass (topS 44) 2
abbrev N_Rules_rows : List Str := ["self"]
theorem sc_Rules_rows : FnScope N_Rules_rows ["self"] (defScope s_Rules_rows) := ⟨rfl, rfl, rfl, by decide +kernel, rfl, by decide +kernel, by decide +kernel⟩
abbrev s__law_well : Stmt := topS 46
abbrev N__law_well : List Str := ["script", "k", "cell"]
theorem sc__law_well : FnScope N__law_well ["script", "k"] (defScope s__law_well) := ⟨rfl, rfl, rfl, by decide +kernel, rfl, by decide +kernel, by decide +kernel⟩
abbrev s__law_draw : Stmt := topS 47
abbrev N__law_draw : List Str := ["well", "many", "found", "stirred"]
theorem sc__law_draw : FnScope N__law_draw ["well", "many"] (defScope s__law_draw) := ⟨rfl, rfl, rfl, by decide +kernel, rfl, by decide +kernel, by decide +kernel⟩
abbrev s__law_alphabet : Stmt := topS 48
abbrev N__law_alphabet : List Str := ["well", "most", "left", "found", "size", "k", "at"]
theorem sc__law_alphabet : FnScope N__law_alphabet ["well", "most"] (defScope s__law_alphabet) := ⟨rfl, rfl, rfl, by decide +kernel, rfl, by decide +kernel, by decide +kernel⟩
abbrev s__law_other : Stmt := topS 49
abbrev N__law_other : List Str := ["sign"]
theorem sc__law_other : FnScope N__law_other ["sign"] (defScope s__law_other) := ⟨rfl, rfl, rfl, by decide +kernel, rfl, by decide +kernel, by decide +kernel⟩
abbrev s__law_back : Stmt := topS 50
abbrev N__law_back : List Str := ["given", "sign"]
theorem sc__law_back : FnScope N__law_back ["given"] (defScope s__law_back) := ⟨rfl, rfl, rfl, by decide +kernel, rfl, by decide +kernel, by decide +kernel⟩
abbrev s__law_figure : Stmt := topS 51
abbrev N__law_figure : List Str := ["well", "many", "left", "found", "k"]
theorem sc__law_figure : FnScope N__law_figure ["well", "many"] (defScope s__law_figure) := ⟨rfl, rfl, rfl, by decide +kernel, rfl, by decide +kernel, by decide +kernel⟩
abbrev s__law_plain_word : Stmt := topS 53
abbrev N__law_plain_word : List Str := ["well", "alphabet", "most", "signs", "k"]
theorem sc__law_plain_word : FnScope N__law_plain_word ["well", "alphabet", "most"] (defScope s__law_plain_word) := ⟨rfl, rfl, rfl, by decide +kernel, rfl, by decide +kernel, by decide +kernel⟩
abbrev s__law_free_word : Stmt := topS 54
abbrev N__law_free_word : List Str := ["well", "alphabet", "signs", "word", "k", "some", "sign"]
theorem sc__law_free_word : FnScope N__law_free_word ["well", "alphabet"] (defScope s__law_free_word) := ⟨rfl, rfl, rfl, by decide +kernel, rfl, by decide +kernel, by decide +kernel⟩
abbrev s__law_along : Stmt := topS 55
abbrev N__law_along : List Str := ["alphabet", "word", "many", "figures", "letter", "figure", "k", "point"]
theorem sc__law_along : FnScope N__law_along ["alphabet", "word"] (defScope s__law_along) := ⟨rfl, rfl, rfl, by decide +kernel, rfl, by decide +kernel, by decide +kernel⟩
abbrev s__law_ways_right : Stmt := topS 56
abbrev N__law_ways_right : List Str := ["well", "alphabet", "figures", "many", "first", "second", "one_way", "other_way", "both", "behind", "within", "point"]
theorem sc__law_ways_right : FnScope N__law_ways_right ["well", "alphabet", "figures"] (defScope s__law_ways_right) := ⟨rfl, rfl, rfl, by decide +kernel, rfl, by decide +kernel, by decide +kernel⟩
abbrev s__law_right : Stmt := topS 57
abbrev N__law_right : List Str := ["well", "alphabet", "word", "figures", "size", "padding", "nothing_more", "written", "other", "k"]
theorem sc__law_right : FnScope N__law_right ["well"] (defScope s__law_right) := ⟨rfl, rfl, rfl, by decide +kernel, rfl, by decide +kernel, by decide +kernel⟩
abbrev s_law : Stmt := topS 58
abbrev N_law : List Str := ["script", "k"]
theorem sc_law : FnScope N_law ["script"] (defScope s_law) := ⟨rfl, rfl, rfl, by decide +kernel, rfl, by decide +kernel, by decide +kernel⟩
abbrev k_LOW : Str := mkS [97, 98, 99, 100, 101, 102, 103, 104, 105, 106, 107, 108, 109, 110, 111, 112, 113, 114, 115, 116, 117, 118, 119, 120, 121, 122]
abbrev k_HIGH : Str := mkS [65, 66, 67, 68, 69, 70, 71, 72, 73, 74, 75, 76, 77, 78, 79, 80, 81, 82, 83, 84, 85, 86, 87, 88, 89, 90]
set_option maxHeartbeats 4000000 in
/-- what the top has written -/
structure Tx (K : PySem.W.Frag) (mg : Str → Option Value) where
  a_is_whole : Addr
  d_is_whole : FuncData
  F_is_whole : Fun K "is_whole" "is_whole" s_is_whole a_is_whole d_is_whole
  b_is_whole : Binds K d_is_whole ["value"] []
  g_is_whole : mg "is_whole" = some (.ref a_is_whole)
  a_is_row : Addr
  d_is_row : FuncData
  F_is_row : Fun K "is_row" "is_row" s_is_row a_is_row d_is_row
  b_is_row : Binds K d_is_row ["value"] []
  g_is_row : mg "is_row" = some (.ref a_is_row)
  a_is_row_of : Addr
  d_is_row_of : FuncData
  F_is_row_of : Fun K "is_row_of" "is_row_of" s_is_row_of a_is_row_of d_is_row_of
  b_is_row_of : Binds K d_is_row_of ["letters", "value"] []
  g_is_row_of : mg "is_row_of" = some (.ref a_is_row_of)
  a_are_letters : Addr
  d_are_letters : FuncData
  F_are_letters : Fun K "are_letters" "are_letters" s_are_letters a_are_letters d_are_letters
  b_are_letters : Binds K d_are_letters ["value"] []
  g_are_letters : mg "are_letters" = some (.ref a_are_letters)
  a_check_row : Addr
  d_check_row : FuncData
  F_check_row : Fun K "check_row" "check_row" s_check_row a_check_row d_check_row
  b_check_row : Binds K d_check_row ["value"] []
  g_check_row : mg "check_row" = some (.ref a_check_row)
  a_check_row_of : Addr
  d_check_row_of : FuncData
  F_check_row_of : Fun K "check_row_of" "check_row_of" s_check_row_of a_check_row_of d_check_row_of
  b_check_row_of : Binds K d_check_row_of ["letters", "value"] []
  g_check_row_of : mg "check_row_of" = some (.ref a_check_row_of)
  a_check_letters : Addr
  d_check_letters : FuncData
  F_check_letters : Fun K "check_letters" "check_letters" s_check_letters a_check_letters d_check_letters
  b_check_letters : Binds K d_check_letters ["value"] []
  g_check_letters : mg "check_letters" = some (.ref a_check_letters)
  a_is_permutation : Addr
  d_is_permutation : FuncData
  F_is_permutation : Fun K "is_permutation" "is_permutation" s_is_permutation a_is_permutation d_is_permutation
  b_is_permutation : Binds K d_is_permutation ["value", "points"] []
  g_is_permutation : mg "is_permutation" = some (.ref a_is_permutation)
  a_are_images : Addr
  d_are_images : FuncData
  F_are_images : Fun K "are_images" "are_images" s_are_images a_are_images d_are_images
  b_are_images : Binds K d_are_images ["letters", "value"] []
  g_are_images : mg "are_images" = some (.ref a_are_images)
  a_check_images : Addr
  d_check_images : FuncData
  F_check_images : Fun K "check_images" "check_images" s_check_images a_check_images d_check_images
  b_check_images : Binds K d_check_images ["letters", "value"] []
  g_check_images : mg "check_images" = some (.ref a_check_images)
  a_steps_by : Addr
  d_steps_by : FuncData
  F_steps_by : Fun K "steps_by" "steps_by" s_steps_by a_steps_by d_steps_by
  b_steps_by : Binds K d_steps_by ["letters", "images"] []
  g_steps_by : mg "steps_by" = some (.ref a_steps_by)
  a_led : Addr
  d_led : FuncData
  F_led : Fun K "led" "led" s_led a_led d_led
  b_led : Binds K d_led ["steps", "row", "point"] []
  g_led : mg "led" = some (.ref a_led)
  a_moves_none : Addr
  d_moves_none : FuncData
  F_moves_none : Fun K "moves_none" "moves_none" s_moves_none a_moves_none d_moves_none
  b_moves_none : Binds K d_moves_none ["steps", "row", "points"] []
  g_moves_none : mg "moves_none" = some (.ref a_moves_none)
  a_holds_for : Addr
  d_holds_for : FuncData
  F_holds_for : Fun K "holds_for" "holds_for" s_holds_for a_holds_for d_holds_for
  b_holds_for : Binds K d_holds_for ["told", "letters", "images"] []
  g_holds_for : mg "holds_for" = some (.ref a_holds_for)
  a_moved : Addr
  d_moved : FuncData
  F_moved : Fun K "moved" "moved" s_moved a_moved d_moved
  b_moved : Binds K d_moved ["letters", "images", "row"] []
  g_moved : mg "moved" = some (.ref a_moved)
  a_map_holds : Addr
  d_map_holds : FuncData
  F_map_holds : Fun K "map_holds" "map_holds" s_map_holds a_map_holds d_map_holds
  b_map_holds : Binds K d_map_holds ["rules", "images"] []
  g_map_holds : mg "map_holds" = some (.ref a_map_holds)
  a_back_of : Addr
  d_back_of : FuncData
  F_back_of : Fun K "back_of" "back_of" s_back_of a_back_of d_back_of
  b_back_of : Binds K d_back_of ["row"] []
  g_back_of : mg "back_of" = some (.ref a_back_of)
  a_least_of : Addr
  d_least_of : FuncData
  F_least_of : Fun K "least_of" "least_of" s_least_of a_least_of d_least_of
  b_least_of : Binds K d_least_of ["row"] []
  g_least_of : mg "least_of" = some (.ref a_least_of)
  a_back : Addr
  d_back : FuncData
  F_back : Fun K "back" "back" s_back a_back d_back
  b_back : Binds K d_back ["row"] []
  g_back : mg "back" = some (.ref a_back)
  a_least : Addr
  d_least : FuncData
  F_least : Fun K "least" "least" s_least a_least d_least
  b_least : Binds K d_least ["row"] []
  g_least : mg "least" = some (.ref a_least)
  a_joined : Addr
  d_joined : FuncData
  F_joined : Fun K "joined" "joined" s_joined a_joined d_joined
  b_joined : Binds K d_joined ["rows"] []
  g_joined : mg "joined" = some (.ref a_joined)
  a_is_turned : Addr
  d_is_turned : FuncData
  F_is_turned : Fun K "is_turned" "is_turned" s_is_turned a_is_turned d_is_turned
  b_is_turned : Binds K d_is_turned ["one", "two"] []
  g_is_turned : mg "is_turned" = some (.ref a_is_turned)
  a_is_ring_row : Addr
  d_is_ring_row : FuncData
  F_is_ring_row : Fun K "is_ring_row" "is_ring_row" s_is_ring_row a_is_ring_row d_is_ring_row
  b_is_ring_row : Binds K d_is_ring_row ["letters", "value"] []
  g_is_ring_row : mg "is_ring_row" = some (.ref a_is_ring_row)
  a_is_kin : Addr
  d_is_kin : FuncData
  F_is_kin : Fun K "is_kin" "is_kin" s_is_kin a_is_kin d_is_kin
  b_is_kin : Binds K d_is_kin ["one", "two"] []
  g_is_kin : mg "is_kin" = some (.ref a_is_kin)
  a_can_stand : Addr
  d_can_stand : FuncData
  F_can_stand : Fun K "can_stand" "can_stand" s_can_stand a_can_stand d_can_stand
  b_can_stand : Binds K d_can_stand ["letters", "earlier", "value"] []
  g_can_stand : mg "can_stand" = some (.ref a_can_stand)
  a_check_rows : Addr
  d_check_rows : FuncData
  F_check_rows : Fun K "check_rows" "check_rows" s_check_rows a_check_rows d_check_rows
  b_check_rows : Binds K d_check_rows ["letters", "rows"] []
  g_check_rows : mg "check_rows" = some (.ref a_check_rows)
  a_Rules_init : Addr
  d_Rules_init : FuncData
  v_Rules_init : V
  dv_Rules_init : Dfl0 K v_Rules_init
  F_Rules_init : FunD K "__init__" "Rules.__init__" (defArgs s_Rules_init) (defBody s_Rules_init) (defScope s_Rules_init) [v_Rules_init] [] a_Rules_init d_Rules_init
  b_Rules_init : Binds K d_Rules_init ["self", "letters", "rows"] []
  a_Rules_letters : Addr
  d_Rules_letters : FuncData
  F_Rules_letters : Fun K "letters" "Rules.letters" s_Rules_letters a_Rules_letters d_Rules_letters
  b_Rules_letters : Binds K d_Rules_letters ["self"] []
  a_Rules_rows : Addr
  d_Rules_rows : FuncData
  F_Rules_rows : Fun K "rows" "Rules.rows" s_Rules_rows a_Rules_rows d_Rules_rows
  b_Rules_rows : Binds K d_Rules_rows ["self"] []
  a__law_well : Addr
  d__law_well : FuncData
  F__law_well : Fun K "_law_well" "_law_well" s__law_well a__law_well d__law_well
  b__law_well : Binds K d__law_well ["script", "k"] []
  g__law_well : mg "_law_well" = some (.ref a__law_well)
  a__law_draw : Addr
  d__law_draw : FuncData
  F__law_draw : Fun K "_law_draw" "_law_draw" s__law_draw a__law_draw d__law_draw
  b__law_draw : Binds K d__law_draw ["well", "many"] []
  g__law_draw : mg "_law_draw" = some (.ref a__law_draw)
  a__law_alphabet : Addr
  d__law_alphabet : FuncData
  F__law_alphabet : Fun K "_law_alphabet" "_law_alphabet" s__law_alphabet a__law_alphabet d__law_alphabet
  b__law_alphabet : Binds K d__law_alphabet ["well", "most"] []
  g__law_alphabet : mg "_law_alphabet" = some (.ref a__law_alphabet)
  a__law_other : Addr
  d__law_other : FuncData
  F__law_other : Fun K "_law_other" "_law_other" s__law_other a__law_other d__law_other
  b__law_other : Binds K d__law_other ["sign"] []
  g__law_other : mg "_law_other" = some (.ref a__law_other)
  a__law_back : Addr
  d__law_back : FuncData
  F__law_back : Fun K "_law_back" "_law_back" s__law_back a__law_back d__law_back
  b__law_back : Binds K d__law_back ["given"] []
  g__law_back : mg "_law_back" = some (.ref a__law_back)
  a__law_figure : Addr
  d__law_figure : FuncData
  F__law_figure : Fun K "_law_figure" "_law_figure" s__law_figure a__law_figure d__law_figure
  b__law_figure : Binds K d__law_figure ["well", "many"] []
  g__law_figure : mg "_law_figure" = some (.ref a__law_figure)
  a__law_plain_word : Addr
  d__law_plain_word : FuncData
  F__law_plain_word : Fun K "_law_plain_word" "_law_plain_word" s__law_plain_word a__law_plain_word d__law_plain_word
  b__law_plain_word : Binds K d__law_plain_word ["well", "alphabet", "most"] []
  g__law_plain_word : mg "_law_plain_word" = some (.ref a__law_plain_word)
  a__law_free_word : Addr
  d__law_free_word : FuncData
  F__law_free_word : Fun K "_law_free_word" "_law_free_word" s__law_free_word a__law_free_word d__law_free_word
  b__law_free_word : Binds K d__law_free_word ["well", "alphabet"] []
  g__law_free_word : mg "_law_free_word" = some (.ref a__law_free_word)
  a__law_along : Addr
  d__law_along : FuncData
  F__law_along : Fun K "_law_along" "_law_along" s__law_along a__law_along d__law_along
  b__law_along : Binds K d__law_along ["alphabet", "word"] []
  g__law_along : mg "_law_along" = some (.ref a__law_along)
  a__law_ways_right : Addr
  d__law_ways_right : FuncData
  F__law_ways_right : Fun K "_law_ways_right" "_law_ways_right" s__law_ways_right a__law_ways_right d__law_ways_right
  b__law_ways_right : Binds K d__law_ways_right ["well", "alphabet", "figures"] []
  g__law_ways_right : mg "_law_ways_right" = some (.ref a__law_ways_right)
  a__law_right : Addr
  d__law_right : FuncData
  F__law_right : Fun K "_law_right" "_law_right" s__law_right a__law_right d__law_right
  b__law_right : Binds K d__law_right ["well"] []
  g__law_right : mg "_law_right" = some (.ref a__law_right)
  a_law : Addr
  d_law : FuncData
  F_law : Fun K "law" "law" s_law a_law d_law
  b_law : Binds K d_law ["script"] []
  g_law : mg "law" = some (.ref a_law)
  a_Rules : Addr
  ns_Rules : PySem.W.nsIn K mainGlobals "Rules" = some (some (.ref a_Rules))
  gc_Rules : mg "Rules" = some (.ref a_Rules)
  cl_Rules : Cls K a_Rules
  mk_Rules : Mk K a_Rules a_Rules_init
  na_Rules_alphabet : NoAttr K a_Rules "alphabet"
  na_Rules_told : NoAttr K a_Rules "told"
  me_Rules_letters : Meth K a_Rules "letters" a_Rules_letters
  me_Rules_rows : Meth K a_Rules "rows" a_Rules_rows
  n_isinstance : mg "isinstance" = none
  n_int : mg "int" = none
  n_bool : mg "bool" = none
  n_str : mg "str" = none
  n_all : mg "all" = none
  n_len : mg "len" = none
  n_zip : mg "zip" = none
  n_sorted : mg "sorted" = none
  n_list : mg "list" = none
  n_tuple : mg "tuple" = none
  n_range : mg "range" = none
  n_enumerate : mg "enumerate" = none
  n_any : mg "any" = none
  n_abs : mg "abs" = none
  n_max : mg "max" = none
  n_min : mg "min" = none
  t_LOW : Tok
  g_LOW : mg "LOW" = some (.str k_LOW t_LOW)
  t_HIGH : Tok
  g_HIGH : mg "HIGH" = some (.str k_HIGH t_HIGH)
  t_MOST_LETTERS : Tok
  g_MOST_LETTERS : mg "MOST_LETTERS" = some (.int 4 t_MOST_LETTERS)
  t_MOST_POINTS : Tok
  g_MOST_POINTS : mg "MOST_POINTS" = some (.int 6 t_MOST_POINTS)
  t_MOST_SIZE : Tok
  g_MOST_SIZE : mg "MOST_SIZE" = some (.int 40 t_MOST_SIZE)
  t_MOST_ROWS : Tok
  g_MOST_ROWS : mg "MOST_ROWS" = some (.int 6 t_MOST_ROWS)
section
variable {P : Program} {w : World} {K : PySem.W.Frag} {mg : Str → Option Value} {base : Heap}
/-! ### _law_draw -/
def sp__law_draw (_ : PySem.W.Frag) : Sp := fun vs H Q _ => ∃ (a : Addr) (m : Int) (n : Nat), vs = [.ref a, .int m] ∧ Wl H a n ∧ n < 2 ^ 60 ∧ (0 < m ∧ m < 2 ^ 200) ∧ ∀ (r : Int) H', 0 ≤ r → r < m → Kp a H H' → Wl H' a (n + 1) → Q (.int r) H'
set_option maxHeartbeats 4000000 in
theorem ok__law_draw (Z : Tx K mg) : FnG P w K mg base CX0 1 Z.a__law_draw Z.d__law_draw ["well", "many"] (sp__law_draw K) := by
  refine funG Z.F__law_draw sc__law_draw (fun vs H Q E h => ?_) (fun cdv A outer s H vs Q E gg rm h => ?_)
  · obtain ⟨a, m, n, rfl, hw, hn, hm, q⟩ := h; rfl
  · obtain ⟨a, m, n, rfl, hw, hn, hm, q⟩ := h
    refine ⟨_,
      (pss_cons (ps_if (pt_cmpR op_gt (pe_ix (ix_K K) (pv 0) pe_int (fun _ _ => rfl)) pe_int (nomark _))
        (pss_cons (ps_set (i := 2) sc__law_draw.nd rfl (.inl rfl) (pe_op op_modN (pe_callTy call_intG (by rfl) Z.n_int (by decide +kernel) (pa_cons (pe_ix (ix_K K) (pv 0) pe_int (fun _ _ => rfl)) pa_nil)) (pv 1)))
        (pss_cons (ps_asg (pe_op op_fdivW (pe_ix (ix_K K) (pv 0) pe_int (fun _ _ => rfl)) (pv 1)) (pg_sub (pv 0) pe_int set_list))
        (pss_one (ps_ret (pv 2)))))
        pss_nil)
      (pss_cons (ps_asg (pe_op (op_addK K) (pe_ix (ix_K K) (pv 0) pe_int (fun _ _ => rfl)) pe_int) (pg_sub (pv 0) pe_int set_list))
      (pss_cons (ps_set (i := 3) sc__law_draw.nd rfl (.inl rfl) (pe_op op_modN (pe_callTy call_intG (by rfl) Z.n_int (by decide +kernel) (pa_cons (pe_op op_powW (pe_op (op_addK K) (pe_ix (ix_K K) (pv 0) pe_int (fun _ _ => rfl)) (pe_op op_mulG pe_int (pe_ix (ix_K K) (pv 0) pe_int (fun _ _ => rfl)))) pe_int) pa_nil)) (pe_op (op_addK K) (pe_op op_powW pe_int pe_int) pe_int)))
      (pss_cons (ps_set (i := 3) sc__law_draw.nd rfl (.inl rfl) (pe_op op_modN (pe_callTy call_intG (by rfl) Z.n_int (by decide +kernel) (pa_cons (pe_op op_powW (pe_op (op_addK K) (pv 3) (pe_op op_mulG pe_int (pe_ix (ix_K K) (pv 0) pe_int (fun _ _ => rfl)))) pe_int) pa_nil)) (pe_op (op_addK K) (pe_op op_powW pe_int pe_int) pe_int)))
      (pss_one (ps_ret (pe_op op_modN (pe_callTy call_intG (by rfl) Z.n_int (by decide +kernel) (pa_cons (pe_op op_fdivW (pv 3) (pe_op op_powW pe_int pe_int)) pa_nil)) (pv 1)))))))), ?_⟩
    rw [show L2.start N__law_draw [.ref a, .int m] = [some (.ref a), some (.int m), none, none] from rfl]
    obtain ⟨w0, w1, w2, eH, p0, p1, p2, p3, p4⟩ := hw
    walk_at "go"
    refine r_ifd (fun c => ?_) (fun c => ?_)
    · walk_at "go"
      exact q _ _ (Int.emod_nonneg _ (by omega)) (Int.emod_lt_of_pos _ hm.1) (Kp.put (Kp.refl a H)) ⟨_, _, _, upd_same, Int.ediv_nonneg p0 (by omega), p1, p2, p3, by omega⟩
    · walk_at "go"
      refine r_I (cpow_of (k := 140) (by decide) (by omega) (by decide)) ?_
      walk_at "go"
      have h1 : 0 ≤ (w1 + 15485863 * (w2 + 1)) ^ (5 : Int).toNat % (10000000000000000000000000000000000000000000 + 63) := Int.emod_nonneg _ (by decide)
      have h2 : (w1 + 15485863 * (w2 + 1)) ^ (5 : Int).toNat % (10000000000000000000000000000000000000000000 + 63) < 10000000000000000000000000000000000000000000 + 63 := Int.emod_lt_of_pos _ (by decide)
      generalize (w1 + 15485863 * (w2 + 1)) ^ (5 : Int).toNat % (10000000000000000000000000000000000000000000 + 63) = y at h1 h2
      refine r_I (cpow_of (k := 150) (by decide) (by omega) (by decide)) ?_
      walk_at "go"
      exact q _ _ (Int.emod_nonneg _ (by omega)) (Int.emod_lt_of_pos _ hm.1) (Kp.put (Kp.refl a H)) ⟨_, _, _, upd_same, p0, p1, p2, by omega, by omega⟩
/-! ### _law_alphabet -/
def sp__law_alphabet (_ : PySem.W.Frag) : Sp := fun vs H Q _ => ∃ (a : Addr) (m n : Nat), vs = [.ref a, .int (m : Nat)] ∧ 1 ≤ m ∧ m ≤ 4 ∧ Wl H a n ∧ n < 2 ^ 40 ∧ ∀ (l : List Nat) (H' : Hp), Al l → l.length ≤ m → Kp a H H' → Wl H' a (n + 10) → Q (T l) H'
set_option maxHeartbeats 4000000 in
theorem ok__law_alphabet (Z : Tx K mg) : FnG P w K mg base CX0 2 Z.a__law_alphabet Z.d__law_alphabet ["well", "most"] (sp__law_alphabet K) := by
  refine funG Z.F__law_alphabet sc__law_alphabet (fun vs H Q E h => ?_) (fun cdv A outer s H vs Q E gg rm h => ?_)
  · obtain ⟨a, m, n, rfl, hm1, hm4, hw, hn, q⟩ := h; rfl
  · obtain ⟨a, m, n, rfl, hm1, hm4, hw, hn, q⟩ := h
    refine ⟨_,
      (pss_cons (ps_asg (pe_tup (pa_cons (pe_strL (l := [97, 98, 99, 100, 101, 102, 103, 104, 105, 106, 107, 108, 109, 110, 111, 112, 113, 114, 115, 116, 117, 118, 119, 120, 121, 122]) (by decide +kernel)) (pa_cons (pe_strL (l := []) (by decide +kernel)) pa_nil))) (pg_tupK (n := 2) K rfl (pgs_cons (pg_name (i := 2) sc__law_alphabet.nd rfl (.inl rfl)) (pgs_cons (pg_name (i := 3) sc__law_alphabet.nd rfl (.inl rfl)) pgs_nil))))
      (pss_cons (ps_set (i := 4) sc__law_alphabet.nd rfl (.inl rfl) (pe_op (op_addK K) pe_int (pe_callG gg (ok__law_draw Z) rm (by rfl) Z.g__law_draw Z.F__law_draw.kp Z.b__law_draw .nil pass0 (pa_cons (pv 0) (pa_cons (pv 1) pa_nil)))))
      (pss_cons (ps_for PassesOwn.never rfl (pi_range1 (by rfl) Z.n_range (pa_cons (pv 4) pa_nil)) (pg_name (i := 5) sc__law_alphabet.nd rfl (.inl rfl))
        (pss_cons (ps_set (i := 6) sc__law_alphabet.nd rfl (.inl rfl) (pe_ix (ix_K K) (pe_lst (pa_cons pe_int (pa_cons (pe_callG gg (ok__law_draw Z) rm (by rfl) Z.g__law_draw Z.F__law_draw.kp Z.b__law_draw .nil pass0 (pa_cons (pv 0) (pa_cons (pe_op (op_addK K) (pe_op (op_addK K) (pe_op op_sub (pe_callB (call_lenK K) (by rfl) Z.n_len PySem.boot_len (pa_cons (pv 2) pa_nil)) (pv 4)) (pv 5)) pe_int) pa_nil))) pa_nil))) (pe_callG gg (ok__law_draw Z) rm (by rfl) Z.g__law_draw Z.F__law_draw.kp Z.b__law_draw .nil pass0 (pa_cons (pv 0) (pa_cons pe_int pa_nil))) (fun _ _ => rfl)))
        (pss_cons (ps_set (i := 3) sc__law_alphabet.nd rfl (.inl rfl) (pe_op (op_addK K) (pv 3) (pe_ix (ix_K K) (pv 2) (pv 6) (fun _ _ => rfl))))
        (pss_one (ps_set (i := 2) sc__law_alphabet.nd rfl (.inl rfl) (pe_slice (sl_K K) (pv 2) (po_some (pe_op (op_addK K) (pv 6) pe_int)) po_none))))))
      (pss_one (ps_ret (pv 3)))))), ?_⟩
    rw [show L2.start N__law_alphabet [.ref a, .int (m : Nat)] = [some (.ref a), some (.int (m : Nat)), none, none, none, none, none] from rfl]
    walk_at "go"
    intro t0 n0
    generalize hh : upd _ t0 _ = H0
    obtain ⟨s0, e0⟩ := new_eq n0 hh
    clear hh
    have w0 := hw.same s0
    walk_at "go"
    refine ⟨a, (m : Nat), n, rfl, w0, by omega, by omega, fun r H1 r0 r1 k1 w1 => ?_⟩
    obtain ⟨j, rfl⟩ : ∃ j : Nat, r = (j : Int) := ⟨r.toNat, by omega⟩
    walk_at "go"
    refine r_goR1 (by omega) ?_
    rw [show (1 + (j : Int)).toNat = j + 1 by omega]
    have hZ : ∀ i, i < 26 → ([97, 98, 99, 100, 101, 102, 103, 104, 105, 106, 107, 108, 109, 110, 111, 112, 113, 114, 115, 116, 117, 118, 119, 120, 121, 122] : List Nat).getD i 0 = 97 + i := by decide
    have hZl : ([97, 98, 99, 100, 101, 102, 103, 104, 105, 106, 107, 108, 109, 110, 111, 112, 113, 114, 115, 116, 117, 118, 119, 120, 121, 122] : List Nat).length = 26 := rfl
    generalize ([97, 98, 99, 100, 101, 102, 103, 104, 105, 106, 107, 108, 109, 110, 111, 112, 113, 114, 115, 116, 117, 118, 119, 120, 121, 122] : List Nat) = Z0 at *
    refine for_known (known_rng 0 _) (fun i σ H' => ∃ (u : Nat) (f : List Nat) (z5 z6 : Option V), σ = [some (.ref a), some (.int (m : Nat)), some (T (Z0.drop u)), some (T f), some (.int (1 + (j : Nat))), z5, z6] ∧ u + (j + 1 - i) ≤ 26 ∧ f.length = i ∧ f.Pairwise (· < ·) ∧ (∀ c ∈ f, 97 ≤ c ∧ c < 97 + u) ∧ Kp a H H' ∧ Wl H' a (n + 1 + 2 * i))
      ⟨0, [], _, _, rfl, by omega, rfl, .nil, (fun c hc => nomatch hc), (Kp.of s0).trans k1, w1⟩ (fun _ _ _ _ _ => trivial) ?_ ?_
    · rintro i σ H2 hi ⟨u, f, z5, z6, rfl, hu, hfl, hfp, hfc, k2, w2⟩
      have hdl : (Z0.drop u).length = 26 - u := by rw [List.length_drop, hZl]
      walk_at "go"
      rw [hdl]
      refine ⟨a, _, _, rfl, w2, by omega, by omega, fun r3 H3 r30 r31 k3 w3 => ?_⟩
      obtain ⟨v, rfl⟩ : ∃ v : Nat, r3 = (v : Int) := ⟨r3.toNat, by omega⟩
      walk_at "go"
      intro t nt
      generalize hh : upd _ t _ = H4
      obtain ⟨s4, e4⟩ := new_eq nt hh
      clear hh
      walk_at "go"
      refine ⟨a, 2, _, rfl, w3.same s4, by omega, by decide, fun r5 H5 r50 r51 k5 w5 => ?_⟩
      have e5 := k5 _ _ (w3.ne nt) e4
      obtain ⟨x, hx, hxu⟩ : ∃ x : Nat, atI [V.int 0, V.int (v : Int)] r5 = some (.int (x : Int)) ∧ x ≤ v := by
        rcases (show r5 = 0 ∨ r5 = 1 by omega) with e | e <;> subst e
        · exact ⟨0, rfl, Nat.zero_le _⟩
        · exact ⟨v, rfl, Nat.le_refl _⟩
      refine r_ixL (SqL.of e5) hx ?_
      walk_at "go"
      refine r_ixS (by omega) (at_nat (by omega) (by omega)) ?_
      rw [Int.toNat_natCast, getD_drop, hZ _ (by omega)]
      walk_at "go"
      rw [show (x : Int) + 1 = ((x + 1 : Nat) : Int) by omega, cut_from, List.drop_drop]
      refine ⟨u + (x + 1), f ++ [97 + (u + x)], _, _, rfl, by omega, by rw [List.length_append, hfl]; rfl, ?_, ?_, k2.trans (k3.trans ((Kp.of s4).trans k5)), w5.mono (by omega)⟩
      · rw [List.pairwise_append]
        refine ⟨hfp, List.pairwise_singleton _ _, fun c hc d hd => ?_⟩
        rw [List.mem_singleton.mp hd]
        have := hfc c hc; omega
      · intro c hc
        rcases List.mem_append.mp hc with hc | hc
        · have := hfc c hc; omega
        · rw [List.mem_singleton.mp hc]; omega
    · rintro σ H2 ⟨u, f, z5, z6, rfl, hu, hfl, hfp, hfc, k2, w2⟩
      walk_at "go"
      exact q f _ ⟨by omega, by omega, fun c hc => by have := hfc c hc; omega, hfp⟩ (by omega) k2 (w2.mono (by omega))
/-! ### _law_other -/
def sp__law_other (_ : PySem.W.Frag) : Sp := fun vs H Q _ => ∃ c : Nat, vs = [T [c]] ∧ c < 128 ∧ Q (T [swp c]) H
set_option maxHeartbeats 4000000 in
theorem ok__law_other (Z : Tx K mg) : FnG P w K mg base CX0 1 Z.a__law_other Z.d__law_other ["sign"] (sp__law_other K) := by
  refine funG Z.F__law_other sc__law_other (fun vs H Q E h => ?_) (fun cdv A outer s H vs Q E gg rm h => ?_)
  · obtain ⟨c, rfl, hc, q⟩ := h; rfl
  · obtain ⟨c, rfl, hc, q⟩ := h
    refine ⟨_,
      (pss_one (ps_ret (pe_ifExp (pt_truK K (pe_bm0K K PySem.F.plainAttrs_str PySem.F.slot_str_islower PySem.F.type_str_islower mt_islowL (pv 0)) (by intro _; rfl)) (pe_bm0K K PySem.F.plainAttrs_str PySem.F.slot_str_upper PySem.F.type_str_upper mt_upL (pv 0)) (pe_bm0K K PySem.F.plainAttrs_str PySem.F.slot_str_lower PySem.F.type_str_lower mt_lowL (pv 0))))), ?_⟩
    rw [show L2.start N__law_other [T [c]] = [some (T [c])] from rfl]
    have ha : Asc [c] := fun x hx => by rw [List.mem_singleton.mp hx]; exact hc
    walk_at "go"
    refine ⟨c, rfl, rfl, hc, ?_⟩
    walk_at "go"
    refine r_if (fun e => ?_) (fun e => ?_)
    · walk_at "go"
      refine r_map ha (by simp) ?_
      show Q (T [up1 c]) H
      rw [oth_up e]; exact q
    · walk_at "go"
      refine r_map ha (by simp) ?_
      show Q (T [lo1 c]) H
      rw [oth_lo e]; exact q
/-! ### _law_free_word -/
def sp__law_free_word (_ : PySem.W.Frag) : Sp := fun vs H Q _ => ∃ (p : Addr) (a : List Nat) (n : Nat), vs = [.ref p, T a] ∧ Wl H p n ∧ n < 2 ^ 40 ∧ Al a ∧ ∀ l H', RowOf a l → Free l → 1 ≤ l.length → l.length ≤ 5 → Kp p H H' → Wl H' p (n + 6) → Q (T l) H'
set_option maxHeartbeats 4000000 in
theorem ok__law_free_word (Z : Tx K mg) : FnG P w K mg base CX0 2 Z.a__law_free_word Z.d__law_free_word ["well", "alphabet"] (sp__law_free_word K) := by
  refine funG Z.F__law_free_word sc__law_free_word (fun vs H Q E h => ?_) (fun cdv A outer s H vs Q E gg rm h => ?_)
  · obtain ⟨p, a, n, rfl, hw, hn, ha, q⟩ := h; rfl
  · obtain ⟨p, a, n, rfl, hw, hn, ha, q⟩ := h
    refine ⟨_,
      (pss_cons (ps_asg (pe_tup (pa_cons (pe_op (op_addK K) (pv 1) (pe_bm0K K PySem.F.plainAttrs_str PySem.F.slot_str_upper PySem.F.type_str_upper mt_upL (pv 1))) (pa_cons (pe_strL (l := []) (by decide +kernel)) pa_nil))) (pg_tupK (n := 2) K rfl (pgs_cons (pg_name (i := 2) sc__law_free_word.nd rfl (.inl rfl)) (pgs_cons (pg_name (i := 3) sc__law_free_word.nd rfl (.inr rfl)) pgs_nil))))
      (pss_cons (ps_for PassesOwn.never rfl (pi_range1 (by rfl) Z.n_range (pa_cons (pe_op (op_addK K) pe_int (pe_callG gg (ok__law_draw Z) rm (by rfl) Z.g__law_draw Z.F__law_draw.kp Z.b__law_draw .nil pass0 (pa_cons (pv 0) (pa_cons pe_int pa_nil)))) pa_nil)) (pg_name (i := 4) sc__law_free_word.nd rfl (.inl rfl))
        (pss_cons (ps_setLc (i := 5) (own := [("sign", 6)]) (g := gName 6)  rfl sc__law_free_word.nd rfl rfl (sw_true rfl rfl rfl (by decide +kernel)) (pi_K K (pv 2)) (blkOk_by (N := N__law_free_word) (sc := defScope s__law_free_word) (by decide +kernel)) (fun _ _ _ _ _ => pg_name (i := 6) sc__law_free_word.nd rfl (Or.inl rfl)) (fun _ _ _ _ _ => (pts_one (PW.pt (pw_or (pt_cmpR (op_eqK K (hu_of64 rm)) (pv 3) (pe_strL (l := []) (by decide +kernel)) (nomark _)) (pw_or1 (pt_cmpR (op_neK K (hu_of64 rm)) (pv 6) (pe_callG gg (ok__law_other Z) rm (by rfl) Z.g__law_other Z.F__law_other.kp Z.b__law_other .nil pass0 (pa_cons (pe_ix (ix_K K) (pv 3) (pe_un un_neg pe_int) (fun _ _ => rfl)) pa_nil)) (nomark _))))))) (fun _ _ _ _ _ => (pv 6)))
        (pss_one (ps_set (i := 3) sc__law_free_word.nd rfl (.inr rfl) (pe_op (op_addK K) (pv 3) (pe_ix (ix_K K) (pv 5) (pe_callG gg (ok__law_draw Z) rm (by rfl) Z.g__law_draw Z.F__law_draw.kp Z.b__law_draw .nil pass0 (pa_cons (pv 0) (pa_cons (pe_callB (call_lenK K) (by rfl) Z.n_len PySem.boot_len (pa_cons (pv 5) pa_nil)) pa_nil))) (fun _ _ => rfl)))))))
      (pss_one (ps_ret (pv 3))))), ?_⟩
    rw [show L2.start N__law_free_word [.ref p, T a] = [some (.ref p), some (T a), none, none, none, none, none] from rfl]
    have hal := ha.1
    have hal2 := ha.2.1
    walk_at "go"
    refine r_map ha.asc (by omega) ?_
    have hS : (a ++ a.map up1).length ≤ 8 := by rw [List.length_append, List.length_map]; omega
    walk_at "go"
    intro t0 nt0
    generalize hh : upd _ t0 _ = H0
    obtain ⟨s0, e0⟩ := new_eq nt0 hh
    walk_at "go"
    have w0 := hw.same s0
    walk_at "go"
    refine ⟨p, _, n, rfl, w0, by omega, by omega, fun r H1 r0 r1 k1 w1 => ?_⟩
    obtain ⟨u0, rfl⟩ : ∃ u0 : Nat, r = (u0 : Int) := ⟨r.toNat, by omega⟩
    walk_at "go"
    refine r_goR1 (by omega) ?_
    rw [show (1 + (u0 : Int)).toNat = u0 + 1 by omega]
    refine for_known (known_rng 0 _) (fun i σ H' => ∃ (r : List Nat) (x y : Option V), σ = [some (.ref p), some (T a), some (T (a ++ a.map up1)), some (T r), x, y, none] ∧ r.length = i ∧ RowOf a r ∧ Free r ∧ Kp p H H' ∧ Wl H' p (n + 1 + i))
      ⟨[], none, none, rfl, rfl, (fun c hc => nomatch hc), trivial, (Kp.of s0).trans k1, w1⟩ (fun _ _ _ _ _ => trivial) ?_ ?_
    · rintro i σ H1 hi ⟨r, x, y, rfl, hr, ho, hf, k1, w1⟩
      obtain ⟨b, hb⟩ : ∃ b : Nat, b = if r = [] then 0 else swp (r.getD (r.length - 1) 0) := ⟨_, rfl⟩
      have hsome := some_sign ha b
      have hmem : ∀ d ∈ (a ++ a.map up1).filter (fun c => decide (¬ c = b)), d ∈ a ++ a.map up1 ∧ ¬ d = b := fun d hd => by
        obtain ⟨h1, h2⟩ := List.mem_filter.mp hd
        exact ⟨h1, of_decide_eq_true h2⟩
      have hfl := List.length_filter_le (fun c => decide (¬ c = b)) (a ++ a.map up1)
      generalize hSS : a ++ a.map up1 = S at *
      walk_at "go"
      refine lc_known (known_str S) (fun j => if decide (¬ S.getD j 0 = b) = true then some (T [S.getD j 0]) else none) (by omega) (fun _ _ => trivial) (fun j H2 QT hj sm hk => ?_) (fun D H2 nD s2 eD => ?_)
      · have hc : S.getD j 0 ∈ S := getD_mem hj
        have hk1 := hk _ (Same.refl _)
        have hlc : lett (S.getD j 0) = true := (RowOf.row ha (l := [S.getD j 0]) (fun z hz => by rw [List.mem_singleton.mp hz, hSS]; exact hc)) _ (by simp)
        generalize S.getD j 0 = c at *
        walk_at "go"
        refine r_ifd (fun e => ?_) (fun e => ?_)
        · rw [if_pos e] at hb
          rw [if_pos (decide_eq_true (show ¬ c = b by rw [lett_iff] at hlc; omega))] at hk1
          walk_at "go"
          exact hk1
        · rw [if_neg e] at hb
          have hpos : 0 < r.length := List.length_pos_iff.mpr e
          have hlast := (ho.row ha) _ (getD_mem (show r.length - 1 < r.length by omega))
          walk_at "go"
          refine r_ixS (by omega) (show atI r (-1) = some _ from at_neg (l := r) (k := 0) hpos) ?_
          refine ⟨r.getD (r.length - 1 - 0) 0, rfl, by have := lett_iff.mp hlast; show r.getD (r.length - 1) 0 < 128; omega, ?_⟩
          walk_at "go"
          refine r_ifnd (fun c1 => ?_) (fun c1 => ?_)
          · rw [if_pos (decide_eq_true (show ¬ c = b from fun z => c1 (by rw [z, hb]; rfl)))] at hk1
            walk_at "go"
            exact hk1
          · rw [if_neg (by rw [decide_eq_false (fun z => z (by rw [hb]; exact (List.cons.inj c1).1))]; simp)] at hk1
            exact hk1
      · rw [fm_get S (fun c => if decide (¬ c = b) = true then some (T [c]) else none), fm_ones] at eD
        generalize hF : S.filter (fun c => decide (¬ c = b)) = F at *
        have hFp : 0 < F.length := List.length_pos_iff.mpr hsome
        have w2 := w1.same s2
        walk_at "go"
        rw [List.length_map, List.length_map]
        refine ⟨p, _, _, rfl, w2, by omega, by omega, fun r3 H3 r30 r31 k3 w3 => ?_⟩
        obtain ⟨v, rfl⟩ : ∃ v : Nat, r3 = (v : Int) := ⟨r3.toNat, by omega⟩
        have hv : v < F.length := by omega
        refine r_ixL (SqL.of (k3 _ _ (w1.ne nD) eD)) (show _ = some (T [F.getD v 0]) from atI_nat (by rw [List.getElem?_map, List.getElem?_map, List.getElem?_eq_getElem hv, getD_el hv]; rfl)) ?_
        obtain ⟨h1, h2⟩ := hmem _ (getD_mem hv)
        generalize F.getD v 0 = d at h1 h2
        walk_at "go"
        refine ⟨r ++ [d], _, _, rfl, by rw [List.length_append, hr]; rfl, ?_, ?_, k1.trans ((Kp.of s2).trans k3), w3⟩
        · intro c hc
          rcases List.mem_append.mp hc with q1 | q1
          · exact ho c q1
          · rw [List.mem_singleton.mp q1, hSS]; exact h1
        · refine free_add hf fun c hc e => ?_
          have hne : r ≠ [] := by rintro rfl; simp at hc
          rw [if_neg hne] at hb
          apply h2
          rw [hb, e, last_getD hc]
    · rintro σ H1 ⟨r, x, y, rfl, hr, ho, hf, k1, w1⟩
      walk_at "go"
      exact q r _ ho hf (by omega) (by omega) k1 (w1.mono (by omega))
/-! ### _law_along -/
def sp__law_along (_ : PySem.W.Frag) : Sp := fun vs H Q _ => ∃ (a l : List Nat), vs = [T a, T l] ∧ Al a ∧ RowOf a l ∧ Free l ∧ 1 ≤ l.length ∧ l.length ≤ 5 ∧ ∀ p im H', H p = none → Same H H' → Figs H' p (l.length + 1) im → im.length = a.length → (∀ k, k < l.length → stp a im (l.getD k 0) k = k + 1) → Q (.ref p) H'
set_option maxHeartbeats 4000000 in
theorem ok__law_along (Z : Tx K mg) : FnG P w K mg base CX0 1 Z.a__law_along Z.d__law_along ["alphabet", "word"] (sp__law_along K) := by
  refine funG Z.F__law_along sc__law_along (fun vs H Q E h => ?_) (fun cdv A outer s H vs Q E gg rm h => ?_)
  · obtain ⟨a, l, rfl, ha, hr, hf, hl1, hl5, q⟩ := h; rfl
  · obtain ⟨a, l, rfl, ha, hr, hf, hl1, hl5, q⟩ := h
    refine ⟨_,
      (pss_cons (ps_par (i := 2) (j := 3) (by rfl) sc__law_along.nd rfl rfl (by decide) rfl rfl (pa_cons (pe_op (op_addK K) (pe_callB (call_lenK K) (by rfl) Z.n_len PySem.boot_len (pa_cons (pv 1) pa_nil)) pe_int) (pa_cons (pe_lst pa_nil) pa_nil)) (by rfl))
      (pss_cons (ps_for PassesOwn.never rfl (pi_K K (pv 0)) (pg_name (i := 4) sc__law_along.nd rfl (.inl rfl))
        (pss_cons (ps_set (i := 5) sc__law_along.nd rfl (.inr rfl) (pe_op op_mulG (pe_lst (pa_cons pe_non pa_nil)) (pv 2)))
        (pss_cons (ps_for PassesOwn.never rfl (pi_range1 (by rfl) Z.n_range (pa_cons (pe_callB (call_lenK K) (by rfl) Z.n_len PySem.boot_len (pa_cons (pv 1) pa_nil)) pa_nil)) (pg_name (i := 6) sc__law_along.nd rfl (.inl rfl))
          (pss_one (ps_if (pt_cmpR (op_eqK K (hu_of64 rm)) (pe_ix (ix_K K) (pv 1) (pv 6) (fun _ _ => rfl)) (pv 4) (nomark _))
            (pss_one (ps_asg (pe_op (op_addK K) (pv 6) pe_int) (pg_sub (pv 5) (pv 6) set_list)))
            (pss_one (ps_if (pt_cmpR (op_eqK K (hu_of64 rm)) (pe_ix (ix_K K) (pv 1) (pv 6) (fun _ _ => rfl)) (pe_bm0K K PySem.F.plainAttrs_str PySem.F.slot_str_upper PySem.F.type_str_upper mt_upL (pv 4)) (nomark _))
              (pss_one (ps_asg (pv 6) (pg_sub (pv 5) (pe_op (op_addK K) (pv 6) pe_int) set_list)))
              pss_nil)))))
        (pss_cons (ps_for PassesOwn.never rfl (pi_range1 (by rfl) Z.n_range (pa_cons (pv 2) pa_nil)) (pg_name (i := 7) sc__law_along.nd rfl (.inl rfl))
          (pss_one (ps_if (pt_cmpR op_isG (pe_ix (ix_K K) (pv 5) (pv 7) (fun _ _ => rfl)) pe_non (nomark _))
            (pss_one (ps_asg (pe_ix (ix_K K) (pe_lc (own := [("k", 6)]) (g := gName 6)  rfl sc__law_along.nd (pi_range1 (by rfl) Z.n_range (pa_cons (pv 2) pa_nil)) (blkOk_by (N := N__law_along) (sc := defScope s__law_along) (by decide +kernel)) (fun _ _ _ _ _ => pg_name (i := 6) sc__law_along.nd rfl (Or.inl rfl)) (fun _ _ _ _ _ => (pts_one (pt_cmpR (op_notInK K) (pv 6) (pv 5) (by rfl)))) (fun _ _ _ _ _ => (pv 6))) pe_int (fun _ _ => rfl)) (pg_sub (pv 5) (pv 7) set_list)))
            pss_nil)))
        (pss_one (ps_expr (pe_bmK K PySem.F.plainAttrs_list PySem.F.slot_list_append PySem.F.type_list_append mt_append (pv 3) (pa_cons (pe_callTy (call_tupleFK K) (by rfl) Z.n_tuple (by decide +kernel) (pa_cons (pv 5) pa_nil)) pa_nil))))))))
      (pss_one (ps_ret (pv 3))))), ?_⟩
    rw [show L2.start N__law_along [T a, T l] = [some (T a), some (T l), none, none, none, none, none, none] from rfl]
    have hal := ha.1
    have hal2 := ha.2.1
    have hlo : ∀ i, i < a.length → 97 ≤ a.getD i 0 ∧ a.getD i 0 ≤ 122 := fun i hi => ha.2.2.1 _ (getD_mem hi)
    walk_at "go"
    intro D nD
    generalize hh : upd _ D _ = H0
    obtain ⟨s0, e0⟩ := new_eq nD hh
    walk_at "go"
    walk_at "go"
    refine for_known (known_str a) (fun i σ H' => ∃ (ps : List Addr) (im : List (List Nat)) (z4 z5 z6 z7 : Option V), σ = [some (T a), some (T l), some (.int ((l.length : Int) + 1)), some (.ref D), z4, z5, z6, z7] ∧ H' D = some (.lst (ps.map V.ref)) ∧ FigL H' ps (l.length + 1) im ∧ im.length = i ∧ (∀ j, j < i → Ext (a.getD j 0) l (im.getD j [])) ∧ Same H H')
      ⟨[], [], _, _, _, _, rfl, e0, FigL.nil, rfl, (fun j hj => absurd hj (by omega)), s0⟩ (fun _ _ _ _ _ => trivial) ?_ ?_
    · rintro i σ H1 hi ⟨ps, im, z4, z5, z6, z7, rfl, eD, hfl, hil, hex, s1⟩
      have hc := hlo i hi
      generalize hgc : a.getD i 0 = c at hc
      have hca : Asc [c] := fun z hz => by rw [List.mem_singleton.mp hz]; omega
      walk_at "go"
      intro N nN
      generalize hh : upd _ N _ = H2
      obtain ⟨s2, eN⟩ := new_eq nN hh
      walk_at "go"
      refine ⟨[.non], eN, by omega, by rw [sizeLine_eq, List.length_singleton]; omega, fun F nF => ?_⟩
      generalize hh : upd _ F _ = H3
      obtain ⟨s3, eF⟩ := new_eq nF hh
      clear hh
      have eF' : H3 F = some (.lst ((fr c (l.take 0) (l.length + 1)).map ov)) := by
        rw [eF, List.take_zero, fr_nil, show ((l.length : Int) + 1).toNat = l.length + 1 by omega, List.map_replicate]
        simp [ov, List.flatten_replicate_singleton]
      walk_at "go"
      refine r_goR1 (by omega) ?_
      rw [Int.toNat_natCast]
      refine for_known (known_rng 0 _) (fun j σ H' => ∃ (z6 : Option V), σ = [some (T a), some (T l), some (.int ((l.length : Int) + 1)), some (.ref D), some (T [c]), some (.ref F), z6, z7] ∧ H' F = some (.lst ((fr c (l.take j) (l.length + 1)).map ov)) ∧ Same H2 H') ⟨_, rfl, eF', s3⟩ (fun _ _ _ _ _ => trivial) ?_ ?_
      · rintro j σ H4 hj ⟨z6, rfl, eF4, s4⟩
        have htl : (l.take j).length = j := by rw [List.length_take]; omega
        have hsn := take_snoc (getD_some hj)
        obtain ⟨d, hd⟩ : ∃ d, l.getD j 0 = d := ⟨_, rfl⟩
        rw [hd] at hsn
        have h1 := fr_set1 (c := c) (l := l.take j) (m := l.length + 1) hc (by omega)
        have h2 := fr_set2 (c := c) (l := l.take j) (m := l.length + 1) hc (by omega)
        rw [htl] at h1 h2
        rw [show (0 : Int) + (j : Int) = (j : Int) by omega]
        walk_at "go"
        refine r_ixS (by omega) (show atI l (j : Int) = some _ from at_nat (by omega) (by omega)) ?_
        rw [Int.toNat_natCast, hd]
        walk_at "go"
        refine r_ifd (fun c1 => ?_) (fun c1 => ?_)
        · have e : d = c := (List.cons.inj c1).1
          subst e
          walk_at "go"
          refine ⟨F, _, (j : Int), j, rfl, rfl, eF4, by rw [List.length_map, fr_len]; exact ixN_at (by omega), ?_⟩
          refine ⟨_, rfl, ?_, s4.mut nF⟩
          rw [upd_same, hsn, ← h1, List.map_set]; rfl
        · walk_at "go"
          refine r_ixS (by omega) (show atI l (j : Int) = some _ from at_nat (by omega) (by omega)) ?_
          rw [Int.toNat_natCast, hd]
          walk_at "go"
          refine r_map hca (by simp) ?_
          show rEqG K (T [d]) (T [up1 c]) _ _
          walk_at "go"
          refine r_ifd (fun c2 => ?_) (fun c2 => ?_)
          · have e : d = up1 c := (List.cons.inj c2).1
            walk_at "go"
            refine ⟨F, _, (j : Int) + 1, j + 1, rfl, rfl, eF4, by rw [List.length_map, fr_len, show (j : Int) + 1 = ((j + 1 : Nat) : Int) by omega]; exact ixN_at (by omega), ?_⟩
            refine ⟨_, rfl, ?_, s4.mut nF⟩
            rw [upd_same, hsn, e, ← h2, List.map_set]; rfl
          · walk_at "go"
            refine ⟨_, rfl, ?_, s4⟩
            rw [hsn, fr_skip (fun z => c1 (by rw [z])) (fun z => c2 (by rw [z]))]; exact eF4
      · rintro σ H4 ⟨z6, rfl, eF4, s4⟩
        rw [List.take_length] at eF4
        walk_at "go"
        refine r_goR1 (by omega) ?_
        rw [show ((l.length : Int) + 1).toNat = l.length + 1 by omega]
        refine for_known (known_rng 0 _) (fun j σ H' => ∃ (g : List (Option Nat)) (z6 z7 : Option V), σ = [some (T a), some (T l), some (.int ((l.length : Int) + 1)), some (.ref D), some (T [c]), some (.ref F), z6, z7] ∧ H' F = some (.lst (g.map ov)) ∧ Part (l.length + 1) g ∧ (∀ x v : Nat, (fr c l (l.length + 1))[x]? = some (some v) → g[x]? = some (some v)) ∧ (∀ x, x < j → g[x]? ≠ some none) ∧ Same H2 H') ⟨_, _, _, rfl, eF4, fr_part hc hf, (fun _ _ h => h), (fun x hx => absurd hx (by omega)), s4⟩ (fun _ _ _ _ _ => trivial) ?_ ?_
        · rintro j σ H5 hj ⟨g, z6, z7, rfl, eF5, hpt, hext, hdone, s5⟩
          have hgl := hpt.1
          obtain ⟨o, ho⟩ : ∃ o, g[j]? = some o := ⟨_, List.getElem?_eq_getElem (by omega)⟩
          rw [show (0 : Int) + (j : Int) = (j : Int) by omega]
          walk_at "go"
          refine r_ixL (SqL.of eF5) (show atI _ (j : Int) = some (ov o) from atI_nat (by rw [List.getElem?_map, ho]; rfl)) ?_
          cases o with
          | none =>
            rw [show ov none = V.non from rfl]
            walk_at "go"
            refine r_goR1 (by omega) ?_
            rw [show ((l.length : Int) + 1).toNat = l.length + 1 by omega]
            refine lc_known (known_rng 0 _) (fun k => if (!decide (some k ∈ g)) = true then some (nV k) else none) (by omega) (fun _ _ => trivial) (fun k H6 QT hk6 s6 hk => ?_) (fun D7 H7 nD7 s7 eD7 => ?_)
            · rw [show (0 : Int) + (k : Int) = (k : Int) by omega]
              have hk1 := hk _ (Same.refl _)
              walk_at "go"
              refine r_notinO (SqL.of (s6 _ _ eF5)) ?_
              walk_at "go"
              cases cc : !decide (some k ∈ g) with
              | true => rw [cc, if_pos rfl] at hk1; walk_at "go"; exact hk1
              | false => rw [cc, if_neg (by decide)] at hk1; walk_at "go"; exact hk1
            · obtain ⟨k1, ks, hfil, hk1, hn1⟩ := hpt.first ho
              rw [fm_filter (fun k => !decide (some k ∈ g)) nV, hfil] at eD7
              walk_at "go"
              refine r_ixL (SqL.of eD7) (show _ = some (nV k1) from atI_nat rfl) ?_
              walk_at "go"
              refine ⟨F, _, (j : Int), j, rfl, rfl, s7 _ _ eF5, by rw [List.length_map, hgl]; exact ixN_at (by omega), ?_⟩
              refine ⟨g.set j (some k1), _, _, rfl, by rw [upd_same, List.map_set]; rfl, hpt.put ho hk1 hn1, ?_, ?_, (s5.trans s7).mut nF⟩
              · intro x v hx
                have hx1 := hext x v hx
                rw [List.getElem?_set, if_neg (fun z => by rw [← z, ho] at hx1; cases hx1)]
                exact hx1
              · intro x hx
                rw [List.getElem?_set]
                by_cases z : j = x
                · rw [if_pos z]; split <;> exact fun y => by cases y
                · rw [if_neg z]; exact hdone x (by omega)
          | some v =>
            rw [show ov (some v) = V.int (v : Nat) from rfl]
            walk_at "go"
            refine r_isIN ?_
            walk_at "go"
            refine ⟨g, _, _, rfl, eF5, hpt, hext, fun x hx => ?_, s5⟩
            by_cases z : x = j
            · rw [z, ho]; exact fun y => by cases y
            · exact hdone x (by omega)
        · rintro σ H5 ⟨g, z6, z7, rfl, eF5, hpt, hext, hdone, s5⟩
          obtain ⟨q0, hq, hprm⟩ := hpt.prm hdone
          rw [show g.map ov = q0.map nV by rw [hq, List.map_map]; rfl] at eF5
          have eD5 := (s2.trans s5) _ _ eD
          walk_at "go"
          refine r_tupF (SqL.of eF5) fun p ob H6 np hd s6 ep => ?_
          have s16 : Same H1 H6 := s2.trans (s5.trans s6)
          have eD6 := s16 _ _ eD
          walk_at "go"
          refine r_append eD6 (by rw [List.length_map, hfl.1]; omega) ?_
          walk_at "go"
          refine ⟨ps ++ [p], im ++ [q0], _, _, _, _, rfl, by rw [upd_same, List.map_append]; rfl, ((hfl.same s16).snoc hd ep hprm).kp ((Kp.refl D H6).put) eD6, by rw [List.length_append, hil]; rfl, ?_, (s1.trans s16).mut nD⟩
          intro j hj
          by_cases z : j < i
          · rw [getD_appL (by omega)]; exact hex j z
          · have : j = im.length := by omega
            subst this
            rw [getD_appR, hil, hgc]
            exact fil_led hext hq
    rintro σ H1 ⟨ps, im, z4, z5, z6, z7, rfl, eD, hfl, hil, hex, s1⟩
    walk_at "go"
    exact q D im _ nD s1 (Figs.of eD hfl) hil (fun k hk => along_stp ha hr hf hil (fun i hi => (hfl.2 i hi).2) (fun i hi => hex i (by omega)) hk)
/-! ### _law_plain_word -/
def sp__law_plain_word (_ : PySem.W.Frag) : Sp := fun vs H Q _ => ∃ (p : Addr) (a : List Nat) (m n : Nat), vs = [.ref p, T a, .int (m : Nat)] ∧ m ≤ 1000 ∧ Wl H p n ∧ n < 2 ^ 40 ∧ Al a ∧ ∀ (l : List Nat) (H' : Hp), RowOf a l → l.length ≤ m → Kp p H H' → Wl H' p (n + m + 2) → Q (T l) H'
set_option maxHeartbeats 4000000 in
theorem ok__law_plain_word (Z : Tx K mg) : FnG P w K mg base CX0 2 Z.a__law_plain_word Z.d__law_plain_word ["well", "alphabet", "most"] (sp__law_plain_word K) := by
  refine funG Z.F__law_plain_word sc__law_plain_word (fun vs H Q E h => ?_) (fun cdv A outer s H vs Q E gg rm h => ?_)
  · obtain ⟨p, a, m, n, rfl, hm, hw, hn, ha, q⟩ := h; rfl
  · obtain ⟨p, a, m, n, rfl, hm, hw, hn, ha, q⟩ := h
    refine ⟨_,
      (pss_cons (ps_set (i := 3) sc__law_plain_word.nd rfl (.inr rfl) (pe_op (op_addK K) (pv 1) (pe_bm0K K PySem.F.plainAttrs_str PySem.F.slot_str_upper PySem.F.type_str_upper mt_upL (pv 1))))
      (pss_one (ps_ret (pe_joinK K (pe_strL (l := []) (by decide +kernel)) (pe_lc (own := [("k", 4)]) (g := gName 4) (tt := tYes) rfl sc__law_plain_word.nd (pi_range1 (by rfl) Z.n_range (pa_cons (pe_callG gg (ok__law_draw Z) rm (by rfl) Z.g__law_draw Z.F__law_draw.kp Z.b__law_draw .nil pass0 (pa_cons (pv 0) (pa_cons (pe_op (op_addK K) (pv 2) pe_int) pa_nil))) pa_nil)) (blkOk_by (N := N__law_plain_word) (sc := defScope s__law_plain_word) (by decide +kernel)) (fun _ _ _ _ _ => pg_name (i := 4) sc__law_plain_word.nd rfl (Or.inl rfl)) (fun _ _ _ _ _ => pts_nil) (fun _ _ _ _ _ => (pe_ix (ix_K K) (pv 3) (pe_callG gg (ok__law_draw Z) rm (by rfl) Z.g__law_draw Z.F__law_draw.kp Z.b__law_draw .nil pass0 (pa_cons (pv 0) (pa_cons (pe_callB (call_lenK K) (by rfl) Z.n_len PySem.boot_len (pa_cons (pv 3) pa_nil)) pa_nil))) (fun _ _ => rfl)))))))), ?_⟩
    rw [show L2.start N__law_plain_word [.ref p, T a, .int (m : Nat)] = [some (.ref p), some (T a), some (.int (m : Nat)), none, none] from rfl]
    have hal := ha.1
    have hal2 := ha.2.1
    walk_at "go"
    refine r_map ha.asc (by omega) ?_
    have hS : (a ++ a.map up1).length ≤ 8 := by rw [List.length_append, List.length_map]; omega
    have hS0 : 0 < (a ++ a.map up1).length := by rw [List.length_append]; omega
    walk_at "go"
    refine ⟨p, _, n, rfl, hw, by omega, by omega, fun r H1 r0 r1 k1 w1 => ?_⟩
    obtain ⟨u, rfl⟩ : ∃ u : Nat, r = (u : Int) := ⟨r.toNat, by omega⟩
    refine r_goR1 (by omega) ?_
    rw [Int.toNat_natCast]
    refine lc_inv (G := fun _ => True) (known_rng 0 _) (fun D i H' => D ≠ p ∧ H1 D = none ∧ Kp p H1 H' ∧ Wl H' p (n + 1 + i) ∧ ∃ ls : List Nat, ls.length = i ∧ RowOf a ls ∧ H' D = some (.lst ((ls.map fun c => [c]).map T))) ?_ (fun _ _ _ _ _ => trivial) ?_ ?_
    · intro D nD
      exact ⟨w1.ne nD, nD, (Kp.refl p _).new nD, w1.new nD, [], rfl, (fun c hc => nomatch hc), upd_same⟩
    · rintro D i H6 hi ⟨z1, z2, z3, z4, ls, z5, z6, z7⟩
      walk_at "go"
      refine ⟨p, _, _, rfl, z4, by omega, by omega, fun r7 H7 r70 r71 k7 w7 => ?_⟩
      refine r_ixS (by omega) (at_nat r70 r71) ?_
      have hc1 := getD_mem (l := a ++ a.map up1) (i := r7.toNat) (by omega)
      generalize (a ++ a.map up1).getD r7.toNat 0 = c1 at hc1
      refine ⟨_, k7 _ _ z1 z7, by rw [sizeLine_eq, List.length_map, List.length_map]; omega, z1, z2, (z3.trans k7).mut z2, (w7.put z1).mono (by omega), ls ++ [c1], by rw [List.length_append, z5]; rfl, ?_, by rw [upd_same, List.map_append, List.map_append]; rfl⟩
      intro d hd
      rcases List.mem_append.mp hd with hd | hd
      · exact z6 d hd
      · rw [List.mem_singleton.mp hd]; exact hc1
    · rintro D H6 ⟨z1, z2, z3, z4, ls, z5, z6, z7⟩
      walk_at "go"
      refine r_join0 (ls := ls.map fun c => [c]) (SqL.of z7) (by rw [ones_flat]; omega) ?_
      rw [ones_flat]
      exact q _ _ z6 (by omega) (k1.trans z3) (z4.mono (by omega))
/-! ### _law_back -/
def sp__law_back (_ : PySem.W.Frag) : Sp := fun vs H Q _ => ∃ l : List Nat, vs = [T l] ∧ Row l ∧ l.length ≤ 5000000 ∧ ∀ H', Same H H' → Q (T (bak l)) H'
set_option maxHeartbeats 4000000 in
theorem ok__law_back (Z : Tx K mg) : FnG P w K mg base CX0 2 Z.a__law_back Z.d__law_back ["given"] (sp__law_back K) := by
  refine funG Z.F__law_back sc__law_back (fun vs H Q E h => ?_) (fun cdv A outer s H vs Q E gg rm h => ?_)
  · obtain ⟨l, rfl, ha, hl, q⟩ := h; rfl
  · obtain ⟨l, rfl, ha, hl, q⟩ := h
    refine ⟨_,
      (pss_one (ps_ret (pe_joinK K (pe_strL (l := []) (by decide +kernel)) (pe_lc (own := [("sign", 1)]) (g := gName 1) (tt := tYes) rfl sc__law_back.nd (pi_K K (pe_revK K (pv 0))) (blkOk_by (N := N__law_back) (sc := defScope s__law_back) (by decide +kernel)) (fun _ _ _ _ _ => pg_name (i := 1) sc__law_back.nd rfl (Or.inl rfl)) (fun _ _ _ _ _ => pts_nil) (fun _ _ _ _ _ => (pe_callG gg (ok__law_other Z) rm (by rfl) Z.g__law_other Z.F__law_other.kp Z.b__law_other .nil pass0 (pa_cons (pv 1) pa_nil))))))), ?_⟩
    rw [show L2.start N__law_back [T l] = [some (T l), none] from rfl]
    walk_at "go"
    refine lc_known (known_str l.reverse) (fun i => some (T [swp (l.reverse.getD i 0)])) (by rw [List.length_reverse]; omega) (fun _ _ => trivial) (fun i H2 QT hi sm hk => ?_) (fun D H' nD sm eD => ?_)
    · have hc : lett (l.reverse.getD i 0) = true := ha.rev _ (getD_mem hi)
      generalize l.reverse.getD i 0 = c at hc hk
      walk_at "go"
      refine ⟨c, rfl, (Row.one hc).asc c (by simp), ?_⟩
      exact hk _ (Same.refl _)
    · walk_at "go"
      rw [fm_range l.reverse (fun c => T [swp c]) 0] at eD
      refine r_join0 (ls := (bak l).map fun c => [c]) (SqL.of (by rw [eD, ← ones_T, bak, List.map_map]; rfl)) (by rw [ones_flat, bak_len]; omega) ?_
      rw [ones_flat]
      exact q _ sm
/-! ### are_letters -/
def sp_are_letters (_ : PySem.W.Frag) : Sp := fun vs H Q _ => ∃ a : List Nat, vs = [T a] ∧ Al a ∧ ∀ H', Same H H' → Q (.bl true) H'
set_option maxHeartbeats 4000000 in
theorem ok_are_letters (Z : Tx K mg) : FnG P w K mg base CX0 1 Z.a_are_letters Z.d_are_letters ["value"] (sp_are_letters K) := by
  refine funG Z.F_are_letters sc_are_letters (fun vs H Q E h => ?_) (fun cdv A outer s H vs Q E gg rm h => ?_)
  · obtain ⟨a, rfl, ha, q⟩ := h; rfl
  · obtain ⟨a, rfl, ha, q⟩ := h
    refine ⟨_,
      (pss_cons (ps_if (PW.pt (pw_or (pt_not (pt_truK K (pe_callB (call_isXK K) (by rfl) Z.n_isinstance (by decide +kernel) (pa_cons (pv 0) (pa_cons (pe_bltn (v := .ty "str") (u := .type "str") (by rfl) Z.n_str (by decide +kernel) rfl) pa_nil))) (by intro _; rfl))) (pw_or1 (pt_not (pt_chain op_le op_le pe_int (pe_callB (call_lenK K) (by rfl) Z.n_len PySem.boot_len (pa_cons (pv 0) pa_nil)) (pe_glob (v := .int 4) (by rfl) Z.g_MOST_LETTERS ⟨_, rfl⟩))))))
        (pss_one (ps_ret pe_bl))
        pss_nil)
      (pss_cons (ps_if (pt_not (pt_truK K (pe_callB (cr_allK K rfl) (by rfl) Z.n_all (by decide +kernel) (pa_cons (pe_lc (own := [("sign", 3)]) (g := gName 3) (tt := tYes) rfl sc_are_letters.nd (pi_K K (pv 0)) (blkOk_by (N := N_are_letters) (sc := defScope s_are_letters) (by decide +kernel)) (fun _ _ _ _ _ => pg_name (i := 3) sc_are_letters.nd rfl (Or.inl rfl)) (fun _ _ _ _ _ => pts_nil) (fun _ _ _ _ _ => (pe_cmpR (op_inK K) (pv 3) (pe_glob (v := .str k_LOW) (by rfl) Z.g_LOW ⟨_, rfl⟩) (by rfl)))) pa_nil)) (by intro _; rfl)))
        (pss_one (ps_ret pe_bl))
        pss_nil)
      (pss_one (ps_ret (pe_callB (cr_allK K rfl) (by rfl) Z.n_all (by decide +kernel) (pa_cons (pe_lc (own := [("one", 1), ("two", 2)])  (tt := tYes) rfl sc_are_letters.nd (pi_zipSK K (by rfl) Z.n_zip (pa_cons (pv 0) (pa_cons (pe_slice (sl_K K) (pv 0) (po_some pe_int) po_none) pa_nil))) (blkOk_by (N := N_are_letters) (sc := defScope s_are_letters) (by decide +kernel)) (fun _ _ _ _ _ => (pg_tupK (n := 2) K rfl (pgs_cons (pg_name (i := 1) sc_are_letters.nd rfl (.inl rfl)) (pgs_cons (pg_name (i := 2) sc_are_letters.nd rfl (.inl rfl)) pgs_nil)))) (fun _ _ _ _ _ => pts_nil) (fun _ _ _ _ _ => (pe_cmpR op_ltG (pv 1) (pv 2) (nomark _)))) pa_nil)))))), ?_⟩
    rw [show L2.start N_are_letters [T a] = [some (T a), none, none, none] from rfl]
    have hal := ha.1
    have hal2 := ha.2.1
    walk_at "go"
    rw [decide_eq_true (show (1 : Int) ≤ (a.length : Int) by omega)]
    walk_at "go"
    rw [decide_eq_true (show (a.length : Int) ≤ 4 by omega)]
    walk_at "go"
    refine lc_known (known_str a) (fun i => some (.bl true)) (by omega) (fun _ _ => trivial) (fun i H2 QT hi sm hk => ?_) (fun D H1 nD s1 eD => ?_)
    · walk_at "go"
      rw [decide_eq_true (in_low.mpr (ha.2.2.1 _ (getD_mem hi)))]
      exact hk _ (Same.refl _)
    · walk_at "go"
      refine r_all (bs := List.replicate a.length true) (SqL.of (by rw [eD, fm_const, List.map_replicate])) ?_
      rw [all_rep]
      walk_at "go"
      rw [show (1 : Int) = ((1 : Nat) : Int) from rfl, cut_from]
      refine r_goZS (wkS (wkS ?_))
      refine lc_pair (known_zipS (a.map fun c => T [c]) ((a.drop 1).map fun c => T [c])) (fun i => some (.bl true)) (by simp only [List.length_map, List.length_drop]; omega) (fun _ _ => ⟨rfl, rfl⟩) (fun i H2 d QT hi sm nd hk => ?_) (fun D2 H2 nD2 s2 eD2 => ?_)
      · simp only [List.length_map, List.length_drop] at hi
        rw [chars_getD (show i < a.length by omega), chars_getD (show i < (a.drop 1).length by rw [List.length_drop]; omega), getD_drop] at hk ⊢
        walk_at "go"
        rw [one_lt (ha.lt (show i < 1 + i by omega) (by omega))]
        exact hk _ (Same.refl _)
      · walk_at "go"
        refine r_all (bs := List.replicate (min (a.map fun c => T [c]).length ((a.drop 1).map fun c => T [c]).length) true) (SqL.of (by rw [eD2, fm_const, List.map_replicate])) ?_
        rw [all_rep]
        exact q _ (s1.trans s2)
/-! ### check_letters -/
def sp_check_letters (_ : PySem.W.Frag) : Sp := fun vs H Q _ => ∃ a : List Nat, vs = [T a] ∧ Al a ∧ ∀ H', Same H H' → Q .non H'
set_option maxHeartbeats 4000000 in
theorem ok_check_letters (Z : Tx K mg) : FnG P w K mg base CX0 2 Z.a_check_letters Z.d_check_letters ["value"] (sp_check_letters K) := by
  refine funG Z.F_check_letters sc_check_letters (fun vs H Q E h => ?_) (fun cdv A outer s H vs Q E gg rm h => ?_)
  · obtain ⟨a, rfl, ha, q⟩ := h; rfl
  · obtain ⟨a, rfl, ha, q⟩ := h
    refine ⟨_,
      (pss_one (ps_if (pt_not (pt_truK K (pe_callG gg (ok_are_letters Z) rm (by rfl) Z.g_are_letters Z.F_are_letters.kp Z.b_are_letters .nil pass0 (pa_cons (pv 0) pa_nil)) (by intro _; rfl)))
        (pss_one (ps_never))
        pss_nil)), ?_⟩
    rw [show L2.start N_check_letters [T a] = [some (T a)] from rfl]
    walk_at "go"
    refine ⟨a, rfl, ha, fun H1 s1 => ?_⟩
    walk_at "go"
    exact q _ s1
/-! ### is_whole -/
def sp_is_whole (_ : PySem.W.Frag) : Sp := fun vs H Q _ => ∃ i : Int, vs = [.int i] ∧ Q (.bl true) H
set_option maxHeartbeats 4000000 in
theorem ok_is_whole (Z : Tx K mg) : FnG P w K mg base CX0 1 Z.a_is_whole Z.d_is_whole ["value"] (sp_is_whole K) := by
  refine funG Z.F_is_whole sc_is_whole (fun vs H Q E h => ?_) (fun cdv A outer s H vs Q E gg rm h => ?_)
  · obtain ⟨i, rfl, q⟩ := h; rfl
  · obtain ⟨i, rfl, q⟩ := h
    refine ⟨_,
      (pss_one (ps_ret (pe_andK K (pe_callB (call_isXK K) (by rfl) Z.n_isinstance (by decide +kernel) (pa_cons (pv 0) (pa_cons (pe_bltn (v := .ty "int") (u := .type "int") (by rfl) Z.n_int (by decide +kernel) rfl) pa_nil))) (pe_one (pe_notK K (pe_callB (call_isXK K) (by rfl) Z.n_isinstance (by decide +kernel) (pa_cons (pv 0) (pa_cons (pe_bltn (v := .ty "bool") (u := .type "bool") (by rfl) Z.n_bool (by decide +kernel) rfl) pa_nil)))))))), ?_⟩
    rw [show L2.start N_is_whole [.int i] = [some (.int i)] from rfl]
    walk_at "go"
    exact q
/-! ### is_permutation -/
def sp_is_permutation (_ : PySem.W.Frag) : Sp := fun vs H Q _ => ∃ (p : Addr) (ob : Obj) (l : List Nat) (n : Nat), vs = [.ref p, .int (n : Int)] ∧ H p = some (.frz ob (.tup (l.map nV))) ∧ Prm n l ∧ n ≤ 6 ∧ ∀ H', Same H H' → Q (.bl true) H'
set_option maxHeartbeats 4000000 in
theorem ok_is_permutation (Z : Tx K mg) : FnG P w K mg base CX0 2 Z.a_is_permutation Z.d_is_permutation ["value", "points"] (sp_is_permutation K) := by
  refine funG Z.F_is_permutation sc_is_permutation (fun vs H Q E h => ?_) (fun cdv A outer s H vs Q E gg rm h => ?_)
  · obtain ⟨p, ob, l, n, rfl, ep, hp, hn, q⟩ := h; rfl
  · obtain ⟨p, ob, l, n, rfl, ep, hp, hn, q⟩ := h
    refine ⟨_,
      (pss_cons (ps_if (PW.pt (pw_or (pt_not (pt_truK K (pe_callB (call_isXK K) (by rfl) Z.n_isinstance (by decide +kernel) (pa_cons (pv 0) (pa_cons (pe_bltn (v := .ty "tuple") (u := .type "tuple") (by rfl) Z.n_tuple (by decide +kernel) rfl) pa_nil))) (by intro _; rfl))) (pw_or (pt_cmpR (op_neK K (hu_of64 rm)) (pe_callB (call_lenK K) (by rfl) Z.n_len PySem.boot_len (pa_cons (pv 0) pa_nil)) (pv 1) (nomark _)) (pw_or1 (pt_not (pt_truK K (pe_callB (cr_allK K rfl) (by rfl) Z.n_all (by decide +kernel) (pa_cons (pe_lc (own := [("point", 2)]) (g := gName 2) (tt := tYes) rfl sc_is_permutation.nd (pi_K K (pv 0)) (blkOk_by (N := N_is_permutation) (sc := defScope s_is_permutation) (by decide +kernel)) (fun _ _ _ _ _ => pg_name (i := 2) sc_is_permutation.nd rfl (Or.inl rfl)) (fun _ _ _ _ _ => pts_nil) (fun _ _ _ _ _ => (pe_callG gg (ok_is_whole Z) rm (by rfl) Z.g_is_whole Z.F_is_whole.kp Z.b_is_whole .nil pass0 (pa_cons (pv 2) pa_nil)))) pa_nil)) (by intro _; rfl)))))))
        (pss_one (ps_ret pe_bl))
        pss_nil)
      (pss_one (ps_ret (pe_cmpR (op_eqK K (hu_of64 rm)) (pe_callB (cr_sortedGK K) (by rfl) Z.n_sorted (by decide +kernel) (pa_cons (pv 0) pa_nil)) (pe_listRg rfl (by rfl) Z.n_list (prg_1 (by rfl) Z.n_range (pv 1))) (nomark _))))), ?_⟩
    rw [show L2.start N_is_permutation [.ref p, .int (n : Int)] = [some (.ref p), some (.int (n : Int)), none] from rfl]
    have hl := hp.len
    walk_at "go"
    refine r_ixF ep (by rfl) ?_
    walk_at "go"
    refine r_lenT (SqT.frz ep) ?_
    walk_at "go"
    rw [List.length_map, decide_eq_true (show (l.length : Int) = (n : Int) by omega)]
    walk_at "go"
    refine r_goT (SqT.frz ep) ?_
    refine lc_known (known_tup (l.map nV)) (fun i => some (.bl true)) (by rw [List.length_map]; omega) (fun H2 s2 => SqT.frz (s2 _ _ ep)) (fun i H2 QT hi sm hk => ?_) (fun D H1 nD s1 eD => ?_)
    · rw [nats_getD (by simpa using hi)]
      walk_at "go"
      refine ⟨_, rfl, ?_⟩
      exact hk _ (Same.refl _)
    · walk_at "go"
      refine r_all (bs := List.replicate (l.map nV).length true) (SqL.of (by rw [eD, fm_const, List.map_replicate])) ?_
      rw [all_rep]
      walk_at "go"
      refine .inr <| .inl <| r_srtT (K := K) (ns := l.map fun x : Nat => (x : Int)) (by rw [← nats_int]; exact SqT.frz (s1 _ _ ep)) (by rw [List.length_map]; omega) fun ns d hpn hsn nd => ?_
      rw [sorted_prm hp hpn hsn]
      walk_at "go"
      refine r_lRg (by omega) fun d2 nd2 => ?_
      rw [nats_int]
      refine r_eqLi (as := (List.range n).map fun x : Nat => (x : Int)) (bs := (List.range n).map fun x : Nat => (x : Int)) (SqL.of (Same.new1 nd2 _ _ upd_same)) (SqL.of upd_same) ?_
      rw [decide_eq_true rfl]
      exact q _ ((s1.new nd).new nd2)
/-! ### are_images -/
def sp_are_images (_ : PySem.W.Frag) : Sp := fun vs H Q _ => ∃ (p : Addr) (a : List Nat) (im : List (List Nat)) (n : Nat), vs = [T a, .ref p] ∧ Al a ∧ im.length = a.length ∧ Figs H p n im ∧ 1 ≤ n ∧ n ≤ 6 ∧ ∀ H', Same H H' → Q (.bl true) H'
set_option maxHeartbeats 4000000 in
theorem ok_are_images (Z : Tx K mg) : FnG P w K mg base CX0 3 Z.a_are_images Z.d_are_images ["letters", "value"] (sp_are_images K) := by
  refine funG Z.F_are_images sc_are_images (fun vs H Q E h => ?_) (fun cdv A outer s H vs Q E gg rm h => ?_)
  · obtain ⟨p, a, im, n, rfl, ha, hl, hf, hn1, hn6, q⟩ := h; rfl
  · obtain ⟨p, a, im, n, rfl, ha, hl, hf, hn1, hn6, q⟩ := h
    refine ⟨_,
      (pss_cons (ps_if (PW.pt (pw_or (pt_not (pt_truK K (pe_callB (call_isXK K) (by rfl) Z.n_isinstance (by decide +kernel) (pa_cons (pv 1) (pa_cons (pe_bltn (v := .ty "list") (u := .type "list") (by rfl) Z.n_list (by decide +kernel) rfl) pa_nil))) (by intro _; rfl))) (pw_or (pt_cmpR (op_neK K (hu_of64 rm)) (pe_callB (call_lenK K) (by rfl) Z.n_len PySem.boot_len (pa_cons (pv 1) pa_nil)) (pe_callB (call_lenK K) (by rfl) Z.n_len PySem.boot_len (pa_cons (pv 0) pa_nil)) (nomark _)) (pw_or1 (pt_not (pt_truK K (pe_callB (call_isXK K) (by rfl) Z.n_isinstance (by decide +kernel) (pa_cons (pe_ix (ix_K K) (pv 1) pe_int (fun _ _ => rfl)) (pa_cons (pe_bltn (v := .ty "tuple") (u := .type "tuple") (by rfl) Z.n_tuple (by decide +kernel) rfl) pa_nil))) (by intro _; rfl)))))))
        (pss_one (ps_ret pe_bl))
        pss_nil)
      (pss_cons (ps_set (i := 2) sc_are_images.nd rfl (.inr rfl) (pe_callB (call_lenK K) (by rfl) Z.n_len PySem.boot_len (pa_cons (pe_ix (ix_K K) (pv 1) pe_int (fun _ _ => rfl)) pa_nil)))
      (pss_one (ps_ret (pe_andK K (pe_chain op_le op_le pe_int (pv 2) (pe_glob (v := .int 6) (by rfl) Z.g_MOST_POINTS ⟨_, rfl⟩)) (pe_one (pe_callB (cr_allK K rfl) (by rfl) Z.n_all (by decide +kernel) (pa_cons (pe_lc (own := [("image", 3)]) (g := gName 3) (tt := tYes) rfl sc_are_images.nd (pi_K K (pv 1)) (blkOk_by (N := N_are_images) (sc := defScope s_are_images) (by decide +kernel)) (fun _ _ _ _ _ => pg_name (i := 3) sc_are_images.nd rfl (Or.inl rfl)) (fun _ _ _ _ _ => pts_nil) (fun _ _ _ _ _ => (pe_callG gg (ok_is_permutation Z) rm (by rfl) Z.g_is_permutation Z.F_is_permutation.kp Z.b_is_permutation .nil pass0 (pa_cons (pv 3) (pa_cons (pv 2) pa_nil))))) pa_nil)))))))), ?_⟩
    rw [show L2.start N_are_images [T a, .ref p] = [some (T a), some (.ref p), none, none] from rfl]
    have hal := ha.1
    have hal2 := ha.2.1
    have hf0 := hf
    obtain ⟨ps, e1, e2, e3⟩ := hf
    obtain ⟨⟨ob0, hd0, e30⟩, e31⟩ := e3 0 (by omega)
    have h0 : atI (ps.map V.ref) ((0 : Nat) : Int) = some (.ref (ps.getD 0 0)) := atI_nat (by rw [List.getElem?_map, List.getElem?_eq_getElem (by omega), List.getD_eq_getElem?_getD, List.getElem?_eq_getElem (by omega)]; rfl)
    walk_at "go"
    rw [List.length_map, decide_eq_true (show (ps.length : Int) = (a.length : Int) by omega)]
    walk_at "go"
    refine r_ixL (SqL.of e1) h0 ?_
    walk_at "go"
    refine r_ixF e30 (by rfl) ?_
    walk_at "go"
    refine r_ixL (SqL.of e1) h0 ?_
    walk_at "go"
    refine r_lenT (SqT.frz e30) ?_
    walk_at "go"
    rw [List.length_map, e31.len]
    walk_at "go"
    rw [decide_eq_true (show (1 : Int) ≤ (n : Int) by omega)]
    walk_at "go"
    rw [decide_eq_true (show (n : Int) ≤ 6 by omega)]
    walk_at "go"
    refine r_goL (SqL.of e1) ?_
    refine lc_known (known_list (ps.map V.ref)) (fun i => some (.bl true)) (by rw [List.length_map]; omega) (fun H2 s2 => SqL.of (s2 _ _ e1)) (fun i H2 QT hi sm hk => ?_) (fun D H1 nD s1 eD => ?_)
    · have hi' : i < ps.length := by simpa using hi
      rw [refs_getD hi']
      obtain ⟨⟨ob, hob, e4⟩, e5⟩ := e3 i (by omega)
      walk_at "go"
      refine ⟨_, ob, im.getD i [], n, rfl, sm _ _ e4, e5, hn6, fun H3 s3 => ?_⟩
      exact hk _ s3
    · walk_at "go"
      refine r_all (bs := List.replicate (ps.map V.ref).length true) (SqL.of (by rw [eD, fm_const, List.map_replicate])) ?_
      rw [all_rep]
      exact q _ s1
/-! ### check_images -/
def sp_check_images (_ : PySem.W.Frag) : Sp := fun vs H Q _ => ∃ (p : Addr) (a : List Nat) (im : List (List Nat)) (n : Nat), vs = [T a, .ref p] ∧ Al a ∧ im.length = a.length ∧ Figs H p n im ∧ 1 ≤ n ∧ n ≤ 6 ∧ ∀ H', Same H H' → Q .non H'
set_option maxHeartbeats 4000000 in
theorem ok_check_images (Z : Tx K mg) : FnG P w K mg base CX0 4 Z.a_check_images Z.d_check_images ["letters", "value"] (sp_check_images K) := by
  refine funG Z.F_check_images sc_check_images (fun vs H Q E h => ?_) (fun cdv A outer s H vs Q E gg rm h => ?_)
  · obtain ⟨p, a, im, n, rfl, ha, hl, hf, hn1, hn6, q⟩ := h; rfl
  · obtain ⟨p, a, im, n, rfl, ha, hl, hf, hn1, hn6, q⟩ := h
    refine ⟨_,
      (pss_one (ps_if (pt_not (pt_truK K (pe_callG gg (ok_are_images Z) rm (by rfl) Z.g_are_images Z.F_are_images.kp Z.b_are_images .nil pass0 (pa_cons (pv 0) (pa_cons (pv 1) pa_nil))) (by intro _; rfl)))
        (pss_one (ps_never))
        pss_nil)), ?_⟩
    rw [show L2.start N_check_images [T a, .ref p] = [some (T a), some (.ref p)] from rfl]
    walk_at "go"
    refine ⟨p, a, im, n, rfl, ha, hl, hf, hn1, hn6, fun H1 s1 => ?_⟩
    walk_at "go"
    exact q _ s1
/-! ### is_row_of -/
def sp_is_row_of (_ : PySem.W.Frag) : Sp := fun vs H Q _ => ∃ a l : List Nat, vs = [T a, T l] ∧ Al a ∧ RowOf a l ∧ l.length ≤ 1000 ∧ ∀ H', Same H H' → Q (.bl true) H'
set_option maxHeartbeats 4000000 in
theorem ok_is_row_of (Z : Tx K mg) : FnG P w K mg base CX0 1 Z.a_is_row_of Z.d_is_row_of ["letters", "value"] (sp_is_row_of K) := by
  refine funG Z.F_is_row_of sc_is_row_of (fun vs H Q E h => ?_) (fun cdv A outer s H vs Q E gg rm h => ?_)
  · obtain ⟨a, l, rfl, ha, hr, hl, q⟩ := h; rfl
  · obtain ⟨a, l, rfl, ha, hr, hl, q⟩ := h
    refine ⟨_,
      (pss_cons (ps_if (pt_not (pt_truK K (pe_callB (call_isXK K) (by rfl) Z.n_isinstance (by decide +kernel) (pa_cons (pv 1) (pa_cons (pe_bltn (v := .ty "str") (u := .type "str") (by rfl) Z.n_str (by decide +kernel) rfl) pa_nil))) (by intro _; rfl)))
        (pss_one (ps_ret pe_bl))
        pss_nil)
      (pss_cons (ps_set (i := 2) sc_is_row_of.nd rfl (.inr rfl) (pe_op (op_addK K) (pv 0) (pe_bm0K K PySem.F.plainAttrs_str PySem.F.slot_str_upper PySem.F.type_str_upper mt_upL (pv 0))))
      (pss_one (ps_ret (pe_callB (cr_allK K rfl) (by rfl) Z.n_all (by decide +kernel) (pa_cons (pe_lc (own := [("sign", 3)]) (g := gName 3) (tt := tYes) rfl sc_is_row_of.nd (pi_K K (pv 1)) (blkOk_by (N := N_is_row_of) (sc := defScope s_is_row_of) (by decide +kernel)) (fun _ _ _ _ _ => pg_name (i := 3) sc_is_row_of.nd rfl (Or.inl rfl)) (fun _ _ _ _ _ => pts_nil) (fun _ _ _ _ _ => (pe_cmpR (op_inK K) (pv 3) (pv 2) (by rfl)))) pa_nil)))))), ?_⟩
    rw [show L2.start N_is_row_of [T a, T l] = [some (T a), some (T l), none, none] from rfl]
    have hal := ha.1
    have hal2 := ha.2.1
    walk_at "go"
    refine r_map ha.asc (by omega) ?_
    walk_at "go"
    refine lc_known (known_str l) (fun i => some (.bl true)) (by omega) (fun _ _ => trivial) (fun i H2 QT hi sm hk => ?_) (fun D H' nD sm eD => ?_)
    · walk_at "go"
      rw [decide_eq_true (hr _ (getD_mem hi))]
      exact hk _ (Same.refl _)
    · walk_at "go"
      refine r_all (bs := List.replicate l.length true) (SqL.of (by rw [eD, fm_const, List.map_replicate])) ?_
      rw [all_rep]
      exact q _ sm
/-! ### check_row_of -/
def sp_check_row_of (_ : PySem.W.Frag) : Sp := fun vs H Q _ => ∃ a l : List Nat, vs = [T a, T l] ∧ Al a ∧ RowOf a l ∧ l.length ≤ 1000 ∧ ∀ H', Same H H' → Q .non H'
set_option maxHeartbeats 4000000 in
theorem ok_check_row_of (Z : Tx K mg) : FnG P w K mg base CX0 2 Z.a_check_row_of Z.d_check_row_of ["letters", "value"] (sp_check_row_of K) := by
  refine funG Z.F_check_row_of sc_check_row_of (fun vs H Q E h => ?_) (fun cdv A outer s H vs Q E gg rm h => ?_)
  · obtain ⟨a, l, rfl, ha, hr, hl, q⟩ := h; rfl
  · obtain ⟨a, l, rfl, ha, hr, hl, q⟩ := h
    refine ⟨_,
      (pss_one (ps_if (pt_not (pt_truK K (pe_callG gg (ok_is_row_of Z) rm (by rfl) Z.g_is_row_of Z.F_is_row_of.kp Z.b_is_row_of .nil pass0 (pa_cons (pv 0) (pa_cons (pv 1) pa_nil))) (by intro _; rfl)))
        (pss_one (ps_never))
        pss_nil)), ?_⟩
    rw [show L2.start N_check_row_of [T a, T l] = [some (T a), some (T l)] from rfl]
    walk_at "go"
    refine ⟨a, l, rfl, ha, hr, hl, fun H1 s1 => ?_⟩
    walk_at "go"
    exact q _ s1
/-! ### steps_by -/
def sp_steps_by (_ : PySem.W.Frag) : Sp := fun vs H Q _ => ∃ (p : Addr) (a : List Nat) (im : List (List Nat)) (n : Nat), vs = [T a, .ref p] ∧ Al a ∧ im.length = a.length ∧ Figs H p n im ∧ n ≤ 6 ∧ ∀ d H', H d = none → Same H H' → Stps H' d a im n a.length → Q (.ref d) H'
set_option maxHeartbeats 4000000 in
theorem ok_steps_by (Z : Tx K mg) : FnG P w K mg base CX0 1 Z.a_steps_by Z.d_steps_by ["letters", "images"] (sp_steps_by K) := by
  refine funG Z.F_steps_by sc_steps_by (fun vs H Q E h => ?_) (fun cdv A outer s H vs Q E gg rm h => ?_)
  · obtain ⟨p, a, im, n, rfl, ha, hl, hf, hn6, q⟩ := h; rfl
  · obtain ⟨p, a, im, n, rfl, ha, hl, hf, hn6, q⟩ := h
    refine ⟨_,
      (pss_cons (ps_set (i := 2) sc_steps_by.nd rfl (.inl rfl) pe_dnewK)
      (pss_cons (ps_for PassesOwn.never rfl (pi_zipSK K (by rfl) Z.n_zip (pa_cons (pv 0) (pa_cons (pv 1) pa_nil))) (pg_tupK (n := 2) K rfl (pgs_cons (pg_name (i := 3) sc_steps_by.nd rfl (.inl rfl)) (pgs_cons (pg_name (i := 4) sc_steps_by.nd rfl (.inr rfl)) pgs_nil)))
        (pss_cons (ps_dput (hu_of rm) (pv 2) (pv 3) (pv 4) rfl)
        (pss_one (ps_dput (hu_of rm) (pv 2) (pe_bm0K K PySem.F.plainAttrs_str PySem.F.slot_str_upper PySem.F.type_str_upper mt_upL (pv 3)) (pe_callTy (call_tupleK K) (by rfl) Z.n_tuple (by decide +kernel) (pa_cons (pe_lc (own := [("point", 5)]) (g := gName 5) (tt := tYes) rfl sc_steps_by.nd (pi_range1 (by rfl) Z.n_range (pa_cons (pe_callB (call_lenK K) (by rfl) Z.n_len PySem.boot_len (pa_cons (pv 4) pa_nil)) pa_nil)) (blkOk_by (N := N_steps_by) (sc := defScope s_steps_by) (by decide +kernel)) (fun _ _ _ _ _ => pg_name (i := 5) sc_steps_by.nd rfl (Or.inl rfl)) (fun _ _ _ _ _ => pts_nil) (fun _ _ _ _ _ => (pe_bmF PySem.F.plainAttrs_tuple PySem.F.slot_tuple_index PySem.F.type_tuple_index (mt_tupIdxK K) (pv 4) (pa_cons (pv 5) pa_nil)))) pa_nil)) rfl))))
      (pss_one (ps_ret (pv 2))))), ?_⟩
    rw [show L2.start N_steps_by [T a, .ref p] = [some (T a), some (.ref p), none, none, none, none] from rfl]
    have hal := ha.1
    have hal2 := ha.2.1
    obtain ⟨ps, e1, e2, e3⟩ := hf
    walk_at "go"
    intro d nd
    walk_at "go"
    refine r_goZS (wkS (wkL (SqL.of (Same.new1 nd _ _ e1)) ?_))
    refine for_pair (known_zipS (a.map fun c => T [c]) (ps.map V.ref)) (fun i σ H' => ∃ x y, σ = [some (T a), some (.ref p), some (.ref d), x, y, none] ∧ Same H H' ∧ Stps H' d a im n i)
      ⟨none, none, rfl, Same.new1 nd, Stps.zero upd_same⟩ (fun i σ H' _ ⟨_, _, _, s, _⟩ => ⟨rfl, SqL.of (s _ _ e1)⟩) ?_ ?_
    · rintro i σ H' e hi ⟨x, y, rfl, sm, hst⟩ ne
      simp only [List.length_map] at hi
      have hi' : i < a.length := by omega
      rw [chars_getD hi', refs_getD (show i < ps.length by omega)]
      obtain ⟨⟨ob, hob, e4⟩, e5⟩ := e3 i (by omega)
      walk_at "go"
      obtain ⟨kvs, ed, lk, hst'⟩ := hst
      have nde : d ≠ e := ne_of_none ed ne
      have s0 : Same H (upd H' e (.tup [T [a.getD i 0], .ref (ps.getD i 0)])) := sm.new ne
      refine r_dputK (kvs := kvs) (by rw [upd_ne nde]; exact ed) (by omega) ?_
      have s1 := s0.mut (o := HO.dK (putK kvs (Sum.inr (mkS [a.getD i 0])) (.ref (ps.getD i 0)))) nd
      have e6 := s1 _ _ e4
      have hli := e5.len
      have k0 : Kp d H' (upd (upd H' e (.tup [T [a.getD i 0], .ref (ps.getD i 0)])) d (.dK (putK kvs (Sum.inr (mkS [a.getD i 0])) (.ref (ps.getD i 0))))) := ((Kp.refl d H').new ne).put
      have ed1 : (upd (upd H' e (.tup [T [a.getD i 0], .ref (ps.getD i 0)])) d (.dK (putK kvs (Sum.inr (mkS [a.getD i 0])) (.ref (ps.getD i 0))))) d = some (.dK (putK kvs (Sum.inr (mkS [a.getD i 0])) (.ref (ps.getD i 0)))) := upd_same
      generalize upd (upd H' e (.tup [T [a.getD i 0], .ref (ps.getD i 0)])) d (.dK (putK kvs (Sum.inr (mkS [a.getD i 0])) (.ref (ps.getD i 0)))) = H1 at *
      walk_at "go"
      refine r_lenT (SqT.frz e6) ?_
      walk_at "go"
      rw [List.length_map, hli]
      refine r_goR1 (by omega) ?_
      refine lc_known (known_rng 0 _) (fun x => some (nV ((im.getD i []).idxOf x))) (by omega) (fun _ _ => trivial) (fun x H2 QT hx sx hk => ?_) (fun L H2 nL s2 eL => ?_)
      · rw [Int.zero_add]
        walk_at "go"
        refine r_bmF ?_
        walk_at "go"
        refine r_tyF (sx _ _ e6) hob ?_
        walk_at "go"
        refine r_idxT (ns := (im.getD i []).map fun x : Nat => (x : Int)) (by rw [← nats_int]; exact SqT.frz (sx _ _ e6)) (List.mem_map.mpr ⟨x, e5.mem.mpr (by omega), rfl⟩) ?_
        rw [idx_cast]
        exact hk _ (Same.refl _)
      · rw [Int.toNat_natCast, fm_some] at eL
        walk_at "go"
        refine r_tupL (SqL.of eL) fun b2 nb2 => ?_
        walk_at "go"
        refine r_map (l := [a.getD i 0]) (Row.one (ha.row _ (getD_mem hi'))).asc (by simp) ?_
        have s12 : Same H1 (upd H2 b2 (.tup ((List.range n).map fun x => nV ((im.getD i []).idxOf x)))) := s2.new nb2
        have eb2 : (upd H2 b2 (.tup ((List.range n).map fun x => nV ((im.getD i []).idxOf x)))) b2 = some (.tup ((inv n (im.getD i [])).map nV)) := by rw [upd_same]; unfold inv; rw [List.map_map]; rfl
        have p1 := put_len kvs (Sum.inr (mkS [a.getD i 0])) (.ref (ps.getD i 0))
        refine r_dputK (s12 _ _ ed1) (by omega) ?_
        refine ⟨_, _, rfl, (s1.trans s12).mut nd, ?_⟩
        have nb2d : b2 ≠ d := fun z => by
          have := s12 _ _ ed1
          rw [← z, eb2] at this; cases this
        have nbd : ps.getD i 0 ≠ d := fun z => by
          rw [← z, e6] at ed1; cases ed1
        refine Stps.step ha hi' ed lk hst' upd_same ?_ ?_ ((k0.trans (Kp.of s12)).put)
        · exact .inr ⟨ob, by rw [upd_ne nbd]; exact s12 _ _ e6⟩
        · exact .inl (by rw [upd_ne nb2d]; exact eb2)
    · rintro σ H' ⟨x, y, rfl, sm, hst⟩
      walk_at "go"
      refine q d _ nd sm ?_
      have : min (a.map fun c => T [c]).length (ps.map V.ref).length = a.length := by simp only [List.length_map]; omega
      rw [← this]; exact hst
/-! ### led -/
def sp_led (_ : PySem.W.Frag) : Sp := fun vs H Q _ => ∃ (d : Addr) (a l : List Nat) (im : List (List Nat)) (n x : Nat), vs = [.ref d, T l, .int (x : Int)] ∧ Al a ∧ im.length = a.length ∧ (∀ i, i < im.length → Prm n (im.getD i [])) ∧ Stps H d a im n a.length ∧ RowOf a l ∧ l.length ≤ 1000 ∧ x < n ∧ Q (nV (ledF a im l x)) H
set_option maxHeartbeats 4000000 in
theorem ok_led (Z : Tx K mg) : FnG P w K mg base CX0 1 Z.a_led Z.d_led ["steps", "row", "point"] (sp_led K) := by
  refine funG Z.F_led sc_led (fun vs H Q E h => ?_) (fun cdv A outer s H vs Q E gg rm h => ?_)
  · obtain ⟨d, a, l, im, n, x, rfl, ha, hl, hp, hs, hr, hll, hx, q⟩ := h; rfl
  · obtain ⟨d, a, l, im, n, x, rfl, ha, hl, hp, hs, hr, hll, hx, q⟩ := h
    refine ⟨_,
      (pss_cons (ps_for PassesOwn.never rfl (pi_K K (pv 1)) (pg_name (i := 3) sc_led.nd rfl (.inl rfl))
        (pss_one (ps_set (i := 2) sc_led.nd rfl (.inl rfl) (pe_ix (ix_K K) (pe_dget (hu_of rm) (pv 0) (pv 3) (fun _ _ => rfl)) (pv 2) (fun _ _ => rfl)))))
      (pss_one (ps_ret (pv 2)))), ?_⟩
    rw [show L2.start N_led [.ref d, T l, .int (x : Int)] = [some (.ref d), some (T l), some (.int (x : Int)), none] from rfl]
    walk_at "go"
    refine for_known (known_str l) (fun i σ H' => ∃ (y : Nat) (z : Option V), σ = [some (.ref d), some (T l), some (.int (y : Int)), z] ∧ y = ledF a im (l.take i) x ∧ y < n ∧ H' = H) ⟨x, none, rfl, rfl, hx, rfl⟩ (fun _ _ _ _ _ => trivial) ?_ ?_
    · rintro i σ H' hi ⟨y, z, rfl, ey, hy, rfl⟩
      have hsn := take_snoc (getD_some hi)
      obtain ⟨kvs, b, l', k1, k2, k3, k4, k5, k6⟩ := stp_spec ha hl hp hs (hr _ (getD_mem hi)) hy
      have e2 : ledF a im (l.take (i + 1)) x = stp a im (l.getD i 0) y := by rw [hsn, ledF_snoc, ← ey]
      generalize l.getD i 0 = c at *
      walk_at "go"
      refine r_dgetK k1 k2 ?_
      walk_at "go"
      refine r_ixT (SqT.rd k3) (at_nats (show y < l'.length by omega)) ?_
      rw [k5]
      exact ⟨_, _, rfl, e2.symm, k6, rfl⟩
    · rintro σ H' ⟨y, z, rfl, ey, hy, rfl⟩
      rw [List.take_length] at ey
      walk_at "go"
      rw [ey]; exact q
/-! ### moved -/
def sp_moved (_ : PySem.W.Frag) : Sp := fun vs H Q _ => ∃ (p : Addr) (a l : List Nat) (im : List (List Nat)) (n : Nat), vs = [T a, .ref p, T l] ∧ Al a ∧ im.length = a.length ∧ Figs H p n im ∧ 1 ≤ n ∧ n ≤ 6 ∧ RowOf a l ∧ l.length ≤ 1000 ∧ ∀ q H', H q = none → Same H H' → H' q = some (.tup ((List.range n).map fun x => nV (ledF a im l x))) → Q (.ref q) H'
set_option maxHeartbeats 4000000 in
theorem ok_moved (Z : Tx K mg) : FnG P w K mg base CX0 5 Z.a_moved Z.d_moved ["letters", "images", "row"] (sp_moved K) := by
  refine funG Z.F_moved sc_moved (fun vs H Q E h => ?_) (fun cdv A outer s H vs Q E gg rm h => ?_)
  · obtain ⟨p, a, l, im, n, rfl, ha, hl, hf, hn1, hn6, hr, hll, q⟩ := h; rfl
  · obtain ⟨p, a, l, im, n, rfl, ha, hl, hf, hn1, hn6, hr, hll, q⟩ := h
    refine ⟨_,
      (pss_cons (ps_expr (pe_callG gg (ok_check_letters Z) (rm.mono (by decide)) (by rfl) Z.g_check_letters Z.F_check_letters.kp Z.b_check_letters .nil pass0 (pa_cons (pv 0) pa_nil)))
      (pss_cons (ps_expr (pe_callG gg (ok_check_images Z) rm (by rfl) Z.g_check_images Z.F_check_images.kp Z.b_check_images .nil pass0 (pa_cons (pv 0) (pa_cons (pv 1) pa_nil))))
      (pss_cons (ps_expr (pe_callG gg (ok_check_row_of Z) (rm.mono (by decide)) (by rfl) Z.g_check_row_of Z.F_check_row_of.kp Z.b_check_row_of .nil pass0 (pa_cons (pv 0) (pa_cons (pv 2) pa_nil))))
      (pss_cons (ps_set (i := 3) sc_moved.nd rfl (.inr rfl) (pe_callG gg (ok_steps_by Z) (rm.mono (by decide)) (by rfl) Z.g_steps_by Z.F_steps_by.kp Z.b_steps_by .nil pass0 (pa_cons (pv 0) (pa_cons (pv 1) pa_nil))))
      (pss_one (ps_ret (pe_callTy (call_tupleK K) (by rfl) Z.n_tuple (by decide +kernel) (pa_cons (pe_lc (own := [("point", 4)]) (g := gName 4) (tt := tYes) rfl sc_moved.nd (pi_range1 (by rfl) Z.n_range (pa_cons (pe_callB (call_lenK K) (by rfl) Z.n_len PySem.boot_len (pa_cons (pe_ix (ix_K K) (pv 1) pe_int (fun _ _ => rfl)) pa_nil)) pa_nil)) (blkOk_by (N := N_moved) (sc := defScope s_moved) (by decide +kernel)) (fun _ _ _ _ _ => pg_name (i := 4) sc_moved.nd rfl (Or.inl rfl)) (fun _ _ _ _ _ => pts_nil) (fun _ _ _ _ _ => (pe_callG gg (ok_led Z) (rm.mono (by decide)) (by rfl) Z.g_led Z.F_led.kp Z.b_led .nil pass0 (pa_cons (pv 3) (pa_cons (pv 2) (pa_cons (pv 4) pa_nil)))))) pa_nil)))))))), ?_⟩
    rw [show L2.start N_moved [T a, .ref p, T l] = [some (T a), some (.ref p), some (T l), none, none] from rfl]
    have hal := ha.1
    have hal2 := ha.2.1
    walk_at "go"
    refine ⟨a, rfl, ha, fun H1 s1 => ?_⟩
    walk_at "go"
    refine ⟨p, a, im, n, rfl, ha, hl, hf.same s1, hn1, hn6, fun H2 s2 => ?_⟩
    walk_at "go"
    refine ⟨a, l, rfl, ha, hr, hll, fun H3 s3 => ?_⟩
    walk_at "go"
    have s03 := (s1.trans s2).trans s3
    refine ⟨p, a, im, n, rfl, ha, hl, hf.same s03, hn6, fun d H4 nd s4 hst => ?_⟩
    have s04 := s03.trans s4
    have hp : ∀ i, i < im.length → Prm n (im.getD i []) := by
      obtain ⟨ps, e1, e2, e3⟩ := hf
      exact fun i hi => (e3 i hi).2
    obtain ⟨ps, e1, e2, e3⟩ := hf.same s04
    obtain ⟨⟨ob0, hd0, e30⟩, e31⟩ := e3 0 (by omega)
    have h0 : atI (ps.map V.ref) ((0 : Nat) : Int) = some (.ref (ps.getD 0 0)) := atI_nat (by rw [List.getElem?_map, List.getElem?_eq_getElem (by omega), List.getD_eq_getElem?_getD, List.getElem?_eq_getElem (by omega)]; rfl)
    walk_at "go"
    refine r_ixL (SqL.of e1) h0 ?_
    walk_at "go"
    refine r_lenT (SqT.frz e30) ?_
    walk_at "go"
    rw [List.length_map, e31.len]
    refine r_goR1 (by omega) ?_
    refine lc_known (known_rng 0 _) (fun x => some (nV (ledF a im l x))) (by omega) (fun _ _ => trivial) (fun x H5 QT hx sx hk => ?_) (fun L H5 nL s5 eL => ?_)
    · rw [Int.zero_add]
      walk_at "go"
      exact ⟨d, a, l, im, n, x, rfl, ha, hl, hp, hst.same sx, hr, hll, by omega, hk _ (Same.refl _)⟩
    · rw [Int.toNat_natCast, fm_some] at eL
      walk_at "go"
      refine r_tupL (SqL.of eL) fun b2 nb2 => ?_
      exact q b2 _ ((s04.trans s5).free nb2) ((s04.trans s5).new nb2) upd_same
/-! ### is_row -/
def sp_is_row (_ : PySem.W.Frag) : Sp := fun vs H Q _ => ∃ l : List Nat, vs = [T l] ∧ Asc l ∧ l.length ≤ 5000000 ∧ ∀ H', Same H H' → Q (.bl (l.all lett)) H'
set_option maxHeartbeats 4000000 in
theorem ok_is_row (Z : Tx K mg) : FnG P w K mg base CX0 1 Z.a_is_row Z.d_is_row ["value"] (sp_is_row K) := by
  refine funG Z.F_is_row sc_is_row (fun vs H Q E h => ?_) (fun cdv A outer s H vs Q E gg rm h => ?_)
  · obtain ⟨l, rfl, ha, hl, q⟩ := h; rfl
  · obtain ⟨l, rfl, ha, hl, q⟩ := h
    refine ⟨_,
      (pss_one (ps_ret (pe_andK K (pe_callB (call_isXK K) (by rfl) Z.n_isinstance (by decide +kernel) (pa_cons (pv 0) (pa_cons (pe_bltn (v := .ty "str") (u := .type "str") (by rfl) Z.n_str (by decide +kernel) rfl) pa_nil))) (pe_one (pe_callB (cr_allK K rfl) (by rfl) Z.n_all (by decide +kernel) (pa_cons (pe_lc (own := [("sign", 1)]) (g := gName 1) (tt := tYes) rfl sc_is_row.nd (pi_K K (pv 0)) (blkOk_by (N := N_is_row) (sc := defScope s_is_row) (by decide +kernel)) (fun _ _ _ _ _ => pg_name (i := 1) sc_is_row.nd rfl (Or.inl rfl)) (fun _ _ _ _ _ => pts_nil) (fun _ _ _ _ _ => (pe_orK K (pe_cmpR (op_inK K) (pv 1) (pe_glob (v := .str k_LOW) (by rfl) Z.g_LOW ⟨_, rfl⟩) (by rfl)) (pe_one (pe_cmpR (op_inK K) (pv 1) (pe_glob (v := .str k_HIGH) (by rfl) Z.g_HIGH ⟨_, rfl⟩) (by rfl)))))) pa_nil)))))), ?_⟩
    rw [show L2.start N_is_row [T l] = [some (T l), none] from rfl]
    walk_at "go"
    refine lc_known (known_str l) (fun i => some (.bl (lett (l.getD i 0)))) (by omega) (fun _ _ => trivial) (fun i H2 QT hi sm hk => ?_) (fun D H' nD sm eD => ?_)
    · walk_at "go"
      have hk1 := hk H2 (Same.refl H2)
      refine r_ifd (fun c => ?_) (fun c => ?_)
      · have e : lett (l.getD i 0) = true := lett_iff.mpr (.inr (in_low.mp c))
        rw [e] at hk1
        rw [decide_eq_true c]; exact hk1
      · walk_at "go"
        have e : lett (l.getD i 0) = decide (l.getD i 0 ∈ ([65, 66, 67, 68, 69, 70, 71, 72, 73, 74, 75, 76, 77, 78, 79, 80, 81, 82, 83, 84, 85, 86, 87, 88, 89, 90] : List Nat)) := by
          rw [Bool.eq_iff_iff, lett_iff, decide_eq_true_iff, in_high]
          have h97 : ¬ (97 ≤ l.getD i 0 ∧ l.getD i 0 ≤ 122) := fun h => c (in_low.mpr h)
          omega
        rw [e] at hk1
        exact hk1
    · walk_at "go"
      rw [fm_range l (fun c => .bl (lett c)) 0] at eD
      refine r_all (bs := l.map lett) (SqL.of (by rw [eD, List.map_map]; rfl)) ?_
      rw [List.all_map]
      exact q _ sm
/-! ### check_row -/
def sp_check_row (_ : PySem.W.Frag) : Sp := fun vs H Q _ => ∃ l : List Nat, vs = [T l] ∧ Row l ∧ l.length ≤ 5000000 ∧ ∀ H', Same H H' → Q .non H'
set_option maxHeartbeats 4000000 in
theorem ok_check_row (Z : Tx K mg) : FnG P w K mg base CX0 2 Z.a_check_row Z.d_check_row ["value"] (sp_check_row K) := by
  refine funG Z.F_check_row sc_check_row (fun vs H Q E h => ?_) (fun cdv A outer s H vs Q E gg rm h => ?_)
  · obtain ⟨l, rfl, ha, hl, q⟩ := h; rfl
  · obtain ⟨l, rfl, ha, hl, q⟩ := h
    refine ⟨_,
      (pss_one (ps_if (pt_not (pt_truK K (pe_callG gg (ok_is_row Z) rm (by rfl) Z.g_is_row Z.F_is_row.kp Z.b_is_row .nil pass0 (pa_cons (pv 0) pa_nil)) (by intro _; rfl)))
        (pss_one (ps_never))
        pss_nil)), ?_⟩
    rw [show L2.start N_check_row [T l] = [some (T l)] from rfl]
    walk_at "go"
    refine ⟨l, rfl, ha.asc, hl, fun H1 s1 => ?_⟩
    rw [show l.all lett = true from List.all_eq_true.mpr ha]
    walk_at "go"
    exact q _ s1
/-! ### back_of -/
def sp_back_of (_ : PySem.W.Frag) : Sp := fun vs H Q _ => ∃ l : List Nat, vs = [T l] ∧ Row l ∧ l.length ≤ 5000000 ∧ Q (T (bak l)) H
set_option maxHeartbeats 4000000 in
theorem ok_back_of (Z : Tx K mg) : FnG P w K mg base CX0 1 Z.a_back_of Z.d_back_of ["row"] (sp_back_of K) := by
  refine funG Z.F_back_of sc_back_of (fun vs H Q E h => ?_) (fun cdv A outer s H vs Q E gg rm h => ?_)
  · obtain ⟨l, rfl, ha, hl, q⟩ := h; rfl
  · obtain ⟨l, rfl, ha, hl, q⟩ := h
    refine ⟨_,
      (pss_one (ps_ret (pe_bm0K K PySem.F.plainAttrs_str PySem.F.slot_str_swapcase PySem.F.type_str_swapcase mt_swapL (pe_revK K (pv 0))))), ?_⟩
    rw [show L2.start N_back_of [T l] = [some (T l)] from rfl]
    walk_at "go"
    refine r_map ha.rev.asc (by rw [List.length_reverse]; exact hl) ?_
    exact q
/-! ### back -/
def sp_back (_ : PySem.W.Frag) : Sp := fun vs H Q _ => ∃ l : List Nat, vs = [T l] ∧ Row l ∧ l.length ≤ 5000000 ∧ ∀ H', Same H H' → Q (T (bak l)) H'
set_option maxHeartbeats 4000000 in
theorem ok_back (Z : Tx K mg) : FnG P w K mg base CX0 3 Z.a_back Z.d_back ["row"] (sp_back K) := by
  refine funG Z.F_back sc_back (fun vs H Q E h => ?_) (fun cdv A outer s H vs Q E gg rm h => ?_)
  · obtain ⟨l, rfl, ha, hl, q⟩ := h; rfl
  · obtain ⟨l, rfl, ha, hl, q⟩ := h
    refine ⟨_,
      (pss_cons (ps_expr (pe_callG gg (ok_check_row Z) rm (by rfl) Z.g_check_row Z.F_check_row.kp Z.b_check_row .nil pass0 (pa_cons (pv 0) pa_nil)))
      (pss_one (ps_ret (pe_callG gg (ok_back_of Z) (rm.mono (by decide)) (by rfl) Z.g_back_of Z.F_back_of.kp Z.b_back_of .nil pass0 (pa_cons (pv 0) pa_nil))))), ?_⟩
    rw [show L2.start N_back [T l] = [some (T l)] from rfl]
    walk_at "go"
    refine ⟨l, rfl, ha, hl, fun H1 s1 => ?_⟩
    walk_at "go"
    exact ⟨l, rfl, ha, hl, q _ s1⟩
/-! ### Rules.letters -/
def sp_Rules_letters (K : PySem.W.Frag) : Sp := fun vs H Q _ => ∃ (x dx : Addr) (u v : V), vs = [.ref x] ∧ H x = some (.ins (cA K "Rules") dx [("alphabet", u), ("told", v)]) ∧ Q u H
set_option maxHeartbeats 4000000 in
theorem ok_Rules_letters (Z : Tx K mg) : FnG P w K mg base CX0 1 Z.a_Rules_letters Z.d_Rules_letters ["self"] (sp_Rules_letters K) := by
  refine funG Z.F_Rules_letters sc_Rules_letters (fun vs H Q E h => ?_) (fun cdv A outer s H vs Q E gg rm h => ?_)
  · obtain ⟨x, dx, u, v, rfl, ex, q⟩ := h; rfl
  · obtain ⟨x, dx, u, v, rfl, ex, q⟩ := h
    refine ⟨_,
      (pss_one (ps_ret (pe_fld (pv 0) rfl))), ?_⟩
    rw [show L2.start N_Rules_letters [.ref x] = [some (.ref x)] from rfl]
    rw [cA_eq Z.ns_Rules] at ex
    walk_at "go"
    refine r_fldI ex Z.cl_Rules Z.na_Rules_alphabet (fld1) ?_
    exact q
/-! ### moves_none -/
def sp_moves_none (_ : PySem.W.Frag) : Sp := fun vs H Q _ => ∃ (d : Addr) (a l : List Nat) (im : List (List Nat)) (n : Nat), vs = [.ref d, T l, .int (n : Int)] ∧ Al a ∧ im.length = a.length ∧ (∀ i, i < im.length → Prm n (im.getD i [])) ∧ Stps H d a im n a.length ∧ RowOf a l ∧ l.length ≤ 1000 ∧ n ≤ 6 ∧ Q (.bl (stay a im n l)) H
set_option maxHeartbeats 4000000 in
theorem ok_moves_none (Z : Tx K mg) : FnG P w K mg base CX0 2 Z.a_moves_none Z.d_moves_none ["steps", "row", "points"] (sp_moves_none K) := by
  refine funG Z.F_moves_none sc_moves_none (fun vs H Q E h => ?_) (fun cdv A outer s H vs Q E gg rm h => ?_)
  · obtain ⟨d, a, l, im, n, rfl, ha, hl, hp, hs, hr, hll, hn6, q⟩ := h; rfl
  · obtain ⟨d, a, l, im, n, rfl, ha, hl, hp, hs, hr, hll, hn6, q⟩ := h
    refine ⟨_,
      (pss_cons (ps_for PassesOwn.never rfl (pi_range1 (by rfl) Z.n_range (pa_cons (pv 2) pa_nil)) (pg_name (i := 3) sc_moves_none.nd rfl (.inl rfl))
        (pss_one (ps_if (pt_cmpR (op_neK K (hu_of64 rm)) (pe_callG gg (ok_led Z) rm (by rfl) Z.g_led Z.F_led.kp Z.b_led .nil pass0 (pa_cons (pv 0) (pa_cons (pv 1) (pa_cons (pv 3) pa_nil)))) (pv 3) (nomark _))
          (pss_one (ps_ret pe_bl))
          pss_nil)))
      (pss_one (ps_ret pe_bl))), ?_⟩
    rw [show L2.start N_moves_none [.ref d, T l, .int (n : Int)] = [some (.ref d), some (T l), some (.int (n : Int)), none] from rfl]
    walk_at "go"
    refine r_goR1 (by omega) ?_
    rw [Int.toNat_natCast]
    refine for_known (known_rng 0 _) (fun i σ H' => ∃ z, σ = [some (.ref d), some (T l), some (.int (n : Int)), z] ∧ (∀ x, x < i → ledF a im l x = x) ∧ H' = H) ⟨none, rfl, (fun x hx => absurd hx (by omega)), rfl⟩ (fun _ _ _ _ _ => trivial) ?_ ?_
    · rintro i σ H' hi ⟨z, rfl, h0, rfl⟩
      rw [show (0 : Int) + (i : Int) = (i : Int) by omega]
      walk_at "go"
      refine ⟨d, a, l, im, n, i, rfl, ha, hl, hp, hs, hr, hll, by omega, ?_⟩
      walk_at "go"
      refine r_ifnd (fun c => ?_) (fun c => ?_)
      · have hne : ledF a im l i ≠ i := fun e => c (by rw [e])
        rw [stay_no hi hne] at q
        walk_at "go"
        exact q
      · have he : ledF a im l i = i := by omega
        exact ⟨_, rfl, (fun x hx => (Nat.lt_or_ge x i).elim (h0 x) fun hg => by rw [show x = i by omega]; exact he), rfl⟩
    · rintro σ H' ⟨z, rfl, h0, rfl⟩
      rw [stay_iff.mpr h0] at q
      walk_at "go"
      exact q
/-! ### holds_for -/
def sp_holds_for (K : PySem.W.Frag) : Sp := fun vs H Q _ => ∃ (v : V) (p : Addr) (a : List Nat) (rs im : List (List Nat)) (n : Nat), vs = [v, T a, .ref p] ∧ TupV K H v (rs.map T) ∧ Al a ∧ im.length = a.length ∧ Figs H p n im ∧ n ≤ 6 ∧ rs.length ≤ 6 ∧ (∀ r ∈ rs, RowOf a r ∧ r.length ≤ 1000) ∧ ∀ H', Same H H' → Q (.bl (rs.all (stay a im n))) H'
set_option maxHeartbeats 4000000 in
theorem ok_holds_for (Z : Tx K mg) : FnG P w K mg base CX0 3 Z.a_holds_for Z.d_holds_for ["told", "letters", "images"] (sp_holds_for K) := by
  refine funG Z.F_holds_for sc_holds_for (fun vs H Q E h => ?_) (fun cdv A outer s H vs Q E gg rm h => ?_)
  · obtain ⟨v, p, a, rs, im, n, rfl, tv, ha, hl, hf, hn6, hrl, hrs, q⟩ := h; rfl
  · obtain ⟨v, p, a, rs, im, n, rfl, tv, ha, hl, hf, hn6, hrl, hrs, q⟩ := h
    refine ⟨_,
      (pss_cons (ps_set (i := 3) sc_holds_for.nd rfl (.inr rfl) (pe_callG gg (ok_steps_by Z) (rm.mono (by decide)) (by rfl) Z.g_steps_by Z.F_steps_by.kp Z.b_steps_by .nil pass0 (pa_cons (pv 1) (pa_cons (pv 2) pa_nil))))
      (pss_one (ps_ret (pe_callB (cr_allK K rfl) (by rfl) Z.n_all (by decide +kernel) (pa_cons (pe_lc (own := [("row", 4)]) (g := gName 4) (tt := tYes) rfl sc_holds_for.nd (pi_K K (pv 0)) (blkOk_by (N := N_holds_for) (sc := defScope s_holds_for) (by decide +kernel)) (fun _ _ _ _ _ => pg_name (i := 4) sc_holds_for.nd rfl (Or.inl rfl)) (fun _ _ _ _ _ => pts_nil) (fun _ _ _ _ _ => (pe_callG gg (ok_moves_none Z) rm (by rfl) Z.g_moves_none Z.F_moves_none.kp Z.b_moves_none .nil pass0 (pa_cons (pv 3) (pa_cons (pv 4) (pa_cons (pe_callB (call_lenK K) (by rfl) Z.n_len PySem.boot_len (pa_cons (pe_ix (ix_K K) (pv 2) pe_int (fun _ _ => rfl)) pa_nil)) pa_nil)))))) pa_nil))))), ?_⟩
    rw [show L2.start N_holds_for [v, T a, .ref p] = [some (v), some (T a), some (.ref p), none, none] from rfl]
    have hal := ha.1
    have hal2 := ha.2.1
    obtain ⟨t, rfl⟩ := tv.ref
    walk_at "go"
    refine ⟨p, a, im, n, rfl, ha, hl, hf, hn6, fun d H1 nd s1 hst => ?_⟩
    have hp : ∀ i, i < im.length → Prm n (im.getD i []) := by
      obtain ⟨ps, e1, e2, e3⟩ := hf
      exact fun i hi => (e3 i hi).2
    walk_at "go"
    refine r_goT (tv.same s1).sq ?_
    refine lc_known (known_tup (rs.map T)) (fun i => some (.bl (stay a im n (rs.getD i [])))) (by rw [List.length_map]; omega) (fun H2 s2 => ((tv.same s1).same s2).sq) (fun i H2 QT hi sm hk => ?_) (fun D H2 nD s2 eD => ?_)
    · have hi' : i < rs.length := by simpa using hi
      rw [map_getD _ hi']
      obtain ⟨h1, h2⟩ := hrs _ (getD_memL hi')
      obtain ⟨ps, e1, e2, e3⟩ := hf.same (s1.trans sm)
      obtain ⟨⟨ob0, hd0, e30⟩, e31⟩ := e3 0 (by omega)
      have h0 : atI (ps.map V.ref) ((0 : Nat) : Int) = some (.ref (ps.getD 0 0)) := atI_nat (by rw [List.getElem?_map, List.getElem?_eq_getElem (by omega), List.getD_eq_getElem?_getD, List.getElem?_eq_getElem (by omega)]; rfl)
      walk_at "go"
      refine r_ixL (SqL.of e1) h0 ?_
      walk_at "go"
      refine r_lenT (SqT.frz e30) ?_
      walk_at "go"
      rw [List.length_map, e31.len]
      refine ⟨d, a, rs.getD i [], im, n, rfl, ha, hl, hp, hst.same sm, h1, h2, hn6, ?_⟩
      exact hk _ (Same.refl _)
    · walk_at "go"
      refine r_all (bs := rs.map (stay a im n)) (SqL.of (by rw [eD, List.length_map, fm_getL rs (fun r => some (.bl (stay a im n r))), List.map_map]; exact congrArg (fun z => some (HO.lst z)) (congrFun (List.filterMap_eq_map (f := V.bl ∘ stay a im n)) rs))) ?_
      rw [List.all_map]
      exact q _ (s1.trans s2)
/-! ### Rules.rows -/
def sp_Rules_rows (K : PySem.W.Frag) : Sp := fun vs H Q _ => ∃ (x dx : Addr) (u v : V), vs = [.ref x] ∧ H x = some (.ins (cA K "Rules") dx [("alphabet", u), ("told", v)]) ∧ Q v H
set_option maxHeartbeats 4000000 in
theorem ok_Rules_rows (Z : Tx K mg) : FnG P w K mg base CX0 1 Z.a_Rules_rows Z.d_Rules_rows ["self"] (sp_Rules_rows K) := by
  refine funG Z.F_Rules_rows sc_Rules_rows (fun vs H Q E h => ?_) (fun cdv A outer s H vs Q E gg rm h => ?_)
  · obtain ⟨x, dx, u, v, rfl, ex, q⟩ := h; rfl
  · obtain ⟨x, dx, u, v, rfl, ex, q⟩ := h
    refine ⟨_,
      (pss_one (ps_ret (pe_fld (pv 0) rfl))), ?_⟩
    rw [show L2.start N_Rules_rows [.ref x] = [some (.ref x)] from rfl]
    rw [cA_eq Z.ns_Rules] at ex
    walk_at "go"
    refine r_fldI ex Z.cl_Rules Z.na_Rules_told (fld2 (by decide +kernel)) ?_
    exact q
/-! ### map_holds -/
def sp_map_holds (K : PySem.W.Frag) : Sp := fun vs H Q _ => ∃ (x p : Addr) (a : List Nat) (rs im : List (List Nat)) (n : Nat), vs = [.ref x, .ref p] ∧ RulO K (cA K "Rules") H x a rs ∧ im.length = a.length ∧ Figs H p n im ∧ 1 ≤ n ∧ n ≤ 6 ∧ ∀ H', Same H H' → Q (.bl (rs.all (stay a im n))) H'
set_option maxHeartbeats 4000000 in
theorem ok_map_holds (Z : Tx K mg) : FnG P w K mg base CX0 5 Z.a_map_holds Z.d_map_holds ["rules", "images"] (sp_map_holds K) := by
  refine funG Z.F_map_holds sc_map_holds (fun vs H Q E h => ?_) (fun cdv A outer s H vs Q E gg rm h => ?_)
  · obtain ⟨x, p, a, rs, im, n, rfl, hx, hl, hf, hn1, hn6, q⟩ := h; rfl
  · obtain ⟨x, p, a, rs, im, n, rfl, hx, hl, hf, hn1, hn6, q⟩ := h
    refine ⟨_,
      (pss_cons (ps_expr (pe_callG gg (ok_check_images Z) rm (by rfl) Z.g_check_images Z.F_check_images.kp Z.b_check_images .nil pass0 (pa_cons (pe_meth0G gg (pv 0) Z.cl_Rules Z.me_Rules_letters (ok_Rules_letters Z) (rm.mono (by decide)) Z.b_Rules_letters .nil pass0) (pa_cons (pv 1) pa_nil))))
      (pss_one (ps_ret (pe_callG gg (ok_holds_for Z) (rm.mono (by decide)) (by rfl) Z.g_holds_for Z.F_holds_for.kp Z.b_holds_for .nil pass0 (pa_cons (pe_meth0G gg (pv 0) Z.cl_Rules Z.me_Rules_rows (ok_Rules_rows Z) (rm.mono (by decide)) Z.b_Rules_rows .nil pass0) (pa_cons (pe_meth0G gg (pv 0) Z.cl_Rules Z.me_Rules_letters (ok_Rules_letters Z) (rm.mono (by decide)) Z.b_Rules_letters .nil pass0) (pa_cons (pv 1) pa_nil))))))), ?_⟩
    rw [show L2.start N_map_holds [.ref x, .ref p] = [some (.ref x), some (.ref p)] from rfl]
    obtain ⟨dx, v, ex0, tv, ha, ht⟩ := id hx
    have ex := ex0
    rw [cA_eq Z.ns_Rules] at ex
    walk_at "go"
    refine r_methI ex (lk2 (by decide +kernel) (by decide +kernel)) ?_
    refine ⟨x, dx, T a, v, rfl, ex0, ?_⟩
    walk_at "go"
    refine ⟨p, a, im, n, rfl, ha, hl, hf, hn1, hn6, fun H1 s1 => ?_⟩
    walk_at "go"
    refine r_methI (s1 _ _ ex) (lk2 (by decide +kernel) (by decide +kernel)) ?_
    refine ⟨x, dx, T a, v, rfl, s1 _ _ ex0, ?_⟩
    walk_at "go"
    refine r_methI (s1 _ _ ex) (lk2 (by decide +kernel) (by decide +kernel)) ?_
    refine ⟨x, dx, T a, v, rfl, s1 _ _ ex0, ?_⟩
    walk_at "go"
    refine ⟨v, p, a, rs, im, n, rfl, tv.same s1, ha, hl, hf.same s1, hn6, ht.1, fun r hr => ⟨(ht.2.1 r hr).1, by have := (ht.2.1 r hr).2.2.1; omega⟩, fun H2 s2 => ?_⟩
    exact q _ (s1.trans s2)
/-! ### is_ring_row -/
def sp_is_ring_row (_ : PySem.W.Frag) : Sp := fun vs H Q _ => ∃ a l : List Nat, vs = [T a, T l] ∧ Al a ∧ RR a l ∧ ∀ H', Same H H' → Q (.bl true) H'
set_option maxHeartbeats 4000000 in
theorem ok_is_ring_row (Z : Tx K mg) : FnG P w K mg base CX0 2 Z.a_is_ring_row Z.d_is_ring_row ["letters", "value"] (sp_is_ring_row K) := by
  refine funG Z.F_is_ring_row sc_is_ring_row (fun vs H Q E h => ?_) (fun cdv A outer s H vs Q E gg rm h => ?_)
  · obtain ⟨a, l, rfl, ha, hr, q⟩ := h; rfl
  · obtain ⟨a, l, rfl, ha, hr, q⟩ := h
    refine ⟨_,
      (pss_cons (ps_if (PW.pt (pw_or (pt_not (pt_truK K (pe_callG gg (ok_is_row_of Z) rm (by rfl) Z.g_is_row_of Z.F_is_row_of.kp Z.b_is_row_of .nil pass0 (pa_cons (pv 0) (pa_cons (pv 1) pa_nil))) (by intro _; rfl))) (pw_or1 (pt_not (pt_chain op_le op_le pe_int (pe_callB (call_lenK K) (by rfl) Z.n_len PySem.boot_len (pa_cons (pv 1) pa_nil)) (pe_glob (v := .int 40) (by rfl) Z.g_MOST_SIZE ⟨_, rfl⟩))))))
        (pss_one (ps_ret pe_bl))
        pss_nil)
      (pss_one (ps_ret (pe_callB (cr_allK K rfl) (by rfl) Z.n_all (by decide +kernel) (pa_cons (pe_lc (own := [("place", 2), ("sign", 3)])  (tt := tYes) rfl sc_is_ring_row.nd (pi_enumSK K (by rfl) Z.n_enumerate (pa_cons (pv 1) pa_nil)) (blkOk_by (N := N_is_ring_row) (sc := defScope s_is_ring_row) (by decide +kernel)) (fun _ _ _ _ _ => (pg_tupK (n := 2) K rfl (pgs_cons (pg_name (i := 2) sc_is_ring_row.nd rfl (.inl rfl)) (pgs_cons (pg_name (i := 3) sc_is_ring_row.nd rfl (.inl rfl)) pgs_nil)))) (fun _ _ _ _ _ => pts_nil) (fun _ _ _ _ _ => (pe_cmpR (op_neK K (hu_of64 rm)) (pv 3) (pe_bm0K K PySem.F.plainAttrs_str PySem.F.slot_str_swapcase PySem.F.type_str_swapcase mt_swapL (pe_ix (ix_K K) (pv 1) (pe_op op_sub (pv 2) pe_int) (fun _ _ => rfl))) (nomark _)))) pa_nil))))), ?_⟩
    rw [show L2.start N_is_ring_row [T a, T l] = [some (T a), some (T l), none, none] from rfl]
    obtain ⟨h1, h2, h3, h4⟩ := hr
    have hrow := h1.row ha
    walk_at "go"
    refine ⟨a, l, rfl, ha, h1, by omega, fun H1 s1 => ?_⟩
    walk_at "go"
    rw [decide_eq_true (show (1 : Int) ≤ (l.length : Int) by omega)]
    walk_at "go"
    rw [decide_eq_true (show (l.length : Int) ≤ 40 by omega)]
    walk_at "go"
    refine r_goES (wkS ?_)
    refine lc_pair (known_enumS (l.map fun c => T [c])) (fun i => some (.bl true)) (by rw [List.length_map]; omega) (fun _ _ => rfl) (fun i H2 d QT hi sm nd hk => ?_) (fun D H2 nD s2 eD => ?_)
    · rw [List.length_map] at hi
      have h5 := h4 i hi
      rw [chars_getD hi] at hk ⊢
      walk_at "go"
      refine r_ixS (by omega) (at_prev hi) ?_
      have hc := hrow _ (getD_mem (show (i + l.length - 1) % l.length < l.length from Nat.mod_lt _ (by omega)))
      walk_at "go"
      refine r_map (Row.one hc).asc (by simp) ?_
      show rNeG _ _ (T [swp _]) _ _
      walk_at "go"
      rw [decide_eq_false (fun e => h5 (List.cons.inj e).1)]
      exact hk _ (Same.refl _)
    · walk_at "go"
      refine r_all (bs := List.replicate (l.map fun c => T [c]).length true) (SqL.of (by rw [eD, fm_const, List.map_replicate])) ?_
      rw [all_rep]
      exact q _ (s1.trans s2)
/-! ### is_turned -/
def sp_is_turned (_ : PySem.W.Frag) : Sp := fun vs H Q _ => ∃ a b : List Nat, vs = [T a, T b] ∧ a.length ≤ 1000 ∧ b.length ≤ 1000 ∧ Q (.bl (tnd a b)) H
set_option maxHeartbeats 4000000 in
theorem ok_is_turned (Z : Tx K mg) : FnG P w K mg base CX0 1 Z.a_is_turned Z.d_is_turned ["one", "two"] (sp_is_turned K) := by
  refine funG Z.F_is_turned sc_is_turned (fun vs H Q E h => ?_) (fun cdv A outer s H vs Q E gg rm h => ?_)
  · obtain ⟨a, b, rfl, la, lb, q⟩ := h; rfl
  · obtain ⟨a, b, rfl, la, lb, q⟩ := h
    refine ⟨_,
      (pss_one (ps_ret (pe_andK K (pe_cmpR (op_eqK K (hu_of64 rm)) (pe_callB (call_lenK K) (by rfl) Z.n_len PySem.boot_len (pa_cons (pv 0) pa_nil)) (pe_callB (call_lenK K) (by rfl) Z.n_len PySem.boot_len (pa_cons (pv 1) pa_nil)) (nomark _)) (pe_one (pe_cmpR (op_inK K) (pv 0) (pe_op (op_addK K) (pv 1) (pv 1)) (by rfl)))))), ?_⟩
    rw [show L2.start N_is_turned [T a, T b] = [some (T a), some (T b)] from rfl]
    walk_at "go"
    unfold tnd at q
    refine r_ifd (fun c => ?_) (fun c => ?_)
    · rw [decide_eq_true (show a.length = b.length by omega), Bool.true_and] at q
      walk_at "go"
      exact q
    · rw [decide_eq_false (show ¬ a.length = b.length by omega), Bool.false_and] at q
      rw [decide_eq_false c]
      exact q
/-! ### is_kin -/
def sp_is_kin (_ : PySem.W.Frag) : Sp := fun vs H Q _ => ∃ a b : List Nat, vs = [T a, T b] ∧ Row b ∧ a.length ≤ 1000 ∧ b.length ≤ 1000 ∧ Q (.bl (tnd a b || tnd a (bak b))) H
set_option maxHeartbeats 4000000 in
theorem ok_is_kin (Z : Tx K mg) : FnG P w K mg base CX0 2 Z.a_is_kin Z.d_is_kin ["one", "two"] (sp_is_kin K) := by
  refine funG Z.F_is_kin sc_is_kin (fun vs H Q E h => ?_) (fun cdv A outer s H vs Q E gg rm h => ?_)
  · obtain ⟨a, b, rfl, hb, la, lb, q⟩ := h; rfl
  · obtain ⟨a, b, rfl, hb, la, lb, q⟩ := h
    refine ⟨_,
      (pss_one (ps_ret (pe_orK K (pe_callG gg (ok_is_turned Z) rm (by rfl) Z.g_is_turned Z.F_is_turned.kp Z.b_is_turned .nil pass0 (pa_cons (pv 0) (pa_cons (pv 1) pa_nil))) (pe_one (pe_callG gg (ok_is_turned Z) rm (by rfl) Z.g_is_turned Z.F_is_turned.kp Z.b_is_turned .nil pass0 (pa_cons (pv 0) (pa_cons (pe_callG gg (ok_back_of Z) rm (by rfl) Z.g_back_of Z.F_back_of.kp Z.b_back_of .nil pass0 (pa_cons (pv 1) pa_nil)) pa_nil))))))), ?_⟩
    rw [show L2.start N_is_kin [T a, T b] = [some (T a), some (T b)] from rfl]
    have hbl := bak_len b
    walk_at "go"
    refine ⟨a, b, rfl, la, lb, ?_⟩
    walk_at "go"
    cases e : tnd a b with
    | true =>
      rw [e, Bool.true_or] at q
      walk_at "go"
      exact q
    | false =>
      rw [e, Bool.false_or] at q
      walk_at "go"
      refine ⟨b, rfl, hb, by omega, ?_⟩
      exact ⟨a, bak b, rfl, la, by omega, q⟩
/-! ### can_stand -/
def sp_can_stand (_ : PySem.W.Frag) : Sp := fun vs H Q _ => ∃ (p : Addr) (a l : List Nat) (es : List (List Nat)), vs = [T a, .ref p, T l] ∧ H p = some (.tup (es.map T)) ∧ es.length < 6 ∧ Al a ∧ RR a l ∧ (∀ e ∈ es, RR a e ∧ (tnd l e || tnd l (bak e)) = false) ∧ ∀ H', Same H H' → Q (.bl true) H'
set_option maxHeartbeats 4000000 in
theorem ok_can_stand (Z : Tx K mg) : FnG P w K mg base CX0 3 Z.a_can_stand Z.d_can_stand ["letters", "earlier", "value"] (sp_can_stand K) := by
  refine funG Z.F_can_stand sc_can_stand (fun vs H Q E h => ?_) (fun cdv A outer s H vs Q E gg rm h => ?_)
  · obtain ⟨p, a, l, es, rfl, ep, hes, ha, hr, hk0, q⟩ := h; rfl
  · obtain ⟨p, a, l, es, rfl, ep, hes, ha, hr, hk0, q⟩ := h
    refine ⟨_,
      (pss_cons (ps_if (PW.pt (pw_or (pt_cmpR op_geG (pe_callB (call_lenK K) (by rfl) Z.n_len PySem.boot_len (pa_cons (pv 1) pa_nil)) (pe_glob (v := .int 6) (by rfl) Z.g_MOST_ROWS ⟨_, rfl⟩) (nomark _)) (pw_or1 (pt_not (pt_truK K (pe_callG gg (ok_is_ring_row Z) rm (by rfl) Z.g_is_ring_row Z.F_is_ring_row.kp Z.b_is_ring_row .nil pass0 (pa_cons (pv 0) (pa_cons (pv 2) pa_nil))) (by intro _; rfl))))))
        (pss_one (ps_ret pe_bl))
        pss_nil)
      (pss_one (ps_ret (pe_notK K (pe_callB (cr_anyK K rfl) (by rfl) Z.n_any (by decide +kernel) (pa_cons (pe_lc (own := [("row", 3)]) (g := gName 3) (tt := tYes) rfl sc_can_stand.nd (pi_K K (pv 1)) (blkOk_by (N := N_can_stand) (sc := defScope s_can_stand) (by decide +kernel)) (fun _ _ _ _ _ => pg_name (i := 3) sc_can_stand.nd rfl (Or.inl rfl)) (fun _ _ _ _ _ => pts_nil) (fun _ _ _ _ _ => (pe_callG gg (ok_is_kin Z) rm (by rfl) Z.g_is_kin Z.F_is_kin.kp Z.b_is_kin .nil pass0 (pa_cons (pv 2) (pa_cons (pv 3) pa_nil))))) pa_nil)))))), ?_⟩
    rw [show L2.start N_can_stand [T a, .ref p, T l] = [some (T a), some (.ref p), some (T l), none] from rfl]
    have hl := hr.2.2.1
    walk_at "go"
    rw [List.length_map, decide_eq_false (show ¬ ((es.length : Int) ≥ 6) by omega)]
    walk_at "go"
    refine ⟨a, l, rfl, ha, hr, fun H1 s1 => ?_⟩
    walk_at "go"
    refine r_goT (SqT.of (s1 _ _ ep)) ?_
    refine lc_known (known_tup (es.map T)) (fun i => some (.bl false)) (by rw [List.length_map]; omega) (fun H2 s2 => SqT.of (s2 _ _ (s1 _ _ ep))) (fun i H2 QT hi sm hk => ?_) (fun D H2 nD s2 eD => ?_)
    · have hi' : i < es.length := by simpa using hi
      rw [map_getD es hi']
      obtain ⟨e1, e2⟩ := hk0 _ (getD_memL hi')
      have le := e1.2.2.1
      walk_at "go"
      refine ⟨l, es.getD i [], rfl, e1.1.row ha, by omega, by omega, ?_⟩
      rw [e2]
      exact hk _ (Same.refl _)
    · walk_at "go"
      refine r_any (bs := List.replicate (es.map T).length false) (SqL.of (by rw [eD, fm_const, List.map_replicate])) ?_
      rw [any_rep]
      walk_at "go"
      exact q _ (s1.trans s2)
/-! ### check_rows -/
def sp_check_rows (K : PySem.W.Frag) : Sp := fun vs H Q _ => ∃ (v : V) (a : List Nat) (rs : List (List Nat)), vs = [T a, v] ∧ TupV K H v (rs.map T) ∧ Al a ∧ Told a rs ∧ ∀ H', Same H H' → Q .non H'
set_option maxHeartbeats 4000000 in
theorem ok_check_rows (Z : Tx K mg) : FnG P w K mg base CX0 4 Z.a_check_rows Z.d_check_rows ["letters", "rows"] (sp_check_rows K) := by
  refine funG Z.F_check_rows sc_check_rows (fun vs H Q E h => ?_) (fun cdv A outer s H vs Q E gg rm h => ?_)
  · obtain ⟨v, a, rs, rfl, tv, ha, hr, q⟩ := h; rfl
  · obtain ⟨v, a, rs, rfl, tv, ha, hr, q⟩ := h
    refine ⟨_,
      (pss_cons (ps_if (pt_not (pt_truK K (pe_callB (call_isXK K) (by rfl) Z.n_isinstance (by decide +kernel) (pa_cons (pv 1) (pa_cons (pe_bltn (v := .ty "tuple") (u := .type "tuple") (by rfl) Z.n_tuple (by decide +kernel) rfl) pa_nil))) (by intro _; rfl)))
        (pss_one (ps_never))
        pss_nil)
      (pss_one (ps_for PassesOwn.never rfl (pi_enumSK K (by rfl) Z.n_enumerate (pa_cons (pv 1) pa_nil)) (pg_tupK (n := 2) K rfl (pgs_cons (pg_name (i := 2) sc_check_rows.nd rfl (.inl rfl)) (pgs_cons (pg_name (i := 3) sc_check_rows.nd rfl (.inl rfl)) pgs_nil)))
        (pss_one (ps_if (pt_not (pt_truK K (pe_callG gg (ok_can_stand Z) rm (by rfl) Z.g_can_stand Z.F_can_stand.kp Z.b_can_stand .nil pass0 (pa_cons (pv 0) (pa_cons (pe_slice (sl_K K) (pv 1) po_none (po_some (pv 2))) (pa_cons (pv 3) pa_nil)))) (by intro _; rfl)))
          (pss_one (ps_never))
          pss_nil))))), ?_⟩
    rw [show L2.start N_check_rows [T a, v] = [some (T a), some (v), none, none] from rfl]
    obtain ⟨h6, h1, h2⟩ := hr
    obtain ⟨p, rfl⟩ := tv.ref
    have ty := tv.ty
    walk_at "go"
    refine r_goES (wkT tv.sq ?_)
    refine for_pair (known_enumS (rs.map T)) (fun i σ H' => ∃ x y, σ = [some (T a), some (.ref p), x, y] ∧ Same H H') ⟨none, none, rfl, Same.refl _⟩ (fun i σ H' _ ⟨_, _, _, s⟩ => (tv.same s).sq) ?_ ?_
    · rintro i σ H' d hi ⟨x, y, rfl, sm⟩ nd
      have hi' : i < rs.length := by simpa using hi
      rw [map_getD rs hi']
      walk_at "go"
      refine r_slT ((tv.same sm).same (Same.new1 nd)).sq (by rw [List.length_map]; exact hi') fun e ne => ?_
      walk_at "go"
      refine ⟨e, a, rs.getD i [], rs.take i, rfl, by rw [upd_same, List.map_take], by rw [List.length_take]; omega, ha, h1 _ (getD_memL hi'), fun z hz => ?_, fun H2 s2 => ?_⟩
      · obtain ⟨j, hj, rfl⟩ := take_memL hz
        exact ⟨h1 _ (getD_memL (by omega)), h2 j i hj hi'⟩
      walk_at "go"
      exact ⟨_, _, rfl, ((sm.new nd).new ne).trans s2⟩
    · rintro σ H' ⟨x, y, rfl, sm⟩
      walk_at "go"
      exact q _ sm
/-! ### Rules.__init__ -/
def sp_Rules_init (K : PySem.W.Frag) : Sp := spRul K (cA K "Rules")
set_option maxHeartbeats 4000000 in
theorem ok_Rules_init (Z : Tx K mg) : FnG P w K mg base CX0 5 Z.a_Rules_init Z.d_Rules_init ["self", "letters", "rows"] (sp_Rules_init K) := by
  refine funDG Z.F_Rules_init sc_Rules_init (fun vs H Q E h => ?_) (fun cdv A outer s H vs Q E gg rm h => ?_)
  · obtain ⟨x, dx, v, a, rs, rfl, ex, tv, ha, hr, q⟩ := h; rfl
  · obtain ⟨x, dx, v, a, rs, rfl, ex, tv, ha, hr, q⟩ := h
    refine ⟨_,
      (pss_cons (ps_expr (pe_callG gg (ok_check_letters Z) (rm.mono (by decide)) (by rfl) Z.g_check_letters Z.F_check_letters.kp Z.b_check_letters .nil pass0 (pa_cons (pv 1) pa_nil)))
      (pss_cons (ps_expr (pe_callG gg (ok_check_rows Z) rm (by rfl) Z.g_check_rows Z.F_check_rows.kp Z.b_check_rows .nil pass0 (pa_cons (pv 1) (pa_cons (pv 2) pa_nil))))
      (pss_cons (ps_fld (pv 0) (pv 1) rfl)
      (pss_one (ps_fld (pv 0) (pv 2) rfl))))), ?_⟩
    rw [show L2.start N_Rules_init [.ref x, T a, v] = [some (.ref x), some (T a), some (v)] from rfl]
    rw [cA_eq Z.ns_Rules] at ex q
    walk_at "go"
    refine ⟨a, rfl, ha, fun H1 s1 => ?_⟩
    walk_at "go"
    refine ⟨v, a, rs, rfl, tv.same s1, ha, hr, fun H2 s2 => ?_⟩
    have ex2 := s2 _ _ (s1 _ _ ex)
    walk_at "go"
    refine r_sfldI ex2 Z.cl_Rules Z.na_Rules_alphabet (by decide) ?_
    walk_at "go"
    refine r_sfldI upd_same Z.cl_Rules Z.na_Rules_told (by show 1 < 1000; decide) ?_
    refine q _ ?_ (((Kp.of (s1.trans s2)).put).put)
    rw [upd_same]
    exact congrArg (fun z => some (HO.ins Z.a_Rules dx z)) (put2 (by decide +kernel))
/-! ### _law_figure -/
def sp__law_figure (_ : PySem.W.Frag) : Sp := fun vs H Q _ => ∃ (w : Addr) (m n : Nat), vs = [.ref w, .int (m : Nat)] ∧ m ≤ 100 ∧ Wl H w n ∧ n < 2 ^ 40 ∧ ∀ (p : Addr) (ob : Obj) (l : List Nat) (H' : Hp), H p = none → p ≠ w → ob.dict = none → H' p = some (.frz ob (.tup (l.map nV))) → Prm m l → Kp w H H' → Wl H' w (n + m) → Q (.ref p) H'
set_option maxHeartbeats 4000000 in
theorem ok__law_figure (Z : Tx K mg) : FnG P w K mg base CX0 2 Z.a__law_figure Z.d__law_figure ["well", "many"] (sp__law_figure K) := by
  refine funG Z.F__law_figure sc__law_figure (fun vs H Q E h => ?_) (fun cdv A outer s H vs Q E gg rm h => ?_)
  · obtain ⟨w, m, n, rfl, hm, hw, hn, q⟩ := h; rfl
  · obtain ⟨w, m, n, rfl, hm, hw, hn, q⟩ := h
    refine ⟨_,
      (pss_cons (ps_par (i := 2) (j := 3) (by rfl) sc__law_figure.nd rfl rfl (by decide) rfl rfl (pa_cons (pe_listRg rfl (by rfl) Z.n_list (prg_1 (by rfl) Z.n_range (pv 1))) (pa_cons (pe_lst pa_nil) pa_nil)) (by rfl))
      (pss_cons (ps_for PassesOwn.never rfl (pi_range1 (by rfl) Z.n_range (pa_cons (pv 1) pa_nil)) (pg_name (i := 4) sc__law_figure.nd rfl (.inl rfl))
        (pss_one (ps_expr (pe_bmK K PySem.F.plainAttrs_list PySem.F.slot_list_append PySem.F.type_list_append mt_append (pv 3) (pa_cons (pe_bmK K PySem.F.plainAttrs_list PySem.F.slot_list_pop PySem.F.type_list_pop mt_popAt (pv 2) (pa_cons (pe_callG gg (ok__law_draw Z) rm (by rfl) Z.g__law_draw Z.F__law_draw.kp Z.b__law_draw .nil pass0 (pa_cons (pv 0) (pa_cons (pe_callB (call_lenK K) (by rfl) Z.n_len PySem.boot_len (pa_cons (pv 2) pa_nil)) pa_nil))) pa_nil)) pa_nil)))))
      (pss_one (ps_ret (pe_callTy (call_tupleFK K) (by rfl) Z.n_tuple (by decide +kernel) (pa_cons (pv 3) pa_nil)))))), ?_⟩
    rw [show L2.start N__law_figure [.ref w, .int (m : Nat)] = [some (.ref w), some (.int (m : Nat)), none, none, none] from rfl]
    walk_at "go"
    refine r_lRg (by omega) fun dl ndl => ?_
    generalize hh : upd _ dl _ = H1
    obtain ⟨s1, e1⟩ := new_eq ndl hh
    clear hh
    walk_at "go"
    intro df ndf
    generalize hh : upd _ df _ = H2
    obtain ⟨s2, e2⟩ := new_eq ndf hh
    walk_at "go"
    have e12 := s2 _ _ e1
    have w2 := (hw.same s1).same s2
    have hlw := hw.ne ndl
    have hfw := (hw.same s1).ne ndf
    have hlf : dl ≠ df := by rintro rfl; rw [e1] at ndf; cases ndf
    have ndf0 : H df = none := s1.free ndf
    walk_at "go"
    refine r_goR1 (by omega) ?_
    rw [Int.toNat_natCast]
    refine for_known (known_rng 0 _) (fun i σ H' => ∃ (L F : List Nat) (z4 : Option V), σ = [some (.ref w), some (.int (m : Nat)), some (.ref dl), some (.ref df), z4] ∧ H' dl = some (.lst (L.map nV)) ∧ H' df = some (.lst (F.map nV)) ∧ (F ++ L).Perm (List.range m) ∧ L.length = m - i ∧ i ≤ m ∧ Kp w H H' ∧ Wl H' w (n + i))
      ⟨List.range m, [], _, rfl, e12, e2, .refl _, by rw [List.length_range]; rfl, Nat.zero_le _, Kp.of (s1.trans s2), w2⟩ (fun _ _ _ _ _ => trivial) ?_ ?_
    · rintro i σ H3 hi ⟨L, F, z4, rfl, eL, eF, hp, hl, him, k3, w3⟩
      have hFl : F.length ≤ m := by
        have := hp.length_eq
        rw [List.length_append, List.length_range] at this; omega
      walk_at "go"
      rw [List.length_map]
      refine ⟨w, _, _, rfl, w3, by omega, by omega, fun r H4 r0 r1 k4 w4 => ?_⟩
      obtain ⟨j, rfl⟩ : ∃ j : Nat, r = (j : Int) := ⟨r.toNat, by omega⟩
      have eL4 := k4 _ _ hlw eL
      have eF4 := k4 _ _ hfw eF
      have hjl : j < L.length := by omega
      refine ⟨dl, L.map nV, (j : Int), j, nV (L.getD j 0), rfl, rfl, eL4, by omega, by omega, ?_, ?_, ?_⟩
      · rw [List.length_map]
        exact seqIx_nat hjl
      · rw [List.getElem?_map, List.getElem?_eq_getElem hjl, getD_el hjl]; rfl
      walk_at "go"
      refine r_append (xs := F.map nV) (by rw [upd_ne hlf.symm]; exact eF4) (by rw [List.length_map]; omega) ?_
      walk_at "go"
      refine ⟨L.eraseIdx j, F ++ [L.getD j 0], _, rfl, ?_, by rw [upd_same, List.map_append]; rfl, ?_, ?_, by omega, ?_, ?_⟩
      · rw [upd_ne hlf, upd_same, erase_map]
      · refine List.Perm.trans ?_ hp
        rw [List.append_assoc]
        refine List.Perm.append_left F ?_
        rw [getD_el hjl]
        exact erase_perm L j hjl
      · rw [List.length_eraseIdx_of_lt hjl]; omega
      · exact ((k3.trans k4).mut ndl).mut ndf0
      · exact (w4.put hlw).put hfw
    · rintro σ H3 ⟨L, F, z4, rfl, eL, eF, hp, hl, him, k3, w3⟩
      have hL : L = [] := List.length_eq_zero_iff.mp (by omega)
      subst hL
      rw [List.append_nil] at hp
      walk_at "go"
      refine r_tupF (SqL.of eF) fun p ob H4 np hd s4 e4 => ?_
      exact q p ob F H4 (Kp.free k3 (w3.ne np) np) (w3.ne np) hd e4 hp (k3.trans (Kp.of s4)) (w3.same s4)
/-! ### least_of -/
def sp_least_of (_ : PySem.W.Frag) : Sp := fun vs H Q _ => ∃ l : List Nat, vs = [T l] ∧ Row l ∧ l.length ≤ 5000000 ∧ ∀ H', Same H H' → Q (T (red l)) H'
set_option maxHeartbeats 4000000 in
theorem ok_least_of (Z : Tx K mg) : FnG P w K mg base CX0 1 Z.a_least_of Z.d_least_of ["row"] (sp_least_of K) := by
  refine funG Z.F_least_of sc_least_of (fun vs H Q E h => ?_) (fun cdv A outer s H vs Q E gg rm h => ?_)
  · obtain ⟨l, rfl, ha, hl, q⟩ := h; rfl
  · obtain ⟨l, rfl, ha, hl, q⟩ := h
    refine ⟨_,
      (pss_cons (ps_set (i := 1) sc_least_of.nd rfl (.inl rfl) (pe_lst pa_nil))
      (pss_cons (ps_for PassesOwn.never rfl (pi_K K (pv 0)) (pg_name (i := 2) sc_least_of.nd rfl (.inl rfl))
        (pss_one (ps_if (PW.pt (pw_and (pt_cmpR (op_neK K (hu_of64 rm)) (pv 1) (pe_lst pa_nil) (nomark _)) (pw_and1 (pt_cmpR (op_eqK K (hu_of64 rm)) (pe_ix (ix_K K) (pv 1) (pe_un un_neg pe_int) (fun _ _ => rfl)) (pe_bm0K K PySem.F.plainAttrs_str PySem.F.slot_str_swapcase PySem.F.type_str_swapcase mt_swapL (pv 2)) (nomark _)))))
          (pss_one (ps_expr (pe_bm0K K PySem.F.plainAttrs_list PySem.F.slot_list_pop PySem.F.type_list_pop mt_pop (pv 1))))
          (pss_one (ps_expr (pe_bmK K PySem.F.plainAttrs_list PySem.F.slot_list_append PySem.F.type_list_append mt_append (pv 1) (pa_cons (pv 2) pa_nil)))))))
      (pss_one (ps_ret (pe_joinK K (pe_strL (l := []) (by decide +kernel)) (pv 1)))))), ?_⟩
    rw [show L2.start N_least_of [T l] = [some (T l), none, none] from rfl]
    walk_at "go"
    intro p np
    walk_at "go"
    refine for_known (known_str l) (fun i σ H' => ∃ x, σ = [some (T l), some (.ref p), x] ∧ Same H H' ∧ H' p = some (.lst ((stk (l.take i)).reverse.map fun c => T [c])))
      ⟨none, rfl, Same.new1 np, by rw [upd_same]; rfl⟩ (fun _ _ _ _ _ => trivial) ?_ ?_
    · rintro i σ H' hi ⟨x, rfl, sm, eK⟩
      have hsn := take_snoc (getD_some hi)
      have hc : lett (l.getD i 0) = true := ha _ (getD_mem hi)
      have hr : Row (stk (l.take i)) := stk_row (ha.take i)
      have hlen : (stk (l.take i)).length ≤ l.length := Nat.le_trans (stk_len _) (by rw [List.length_take]; omega)
      rw [hsn, stk_snoc]
      generalize l.getD i 0 = c at hc
      generalize stk (l.take i) = s at eK hr hlen
      walk_at "go"
      intro e ne
      have npe : p ≠ e := ne_of_none eK ne
      have eK' : (upd H' e (.lst [])) p = some (.lst (s.reverse.map fun c => T [c])) := by rw [upd_ne npe]; exact eK
      have sm' : Same H (upd H' e (.lst [])) := sm.new ne
      refine r_neLs (as := s.reverse.map fun c => [c]) (bs := []) (SqL.of (by rw [eK', ones_T])) (SqL.of upd_same) (fun x hx => ?_) (fun x hx => nomatch hx) ?_
      · obtain ⟨d, hd, rfl⟩ := List.mem_map.mp hx
        exact (Row.one (hr.rev d hd)).asc
      walk_at "go"
      cases s with
      | nil =>
        rw [decide_eq_true (show (([] : List Nat).reverse.map fun c => [c]) = [] from rfl)]
        walk_at "go"
        refine r_append eK' (by simp) ?_
        exact ⟨_, rfl, sm'.mut np, by rw [upd_same]; rfl⟩
      | cons t r =>
        rw [decide_eq_false (show ¬ (((t :: r).reverse.map fun c => [c]) = []) by simp)]
        walk_at "go"
        refine r_ixL (SqL.of eK') (last_rev rfl) ?_
        walk_at "go"
        refine r_map (Row.one hc).asc (by simp) ?_
        show rEqG _ (T [t]) (T [swp c]) _ _
        walk_at "go"
        rw [push_cons]
        refine r_ifd (fun h => ?_) (fun h => ?_)
        · have h' : t = swp c := by injection h
          rw [if_pos h']
          walk_at "go"
          refine r_pop eK' (pop_rev rfl).1 ?_
          exact ⟨_, rfl, sm'.mut np, by rw [upd_same, (pop_rev rfl).2]⟩
        · have h' : ¬ t = swp c := fun e => h (by rw [e])
          rw [if_neg h']
          walk_at "go"
          refine r_append eK' (by simp only [List.length_map, List.length_reverse]; omega) ?_
          exact ⟨_, rfl, sm'.mut np, by rw [upd_same]; simp⟩
    · rintro σ H' ⟨x, rfl, sm, eK⟩
      rw [List.take_length] at eK
      walk_at "go"
      refine r_join0 (ls := (red l).map fun c => [c]) (SqL.of (by rw [eK, ← ones_T]; rfl)) (by rw [ones_flat]; have := red_len l; omega) ?_
      rw [ones_flat]
      exact q _ sm
/-! ### joined -/
def sp_joined (_ : PySem.W.Frag) : Sp := fun vs H Q _ => ∃ (p : Addr) (ls : List (List Nat)), vs = [.ref p] ∧ H p = some (.lst (ls.map T)) ∧ (∀ l ∈ ls, Row l) ∧ ls.flatten.length ≤ 1000000 ∧ ∀ H', Same H H' → Q (T (red ls.flatten)) H'
set_option maxHeartbeats 4000000 in
theorem ok_joined (Z : Tx K mg) : FnG P w K mg base CX0 3 Z.a_joined Z.d_joined ["rows"] (sp_joined K) := by
  refine funG Z.F_joined sc_joined (fun vs H Q E h => ?_) (fun cdv A outer s H vs Q E gg rm h => ?_)
  · obtain ⟨p, ls, rfl, ep, hr, hl, q⟩ := h; rfl
  · obtain ⟨p, ls, rfl, ep, hr, hl, q⟩ := h
    refine ⟨_,
      (pss_cons (ps_if (pt_not (pt_truK K (pe_callB (call_isXK K) (by rfl) Z.n_isinstance (by decide +kernel) (pa_cons (pv 0) (pa_cons (pe_bltn (v := .ty "list") (u := .type "list") (by rfl) Z.n_list (by decide +kernel) rfl) pa_nil))) (by intro _; rfl)))
        (pss_one (ps_never))
        pss_nil)
      (pss_cons (ps_for PassesOwn.never rfl (pi_enumSK K (by rfl) Z.n_enumerate (pa_cons (pv 0) pa_nil)) (pg_tupK (n := 2) K rfl (pgs_cons (pg_name (i := 1) sc_joined.nd rfl (.inl rfl)) (pgs_cons (pg_name (i := 2) sc_joined.nd rfl (.inl rfl)) pgs_nil)))
        (pss_one (ps_if (pt_not (pt_truK K (pe_callG gg (ok_is_row Z) (rm.mono (by decide)) (by rfl) Z.g_is_row Z.F_is_row.kp Z.b_is_row .nil pass0 (pa_cons (pv 2) pa_nil)) (by intro _; rfl)))
          (pss_one (ps_never))
          pss_nil)))
      (pss_one (ps_ret (pe_callG gg (ok_least_of Z) (rm.mono (by decide)) (by rfl) Z.g_least_of Z.F_least_of.kp Z.b_least_of .nil pass0 (pa_cons (pe_joinK K (pe_strL (l := []) (by decide +kernel)) (pv 0)) pa_nil)))))), ?_⟩
    rw [show L2.start N_joined [.ref p] = [some (.ref p), none, none] from rfl]
    walk_at "go"
    refine r_goES (wkL (SqL.of ep) ?_)
    refine for_pair (known_enumS (ls.map T)) (fun i σ H' => ∃ x y, σ = [some (.ref p), x, y] ∧ Same H H') ⟨none, none, rfl, Same.refl H⟩ (fun _ _ _ _ ⟨_, _, _, s⟩ => SqL.of (s _ _ ep)) ?_ ?_
    · rintro i σ H' d hi ⟨x, y, rfl, sm⟩ nd
      have hi' : i < ls.length := by simpa using hi
      rw [map_getD ls hi']
      have hm := getD_memL hi'
      have hrow := hr _ hm
      have hlen : (ls.getD i []).length ≤ ls.flatten.length := flat_mem_len hm
      generalize ls.getD i [] = l at hrow hlen
      walk_at "go"
      refine ⟨l, rfl, hrow.asc, by omega, fun H2 s2 => ?_⟩
      rw [show l.all lett = true from List.all_eq_true.mpr hrow]
      walk_at "go"
      exact ⟨_, _, rfl, (sm.new nd).trans s2⟩
    · rintro σ H' ⟨x, y, rfl, sm⟩
      walk_at "go"
      refine r_join0 (SqL.of (sm _ _ ep)) (by omega) ?_
      exact ⟨ls.flatten, rfl, flat_row hr, by omega, fun H2 s2 => q _ (sm.trans s2)⟩
/-! ### least -/
def sp_least (_ : PySem.W.Frag) : Sp := fun vs H Q _ => ∃ l : List Nat, vs = [T l] ∧ Row l ∧ l.length ≤ 5000000 ∧ ∀ H', Same H H' → Q (T (red l)) H'
set_option maxHeartbeats 4000000 in
theorem ok_least (Z : Tx K mg) : FnG P w K mg base CX0 3 Z.a_least Z.d_least ["row"] (sp_least K) := by
  refine funG Z.F_least sc_least (fun vs H Q E h => ?_) (fun cdv A outer s H vs Q E gg rm h => ?_)
  · obtain ⟨l, rfl, ha, hl, q⟩ := h; rfl
  · obtain ⟨l, rfl, ha, hl, q⟩ := h
    refine ⟨_,
      (pss_cons (ps_expr (pe_callG gg (ok_check_row Z) rm (by rfl) Z.g_check_row Z.F_check_row.kp Z.b_check_row .nil pass0 (pa_cons (pv 0) pa_nil)))
      (pss_one (ps_ret (pe_callG gg (ok_least_of Z) (rm.mono (by decide)) (by rfl) Z.g_least_of Z.F_least_of.kp Z.b_least_of .nil pass0 (pa_cons (pv 0) pa_nil))))), ?_⟩
    rw [show L2.start N_least [T l] = [some (T l)] from rfl]
    walk_at "go"
    refine ⟨l, rfl, ha, hl, fun H1 s1 => ?_⟩
    walk_at "go"
    exact ⟨l, rfl, ha, hl, fun H2 s2 => q _ (s1.trans s2)⟩
/-! ### _law_ways_right -/
def sp__law_ways_right (_ : PySem.W.Frag) : Sp := fun vs H Q _ => ∃ (w p : Addr) (a : List Nat) (im : List (List Nat)) (m n : Nat), vs = [.ref w, T a, .ref p] ∧ Wl H w n ∧ n < 2 ^ 39 ∧ Al a ∧ im.length = a.length ∧ Figs H p m im ∧ p ≠ w ∧ 1 ≤ m ∧ m ≤ 6 ∧ ∀ H', Kp w H H' → Wl H' w (n + 44) → Q (.bl true) H'
set_option maxHeartbeats 4000000 in
theorem ok__law_ways_right (Z : Tx K mg) : FnG P w K mg base CX0 6 Z.a__law_ways_right Z.d__law_ways_right ["well", "alphabet", "figures"] (sp__law_ways_right K) := by
  refine funG Z.F__law_ways_right sc__law_ways_right (fun vs H Q E h => ?_) (fun cdv A outer s H vs Q E gg rm h => ?_)
  · obtain ⟨w, p, a, im, m, n, rfl, hw, hn, ha, hl, hF, hpw, hm1, hm6, q⟩ := h; rfl
  · obtain ⟨w, p, a, im, m, n, rfl, hw, hn, ha, hl, hF, hpw, hm1, hm6, q⟩ := h
    refine ⟨_,
      (pss_cons (ps_set (i := 3) sc__law_ways_right.nd rfl (.inl rfl) (pe_callB (call_lenK K) (by rfl) Z.n_len PySem.boot_len (pa_cons (pe_ix (ix_K K) (pv 2) pe_int (fun _ _ => rfl)) pa_nil)))
      (pss_cons (ps_par (i := 4) (j := 5) (by rfl) sc__law_ways_right.nd rfl rfl (by decide) rfl rfl (pa_cons (pe_callG gg (ok__law_plain_word Z) (rm.mono (by decide)) (by rfl) Z.g__law_plain_word Z.F__law_plain_word.kp Z.b__law_plain_word .nil pass0 (pa_cons (pv 0) (pa_cons (pv 1) (pa_cons pe_int pa_nil)))) (pa_cons (pe_callG gg (ok__law_plain_word Z) (rm.mono (by decide)) (by rfl) Z.g__law_plain_word Z.F__law_plain_word.kp Z.b__law_plain_word .nil pass0 (pa_cons (pv 0) (pa_cons (pv 1) (pa_cons pe_int pa_nil)))) pa_nil)) (by rfl))
      (pss_cons (ps_par (i := 6) (j := 7) (by rfl) sc__law_ways_right.nd rfl rfl (by decide) rfl rfl (pa_cons (pe_callG gg (ok_moved Z) rm (by rfl) Z.g_moved Z.F_moved.kp Z.b_moved .nil pass0 (pa_cons (pv 1) (pa_cons (pv 2) (pa_cons (pv 4) pa_nil)))) (pa_cons (pe_callG gg (ok_moved Z) rm (by rfl) Z.g_moved Z.F_moved.kp Z.b_moved .nil pass0 (pa_cons (pv 1) (pa_cons (pv 2) (pa_cons (pv 5) pa_nil)))) pa_nil)) (by rfl))
      (pss_cons (ps_par (i := 8) (j := 9) (by rfl) sc__law_ways_right.nd rfl rfl (by decide) rfl rfl (pa_cons (pe_callG gg (ok_moved Z) rm (by rfl) Z.g_moved Z.F_moved.kp Z.b_moved .nil pass0 (pa_cons (pv 1) (pa_cons (pv 2) (pa_cons (pe_callG gg (ok_joined Z) (rm.mono (by decide)) (by rfl) Z.g_joined Z.F_joined.kp Z.b_joined .nil pass0 (pa_cons (pe_lst (pa_cons (pv 4) (pa_cons (pv 5) pa_nil))) pa_nil)) pa_nil)))) (pa_cons (pe_callG gg (ok_moved Z) rm (by rfl) Z.g_moved Z.F_moved.kp Z.b_moved .nil pass0 (pa_cons (pv 1) (pa_cons (pv 2) (pa_cons (pe_callG gg (ok_back Z) (rm.mono (by decide)) (by rfl) Z.g_back Z.F_back.kp Z.b_back .nil pass0 (pa_cons (pv 4) pa_nil)) pa_nil)))) pa_nil)) (by rfl))
      (pss_cons (ps_set (i := 10) sc__law_ways_right.nd rfl (.inl rfl) (pe_callG gg (ok_moved Z) rm (by rfl) Z.g_moved Z.F_moved.kp Z.b_moved .nil pass0 (pa_cons (pv 1) (pa_cons (pv 2) (pa_cons (pe_callG gg (ok_joined Z) (rm.mono (by decide)) (by rfl) Z.g_joined Z.F_joined.kp Z.b_joined .nil pass0 (pa_cons (pe_lst (pa_cons (pv 5) (pa_cons (pv 4) (pa_cons (pe_callG gg (ok_back Z) (rm.mono (by decide)) (by rfl) Z.g_back Z.F_back.kp Z.b_back .nil pass0 (pa_cons (pv 5) pa_nil)) pa_nil)))) pa_nil)) pa_nil)))))
      (pss_cons (ps_for PassesOwn.never rfl (pi_range1 (by rfl) Z.n_range (pa_cons (pv 3) pa_nil)) (pg_name (i := 11) sc__law_ways_right.nd rfl (.inl rfl))
        (pss_cons (ps_if (PW.pt (pw_or (pt_cmpR (op_neK K (hu_of64 rm)) (pe_ix (ix_K K) (pv 8) (pv 11) (fun _ _ => rfl)) (pe_ix (ix_K K) (pv 7) (pe_ix (ix_K K) (pv 6) (pv 11) (fun _ _ => rfl)) (fun _ _ => rfl)) (nomark _)) (pw_or1 (pt_cmpR (op_neK K (hu_of64 rm)) (pe_ix (ix_K K) (pv 9) (pe_ix (ix_K K) (pv 6) (pv 11) (fun _ _ => rfl)) (fun _ _ => rfl)) (pv 11) (nomark _)))))
          (pss_one (ps_ret pe_bl))
          pss_nil)
        (pss_one (ps_if (pt_cmpR (op_neK K (hu_of64 rm)) (pe_ix (ix_K K) (pv 7) (pe_ix (ix_K K) (pv 10) (pv 11) (fun _ _ => rfl)) (fun _ _ => rfl)) (pe_ix (ix_K K) (pv 6) (pe_ix (ix_K K) (pv 7) (pv 11) (fun _ _ => rfl)) (fun _ _ => rfl)) (nomark _))
          (pss_one (ps_ret pe_bl))
          pss_nil))))
      (pss_one (ps_ret (pe_cmpR (op_eqK K (hu_of64 rm)) (pe_callG gg (ok_moved Z) rm (by rfl) Z.g_moved Z.F_moved.kp Z.b_moved .nil pass0 (pa_cons (pv 1) (pa_cons (pv 2) (pa_cons (pe_callG gg (ok_least Z) (rm.mono (by decide)) (by rfl) Z.g_least Z.F_least.kp Z.b_least .nil pass0 (pa_cons (pv 4) pa_nil)) pa_nil)))) (pv 6) (nomark _)))))))))), ?_⟩
    rw [show L2.start N__law_ways_right [.ref w, T a, .ref p] = [some (.ref w), some (T a), some (.ref p), none, none, none, none, none, none, none, none, none] from rfl]
    have hal := ha.1
    have hal2 := ha.2.1
    have hp := hF.prm
    obtain ⟨ps, e1, e2, e3⟩ := id hF
    obtain ⟨⟨ob0, hd0, e30⟩, e31⟩ := e3 0 (by omega)
    have h0 : atI (ps.map V.ref) ((0 : Nat) : Int) = some (.ref (ps.getD 0 0)) := atI_nat (by rw [List.getElem?_map, List.getElem?_eq_getElem (by omega), List.getD_eq_getElem?_getD, List.getElem?_eq_getElem (by omega)]; rfl)
    walk_at "go"
    refine r_ixL (SqL.of e1) h0 ?_
    walk_at "go"
    refine r_lenT (SqT.frz e30) ?_
    walk_at "go"
    rw [List.length_map, e31.len]
    walk_at "go"
    refine ⟨w, a, 20, n, rfl, by decide, hw, by omega, ha, fun f H1 hf hf20 k1 w1 => ?_⟩
    walk_at "go"
    refine ⟨w, a, 20, _, rfl, by decide, w1, by omega, ha, fun s H2 hs hs20 k2 w2 => ?_⟩
    obtain ⟨_, _, _, ew, _⟩ := id hw
    obtain ⟨_, _, _, ew1, _⟩ := id w1
    have hF2 := (hF.kp hpw k1 ew).kp hpw k2 ew1
    have hfr := hf.row ha
    have hsr := hs.row ha
    have hbf := RowOf.bak ha hf
    have hbs := RowOf.bak ha hs
    have hbl := bak_len f
    have hbl2 := bak_len s
    have l1 : [f, s].flatten.length ≤ 40 := by simp; omega
    have l2 : [s, f, bak s].flatten.length ≤ 60 := by simp [bak_len]; omega
    have l3 := red_len [f, s].flatten
    have l4 := red_len [s, f, bak s].flatten
    have o1 : RowOf a (red [f, s].flatten) := rowOf_red (by rw [show [f, s].flatten = f ++ s by simp]; exact hf.app hs)
    have o2 : RowOf a (red [s, f, bak s].flatten) := rowOf_red (by rw [show [s, f, bak s].flatten = s ++ (f ++ bak s) by simp]; exact hs.app (hf.app hbs))
    walk_at "go"
    refine ⟨p, a, f, im, m, rfl, ha, hl, hF2, hm1, hm6, hf, by omega, fun q1 H3 nq1 s3 eq1 => ?_⟩
    walk_at "go"
    refine ⟨p, a, s, im, m, rfl, ha, hl, hF2.same s3, hm1, hm6, hs, by omega, fun q2 H4 nq2 s4 eq2 => ?_⟩
    walk_at "go"
    intro r1 nr1
    generalize hh : upd _ r1 _ = H5
    obtain ⟨s5, er1⟩ := new_eq nr1 hh
    walk_at "go"
    refine ⟨r1, [f, s], rfl, er1, fun z hz => ?_, by omega, fun H6 s6 => ?_⟩
    · simp only [List.mem_cons, List.not_mem_nil, or_false] at hz
      rcases hz with rfl | rfl
      · exact hfr
      · exact hsr
    walk_at "go"
    have s26 : Same H2 H6 := s3.trans (s4.trans (s5.trans s6))
    refine ⟨p, a, red [f, s].flatten, im, m, rfl, ha, hl, hF2.same s26, hm1, hm6, o1, by omega, fun q3 H7 nq3 s7 eq3 => ?_⟩
    walk_at "go"
    refine ⟨f, rfl, hfr, by omega, fun H8 s8 => ?_⟩
    walk_at "go"
    have s28 : Same H2 H8 := s26.trans (s7.trans s8)
    refine ⟨p, a, bak f, im, m, rfl, ha, hl, hF2.same s28, hm1, hm6, hbf, by omega, fun q4 H9 nq4 s9 eq4 => ?_⟩
    walk_at "go"
    refine ⟨s, rfl, hsr, by omega, fun H10 s10 => ?_⟩
    walk_at "go"
    intro r2 nr2
    generalize hh : upd _ r2 _ = H11
    obtain ⟨s11, er2⟩ := new_eq nr2 hh
    walk_at "go"
    refine ⟨r2, [s, f, bak s], rfl, er2, fun z hz => ?_, by omega, fun H12 s12 => ?_⟩
    · simp only [List.mem_cons, List.not_mem_nil, or_false] at hz
      rcases hz with rfl | rfl | rfl
      · exact hsr
      · exact hfr
      · exact hbs.row ha
    walk_at "go"
    have s912 : Same H9 H12 := s10.trans (s11.trans s12)
    refine ⟨p, a, red [s, f, bak s].flatten, im, m, rfl, ha, hl, hF2.same (s28.trans (s9.trans s912)), hm1, hm6, o2, by omega, fun q5 H13 nq5 s13 eq5 => ?_⟩
    have t4 := (s912.trans s13) _ _ eq4
    have t3 := (s8.trans (s9.trans (s912.trans s13))) _ _ eq3
    have s413 : Same H4 H13 := s5.trans (s6.trans (s7.trans (s8.trans (s9.trans (s912.trans s13)))))
    have t2 := s413 _ _ eq2
    have t1 := (s4.trans s413) _ _ eq1
    have s213 : Same H2 H13 := s3.trans (s4.trans s413)
    clear s912 s413 s28 s26
    walk_at "go"
    refine r_goR1 (by omega) ?_
    rw [Int.toNat_natCast]
    refine for_known (known_rng 0 _) (fun i σ H' => ∃ z : Option V, σ = [some (.ref w), some (T a), some (.ref p), some (.int (m : Nat)), some (T f), some (T s), some (.ref q1), some (.ref q2), some (.ref q3), some (.ref q4), some (.ref q5), z] ∧ H' = H13) ⟨_, rfl, rfl⟩ (fun _ _ _ _ _ => trivial) ?_ ?_
    · rintro x σ H' hx ⟨z, rfl, rfl⟩
      rw [show (0 : Int) + (x : Int) = (x : Int) by omega]
      have hfx := ledF_lt ha hl hp hf hx
      have hsx := ledF_lt ha hl hp hs hx
      have hwx := ledF_lt ha hl hp o2 hx
      have b1 := led_both ha hl hp hf hs hx
      have b2 := led_within ha hl hp hf hs hx
      have b3 := led_bak ha hl hp hf hx
      walk_at "go"
      refine r_ixT (SqT.of t3) (at_rng hx) ?_
      walk_at "go"
      refine r_ixT (SqT.of t1) (at_rng hx) ?_
      walk_at "go"
      refine r_ixT (SqT.of t2) (at_rng hfx) ?_
      rw [b1]
      walk_at "go"
      refine r_ixT (SqT.of t1) (at_rng hx) ?_
      walk_at "go"
      refine r_ixT (SqT.of t4) (at_rng hfx) ?_
      rw [b3]
      walk_at "go"
      refine r_ixT (SqT.of eq5) (at_rng hx) ?_
      walk_at "go"
      refine r_ixT (SqT.of t2) (at_rng hwx) ?_
      rw [b2]
      walk_at "go"
      refine r_ixT (SqT.of t2) (at_rng hx) ?_
      walk_at "go"
      refine r_ixT (SqT.of t1) (at_rng hsx) ?_
      walk_at "go"
      exact ⟨_, rfl, rfl⟩
    rintro σ H' ⟨z, rfl, rfl⟩
    walk_at "go"
    refine ⟨f, rfl, hfr, by omega, fun H14 s14 => ?_⟩
    walk_at "go"
    have l5 := red_len f
    refine ⟨p, a, red f, im, m, rfl, ha, hl, hF2.same (s213.trans s14), hm1, hm6, rowOf_red hf, by omega, fun q6 H15 nq6 s15 eq6 => ?_⟩
    have e7 : (List.range m).map (fun x => nV (ledF a im (red f) x)) = (List.range m).map fun x => nV (ledF a im f x) := List.map_congr_left fun x hx => by rw [led_red ha hl hp hf (List.mem_range.mp hx)]
    have e8 : (List.range m).map (fun x => nV (ledF a im f x)) = ((List.range m).map fun x => ((ledF a im f x : Nat) : Int)).map V.int := by rw [List.map_map]; rfl
    rw [e7, e8] at eq6
    have t6 := (s14.trans s15) _ _ t1
    rw [e8] at t6
    walk_at "go"
    refine r_eqTi (SqT.of eq6) (SqT.of t6) ?_
    rw [decide_eq_true rfl]
    exact q _ (k1.trans (k2.trans (Kp.of (s213.trans (s14.trans s15))))) ((w2.same (s213.trans (s14.trans s15))).mono (by omega))
/-! ### _law_right -/
def sp__law_right (K : PySem.W.Frag) : Sp := fun vs H Q _ => ∃ (w : Addr) (n : Nat), vs = [.ref w] ∧ Wl H w n ∧ n < 2 ^ 30 ∧ ∀ H', Kp w H H' → Q (.bl true) H'
set_option maxHeartbeats 4000000 in
theorem ok__law_right (Z : Tx K mg) : FnG P w K mg base CX0 7 Z.a__law_right Z.d__law_right ["well"] (sp__law_right K) := by
  refine funG Z.F__law_right sc__law_right (fun vs H Q E h => ?_) (fun cdv A outer s H vs Q E gg rm h => ?_)
  · obtain ⟨w, n, rfl, hw, hn, q⟩ := h; rfl
  · obtain ⟨w, n, rfl, hw, hn, q⟩ := h
    refine ⟨_,
      (pss_cons (ps_set (i := 1) sc__law_right.nd rfl (.inl rfl) (pe_callG gg (ok__law_alphabet Z) (rm.mono (by decide)) (by rfl) Z.g__law_alphabet Z.F__law_alphabet.kp Z.b__law_alphabet .nil pass0 (pa_cons (pv 0) (pa_cons pe_int pa_nil))))
      (pss_cons (ps_set (i := 2) sc__law_right.nd rfl (.inl rfl) (pe_callG gg (ok__law_free_word Z) (rm.mono (by decide)) (by rfl) Z.g__law_free_word Z.F__law_free_word.kp Z.b__law_free_word .nil pass0 (pa_cons (pv 0) (pa_cons (pv 1) pa_nil))))
      (pss_cons (ps_asg (pe_tup (pa_cons (pe_callG gg (ok__law_along Z) (rm.mono (by decide)) (by rfl) Z.g__law_along Z.F__law_along.kp Z.b__law_along .nil pass0 (pa_cons (pv 1) (pa_cons (pv 2) pa_nil))) (pa_cons (pe_callB (call_lenK K) (by rfl) Z.n_len PySem.boot_len (pa_cons (pv 2) pa_nil)) pa_nil))) (pg_tupK (n := 2) K rfl (pgs_cons (pg_name (i := 3) sc__law_right.nd rfl (.inl rfl)) (pgs_cons (pg_name (i := 4) sc__law_right.nd rfl (.inr rfl)) pgs_nil))))
      (pss_cons (ps_set (i := 5) sc__law_right.nd rfl (.inl rfl) (pe_callG gg (ok__law_plain_word Z) (rm.mono (by decide)) (by rfl) Z.g__law_plain_word Z.F__law_plain_word.kp Z.b__law_plain_word .nil pass0 (pa_cons (pv 0) (pa_cons (pv 1) (pa_cons pe_int pa_nil)))))
      (pss_cons (ps_set (i := 6) sc__law_right.nd rfl (.inl rfl) (pe_op (op_addK K) (pv 5) (pe_callG gg (ok__law_back Z) (rm.mono (by decide)) (by rfl) Z.g__law_back Z.F__law_back.kp Z.b__law_back .nil pass0 (pa_cons (pv 5) pa_nil))))
      (pss_cons (ps_for PassesOwn.never rfl (pi_K K (pe_lst (pa_cons (pv 2) (pa_cons (pe_op (op_addK K) (pv 6) (pv 2)) (pa_cons (pe_op (op_addK K) (pe_op (op_addK K) (pe_slice (sl_K K) (pv 2) po_none (po_some pe_int)) (pv 6)) (pe_slice (sl_K K) (pv 2) (po_some pe_int) po_none)) pa_nil))))) (pg_name (i := 7) sc__law_right.nd rfl (.inl rfl))
        (pss_one (ps_if (PW.pt (pw_or (pt_cmpR (op_neK K (hu_of64 rm)) (pe_ix (ix_K K) (pe_callG gg (ok_moved Z) (rm.mono (by decide)) (by rfl) Z.g_moved Z.F_moved.kp Z.b_moved .nil pass0 (pa_cons (pv 1) (pa_cons (pv 3) (pa_cons (pv 7) pa_nil)))) pe_int (fun _ _ => rfl)) (pv 4) (nomark _)) (pw_or1 (pt_cmpR (op_neK K (hu_of64 rm)) (pe_ix (ix_K K) (pe_callG gg (ok_moved Z) (rm.mono (by decide)) (by rfl) Z.g_moved Z.F_moved.kp Z.b_moved .nil pass0 (pa_cons (pv 1) (pa_cons (pv 3) (pa_cons (pe_callG gg (ok_back Z) (rm.mono (by decide)) (by rfl) Z.g_back Z.F_back.kp Z.b_back .nil pass0 (pa_cons (pv 7) pa_nil)) pa_nil)))) (pv 4) (fun _ _ => rfl)) pe_int (nomark _)))))
          (pss_one (ps_ret pe_bl))
          pss_nil)))
      (pss_cons (ps_if (PW.pt (pw_and (pt_cmpR (op_neK K (hu_of64 rm)) (pe_ix (ix_K K) (pv 2) pe_int (fun _ _ => rfl)) (pe_callG gg (ok__law_other Z) (rm.mono (by decide)) (by rfl) Z.g__law_other Z.F__law_other.kp Z.b__law_other .nil pass0 (pa_cons (pe_ix (ix_K K) (pv 2) (pe_un un_neg pe_int) (fun _ _ => rfl)) pa_nil)) (nomark _)) (pw_and1 (pt_cmpR op_isNotG (pe_callG gg (ok_map_holds Z) (rm.mono (by decide)) (by rfl) Z.g_map_holds Z.F_map_holds.kp Z.b_map_holds .nil pass0 (pa_cons (pe_makeG gg Z.mk_Rules (ok_Rules_init Z) rm (by rfl) Z.gc_Rules Z.b_Rules_init .nil pass0 (pa_cons (pv 1) (pa_cons (pe_tup (pa_cons (pv 2) pa_nil)) pa_nil))) (pa_cons (pv 3) pa_nil))) pe_bl (nomark _)))))
        (pss_one (ps_ret pe_bl))
        pss_nil)
      (pss_cons (ps_setLc (i := 8) (own := [("k", 9)]) (g := gName 9) (tt := tYes) rfl sc__law_right.nd rfl rfl (sw_true rfl rfl rfl (by decide +kernel)) (pi_range1 (by rfl) Z.n_range (pa_cons (pe_callB (call_lenK K) (by rfl) Z.n_len PySem.boot_len (pa_cons (pv 1) pa_nil)) pa_nil)) (blkOk_by (N := N__law_right) (sc := defScope s__law_right) (by decide +kernel)) (fun _ _ _ _ _ => pg_name (i := 9) sc__law_right.nd rfl (Or.inl rfl)) (fun _ _ _ _ _ => pts_nil) (fun _ _ _ _ _ => (pe_callG gg (ok__law_figure Z) (rm.mono (by decide)) (by rfl) Z.g__law_figure Z.F__law_figure.kp Z.b__law_figure .nil pass0 (pa_cons (pv 0) (pa_cons (pe_op (op_addK K) (pv 4) pe_int) pa_nil)))))
      (pss_one (ps_ret (pe_andK K (pe_callG gg (ok__law_ways_right Z) rm (by rfl) Z.g__law_ways_right Z.F__law_ways_right.kp Z.b__law_ways_right .nil pass0 (pa_cons (pv 0) (pa_cons (pv 1) (pa_cons (pv 3) pa_nil)))) (pe_one (pe_callG gg (ok__law_ways_right Z) rm (by rfl) Z.g__law_ways_right Z.F__law_ways_right.kp Z.b__law_ways_right .nil pass0 (pa_cons (pv 0) (pa_cons (pv 1) (pa_cons (pv 8) pa_nil)))))))))))))))), ?_⟩
    rw [show L2.start N__law_right [.ref w] = [some (.ref w), none, none, none, none, none, none, none, none, none] from rfl]
    have hC := cA_eq Z.ns_Rules
    walk_at "go"
    refine ⟨w, 4, n, rfl, by decide, by decide, hw, by omega, fun a H1 ha hal4 k1 w1 => ?_⟩
    have hal := ha.1
    have hal2 := ha.2.1
    walk_at "go"
    refine ⟨w, a, _, rfl, w1, by omega, ha, fun l H2 hr hf hl1 hl5 k2 w2 => ?_⟩
    walk_at "go"
    refine ⟨a, l, rfl, ha, hr, hf, hl1, hl5, fun p im H3 np s3 hF hil hst => ?_⟩
    have hpw : p ≠ w := w2.ne np
    have hp := hF.prm
    walk_at "go"
    intro tt ntt
    generalize hh : upd _ tt _ = H3b
    obtain ⟨s3b, ett⟩ := new_eq ntt hh
    walk_at "go"
    have w3 := (w2.same s3).same s3b
    have hF3 := hF.same s3b
    walk_at "go"
    refine ⟨w, a, 8, _, rfl, by decide, w3, by omega, ha, fun pd H4 hpd hpl k4 w4 => ?_⟩
    obtain ⟨_, _, _, ew3, _⟩ := id w3
    have hF4 := hF3.kp hpw k4 ew3
    have hbp := bak_len pd
    walk_at "go"
    refine ⟨pd, rfl, hpd.row ha, by omega, fun H5 s5 => ?_⟩
    have hF5 := hF4.same s5
    have k5 : Kp w H H5 := k1.trans (k2.trans ((Kp.of (s3.trans s3b)).trans (k4.trans (Kp.of s5))))
    have w5 := w4.same s5
    have hnr : RowOf a (pd ++ bak pd) := hpd.app (RowOf.bak ha hpd)
    have hnl : (pd ++ bak pd).length ≤ 16 := by rw [List.length_append]; omega
    have hnm : ∀ x, x < l.length + 1 → ledF a im (pd ++ bak pd) x = x := fun x hx => led_nm ha hil hp hpd hx
    have hld := along_all hst
    walk_at "go"
    have hc1 : cutL l none (some 1) = l.take 1 := cut_to l 1
    have hc2 : cutL l (some 1) none = l.drop 1 := cut_from l 1
    have ht1 : (l.take 1).length ≤ 1 := by rw [List.length_take]; omega
    have ht2 : (l.drop 1).length ≤ 5 := by rw [List.length_drop]; omega
    have hW : ∀ z ∈ [l, (pd ++ bak pd) ++ l, (l.take 1 ++ (pd ++ bak pd)) ++ l.drop 1], RowOf a z ∧ z.length ≤ 30 ∧ ledF a im z 0 = l.length := fun z hz => by
      simp only [List.mem_cons, List.not_mem_nil, or_false] at hz
      rcases hz with rfl | rfl | rfl
      · exact ⟨hr, by omega, hld⟩
      · refine ⟨hnr.app hr, by rw [List.length_append]; omega, ?_⟩
        rw [ledF_app, hnm 0 (by omega)]; exact hld
      · refine ⟨(RowOf.app (hr.take 1) hnr).app (hr.drop 1), by rw [List.length_append, List.length_append]; omega, ?_⟩
        rw [ledF_app, ledF_app, hnm _ (ledF_lt ha hil hp (hr.take 1) (by omega)), ← ledF_app, List.take_append_drop]; exact hld
    rw [hc1]
    refine r_addS (by omega) ?_
    walk_at "go"
    rw [hc2]
    refine r_addS (by rw [List.length_append]; omega) ?_
    walk_at "go"
    intro tw ntw
    generalize hh : upd _ tw _ = H6
    obtain ⟨s6, etw⟩ := new_eq ntw hh
    clear hh
    have etw' : H6 tw = some (.lst ([l, (pd ++ bak pd) ++ l, (l.take 1 ++ (pd ++ bak pd)) ++ l.drop 1].map T)) := etw
    have hWl : ([l, (pd ++ bak pd) ++ l, (l.take 1 ++ (pd ++ bak pd)) ++ l.drop 1]).length = 3 := rfl
    clear etw
    generalize [l, (pd ++ bak pd) ++ l, (l.take 1 ++ (pd ++ bak pd)) ++ l.drop 1] = Ws at hW etw' hWl
    have hF6 := hF5.same s6
    refine r_goL (SqL.of etw') ?_
    refine for_known (known_list (Ws.map T)) (fun i σ H' => ∃ (z7 : Option V), σ = [some (.ref w), some (T a), some (T l), some (.ref p), some (.int (l.length : Nat)), some (T pd), some (T (pd ++ bak pd)), z7, none, none] ∧ Same H6 H') ⟨_, rfl, Same.refl _⟩ (fun i σ H' _ ⟨_, _, s⟩ => SqL.of (s _ _ etw')) ?_ ?_
    · rintro i σ H7 hi ⟨z7, rfl, s7⟩
      have hi' : i < Ws.length := by simpa using hi
      rw [map_getD _ hi']
      obtain ⟨g1, g2, g3⟩ := hW _ (getD_memL hi')
      generalize Ws.getD i [] = z at g1 g2 g3
      have hF7 := hF6.same s7
      have hbz := bak_len z
      have g4 := led_bak ha hil hp g1 (show 0 < l.length + 1 by omega)
      rw [g3] at g4
      walk_at "go"
      refine ⟨p, a, z, im, l.length + 1, rfl, ha, hil, hF7, by omega, by omega, g1, by omega, fun q1 H8 nq1 s8 eq1 => ?_⟩
      walk_at "go"
      refine r_ixT (SqT.of eq1) (at_rng (x := 0) (by omega)) ?_
      rw [g3]
      walk_at "go"
      refine ⟨z, rfl, g1.row ha, by omega, fun H9 s9 => ?_⟩
      walk_at "go"
      refine ⟨p, a, bak z, im, l.length + 1, rfl, ha, hil, hF7.same (s8.trans s9), by omega, by omega, RowOf.bak ha g1, by omega, fun q2 H10 nq2 s10 eq2 => ?_⟩
      walk_at "go"
      refine r_ixT (SqT.of eq2) (at_rng (x := l.length) (by omega)) ?_
      rw [g4]
      walk_at "go"
      exact ⟨_, rfl, s7.trans (s8.trans (s9.trans s10))⟩
    rintro σ H7 ⟨z7, rfl, s7⟩
    have hF7 := hF6.same s7
    have hlr := hr.row ha
    walk_at "st"
    refine r_genS (fun σ' H' => σ' = [some (.ref w), some (T a), some (T l), some (.ref p), some (.int (l.length : Nat)), some (T pd), some (T (pd ++ bak pd)), z7, none, none] ∧ Same H7 H') ?ga ?gb
    case gb =>
      intro nx' k'
      walk_at "go"
      refine r_ixS (by omega) (show atI l ((0 : Nat) : Int) = some _ from at_nat (by omega) (by omega)) ?_
      walk_at "go"
      refine r_ixS (by omega) (show atI l (-1) = some _ from at_neg (l := l) (k := 0) (by omega)) ?_
      have hlast := hlr _ (getD_mem (show l.length - 1 - 0 < l.length by omega))
      refine ⟨l.getD (l.length - 1 - 0) 0, rfl, by have := lett_iff.mp hlast; omega, ?_⟩
      walk_at "go"
      refine r_ifnd (fun c => ?_) (fun c => ?_)
      · have hnf : NF l := fun z => c (by show [l.getD 0 0] = [swp (l.getD (l.length - 1) 0)]; rw [z.2])
        have hrr : RR a l := rr_of hlr hr hl1 (by omega) hf hnf
        walk_at "go"
        intro pt npt
        generalize hh : upd _ pt _ = H8
        obtain ⟨s8, ept⟩ := new_eq npt hh
        walk_at "go"
        refine spRul_new (rs := [l]) hC (TupV.of ept) ha (told_one hrr) fun x0 H9 nx s9 hx0 => ?_
        walk_at "go"
        refine ⟨x0, p, a, [l], im, l.length + 1, rfl, hx0, hil, (hF7.same s8).same s9, by omega, by omega, fun H10 s10 => ?_⟩
        rw [show [l].all (stay a im (l.length + 1)) = false by rw [List.all_cons, stay_no (show 0 < l.length + 1 by omega) (by rw [hld]; omega)]; rfl]
        walk_at "go"
        refine .inr ⟨false, false, rfl, rfl, ?_⟩
        walk_at "go"
        exact k' _ _ ⟨rfl, s8.trans (s9.trans s10)⟩
      · walk_at "go"
        exact k' _ _ ⟨rfl, Same.refl _⟩
    rintro σ' H8 ⟨rfl, s8⟩
    have w8 := ((w5.same s6).same s7).same s8
    have hF8 := hF7.same s8
    have k08 : Kp w H H8 := k5.trans (Kp.of (s6.trans (s7.trans s8)))
    clear hW etw' hF hF3 hF4 hF5 hF6 hF7 k1 k2 k4 k5 w1 w2 w3 w4 w5 s3 s3b s5 s6 s7 s8 ett
    obtain ⟨m, hm⟩ : ∃ m, l.length + 1 = m := ⟨_, rfl⟩
    have hm6 : m ≤ 6 := by omega
    have hm1 : 1 ≤ m := by omega
    rw [hm] at hF8
    walk_at "go"
    refine r_goR1 (by omega) ?_
    rw [Int.toNat_natCast]
    refine lc_inv (G := fun _ => True) (known_rng 0 _) (fun D i H' => D ≠ w ∧ H8 D = none ∧ Kp w H8 H' ∧ Wl H' w (n + 40 + m * i) ∧ ∃ (ps : List Addr) (im2 : List (List Nat)), H' D = some (.lst (ps.map V.ref)) ∧ FigL H' ps m im2 ∧ im2.length = i) ?_ (fun _ _ _ _ _ => trivial) ?_ ?_
    · intro D nD
      exact ⟨w8.ne nD, nD, (Kp.refl w _).new nD, (w8.new nD).mono (by omega), [], [], upd_same, FigL.nil, rfl⟩
    · rintro D i H9 hi ⟨hDw, nD, k9, w9, ps, im2, eD, hfl, hl2⟩
      have hmi : m * i ≤ 24 := Nat.le_trans (Nat.mul_le_mul hm6 (show i ≤ 4 by omega)) (by decide)
      walk_at "go"
      refine ⟨w, m, _, by rw [show (l.length : Int) + 1 = ((m : Nat) : Int) by omega]; rfl, by omega, w9, by omega, fun p2 ob l2 H10 np2 hpw2 hd ep hp2 k10 w10 => ?_⟩
      obtain ⟨_, _, _, ew9, _⟩ := id w9
      have hf10 := hfl.kp k10 ew9
      have eD10 := k10 _ _ hDw eD
      refine ⟨_, eD10, by rw [sizeLine_eq, List.length_map, hfl.1]; omega, hDw, nD, (k9.trans k10).mut nD, (w10.put hDw).mono (by rw [Nat.mul_succ]; omega), ps ++ [p2], im2 ++ [l2], by rw [upd_same, List.map_append]; rfl, ?_, by rw [List.length_append, hl2]; rfl⟩
      exact (hf10.snoc hd ep hp2).kp ((Kp.refl D H10).put) eD10
    rintro D H9 ⟨hDw, nD, k9, w9, ps, im2, eD, hfl, hl2⟩
    have hml : m * a.length ≤ 24 := Nat.le_trans (Nat.mul_le_mul hm6 (show a.length ≤ 4 by omega)) (by decide)
    obtain ⟨_, _, _, ew8, _⟩ := id w8
    have hF9 := hF8.kp hpw k9 ew8
    walk_at "go"
    refine ⟨w, p, a, im, m, _, rfl, w9, by omega, ha, hil, hF9, hpw, hm1, hm6, fun H10 k10 w10 => ?_⟩
    obtain ⟨_, _, _, ew9, _⟩ := id w9
    have hG10 := (Figs.of eD hfl).kp hDw k10 ew9
    walk_at "go"
    refine ⟨w, D, a, im2, m, _, rfl, w10, by omega, ha, by omega, hG10, hDw, hm1, hm6, fun H11 k11 w11 => ?_⟩
    exact q _ (k08.trans (k9.trans (k10.trans k11)))
/-! ### _law_well -/
def sp__law_well (K : PySem.W.Frag) : Sp := fun vs H Q _ => ∃ (a : Addr) (ns : List Int) (k : Nat), vs = [.ref a, .int (k : Int)] ∧ SqL K H a (ns.map V.int) ∧ k ≤ 100 ∧ ∀ p H', H p = none → Same H H' → Wl H' p 0 → Q (.ref p) H'
set_option maxHeartbeats 4000000 in
theorem ok__law_well (Z : Tx K mg) : FnG P w K mg base CX0 1 Z.a__law_well Z.d__law_well ["script", "k"] (sp__law_well K) := by
  refine funG Z.F__law_well sc__law_well (fun vs H Q E h => ?_) (fun cdv A outer s H vs Q E gg rm h => ?_)
  · obtain ⟨a, ns, k, rfl, hS, hk, q⟩ := h; rfl
  · obtain ⟨a, ns, k, rfl, hS, hk, q⟩ := h
    refine ⟨_,
      (pss_cons (ps_set (i := 2) sc__law_well.nd rfl (.inl rfl) (pe_ifExp (pt_cmpR op_ltG (pv 1) (pe_callB (call_lenK K) (by rfl) Z.n_len PySem.boot_len (pa_cons (pv 0) pa_nil)) (nomark _)) (pe_callB call_abs (by rfl) Z.n_abs (by decide +kernel) (pa_cons (pe_callTy call_intG (by rfl) Z.n_int (by decide +kernel) (pa_cons (pe_ix (ix_K K) (pv 0) (pv 1) (fun _ _ => rfl)) pa_nil)) pa_nil)) (pe_op op_mulG pe_int (pv 1))))
      (pss_one (ps_ret (pe_lst (pa_cons (pe_callB (call_max2 rfl) (by rfl) Z.n_max (by decide +kernel) (pa_cons pe_int (pa_cons (pe_op op_sub (pv 2) (pe_op op_powW pe_int pe_int)) pa_nil))) (pa_cons (pe_op (op_addK K) (pe_op (op_addK K) (pe_op op_modN (pe_callTy call_intG (by rfl) Z.n_int (by decide +kernel) (pa_cons (pv 2) pa_nil)) (pe_op (op_addK K) (pe_op op_powW pe_int pe_int) pe_int)) (pe_op op_mulG pe_int (pv 1))) pe_int) (pa_cons pe_int pa_nil))))))), ?_⟩
    rw [show L2.start N__law_well [.ref a, .int (k : Int)] = [some (.ref a), some (.int (k : Int)), none] from rfl]
    refine r_seq ?_
    refine r_asg ?_
    refine r_gen (fun v H' => ∃ cell : Int, v = .int cell ∧ 0 ≤ cell ∧ H' = H) (fun v H' hv => ?_) (fun Q' k' => ?_)
    · obtain ⟨cell, rfl, h0, rfl⟩ := hv
      walk_at "go"
      intro p np
      have h1 : 0 ≤ cell % (1000000000000000000000000000000000000 + 67) := Int.emod_nonneg _ (by decide)
      have h2 : cell % (1000000000000000000000000000000000000 + 67) < 1000000000000000000000000000000000000 + 67 := Int.emod_lt_of_pos _ (by decide)
      generalize cell % (1000000000000000000000000000000000000 + 67) = y at h1 h2
      refine q p _ np (Same.new1 np) ⟨_, _, _, upd_same, ?_, ?_, ?_, ?_, ?_⟩
      · split <;> omega
      · omega
      · omega
      · omega
      · omega
    · walk_at "go"
      refine r_ifd (fun c => ?_) (fun c => ?_)
      · have hlt : k < ns.length := by rw [List.length_map] at c; omega
        walk_at "go"
        refine r_ixL hS (at_map hlt) ?_
        walk_at "go"
        exact k' _ _ ⟨_, rfl, by split <;> omega, rfl⟩
      · walk_at "go"
        exact k' _ _ ⟨_, rfl, by omega, rfl⟩
/-! ### law -/
def sp_law (K : PySem.W.Frag) : Sp := fun vs H Q _ => ∃ (a : Addr) (ns : List Int), vs = [.ref a] ∧ SqL K H a (ns.map V.int) ∧ ns.length ≤ 63 ∧ ∀ H', Q (.bl true) H'
set_option maxHeartbeats 4000000 in
theorem ok_law (Z : Tx K mg) : FnG P w K mg base CX0 8 Z.a_law Z.d_law ["script"] (sp_law K) := by
  refine funG Z.F_law sc_law (fun vs H Q E h => ?_) (fun cdv A outer s H vs Q E gg rm h => ?_)
  · obtain ⟨a, ns, rfl, hS, hlen, q⟩ := h; rfl
  · obtain ⟨a, ns, rfl, hS, hlen, q⟩ := h
    refine ⟨_,
      (pss_cons (ps_for PassesOwn.never rfl (pi_range1 (by rfl) Z.n_range (pa_cons (pe_callB (call_max2 rfl) (by rfl) Z.n_max (by decide +kernel) (pa_cons pe_int (pa_cons (pe_callB (call_min2 rfl) (by rfl) Z.n_min (by decide +kernel) (pa_cons pe_int (pa_cons (pe_callB (call_lenK K) (by rfl) Z.n_len PySem.boot_len (pa_cons (pv 0) pa_nil)) pa_nil))) pa_nil))) pa_nil)) (pg_name (i := 1) sc_law.nd rfl (.inl rfl))
        (pss_one (ps_if (pt_not (pt_truK K (pe_callG gg (ok__law_right Z) rm (by rfl) Z.g__law_right Z.F__law_right.kp Z.b__law_right .nil pass0 (pa_cons (pe_callG gg (ok__law_well Z) (rm.mono (by decide)) (by rfl) Z.g__law_well Z.F__law_well.kp Z.b__law_well .nil pass0 (pa_cons (pv 0) (pa_cons (pv 1) pa_nil))) pa_nil)) (by intro _; rfl)))
          (pss_one (ps_ret pe_bl))
          pss_nil)))
      (pss_one (ps_ret pe_bl))), ?_⟩
    rw [show L2.start N_law [.ref a] = [some (.ref a), none] from rfl]
    walk_at "go"
    simp only [List.length_map]
    obtain ⟨t, ht, et⟩ : ∃ t : Nat, t ≤ 63 ∧ (if (if (ns.length : Int) < 63 then (ns.length : Int) else 63) > 1 then (if (ns.length : Int) < 63 then (ns.length : Int) else 63) else 1) = (t : Int) :=
      ⟨(if (if (ns.length : Int) < 63 then (ns.length : Int) else 63) > 1 then (if (ns.length : Int) < 63 then (ns.length : Int) else 63) else 1).toNat, by split <;> split <;> omega, by split <;> split <;> omega⟩
    rw [et]
    refine r_goR1 (by omega) ?_
    refine for_known (known_rng 0 _) (fun i σ H' => ∃ x, σ = [some (.ref a), x] ∧ SqL K H' a (ns.map V.int)) ⟨none, rfl, hS⟩ (fun _ _ _ _ _ => trivial) ?_ ?_
    · rintro i σ H' hi ⟨x, rfl, hS'⟩
      rw [Int.zero_add]
      walk_at "go"
      refine ⟨a, ns, i, rfl, hS', by omega, fun p H1 np s1 w1 => ?_⟩
      walk_at "go"
      refine ⟨p, 0, rfl, w1, by decide, fun H2 k2 => ?_⟩
      walk_at "go"
      exact ⟨_, rfl, seq_new hS' np s1 k2⟩
    · rintro σ H' ⟨x, rfl, hS'⟩
      walk_at "go"
      exact q _
end
/-! ### what the top has written; the end -/
theorem all_mk {l : PySem.W.OpenLaw} {w : World} {K : PySem.W.Frag} {h : Heap} {mg : Str → Option Value} {fa : Addr} (X : K.In h) (G : h.Ns mainGlobals mg) (hfa : mg "law" = some (.ref fa))
    {f_Rules : Addr} (n_Rules : PySem.W.nsIn K mainGlobals "Rules" = some (some (.ref f_Rules))) (pg_Rules : PySem.W.plainGet K f_Rules Str.empty = true) (hd_Rules : PySem.W.hasDictIn K f_Rules = true) (po_Rules : PySem.W.plainOver K f_Rules = true) (sa_Rules : PySem.W.findIn K (.ref f_Rules) "__setattr__" = some (some (.builtin "object.__setattr__"))) (mk_Rules : PySem.W.makesIn K f_Rules = true) (kc_Rules : PySem.W.keepIn K (.ref f_Rules) = true)
    (na_Rules_alphabet : PySem.W.findIn K (.ref f_Rules) "alphabet" = some none)
    (na_Rules_told : PySem.W.findIn K (.ref f_Rules) "told" = some none)
    {f_is_whole : Addr} {od_is_whole an_is_whole : Option Addr} {sl_is_whole : Array (Option Value)} {oc_is_whole kV_is_whole dc_is_whole pm_is_whole cd_is_whole ct_is_whole : Value}
    (a_is_whole : PySem.W.nsIn K mainGlobals "is_whole" = some (some (.ref f_is_whole)))
    (l_is_whole : K.lookup f_is_whole = some ⟨oc_is_whole, od_is_whole, .func (PySem.W.fnOf "is_whole" "is_whole" (defArgs s_is_whole) (defBody s_is_whole) (defScope s_is_whole) .none kV_is_whole dc_is_whole pm_is_whole an_is_whole cd_is_whole ct_is_whole), sl_is_whole⟩) (c_is_whole : PySem.W.codeIn K cd_is_whole "is_whole" = true) (k_is_whole : PySem.W.keepIn K (.ref f_is_whole) = true)
    {f_is_row : Addr} {od_is_row an_is_row : Option Addr} {sl_is_row : Array (Option Value)} {oc_is_row kV_is_row dc_is_row pm_is_row cd_is_row ct_is_row : Value}
    (a_is_row : PySem.W.nsIn K mainGlobals "is_row" = some (some (.ref f_is_row)))
    (l_is_row : K.lookup f_is_row = some ⟨oc_is_row, od_is_row, .func (PySem.W.fnOf "is_row" "is_row" (defArgs s_is_row) (defBody s_is_row) (defScope s_is_row) .none kV_is_row dc_is_row pm_is_row an_is_row cd_is_row ct_is_row), sl_is_row⟩) (c_is_row : PySem.W.codeIn K cd_is_row "is_row" = true) (k_is_row : PySem.W.keepIn K (.ref f_is_row) = true)
    {f_is_row_of : Addr} {od_is_row_of an_is_row_of : Option Addr} {sl_is_row_of : Array (Option Value)} {oc_is_row_of kV_is_row_of dc_is_row_of pm_is_row_of cd_is_row_of ct_is_row_of : Value}
    (a_is_row_of : PySem.W.nsIn K mainGlobals "is_row_of" = some (some (.ref f_is_row_of)))
    (l_is_row_of : K.lookup f_is_row_of = some ⟨oc_is_row_of, od_is_row_of, .func (PySem.W.fnOf "is_row_of" "is_row_of" (defArgs s_is_row_of) (defBody s_is_row_of) (defScope s_is_row_of) .none kV_is_row_of dc_is_row_of pm_is_row_of an_is_row_of cd_is_row_of ct_is_row_of), sl_is_row_of⟩) (c_is_row_of : PySem.W.codeIn K cd_is_row_of "is_row_of" = true) (k_is_row_of : PySem.W.keepIn K (.ref f_is_row_of) = true)
    {f_are_letters : Addr} {od_are_letters an_are_letters : Option Addr} {sl_are_letters : Array (Option Value)} {oc_are_letters kV_are_letters dc_are_letters pm_are_letters cd_are_letters ct_are_letters : Value}
    (a_are_letters : PySem.W.nsIn K mainGlobals "are_letters" = some (some (.ref f_are_letters)))
    (l_are_letters : K.lookup f_are_letters = some ⟨oc_are_letters, od_are_letters, .func (PySem.W.fnOf "are_letters" "are_letters" (defArgs s_are_letters) (defBody s_are_letters) (defScope s_are_letters) .none kV_are_letters dc_are_letters pm_are_letters an_are_letters cd_are_letters ct_are_letters), sl_are_letters⟩) (c_are_letters : PySem.W.codeIn K cd_are_letters "are_letters" = true) (k_are_letters : PySem.W.keepIn K (.ref f_are_letters) = true)
    {f_check_row : Addr} {od_check_row an_check_row : Option Addr} {sl_check_row : Array (Option Value)} {oc_check_row kV_check_row dc_check_row pm_check_row cd_check_row ct_check_row : Value}
    (a_check_row : PySem.W.nsIn K mainGlobals "check_row" = some (some (.ref f_check_row)))
    (l_check_row : K.lookup f_check_row = some ⟨oc_check_row, od_check_row, .func (PySem.W.fnOf "check_row" "check_row" (defArgs s_check_row) (defBody s_check_row) (defScope s_check_row) .none kV_check_row dc_check_row pm_check_row an_check_row cd_check_row ct_check_row), sl_check_row⟩) (c_check_row : PySem.W.codeIn K cd_check_row "check_row" = true) (k_check_row : PySem.W.keepIn K (.ref f_check_row) = true)
    {f_check_row_of : Addr} {od_check_row_of an_check_row_of : Option Addr} {sl_check_row_of : Array (Option Value)} {oc_check_row_of kV_check_row_of dc_check_row_of pm_check_row_of cd_check_row_of ct_check_row_of : Value}
    (a_check_row_of : PySem.W.nsIn K mainGlobals "check_row_of" = some (some (.ref f_check_row_of)))
    (l_check_row_of : K.lookup f_check_row_of = some ⟨oc_check_row_of, od_check_row_of, .func (PySem.W.fnOf "check_row_of" "check_row_of" (defArgs s_check_row_of) (defBody s_check_row_of) (defScope s_check_row_of) .none kV_check_row_of dc_check_row_of pm_check_row_of an_check_row_of cd_check_row_of ct_check_row_of), sl_check_row_of⟩) (c_check_row_of : PySem.W.codeIn K cd_check_row_of "check_row_of" = true) (k_check_row_of : PySem.W.keepIn K (.ref f_check_row_of) = true)
    {f_check_letters : Addr} {od_check_letters an_check_letters : Option Addr} {sl_check_letters : Array (Option Value)} {oc_check_letters kV_check_letters dc_check_letters pm_check_letters cd_check_letters ct_check_letters : Value}
    (a_check_letters : PySem.W.nsIn K mainGlobals "check_letters" = some (some (.ref f_check_letters)))
    (l_check_letters : K.lookup f_check_letters = some ⟨oc_check_letters, od_check_letters, .func (PySem.W.fnOf "check_letters" "check_letters" (defArgs s_check_letters) (defBody s_check_letters) (defScope s_check_letters) .none kV_check_letters dc_check_letters pm_check_letters an_check_letters cd_check_letters ct_check_letters), sl_check_letters⟩) (c_check_letters : PySem.W.codeIn K cd_check_letters "check_letters" = true) (k_check_letters : PySem.W.keepIn K (.ref f_check_letters) = true)
    {f_is_permutation : Addr} {od_is_permutation an_is_permutation : Option Addr} {sl_is_permutation : Array (Option Value)} {oc_is_permutation kV_is_permutation dc_is_permutation pm_is_permutation cd_is_permutation ct_is_permutation : Value}
    (a_is_permutation : PySem.W.nsIn K mainGlobals "is_permutation" = some (some (.ref f_is_permutation)))
    (l_is_permutation : K.lookup f_is_permutation = some ⟨oc_is_permutation, od_is_permutation, .func (PySem.W.fnOf "is_permutation" "is_permutation" (defArgs s_is_permutation) (defBody s_is_permutation) (defScope s_is_permutation) .none kV_is_permutation dc_is_permutation pm_is_permutation an_is_permutation cd_is_permutation ct_is_permutation), sl_is_permutation⟩) (c_is_permutation : PySem.W.codeIn K cd_is_permutation "is_permutation" = true) (k_is_permutation : PySem.W.keepIn K (.ref f_is_permutation) = true)
    {f_are_images : Addr} {od_are_images an_are_images : Option Addr} {sl_are_images : Array (Option Value)} {oc_are_images kV_are_images dc_are_images pm_are_images cd_are_images ct_are_images : Value}
    (a_are_images : PySem.W.nsIn K mainGlobals "are_images" = some (some (.ref f_are_images)))
    (l_are_images : K.lookup f_are_images = some ⟨oc_are_images, od_are_images, .func (PySem.W.fnOf "are_images" "are_images" (defArgs s_are_images) (defBody s_are_images) (defScope s_are_images) .none kV_are_images dc_are_images pm_are_images an_are_images cd_are_images ct_are_images), sl_are_images⟩) (c_are_images : PySem.W.codeIn K cd_are_images "are_images" = true) (k_are_images : PySem.W.keepIn K (.ref f_are_images) = true)
    {f_check_images : Addr} {od_check_images an_check_images : Option Addr} {sl_check_images : Array (Option Value)} {oc_check_images kV_check_images dc_check_images pm_check_images cd_check_images ct_check_images : Value}
    (a_check_images : PySem.W.nsIn K mainGlobals "check_images" = some (some (.ref f_check_images)))
    (l_check_images : K.lookup f_check_images = some ⟨oc_check_images, od_check_images, .func (PySem.W.fnOf "check_images" "check_images" (defArgs s_check_images) (defBody s_check_images) (defScope s_check_images) .none kV_check_images dc_check_images pm_check_images an_check_images cd_check_images ct_check_images), sl_check_images⟩) (c_check_images : PySem.W.codeIn K cd_check_images "check_images" = true) (k_check_images : PySem.W.keepIn K (.ref f_check_images) = true)
    {f_steps_by : Addr} {od_steps_by an_steps_by : Option Addr} {sl_steps_by : Array (Option Value)} {oc_steps_by kV_steps_by dc_steps_by pm_steps_by cd_steps_by ct_steps_by : Value}
    (a_steps_by : PySem.W.nsIn K mainGlobals "steps_by" = some (some (.ref f_steps_by)))
    (l_steps_by : K.lookup f_steps_by = some ⟨oc_steps_by, od_steps_by, .func (PySem.W.fnOf "steps_by" "steps_by" (defArgs s_steps_by) (defBody s_steps_by) (defScope s_steps_by) .none kV_steps_by dc_steps_by pm_steps_by an_steps_by cd_steps_by ct_steps_by), sl_steps_by⟩) (c_steps_by : PySem.W.codeIn K cd_steps_by "steps_by" = true) (k_steps_by : PySem.W.keepIn K (.ref f_steps_by) = true)
    {f_led : Addr} {od_led an_led : Option Addr} {sl_led : Array (Option Value)} {oc_led kV_led dc_led pm_led cd_led ct_led : Value}
    (a_led : PySem.W.nsIn K mainGlobals "led" = some (some (.ref f_led)))
    (l_led : K.lookup f_led = some ⟨oc_led, od_led, .func (PySem.W.fnOf "led" "led" (defArgs s_led) (defBody s_led) (defScope s_led) .none kV_led dc_led pm_led an_led cd_led ct_led), sl_led⟩) (c_led : PySem.W.codeIn K cd_led "led" = true) (k_led : PySem.W.keepIn K (.ref f_led) = true)
    {f_moves_none : Addr} {od_moves_none an_moves_none : Option Addr} {sl_moves_none : Array (Option Value)} {oc_moves_none kV_moves_none dc_moves_none pm_moves_none cd_moves_none ct_moves_none : Value}
    (a_moves_none : PySem.W.nsIn K mainGlobals "moves_none" = some (some (.ref f_moves_none)))
    (l_moves_none : K.lookup f_moves_none = some ⟨oc_moves_none, od_moves_none, .func (PySem.W.fnOf "moves_none" "moves_none" (defArgs s_moves_none) (defBody s_moves_none) (defScope s_moves_none) .none kV_moves_none dc_moves_none pm_moves_none an_moves_none cd_moves_none ct_moves_none), sl_moves_none⟩) (c_moves_none : PySem.W.codeIn K cd_moves_none "moves_none" = true) (k_moves_none : PySem.W.keepIn K (.ref f_moves_none) = true)
    {f_holds_for : Addr} {od_holds_for an_holds_for : Option Addr} {sl_holds_for : Array (Option Value)} {oc_holds_for kV_holds_for dc_holds_for pm_holds_for cd_holds_for ct_holds_for : Value}
    (a_holds_for : PySem.W.nsIn K mainGlobals "holds_for" = some (some (.ref f_holds_for)))
    (l_holds_for : K.lookup f_holds_for = some ⟨oc_holds_for, od_holds_for, .func (PySem.W.fnOf "holds_for" "holds_for" (defArgs s_holds_for) (defBody s_holds_for) (defScope s_holds_for) .none kV_holds_for dc_holds_for pm_holds_for an_holds_for cd_holds_for ct_holds_for), sl_holds_for⟩) (c_holds_for : PySem.W.codeIn K cd_holds_for "holds_for" = true) (k_holds_for : PySem.W.keepIn K (.ref f_holds_for) = true)
    {f_moved : Addr} {od_moved an_moved : Option Addr} {sl_moved : Array (Option Value)} {oc_moved kV_moved dc_moved pm_moved cd_moved ct_moved : Value}
    (a_moved : PySem.W.nsIn K mainGlobals "moved" = some (some (.ref f_moved)))
    (l_moved : K.lookup f_moved = some ⟨oc_moved, od_moved, .func (PySem.W.fnOf "moved" "moved" (defArgs s_moved) (defBody s_moved) (defScope s_moved) .none kV_moved dc_moved pm_moved an_moved cd_moved ct_moved), sl_moved⟩) (c_moved : PySem.W.codeIn K cd_moved "moved" = true) (k_moved : PySem.W.keepIn K (.ref f_moved) = true)
    {f_map_holds : Addr} {od_map_holds an_map_holds : Option Addr} {sl_map_holds : Array (Option Value)} {oc_map_holds kV_map_holds dc_map_holds pm_map_holds cd_map_holds ct_map_holds : Value}
    (a_map_holds : PySem.W.nsIn K mainGlobals "map_holds" = some (some (.ref f_map_holds)))
    (l_map_holds : K.lookup f_map_holds = some ⟨oc_map_holds, od_map_holds, .func (PySem.W.fnOf "map_holds" "map_holds" (defArgs s_map_holds) (defBody s_map_holds) (defScope s_map_holds) .none kV_map_holds dc_map_holds pm_map_holds an_map_holds cd_map_holds ct_map_holds), sl_map_holds⟩) (c_map_holds : PySem.W.codeIn K cd_map_holds "map_holds" = true) (k_map_holds : PySem.W.keepIn K (.ref f_map_holds) = true)
    {f_back_of : Addr} {od_back_of an_back_of : Option Addr} {sl_back_of : Array (Option Value)} {oc_back_of kV_back_of dc_back_of pm_back_of cd_back_of ct_back_of : Value}
    (a_back_of : PySem.W.nsIn K mainGlobals "back_of" = some (some (.ref f_back_of)))
    (l_back_of : K.lookup f_back_of = some ⟨oc_back_of, od_back_of, .func (PySem.W.fnOf "back_of" "back_of" (defArgs s_back_of) (defBody s_back_of) (defScope s_back_of) .none kV_back_of dc_back_of pm_back_of an_back_of cd_back_of ct_back_of), sl_back_of⟩) (c_back_of : PySem.W.codeIn K cd_back_of "back_of" = true) (k_back_of : PySem.W.keepIn K (.ref f_back_of) = true)
    {f_least_of : Addr} {od_least_of an_least_of : Option Addr} {sl_least_of : Array (Option Value)} {oc_least_of kV_least_of dc_least_of pm_least_of cd_least_of ct_least_of : Value}
    (a_least_of : PySem.W.nsIn K mainGlobals "least_of" = some (some (.ref f_least_of)))
    (l_least_of : K.lookup f_least_of = some ⟨oc_least_of, od_least_of, .func (PySem.W.fnOf "least_of" "least_of" (defArgs s_least_of) (defBody s_least_of) (defScope s_least_of) .none kV_least_of dc_least_of pm_least_of an_least_of cd_least_of ct_least_of), sl_least_of⟩) (c_least_of : PySem.W.codeIn K cd_least_of "least_of" = true) (k_least_of : PySem.W.keepIn K (.ref f_least_of) = true)
    {f_back : Addr} {od_back an_back : Option Addr} {sl_back : Array (Option Value)} {oc_back kV_back dc_back pm_back cd_back ct_back : Value}
    (a_back : PySem.W.nsIn K mainGlobals "back" = some (some (.ref f_back)))
    (l_back : K.lookup f_back = some ⟨oc_back, od_back, .func (PySem.W.fnOf "back" "back" (defArgs s_back) (defBody s_back) (defScope s_back) .none kV_back dc_back pm_back an_back cd_back ct_back), sl_back⟩) (c_back : PySem.W.codeIn K cd_back "back" = true) (k_back : PySem.W.keepIn K (.ref f_back) = true)
    {f_least : Addr} {od_least an_least : Option Addr} {sl_least : Array (Option Value)} {oc_least kV_least dc_least pm_least cd_least ct_least : Value}
    (a_least : PySem.W.nsIn K mainGlobals "least" = some (some (.ref f_least)))
    (l_least : K.lookup f_least = some ⟨oc_least, od_least, .func (PySem.W.fnOf "least" "least" (defArgs s_least) (defBody s_least) (defScope s_least) .none kV_least dc_least pm_least an_least cd_least ct_least), sl_least⟩) (c_least : PySem.W.codeIn K cd_least "least" = true) (k_least : PySem.W.keepIn K (.ref f_least) = true)
    {f_joined : Addr} {od_joined an_joined : Option Addr} {sl_joined : Array (Option Value)} {oc_joined kV_joined dc_joined pm_joined cd_joined ct_joined : Value}
    (a_joined : PySem.W.nsIn K mainGlobals "joined" = some (some (.ref f_joined)))
    (l_joined : K.lookup f_joined = some ⟨oc_joined, od_joined, .func (PySem.W.fnOf "joined" "joined" (defArgs s_joined) (defBody s_joined) (defScope s_joined) .none kV_joined dc_joined pm_joined an_joined cd_joined ct_joined), sl_joined⟩) (c_joined : PySem.W.codeIn K cd_joined "joined" = true) (k_joined : PySem.W.keepIn K (.ref f_joined) = true)
    {f_is_turned : Addr} {od_is_turned an_is_turned : Option Addr} {sl_is_turned : Array (Option Value)} {oc_is_turned kV_is_turned dc_is_turned pm_is_turned cd_is_turned ct_is_turned : Value}
    (a_is_turned : PySem.W.nsIn K mainGlobals "is_turned" = some (some (.ref f_is_turned)))
    (l_is_turned : K.lookup f_is_turned = some ⟨oc_is_turned, od_is_turned, .func (PySem.W.fnOf "is_turned" "is_turned" (defArgs s_is_turned) (defBody s_is_turned) (defScope s_is_turned) .none kV_is_turned dc_is_turned pm_is_turned an_is_turned cd_is_turned ct_is_turned), sl_is_turned⟩) (c_is_turned : PySem.W.codeIn K cd_is_turned "is_turned" = true) (k_is_turned : PySem.W.keepIn K (.ref f_is_turned) = true)
    {f_is_ring_row : Addr} {od_is_ring_row an_is_ring_row : Option Addr} {sl_is_ring_row : Array (Option Value)} {oc_is_ring_row kV_is_ring_row dc_is_ring_row pm_is_ring_row cd_is_ring_row ct_is_ring_row : Value}
    (a_is_ring_row : PySem.W.nsIn K mainGlobals "is_ring_row" = some (some (.ref f_is_ring_row)))
    (l_is_ring_row : K.lookup f_is_ring_row = some ⟨oc_is_ring_row, od_is_ring_row, .func (PySem.W.fnOf "is_ring_row" "is_ring_row" (defArgs s_is_ring_row) (defBody s_is_ring_row) (defScope s_is_ring_row) .none kV_is_ring_row dc_is_ring_row pm_is_ring_row an_is_ring_row cd_is_ring_row ct_is_ring_row), sl_is_ring_row⟩) (c_is_ring_row : PySem.W.codeIn K cd_is_ring_row "is_ring_row" = true) (k_is_ring_row : PySem.W.keepIn K (.ref f_is_ring_row) = true)
    {f_is_kin : Addr} {od_is_kin an_is_kin : Option Addr} {sl_is_kin : Array (Option Value)} {oc_is_kin kV_is_kin dc_is_kin pm_is_kin cd_is_kin ct_is_kin : Value}
    (a_is_kin : PySem.W.nsIn K mainGlobals "is_kin" = some (some (.ref f_is_kin)))
    (l_is_kin : K.lookup f_is_kin = some ⟨oc_is_kin, od_is_kin, .func (PySem.W.fnOf "is_kin" "is_kin" (defArgs s_is_kin) (defBody s_is_kin) (defScope s_is_kin) .none kV_is_kin dc_is_kin pm_is_kin an_is_kin cd_is_kin ct_is_kin), sl_is_kin⟩) (c_is_kin : PySem.W.codeIn K cd_is_kin "is_kin" = true) (k_is_kin : PySem.W.keepIn K (.ref f_is_kin) = true)
    {f_can_stand : Addr} {od_can_stand an_can_stand : Option Addr} {sl_can_stand : Array (Option Value)} {oc_can_stand kV_can_stand dc_can_stand pm_can_stand cd_can_stand ct_can_stand : Value}
    (a_can_stand : PySem.W.nsIn K mainGlobals "can_stand" = some (some (.ref f_can_stand)))
    (l_can_stand : K.lookup f_can_stand = some ⟨oc_can_stand, od_can_stand, .func (PySem.W.fnOf "can_stand" "can_stand" (defArgs s_can_stand) (defBody s_can_stand) (defScope s_can_stand) .none kV_can_stand dc_can_stand pm_can_stand an_can_stand cd_can_stand ct_can_stand), sl_can_stand⟩) (c_can_stand : PySem.W.codeIn K cd_can_stand "can_stand" = true) (k_can_stand : PySem.W.keepIn K (.ref f_can_stand) = true)
    {f_check_rows : Addr} {od_check_rows an_check_rows : Option Addr} {sl_check_rows : Array (Option Value)} {oc_check_rows kV_check_rows dc_check_rows pm_check_rows cd_check_rows ct_check_rows : Value}
    (a_check_rows : PySem.W.nsIn K mainGlobals "check_rows" = some (some (.ref f_check_rows)))
    (l_check_rows : K.lookup f_check_rows = some ⟨oc_check_rows, od_check_rows, .func (PySem.W.fnOf "check_rows" "check_rows" (defArgs s_check_rows) (defBody s_check_rows) (defScope s_check_rows) .none kV_check_rows dc_check_rows pm_check_rows an_check_rows cd_check_rows ct_check_rows), sl_check_rows⟩) (c_check_rows : PySem.W.codeIn K cd_check_rows "check_rows" = true) (k_check_rows : PySem.W.keepIn K (.ref f_check_rows) = true)
    {f_Rules_init : Addr} {od_Rules_init an_Rules_init : Option Addr} {sl_Rules_init : Array (Option Value)} {oc_Rules_init kV_Rules_init dc_Rules_init pm_Rules_init cd_Rules_init ct_Rules_init : Value}
    {T_Rules_init E_Rules_init : Addr} {oT_Rules_init : Value} {pT_Rules_init : Option Addr} {nT_Rules_init : Nat} {sT_Rules_init : Array (Option Value)}
    (a_Rules_init : PySem.W.findIn K (.ref f_Rules) "__init__" = some (some (.ref f_Rules_init))) (i_Rules_init : PySem.W.isFn K (.ref f_Rules_init) = true)
    (l_Rules_init : K.lookup f_Rules_init = some ⟨oc_Rules_init, od_Rules_init, .func (PySem.W.fnOf "__init__" "Rules.__init__" (defArgs s_Rules_init) (defBody s_Rules_init) (defScope s_Rules_init) (.ref T_Rules_init) kV_Rules_init dc_Rules_init pm_Rules_init an_Rules_init cd_Rules_init ct_Rules_init), sl_Rules_init⟩) (c_Rules_init : PySem.W.codeIn K cd_Rules_init "Rules.__init__" = true) (k_Rules_init : PySem.W.keepIn K (.ref f_Rules_init) = true)
    (lt_Rules_init : K.lookup T_Rules_init = some ⟨oT_Rules_init, pT_Rules_init, .seq #[.ref E_Rules_init] nT_Rules_init, sT_Rules_init⟩)
    {pE_Rules_init : Option Addr} {nE_Rules_init : Nat} {sE_Rules_init : Array (Option Value)} (le_Rules_init : K.lookup E_Rules_init = some ⟨.type "tuple", pE_Rules_init, .seq #[] nE_Rules_init, sE_Rules_init⟩)
    {f_Rules_letters : Addr} {od_Rules_letters an_Rules_letters : Option Addr} {sl_Rules_letters : Array (Option Value)} {oc_Rules_letters kV_Rules_letters dc_Rules_letters pm_Rules_letters cd_Rules_letters ct_Rules_letters : Value}
    (a_Rules_letters : PySem.W.findIn K (.ref f_Rules) "letters" = some (some (.ref f_Rules_letters))) (i_Rules_letters : PySem.W.isFn K (.ref f_Rules_letters) = true)
    (l_Rules_letters : K.lookup f_Rules_letters = some ⟨oc_Rules_letters, od_Rules_letters, .func (PySem.W.fnOf "letters" "Rules.letters" (defArgs s_Rules_letters) (defBody s_Rules_letters) (defScope s_Rules_letters) .none kV_Rules_letters dc_Rules_letters pm_Rules_letters an_Rules_letters cd_Rules_letters ct_Rules_letters), sl_Rules_letters⟩) (c_Rules_letters : PySem.W.codeIn K cd_Rules_letters "Rules.letters" = true) (k_Rules_letters : PySem.W.keepIn K (.ref f_Rules_letters) = true)
    {f_Rules_rows : Addr} {od_Rules_rows an_Rules_rows : Option Addr} {sl_Rules_rows : Array (Option Value)} {oc_Rules_rows kV_Rules_rows dc_Rules_rows pm_Rules_rows cd_Rules_rows ct_Rules_rows : Value}
    (a_Rules_rows : PySem.W.findIn K (.ref f_Rules) "rows" = some (some (.ref f_Rules_rows))) (i_Rules_rows : PySem.W.isFn K (.ref f_Rules_rows) = true)
    (l_Rules_rows : K.lookup f_Rules_rows = some ⟨oc_Rules_rows, od_Rules_rows, .func (PySem.W.fnOf "rows" "Rules.rows" (defArgs s_Rules_rows) (defBody s_Rules_rows) (defScope s_Rules_rows) .none kV_Rules_rows dc_Rules_rows pm_Rules_rows an_Rules_rows cd_Rules_rows ct_Rules_rows), sl_Rules_rows⟩) (c_Rules_rows : PySem.W.codeIn K cd_Rules_rows "Rules.rows" = true) (k_Rules_rows : PySem.W.keepIn K (.ref f_Rules_rows) = true)
    {f__law_well : Addr} {od__law_well an__law_well : Option Addr} {sl__law_well : Array (Option Value)} {oc__law_well kV__law_well dc__law_well pm__law_well cd__law_well ct__law_well : Value}
    (a__law_well : PySem.W.nsIn K mainGlobals "_law_well" = some (some (.ref f__law_well)))
    (l__law_well : K.lookup f__law_well = some ⟨oc__law_well, od__law_well, .func (PySem.W.fnOf "_law_well" "_law_well" (defArgs s__law_well) (defBody s__law_well) (defScope s__law_well) .none kV__law_well dc__law_well pm__law_well an__law_well cd__law_well ct__law_well), sl__law_well⟩) (c__law_well : PySem.W.codeIn K cd__law_well "_law_well" = true) (k__law_well : PySem.W.keepIn K (.ref f__law_well) = true)
    {f__law_draw : Addr} {od__law_draw an__law_draw : Option Addr} {sl__law_draw : Array (Option Value)} {oc__law_draw kV__law_draw dc__law_draw pm__law_draw cd__law_draw ct__law_draw : Value}
    (a__law_draw : PySem.W.nsIn K mainGlobals "_law_draw" = some (some (.ref f__law_draw)))
    (l__law_draw : K.lookup f__law_draw = some ⟨oc__law_draw, od__law_draw, .func (PySem.W.fnOf "_law_draw" "_law_draw" (defArgs s__law_draw) (defBody s__law_draw) (defScope s__law_draw) .none kV__law_draw dc__law_draw pm__law_draw an__law_draw cd__law_draw ct__law_draw), sl__law_draw⟩) (c__law_draw : PySem.W.codeIn K cd__law_draw "_law_draw" = true) (k__law_draw : PySem.W.keepIn K (.ref f__law_draw) = true)
    {f__law_alphabet : Addr} {od__law_alphabet an__law_alphabet : Option Addr} {sl__law_alphabet : Array (Option Value)} {oc__law_alphabet kV__law_alphabet dc__law_alphabet pm__law_alphabet cd__law_alphabet ct__law_alphabet : Value}
    (a__law_alphabet : PySem.W.nsIn K mainGlobals "_law_alphabet" = some (some (.ref f__law_alphabet)))
    (l__law_alphabet : K.lookup f__law_alphabet = some ⟨oc__law_alphabet, od__law_alphabet, .func (PySem.W.fnOf "_law_alphabet" "_law_alphabet" (defArgs s__law_alphabet) (defBody s__law_alphabet) (defScope s__law_alphabet) .none kV__law_alphabet dc__law_alphabet pm__law_alphabet an__law_alphabet cd__law_alphabet ct__law_alphabet), sl__law_alphabet⟩) (c__law_alphabet : PySem.W.codeIn K cd__law_alphabet "_law_alphabet" = true) (k__law_alphabet : PySem.W.keepIn K (.ref f__law_alphabet) = true)
    {f__law_other : Addr} {od__law_other an__law_other : Option Addr} {sl__law_other : Array (Option Value)} {oc__law_other kV__law_other dc__law_other pm__law_other cd__law_other ct__law_other : Value}
    (a__law_other : PySem.W.nsIn K mainGlobals "_law_other" = some (some (.ref f__law_other)))
    (l__law_other : K.lookup f__law_other = some ⟨oc__law_other, od__law_other, .func (PySem.W.fnOf "_law_other" "_law_other" (defArgs s__law_other) (defBody s__law_other) (defScope s__law_other) .none kV__law_other dc__law_other pm__law_other an__law_other cd__law_other ct__law_other), sl__law_other⟩) (c__law_other : PySem.W.codeIn K cd__law_other "_law_other" = true) (k__law_other : PySem.W.keepIn K (.ref f__law_other) = true)
    {f__law_back : Addr} {od__law_back an__law_back : Option Addr} {sl__law_back : Array (Option Value)} {oc__law_back kV__law_back dc__law_back pm__law_back cd__law_back ct__law_back : Value}
    (a__law_back : PySem.W.nsIn K mainGlobals "_law_back" = some (some (.ref f__law_back)))
    (l__law_back : K.lookup f__law_back = some ⟨oc__law_back, od__law_back, .func (PySem.W.fnOf "_law_back" "_law_back" (defArgs s__law_back) (defBody s__law_back) (defScope s__law_back) .none kV__law_back dc__law_back pm__law_back an__law_back cd__law_back ct__law_back), sl__law_back⟩) (c__law_back : PySem.W.codeIn K cd__law_back "_law_back" = true) (k__law_back : PySem.W.keepIn K (.ref f__law_back) = true)
    {f__law_figure : Addr} {od__law_figure an__law_figure : Option Addr} {sl__law_figure : Array (Option Value)} {oc__law_figure kV__law_figure dc__law_figure pm__law_figure cd__law_figure ct__law_figure : Value}
    (a__law_figure : PySem.W.nsIn K mainGlobals "_law_figure" = some (some (.ref f__law_figure)))
    (l__law_figure : K.lookup f__law_figure = some ⟨oc__law_figure, od__law_figure, .func (PySem.W.fnOf "_law_figure" "_law_figure" (defArgs s__law_figure) (defBody s__law_figure) (defScope s__law_figure) .none kV__law_figure dc__law_figure pm__law_figure an__law_figure cd__law_figure ct__law_figure), sl__law_figure⟩) (c__law_figure : PySem.W.codeIn K cd__law_figure "_law_figure" = true) (k__law_figure : PySem.W.keepIn K (.ref f__law_figure) = true)
    {f__law_plain_word : Addr} {od__law_plain_word an__law_plain_word : Option Addr} {sl__law_plain_word : Array (Option Value)} {oc__law_plain_word kV__law_plain_word dc__law_plain_word pm__law_plain_word cd__law_plain_word ct__law_plain_word : Value}
    (a__law_plain_word : PySem.W.nsIn K mainGlobals "_law_plain_word" = some (some (.ref f__law_plain_word)))
    (l__law_plain_word : K.lookup f__law_plain_word = some ⟨oc__law_plain_word, od__law_plain_word, .func (PySem.W.fnOf "_law_plain_word" "_law_plain_word" (defArgs s__law_plain_word) (defBody s__law_plain_word) (defScope s__law_plain_word) .none kV__law_plain_word dc__law_plain_word pm__law_plain_word an__law_plain_word cd__law_plain_word ct__law_plain_word), sl__law_plain_word⟩) (c__law_plain_word : PySem.W.codeIn K cd__law_plain_word "_law_plain_word" = true) (k__law_plain_word : PySem.W.keepIn K (.ref f__law_plain_word) = true)
    {f__law_free_word : Addr} {od__law_free_word an__law_free_word : Option Addr} {sl__law_free_word : Array (Option Value)} {oc__law_free_word kV__law_free_word dc__law_free_word pm__law_free_word cd__law_free_word ct__law_free_word : Value}
    (a__law_free_word : PySem.W.nsIn K mainGlobals "_law_free_word" = some (some (.ref f__law_free_word)))
    (l__law_free_word : K.lookup f__law_free_word = some ⟨oc__law_free_word, od__law_free_word, .func (PySem.W.fnOf "_law_free_word" "_law_free_word" (defArgs s__law_free_word) (defBody s__law_free_word) (defScope s__law_free_word) .none kV__law_free_word dc__law_free_word pm__law_free_word an__law_free_word cd__law_free_word ct__law_free_word), sl__law_free_word⟩) (c__law_free_word : PySem.W.codeIn K cd__law_free_word "_law_free_word" = true) (k__law_free_word : PySem.W.keepIn K (.ref f__law_free_word) = true)
    {f__law_along : Addr} {od__law_along an__law_along : Option Addr} {sl__law_along : Array (Option Value)} {oc__law_along kV__law_along dc__law_along pm__law_along cd__law_along ct__law_along : Value}
    (a__law_along : PySem.W.nsIn K mainGlobals "_law_along" = some (some (.ref f__law_along)))
    (l__law_along : K.lookup f__law_along = some ⟨oc__law_along, od__law_along, .func (PySem.W.fnOf "_law_along" "_law_along" (defArgs s__law_along) (defBody s__law_along) (defScope s__law_along) .none kV__law_along dc__law_along pm__law_along an__law_along cd__law_along ct__law_along), sl__law_along⟩) (c__law_along : PySem.W.codeIn K cd__law_along "_law_along" = true) (k__law_along : PySem.W.keepIn K (.ref f__law_along) = true)
    {f__law_ways_right : Addr} {od__law_ways_right an__law_ways_right : Option Addr} {sl__law_ways_right : Array (Option Value)} {oc__law_ways_right kV__law_ways_right dc__law_ways_right pm__law_ways_right cd__law_ways_right ct__law_ways_right : Value}
    (a__law_ways_right : PySem.W.nsIn K mainGlobals "_law_ways_right" = some (some (.ref f__law_ways_right)))
    (l__law_ways_right : K.lookup f__law_ways_right = some ⟨oc__law_ways_right, od__law_ways_right, .func (PySem.W.fnOf "_law_ways_right" "_law_ways_right" (defArgs s__law_ways_right) (defBody s__law_ways_right) (defScope s__law_ways_right) .none kV__law_ways_right dc__law_ways_right pm__law_ways_right an__law_ways_right cd__law_ways_right ct__law_ways_right), sl__law_ways_right⟩) (c__law_ways_right : PySem.W.codeIn K cd__law_ways_right "_law_ways_right" = true) (k__law_ways_right : PySem.W.keepIn K (.ref f__law_ways_right) = true)
    {f__law_right : Addr} {od__law_right an__law_right : Option Addr} {sl__law_right : Array (Option Value)} {oc__law_right kV__law_right dc__law_right pm__law_right cd__law_right ct__law_right : Value}
    (a__law_right : PySem.W.nsIn K mainGlobals "_law_right" = some (some (.ref f__law_right)))
    (l__law_right : K.lookup f__law_right = some ⟨oc__law_right, od__law_right, .func (PySem.W.fnOf "_law_right" "_law_right" (defArgs s__law_right) (defBody s__law_right) (defScope s__law_right) .none kV__law_right dc__law_right pm__law_right an__law_right cd__law_right ct__law_right), sl__law_right⟩) (c__law_right : PySem.W.codeIn K cd__law_right "_law_right" = true) (k__law_right : PySem.W.keepIn K (.ref f__law_right) = true)
    {f_law : Addr} {od_law an_law : Option Addr} {sl_law : Array (Option Value)} {oc_law kV_law dc_law pm_law cd_law ct_law : Value}
    (a_law : PySem.W.nsIn K mainGlobals "law" = some (some (.ref f_law)))
    (l_law : K.lookup f_law = some ⟨oc_law, od_law, .func (PySem.W.fnOf "law" "law" (defArgs s_law) (defBody s_law) (defScope s_law) .none kV_law dc_law pm_law an_law cd_law ct_law), sl_law⟩) (c_law : PySem.W.codeIn K cd_law "law" = true) (k_law : PySem.W.keepIn K (.ref f_law) = true)
    (z_isinstance : PySem.W.nsIn K mainGlobals "isinstance" = some none)
    (z_int : PySem.W.nsIn K mainGlobals "int" = some none)
    (z_bool : PySem.W.nsIn K mainGlobals "bool" = some none)
    (z_str : PySem.W.nsIn K mainGlobals "str" = some none)
    (z_all : PySem.W.nsIn K mainGlobals "all" = some none)
    (z_len : PySem.W.nsIn K mainGlobals "len" = some none)
    (z_zip : PySem.W.nsIn K mainGlobals "zip" = some none)
    (z_sorted : PySem.W.nsIn K mainGlobals "sorted" = some none)
    (z_list : PySem.W.nsIn K mainGlobals "list" = some none)
    (z_tuple : PySem.W.nsIn K mainGlobals "tuple" = some none)
    (z_range : PySem.W.nsIn K mainGlobals "range" = some none)
    (z_enumerate : PySem.W.nsIn K mainGlobals "enumerate" = some none)
    (z_any : PySem.W.nsIn K mainGlobals "any" = some none)
    (z_abs : PySem.W.nsIn K mainGlobals "abs" = some none)
    (z_max : PySem.W.nsIn K mainGlobals "max" = some none)
    (z_min : PySem.W.nsIn K mainGlobals "min" = some none)
    {t_LOW : Tok} (y_LOW : PySem.W.nsIn K mainGlobals "LOW" = some (some (.str k_LOW t_LOW)))
    {t_HIGH : Tok} (y_HIGH : PySem.W.nsIn K mainGlobals "HIGH" = some (some (.str k_HIGH t_HIGH)))
    {t_MOST_LETTERS : Tok} (y_MOST_LETTERS : PySem.W.nsIn K mainGlobals "MOST_LETTERS" = some (some (.int 4 t_MOST_LETTERS)))
    {t_MOST_POINTS : Tok} (y_MOST_POINTS : PySem.W.nsIn K mainGlobals "MOST_POINTS" = some (some (.int 6 t_MOST_POINTS)))
    {t_MOST_SIZE : Tok} (y_MOST_SIZE : PySem.W.nsIn K mainGlobals "MOST_SIZE" = some (some (.int 40 t_MOST_SIZE)))
    {t_MOST_ROWS : Tok} (y_MOST_ROWS : PySem.W.nsIn K mainGlobals "MOST_ROWS" = some (some (.int 6 t_MOST_ROWS)))
    : ∃ fd : FuncData, (∀ (s : Shared) (v : Value), BindsTo s fd ⟨[v], []⟩ [("script", v)]) ∧ ∀ base : Heap, K.In base → base.Ns mainGlobals mg → FnG l.prog w K mg base CX0 8 fa fd ["script"] (sp_law K) := by
  have e := hfa.symm.trans (PySem.W.mg_of X G a_law)
  cases e
  have F_is_whole := fun_mk (st := s_is_whole) l_is_whole c_is_whole k_is_whole
  have F_is_row := fun_mk (st := s_is_row) l_is_row c_is_row k_is_row
  have F_is_row_of := fun_mk (st := s_is_row_of) l_is_row_of c_is_row_of k_is_row_of
  have F_are_letters := fun_mk (st := s_are_letters) l_are_letters c_are_letters k_are_letters
  have F_check_row := fun_mk (st := s_check_row) l_check_row c_check_row k_check_row
  have F_check_row_of := fun_mk (st := s_check_row_of) l_check_row_of c_check_row_of k_check_row_of
  have F_check_letters := fun_mk (st := s_check_letters) l_check_letters c_check_letters k_check_letters
  have F_is_permutation := fun_mk (st := s_is_permutation) l_is_permutation c_is_permutation k_is_permutation
  have F_are_images := fun_mk (st := s_are_images) l_are_images c_are_images k_are_images
  have F_check_images := fun_mk (st := s_check_images) l_check_images c_check_images k_check_images
  have F_steps_by := fun_mk (st := s_steps_by) l_steps_by c_steps_by k_steps_by
  have F_led := fun_mk (st := s_led) l_led c_led k_led
  have F_moves_none := fun_mk (st := s_moves_none) l_moves_none c_moves_none k_moves_none
  have F_holds_for := fun_mk (st := s_holds_for) l_holds_for c_holds_for k_holds_for
  have F_moved := fun_mk (st := s_moved) l_moved c_moved k_moved
  have F_map_holds := fun_mk (st := s_map_holds) l_map_holds c_map_holds k_map_holds
  have F_back_of := fun_mk (st := s_back_of) l_back_of c_back_of k_back_of
  have F_least_of := fun_mk (st := s_least_of) l_least_of c_least_of k_least_of
  have F_back := fun_mk (st := s_back) l_back c_back k_back
  have F_least := fun_mk (st := s_least) l_least c_least k_least
  have F_joined := fun_mk (st := s_joined) l_joined c_joined k_joined
  have F_is_turned := fun_mk (st := s_is_turned) l_is_turned c_is_turned k_is_turned
  have F_is_ring_row := fun_mk (st := s_is_ring_row) l_is_ring_row c_is_ring_row k_is_ring_row
  have F_is_kin := fun_mk (st := s_is_kin) l_is_kin c_is_kin k_is_kin
  have F_can_stand := fun_mk (st := s_can_stand) l_can_stand c_can_stand k_can_stand
  have F_check_rows := fun_mk (st := s_check_rows) l_check_rows c_check_rows k_check_rows
  have F_Rules_init := funD_mk (st := s_Rules_init) l_Rules_init c_Rules_init k_Rules_init lt_Rules_init
  have B_Rules_init := bD_full (F_Rules_init.binds1 (ps := ["self", "letters", "rows"]) 3 1 (by simp) (by rfl) (fun T kV doc pm an cdv ct us its hu hi => match us, its, hu, hi with | [_, _, _], [_], _, _ => ⟨_, rfl, rfl⟩))
  have F_Rules_letters := fun_mk (st := s_Rules_letters) l_Rules_letters c_Rules_letters k_Rules_letters
  have F_Rules_rows := fun_mk (st := s_Rules_rows) l_Rules_rows c_Rules_rows k_Rules_rows
  have F__law_well := fun_mk (st := s__law_well) l__law_well c__law_well k__law_well
  have F__law_draw := fun_mk (st := s__law_draw) l__law_draw c__law_draw k__law_draw
  have F__law_alphabet := fun_mk (st := s__law_alphabet) l__law_alphabet c__law_alphabet k__law_alphabet
  have F__law_other := fun_mk (st := s__law_other) l__law_other c__law_other k__law_other
  have F__law_back := fun_mk (st := s__law_back) l__law_back c__law_back k__law_back
  have F__law_figure := fun_mk (st := s__law_figure) l__law_figure c__law_figure k__law_figure
  have F__law_plain_word := fun_mk (st := s__law_plain_word) l__law_plain_word c__law_plain_word k__law_plain_word
  have F__law_free_word := fun_mk (st := s__law_free_word) l__law_free_word c__law_free_word k__law_free_word
  have F__law_along := fun_mk (st := s__law_along) l__law_along c__law_along k__law_along
  have F__law_ways_right := fun_mk (st := s__law_ways_right) l__law_ways_right c__law_ways_right k__law_ways_right
  have F__law_right := fun_mk (st := s__law_right) l__law_right c__law_right k__law_right
  have F_law := fun_mk (st := s_law) l_law c_law k_law
  let Z : Tx K mg := {
    a_is_whole := f_is_whole, d_is_whole := _, F_is_whole := F_is_whole, b_is_whole := F_is_whole.binds (ps := ["value"]) (fun _ _ _ _ _ _ us hl => match us, hl with | [_], _ => rfl), g_is_whole := PySem.W.mg_of X G a_is_whole,
    a_is_row := f_is_row, d_is_row := _, F_is_row := F_is_row, b_is_row := F_is_row.binds (ps := ["value"]) (fun _ _ _ _ _ _ us hl => match us, hl with | [_], _ => rfl), g_is_row := PySem.W.mg_of X G a_is_row,
    a_is_row_of := f_is_row_of, d_is_row_of := _, F_is_row_of := F_is_row_of, b_is_row_of := F_is_row_of.binds (ps := ["letters", "value"]) (fun _ _ _ _ _ _ us hl => match us, hl with | [_, _], _ => rfl), g_is_row_of := PySem.W.mg_of X G a_is_row_of,
    a_are_letters := f_are_letters, d_are_letters := _, F_are_letters := F_are_letters, b_are_letters := F_are_letters.binds (ps := ["value"]) (fun _ _ _ _ _ _ us hl => match us, hl with | [_], _ => rfl), g_are_letters := PySem.W.mg_of X G a_are_letters,
    a_check_row := f_check_row, d_check_row := _, F_check_row := F_check_row, b_check_row := F_check_row.binds (ps := ["value"]) (fun _ _ _ _ _ _ us hl => match us, hl with | [_], _ => rfl), g_check_row := PySem.W.mg_of X G a_check_row,
    a_check_row_of := f_check_row_of, d_check_row_of := _, F_check_row_of := F_check_row_of, b_check_row_of := F_check_row_of.binds (ps := ["letters", "value"]) (fun _ _ _ _ _ _ us hl => match us, hl with | [_, _], _ => rfl), g_check_row_of := PySem.W.mg_of X G a_check_row_of,
    a_check_letters := f_check_letters, d_check_letters := _, F_check_letters := F_check_letters, b_check_letters := F_check_letters.binds (ps := ["value"]) (fun _ _ _ _ _ _ us hl => match us, hl with | [_], _ => rfl), g_check_letters := PySem.W.mg_of X G a_check_letters,
    a_is_permutation := f_is_permutation, d_is_permutation := _, F_is_permutation := F_is_permutation, b_is_permutation := F_is_permutation.binds (ps := ["value", "points"]) (fun _ _ _ _ _ _ us hl => match us, hl with | [_, _], _ => rfl), g_is_permutation := PySem.W.mg_of X G a_is_permutation,
    a_are_images := f_are_images, d_are_images := _, F_are_images := F_are_images, b_are_images := F_are_images.binds (ps := ["letters", "value"]) (fun _ _ _ _ _ _ us hl => match us, hl with | [_, _], _ => rfl), g_are_images := PySem.W.mg_of X G a_are_images,
    a_check_images := f_check_images, d_check_images := _, F_check_images := F_check_images, b_check_images := F_check_images.binds (ps := ["letters", "value"]) (fun _ _ _ _ _ _ us hl => match us, hl with | [_, _], _ => rfl), g_check_images := PySem.W.mg_of X G a_check_images,
    a_steps_by := f_steps_by, d_steps_by := _, F_steps_by := F_steps_by, b_steps_by := F_steps_by.binds (ps := ["letters", "images"]) (fun _ _ _ _ _ _ us hl => match us, hl with | [_, _], _ => rfl), g_steps_by := PySem.W.mg_of X G a_steps_by,
    a_led := f_led, d_led := _, F_led := F_led, b_led := F_led.binds (ps := ["steps", "row", "point"]) (fun _ _ _ _ _ _ us hl => match us, hl with | [_, _, _], _ => rfl), g_led := PySem.W.mg_of X G a_led,
    a_moves_none := f_moves_none, d_moves_none := _, F_moves_none := F_moves_none, b_moves_none := F_moves_none.binds (ps := ["steps", "row", "points"]) (fun _ _ _ _ _ _ us hl => match us, hl with | [_, _, _], _ => rfl), g_moves_none := PySem.W.mg_of X G a_moves_none,
    a_holds_for := f_holds_for, d_holds_for := _, F_holds_for := F_holds_for, b_holds_for := F_holds_for.binds (ps := ["told", "letters", "images"]) (fun _ _ _ _ _ _ us hl => match us, hl with | [_, _, _], _ => rfl), g_holds_for := PySem.W.mg_of X G a_holds_for,
    a_moved := f_moved, d_moved := _, F_moved := F_moved, b_moved := F_moved.binds (ps := ["letters", "images", "row"]) (fun _ _ _ _ _ _ us hl => match us, hl with | [_, _, _], _ => rfl), g_moved := PySem.W.mg_of X G a_moved,
    a_map_holds := f_map_holds, d_map_holds := _, F_map_holds := F_map_holds, b_map_holds := F_map_holds.binds (ps := ["rules", "images"]) (fun _ _ _ _ _ _ us hl => match us, hl with | [_, _], _ => rfl), g_map_holds := PySem.W.mg_of X G a_map_holds,
    a_back_of := f_back_of, d_back_of := _, F_back_of := F_back_of, b_back_of := F_back_of.binds (ps := ["row"]) (fun _ _ _ _ _ _ us hl => match us, hl with | [_], _ => rfl), g_back_of := PySem.W.mg_of X G a_back_of,
    a_least_of := f_least_of, d_least_of := _, F_least_of := F_least_of, b_least_of := F_least_of.binds (ps := ["row"]) (fun _ _ _ _ _ _ us hl => match us, hl with | [_], _ => rfl), g_least_of := PySem.W.mg_of X G a_least_of,
    a_back := f_back, d_back := _, F_back := F_back, b_back := F_back.binds (ps := ["row"]) (fun _ _ _ _ _ _ us hl => match us, hl with | [_], _ => rfl), g_back := PySem.W.mg_of X G a_back,
    a_least := f_least, d_least := _, F_least := F_least, b_least := F_least.binds (ps := ["row"]) (fun _ _ _ _ _ _ us hl => match us, hl with | [_], _ => rfl), g_least := PySem.W.mg_of X G a_least,
    a_joined := f_joined, d_joined := _, F_joined := F_joined, b_joined := F_joined.binds (ps := ["rows"]) (fun _ _ _ _ _ _ us hl => match us, hl with | [_], _ => rfl), g_joined := PySem.W.mg_of X G a_joined,
    a_is_turned := f_is_turned, d_is_turned := _, F_is_turned := F_is_turned, b_is_turned := F_is_turned.binds (ps := ["one", "two"]) (fun _ _ _ _ _ _ us hl => match us, hl with | [_, _], _ => rfl), g_is_turned := PySem.W.mg_of X G a_is_turned,
    a_is_ring_row := f_is_ring_row, d_is_ring_row := _, F_is_ring_row := F_is_ring_row, b_is_ring_row := F_is_ring_row.binds (ps := ["letters", "value"]) (fun _ _ _ _ _ _ us hl => match us, hl with | [_, _], _ => rfl), g_is_ring_row := PySem.W.mg_of X G a_is_ring_row,
    a_is_kin := f_is_kin, d_is_kin := _, F_is_kin := F_is_kin, b_is_kin := F_is_kin.binds (ps := ["one", "two"]) (fun _ _ _ _ _ _ us hl => match us, hl with | [_, _], _ => rfl), g_is_kin := PySem.W.mg_of X G a_is_kin,
    a_can_stand := f_can_stand, d_can_stand := _, F_can_stand := F_can_stand, b_can_stand := F_can_stand.binds (ps := ["letters", "earlier", "value"]) (fun _ _ _ _ _ _ us hl => match us, hl with | [_, _, _], _ => rfl), g_can_stand := PySem.W.mg_of X G a_can_stand,
    a_check_rows := f_check_rows, d_check_rows := _, F_check_rows := F_check_rows, b_check_rows := F_check_rows.binds (ps := ["letters", "rows"]) (fun _ _ _ _ _ _ us hl => match us, hl with | [_, _], _ => rfl), g_check_rows := PySem.W.mg_of X G a_check_rows,
    a_Rules_init := f_Rules_init, d_Rules_init := _, v_Rules_init := V.ref E_Rules_init, dv_Rules_init := ⟨E_Rules_init, _, _, rfl, le_Rules_init, rfl, rfl⟩, F_Rules_init := F_Rules_init, b_Rules_init := B_Rules_init,
    a_Rules_letters := f_Rules_letters, d_Rules_letters := _, F_Rules_letters := F_Rules_letters, b_Rules_letters := F_Rules_letters.binds (ps := ["self"]) (fun _ _ _ _ _ _ us hl => match us, hl with | [_], _ => rfl),
    a_Rules_rows := f_Rules_rows, d_Rules_rows := _, F_Rules_rows := F_Rules_rows, b_Rules_rows := F_Rules_rows.binds (ps := ["self"]) (fun _ _ _ _ _ _ us hl => match us, hl with | [_], _ => rfl),
    a__law_well := f__law_well, d__law_well := _, F__law_well := F__law_well, b__law_well := F__law_well.binds (ps := ["script", "k"]) (fun _ _ _ _ _ _ us hl => match us, hl with | [_, _], _ => rfl), g__law_well := PySem.W.mg_of X G a__law_well,
    a__law_draw := f__law_draw, d__law_draw := _, F__law_draw := F__law_draw, b__law_draw := F__law_draw.binds (ps := ["well", "many"]) (fun _ _ _ _ _ _ us hl => match us, hl with | [_, _], _ => rfl), g__law_draw := PySem.W.mg_of X G a__law_draw,
    a__law_alphabet := f__law_alphabet, d__law_alphabet := _, F__law_alphabet := F__law_alphabet, b__law_alphabet := F__law_alphabet.binds (ps := ["well", "most"]) (fun _ _ _ _ _ _ us hl => match us, hl with | [_, _], _ => rfl), g__law_alphabet := PySem.W.mg_of X G a__law_alphabet,
    a__law_other := f__law_other, d__law_other := _, F__law_other := F__law_other, b__law_other := F__law_other.binds (ps := ["sign"]) (fun _ _ _ _ _ _ us hl => match us, hl with | [_], _ => rfl), g__law_other := PySem.W.mg_of X G a__law_other,
    a__law_back := f__law_back, d__law_back := _, F__law_back := F__law_back, b__law_back := F__law_back.binds (ps := ["given"]) (fun _ _ _ _ _ _ us hl => match us, hl with | [_], _ => rfl), g__law_back := PySem.W.mg_of X G a__law_back,
    a__law_figure := f__law_figure, d__law_figure := _, F__law_figure := F__law_figure, b__law_figure := F__law_figure.binds (ps := ["well", "many"]) (fun _ _ _ _ _ _ us hl => match us, hl with | [_, _], _ => rfl), g__law_figure := PySem.W.mg_of X G a__law_figure,
    a__law_plain_word := f__law_plain_word, d__law_plain_word := _, F__law_plain_word := F__law_plain_word, b__law_plain_word := F__law_plain_word.binds (ps := ["well", "alphabet", "most"]) (fun _ _ _ _ _ _ us hl => match us, hl with | [_, _, _], _ => rfl), g__law_plain_word := PySem.W.mg_of X G a__law_plain_word,
    a__law_free_word := f__law_free_word, d__law_free_word := _, F__law_free_word := F__law_free_word, b__law_free_word := F__law_free_word.binds (ps := ["well", "alphabet"]) (fun _ _ _ _ _ _ us hl => match us, hl with | [_, _], _ => rfl), g__law_free_word := PySem.W.mg_of X G a__law_free_word,
    a__law_along := f__law_along, d__law_along := _, F__law_along := F__law_along, b__law_along := F__law_along.binds (ps := ["alphabet", "word"]) (fun _ _ _ _ _ _ us hl => match us, hl with | [_, _], _ => rfl), g__law_along := PySem.W.mg_of X G a__law_along,
    a__law_ways_right := f__law_ways_right, d__law_ways_right := _, F__law_ways_right := F__law_ways_right, b__law_ways_right := F__law_ways_right.binds (ps := ["well", "alphabet", "figures"]) (fun _ _ _ _ _ _ us hl => match us, hl with | [_, _, _], _ => rfl), g__law_ways_right := PySem.W.mg_of X G a__law_ways_right,
    a__law_right := f__law_right, d__law_right := _, F__law_right := F__law_right, b__law_right := F__law_right.binds (ps := ["well"]) (fun _ _ _ _ _ _ us hl => match us, hl with | [_], _ => rfl), g__law_right := PySem.W.mg_of X G a__law_right,
    a_law := fa, d_law := _, F_law := F_law, b_law := F_law.binds (ps := ["script"]) (fun _ _ _ _ _ _ us hl => match us, hl with | [_], _ => rfl), g_law := hfa,
    a_Rules := f_Rules, ns_Rules := n_Rules, gc_Rules := PySem.W.mg_of X G n_Rules, cl_Rules := ⟨pg_Rules, hd_Rules, po_Rules, sa_Rules⟩, mk_Rules := ⟨mk_Rules, a_Rules_init, i_Rules_init, kc_Rules⟩,
    na_Rules_alphabet := na_Rules_alphabet,
    na_Rules_told := na_Rules_told,
    me_Rules_letters := ⟨a_Rules_letters, i_Rules_letters, k_Rules_letters⟩,
    me_Rules_rows := ⟨a_Rules_rows, i_Rules_rows, k_Rules_rows⟩,
    n_isinstance := PySem.W.mg_none_of X G z_isinstance,
    n_int := PySem.W.mg_none_of X G z_int,
    n_bool := PySem.W.mg_none_of X G z_bool,
    n_str := PySem.W.mg_none_of X G z_str,
    n_all := PySem.W.mg_none_of X G z_all,
    n_len := PySem.W.mg_none_of X G z_len,
    n_zip := PySem.W.mg_none_of X G z_zip,
    n_sorted := PySem.W.mg_none_of X G z_sorted,
    n_list := PySem.W.mg_none_of X G z_list,
    n_tuple := PySem.W.mg_none_of X G z_tuple,
    n_range := PySem.W.mg_none_of X G z_range,
    n_enumerate := PySem.W.mg_none_of X G z_enumerate,
    n_any := PySem.W.mg_none_of X G z_any,
    n_abs := PySem.W.mg_none_of X G z_abs,
    n_max := PySem.W.mg_none_of X G z_max,
    n_min := PySem.W.mg_none_of X G z_min,
    t_LOW := t_LOW, g_LOW := PySem.W.mg_of X G y_LOW,
    t_HIGH := t_HIGH, g_HIGH := PySem.W.mg_of X G y_HIGH,
    t_MOST_LETTERS := t_MOST_LETTERS, g_MOST_LETTERS := PySem.W.mg_of X G y_MOST_LETTERS,
    t_MOST_POINTS := t_MOST_POINTS, g_MOST_POINTS := PySem.W.mg_of X G y_MOST_POINTS,
    t_MOST_SIZE := t_MOST_SIZE, g_MOST_SIZE := PySem.W.mg_of X G y_MOST_SIZE,
    t_MOST_ROWS := t_MOST_ROWS, g_MOST_ROWS := PySem.W.mg_of X G y_MOST_ROWS }
  exact ⟨Z.d_law, fun s v => by exact .of_eq rfl, fun base _ _ => ok_law Z⟩
end K34
open PySem PySem.W PyProof.Rows
set_option maxRecDepth 100000 in
set_option maxHeartbeats 0 in
theorem PySem.Challenge.cw_sixthrows_k34_whole_free_rows_led_apart_holds : PySem.Challenge.rw_sixthrows_k34_whole_free_rows_led_apart.Holds := by
  w_on; o_law; k_head; (case hw => w_witness2)
  k_fill
  refine NX.walk_ofKG (l := PySem.Challenge.rw_sixthrows_k34_whole_free_rows_led_apart) (n := 63) (k := 8) (x := "script") (CX := L2.CX0) (sp := K34.sp_law) rfl (by decide) rfl ⟨rfl, by decide, by decide⟩ (fun w h Y => PySem.W.kIn_of Y) ?F (fun K _ a ns hl _ hS => ⟨a, ns, rfl, hS, hl, fun _ => rfl⟩) (fun _ _ _ _ h => h)
  case F =>
    intro w mg fa h KX G hmg
    refine' K34.all_mk KX G hmg ?n_Rules ?pg_Rules ?hd_Rules ?po_Rules ?sa_Rules ?mk_Rules ?kc_Rules ?na_Rules_alphabet ?na_Rules_told ?a_is_whole ?l_is_whole ?c_is_whole ?k_is_whole ?a_is_row ?l_is_row ?c_is_row ?k_is_row ?a_is_row_of ?l_is_row_of ?c_is_row_of ?k_is_row_of ?a_are_letters ?l_are_letters ?c_are_letters ?k_are_letters ?a_check_row ?l_check_row ?c_check_row ?k_check_row ?a_check_row_of ?l_check_row_of ?c_check_row_of ?k_check_row_of ?a_check_letters ?l_check_letters ?c_check_letters ?k_check_letters ?a_is_permutation ?l_is_permutation ?c_is_permutation ?k_is_permutation ?a_are_images ?l_are_images ?c_are_images ?k_are_images ?a_check_images ?l_check_images ?c_check_images ?k_check_images ?a_steps_by ?l_steps_by ?c_steps_by ?k_steps_by ?a_led ?l_led ?c_led ?k_led ?a_moves_none ?l_moves_none ?c_moves_none ?k_moves_none ?a_holds_for ?l_holds_for ?c_holds_for ?k_holds_for ?a_moved ?l_moved ?c_moved ?k_moved ?a_map_holds ?l_map_holds ?c_map_holds ?k_map_holds ?a_back_of ?l_back_of ?c_back_of ?k_back_of ?a_least_of ?l_least_of ?c_least_of ?k_least_of ?a_back ?l_back ?c_back ?k_back ?a_least ?l_least ?c_least ?k_least ?a_joined ?l_joined ?c_joined ?k_joined ?a_is_turned ?l_is_turned ?c_is_turned ?k_is_turned ?a_is_ring_row ?l_is_ring_row ?c_is_ring_row ?k_is_ring_row ?a_is_kin ?l_is_kin ?c_is_kin ?k_is_kin ?a_can_stand ?l_can_stand ?c_can_stand ?k_can_stand ?a_check_rows ?l_check_rows ?c_check_rows ?k_check_rows ?a_Rules_init ?i_Rules_init ?l_Rules_init ?c_Rules_init ?k_Rules_init ?lt_Rules_init ?le_Rules_init ?a_Rules_letters ?i_Rules_letters ?l_Rules_letters ?c_Rules_letters ?k_Rules_letters ?a_Rules_rows ?i_Rules_rows ?l_Rules_rows ?c_Rules_rows ?k_Rules_rows ?a__law_well ?l__law_well ?c__law_well ?k__law_well ?a__law_draw ?l__law_draw ?c__law_draw ?k__law_draw ?a__law_alphabet ?l__law_alphabet ?c__law_alphabet ?k__law_alphabet ?a__law_other ?l__law_other ?c__law_other ?k__law_other ?a__law_back ?l__law_back ?c__law_back ?k__law_back ?a__law_figure ?l__law_figure ?c__law_figure ?k__law_figure ?a__law_plain_word ?l__law_plain_word ?c__law_plain_word ?k__law_plain_word ?a__law_free_word ?l__law_free_word ?c__law_free_word ?k__law_free_word ?a__law_along ?l__law_along ?c__law_along ?k__law_along ?a__law_ways_right ?l__law_ways_right ?c__law_ways_right ?k__law_ways_right ?a__law_right ?l__law_right ?c__law_right ?k__law_right ?a_law ?l_law ?c_law ?k_law ?z_isinstance ?z_int ?z_bool ?z_str ?z_all ?z_len ?z_zip ?z_sorted ?z_list ?z_tuple ?z_range ?z_enumerate ?z_any ?z_abs ?z_max ?z_min ?y_LOW ?y_HIGH ?y_MOST_LETTERS ?y_MOST_POINTS ?y_MOST_SIZE ?y_MOST_ROWS
    (case n_Rules => k_is)
    (case pg_Rules => k_is)
    (case hd_Rules => k_is)
    (case po_Rules => k_is)
    (case sa_Rules => k_is)
    (case mk_Rules => k_is)
    (case kc_Rules => k_is)
    (case na_Rules_alphabet => k_is)
    (case na_Rules_told => k_is)
    (case a_is_whole => k_is)
    (case l_is_whole => k_is)
    (case c_is_whole => k_is)
    (case k_is_whole => k_is)
    (case a_is_row => k_is)
    (case l_is_row => k_is)
    (case c_is_row => k_is)
    (case k_is_row => k_is)
    (case a_is_row_of => k_is)
    (case l_is_row_of => k_is)
    (case c_is_row_of => k_is)
    (case k_is_row_of => k_is)
    (case a_are_letters => k_is)
    (case l_are_letters => k_is)
    (case c_are_letters => k_is)
    (case k_are_letters => k_is)
    (case a_check_row => k_is)
    (case l_check_row => k_is)
    (case c_check_row => k_is)
    (case k_check_row => k_is)
    (case a_check_row_of => k_is)
    (case l_check_row_of => k_is)
    (case c_check_row_of => k_is)
    (case k_check_row_of => k_is)
    (case a_check_letters => k_is)
    (case l_check_letters => k_is)
    (case c_check_letters => k_is)
    (case k_check_letters => k_is)
    (case a_is_permutation => k_is)
    (case l_is_permutation => k_is)
    (case c_is_permutation => k_is)
    (case k_is_permutation => k_is)
    (case a_are_images => k_is)
    (case l_are_images => k_is)
    (case c_are_images => k_is)
    (case k_are_images => k_is)
    (case a_check_images => k_is)
    (case l_check_images => k_is)
    (case c_check_images => k_is)
    (case k_check_images => k_is)
    (case a_steps_by => k_is)
    (case l_steps_by => k_is)
    (case c_steps_by => k_is)
    (case k_steps_by => k_is)
    (case a_led => k_is)
    (case l_led => k_is)
    (case c_led => k_is)
    (case k_led => k_is)
    (case a_moves_none => k_is)
    (case l_moves_none => k_is)
    (case c_moves_none => k_is)
    (case k_moves_none => k_is)
    (case a_holds_for => k_is)
    (case l_holds_for => k_is)
    (case c_holds_for => k_is)
    (case k_holds_for => k_is)
    (case a_moved => k_is)
    (case l_moved => k_is)
    (case c_moved => k_is)
    (case k_moved => k_is)
    (case a_map_holds => k_is)
    (case l_map_holds => k_is)
    (case c_map_holds => k_is)
    (case k_map_holds => k_is)
    (case a_back_of => k_is)
    (case l_back_of => k_is)
    (case c_back_of => k_is)
    (case k_back_of => k_is)
    (case a_least_of => k_is)
    (case l_least_of => k_is)
    (case c_least_of => k_is)
    (case k_least_of => k_is)
    (case a_back => k_is)
    (case l_back => k_is)
    (case c_back => k_is)
    (case k_back => k_is)
    (case a_least => k_is)
    (case l_least => k_is)
    (case c_least => k_is)
    (case k_least => k_is)
    (case a_joined => k_is)
    (case l_joined => k_is)
    (case c_joined => k_is)
    (case k_joined => k_is)
    (case a_is_turned => k_is)
    (case l_is_turned => k_is)
    (case c_is_turned => k_is)
    (case k_is_turned => k_is)
    (case a_is_ring_row => k_is)
    (case l_is_ring_row => k_is)
    (case c_is_ring_row => k_is)
    (case k_is_ring_row => k_is)
    (case a_is_kin => k_is)
    (case l_is_kin => k_is)
    (case c_is_kin => k_is)
    (case k_is_kin => k_is)
    (case a_can_stand => k_is)
    (case l_can_stand => k_is)
    (case c_can_stand => k_is)
    (case k_can_stand => k_is)
    (case a_check_rows => k_is)
    (case l_check_rows => k_is)
    (case c_check_rows => k_is)
    (case k_check_rows => k_is)
    (case a_Rules_init => k_is)
    (case i_Rules_init => k_is)
    (case l_Rules_init => k_is)
    (case c_Rules_init => k_is)
    (case k_Rules_init => k_is)
    (case lt_Rules_init => k_is)
    (case le_Rules_init => k_is)
    (case a_Rules_letters => k_is)
    (case i_Rules_letters => k_is)
    (case l_Rules_letters => k_is)
    (case c_Rules_letters => k_is)
    (case k_Rules_letters => k_is)
    (case a_Rules_rows => k_is)
    (case i_Rules_rows => k_is)
    (case l_Rules_rows => k_is)
    (case c_Rules_rows => k_is)
    (case k_Rules_rows => k_is)
    (case a__law_well => k_is)
    (case l__law_well => k_is)
    (case c__law_well => k_is)
    (case k__law_well => k_is)
    (case a__law_draw => k_is)
    (case l__law_draw => k_is)
    (case c__law_draw => k_is)
    (case k__law_draw => k_is)
    (case a__law_alphabet => k_is)
    (case l__law_alphabet => k_is)
    (case c__law_alphabet => k_is)
    (case k__law_alphabet => k_is)
    (case a__law_other => k_is)
    (case l__law_other => k_is)
    (case c__law_other => k_is)
    (case k__law_other => k_is)
    (case a__law_back => k_is)
    (case l__law_back => k_is)
    (case c__law_back => k_is)
    (case k__law_back => k_is)
    (case a__law_figure => k_is)
    (case l__law_figure => k_is)
    (case c__law_figure => k_is)
    (case k__law_figure => k_is)
    (case a__law_plain_word => k_is)
    (case l__law_plain_word => k_is)
    (case c__law_plain_word => k_is)
    (case k__law_plain_word => k_is)
    (case a__law_free_word => k_is)
    (case l__law_free_word => k_is)
    (case c__law_free_word => k_is)
    (case k__law_free_word => k_is)
    (case a__law_along => k_is)
    (case l__law_along => k_is)
    (case c__law_along => k_is)
    (case k__law_along => k_is)
    (case a__law_ways_right => k_is)
    (case l__law_ways_right => k_is)
    (case c__law_ways_right => k_is)
    (case k__law_ways_right => k_is)
    (case a__law_right => k_is)
    (case l__law_right => k_is)
    (case c__law_right => k_is)
    (case k__law_right => k_is)
    (case a_law => k_is)
    (case l_law => k_is)
    (case c_law => k_is)
    (case k_law => k_is)
    (case z_isinstance => k_is)
    (case z_int => k_is)
    (case z_bool => k_is)
    (case z_str => k_is)
    (case z_all => k_is)
    (case z_len => k_is)
    (case z_zip => k_is)
    (case z_sorted => k_is)
    (case z_list => k_is)
    (case z_tuple => k_is)
    (case z_range => k_is)
    (case z_enumerate => k_is)
    (case z_any => k_is)
    (case z_abs => k_is)
    (case z_max => k_is)
    (case z_min => k_is)
    (case y_LOW => k_is)
    (case y_HIGH => k_is)
    (case y_MOST_LETTERS => k_is)
    (case y_MOST_POINTS => k_is)
    (case y_MOST_SIZE => k_is)
    (case y_MOST_ROWS => k_is)
