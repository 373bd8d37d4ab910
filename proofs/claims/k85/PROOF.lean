import PyProof.Rows.All
import Wide.All
import OpenK.AllK
import Wide.FinOn
import HandS.Text
import HandS.TupAny
import HandS.Style
import HandS.StrMore
import HandS.Wide
import HandS.Iter
import HandS.Comp
import HandS.Ends
import HandS.Words
import HandS.WordsList
import PyProof.Rows.StrStep
import PyProof.Rows.StrCase
import PyProof.Rows.RuleB_pow
import PyProof.StrOps2
import HandS.IsInst
import HandS.Flow
import HandS.More
import HandS.RaiseMore
import PyProof.CallFns
import PyProof.StrLawsRepr
import HandS.TryOnly
import PyProof.Rows.StrMeet
import HandS.Zip
import KE.GoesEnum
import KE.GoesMore
import PyProof.ReprRoads
import PyProof.TupleOfSeq
import KE.KIndexOf
import HandS.Replace
import HandS.Conv
import HandS.Defaults
import HandS.ExcInit
import HandS.ExcField
import HandS.ExcIs
import HandS.TryMany
import HandS.WordsExc
import KE.KExcIs
import OpenK.KCls
import HandS.Small
import HandS.FStr
import KE.KIntText
import PyProof.Rows.StrBin
import HandS.Set
import HandS.SetFor
import HandS.Strs
import HandS.SlotsOwn
import HandS.MakeKw
import PyProof.Rows.SortShellAny
import HandS.TupSets
import KE.GoesZip
import HandS.Star
import PyProof.ReprBulk
import PyProof.CollectStr
import PyProof.CollectIter
import KE.KUnpack
import PyProof.StrLawsChain
import PyProof.StrLawsTight
import PyProof.Rows.StrItems
import PyProof.FString5
import HandS.Property
import OpenK.KOps
import HandS.OwnEq
import HandS.NamedTup0
import PyProof.InstNe
import PyProof.NeKinds
import HandS.ReplaceLit
import HandS.ReplaceDef
import HandS.ReplaceList
import KE.KSortKeyAny
import HandS.SortKw
import KE.KSortTupUse
import HandS.Deep
import PyProof.ListStr
import PySem.Challenge.RW_sixthrows_k85_whole_two_desks_by_turns
set_option Elab.async false
set_option linter.all false
set_option maxRecDepth 100000
set_option maxHeartbeats 4000000
set_option maxHeartbeats 1000000
namespace NX
open PySem PySem.Spec PyProof.Rows L2
/-- a text of codes -/
def mkS (l : List Nat) : Str := ⟨l.toArray⟩
theorem mkS_len (l : List Nat) : (mkS l).length = l.length := by show l.toArray.size = _; simp
theorem mkS_inj {a b : List Nat} (h : mkS a = mkS b) : a = b := by
  have := congrArg (fun s : Str => s.cps.toList) h
  exact this
theorem mkS_add (a b : List Nat) : mkS a ++ mkS b = mkS (a ++ b) := by
  apply TL.ext_tl
  rw [TL.tl_append]; rfl
theorem mkS_of (z : Str) : mkS z.cps.toList = z := TL.mk_tl z
abbrev T (l : List Nat) : V := .str (mkS l)
theorem T_dec (a b : List Nat) : decide (T a = T b) = decide (a = b) := by
  by_cases h : a = b
  · subst h; simp
  · have : ¬ T a = T b := fun e => h (mkS_inj (V.str.inj e))
    rw [decide_eq_false h, decide_eq_false this]
/-! ### big powers -/
def CPowW (i j : Int) : Prop := 0 ≤ j ∧ (Builtin.Int.intBits i : Int) * j ≤ 2 ^ 27
theorem cpow_of {i j : Int} {k : Nat} (h0 : 0 ≤ j) (h : i.natAbs < 2 ^ k) (hk : (k : Int) * j ≤ 2 ^ 27) : CPowW i j :=
  ⟨h0, Int.le_trans (Int.mul_le_mul_of_nonneg_right (by exact_mod_cast intBits_le h) h0) hk⟩
section
variable {X : Cx}
theorem op_powW : OpR X (binaryOp .Pow) (rI CPowW fun i j => .int (i ^ j.toNat)) := opI fun _ _ _ _ _ _ _ hc q => pow_int hc.1 hc.2 q
/-! ### text times number -/
def repL (l : List Nat) (n : Nat) : List Nat := (List.replicate n l).flatten
theorem foldl_rep (l : List Nat) : ∀ (n : Nat) (acc : Array Nat), ((List.replicate n l.toArray).foldl (· ++ ·) acc).toList = acc.toList ++ repL l n
  | 0, acc => by simp [repL]
  | n + 1, acc => by
    rw [List.replicate_succ, List.foldl_cons, foldl_rep l n]
    simp [repL, List.replicate_succ]
theorem repL_len (l : List Nat) (n : Nat) : (repL l n).length = n * l.length := by
  unfold repL; simp
theorem repL_one (l : List Nat) : repL l 1 = l := by simp [repL]
def CMulS (l : List Nat) (n : Int) : Prop := n < 2 ^ 62 ∧ -(2 ^ 62) < n ∧ l.length * n.toNat ≤ 16777216
theorem op_mulS : OpR X (binaryOp .Mult) (fun x y H Q => ∃ l n, x = T l ∧ y = .int n ∧ CMulS l n ∧ Q (T (repL l n.toNat)) H) := by
  intro pins s σ H x y v u Q I rx ry h
  obtain ⟨l, n, rfl, rfl, ⟨h1, h2, h3⟩, q⟩ := h
  obtain ⟨t, rfl⟩ := rx
  obtain ⟨t', rfl⟩ := ry
  refine PySem.P.mul_str ?_ (fun hn _ => ?_) (fun hn _ => ?_) ?_
  · have a : ¬ n < -(2 ^ 63 : Int) := by omega
    have b : ¬ n ≥ 2 ^ 63 := by omega
    rw [decide_eq_false a, decide_eq_false b]; rfl
  · rw [mkS_len]
    have hn1 : 1 ≤ n := by omega
    obtain ⟨k, rfl⟩ : ∃ k : Nat, n = k := ⟨n.toNat, by omega⟩
    have h4 : l.length * k ≤ 16777216 := by simpa using h3
    intro hc
    have h5 : ((2 ^ 63 - 1 : Int)) / k < l.length := by omega
    have h6 := Int.lt_mul_of_ediv_lt (by omega : (0:Int) < k) h5
    have h7 : ((k : Int) * l.length) = ((l.length * k : Nat) : Int) := by rw [Nat.mul_comm]; simp
    have h8 : ((l.length : Int) * k) = ((l.length * k : Nat) : Int) := by simp
    omega
  · rw [mkS_len]; exact short24 h3
  · by_cases c1 : n < 1
    · rw [if_pos c1]
      refine ⟨by decide, .str _, H, I.tok _, ⟨_, rfl⟩, ?_⟩
      have : n.toNat = 0 := by omega
      rw [this] at q
      exact q
    · rw [if_neg c1]
      by_cases c2 : (n == 1 || (mkS l).length == 0) = true
      · rw [if_pos c2]
        refine ⟨T l, H, I, ⟨_, rfl⟩, ?_⟩
        have e : repL l n.toNat = l := by
          rw [mkS_len] at c2
          rcases Bool.or_eq_true _ _ ▸ c2 with c | c
          · have : n = 1 := by simpa using c
            subst this; exact repL_one l
          · have : l = [] := by simpa using c
            subst this; simp [repL]
        rw [e] at q
        exact q
      · rw [if_neg c2]
        have e : (⟨(List.replicate n.toNat (mkS l).cps).foldl (· ++ ·) #[]⟩ : Str) = mkS (repL l n.toNat) := by
          apply TL.ext_tl
          show ((List.replicate n.toNat l.toArray).foldl (· ++ ·) #[]).toList = _
          rw [foldl_rep]; rfl
        rw [e]
        refine ⟨?_, T _, H, I.tok _, ⟨_, rfl⟩, q⟩
        rw [mkS_len, repL_len, sizeLine_eq, Nat.mul_comm]; exact h3
/-! ### swapcase, upper, lower, islower of plain texts -/
def swp (c : Nat) : Nat := if 65 ≤ c ∧ c ≤ 90 then c + 32 else if 97 ≤ c ∧ c ≤ 122 then c - 32 else c
def Asc (l : List Nat) : Prop := ∀ c ∈ l, c < 128
theorem lowerAt_ascii {x : Str} {i c : Nat} (hc : x.cps[i]? = some c) (h : c < 128) : Unicode.lowerAt x.cps i = [lo1 c] := by
  unfold Unicode.lowerAt
  rw [hc]
  have hne : (c == 0x3A3) = false := by rw [beq_eq_false_iff_ne]; omega
  simp only [hne, Bool.false_and, Bool.false_eq_true, if_false]
  exact lowerOf_ascii c h
theorem isU_ascii : ∀ c, c < 128 → Unicode.isUpper c = decide (65 ≤ c ∧ c ≤ 90) := by decide +kernel
theorem isL_ascii : ∀ c, c < 128 → Unicode.isLower c = decide (97 ≤ c ∧ c ≤ 122) := by decide +kernel
theorem isT_ascii : ∀ c, c < 128 → Unicode.isTitle c = false := by decide +kernel
theorem swap_ascii {l : List Nat} (h : Asc l) : Txt.swapcase (mkS l) = mkS (l.map swp) := by
  unfold Txt.swapcase
  rw [placed_single (mkS l) _ swp fun i c hc => by
    have hc' : (mkS l).cps[i]? = some c := by simpa using hc
    have hlt := h c (List.mem_of_getElem? hc)
    rw [isU_ascii c hlt, isL_ascii c hlt, lowerAt_ascii hc' hlt, upperOf_ascii c hlt]
    unfold swp lo1 up1
    by_cases h1 : 65 ≤ c ∧ c ≤ 90
    · simp [h1]
    · by_cases h2 : 97 ≤ c ∧ c ≤ 122
      · simp [h1, h2]
      · simp [h1, h2]]
  simp [mkS]
theorem up_ascii {l : List Nat} (h : Asc l) : Txt.upper (mkS l) = mkS (l.map up1) := by
  rw [upper_ascii (x := mkS l) h]; simp [mkS]
theorem low_ascii {l : List Nat} (h : Asc l) : Txt.lower (mkS l) = mkS (l.map lo1) := by
  rw [lower_ascii (x := mkS l) h]; simp [mkS]
def isLo (c : Nat) : Bool := decide (97 ≤ c ∧ c ≤ 122)
theorem islow_one {c : Nat} (h : c < 128) : Txt.islower (mkS [c]) = isLo c := by
  unfold Txt.islower
  show (#[c].any Unicode.isLower && !#[c].any fun c => Unicode.isUpper c || Unicode.isTitle c) = _
  have e1 : #[c].any Unicode.isLower = Unicode.isLower c := by simp
  have e2 : (#[c].any fun c => Unicode.isUpper c || Unicode.isTitle c) = (Unicode.isUpper c || Unicode.isTitle c) := by simp
  rw [e1, e2, isL_ascii c h, isU_ascii c h, isT_ascii c h]
  unfold isLo
  by_cases h2 : 97 ≤ c ∧ c ≤ 122
  · have h1 : ¬ (65 ≤ c ∧ c ≤ 90) := by omega
    simp [h1, h2]
  · simp [h2]
abbrev rMap (f : Nat → Nat) : V → List V → Hp → VK → Prop := fun x xs H Q => ∃ l, x = T l ∧ xs = [] ∧ (Asc l ∧ l.length ≤ 5000000) ∧ Q (T (l.map f)) H
theorem mt_swapL : MtR X "str.swapcase" (rMap swp) := by
  intro pins s σ H x xs v us Q I rx rs h
  obtain ⟨l, rfl, rfl, ⟨ha, hl⟩, q⟩ := h
  obtain ⟨t, rfl⟩ := rx
  cases rs
  have e := swap_ascii ha
  refine PySem.SC.swapcase ?_ ⟨.str _, H, I.tok _, ⟨_, rfl⟩, by rw [e]; exact q⟩
  rw [e, mkS_len, List.length_map]
  exact short24 (by omega)
theorem mt_upL : MtR X "str.upper" (rMap up1) := by
  intro pins s σ H x xs v us Q I rx rs h
  obtain ⟨l, rfl, rfl, ⟨ha, hl⟩, q⟩ := h
  refine mt_upper pins s σ H _ _ v us Q I rx rs ⟨mkS l, rfl, rfl, by rw [mkS_len]; omega, ?_⟩
  rw [up_ascii ha]; exact q
theorem mt_lowL : MtR X "str.lower" (rMap lo1) := by
  intro pins s σ H x xs v us Q I rx rs h
  obtain ⟨l, rfl, rfl, ⟨ha, hl⟩, q⟩ := h
  refine mt_lower pins s σ H _ _ v us Q I rx rs ⟨mkS l, rfl, rfl, by rw [mkS_len]; omega, ?_⟩
  rw [low_ascii ha]; exact q
theorem mt_islowL : MtR X "str.islower" (fun x xs H Q => ∃ c, x = T [c] ∧ xs = [] ∧ c < 128 ∧ Q (.bl (isLo c)) H) := by
  intro pins s σ H x xs v us Q I rx rs h
  obtain ⟨c, rfl, rfl, hc, q⟩ := h
  refine mt_islower pins s σ H _ _ v us Q I rx rs ⟨mkS [c], rfl, rfl, trivial, ?_⟩
  rw [islow_one hc]; exact q
/-! ### the operators, whatever they are between -/
def rAddG (K : PySem.W.Frag) : R2 := fun x y H Q => match x, y with
  | .int i, .int j => Q (.int (i + j)) H
  | .str a, .str b => a.length + b.length ≤ sizeLine ∧ Q (.str (a ++ b)) H
  | .ref l, .ref b => (∃ xs zs, H l = some (.lst xs) ∧ H b = some (.lst zs) ∧ xs.length + zs.length ≤ sizeLine ∧ ∀ p, H p = none → Q (.ref p) (upd H p (.lst (xs ++ zs)))) ∨ rCatA K (.ref l) (.ref b) H Q
  | _, _ => False
theorem op_addG : OpR X (binaryOp .Add) (rAddG X.K) := by
  intro pins s σ H x y v u Q I rx ry h
  cases x <;> cases y <;> try exact (show False from h).elim
  · exact op_add pins s σ H _ _ v u Q I rx ry ⟨_, _, rfl, rfl, h⟩
  · rename_i a b
    obtain ⟨t, rfl⟩ := rx
    obtain ⟨t', rfl⟩ := ry
    exact op_add_str pins s σ H (.str a) (.str b) _ _ Q I ⟨t, rfl⟩ ⟨t', rfl⟩ ⟨a, b, rfl, rfl, h.1, h.2⟩
  · rename_i l b
    rcases h with ⟨xs, zs, h1, h2, h3, h4⟩ | h
    · exact op_cat pins s σ H _ _ v u Q I rx ry ⟨l, b, xs, zs, rfl, rfl, h1, h2, h3, h4⟩
    · exact op_catA pins s σ H _ _ v u Q I rx ry h
def rMulG : R2 := fun x y H Q => match x, y with
  | .int i, .int j => CMul i j ∧ Q (.int (i * j)) H
  | .str a, .int n => CMulS a.cps.toList n ∧ Q (T (repL a.cps.toList n.toNat)) H
  | .ref l, .int k => ∃ xs, H l = some (.lst xs) ∧ (-(2 ^ 62) < k ∧ k < 2 ^ 62) ∧ xs.length * k.toNat ≤ sizeLine ∧ ∀ p, H p = none → Q (.ref p) (upd H p (.lst (List.replicate k.toNat xs).flatten))
  | _, _ => False
theorem op_mulG : OpR X (binaryOp .Mult) rMulG := by
  intro pins s σ H x y v u Q I rx ry h
  cases x <;> cases y <;> try exact (show False from h).elim
  · exact op_mul pins s σ H _ _ v u Q I rx ry ⟨_, _, rfl, rfl, h.1, h.2⟩
  · rename_i a n
    refine op_mulS pins s σ H _ _ v u Q I rx ry ⟨a.cps.toList, n, ?_, rfl, h.1, h.2⟩
    rw [T, mkS_of]
  · rename_i l k
    obtain ⟨xs, h1, ⟨h2, h3⟩, h4, h5⟩ := h
    exact op_rep pins s σ H _ _ v u Q I rx ry ⟨l, k, xs, rfl, rfl, h1, by omega, by omega, h4, h5⟩
/-! ### slices -/
def cutL (l : List Nat) (lo hi : Option Int) : List Nat := (l.drop (HT.sIx l.length 0 lo)).take (HT.sIx l.length l.length hi - HT.sIx l.length 0 lo)
theorem cutS_mk (l : List Nat) (lo hi : Option Int) : cutS (mkS l) lo hi = mkS (cutL l lo hi) := by
  unfold cutS cutL
  rw [mkS_len]; rfl
def rSlG (K : PySem.W.Frag) : V → Option Int → Option Int → Hp → VK → Prop := fun x lo hi H Q => rSlS x lo hi H Q ∨ (rSlL K x lo hi H Q ∨ rSlA K x lo hi H Q)
theorem sl_G : SlR X (rSlG X.K) := SlR.or sl_str (SlR.or sl_list sl_tupA)
/-! ### x[::-1] of a text -/
def RevB (K : PySem.W.Frag) (Q : VK) (x : V) (H1 : Hp) : Prop := (∃ l, x = T l ∧ l.length ≤ 16777216 ∧ Q (T l.reverse) H1) ∨ (∃ a xs, x = .ref a ∧ SqL K H1 a xs ∧ ∀ p, H1 p = none → Q (.ref p) (upd H1 p (.lst xs.reverse)))
def tRevS (K : PySem.W.Frag) (te : TE) : TE := fun σ H Q => te σ H (RevB K Q)
theorem fm_congr {α β : Type} {f g : α → Option β} : ∀ {l : List α}, (∀ a ∈ l, f a = g a) → l.filterMap g = l.filterMap f
  | [], _ => rfl
  | a :: r, h => by
    have h1 := h a List.mem_cons_self
    have h2 := fm_congr (l := r) fun b hb => h b (List.mem_cons_of_mem _ hb)
    simp only [List.filterMap_cons, h1, h2]
theorem rev_pick : ∀ l : List Nat, ((List.range l.length).map fun k => l.length - 1 - k).filterMap (l[·]?) = l.reverse
  | [] => rfl
  | a :: r => by
    rw [List.length_cons, List.range_succ, List.map_append, List.filterMap_append, List.reverse_cons]
    have ih := rev_pick r
    congr 1
    · rw [← ih, ← fm_congr (f := fun k => r[k]?) (g := fun k => (a :: r)[k + 1]?) fun k _ => by simp]
      have e : (List.range r.length).map (fun k => r.length + 1 - 1 - k) = ((List.range r.length).map fun k => r.length - 1 - k).map (· + 1) := by
        rw [List.map_map]
        refine List.map_congr_left fun k hk => ?_
        have := List.mem_range.mp hk
        show r.length + 1 - 1 - k = r.length - 1 - k + 1
        omega
      rw [e, List.filterMap_map]
      rfl
    · simp
theorem rev_range (n : Nat) : sliceRange ((n : Int) - 1) (-1) (-1) = (List.range n).map fun k => n - 1 - k := by
  unfold sliceRange
  have h1 : ¬ ((-1 : Int) > 0) := by decide
  simp only [if_neg h1]
  by_cases hn : n = 0
  · subst hn; simp
  · have h2 : ((n : Int) - 1 > -1) := by omega
    rw [if_pos h2]
    have e : (((n : Int) - 1 - -1 - -1 - 1) / - -1).toNat = n := by
      have : ((n : Int) - 1 - -1 - -1 - 1) / - -1 = (n : Int) := by
        rw [show (- -1 : Int) = 1 from rfl, Int.ediv_one]; omega
      rw [this]; simp
    rw [e]
    refine List.map_congr_left fun k hk => ?_
    have := List.mem_range.mp hk
    omega
theorem rev_sliced (l : List Nat) (t : Tok) : Txt.sliceBy (mkS l) none none (-1, t) = mkS l.reverse := by
  have e : slicePicked (mkS l) none none (some (-1, t)) = (List.range l.length).map fun k => l.length - 1 - k := by
    show Builtin.Str.strSliceIndices none none (-1) (mkS l).length = _
    rw [mkS_len]
    show sliceRange ((l.length : Int) - 1) (-1) (-1) = _
    rw [rev_range]
  unfold Txt.sliceBy
  rw [e]
  rw [if_neg (by simp)]
  apply TL.ext_tl
  show (((List.range l.length).map fun k => l.length - 1 - k).filterMap (l.toArray[·]?)) = l.reverse
  rw [← rev_pick l]
  simp
theorem pe_revG {e : Expr} {te : TE} {k : Nat} {p1 p2 p3 pos : Pos} (he : PE X e te) : PE X (.Subscript e (.Slice none none (some (.UnaryOp .USub (.Constant (.int 1) k p1) p2)) p3) pos) (tRevS X.K te) := by
  refine ⟨fun pins s σ H Q I h => ?_⟩
  refine Subscript_ (thn (he.run pins s σ H _ I h) fun v s1 ⟨x, H1, I1, r1, q1⟩ => ?_)
  have hst : PO X (some (.UnaryOp .USub (.Constant (.int 1) k p1) p2)) (tPart (tUn (rU fun i => .int (-i)) (tC (.int 1)))) := po_some (pe_un un_neg pe_int)
  refine wpAny_Slice (thn (po_none.run pins s1 σ H1 (fun o H2 => o = none ∧ H2 = H1) I1 ⟨rfl, rfl⟩) fun vl s2 ⟨l, H2, I2, pl, el, e2⟩ => ?_)
  subst el e2
  refine thn (po_none.run pins s2 σ H2 (fun o H3 => o = none ∧ H3 = H2) I2 ⟨rfl, rfl⟩) fun vu s3 ⟨u, H3, I3, pu, eu, e3⟩ => ?_
  subst eu e3
  refine thn (hst.run pins s3 σ H3 (fun o H4 => o = some (-1) ∧ H4 = H3) I3 ⟨1, rfl, -1, rfl, rfl, rfl⟩) fun vs s4 ⟨o, H4, I4, ps, eo, e4⟩ => ?_
  subst eo e4
  have I5 : Inv X pins σ H4 { s4 with heap := s4.heap.push { cls := .type "slice", data := .fields #[vl, vu, vs] } } := I4.kept (t' := s4.toks) fun b ob q => Heap.get?_push_of_some _ q
  rcases q1 with ⟨l, rfl, hl, q⟩ | ⟨a, xs, ex, hx, q⟩
  · obtain ⟨t, rfl⟩ := r1
    cases pl
    cases pu
    cases ps with
    | int i uk =>
      show wpAny (model X.prog X.w) X.A (subscriptTail e (.Slice none none (some (.UnaryOp .USub (.Constant (.int 1) k p1) p2)) p3) (.str (mkS l) t) (.ref s4.heap.objs.size)) (EP X pins σ Q) X.xe { s4 with heap := s4.heap.push { cls := .type "slice", data := .fields #[.none, .none, .int (-1) uk] } }
      refine tail_any (ops := [.ref s4.heap.objs.size, .str (mkS l) t]) (typeIs_str _ _ _) (PySem.F.slot_str_getitem.lookup) ?_ (by with_unfolding_all rfl)
      refine wpAny_getItem_str_slice (l := none) (u := none) (st := some (-1, uk)) ⟨_, Heap.get?_push_size _ rfl, rfl, rfl⟩ (by rfl) ?_
      have er := rev_sliced l uk
      refine post_val_or_str ⟨?_, fun t' k => ?_⟩
      · show (Txt.sliceBy (mkS l) none none (-1, uk)).length ≤ sizeLine
        rw [er, mkS_len, List.length_reverse, sizeLine_eq]; exact hl
      · show EP X pins σ Q (.str (Txt.sliceBy (mkS l) none none (-1, uk)) t') _
        rw [er]
        exact ⟨T l.reverse, H4, I5.tok _, ⟨_, rfl⟩, q⟩
  · subst ex
    cases r1
    obtain ⟨its, r, ht, hz⟩ := I5.list hx
    have hlen := r.length
    show wpAny (model X.prog X.w) X.A (subscriptTail e (.Slice none none (some (.UnaryOp .USub (.Constant (.int 1) k p1) p2)) p3) (.ref a) (.ref s4.heap.objs.size)) (EP X pins σ Q) X.xe { s4 with heap := s4.heap.push { cls := .type "slice", data := .fields #[vl, vu, vs] } }
    refine tail_any (ops := [.ref a, .ref s4.heap.objs.size]) ht.isList.typeIs (PySem.slot_list_getitem.lookup) ?_ (by with_unfolding_all rfl)
    refine wpAny_getItem_list_slice ht.isList (Heap.IsSliceOf.new _ vl vu vs) pl pu ps (by decide) ?_ (by rw [List.size_toArray]; omega)
    rw [PySem.W.krv_pick]
    refine ⟨.ref _, _, I5.laid (t' := s4.toks) (o := .lst xs.reverse) (fun b ob q => Heap.get?_push_of_some _ q) (Nat.le_refl _) ?_, rfl, q _ (I5.hok.fresh (Nat.le_refl _))⟩
    exact ⟨by rw [List.length_reverse]; exact hz, _, 0, r.reverse, Heap.get?_push_size _ rfl⟩
end
end NX
set_option maxHeartbeats 1000000
namespace NX
open PySem PySem.Spec PyProof.Rows L2
section
variable {X : Cx}
theorem hu_of64 {A : Around} {k : Nat} (hr : Room k A) : A.units + 64 < cLine := hr.units
theorem pe_strL {x : Str} {l : List Nat} {j : Nat} {pos : Pos} (h : x = mkS l) : PE X (.Constant (.str x) j pos) (tC (T l)) := by
  subst h; exact pe_str
/-! ### == of whatever -/
def rEqG (K : PySem.W.Frag) : R2 := fun x y H Q => (scal x y = true ∧ Q (.bl (decide (x = y))) H) ∨ rEqD K x y H Q
def rNeG (K : PySem.W.Frag) : R2 := fun x y H Q => (scal x y = true ∧ Q (.bl (!decide (x = y))) H) ∨ rNeD K x y H Q
theorem op_eqG (hu : X.A.units + 64 < cLine) : OpR X (compareOp .Eq) (rEqG X.K) := by
  intro pins s σ H x y v u Q I rx ry h
  rcases h with h | h
  · exact op_eq pins s σ H x y v u Q I rx ry h
  · exact op_eqD hu pins s σ H x y v u Q I rx ry h
theorem op_neG (hu : X.A.units + 64 < cLine) : OpR X (compareOp .NotEq) (rNeG X.K) := by
  intro pins s σ H x y v u Q I rx ry h
  rcases h with h | h
  · exact op_ne pins s σ H x y v u Q I rx ry h
  · exact op_neD hu pins s σ H x y v u Q I rx ry h
/-! ### in -/
def subS (j i : Str) : Bool := !(Builtin.Str.occurrences j i 0 j.length 1).isEmpty
def rInG (K : PySem.W.Frag) : R2 := fun x y H Q => (∃ i j, x = .str i ∧ y = .str j ∧ Q (.bl (subS j i)) H) ∨ rIn K false x y H Q
def rNotInG (K : PySem.W.Frag) : R2 := fun x y H Q => (∃ i j, x = .str i ∧ y = .str j ∧ Q (.bl (!(subS j i))) H) ∨ rIn K true x y H Q
theorem op_inG : OpR X (compareOp .In) (rInG X.K) := by
  intro pins s σ H x y v u Q I rx ry h
  rcases h with h | h
  · exact op_in_str pins s σ H x y v u Q I rx ry h
  · exact op_in_seq pins s σ H x y v u Q I rx ry h
theorem op_notInG : OpR X (compareOp .NotIn) (rNotInG X.K) := by
  intro pins s σ H x y v u Q I rx ry h
  rcases h with h | h
  · exact op_notin_str pins s σ H x y v u Q I rx ry h
  · exact op_notIn_seq pins s σ H x y v u Q I rx ry h
theorem subS_one (l : List Nat) (c : Nat) : subS (mkS l) (mkS [c]) = decide (c ∈ l) := PySem.StrLaws.found_one (mkS l) c
/-! ### calls of the built-in -/
theorem call_lenG : CallR X (.builtin "len") (fun xs H Q => ∃ x n, xs = [x] ∧ LenV X.K x H n ∧ Q (.int n) H) := call_len
def rInt1 : List V → Hp → VK → Prop := fun xs H Q => (∃ i, xs = [.int i] ∧ Q (.int i) H) ∨ ∃ k, xs = [.bl k] ∧ Q (.int (if k then 1 else 0)) H
def rIntG : List V → Hp → VK → Prop := fun xs H Q => rInt1 xs H Q ∨ (∃ a n, xs = [.str a] ∧ PySem.intText? a = some n ∧ a.length ≤ 640 ∧ Q (.int n) H)
theorem call_intG : CallR X (.type "int") rIntG := by
  intro pins s σ H xs us Q I r h
  rcases h with h | h
  · exact call_int1 pins s σ H xs us Q I r h
  · exact call_int_str pins s σ H xs us Q I r h
/-! ### what is walked -/
def iG (K : PySem.W.Frag) (tl : TE) : TI := fun σ H R => tl σ H fun x H1 => (∃ a, x = .ref a ∧ (∃ xs, SqL K H1 a xs) ∧ R (Itl K a) H1) ∨ (∃ a, x = .ref a ∧ (∃ xs, SqT K H1 a xs) ∧ R (Itt K a) H1) ∨ (∃ z, x = .str z ∧ R (Its z) H1)
theorem pi_G {tg l : Expr} {tl : TE} (hl : PE X l tl) : PI X tg l (iG X.K tl) := by
  refine ⟨fun pins s σ H R I h => ?_⟩
  refine thn (hl.run pins s σ H _ I h) fun v s1 ⟨x, H1, I1, r1, q1⟩ => ?_
  rcases q1 with ⟨a, e, ⟨xs, hq⟩, q⟩ | ⟨a, e, ⟨xs, hq⟩, q⟩ | ⟨z, e, q⟩
  · subst e
    cases r1
    obtain ⟨its, rv, p, hz⟩ := I1.list hq
    refine wpAny_pyIter_list p.isList ?_
    refine ⟨s1.heap.objs.size, [s1.heap.objs.size], _, _, H1, rfl, I1.kept (t' := s1.toks) fun b o e => Heap.get?_push_of_some _ e, turn_list a _, ⟨_, Heap.get?_push_size _ rfl, rfl, rfl⟩, fun b hb => ?_, q⟩
    have e : b = s1.heap.objs.size := by simpa using hb
    subst e
    exact I1.fpOk (Nat.le_refl _) (I1.hok.fresh (Nat.le_refl _))
  · subst e
    cases r1
    obtain ⟨its, rv, p, hz⟩ := I1.tuple hq
    refine wpAny_pyIter_tuple (show s1.heap.IsTuple a its.toArray from p) ?_
    refine ⟨s1.heap.objs.size, [s1.heap.objs.size], _, _, H1, rfl, I1.kept (t' := s1.toks) fun b o e => Heap.get?_push_of_some _ e, turn_tuple a _, ⟨_, Heap.get?_push_size _ rfl, rfl, rfl⟩, fun b hb => ?_, q⟩
    have e : b = s1.heap.objs.size := by simpa using hb
    subst e
    exact I1.fpOk (Nat.le_refl _) (I1.hok.fresh (Nat.le_refl _))
  · subst e
    obtain ⟨t, rfl⟩ := r1
    cases ha : z.cps.all (· < 128)
    · exact wpAny_pyIter_wide ha (pi_one (tk := s1.toks) I1 _ (turn_str _ z t "str_iterator" (.inr rfl)) ⟨_, Heap.get?_push_size _ rfl, rfl, rfl⟩ q)
    · exact wpAny_pyIter_ascii ha (pi_one (tk := s1.toks) I1 _ (turn_str _ z t "str_ascii_iterator" (.inl rfl)) ⟨_, Heap.get?_push_size _ rfl, rfl, rfl⟩ q)
/-! ### f(k = v, ..) -/
variable {CX : CXT} {k : Nat} {f : Addr} {fd : FuncData} {ps ks : List Str} {sp : Sp} {E : XK} {x : Str} {p pos : Pos} {kws : List Keyword} {tk : TA} {g : List Value → List Value → List Value} {gV : List V → List V → List V}
end
end NX
set_option maxHeartbeats 1000000
namespace NX
open PySem PySem.Spec PyProof.Rows L2
/-! ### heaps: all but one object are kept -/
def Kp (a : Addr) (H H' : Hp) : Prop := ∀ b o, b ≠ a → H b = some o → H' b = some o
theorem Kp.refl (a : Addr) (H : Hp) : Kp a H H := fun _ _ _ h => h
theorem Kp.trans {a : Addr} {H H1 H2 : Hp} (x : Kp a H H1) (y : Kp a H1 H2) : Kp a H H2 := fun b o n h => y b o n (x b o n h)
theorem Kp.of {a : Addr} {H H' : Hp} (s : Same H H') : Kp a H H' := fun b o _ h => s b o h
theorem Kp.new {a p : Addr} {H H' : Hp} {o : HO} (x : Kp a H H') (n : H' p = none) : Kp a H (upd H' p o) := fun b u nb h => by
  rw [upd_ne (ne_of_none (x b u nb h) n)]; exact x b u nb h
theorem Kp.put {a : Addr} {H H' : Hp} {o : HO} (x : Kp a H H') : Kp a H (upd H' a o) := fun b u nb h => by
  rw [upd_ne nb]; exact x b u nb h
/-- a change of what was not there at the beginning -/
theorem Kp.mut {a p : Addr} {H H' : Hp} {o : HO} (x : Kp a H H') (n : H p = none) : Kp a H (upd H' p o) := fun b u nb h => by
  rw [upd_ne (ne_of_none h n)]; exact x b u nb h
theorem Kp.free {a b : Addr} {H H' : Hp} (x : Kp a H H') (nb : b ≠ a) (n : H' b = none) : H b = none := by
  cases h : H b with
  | none => rfl
  | some o => rw [x b o nb h] at n; cases n
theorem _root_.L2.Same.new {p : Addr} {H H' : Hp} {o : HO} (x : Same H H') (n : H' p = none) : Same H (upd H' p o) := fun b u h => by
  rw [upd_ne (ne_of_none (x b u h) n)]; exact x b u h
theorem _root_.L2.Same.mut {p : Addr} {H H' : Hp} {o : HO} (x : Same H H') (n : H p = none) : Same H (upd H' p o) := fun b u h => by
  rw [upd_ne (ne_of_none h n)]; exact x b u h
theorem _root_.L2.Same.new1 {p : Addr} {H : Hp} {o : HO} (n : H p = none) : Same H (upd H p o) := Same.new (Same.refl H) n
/-! ### readings, a step each -/
section
variable {K : PySem.W.Frag} {σ : L2.St} {H : Hp} {Q : VK} {QB : Bool → Hp → Prop} {QA : List V → Hp → Prop} {D : Ends} {ta tb tc te to ti : TE} {tt tu : TT} {sa sb : TS} {r : R2} {t : TA}
theorem r_seq (h : sa { D with nx := sb D } σ H) : tSeq sa sb D σ H := h
theorem r_asg {g : TG} (h : te σ H fun x H1 => g x σ H1 D.nx) : tAsg te g D σ H := h
theorem r_gname {i : Nat} {v : V} {QN : L2.St → Hp → Prop} (h : QN (σ.set i (some v)) H) : gName i v σ H QN := h
theorem r_gsub {v : V} {s : TSet} {QN : L2.St → Hp → Prop} (h : to σ H fun o H1 => ti σ H1 fun i H2 => s o i v H2 fun H3 => QN σ H3) : gSub to ti s v σ H QN := h
theorem r_par {i j : Nat} (h : t σ H fun vs H1 => ∃ v w, vs = [v, w] ∧ D.nx ((σ.set i (some v)).set j (some w)) H1) : tPar i j t D σ H := h
theorem r_par2 {v w : V} {P : V → V → Prop} (h : P v w) : ∃ v' w', [v, w] = [v', w'] ∧ P v' w' := ⟨v, w, rfl, h⟩
theorem r_ret (h : te σ H D.rt) : tRet te D σ H := h
theorem r_drop (h : te σ H fun _ H1 => D.nx σ H1) : tDrop te D σ H := h
theorem r_next (h : D.nx σ H) : tNext D σ H := h
theorem r_ifs (h : tt σ H fun b H1 => if b = true then sa D σ H1 else sb D σ H1) : tIfS tt sa sb D σ H := h
theorem r_var {i : Nat} {v : V} (e : σ[i]? = some (some v)) (h : Q v H) : tVar i σ H Q := ⟨v, e, h⟩
theorem r_c {v : V} (h : Q v H) : tC v σ H Q := h
theorem r_op (h : ta σ H fun x H1 => tb σ H1 fun y H2 => r x y H2 Q) : tOp r ta tb σ H Q := h
theorem r_un {f : V → Hp → VK → Prop} (h : ta σ H fun x H1 => f x H1 Q) : tUn f ta σ H Q := h
theorem r_neg {g : Int → V} {i : Int} (h : Q (g i) H) : rU g (.int i) H Q := ⟨i, rfl, h⟩
theorem r_tif (h : tt σ H fun c H1 => if c = true then ta σ H1 Q else tb σ H1 Q) : tIf tt ta tb σ H Q := h
theorem r_cb {f : List V → Hp → VK → Prop} (h : t σ H fun vs H1 => f vs H1 Q) : tCB f t σ H Q := h
theorem r_nil (h : QA [] H) : tNil σ H QA := h
theorem r_cons (h : ta σ H fun x H1 => t σ H1 fun xs H2 => QA (x :: xs) H2) : tCons ta t σ H QA := h
theorem r_call {sp : Sp} {dvs : List V} {E : XK} (h : t σ H fun vs H1 => sp (vs ++ dvs) H1 Q E) : tCall sp dvs E t σ H Q := h
theorem r_bm0 {ty : String} {f : V → List V → Hp → VK → Prop} (h : to σ H fun x H1 => tyV K ty x H1 ∧ f x [] H1 Q) : tBM0 K ty f to σ H Q := h
theorem r_bm {ty : String} {f : V → List V → Hp → VK → Prop} (h : to σ H fun x H1 => tyV K ty x H1 ∧ t σ H1 fun xs H2 => f x xs H2 Q) : tBM K ty f to t σ H Q := h
theorem r_m1 {f : V → List V → Hp → VK → Prop} (h : to σ H fun x H1 => (∃ a, x = .str a) ∧ te σ H1 fun y H2 => f x [y] H2 Q) : tM1 f to te σ H Q := h
theorem r_isS {a : Str} {P : Prop} (h : P) : (∃ b, V.str a = .str b) ∧ P := ⟨⟨a, rfl⟩, h⟩
theorem r_tyS {a : Str} {P : Prop} (h : P) : tyV K "str" (.str a) H ∧ P := ⟨rfl, h⟩
theorem r_tyL {p : Addr} {xs : List V} {P : Prop} (e : H p = some (.lst xs)) (h : P) : tyV K "list" (.ref p) H ∧ P := ⟨.inl ⟨rfl, xs, .inl (.inl e)⟩, h⟩
theorem r_sl {f : V → Option Int → Option Int → Hp → VK → Prop} {tl th : TO} (h : te σ H fun x H1 => tl σ H1 fun l H2 => th σ H2 fun u H3 => f x l u H3 Q) : tSl f te tl th σ H Q := h
theorem r_lst (h : t σ H fun xs H1 => xs.length ≤ sizeLine ∧ ∀ p, H1 p = none → Q (.ref p) (upd H1 p (.lst xs))) : tLst t σ H Q := h
theorem r_tup (h : t σ H fun xs H1 => xs.length ≤ sizeLine ∧ ∀ p, H1 p = none → Q (.ref p) (upd H1 p (.tup xs))) : tTup t σ H Q := h
theorem small_len {xs : List V} {n : Nat} (h : xs.length ≤ n) (hn : n ≤ 100 := by decide) : xs.length ≤ sizeLine := by rw [sizeLine_eq]; omega
/-- tests -/
theorem r_test (h : te σ H fun x H' => ∃ k, x = .bl k ∧ QB k H') : tTest te σ H QB := h
theorem r_bl {b : Bool} {P : Bool → Prop} (h : P b) : ∃ k, V.bl b = .bl k ∧ P k := ⟨b, rfl, h⟩
theorem r_and (h : tt σ H fun c H1 => if c = true then tu σ H1 QB else QB false H1) : tAnd tt tu σ H QB := h
theorem r_or (h : tt σ H fun c H1 => if c = true then QB true H1 else tu σ H1 QB) : tOr tt tu σ H QB := h
theorem r_not (h : tt σ H fun c H1 => QB (!c) H1) : tNot tt σ H QB := h
theorem r_truB {b : Bool} {P : Bool → Prop} (h : P b) : ∃ k, TruV K (.bl b) H k ∧ P k := ⟨b, rfl, h⟩
theorem r_andT (h : ta σ H fun x H1 => ∃ k, TruV K x H1 k ∧ if k = true then tb σ H1 Q else Q x H1) : tAndT K ta tb σ H Q := h
theorem r_orT (h : ta σ H fun x H1 => ∃ k, TruV K x H1 k ∧ if k = true then Q x H1 else tb σ H1 Q) : tOrT K ta tb σ H Q := h
theorem r_notT (h : ta σ H fun x H1 => ∃ k, TruV K x H1 k ∧ Q (.bl (!k)) H1) : tNotT K ta σ H Q := h
theorem r_ifd {c : Prop} [Decidable c] {A B : Prop} (h1 : c → A) (h2 : ¬ c → B) : if decide c = true then A else B := by
  by_cases h : c
  · rw [decide_eq_true h]; exact h1 h
  · rw [decide_eq_false h, if_neg Bool.false_ne_true]; exact h2 h
theorem r_ifnd {c : Prop} [Decidable c] {A B : Prop} (h1 : ¬ c → A) (h2 : c → B) : if (!decide c) = true then A else B := by
  by_cases h : c
  · rw [decide_eq_true h]; exact h2 h
  · rw [decide_eq_false h]; exact h1 h
/-- operators -/
theorem r_I0 {g : Int → Int → V} {i j : Int} (h : Q (g i j) H) : rI0 g (.int i) (.int j) H Q := ⟨i, j, rfl, rfl, h⟩
theorem r_I {C : Int → Int → Prop} {g : Int → Int → V} {i j : Int} (hc : C i j) (h : Q (g i j) H) : rI C g (.int i) (.int j) H Q := ⟨i, j, rfl, rfl, hc, h⟩
theorem r_addI {i j : Int} (h : Q (.int (i + j)) H) : rAddG K (.int i) (.int j) H Q := h
theorem r_addS {a b : List Nat} (hl : a.length + b.length ≤ 16777216) (h : Q (T (a ++ b)) H) : rAddG K (T a) (T b) H Q := by
  refine ⟨by rw [mkS_len, mkS_len, sizeLine_eq]; exact hl, ?_⟩
  rw [mkS_add]; exact h
theorem r_addL {p q : Addr} {xs ys : List V} (h1 : H p = some (.lst xs)) (h2 : H q = some (.lst ys)) (hl : xs.length + ys.length ≤ 16777216) (h : ∀ d, H d = none → Q (.ref d) (upd H d (.lst (xs ++ ys)))) : rAddG K (.ref p) (.ref q) H Q :=
  .inl ⟨xs, ys, h1, h2, by rw [sizeLine_eq]; exact hl, h⟩
theorem r_mulS {l : List Nat} {n : Int} (hc : CMulS l n) (h : Q (T (repL l n.toNat)) H) : rMulG (T l) (.int n) H Q := ⟨hc, h⟩
theorem r_eqS {a b : List Nat} (h : Q (.bl (decide (a = b))) H) : rEqG K (T a) (T b) H Q := .inl ⟨rfl, by rw [T_dec]; exact h⟩
theorem r_neS {a b : List Nat} (h : Q (.bl (!decide (a = b))) H) : rNeG K (T a) (T b) H Q := .inl ⟨rfl, by rw [T_dec]; exact h⟩
theorem r_eqI {a b : Int} (h : Q (.bl (decide (a = b))) H) : rEqG K (.int a) (.int b) H Q := .inl ⟨rfl, by rw [dec_int, Bool.beq_eq_decide_eq]; exact h⟩
theorem r_in1 {c : Nat} {l : List Nat} (h : Q (.bl (decide (c ∈ l))) H) : rInG K (T [c]) (T l) H Q := .inl ⟨mkS [c], mkS l, rfl, rfl, by rw [subS_one]; exact h⟩
theorem r_notin1 {c : Nat} {l : List Nat} (h : Q (.bl (!decide (c ∈ l))) H) : rNotInG K (T [c]) (T l) H Q := .inl ⟨mkS [c], mkS l, rfl, rfl, by rw [subS_one]; exact h⟩
theorem r_ixL {p : Addr} {xs : List V} {i : Int} {v : V} (e : SqL K H p xs) (ha : atI xs i = some v) (h : Q v H) : rIx K (.ref p) (.int i) H Q := .inl ⟨p, xs, i, v, rfl, rfl, e, ha, h⟩
theorem r_ixT {p : Addr} {xs : List V} {i : Int} {v : V} (e : SqT K H p xs) (ha : atI xs i = some v) (h : Q v H) : rIx K (.ref p) (.int i) H Q := .inr (.inl ⟨p, xs, i, v, rfl, rfl, e, ha, h⟩)
theorem r_ixS {l : List Nat} {i : Int} {c : Nat} (hl : l.length ≤ 16777216) (ha : atI l i = some c) (h : Q (T [c]) H) : rIx K (T l) (.int i) H Q := .inr (.inr ⟨mkS l, i, c, rfl, rfl, by rw [mkS_len, sizeLine_eq]; exact hl, ha, h⟩)
theorem r_slS {l : List Nat} {lo hi : Option Int} (hl : l.length ≤ 16777216) (h : Q (T (cutL l lo hi)) H) : rSlG K (T l) lo hi H Q := .inl ⟨mkS l, rfl, by rw [mkS_len, sizeLine_eq]; exact hl, by rw [cutS_mk]; exact h⟩
theorem r_revS {l : List Nat} (hl : l.length ≤ 16777216) (h : Q (T l.reverse) H) : RevB K Q (T l) H := .inl ⟨l, rfl, hl, h⟩
theorem r_rev (h : te σ H (RevB K Q)) : tRevS K te σ H Q := h
/-- calls by values -/
theorem r_lenS {l : List Nat} (hl : l.length ≤ 16777216) {P : Nat → Prop} (h : P l.length) : ∃ x n, [T l] = [x] ∧ LenV K x H n ∧ P n := ⟨T l, l.length, rfl, ⟨by rw [mkS_len, sizeLine_eq]; exact hl, (mkS_len l).symm⟩, h⟩
theorem r_lenL {p : Addr} {xs : List V} (e : SqL K H p xs) {P : Nat → Prop} (h : P xs.length) : ∃ x n, [V.ref p] = [x] ∧ LenV K x H n ∧ P n := ⟨.ref p, xs.length, rfl, .inl ⟨xs, e, rfl⟩, h⟩
theorem r_lenT {p : Addr} {xs : List V} (e : SqT K H p xs) {P : Nat → Prop} (h : P xs.length) : ∃ x n, [V.ref p] = [x] ∧ LenV K x H n ∧ P n := ⟨.ref p, xs.length, rfl, .inr ⟨xs, e, rfl⟩, h⟩
theorem r_int {i : Int} (h : Q (.int i) H) : rIntG [.int i] H Q := .inl (.inl ⟨i, rfl, h⟩)
theorem r_intB {b : Bool} (h : Q (.int (if b then 1 else 0)) H) : rIntG [.bl b] H Q := .inl (.inr ⟨b, rfl, h⟩)
theorem r_c1 {i : Int} {P : Int → Prop} (h : P i) : ∃ i', [V.int i] = [.int i'] ∧ P i' := ⟨i, rfl, h⟩
theorem r_c2 {i j : Int} {P : Int → Int → Prop} (h : P i j) : ∃ i' j', [V.int i, V.int j] = [.int i', .int j'] ∧ P i' j' := ⟨i, j, rfl, h⟩
theorem r_map {f : Nat → Nat} {l : List Nat} (ha : Asc l) (hl : l.length ≤ 5000000) (h : Q (T (l.map f)) H) : rMap f (T l) [] H Q := ⟨l, rfl, rfl, ⟨ha, hl⟩, h⟩
theorem r_setL {p : Addr} {xs : List V} {i : Int} {j : Nat} {v : V} {QH : Hp → Prop} (e : H p = some (.lst xs)) (hj : ixN xs.length i = some j) (h : QH (upd H p (.lst (xs.set j v)))) : rSetL (.ref p) (.int i) v H QH := ⟨p, xs, i, j, rfl, rfl, e, hj, h⟩
theorem r_append {p : Addr} {xs : List V} {v : V} (e : H p = some (.lst xs)) (hl : xs.length < 16777216) (h : Q .non (upd H p (.lst (xs ++ [v])))) : rAppend (.ref p) [v] H Q := ⟨p, xs, v, rfl, rfl, e, by rw [sizeLine_eq]; exact hl, h⟩
theorem r_pop {p : Addr} {xs : List V} {v : V} (e : H p = some (.lst xs)) (hv : xs[xs.length - 1]? = some v) (h : Q v (upd H p (.lst xs.dropLast))) : rPop (.ref p) [] H Q := ⟨p, xs, v, rfl, rfl, e, hv, h⟩
theorem r_poN {QO : Option Int → Hp → Prop} (h : QO none H) : tNoPart σ H QO := h
theorem r_poS {QO : Option Int → Hp → Prop} (h : te σ H fun x H1 => ∃ i, x = .int i ∧ QO (some i) H1) : tPart te σ H QO := h
theorem r_int1 {i : Int} {P : Int → Prop} (h : P i) : ∃ i', V.int i = .int i' ∧ P i' := ⟨i, rfl, h⟩
/-- sep.join(parts) -/
abbrev rJoin (K : PySem.W.Frag) : V → List V → Hp → VK → Prop := fun x xs H Q => ∃ a p, ∃ ys : List Str, x = .str a ∧ xs = [.ref p] ∧ (SqL K H p (ys.map V.str) ∨ SqT K H p (ys.map V.str)) ∧ (ys.map (·.length)).sum + ys.length * a.length ≤ 16777216 ∧ Q (.str (Txt.join a ys)) H
theorem join_mk (a : List Nat) (ls : List (List Nat)) : Txt.join (mkS a) (ls.map mkS) = mkS (TL.joinL a ls) := by
  rw [TL.join_eq]
  apply TL.ext_tl
  rw [TL.tl_join]
  show TL.joinL a ((ls.map mkS).map TL.tl) = _
  rw [List.map_map]
  have : ls.map (TL.tl ∘ mkS) = ls := by
    conv => rhs; rw [← List.map_id ls]
    exact List.map_congr_left fun x _ => rfl
  rw [this]; rfl
theorem joinL_nil : ∀ ls : List (List Nat), TL.joinL [] ls = ls.flatten
  | [] => rfl
  | [p] => by show p = [p].flatten; simp
  | p :: q :: r => by
    show p ++ ([] ++ TL.joinL [] (q :: r)) = _
    rw [joinL_nil (q :: r)]; simp
theorem map_T (ls : List (List Nat)) : (ls.map mkS).map V.str = ls.map T := by rw [List.map_map]; rfl
theorem sum_len (ls : List (List Nat)) : ((ls.map mkS).map (·.length)).sum = ls.flatten.length := by
  rw [List.map_map, List.length_flatten]
  have : ls.map ((fun x : Str => x.length) ∘ mkS) = ls.map List.length := List.map_congr_left fun x _ => mkS_len x
  rw [this]
theorem r_join {a : List Nat} {p : Addr} {ls : List (List Nat)} (e : SqL K H p (ls.map T)) (hl : ls.flatten.length + ls.length * a.length ≤ 16777216) (h : Q (T (TL.joinL a ls)) H) : rJoin K (T a) [.ref p] H Q := by
  refine ⟨mkS a, p, ls.map mkS, rfl, rfl, .inl (by rw [map_T]; exact e), ?_, by rw [join_mk]; exact h⟩
  rw [sum_len, List.length_map, mkS_len]; exact hl
theorem r_join0 {p : Addr} {ls : List (List Nat)} (e : SqL K H p (ls.map T)) (hl : ls.flatten.length ≤ 16777216) (h : Q (T ls.flatten) H) : rJoin K (T []) [.ref p] H Q :=
  r_join e (by simpa using hl) (by rw [joinL_nil]; exact h)
/-- all(list of bools) -/
theorem r_all {p : Addr} {bs : List Bool} (e : SqL K H p (bs.map V.bl)) (h : Q (.bl (bs.all id)) H) : rAll K [.ref p] H Q := ⟨p, bs, rfl, e, h⟩
theorem r_any {p : Addr} {bs : List Bool} (e : SqL K H p (bs.map V.bl)) (h : Q (.bl (bs.any id)) H) : rAny K [.ref p] H Q := ⟨p, bs, rfl, e, h⟩
/-! ### loops: what is walked is reckoned first -/
def ForJ (g : TG) (tb : TS) (D : Ends) (σ : L2.St) (J : It) (H1 : Hp) : Prop := ∃ W : Nat → Nat → L2.St → Hp → Prop, (∃ m, W 0 m σ H1) ∧ ∀ i m σ H, W i m σ H →
  (J.stop i H ∧ D.nx σ H) ∨ (J.go i H ∧ ∃ N : L2.St → Hp → Prop, (∀ σ' H', N σ' H' → ∃ m', m' < m ∧ W (i + 1) m' σ' H') ∧ ∀ x H', J.yld i H x H' → g x σ H' fun σ2 H2 => tb { D with nx := N, ct := N, bk := D.nx } σ2 H2)
def LcJ (g : TG) (tt : TT) (te : TE) (vs : List Nat) (σ : L2.St) (Q : VK) (J : It) (H1 : Hp) : Prop := ∀ D, H1 D = none → ∃ W : Nat → Nat → Hp → Prop, (∃ m, W 0 m (upd H1 D (.lst []))) ∧ ∀ i m H, W i m H →
  (J.stop i H ∧ Q (.ref D) H) ∨ (J.go i H ∧ ∃ Nx : Hp → Prop, (∀ H', Nx H' → ∃ m', m' < m ∧ W (i + 1) m' H') ∧ ∀ x H', J.yld i H x H' → g x (wipe σ vs) H' fun σ2 H2 => wipe σ2 vs = wipe σ vs ∧ tt σ2 H2 fun b H3 =>
    if b = true then te σ2 H3 fun y H4 => ∃ acc, H4 D = some (.lst acc) ∧ acc.length < sizeLine ∧ Nx (upd H4 D (.lst (acc ++ [y]))) else Nx H3)
def GoG (K : PySem.W.Frag) (R : It → Hp → Prop) (x : V) (H1 : Hp) : Prop := (∃ a, x = .ref a ∧ (∃ xs, SqL K H1 a xs) ∧ R (Itl K a) H1) ∨ (∃ a, x = .ref a ∧ (∃ xs, SqT K H1 a xs) ∧ R (Itt K a) H1) ∨ (∃ z, x = .str z ∧ R (Its z) H1)
def GoR1 (R : It → Hp → Prop) (vs : List V) (H1 : Hp) : Prop := ∃ j : Int, vs = [.int j] ∧ -(2 ^ 62) ≤ j ∧ j < 2 ^ 62 ∧ R (Itr 0 j.toNat) H1
def GoR2 (R : It → Hp → Prop) (vs : List V) (H1 : Hp) : Prop := ∃ i j : Int, vs = [.int i, .int j] ∧ (-(2 ^ 62) ≤ i ∧ i < 2 ^ 62 ∧ -(2 ^ 62) ≤ j ∧ j < 2 ^ 62) ∧ R (Itr i (j - i).toNat) H1
theorem r_for {wi : TI} {g : TG} {tb : TS} (h : wi σ H (ForJ g tb D σ)) : tFor wi g tb D σ H := h
theorem r_lc {wi : TI} {g : TG} {te : TE} {vs : List Nat} (h : wi σ H (LcJ g tt te vs σ Q)) : tLc wi g tt te vs σ H Q := h
theorem r_iG {R : It → Hp → Prop} (h : te σ H (GoG K R)) : iG K te σ H R := h
theorem r_iR1 {R : It → Hp → Prop} (h : t σ H (GoR1 R)) : iRng1 t σ H R := h
theorem r_iR2 {R : It → Hp → Prop} (h : t σ H (GoR2 R)) : iRng2 t σ H R := h
theorem r_goS {R : It → Hp → Prop} {l : List Nat} (h : R (Its (mkS l)) H) : GoG K R (T l) H := .inr (.inr ⟨_, rfl, h⟩)
theorem r_goL {R : It → Hp → Prop} {p : Addr} {xs : List V} (e : SqL K H p xs) (h : R (Itl K p) H) : GoG K R (.ref p) H := .inl ⟨p, rfl, ⟨xs, e⟩, h⟩
theorem r_goT {R : It → Hp → Prop} {p : Addr} {xs : List V} (e : SqT K H p xs) (h : R (Itt K p) H) : GoG K R (.ref p) H := .inr (.inl ⟨p, rfl, ⟨xs, e⟩, h⟩)
theorem r_goR1 {R : It → Hp → Prop} {j : Int} (hj : -(2 ^ 62) ≤ j ∧ j < 2 ^ 62) (h : R (Itr 0 j.toNat) H) : GoR1 R [.int j] H := ⟨j, rfl, hj.1, hj.2, h⟩
theorem r_goR2 {R : It → Hp → Prop} {i j : Int} (hj : -(2 ^ 62) ≤ i ∧ i < 2 ^ 62 ∧ -(2 ^ 62) ≤ j ∧ j < 2 ^ 62) (h : R (Itr i (j - i).toNat) H) : GoR2 R [.int i, .int j] H := ⟨i, j, rfl, hj, h⟩
/-- an iterator over items that are known: item i is x, the heap as it was -/
def Known (J : It) (n : Nat) (f : Nat → V) (G : Hp → Prop) : Prop := ∀ i H, G H → (i < n → J.go i H ∧ ∀ x H', J.yld i H x H' → H' = H ∧ x = f i) ∧ (n ≤ i → J.stop i H)
theorem known_str (l : List Nat) : Known (Its (mkS l)) l.length (fun i => T [l.getD i 0]) fun _ => True := by
  intro i H _
  have hsz : (mkS l).cps.size = l.length := mkS_len l
  refine ⟨fun hi => ⟨by show i < (mkS l).cps.size; omega, fun x H' y => ?_⟩, fun hi => by show (mkS l).cps.size ≤ i; omega⟩
  obtain ⟨e, c, hc, ex⟩ := y
  have hc' : l[i]? = some c := by simpa [mkS] using hc
  refine ⟨e, ?_⟩
  show x = T [l.getD i 0]
  rw [ex, List.getD_eq_getElem?_getD, hc']; rfl
theorem known_list {p : Addr} (xs : List V) : Known (Itl K p) xs.length (fun i => xs.getD i .non) fun H => SqL K H p xs := by
  intro i H q
  refine ⟨fun hi => ⟨⟨xs, xs[i], q, by simp [hi]⟩, fun x H' y => ?_⟩, fun hi => ⟨xs, q, hi⟩⟩
  obtain ⟨e, y⟩ := y
  have := y xs q
  refine ⟨e, ?_⟩
  show x = xs.getD i V.non
  rw [List.getD_eq_getElem?_getD, this]; rfl
theorem known_tup {p : Addr} (xs : List V) : Known (Itt K p) xs.length (fun i => xs.getD i .non) fun H => SqT K H p xs := by
  intro i H q
  refine ⟨fun hi => ⟨⟨xs, xs[i], q, by simp [hi]⟩, fun x H' y => ?_⟩, fun hi => ⟨xs, q, hi⟩⟩
  obtain ⟨e, y⟩ := y
  have := y xs q
  refine ⟨e, ?_⟩
  show x = xs.getD i V.non
  rw [List.getD_eq_getElem?_getD, this]; rfl
theorem known_rng (lo : Int) (n : Nat) : Known (Itr lo n) n (fun i => .int (lo + i)) fun _ => True := by
  intro i H _
  exact ⟨fun hi => ⟨hi, fun x H' y => y⟩, fun hi => hi⟩
/-- a for loop over known items -/
theorem for_known {J : It} {n : Nat} {f : Nat → V} {G : Hp → Prop} {g : TG} {tb : TS} (kn : Known J n f G) (Pv : Nat → L2.St → Hp → Prop) (h0 : Pv 0 σ H) (hg : ∀ i σ H, i ≤ n → Pv i σ H → G H)
    (hs : ∀ i σ H, i < n → Pv i σ H → g (f i) σ H fun σ2 H2 => tb { D with nx := Pv (i + 1), ct := Pv (i + 1), bk := D.nx } σ2 H2) (hd : ∀ σ H, Pv n σ H → D.nx σ H) : ForJ g tb D σ J H := by
  refine ⟨fun i m σ H => m = n - i ∧ i ≤ n ∧ Pv i σ H, ⟨_, rfl, Nat.zero_le _, h0⟩, ?_⟩
  rintro i m σ H ⟨rfl, hi, p⟩
  obtain ⟨k1, k2⟩ := kn i H (hg i σ H hi p)
  by_cases hlt : i < n
  · obtain ⟨go, y⟩ := k1 hlt
    refine .inr ⟨go, Pv (i + 1), fun σ' H' p' => ⟨n - (i + 1), by omega, rfl, hlt, p'⟩, fun x H' yy => ?_⟩
    obtain ⟨e1, e2⟩ := y x H' yy
    subst e1 e2
    exact hs i σ _ hlt p
  · have e : i = n := by omega
    subst e
    exact .inl ⟨k2 (Nat.le_refl _), hd σ H p⟩
/-- a comprehension over known items that stay: f' tells what is made of item i (none: left out); the heap may grow -/
theorem lc_known {J : It} {n : Nat} {f : Nat → V} {G : Hp → Prop} {g : TG} {te : TE} {vs : List Nat} (kn : Known J n f G) (mk : Nat → Option V) (hn : n ≤ 16777216) (hG : ∀ H', Same H H' → G H')
    (hs : ∀ i H2 (QT : Option V → Hp → Prop), i < n → Same H H2 → (∀ H3, Same H2 H3 → QT (mk i) H3) →
      g (f i) (wipe σ vs) H2 fun σ2 H3 => wipe σ2 vs = wipe σ vs ∧ tt σ2 H3 fun b H4 => if b = true then te σ2 H4 fun y H5 => QT (some y) H5 else QT none H4)
    (hd : ∀ D H', H D = none → Same H H' → H' D = some (.lst ((List.range n).filterMap mk)) → Q (.ref D) H') : LcJ g tt te vs σ Q J H := by
  intro D nD
  refine ⟨fun i m H2 => m = n - i ∧ i ≤ n ∧ Same H H2 ∧ H2 D = some (.lst ((List.range i).filterMap mk)), ⟨_, rfl, Nat.zero_le _, Same.new1 nD, by rw [upd_same]; rfl⟩, ?_⟩
  rintro i m H2 ⟨rfl, hi, sm, eD⟩
  obtain ⟨k1, k2⟩ := kn i H2 (hG _ sm)
  by_cases hlt : i < n
  · obtain ⟨go, y⟩ := k1 hlt
    refine .inr ⟨go, fun H3 => Same H H3 ∧ H3 D = some (.lst ((List.range (i + 1)).filterMap mk)), fun H3 p => ⟨n - (i + 1), by omega, rfl, hlt, p⟩, fun x H' yy => ?_⟩
    obtain ⟨e1, e2⟩ := y x H' yy
    subst e1 e2
    refine hs i H' (fun o H4 => match o with
      | some y => ∃ acc, H4 D = some (.lst acc) ∧ acc.length < sizeLine ∧ Same H (upd H4 D (.lst (acc ++ [y]))) ∧ (upd H4 D (.lst (acc ++ [y]))) D = some (.lst ((List.range (i + 1)).filterMap mk))
      | none => Same H H4 ∧ H4 D = some (.lst ((List.range (i + 1)).filterMap mk))) hlt sm (fun H3 s3 => ?_)
    have hr : (List.range (i + 1)).filterMap mk = (List.range i).filterMap mk ++ (mk i).toList := by
      rw [List.range_succ, List.filterMap_append]
      congr 1
    cases e : mk i with
    | none => exact ⟨sm.trans s3, by rw [hr, e]; simpa using s3 _ _ eD⟩
    | some y =>
      refine ⟨_, s3 _ _ eD, ?_, Same.mut (sm.trans s3) nD, ?_⟩
      · have := List.length_filterMap_le mk (List.range i)
        rw [List.length_range] at this
        rw [sizeLine_eq]; omega
      · rw [upd_same, hr, e]; rfl
  · have e : i = n := by omega
    subst e
    exact .inl ⟨k2 (Nat.le_refl _), hd D H2 nD sm eD⟩
/-- a comprehension with an invariant of one's own (Pv D i H: what is so behind i items) -/
theorem lc_inv {J : It} {n : Nat} {f : Nat → V} {G : Hp → Prop} {g : TG} {te : TE} {vs : List Nat} (kn : Known J n f G) (Pv : Addr → Nat → Hp → Prop) (h0 : ∀ D, H D = none → Pv D 0 (upd H D (.lst []))) (hg : ∀ D i H, i ≤ n → Pv D i H → G H)
    (hs : ∀ D i H, i < n → Pv D i H → g (f i) (wipe σ vs) H fun σ2 H2 => wipe σ2 vs = wipe σ vs ∧ tt σ2 H2 fun b H3 =>
      if b = true then te σ2 H3 fun y H4 => ∃ acc, H4 D = some (.lst acc) ∧ acc.length < sizeLine ∧ Pv D (i + 1) (upd H4 D (.lst (acc ++ [y]))) else Pv D (i + 1) H3)
    (hd : ∀ D H, Pv D n H → Q (.ref D) H) : LcJ g tt te vs σ Q J H := by
  intro D nD
  refine ⟨fun i m H => m = n - i ∧ i ≤ n ∧ Pv D i H, ⟨_, rfl, Nat.zero_le _, h0 D nD⟩, ?_⟩
  rintro i m H2 ⟨rfl, hi, p⟩
  obtain ⟨k1, k2⟩ := kn i H2 (hg D i H2 hi p)
  by_cases hlt : i < n
  · obtain ⟨go, y⟩ := k1 hlt
    refine .inr ⟨go, Pv D (i + 1), fun H3 p => ⟨n - (i + 1), by omega, rfl, hlt, p⟩, fun x H' yy => ?_⟩
    obtain ⟨e1, e2⟩ := y x H' yy
    subst e1 e2
    exact hs D i H' hlt p
  · have e : i = n := by omega
    subst e
    exact .inl ⟨k2 (Nat.le_refl _), hd D H2 p⟩
theorem fm_range {α : Type} (l : List α) (f : α → V) (d : α) : (List.range l.length).filterMap (fun i => some (f (l.getD i d))) = l.map f := by
  rw [List.filterMap_eq_map']
  apply List.ext_getElem?
  intro i
  rw [List.getElem?_map, List.getElem?_map]
  by_cases h : i < l.length
  · rw [List.getElem?_range h]
    simp [h]
  · rw [List.getElem?_eq_none (by simpa using h), List.getElem?_eq_none (by simpa using h)]; rfl
end
end NX
namespace NX
open PySem PySem.Spec PyProof.Rows L2
end NX
namespace NX
open PySem PySem.Spec PyProof.Rows L2
section
variable {K : PySem.W.Frag} {σ : L2.St} {H : Hp} {Q : VK} {D : Ends} {te : TE} {ts : TS} {tt : TT}
/-- what is wanted is put behind a word of one's own -/
theorem r_gen (R : V → Hp → Prop) (k : ∀ v H', R v H' → Q v H') (w : ∀ Q' : VK, (∀ v H', R v H' → Q' v H') → te σ H Q') : te σ H Q := w Q k
theorem r_genT {Q : Bool → Hp → Prop} (R : Bool → Hp → Prop) (k : ∀ b H', R b H' → Q b H') (w : ∀ Q' : Bool → Hp → Prop, (∀ v H', R v H' → Q' v H') → tt σ H Q') : tt σ H Q := w Q k
theorem r_genS (N : L2.St → Hp → Prop) (k : ∀ σ' H', N σ' H' → D.nx σ' H') (w : ∀ nx' : L2.St → Hp → Prop, (∀ σ' H', N σ' H' → nx' σ' H') → ts { D with nx := nx' } σ H) : ts D σ H := w D.nx k
theorem r_pw {a b c : Int} (k : Nat) (h0 : 0 ≤ b) (h1 : a.natAbs < 2 ^ k) (h2 : (k : Int) * b ≤ 2 ^ 27) (e : a ^ b.toNat = c) (h : Q (.int c) H) : rI CPowW (fun i j => .int (i ^ j.toNat)) (.int a) (.int b) H Q :=
  ⟨a, b, rfl, rfl, cpow_of h0 h1 h2, by show Q (.int (a ^ b.toNat)) H; rw [e]; exact h⟩
theorem r_p18 (h : Q (.int 1000000000000000000) H) : rI CPowW (fun i j => .int (i ^ j.toNat)) (.int 10) (.int 18) H Q := r_pw 5 (by decide) (by decide) (by decide) (by decide) h
theorem r_p36 (h : Q (.int 1000000000000000000000000000000000000) H) : rI CPowW (fun i j => .int (i ^ j.toNat)) (.int 10) (.int 36) H Q := r_pw 5 (by decide) (by decide) (by decide) (by decide) h
theorem r_p40 (h : Q (.int 10000000000000000000000000000000000000000) H) : rI CPowW (fun i j => .int (i ^ j.toNat)) (.int 10) (.int 40) H Q := r_pw 5 (by decide) (by decide) (by decide) (by decide) h
/-- % by a positive number, // likewise -/
theorem r_mod {i j : Int} (h0 : 0 < j) (h : Q (.int (i % j)) H) : rI (fun _ j => j ≠ 0) (fun i j => .int (i.fmod j)) (.int i) (.int j) H Q :=
  ⟨i, j, rfl, rfl, by omega, by show Q (.int (i.fmod j)) H; rw [Int.fmod_eq_emod_of_nonneg i (by omega)]; exact h⟩
theorem r_mulc {i j : Int} (hi : -(2 ^ 64) < i ∧ i < 2 ^ 64) (h : Q (.int (i * j)) H) : rMulG (.int i) (.int j) H Q := ⟨.inl hi, h⟩
theorem r_mulc' {i j : Int} (hj : -(2 ^ 64) < j ∧ j < 2 ^ 64) (h : Q (.int (i * j)) H) : rMulG (.int i) (.int j) H Q := ⟨.inr hj, h⟩
theorem at_map {f : Int → V} {ns : List Int} {k : Nat} (h : k < ns.length) : atI (ns.map f) (k : Int) = some (f (ns[k])) := atI_nat (by rw [List.getElem?_map, List.getElem?_eq_getElem h]; rfl)
end
end NX
namespace NX
open L2
theorem r_new {xs : List V} {P : Prop} (h1 : xs.length ≤ 100) (h : P) : xs.length ≤ PySem.sizeLine ∧ P := ⟨small_len h1, h⟩
end NX
namespace NX
open PySem PySem.Spec PyProof.Rows L2
theorem r_fdivW {H : Hp} {Q : VK} {i j : Int} (h0 : 0 < j ∧ j < 2 ^ 200) (h : Q (.int (i / j)) H) : rI CDivW (fun i j => .int (i / j)) (.int i) (.int j) H Q :=
  ⟨i, j, rfl, rfl, wide_div (b := 200) h0.1 (by omega) (by decide) (by decide), h⟩
end NX
namespace NX
open PySem PySem.Spec PyProof.Rows L2
section
variable {K : PySem.W.Frag} {σ : L2.St} {H : Hp} {D : Ends} {t : TA}
theorem r_gtup {n : Nat} {g : TGs} {a : Addr} {xs : List V} {QN : L2.St → Hp → Prop} (e : SqT K H a xs) (hl : xs.length = n) (h : g xs σ H QN) : gTup K n g (.ref a) σ H QN := ⟨a, xs, rfl, e, hl, h⟩
theorem r_gcons {g : TG} {u : TGs} {v : V} {r : List V} {QN : L2.St → Hp → Prop} (h : g v σ H fun σ' H' => u r σ' H' QN) : gCons g u (v :: r) σ H QN := ⟨v, r, rfl, h⟩
theorem r_gnil {QN : L2.St → Hp → Prop} (h : QN σ H) : gNil [] σ H QN := ⟨rfl, h⟩
end
end NX
namespace NX
open PySem PySem.Spec PyProof.Rows L2
section
variable {K : PySem.W.Frag} {H : Hp} {Q : VK}
theorem r_eqSS {a : List Nat} (h : Q (.bl true) H) : rEqG K (T a) (T a) H Q := r_eqS (by rw [decide_eq_true rfl]; exact h)
end
end NX
namespace NX
open PySem PySem.Spec PyProof.Rows L2
def WhB (W : Nat → L2.St → Hp → Prop) (tb : TS) (D : Ends) (m : Nat) (σ : L2.St) (H1 : Hp) : Prop := ∃ N : L2.St → Hp → Prop, (∀ σ' H', N σ' H' → ∃ m', m' < m ∧ W m' σ' H') ∧ tb { D with nx := N, ct := N, bk := D.nx } σ H1
theorem r_while {c : TT} {tb : TS} {D : Ends} {σ : L2.St} {H : Hp} (W : Nat → L2.St → Hp → Prop) (m0 : Nat) (h0 : W m0 σ H)
    (hs : ∀ m σ H, W m σ H → c σ H fun b H1 => if b = true then WhB W tb D m σ H1 else D.nx σ H1) : tWhile c tb D σ H := ⟨W, ⟨m0, h0⟩, hs⟩
theorem r_whb {W : Nat → L2.St → Hp → Prop} {tb : TS} {D : Ends} {m : Nat} {σ : L2.St} {H1 : Hp} (h : tb { D with nx := fun σ' H' => ∃ m', m' < m ∧ W m' σ' H', ct := fun σ' H' => ∃ m', m' < m ∧ W m' σ' H', bk := D.nx } σ H1) : WhB W tb D m σ H1 := ⟨_, fun _ _ h => h, h⟩
end NX
namespace NX
/-! ### plain rows: letters, backs, least rows -/
def lett (c : Nat) : Bool := decide (65 ≤ c ∧ c ≤ 90) || decide (97 ≤ c ∧ c ≤ 122)
def Row (l : List Nat) : Prop := ∀ c ∈ l, lett c = true
theorem lett_iff {c : Nat} : lett c = true ↔ (65 ≤ c ∧ c ≤ 90) ∨ (97 ≤ c ∧ c ≤ 122) := by simp [lett]
theorem swp_swp {c : Nat} (h : lett c = true) : swp (swp c) = c := by
  rw [lett_iff] at h
  unfold swp
  rcases h with h | h
  · rw [if_pos h, if_neg (by omega), if_pos (by omega)]; omega
  · have h' : ¬ (65 ≤ c ∧ c ≤ 90) := by omega
    rw [if_neg h', if_pos h, if_pos (by omega)]; omega
theorem swp_lett {c : Nat} (h : lett c = true) : lett (swp c) = true := by
  rw [lett_iff] at *
  unfold swp
  rcases h with h | h
  · rw [if_pos h]; omega
  · rw [if_neg (by omega), if_pos h]; omega
theorem swp_ne {c : Nat} (h : lett c = true) : swp c ≠ c := by
  rw [lett_iff] at h
  unfold swp
  rcases h with h | h
  · rw [if_pos h]; omega
  · rw [if_neg (by omega), if_pos h]; omega
theorem Row.asc {l : List Nat} (h : Row l) : Asc l := fun c hc => by
  have := lett_iff.mp (h c hc); omega
theorem Row.nil : Row [] := fun _ h => nomatch h
theorem Row.app {a b : List Nat} (ha : Row a) (hb : Row b) : Row (a ++ b) := fun c h => (List.mem_append.mp h).elim (ha c) (hb c)
theorem Row.one {c : Nat} (h : lett c = true) : Row [c] := fun x hx => by rw [List.mem_singleton.mp hx]; exact h
theorem Row.sub {a b : List Nat} (hb : Row b) (h : ∀ c ∈ a, c ∈ b) : Row a := fun c hc => hb c (h c hc)
theorem Row.take {l : List Nat} (h : Row l) (n : Nat) : Row (l.take n) := h.sub fun _ hc => List.mem_of_mem_take hc
theorem Row.drop {l : List Nat} (h : Row l) (n : Nat) : Row (l.drop n) := h.sub fun _ hc => List.mem_of_mem_drop hc
theorem Row.rev {l : List Nat} (h : Row l) : Row l.reverse := h.sub fun _ hc => List.mem_reverse.mp hc
theorem Row.map_swp {l : List Nat} (h : Row l) : Row (l.map swp) := fun c hc => by
  obtain ⟨d, hd, rfl⟩ := List.mem_map.mp hc; exact swp_lett (h d hd)
theorem Row.of_app {a b : List Nat} (h : Row (a ++ b)) : Row a ∧ Row b := ⟨h.sub fun _ hc => List.mem_append_left _ hc, h.sub fun _ hc => List.mem_append_right _ hc⟩
theorem Row.cons {c : Nat} {l : List Nat} (h : lett c = true) (hl : Row l) : Row (c :: l) := fun x hx => (List.mem_cons.mp hx).elim (fun e => e ▸ h) (hl x)
theorem Row.of_cons {c : Nat} {l : List Nat} (h : Row (c :: l)) : lett c = true ∧ Row l := ⟨h c List.mem_cons_self, fun x hx => h x (List.mem_cons_of_mem _ hx)⟩
theorem Row.rep {l : List Nat} (h : Row l) (n : Nat) : Row (repL l n) := fun c hc => by
  obtain ⟨r, hr, hc⟩ := List.mem_flatten.mp hc
  rw [(List.mem_replicate.mp hr).2] at hc; exact h c hc
/-- the back of a row -/
def bak (l : List Nat) : List Nat := l.reverse.map swp
theorem bak_len (l : List Nat) : (bak l).length = l.length := by simp [bak]
theorem Row.bak {l : List Nat} (h : Row l) : Row (bak l) := h.rev.map_swp
theorem bak_bak {l : List Nat} (h : Row l) : bak (bak l) = l := by
  unfold NX.bak
  rw [← List.map_reverse, List.reverse_reverse, List.map_map]
  conv => rhs; rw [← List.map_id l]
  exact List.map_congr_left fun c hc => swp_swp (h c hc)
theorem bak_app (a b : List Nat) : bak (a ++ b) = bak b ++ bak a := by simp [bak]
/-- a turn of the stack, its top first -/
def push : List Nat → Nat → List Nat
  | [], c => [c]
  | t :: r, c => if t = swp c then r else c :: t :: r
theorem push_cons (t : Nat) (r : List Nat) (c : Nat) : push (t :: r) c = if t = swp c then r else c :: t :: r := rfl
def stk (l : List Nat) : List Nat := l.foldl push []
/-- the least row -/
def red (l : List Nat) : List Nat := (stk l).reverse
theorem stk_snoc (l : List Nat) (c : Nat) : stk (l ++ [c]) = push (stk l) c := by simp [stk]
theorem push_len (s : List Nat) (c : Nat) : (push s c).length ≤ s.length + 1 := by
  cases s with
  | nil => simp [push]
  | cons t r => rw [push_cons]; split <;> simp only [List.length_cons] <;> omega
theorem foldl_len (l : List Nat) : ∀ s : List Nat, (l.foldl push s).length ≤ s.length + l.length := by
  induction l with
  | nil => intro s; simp
  | cons c l ih => intro s; have h1 := ih (push s c); have h2 := push_len s c; simp only [List.foldl_cons, List.length_cons]; omega
theorem stk_len (l : List Nat) : (stk l).length ≤ l.length := by have := foldl_len l []; simpa [stk] using this
theorem red_len (l : List Nat) : (red l).length ≤ l.length := by simp only [red, List.length_reverse]; exact stk_len l
theorem push_row {s : List Nat} {c : Nat} (hs : Row s) (hc : lett c = true) : Row (push s c) := by
  cases s with
  | nil => exact Row.one hc
  | cons t r =>
    rw [push_cons]; split
    · exact hs.of_cons.2
    · exact Row.cons hc hs
theorem foldl_row {l : List Nat} : ∀ {s : List Nat}, Row l → Row s → Row (l.foldl push s) := by
  induction l with
  | nil => intro s _ hs; exact hs
  | cons c l ih => intro s hl hs; exact ih hl.of_cons.2 (push_row hs hl.of_cons.1)
theorem stk_row {l : List Nat} (h : Row l) : Row (stk l) := foldl_row h Row.nil
theorem Row.red {l : List Nat} (h : Row l) : Row (red l) := (stk_row h).rev
theorem in_low {c : Nat} : c ∈ ([97, 98, 99, 100, 101, 102, 103, 104, 105, 106, 107, 108, 109, 110, 111, 112, 113, 114, 115, 116, 117, 118, 119, 120, 121, 122] : List Nat) ↔ 97 ≤ c ∧ c ≤ 122 := by
  simp only [List.mem_cons, List.not_mem_nil, or_false]; omega
theorem in_high {c : Nat} : c ∈ ([65, 66, 67, 68, 69, 70, 71, 72, 73, 74, 75, 76, 77, 78, 79, 80, 81, 82, 83, 84, 85, 86, 87, 88, 89, 90] : List Nat) ↔ 65 ≤ c ∧ c ≤ 90 := by
  simp only [List.mem_cons, List.not_mem_nil, or_false]; omega
theorem up1_lett {c : Nat} (h : lett c = true) : lett (PyProof.Rows.up1 c) = true := by
  rw [lett_iff] at *
  unfold PyProof.Rows.up1
  split <;> omega
theorem Row.map_up {l : List Nat} (h : Row l) : Row (l.map PyProof.Rows.up1) := fun c hc => by
  obtain ⟨d, hd, rfl⟩ := List.mem_map.mp hc; exact up1_lett (h d hd)
/-- free: no character beside its back -/
def Free : List Nat → Prop
  | [] => True
  | [_] => True
  | a :: b :: r => b ≠ swp a ∧ Free (b :: r)
/-- a stack is free upward -/
def FreeS : List Nat → Prop
  | [] => True
  | [_] => True
  | a :: b :: r => b ≠ swp a ∧ FreeS (b :: r)
theorem push_free {s : List Nat} {c : Nat} (hs : FreeS s) : FreeS (push s c) := by
  cases s with
  | nil => trivial
  | cons t r =>
    rw [push_cons]; split
    · cases r with
      | nil => trivial
      | cons u v => exact hs.2
    · rename_i h; exact ⟨h, hs⟩
theorem foldl_free (l : List Nat) : ∀ {s : List Nat}, FreeS s → FreeS (l.foldl push s) := by
  induction l with
  | nil => intro s hs; exact hs
  | cons c l ih => intro s hs; exact ih (push_free hs)
theorem stk_free (l : List Nat) : FreeS (stk l) := foldl_free l trivial
/-- pushing a letter, then its back, changes nothing -/
theorem push_push {s : List Nat} {c : Nat} (hs : FreeS s) (hr : Row s) (hc : lett c = true) : push (push s c) (swp c) = s := by
  cases s with
  | nil => simp [push, swp_swp hc]
  | cons t r =>
    by_cases h : t = swp c
    · have e : push (t :: r) c = r := by rw [push_cons, if_pos h]
      rw [e, ← h]
      cases r with
      | nil => rfl
      | cons u v =>
        have : u ≠ swp t := hs.1
        rw [push_cons, if_neg this]
    · have e : push (t :: r) c = c :: t :: r := by rw [push_cons, if_neg h]
      rw [e]
      show (if c = swp (swp c) then t :: r else _) = _
      rw [if_pos (swp_swp hc).symm]
theorem push_push' {s : List Nat} {c : Nat} (hs : FreeS s) (hr : Row s) (hc : lett c = true) : push (push s (swp c)) c = s := by
  have := push_push (c := swp c) hs hr (swp_lett hc)
  rwa [swp_swp hc] at this
/-- a pair taken out leaves the same stack -/
theorem stk_pair {a b : List Nat} {c : Nat} (ha : Row a) (hc : lett c = true) : stk (a ++ c :: swp c :: b) = stk (a ++ b) := by
  have h := push_push (stk_free a) (stk_row ha) hc
  unfold stk at *
  rw [List.foldl_append, List.foldl_append, List.foldl_cons, List.foldl_cons, h]
theorem red_pair {a b : List Nat} {c : Nat} (ha : Row a) (hc : lett c = true) : red (a ++ c :: swp c :: b) = red (a ++ b) := by
  unfold red; rw [stk_pair ha hc]
/-- a free row on a stack that it does not begin to take down -/
theorem fold_free : ∀ (l s : List Nat), Free l → (∀ t c, s.head? = some t → l.head? = some c → t ≠ swp c) → (∀ c ∈ l, lett c = true) → l.foldl push s = l.reverse ++ s
  | [], s, _, _, _ => rfl
  | c :: l, s, hf, hh, hr => by
    have e : push s c = c :: s := by
      cases s with
      | nil => rfl
      | cons t r => rw [push_cons, if_neg (hh t c rfl rfl)]
    rw [List.foldl_cons, e, fold_free l (c :: s) ?_ ?_ fun x hx => hr x (List.mem_cons_of_mem _ hx)]
    · simp
    · cases l with
      | nil => trivial
      | cons d l => exact hf.2
    · intro t d ht hd
      cases l with
      | nil => cases hd
      | cons d' l =>
        have e1 : c = t := by simpa using ht
        have e2 : d' = d := by simpa using hd
        subst e1 e2
        intro e
        have := hf.1
        have h1 := hr c List.mem_cons_self
        have h2 := hr d' (List.mem_cons_of_mem _ List.mem_cons_self)
        exact this (by rw [e, swp_swp h2])
theorem red_free {l : List Nat} (hf : Free l) (hr : Row l) : red l = l := by
  unfold red stk
  rw [fold_free l [] hf (fun t c h => nomatch h) hr]; simp
theorem FreeS.snoc : ∀ {s : List Nat} {t c : Nat}, FreeS (s ++ [t]) → c ≠ swp t → FreeS (s ++ [t, c])
  | [], t, c, _, h => ⟨h, trivial⟩
  | [a], t, c, h, h2 => ⟨h.1, h2, trivial⟩
  | a :: b :: r, t, c, h, h2 => ⟨h.1, FreeS.snoc (s := b :: r) h.2 h2⟩
theorem free_snoc : ∀ {s : List Nat} {t c : Nat}, Free (s ++ [t]) → c ≠ swp t → Free (s ++ [t, c])
  | [], t, c, _, h => ⟨h, trivial⟩
  | [a], t, c, h, h2 => ⟨h.1, h2, trivial⟩
  | a :: b :: r, t, c, h, h2 => ⟨h.1, free_snoc (s := b :: r) h.2 h2⟩
theorem free_rev : ∀ {s : List Nat}, Row s → FreeS s → Free s.reverse
  | [], _, _ => trivial
  | [a], _, _ => trivial
  | a :: b :: r, hr, h => by
    have ih := free_rev (s := b :: r) hr.of_cons.2 h.2
    rw [List.reverse_cons] at ih
    rw [List.reverse_cons, List.reverse_cons, List.append_assoc]
    refine free_snoc ih ?_
    intro e
    exact h.1 (by rw [e, swp_swp hr.of_cons.2.of_cons.1])
theorem free_red {l : List Nat} (h : Row l) : Free (red l) := free_rev (stk_row h) (stk_free l)
theorem red_red {l : List Nat} (h : Row l) : red (red l) = red l := red_free (free_red h) h.red
theorem free_of : ∀ {w : List Nat}, (∀ k, k + 1 < w.length → w.getD (k + 1) 0 ≠ swp (w.getD k 0)) → Free w
  | [], _ => trivial
  | [_], _ => trivial
  | a :: b :: r, h => ⟨h 0 (by simp), free_of (w := b :: r) fun k hk => h (k + 1) (by simpa using hk)⟩
theorem red_bak : ∀ (n : Nat) {w : List Nat}, w.length = n → Row w → red (w ++ bak w) = []
  | 0, w, h, _ => by rw [List.length_eq_zero_iff.mp h]; rfl
  | n + 1, w, h, hr => by
    obtain ⟨a, c, rfl⟩ : ∃ a c, w = a ++ [c] := by
      have hne : w ≠ [] := by intro e; subst e; simp at h
      exact ⟨w.dropLast, w.getLast hne, (List.dropLast_concat_getLast hne).symm⟩
    obtain ⟨ha, hc⟩ := hr.of_app
    have e : (a ++ [c]) ++ bak (a ++ [c]) = a ++ c :: swp c :: bak a := by simp [bak]
    rw [e, red_pair ha hc.of_cons.1]
    exact red_bak n (by simpa using h) ha
theorem red_self {w : List Nat} (h : Row w) : red (w ++ bak w) = [] := red_bak _ rfl h
theorem red_self' {w : List Nat} (h : Row w) : red (bak w ++ w) = [] := by
  have := red_self h.bak
  rwa [bak_bak h] at this
end NX
namespace NX
open PySem PySem.Spec PyProof.Rows L2
mutual
def plain : PyData → Bool
  | .none | .int _ | .str _ => true
  | .bool _ | .dict _ => false
  | .list xs | .tuple xs => plainAll xs
def plainAll : List PyData → Bool
  | [] => true
  | x :: xs => plain x && plainAll xs
end
mutual
theorem eqv_iff : ∀ d e : PyData, plain d = true → plain e = true → (PyData.eqv d e = true ↔ d = e)
  | .none, e, _, he => by cases e <;> simp_all [PyData.eqv, plain]
  | .int i, e, _, he => by cases e <;> simp_all [PyData.eqv, plain]
  | .str x, e, _, he => by cases e <;> simp_all [PyData.eqv, plain]
  | .bool b, e, hd, _ => by simp [plain] at hd
  | .dict b, e, hd, _ => by simp [plain] at hd
  | .list xs, e, hd, he => by
    cases e with
    | list ys =>
      have h := eqvAll_iff xs ys (by simpa [plain] using hd) (by simpa [plain] using he)
      simp only [PyData.eqv, PyData.list.injEq]; exact h
    | _ => simp_all [PyData.eqv, plain]
  | .tuple xs, e, hd, he => by
    cases e with
    | tuple ys =>
      have h := eqvAll_iff xs ys (by simpa [plain] using hd) (by simpa [plain] using he)
      simp only [PyData.eqv, PyData.tuple.injEq]; exact h
    | _ => simp_all [PyData.eqv, plain]
theorem eqvAll_iff : ∀ ds es : List PyData, plainAll ds = true → plainAll es = true → (PyData.eqvAll ds es = true ↔ ds = es)
  | [], [], _, _ => by simp [PyData.eqvAll]
  | [], _ :: _, _, _ => by simp [PyData.eqvAll]
  | _ :: _, [], _, _ => by simp [PyData.eqvAll]
  | d :: ds, e :: es, hd, he => by
    simp only [plainAll, Bool.and_eq_true] at hd he
    have h1 := eqv_iff d e hd.1 he.1
    have h2 := eqvAll_iff ds es hd.2 he.2
    simp only [PyData.eqvAll, Bool.and_eq_true, List.cons.injEq, h1, h2]
end
abbrev S (l : List Nat) : PyData := .str (mkS l)
section
variable {K : PySem.W.Frag} {H : Hp} {Q : VK}
theorem dp_all {vs : List V} {ds : List PyData} (h : DpAll K H vs ds) {p : Addr} (e : SqL K H p vs) : Dp K H (.ref p) (.list ds) := .lst e h
theorem dpAll_strs : ∀ ls : List (List Nat), DpAll K H (ls.map T) (ls.map S)
  | [] => .nil
  | l :: ls => .cons (.str _) (dpAll_strs ls)
theorem dpAll_ints : ∀ ns : List Int, DpAll K H (ns.map V.int) (ns.map PyData.int)
  | [] => .nil
  | n :: ns => .cons (.int _) (dpAll_ints ns)
/-- equal, or not, by one's own word -/
theorem r_eqD {d e : PyData} {x y : V} {c : Prop} [Decidable c] (h1 : Dp K H x d) (h2 : Dp K H y e) (s1 : SeqAt.shaped d = true) (s2 : SeqAt.shaped e = true) (p1 : plain d = true) (p2 : plain e = true) (hc : d = e ↔ c) (h : Q (.bl (decide c)) H) : rEqG K x y H Q := by
  refine .inr ⟨d, e, h1, h2, s1, s2, ?_⟩
  have := eqv_iff d e p1 p2
  rw [show PyData.eqv d e = decide c by rw [Bool.eq_iff_iff, this, hc]; simp]
  exact h
theorem r_neD {d e : PyData} {x y : V} {c : Prop} [Decidable c] (h1 : Dp K H x d) (h2 : Dp K H y e) (s1 : SeqAt.shaped d = true) (s2 : SeqAt.shaped e = true) (p1 : plain d = true) (p2 : plain e = true) (hc : d = e ↔ c) (h : Q (.bl (!decide c)) H) : rNeG K x y H Q := by
  refine .inr ⟨d, e, h1, h2, s1, s2, ?_⟩
  have := eqv_iff d e p1 p2
  rw [show PyData.eqv d e = decide c by rw [Bool.eq_iff_iff, this, hc]; simp]
  exact h
theorem strOk_mk {l : List Nat} (h : Asc l) : PyData.strOk (mkS l) = true := by
  unfold PyData.strOk
  rw [← Array.all_toList, List.all_eq_true]
  intro c hc
  have := h c hc
  exact decide_eq_true (by omega)
theorem lay_strs : ∀ {ls : List (List Nat)}, (∀ l ∈ ls, Asc l) → PyData.canLayAll0 (ls.map S) = true
  | [], _ => rfl
  | l :: ls, h => by
    show (PyData.canLay0 (S l) && PyData.canLayAll0 (ls.map S)) = true
    rw [lay_strs fun x hx => h x (List.mem_cons_of_mem _ hx), Bool.and_true]
    exact strOk_mk (h l List.mem_cons_self)
theorem depth_strs : ∀ ls : List (List Nat), PyData.depthAll (ls.map S) = 0
  | [] => rfl
  | l :: ls => by
    show max (PyData.depth (S l)) (PyData.depthAll (ls.map S)) = 0
    rw [depth_strs ls]; rfl
theorem plain_strs : ∀ ls : List (List Nat), plainAll (ls.map S) = true
  | [] => rfl
  | l :: ls => by
    show (plain (S l) && plainAll (ls.map S)) = true
    rw [plain_strs ls]; rfl
theorem strs_inj {as bs : List (List Nat)} : as.map S = bs.map S ↔ as = bs := by
  constructor
  · intro h
    induction as generalizing bs with
    | nil => cases bs with
      | nil => rfl
      | cons _ _ => simp at h
    | cons a as ih => cases bs with
      | nil => simp at h
      | cons b bs =>
        simp only [List.map_cons, List.cons.injEq] at h
        have e : mkS a = mkS b := by injection h.1
        rw [mkS_inj e, ih h.2]
  · intro h; rw [h]
theorem shaped_list {ds : List PyData} (h : PyData.canLayAll0 ds = true) (hd : PyData.depthAll ds ≤ 60) : SeqAt.shaped (.list ds) = true := by
  unfold SeqAt.shaped
  rw [Bool.and_eq_true]
  exact ⟨h, decide_eq_true (by show PyData.depthAll ds + 1 ≤ 64; omega)⟩
theorem shaped_tup {ds : List PyData} (h : PyData.canLayAll0 ds = true) (hd : PyData.depthAll ds ≤ 60) : SeqAt.shaped (.tuple ds) = true := by
  unfold SeqAt.shaped
  rw [Bool.and_eq_true]
  exact ⟨h, decide_eq_true (by show PyData.depthAll ds + 1 ≤ 64; omega)⟩
theorem shaped_strs {ls : List (List Nat)} (h : ∀ l ∈ ls, Asc l) : SeqAt.shaped (.list (ls.map S)) = true := shaped_list (lay_strs h) (by rw [depth_strs]; decide)
/-- lists of texts -/
theorem r_eqLs {p q : Addr} {as bs : List (List Nat)} (h1 : SqL K H p (as.map T)) (h2 : SqL K H q (bs.map T)) (a1 : ∀ l ∈ as, Asc l) (a2 : ∀ l ∈ bs, Asc l) (h : Q (.bl (decide (as = bs))) H) : rEqG K (.ref p) (.ref q) H Q :=
  r_eqD (dp_all (dpAll_strs as) h1) (dp_all (dpAll_strs bs) h2) (shaped_strs a1) (shaped_strs a2) (plain_strs as) (plain_strs bs) (by rw [PyData.list.injEq]; exact strs_inj) h
theorem r_neLs {p q : Addr} {as bs : List (List Nat)} (h1 : SqL K H p (as.map T)) (h2 : SqL K H q (bs.map T)) (a1 : ∀ l ∈ as, Asc l) (a2 : ∀ l ∈ bs, Asc l) (h : Q (.bl (!decide (as = bs))) H) : rNeG K (.ref p) (.ref q) H Q :=
  r_neD (dp_all (dpAll_strs as) h1) (dp_all (dpAll_strs bs) h2) (shaped_strs a1) (shaped_strs a2) (plain_strs as) (plain_strs bs) (by rw [PyData.list.injEq]; exact strs_inj) h
/-- tuples of texts -/
theorem dp_allT {vs : List V} {ds : List PyData} (h : DpAll K H vs ds) {p : Addr} (e : SqT K H p vs) : Dp K H (.ref p) (.tuple ds) := .tup e h
theorem r_eqTs {p q : Addr} {as bs : List (List Nat)} (h1 : SqT K H p (as.map T)) (h2 : SqT K H q (bs.map T)) (a1 : ∀ l ∈ as, Asc l) (a2 : ∀ l ∈ bs, Asc l) (h : Q (.bl (decide (as = bs))) H) : rEqG K (.ref p) (.ref q) H Q :=
  r_eqD (dp_allT (dpAll_strs as) h1) (dp_allT (dpAll_strs bs) h2) (shaped_tup (lay_strs a1) (by rw [depth_strs]; decide)) (shaped_tup (lay_strs a2) (by rw [depth_strs]; decide)) (plain_strs as) (plain_strs bs) (by rw [PyData.tuple.injEq]; exact strs_inj) h
theorem lay_ints : ∀ ns : List Int, PyData.canLayAll0 (ns.map PyData.int) = true
  | [] => rfl
  | n :: ns => by
    show (true && PyData.canLayAll0 (ns.map PyData.int)) = true
    rw [lay_ints ns]; rfl
theorem depth_ints : ∀ ns : List Int, PyData.depthAll (ns.map PyData.int) = 0
  | [] => rfl
  | n :: ns => by
    show max 0 (PyData.depthAll (ns.map PyData.int)) = 0
    rw [depth_ints ns]; rfl
theorem plain_ints : ∀ ns : List Int, plainAll (ns.map PyData.int) = true
  | [] => rfl
  | n :: ns => by
    show (true && plainAll (ns.map PyData.int)) = true
    rw [plain_ints ns]; rfl
theorem ints_inj {as bs : List Int} : as.map PyData.int = bs.map PyData.int ↔ as = bs := by
  constructor
  · intro h
    induction as generalizing bs with
    | nil => cases bs with
      | nil => rfl
      | cons _ _ => simp at h
    | cons a as ih => cases bs with
      | nil => simp at h
      | cons b bs =>
        simp only [List.map_cons, List.cons.injEq] at h
        have e : a = b := by injection h.1
        rw [e, ih h.2]
  · intro h; rw [h]
theorem r_neLi {p q : Addr} {as bs : List Int} (h1 : SqL K H p (as.map V.int)) (h2 : SqL K H q (bs.map V.int)) (h : Q (.bl (!decide (as = bs))) H) : rNeG K (.ref p) (.ref q) H Q :=
  r_neD (dp_all (dpAll_ints as) h1) (dp_all (dpAll_ints bs) h2) (shaped_list (lay_ints as) (by rw [depth_ints]; decide)) (shaped_list (lay_ints bs) (by rw [depth_ints]; decide)) (plain_ints as) (plain_ints bs) (by rw [PyData.list.injEq]; exact ints_inj) h
theorem r_wipe {a b : L2.St} {vs : List Nat} {P : Prop} (e : wipe a vs = wipe b vs) (h : P) : wipe a vs = wipe b vs ∧ P := ⟨e, h⟩
theorem r_yes {σ : L2.St} {QB : Bool → Hp → Prop} (h : QB true H) : tYes σ H QB := h
theorem r_ifNT {A B : Prop} (h : B) : if (!true) = true then A else B := h
theorem r_ifNF {A B : Prop} (h : A) : if (!false) = true then A else B := h
theorem at_last {α : Type} {xs : List α} {v : α} (h : xs.getLast? = some v) : atI xs (-1) = some v := by
  obtain ⟨ys, rfl⟩ : ∃ ys, xs = ys ++ [v] := List.getLast?_eq_some_iff.mp h
  exact atI_last ys v
/-- the last of a stack that is held bottom first -/
theorem last_rev {s : List Nat} {t : Nat} {r : List Nat} (h : s = t :: r) : atI (s.reverse.map fun c => T [c]) (-1) = some (T [t]) := by
  apply at_last; rw [h]; simp
theorem pop_rev {s : List Nat} {t : Nat} {r : List Nat} (h : s = t :: r) : (s.reverse.map fun c => T [c])[(s.reverse.map fun c => T [c]).length - 1]? = some (T [t]) ∧ (s.reverse.map fun c => T [c]).dropLast = r.reverse.map fun c => T [c] := by
  subst h
  simp
theorem ones_T (l : List Nat) : (l.map fun c => T [c]) = (l.map fun c => [c]).map T := by rw [List.map_map]; rfl
theorem ones_flat (l : List Nat) : (l.map fun c => [c]).flatten = l := by
  induction l with
  | nil => rfl
  | cons a l ih => simp only [List.map_cons, List.flatten_cons, ih]; rfl
theorem take_snoc {l : List Nat} {i : Nat} {c : Nat} (h : l[i]? = some c) : l.take (i + 1) = l.take i ++ [c] := by rw [List.take_add_one, h]; rfl
theorem at_nat {l : List Nat} {i : Int} (h0 : 0 ≤ i) (h : i < l.length) : atI l i = some (l.getD i.toNat 0) := by
  obtain ⟨k, rfl⟩ : ∃ k : Nat, i = k := ⟨i.toNat, by omega⟩
  have hk : k < l.length := by omega
  rw [Int.toNat_natCast]
  exact atI_nat (by rw [List.getD_eq_getElem?_getD, List.getElem?_eq_getElem hk]; rfl)
theorem at_neg {l : List Nat} {k : Nat} (h : k < l.length) : atI l (-1 - (k : Int)) = some (l.getD (l.length - 1 - k) 0) := by
  have e : ixN l.length (-1 - (k : Int)) = some (l.length - 1 - k) := by
    unfold ixN
    rw [if_neg (by omega), if_pos (by omega)]
    congr 1; omega
  unfold atI
  rw [e]
  show l[l.length - 1 - k]? = _
  rw [List.getD_eq_getElem?_getD, List.getElem?_eq_getElem (by omega)]; rfl
/-- the well at a: its numbers; n draws at most were made of the mixed ones -/
def Wl (H : Hp) (a : Addr) (n : Nat) : Prop := ∃ w0 w1 w2 : Int, H a = some (.lst [.int w0, .int w1, .int w2]) ∧ 0 ≤ w0 ∧ 0 ≤ w1 ∧ w1 < 2 ^ 130 ∧ 0 ≤ w2 ∧ w2 ≤ n
theorem Wl.same {H H' : Hp} {a : Addr} {n : Nat} (w : Wl H a n) (s : Same H H') : Wl H' a n := by
  obtain ⟨w0, w1, w2, e, r⟩ := w
  exact ⟨w0, w1, w2, s _ _ e, r⟩
theorem Wl.new {H : Hp} {a p : Addr} {n : Nat} {o : HO} (w : Wl H a n) (h : H p = none) : Wl (upd H p o) a n := w.same (Same.new1 h)
theorem Wl.mono {H : Hp} {a : Addr} {n m : Nat} (w : Wl H a n) (h : n ≤ m) : Wl H a m := by
  obtain ⟨w0, w1, w2, e, h0, h1, h2, h3, h4⟩ := w
  exact ⟨w0, w1, w2, e, h0, h1, h2, h3, by omega⟩
theorem Wl.ne {H : Hp} {a p : Addr} {n : Nat} (w : Wl H a n) (h : H p = none) : p ≠ a := by
  obtain ⟨w0, w1, w2, e, _⟩ := w
  exact (ne_of_none e h).symm
/-- a change of another object leaves the well -/
theorem Wl.put {H : Hp} {a p : Addr} {n : Nat} {o : HO} (w : Wl H a n) (h : p ≠ a) : Wl (upd H p o) a n := by
  obtain ⟨w0, w1, w2, e, r⟩ := w
  exact ⟨w0, w1, w2, by rw [upd_ne h.symm]; exact e, r⟩
theorem cut_from (l : List Nat) (j : Nat) : cutL l (some (j : Int)) none = l.drop j := by
  unfold cutL
  rw [HT.sIx_none, HT.sIx_nat]
  by_cases h : j ≤ l.length
  · rw [Nat.min_eq_left h, List.take_of_length_le (by rw [List.length_drop]; omega)]
  · rw [Nat.min_eq_right (by omega), List.drop_length, List.drop_of_length_le (by omega)]; simp
theorem cut_to (l : List Nat) (j : Nat) : cutL l none (some (j : Int)) = l.take j := by
  unfold cutL
  rw [HT.sIx_none, HT.sIx_nat, List.drop_zero, Nat.sub_zero]
  by_cases h : j ≤ l.length
  · rw [Nat.min_eq_left h]
  · rw [Nat.min_eq_right (by omega), List.take_length, List.take_of_length_le (by omega)]
theorem cut_mid (l : List Nat) (i j : Nat) : cutL l (some (i : Int)) (some (j : Int)) = (l.take j).drop i := by
  unfold cutL
  rw [HT.sIx_nat, HT.sIx_nat, List.drop_take]
  by_cases hj : j ≤ l.length
  · by_cases hi : i ≤ l.length
    · rw [Nat.min_eq_left hj, Nat.min_eq_left hi]
    · rw [Nat.min_eq_right (by omega : l.length ≤ i), List.drop_length, List.drop_of_length_le (by omega : l.length ≤ i)]; simp
  · rw [Nat.min_eq_right (by omega : l.length ≤ j)]
    by_cases hi : i ≤ l.length
    · rw [Nat.min_eq_left hi, List.take_of_length_le (by rw [List.length_drop]; omega), List.take_of_length_le (by rw [List.length_drop]; omega)]
    · rw [Nat.min_eq_right (by omega : l.length ≤ i), List.drop_length, List.drop_of_length_le (by omega : l.length ≤ i)]; simp
theorem fm_filter {α : Type} (p : Nat → Bool) (f : Nat → α) : ∀ l : List Nat, l.filterMap (fun k => if p k = true then some (f k) else none) = (l.filter p).map f
  | [] => rfl
  | a :: l => by
    have ih := fm_filter p f l
    cases h : p a with
    | true => rw [List.filterMap_cons, List.filter_cons, h]; simp [ih]
    | false => rw [List.filterMap_cons, List.filter_cons, h]; simp [ih]
theorem getD_some {l : List Nat} {i : Nat} (h : i < l.length) : l[i]? = some (l.getD i 0) := by
  rw [List.getD_eq_getElem?_getD, List.getElem?_eq_getElem h]; rfl
theorem getD_mem {l : List Nat} {i : Nat} (h : i < l.length) : l.getD i 0 ∈ l := List.mem_of_getElem? (getD_some h)
end
end NX
namespace NX
open PySem PySem.Spec PyProof.Rows L2
/-! ### the rules with the written part named -/
section
variable {X : Cx} {K : PySem.W.Frag} {a b e l o : Expr} {es rest : List Expr} {ta tb te tl to : TE} {t : TA} {pos apos cpos : Pos} {tg : Expr}
theorem op_addK (K : PySem.W.Frag) (hK : X.K = K := by rfl) : OpR X (binaryOp .Add) (rAddG K) := hK ▸ op_addG
theorem op_eqK (K : PySem.W.Frag) (hu : X.A.units + 64 < cLine) (hK : X.K = K := by rfl) : OpR X (compareOp .Eq) (rEqG K) := hK ▸ op_eqG hu
theorem op_neK (K : PySem.W.Frag) (hu : X.A.units + 64 < cLine) (hK : X.K = K := by rfl) : OpR X (compareOp .NotEq) (rNeG K) := hK ▸ op_neG hu
theorem op_inK (K : PySem.W.Frag) (hK : X.K = K := by rfl) : OpR X (compareOp .In) (rInG K) := hK ▸ op_inG
theorem op_notInK (K : PySem.W.Frag) (hK : X.K = K := by rfl) : OpR X (compareOp .NotIn) (rNotInG K) := hK ▸ op_notInG
theorem sl_K (K : PySem.W.Frag) (hK : X.K = K := by rfl) : SlR X (rSlG K) := hK ▸ sl_G
theorem ix_K (K : PySem.W.Frag) (hK : X.K = K := by rfl) : IxR X (rIx K) := hK ▸ ix_seq
theorem pe_revK (K : PySem.W.Frag) {k : Nat} {p1 p2 p3 : Pos} (he : PE X e te) (hK : X.K = K := by rfl) : PE X (.Subscript e (.Slice none none (some (.UnaryOp .USub (.Constant (.int 1) k p1) p2)) p3) pos) (tRevS K te) := hK ▸ pe_revG he
theorem call_lenK (K : PySem.W.Frag) (hK : X.K = K := by rfl) : CallR X (.builtin "len") (fun xs H Q => ∃ x n, xs = [x] ∧ LenV K x H n ∧ Q (.int n) H) := hK ▸ call_lenG
theorem cr_allK (K : PySem.W.Frag) (hc : X.calm = true) (hK : X.K = K := by rfl) : CallR X (.builtin "all") (rAll K) := hK ▸ cr_all hc
theorem cr_anyK (K : PySem.W.Frag) (hc : X.calm = true) (hK : X.K = K := by rfl) : CallR X (.builtin "any") (rAny K) := hK ▸ cr_any hc
theorem pi_K (K : PySem.W.Frag) (hl : PE X l tl) (hK : X.K = K := by rfl) : PI X tg l (iG K tl) := hK ▸ pi_G hl
theorem pe_andK (K : PySem.W.Frag) (ha : PE X a ta) (hb : PE X (.BoolOp .And (b :: rest) pos) tb) (hK : X.K = K := by rfl) : PE X (.BoolOp .And (a :: b :: rest) pos) (tAndT K ta tb) := hK ▸ pe_andT ha hb
theorem pe_orK (K : PySem.W.Frag) (ha : PE X a ta) (hb : PE X (.BoolOp .Or (b :: rest) pos) tb) (hK : X.K = K := by rfl) : PE X (.BoolOp .Or (a :: b :: rest) pos) (tOrT K ta tb) := hK ▸ pe_orT ha hb
theorem pe_notK (K : PySem.W.Frag) (ha : PE X a ta) (hK : X.K = K := by rfl) : PE X (.UnaryOp .Not a pos) (tNotT K ta) := hK ▸ pe_notT ha
def tTru (K : PySem.W.Frag) (ta : TE) : TT := fun σ H Q => ta σ H fun x H' => ∃ k, TruV K x H' k ∧ Q k H'
theorem pt_truK (K : PySem.W.Frag) (ha : PE X a ta) (he : ∀ whole, isTrue a X.env whole = (do let v ← whole; standAt a.pos; holding [v] (truthy v))) (hK : X.K = K := by rfl) : PT X a (tTru K ta) := hK ▸ pt_truth ha he
theorem r_tru {σ : L2.St} {H : Hp} {QB : Bool → Hp → Prop} (h : ta σ H fun x H' => ∃ k, TruV K x H' k ∧ QB k H') : tTru K ta σ H QB := h
theorem pe_joinK (K : PySem.W.Frag) (ho : PE X o to) (he : PE X e te) (hK : X.K = K := by rfl) (hs : starEach [e] X.env = [(false, eval e X.env)] := by rfl) (hbase : attributeBase o "join" X.env (eval o X.env) = eval o X.env := by rfl) (hline : (apos.endLine == pos.line) = true := by rfl) :
    PE X (.Call (.Attribute o "join" apos) [e] [] pos) (tM1 (rJoin K) to te) := hK ▸ pe_join ho he hs hbase hline
theorem pe_bmK (K : PySem.W.Frag) {T id : String} {name : Str} {r : V → List V → Hp → VK → Prop} (pa : PlainAttrs T) (slot : Slot T name id) (hty : typeOf (.builtin id) = pure (.type "method_descriptor")) (hm : MtR X id r) (ho : PE X o to) (ha : PA X (e :: es) t)
    (hK : X.K = K := by rfl) (hbase : attributeBase o name X.env (eval o X.env) = eval o X.env := by rfl)
    (hfew : ((backTo cpos (starEach (e :: es) X.env)).all (fun x => !x.1) && (backToKw cpos (keywordEach [] X.env)).all (fun x => x.1.isSome)
      && decide ((e :: es).length + ([] : List Keyword).length + (if ([] : List Keyword).isEmpty then 0 else 1) < 30)) = true := by rfl)
    (hline : (apos.endLine == cpos.line) = true := by rfl) (hs : starEach (e :: es) X.env = (false, eval e X.env) :: starEach es X.env := by rfl) (hplain : (backTo cpos (starEach es X.env)).any (·.1) = false := by rfl) :
    PE X (.Call (.Attribute o name apos) (e :: es) [] cpos) (tBM K T r to t) := hK ▸ pe_bm pa slot hty hm ho ha hbase hfew hline hs hplain
theorem pe_bm0K (K : PySem.W.Frag) {T id : String} {name : Str} {r : V → List V → Hp → VK → Prop} (pa : PlainAttrs T) (slot : Slot T name id) (hty : typeOf (.builtin id) = pure (.type "method_descriptor")) (hm : MtR X id r) (ho : PE X o to)
    (hK : X.K = K := by rfl) (hbase : attributeBase o name X.env (eval o X.env) = eval o X.env := by rfl) (hline : (apos.endLine == cpos.line) = true := by rfl) : PE X (.Call (.Attribute o name apos) [] [] cpos) (tBM0 K T r to) :=
  hK ▸ pe_bm0 pa slot hty hm ho hbase hline
theorem pg_tupK (K : PySem.W.Frag) {k : Nat} {t : TGs} {n : Nat} (hc : X.calm = true) (h : PGs X es t) (hK : X.K = K := by rfl)
    (hn : (assignEach es X.env).length = n := by rfl) (hst : (assignEach es X.env).findIdx? (·.1) = none := by rfl) : PG X (.Tuple es k pos) (gTup K n t) := hK ▸ pg_tup hc h hn hst
end
end NX
namespace NX
open PySem PySem.Spec PyProof.Rows L2
section
variable {X : Cx}
/-- repr of what is no object -/
def rpV : V → Str
  | .non => "None"
  | .bl b => if b then "True" else "False"
  | .int i => toString i
  | .str x => reprText x
  | _ => ""
def rpOk : V → Prop
  | .non => True
  | .bl _ => True
  | .int i => i.natAbs.log2 < 1920
  | .str x => (reprText x).length ≤ sizeLine
  | _ => False
def rRepr : List V → Hp → VK → Prop := fun xs H Q => ∃ v, xs = [v] ∧ rpOk v ∧ Q (.str (rpV v)) H
theorem call_reprG : CallR X (.builtin "repr") rRepr := by
  intro pins s σ H xs us Q I r h
  obtain ⟨v, rfl, ok, q⟩ := h
  obtain ⟨u, rfl, rx⟩ := vals1 r
  cases v with
  | non => cases (show u = Value.none from rx); exact PySem.P.repr_of_none ⟨.str _, H, I.tok _, ⟨_, rfl⟩, q⟩
  | bl b => cases (show u = Value.bool b from rx); exact PySem.P.repr_of_bool ⟨.str _, H, I.tok _, ⟨_, rfl⟩, q⟩
  | int i => obtain ⟨t, rfl⟩ := rx; exact PySem.P.repr_of_int ok ⟨.str _, H, I.tok _, ⟨_, rfl⟩, q⟩
  | str x => obtain ⟨t, rfl⟩ := rx; exact PySem.P.repr_of_str (hsz := ok) ⟨.str _, H, I.tok _, ⟨_, rfl⟩, q⟩
  | _ => exact (show False from ok).elim
/-- is -/
def rIsG : R2 := fun x y H Q => (y = .non ∧ Q (.bl (decide (x = .non))) H) ∨ rIsB x y H Q
def rIsNotG : R2 := fun x y H Q => (y = .non ∧ Q (.bl (!decide (x = .non))) H) ∨ rNotB x y H Q
theorem op_isG : OpR X (compareOp .Is) rIsG := by
  intro pins s σ H x y v u Q I rx ry h
  rcases h with h | h
  · exact op_isN pins s σ H x y v u Q I rx ry h
  · exact op_isBl pins s σ H x y v u Q I rx ry h
theorem op_isNotG : OpR X (compareOp .IsNot) rIsNotG := by
  intro pins s σ H x y v u Q I rx ry h
  rcases h with h | h
  · exact op_notN pins s σ H x y v u Q I rx ry h
  · exact op_notBl pins s σ H x y v u Q I rx ry h
variable {K : PySem.W.Frag} {H : Hp} {Q : VK}
theorem r_isNN (h : Q (.bl true) H) : rIsG .non .non H Q := .inl ⟨rfl, by simpa using h⟩
theorem r_isSN {s : Str} (h : Q (.bl false) H) : rIsG (.str s) .non H Q := .inl ⟨rfl, by simpa using h⟩
theorem r_isnNN (h : Q (.bl false) H) : rIsNotG .non .non H Q := .inl ⟨rfl, by simpa using h⟩
end
end NX
namespace NX
/-! ### rows as a group -/
theorem stk_app (a b : List Nat) : stk (a ++ b) = b.foldl push (stk a) := by simp [stk]
theorem snoc_ind {P : List Nat → Prop} (h0 : P []) (h1 : ∀ a c, P a → P (a ++ [c])) (l : List Nat) : P l := by
  have : ∀ n (l : List Nat), l.length = n → P l := by
    intro n
    induction n with
    | zero => intro l h; rw [List.length_eq_zero_iff.mp h]; exact h0
    | succ n ih =>
      intro l h
      have hne : l ≠ [] := by intro e; subst e; simp at h
      rw [← List.dropLast_concat_getLast hne]
      exact h1 _ _ (ih _ (by simp [h]))
  exact this _ l rfl
theorem fold_red {s : List Nat} (hs : FreeS s) (hr : Row s) (b : List Nat) : Row b → b.foldl push s = (red b).foldl push s := by
  induction b using snoc_ind with
  | h0 => intro _; rfl
  | h1 b c ih =>
    intro hb
    obtain ⟨h1, h2⟩ := hb.of_app
    have hc : lett c = true := h2.of_cons.1
    have ih' := ih h1
    rw [List.foldl_append, ih']
    show push ((red b).foldl push s) c = _
    unfold red at *
    rw [stk_snoc]
    cases e : stk b with
    | nil => rfl
    | cons t r =>
      rw [push_cons]
      split
      · rename_i h
        rw [List.reverse_cons, List.foldl_append]
        show push (push _ t) c = _
        rw [h]
        have hrr : Row r := (e ▸ stk_row h1).of_cons.2
        exact push_push' (foldl_free _ hs) (foldl_row hrr.rev hr) hc
      · rw [List.reverse_cons (a := c), List.foldl_append]
        rfl
theorem red_app {a b : List Nat} (ha : Row a) (hb : Row b) : red (a ++ b) = red (red a ++ red b) := by
  have h1 : stk (red a) = stk a := by
    have := red_red ha
    unfold red at this ⊢
    exact List.reverse_inj.mp this
  unfold red
  rw [stk_app, fold_red (stk_free a) (stk_row ha) b hb]
  show _ = (stk (red a ++ red b)).reverse
  rw [stk_app, h1]
/-- freely alike -/
def Eqv (a b : List Nat) : Prop := Row a ∧ Row b ∧ red a = red b
theorem Eqv.refl {a : List Nat} (h : Row a) : Eqv a a := ⟨h, h, rfl⟩
theorem Eqv.symm {a b : List Nat} (h : Eqv a b) : Eqv b a := ⟨h.2.1, h.1, h.2.2.symm⟩
theorem Eqv.trans {a b c : List Nat} (h : Eqv a b) (g : Eqv b c) : Eqv a c := ⟨h.1, g.2.1, h.2.2.trans g.2.2⟩
theorem Eqv.app {a b c d : List Nat} (h : Eqv a b) (g : Eqv c d) : Eqv (a ++ c) (b ++ d) :=
  ⟨h.1.app g.1, h.2.1.app g.2.1, by rw [red_app h.1 g.1, red_app h.2.1 g.2.1, h.2.2, g.2.2]⟩
theorem Eqv.red {a : List Nat} (h : Row a) : Eqv (NX.red a) a := ⟨h.red, h, red_red h⟩
theorem Eqv.self {a : List Nat} (h : Row a) : Eqv (a ++ NX.bak a) [] := ⟨h.app h.bak, Row.nil, red_self h⟩
theorem Eqv.self' {a : List Nat} (h : Row a) : Eqv (NX.bak a ++ a) [] := ⟨h.bak.app h, Row.nil, red_self' h⟩
theorem Eqv.appL {b c : List Nat} (a : List Nat) (ha : Row a) (g : Eqv b c) : Eqv (a ++ b) (a ++ c) := (Eqv.refl ha).app g
theorem Eqv.appR {a b : List Nat} (c : List Nat) (hc : Row c) (g : Eqv a b) : Eqv (a ++ c) (b ++ c) := g.app (Eqv.refl hc)
theorem Eqv.cancelL {a b c : List Nat} (ha : Row a) (hb : Row b) (hc : Row c) (h : Eqv (a ++ b) (a ++ c)) : Eqv b c := by
  have h1 := h.appL (NX.bak a) ha.bak
  rw [← List.append_assoc, ← List.append_assoc] at h1
  have h2 : Eqv (NX.bak a ++ a ++ b) b := by simpa using (Eqv.self' ha).appR b hb
  have h3 : Eqv (NX.bak a ++ a ++ c) c := by simpa using (Eqv.self' ha).appR c hc
  exact h2.symm.trans (h1.trans h3)
/-- backs of alike rows -/
theorem Eqv.bak {a b : List Nat} (h : Eqv a b) : Eqv (NX.bak a) (NX.bak b) := by
  obtain ⟨ha, hb, e⟩ := id h
  refine Eqv.cancelL ha ha.bak hb.bak ?_
  have h1 : Eqv (a ++ NX.bak b) (b ++ NX.bak b) := h.appR _ hb.bak
  exact (Eqv.self ha).trans ((Eqv.self hb).symm.trans h1.symm)
/-- rows that pass by one another -/
def Com (a b : List Nat) : Prop := Eqv (a ++ b) (b ++ a)
theorem Com.symm {a b : List Nat} (h : Com a b) : Com b a := Eqv.symm h
theorem Com.refl {a : List Nat} (h : Row a) : Com a a := Eqv.refl (h.app h)
theorem Com.nil {a : List Nat} (h : Row a) : Com a [] := by unfold Com; simpa using Eqv.refl h
theorem Com.app {a b c : List Nat} (ha : Row a) (hb : Row b) (hc : Row c) (h : Com a b) (g : Com a c) : Com a (b ++ c) := by
  have h1 : Eqv (a ++ b ++ c) (b ++ a ++ c) := Eqv.appR c hc h
  have h2 : Eqv (b ++ (a ++ c)) (b ++ (c ++ a)) := Eqv.appL b hb g
  simp only [List.append_assoc] at h1 h2
  unfold Com
  simp only [List.append_assoc]
  exact h1.trans h2
theorem Com.bak {a b : List Nat} (ha : Row a) (hb : Row b) (h : Com a b) : Com a (NX.bak b) := by
  -- b · (a · b⁻¹) = a = b · (b⁻¹ · a)
  unfold Com
  refine Eqv.cancelL hb (ha.app hb.bak) (hb.bak.app ha) ?_
  have h1 : Eqv (b ++ a ++ NX.bak b) (a ++ b ++ NX.bak b) := Eqv.appR _ hb.bak (Eqv.symm h)
  have h2 : Eqv (a ++ (b ++ NX.bak b)) (a ++ []) := Eqv.appL a ha (Eqv.self hb)
  have h3 : Eqv (b ++ NX.bak b ++ a) ([] ++ a) := Eqv.appR a ha (Eqv.self hb)
  simp only [List.append_assoc, List.append_nil, List.nil_append] at h1 h2 h3 ⊢
  exact h1.trans (h2.trans h3.symm)
theorem repL_succ (l : List Nat) (n : Nat) : repL l (n + 1) = l ++ repL l n := by simp [repL, List.replicate_succ]
theorem repL_zero (l : List Nat) : repL l 0 = [] := rfl
theorem Com.rep {a b : List Nat} (ha : Row a) (hb : Row b) (h : Com a b) : ∀ n, Com a (repL b n)
  | 0 => Com.nil ha
  | n + 1 => by rw [repL_succ]; exact Com.app ha hb (hb.rep n) h (Com.rep ha hb h n)
theorem bak_repL (l : List Nat) : ∀ n, bak (repL l n) = repL (bak l) n
  | 0 => rfl
  | n + 1 => by
    rw [repL_succ, bak_app, bak_repL l n]
    have : ∀ m, repL (bak l) m ++ bak l = bak l ++ repL (bak l) m := by
      intro m
      induction m with
      | zero => simp [repL_zero]
      | succ m ih => rw [repL_succ, List.append_assoc, ih]
    rw [this, ← repL_succ]
/-- a power of i or of its back, within l -/
def PwrIn (i l v : List Nat) : Prop := ∃ u n, (u = i ∨ u = bak i) ∧ n ≤ 5 ∧ v = l ++ repL u n ++ bak l
theorem PwrIn.row {i l v : List Nat} (hi : Row i) (hl : Row l) (h : PwrIn i l v) : Row v := by
  obtain ⟨u, n, hu, _, rfl⟩ := h
  have ru : Row u := by rcases hu with e | e <;> subst e; exact hi; exact hi.bak
  exact (hl.app (ru.rep n)).app hl.bak
theorem PwrIn.len {i l v : List Nat} (h : PwrIn i l v) (li : i.length ≤ 8) (ll : l.length ≤ 8) : v.length ≤ 56 := by
  obtain ⟨u, n, hu, hn, rfl⟩ := h
  have lu : u.length ≤ 8 := by rcases hu with e | e <;> subst e; exact li; rw [bak_len]; exact li
  have := Nat.mul_le_mul hn lu
  simp only [List.length_append, repL_len, bak_len]
  omega
end NX
namespace NX
/-! ### the core of a row -/
theorem getD_mem' {l : List Nat} {i : Nat} (h : i < l.length) : l.getD i 0 ∈ l := by
  rw [List.getD_eq_getElem?_getD, List.getElem?_eq_getElem h]; exact List.getElem_mem h
def cstep (l : List Nat) (k : Nat) : Prop := 2 * k + 1 < l.length ∧ l.getD k 0 = swp (l.getD (l.length - 1 - k) 0)
instance (l : List Nat) (k : Nat) : Decidable (cstep l k) := by unfold cstep; exact inferInstance
def csz (l : List Nat) : Nat → Nat → Nat
  | 0, k => k
  | f + 1, k => if cstep l k then csz l f (k + 1) else k
/-- how many characters at the ends face their backs -/
def csize (l : List Nat) : Nat := csz l l.length 0
theorem csz_spec (l : List Nat) : ∀ (f k : Nat), l.length ≤ f + k → (∀ j, j < k → cstep l j) → (∀ j, j < csz l f k → cstep l j) ∧ ¬ cstep l (csz l f k)
  | 0, k, hf, h => ⟨h, fun c => by have h1 : 2 * k + 1 < l.length := c.1; omega⟩
  | f + 1, k, hf, h => by
    unfold csz
    by_cases c : cstep l k
    · rw [if_pos c]
      refine csz_spec l f (k + 1) (by omega) fun j hj => ?_
      by_cases e : j = k
      · rw [e]; exact c
      · exact h j (by omega)
    · rw [if_neg c]; exact ⟨h, c⟩
theorem csize_spec (l : List Nat) : (∀ j, j < csize l → cstep l j) ∧ ¬ cstep l (csize l) := csz_spec l l.length 0 (by omega) fun j hj => absurd hj (by omega)
theorem csize_eq {l : List Nat} {k : Nat} (h : ∀ j, j < k → cstep l j) (h2 : ¬ cstep l k) : csize l = k := by
  obtain ⟨a, b⟩ := csize_spec l
  rcases Nat.lt_trichotomy (csize l) k with c | c | c
  · exact absurd (h _ c) b
  · exact c
  · exact absurd (a _ c) h2
theorem csize_le (l : List Nat) : 2 * csize l ≤ l.length := by
  by_cases h : csize l = 0
  · omega
  · have := ((csize_spec l).1 (csize l - 1) (by omega)).1
    omega
def lead (l : List Nat) : List Nat := l.take (csize l)
def ring (l : List Nat) : List Nat := (l.take (l.length - csize l)).drop (csize l)
theorem Row.lead {l : List Nat} (h : Row l) : Row (lead l) := h.take _
theorem Row.ring {l : List Nat} (h : Row l) : Row (ring l) := (h.take _).drop _
theorem lead_len (l : List Nat) : (lead l).length = csize l := by
  have := csize_le l
  unfold lead; rw [List.length_take]; omega
theorem ring_len (l : List Nat) : (ring l).length = l.length - 2 * csize l := by
  have := csize_le l
  unfold ring; rw [List.length_drop, List.length_take]; omega
theorem getD_take {l : List Nat} {n i : Nat} (h : i < n) : (l.take n).getD i 0 = l.getD i 0 := by
  rw [List.getD_eq_getElem?_getD, List.getD_eq_getElem?_getD, List.getElem?_take_of_lt h]
theorem getD_drop (l : List Nat) (n i : Nat) : (l.drop n).getD i 0 = l.getD (n + i) 0 := by
  rw [List.getD_eq_getElem?_getD, List.getD_eq_getElem?_getD, List.getElem?_drop]
theorem getD_bak {l : List Nat} {i : Nat} (h : i < l.length) : (bak l).getD i 0 = swp (l.getD (l.length - 1 - i) 0) := by
  unfold bak
  rw [List.getD_eq_getElem?_getD, List.getD_eq_getElem?_getD, List.getElem?_map, List.getElem?_reverse h, List.getElem?_eq_getElem (by omega)]
  rfl
theorem ext_getD {a b : List Nat} (hl : a.length = b.length) (h : ∀ i, i < a.length → a.getD i 0 = b.getD i 0) : a = b := by
  apply List.ext_getElem hl
  intro i h1 h2
  have := h i h1
  rw [List.getD_eq_getElem?_getD, List.getD_eq_getElem?_getD, List.getElem?_eq_getElem h1, List.getElem?_eq_getElem h2] at this
  exact this
/-- lead, ring and the back of lead are the row -/
theorem core_join {l : List Nat} (hr : Row l) : lead l ++ ring l ++ bak (lead l) = l := by
  have hc := csize_le l
  have e1 : l = l.take (csize l) ++ ((l.take (l.length - csize l)).drop (csize l) ++ l.drop (l.length - csize l)) := by
    conv => lhs; rw [← List.take_append_drop (l.length - csize l) l, ← List.take_append_drop (csize l) (l.take (l.length - csize l))]
    rw [List.take_take, Nat.min_eq_left (by omega), List.append_assoc]
  have e2 : bak (lead l) = l.drop (l.length - csize l) := by
    apply ext_getD
    · rw [bak_len, lead_len, List.length_drop]; omega
    · intro i hi
      rw [bak_len, lead_len] at hi
      rw [getD_bak (by rw [lead_len]; exact hi), lead_len, getD_drop]
      unfold lead
      rw [getD_take (by omega)]
      have h := ((csize_spec l).1 (csize l - 1 - i) (by omega)).2
      rw [h, swp_swp (hr _ (getD_mem' (by omega)))]
      congr 1; omega
  rw [e2]
  conv => rhs; rw [e1]
  rw [List.append_assoc]; rfl
theorem free_app_l : ∀ {a b : List Nat}, Free (a ++ b) → Free a
  | [], _, _ => trivial
  | [_], _, _ => trivial
  | a :: c :: r, b, h => ⟨h.1, free_app_l (a := c :: r) h.2⟩
theorem free_app_r : ∀ {a b : List Nat}, Free (a ++ b) → Free b
  | [], _, h => h
  | [a], [], _ => trivial
  | [a], _ :: _, h => h.2
  | a :: c :: r, b, h => free_app_r (a := c :: r) h.2
theorem Free.take {l : List Nat} (h : Free l) (n : Nat) : Free (l.take n) := by
  rw [← List.take_append_drop n l] at h; exact free_app_l h
theorem Free.drop {l : List Nat} (h : Free l) (n : Nat) : Free (l.drop n) := by
  rw [← List.take_append_drop n l] at h; exact free_app_r h
theorem free_at : ∀ {l : List Nat} {k : Nat}, Free l → k + 1 < l.length → l.getD (k + 1) 0 ≠ swp (l.getD k 0)
  | [], _, _, h => by simp at h
  | [_], _, _, h => by simp at h
  | a :: b :: r, 0, h, _ => h.1
  | a :: b :: r, k + 1, h, hk => free_at (l := b :: r) (k := k) h.2 (by simpa using hk)
/-- the ring of a free row is a ring row; it is empty for the empty row alone -/
theorem ring_pos {l : List Nat} (hr : Row l) (hf : Free l) (hn : l ≠ []) : 0 < (ring l).length := by
  rw [ring_len]
  have hc := csize_le l
  have hl : 0 < l.length := List.length_pos_iff.mpr hn
  by_cases h0 : csize l = 0
  · omega
  · have h := (csize_spec l).1 (csize l - 1) (by omega)
    by_cases e : l.length = 2 * csize l
    · have h2 := free_at (k := csize l - 1) hf (by omega)
      exfalso
      apply h2
      rw [h.2, swp_swp (hr _ (getD_mem' (by omega)))]
      congr 1; omega
    · omega
end NX
namespace NX
open PySem PySem.Spec PyProof.Rows L2
section
variable {K : PySem.W.Frag} {σ : L2.St} {H : Hp} {Q : VK} {D : Ends}
theorem map_getD (ls : List (List Nat)) {i : Nat} (h : i < ls.length) : (ls.map T).getD i .non = T (ls.getD i []) := by
  rw [List.getD_eq_getElem?_getD, List.getD_eq_getElem?_getD, List.getElem?_map, List.getElem?_eq_getElem h]; rfl
theorem getD_memL {ls : List (List Nat)} {i : Nat} (h : i < ls.length) : ls.getD i [] ∈ ls := by
  rw [List.getD_eq_getElem?_getD, List.getElem?_eq_getElem h]; exact List.getElem_mem h
end
end NX
namespace NX
theorem red_bak_comm {l : List Nat} (h : Row l) : red (bak l) = bak (red l) := by
  have h1 : Eqv (bak l) (bak (red l)) := (Eqv.red h).symm.bak
  rw [h1.2.2]
  -- the back of a free row is free
  have hf : Free (bak (red l)) := by
    have hs := stk_free l
    have hr := stk_row h
    have : bak (red l) = (stk l).map swp := by unfold bak red; rw [List.reverse_reverse]
    rw [this]
    generalize stk l = s at hs hr
    clear h h1 this
    induction s with
    | nil => trivial
    | cons a s ih =>
      cases s with
      | nil => trivial
      | cons b s =>
        refine ⟨fun e => hs.1 ?_, ih hs.2 hr.of_cons.2⟩
        have e2 := congrArg swp e
        rw [swp_swp hr.of_cons.2.of_cons.1, swp_swp (swp_lett hr.of_cons.1)] at e2
        exact e2
  exact red_free hf h.red.bak
end NX
namespace NX
/-! ### rotations -/
def rot (l : List Nat) (i : Nat) : List Nat := l.drop i ++ l.take i
theorem rot_len (l : List Nat) (i : Nat) : (rot l i).length = l.length := by
  unfold rot; rw [List.length_append, List.length_drop, List.length_take]; omega
theorem rot_zero (l : List Nat) : rot l 0 = l := by simp [rot]
theorem rot_all (l : List Nat) : rot l l.length = l := by simp [rot]
theorem rot_rot (l : List Nat) {i j : Nat} (h : i + j ≤ l.length) : rot (rot l i) j = rot l (i + j) := by
  unfold rot
  rw [List.drop_append_of_le_length (by rw [List.length_drop]; omega), List.take_append_of_le_length (by rw [List.length_drop]; omega), List.drop_drop, List.append_assoc]
  congr 1
  rw [List.take_add]
theorem rot_mul {l : List Nat} {p : Nat} (h : rot l p = l) : ∀ q, q * p ≤ l.length → rot l (q * p) = l
  | 0, _ => by rw [Nat.zero_mul]; exact rot_zero l
  | q + 1, hq => by
    rw [Nat.succ_mul] at hq ⊢
    rw [← rot_rot l hq, rot_mul h q (by omega), h]
/-- the first turn that gives the row back -/
def IsPer (l : List Nat) (p : Nat) : Prop := 0 < p ∧ p ≤ l.length ∧ rot l p = l ∧ ∀ k, 0 < k → k < p → rot l k ≠ l
theorem isPer_exists {l : List Nat} (h : 0 < l.length) : ∃ p, IsPer l p := by
  have key : ∀ n, n ≤ l.length → (∃ p, IsPer l p) ∨ ∀ k, 0 < k → k ≤ n → rot l k ≠ l := by
    intro n
    induction n with
    | zero => intro _; exact .inr fun k h1 h2 => by omega
    | succ n ih =>
      intro hn
      rcases ih (by omega) with h1 | h1
      · exact .inl h1
      · by_cases e : rot l (n + 1) = l
        · exact .inl ⟨n + 1, by omega, hn, e, fun k a b => h1 k a (by omega)⟩
        · refine .inr fun k a b => ?_
          by_cases e2 : k = n + 1
          · rw [e2]; exact e
          · exact h1 k a (by omega)
  rcases key l.length (Nat.le_refl _) with h1 | h1
  · exact h1
  · exact absurd (rot_all l) (h1 _ h (Nat.le_refl _))
theorem IsPer.dvd {l : List Nat} {p d : Nat} (h : IsPer l p) (hd : d ≤ l.length) (e : rot l d = l) : p ∣ d := by
  obtain ⟨h0, h1, h2, h3⟩ := h
  have hdm := Nat.div_add_mod d p
  have hm := Nat.mod_lt d h0
  have hq : (d / p) * p ≤ l.length := by rw [Nat.mul_comm]; omega
  have e2 := rot_mul h2 (d / p) hq
  have e3 : rot l (d % p) = l := by
    have := rot_rot l (i := d / p * p) (j := d % p) (by rw [Nat.mul_comm]; omega)
    rw [e2] at this
    rw [this, Nat.mul_comm, hdm, e]
  have h4 : ¬ 0 < d % p := fun h5 => h3 _ h5 hm e3
  exact Nat.dvd_of_mod_eq_zero (by omega)
theorem IsPer.dvd_len {l : List Nat} {p : Nat} (h : IsPer l p) : p ∣ l.length := h.dvd (Nat.le_refl _) (rot_all l)
theorem IsPer.uniq {l : List Nat} {p q : Nat} (h : IsPer l p) (g : IsPer l q) : p = q := Nat.dvd_antisymm (h.dvd g.2.1 g.2.2.1) (g.dvd h.2.1 h.2.2.1)
theorem repL_take {l : List Nat} {p : Nat} (h : rot l p = l) : ∀ k, k * p ≤ l.length → l.take (k * p) = repL (l.take p) k
  | 0, _ => by simp [repL_zero]
  | k + 1, hk => by
    rw [Nat.succ_mul] at hk
    have e1 : l.take ((k + 1) * p) = l.take p ++ (l.drop p).take (k * p) := by rw [Nat.succ_mul, Nat.add_comm, List.take_add]
    have e2 : (l.drop p).take (k * p) = l.take (k * p) := by
      conv => rhs; rw [← h]
      unfold rot
      rw [List.take_append_of_le_length (by rw [List.length_drop]; omega)]
    rw [e1, e2, repL_take h k (by omega), repL_succ]
theorem IsPer.rep {l : List Nat} {p : Nat} (h : IsPer l p) : repL (l.take p) (l.length / p) = l := by
  have e := Nat.div_mul_cancel h.dvd_len
  rw [← repL_take h.2.2.1 _ (by rw [e]; exact Nat.le_refl _), e, List.take_length]
theorem repL_snoc (l : List Nat) : ∀ n, repL l n ++ l = repL l (n + 1)
  | 0 => by simp [repL_succ, repL_zero]
  | n + 1 => by rw [repL_succ, List.append_assoc, repL_snoc l n, ← repL_succ]
theorem rot_repL (l : List Nat) (n : Nat) : rot (repL l n) l.length = repL l n := by
  cases n with
  | zero => rw [repL_zero]; unfold rot; simp
  | succ n =>
    conv => rhs; rw [← repL_snoc]
    unfold rot
    rw [repL_succ, List.drop_left, List.take_left]
theorem repL_len' (l : List Nat) (n : Nat) : (repL l n).length = n * l.length := repL_len l n
/-- rows turned around -/
def Turn (R S : List Nat) : Prop := ∃ A B, R = A ++ B ∧ S = B ++ A
theorem Turn.refl (R : List Nat) : Turn R R := ⟨[], R, rfl, by simp⟩
theorem Turn.symm {R S : List Nat} (h : Turn R S) : Turn S R := by obtain ⟨A, B, h1, h2⟩ := h; exact ⟨B, A, h2, h1⟩
theorem Turn.trans {R S U : List Nat} (h : Turn R S) (g : Turn S U) : Turn R U := by
  obtain ⟨A, B, rfl, rfl⟩ := h
  obtain ⟨C, D, e, rfl⟩ := g
  rcases List.append_eq_append_iff.mp e with ⟨E, rfl, rfl⟩ | ⟨E, rfl, rfl⟩
  · exact ⟨E, D ++ B, by simp, by simp⟩
  · exact ⟨A ++ C, E, by simp, by simp⟩
theorem Turn.len {R S : List Nat} (h : Turn R S) : R.length = S.length := by obtain ⟨A, B, rfl, rfl⟩ := h; simp [Nat.add_comm]
theorem Turn.rot {R S : List Nat} (h : Turn R S) : ∃ i, i ≤ R.length ∧ S = NX.rot R i := by
  obtain ⟨A, B, rfl, rfl⟩ := h
  refine ⟨A.length, by simp, ?_⟩
  unfold NX.rot
  rw [List.drop_left, List.take_left]
theorem turn_rot (R : List Nat) (i : Nat) : Turn R (rot R i) := ⟨R.take i, R.drop i, (List.take_append_drop i R).symm, rfl⟩
theorem Turn.row {R S : List Nat} (h : Turn R S) (hr : Row R) : Row S := by
  obtain ⟨A, B, rfl, rfl⟩ := h; exact hr.of_app.2.app hr.of_app.1
/-- the turns of a row that gives itself back by d -/
theorem Turn.back {R S : List Nat} (h : Turn R S) {d : Nat} (hd : d ≤ R.length) (e : NX.rot R d = R) : NX.rot S d = S := by
  obtain ⟨i, hi, rfl⟩ := h.rot
  by_cases c : i + d ≤ R.length
  · rw [rot_rot R c, Nat.add_comm, ← rot_rot R (by omega), e]
  · have e1 : i + (R.length - i) = R.length := by omega
    have e2 : NX.rot (NX.rot R i) d = NX.rot (NX.rot (NX.rot R i) (R.length - i)) (d - (R.length - i)) := by
      rw [rot_rot (NX.rot R i) (by rw [rot_len]; omega)]
      congr 1; omega
    rw [e2, rot_rot R (by omega), e1, rot_all]
    -- rot R (d + i - n) = rot R i
    have e3 : NX.rot (NX.rot R d) (R.length - d) = R := by rw [rot_rot R (by omega), show d + (R.length - d) = R.length by omega, rot_all]
    rw [e] at e3
    have e4 : NX.rot R (d - (R.length - i)) = NX.rot (NX.rot R (R.length - d)) (d - (R.length - i)) := by rw [e3]
    rw [e4, rot_rot R (by omega)]
    congr 1; omega
theorem Turn.per {R S : List Nat} (h : Turn R S) {p : Nat} (hp : IsPer R p) : IsPer S p :=
  ⟨hp.1, by rw [← h.len]; exact hp.2.1, h.back hp.2.1 hp.2.2.1, fun k a b c => hp.2.2.2 k a b (h.symm.back (by have := h.len; have := hp.2.1; omega) c)⟩
/-! ### ring rows -/
theorem free_glue : ∀ {a b c : List Nat}, Free (a ++ b) → Free (b ++ c) → b ≠ [] → Free (a ++ (b ++ c))
  | [], _, _, _, h, _ => h
  | [x], [], _, _, _, hb => absurd rfl hb
  | [x], y :: b, c, h1, h2, _ => ⟨h1.1, h2⟩
  | x :: z :: a, b, c, h1, h2, hb => ⟨h1.1, free_glue (a := z :: a) h1.2 h2 hb⟩
theorem free_join : ∀ {a b : List Nat} {c d : Nat}, Free (a ++ [c]) → Free (d :: b) → d ≠ swp c → Free (a ++ [c] ++ d :: b) := fun {a b c d} h1 h2 h3 => by
  rw [List.append_assoc]
  exact free_glue (a := a) (b := [c]) (c := d :: b) h1 ⟨h3, h2⟩ (by simp)
def Cy (R : List Nat) : Prop := Row R ∧ Free (R ++ R)
theorem Cy.free {R : List Nat} (h : Cy R) : Free R := free_app_l h.2
theorem Cy.turn {R S : List Nat} (h : Cy R) (t : Turn R S) : Cy S := by
  refine ⟨t.row h.1, ?_⟩
  obtain ⟨A, B, rfl, rfl⟩ := t
  by_cases c : A ++ B = []
  · obtain ⟨rfl, rfl⟩ := List.append_eq_nil_iff.mp c; trivial
  · have h3 := free_glue h.2 h.2 c
    have : (A ++ B) ++ ((A ++ B) ++ (A ++ B)) = A ++ ((B ++ A ++ (B ++ A)) ++ B) := by simp
    rw [this] at h3
    exact free_app_l (free_app_r h3)
theorem cy_of {R : List Nat} (hr : Row R) (hf : Free R) (h : 0 < R.length → R.getD (R.length - 1) 0 ≠ swp (R.getD 0 0)) : Cy R := by
  refine ⟨hr, ?_⟩
  cases hR : R with
  | nil => trivial
  | cons d b =>
    have hne : R ≠ [] := by rw [hR]; simp
    obtain ⟨a, c, e⟩ : ∃ a c, R = a ++ [c] := ⟨R.dropLast, R.getLast hne, (List.dropLast_concat_getLast hne).symm⟩
    have h0 : 0 < R.length := by rw [hR]; simp
    have h1 := h h0
    have e1 : R.getD (R.length - 1) 0 = c := by rw [e]; simp
    have e2 : R.getD 0 0 = d := by rw [hR]; rfl
    rw [e1, e2] at h1
    rw [← hR]
    conv => rhs; lhs; rw [e]
    conv => rhs; rhs; rw [hR]
    refine free_join (by rw [← e]; exact hf) (by rw [← hR]; exact hf) ?_
    intro e3
    apply h1
    rw [e3, swp_swp (hr c (by rw [e]; simp))]
theorem free_bak {l : List Nat} (hr : Row l) (hf : Free l) : Free (bak l) := by
  have h := red_bak_comm hr
  rw [red_free hf hr] at h
  rw [← h]; exact free_red hr.bak
end NX
namespace NX
open PySem PySem.Spec PyProof.Rows L2
open Builtin Builtin.Str
/-! ### a text within a text -/
def AtL (l m : List Nat) (i : Nat) : Prop := i + m.length ≤ l.length ∧ (l.drop i).take m.length = m
theorem at_mkS (l m : List Nat) (i : Nat) : StrLaws.At (mkS l) (mkS m) (mkS l).length i ↔ AtL l m i := by
  unfold StrLaws.At AtL
  rw [StrLaws.subAt_eq, mkS_len, mkS_len, beq_iff_eq]; rfl
theorem subS_mk (l m : List Nat) : subS (mkS l) (mkS m) = true ↔ ∃ i, AtL l m i := by
  unfold subS
  rw [StrLaws.found_iff]
  exact ⟨fun ⟨i, h⟩ => ⟨i, (at_mkS l m i).mp h⟩, fun ⟨i, h⟩ => ⟨i, (at_mkS l m i).mpr h⟩⟩
theorem range1_split {n a : Nat} {pre post : List Nat} (h : List.range' 1 n = pre ++ a :: post) : ∀ k, 0 < k → k < a → k ∈ pre := by
  intro k hk0 hk
  have hL : n = pre.length + (post.length + 1) := by
    have := congrArg List.length h
    simpa using this
  have hlen : 1 + pre.length = a := by
    have h1 : (List.range' 1 n)[pre.length]? = some a := by rw [h]; simp
    rw [List.getElem?_range' (by omega)] at h1
    have := Option.some.inj h1
    omega
  have h2 : (List.range' 1 n)[k - 1]? = pre[k - 1]? := by rw [h, List.getElem?_append_left (by omega)]
  rw [List.getElem?_range' (by omega)] at h2
  have h3 : pre[k - 1]? = some k := by rw [← h2]; congr 1; omega
  exact List.mem_of_getElem? h3
theorem indexFrom_mk {l m : List Nat} {p : Nat} (h0 : 0 < p) (hp : AtL l m p) (hn : ∀ k, 0 < k → k < p → ¬ AtL l m k) : Txt.indexFrom (mkS l) (mkS m) 1 = some p := by
  unfold Txt.indexFrom
  have e1 : fromIndex (mkS l).length 1 = 1 := by unfold fromIndex; rw [if_neg (by omega)]; rfl
  rw [e1, StrLaws.occ_eq]
  have hl : p < 1 + ((mkS l).length + 1 - 1) := by have := hp.1; rw [mkS_len]; omega
  rcases StrLaws.occ_first (mkS l) (mkS m) (mkS l).length 1 (Nat.le_refl 1) (List.range' 1 ((mkS l).length + 1 - 1)) 1 (fun i hi => by rw [List.mem_range'_1] at hi; exact hi.1) with ⟨_, hn2⟩ | ⟨pre, a, post, e, h1, ha, hn2⟩
  · exact absurd ((at_mkS l m p).mpr hp) (hn2 p (by rw [List.mem_range'_1]; omega))
  · have ha1 : a ∈ List.range' 1 ((mkS l).length + 1 - 1) := by rw [e]; simp
    rw [List.mem_range'_1] at ha1
    have eap : a = p := by
      rcases Nat.lt_trichotomy a p with c | c | c
      · exact absurd ((at_mkS l m a).mp ha) (hn a (by omega) c)
      · exact c
      · exact absurd ((at_mkS l m p).mpr hp) (hn2 p (range1_split e p h0 c))
    generalize (forIn (List.range' 1 ((mkS l).length + 1 - 1)) ((#[] : Array Nat), 1) (StrLaws.occBody (mkS l) (mkS m) (mkS l).length 1)).run.fst = arr at h1
    have h2 : arr.toList[0]? = some a := by simpa using h1
    cases hL : arr.toList with
    | nil => rw [hL] at h2; cases h2
    | cons b t => rw [hL] at h2; simp at h2; rw [h2, eap]; rfl
section
variable {X : Cx}
/-- s.index(y, i), found -/
def rIndexF : V → List V → Hp → VK → Prop := fun x xs H Q => ∃ (a b : Str) (i : Int) (k : Nat), x = .str a ∧ xs = [.str b, .int i] ∧ Txt.indexFrom a b i = some k ∧ Q (.int k) H
theorem mt_indexF : MtR X "str.index" rIndexF := by
  intro pins s σ H x xs v us Q I rx rs h
  obtain ⟨a, b, i, k, rfl, rfl, hk, hy⟩ := h
  obtain ⟨t, rfl⟩ := rx
  cases rs with
  | cons r1 rs =>
    cases rs with
    | cons r2 rs =>
      cases rs
      obtain ⟨u, rfl⟩ := r1
      obtain ⟨z, rfl⟩ := r2
      cases q : Builtin.Str.occurrences a b (PySem.fromIndex a.length i) a.length 1 with
      | nil => unfold Txt.indexFrom at hk; rw [q] at hk; cases hk
      | cons k' rest =>
        unfold Txt.indexFrom at hk; rw [q] at hk
        have e : k' = k := by simpa using hk
        subst e
        exact call_gives PySem.F.slot_str_index (typeIs_str _ _ _) PySem.F.entry_str_index (PySem.F.args_str_index_3 _ _ _) (gives_str_index_from a b i t u z k' rest q) ⟨.int (k' : Nat), H, I.tok _, ⟨_, rfl⟩, hy⟩
end
section
variable {K : PySem.W.Frag} {H : Hp} {Q : VK} {σ : L2.St} {ta tb tc : TE} {r r' : R2}
theorem r_indexF {l m : List Nat} {p : Nat} (h0 : 0 < p) (hp : AtL l m p) (hn : ∀ k, 0 < k → k < p → ¬ AtL l m k) (h : Q (.int (p : Nat)) H) : rIndexF (T l) [T m, .int 1] H Q := ⟨mkS l, mkS m, 1, p, rfl, rfl, indexFrom_mk h0 hp hn, h⟩
theorem r_inT {l m : List Nat} (h : Q (.bl (subS (mkS l) (mkS m))) H) : rInG K (T m) (T l) H Q := .inl ⟨mkS m, mkS l, rfl, rfl, h⟩
theorem r_chain (h : ta σ H fun x H1 => tb σ H1 fun y H2 => r x y H2 fun z H3 => ∃ k, z = .bl k ∧ (if k = true then tc σ H3 fun w' H4 => r' y w' H4 Q else Q (.bl false) H3)) : tChain r r' ta tb tc σ H Q := h
end
end NX
namespace NX
/-! ### cores of what is made of a lead and a ring row -/
theorem lead_nil : lead [] = [] := rfl
theorem ring_nil : ring [] = [] := rfl
theorem ring_eq_nil {f : List Nat} (hr : Row f) (hf : Free f) : ring f = [] ↔ f = [] := by
  constructor
  · intro h
    refine Classical.byContradiction fun hn => ?_
    have := ring_pos hr hf hn
    rw [h] at this; simp at this
  · intro h; rw [h]; rfl
/-! ### roots -/
open Classical in
noncomputable def per (R : List Nat) : Nat := if h : ∃ p, IsPer R p then Classical.choose h else 0
theorem per_spec {R : List Nat} (h : R ≠ []) : IsPer R (per R) := by
  have g := isPer_exists (List.length_pos_iff.mpr h)
  unfold per
  rw [dif_pos g]
  exact Classical.choose_spec g
noncomputable def root1 (f : List Nat) : List Nat := lead f ++ (ring f).take (per (ring f)) ++ bak (lead f)
noncomputable def rootn (f : List Nat) : Nat := (ring f).length / per (ring f)
theorem root1_nil : root1 [] = [] := by unfold root1; rw [lead_nil, ring_nil, List.take_nil]; rfl
theorem rootn_nil : rootn [] = 0 := by unfold rootn; rw [ring_nil]; simp
theorem root1_len (f : List Nat) : (root1 f).length ≤ f.length := by
  have h1 := csize_le f
  have h2 := ring_len f
  unfold root1
  simp only [List.length_append, lead_len, bak_len, List.length_take]
  omega
section
variable {f : List Nat} (hr : Row f) (hf : Free f) (hn : f ≠ [])
include hr hf hn
theorem ring_ne : ring f ≠ [] := fun e => hn ((ring_eq_nil hr hf).mp e)
theorem rootn_le : rootn f ≤ f.length := by
  have h1 := ring_len f
  have h2 := Nat.div_le_self (ring f).length (per (ring f))
  unfold rootn; omega
end
theorem at_ring {R : List Nat} {i : Nat} (hi : i ≤ R.length) : (i + R.length ≤ (R ++ R).length ∧ ((R ++ R).drop i).take R.length = R) ↔ rot R i = R := by
  have e : ((R ++ R).drop i).take R.length = rot R i := by
    unfold rot
    rw [List.drop_append_of_le_length hi, List.take_append, List.take_of_length_le (by rw [List.length_drop]; omega), List.length_drop]
    congr 2; omega
  rw [e, List.length_append]
  exact ⟨fun h => h.2, fun h => ⟨by omega, h⟩⟩
end NX
namespace NX
open PySem PySem.Spec PyProof.Rows L2
/-! ### rings alike -/
theorem take_rot {R : List Nat} {i : Nat} (hi : i ≤ R.length) : ((R ++ R).drop i).take R.length = rot R i := by
  unfold rot
  rw [List.drop_append_of_le_length hi, List.take_append, List.take_of_length_le (by rw [List.length_drop]; omega), List.length_drop]
  congr 2; omega
theorem at_rot {R S : List Nat} (hl : S.length = R.length) (i : Nat) : AtL (R ++ R) S i ↔ i ≤ R.length ∧ rot R i = S := by
  unfold AtL
  rw [hl, List.length_append]
  constructor
  · rintro ⟨h1, h2⟩
    have hi : i ≤ R.length := by omega
    rw [take_rot hi] at h2
    exact ⟨hi, h2⟩
  · rintro ⟨hi, h⟩
    rw [take_rot hi]
    exact ⟨by omega, h⟩
end NX
namespace NX
/-! ### roots are one: powers, leads, backs -/
theorem Eqv.rep {a b : List Nat} (h : Eqv a b) : ∀ n, Eqv (repL a n) (repL b n)
  | 0 => Eqv.refl Row.nil
  | n + 1 => by rw [repL_succ, repL_succ]; exact h.app (Eqv.rep h n)
theorem repL_nil (n : Nat) : repL [] n = [] := by simp [repL]
theorem repL_add (l : List Nat) (n m : Nat) : repL l (n + m) = repL l n ++ repL l m := by
  unfold repL
  rw [← List.flatten_append, List.replicate_append_replicate]
theorem Cy.rep {R : List Nat} (h : Cy R) (t : Nat) : Cy (repL R t) := by
  have : ∀ n, Free (repL R n) := by
    intro n
    induction n with
    | zero => trivial
    | succ n ih =>
      cases n with
      | zero => rw [repL_succ, repL_zero, List.append_nil]; exact h.free
      | succ n =>
        by_cases e : R = []
        · rw [e, repL_nil]; trivial
        · rw [repL_succ, repL_succ]
          rw [repL_succ] at ih
          exact free_glue h.2 ih e
  refine ⟨h.1.rep t, ?_⟩
  rw [← repL_add]; exact this _
theorem repL_inj {a b : List Nat} {n : Nat} (hn : 0 < n) (h : repL a n = repL b n) : a = b := by
  have hl := congrArg List.length h
  rw [repL_len', repL_len'] at hl
  have hl2 : a.length = b.length := Nat.eq_of_mul_eq_mul_left hn hl
  obtain ⟨m, rfl⟩ : ∃ m, n = m + 1 := ⟨n - 1, by omega⟩
  rw [repL_succ, repL_succ] at h
  exact (List.append_inj h hl2).1
/-- no power but of itself -/
def Prim (u : List Nat) : Prop := Row u ∧ Free u ∧ u ≠ [] ∧ per (ring u) = (ring u).length
theorem Prim.root {u : List Nat} (h : Prim u) : root1 u = u ∧ rootn u = 1 := by
  obtain ⟨hr, hf, hn, hp⟩ := h
  have hne := ring_ne hr hf hn
  unfold root1 rootn
  rw [hp, List.take_length, core_join hr]
  exact ⟨rfl, Nat.div_self (List.length_pos_iff.mpr hne)⟩
end NX
namespace NX
/-! ### rows that pass by one another -/
theorem Com.eqv {a b c d : List Nat} (h : Com a b) (g1 : Eqv a c) (g2 : Eqv b d) : Com c d := ((g1.symm.app g2.symm).trans h).trans (g2.app g1)
/-- a lead around a ring row, alike a ring row: the lead's end goes with it -/
theorem ends {y R S : List Nat} {c : Nat} (hx : Row (y ++ [c])) (fx : Free (y ++ [c])) (hR : Cy R) (hR0 : R ≠ []) (hS : Cy S) (h : Eqv (y ++ [c] ++ R ++ bak (y ++ [c])) S) :
    (∃ R', R = swp c :: R') ∨ ∃ R2, R = R2 ++ [c] := by
  refine Classical.byContradiction fun hn => ?_
  have hc : lett c = true := hx.of_app.2.of_cons.1
  have eb : bak (y ++ [c]) = [swp c] ++ bak y := by simp [bak]
  obtain ⟨d, R', eR⟩ : ∃ d R', R = d :: R' := by
    cases R with
    | nil => exact absurd rfl hR0
    | cons d R' => exact ⟨d, R', rfl⟩
  obtain ⟨R2, z, eR2⟩ : ∃ R2 z, R = R2 ++ [z] := ⟨R.dropLast, R.getLast hR0, (List.dropLast_concat_getLast hR0).symm⟩
  have c1 : ¬ d = swp c := fun e => hn (.inl ⟨R', by rw [eR, e]⟩)
  have c2 : ¬ z = c := fun e => hn (.inr ⟨R2, by rw [eR2, e]⟩)
  have hz : lett z = true := hR.1 z (by rw [eR2]; simp)
  have f1 : Free (y ++ [c] ++ R) := by rw [eR]; exact free_join fx (eR ▸ hR.free) c1
  have fb := free_bak hx fx
  have f2 : Free (R ++ bak (y ++ [c])) := by
    rw [eb] at fb ⊢
    rw [eR2]
    refine free_join (d := swp c) (by rw [← eR2]; exact hR.free) fb ?_
    intro e
    have := congrArg swp e
    rw [swp_swp hc, swp_swp hz] at this
    exact c2 this.symm
  have f3 : Free (y ++ [c] ++ (R ++ bak (y ++ [c]))) := free_glue f1 f2 hR0
  have e := h.2.2
  rw [List.append_assoc, red_free f3 (hx.app (hR.1.app hx.bak)), red_free hS.free hS.1] at e
  have h2 := hS.2
  rw [← e] at h2
  obtain ⟨a, x', ex⟩ : ∃ a x', y ++ [c] = a :: x' := by
    cases hh : y ++ [c] with
    | nil => simp at hh
    | cons a x' => exact ⟨a, x', rfl⟩
  rw [ex] at h2 hx
  have ha : lett a = true := hx.of_cons.1
  have e5 : bak (a :: x') = bak x' ++ [swp a] := by simp [bak]
  rw [e5] at h2
  have e6 : a :: x' ++ (R ++ (bak x' ++ [swp a])) ++ (a :: x' ++ (R ++ (bak x' ++ [swp a]))) = (a :: x' ++ (R ++ bak x')) ++ (swp a :: a :: (x' ++ (R ++ (bak x' ++ [swp a])))) := by simp
  rw [e6] at h2
  have h7 := (free_app_r h2).1
  exact h7 (swp_swp ha).symm
end NX
namespace NX
open PySem PySem.Spec PyProof.Rows L2
section
variable {K : PySem.W.Frag} {σ : L2.St} {H : Hp} {Q : VK}
/-! ### sorted texts -/
theorem rising_pw : ∀ (p : Str) (l : List Str), risingS p l = true → (p :: l).Pairwise (fun a b => a.cps.toList ≤ b.cps.toList)
  | p, [], _ => by simp
  | p, x :: r, h => by
    have h' : (!ltCps x.cps.toList p.cps.toList && risingS x r) = true := h
    rw [Bool.and_eq_true] at h'
    have ih := rising_pw x r h'.2
    have h1 : p.cps.toList ≤ x.cps.toList := by
      have h3 := h'.1
      rw [ltCps_eq] at h3
      exact List.not_lt.mp (by simpa using h3)
    refine List.pairwise_cons.mpr ⟨fun y hy => ?_, ih⟩
    rcases List.mem_cons.mp hy with e | hy
    · rw [e]; exact h1
    · exact List.le_trans h1 ((List.pairwise_cons.mp ih).1 y hy)
theorem sorted_pw (l : List Str) (h : sortedS l = true) : l.Pairwise (fun a b => a.cps.toList ≤ b.cps.toList) := by
  cases l with
  | nil => exact List.Pairwise.nil
  | cons p r => exact rising_pw p r h
theorem sorted_uniq {ys zs : List Str} (hp : ys.Perm zs) (hy : sortedS ys = true) (hz : sortedS zs = true) : ys = zs := by
  refine List.Perm.eq_of_pairwise (le := fun a b : Str => a.cps.toList ≤ b.cps.toList) (fun a b _ _ h1 h2 => ?_) (sorted_pw _ hy) (sorted_pw _ hz) hp
  have e := List.le_antisymm h1 h2
  obtain ⟨a⟩ := a; obtain ⟨b⟩ := b
  have : a.toList = b.toList := e
  rw [Array.toList_inj.mp this]
/-- the turns of a row -/
def rots (R : List Nat) : List (List Nat) := (List.range R.length).map (rot R)
end
end NX
set_option maxHeartbeats 2000000
namespace PySem
open Builtin Builtin.Str
theorem nx_meets_enumerate {v : Value} {o : Obj} {H : Heap → Prop} (B : Begins v o H) :
    Meets (Builtin.«enumerate.__new__» ⟨[.type "enumerate", v], []⟩) (fun _ R s => H s.heap ∧
      R (.ok (.ret (.ref (s.heap.push o).objs.size))) { s with heap := (s.heap.push o).push { cls := .type "enumerate", data := .fields #[.none, .bool false, .ref s.heap.objs.size, rawInt 0, .none, .none] } }) :=
  .of_wp fun prog w A R s h => by
    obtain ⟨hp, g, d, tk, os⟩ := s; obtain ⟨h1, h⟩ := h
    have hsub := sub_enumerate
    have q1 : ∀ {A' : Around} {E : Value → Shared → Prop} {Q : Value → Shared → Prop}, Q (.ref hp.objs.size) ⟨hp.push o, g, d, tk, os⟩ → wpAny (model prog w) A' (pyIter v) Q E ⟨hp, g, d, tk, os⟩ :=
      fun q => B.iter prog w _ _ ⟨hp, g, d, tk, os⟩ _ h1 q
    wp_walk using q1
    refine wpAny_stack_any fun st => wpAny_pure ?_
    split
    · rename_i c _ _ _ _ _
      cases (c == Value.type "enumerate")
      · wp_walk using q1
        exact ⟨_, rfl, h⟩
      · wp_walk using q1
        exact ⟨_, rfl, h⟩
    · wp_walk using q1
      exact ⟨_, rfl, h⟩
theorem nx_enum_begins {prog : Program} {w : World} {A : Around} {E : Value → Shared → Prop} {s : Shared} {v : Value} {o : Obj} {H : Heap → Prop} {Q : Value → Shared → Prop} (B : Begins v o H) (h1 : H s.heap)
    (h : ∀ h', IsEnum h' (s.heap.objs.size + 1) s.heap.objs.size 0 .none → h'.get? s.heap.objs.size = some o → h'.objs.size = s.heap.objs.size + 2 →
      (∀ b o, s.heap.get? b = some o → h'.get? b = some o) → Q (.ref (s.heap.objs.size + 1)) { s with heap := h' }) :
    wpAny (model prog w) A (call (.type "enumerate") [v]) Q E s := by
  refine callType_new F.called_enumerate (by decide) (F.typeCall_enumerate_1 _) (F.newCall_enumerate_1 _) (fun obj => F.args_object_init_2 obj _) F.entry_enumerate_new
    (nx_meets_enumerate B) ⟨h1, ?_⟩
  have hz : (s.heap.push o).objs.size = s.heap.objs.size + 1 := Heap.size_push ..
  show _ ∧ _
  rw [hz]
  have he : IsEnum ((s.heap.push o).push { cls := .type "enumerate", data := .fields #[.none, .bool false, .ref s.heap.objs.size, rawInt 0, .none, .none] }) (s.heap.objs.size + 1) s.heap.objs.size 0 .none := by
    have := Heap.get?_push_size (s.heap.push o) (o := { cls := .type "enumerate", data := .fields #[.none, .bool false, .ref s.heap.objs.size, rawInt 0, .none, .none] }) rfl
    rw [hz] at this; exact this
  refine ⟨⟨_, he, rfl⟩, h _ he (Heap.get?_push_of_some _ (Heap.get?_push_size _ B.free)) (by rw [Heap.size_push, hz]) fun b o x => Heap.get?_push_of_some _ (Heap.get?_push_of_some _ x)⟩
end PySem
namespace NX
open PySem PySem.Spec PyProof.Rows L2
/-! ### enumerate and zip over texts, tuples, lists -/
/-- an iterator that stands at its i-th item; what its items are -/
structure Src (K : PySem.W.Frag) (it : Addr) (fs : List Addr) (St : Nat → Heap → Prop) (G : Hp → List V → Prop) : Prop where
  obj : ∀ i h, St i h → ∃ o, h.get? it = some o ∧ ∀ v, o.data ≠ .cell v
  keep : ∀ i h h', St i h → (∀ o, h.get? it = some o → h'.get? it = some o) → St i h'
  inj : ∀ (X : Cx), X.K = K → ∀ (pins : List (Addr × Obj)) (s : Shared) (σ : L2.St) (H : Hp) (xs ys : List V), Inv X pins σ H s → G H xs → G H ys → xs = ys
  draws : ∀ (X : Cx), X.K = K → X.calm = true → ∀ (pins : List (Addr × Obj)) (s : Shared) (σ : L2.St) (H : Hp) (xs : List V), Inv X pins σ H s → G H xs →
    ∃ (Pv : Nat → Value → Prop) (St' : Nat → Heap → Prop), Draws X.prog X.w X.A.in1 it (it :: fs) xs.length Pv St' ∧
      (∀ i, St i s.heap → St' i s.heap) ∧ (∀ i h, St' i h → St i h) ∧ ∀ i v, Pv i v → ∃ x, xs[i]? = some x ∧ RelV x v
variable {P : Program} {w : World} {K : PySem.W.Frag}
theorem vals_get' : ∀ {xs : List V} {us : List Value} {i : Nat} {u : Value}, Vals xs us → us[i]? = some u → ∃ x, xs[i]? = some x ∧ RelV x u
  | _, _, _, _, .nil, e => by simp at e
  | _, _, 0, _, .cons r _, e => by simp at e; subst e; exact ⟨_, rfl, r⟩
  | _, _, i + 1, x, .cons _ t, e => by
    obtain ⟨y, h1, h2⟩ := vals_get' (i := i) t (by simpa using e)
    exact ⟨y, by simpa using h1, h2⟩
theorem src_list {a it : Addr} (hne : a ≠ it) : Src K it [a] (fun i h => h.IsListIter it a i) (fun H xs => SqL K H a xs) where
  obj := fun i h ⟨o, ho, hc, hd⟩ => ⟨o, ho, fun v q => by rw [hd] at q; cases q⟩
  keep := fun i h h' st k => st.at fun o q => k o q
  inj := fun X hK pins s σ H xs ys I h1 h2 => by subst hK; exact I.list_inj h1 h2
  draws := fun X hK hc pins s σ H xs I h => by
    subst hK
    obtain ⟨its, rv, p, hz⟩ := I.list h
    have hl := rv.length
    have D := Draws.list (prog := X.prog) (w := X.w) (A := X.A.in1) (I.ok.hd hc) it a hne its.toArray
    rw [show its.toArray.size = xs.length by simp [hl]] at D
    exact ⟨_, _, D, fun i st => ⟨st, p.isList⟩, fun i h' (st : _ ∧ _) => st.1, fun i v (hv : its.toArray[i]? = some v) => vals_get' rv (by simpa using hv)⟩
theorem src_tup {a it : Addr} (hne : a ≠ it) : Src K it [a] (fun i h => h.IsTupleIter it a i) (fun H xs => SqT K H a xs) where
  obj := fun i h ⟨o, ho, hc, hd⟩ => ⟨o, ho, fun v q => by rw [hd] at q; cases q⟩
  keep := fun i h h' st k => st.at fun o q => k o q
  inj := fun X hK pins s σ H xs ys I h1 h2 => by subst hK; exact I.tuple_inj h1 h2
  draws := fun X hK hc pins s σ H xs I h => by
    subst hK
    obtain ⟨its, rv, p, hz⟩ := I.tuple h
    have hl := rv.length
    have D := Draws.tuple (prog := X.prog) (w := X.w) (A := X.A.in1) (I.ok.hd hc) it a hne its.toArray
    rw [show its.toArray.size = xs.length by simp [hl]] at D
    exact ⟨_, _, D, fun i st => ⟨st, p⟩, fun i h' (st : _ ∧ _) => st.1, fun i v (hv : its.toArray[i]? = some v) => vals_get' rv (by simpa using hv)⟩
theorem src_txt (l : List Nat) (t : Tok) (it : Addr) : Src K it [] (fun i h => h.IsStrIter it (strIterType (mkS l)) (mkS l) t i) (fun _ xs => xs = l.map fun c => T [c]) where
  obj := fun i h ⟨o, ho, hc, hd⟩ => ⟨o, ho, fun v q => by rw [hd] at q; cases q⟩
  keep := fun i h h' st k => let ⟨o, ho, r⟩ := st; ⟨o, k o ho, r⟩
  inj := fun X hK pins s σ H xs ys I h1 h2 => h1.trans h2.symm
  draws := fun X hK hc pins s σ H xs I h => by
    subst hK h
    have D := Draws.text (prog := X.prog) (w := X.w) (A := X.A.in1) (I.ok.hd hc) it (mkS l) t
    rw [show (mkS l).cps.size = (l.map fun c => T [c]).length by simp [mkS]] at D
    refine ⟨_, _, D, fun i st => st, fun i h' st => st, fun i v hv => ?_⟩
    obtain ⟨c, u, hcu, rfl⟩ := hv
    refine ⟨T [c], ?_, ⟨u, rfl⟩⟩
    have : l[i]? = some c := by simpa [mkS] using hcu
    rw [List.getElem?_map, this]; rfl
/-- enumerate over what Src tells -/
def ItE (G : Hp → List V → Prop) : It :=
  ⟨fun i H => ∃ (xs : List V) (x : V), G H xs ∧ xs[i]? = some x, fun i H v H' => ∃ T x, v = .ref T ∧ H T = none ∧ H' = upd H T (.tup [.int (i : Nat), x]) ∧ ∀ xs, G H xs → xs[i]? = some x, fun i H => ∃ xs : List V, G H xs ∧ xs.length = i⟩
theorem turn_enumS {elts : List Expr} {kk : Nat} {tpos : Pos} {e it : Addr} {fs : List Addr} {St : Nat → Heap → Prop} {G : Hp → List V → Prop} (S : Src K it fs St G) (hef : e ∉ it :: fs) :
    L2.Turn P w K (.Tuple elts kk tpos) (ItE G) [e, it] e (fun i h => (∃ old, IsEnum h e it ((i : Nat) : Int) old) ∧ St i h) where
  mem := by simp
  obj := fun i h st b hb => by
    obtain ⟨⟨old, he⟩, hs⟩ := st
    have e' : b = e ∨ b = it := by simpa using hb
    rcases e' with z | z
    · rw [z]; exact ⟨_, he, fun v q => nomatch q⟩
    · rw [z]; exact S.obj i h hs
  keep := fun i h h' st k => let ⟨⟨old, he⟩, hi⟩ := st; ⟨⟨old, k e (by simp) _ he⟩, S.keep i h h' hi fun o q => k it (by simp) o q⟩
  item := by
    intro X hP hw hK hc i pins s σ H E I hf st hg
    subst hP hw
    obtain ⟨⟨old, he⟩, hit⟩ := st
    have hne : e ≠ it := fun q => hef (by rw [q]; simp)
    obtain ⟨xs, x, hq, hx⟩ := hg
    obtain ⟨Pv, St', D, to, from', hPv⟩ := S.draws X hK hc pins s σ H xs I hq
    have hlt : i < xs.length := (List.getElem?_eq_some_iff.mp hx).1
    have hel : e < s.heap.objs.size := Heap.lt_size he
    refine wpAny_pyNext_enum_itemD D he (to i hit) hlt hne hef fun u h' tk hu ho hit' hT hsz hk => ?_
    obtain ⟨x', hx', ru⟩ := hPv i u hu
    have exx : x' = x := by rw [hx] at hx'; exact (Option.some.inj hx').symm
    subst exx
    refine ⟨_, rfl, wpAny_letOwnedTupleGo_enum (s := { s with heap := h', toks := tk + 1 }) ho fun h'' he' sb => ?_⟩
    have hT2 : h''.get? s.heap.objs.size = some { cls := .type "tuple", data := .seq #[.int i tk, u] } := (sb.2 _ (Nat.ne_of_gt hel)).trans hT
    have new : ObjOk X.prog X.w (upd H s.heap.objs.size (.tup [.int (i : Nat), x'])) h'' s.heap.objs.size (.tup [.int (i : Nat), x']) :=
      ⟨by show 2 ≤ sizeLine; decide, [.int i tk, u], .cons ⟨_, rfl⟩ (.cons ru .nil), ⟨_, hT2, rfl, _, rfl⟩⟩
    have I1 : Inv X pins σ (upd H s.heap.objs.size (.tup [.int (i : Nat), x'])) { s with heap := h'', toks := tk + 1 } :=
      I.turnedNew (ch := [e, it]) (fun b ob hb q => (sb.2 b (fun z => hb (by simp [z]))).trans (hk b ob (fun z => hb (by simp [z])) (fun z => hb (by simp [z])) q)) hf (Nat.le_refl _) new
    have hil : it < s.heap.objs.size := by obtain ⟨o, q, _⟩ := S.obj i _ hit; exact Heap.lt_size q
    refine ⟨.ref s.heap.objs.size, _, I1, rfl, ⟨_, x', rfl, I.hok.fresh (Nat.le_refl _), rfl, fun ys hy => by rw [S.inj X hK pins s σ H ys xs I hy hq]; exact hx⟩, ⟨⟨u, ?_⟩, S.keep _ _ _ (from' _ _ hit') fun o q => (sb.2 it (Ne.symm hne)).trans q⟩, fun b hb => ?_⟩
    · have e1 : ((i + 1 : Nat) : Int) = (i : Int) + 1 := by omega
      rw [e1]; exact he'
    · have hb' : b < s.heap.objs.size := by
        have e' : b = e ∨ b = it := by simpa using hb
        rcases e' with z | z
        · rw [z]; exact hel
        · rw [z]; exact hil
      rw [upd_ne (Nat.ne_of_lt hb')]
      exact (hf b hb).1
  done := by
    intro X hP hw hK hc i pins s σ H E I hf st hg
    subst hP hw
    obtain ⟨⟨old, he⟩, hit⟩ := st
    obtain ⟨xs, hq, hx⟩ := hg
    subst hx
    obtain ⟨Pv, St', D, to, from', hPv⟩ := S.draws X hK hc pins s σ H xs I hq
    obtain ⟨f0, f1, f2, f3, f4, f5⟩ := hf it (by simp)
    exact wpAny_pyNext_enum_endD D he (to _ hit) fun h' eb => ⟨rfl, I.turned (t' := s.toks) (fun b o hb q => eb b o hb q) f0 f1 f3 f4 f5⟩
  self := fun A i s Q E st h => let ⟨⟨_, he⟩, _⟩ := st; wpAny_pyIter_enum he h
/-- zip of what two Srcs tell -/
def ItZ (G1 G2 : Hp → List V → Prop) : It :=
  ⟨fun i H => ∃ (xs ys : List V) (x y : V), G1 H xs ∧ G2 H ys ∧ xs[i]? = some x ∧ ys[i]? = some y,
    fun i H v H' => ∃ T x y, v = .ref T ∧ H T = none ∧ H' = upd H T (.tup [x, y]) ∧ (∀ xs, G1 H xs → xs[i]? = some x) ∧ ∀ ys, G2 H ys → ys[i]? = some y,
    fun i H => ∃ xs ys : List V, G1 H xs ∧ G2 H ys ∧ i ≤ xs.length ∧ i ≤ ys.length ∧ (i = xs.length ∨ i = ys.length)⟩
theorem turn_zipS {elts : List Expr} {kk : Nat} {tpos : Pos} {z TI TO i1 i2 : Addr} {fs1 fs2 : List Addr} {St1 St2 : Nat → Heap → Prop} {G1 G2 : Hp → List V → Prop}
    (S1 : Src K i1 fs1 St1 G1) (S2 : Src K i2 fs2 St2 G2) (Z : ZipSep2 z TI TO i1 i2 (i1 :: fs1) (i2 :: fs2)) :
    L2.Turn P w K (.Tuple elts kk tpos) (ItZ G1 G2) [z, TI, TO, i1, i2] z (fun i h => IsZip h z TI TO .none ∧ IsTupOf2 h TI (.ref i1) (.ref i2) ∧ (∃ x y, IsTupOf2 h TO x y) ∧ St1 i h ∧ St2 i h) where
  mem := by simp
  obj := fun i h st c hc => by
    obtain ⟨hz, hTI, ⟨x, y, hTO⟩, h1, h2⟩ := st
    have e' : c = z ∨ c = TI ∨ c = TO ∨ c = i1 ∨ c = i2 := by simpa using hc
    rcases e' with q | q | q | q | q
    · rw [q]; exact ⟨_, hz, fun v q => nomatch q⟩
    · rw [q]; exact ⟨_, hTI, fun v q => nomatch q⟩
    · rw [q]; exact ⟨_, hTO, fun v q => nomatch q⟩
    · rw [q]; exact S1.obj i h h1
    · rw [q]; exact S2.obj i h h2
  keep := fun i h h' st k => by
    obtain ⟨hz, hTI, ⟨x, y, hTO⟩, h1, h2⟩ := st
    exact ⟨k z (by simp) _ hz, k TI (by simp) _ hTI, ⟨x, y, k TO (by simp) _ hTO⟩, S1.keep i h h' h1 fun o q => k i1 (by simp) o q, S2.keep i h h' h2 fun o q => k i2 (by simp) o q⟩
  item := by
    intro X hP hw hK hc i pins s σ H E I hf st hg
    subst hP hw
    obtain ⟨hz, hTI, ⟨x0, y0, hTO⟩, h1, h2⟩ := st
    obtain ⟨xs, ys, x, y, hqx, hqy, hx, hy⟩ := hg
    obtain ⟨P1, St1', D1, to1, from1, hP1⟩ := S1.draws X hK hc pins s σ H xs I hqx
    obtain ⟨P2, St2', D2, to2, from2, hP2⟩ := S2.draws X hK hc pins s σ H ys I hqy
    have hlt1 : i < xs.length := (List.getElem?_eq_some_iff.mp hx).1
    have hlt2 : i < ys.length := (List.getElem?_eq_some_iff.mp hy).1
    have hzl : z < s.heap.objs.size := Heap.lt_size hz
    refine wpAny_pyNext_zipD2_item Z D1 D2 hz hTI hTO (to1 i h1) (to2 i h2) hlt1 hlt2 fun u u2 h' tk hu hu2 z' TO' h1' h2' hT hsz hk => ?_
    obtain ⟨x', hx', ru⟩ := hP1 i u hu
    obtain ⟨y', hy', ru2⟩ := hP2 i u2 hu2
    have exx : x' = x := by rw [hx] at hx'; exact (Option.some.inj hx').symm
    have eyy : y' = y := by rw [hy] at hy'; exact (Option.some.inj hy').symm
    subst exx eyy
    refine ⟨_, rfl, wpAny_letOwnedTupleGo_zip (s := { s with heap := h', toks := tk }) z' fun h'' z'' sb => ?_⟩
    have hT2 : h''.get? s.heap.objs.size = some { cls := .type "tuple", data := .seq #[u, u2] } := (sb.2 _ (Nat.ne_of_gt hzl)).trans hT
    have new : ObjOk X.prog X.w (upd H s.heap.objs.size (.tup [x', y'])) h'' s.heap.objs.size (.tup [x', y']) :=
      ⟨by show 2 ≤ sizeLine; decide, [u, u2], .cons ru (.cons ru2 .nil), ⟨_, hT2, rfl, _, rfl⟩⟩
    have I1 : Inv X pins σ (upd H s.heap.objs.size (.tup [x', y'])) { s with heap := h'', toks := tk } :=
      I.turnedNew (t' := tk) (ch := [z, TI, TO, i1, i2]) (fun c o hb q => (sb.2 c (fun q' => hb (by simp [q']))).trans (hk c o (fun q' => hb (by simp [q'])) (fun q' => hb (by simp [q'])) (fun q' => hb (by simp [q'])) (fun q' => hb (by simp [q'])) q)) hf (Nat.le_refl _) new
    refine ⟨.ref s.heap.objs.size, _, I1, rfl, ⟨_, x', y', rfl, I.hok.fresh (Nat.le_refl _), rfl, fun l hl => by rw [S1.inj X hK pins s σ H l xs I hl hqx]; exact hx, fun l hl => by rw [S2.inj X hK pins s σ H l ys I hl hqy]; exact hy⟩, ⟨z'', ?_, ⟨u, u2, ?_⟩, ?_, ?_⟩, fun c hcm => ?_⟩
    · exact (sb.2 _ Z.TIz).trans (hk _ _ Z.TIz Z.TITO Z.TIi1 Z.TIi2 hTI)
    · exact (sb.2 _ Z.TOz).trans TO'
    · exact S1.keep _ _ _ (from1 _ _ h1') fun o q => (sb.2 _ Z.zi1.symm).trans q
    · exact S2.keep _ _ _ (from2 _ _ h2') fun o q => (sb.2 _ Z.zi2.symm).trans q
    · have hlt : c < s.heap.objs.size := by
        have e' : c = z ∨ c = TI ∨ c = TO ∨ c = i1 ∨ c = i2 := by simpa using hcm
        rcases e' with q | q | q | q | q
        · rw [q]; exact hzl
        · rw [q]; exact Heap.lt_size hTI
        · rw [q]; exact Heap.lt_size hTO
        · rw [q]; obtain ⟨_, e1, _⟩ := S1.obj i _ h1; exact Heap.lt_size e1
        · rw [q]; obtain ⟨_, e2, _⟩ := S2.obj i _ h2; exact Heap.lt_size e2
      rw [upd_ne (Nat.ne_of_lt hlt)]
      exact (hf c hcm).1
  done := by
    intro X hP hw hK hc i pins s σ H E I hf st hg
    subst hP hw
    obtain ⟨hz, hTI, ⟨x0, y0, hTO⟩, h1, h2⟩ := st
    obtain ⟨xs, ys, hqx, hqy, hl1, hl2, hend⟩ := hg
    obtain ⟨P1, St1', D1, to1, from1, hP1⟩ := S1.draws X hK hc pins s σ H xs I hqx
    obtain ⟨P2, St2', D2, to2, from2, hP2⟩ := S2.draws X hK hc pins s σ H ys I hqy
    exact wpAny_pyNext_zipD2_end Z D1 D2 hz hTI hTO (to1 i h1) (to2 i h2) hl1 hl2 hend fun h' tk hk => ⟨rfl, I.turnedL (t' := tk) (ch := [z, TI, TO, i1, i2]) (fun c o hb q =>
      hk c o (fun q' => hb (by simp [q'])) (fun q' => hb (by simp [q'])) (fun q' => hb (by simp [q'])) (fun q' => hb (by simp [q'])) q) hf⟩
  self := fun A i s Q E st h => wpAny_pyIter_zip st.1 h
/-- what is walked: a list, a tuple, a text; and its items -/
def Wk (K : PySem.W.Frag) (x : V) (H : Hp) (R : (Hp → List V → Prop) → Prop) : Prop :=
  (∃ a xs, x = .ref a ∧ SqL K H a xs ∧ R (fun H ys => SqL K H a ys)) ∨ (∃ a xs, x = .ref a ∧ SqT K H a xs ∧ R (fun H ys => SqT K H a ys)) ∨ (∃ l, x = T l ∧ R (fun _ ys => ys = l.map fun c => T [c]))
def iEnumS (K : PySem.W.Frag) (ta : TA) : TI := fun σ H R => ta σ H fun vs H1 => ∃ x, vs = [x] ∧ Wk K x H1 fun G => R (ItE G) H1
/-- its beginning: an object for the iterator, a Src -/
theorem wk_begins {X : Cx} {pins : List (Addr × Obj)} {σ : L2.St} {H : Hp} {s : Shared} {x : V} {v : Value} {R : (Hp → List V → Prop) → Prop} (I : Inv X pins σ H s) (r : RelV x v) (h : Wk X.K x H R) :
    ∃ (o : Obj) (Hb : Heap → Prop) (G : Hp → List V → Prop) (fs : List Addr), Begins v o Hb ∧ Hb s.heap ∧ (∀ b ∈ fs, b < s.heap.objs.size) ∧ R G ∧
      ∀ it, s.heap.objs.size ≤ it → ∃ St : Nat → Heap → Prop, Src X.K it fs St G ∧ ∀ h' : Heap, h'.get? it = some o → St 0 h' := by
  rcases h with ⟨a, xs, rfl, hq, q⟩ | ⟨a, xs, rfl, hq, q⟩ | ⟨l, rfl, q⟩
  · obtain rfl : v = Value.ref a := r
    obtain ⟨its, rv, p, hz⟩ := I.list hq
    refine ⟨_, _, _, [a], begins_list a its.toArray, p.isList, fun b hb => ?_, q, fun it hit => ⟨_, src_list (show a ≠ it from Nat.ne_of_lt (Nat.lt_of_lt_of_le p.lt hit)), fun h' e => ⟨_, e, rfl, rfl⟩⟩⟩
    rw [List.mem_singleton.mp hb]; exact p.lt
  · obtain rfl : v = Value.ref a := r
    obtain ⟨its, rv, p, hz⟩ := I.tuple hq
    have hlt : a < s.heap.objs.size := by obtain ⟨o, e, _⟩ := id p; exact Heap.lt_size e
    refine ⟨_, _, _, [a], begins_tuple a its.toArray, p, fun b hb => ?_, q, fun it hit => ⟨_, src_tup (show a ≠ it from Nat.ne_of_lt (Nat.lt_of_lt_of_le hlt hit)), fun h' e => ⟨_, e, rfl, rfl⟩⟩⟩
    rw [List.mem_singleton.mp hb]; exact hlt
  · obtain ⟨t, rfl⟩ := r
    exact ⟨_, _, _, [], begins_text (mkS l) t, trivial, fun b hb => (nomatch hb), q, fun it hit => ⟨_, src_txt l t it, fun h' e => ⟨_, e, rfl, rfl⟩⟩⟩
theorem pi_enumS {X : Cx} {e : Expr} {ta : TA} {p pos tpos : Pos} {elts : List Expr} {kk : Nat} (hg : Gl X "enumerate") (hm : X.mg "enumerate" = none) (ha : PA X [e] ta) (hs : starEach [e] X.env = [(false, eval e X.env)] := by rfl) :
    PI X (.Tuple elts kk tpos) (.Call (.Name "enumerate" p) [e] [] pos) (iEnumS X.K ta) := by
  refine ⟨fun pins s σ H R I h => ?_⟩
  refine Call_ (ld_blt I hg hm boot_enumerate (PyProof.Rows.callWith_type1 (thn (ha.run pos pins s σ H _ I h) fun us s1 ⟨vs, H1, I1, r1, q1⟩ => ?_) hs rfl))
  obtain ⟨x, ex, q⟩ := q1
  subst ex
  cases r1 with
  | cons r rr =>
    cases rr
    obtain ⟨o, Hb, G, fs, B, hb, hfs, q, src⟩ := wk_begins I1 r q
    refine nx_enum_begins B hb fun h' he hit hsz hk => wpAny_pyIter_enum he ?_
    have I2 : Inv X pins σ H1 { s1 with heap := h' } := I1.kept (t' := s1.toks) hk
    obtain ⟨St, S, s0⟩ := src s1.heap.objs.size (Nat.le_refl _)
    refine ⟨s1.heap.objs.size + 1, [s1.heap.objs.size + 1, s1.heap.objs.size], _, _, H1, rfl, I2, turn_enumS (e := s1.heap.objs.size + 1) (it := s1.heap.objs.size) S ?_, ⟨⟨.none, he⟩, s0 _ hit⟩, fun b hb => ?_, q⟩
    · intro hm
      rcases List.mem_cons.mp hm with z | z
      · exact Nat.succ_ne_self _ z
      · exact absurd (hfs _ z) (Nat.not_lt.mpr (Nat.le_succ _))
    · have e' : b = s1.heap.objs.size + 1 ∨ b = s1.heap.objs.size := by simpa using hb
      have hle : s1.heap.objs.size ≤ b := by
        rcases e' with z | z
        · rw [z]; exact Nat.le_add_right _ _
        · rw [z]; exact Nat.le_refl _
      exact I1.fpOk hle (I1.hok.fresh hle)
def iZipS (K : PySem.W.Frag) (ta : TA) : TI := fun σ H R => ta σ H fun vs H1 => ∃ x y, vs = [x, y] ∧ Wk K x H1 fun G1 => Wk K y H1 fun G2 => R (ItZ G1 G2) H1
theorem pi_zipS {X : Cx} {e e2 : Expr} {ta : TA} {p pos tpos : Pos} {elts : List Expr} {kk : Nat} (hg : Gl X "zip") (hm : X.mg "zip" = none) (ha : PA X [e, e2] ta)
    (hs : starEach [e, e2] X.env = (false, eval e X.env) :: starEach [e2] X.env := by rfl) (hpl : (backTo pos (starEach [e2] X.env)).any (·.1) = false := by rfl) :
    PI X (.Tuple elts kk tpos) (.Call (.Name "zip" p) [e, e2] [] pos) (iZipS X.K ta) := by
  refine ⟨fun pins s σ H R I h => ?_⟩
  refine Call_ (ld_blt I hg hm PyProof.Rows.boot_zip (PyProof.Rows.callWith_type1 (thn (ha.run pos pins s σ H _ I h) fun us s1 ⟨vs, H1, I1, r1, q1⟩ => ?_) hs hpl))
  obtain ⟨x, y, ex, q⟩ := q1
  subst ex
  cases r1 with
  | cons r rr =>
    cases rr with
    | cons r' rr =>
      cases rr
      obtain ⟨o1, Hb1, G1, fs1, B1, hb1, hfs1, q, src1⟩ := wk_begins I1 r q
      obtain ⟨o2, Hb2, G2, fs2, B2, hb2, hfs2, q, src2⟩ := wk_begins I1 r' q
      refine zip_begins2 B1 B2 hb1 hb2 fun h' hz hTI hTO h1 h2 hsz hk => wpAny_pyIter_zip hz ?_
      have I2 : Inv X pins σ H1 { s1 with heap := h' } := I1.kept (t' := s1.toks) hk
      obtain ⟨St1, S1, s01⟩ := src1 s1.heap.objs.size (Nat.le_refl _)
      obtain ⟨St2, S2, s02⟩ := src2 (s1.heap.objs.size + 1) (Nat.le_succ _)
      refine ⟨s1.heap.objs.size + 4, [s1.heap.objs.size + 4, s1.heap.objs.size + 2, s1.heap.objs.size + 3, s1.heap.objs.size, s1.heap.objs.size + 1], _, _, H1, rfl, I2, turn_zipS S1 S2 (zip_sep2 hfs1 hfs2), ⟨hz, hTI, ⟨_, _, hTO⟩, s01 _ h1, s02 _ h2⟩, fun c hcm => ?_, q⟩
      have e' : c = s1.heap.objs.size + 4 ∨ c = s1.heap.objs.size + 2 ∨ c = s1.heap.objs.size + 3 ∨ c = s1.heap.objs.size ∨ c = s1.heap.objs.size + 1 := by simpa using hcm
      have hle : s1.heap.objs.size ≤ c := by
        rcases e' with z | z | z | z | z
        · rw [z]; exact Nat.le_add_right _ _
        · rw [z]; exact Nat.le_add_right _ _
        · rw [z]; exact Nat.le_add_right _ _
        · rw [z]; exact Nat.le_refl _
        · rw [z]; exact Nat.le_add_right _ _
      exact I1.fpOk hle (I1.hok.fresh hle)
end NX
namespace NX
open PySem PySem.Spec PyProof.Rows L2
section
variable {X : Cx} {pos tpos p : Pos} {e e2 : Expr} {ta : TA} {elts : List Expr} {kk : Nat}
theorem pi_enumSK (K : PySem.W.Frag) (hg : Gl X "enumerate") (hm : X.mg "enumerate" = none) (ha : PA X [e] ta) (hK : X.K = K := by rfl) (hs : starEach [e] X.env = [(false, eval e X.env)] := by rfl) :
    PI X (.Tuple elts kk tpos) (.Call (.Name "enumerate" p) [e] [] pos) (iEnumS K ta) := hK ▸ pi_enumS hg hm ha hs
theorem pi_zipSK (K : PySem.W.Frag) (hg : Gl X "zip") (hm : X.mg "zip" = none) (ha : PA X [e, e2] ta) (hK : X.K = K := by rfl)
    (hs : starEach [e, e2] X.env = (false, eval e X.env) :: starEach [e2] X.env := by rfl) (hpl : (backTo pos (starEach [e2] X.env)).any (·.1) = false := by rfl) :
    PI X (.Tuple elts kk tpos) (.Call (.Name "zip" p) [e, e2] [] pos) (iZipS K ta) := hK ▸ pi_zipS hg hm ha hs hpl
end
section
variable {K : PySem.W.Frag} {σ : L2.St} {H : Hp} {Q : VK} {D : Ends} {R : (Hp → List V → Prop) → Prop}
theorem wkT {a : Addr} {xs : List V} (e : SqT K H a xs) (h : R (fun H ys => SqT K H a ys)) : Wk K (.ref a) H R := .inr (.inl ⟨a, xs, rfl, e, h⟩)
theorem wkS {l : List Nat} (h : R (fun _ ys => ys = l.map fun c => T [c])) : Wk K (T l) H R := .inr (.inr ⟨l, rfl, h⟩)
def GoES (K : PySem.W.Frag) (R : It → Hp → Prop) (vs : List V) (H1 : Hp) : Prop := ∃ x, vs = [x] ∧ Wk K x H1 fun G => R (ItE G) H1
def GoZS (K : PySem.W.Frag) (R : It → Hp → Prop) (vs : List V) (H1 : Hp) : Prop := ∃ x y, vs = [x, y] ∧ Wk K x H1 fun G1 => Wk K y H1 fun G2 => R (ItZ G1 G2) H1
theorem r_iES {t : TA} {R : It → Hp → Prop} (h : t σ H (GoES K R)) : iEnumS K t σ H R := h
theorem r_iZS {t : TA} {R : It → Hp → Prop} (h : t σ H (GoZS K R)) : iZipS K t σ H R := h
theorem r_goES {R : It → Hp → Prop} {x : V} (h : Wk K x H fun G => R (ItE G) H) : GoES K R [x] H := ⟨x, rfl, h⟩
theorem r_goZS {R : It → Hp → Prop} {x y : V} (h : Wk K x H fun G1 => Wk K y H fun G2 => R (ItZ G1 G2) H) : GoZS K R [x, y] H := ⟨x, y, rfl, h⟩
/-- an iterator over pairs that are known -/
def KnownP (J : It) (n : Nat) (f g : Nat → V) (G : Hp → Prop) : Prop := ∀ i H, G H → (i < n → J.go i H ∧ ∀ x H', J.yld i H x H' → ∃ q, x = .ref q ∧ H q = none ∧ H' = upd H q (.tup [f i, g i])) ∧ (i = n → J.stop i H)
theorem getD_of {xs : List V} {i : Nat} {x : V} (h : xs[i]? = some x) : xs.getD i .non = x := by rw [List.getD_eq_getElem?_getD, h]; rfl
theorem known_enumS {G : Hp → List V → Prop} (xs : List V) : KnownP (ItE G) xs.length (fun i => .int (i : Nat)) (fun i => xs.getD i .non) (fun H => G H xs) := by
  intro i H hG
  refine ⟨fun hi => ⟨⟨xs, xs[i], hG, by simp [hi]⟩, fun x H' y => ?_⟩, fun e => ⟨xs, hG, e.symm⟩⟩
  obtain ⟨q, z, e1, e2, e3, e4⟩ := y
  exact ⟨q, e1, e2, by rw [e3]; show _ = upd H q (.tup [.int (i : Nat), xs.getD i .non]); rw [getD_of (e4 xs hG)]⟩
theorem known_zipS {G1 G2 : Hp → List V → Prop} (xs ys : List V) : KnownP (ItZ G1 G2) (min xs.length ys.length) (fun i => xs.getD i .non) (fun i => ys.getD i .non) (fun H => G1 H xs ∧ G2 H ys) := by
  intro i H hG
  refine ⟨fun hi => ⟨⟨xs, ys, xs[i]'(by omega), ys[i]'(by omega), hG.1, hG.2, by simp, by simp⟩, fun x H' y => ?_⟩, fun e => ⟨xs, ys, hG.1, hG.2, by omega, by omega, by omega⟩⟩
  obtain ⟨q, z, u, e1, e2, e3, e4, e5⟩ := y
  exact ⟨q, e1, e2, by rw [e3]; show _ = upd H q (.tup [xs.getD i .non, ys.getD i .non]); rw [getD_of (e4 xs hG.1), getD_of (e5 ys hG.2)]⟩
theorem for_pair {J : It} {n : Nat} {f g : Nat → V} {G : Hp → Prop} {gg : TG} {tb : TS} (kn : KnownP J n f g G) (Pv : Nat → L2.St → Hp → Prop) (h0 : Pv 0 σ H) (hG : ∀ i σ H, i ≤ n → Pv i σ H → G H)
    (hs : ∀ i σ H q, i < n → Pv i σ H → H q = none → gg (.ref q) σ (upd H q (.tup [f i, g i])) fun σ2 H2 => tb { D with nx := Pv (i + 1), ct := Pv (i + 1), bk := D.nx } σ2 H2)
    (hd : ∀ σ H, Pv n σ H → D.nx σ H) : ForJ gg tb D σ J H := by
  refine ⟨fun i m σ H => m = n - i ∧ i ≤ n ∧ Pv i σ H, ⟨_, rfl, Nat.zero_le _, h0⟩, ?_⟩
  rintro i m σ H ⟨rfl, hi, pv⟩
  obtain ⟨k1, k2⟩ := kn i H (hG i σ H hi pv)
  by_cases hlt : i < n
  · obtain ⟨go, y⟩ := k1 hlt
    refine .inr ⟨go, Pv (i + 1), fun σ' H' p' => ⟨n - (i + 1), by omega, rfl, hlt, p'⟩, fun x H' yy => ?_⟩
    obtain ⟨q, rfl, nq, rfl⟩ := y x H' yy
    exact hs i σ H q hlt pv nq
  · have e : i = n := by omega
    subst e
    exact .inl ⟨k2 rfl, hd σ H pv⟩
theorem lc_pair {J : It} {n : Nat} {f g : Nat → V} {G : Hp → Prop} {gg : TG} {tt : TT} {te : TE} {vs : List Nat} (kn : KnownP J n f g G) (mk : Nat → Option V) (hn : n ≤ 16777216) (hG : ∀ H', Same H H' → G H')
    (hs : ∀ i H2 q (QT : Option V → Hp → Prop), i < n → Same H H2 → H2 q = none → (∀ H3, Same (upd H2 q (.tup [f i, g i])) H3 → QT (mk i) H3) →
      gg (.ref q) (wipe σ vs) (upd H2 q (.tup [f i, g i])) fun σ2 H3 => wipe σ2 vs = wipe σ vs ∧ tt σ2 H3 fun b H4 => if b = true then te σ2 H4 fun y H5 => QT (some y) H5 else QT none H4)
    (hd : ∀ D H', H D = none → Same H H' → H' D = some (.lst ((List.range n).filterMap mk)) → Q (.ref D) H') : LcJ gg tt te vs σ Q J H := by
  intro D nD
  refine ⟨fun i m H2 => m = n - i ∧ i ≤ n ∧ Same H H2 ∧ H2 D = some (.lst ((List.range i).filterMap mk)), ⟨_, rfl, Nat.zero_le _, Same.new1 nD, by rw [upd_same]; rfl⟩, ?_⟩
  rintro i m H2 ⟨rfl, hi, sm, eD⟩
  obtain ⟨k1, k2⟩ := kn i H2 (hG _ sm)
  by_cases hlt : i < n
  · obtain ⟨go, y⟩ := k1 hlt
    refine .inr ⟨go, fun H3 => Same H H3 ∧ H3 D = some (.lst ((List.range (i + 1)).filterMap mk)), fun H3 p => ⟨n - (i + 1), by omega, rfl, hlt, p⟩, fun x H' yy => ?_⟩
    obtain ⟨q, rfl, nq, rfl⟩ := y x H' yy
    have sq : Same H2 (upd H2 q (.tup [f i, g i])) := Same.new1 nq
    refine hs i H2 q (fun o H4 => match o with
      | some y => ∃ acc, H4 D = some (.lst acc) ∧ acc.length < sizeLine ∧ Same H (upd H4 D (.lst (acc ++ [y]))) ∧ (upd H4 D (.lst (acc ++ [y]))) D = some (.lst ((List.range (i + 1)).filterMap mk))
      | none => Same H H4 ∧ H4 D = some (.lst ((List.range (i + 1)).filterMap mk))) hlt sm nq (fun H3 s3 => ?_)
    have hr : (List.range (i + 1)).filterMap mk = (List.range i).filterMap mk ++ (mk i).toList := by
      rw [List.range_succ, List.filterMap_append]
      congr 1
    have s23 := sq.trans s3
    cases e : mk i with
    | none => exact ⟨sm.trans s23, by rw [hr, e]; simpa using s23 _ _ eD⟩
    | some y =>
      refine ⟨_, s23 _ _ eD, ?_, Same.mut (sm.trans s23) nD, ?_⟩
      · have := List.length_filterMap_le mk (List.range i)
        rw [List.length_range] at this
        rw [sizeLine_eq]; omega
      · rw [upd_same, hr, e]; rfl
  · have e : i = n := by omega
    subst e
    exact .inl ⟨k2 rfl, hd D H2 nD sm eD⟩
theorem chars_getD {l : List Nat} {i : Nat} (h : i < l.length) : (l.map fun c => T [c]).getD i .non = T [l.getD i 0] := by
  rw [List.getD_eq_getElem?_getD, List.getD_eq_getElem?_getD, List.getElem?_map, List.getElem?_eq_getElem h]; rfl
end
end NX
set_option maxHeartbeats 2000000
namespace NX
open PySem PySem.Spec PyProof.Rows L2
/-! ### defs where no guard (a repr under way) stands: repr of lists and tuples -/
/-- as FnOk, asked only where no guard stands -/
structure FnG (P : Program) (w : World) (K : PySem.W.Frag) (mg : Str → Option Value) (base : Heap) (CX : CXT) (k : Nat) (f : Addr) (fd : FuncData) (ps : List Str) (sp : Sp) : Prop where
  len : ∀ vs H Q E, sp vs H Q E → vs.length = ps.length
  run : ∀ (A : Around) (outer : List Env) (s : Shared) (H : Hp) (args : Args) (us : List Value) (vs : List V) (Q : VK) (E : XK), A.guards = some [] → Room k A → Env0 P w K mg base A outer s H → BindsTo s fd args (ps.zip us) → Vals vs us → sp vs H Q E →
    codeAny (model P w) A (.call (.ref f) args) (CR CX outer P w H s Q E) s
theorem FnG.of {P : Program} {w : World} {K : PySem.W.Frag} {mg : Str → Option Value} {base : Heap} {CX : CXT} {k : Nat} {f : Addr} {fd : FuncData} {ps : List Str} {sp : Sp} (F : FnOk P w K mg base CX k f fd ps sp) : FnG P w K mg base CX k f fd ps sp :=
  ⟨F.len, fun A outer s H args us vs Q E _ => F.run A outer s H args us vs Q E⟩
theorem FnG.mono {P : Program} {w : World} {K : PySem.W.Frag} {mg : Str → Option Value} {base : Heap} {CX : CXT} {j k : Nat} {f : Addr} {fd : FuncData} {ps : List Str} {sp : Sp} (F : FnG P w K mg base CX j f fd ps sp) (h : j ≤ k) : FnG P w K mg base CX k f fd ps sp :=
  ⟨F.len, fun A outer s H args us vs Q E hg hr => F.run A outer s H args us vs Q E hg (hr.mono h)⟩
section
variable {CX : CXT} {P : Program} {w : World} {K : PySem.W.Frag} {mg : Str → Option Value} {base : Heap} {k : Nat} {f : Addr}
theorem fnG_of {name qual : Str} {params : Arguments} {body : List Stmt} {scope : Scope} {dV kV doc pm cdv ct oc : Value} {an od : Option Addr}
    {osl : Array (Option Value)} {N ps : List Str} {sp : Sp} (lk : K.lookup f = some ⟨oc, od, .func (PySem.W.fnOf name qual params body scope dV kV doc pm an cdv ct), osl⟩) (hcd : PySem.W.codeIn K cdv qual = true) (S : FnScope N ps scope)
    (len : ∀ vs H Q E, sp vs H Q E → vs.length = ps.length)
    (hbody : ∀ (A : Around) (outer : List Env) (s : Shared) (H : Hp) (vs : List V) (Q : VK) (E : XK), (A.deeper (envOfC qual scope s.heap.objs.size f cdv)).guards = some [] → Room k (A.deeper (envOfC qual scope s.heap.objs.size f cdv)) → sp vs H Q E →
      ∃ t, PSs (cxOf CX P w K mg base N qual scope f cdv A outer s H E) body t ∧ t { nx := fun _ H' => Q .non H', rt := Q } (L2.start N vs) H) :
    FnG P w K mg base CX (k + 1) f (PySem.W.fnOf name qual params body scope dV kV doc pm an cdv ct) ps sp := by
  refine ⟨len, fun A outer s H args us vs Q E hgu hr e0 hb r hsp => ?_⟩
  have hl := len _ _ _ _ hsp
  have KX : K.In s.heap := e0.mod.kin.keeps fun b o e => (e0.bs b o e).1
  have lim : s.heap.NoLimit := e0.mod.nolimit.keeps fun b o e => (e0.bs b o e).1
  have hkind : ∀ y ∈ ps.zip us, scope.names.lookup y.1 = some .local ∨ (scope.names.lookup y.1 = some .cell ∧ ((cellsFrom (s.heap.objs.size + 1) scope.names []).lookup y.1).isSome = true) := by
    intro y hy
    rcases S.par y.1 (List.of_mem_zip hy).1 with q | q
    · exact .inl q
    · exact .inr ⟨q, PySem.W.cellsFrom_some _ _ _ (.inl q)⟩
  refine codeAny_call_function hr.depth (KX _ _ lk) rfl S.co S.gen rfl (PySem.W.codeRec_of KX hcd) (hb _ _ _ _ ?_)
  refine wpAny_newFunctionEnv_cells S.kind hkind fun env he s1 x => ?_
  subst he
  refine ⟨lim.keeps x.toInCall.keep, codeAny_func ?_⟩
  obtain ⟨t, ht, hq⟩ := hbody A outer s H vs Q E hgu (hr.deeper _) hsp
  have I := inv_start (CX := CX) (E := E) S hr.hd e0 hl r x
  refine wpAny_mono (ht.run [] s1 (L2.start N vs) H _ I hq) (fun fl s' hs => ?_) fun e s' hs => hs
  cases fl with
  | ret u =>
    obtain ⟨v, σ', H', J, rv, q⟩ := hs
    exact ⟨v, H', J.os, J.bare, J.base, J.hok, rv, q⟩
  | next =>
    obtain ⟨σ', H', J, q⟩ := hs
    exact ⟨.non, H', J.os, J.bare, J.base, J.hok, rfl, q⟩
  | brk =>
    obtain ⟨_, _, _, q⟩ := hs
    exact False.elim q
  | cont =>
    obtain ⟨_, _, _, q⟩ := hs
    exact False.elim q
theorem funG {x qual : Str} {st : Stmt} {fd : FuncData} {N ps : List Str} {sp : Sp} (F : Fun K x qual st f fd) (S : FnScope N ps (defScope st)) (len : ∀ vs H Q E, sp vs H Q E → vs.length = ps.length)
    (hbody : ∀ (cdv : Value) (A : Around) (outer : List Env) (s : Shared) (H : Hp) (vs : List V) (Q : VK) (E : XK), (A.deeper (envOfC qual (defScope st) s.heap.objs.size f cdv)).guards = some [] → Room k (A.deeper (envOfC qual (defScope st) s.heap.objs.size f cdv)) → sp vs H Q E →
      ∃ t, PSs (cxOf CX0 P w K mg base N qual (defScope st) f cdv A outer s H E).nox (defBody st) t ∧ t { nx := fun _ H' => Q .non H', rt := Q } (L2.start N vs) H) : FnG P w K mg base CX0 (k + 1) f fd ps sp := by
  obtain ⟨oc, od, kV, doc, pm, an, cdv, ct, osl, rfl, lk, hcd⟩ := F.ex
  refine fnG_of lk hcd S len fun A outer s H vs Q E hgu hr hsp => ?_
  obtain ⟨t, h, q⟩ := hbody cdv A outer s H vs Q E hgu hr hsp
  exact ⟨t, h.nox, q⟩
end
section
variable {X : Cx} {CX : CXT} {k : Nat} {f C : Addr} {fd : FuncData} {ps : List Str} {sp : Sp} {dvs : List V} {ds : List Value} {E : XK} {x m : Str} {p pos apos : Pos} {e o : Expr} {es : List Expr} {ta : TE} {t : TA}
theorem run_fnG {pins : List (Addr × Obj)} {σ : L2.St} {H : Hp} {s : Shared} {Q : VK} {us : List Value} {vs : List V} (F : FnG X.prog X.w X.K X.mg X.base CX k f fd ps sp) (hgu : X.A.guards = some []) (hr : Room k X.A) (hb : Binds X.K fd ps ds) (hd : Vals dvs ds) (hx : Passes CX X E)
    (I : Inv X pins σ H s) (r : Vals vs us) (h : sp (vs ++ dvs) H Q E) : wpAny (model X.prog X.w) X.A (call (.ref f) us) (EP X pins σ Q) X.xe s := by
  have r2 : Vals (vs ++ dvs) (us ++ ds) := r.append hd
  have hl : (us ++ ds).length = ps.length := by rw [← r2.length]; exact F.len _ _ _ _ h
  refine wpAny_call (codeAny_mono (F.run X.A X.stack s H ⟨us, []⟩ (us ++ ds) (vs ++ dvs) Q E hgu hr I.env0 (hb s us I.kIn hl) r2 h) fun r s' hq => ?_)
  cases r with
  | error e => exact hx pins σ H s e s' I hq
  | ok fl =>
    cases fl with
    | ret u => exact I.after hq
    | next => exact False.elim hq
    | brk => exact False.elim hq
    | cont => exact False.elim hq
theorem pe_callG (hgu : X.A.guards = some []) (F : FnG X.prog X.w X.K X.mg X.base CX k f fd ps sp) (hr : Room k X.A) (hg : Gl X x) (hm : X.mg x = some (.ref f)) (hk : PySem.W.keepIn X.K (.ref f) = true) (hb : Binds X.K fd ps ds) (hd : Vals dvs ds) (hx : Passes CX X E)
    (ha : PA X (e :: es) t) (hdb : (x == ("__debug__" : Str)) = false := by decide) (he : starEach (e :: es) X.env = (false, eval e X.env) :: starEach es X.env := by rfl) (hpl : (backTo pos (starEach es X.env)).any (·.1) = false := by rfl) :
    PE X (.Call (.Name x p) (e :: es) [] pos) (tCall sp dvs E t) := by
  refine ⟨fun pins s σ H Q I h => ?_⟩
  refine wpAny_Call_Name_kw (ld_glob I hg hm ?_ hdb)
  refine PySem.W.callWith_K (h₀ := X.base) I.ok.mod.kin hk (thn (ha.run pos pins s σ H _ I h) fun us s1 ⟨vs, H1, I1, r, q⟩ => ⟨I1.kIn, ?_⟩) he hpl
  exact run_fnG F hgu hr hb hd hx I1 r q
/-- repr of a list or a tuple, by its data -/
def rReprD (K : PySem.W.Frag) : List V → Hp → VK → Prop := fun xs H Q => (∃ v, xs = [v] ∧ rpOk v ∧ Q (.str (rpV v)) H) ∨
  ∃ (a : Addr) (d : PyData), xs = [.ref a] ∧ Dp K H (.ref a) d ∧ d.showable = true ∧ d.hasDict = false ∧ d.depth ≤ 20 ∧ d.shown.length ≤ sizeLine ∧ Q (.str d.shown) H
theorem call_reprD (hgu : X.A.guards = some []) (hu : X.A.units + 64 < cLine) : CallR X (.builtin "repr") (rReprD X.K) := by
  intro pins s σ H xs us Q I r h
  rcases h with h | ⟨a, d, rfl, hd, hs, hdi, hdep, hsz, q⟩
  · exact call_reprG pins s σ H xs us Q I r h
  · cases r with
    | cons r rr =>
      cases rr
      obtain ⟨as, rd⟩ := Dp.reads I d _ _ hd r
      obtain rfl := (show _ = Value.ref a from r)
      refine repr_of_reads' rd hs (fun z => by rw [hdi] at z; cases z) hgu (by omega) (fun b o e => e) (fun h' u tk hk => ⟨.str _, H, I.kept (t' := tk) hk, ⟨u, rfl⟩, q⟩) hsz
end
end NX
set_option maxHeartbeats 2000000
namespace NX
open PySem PySem.Spec PyProof.Rows L2
/-! ### keyword calls, and the end, for FnG -/
/-- the law is called from outside: no guard stands there -/
theorem law_callG {P : Program} {w : World} {K : PySem.W.Frag} {mg mb : Str → Option Value} {CX : CXT} {k : Nat} {fa a : Addr} {fd : FuncData} {x : Str} {sp : Sp} {s₁ : Shared} {vs : List Value} {ns : List Int}
    (KX : K.In s₁.heap) (hns : s₁.heap.Ns mainGlobals mg) (hb : s₁.heap.Ns builtinsNs mb) (hbb : ∀ x : Str, x ≠ "__name__" → mb x = bootBuiltins x) (hlim : s₁.heap.NoLimit) (hg : s₁.gens = #[])
    (ha : s₁.heap.get? a = some { cls := .type "list", data := .seq vs.toArray }) (hi : IntsAre vs ns) (hl : ns.length ≤ sizeLine) (hr : Room k callerA)
    (F : ∀ base : Heap, K.In base → base.Ns mainGlobals mg → FnG P w K mg base CX k fa fd [x] sp) (hbind : ∀ (s : Shared) (u : Value), BindsTo s fd ⟨[u], []⟩ [(x, u)])
    (hsp : ∀ H : Hp, Only H → SqL K H a (ns.map V.int) → sp [.ref a] H (fun v _ => v = .bl true) fun _ _ _ => False)
    (hCX : ∀ H e s', CX [] H s₁ (fun _ _ _ => False) e s' → False) :
    codeAny (model P w) callerA (.call (.ref fa) ⟨[.ref a], []⟩) (fun r s' => r = .ok (.ret (.bool true)) ∧ OldK s₁.heap s'.heap ∧ s'.os = s₁.os ∧ AllBare s'.gens) s₁ := by
  have rv := vals_ints hi
  have lenV := hi.length
  have core : ∀ H : Hp, Only H → SqL K H a (ns.map V.int) → HOk P w H s₁.heap → (∀ b, H b ≠ none → b = a) → (H a ≠ none → K.lookup a = none) →
      codeAny (model P w) callerA (.call (.ref fa) ⟨[.ref a], []⟩) (fun r s' => r = .ok (.ret (.bool true)) ∧ OldK s₁.heap s'.heap ∧ s'.os = s₁.os ∧ AllBare s'.gens) s₁ := by
    intro H hO hS hok hA hK
    have noA : ∀ {b : Addr} {o : Obj} {es : Array DictEntry} {ep : Nat}, s₁.heap.get? b = some o → o.data = .dict es ep → H b = none := by
      intro b o es ep e d
      cases q : H b with
      | none => rfl
      | some u =>
        obtain rfl : b = a := hA b (by rw [q]; simp)
        rw [ha] at e; cases e
        have d' : Data.seq vs.toArray _ = Data.dict es ep := d
        cases d'
    have nsK : ∀ {b : Addr} {m : Str → Option Value}, s₁.heap.Ns b m → (hidT s₁.heap H).Ns b m := fun {b m} ⟨o, es, ep, e, d, r⟩ => ⟨o, es, ep, hidT_get e (noA e d), d, r⟩
    have hKb : K.In (hidT s₁.heap H) := by
      intro b o e
      refine hidT_get (KX b o e) ?_
      cases q : H b with
      | none => rfl
      | some u =>
        obtain rfl : b = a := hA b (by rw [q]; simp)
        rw [hK (by rw [q]; simp)] at e; cases e
    have hM : Mod K mg (hidT s₁.heap H) := ⟨hKb, nsK hns, ⟨mb, nsK hb, hbb⟩, let ⟨mc, h1, h2⟩ := hlim; ⟨mc, nsK h1, h2⟩⟩
    have e0 : Env0 P w K mg (hidT s₁.heap H) callerA [] s₁ H := ⟨rfl, hM, fun b o e => of_hidT e, Nat.le_of_eq (hidT_size _ _), trivial, fun b hb => absurd (show b ∈ ([] : List Addr) from hb) (by simp), hok, .of_eq hg⟩
    refine codeAny_mono ((F _ hKb (nsK hns)).run callerA [] s₁ H ⟨[.ref a], []⟩ [.ref a] [.ref a] _ _ rfl hr e0 (hbind s₁ (.ref a)) (.cons rfl .nil) (hsp H hO hS)) fun r s' h => ?_
    cases r with
    | error e => exact (hCX H e s' h).elim
    | ok fl =>
      cases fl with
      | next => exact False.elim h
      | brk => exact False.elim h
      | cont => exact False.elim h
      | ret u =>
        obtain ⟨v, H', os, bare, un, hok', r', q⟩ := h
        have q' : v = .bl true := q
        subst q'
        obtain rfl : u = Value.bool true := r'
        refine ⟨rfl, OldK.of_keep fun b o e => ?_, os, bare⟩
        cases q : H b with
        | none => exact un.keep b o e q (by intro z; exact absurd (show b ∈ ([] : List Addr) from z) (by simp)) (by simp)
        | some u =>
          rcases hO b with z | ⟨ob, xs, z⟩
          · rw [q] at z; cases z
          · obtain ⟨e1, _⟩ := hok b _ z
            obtain ⟨e2, _⟩ := hok' b _ (un.frzs b ob _ z)
            rw [e] at e1; cases e1
            exact e2
  cases hk : K.lookup a with
  | some o =>
    have e := KX a o hk
    rw [ha] at e
    cases e
    exact core (fun _ => none) (fun _ => .inl rfl) (.inr ⟨_, vs.toArray, _, hk, rfl, rfl, rfl, by rw [List.size_toArray, lenV]; exact hl, by simpa using rv⟩) (fun b u z => nomatch (show (none : Option HO) = some u from z)) (fun b z => absurd rfl z) fun z => absurd rfl z
  | none =>
    refine core (fun b => if b = a then some (.frz { cls := .type "list", data := .seq vs.toArray } (.lst (ns.map V.int))) else none) (fun b => ?_) (.inl (.inr ⟨{ cls := .type "list", data := .seq vs.toArray }, if_pos rfl⟩)) (fun b u z => ?_) (fun b z => ?_) fun _ => hk
    · by_cases hb : b = a
      · exact .inr ⟨_, _, if_pos hb⟩
      · exact .inl (if_neg hb)
    · by_cases hb : b = a
      · have z' := (if_pos hb).symm.trans z
        cases z'
        subst hb
        exact ⟨ha, by rw [List.length_map]; exact hl, vs, _, rv, ha⟩
      · have z' := (if_neg hb).symm.trans z
        cases z'
    · by_cases hb : b = a
      · exact hb
      · exact absurd (if_neg hb) z
theorem walk_ofKG {l : PySem.W.OpenLaw} {n k : Nat} {q : Program} {loose : List Str} {XP : (Str → Option Value) → Heap → Prop} {YP : World → Heap → Prop} {d : DefRec} {K : Params → PySem.W.Frag} {CX : CXT} {sp : PySem.W.Frag → Sp} {x : Str}
    (hn : l.most = some n) (hn2 : n ≤ sizeLine) (hdf : d.params.defaults = []) (hr : Room k callerA)
    (hY : ∀ (w : World) (h : Heap), YP w h → (K w.params).In h)
    (F : ∀ (w : World) (mg : Str → Option Value) (fa : Addr) (h : Heap), (K w.params).In h → h.Ns mainGlobals mg → mg d.name = some (.ref fa) →
      ∃ fd : FuncData, (∀ (s : Shared) (u : Value), BindsTo s fd ⟨[u], []⟩ [(x, u)]) ∧
        ∀ base : Heap, (K w.params).In base → base.Ns mainGlobals mg → FnG l.prog w (K w.params) mg base CX k fa fd [x] (sp (K w.params)))
    (hsp : ∀ (K : PySem.W.Frag) (H : Hp) (a : Addr) (ns : List Int), ns.length ≤ n → Only H → SqL K H a (ns.map V.int) → sp K [.ref a] H (fun v _ => v = .bl true) fun _ _ _ => False)
    (hCX : ∀ (H : Hp) (s : Shared) (e : Value) (s' : Shared), CX [] H s (fun _ _ _ => False) e s' → False) :
    PySem.W.WalkO q loose XP YP l.row.toRowW d [] (fun f vs => PySem.call f vs) := by
  refine Att.attach_call hn hdf fun w s₀ s₁ mg mb fa o pm cd doc a vs ns G Y ho hd hcd hmg hobj hints hlen hg => ?_
  have KX := hY w _ Y
  obtain ⟨fd, hb, hF⟩ := F w mg fa _ KX G.T.g hmg
  exact law_callG KX G.T.g G.T.b G.T.builtins G.T.nolimit hg hobj hints (Nat.le_trans hlen hn2) hr hF hb (fun H hO hS => hsp _ H a ns hlen hO hS) fun H e s' => hCX H s₁ e s'
end NX
set_option maxHeartbeats 2000000
namespace PyProof.Rows
open PySem PySem.Spec PySem.Builtin PySem.Calls
end PyProof.Rows
namespace NX
open PySem PySem.Spec PyProof.Rows L2
end NX
set_option maxHeartbeats 2000000
namespace NX
open PySem PySem.Spec PyProof.Rows L2
section
variable {X : Cx}
theorem call_reprDK (K : PySem.W.Frag) (hgu : X.A.guards = some []) (hu : X.A.units + 64 < cLine) (hK : X.K = K := by rfl) : CallR X (.builtin "repr") (rReprD K) := hK ▸ call_reprD hgu hu
/-- < of ints, of texts -/
def rLtG : R2 := fun x y H Q => match x, y with
  | .int i, .int j => Q (.bl (decide (i < j))) H
  | .str a, .str b => Q (.bl (decide (a.cps.toList < b.cps.toList))) H
  | _, _ => False
theorem op_ltG : OpR X (compareOp .Lt) rLtG := by
  intro pins s σ H x y v u Q I rx ry h
  unfold rLtG at h
  split at h
  · exact op_lt pins s σ H _ _ v u Q I rx ry ⟨_, _, rfl, rfl, h⟩
  · exact op_lt_str pins s σ H _ _ v u Q I rx ry ⟨_, _, rfl, rfl, h⟩
  · exact h.elim
end
section
variable {K : PySem.W.Frag} {σ : L2.St} {H : Hp} {Q : VK}
theorem r_ltI {i j : Int} (h : Q (.bl (decide (i < j))) H) : rLtG (.int i) (.int j) H Q := h
theorem r_ltS {a b : List Nat} (h : Q (.bl (decide (a < b))) H) : rLtG (T a) (T b) H Q := h
/-- text.index(character) -/
abbrev rIdxS : V → List V → Hp → VK → Prop := fun x xs H Q => ∃ a b i rest, x = .str a ∧ xs = [.str b] ∧ Builtin.Str.occurrences a b 0 a.length 1 = i :: rest ∧ Q (.int (i : Nat)) H
theorem atL_one {l : List Nat} {c i : Nat} : AtL l [c] i ↔ l[i]? = some c := by
  unfold AtL
  constructor
  · rintro ⟨h1, h2⟩
    have hi : i < l.length := by have h3 := h1; simp only [List.length_cons, List.length_nil] at h3; omega
    have : ((l.drop i).take 1)[0]? = some c := by rw [show (l.drop i).take 1 = [c] from h2]; rfl
    simpa [List.getElem?_take, List.getElem?_drop] using this
  · intro h
    have hi : i < l.length := (List.getElem?_eq_some_iff.mp h).1
    have e : l[i] = c := (List.getElem?_eq_some_iff.mp h).2
    refine ⟨by simp only [List.length_cons, List.length_nil]; omega, ?_⟩
    show (l.drop i).take 1 = [c]
    rw [List.drop_eq_getElem_cons hi, e]; rfl
theorem r_idxS {l : List Nat} {c : Nat} (hc : c ∈ l) (h : Q (.int (l.idxOf c : Nat)) H) : rIdxS (T l) [T [c]] H Q := by
  have hlt := List.idxOf_lt_length_of_mem hc
  have e : l[l.idxOf c]? = some c := by rw [List.getElem?_eq_getElem hlt, List.getElem_idxOf hlt]
  rcases StrLaws.occ_head (mkS l) (mkS [c]) 1 (Nat.le_refl 1) with ⟨_, hn⟩ | ⟨i, r, h0, hi, hn⟩
  · exact absurd ((at_mkS l [c] _).mpr (atL_one.mpr e)) (hn _)
  · have hi2 := atL_one.mp ((at_mkS l [c] i).mp hi)
    have hil : i < l.length := (List.getElem?_eq_some_iff.mp hi2).1
    have : i = l.idxOf c := by
      rcases Nat.lt_trichotomy i (l.idxOf c) with q | q | q
      · have h3 := List.not_of_lt_findIdx (p := (· == c)) (xs := l) (i := i) (by simpa [List.idxOf] using q)
        have h4 : l[i] = c := (List.getElem?_eq_some_iff.mp hi2).2
        simp [h4] at h3
      · exact q
      · exact absurd ((at_mkS l [c] _).mpr (atL_one.mpr e)) (hn _ q)
    subst this
    exact ⟨mkS l, mkS [c], _, r, rfl, rfl, h0, h⟩
end
end NX
namespace NX
open PySem PySem.Spec PyProof.Rows L2
/-! ### letters, rows of letters, permutations -/
/-- one to four letters from a to z, ascending -/
def Al (a : List Nat) : Prop := 0 < a.length ∧ a.length ≤ 4 ∧ (∀ c ∈ a, 97 ≤ c ∧ c ≤ 122) ∧ a.Pairwise (· < ·)
theorem Al.asc {a : List Nat} (h : Al a) : Asc a := fun c hc => by have := h.2.2.1 c hc; omega
def RowOf (a l : List Nat) : Prop := ∀ c ∈ l, c ∈ a ++ a.map up1
theorem Al.row {a : List Nat} (h : Al a) : Row a := fun c hc => lett_iff.mpr (.inr (h.2.2.1 c hc))
theorem RowOf.row {a l : List Nat} (ha : Al a) (h : RowOf a l) : Row l := fun c hc => by
  rcases List.mem_append.mp (h c hc) with q | q
  · exact ha.row c q
  · exact ha.row.map_up c q
theorem Al.lt {a : List Nat} (h : Al a) {i j : Nat} (hij : i < j) (hj : j < a.length) : a.getD i 0 < a.getD j 0 := by
  have := List.pairwise_iff_getElem.mp h.2.2.2 i j (by omega) hj hij
  rw [List.getD_eq_getElem?_getD, List.getD_eq_getElem?_getD, List.getElem?_eq_getElem (by omega), List.getElem?_eq_getElem hj]
  exact this
/-- numbers as values -/
abbrev nV (x : Nat) : V := .int (x : Int)
/-- a permutation of the first n numbers -/
def Prm (n : Nat) (l : List Nat) : Prop := l.Perm (List.range n)
theorem Prm.len {n : Nat} {l : List Nat} (h : Prm n l) : l.length = n := by rw [List.Perm.length_eq h, List.length_range]
theorem Prm.mem {n : Nat} {l : List Nat} (h : Prm n l) {x : Nat} : x ∈ l ↔ x < n := by rw [List.Perm.mem_iff h, List.mem_range]
theorem _root_.L2.Rd.same {H H' : Hp} {a : Addr} {u : HO} (h : Rd H a u) (s : Same H H') : Rd H' a u := h.imp (s _ _) fun ⟨o, e⟩ => ⟨o, s _ _ e⟩
theorem _root_.L2.SqT.rd {K : PySem.W.Frag} {H : Hp} {p : Addr} {xs : List V} (h : Rd H p (.tup xs)) : SqT K H p xs := .inl h
/-- figures: a list of tuples, each a permutation -/
def Figs (H : Hp) (p : Addr) (n : Nat) (im : List (List Nat)) : Prop := ∃ ps : List Addr, H p = some (.lst (ps.map V.ref)) ∧ ps.length = im.length ∧ ∀ i, i < im.length → (∃ ob : Obj, ob.dict = none ∧ H (ps.getD i 0) = some (.frz ob (.tup ((im.getD i []).map nV)))) ∧ Prm n (im.getD i [])
theorem Figs.same {H H' : Hp} {p : Addr} {n : Nat} {im : List (List Nat)} (h : Figs H p n im) (s : Same H H') : Figs H' p n im := by
  obtain ⟨ps, h1, h2, h3⟩ := h
  exact ⟨ps, s _ _ h1, h2, fun i hi => ⟨by obtain ⟨ob, hd, e⟩ := (h3 i hi).1; exact ⟨ob, hd, s _ _ e⟩, (h3 i hi).2⟩⟩
/-- where points go back -/
def inv (n : Nat) (l : List Nat) : List Nat := (List.range n).map fun x => l.idxOf x
/-- the steps of the first i letters, in a dict -/
def Stps (H : Hp) (d : Addr) (a : List Nat) (im : List (List Nat)) (n i : Nat) : Prop := ∃ kvs, H d = some (.dK kvs) ∧ kvs.length ≤ 2 * i ∧ ∀ j, j < i →
  (∃ b, valV kvs (Sum.inr (mkS [a.getD j 0])) = some (.ref b) ∧ Rd H b (.tup ((im.getD j []).map nV))) ∧
  ∃ b, valV kvs (Sum.inr (mkS [up1 (a.getD j 0)])) = some (.ref b) ∧ Rd H b (.tup ((inv n (im.getD j [])).map nV))
theorem key_ne {c d : Nat} (h : c ≠ d) : (Sum.inr (mkS [c]) : L2.Key) ≠ Sum.inr (mkS [d]) := fun e => by
  have := mkS_inj (Sum.inr.inj e)
  exact h (List.cons.inj this).1
theorem put_len (c : List (L2.Key × V)) (k : L2.Key) (x : V) : (putK c k x).length ≤ c.length + 1 := by
  unfold putK
  split
  · rw [List.length_map]; omega
  · simp
theorem Al.up {a : List Nat} (h : Al a) {j : Nat} (hj : j < a.length) : up1 (a.getD j 0) = a.getD j 0 - 32 ∧ 97 ≤ a.getD j 0 ∧ a.getD j 0 ≤ 122 := by
  have := h.2.2.1 _ (getD_mem hj)
  unfold up1
  rw [if_pos this]
  exact ⟨rfl, this⟩
theorem Stps.step {H H' : Hp} {d b1 b2 : Addr} {a : List Nat} {im : List (List Nat)} {n i : Nat} {kvs : List (L2.Key × V)} (ha : Al a) (hi : i < a.length) (ed : H d = some (.dK kvs)) (hl : kvs.length ≤ 2 * i)
    (h : ∀ j, j < i → (∃ b, valV kvs (Sum.inr (mkS [a.getD j 0])) = some (.ref b) ∧ Rd H b (.tup ((im.getD j []).map nV))) ∧ ∃ b, valV kvs (Sum.inr (mkS [up1 (a.getD j 0)])) = some (.ref b) ∧ Rd H b (.tup ((inv n (im.getD j [])).map nV)))
    (e : H' d = some (.dK (putK (putK kvs (Sum.inr (mkS [a.getD i 0])) (.ref b1)) (Sum.inr (mkS [up1 (a.getD i 0)])) (.ref b2))))
    (h1 : Rd H' b1 (.tup ((im.getD i []).map nV))) (h2 : Rd H' b2 (.tup ((inv n (im.getD i [])).map nV))) (kp : Kp d H H') : Stps H' d a im n (i + 1) := by
  refine ⟨_, e, ?_, fun j hj => ?_⟩
  · have p1 := put_len (putK kvs (Sum.inr (mkS [a.getD i 0])) (.ref b1)) (Sum.inr (mkS [up1 (a.getD i 0)])) (.ref b2)
    have p2 := put_len kvs (Sum.inr (mkS [a.getD i 0])) (.ref b1)
    omega
  · have ui := ha.up hi
    have uj := ha.up (show j < a.length by omega)
    by_cases c : j = i
    · subst c
      refine ⟨⟨b1, ?_, h1⟩, ⟨b2, ?_, h2⟩⟩
      · rw [valV_put, if_neg (key_ne (by omega)), valV_put, if_pos rfl]
      · rw [valV_put, if_pos rfl]
    · have hlt := ha.lt (show j < i by omega) hi
      obtain ⟨⟨x, x1, x2⟩, ⟨y, y1, y2⟩⟩ := h j (by omega)
      have nd : ∀ {b : Addr} {xs : List V}, Rd H b (.tup xs) → Rd H' b (.tup xs) := fun {b xs} hb => by
        have hbd : b ≠ d := by
          rintro rfl
          rcases hb with hb | ⟨o, hb⟩ <;> (rw [ed] at hb; cases hb)
        exact hb.imp (kp _ _ hbd) fun ⟨o, e⟩ => ⟨o, kp _ _ hbd e⟩
      refine ⟨⟨x, ?_, nd x2⟩, ⟨y, ?_, nd y2⟩⟩
      · rw [valV_put, if_neg (key_ne (by omega)), valV_put, if_neg (key_ne (by omega)), x1]
      · rw [valV_put, if_neg (key_ne (by omega)), valV_put, if_neg (key_ne (by omega)), y1]
theorem fm_some {α : Type} (n : Nat) (f : Nat → α) : (List.range n).filterMap (fun i => some (f i)) = (List.range n).map f := by
  induction n with
  | zero => rfl
  | succ n ih => rw [List.range_succ, List.filterMap_append, ih, List.map_append]; rfl
/-- the step of a sign -/
def stp (a : List Nat) (im : List (List Nat)) (c x : Nat) : Nat := if c ∈ a then (im.getD (a.idxOf c) []).getD x 0 else (im.getD (a.idxOf (lo1 c)) []).idxOf x
def ledF (a : List Nat) (im : List (List Nat)) (l : List Nat) (x : Nat) : Nat := l.foldl (fun y c => stp a im c y) x
theorem Stps.same {H H' : Hp} {d : Addr} {a : List Nat} {im : List (List Nat)} {n i : Nat} (h : Stps H d a im n i) (s : Same H H') : Stps H' d a im n i := by
  obtain ⟨kvs, h1, h2, h3⟩ := h
  refine ⟨kvs, s _ _ h1, h2, fun j hj => ?_⟩
  obtain ⟨⟨b, b1, b2⟩, ⟨c, c1, c2⟩⟩ := h3 j hj
  exact ⟨⟨b, b1, b2.same s⟩, ⟨c, c1, c2.same s⟩⟩
end NX
namespace NX
open PySem PySem.Spec PyProof.Rows L2
/-! ### told rows -/
def tnd (a b : List Nat) : Bool := decide (a.length = b.length) && subS (mkS (b ++ b)) (mkS a)
theorem tnd_iff (a b : List Nat) : tnd a b = true ↔ Turn b a := by
  unfold tnd
  rw [Bool.and_eq_true, decide_eq_true_iff, subS_mk]
  constructor
  · rintro ⟨h1, i, h2⟩
    rw [at_rot h1] at h2
    rw [← h2.2]; exact turn_rot _ _
  · intro h
    obtain ⟨i, hi, e⟩ := h.rot
    exact ⟨h.len.symm, i, (at_rot h.len.symm i).mpr ⟨hi, e.symm⟩⟩
/-- a ring row of the letters, of one to forty characters -/
def RR (a l : List Nat) : Prop := RowOf a l ∧ 1 ≤ l.length ∧ l.length ≤ 40 ∧ ∀ i, i < l.length → l.getD i 0 ≠ swp (l.getD ((i + l.length - 1) % l.length) 0)
/-- rows that can be told -/
def Told (a : List Nat) (rs : List (List Nat)) : Prop := rs.length ≤ 6 ∧ (∀ r ∈ rs, RR a r) ∧ ∀ i j, i < j → j < rs.length → (tnd (rs.getD j []) (rs.getD i []) || tnd (rs.getD j []) (bak (rs.getD i []))) = false
theorem at_prev {l : List Nat} {i : Nat} (h : i < l.length) : atI l ((i : Int) - 1) = some (l.getD ((i + l.length - 1) % l.length) 0) := by
  by_cases c : i = 0
  · subst c
    rw [show ((0 : Nat) : Int) - 1 = -1 by omega]
    have := at_neg (l := l) (k := 0) h
    rw [show (0 + l.length - 1) % l.length = l.length - 1 - 0 by rw [Nat.mod_eq_of_lt (by omega)]; omega]
    exact this
  · have e : ((i : Int) - 1) = ((i - 1 : Nat) : Int) := by omega
    rw [e, at_nat (by omega) (by omega), Int.toNat_natCast]
    congr 2
    rw [show i + l.length - 1 = (i - 1) + l.length by omega, Nat.add_mod_right, Nat.mod_eq_of_lt (by omega)]
theorem take_memL {ls : List (List Nat)} {i : Nat} {z : List Nat} (h : z ∈ ls.take i) : ∃ j, j < i ∧ z = ls.getD j [] := by
  obtain ⟨j, hj, e⟩ := List.mem_iff_getElem.mp h
  rw [List.length_take] at hj
  refine ⟨j, by omega, ?_⟩
  rw [List.getD_eq_getElem?_getD, List.getElem?_eq_getElem (by omega), ← e, List.getElem_take]; rfl
theorem fld2 {f g : Str} {u v : V} (h : (g == f) = false) : List.lookup g [(f, u), (g, v)] = some v := by
  have e : (g == g) = true := beq_self_eq_true g
  simp only [List.lookup, h, e]
theorem put2 {f g : Str} {u v : V} (h : ¬ f = g) : putF g v (putF f u []) = [(f, u), (g, v)] := by
  show (if f = g then _ else _) = _
  rw [if_neg h]; rfl
end NX
set_option maxHeartbeats 2000000
namespace NX
open PySem PySem.Spec PyProof.Rows L2
/-! ### objects of own classes, for FnG -/
section
variable {X : Cx} {CX : CXT} {k : Nat} {f C : Addr} {fd : FuncData} {ps : List Str} {sp : Sp} {dvs : List V} {ds : List Value} {E : XK} {x m : Str} {p pos apos : Pos} {e o : Expr} {es : List Expr} {ta : TE} {t : TA}
theorem pe_meth0G (hgu : X.A.guards = some []) {pl : Sem Bool} (he : PE X o ta) (c : Cls X.K C) (hm : Meth X.K C m f) (F : FnG X.prog X.w X.K X.mg X.base CX k f fd ps sp) (hr : Room k X.A) (hb : Binds X.K fd ps ds) (hd : Vals dvs ds) (hx : Passes CX X E)
    (ht : eval (.Call (.Attribute o m apos) [] [] pos) X.env = (do
      let ov ← eval o X.env
      standAt apos.atName
      let (f, first) ← holding [ov] (getMethod ov m pl)
      callWith pos f first (backTo pos (starEach [] X.env)) (backToKw pos (keywordEach [] X.env))) := by rfl) :
    PE X (.Call (.Attribute o m apos) [] [] pos) (tMeth C m sp dvs E ta tNil) := by
  refine ⟨fun pins s σ H Q I h => ?_⟩
  refine PySem.W.methodCall_KW (pl := pl) (thn (he.run pins s σ H _ I h) fun u s1 ⟨x, H1, I1, rx, a, dx, fs, ex, ea, l, q⟩ => ?_) ht
  subst ex
  obtain rfl : u = Value.ref a := rx
  refine getmeth_ok I1 ea c hm l ?_
  exact PySem.W.callWith_K0 (first := [.ref a]) I1.kIn hm.kp (run_fnG (us := [.ref a]) (vs := [.ref a]) F hgu hr hb hd hx I1 (.cons rfl .nil) q)
theorem run_makeG {pins : List (Addr × Obj)} {σ : L2.St} {H : Hp} {s : Shared} {Q : VK} {us : List Value} {vs : List V} (hgu : X.A.guards = some []) (M : Mk X.K C f) (F : FnG X.prog X.w X.K X.mg X.base CX k f fd ps sp) (hr : Room (k + 1) X.A) (hb : Binds X.K fd ps ds) (hd : Vals dvs ds)
    (hx : Passes CX X E) (I : Inv X pins σ H s) (r : Vals vs us)
    (h : ∀ x dx, H x = none → H dx = none → dx ≠ x → sp (.ref x :: (vs ++ dvs)) (upd (upd H dx (.own x)) x (.ins C dx [])) (fun v H2 => v = .non ∧ Q (.ref x) H2) E) :
    wpAny (model X.prog X.w) X.A (call (.ref C) us) (EP X pins σ Q) X.xe s := by
  have hq := h (s.heap.objs.size + 1) s.heap.objs.size (I.hok.fresh (Nat.le_succ _)) (I.hok.fresh (Nat.le_refl _)) (Nat.ne_of_lt (Nat.lt_succ_self _))
  have I2 := Inv.made (C := C) I
  have r2 : Vals (V.ref (s.heap.objs.size + 1) :: (vs ++ dvs)) (Value.ref (s.heap.objs.size + 1) :: (us ++ ds)) := .cons rfl (r.append hd)
  have hl : (Value.ref (s.heap.objs.size + 1) :: us ++ ds).length = ps.length := by
    have e := r2.length
    rw [F.len _ _ _ _ hq] at e
    exact e.symm
  refine wpAny_call (make_map (f := f) I.kIn M.makes M.init (beq_iff_eq.mp M.fn) (codeAny_mono (F.run _ X.stack _ _ ⟨Value.ref (s.heap.objs.size + 1) :: us, []⟩ (Value.ref (s.heap.objs.size + 1) :: (us ++ ds)) _ _ E ?_ (hr.make C us [])
    (I2.env0.make C us []) (hb _ (Value.ref (s.heap.objs.size + 1) :: us) I2.kIn hl) r2 hq) fun r s' hq' => ?_))
  · have h1 : (Code.builtin "type.__call__" ⟨Value.ref C :: us, []⟩).guards = [] := by
      have h2 : (Code.builtin "type.__call__" ⟨Value.ref C :: us, []⟩).isGuard = false := (by decide +kernel : guardIds.contains "type.__call__" = false)
      unfold Code.guards
      rw [h2]; rfl
    unfold Around.under
    simp only [h1, pushGuards]
    exact hgu
  cases r with
  | error e => exact hx pins σ _ _ e s' I2 hq'
  | ok fl =>
    cases fl with
    | ret u =>
      obtain ⟨v, H', I3, rv, ev, q3⟩ := I2.after hq'
      subst ev
      exact ⟨rv, ⟨V.ref (s.heap.objs.size + 1), H', I3, rfl, q3⟩⟩
    | next => exact False.elim hq'
    | brk => exact False.elim hq'
    | cont => exact False.elim hq'
theorem pe_makeG (hgu : X.A.guards = some []) (M : Mk X.K C f) (F : FnG X.prog X.w X.K X.mg X.base CX k f fd ps sp) (hr : Room (k + 1) X.A) (hg : Gl X x) (hm : X.mg x = some (.ref C)) (hb : Binds X.K fd ps ds) (hd : Vals dvs ds) (hx : Passes CX X E)
    (ha : PA X (e :: es) t) (hdb : (x == ("__debug__" : Str)) = false := by decide) (he : starEach (e :: es) X.env = (false, eval e X.env) :: starEach es X.env := by rfl) (hpl : (backTo pos (starEach es X.env)).any (·.1) = false := by rfl) :
    PE X (.Call (.Name x p) (e :: es) [] pos) (tMake C sp dvs E t) := by
  refine ⟨fun pins s σ H Q I h => ?_⟩
  refine wpAny_Call_Name_kw (ld_glob I hg hm ?_ hdb)
  refine PySem.W.callWith_K (h₀ := X.base) I.ok.mod.kin M.kp (thn (ha.run pos pins s σ H _ I h) fun us s1 ⟨vs, H1, I1, r, q⟩ => ⟨I1.kIn, ?_⟩) he hpl
  exact run_makeG hgu M F hr hb hd hx I1 r q
end
section
variable {P : Program} {w : World} {K : PySem.W.Frag} {mg : Str → Option Value} {base : Heap} {k : Nat} {f : Addr}
theorem funDG {x qual : Str} {st : Stmt} {dvs : List V} {kws : List (Str × V)} {fd : FuncData} {N ps : List Str} {sp : Sp} (F : FunD K x qual (defArgs st) (defBody st) (defScope st) dvs kws f fd) (S : FnScope N ps (defScope st)) (len : ∀ vs H Q E, sp vs H Q E → vs.length = ps.length)
    (hbody : ∀ (cdv : Value) (A : Around) (outer : List Env) (s : Shared) (H : Hp) (vs : List V) (Q : VK) (E : XK), (A.deeper (envOfC qual (defScope st) s.heap.objs.size f cdv)).guards = some [] → Room k (A.deeper (envOfC qual (defScope st) s.heap.objs.size f cdv)) → sp vs H Q E →
      ∃ t, PSs (cxOf CX0 P w K mg base N qual (defScope st) f cdv A outer s H E).nox (defBody st) t ∧ t { nx := fun _ H' => Q .non H', rt := Q } (L2.start N vs) H) : FnG P w K mg base CX0 (k + 1) f fd ps sp := by
  obtain ⟨oc, od, dV, kV, doc, pm, an, cdv, ct, osl, rfl, lk, hcd, _, _⟩ := F.ex
  refine fnG_of lk hcd S len fun A outer s H vs Q E hgu hr hsp => ?_
  obtain ⟨t, h, q⟩ := hbody cdv A outer s H vs Q E hgu hr hsp
  exact ⟨t, h.nox, q⟩
variable {σ : L2.St} {H : Hp} {Q : VK} {D : Ends} {ta tv : TE} {t : TA}
/-- fields -/
def FldJ (K : PySem.W.Frag) (fn : Str) (Q : VK) (x : V) (H1 : Hp) : Prop := ∃ a C dx fs v, x = .ref a ∧ H1 a = some (.ins C dx fs) ∧ Cls K C ∧ NoAttr K C fn ∧ fs.lookup fn = some v ∧ Q v H1
theorem r_fld {fn : Str} (h : ta σ H (FldJ K fn Q)) : tFld K ta fn σ H Q := h
theorem r_fldI {fn : Str} {a C dx : Addr} {fs : List (Str × V)} {v : V} (e : H a = some (.ins C dx fs)) (c : Cls K C) (n : NoAttr K C fn) (l : fs.lookup fn = some v) (h : Q v H) : FldJ K fn Q (.ref a) H := ⟨a, C, dx, fs, v, rfl, e, c, n, l, h⟩
def SFldJ (K : PySem.W.Frag) (fn : Str) (D : Ends) (σ : L2.St) (y x : V) (H2 : Hp) : Prop := ∃ a C dx fs, x = .ref a ∧ H2 a = some (.ins C dx fs) ∧ Cls K C ∧ NoAttr K C fn ∧ fs.length < 1000 ∧ D.nx σ (upd H2 a (.ins C dx (putF fn y fs)))
theorem r_sfld {fn : Str} (h : tv σ H fun y H1 => ta σ H1 fun x H2 => SFldJ K fn D σ y x H2) : sFld K ta tv fn D σ H := h
theorem r_sfldI {fn : Str} {a C dx : Addr} {fs : List (Str × V)} {y : V} (e : H a = some (.ins C dx fs)) (c : Cls K C) (n : NoAttr K C fn) (l : fs.length < 1000) (h : D.nx σ (upd H a (.ins C dx (putF fn y fs)))) : SFldJ K fn D σ y (.ref a) H := ⟨a, C, dx, fs, rfl, e, c, n, l, h⟩
theorem r_make {C : Addr} {sp : Sp} {dvs : List V} {E : XK} (h : t σ H fun vs H1 => ∀ x dx, H1 x = none → H1 dx = none → dx ≠ x → sp (.ref x :: (vs ++ dvs)) (upd (upd H1 dx (.own x)) x (.ins C dx [])) (fun v H2 => v = .non ∧ Q (.ref x) H2) E) : tMake C sp dvs E t σ H Q := h
def MethJ (C : Addr) (m : Str) (sp : Sp) (dvs : List V) (E : XK) (t : TA) (σ : L2.St) (Q : VK) (x : V) (H1 : Hp) : Prop := ∃ a dx fs, x = .ref a ∧ H1 a = some (.ins C dx fs) ∧ fs.lookup m = none ∧ t σ H1 fun vs H2 => sp (x :: (vs ++ dvs)) H2 Q E
theorem r_meth {C : Addr} {m : Str} {sp : Sp} {dvs : List V} {E : XK} (h : ta σ H (MethJ C m sp dvs E t σ Q)) : tMeth C m sp dvs E ta t σ H Q := h
theorem r_methI {C : Addr} {m : Str} {sp : Sp} {dvs : List V} {E : XK} {a dx : Addr} {fs : List (Str × V)} (e : H a = some (.ins C dx fs)) (l : fs.lookup m = none) (h : t σ H fun vs H2 => sp (.ref a :: (vs ++ dvs)) H2 Q E) : MethJ C m sp dvs E t σ Q (.ref a) H := ⟨a, dx, fs, rfl, e, l, h⟩
/-- the front of a tuple -/
theorem r_slT {p : Addr} {xs : List V} {i : Nat} (e : SqT K H p xs) (hi : i < xs.length) (h : ∀ q, H q = none → Q (.ref q) (upd H q (.tup (xs.take i)))) : rSlG K (.ref p) none (some (i : Int)) H Q := by
  refine .inr (.inr ⟨p, xs, rfl, e, fun z => ?_, fun _ q nq => ?_⟩)
  · have := z.2
    rw [HT.sIx_nat] at this
    omega
  · have e2 : cutV xs none (some (i : Int)) = xs.take i := by
      unfold cutV
      rw [HT.sIx_none, HT.sIx_nat, List.drop_zero, Nat.sub_zero, Nat.min_eq_left (by omega)]
    rw [e2]; exact h q nq
end
end NX
namespace NX
open PySem PySem.Spec PyProof.Rows L2
/-! ### a text among texts -/
/-- each once, at its first place -/
def once (ls : List (List Nat)) : List (List Nat) := (List.range ls.length).filterMap fun i => if ls.getD i [] ∈ ls.take i then none else some (ls.getD i [])
theorem once_mem (ls : List (List Nat)) (w : List Nat) : w ∈ once ls ↔ w ∈ ls := by
  unfold once
  rw [List.mem_filterMap]
  constructor
  · rintro ⟨i, hi, e⟩
    split at e
    · cases e
    · rw [← Option.some.inj e]; exact getD_memL (List.mem_range.mp hi)
  · intro h
    -- the first place
    have hlt := List.idxOf_lt_length_of_mem h
    have e : ls.getD (ls.idxOf w) [] = w := by rw [List.getD_eq_getElem?_getD, List.getElem?_eq_getElem hlt, List.getElem_idxOf hlt]; rfl
    refine ⟨ls.idxOf w, List.mem_range.mpr hlt, ?_⟩
    rw [e, if_neg]
    intro hm
    obtain ⟨j, hj, e2⟩ := List.mem_iff_getElem.mp hm
    rw [List.length_take] at hj
    have h3 := List.not_of_lt_findIdx (p := (· == w)) (xs := ls) (i := j) (by
      have : j < ls.idxOf w := by omega
      simpa [List.idxOf] using this)
    rw [List.getElem_take] at e2
    rw [e2] at h3
    simp at h3
section
variable {H : Hp} {Q : VK}
theorem r_p6 (h : Q (.int 1000000) H) : rI CPowW (fun i j => .int (i ^ j.toNat)) (.int 10) (.int 6) H Q := r_pw 5 (by decide) (by decide) (by decide) (by decide) h
theorem r_p39 (h : Q (.int 1000000000000000000000000000000000000000) H) : rI CPowW (fun i j => .int (i ^ j.toNat)) (.int 10) (.int 39) H Q := r_pw 5 (by decide) (by decide) (by decide) (by decide) h
end
/-- how many characters two rows share at their beginnings -/
def cpl : List Nat → List Nat → Nat
  | a :: l, b :: m => if a = b then cpl l m + 1 else 0
  | _, _ => 0
end NX
namespace NX
open PySem PySem.Spec PyProof.Rows L2
theorem rots_mem {z w : List Nat} : w ∈ rots z ↔ ∃ k, k < z.length ∧ w = rot z k := by
  unfold rots
  rw [List.mem_map]
  exact ⟨fun ⟨k, hk, e⟩ => ⟨k, List.mem_range.mp hk, e.symm⟩, fun ⟨k, hk, e⟩ => ⟨k, List.mem_range.mpr hk, e.symm⟩⟩
theorem cut_in (l : List Nat) (h : 1 < l.length) : cutL l (some 1) (some (-1)) = (l.take (l.length - 1)).drop 1 := by
  have e : HT.sIx l.length l.length (some (-1)) = l.length - 1 := by
    show _ = _
    unfold HT.sIx
    simp only
    split <;> omega
  unfold cutL
  rw [e, show (some (1 : Int)) = some ((1 : Nat) : Int) from rfl, HT.sIx_nat, Nat.min_eq_left (by omega), List.drop_take]
/-- no ends that face -/
def NF (r : List Nat) : Prop := ¬ (1 < r.length ∧ r.getD 0 0 = swp (r.getD (r.length - 1) 0))
theorem rr_of {a r : List Nat} (hr : Row r) (ho : RowOf a r) (h1 : 1 ≤ r.length) (h2 : r.length ≤ 40) (hf : Free r) (hn : NF r) : RR a r := by
  refine ⟨ho, h1, h2, fun i hi => ?_⟩
  by_cases c : i = 0
  · subst c
    rw [show (0 + r.length - 1) % r.length = r.length - 1 by rw [Nat.mod_eq_of_lt (by omega)]; omega]
    by_cases d : 1 < r.length
    · exact fun e => hn ⟨d, e⟩
    · have : r.length - 1 = 0 := by omega
      rw [this]
      exact fun e => swp_ne (hr _ (getD_mem hi)) e.symm
  · have e : (i + r.length - 1) % r.length = i - 1 := by
      rw [show i + r.length - 1 = (i - 1) + r.length by omega, Nat.add_mod_right, Nat.mod_eq_of_lt (by omega)]
    rw [e]
    have := free_at (l := r) (k := i - 1) hf (by omega)
    rwa [show i - 1 + 1 = i by omega] at this
theorem some_sign {a : List Nat} (ha : Al a) (x : Nat) : ((a ++ a.map up1).filter fun c => decide (¬ c = x)) ≠ [] := by
  intro h
  rw [List.filter_eq_nil_iff] at h
  have h0 := ha.1
  have u := ha.up h0
  have m1 : a.getD 0 0 ∈ a ++ a.map up1 := List.mem_append_left _ (getD_mem h0)
  have m2 : up1 (a.getD 0 0) ∈ a ++ a.map up1 := List.mem_append_right _ (List.mem_map.mpr ⟨_, getD_mem h0, rfl⟩)
  have e1 := h _ m1
  have e2 := h _ m2
  simp only [decide_eq_true_eq, Decidable.not_not] at e1 e2
  omega
theorem free_add {r : List Nat} {d : Nat} (hf : Free r) (h : ∀ c, r.getLast? = some c → d ≠ swp c) : Free (r ++ [d]) := by
  by_cases e : r = []
  · subst e; trivial
  · obtain ⟨y, c, rfl⟩ : ∃ y c, r = y ++ [c] := ⟨r.dropLast, r.getLast e, (List.dropLast_concat_getLast e).symm⟩
    have := free_snoc hf (h c (by simp))
    simpa using this
theorem range_getD (l : List Nat) : (List.range l.length).map (fun i => l.getD i 0) = l := by
  apply List.ext_getElem?
  intro i
  rw [List.getElem?_map]
  by_cases h : i < l.length
  · rw [List.getElem?_range h]; simp [h]
  · rw [List.getElem?_eq_none (by simpa using h), List.getElem?_eq_none (by simpa using h)]; rfl
theorem fm_get (l : List Nat) (g : Nat → Option V) : (List.range l.length).filterMap (fun i => g (l.getD i 0)) = l.filterMap g := by
  conv => rhs; rw [← range_getD l]
  rw [List.filterMap_map]; rfl
theorem fm_ones (l : List Nat) (x : Nat) : l.filterMap (fun c => if decide (¬ c = x) = true then some (T [c]) else none) = ((l.filter fun c => decide (¬ c = x)).map fun c => [c]).map T := by
  rw [fm_filter, List.map_map]; rfl
theorem last_getD {r : List Nat} {c : Nat} (h : r.getLast? = some c) : r.getD (r.length - 1) 0 = c := by
  obtain ⟨y, rfl⟩ := List.getLast?_eq_some_iff.mp h
  simp
end NX
namespace NX
open PySem PySem.Spec PyProof.Rows L2
/-- a list of tuples (text, number, number) -/
def Kns (H : Hp) (xs : List V) (ws : List (List Nat)) : Prop := xs.length = ws.length ∧ ∀ i, i < ws.length → ∃ (b : Addr) (u v : Int), xs.getD i .non = .ref b ∧ H b = some (.tup [T (ws.getD i []), .int u, .int v])
theorem Kns.nil {H : Hp} : Kns H [] [] := ⟨rfl, fun i hi => absurd hi (by simp)⟩
theorem Kns.same {H H' : Hp} {xs : List V} {ws : List (List Nat)} (h : Kns H xs ws) (s : Same H H') : Kns H' xs ws := ⟨h.1, fun i hi => by
  obtain ⟨b, u, v, e1, e2⟩ := h.2 i hi
  exact ⟨b, u, v, e1, s _ _ e2⟩⟩
theorem Kns.snoc {H : Hp} {xs : List V} {ws : List (List Nat)} (h : Kns H xs ws) {b : Addr} {w : List Nat} {u v : Int} (e : H b = some (.tup [T w, .int u, .int v])) : Kns H (xs ++ [.ref b]) (ws ++ [w]) := by
  obtain ⟨hl, hh⟩ := h
  refine ⟨by simp [hl], fun i hi => ?_⟩
  rw [List.length_append, List.length_singleton] at hi
  by_cases hlt : i < ws.length
  · obtain ⟨b', u', v', e1, e2⟩ := hh i hlt
    refine ⟨b', u', v', ?_, ?_⟩
    · rw [List.getD_eq_getElem?_getD, List.getElem?_append_left (by omega), ← List.getD_eq_getElem?_getD]; exact e1
    · rw [List.getD_eq_getElem?_getD, List.getElem?_append_left hlt, ← List.getD_eq_getElem?_getD]; exact e2
  · have hi2 : i = ws.length := by omega
    subst hi2
    refine ⟨b, u, v, ?_, ?_⟩
    · rw [List.getD_eq_getElem?_getD, ← hl, List.getElem?_concat_length]; rfl
    · rw [List.getD_eq_getElem?_getD, List.getElem?_concat_length]; exact e
theorem Kns.app {H : Hp} {xs ys : List V} {ws us : List (List Nat)} (h : Kns H xs ws) (k : Kns H ys us) : Kns H (xs ++ ys) (ws ++ us) := by
  obtain ⟨hl, hh⟩ := h
  obtain ⟨kl, kk⟩ := k
  refine ⟨by simp [hl, kl], fun i hi => ?_⟩
  rw [List.length_append] at hi
  by_cases hlt : i < ws.length
  · obtain ⟨b', u', v', e1, e2⟩ := hh i hlt
    refine ⟨b', u', v', ?_, ?_⟩
    · rw [List.getD_eq_getElem?_getD, List.getElem?_append_left (by omega), ← List.getD_eq_getElem?_getD]; exact e1
    · rw [List.getD_eq_getElem?_getD, List.getElem?_append_left hlt, ← List.getD_eq_getElem?_getD]; exact e2
  · obtain ⟨b', u', v', e1, e2⟩ := kk (i - ws.length) (by omega)
    refine ⟨b', u', v', ?_, ?_⟩
    · rw [List.getD_eq_getElem?_getD, List.getElem?_append_right (by omega), ← List.getD_eq_getElem?_getD, hl]; exact e1
    · rw [List.getD_eq_getElem?_getD, List.getElem?_append_right (by omega), ← List.getD_eq_getElem?_getD]; exact e2
theorem Kns.keep {H H' : Hp} {xs : List V} {ws : List (List Nat)} (h : Kns H xs ws) (k : ∀ b t, H b = some (.tup t) → H' b = some (.tup t)) : Kns H' xs ws := ⟨h.1, fun i hi => by
  obtain ⟨b, u, v, e1, e2⟩ := h.2 i hi
  exact ⟨b, u, v, e1, k _ _ e2⟩⟩
/-- one more round of a comprehension that writes (text, number, number) -/
theorem Kns.step {H : Hp} {D d e : Addr} {xs : List V} {ws : List (List Nat)} {w : List Nat} {o : HO} {u v : Int} (h : Kns H xs ws) (eD : H D = some (.lst xs)) (nd : H d = none) (ne : upd H d o e = none) :
    upd (upd H d o) e (.tup [T w, .int u, .int v]) D = some (.lst xs) ∧ (∀ c o', c ≠ D → H c = some o' → upd (upd (upd H d o) e (.tup [T w, .int u, .int v])) D (.lst (xs ++ [.ref e])) c = some o') ∧ Kns (upd (upd (upd H d o) e (.tup [T w, .int u, .int v])) D (.lst (xs ++ [.ref e]))) (xs ++ [.ref e]) (ws ++ [w]) := by
  have hed : e ≠ d := by rintro rfl; rw [upd_same] at ne; cases ne
  have ne2 : H e = none := by rwa [upd_ne hed] at ne
  have hDd : D ≠ d := by rintro rfl; rw [nd] at eD; cases eD
  have hDe : D ≠ e := by rintro rfl; rw [ne2] at eD; cases eD
  have k : ∀ c o', c ≠ D → H c = some o' → upd (upd (upd H d o) e (.tup [T w, .int u, .int v])) D (.lst (xs ++ [.ref e])) c = some o' := fun c o' hc ec => by
    have h1 : c ≠ d := by rintro rfl; rw [nd] at ec; cases ec
    have h2 : c ≠ e := by rintro rfl; rw [ne2] at ec; cases ec
    rw [upd_ne hc, upd_ne h2, upd_ne h1]; exact ec
  refine ⟨by rw [upd_ne hDe, upd_ne hDd]; exact eD, k, (h.keep fun b t eb => k _ _ (by rintro rfl; rw [eD] at eb; cases eb) eb).snoc (by rw [upd_ne hDe.symm, upd_same])⟩
/-- the kin of a row, each once: the row turned, and its back turned -/
def kinL (l : List Nat) : List (List Nat) := once (rots l) ++ once (rots (bak l))
end NX
set_option maxHeartbeats 2000000
namespace NX
open PySem PySem.Spec PyProof.Rows L2
/-! ### a caught exception, tracked -/
/-- at a: an exception of the class cls; its dict at d (none: it has none) -/
def ExH (cls : Value) (d : Option Addr) (a : Addr) : HO := .ext fun h => ∃ (oe : Obj) (vs : Array Value), h.get? a = some oe ∧ Zc cls d oe ∧ oe.data = .fields vs
theorem exH_ok {P : Program} {w : World} {H : Hp} {h : Heap} {a : Addr} {cls : Value} {d : Option Addr} {oe : Obj} {vs : Array Value} (e : h.get? a = some oe) (z : Zc cls d oe) (f : oe.data = .fields vs) : ObjOk P w H h a (ExH cls d a) :=
  ⟨⟨oe, vs, e, z, f⟩, ⟨oe, e⟩, fun _ _ ⟨o, v, q, r⟩ k => ⟨o, v, k o q, r⟩⟩
theorem exH_at {P : Program} {w : World} {H : Hp} {h : Heap} {a : Addr} {cls : Value} {d : Option Addr} (hok : HOk P w H h) (e : H a = some (ExH cls d a)) : ∃ (oe : Obj) (vs : Array Value), h.get? a = some oe ∧ Zc cls d oe ∧ oe.data = .fields vs := by
  have x : ObjOk P w H h a (ExH cls d a) := hok a _ e
  exact x.1
theorem track {X : Cx} {pins : List (Addr × Obj)} {σ : L2.St} {H : Hp} {s : Shared} {a : Addr} {o : HO} (I : Inv X pins σ H s) (n0 : X.s_0.heap.get? a = none) (na : H a = none) (nL : a ≠ X.env.locals) (nC : ∀ x c, X.env.cells.lookup x = some c → c ≠ a) (np : ∀ p ∈ X.pn ++ pins, p.1 ≠ a)
    (ok : ObjOk X.prog X.w (upd H a o) s.heap a o) : Inv X pins σ (upd H a o) s :=
  ⟨I.ok, I.os, I.bare, ⟨I.base.keep, I.base.slot, fun b ob e n hx => by
      rw [upd_ne (by rintro rfl; rw [n0] at e; cases e)]; exact I.base.free b ob e n hx, I.base.there,
    fun b xs q => by rw [upd_ne (ne_of_none (I.base.tups b xs q) na)]; exact I.base.tups b xs q,
    fun b ob u q => by rw [upd_ne (ne_of_none (I.base.frzs b ob u q) na)]; exact I.base.frzs b ob u q,
    fun b ps q => by
      obtain ⟨more, e⟩ := I.base.tbls b ps q
      exact ⟨more, by rw [upd_ne (ne_of_none e na)]; exact e⟩⟩, I.loc, I.cell, by rw [upd_ne (Ne.symm nL)]; exact I.free,
    fun x c e => by rw [upd_ne (nC x c e)]; exact I.freeC x c e,
    fun p hp => by
      obtain ⟨e, n, r⟩ := I.pin p hp
      exact ⟨e, by rw [upd_ne (np p hp)]; exact n, r⟩,
    fun b ob e => by
      by_cases hb : b = a
      · subst hb
        rw [upd_same] at e
        cases e
        exact ok
      · rw [upd_ne hb] at e
        exact (I.hok b ob e).stay (fun _ _ _ q => q) (fun c q => by rw [upd_ne (ne_of_none q na)]; exact q) fun c xs q => by rw [upd_ne (ne_of_none q na)]; exact q, I.len⟩
/-! ### try: body, clauses with or without a name; what is caught is tracked -/
def wT (K : PySem.W.Frag) (Wout : WX) (D : Ends) : List (Value × Option Nat × TS) → WX
  | [] => Wout
  | (c, none, ts) :: l => fun cls d σ H => ∃ b, PySem.W.exmOne K cls c = some b ∧ (b = true → ∀ a, H a = none → ts D σ (upd H a (ExH cls d a))) ∧ (b = false → wT K Wout D l cls d σ H)
  | (c, some i, ts) :: l => fun cls d σ H => ∃ b, PySem.W.exmOne K cls c = some b ∧
      (b = true → ∀ a, H a = none → ts { nx := fun σ' H' => D.nx (σ'.set i none) H', rt := D.rt, bk := fun σ' H' => D.bk (σ'.set i none) H', ct := fun σ' H' => D.ct (σ'.set i none) H' } (σ.set i (some (.ref a))) (upd H a (ExH cls d a))) ∧
      (b = false → wT K Wout D l cls d σ H)
inductive HdsT (X : Cx) : List ExceptHandler → List (Value × Option Nat × TS) → Prop
  | nil : HdsT X [] []
  | cons0 {x : Str} {c : Value} {ts : TS} {b₀ : Stmt} {suite : List Stmt} {np pos' : Pos} {hds : List ExceptHandler} {l : List (Value × Option Nat × TS)} (hc : Names X x c)
      (hsu : ∀ (a : Addr) (pn : List (Addr × Obj)), PSs (X.suite a pn) (b₀ :: suite) ts) (r : HdsT X hds l) : HdsT X (.ExceptHandler (some (.Name x np)) none (b₀ :: suite) pos' :: hds) ((c, none, ts) :: l)
  | cons1 {x n : Str} {i : Nat} {c : Value} {ts : TS} {b₀ : Stmt} {suite : List Stmt} {np pos' : Pos} {hds : List ExceptHandler} {l : List (Value × Option Nat × TS)} (hc : Names X x c) (hN : X.N.Nodup) (hi : X.N[i]? = some n) (hln : X.env.kindOf n = some .local)
      (hsu : ∀ (a : Addr) (pn : List (Addr × Obj)), PSs (X.suite a pn) (b₀ :: suite) ts) (r : HdsT X hds l) : HdsT X (.ExceptHandler (some (.Name x np)) (some n) (b₀ :: suite) pos' :: hds) ((c, some i, ts) :: l)
section
variable {X : Cx} {pins : List (Addr × Obj)} {σ : L2.St} {H : Hp} {s : Shared}
theorem toSuite (I : Inv X pins σ H s) (a : Addr) : Inv (X.suite a (X.pn ++ pins)) [] σ H s :=
  ⟨I.ok.suite _ _, I.os, I.bare, I.base, I.loc, I.cell, I.free, I.freeC, fun p hp => I.pin p (by rw [List.append_nil] at hp; exact hp), I.hok, I.len⟩
theorem ofSuite {a : Addr} {pn' : List (Addr × Obj)} (I : Inv (X.suite a (X.pn ++ pins)) pn' σ H s) (ok : X.Ok) : Inv X pins σ H s :=
  ⟨ok, I.os, I.bare, I.base, I.loc, I.cell, I.free, I.freeC, fun p hp => I.pin p (List.mem_append_left _ hp), I.hok, I.len⟩
end
section
variable {X : Cx} {body : List Stmt} {h₀ : ExceptHandler} {hds : List ExceptHandler} {l : List (Value × Option Nat × TS)} {pos : Pos} {tb : WX → TS} {Wout : WX}
theorem ps_tryT (hs : X.stack = X.env :: X.outer) (hf : X.env.frame = some X.env.locals) (hex : X.ex = []) (tk : Takes X Wout)
    (hb : ∀ (W : WX) (pn : List (Addr × Obj)) (xe : Value → Shared → Prop), Takes (X.tr pn xe) W → PassesOwn (model X.prog X.w) X.A X.env xe → PSs (X.tr pn xe) body (tb W))
    (hh : HdsT X (h₀ :: hds) l) : PS X (.Try body (h₀ :: hds) [] [] pos) (fun D σ H => tb (wT X.K Wout D l) D σ H) := by
  refine ⟨fun pins s σ H D I h => ?_⟩
  have ok := I.ok
  have hfr : X.A.frames = some (X.env :: X.outer) := by rw [ok.frames, hs]
  refine wpAny_Try_except ?_
  refine wpAny_mono ((hb (wT X.K Wout D l) (X.pn ++ pins) (fun e s₁ => wpAny (model X.prog X.w) X.A (noteFrame e X.env) (fun _ s₂ => wpAny (model X.prog X.w) X.A (setFlight e none) (fun _ s₃ =>
    wpAny (model X.prog X.w) X.A (handleBy e X.env (h₀ :: hds)) (SP X pins D) X.xe s₃) X.xe s₂) X.xe s₁) (fun u s' xx => ?_) PassesOwn.looking).run [] s σ H D (I.toTry _) h) (fun f s1 hsp => ?_) (fun e s1 he => he)
  · -- the catch
    obtain ⟨a, B, sI, pins', σ', H', cls, d, rfl, J', nb, up, sky, na, os, ag, w⟩ := xx
    have J : Inv X pins σ' H' sI := J'.ofTry ok
    have sky' : Sky B (X.env :: X.outer) a (Zc cls d) X.env.locals s'.heap := by rw [← hs]; exact sky
    show wpAny (model X.prog X.w) X.A (noteFrame (.ref a) X.env) _ _ _
    refine Sky.land Zc.steady hfr hf sky' fun h3 fl3 up3 => ?_
    have J3 : Inv X pins σ' H' { s' with heap := h3 } := J.landed nb fl3.1 (up.trans up3) os ag
    obtain ⟨oe3, vs3, he3, hz3, hd3⟩ := fl3.there
    have notFr : ∀ {h : Heap} {o : Obj} {vs : Array Value}, h.FunFrames B (X.env :: X.outer) → h.get? a = some o → o.data = .fields vs → a ∉ frs (X.env :: X.outer) := fun {h o vs} ff e dd hm => by
      obtain ⟨_, o', e', hnf⟩ := ff.mem hm
      rw [e] at e'; cases e'
      exact hnf _ dd
    have nfr := notFr fl3.2.2.1 he3 hd3
    have nL : a ≠ X.env.locals := fun z => nfr (List.mem_filterMap.mpr ⟨X.env, List.mem_cons_self, by rw [hf, z]⟩)
    have nI : ∀ o, sI.heap.get? a = some o → False := fun o e => by
      have z := nb a o e (by rw [hs]; exact nfr)
      rw [fl3.2.1] at z
      cases z
    have n0 : X.s_0.heap.get? a = none := by
      cases e : X.s_0.heap.get? a with
      | none => rfl
      | some o =>
        obtain ⟨o', e'⟩ := J.base.there a o e (by rw [hex]; exact fun z => nomatch z)
        exact (nI _ e').elim
    have nC : ∀ x c, X.env.cells.lookup x = some c → c ≠ a := fun x c e z => by
      obtain ⟨v, o, e1, _⟩ := J.cell x c e
      rw [z] at e1
      exact nI _ e1
    have np : ∀ p ∈ X.pn ++ pins, p.1 ≠ a := fun p hp z => by
      have e1 := (J.pin p hp).1
      rw [z] at e1
      exact nI _ e1
    have S3 : Inv (X.suite a (X.pn ++ pins)) [] σ' H' { s' with heap := h3 } := toSuite J3 a
    have LT : PySem.W.Looks (model X.prog X.w) h3 (typeOf (.ref a)) cls := fun A Q E s k q => wpAny_typeOf_ref (k _ _ he3) (by rw [hz3.1]; exact q)
    have test : ∀ {x : Str} {c : Value} {np : Pos} {Q : Value → Shared → Prop} {E : Value → Shared → Prop}, Names X x c → Q c { s' with heap := h3 } → wpAny (model X.prog X.w) (X.A.mark (some (.ref a))) (eval (.Name x np) X.env) Q E { s' with heap := h3 } := fun {x c np Q E} hc q => by
      obtain ⟨hg, hdbg, hm | ⟨hm, hv, hnn⟩⟩ := hc
      · exact ld_glob (X := X.suite a (X.pn ++ pins)) S3 hg hm q hdbg
      · exact ld_blt (X := X.suite a (X.pn ++ pins)) S3 hg hm hv q hnn hdbg
    have go : ∀ {hds' : List ExceptHandler} {l' : List (Value × Option Nat × TS)}, HdsT X hds' l' → wT X.K Wout D l' cls d σ' H' →
        wpAny (model X.prog X.w) X.A (handleBy (.ref a) X.env hds') (SP X pins D) X.xe { s' with heap := h3 } := by
      intro hds' l' hk
      induction hk with
      | nil =>
        intro w
        refine wpAny_handleBy_nil ?_
        obtain ⟨k1, k2, k3, oe, vs, T, oT, ts', he, hz, hd, h1, hr⟩ := id fl3
        unfold PySem.passOn
        refine wpAny_bind (wpAny_field he hd h1 ?_)
        rw [if_neg (show ¬ ((Value.ref T == Value.none) = true) from by simp)]
        have fin : wpAny (model X.prog X.w) X.A (setFlight (.ref a) X.env.frame) (fun _ s4 => wpAny (model X.prog X.w) X.A (throw (.ref a) : Sem Flow) (SP X pins D) X.xe s4) X.xe { s' with heap := h3 } := by
          rw [hf]
          refine HandSPX.setFlight_upZ fl3 fun h4 hh4 up4 => wpAny_throw (tk _ _ ?_)
          exact ⟨a, B, sI, pins, σ', H', cls, d, rfl, J, nb, (up.trans up3).trans up4, .inr (.inr (by rw [hs]; exact hh4)), na, os, ag, w⟩
        first
          | exact wpAny_bind (wpAny_pure (wpAny_bind fin))
          | exact wpAny_bind fin
      | @cons0 x c ts b₀ suite np' pos' hds2 l2 hc hsu r ih =>
        intro w
        obtain ⟨b, hb1, hyes, hno⟩ := w
        refine wpAny_handleBy_cons (codeAny_handlers_test ?_) (by intro q; cases q)
        have LM := PySem.W.exm_one (M := model X.prog X.w) (J3.kIn) LT hb1
        refine test hc (LM.here ?_)
        cases b with
        | true =>
          refine codeAny_handlers_suite ?_
          refine HandSPX.lands_againZ fl3 fun h4 fl4 up4 => ?_
          have J4 : Inv X pins σ' H' { s' with heap := h4 } := J.landed nb fl4.1 ((up.trans up3).trans up4) os ag
          obtain ⟨oe4, vs4, he4, hz4, hd4⟩ := fl4.there
          have J5 := track J4 n0 na nL nC np (exH_ok (cls := cls) (d := d) he4 hz4 hd4)
          have S4 := toSuite J5 a
          refine wpAny_mono ((hsu a (X.pn ++ pins)).run [] _ _ _ _ S4 (hyes rfl a na)) (fun f s6 hsp => ?_) (fun _ _ z => False.elim z)
          cases f with
          | next =>
            obtain ⟨σ6, H6, S6, q6⟩ := hsp
            exact ⟨_, _, ofSuite S6 ok, q6⟩
          | brk =>
            obtain ⟨σ6, H6, S6, q6⟩ := hsp
            exact ⟨_, _, ofSuite S6 ok, q6⟩
          | cont =>
            obtain ⟨σ6, H6, S6, q6⟩ := hsp
            exact ⟨_, _, ofSuite S6 ok, q6⟩
          | ret u =>
            obtain ⟨v6, σ6, H6, S6, r6, q6⟩ := hsp
            exact ⟨_, _, _, ofSuite S6 ok, r6, q6⟩
        | false =>
          show wpAny _ X.A (handleBy (.ref a) X.env hds2) _ _ _
          exact ih (hno rfl)
      | @cons1 x n i c ts b₀ suite np' pos' hds2 l2 hc hN hi hln hsu r ih =>
        intro w
        obtain ⟨b, hb1, hyes, hno⟩ := w
        refine wpAny_handleBy_cons (codeAny_handlers_test ?_) (by intro q; cases q)
        have LM := PySem.W.exm_one (M := model X.prog X.w) (J3.kIn) LT hb1
        have hloc : Loc X.env.scope n := .inl hln
        refine test hc (LM.here ?_)
        cases b with
        | true =>
          refine codeAny_handlers_suite_as ?_
          refine HandSPX.lands_againZ fl3 fun h4 fl4 up4 => ?_
          have J4 : Inv X pins σ' H' { s' with heap := h4 } := J.landed nb fl4.1 ((up.trans up3).trans up4) os ag
          obtain ⟨oe4, vs4, he4, hz4, hd4⟩ := fl4.there
          have J5 := track J4 n0 na nL nC np (exH_ok (cls := cls) (d := d) he4 hz4 hd4)
          have S4 := toSuite J5 a
          refine store_ok (X := X.suite a (X.pn ++ pins)) (v := .ref a) S4 hN hi hloc rfl (fun s5 S5 => ?_) (.inr hln)
          refine wpAny_mono ((hsu a (X.pn ++ pins)).run [] s5 _ _ _ S5 (hyes rfl a na)) (fun f s6 hsp => ?_) (fun _ _ z => False.elim z)
          have end_ : ∀ {σ6 : L2.St} {H6 : Hp} {Q : Shared → Prop}, Inv (X.suite a (X.pn ++ pins)) [] σ6 H6 s6 → (∀ s7, Inv X pins (σ6.set i none) H6 s7 → Q s7) →
              wpAny (model X.prog X.w) X.A (do bindName X.env n .none; unbindBehindTheSuite X.env n pos') (fun _ s7 => Q s7) X.xe s6 := fun {σ6 H6 Q} S6 hq => gone_ok (ofSuite S6 ok) hN hi hln hq
          cases f with
          | next =>
            obtain ⟨σ6, H6, S6, q6⟩ := hsp
            exact end_ S6 fun s7 J7 => ⟨_, _, J7, q6⟩
          | brk =>
            obtain ⟨σ6, H6, S6, q6⟩ := hsp
            exact end_ S6 fun s7 J7 => ⟨_, _, J7, q6⟩
          | cont =>
            obtain ⟨σ6, H6, S6, q6⟩ := hsp
            exact end_ S6 fun s7 J7 => ⟨_, _, J7, q6⟩
          | ret u =>
            obtain ⟨v6, σ6, H6, S6, r6, q6⟩ := hsp
            exact end_ S6 fun s7 J7 => ⟨_, _, _, J7, r6, q6⟩
        | false =>
          show wpAny _ X.A (handleBy (.ref a) X.env hds2) _ _ _
          exact ih (hno rfl)
    exact go hh w
  · cases f with
    | next =>
      obtain ⟨σ', H', J', q⟩ := hsp
      exact wpAny_execs_nil ⟨σ', H', J'.ofTry ok, q⟩
    | brk =>
      obtain ⟨σ', H', J', q⟩ := hsp
      exact ⟨σ', H', J'.ofTry ok, q⟩
    | cont =>
      obtain ⟨σ', H', J', q⟩ := hsp
      exact ⟨σ', H', J'.ofTry ok, q⟩
    | ret u =>
      obtain ⟨v, σ', H', J', r, q⟩ := hsp
      exact ⟨v, σ', H', J'.ofTry ok, r, q⟩
end
/-! ### isinstance, also of a tracked exception -/
inductive TyE (K : PySem.W.Frag) (H : Hp) : V → Value → Prop where
  | base {x : V} {t : Value} (h : TyX K H x t) : TyE K H x t
  | frt {a : Addr} {o : Obj} {xs : List V} (e : H a = some (.frz o (.tup xs))) : TyE K H (.ref a) (.type "tuple")
  | exc {a D : Addr} {d : Option Addr} (e : H a = some (ExH (.ref D) d a)) (c : ExcC K D) (dd : ∀ b, d = some b → ∃ fs, H b = some (.xd fs)) : TyE K H (.ref a) (.ref D)
section
variable {X : Cx} {pins : List (Addr × Obj)} {σ : L2.St} {H : Hp} {s : Shared}
theorem inst_of {a D : Addr} {d : Option Addr} (I : Inv X pins σ H s) (e : H a = some (ExH (.ref D) d a)) (dd : ∀ b, d = some b → ∃ fs, H b = some (.xd fs)) : ∃ oe od, PySem.W.InstAt s.heap a oe D od := by
  obtain ⟨oe, vs, h1, h2, h3⟩ := exH_at I.hok e
  cases d with
  | none =>
    refine ⟨oe, none, h1, h2.1, by unfold PySem.W.notCls; rw [h3] <;> rfl, ?_⟩
    rw [h2.2]
    exact True.intro
  | some b =>
    obtain ⟨fs, eb⟩ := dd b rfl
    have hx : ObjOk X.prog X.w H s.heap b (.xd fs) := I.hok b _ eb
    obtain ⟨mA, hns, hr⟩ := hx
    obtain ⟨od, ho, hl⟩ := lookIn_ns hns
    exact ⟨oe, some od, h1, h2.1, by unfold PySem.W.notCls; rw [h3] <;> rfl, by rw [h2.2]; exact ho⟩
theorem kit_ofE {x : V} {u t : Value} (I : Inv X pins σ H s) (rx : RelV x u) (ty : TyE X.K H x t) : ∃ P : Heap → Prop, PySem.W.KitX X.K u t P ∧ P s.heap ∧ u ≠ .builtin "__main__.__loader__#opaque" := by
  cases ty with
  | base h => exact kit_of I rx h
  | @frt a ob xs ea =>
    cases (show u = Value.ref a from rx)
    obtain ⟨_, _, _, _, p⟩ := (show ObjOk X.prog X.w H s.heap a (.frz ob (.tup xs)) from I.hok a _ ea)
    obtain ⟨o, h1, h2, _⟩ := p
    exact ⟨_, PySem.W.kitx_tuple, ⟨o, h1, h2⟩, fun z => nomatch z⟩
  | @exc a D d e c dd =>
    cases (show u = Value.ref a from rx)
    obtain ⟨oe, od, J⟩ := inst_of I e dd
    obtain ⟨cd, hc, _⟩ := PySem.W.any_some c.hd
    exact ⟨_, PySem.W.kitx_exc (od := od) (ox := oe) (by rw [hc]; rfl) c.hg c.hk c.hs c.ha c.hn c.ht c.hm, J, fun z => nomatch z⟩
def rIsX (K : PySem.W.Frag) : List V → Hp → VK → Prop := fun xs H Q =>
  (∃ (x c : V) (t u : Value) (b : Bool), xs = [x, c] ∧ ClsV c u ∧ TyE K H x t ∧ PySem.W.kitOne K t u = some b ∧ Q (.bl b) H) ∨
  ∃ (x : V) (tp : Addr) (cs : List V) (t : Value) (us : List Value) (b : Bool), xs = [x, .ref tp] ∧ H tp = some (.tup cs) ∧ Paired ClsV cs us ∧ TyE K H x t ∧ PySem.W.kitAny K t us = some b ∧ Q (.bl b) H
theorem call_isX : CallR X (.builtin "isinstance") (rIsX X.K) := by
  intro pins s σ H xs us Q I r h
  rcases h with ⟨x, c, t, u, b, rfl, k, ty, e, q⟩ | ⟨x, tp, cs, t, ws, b, rfl, hT, k, ty, e, q⟩
  · obtain ⟨u1, u2, rfl, r1, r2⟩ := vals2 r
    have e2 := k.eq r2
    subst e2
    obtain ⟨P, Z, p, hx⟩ := kit_ofE I r1 ty
    exact PySem.W.kia_one Z I.kIn p e hx fun tk => ⟨.bl b, H, I.tok tk, rfl, q⟩
  · obtain ⟨u1, u2, rfl, r1, r2⟩ := vals2 r
    cases (show u2 = Value.ref tp from r2)
    obtain ⟨P, Z, p, hx⟩ := kit_ofE I r1 ty
    obtain ⟨_, its, rv, o, h1, h2, n, h3⟩ := (show ObjOk X.prog X.w H s.heap tp (.tup cs) from I.hok tp _ hT)
    have e3 := ClsV.all k rv
    subst e3
    obtain ⟨oc, od, dt, sl⟩ := o
    simp only at h2 h3
    subst h2 h3
    exact PySem.W.kia_tup Z I.kIn p h1 e hx fun tk => ⟨.bl b, H, I.tok tk, rfl, q⟩
theorem call_isXK (K : PySem.W.Frag) (hK : X.K = K := by rfl) : CallR X (.builtin "isinstance") (rIsX K) := hK ▸ call_isX
end
/-! ### a field of a tracked exception -/
def XfJ (K : PySem.W.Frag) (f : Str) (Q : VK) (x : V) (H1 : Hp) : Prop := ∃ (a D dd : Addr) (fs : List (Str × V)) (v : V), x = .ref a ∧ H1 a = some (ExH (.ref D) (some dd) a) ∧ XfC K D ∧ PySem.W.findIn K (.ref D) f = some none ∧ H1 dd = some (.xd fs) ∧ fs.lookup f = some v ∧ Q v H1
def tXF (K : PySem.W.Frag) (f : Str) (te : TE) : TE := fun σ H Q => te σ H (XfJ K f Q)
theorem pe_xfT {X : Cx} (K : PySem.W.Frag) {e : Expr} {te : TE} {pos : Pos} {n : Str} (he : PE X e te) (hb : attributeBase e n X.env (eval e X.env) = eval e X.env := by rfl) (hK : X.K = K := by rfl) : PE X (.Attribute e n pos) (tXF K n te) := by
  subst hK
  refine ⟨fun pins s σ H Q I h => ?_⟩
  refine attr_of hb (thn (he.run pins s σ H _ I h) fun u s1 hh => ?_)
  obtain ⟨x, H1, I1, rx, a, D, dd, fs, v, ex, ea, T, hno, ed, l, q⟩ := hh
  subst ex
  obtain rfl : u = Value.ref a := rx
  obtain ⟨oe, vs, h1, h2, h3⟩ := exH_at I1.hok ea
  have hx : ObjOk X.prog X.w H1 s1.heap dd (.xd fs) := I1.hok dd _ ed
  obtain ⟨mA, hns, hr⟩ := hx
  obtain ⟨od, ho, hl⟩ := lookIn_ns hns
  obtain ⟨u, hu, ru⟩ := RelO.some_of (v := v) (o := mA n) (by rw [← l]; exact hr n)
  have J : PySem.W.InstAt s1.heap a oe D (some od) := ⟨h1, h2.1, by unfold PySem.W.notCls; rw [h3] <;> rfl, by rw [h2.2]; exact ho⟩
  exact HandSPX.exc_get I1.kIn J T.ga T.gg T.exC (PySem.W.findObj_own T.hdC hno rfl (by rw [hl, hu])) (handed_of ru) ⟨v, H1, I1.tok _, ru, q⟩
end NX
set_option maxHeartbeats 2000000
namespace NX
open PySem PySem.Spec PyProof.Rows L2
/-! ### defs that may raise (FnG with CX) -/
section
variable {P : Program} {w : World} {K : PySem.W.Frag} {mg : Str → Option Value} {base : Heap} {k : Nat} {f : Addr}
theorem funGX {x qual : Str} {st : Stmt} {fd : FuncData} {N ps : List Str} {sp : Sp} (F : Fun K x qual st f fd) (S : FnScope N ps (defScope st)) (len : ∀ vs H Q E, sp vs H Q E → vs.length = ps.length)
    (hbody : ∀ (cdv : Value) (A : Around) (outer : List Env) (s : Shared) (H : Hp) (vs : List V) (Q : VK) (E : XK), (A.deeper (envOfC qual (defScope st) s.heap.objs.size f cdv)).guards = some [] → Room k (A.deeper (envOfC qual (defScope st) s.heap.objs.size f cdv)) → sp vs H Q E →
      ∃ t, PSs (cxOf (L2.CX P w) P w K mg base N qual (defScope st) f cdv A outer s H E) (defBody st) t ∧ t { nx := fun _ H' => Q .non H', rt := Q } (L2.start N vs) H) : FnG P w K mg base (L2.CX P w) (k + 1) f fd ps sp := by
  obtain ⟨oc, od, kV, doc, pm, an, cdv, ct, osl, rfl, lk, hcd⟩ := F.ex
  exact fnG_of lk hcd S len fun A outer s H vs Q E hgu hr hsp => hbody cdv A outer s H vs Q E hgu hr hsp
theorem funDGX {x qual : Str} {st : Stmt} {dvs : List V} {kws : List (Str × V)} {fd : FuncData} {N ps : List Str} {sp : Sp} (F : FunD K x qual (defArgs st) (defBody st) (defScope st) dvs kws f fd) (S : FnScope N ps (defScope st)) (len : ∀ vs H Q E, sp vs H Q E → vs.length = ps.length)
    (hbody : ∀ (cdv : Value) (A : Around) (outer : List Env) (s : Shared) (H : Hp) (vs : List V) (Q : VK) (E : XK), (A.deeper (envOfC qual (defScope st) s.heap.objs.size f cdv)).guards = some [] → Room k (A.deeper (envOfC qual (defScope st) s.heap.objs.size f cdv)) → sp vs H Q E →
      ∃ t, PSs (cxOf (L2.CX P w) P w K mg base N qual (defScope st) f cdv A outer s H E) (defBody st) t ∧ t { nx := fun _ H' => Q .non H', rt := Q } (L2.start N vs) H) : FnG P w K mg base (L2.CX P w) (k + 1) f fd ps sp := by
  obtain ⟨oc, od, dV, kV, doc, pm, an, cdv, ct, osl, rfl, lk, hcd, _, _⟩ := F.ex
  exact fnG_of lk hcd S len fun A outer s H vs Q E hgu hr hsp => hbody cdv A outer s H vs Q E hgu hr hsp
end
theorem passS {X : Cx} {W : WX} (tk : Takes X W) (σ : L2.St) : PassesAt (L2.CX X.prog X.w) X σ (WE W σ) := passAt tk σ
section
variable {X : Cx} {CX : CXT} {k : Nat} {f C : Addr} {fd : FuncData} {ps ks : List Str} {sp : Sp} {dvs : List V} {ds : List Value} {E : L2.St → XK} {x m : Str} {p pos apos : Pos} {e o : Expr} {es : List Expr} {ta : TE} {t tk : TA} {kws : List Keyword} {g : List Value → List Value → List Value} {gV : List V → List V → List V}
theorem run_fnGS {pins : List (Addr × Obj)} {σ : L2.St} {H : Hp} {s : Shared} {Q : VK} {us : List Value} {vs : List V} (F : FnG X.prog X.w X.K X.mg X.base CX k f fd ps sp) (hgu : X.A.guards = some []) (hr : Room k X.A) (hb : Binds X.K fd ps ds) (hd : Vals dvs ds) (hx : PassesAt CX X σ (E σ))
    (I : Inv X pins σ H s) (r : Vals vs us) (h : sp (vs ++ dvs) H Q (E σ)) : wpAny (model X.prog X.w) X.A (call (.ref f) us) (EP X pins σ Q) X.xe s := by
  have r2 : Vals (vs ++ dvs) (us ++ ds) := r.append hd
  have hl : (us ++ ds).length = ps.length := by rw [← r2.length]; exact F.len _ _ _ _ h
  refine wpAny_call (codeAny_mono (F.run X.A X.stack s H ⟨us, []⟩ (us ++ ds) (vs ++ dvs) Q (E σ) hgu hr I.env0 (hb s us I.kIn hl) r2 h) fun r s' hq => ?_)
  cases r with
  | error e => exact hx pins H s e s' I hq
  | ok fl =>
    cases fl with
    | ret u => exact I.after hq
    | next => exact False.elim hq
    | brk => exact False.elim hq
    | cont => exact False.elim hq
def tCallX (sp : Sp) (dvs : List V) (E : L2.St → XK) (t : TA) : TE := fun σ H Q => t σ H fun vs H1 => sp (vs ++ dvs) H1 Q (E σ)
theorem pe_callX (hgu : X.A.guards = some []) (F : FnG X.prog X.w X.K X.mg X.base CX k f fd ps sp) (hr : Room k X.A) (hg : Gl X x) (hm : X.mg x = some (.ref f)) (hk : PySem.W.keepIn X.K (.ref f) = true) (hb : Binds X.K fd ps ds) (hd : Vals dvs ds) (hx : ∀ σ, PassesAt CX X σ (E σ))
    (ha : PA X (e :: es) t) (hdb : (x == ("__debug__" : Str)) = false := by decide) (he : starEach (e :: es) X.env = (false, eval e X.env) :: starEach es X.env := by rfl) (hpl : (backTo pos (starEach es X.env)).any (·.1) = false := by rfl) :
    PE X (.Call (.Name x p) (e :: es) [] pos) (tCallX sp dvs E t) := by
  refine ⟨fun pins s σ H Q I h => ?_⟩
  refine wpAny_Call_Name_kw (ld_glob I hg hm ?_ hdb)
  refine PySem.W.callWith_K (h₀ := X.base) I.ok.mod.kin hk (thn (ha.run pos pins s σ H _ I h) fun us s1 ⟨vs, H1, I1, r, q⟩ => ⟨I1.kIn, ?_⟩) he hpl
  exact run_fnGS F hgu hr hb hd (hx σ) I1 r q
/-- methods -/
def tMethX (C : Addr) (m : Str) (sp : Sp) (dvs : List V) (E : L2.St → XK) (ta : TE) (t : TA) : TE := fun σ H Q => ta σ H (MethJ C m sp dvs (E σ) t σ Q)
theorem pe_methX (hgu : X.A.guards = some []) {pl : Sem Bool} (he : PE X o ta) (c : Cls X.K C) (hm : Meth X.K C m f) (F : FnG X.prog X.w X.K X.mg X.base CX k f fd ps sp) (hr : Room k X.A) (hb : Binds X.K fd ps ds) (hd : Vals dvs ds) (hx : ∀ σ, PassesAt CX X σ (E σ)) (ha : PA X (e :: es) t)
    (hst : starEach (e :: es) X.env = (false, eval e X.env) :: starEach es X.env := by rfl) (hpl : (backTo pos (starEach es X.env)).any (·.1) = false := by rfl)
    (ht : eval (.Call (.Attribute o m apos) (e :: es) [] pos) X.env = (do
      let ov ← eval o X.env
      standAt apos.atName
      let (f, first) ← holding [ov] (getMethod ov m pl)
      callWith pos f first (backTo pos (starEach (e :: es) X.env)) (backToKw pos (keywordEach [] X.env))) := by rfl) :
    PE X (.Call (.Attribute o m apos) (e :: es) [] pos) (tMethX C m sp dvs E ta t) := by
  refine ⟨fun pins s σ H Q I h => ?_⟩
  refine PySem.W.methodCall_KW (pl := pl) (thn (he.run pins s σ H _ I h) fun u s1 ⟨x, H1, I1, rx, a, dx, fs, ex, ea, l, q⟩ => ?_) ht
  subst ex
  obtain rfl : u = Value.ref a := rx
  refine getmeth_ok I1 ea c hm l ?_
  refine PySem.W.callWith_K (first := [.ref a]) (h₀ := X.base) I.ok.mod.kin hm.kp (thn (ha.run pos pins s1 σ H1 _ I1 q) fun us s2 ⟨vs, H2, I2, r, q2⟩ => ⟨I2.kIn, ?_⟩) hst hpl
  exact run_fnGS (us := .ref a :: us) (vs := .ref a :: vs) F hgu hr hb hd (hx σ) I2 (.cons rfl r) q2
theorem pe_meth0X (hgu : X.A.guards = some []) {pl : Sem Bool} (he : PE X o ta) (c : Cls X.K C) (hm : Meth X.K C m f) (F : FnG X.prog X.w X.K X.mg X.base CX k f fd ps sp) (hr : Room k X.A) (hb : Binds X.K fd ps ds) (hd : Vals dvs ds) (hx : ∀ σ, PassesAt CX X σ (E σ))
    (ht : eval (.Call (.Attribute o m apos) [] [] pos) X.env = (do
      let ov ← eval o X.env
      standAt apos.atName
      let (f, first) ← holding [ov] (getMethod ov m pl)
      callWith pos f first (backTo pos (starEach [] X.env)) (backToKw pos (keywordEach [] X.env))) := by rfl) :
    PE X (.Call (.Attribute o m apos) [] [] pos) (tMethX C m sp dvs E ta tNil) := by
  refine ⟨fun pins s σ H Q I h => ?_⟩
  refine PySem.W.methodCall_KW (pl := pl) (thn (he.run pins s σ H _ I h) fun u s1 ⟨x, H1, I1, rx, a, dx, fs, ex, ea, l, q⟩ => ?_) ht
  subst ex
  obtain rfl : u = Value.ref a := rx
  refine getmeth_ok I1 ea c hm l ?_
  exact PySem.W.callWith_K0 (first := [.ref a]) I1.kIn hm.kp (run_fnGS (us := [.ref a]) (vs := [.ref a]) F hgu hr hb hd (hx σ) I1 (.cons rfl .nil) q)
/-- C(e, ..) -/
theorem run_makeGS {pins : List (Addr × Obj)} {σ : L2.St} {H : Hp} {s : Shared} {Q : VK} {us : List Value} {vs : List V} (hgu : X.A.guards = some []) (M : Mk X.K C f) (F : FnG X.prog X.w X.K X.mg X.base CX k f fd ps sp) (hr : Room (k + 1) X.A) (hb : Binds X.K fd ps ds) (hd : Vals dvs ds)
    (hx : PassesAt CX X σ (E σ)) (I : Inv X pins σ H s) (r : Vals vs us)
    (h : ∀ x dx, H x = none → H dx = none → dx ≠ x → sp (.ref x :: (vs ++ dvs)) (upd (upd H dx (.own x)) x (.ins C dx [])) (fun v H2 => v = .non ∧ Q (.ref x) H2) (E σ)) :
    wpAny (model X.prog X.w) X.A (call (.ref C) us) (EP X pins σ Q) X.xe s := by
  have hq := h (s.heap.objs.size + 1) s.heap.objs.size (I.hok.fresh (Nat.le_succ _)) (I.hok.fresh (Nat.le_refl _)) (Nat.ne_of_lt (Nat.lt_succ_self _))
  have I2 := Inv.made (C := C) I
  have r2 : Vals (V.ref (s.heap.objs.size + 1) :: (vs ++ dvs)) (Value.ref (s.heap.objs.size + 1) :: (us ++ ds)) := .cons rfl (r.append hd)
  have hl : (Value.ref (s.heap.objs.size + 1) :: us ++ ds).length = ps.length := by
    have e := r2.length
    rw [F.len _ _ _ _ hq] at e
    exact e.symm
  refine wpAny_call (make_map (f := f) I.kIn M.makes M.init (beq_iff_eq.mp M.fn) (codeAny_mono (F.run _ X.stack _ _ ⟨Value.ref (s.heap.objs.size + 1) :: us, []⟩ (Value.ref (s.heap.objs.size + 1) :: (us ++ ds)) _ _ (E σ) ?_ (hr.make C us [])
    (I2.env0.make C us []) (hb _ (Value.ref (s.heap.objs.size + 1) :: us) I2.kIn hl) r2 hq) fun r s' hq' => ?_))
  · have h1 : (Code.builtin "type.__call__" ⟨Value.ref C :: us, []⟩).guards = [] := by
      have h2 : (Code.builtin "type.__call__" ⟨Value.ref C :: us, []⟩).isGuard = false := (by decide +kernel : guardIds.contains "type.__call__" = false)
      unfold Code.guards
      rw [h2]; rfl
    unfold Around.under
    simp only [h1, pushGuards]
    exact hgu
  cases r with
  | error e => exact hx pins _ _ e s' I2 hq'
  | ok fl =>
    cases fl with
    | ret u =>
      obtain ⟨v, H', I3, rv, ev, q3⟩ := I2.after hq'
      subst ev
      exact ⟨rv, ⟨V.ref (s.heap.objs.size + 1), H', I3, rfl, q3⟩⟩
    | next => exact False.elim hq'
    | brk => exact False.elim hq'
    | cont => exact False.elim hq'
def tMakeX (C : Addr) (sp : Sp) (dvs : List V) (E : L2.St → XK) (t : TA) : TE := fun σ H Q => t σ H fun vs H1 => ∀ x dx, H1 x = none → H1 dx = none → dx ≠ x → sp (.ref x :: (vs ++ dvs)) (upd (upd H1 dx (.own x)) x (.ins C dx [])) (fun v H2 => v = .non ∧ Q (.ref x) H2) (E σ)
theorem pe_makeX (hgu : X.A.guards = some []) (M : Mk X.K C f) (F : FnG X.prog X.w X.K X.mg X.base CX k f fd ps sp) (hr : Room (k + 1) X.A) (hg : Gl X x) (hm : X.mg x = some (.ref C)) (hb : Binds X.K fd ps ds) (hd : Vals dvs ds) (hx : ∀ σ, PassesAt CX X σ (E σ))
    (ha : PA X (e :: es) t) (hdb : (x == ("__debug__" : Str)) = false := by decide) (he : starEach (e :: es) X.env = (false, eval e X.env) :: starEach es X.env := by rfl) (hpl : (backTo pos (starEach es X.env)).any (·.1) = false := by rfl) :
    PE X (.Call (.Name x p) (e :: es) [] pos) (tMakeX C sp dvs E t) := by
  refine ⟨fun pins s σ H Q I h => ?_⟩
  refine wpAny_Call_Name_kw (ld_glob I hg hm ?_ hdb)
  refine PySem.W.callWith_K (h₀ := X.base) I.ok.mod.kin M.kp (thn (ha.run pos pins s σ H _ I h) fun us s1 ⟨vs, H1, I1, r, q⟩ => ⟨I1.kIn, ?_⟩) he hpl
  exact run_makeGS hgu M F hr hb hd (hx σ) I1 r q
end
/-! ### raising -/
/-- what a class of exceptions without an own __init__ must have -/
structure XcC (K : PySem.W.Frag) (C : Addr) : Prop where
  x : PySem.W.excIn K C [.type "ValueError", .type "Exception", .type "BaseException", .type "object"] "ValueError.__new__" = true
  k : PySem.W.keepIn K (.ref C) = true
  b : PySem.W.subIn K (.ref C) (.type "BaseException") = some true
  t : PySem.W.typeIn K (.ref C) = some (.type "type")
def cA (K : PySem.W.Frag) (x : Str) : Addr := match PySem.W.nsIn K mainGlobals x with | some (some (.ref C)) => C | _ => 0
theorem cA_eq {K : PySem.W.Frag} {x : Str} {C : Addr} (h : PySem.W.nsIn K mainGlobals x = some (some (.ref C))) : cA K x = C := by unfold cA; rw [h]
def tRz (C : Addr) (W : WX) (t : TA) : TS := fun _ σ H => t σ H fun vs H1 => vs.length ≤ sizeLine ∧ W (.ref C) none σ H1
section
variable {X : Cx} {W : WX} {x : Str} {p pos pos2 : Pos} {e : Expr} {es : List Expr} {t : TA} {C : Addr}
theorem ps_rz (hc : X.calm = true) (tk : Takes X W) (c : XcC X.K C) (gC : X.mg x = some (.ref C)) (hg : Gl X x) (ha : PA X (e :: es) t) (hdb : (x == ("__debug__" : Str)) = false := by decide)
    (he : starEach (e :: es) X.env = (false, eval e X.env) :: starEach es X.env := by rfl) (hpl : (backTo pos (starEach es X.env)).any (·.1) = false := by rfl) :
    PS X (.Raise (some (.Call (.Name x p) (e :: es) [] pos)) none pos2) (tRz C W t) :=
  ps_raise hc tk (pmk_ownA F.excBase_ValueError c.x gC c.k (raises_own c.b c.t) hg ha hdb he hpl)
theorem r_rz {D : Ends} {σ : L2.St} {H : Hp} (h : t σ H fun vs H1 => vs.length ≤ sizeLine ∧ W (.ref C) none σ H1) : tRz C W t D σ H := h
end
/-! ### RowError.__init__(self, ..), R a class of one's own over ValueError without __init__ -/
structure RiC (K : PySem.W.Frag) (R : Addr) : Prop where
  rd : PySem.W.readsIn K R (.type "type") = true
  ga : PySem.W.specialIn K (.ref R) "__getattribute__" = some (some (.builtin "type.__getattribute__"))
  at_ : PySem.W.findCls K (.ref R) (.type "type") "__init__" = some (.val (.builtin "ValueError.__init__"))
section
variable {X : Cx} {x : Str} {p1 p2 pos : Pos} {e : Expr} {es : List Expr} {ta : TA} {R : Addr}
theorem pe_rinit {pl : Sem Bool} (K : PySem.W.Frag) (c : RiC K R) (hg : Gl X x) (hm : X.mg x = some (.ref R)) (ha : PA X (e :: es) ta)
    (hc : eval (.Call (.Attribute (.Name x p1) "__init__" p2) (e :: es) [] pos) X.env = (do
      let ov ← eval (.Name x p1) X.env
      standAt p2.atName
      let (f, first) ← holding [ov] (getMethod ov "__init__" pl)
      callWith pos f first (backTo pos (starEach (e :: es) X.env)) (backToKw pos (keywordEach [] X.env))) := by rfl) (hdb : (x == ("__debug__" : Str)) = false := by decide)
    (he : starEach (e :: es) X.env = (false, eval e X.env) :: starEach es X.env := by rfl) (hpl : (backTo pos (starEach es X.env)).any (·.1) = false := by rfl) (hK : X.K = K := by rfl) :
    PE X (.Call (.Attribute (.Name x p1) "__init__" p2) (e :: es) [] pos) (tVeI K ta) := by
  subst hK
  refine ⟨fun pins s σ H Q I h => ?_⟩
  refine PySem.W.methodCall_KW (ld_glob I hg hm ?_ hdb) hc
  refine PySem.W.method_cls I.kIn c.ga (PySem.W.cls_value I.kIn c.rd c.at_ (by decide +kernel) ?_)
  show wpAny _ _ (callWith pos (Value.builtin "ValueError.__init__") [] (backTo pos (starEach (e :: es) X.env)) []) _ _ _
  refine PyProof.Rows.callWith_method1 (thn (ha.run pos pins _ σ H _ (I.tok _) h) fun us s1 ⟨vs, H1, I1, r1, a, C, ws, ev, hl, T, ea, q⟩ => ?_) he hpl
  subst ev
  cases r1 with
  | @cons _ u0 _ ur ra rw' =>
    obtain rfl : u0 = Value.ref a := ra
    have hlen : ur.length ≤ sizeLine := by
      rw [← Paired.length rw', sizeLine_eq]
      omega
    exact oinit_ok T I1 ea hlen fun s' J => ⟨.non, H1, J, rfl, q⟩
end
/-- the promise of such an __init__(self, i), i an int: field f holds it -/
def spXI (C : PySem.W.Frag → Addr) (f : Str) (K : PySem.W.Frag) : Sp := fun vs H Q _ => ∃ (x : Addr) (i : Int), vs = [.ref x, .int i] ∧ (0 ≤ i ∧ i < 2 ^ 60) ∧ H x = some (exo x (C K) none) ∧
  ∀ d, H d = none → d ≠ x → Q .non (upd (upd H d (exd d [(f, .int i)])) x (exo x (C K) (some d)))
/-- raise C(i), C's __init__ keeping spXI -/
def tRi (C : Addr) (f : Str) (W : WX) (t : TA) : TS := fun _ σ H => t σ H fun vs H1 => ∃ i : Int, vs = [.int i] ∧ (0 ≤ i ∧ i < 2 ^ 60) ∧ ∀ d, H1 d = none → W (.ref C) (some d) σ (upd H1 d (.xd [(f, .int i)]))
/-- a reading that bears a weaker wish -/
def tMono (t : TA) : TA := fun σ H Q => ∃ Q0 : List V → Hp → Prop, t σ H Q0 ∧ ∀ vs H', Q0 vs H' → Q vs H'
theorem pa_mono {X : Cx} {es : List Expr} {t : TA} (h : PA X es t) : PA X es (tMono t) := ⟨fun pos pins s σ H Q I hh => by
  obtain ⟨Q0, q, k⟩ := hh
  exact thn (h.run pos pins s σ H Q0 I q) fun us s1 ⟨vs, H1, I1, r1, q1⟩ => ⟨vs, H1, I1, r1, k _ _ q1⟩⟩
section
variable {X : Cx} {W : WX} {x f : Str} {p pos pos2 : Pos} {e : Expr} {es : List Expr} {t : TA} {fI : Addr} {k : Nat} {fd : FuncData} {ps : List Str} {C : Addr} {CF : PySem.W.Frag → Addr}
theorem ps_ri (hc : X.calm = true) (tk : Takes X W) (T : OexC X.K C) (iC : PySem.W.findIn X.K (.ref C) "__init__" = some (some (.ref fI))) (tI : PySem.W.typeIn X.K (.ref fI) = some (.type "function"))
    (F1 : FnOk X.prog X.w X.K X.mg X.base CX0 k fI fd ps (spXI CF f X.K)) (eC : CF X.K = C) (hr : Room (k + 1) X.A) (hb : Binds X.K fd ps []) (hg : Gl X x) (hm : X.mg x = some (.ref C)) (ha : PA X (e :: es) t)
    (hdb : (x == ("__debug__" : Str)) = false := by decide) (he : starEach (e :: es) X.env = (false, eval e X.env) :: starEach es X.env := by rfl) (hpl : (backTo pos (starEach es X.env)).any (·.1) = false := by rfl) :
    PS X (.Raise (some (.Call (.Name x p) (e :: es) [] pos)) none pos2) (tRi C f W t) := by
  refine ⟨fun pins s σ H D I h => ?_⟩
  refine (ps_raise hc tk (pmk_oex (CX := CX0) T iC tI F1 hr hb .nil (fun _ _ _ _ _ _ _ z => z.elim) hg hm (pa_mono ha) hdb he hpl)).run pins s σ H D I ?_
  refine ⟨_, h, fun vs H1 hq => ?_⟩
  obtain ⟨i, rfl, hi, q⟩ := hq
  refine ⟨by show 1 ≤ 1000; decide, fun a na => ?_⟩
  refine ⟨a, i, rfl, hi, by rw [upd_same, eC], fun d nd hda => ⟨rfl, d, [(f, .int i)], ?_, ?_, ?_, ?_⟩⟩
  · rw [upd_same, eC]
  · rw [upd_ne hda, upd_same]
  · rwa [upd_ne hda] at nd
  · have nd1 : H1 d = none := by rwa [upd_ne hda] at nd
    have e2 : upd (del (upd (upd (upd H1 a (exo a C none)) d (exd d [(f, .int i)])) a (exo a (CF X.K) (some d))) a) d (.xd [(f, .int i)]) = upd H1 d (.xd [(f, .int i)]) := by
      funext b
      by_cases hb : b = d
      · rw [hb, upd_same, upd_same]
      · rw [upd_ne hb, upd_ne hb]
        by_cases hba : b = a
        · rw [hba, del_same, na]
        · rw [del_ne hba, upd_ne hba, upd_ne hb, upd_ne hba]
    rw [e2]
    exact q d nd1
theorem r_ri {D : Ends} {σ : L2.St} {H : Hp} (h : t σ H fun vs H1 => ∃ i : Int, vs = [.int i] ∧ (0 ≤ i ∧ i < 2 ^ 60) ∧ ∀ d, H1 d = none → W (.ref C) (some d) σ (upd H1 d (.xd [(f, .int i)]))) : tRi C f W t D σ H := h
end
/-- values that are no text -/
def NotS (K : PySem.W.Frag) (H : Hp) (v : V) : Prop := ∃ t, TyX K H v (.type t) ∧ kitB t "str" = some false
end NX
namespace NX
open PySem PySem.Spec PyProof.Rows L2
/-- what is asked of a class of exceptions -/
structure XcA (K : PySem.W.Frag) (C : Addr) : Prop where
  b : PySem.W.subIn K (.ref C) (.type "BaseException") = some true
  t : PySem.W.typeIn K (.ref C) = some (.type "type")
  k : PySem.W.keepIn K (.ref C) = true
  d : PySem.W.hasDictIn K C = true
  v : PySem.W.subIn K (.ref C) (.type "ValueError") = some true
  hg : PySem.W.findIn K (.ref C) "__getattribute__" = some (some (.builtin "BaseException.__getattribute__"))
  hk : PySem.W.findIn K (.ref C) "__getattr__" = some none
  ha : PySem.W.findIn K (.ref C) "__class__" = some (some (.builtin "object.__class__"))
  hn : PySem.W.specialIn K (.builtin "object.__class__") "__get__" = some (some (.builtin "getset_descriptor.__get__"))
  ht : PySem.W.takesIn K (.builtin "object.__class__") = some true
  hm : PySem.W.mroIn K C (.type "object") = some true
theorem XcA.xf {K : PySem.W.Frag} {C : Addr} (x : XcA K C) : XfC K C := ⟨x.hg, x.hk, x.b, x.d⟩
/-- the clause that names the class C, for an exception of the class D -/
theorem XcA.em {K : PySem.W.Frag} {C D : Addr} {b : Bool} (x : XcA K C) (s : PySem.W.subIn K (.ref D) (.ref C) = some b) : PySem.W.exmOne K (.ref D) (.ref C) = some b := PySem.W.exm_ref x.b x.d x.t s
theorem pass0S {X : Cx} {σ : L2.St} : PassesAt CX0 X σ E0 := fun _ _ _ _ _ _ h => h.elim
/-- RowError.__init__, self.f = e: with the written part named -/
theorem ps_ostK {X : Cx} (K : PySem.W.Frag) {o e : Expr} {to te : TE} {f : Str} {p' pos : Pos} (ho : PE X o to) (he : PE X e te) (hs : swapsWith e (some (.Attribute o f p')) pos.line X.env = pure false := by rfl) (hK : X.K = K := by rfl) : PS X (.Assign [.Attribute o f p'] e pos) (tOst K f to te) := hK ▸ ps_ost ho he hs
section
variable {K : PySem.W.Frag} {σ : L2.St} {H : Hp} {Q : VK} {D : Ends} {t : TA} {te to : TE}
def VeiJ (K : PySem.W.Frag) (Q : VK) (vs : List V) (H1 : Hp) : Prop := ∃ (a C : Addr) (ws : List V), vs = .ref a :: ws ∧ ws.length ≤ 1000 ∧ OexC K C ∧ H1 a = some (exo a C none) ∧ Q .non H1
theorem r_vei (h : t σ H (VeiJ K Q)) : tVeI K t σ H Q := h
def OstJ (K : PySem.W.Frag) (f : Str) (D : Ends) (σ : L2.St) (y x : V) (H2 : Hp) : Prop := ∃ a C : Addr, x = .ref a ∧ OexC K C ∧ PySem.W.findIn K (.ref C) f = some none ∧
  ((H2 a = some (exo a C none) ∧ ∀ dx, H2 dx = none → dx ≠ a → D.nx σ (upd (upd H2 dx (exd dx [(f, y)])) a (exo a C (some dx)))) ∨
    ∃ (dx : Addr) (fs : List (Str × V)), H2 a = some (exo a C (some dx)) ∧ H2 dx = some (exd dx fs) ∧ fs.length ≤ 900 ∧ D.nx σ (upd H2 dx (exd dx ((f, y) :: fs))))
theorem r_ost {f : Str} (h : te σ H fun y H1 => to σ H1 fun x H2 => OstJ K f D σ y x H2) : tOst K f to te D σ H := h
theorem r_xf {f : Str} (h : te σ H (XfJ K f Q)) : tXF K f te σ H Q := h
theorem r_xfI {f : Str} {a C dd : Addr} {fs : List (Str × V)} {v : V} (e : H a = some (ExH (.ref C) (some dd) a)) (c : XcA K C) (n : PySem.W.findIn K (.ref C) f = some none) (ed : H dd = some (.xd fs)) (l : fs.lookup f = some v) (h : Q v H) : XfJ K f Q (.ref a) H := ⟨a, C, dd, fs, v, rfl, e, c.xf, n, ed, l, h⟩
theorem r_callx {sp : Sp} {dvs : List V} {E : L2.St → XK} (h : t σ H fun vs H1 => sp (vs ++ dvs) H1 Q (E σ)) : tCallX sp dvs E t σ H Q := h
theorem r_methx {C : Addr} {m : Str} {sp : Sp} {dvs : List V} {E : L2.St → XK} (h : to σ H (MethJ C m sp dvs (E σ) t σ Q)) : tMethX C m sp dvs E to t σ H Q := h
theorem r_makex {C : Addr} {sp : Sp} {dvs : List V} {E : L2.St → XK} (h : t σ H fun vs H1 => ∀ x dx, H1 x = none → H1 dx = none → dx ≠ x → sp (.ref x :: (vs ++ dvs)) (upd (upd H1 dx (.own x)) x (.ins C dx [])) (fun v H2 => v = .non ∧ Q (.ref x) H2) (E σ)) : tMakeX C sp dvs E t σ H Q := h
/-- isinstance -/
theorem r_ixB {x : V} {a n : String} {b : Bool} (ty : TyX K H x (.type a)) (k : kitB a n = some b) (h : Q (.bl b) H) : rIsX K [x, .ty n] H Q := .inl ⟨x, .ty n, _, _, b, rfl, .ty n, .base ty, k, h⟩
end
end NX
namespace NX
open PySem PySem.Spec PyProof.Rows L2
theorem TyX.same {K : PySem.W.Frag} {H H' : Hp} {v : V} {t : Value} (h : TyX K H v t) (s : Same H H') : TyX K H' v t := by
  cases h with
  | base b =>
    refine .base ?_
    cases b with
    | non => exact .non
    | bl y => exact .bl y
    | int i => exact .int i
    | str y => exact .str y
    | flt y => exact .flt y
    | lst e => exact .lst (s _ _ e)
    | frz e => exact .frz (s _ _ e)
    | tup e => exact .tup (s _ _ e)
    | dK e => exact .dK (s _ _ e)
    | dT e => exact .dT (s _ _ e)
    | ins e cl ha hn htk hm => exact .ins (s _ _ e) cl ha hn htk hm
  | byt b => exact .byt b
  | set e => exact .set (s _ _ e)
  | kList e c => exact .kList e c
  | kTuple e c => exact .kTuple e c
  | kDict e c => exact .kDict e c
  | fTuple e => exact .fTuple (s _ _ e)
  | fDict e => exact .fDict (s _ _ e)
theorem NotS.same {K : PySem.W.Frag} {H H' : Hp} {v : V} (h : NotS K H v) (s : Same H H') : NotS K H' v := by
  obtain ⟨t, ty, k⟩ := h
  exact ⟨t, TyX.same ty s, k⟩
/-- values that are no list -/
def NotL (K : PySem.W.Frag) (H : Hp) (v : V) : Prop := ∃ t, TyX K H v (.type t) ∧ kitB t "list" = some false
theorem NotL.same {K : PySem.W.Frag} {H H' : Hp} {v : V} (h : NotL K H v) (s : Same H H') : NotL K H' v := by
  obtain ⟨t, ty, k⟩ := h
  exact ⟨t, TyX.same ty s, k⟩
end NX
namespace NX
open PySem PySem.Spec PyProof.Rows L2
/-! ### decimal digits -/
def dec (n : Nat) : List Nat := (Nat.toDigits 10 n).map Char.toNat
theorem str_dec (n : Nat) : V.str (Str.ofString (toString ((n : Nat) : Int))) = T (dec n) := by
  show V.str _ = V.str (mkS (dec n))
  congr 1
  apply TL.ext_tl
  exact PySem.W.KIN.signs_num n
theorem dec_len {n k : Nat} (hk : 1 ≤ k) (h : n < 10 ^ k) : (dec n).length ≤ k := by
  unfold dec
  rw [List.length_map]
  exact toDigits_len_pow (by decide) hk h
theorem dec_pos (n : Nat) : 1 ≤ (dec n).length := by
  unfold dec
  rw [List.length_map]
  exact toDigits_len_ge 10 n
end NX
namespace NX
theorem log_small {n : Nat} (h : n < 2 ^ 60) : n.log2 < 1920 := by
  by_cases e : n = 0
  · rw [e]; decide
  · exact Nat.lt_of_lt_of_le ((Nat.log2_lt e).mpr h) (by decide)
end NX
namespace NX
open PySem PySem.Spec PyProof.Rows L2
theorem flat_le {m : Nat} : ∀ {ls : List (List Nat)}, (∀ l ∈ ls, l.length ≤ m) → ls.flatten.length ≤ ls.length * m
  | [], _ => by simp
  | l :: ls, h => by
    have h1 := h l (by simp)
    have h2 := flat_le (ls := ls) fun x hx => h x (by simp [hx])
    rw [List.flatten_cons, List.length_append, List.length_cons, Nat.add_mul, Nat.one_mul]
    omega
end NX
namespace NX
theorem r_ifdF {c : Prop} [Decidable c] {A B : Prop} (h : ¬ c) (b : B) : if decide c = true then A else B := by rw [decide_eq_false h, if_neg Bool.false_ne_true]; exact b
end NX
namespace NX
open PySem PySem.Spec PyProof.Rows L2
/-- values in a list, all of a kind that lasts -/
theorem kp_tyx {K : PySem.W.Frag} {H H' : Hp} {v : V} {t : Value} {a : Addr} (h : TyX K H v t) (k : Kp a H H') (ha : v ≠ .ref a) : TyX K H' v t := by
  have n : ∀ {b : Addr}, V.ref b ≠ V.ref a → b ≠ a := fun z e => z (by rw [e])
  cases h with
  | base b =>
    refine .base ?_
    cases b with
    | non => exact .non
    | bl y => exact .bl y
    | int i => exact .int i
    | str y => exact .str y
    | flt y => exact .flt y
    | lst e => exact .lst (k _ _ (n ha) e)
    | frz e => exact .frz (k _ _ (n ha) e)
    | tup e => exact .tup (k _ _ (n ha) e)
    | dK e => exact .dK (k _ _ (n ha) e)
    | dT e => exact .dT (k _ _ (n ha) e)
    | ins e cl ha' hn htk hm => exact .ins (k _ _ (n ha) e) cl ha' hn htk hm
  | byt b => exact .byt b
  | set e => exact .set (k _ _ (n ha) e)
  | kList e c => exact .kList e c
  | kTuple e c => exact .kTuple e c
  | kDict e c => exact .kDict e c
  | fTuple e => exact .fTuple (k _ _ (n ha) e)
  | fDict e => exact .fDict (k _ _ (n ha) e)
theorem NotS.kp {K : PySem.W.Frag} {H H' : Hp} {v : V} {a : Addr} (h : NotS K H v) (k : Kp a H H') (ha : v ≠ .ref a) : NotS K H' v := by
  obtain ⟨t, ty, hk⟩ := h
  exact ⟨t, kp_tyx ty k ha, hk⟩
theorem NotL.kp {K : PySem.W.Frag} {H H' : Hp} {v : V} {a : Addr} (h : NotL K H v) (k : Kp a H H') (ha : v ≠ .ref a) : NotL K H' v := by
  obtain ⟨t, ty, hk⟩ := h
  exact ⟨t, kp_tyx ty k ha, hk⟩
end NX
namespace NX
open PySem PySem.Spec PyProof.Rows L2
end NX
namespace NX
open PySem PySem.Spec PyProof.Rows L2
/-- no row -/
def NR (K : PySem.W.Frag) (H : Hp) (v : V) : Prop := (∃ l, v = T l ∧ Asc l ∧ l.length ≤ 5000000 ∧ l.all lett = false) ∨ NotS K H v
theorem NR.same {K : PySem.W.Frag} {H H' : Hp} {v : V} (h : NR K H v) (s : Same H H') : NR K H' v := h.imp id fun z => z.same s
theorem NR.kp {K : PySem.W.Frag} {H H' : Hp} {v : V} {a : Addr} (h : NR K H v) (k : Kp a H H') (ha : v ≠ .ref a) : NR K H' v := h.imp id fun z => z.kp k ha
end NX
namespace NX
open PySem PySem.Spec PyProof.Rows L2
/-! ### new objects, the heap named anew -/
theorem new_eq {H H2 : Hp} {p : Addr} {o : HO} (np : H p = none) (hh : upd H p o = H2) : Same H H2 ∧ H2 p = some o := by
  subst hh; exact ⟨Same.new1 np, upd_same⟩
/-! ### lists of tuples -/
def Tps (H : Hp) (xs : List V) (ts : List (List V)) : Prop := xs.length = ts.length ∧ ∀ i, i < ts.length → ∃ b : Addr, xs.getD i .non = .ref b ∧ H b = some (.tup (ts.getD i []))
theorem Tps.nil {H : Hp} : Tps H [] [] := ⟨rfl, fun i hi => absurd hi (by simp)⟩
theorem Tps.keep {H H' : Hp} {xs : List V} {ts : List (List V)} (h : Tps H xs ts) (k : ∀ b t, H b = some (.tup t) → H' b = some (.tup t)) : Tps H' xs ts := ⟨h.1, fun i hi => by
  obtain ⟨b, e1, e2⟩ := h.2 i hi
  exact ⟨b, e1, k _ _ e2⟩⟩
theorem Tps.same {H H' : Hp} {xs : List V} {ts : List (List V)} (h : Tps H xs ts) (s : Same H H') : Tps H' xs ts := h.keep fun b t e => s _ _ e
theorem Tps.kp {H H' : Hp} {a : Addr} {xs ys : List V} {ts : List (List V)} (h : Tps H xs ts) (k : Kp a H H') (ea : H a = some (.lst ys)) : Tps H' xs ts := h.keep fun b t e => k _ _ (by rintro rfl; rw [ea] at e; cases e) e
theorem Tps.snoc {H : Hp} {xs : List V} {ts : List (List V)} (h : Tps H xs ts) {b : Addr} {t : List V} (e : H b = some (.tup t)) : Tps H (xs ++ [.ref b]) (ts ++ [t]) := by
  obtain ⟨hl, hh⟩ := h
  refine ⟨by simp [hl], fun i hi => ?_⟩
  rw [List.length_append, List.length_singleton] at hi
  by_cases hlt : i < ts.length
  · obtain ⟨b', e1, e2⟩ := hh i hlt
    refine ⟨b', ?_, ?_⟩
    · rw [List.getD_eq_getElem?_getD, List.getElem?_append_left (by omega), ← List.getD_eq_getElem?_getD]; exact e1
    · rw [List.getD_eq_getElem?_getD, List.getElem?_append_left hlt, ← List.getD_eq_getElem?_getD]; exact e2
  · have hi2 : i = ts.length := by omega
    subst hi2
    refine ⟨b, ?_, ?_⟩
    · rw [List.getD_eq_getElem?_getD, ← hl, List.getElem?_concat_length]; rfl
    · rw [List.getD_eq_getElem?_getD, List.getElem?_concat_length]; exact e
/-! ### stretches of like characters -/
def run : List Nat → Nat
  | [] => 0
  | c :: l => 1 + (l.takeWhile (· == c)).length
theorem run_cons (c : Nat) (l : List Nat) : run (c :: l) = 1 + (l.takeWhile (· == c)).length := rfl
theorem tw_get {c : Nat} : ∀ {l : List Nat} {i : Nat}, i < (l.takeWhile (· == c)).length → l.getD i 0 = c
  | [], i, h => by simp at h
  | d :: l, i, h => by
    by_cases e : (d == c) = true
    · rw [List.takeWhile_cons, if_pos e, List.length_cons] at h
      cases i with
      | zero => simpa using e
      | succ i => rw [List.getD_cons_succ]; exact tw_get (by omega)
    · rw [List.takeWhile_cons, if_neg e] at h
      simp at h
theorem run_le : ∀ l : List Nat, run l ≤ l.length
  | [] => Nat.le_refl _
  | c :: l => by
    rw [run_cons, List.length_cons]
    have := (List.takeWhile_sublist (l := l) (· == c)).length_le
    omega
theorem run_pos {l : List Nat} (h : l ≠ []) : 1 ≤ run l := by
  cases l with
  | nil => exact absurd rfl h
  | cons c l => rw [run_cons]; omega
theorem tw_eq {c : Nat} : ∀ {l : List Nat} {n : Nat}, n ≤ l.length → (∀ i, i < n → l.getD i 0 = c) → (n = l.length ∨ l.getD n 0 ≠ c) → (l.takeWhile (· == c)).length = n
  | [], n, h, _, _ => by
    have : n = 0 := by simpa using h
    subst this; rfl
  | d :: l, n, h, h1, h2 => by
    cases n with
    | zero =>
      rcases h2 with h2 | h2
      · simp at h2
      · have e : (d == c) = false := by simpa using h2
        rw [List.takeWhile_cons, e]; rfl
    | succ n =>
      have e : (d == c) = true := by simpa using h1 0 (by omega)
      rw [List.takeWhile_cons, if_pos e, List.length_cons, tw_eq (by simpa using h) (fun i hi => h1 (i + 1) (by omega)) (by simpa using h2)]
theorem run_eq {l : List Nat} {n : Nat} (h0 : 0 < n) (h : n ≤ l.length) (h1 : ∀ i, i < n → l.getD i 0 = l.getD 0 0) (h2 : n = l.length ∨ l.getD n 0 ≠ l.getD 0 0) : run l = n := by
  cases l with
  | nil => simp at h; omega
  | cons c l =>
    rw [run_cons, tw_eq (n := n - 1) (by rw [List.length_cons] at h; omega) (fun i hi => by simpa using h1 (i + 1) (by omega)) ?_]
    · omega
    · rcases h2 with h2 | h2
      · left; rw [List.length_cons] at h2; omega
      · right
        obtain ⟨m, rfl⟩ : ∃ m, n = m + 1 := ⟨n - 1, by omega⟩
        simpa using h2
theorem run_all {l : List Nat} {i : Nat} (h : i < run l) : l.getD i 0 = l.getD 0 0 := by
  cases l with
  | nil => simp [run] at h
  | cons c l =>
    cases i with
    | zero => rfl
    | succ i =>
      rw [run_cons] at h
      show (c :: l).getD (i + 1) 0 = c
      rw [List.getD_cons_succ]
      exact tw_get (by omega)
/-- a row's short text, the blocks one behind another; n a bound of the rows -/
def wrt (l : List Nat) : List Nat :=
  match l with
  | [] => []
  | c :: l => [c] ++ (if run (c :: l) = 1 then [] else dec (run (c :: l))) ++ wrt ((c :: l).drop (run (c :: l)))
termination_by l.length
decreasing_by
  have := run_pos (l := c :: l) (by simp)
  rw [List.length_drop, List.length_cons]; omega
theorem wrt_ne {l : List Nat} (h : l ≠ []) : wrt l = [l.getD 0 0] ++ (if run l = 1 then [] else dec (run l)) ++ wrt (l.drop (run l)) := by
  cases l with
  | nil => exact absurd rfl h
  | cons c l => rw [wrt]; rfl
theorem wrt_nil : wrt [] = [] := by rw [wrt]
def short (l : List Nat) : List Nat := if l = [] then [45] else wrt l
theorem wrt_len : ∀ (n : Nat) (l : List Nat), l.length ≤ n → n < 10 ^ 9 → (wrt l).length ≤ 10 * l.length := by
  intro n
  induction n with
  | zero =>
    intro l h _
    have : l = [] := by simpa using h
    subst this; simp [wrt]
  | succ n ih =>
    intro l h hn
    by_cases e : l = []
    · subst e; simp [wrt]
    · rw [wrt_ne e]
      have h1 := run_pos e
      have h2 := run_le l
      have h3 := ih (l.drop (run l)) (by rw [List.length_drop]; omega) (by omega)
      have h4 : (dec (run l)).length ≤ 9 := dec_len (by decide) (by omega)
      rw [List.length_drop] at h3
      simp only [List.length_append, List.length_singleton]
      split
      · simp only [List.length_nil]; omega
      · omega
end NX
namespace NX
open PySem PySem.Spec PyProof.Rows L2
/-! ### f-strings, str(n) -/
section
variable {K : PySem.W.Frag} {σ : L2.St} {H : Hp} {Q : VK} {QS : Str → Hp → Prop} {te t : TE} {ts : List TE} {acc : Str} {a l : List Nat}
theorem r_jsE (h : tJs ts (mkS []) σ H QS) : tJs ts Str.empty σ H QS := h
def JsJ (ts : List TE) (acc : Str) (σ : L2.St) (QS : Str → Hp → Prop) (x : V) (H1 : Hp) : Prop := ∃ y : Str, x = .str y ∧ (acc ++ y).length ≤ sizeLine ∧ tJs ts (acc ++ y) σ H1 QS
theorem r_js (h : t σ H (JsJ ts acc σ QS)) : tJs (t :: ts) acc σ H QS := h
theorem r_js0 (h : QS acc H) : tJs [] acc σ H QS := h
theorem r_jsT (hl : a.length + l.length ≤ 16777216) (h : tJs ts (mkS (a ++ l)) σ H QS) : JsJ ts (mkS a) σ QS (T l) H := ⟨mkS l, rfl, by rw [mkS_add, mkS_len, List.length_append, sizeLine_eq]; exact hl, by rw [mkS_add]; exact h⟩
def FmtJ (Q : VK) (x : V) (H1 : Hp) : Prop := (∃ y : Str, x = .str y ∧ y.length ≤ sizeLine ∧ Q (.str y) H1) ∨ ∃ i : Int, x = .int i ∧ i.natAbs.log2 < 1920 ∧ Q (.str (toString i)) H1
theorem r_fmt (h : te σ H (FmtJ Q)) : tFmt te σ H Q := h
theorem r_fmtS (hl : l.length ≤ 16777216) (h : Q (T l) H) : FmtJ Q (T l) H := .inl ⟨mkS l, rfl, by rw [mkS_len, sizeLine_eq]; exact hl, h⟩
theorem r_fmtI {n : Nat} (hn : n < 2 ^ 60) (h : Q (T (dec n)) H) : FmtJ Q (.int (n : Nat)) H := .inr ⟨_, rfl, log_small hn, by rw [str_dec]; exact h⟩
theorem r_strI {n : Nat} {P : V → Prop} (hn : n < 2 ^ 60) (h : P (T (dec n))) : (n : Int).natAbs.log2 < 1920 ∧ P (V.str (Str.ofString (toString (n : Int)))) := ⟨log_small hn, by rw [str_dec]; exact h⟩
end
end NX
namespace NX
open PySem PySem.Spec PyProof.Rows L2
theorem rep1 (c n : Nat) : repL [c] n = List.replicate n c := by
  induction n with
  | zero => rfl
  | succ n ih => unfold repL at *; rw [List.replicate_succ, List.flatten_cons, ih, List.replicate_succ]; rfl
/-- a run that ends behind m + 1 characters from j on -/
theorem run_at {l : List Nat} {j m : Nat} (hj : j + m < l.length) (h1 : ∀ i, i < m → l.getD (j + i) 0 = l.getD j 0) (h0 : l.getD (j + m) 0 = l.getD j 0) (h2 : j + m + 1 = l.length ∨ l.getD (j + m + 1) 0 ≠ l.getD (j + m) 0) : run (l.drop j) = m + 1 := by
  have hd : ∀ i, (l.drop j).getD i 0 = l.getD (j + i) 0 := fun i => by rw [List.getD_eq_getElem?_getD, List.getElem?_drop, ← List.getD_eq_getElem?_getD]
  refine run_eq (by omega) (by rw [List.length_drop]; omega) (fun i hi => ?_) ?_
  · rw [hd, hd, Nat.add_zero]
    by_cases e : i = m
    · rw [e, h0]
    · exact h1 i (by omega)
  · rw [List.length_drop, hd, hd, Nat.add_zero]
    rcases h2 with h2 | h2
    · left; omega
    · right; rw [← Nat.add_assoc]; rw [h0] at h2; exact h2
end NX
namespace NX
open PySem PySem.Spec PyProof.Rows L2
section
variable {H : Hp} {Q : VK}
theorem r_isIN {i : Int} (h : Q (.bl false) H) : rIsG (.int i) .non H Q := .inl ⟨rfl, by simpa using h⟩
theorem r_isnIN {i : Int} (h : Q (.bl true) H) : rIsNotG (.int i) .non H Q := .inl ⟨rfl, by simpa using h⟩
end
end NX
namespace NX
open PySem PySem.Spec PyProof.Rows L2
end NX
namespace NX
open PySem PySem.Spec PyProof.Rows L2 PySem.NumText
/-! ### reading short texts -/
def dig (c : Nat) : Bool := decide (48 ≤ c ∧ c ≤ 57)
theorem dig_iff {c : Nat} : dig c = true ↔ 48 ≤ c ∧ c ≤ 57 := by unfold dig; exact decide_eq_true_iff
theorem dig_lett {c : Nat} (h : lett c = true) : dig c = false := by
  cases e : dig c with
  | false => rfl
  | true => rw [lett_iff] at h; rw [dig_iff] at e; omega
/-- the number that digits write without leading zeros -/
def numL (d : List Nat) : Option Nat := if d = [] ∨ d.all dig = false then none else if d = [48] ∨ d.getD 0 0 ≠ 48 then some (digitsVal d) else none
/-- how often a character stands there -/
def timesL (d : List Nat) : Option Nat := if d = [] then some 1 else if 3 < d.length then none else match numL d with
  | some n => if 1 < n then some n else none
  | none => none
def rd (most : Nat) (l acc : List Nat) : Option (List Nat) :=
  match l with
  | [] => some acc
  | c :: l => if lett c = false then none else match timesL (l.takeWhile dig) with
    | none => none
    | some t => if most < acc.length + t then none else rd most (l.drop (l.takeWhile dig).length) (acc ++ repL [c] t)
termination_by l.length
decreasing_by rw [List.length_drop, List.length_cons]; omega
theorem rd_nil (most : Nat) (acc : List Nat) : rd most [] acc = some acc := by rw [rd]
theorem rd_cons (most c : Nat) (l acc : List Nat) : rd most (c :: l) acc = if lett c = false then none else match timesL (l.takeWhile dig) with
    | none => none
    | some t => if most < acc.length + t then none else rd most (l.drop (l.takeWhile dig).length) (acc ++ repL [c] t) := by rw [rd]
theorem rd_bad0 {most c : Nat} {l acc : List Nat} (h : lett c = false) : rd most (c :: l) acc = none := by rw [rd_cons, if_pos h]
/-- a row's text, as it is read -/
def rowL (most : Nat) (l : List Nat) : Option (List Nat) := match rd most l [] with
  | some r => if r = [] then none else some r
  | none => none
/-- .. and - for the empty row -/
def anyL (l : List Nat) : Option (List Nat) := if l = [45] then some [] else rowL 300 l
/-- a sign that is no letter and no digit is never read -/
theorem rd_sign {most c : Nat} (h1 : lett c = false) (h2 : dig c = false) : ∀ (n : Nat) (l acc : List Nat), l.length ≤ n → c ∈ l → rd most l acc = none := by
  intro n
  induction n with
  | zero =>
    intro l acc hl hc
    have : l = [] := by simpa using hl
    subst this; cases hc
  | succ n ih =>
    intro l acc hl hc
    cases l with
    | nil => cases hc
    | cons b l =>
      rw [rd_cons]
      split
      · rfl
      · rename_i hb
        have hcb : c ≠ b := fun e => hb (e ▸ h1)
        have hcl : c ∈ l := by
          rcases List.mem_cons.mp hc with e | e
          · exact absurd e hcb
          · exact e
        split
        · rfl
        · split
          · rfl
          · refine ih _ _ (by rw [List.length_drop]; rw [List.length_cons] at hl; omega) ?_
            have e := List.takeWhile_append_dropWhile (p := dig) (l := l)
            have hd : l.drop (l.takeWhile dig).length = l.dropWhile dig := by
              conv => lhs; rw [← e]
              rw [List.takeWhile_append_dropWhile, ]
              conv => lhs; arg 2; rw [← e]
              rw [List.drop_left]
            rw [hd]
            rw [← e] at hcl
            rcases List.mem_append.mp hcl with q | q
            · have := List.all_takeWhile (p := dig) (l := l)
              rw [List.all_eq_true] at this
              have := this c q
              rw [h2] at this; cases this
            · exact q
/-! ### digits -/
theorem dec_dig (n : Nat) : ∀ c ∈ dec n, dig c = true := by
  intro c hc
  obtain ⟨x, hx, rfl⟩ := List.mem_map.mp hc
  have h := Nat.isDigit_of_mem_toDigits (by decide) (by decide) hx
  have h2 : 48 ≤ x.toNat ∧ x.toNat ≤ 57 := by
    unfold Char.isDigit at h
    simp only [Bool.and_eq_true, decide_eq_true_eq] at h
    exact ⟨h.1, h.2⟩
  exact dig_iff.mpr h2
theorem dec_val (n : Nat) : digitsVal (dec n) = n := PySem.W.KIN.val_back n
theorem dec_first : ∀ (n : Nat), 0 < n → (dec n).getD 0 0 ≠ 48 := by
  intro n
  induction n using Nat.strongRecOn with
  | _ n ih =>
    intro h
    unfold dec
    by_cases hb : n < 10
    · rw [Nat.toDigits_of_lt_base hb]
      have : ∀ m, m < 10 → 0 < m → (Nat.digitChar m).toNat ≠ 48 := by decide
      exact this n hb h
    · rw [Nat.toDigits_of_base_le (by decide) (by omega), List.map_append]
      have h1 := ih (n / 10) (by omega) (by omega)
      have hp := dec_pos (n / 10)
      unfold dec at h1 hp
      rw [List.getD_eq_getElem?_getD, List.getElem?_append_left (by omega), ← List.getD_eq_getElem?_getD]
      exact h1
theorem num_dec {n : Nat} (h : 0 < n) : numL (dec n) = some n := by
  unfold numL
  have hne : dec n ≠ [] := List.length_pos_iff.mp (dec_pos n)
  rw [if_neg, if_pos (.inr (dec_first n h)), dec_val]
  rintro (e | e)
  · exact hne e
  · rw [List.all_eq_true.mpr (dec_dig n)] at e; cases e
theorem times_dec {n : Nat} (h : 1 < n) (h2 : n < 1000) : timesL (dec n) = some n := by
  unfold timesL
  have hne : dec n ≠ [] := List.length_pos_iff.mp (dec_pos n)
  rw [if_neg hne, if_neg (by have := dec_len (n := n) (k := 3) (by decide) (by omega); omega), num_dec (by omega)]
  show (if 1 < n then some n else none) = some n
  rw [if_pos h]
/-- what is no digit at the beginning -/
def Nod (l : List Nat) : Prop := l = [] ∨ dig (l.getD 0 0) = false
theorem tw_digits {d r : List Nat} (hd : ∀ c ∈ d, dig c = true) (hr : Nod r) : (d ++ r).takeWhile dig = d := by
  induction d with
  | nil =>
    cases r with
    | nil => rfl
    | cons c r =>
      rcases hr with h | h
      · cases h
      · rw [List.nil_append, List.takeWhile_cons, if_neg (by rw [show dig c = false from h]; decide)]
  | cons c d ih =>
    rw [List.cons_append, List.takeWhile_cons, if_pos (hd c (by simp)), ih fun x hx => hd x (by simp [hx])]
theorem rd_block {most c t : Nat} {d r acc : List Nat} (hc : lett c = true) (hd : ∀ c ∈ d, dig c = true) (hr : Nod r) (ht : timesL d = some t) (hm : acc.length + t ≤ most) : rd most ([c] ++ d ++ r) acc = rd most r (acc ++ repL [c] t) := by
  rw [List.append_assoc, List.singleton_append, rd_cons, if_neg (by rw [hc]; decide), tw_digits hd hr, ht]
  show (if most < acc.length + t then none else rd most ((d ++ r).drop d.length) (acc ++ repL [c] t)) = _
  rw [if_neg (by omega), List.drop_left]
/-- t writes w -/
def Wr (most : Nat) (t w : List Nat) : Prop := Nod t ∧ (t = [] → w = []) ∧ Row w ∧ (w = [] → t = []) ∧ ∀ r acc, Nod r → acc.length + w.length ≤ most → rd most (t ++ r) acc = rd most r (acc ++ w)
theorem Nod.app {a b : List Nat} (h : Nod a) (k : Nod b) : Nod (a ++ b) := by
  cases a with
  | nil => exact k
  | cons c a =>
    rcases h with h | h
    · cases h
    · exact .inr h
theorem Wr.nil {most : Nat} : Wr most [] [] := ⟨.inl rfl, fun _ => rfl, Row.nil, fun _ => rfl, fun r acc _ _ => by rw [List.append_nil]; rfl⟩
theorem Wr.app {most : Nat} {t u w v : List Nat} (h : Wr most t w) (k : Wr most u v) : Wr most (t ++ u) (w ++ v) := by
  refine ⟨h.1.app k.1, fun e => ?_, h.2.2.1.app k.2.2.1, fun e => ?_, fun r acc hr hl => ?_⟩
  · rw [List.append_eq_nil_iff] at e
    rw [h.2.1 e.1, k.2.1 e.2]; rfl
  · rw [List.append_eq_nil_iff] at e
    rw [h.2.2.2.1 e.1, k.2.2.2.1 e.2]; rfl
  · rw [List.length_append] at hl
    rw [List.append_assoc, h.2.2.2.2 _ _ (k.1.app hr) (by omega), k.2.2.2.2 r _ hr (by rw [List.length_append]; omega), List.append_assoc]
theorem Wr.one {most c : Nat} (hc : lett c = true) : Wr most [c] [c] := by
  refine ⟨.inr (dig_lett hc), fun e => (by cases e), Row.one hc, fun e => (by cases e), fun r acc hr hl => ?_⟩
  have h := rd_block (most := most) (c := c) (t := 1) (d := []) (r := r) (acc := acc) hc (fun x hx => nomatch hx) hr rfl (by simpa using hl)
  rw [List.append_nil] at h
  rw [h, repL_one]
theorem Wr.rep {most c : Nat} (hc : lett c = true) : ∀ n, Wr most (repL [c] n) (repL [c] n)
  | 0 => Wr.nil
  | n + 1 => by
    have e : repL [c] (n + 1) = [c] ++ repL [c] n := by rw [rep1, rep1]; rfl
    rw [e]
    exact (Wr.one hc).app (Wr.rep hc n)
theorem Wr.dec {most c n : Nat} (hc : lett c = true) (h1 : 1 < n) (h2 : n < 1000) : Wr most ([c] ++ dec n) (repL [c] n) := by
  refine ⟨.inr (dig_lett hc), fun e => (by cases e), fun x hx => by rw [rep1] at hx; rw [List.eq_of_mem_replicate hx]; exact hc, fun e => absurd (congrArg List.length e) (by rw [repL_len, List.length_singleton, List.length_nil]; omega), fun r acc hr hl => ?_⟩
  rw [repL_len, List.length_singleton, Nat.mul_one] at hl
  exact rd_block hc (dec_dig n) hr (times_dec h1 h2) hl
theorem Wr.read {most : Nat} {t w : List Nat} (h : Wr most t w) (hl : w.length ≤ most) : rd most t [] = some w := by
  have := h.2.2.2.2 [] [] (.inl rfl) (by simpa using hl)
  rw [List.append_nil, rd_nil] at this
  exact this
theorem Wr.row {most : Nat} {t w : List Nat} (h : Wr most t w) (hl : w.length ≤ most) (hne : w ≠ []) : rowL most t = some w := by
  unfold rowL
  rw [h.read hl]
  show (if w = [] then none else some w) = _
  rw [if_neg hne]
theorem Wr.any {t w : List Nat} (h : Wr 300 t w) (hl : w.length ≤ 300) (hne : w ≠ []) : anyL t = some w := by
  unfold anyL
  rw [if_neg, h.row hl hne]
  rintro rfl
  have := h.read hl
  rw [rd_bad0 (by decide)] at this
  cases this
/-- the short text writes the row -/
theorem wrt_wr {most : Nat} : ∀ (n : Nat) (l : List Nat), l.length ≤ n → l.length < 1000 → Row l → Wr most (wrt l) l := by
  intro n
  induction n with
  | zero =>
    intro l h _ _
    have : l = [] := by simpa using h
    subst this; rw [wrt_nil]; exact Wr.nil
  | succ n ih =>
    intro l h hn hr
    by_cases e : l = []
    · subst e; rw [wrt_nil]; exact Wr.nil
    · rw [wrt_ne e]
      have h1 := run_pos e
      have h2 := run_le l
      have h3 := ih (l.drop (run l)) (by rw [List.length_drop]; omega) (by rw [List.length_drop]; omega) (hr.drop _)
      have hl0 : lett (l.getD 0 0) = true := hr _ (getD_mem (by omega))
      have e2 : l = repL [l.getD 0 0] (run l) ++ l.drop (run l) := by
        conv => lhs; rw [← List.take_append_drop (run l) l]
        congr 1
        rw [rep1]
        refine List.ext_getElem (by rw [List.length_take, List.length_replicate]; omega) fun i hi hi2 => ?_
        rw [List.getElem_take, List.getElem_replicate]
        rw [List.length_replicate] at hi2
        have := run_all hi2
        rw [List.getD_eq_getElem?_getD, List.getElem?_eq_getElem (by omega)] at this
        exact this
      have hb : Wr most ([l.getD 0 0] ++ (if run l = 1 then [] else dec (run l))) (repL [l.getD 0 0] (run l)) := by
        split
        · rename_i e1
          rw [e1, repL_one, List.append_nil]
          exact Wr.one hl0
        · exact Wr.dec hl0 (by omega) (by omega)
      have := hb.app h3
      rw [← e2] at this
      exact this
end NX
namespace NX
open PySem PySem.Spec PyProof.Rows L2 PySem.NumText
def oV : Option Nat → V
  | some n => .int (n : Nat)
  | none => .non
def oT : Option (List Nat) → V
  | some l => T l
  | none => .non
theorem in_digs {c : Nat} : c ∈ ([48, 49, 50, 51, 52, 53, 54, 55, 56, 57] : List Nat) ↔ dig c = true := by
  rw [dig_iff]
  simp only [List.mem_cons, List.not_mem_nil, or_false]
  omega
theorem in_both {c : Nat} : c ∈ ([97, 98, 99, 100, 101, 102, 103, 104, 105, 106, 107, 108, 109, 110, 111, 112, 113, 114, 115, 116, 117, 118, 119, 120, 121, 122] : List Nat) ++ [65, 66, 67, 68, 69, 70, 71, 72, 73, 74, 75, 76, 77, 78, 79, 80, 81, 82, 83, 84, 85, 86, 87, 88, 89, 90] ↔ lett c = true := by
  rw [List.mem_append, in_high, in_low, lett_iff]
  omega
theorem int_text {d : List Nat} (h : d.all dig = true) (hne : d ≠ []) (hl : d.length ≤ 600) : intText? (mkS d) = some ((digitsVal d : Nat) : Int) := by
  refine intText_digits (x := mkS d) (fun c hc => ?_) hne (by rw [mkS_len]; omega)
  exact dig_iff.mp (List.all_eq_true.mp h c hc)
section
variable {K : PySem.W.Frag} {H : Hp} {Q : VK}
theorem r_intT {d : List Nat} (h : d.all dig = true) (hne : d ≠ []) (hl : d.length ≤ 600) (q : Q (.int (digitsVal d : Nat)) H) : rIntG [T d] H Q := .inr ⟨mkS d, _, rfl, int_text h hne hl, by rw [mkS_len]; omega, q⟩
end
theorem tw_at {l : List Nat} {p e : Nat} (hpe : p ≤ e) (he : e ≤ l.length) (h1 : ∀ i, p ≤ i → i < e → dig (l.getD i 0) = true) (h2 : e = l.length ∨ dig (l.getD e 0) = false) : (l.drop p).takeWhile dig = (l.take e).drop p := by
  have e1 : l.drop p = (l.take e).drop p ++ l.drop e := by
    conv => lhs; rw [← List.take_append_drop e l]
    rw [List.drop_append]
    have : p - (l.take e).length = 0 := by rw [List.length_take]; omega
    rw [this, List.drop_zero]
  rw [e1]
  refine tw_digits (fun c hc => ?_) ?_
  · obtain ⟨i, hi, rfl⟩ := List.mem_iff_getElem.mp hc
    rw [List.length_drop, List.length_take] at hi
    rw [List.getElem_drop, List.getElem_take]
    have := h1 (p + i) (by omega) (by omega)
    rwa [List.getD_eq_getElem?_getD, List.getElem?_eq_getElem (by omega)] at this
  · rcases h2 with h2 | h2
    · left; rw [h2, List.drop_length]
    · right
      rw [List.getD_eq_getElem?_getD, List.getElem?_drop, ← List.getD_eq_getElem?_getD]
      exact h2
theorem drop_cons {l : List Nat} {k : Nat} (h : k < l.length) : l.drop k = l.getD k 0 :: l.drop (k + 1) := by
  rw [List.drop_eq_getElem_cons h, List.getD_eq_getElem?_getD, List.getElem?_eq_getElem h]; rfl
end NX
namespace NX
open PySem PySem.Spec PyProof.Rows L2 PySem.NumText
/-- texts that are none, values that are no text -/
def OT (K : PySem.W.Frag) (H : Hp) (v : V) : Prop := (∃ l, v = T l ∧ l.length ≤ 100000 ∧ anyL l = none) ∨ NotS K H v
theorem OT.same {K : PySem.W.Frag} {H H' : Hp} {v : V} (h : OT K H v) (s : Same H H') : OT K H' v := h.imp id fun z => z.same s
theorem OT.of {K : PySem.W.Frag} {H : Hp} {l : List Nat} (h : anyL l = none) (hl : l.length ≤ 100000) : OT K H (T l) := .inl ⟨l, rfl, hl, h⟩
theorem Tps.app {H : Hp} {xs ys : List V} {ts us : List (List V)} (h : Tps H xs ts) (k : Tps H ys us) : Tps H (xs ++ ys) (ts ++ us) := by
  obtain ⟨hl, hh⟩ := h
  obtain ⟨kl, kk⟩ := k
  refine ⟨by simp [hl, kl], fun i hi => ?_⟩
  rw [List.length_append] at hi
  by_cases hlt : i < ts.length
  · obtain ⟨b', e1, e2⟩ := hh i hlt
    refine ⟨b', ?_, ?_⟩
    · rw [List.getD_eq_getElem?_getD, List.getElem?_append_left (by omega), ← List.getD_eq_getElem?_getD]; exact e1
    · rw [List.getD_eq_getElem?_getD, List.getElem?_append_left hlt, ← List.getD_eq_getElem?_getD]; exact e2
  · obtain ⟨b', e1, e2⟩ := kk (i - ts.length) (by omega)
    refine ⟨b', ?_, ?_⟩
    · rw [List.getD_eq_getElem?_getD, List.getElem?_append_right (by omega), ← List.getD_eq_getElem?_getD, hl]; exact e1
    · rw [List.getD_eq_getElem?_getD, List.getElem?_append_right (by omega), ← List.getD_eq_getElem?_getD]; exact e2
end NX
namespace NX
open PySem PySem.Spec PyProof.Rows L2
/-! ### sets of texts: set(list of texts), sorted(set) -/
def keyT (e : Int × Value) : Str := PyProof.Rows.strOf e.2
def GoodT (w : World) (e : Int × Value) : Prop := ∃ k tk, e.2 = Value.str k tk ∧ e.1 = hashStr w k
/-- the set of ints at a: S its members, n their number; its table rises and can be walked -/
def SetT (w : World) (h : Heap) (a : Addr) (S : Str → Bool) (n : Nat) : Prop :=
  ∃ o es ep t, h.get? a = some o ∧ o.ExactSet ∧ o.data = .set es ep t ∧ (∀ e ∈ es.toList, GoodT w e) ∧ (es.toList.map keyT).Nodup ∧ (∀ k, S k = true ↔ k ∈ es.toList.map keyT) ∧
    es.size < scanBound ∧ t.fits es.size = true ∧ es.size = n ∧ Ris t.place.toList ∧ (w.params.followText "set-order" = true ∨ t.led = true)
section
variable {P : Program} {w : World} {h h' : Heap} {a : Addr} {S : Str → Bool} {n : Nat}
theorem SetT.at (R : SetT w h a S n) (k : ∀ o, h.get? a = some o → h'.get? a = some o) : SetT w h' a S n := by
  obtain ⟨o, es, ep, t, ho, r⟩ := R
  exact ⟨o, es, ep, t, k o ho, r⟩
theorem SetT.lt (R : SetT w h a S n) : a < h.objs.size := by
  obtain ⟨o, es, ep, t, ho, r⟩ := R
  exact Heap.lt_size ho
theorem SetT.congr {S' : Str → Bool} (R : SetT w h a S n) (e : ∀ k, S' k = S k) : SetT w h a S' n := by
  have q : S' = S := funext e
  rw [q]; exact R
theorem goodT_elems {l : List (Int × Value)} (g : ∀ e ∈ l, GoodT w e) : ElemsOf (PySem.strKind P w) l := fun e he => by
  obtain ⟨k, tk, h1, h2⟩ := g e he
  exact ⟨⟨k, by rw [h1]; exact PySem.strKind_is P w k tk, h2⟩, by rw [h1] <;> rfl⟩
theorem goodT_is {e : Int × Value} (g : GoodT w e) (k : Str) : (PySem.strKind P w).is k e.2 = true ↔ keyT e = k := by
  obtain ⟨k0, tk, h1, _⟩ := g
  unfold keyT
  rw [h1]
  show ((k0 == k) = true) ↔ k0 = k
  exact beq_iff_eq
theorem goodT_mem {l : List (Int × Value)} (g : ∀ e ∈ l, GoodT w e) (k : Str) : k ∈ l.map keyT ↔ ∃ e ∈ l, (PySem.strKind P w).is k e.2 = true := by
  rw [List.mem_map]
  constructor
  · rintro ⟨e, he, q⟩
    exact ⟨e, he, (goodT_is (g e he) k).2 q⟩
  · rintro ⟨e, he, q⟩
    exact ⟨e, he, (goodT_is (g e he) k).1 q⟩
section
variable {P : Program} {w : World} {A : Around} {E : Value → Shared → Prop} {s : Shared} {a : Addr} {S : Str → Bool} {n : Nat}
theorem setT_add_tail {g : Bool → Sem Unit} (hg : ∀ (b : Bool) (s₁ : Shared) (Q' : Unit → Shared → Prop), Q' () s₁ → wpAny (model P w) A (g b) Q' E s₁)
    {o : Obj} {es : Array (Int × Value)} {ep : Nat} {t : SetTable} (ho : s.heap.get? a = some o) (hex : o.ExactSet) (hd : o.data = .set es ep t)
    {es1 : Array (Int × Value)} {t2 : SetTable} {S' : Str → Bool} (g1 : ∀ e ∈ es1.toList, GoodT w e) (nd1 : (es1.toList.map keyT).Nodup) (m1 : ∀ k, S' k = true ↔ k ∈ es1.toList.map keyT)
    (hb1 : es1.size < scanBound) (hf2 : t2.fits es1.size = true) (hr : Ris t2.place.toList) (hl : w.params.followText "set-order" = true ∨ t2.led = true) {wasDummy : Bool} {R : Option Bool → Shared → Prop}
    (hR : ∀ h', Heap.SameBut a s.heap h' → SetT w h' a S' es1.size → R (some true) { s with heap := h' }) :
    wpAny (model P w) A (do
        storeSet a es1 t2
        if (!wasDummy && t2.tooFull) = true then do
            g (relayAll t2 es1 (SetTable.grown es1.size)).2.2
            storeSet a (relayAll t2 es1 (SetTable.grown es1.size)).1 (relayAll t2 es1 (SetTable.grown es1.size)).2.1
            pure (some true)
          else pure (some true)) R E s := by
  refine wpAny_bind (wpAny_storeSet_of ho hd ?_ (fits_of_scanBound hb1))
  have ho1 := store_at (es' := es1) (t' := t2) ho hd
  have sb1 := Heap.SameBut.update s.heap a (Obj.putSet es1 t2)
  split
  · have pm := relayAll_perm t2 es1 (SetTable.grown es1.size)
    have hf3 := relayAll_fits t2 es1 (SetTable.grown es1.size)
    have hr3 := relayAll_ris t2 es1 (SetTable.grown es1.size)
    have hl3 := relayAll_led t2 es1 (SetTable.grown es1.size)
    generalize relayAll t2 es1 (SetTable.grown es1.size) = Z at pm hf3 hr3 hl3 ⊢
    obtain ⟨es2, t3, gave⟩ := Z
    dsimp only at pm hf3 hr3 hl3 ⊢
    have hsz : es2.size = es1.size := by rw [← Array.length_toList, pm.length_eq, Array.length_toList]
    have hb2 : es2.size < scanBound := by rw [hsz]; exact hb1
    refine wpAny_bind (hg _ _ _ ?_)
    refine wpAny_bind (wpAny_storeSet_of ho1 rfl ?_ (fits_of_scanBound hb2))
    have ho2 := store_at (es' := es2) (t' := t3) ho1 rfl
    refine wpAny_pure (hR _ (sb1.trans (Heap.SameBut.update _ a _)) ?_)
    exact ⟨_, es2, _, t3, ho2, hex, rfl, fun e he => g1 e (pm.mem_iff.mp he), (pm.map keyT).nodup_iff.mpr nd1, fun k => (m1 k).trans (pm.map keyT).mem_iff.symm, hb2, hf3, hsz, hr3,
      hl.imp id fun z => by rw [hl3]; exact z⟩
  · exact wpAny_pure (hR _ sb1 ⟨_, es1, _, t2, ho1, hex, rfl, g1, nd1, m1, hb1, hf2, rfl, hr, hl⟩)
theorem setT_add_hashed {k : Str} {tk : Tok} {Q : Bool → Shared → Prop} (R : SetT w s.heap a S n) (room : n + 1 < scanBound)
    (hQ : ∀ h', Heap.SameBut a s.heap h' → SetT w h' a (fun j => S j || decide (j = k)) (if S k = true then n else n + 1) → Q (!S k) { s with heap := h' }) :
    wpAny (model P w) A (setAddHashed a (.str k tk) ((PySem.strKind P w).hash k)) Q E s := by
  obtain ⟨o, es, ep, t, ho, hex, hd, g, nd, hm, hb, hf, hn, hr, hl⟩ := R
  have hkey : (PySem.strKind P w).is k (.str k tk) = true := PySem.strKind_is P w k tk
  have hsc : (Value.str k tk).scannable = true := rfl
  have hel : ElemsOf (PySem.strKind P w) es.toList := goodT_elems g
  unfold setAddHashed setAddHashedIn
  refine wpAny_holding (wpAny_bind (wpAny_setState_of ho hd hf ?_))
  dsimp only
  rw [byScan_of hsc hb hel]
  simp only [↓reduceIte]
  unfold setAddByScan
  refine wpAny_bind ?_
  refine wpAny_bind (wpAny_rule ?_)
  refine wpAny_bind (wpAny_setScan_of hkey ho hd hf hel ?_)
  cases hfi : List.findIdx? (fun e => (PySem.strKind P w).is k e.2) es.toList with
  | some j =>
    dsimp only
    obtain ⟨hj, pj, _⟩ := List.findIdx?_eq_some_iff_getElem.mp hfi
    have hSk : S k = true := (hm k).2 ((goodT_mem (P := P) (w := w) g k).2 ⟨es.toList[j], List.getElem_mem hj, pj⟩)
    refine wpAny_pure (wpAny_pure ?_)
    have q := hQ s.heap (Heap.SameBut.refl a s.heap) ⟨o, es, ep, t, ho, hex, hd, g, nd, fun i => by
      rw [Bool.or_eq_true, decide_eq_true_eq, ← hm i]
      exact ⟨fun z => z.elim id (fun e => e ▸ hSk), .inl⟩, hb, hf, by rw [if_pos hSk]; exact hn, hr, hl⟩
    rw [hSk] at q
    exact q
  | none =>
    dsimp only
    have hnk : k ∉ es.toList.map keyT := fun z => by
      obtain ⟨e, he, q⟩ := (goodT_mem (P := P) (w := w) g k).1 z
      have c := List.findIdx?_eq_none_iff.mp hfi e he
      rw [q] at c
      cases c
    have hSk : S k = false := by
      cases q : S k with
      | false => rfl
      | true => exact absurd ((hm k).1 q) hnk
    have hgw : ∀ (b : Bool) {s₁ : Shared} {Q' : Unit → Shared → Prop}, Q' () s₁ → wpAny (model P w) A (match b with | true => rule "set.scan.the-table-gave-way" | false => pure ()) Q' E s₁ :=
      fun b s₁ Q' q => by cases b <;> first | exact wpAny_pure q | exact wpAny_rule q
    have pm := layNew_perm t es ((PySem.strKind P w).hash k) (.str k tk)
    have hf1 := layNew_fits t es ((PySem.strKind P w).hash k) (.str k tk)
    have hr1 := layNew_ris t es ((PySem.strKind P w).hash k) (.str k tk) hr
    have hl1 := layNew_led t es ((PySem.strKind P w).hash k) (.str k tk)
    generalize layNew t es ((PySem.strKind P w).hash k) (.str k tk) = Z at pm hf1 hr1 hl1 ⊢
    obtain ⟨es1, t1, wasDummy, gave⟩ := Z
    dsimp only at pm hf1 hr1 hl1 ⊢
    rw [Array.toList_push] at pm
    have pc : es1.toList.Perm (((PySem.strKind P w).hash k, Value.str k tk) :: es.toList) := pm.trans (List.perm_append_singleton _ _)
    have pk : (es1.toList.map keyT).Perm (k :: es.toList.map keyT) := pc.map keyT
    have g1 : ∀ e ∈ es1.toList, GoodT w e := fun e he => by
      rcases List.mem_cons.mp (pc.mem_iff.mp he) with z | z
      · rw [z]; exact ⟨k, tk, rfl, rfl⟩
      · exact g e z
    have nd1 : (es1.toList.map keyT).Nodup := pk.nodup_iff.mpr (List.nodup_cons.mpr ⟨hnk, nd⟩)
    have m1 : ∀ i, (S i || decide (i = k)) = true ↔ i ∈ es1.toList.map keyT := fun i => by
      rw [Bool.or_eq_true, decide_eq_true_eq, hm i, pk.mem_iff, List.mem_cons]
      exact Or.comm
    have hsz : es1.size = n + 1 := by rw [← Array.length_toList, pc.length_eq, List.length_cons, Array.length_toList, hn]
    have hb1 : es1.size < scanBound := by rw [hsz]; exact room
    have hled : w.params.followText "set-order" = true ∨ t1.led = true := hl.imp id fun z => by rw [hl1]; exact z
    have fin : ∀ h', Heap.SameBut a s.heap h' → SetT w h' a (fun j => S j || decide (j = k)) es1.size → Q true { s with heap := h' } := fun h' sb r => by
      have q := hQ h' sb
      rw [hSk] at q
      rw [hsz] at r
      exact q r
    refine wpAny_bind (hgw _ ?_)
    split
    · refine wpAny_bind ?_
      rw [hashByValue_scannable 8 hsc]
      refine wpAny_pure ?_
      refine setT_add_tail ?_ ho hex hd g1 nd1 m1 hb1 ?_ ?_ ?_ ?_
      · intro b s₁ Q' q; cases b <;> first | exact wpAny_pure q | exact wpAny_rule q
      · first | (split <;> first | exact hf1 | exact SetTable.fits_plain_off hf1) | exact hf1
      · first | (split <;> exact hr1) | exact hr1
      · first | (split <;> exact hled) | exact hled
      · intro h' sb r; dsimp only; exact wpAny_pure (fin h' sb r)
    · refine wpAny_bind (wpAny_pure ?_)
      simp only [↓reduceIte]
      refine setT_add_tail ?_ ho hex hd g1 nd1 m1 hb1 hf1 hr1 hled ?_
      · intro b s₁ Q' q; cases b <;> first | exact wpAny_pure q | exact wpAny_rule q
      · intro h' sb r; dsimp only; exact wpAny_pure (fin h' sb r)
end
theorem setT_new_at {w : World} {h : Heap} {a : Addr} {ns : List Str} (ho : h.get? a = some { cls := .type "set", dict := none, data := .set #[] 0 (.fresh 0 0 (!w.params.followText "set-order")) }) : SetT w h a (fun j => decide (j ∈ ns.take 0)) 0 :=
  ⟨_, #[], 0, _, ho, ⟨rfl, rfl, rfl⟩, rfl, (fun e he => by simp at he), (by simp), (fun k => by simp), (by decide), (by rfl), rfl, List.Pairwise.nil, by
    show _ ∨ (!w.params.followText "set-order") = true
    cases w.params.followText "set-order"
    · exact .inr rfl
    · exact .inl rfl⟩
section
variable {P : Program} {w : World} {A : Around} {E : Value → Shared → Prop} {s : Shared}
theorem set_update_texts {I : Addr} {fp wr : List Addr} {G : Array GenState → Array GenState → Prop} {n : Nat} {Pv : Nat → Value → Prop} {St : Nat → Shared → Prop} {R : Result → Shared → Prop}
    (W : WalksS P w A.in1 I fp wr G n Pv St) (S : Addr) (hSf : S ∉ fp) (ns : List Str) (hn : n = ns.length) (hb : ns.length + 1 < scanBound) (hval : ∀ i v, Pv i v → ∃ k t, ns[i]? = some k ∧ v = .str k t) :
    ∀ (k i : Nat) (s : Shared), n - i = k → i ≤ n → St i s → (∃ c, c ≤ i ∧ SetT w s.heap S (fun j => decide (j ∈ ns.take i)) c) →
      (∀ s' c, Moved (S :: wr) G s s' → c ≤ n → SetT w s'.heap S (fun j => decide (j ∈ ns)) c → R (.ok (.ret .none)) s') →
      codeAny (model P w) A (.builtin "set.update.loop" ⟨[.ref S, .ref I], []⟩) R s := by
  have hSw : S ∉ wr := fun h => hSf (W.sub _ h)
  have hsub : ∀ b ∈ wr, b ∈ S :: wr := fun b hb => List.mem_cons_of_mem _ hb
  intro k
  induction k with
  | zero =>
    intro i s hk' hi hst ⟨c, hc, hS⟩ hR
    have hin : i = n := by omega
    subst hin
    refine codeAny_builtin F.entry_set_update_loop ?_
    rw [Around.under_plainId F.plain_set_update_loop _]
    show wpAny _ A.in1 (pyNext (.ref I) >>= _) _ _ s
    refine wpAny_bind (W.done s _ _ hst fun s' hm => ?_)
    show wpAny _ A.in1 (ret Value.none) _ _ s'
    have e : ns.take i = ns := List.take_of_length_le (by omega)
    rw [e] at hS
    exact wpAny_pure (hR s' c (hm.mono hsub) hc (hS.at fun o e => hm.heap S o hSw e))
  | succ k ih =>
    intro i s hk' hi hst ⟨c, hc, hS⟩ hR
    have hlt : i < n := by omega
    refine codeAny_builtin F.entry_set_update_loop ?_
    rw [Around.under_plainId F.plain_set_update_loop _]
    show wpAny _ A.in1 (pyNext (.ref I) >>= _) _ _ s
    refine wpAny_bind (W.item i s _ _ hlt hst fun v s' hP hst' hm => ?_)
    obtain ⟨z, t, hz, rfl⟩ := hval i v hP
    have hS' : SetT w s'.heap S (fun j => decide (j ∈ ns.take i)) c := hS.at fun o e => hm.heap S o hSw e
    show wpAny _ A.in1 (holding [Value.str z t] (setAdd S (.str z t)) >>= _) _ _ s'
    refine wpAny_bind (wpAny_holding ?_)
    unfold setAdd
    refine wpAny_holding ?_
    refine wpAny_bind ((PySem.strKind P w).pyHash (k := z) (PySem.strKind_is _ _ _ _) ?_)
    refine setT_add_hashed (s := { s' with toks := s'.toks + 1 }) hS' (by omega) fun h' hsb hS2 => ?_
    have hS3 : SetT w h' S (fun j => decide (j ∈ ns.take (i + 1))) (if decide (z ∈ ns.take i) = true then c else c + 1) := hS2.congr fun j => by
      rw [List.take_add_one, hz]
      simp [List.mem_append]
    have hc3 : (if decide (z ∈ ns.take i) = true then c else c + 1) ≤ i + 1 := by
      split <;> omega
    refine wpAny_pure ⟨plainId_quiet F.plain_set_update_loop _, ih (i + 1) _ (by omega) hlt (W.frame _ s' _ _ hst' (Nat.le_succ _) fun b hb o e => ?_) ⟨_, hc3, hS3⟩ fun s'' c2 hm'' hc'' hS'' => ?_⟩
    · rw [hsb.2 b (fun h : b = S => hSf (by rw [← h]; exact hb))]; exact e
    · refine hR s'' c2 (Moved.trans W.gtrans ((hm.mono hsub).then_heap (Nat.le_succ _) fun b o hb e => ?_) hm'') hc'' hS''
      rw [hsb.2 b (fun h : b = S => hb (by rw [h]; exact List.mem_cons_self))]; exact e
set_option maxHeartbeats 3200000 in
theorem call_set_lstT {l : Addr} {items : Array Value} (ns : List Str) {Q : Value → Shared → Prop} (hh : A.handled = none) (hl : s.heap.IsList l items) (hit : StrsAre items.toList ns) (hb : ns.length + 1 < scanBound)
    (h : ∀ (h' : Heap) (tk c : Nat), SetT w h' s.heap.objs.size (fun j => decide (j ∈ ns)) c → c ≤ ns.length → (∀ b o, s.heap.get? b = some o → h'.get? b = some o) → Q (.ref s.heap.objs.size) { s with heap := h', toks := tk }) :
    wpAny (model P w) A (call (.type "set") [.ref l]) Q E s := by
  have hisz : items.size = ns.length := by
    rw [← StrsAre.len_eq hit, Array.length_toList]
  obtain ⟨c, tl, hmro⟩ := F.called_set.mro
  have hmade := F.called_set.made
  have hsub := F.called_set.sub
  refine wpAny_call (codeAny_of_tree ?_)
  show wpAny _ _ (callAny (.type "set") _) _ _ _
  refine wpAny_pure ⟨Code.quiet_builtin _ (by decide +kernel), codeAny_builtin F.entry_type_call ?_⟩
  rw [Around.under_plain (weight_type_call_type "set" [.ref l] []) rfl]
  have h1 := F.called_set.notType
  have h2 := F.called_set.canCreate
  have hct := F.typeCall_set_1 (.ref l)
  repeat (any_goals (first | assumption | wp_step))

  refine codeAny_mono (code_set_led1 (.ref l) (E := E) (Q₁ := fun obj s₁ => obj = .ref s.heap.objs.size ∧ s₁ = { s with heap := s.heap.push { cls := .type "set", dict := none, data := .set #[] 0 (.fresh 0 0 (!w.params.followText "set-order")) } }) ⟨rfl, rfl⟩) fun r s₁ hr => ?_
  cases r with
  | error e => exact hr
  | ok fl =>
    cases fl with
    | ret obj =>
      obtain ⟨rfl, rfl⟩ := hr
      have hS : (s.heap.push { cls := .type "set", dict := none, data := .set #[] 0 (.fresh 0 0 (!w.params.followText "set-order")) }).get? s.heap.objs.size = some { cls := .type "set", dict := none, data := .set #[] 0 (.fresh 0 0 (!w.params.followText "set-order")) } := Heap.get?_push_size _ rfl
      have hT : Shared.TypeIs { s with heap := s.heap.push { cls := .type "set", dict := none, data := .set #[] 0 (.fresh 0 0 (!w.params.followText "set-order")) } } (.ref s.heap.objs.size) "set" := ⟨_, hS, rfl⟩
      have hli := F.called_set.init.lookup
      have hbi := F.called_set.init.bind (.ref s.heap.objs.size)
      repeat (any_goals (first | assumption | wp_step))

      refine codeAny_mono (codeAny_call_builtin (R := wants (fun r s₂ => r = .none ∧ ∃ h' tk c, s₂ = { s with heap := h', toks := tk } ∧ SetT w h' s.heap.objs.size (fun j => decide (j ∈ ns)) c ∧ c ≤ ns.length ∧
          (∀ b o, s.heap.get? b = some o → h'.get? b = some o)) E) F.called_set.init.plain F.entry_set_init (check_set_init_1 hT ?_)) fun r₂ s₂ hr₂ => ?_
      · obtain ⟨ol, hol, hcl, nl, hdl⟩ := hl
        obtain ⟨ocls, odict, odata, oslots⟩ := ol
        simp only at hcl hdl
        subst hcl; subst hdl
        have hol' : (s.heap.push { cls := .type "set", dict := none, data := .set #[] 0 (.fresh 0 0 (!w.params.followText "set-order")) }).get? l = some { cls := .type "list", dict := odict, data := .seq items nl, slots := oslots } := Heap.get?_push_of_some _ hol
        have hsls := F.sub_list_set
        have hslf := F.sub_list_frozenset
        have hne : (Value.type "list" == Value.type "dict") = false := by decide
        have hl1 : (s.heap.push { cls := .type "set", dict := none, data := .set #[] 0 (.fresh 0 0 (!w.params.followText "set-order")) }).IsList l items := ⟨_, hol', rfl, nl, rfl⟩
        unfold Builtin.«set.__init__» noKeywords Builtin.Frozenset.updateFrom
        generalize hPI : pyIter = PI
        wp_walk
        subst hPI

        refine wpAny_pyIter_list hl1 ?_
        refine wpAny_bind (wpAny_runValue ?_)
        have hlS : l < s.heap.objs.size := Heap.lt_size hol
        have hh3 : A.in1.in1.in1.handled = none := by simp [hh]
        have hz1 : (s.heap.push { cls := .type "set", dict := none, data := .set #[] 0 (.fresh 0 0 (!w.params.followText "set-order")) }).objs.size = s.heap.objs.size + 1 := Heap.size_push ..
        have hneI : l ≠ (s.heap.push { cls := .type "set", dict := none, data := .set #[] 0 (.fresh 0 0 (!w.params.followText "set-order")) }).objs.size := by
          rw [Heap.size_push]; exact Nat.ne_of_lt (Nat.lt_succ_of_lt hlS)
        have hSf : s.heap.objs.size ∉ [(s.heap.push { cls := .type "set", dict := none, data := .set #[] 0 (.fresh 0 0 (!w.params.followText "set-order")) }).objs.size, l] := by
          rw [Heap.size_push]; simp only [List.mem_cons, List.mem_singleton, List.not_mem_nil, or_false, not_or]
          exact ⟨Nat.ne_of_lt (Nat.lt_succ_self _), Nat.ne_of_gt hlS⟩
        have hval : ∀ (i : Nat) (v : Value), items[i]? = some v → ∃ k t, ns[i]? = some k ∧ v = .str k t := fun i v hv => by
          have hi : i < ns.length := by rw [← hisz]; exact (Array.getElem?_eq_some_iff.mp hv).1
          obtain ⟨t, e⟩ := SS.strs_at hit i v (by rw [Array.getElem?_toList]; exact hv)
          refine ⟨ns[i], t, List.getElem?_eq_getElem hi, ?_⟩
          rw [e, List.getD_eq_getElem?_getD, List.getElem?_eq_getElem hi] <;> rfl
        refine set_update_texts ((Walks.list hh3 _ l hneI items).toS) s.heap.objs.size
          hSf ns hisz hb hval (items.size - 0) 0 _ (by omega) (Nat.zero_le _)
          ⟨⟨_, Heap.get?_push_size _ rfl, rfl, rfl⟩, (hl1.push _)⟩ ?hS0 ?hR
        case hS0 =>
          have hget : ((s.heap.push { cls := .type "set", dict := none, data := .set #[] 0 (.fresh 0 0 (!w.params.followText "set-order")) }).push { cls := .type "list_iterator", data := .fields #[.ref l, .int 0 0] }).get? s.heap.objs.size
              = some { cls := .type "set", dict := none, data := .set #[] 0 (.fresh 0 0 (!w.params.followText "set-order")) } := Heap.get?_push_of_some _ hS
          exact ⟨0, Nat.le_refl 0, setT_new_at hget⟩
        case hR =>
          intro s' c' hm hc' hS'
          obtain ⟨h', g2, d', tk', os'⟩ := s'
          have eg : g2 = s.gens := hm.gens
          have ed : d' = s.drawn := hm.drawn
          have eo : os' = s.os := hm.os
          subst eg; subst ed; subst eo
          show wpAny _ _ _ _ _ _
          refine wpAny_pure ?_
          show wpAny _ _ (ret Value.none) _ _ _
          rw [hisz] at hc'
          refine wpAny_pure ⟨rfl, h', tk', c', rfl, hS', hc', fun b o e => ?_⟩
          have hb0 : b < s.heap.objs.size := Heap.lt_size e
          have hb1 : b ≠ s.heap.objs.size := Nat.ne_of_lt hb0
          have hb2 : b ≠ (s.heap.push { cls := .type "set", dict := none, data := .set #[] 0 (.fresh 0 0 (!w.params.followText "set-order")) }).objs.size := by
            rw [Heap.size_push]; exact Nat.ne_of_lt (Nat.lt_succ_of_lt hb0)
          exact hm.heap b o (by simp only [List.mem_cons, List.mem_singleton, List.not_mem_nil, or_false, not_or]; exact ⟨hb1, hb2⟩) (Heap.get?_push_of_some _ (Heap.get?_push_of_some _ e))

      · cases r₂ with
        | error e => exact hr₂
        | ok fl₂ =>
          cases fl₂ with
          | ret r =>
            obtain ⟨rfl, h', tk, c', rfl, hS', hc', hk'⟩ := hr₂
            repeat (any_goals (first | assumption | wp_step))
            exact h _ _ _ hS' hc' hk'
          | _ => exact hr₂.elim
    | _ => exact hr.elim
end
end
section
variable {P : Program} {w : World} {A : Around} {E : Value → Shared → Prop} {s : Shared} {a : Addr}
theorem sorted_setT {S : Str → Bool} {n : Nat} {Q : Value → Shared → Prop} (R : SetT w s.heap a S n) (hh : A.handled = none) (h64 : n < 64)
    (hQ : ∀ s' p (out : Array Value) (c : Nat) (ns : List Str), (∀ b o, s.heap.get? b = some o → s'.heap.get? b = some o) → s'.gens = s.gens → s'.os = s.os → s.heap.objs.size ≤ p →
      s'.heap.get? p = some (seqObj "list" out c) → StrsAre out.toList ns → sortedS ns = true → ns.Nodup → (∀ k, k ∈ ns ↔ S k = true) → ns.length = n → Q (.ref p) s') :
    wpAny (model P w) A (call (.builtin "sorted") [.ref a]) Q E s := by
  obtain ⟨o, es, ep, t, ho, hex, hd, g, nd, hm, hb, hf, hn, hr, hl⟩ := R
  refine Calls.call_function_entry kind_sorted plain_sorted entry_sorted (args_sorted1 _) ?_
  unfold Builtin.«sorted»
  refine wpAny_bind (m := checkCount "sorted" 1 1 _) (wpAny_pure ?_)
  refine wpAny_bind (collect_set (A := A.in1) hh ⟨o, ho, hex.1, hd⟩ hf hb hr hl fun s1 vs k1 hz g1 o1 pm => ?_)
  have hvl : vs.length = n := by rw [pm.length_eq, List.length_map, Array.length_toList]; exact hn
  have hI : StrsAre vs (vs.map PyProof.Rows.strOf) := strsAre_map vs fun v hv => by
    obtain ⟨e, he, q⟩ := List.mem_map.mp (pm.mem_iff.mp hv)
    obtain ⟨k, tk, h1, _⟩ := g e he
    exact ⟨k, tk, by rw [← q]; exact h1⟩
  have pk : (vs.map PyProof.Rows.strOf).Perm (es.toList.map keyT) := by
    have q := pm.map PyProof.Rows.strOf
    rw [List.map_map] at q
    exact q
  refine wpAny_bind (wpAny_newList ?_ (by rw [hvl, sizeLine_eq]; omega))
  have hoL : (s1.heap.push (seqObj "list" vs.toArray 0)).get? s1.heap.objs.size = some (seqObj "list" vs.toArray 0) := Heap.get?_push_size _ rfl
  refine wpAny_bind (wpAny_holding (wpAny_call_entry slot_list_sort ⟨_, hoL, rfl⟩ entry_list_sort (list_sort_treeK strKind_oneLt hoL hI.keysOf (fun v₁ v₂ rest e => keyKind_strs (by rw [← e]; exact hI)) (by rw [hvl]; exact h64) fun st' hp hs => ⟨_, rfl, ?_⟩) (args_list_sort _)))
  obtain ⟨ns', a1, a2, a3⟩ := sorted_out_str hI hp hs
  obtain ⟨c, hc⟩ := sortedHeap_at (vs := vs) (out := (arrOf st').map (·.2)) hoL
  have pn : ns'.Perm (es.toList.map keyT) := a2.trans pk
  refine wpAny_pure ⟨_, rfl, hQ _ s1.heap.objs.size _ c ns' (fun b u e => ?_) g1 o1 hz hc a1 a3 (pn.nodup_iff.mpr nd) (fun k => by rw [pn.mem_iff, ← hm k]) ?_⟩
  · have q := k1 b u e
    have hlt := Heap.lt_size q
    show (sortedHeap (s1.heap.push (seqObj "list" vs.toArray 0)) s1.heap.objs.size vs ((arrOf st').map (·.2))).get? b = some u
    rw [sortedHeap_old (Nat.ne_of_lt hlt) (by rw [size_push']; exact Nat.lt_succ_of_lt hlt)]
    exact Heap.get?_push_of_some _ q
  · rw [pn.length_eq, List.length_map, Array.length_toList]; exact hn
end
section
variable {X : Cx}
/-- sorted(set(xs)), xs a list of texts -/
def tSortSet (K : PySem.W.Frag) (ta : TE) : TE := fun σ H Q => ta σ H fun x H1 => ∃ l, ∃ xs : List Str, x = .ref l ∧ SqL K H1 l (xs.map V.str) ∧ xs.length < 60 ∧
  ∀ (ys : List Str) (p : Addr), sortedS ys = true → ys.Nodup → (∀ k, k ∈ ys ↔ k ∈ xs) → H1 p = none → Q (.ref p) (upd H1 p (.lst (ys.map V.str)))
theorem pe_sortSet {a : Expr} {ta : TE} {p p2 q pos : Pos} (hc : X.calm = true) (hg : Gl X "sorted") (hm : X.mg "sorted" = none) (hg2 : Gl X "set") (hm2 : X.mg "set" = none) (ha : PE X a ta)
    (na : starEach [a] X.env = (false, eval a X.env) :: starEach [] X.env := by rfl) (hb : bootBuiltins "sorted" = some (.builtin "sorted") := by first | decide +kernel | rfl) : PE X (.Call (.Name "sorted" p) [.Call (.Name "set" p2) [a] [] q] [] pos) (tSortSet X.K ta) := by
  refine ⟨fun pins s σ H Q I h => ?_⟩
  refine Call_ (ld_blt I hg hm hb ?_)
  refine PyProof.Rows.callWith_builtin1 (PyProof.Rows.args_cons ?_ rfl) rfl rfl
  refine Call_ (ld_blt I hg2 hm2 boot_set ?_)
  refine PyProof.Rows.callWith_type1 (PyProof.Rows.args_cons (thn (ha.run pins s σ H _ I h) fun v s1 ⟨x, H1, I1, r1, q1⟩ => PyProof.Rows.args_nil ?_) na) na rfl
  obtain ⟨l, xs, rfl, hq, h1, q1⟩ := q1
  cases r1
  obtain ⟨its, r, pl, hz⟩ := I1.list hq
  have hlen : xs.length + 1 < scanBound := by unfold scanBound; omega
  refine call_set_lstT xs (I1.ok.hd hc) pl.isList (by simpa using strsAre_of r) hlen fun h' tk c hS hc' hk => ?_
  refine PyProof.Rows.args_nil ?_
  have I2 : Inv X pins σ H1 { s1 with heap := h', toks := tk } := I1.kept fun b o e => hk b o e
  generalize hss : ({ s1 with heap := h', toks := tk } : Shared) = s2 at *
  have hS2 : SetT X.w s2.heap s1.heap.objs.size (fun j => decide (j ∈ xs)) c := by rw [← hss]; exact hS
  refine sorted_setT hS2 (I1.ok.hd hc) (by omega) fun s' p out e ys k g o hp hg hi hs hn hm hl => ?_
  have hlen : (ys.map V.str).length ≤ sizeLine := by rw [List.length_map, hl, sizeLine_eq]; omega
  have hno : H1 p = none := I2.hok.fresh hp
  have J : Inv X pins σ (upd H1 p (.lst (ys.map V.str))) { s2 with heap := s'.heap, gens := s'.gens, drawn := s'.drawn, toks := s'.toks } :=
    I2.call (ch := []) (Un.laid k hp hno) (I2.hok.laid k hp ⟨hlen, out.toList, e, vals_of_strs hi, hg⟩) (by rw [g]; exact I2.bare) (fun _ z => nomatch z)
  have es : s' = { s2 with heap := s'.heap, gens := s'.gens, drawn := s'.drawn, toks := s'.toks } := by
    cases s'
    cases s2
    cases o
    rfl
  rw [es]
  exact ⟨.ref p, _, J, rfl, q1 ys p hs hn (fun k => (hm k).trans (by simp)) hno⟩
theorem pe_sortSetK (K : PySem.W.Frag) (hK : X.K = K := by rfl) {a : Expr} {ta : TE} {p p2 q pos : Pos} (hc : X.calm = true) (hg : Gl X "sorted") (hm : X.mg "sorted" = none) (hg2 : Gl X "set") (hm2 : X.mg "set" = none) (ha : PE X a ta)
    (na : starEach [a] X.env = (false, eval a X.env) :: starEach [] X.env := by rfl) (hb : bootBuiltins "sorted" = some (.builtin "sorted") := by first | decide +kernel | rfl) : PE X (.Call (.Name "sorted" p) [.Call (.Name "set" p2) [a] [] q] [] pos) (tSortSet K ta) := hK ▸ pe_sortSet hc hg hm hg2 hm2 ha na hb
end
section
variable {K : PySem.W.Frag} {ta : TE} {σ : L2.St} {H H1 : Hp} {Q : VK}
def SSet (K : PySem.W.Frag) (Q : VK) (x : V) (H1 : Hp) : Prop := ∃ l, ∃ xs : List Str, x = .ref l ∧ SqL K H1 l (xs.map V.str) ∧ xs.length < 60 ∧
  ∀ (ys : List Str) (p : Addr), sortedS ys = true → ys.Nodup → (∀ k, k ∈ ys ↔ k ∈ xs) → H1 p = none → Q (.ref p) (upd H1 p (.lst (ys.map V.str)))
theorem r_sortSet (h : ta σ H (SSet K Q)) : tSortSet K ta σ H Q := h
/-- a list of one-letter texts: the ascending letters -/
theorem r_ssetT {p : Addr} {ls : List Nat} (e : SqL K H p ((ls.map fun c => [c]).map T)) (hl : ls.length < 60) (h : ∀ (zs : List Nat) (d : Addr), zs.Pairwise (· < ·) → (∀ c, c ∈ zs ↔ c ∈ ls) → H d = none → Q (.ref d) (upd H d (.lst ((zs.map fun c => [c]).map T)))) : SSet K Q (.ref p) H := by
  refine ⟨p, (ls.map fun c => [c]).map mkS, rfl, ?_, ?_, fun ys d hs hn hm np => ?_⟩
  · have e2 : ((ls.map fun c => [c]).map mkS).map V.str = (ls.map fun c => [c]).map T := by rw [List.map_map]; rfl
    rw [e2]
    exact e
  · simpa using hl
  obtain ⟨zs, rfl⟩ : ∃ zs : List Nat, ys = (zs.map fun c => [c]).map mkS := by
    have : ∀ us : List Str, (∀ u ∈ us, ∃ c, u = mkS [c]) → ∃ zs : List Nat, us = (zs.map fun c => [c]).map mkS := by
      intro us
      induction us with
      | nil => intro _; exact ⟨[], rfl⟩
      | cons u us ih =>
        intro hu
        obtain ⟨c, rfl⟩ := hu _ List.mem_cons_self
        obtain ⟨zs, rfl⟩ := ih fun v hv => hu v (List.mem_cons_of_mem _ hv)
        exact ⟨c :: zs, rfl⟩
    refine this ys fun u hu => ?_
    obtain ⟨l, hl, rfl⟩ := List.mem_map.mp ((hm u).mp hu)
    obtain ⟨c, _, rfl⟩ := List.mem_map.mp hl
    exact ⟨c, rfl⟩
  have hmm : ∀ (us : List Nat) c, mkS [c] ∈ (us.map fun c => [c]).map mkS ↔ c ∈ us := fun us c => by
    rw [List.map_map]
    constructor
    · intro hc
      obtain ⟨d, hd, e⟩ := List.mem_map.mp hc
      have : [d] = [c] := by have := congrArg (fun s : Str => s.cps.toList) e; simpa [mkS] using this
      rw [← (List.cons.inj this).1]; exact hd
    · intro hc; exact List.mem_map.mpr ⟨c, hc, rfl⟩
  have h2 := h zs d ?_ (fun c => by rw [← hmm zs, ← hmm ls]; exact hm _) np
  · rw [show ((zs.map fun c => [c]).map mkS).map V.str = (zs.map fun c => [c]).map T by rw [List.map_map]; rfl]
    exact h2
  have hp := sorted_pw _ hs
  rw [List.map_map, List.pairwise_map] at hp
  have hd := hn
  rw [List.map_map, List.Nodup, List.pairwise_map] at hd
  refine (hp.and hd).imp fun {a b} h => ?_
  have h1 : [a] ≤ [b] := by simpa [mkS] using h.1
  have h3 : a ≠ b := fun z => h.2 (by rw [z])
  rcases Nat.lt_trichotomy a b with q | q | q
  · exact q
  · exact absurd q h3
  · exact absurd (List.cons_lt_cons_iff.mpr (.inl q)) (List.not_lt.mpr h1)
end
end NX
namespace NX
open PySem PySem.Spec PyProof.Rows L2
/-! ### rows that are kin: turns of a row or of its back -/
def kinB (a b : List Nat) : Bool := tnd a b || tnd a (bak b)
theorem kinB_iff (a b : List Nat) : kinB a b = true ↔ Turn b a ∨ Turn (bak b) a := by
  unfold kinB; rw [Bool.or_eq_true, tnd_iff, tnd_iff]
theorem Turn.bak {R S : List Nat} (h : Turn R S) : Turn (NX.bak R) (NX.bak S) := by
  obtain ⟨A, B, rfl, rfl⟩ := h
  exact ⟨NX.bak B, NX.bak A, bak_app A B, bak_app B A⟩
theorem kin_symm {a b : List Nat} (ha : Row a) (hb : Row b) : kinB a b = kinB b a := by
  have h : ∀ {x y : List Nat}, Row x → Row y → kinB x y = true → kinB y x = true := fun {x y} hx hy h => by
    rw [kinB_iff] at h ⊢
    rcases h with h | h
    · exact .inl h.symm
    · have := h.symm.bak
      rw [bak_bak hy] at this
      exact .inr this
  rw [Bool.eq_iff_iff]
  exact ⟨h ha hb, h hb ha⟩
theorem kin_trans {a b c : List Nat} (hb : Row b) (hc : Row c) (h1 : kinB a b = true) (h2 : kinB b c = true) : kinB a c = true := by
  rw [kinB_iff] at *
  rcases h1 with h1 | h1 <;> rcases h2 with h2 | h2
  · exact .inl (h2.trans h1)
  · exact .inr (h2.trans h1)
  · exact .inr (h2.bak.trans h1)
  · have := h2.bak; rw [bak_bak hc] at this; exact .inl (this.trans h1)
/-! ### ring rows -/
theorem RR.row {a l : List Nat} (h : RR a l) (ha : Al a) : Row l := h.1.row ha
theorem RR.cy {a l : List Nat} (h : RR a l) (ha : Al a) : Cy l := by
  obtain ⟨h1, h2, h3, h4⟩ := h
  refine cy_of (h1.row ha) (free_of fun k hk => ?_) fun _ e => ?_
  · have := h4 (k + 1) hk
    rwa [show (k + 1 + l.length - 1) % l.length = k by rw [show k + 1 + l.length - 1 = k + l.length by omega, Nat.add_mod_right, Nat.mod_eq_of_lt (by omega)]] at this
  · have := h4 0 (by omega)
    rw [show (0 + l.length - 1) % l.length = l.length - 1 by rw [Nat.mod_eq_of_lt (by omega)]; omega, e] at this
    exact this (swp_swp ((h1.row ha) _ (getD_mem (by omega)))).symm
theorem rr_cy {a l : List Nat} (ho : RowOf a l) (hc : Cy l) (h1 : 1 ≤ l.length) (h2 : l.length ≤ 40) : RR a l := by
  refine rr_of hc.1 ho h1 h2 hc.free fun z => ?_
  have hf := hc.2
  have := free_at (l := l ++ l) (k := l.length - 1) hf (by rw [List.length_append]; omega)
  rw [show l.length - 1 + 1 = l.length by omega] at this
  rw [show (l ++ l).getD l.length 0 = l.getD 0 0 by rw [List.getD_eq_getElem?_getD, List.getElem?_append_right (Nat.le_refl _), Nat.sub_self, ← List.getD_eq_getElem?_getD],
    show (l ++ l).getD (l.length - 1) 0 = l.getD (l.length - 1) 0 by rw [List.getD_eq_getElem?_getD, List.getElem?_append_left (by omega), ← List.getD_eq_getElem?_getD]] at this
  exact this z.2
theorem RowOf.repL {a l : List Nat} (h : RowOf a l) : ∀ n, RowOf a (NX.repL l n)
  | 0 => fun c hc => by simp [NX.repL] at hc
  | n + 1 => fun c hc => by
    have e : NX.repL l (n + 1) = NX.repL l n ++ l := (repL_snoc l n).symm
    rw [e] at hc
    rcases List.mem_append.mp hc with hc | hc
    · exact RowOf.repL h n c hc
    · exact h c hc
theorem RR.rep {a l : List Nat} (h : RR a l) (ha : Al a) {n : Nat} (h1 : 1 ≤ n) (h2 : (repL l n).length ≤ 40) : RR a (repL l n) := by
  refine rr_cy (h.1.repL n) ((h.cy ha).rep n) ?_ h2
  rw [repL_len]
  exact Nat.mul_pos h1 h.2.1
theorem RR.turn {a l s : List Nat} (h : RR a l) (ha : Al a) (t : Turn l s) : RR a s := by
  have hl := t.len
  refine rr_cy ?_ ((h.cy ha).turn t) (by rw [← hl]; exact h.2.1) (by rw [← hl]; exact h.2.2.1)
  obtain ⟨A, B, rfl, rfl⟩ := t
  exact fun c hc => h.1 c (by rw [List.mem_append] at hc ⊢; exact hc.symm)
theorem RowOf.bak {a l : List Nat} (ha : Al a) (h : RowOf a l) : RowOf a (NX.bak l) := fun c hc => by
  unfold NX.bak at hc
  obtain ⟨d, hd, rfl⟩ := List.mem_map.mp hc
  have h1 := h d (List.mem_reverse.mp hd)
  rcases List.mem_append.mp h1 with z | z
  · have h2 := ha.2.2.1 d z
    refine List.mem_append_right _ (List.mem_map.mpr ⟨d, z, ?_⟩)
    unfold swp up1; split <;> split <;> omega
  · obtain ⟨e, he, rfl⟩ := List.mem_map.mp z
    have h2 := ha.2.2.1 e he
    refine List.mem_append_left _ ?_
    have : swp (up1 e) = e := by unfold swp up1; split <;> split <;> omega
    rw [this]; exact he
theorem RR.bak {a l : List Nat} (h : RR a l) (ha : Al a) : RR a (NX.bak l) := by
  have hc := h.cy ha
  refine rr_cy (h.1.bak ha) ⟨hc.1.bak, by rw [← bak_app]; exact free_bak (hc.1.app hc.1) hc.2⟩ ?_ ?_
  · rw [bak_len]; exact h.2.1
  · rw [bak_len]; exact h.2.2.1
/-! ### told rows -/
theorem told_nil (a : List Nat) : Told a [] := by
  refine ⟨by simp, ?_, ?_⟩
  · intro r hr; cases hr
  · intro i j h1 h2; exact absurd h2 (by simp)
theorem told_iff {a : List Nat} {rs : List (List Nat)} : Told a rs ↔ rs.length ≤ 6 ∧ (∀ r ∈ rs, RR a r) ∧ ∀ i j, i < j → j < rs.length → kinB (rs.getD j []) (rs.getD i []) = false := Iff.rfl
theorem Told.snoc {a : List Nat} {rs : List (List Nat)} {l : List Nat} (h : Told a rs) (hn : rs.length < 6) (hl : RR a l) (hk : ∀ r ∈ rs, kinB l r = false) : Told a (rs ++ [l]) := by
  obtain ⟨h1, h2, h3⟩ := h
  refine ⟨by rw [List.length_append, List.length_singleton]; omega, fun r hr => ?_, fun i j hij hj => ?_⟩
  · rcases List.mem_append.mp hr with z | z
    · exact h2 r z
    · rw [List.mem_singleton.mp z]; exact hl
  · rw [List.length_append, List.length_singleton] at hj
    have ei : (rs ++ [l]).getD i [] = rs.getD i [] := by rw [List.getD_eq_getElem?_getD, List.getElem?_append_left (by omega), ← List.getD_eq_getElem?_getD]
    by_cases c : j < rs.length
    · have ej : (rs ++ [l]).getD j [] = rs.getD j [] := by rw [List.getD_eq_getElem?_getD, List.getElem?_append_left c, ← List.getD_eq_getElem?_getD]
      rw [ei, ej]; exact h3 i j hij c
    · have ej : (rs ++ [l]).getD j [] = l := by
        have : j = rs.length := by omega
        rw [this, List.getD_eq_getElem?_getD, List.getElem?_append_right (Nat.le_refl _), Nat.sub_self]; rfl
      rw [ei, ej]
      exact hk _ (getD_memL (by omega))
/-! ### letters that are told -/
theorem nodup_le : ∀ (zs ls : List Nat), zs.Nodup → (∀ c ∈ zs, c ∈ ls) → zs.length ≤ ls.length
  | [], ls, _, _ => Nat.zero_le _
  | z :: zs, ls, hn, hm => by
    have hz := hm z List.mem_cons_self
    obtain ⟨n1, n2⟩ := List.nodup_cons.mp hn
    have := nodup_le zs (ls.erase z) n2 fun c hc => (List.mem_erase_of_ne (fun e : c = z => n1 (by rw [← e]; exact hc))).mpr (hm c (List.mem_cons_of_mem _ hc))
    rw [List.length_erase_of_mem hz] at this
    have := List.length_pos_of_mem hz
    rw [List.length_cons]; omega
theorem al_of {zs ls : List Nat} (h1 : zs.Pairwise (· < ·)) (h2 : ∀ c, c ∈ zs ↔ c ∈ ls) (h3 : ∀ c ∈ ls, 97 ≤ c ∧ c ≤ 122) (h4 : 0 < ls.length) (h5 : ls.length ≤ 4) : Al zs := by
  refine ⟨?_, ?_, fun c hc => h3 c ((h2 c).mp hc), h1⟩
  · obtain ⟨c, hc⟩ := List.exists_mem_of_length_pos h4
    exact List.length_pos_of_mem ((h2 c).mpr hc)
  · exact Nat.le_trans (nodup_le zs ls (h1.imp fun h => Nat.ne_of_lt h) fun c hc => (h2 c).mp hc) h5
/-! ### lists of rows, gone through -/
theorem fm_getL (ls : List (List Nat)) (g : List Nat → Option V) : (List.range ls.length).filterMap (fun i => g (ls.getD i [])) = ls.filterMap g := by
  have h : (List.range ls.length).map (fun i => ls.getD i []) = ls := by
    apply List.ext_getElem
    · simp
    · intro i h1 h2
      rw [List.getElem_map, List.getElem_range, List.getD_eq_getElem?_getD, List.getElem?_eq_getElem h2]; rfl
  conv => rhs; rw [← h, List.filterMap_map]
  rfl
theorem fm_keep (ls : List (List Nat)) (f : List Nat → Bool) : ls.filterMap (fun r => if f r = true then some (T r) else none) = (ls.filter f).map T := by
  induction ls with
  | nil => rfl
  | cons r ls ih =>
    rw [List.filterMap_cons, List.filter_cons]
    split
    · rename_i h; split at h
      · cases h
      · rename_i h2; rw [if_neg h2]; exact ih
    · rename_i v h; split at h
      · rename_i h2; cases h; rw [if_pos h2, List.map_cons, ih]
      · cases h
/-! ### asked of whatever -/
def NotU (K : PySem.W.Frag) (H : Hp) (v : V) : Prop := ∃ t, TyX K H v (.type t) ∧ kitB t "tuple" = some false
instance (a l : List Nat) : Decidable (RowOf a l) := inferInstanceAs (Decidable (∀ c ∈ l, c ∈ a ++ a.map up1))
instance (a l : List Nat) : Decidable (RR a l) := inferInstanceAs (Decidable (_ ∧ _ ∧ _ ∧ ∀ i, i < l.length → l.getD i 0 ≠ swp (l.getD ((i + l.length - 1) % l.length) 0)))
instance (a : List Nat) : Decidable (Al a) := inferInstanceAs (Decidable (_ ∧ _ ∧ (∀ c ∈ a, 97 ≤ c ∧ c ≤ 122) ∧ a.Pairwise (· < ·)))
theorem all_dec {α : Type} (l : List α) (p : α → Prop) [DecidablePred p] : (l.map fun c => decide (p c)).all id = decide (∀ c ∈ l, p c) := by
  rw [Bool.eq_iff_iff, List.all_eq_true, decide_eq_true_iff]
  constructor
  · intro h c hc
    have := h _ (List.mem_map.mpr ⟨c, hc, rfl⟩)
    simpa using this
  · intro h b hb
    obtain ⟨c, hc, rfl⟩ := List.mem_map.mp hb
    simpa using h c hc
theorem all_rng (n : Nat) (p : Nat → Prop) [DecidablePred p] : ((List.range n).map fun i => decide (p i)).all id = decide (∀ i, i < n → p i) := by
  rw [all_dec]
  exact decide_eq_decide.mpr ⟨fun h i hi => h i (List.mem_range.mpr hi), fun h i hi => h i (List.mem_range.mp hi)⟩
theorem one_ltd (x y : Nat) : decide ([x] < [y]) = decide (x < y) := by
  refine decide_eq_decide.mpr ?_
  rw [List.cons_lt_cons_iff]
  constructor
  · rintro (h | ⟨_, h⟩)
    · exact h
    · exact absurd h (List.not_lt_nil _)
  · exact .inl
theorem pw_adj {l : List Nat} (h : ∀ i, i + 1 < l.length → l.getD i 0 < l.getD (i + 1) 0) : l.Pairwise (· < ·) := by
  have h2 : ∀ (d i : Nat), i + d + 1 < l.length → l.getD i 0 < l.getD (i + d + 1) 0 := by
    intro d
    induction d with
    | zero => intro i hi; exact h i hi
    | succ d ih => intro i hi; exact Nat.lt_trans (ih i (by omega)) (h (i + d + 1) (by omega))
  rw [List.pairwise_iff_getElem]
  intro i j hi hj hij
  have := h2 (j - i - 1) i (by omega)
  rw [show i + (j - i - 1) + 1 = j by omega, List.getD_eq_getElem?_getD, List.getD_eq_getElem?_getD, List.getElem?_eq_getElem hi, List.getElem?_eq_getElem hj] at this
  exact this
/-- whether a row can stand behind others -/
def stB (a : List Nat) (es : List (List Nat)) (l : List Nat) : Bool := decide (es.length < 6) && (decide (RR a l) && es.all fun e => !kinB l e)
theorem Told.step {a : List Nat} {rs : List (List Nat)} {l : List Nat} (h : Told a rs) (hs : stB a rs l = true) : Told a (rs ++ [l]) := by
  unfold stB at hs
  rw [Bool.and_eq_true, Bool.and_eq_true, decide_eq_true_iff, decide_eq_true_iff, List.all_eq_true] at hs
  refine h.snoc hs.1 hs.2.1 fun r hr => ?_
  have := hs.2.2 r hr
  simpa using this
theorem Told.take {a : List Nat} {rs : List (List Nat)} (h : Told a rs) (n : Nat) : Told a (rs.take n) := by
  obtain ⟨h1, h2, h3⟩ := h
  refine ⟨by rw [List.length_take]; omega, fun r hr => h2 r (List.mem_of_mem_take hr), fun i j hij hj => ?_⟩
  rw [List.length_take] at hj
  have e : ∀ k, k < n → (rs.take n).getD k [] = rs.getD k [] := fun k hk => by rw [List.getD_eq_getElem?_getD, List.getElem?_take_of_lt hk, ← List.getD_eq_getElem?_getD]
  rw [e i (by omega), e j (by omega)]
  exact h3 i j hij (by omega)
theorem Told.stands {a : List Nat} {rs : List (List Nat)} (h : Told a rs) {i : Nat} (hi : i < rs.length) : stB a (rs.take i) (rs.getD i []) = true := by
  obtain ⟨h1, h2, h3⟩ := h
  unfold stB
  rw [decide_eq_true (show (rs.take i).length < 6 by rw [List.length_take]; omega), decide_eq_true (h2 _ (getD_memL hi)), Bool.true_and, Bool.true_and, List.all_eq_true]
  intro e he
  obtain ⟨j, hj, rfl⟩ := take_memL he
  have : kinB (rs.getD i []) (rs.getD j []) = false := h3 j i hj hi
  rw [this]; rfl
/-- what check_rows does with rows v: all stand (X), or the k-th does not (R k) -/
def RwsX (K : PySem.W.Frag) (H : Hp) (a : List Nat) (v : V) (X : Prop) (R : Nat → Prop) : Prop :=
  (∃ (p : Addr) (xs : List V) (rs : List (List Nat)), v = .ref p ∧ H p = some (.tup xs) ∧ xs.length ≤ 1000 ∧ xs.take rs.length = rs.map T ∧ Told a rs ∧
    ((rs.length = xs.length ∧ X) ∨ (rs.length < xs.length ∧ ((∃ l, xs.getD rs.length .non = T l ∧ l.length ≤ 5000 ∧ stB a rs l = false) ∨ NotS K H (xs.getD rs.length .non)) ∧ R rs.length))) ∨
  (NotU K H v ∧ R 0)
theorem NotU.same {K : PySem.W.Frag} {H H' : Hp} {v : V} (h : NotU K H v) (s : Same H H') : NotU K H' v := by
  obtain ⟨t, ty, k⟩ := h
  exact ⟨t, TyX.same ty s, k⟩
theorem RwsX.same {K : PySem.W.Frag} {H H' : Hp} {a : List Nat} {v : V} {X : Prop} {R : Nat → Prop} (h : RwsX K H a v X R) (s : Same H H') : RwsX K H' a v X R := by
  rcases h with ⟨p, xs, rs, rfl, ep, hl, hp, ht, q⟩ | ⟨hn, q⟩
  · exact .inl ⟨p, xs, rs, rfl, s _ _ ep, hl, hp, ht, q.imp id fun ⟨h1, h2, h3⟩ => ⟨h1, h2.imp id fun h => h.same s, h3⟩⟩
  · exact .inr ⟨hn.same s, q⟩
theorem RwsX.mono {K : PySem.W.Frag} {H : Hp} {a : List Nat} {v : V} {X Y : Prop} {R S : Nat → Prop} (h : RwsX K H a v X R) (hx : X → Y) (hr : ∀ k, R k → S k) : RwsX K H a v Y S := by
  rcases h with ⟨p, xs, rs, rfl, ep, hl, hp, ht, q⟩ | ⟨hn, q⟩
  · exact .inl ⟨p, xs, rs, rfl, ep, hl, hp, ht, q.imp (fun ⟨h1, h2⟩ => ⟨h1, hx h2⟩) fun ⟨h1, h2, h3⟩ => ⟨h1, h2, hr _ h3⟩⟩
  · exact .inr ⟨hn, hr _ q⟩
/-- what Rules(u, v) does -/
def RulX (K : PySem.W.Frag) (H : Hp) (u v : V) (X : List Nat → Addr → Prop) (L : Prop) (R : Nat → Prop) : Prop :=
  (((∃ l, u = T l ∧ l.length ≤ 5000 ∧ ¬ Al l) ∨ NotS K H u) ∧ L) ∨
  (∃ a, u = T a ∧ Al a ∧ ((∃ (p : Addr) (rs : List (List Nat)), v = .ref p ∧ H p = some (.tup (rs.map T)) ∧ Told a rs ∧ X a p) ∨ RwsX K H a v False R))
theorem RulX.same {K : PySem.W.Frag} {H H' : Hp} {u v : V} {X : List Nat → Addr → Prop} {L : Prop} {R : Nat → Prop} (h : RulX K H u v X L R) (s : Same H H') : RulX K H' u v X L R := by
  rcases h with ⟨h1, h2⟩ | ⟨a, h1, h2, h3⟩
  · exact .inl ⟨h1.imp id fun h => h.same s, h2⟩
  · exact .inr ⟨a, h1, h2, h3.imp (fun ⟨p, rs, e1, e2, e3⟩ => ⟨p, rs, e1, s _ _ e2, e3⟩) fun h => h.same s⟩
theorem RulX.mono {K : PySem.W.Frag} {H : Hp} {u v : V} {X Y : List Nat → Addr → Prop} {L M : Prop} {R S : Nat → Prop} (h : RulX K H u v X L R) (hx : ∀ a p, X a p → Y a p) (hl : L → M) (hr : ∀ k, R k → S k) : RulX K H u v Y M S := by
  rcases h with ⟨h1, h2⟩ | ⟨a, h1, h2, h3⟩
  · exact .inl ⟨h1, hl h2⟩
  · exact .inr ⟨a, h1, h2, h3.imp (fun ⟨p, rs, e1, e2, e3, e4⟩ => ⟨p, rs, e1, e2, e3, hx _ _ e4⟩) fun h => h.mono id hr⟩
/-! ### values that cannot be told -/
def OD (K : PySem.W.Frag) (w : Addr) (a : List Nat) (rs : List (List Nat)) (H : Hp) (v : V) : Prop :=
  (∃ l, v = T l ∧ l.length ≤ 400 ∧ (¬ RR a l ∨ ∃ r ∈ rs, kinB l r = true)) ∨ (NotS K H v ∧ v ≠ .ref w)
theorem OD.kp {K : PySem.W.Frag} {w : Addr} {a : List Nat} {rs : List (List Nat)} {H H' : Hp} {v : V} (h : OD K w a rs H v) (k : Kp w H H') : OD K w a rs H' v :=
  h.imp id fun ⟨h1, h2⟩ => ⟨h1.kp k h2, h2⟩
/-! ### concrete kin -/
/-- a ring row of the letters, by the letters it has -/
theorem rr_sub {a b l : List Nat} (hb : RR b l) (h : ∀ c ∈ b, c ∈ a) : RR a l := ⟨fun c hc => by
  rcases List.mem_append.mp (hb.1 c hc) with z | z
  · exact List.mem_append_left _ (h c z)
  · obtain ⟨d, hd, e⟩ := List.mem_map.mp z
    exact List.mem_append_right _ (List.mem_map.mpr ⟨d, h d hd, e⟩), hb.2⟩
theorem Told.sub {a b : List Nat} {rs : List (List Nat)} (ht : Told b rs) (h : ∀ c ∈ b, c ∈ a) : Told a rs := ⟨ht.1, fun r hr => rr_sub (ht.2.1 r hr) h, ht.2.2⟩
/-! ### list(xs) -/
/-! ### cuts of tuples -/
theorem r_slTto {K : PySem.W.Frag} {H : Hp} {Q : VK} {p : Addr} {xs : List V} {i : Nat} (e : H p = some (.tup xs)) (h : ∀ q H', Same H H' → H' q = some (.tup (xs.take i)) → Q (.ref q) H') : rSlG K (.ref p) none (some (i : Int)) H Q := by
  refine .inr (.inr ⟨p, xs, rfl, SqT.of e, fun z => ?_, fun _ q nq => ?_⟩)
  · have := z.2
    rw [HT.sIx_nat] at this
    refine h p H (Same.refl _) ?_
    rw [List.take_of_length_le (by omega)]; exact e
  · have e2 : cutV xs none (some (i : Int)) = xs.take i := by
      unfold cutV
      rw [HT.sIx_none, HT.sIx_nat, List.drop_zero, Nat.sub_zero]
      rcases Nat.le_total i xs.length with z | z
      · rw [Nat.min_eq_left z]
      · rw [Nat.min_eq_right z, List.take_length, List.take_of_length_le z]
    rw [e2]; exact h q _ (Same.new1 nq) upd_same
theorem r_slTfr {K : PySem.W.Frag} {H : Hp} {Q : VK} {p : Addr} {xs : List V} {i : Nat} (e : H p = some (.tup xs)) (h : ∀ q H', Same H H' → H' q = some (.tup (xs.drop i)) → Q (.ref q) H') : rSlG K (.ref p) (some (i : Int)) none H Q := by
  refine .inr (.inr ⟨p, xs, rfl, SqT.of e, fun z => ?_, fun _ q nq => ?_⟩)
  · have := z.1
    rw [HT.sIx_nat] at this
    refine h p H (Same.refl _) ?_
    rcases Nat.le_total i xs.length with z | z
    · have : i = 0 := by omega
      rw [this, List.drop_zero]; exact e
    · have : xs = [] := List.length_eq_zero_iff.mp (by omega)
      rw [this] at e ⊢
      rw [List.drop_nil]; exact e
  · have e2 : cutV xs (some (i : Int)) none = xs.drop i := by
      unfold cutV
      rw [HT.sIx_none, HT.sIx_nat, List.take_of_length_le (by rw [List.length_drop]; omega)]
      rcases Nat.le_total i xs.length with z | z
      · rw [Nat.min_eq_left z]
      · rw [Nat.min_eq_right z, List.drop_length, List.drop_eq_nil_of_le z]
    rw [e2]; exact h q _ (Same.new1 nq) upd_same
theorem r_addTt {K : PySem.W.Frag} {H : Hp} {Q : VK} {p q : Addr} {xs ys : List V} (e1 : H p = some (.tup xs)) (e2 : H q = some (.tup ys)) (hl : xs.length + ys.length ≤ 1000000) (h : ∀ d H', Same H H' → H' d = some (.tup (xs ++ ys)) → Q (.ref d) H') : rAddG K (.ref p) (.ref q) H Q := by
  refine .inr ⟨p, q, xs, ys, rfl, rfl, SqT.of e1, SqT.of e2, by rw [sizeLine_eq]; omega, fun z => ?_, fun _ z => ?_, fun _ _ d nd => h d _ (Same.new1 nd) upd_same⟩
  · exact h q H (Same.refl _) (by rw [z, List.nil_append]; exact e2)
  · exact h p H (Same.refl _) (by rw [z, List.append_nil]; exact e1)
/-- bad: what a value at a place brings -/
def BadAt (K : PySem.W.Frag) (a : List Nat) (es : List (List Nat)) (H : Hp) (v : V) : Prop := (∃ l, v = T l ∧ l.length ≤ 5000 ∧ stB a es l = false) ∨ NotS K H v
theorem BadAt.same {K : PySem.W.Frag} {a : List Nat} {es : List (List Nat)} {H H' : Hp} {v : V} (h : BadAt K a es H v) (s : Same H H') : BadAt K a es H' v := h.imp id fun h => h.same s
theorem rulX_bad {K : PySem.W.Frag} {H : Hp} {a : List Nat} {p : Addr} {rs : List (List Nat)} {v : V} {zs : List V} {X : List Nat → Addr → Prop} {L : Prop} {R : Nat → Prop} (ha : Al a) (ht : Told a rs) (ep : H p = some (.tup (rs.map T ++ v :: zs))) (hz : zs.length ≤ 100) (hb : BadAt K a rs H v) (h : R rs.length) : RulX K H (T a) (.ref p) X L R := by
  have h6 := ht.1
  refine .inr ⟨a, rfl, ha, .inr (.inl ⟨p, _, rs, rfl, ep, ?_, ?_, ht, .inr ⟨?_, ?_, h⟩⟩)⟩
  · rw [List.length_append, List.length_map, List.length_cons]; omega
  · rw [List.take_append_of_le_length (by rw [List.length_map]; omega), List.take_of_length_le (by rw [List.length_map]; omega)]
  · rw [List.length_append, List.length_map, List.length_cons]; omega
  · have : (rs.map T ++ v :: zs).getD rs.length .non = v := by
      rw [List.getD_eq_getElem?_getD, List.getElem?_append_right (by rw [List.length_map]; omega), List.length_map, Nat.sub_self]; rfl
    rw [this]; exact hb
end NX
namespace NX
open PySem PySem.Spec PyProof.Rows L2
/-! ### own classes: == by an own __eq__, new objects by keywords or with defaults, methods by keywords -/
section
variable {X : Cx} {CX : CXT} {k n : Nat} {f C : Addr} {fd : FuncData} {ps ks : List Str} {sp : Sp} {dvs : List V} {ds : List Value} {E : XK} {x m : Str} {p pos apos : Pos} {e o : Expr} {es : List Expr} {ta : TE} {t tk : TA} {kws : List Keyword} {g : List Value → List Value → List Value} {gV : List V → List V → List V}
/-- C(e, ..) with defaults -/
theorem pe_makeGD (hgu : X.A.guards = some []) (M : Mk X.K C f) (F : FnG X.prog X.w X.K X.mg X.base CX k f fd ps sp) (hr : Room (k + 1) X.A) (hg : Gl X x) (hm : X.mg x = some (.ref C)) (hb : ∃ ds, Vals dvs ds ∧ Binds X.K fd ps ds) (hx : Passes CX X E)
    (ha : PA X (e :: es) t) (hdb : (x == ("__debug__" : Str)) = false := by decide) (he : starEach (e :: es) X.env = (false, eval e X.env) :: starEach es X.env := by rfl) (hpl : (backTo pos (starEach es X.env)).any (·.1) = false := by rfl) :
    PE X (.Call (.Name x p) (e :: es) [] pos) (tMake C sp dvs E t) := by
  obtain ⟨ds, hd, hb⟩ := hb
  exact pe_makeG hgu M F hr hg hm hb hd hx ha hdb he hpl
end
theorem funD_mk {K : PySem.W.Frag} {x qual : Str} {st : Stmt} {f T E : Addr} {oc kV doc pm cdv ct oT : Value} {od an pT : Option Addr} {osl sT : Array (Option Value)} {n : Nat}
    (l : K.lookup f = some ⟨oc, od, .func (PySem.W.fnOf x qual (defArgs st) (defBody st) (defScope st) (.ref T) kV doc pm an cdv ct), osl⟩) (c : PySem.W.codeIn K cdv qual = true) (k : PySem.W.keepIn K (.ref f) = true)
    (lt : K.lookup T = some ⟨oT, pT, .seq #[.ref E] n, sT⟩) : FunD K x qual (defArgs st) (defBody st) (defScope st) [V.ref E] [] f (PySem.W.fnOf x qual (defArgs st) (defBody st) (defScope st) (.ref T) kV doc pm an cdv ct) :=
  ⟨⟨_, _, _, _, _, _, _, _, _, _, rfl, l, c, .inr ⟨by simp, T, _, [.ref E], _, rfl, lt, rfl, .cons rfl .nil⟩, .inl rfl⟩, k⟩
theorem bD_full {K : PySem.W.Frag} {fd : FuncData} {ps : List Str} {v : V} (h : ∃ ds, Vals ([v].drop 1) ds ∧ Binds K fd ps ds) : Binds K fd ps [] := by
  obtain ⟨ds, h1, h2⟩ := h
  cases h1
  exact h2
/-- what a plain own class is, for isinstance and == -/
structure PlC (K : PySem.W.Frag) (C : Addr) : Prop where
  cl : Cls K C
  t : PySem.W.typeIn K (.ref C) = some (.type "type")
  ha : PySem.W.findIn K (.ref C) "__class__" = some (some (.builtin "object.__class__"))
  hn : PySem.W.specialIn K (.builtin "object.__class__") "__get__" = some (some (.builtin "getset_descriptor.__get__"))
  ht : PySem.W.takesIn K (.builtin "object.__class__") = some true
  hm : PySem.W.mroIn K C (.type "object") = some true
  sub : ∀ n : String, n ∈ ["NoneType", "bool", "int", "str", "list", "tuple", "dict"] → PySem.W.subIn K (.type n) (.ref C) = some false
theorem PlC.ty {K : PySem.W.Frag} {H : Hp} {a C dx : Addr} {fs : List (Str × V)} (p : PlC K C) (e : H a = some (.ins C dx fs)) : TyX K H (.ref a) (.ref C) := .base (.ins e p.cl p.ha p.hn p.ht p.hm)
/-- a default that is the empty tuple -/
def Dfl0 (K : PySem.W.Frag) (v : V) : Prop := ∃ (E : Addr) (o : Obj) (n : Nat), v = .ref E ∧ K.lookup E = some o ∧ o.cls = .type "tuple" ∧ o.data = .seq #[] n
/-- a tuple value: a tracked one, or the empty default -/
def TupV (K : PySem.W.Frag) (H : Hp) (v : V) (xs : List V) : Prop := ∃ p, v = .ref p ∧ (H p = some (.tup xs) ∨ (xs = [] ∧ Dfl0 K v))
theorem TupV.of {K : PySem.W.Frag} {H : Hp} {p : Addr} {xs : List V} (e : H p = some (.tup xs)) : TupV K H (.ref p) xs := ⟨p, rfl, .inl e⟩
theorem Dfl0.tv {K : PySem.W.Frag} {H : Hp} {v : V} (h : Dfl0 K v) : TupV K H v [] := by
  obtain ⟨E, o, n, rfl, h1, h2, h3⟩ := h
  exact ⟨E, rfl, .inr ⟨rfl, E, o, n, rfl, h1, h2, h3⟩⟩
theorem TupV.sq {K : PySem.W.Frag} {H : Hp} {p : Addr} {xs : List V} (h : TupV K H (.ref p) xs) : SqT K H p xs := by
  obtain ⟨p', e, h | ⟨rfl, E, o, n, e2, h1, h2, h3⟩⟩ := h
  · cases e; exact SqT.of h
  · cases e2
    exact .inr ⟨o, #[], n, h1, h2, h3, Nat.zero_le _, .nil⟩
theorem TupV.ty {K : PySem.W.Frag} {H : Hp} {v : V} {xs : List V} (h : TupV K H v xs) : TyX K H v (.type "tuple") := by
  obtain ⟨p', rfl, h | ⟨rfl, E, o, n, e2, h1, h2, h3⟩⟩ := h
  · exact .base (.tup h)
  · cases e2; exact .kTuple h1 h2
theorem TupV.same {K : PySem.W.Frag} {H H' : Hp} {v : V} {xs : List V} (h : TupV K H v xs) (s : Same H H') : TupV K H' v xs := by
  obtain ⟨p', rfl, h | h⟩ := h
  · exact ⟨p', rfl, .inl (s _ _ h)⟩
  · exact ⟨p', rfl, .inr h⟩
theorem TupV.kp {K : PySem.W.Frag} {H H' : Hp} {v : V} {xs : List V} {w : Addr} (h : TupV K H v xs) (k : Kp w H H') (hw : ∀ ys, H w ≠ some (.tup ys)) : TupV K H' v xs := by
  obtain ⟨p', rfl, h | h⟩ := h
  · exact ⟨p', rfl, .inl (k _ _ (fun e => hw xs (e ▸ h)) h)⟩
  · exact ⟨p', rfl, .inr h⟩
end NX
namespace NX
open PySem PySem.Spec PyProof.Rows L2
/-! ### rules as objects -/
/-- an object of the class Rules (at C) with these letters and rows -/
def RulO (K : PySem.W.Frag) (C : Addr) (H : Hp) (x : Addr) (a : List Nat) (rs : List (List Nat)) : Prop := ∃ dx v, H x = some (.ins C dx [("alphabet", T a), ("told", v)]) ∧ TupV K H v (rs.map T) ∧ Al a ∧ Told a rs
theorem RulO.same {K : PySem.W.Frag} {C : Addr} {H H' : Hp} {x : Addr} {a : List Nat} {rs : List (List Nat)} (h : RulO K C H x a rs) (s : Same H H') : RulO K C H' x a rs := by
  obtain ⟨dx, v, e, t, ha, ht⟩ := h
  exact ⟨dx, v, s _ _ e, t.same s, ha, ht⟩
theorem RulO.kp {K : PySem.W.Frag} {C : Addr} {H H' : Hp} {x w : Addr} {n : Nat} {a : List Nat} {rs : List (List Nat)} (h : RulO K C H x a rs) (hw : Wl H w n) (k : Kp w H H') : RulO K C H' x a rs := by
  obtain ⟨dx, v, e, t, ha, ht⟩ := h
  obtain ⟨_, _, _, ew, _⟩ := hw
  refine ⟨dx, v, k _ _ (fun z => ?_) e, t.kp k (fun ys z => ?_), ha, ht⟩
  · rw [z, ew] at e; cases e
  · rw [ew] at z; cases z
theorem fld1 {f : Str} {u : V} {r : List (Str × V)} : List.lookup f ((f, u) :: r) = some u := by simp [List.lookup]
theorem TupV.ref {K : PySem.W.Frag} {H : Hp} {v : V} {xs : List V} (h : TupV K H v xs) : ∃ p, v = .ref p := h.imp fun _ h => h.1
/-- Rules.__init__ -/
def spRul (K : PySem.W.Frag) (C : Addr) : Sp := fun vs H Q _ => ∃ (x dx : Addr) (v : V) (a : List Nat) (rs : List (List Nat)), vs = [.ref x, T a, v] ∧ H x = some (.ins C dx []) ∧ TupV K H v (rs.map T) ∧ Al a ∧ Told a rs ∧ ∀ H', H' x = some (.ins C dx [("alphabet", T a), ("told", v)]) → Kp x H H' → Q .non H'
theorem spRul_new {K : PySem.W.Frag} {C C' : Addr} {H : Hp} {v : V} {a : List Nat} {rs : List (List Nat)} {P : Addr → Hp → Prop} {E : XK} (hC : C = C') (tv : TupV K H v (rs.map T)) (ha : Al a) (ht : Told a rs)
    (h : ∀ x H', H x = none → Same H H' → RulO K C H' x a rs → P x H') :
    ∀ x dx, H x = none → H dx = none → dx ≠ x → spRul K C [.ref x, T a, v] (upd (upd H dx (.own x)) x (.ins C' dx [])) (fun u H2 => u = .non ∧ P x H2) E := by
  subst hC
  intro x dx nx nd hne
  have s1 : Same H (upd (upd H dx (.own x)) x (.ins C dx [])) := fun b o e => by
    have h1 : b ≠ x := fun z => by rw [z, nx] at e; cases e
    have h2 : b ≠ dx := fun z => by rw [z, nd] at e; cases e
    rw [upd_ne h1, upd_ne h2]; exact e
  refine ⟨x, dx, v, a, rs, rfl, upd_same, tv.same s1, ha, ht, fun H' e k => ⟨rfl, h x H' nx (fun b o eb => ?_) ⟨dx, v, e, ?_, ha, ht⟩⟩⟩
  · have h1 : b ≠ x := fun z => by rw [z, nx] at eb; cases eb
    exact k _ _ h1 (s1 _ _ eb)
  · obtain ⟨p', rfl, e2 | e2⟩ := tv
    · exact ⟨p', rfl, .inl (k _ _ (fun z => by rw [z, nx] at e2; cases e2) (s1 _ _ e2))⟩
    · exact ⟨p', rfl, .inr e2⟩
/-! ### repr of a tuple of texts -/
def dT (rs : List (List Nat)) : PyData := .tuple (rs.map fun r => PyData.str (mkS r))
theorem r_eqStr {K : PySem.W.Frag} {H : Hp} {Q : VK} {s : Str} (h : Q (.bl true) H) : rEqG K (.str s) (.str s) H Q := .inl ⟨rfl, by rw [decide_eq_true rfl]; exact h⟩
/-! ### told rows, as a list without kin -/
theorem getD_el {α : Type} {l : List α} {d : α} {i : Nat} (h : i < l.length) : l.getD i d = l[i] := by rw [List.getD_eq_getElem?_getD, List.getElem?_eq_getElem h]; rfl
theorem told_pw {a : List Nat} {rs : List (List Nat)} : Told a rs ↔ rs.length ≤ 6 ∧ (∀ r ∈ rs, RR a r) ∧ rs.Pairwise fun x y => kinB y x = false := by
  rw [told_iff]
  refine and_congr_right fun _ => and_congr_right fun _ => ?_
  rw [List.pairwise_iff_getElem]
  constructor
  · intro h i j hi hj hij
    have := h i j hij hj
    rwa [getD_el hi, getD_el hj] at this
  · intro h i j hij hj
    have := h i j (by omega) hj hij
    rwa [getD_el (show i < rs.length by omega), getD_el hj]
theorem Told.sublist {a : List Nat} {rs qs : List (List Nat)} (h : Told a rs) (s : qs.Sublist rs) : Told a qs := by
  obtain ⟨h1, h2, h3⟩ := told_pw.mp h
  exact told_pw.mpr ⟨Nat.le_trans s.length_le h1, fun r hr => h2 r (s.subset hr), h3.sublist s⟩
theorem drop_sub (rs : List (List Nat)) (k : Nat) : (rs.take k ++ rs.drop (k + 1)).Sublist rs := by
  have h : (rs.take k ++ rs.drop (k + 1)).Sublist (rs.take k ++ rs.drop k) := by
    refine List.Sublist.append (List.Sublist.refl _) ?_
    rw [show rs.drop (k + 1) = (rs.drop k).drop 1 by rw [List.drop_drop]]
    exact List.drop_sublist _ _
  rwa [List.take_append_drop] at h
theorem Told.perm {a : List Nat} {rs qs : List (List Nat)} (ha : Al a) (h : Told a rs) (s : rs.Perm qs) : Told a qs := by
  obtain ⟨h1, h2, h3⟩ := told_pw.mp h
  have h2' : ∀ r ∈ qs, RR a r := fun r hr => h2 r (s.mem_iff.mpr hr)
  refine told_pw.mpr ⟨by rw [← s.length_eq]; exact h1, h2', ?_⟩
  have h4 : rs.Pairwise fun x y => Row x ∧ Row y ∧ kinB y x = false := by
    rw [List.pairwise_iff_getElem] at h3 ⊢
    exact fun i j hi hj hij => ⟨(h2 _ (List.getElem_mem hi)).row ha, (h2 _ (List.getElem_mem hj)).row ha, h3 i j hi hj hij⟩
  have h5 := (s.pairwise_iff (R := fun x y => Row x ∧ Row y ∧ kinB y x = false) (fun {x y} ⟨r1, r2, k⟩ => ⟨r2, r1, by rw [kin_symm r1 r2]; exact k⟩)).mp h4
  exact h5.imp fun ⟨_, _, k⟩ => k
theorem Told.put {a : List Nat} {A B : List (List Nat)} {r r' : List Nat} (ha : Al a) (h : Told a (A ++ r :: B)) (hr : RR a r') (hk : kinB r' r = true) : Told a (A ++ r' :: B) := by
  have p1 : (A ++ r :: B).Perm (r :: (A ++ B)) := List.perm_middle
  have h1 := told_pw.mp (h.perm ha p1)
  obtain ⟨h2, h3, h4⟩ := h1
  rw [List.pairwise_cons] at h4
  have hrr := h3 r (List.mem_cons_self ..)
  refine Told.perm ha (told_pw.mpr ⟨?_, ?_, ?_⟩) (List.perm_middle (a := r') (l₁ := A) (l₂ := B)).symm
  · simpa using h2
  · intro z hz
    rcases List.mem_cons.mp hz with rfl | hz
    · exact hr
    · exact h3 z (List.mem_cons_of_mem _ hz)
  · rw [List.pairwise_cons]
    refine ⟨fun s hs => ?_, h4.2⟩
    have h5 := h4.1 s hs
    have hsr := (h3 s (List.mem_cons_of_mem _ hs)).row ha
    cases e : kinB s r' with
    | false => rfl
    | true =>
      rw [kin_trans (hr.row ha) (hrr.row ha) e hk] at h5
      cases h5
/-- letters and rows that are others than these -/
def Oth (K : PySem.W.Frag) (H : Hp) (a : List Nat) (rs : List (List Nat)) (v : V) : Prop := ∃ (t : Addr) (u : V) (b : List Nat) (qs : List (List Nat)), v = .ref t ∧ H t = some (.tup [T b, u]) ∧ TupV K H u (qs.map T) ∧ Al b ∧ Told b qs ∧ ¬ (b = a ∧ qs = rs)
theorem Oth.same {K : PySem.W.Frag} {H H' : Hp} {a : List Nat} {rs : List (List Nat)} {v : V} (h : Oth K H a rs v) (s : Same H H') : Oth K H' a rs v := by
  obtain ⟨t, u, b, qs, e, e1, tv, r⟩ := h
  exact ⟨t, u, b, qs, e, s _ _ e1, tv.same s, r⟩
end NX
namespace NX
open PySem PySem.Spec PyProof.Rows L2
/-- a tuple of rows that can be told -/
def Good (H : Hp) (a : List Nat) (v : V) : Prop := ∃ (q : Addr) (rs : List (List Nat)), v = .ref q ∧ H q = some (.tup (rs.map T)) ∧ Told a rs
theorem Good.same {H H' : Hp} {a : List Nat} {v : V} (h : Good H a v) (s : Same H H') : Good H' a v := by
  obtain ⟨q, rs, e, e1, t⟩ := h
  exact ⟨q, rs, e, s _ _ e1, t⟩
/-! ### sorted, of texts of one sign too -/
/-- no int -/
def NotI (K : PySem.W.Frag) (H : Hp) (v : V) : Prop := ∃ t, TyX K H v (.type t) ∧ kitB t "int" = some false
theorem NotI.same {K : PySem.W.Frag} {H H' : Hp} {v : V} (h : NotI K H v) (s : Same H H') : NotI K H' v := by
  obtain ⟨t, ty, k⟩ := h
  exact ⟨t, TyX.same ty s, k⟩
/-- no index of n things -/
def BadIx (K : PySem.W.Frag) (H : Hp) (n : Nat) (v : V) : Prop := (∃ i : Int, v = .int i ∧ ¬ (0 ≤ i ∧ i < (n : Int))) ∨ ((∃ b, v = .bl b) ∨ NotI K H v)
theorem BadIx.same {K : PySem.W.Frag} {H H' : Hp} {n : Nat} {v : V} (h : BadIx K H n v) (s : Same H H') : BadIx K H' n v := h.imp id fun h => h.imp id fun h => h.same s
theorem TupV.tr {K : PySem.W.Frag} {H : Hp} {v : V} {xs : List V} (h : TupV K H v xs) (n : xs ≠ []) : ∃ p, v = .ref p ∧ H p = some (.tup xs) := by
  obtain ⟨p, e, h | h⟩ := h
  · exact ⟨p, e, h⟩
  · exact absurd h.1 n
/-- a value of a built-in kind -/
def OddV (K : PySem.W.Frag) (H : Hp) (v : V) : Prop := ∃ n : String, TyX K H v (.type n) ∧ n ∈ ["NoneType", "bool", "int", "str", "list", "tuple", "dict"]
theorem OddV.same {K : PySem.W.Frag} {H H' : Hp} {v : V} (h : OddV K H v) (s : Same H H') : OddV K H' v := by
  obtain ⟨n, ty, hn⟩ := h
  exact ⟨n, TyX.same ty s, hn⟩
/-! ### the list of others -/
theorem Oth.kp {K : PySem.W.Frag} {H H' : Hp} {a : List Nat} {rs : List (List Nat)} {v : V} {d : Addr} {ys : List V} (h : Oth K H a rs v) (k : Kp d H H') (hd : H d = some (.lst ys)) : Oth K H' a rs v := by
  obtain ⟨t, u, b, qs, e, e1, tv, r⟩ := h
  refine ⟨t, u, b, qs, e, k _ _ (fun z => ?_) e1, tv.kp k (fun ys z => ?_), r⟩
  · rw [z, hd] at e1; cases e1
  · rw [hd] at z; cases z
theorem turn_cut (l : List Nat) (i : Nat) : Turn l (l.drop i ++ l.take i) := ⟨l.take i, l.drop i, (List.take_append_drop i l).symm, rfl⟩
def Fnd (K : PySem.W.Frag) (H0 H' : Hp) (d : Addr) (a : List Nat) (rs : List (List Nat)) (m : Nat) : Prop := ∃ xs, H' d = some (.lst xs) ∧ xs.length ≤ m ∧ (∀ v ∈ xs, Oth K H' a rs v) ∧ Kp d H0 H'
theorem Fnd.mono {K : PySem.W.Frag} {H0 H1 : Hp} {d : Addr} {a : List Nat} {rs : List (List Nat)} {m n : Nat} (h : Fnd K H0 H1 d a rs m) (hn : m ≤ n) : Fnd K H0 H1 d a rs n := by
  obtain ⟨xs, e, hl, r⟩ := h
  exact ⟨xs, e, by omega, r⟩
theorem Kp.same {d : Addr} {H H' : Hp} (k : Kp d H H') (n : H d = none) : Same H H' := fun b o e => k b o (fun z => by rw [z, n] at e; cases e) e
theorem lk2 {f g h : Str} {u v : V} (h1 : (h == f) = false) (h2 : (h == g) = false) : List.lookup h [(f, u), (g, v)] = none := by simp [List.lookup, h1, h2]
end NX
namespace NX
open PySem PySem.Spec PyProof.Rows L2
inductive Or3 (A B C : Prop) : Prop
  | inl (h : A)
  | inr (h : B)
  | tup (h : C)
theorem RowOf.take {a l : List Nat} (h : RowOf a l) (n : Nat) : RowOf a (l.take n) := fun c hc => h c (List.mem_of_mem_take hc)
theorem RowOf.drop {a l : List Nat} (h : RowOf a l) (n : Nat) : RowOf a (l.drop n) := fun c hc => h c (List.mem_of_mem_drop hc)
theorem RowOf.app {a l m : List Nat} (h : RowOf a l) (g : RowOf a m) : RowOf a (l ++ m) := fun c hc => (List.mem_append.mp hc).elim (h c) (g c)
theorem RowOf.rev {a l : List Nat} (h : RowOf a l) : RowOf a l.reverse := fun c hc => h c (List.mem_reverse.mp hc)
theorem stB_iff {a : List Nat} {es : List (List Nat)} {l : List Nat} : stB a es l = true ↔ es.length < 6 ∧ RR a l ∧ ∀ e ∈ es, kinB l e = false := by
  unfold stB
  rw [Bool.and_eq_true, Bool.and_eq_true, decide_eq_true_eq, decide_eq_true_eq, List.all_eq_true]
  refine and_congr_right fun _ => and_congr_right fun _ => ⟨fun h e he => ?_, fun h e he => ?_⟩
  · have := h e he
    cases q : kinB l e with
    | false => rfl
    | true => rw [q] at this; cases this
  · rw [h e he]; rfl
theorem sqL_same {K : PySem.W.Frag} {H H' : Hp} {a : Addr} {xs : List V} (h : SqL K H a xs) (s : Same H H') : SqL K H' a xs :=
  h.elim (fun h => .inl (h.elim (fun h => .inl (s _ _ h)) fun ⟨o, h⟩ => .inr ⟨o, s _ _ h⟩)) fun h => .inr h
theorem fm_ints (f : Nat → Bool) (L : List Nat) : L.filterMap (fun i => if f i = true then some (V.int (i : Nat)) else none) = ((L.filter f).map fun i : Nat => (i : Int)).map V.int := by
  induction L with
  | nil => rfl
  | cons i L ih =>
    cases e : f i with
    | true => rw [List.filterMap_cons_some (b := V.int (i : Nat)) (by rw [if_pos e]), List.filter_cons_of_pos e, ih]; rfl
    | false => rw [List.filterMap_cons_none (by rw [if_neg (by rw [e]; decide)]), List.filter_cons_of_neg (by rw [e]; decide), ih]
end NX
set_option maxHeartbeats 2000000
namespace PySem
open Sem (wp)
/-! ### enumerate over zip: the zip's own tuple is not let go -/
end PySem
set_option maxHeartbeats 2000000
namespace PySem
open Builtin Builtin.Str
end PySem
namespace NX
open PySem PySem.Spec PyProof.Rows L2
end NX
namespace NX
open PySem PySem.Spec PyProof.Rows L2
section
variable {X : Cx} {e : Expr} {es : List Expr} {p : Pos} {te : TE} {t : TA}
theorem pa_starK (K : PySem.W.Frag) (he : PE X e te) (hr : PA X es t) (hK : X.K = K := by rfl) (hs : starEach (.Starred e p :: es) X.env = (true, eval e X.env) :: starEach es X.env := by rfl) : PA X (.Starred e p :: es) (StX.tStar K te t) := hK ▸ StX.pa_star he hr hs
end
section
variable {K : PySem.W.Frag} {σ : L2.St} {H : Hp} {Q : VK} {te : TE} {t : TA}
theorem r_star {Q : List V → Hp → Prop} (h : te σ H fun x H1 => ∃ p xs, x = V.ref p ∧ (SqT K H1 p xs ∨ SqL K H1 p xs) ∧ t σ H1 fun ys H2 => Q (xs ++ ys) H2) : StX.tStar K te t σ H Q := h
end
/-- the largest common beginning of unlike members -/
def IsLg (as bs : List (List Nat)) (m : Nat) : Prop := (m = 0 ∨ ∃ a ∈ as, ∃ b ∈ bs, a ≠ b ∧ cpl a b = m) ∧ ∀ a ∈ as, ∀ b ∈ bs, a ≠ b → cpl a b ≤ m
theorem IsLg.nil {bs : List (List Nat)} : IsLg [] bs 0 := ⟨.inl rfl, fun a ha => nomatch ha⟩
theorem IsLg.uniq {as bs cs ds : List (List Nat)} {m n : Nat} (h : IsLg as bs m) (g : IsLg cs ds n) (h1 : ∀ w, w ∈ as ↔ w ∈ cs) (h2 : ∀ w, w ∈ bs ↔ w ∈ ds) : m = n := by
  have e : ∀ {as bs cs ds : List (List Nat)} {m n : Nat}, IsLg as bs m → IsLg cs ds n → (∀ w, w ∈ as ↔ w ∈ cs) → (∀ w, w ∈ bs ↔ w ∈ ds) → m ≤ n := fun {as bs cs ds m n} h g h1 h2 => by
    rcases h.1 with z | ⟨a, ha, b, hb, hne, z⟩
    · omega
    · rw [← z]; exact g.2 a ((h1 a).mp ha) b ((h2 b).mp hb) hne
  exact Nat.le_antisymm (e h g h1 h2) (e g h (fun w => (h1 w).symm) fun w => (h2 w).symm)
theorem IsLg.step {as bs : List (List Nat)} {a : List Nat} {m n : Nat} (h : IsLg as bs m) (h1 : (n : Int) ∈ (m : Int) :: ((bs.filter fun b => decide (a ≠ b)).map fun b => ((cpl a b : Nat) : Int))) (h2 : ∀ x ∈ (m : Int) :: ((bs.filter fun b => decide (a ≠ b)).map fun b => ((cpl a b : Nat) : Int)), x ≤ (n : Int)) : IsLg (as ++ [a]) bs n := by
  have hm : m ≤ n := by have := h2 _ (List.mem_cons_self ..); omega
  refine ⟨?_, fun x hx b hb hne => ?_⟩
  · rcases List.mem_cons.mp h1 with e | e
    · have e : n = m := by omega
      subst e
      exact h.1.imp id fun ⟨x, hx, r⟩ => ⟨x, List.mem_append_left _ hx, r⟩
    · obtain ⟨b, hb, e⟩ := List.mem_map.mp e
      obtain ⟨hb1, hb2⟩ := List.mem_filter.mp hb
      exact .inr ⟨a, by simp, b, hb1, of_decide_eq_true hb2, by omega⟩
  · rcases List.mem_append.mp hx with hx | hx
    · exact Nat.le_trans (h.2 x hx b hb hne) hm
    · rw [List.mem_singleton.mp hx] at hne ⊢
      have := h2 ((cpl a b : Nat) : Int) (List.mem_cons_of_mem _ (List.mem_map.mpr ⟨b, List.mem_filter.mpr ⟨hb, decide_eq_true hne⟩, rfl⟩))
      omega
theorem cpl_comm : ∀ l m : List Nat, cpl l m = cpl m l
  | [], [] => rfl
  | [], _ :: _ => rfl
  | _ :: _, [] => rfl
  | a :: l, b :: m => by
    unfold cpl
    by_cases h : a = b
    · rw [if_pos h, if_pos h.symm, cpl_comm l m]
    · rw [if_neg h, if_neg (fun e => h e.symm)]
theorem IsLg.symm {as bs : List (List Nat)} {m : Nat} (h : IsLg as bs m) : IsLg bs as m :=
  ⟨h.1.imp id fun ⟨a, ha, b, hb, hne, e⟩ => ⟨b, hb, a, ha, hne.symm, by rw [cpl_comm]; exact e⟩, fun b hb a ha hne => by rw [cpl_comm]; exact h.2 a ha b hb hne.symm⟩
theorem IsLg.congr {as bs cs ds : List (List Nat)} {m : Nat} (h : IsLg as bs m) (h1 : ∀ w, w ∈ as ↔ w ∈ cs) (h2 : ∀ w, w ∈ bs ↔ w ∈ ds) : IsLg cs ds m :=
  ⟨h.1.imp id fun ⟨a, ha, b, hb, r⟩ => ⟨a, (h1 a).mp ha, b, (h2 b).mp hb, r⟩, fun a ha b hb hne => h.2 a ((h1 a).mpr ha) b ((h2 b).mpr hb) hne⟩
theorem kinL_mem (l w : List Nat) : w ∈ kinL l ↔ w ∈ rots l ++ rots (bak l) := by
  unfold kinL
  rw [List.mem_append, List.mem_append, once_mem, once_mem]
theorem kinL_row {l w : List Nat} (hl : Row l) (h : w ∈ kinL l) : Row w ∧ w.length = l.length := by
  rw [kinL_mem, List.mem_append] at h
  rcases h with h | h
  · unfold rots at h
    obtain ⟨i, _, rfl⟩ := List.mem_map.mp h
    exact ⟨(turn_cut l i).row hl, rot_len l i⟩
  · unfold rots at h
    obtain ⟨i, _, rfl⟩ := List.mem_map.mp h
    exact ⟨(turn_cut (bak l) i).row hl.bak, by rw [rot_len, bak_len]⟩
/-- a number that is no times -/
def BadTm (K : PySem.W.Frag) (H : Hp) (v : V) : Prop := (∃ i : Int, v = .int i ∧ ¬ (1 ≤ i ∧ i ≤ 40)) ∨ ((∃ b, v = .bl b) ∨ NotI K H v)
theorem BadTm.same {K : PySem.W.Frag} {H H' : Hp} {v : V} (h : BadTm K H v) (s : Same H H') : BadTm K H' v := h.imp id fun h => h.imp id fun h => h.same s
end NX
namespace NX
open PySem PySem.Spec PyProof.Rows L2
/-! ### lists of triples of numbers -/
abbrev Tri := Nat × Nat × Nat
def tri (t : Tri) : List Int := [((t.1 : Nat) : Int), ((t.2.1 : Nat) : Int), ((t.2.2 : Nat) : Int)]
def TriAt (H : Hp) (x : V) (t : Tri) : Prop := ∃ p, x = .ref p ∧ H p = some (.tup ((tri t).map V.int))
def Tris (H : Hp) (xs : List V) (ts : List Tri) : Prop := Paired (TriAt H) xs ts
theorem Tris.same {H H' : Hp} {xs : List V} {ts : List Tri} (h : Tris H xs ts) (s : Same H H') : Tris H' xs ts := by
  unfold Tris at h ⊢
  induction h with
  | nil => exact .nil
  | cons a _ ih => exact .cons (by obtain ⟨p, e, e1⟩ := a; exact ⟨p, e, s _ _ e1⟩) ih
theorem Tris.kp {H H' : Hp} {xs zs : List V} {ts : List Tri} {d : Addr} (h : Tris H xs ts) (k : Kp d H H') (hd : H d = some (.lst zs)) : Tris H' xs ts := by
  unfold Tris at h ⊢
  induction h with
  | nil => exact .nil
  | cons a _ ih =>
    refine .cons ?_ ih
    obtain ⟨p, e, e1⟩ := a
    exact ⟨p, e, k _ _ (fun z => by rw [z, hd] at e1; cases e1) e1⟩
theorem Tris.len {H : Hp} {xs : List V} {ts : List Tri} (h : Tris H xs ts) : xs.length = ts.length := by
  unfold Tris at h
  induction h with
  | nil => rfl
  | cons _ _ ih => rw [List.length_cons, List.length_cons, ih]
theorem paired_perm {α β : Type} {F : α → β → Prop} {xs ys : List α} (p : xs.Perm ys) : ∀ {ts : List β}, Paired F xs ts → ∃ us, Paired F ys us ∧ us.Perm ts := by
  induction p with
  | nil => intro ts h; cases h; exact ⟨[], .nil, .refl _⟩
  | cons x _ ih =>
    intro ts h
    cases h with
    | cons a h =>
      obtain ⟨us, h1, h2⟩ := ih h
      exact ⟨_, .cons a h1, h2.cons _⟩
  | swap x y l =>
    intro ts h
    cases h with
    | cons a h => cases h with
      | cons b h => exact ⟨_, .cons b (.cons a h), .swap _ _ _⟩
  | trans _ _ ih1 ih2 =>
    intro ts h
    obtain ⟨us, h1, h2⟩ := ih1 h
    obtain ⟨vs, h3, h4⟩ := ih2 h1
    exact ⟨vs, h3, h4.trans h2⟩
def key (t : Tri) : Int := (t.1 : Int) * 1000000 + (t.2.1 : Int) * 1000 + (t.2.2 : Int)
/-! ### the clashes -/
theorem maxI : ∀ (l : List Int) (x : Int), ∃ n, n ∈ x :: l ∧ ∀ y ∈ x :: l, y ≤ n
  | [], x => ⟨x, by simp, fun y hy => by simp at hy; omega⟩
  | a :: l, x => by
    obtain ⟨n, h1, h2⟩ := maxI l a
    by_cases c : n ≤ x
    · exact ⟨x, List.mem_cons_self .., fun y hy => by
        rcases List.mem_cons.mp hy with rfl | hy
        · exact Int.le_refl _
        · have := h2 y hy; omega⟩
    · exact ⟨n, List.mem_cons_of_mem _ h1, fun y hy => by
        rcases List.mem_cons.mp hy with rfl | hy
        · omega
        · exact h2 y hy⟩
theorem isLg_ex (bs : List (List Nat)) : ∀ as : List (List Nat), ∃ m, IsLg as bs m := by
  have : ∀ n (as : List (List Nat)), n ≤ as.length → ∃ m, IsLg (as.take n) bs m := by
    intro n as
    induction n with
    | zero => intro _; exact ⟨0, IsLg.nil⟩
    | succ n ih =>
      intro hn
      obtain ⟨m, hm⟩ := ih (by omega)
      obtain ⟨k, h1, h2⟩ := maxI ((bs.filter fun b => decide (as.getD n [] ≠ b)).map fun b => ((cpl (as.getD n []) b : Nat) : Int)) (m : Int)
      obtain ⟨j, rfl⟩ : ∃ j : Nat, k = (j : Int) := ⟨k.toNat, by have := h2 _ (List.mem_cons_self ..); omega⟩
      refine ⟨j, ?_⟩
      rw [List.take_succ_eq_append_getElem (show n < as.length by omega), ← getD_el (d := []) (show n < as.length by omega)]
      exact hm.step h1 h2
  intro as
  obtain ⟨m, h⟩ := this as.length as (Nat.le_refl _)
  rw [List.take_length] at h
  exact ⟨m, h⟩
noncomputable def lgv (as bs : List (List Nat)) : Nat := Classical.epsilon fun m => IsLg as bs m
theorem lgv_is (as bs : List (List Nat)) : IsLg as bs (lgv as bs) := Classical.epsilon_spec (isLg_ex bs as)
theorem lgv_eq {as bs : List (List Nat)} {m : Nat} (h : IsLg as bs m) : m = lgv as bs := h.uniq (lgv_is as bs) (fun _ => Iff.rfl) fun _ => Iff.rfl
/-- the clash of two rows -/
noncomputable def clT (rs : List (List Nat)) (i j : Nat) : Option Tri :=
  if 0 < lgv (kinL (rs.getD i [])) (kinL (rs.getD j [])) ∧ min (rs.getD i []).length (rs.getD j []).length ≤ 6 * lgv (kinL (rs.getD i [])) (kinL (rs.getD j [])) then some (i, j, lgv (kinL (rs.getD i [])) (kinL (rs.getD j []))) else none
noncomputable def CLr (rs : List (List Nat)) (n o : Nat) : List Tri := (List.range (n - o)).filterMap fun k => clT rs o (o + k)
noncomputable def CL (rs : List (List Nat)) (n m : Nat) : List Tri := (List.range m).flatMap (CLr rs n)
theorem CL_mem {rs : List (List Nat)} {n : Nat} {t : Tri} : t ∈ CL rs n n ↔ ∃ i j, i ≤ j ∧ j < n ∧ clT rs i j = some t := by
  unfold CL CLr
  rw [List.mem_flatMap]
  constructor
  · rintro ⟨i, hi, h⟩
    obtain ⟨k, hk, e⟩ := List.mem_filterMap.mp h
    rw [List.mem_range] at hi hk
    exact ⟨i, i + k, by omega, by omega, e⟩
  · rintro ⟨i, j, hij, hj, e⟩
    exact ⟨i, List.mem_range.mpr (by omega), List.mem_filterMap.mpr ⟨j - i, List.mem_range.mpr (by omega), by rw [show i + (j - i) = j by omega]; exact e⟩⟩
end NX
namespace NX
open PySem PySem.Spec PyProof.Rows L2
/-! ### lists of tuples of numbers: told by repr, sorted, compared -/
abbrev dIs (l : List Int) : PyData := .tuple (l.map PyData.int)
def IsAt (K : PySem.W.Frag) (H : Hp) (x : V) (l : List Int) : Prop := ∃ p, x = .ref p ∧ SqT K H p (l.map V.int)
section
variable {K : PySem.W.Frag} {H : Hp}
theorem dpAll_I {xs : List V} {ls : List (List Int)} (h : Paired (IsAt K H) xs ls) : DpAll K H xs (ls.map dIs) := by
  induction h with
  | nil => exact .nil
  | cons a _ ih =>
    obtain ⟨p, rfl, e⟩ := a
    exact .cons (.tup e (dpAll_ints _)) ih
theorem deAll_L : ∀ ls : List (List Int), PyData.depthAll (ls.map dIs) ≤ 1
  | [] => by simp [PyData.depthAll]
  | l :: ls => by
    have := deAll_L ls
    have h2 := depth_ints l
    simp only [List.map_cons, PyData.depthAll, PyData.depth, h2]
    omega
theorem lay_L : ∀ ls : List (List Int), PyData.canLayAll0 (ls.map dIs) = true
  | [] => rfl
  | l :: ls => by
    show (PyData.canLayAll0 (l.map PyData.int) && PyData.canLayAll0 (ls.map dIs)) = true
    rw [lay_L ls, lay_ints l]; rfl
theorem plain_L : ∀ ls : List (List Int), plainAll (ls.map dIs) = true
  | [] => rfl
  | l :: ls => by
    show (plainAll (l.map PyData.int) && plainAll (ls.map dIs)) = true
    rw [plain_L ls, plain_ints l]; rfl
theorem r_eqL0 {Q : VK} {p q : Addr} {xs : List V} {ls : List (List Int)} (h1 : SqL K H p xs) (hx : Paired (IsAt K H) xs ls) (h2 : SqL K H q []) (h : Q (.bl (decide (ls = []))) H) : rEqG K (.ref p) (.ref q) H Q :=
  r_eqD (dp_all (dpAll_I hx) h1) (dp_all (vs := []) (ds := []) .nil h2) (shaped_list (lay_L ls) (by have := deAll_L ls; omega)) (by rfl) (plain_L ls) rfl (by rw [PyData.list.injEq, List.map_eq_nil_iff]) h
end
end NX
namespace NX
open PySem PySem.Spec PyProof.Rows L2
theorem paired_snoc {α β : Type} {F : α → β → Prop} {xs : List α} {ts : List β} (h : Paired F xs ts) {x : α} {t : β} (f : F x t) : Paired F (xs ++ [x]) (ts ++ [t]) := by
  induction h with
  | nil => exact .cons f .nil
  | cons a _ ih => exact .cons a ih
/-- a new triple, put at the end of a list -/
theorem Tris.snoc {H H' : Hp} {xs zs : List V} {ts : List Tri} {t p : Addr} {n : HO} (h : Tris H xs ts) (u : Tri) (e : H' t = some (.tup ((tri u).map V.int))) (s : Same H H') (ep : H' p = some (.lst zs)) : Tris (upd H' p n) (xs ++ [.ref t]) (ts ++ [u]) := by
  refine paired_snoc ?_ ⟨t, rfl, ?_⟩
  · have h2 := h.same s
    exact h2.kp (d := p) (H' := upd H' p n) (fun c o hc e => by rw [upd_ne hc]; exact e) ep
  · rw [upd_ne (by rintro rfl; rw [ep] at e; cases e)]; exact e
end NX
namespace NX
open PySem PySem.Spec PyProof.Rows L2
end NX
namespace NX
open PySem PySem.Spec PyProof.Rows L2
/-! ### pieces: what unlike rows begin with, the longest of these -/
def Pg (S : List (List Nat)) (p q : Nat) (x : List Nat) : Prop := S.getD p [] ≠ S.getD q [] ∧ 0 < cpl (S.getD p []) (S.getD q []) ∧ x = (S.getD p []).take (cpl (S.getD p []) (S.getD q []))
def IsPc (S : List (List Nat)) (x : List Nat) : Prop := ∃ a ∈ S, ∃ b ∈ S, a ≠ b ∧ 0 < cpl a b ∧ x = a.take (cpl a b)
theorem IsPc.congr {S S' : List (List Nat)} (h : ∀ w, w ∈ S ↔ w ∈ S') {x : List Nat} : IsPc S x ↔ IsPc S' x := by
  unfold IsPc
  constructor
  · rintro ⟨a, ha, b, hb, r⟩; exact ⟨a, (h a).mp ha, b, (h b).mp hb, r⟩
  · rintro ⟨a, ha, b, hb, r⟩; exact ⟨a, (h a).mpr ha, b, (h b).mpr hb, r⟩
def MaxPc (S : List (List Nat)) (x : List Nat) : Prop := IsPc S x ∧ ∀ y, IsPc S y → y ≠ x → ¬ x <+: y
theorem MaxPc.congr {S S' : List (List Nat)} (h : ∀ w, w ∈ S ↔ w ∈ S') {x : List Nat} : MaxPc S x ↔ MaxPc S' x := by
  unfold MaxPc
  exact and_congr (IsPc.congr h) (forall_congr' fun y => by rw [IsPc.congr h])
def IsPcs (S ps : List (List Nat)) : Prop := ps.Nodup ∧ sortedS (ps.map mkS) = true ∧ ∀ x, x ∈ ps ↔ MaxPc S x
theorem IsPcs.uniq {S S' ps qs : List (List Nat)} (h1 : IsPcs S ps) (h2 : IsPcs S' qs) (h : ∀ w, w ∈ S ↔ w ∈ S') : ps = qs := by
  have hp : ps.Perm qs := by
    rw [List.perm_ext_iff_of_nodup h1.1 h2.1]
    exact fun x => (h1.2.2 x).trans ((MaxPc.congr h).trans (h2.2.2 x).symm)
  have := sorted_uniq (hp.map mkS) h1.2.1 h2.2.1
  exact List.map_inj_right (fun _ _ => mkS_inj) |>.mp this
/-- what a turn of both loops has found -/
def FdAt (S : List (List Nat)) (i k : Nat) (x : List Nat) : Prop := (∃ p q, p < i ∧ q < p ∧ Pg S p q x) ∨ ∃ q, q < k ∧ Pg S i q x
theorem FdAt.row {S : List (List Nat)} {i : Nat} {x : List Nat} : FdAt S i i x ↔ FdAt S (i + 1) 0 x := by
  unfold FdAt
  constructor
  · rintro (⟨p, q, h1, h2, h⟩ | ⟨q, hq, h⟩)
    · exact .inl ⟨p, q, by omega, h2, h⟩
    · exact .inl ⟨i, q, by omega, hq, h⟩
  · rintro (⟨p, q, h1, h2, h⟩ | ⟨q, hq, h⟩)
    · by_cases e : p = i
      · subst e; exact .inr ⟨q, h2, h⟩
      · exact .inl ⟨p, q, by omega, h2, h⟩
    · omega
theorem cpl_take : ∀ a b : List Nat, a.take (cpl a b) = b.take (cpl a b)
  | [], [] => rfl
  | [], _ :: _ => rfl
  | _ :: _, [] => rfl
  | a :: l, b :: m => by
    unfold cpl
    split
    · rename_i e
      rw [List.take_succ_cons, List.take_succ_cons, cpl_take l m, e]
    · rfl
theorem FdAt.all {S : List (List Nat)} {x : List Nat} : FdAt S S.length 0 x ↔ IsPc S x := by
  constructor
  · rintro (⟨p, q, h1, h2, h⟩ | ⟨q, hq, h⟩)
    · exact ⟨_, getD_memL h1, _, getD_memL (show q < S.length by omega), h⟩
    · omega
  · rintro ⟨a, ha, b, hb, hne, hc, hx⟩
    obtain ⟨p, hp, rfl⟩ := List.getElem_of_mem ha
    obtain ⟨q, hq, rfl⟩ := List.getElem_of_mem hb
    rw [← getD_el (d := []) hp, ← getD_el (d := []) hq] at *
    rcases Nat.lt_trichotomy p q with h | h | h
    · exact .inl ⟨q, p, hq, h, hne.symm, by rw [cpl_comm]; exact hc, by rw [hx, cpl_take, cpl_comm]⟩
    · subst h; exact absurd rfl hne
    · exact .inl ⟨p, q, hp, h, hne, hc, hx⟩
/-! ### a dict whose keys are texts, all of one worth -/
/-! ### one text ahead of another -/
end NX
namespace NX
open PySem PySem.Spec PyProof.Rows L2
/-! ### how often a sign stands in a text -/
end NX
namespace NX
open PySem PySem.Spec PyProof.Rows L2
/-! ### repr of a tuple of numbers -/
theorem int_shown {i : Int} (h : i.natAbs.log2 < 1920) : (PyData.shown (.int i)).length ≤ 1921 := by
  have := int_text_length_le (k := 1920) (by decide) h
  simp only [PyData.shown]
  show (Str.ofString (toString i)).length ≤ 1921
  rw [PySem.ofString_length]; omega
end NX
namespace NX
open PySem PySem.Spec PyProof.Rows L2
/-! ### sums of rows -/
/-- a value that is no row of some letters -/
def NRo (K : PySem.W.Frag) (H : Hp) (a : List Nat) (v : V) : Prop := (∃ l, v = T l ∧ l.length ≤ 5000 ∧ ¬ RowOf a l) ∨ NotS K H v
theorem NRo.same {K : PySem.W.Frag} {H H' : Hp} {a : List Nat} {v : V} (h : NRo K H a v) (s : Same H H') : NRo K H' a v := h.imp id fun h => h.same s
end NX
namespace NX
open PySem PySem.Spec PyProof.Rows L2
/-! ### sorted of a text -/
end NX
namespace NX
open PySem PySem.Spec PyProof.Rows L2
/-! ### weights of rows: how often a letter stands there, less how often its back does -/
theorem up1_low {e : Nat} (he : 97 ≤ e ∧ e ≤ 122) : up1 e = e - 32 := by
  unfold up1; rw [if_pos he]
end NX
namespace NX
theorem push_in {P : Nat → Prop} {s : List Nat} {c : Nat} (hs : ∀ d ∈ s, P d) (hc : P c) : ∀ d ∈ push s c, P d := by
  cases s with
  | nil => intro d hd; rw [List.mem_singleton.mp hd]; exact hc
  | cons t r =>
    rw [push_cons]
    split
    · exact fun d hd => hs d (List.mem_cons_of_mem _ hd)
    · intro d hd
      rcases List.mem_cons.mp hd with rfl | hd
      · exact hc
      · exact hs d hd
theorem foldl_in {P : Nat → Prop} : ∀ (l s : List Nat), (∀ d ∈ l, P d) → (∀ d ∈ s, P d) → ∀ d ∈ l.foldl push s, P d
  | [], _, _, hs => hs
  | c :: l, _, hl, hs => foldl_in l _ (fun d hd => hl d (List.mem_cons_of_mem _ hd)) (push_in hs (hl c List.mem_cons_self))
theorem red_in {P : Nat → Prop} {l : List Nat} (h : ∀ d ∈ l, P d) : ∀ d ∈ red l, P d := fun d hd => foldl_in l [] h (fun _ z => nomatch z) d (List.mem_reverse.mp hd)
theorem rowOf_red {a l : List Nat} (h : RowOf a l) : RowOf a (red l) := red_in h
end NX
namespace NX
open PySem PySem.Spec PyProof.Rows L2
/-! ### a, *b = a list -/
end NX
namespace NX
open PySem PySem.Spec PyProof.Rows L2
/-! ### lines of a text -/
/-- a text cut at each c -/
def cutAt (c : Nat) : List Nat → List (List Nat)
  | [] => [[]]
  | d :: l => if d = c then [] :: cutAt c l else match cutAt c l with
    | h :: t => (d :: h) :: t
    | [] => [[d]]
/-- lines put together again -/
def glue (c : Nat) : List (List Nat) → List Nat
  | [] => []
  | [w] => w
  | w :: v :: r => w ++ [c] ++ glue c (v :: r)
/-! ### beginnings and ends -/
end NX
namespace NX
open PySem PySem.Spec PyProof.Rows L2
/-! ### texts of rules -/
theorem joinL_glue (c : Nat) : ∀ ls : List (List Nat), TL.joinL [c] ls = glue c ls
  | [] => rfl
  | [w] => rfl
  | w :: v :: r => by
    have ih := joinL_glue c (v :: r)
    show w ++ ([c] ++ TL.joinL [c] (v :: r)) = w ++ [c] ++ glue c (v :: r)
    rw [ih, List.append_assoc]
abbrev HDL : List Nat := [108, 101, 116, 116, 101, 114, 115, 32]
abbrev TLL : List Nat := [32, 105, 115, 32, 110, 111, 116, 104, 105, 110, 103]
/-- the text of rules -/
def ruleT (a : List Nat) (rs : List (List Nat)) : List Nat := glue 10 ((HDL ++ a) :: rs.map fun r => short r ++ TLL)
/-- the row that a line tells -/
def tellL (l : List Nat) : Option (List Nat) := if TLL <:+ l then rowL 40 (l.take (l.length - 11)) else none
/-- told rows, line by line; else the first line that can't stand -/
def rdR (a : List Nat) : List (List Nat) → List (List Nat) → Except Nat (List (List Nat))
  | [], rs => .ok rs
  | l :: r, rs => match tellL l with
    | some w => if stB a rs w = true then rdR a r (rs ++ [w]) else .error (rs.length + 1)
    | none => .error (rs.length + 1)
def rdL (ls : List (List Nat)) : Except Nat (List Nat × List (List Nat)) := match ls with
  | [] => .error 0
  | f :: r => if HDL <+: f ∧ Al (f.drop 8) then match rdR (f.drop 8) r [] with
    | .ok rs => .ok (f.drop 8, rs)
    | .error k => .error k
    else .error 0
def rdT (l : List Nat) : Except Nat (List Nat × List (List Nat)) := rdL (cutAt 10 l)
/-- what reading a text comes to -/
def RdX (K : PySem.W.Frag) (H : Hp) (v : V) (X : List Nat → List (List Nat) → Prop) (R : Nat → Prop) : Prop :=
  (∃ l, v = T l ∧ l.length ≤ 5000 ∧ ((∃ a rs, rdT l = .ok (a, rs) ∧ X a rs) ∨ (∃ k, rdT l = .error k ∧ R k))) ∨ (NotS K H v ∧ R 0)
end NX
namespace NX
theorem short_len40 {r : List Nat} (h : r.length ≤ 40) : (short r).length ≤ 400 := by
  unfold short
  split
  · simp
  · have := wrt_len r.length r (Nat.le_refl _) (by omega)
    omega
theorem flat_lenM {α : Type} {f : α → List Nat} {m : Nat} : ∀ {ls : List α}, (∀ r ∈ ls, (f r).length ≤ m) → (ls.map f).flatten.length ≤ m * ls.length
  | [], _ => by simp
  | r :: ls, h => by
    have h1 := flat_lenM (ls := ls) fun z hz => h z (List.mem_cons_of_mem _ hz)
    have h2 := h r (List.mem_cons_self ..)
    rw [List.map_cons, List.flatten_cons, List.length_append, List.length_cons, Nat.mul_succ]
    omega
end NX
namespace NX
end NX
namespace NX
open PySem PySem.Spec PyProof.Rows L2
/-! ### lists of blocks -/
theorem Tps.init {H : Hp} {v : V} {ys : List V} {t : List V} {ts : List (List V)} (h : Tps H (ys ++ [v]) (ts ++ [t])) : Tps H ys ts ∧ ∃ b, v = .ref b ∧ H b = some (.tup t) := by
  obtain ⟨h1, h2⟩ := h
  have hl : ys.length = ts.length := by simpa using h1
  refine ⟨⟨hl, fun i hi => ?_⟩, ?_⟩
  · obtain ⟨b, e1, e2⟩ := h2 i (by rw [List.length_append]; omega)
    rw [List.getD_eq_getElem?_getD, List.getElem?_append_left (by omega), ← List.getD_eq_getElem?_getD] at e1 e2
    exact ⟨b, e1, e2⟩
  · obtain ⟨b, e1, e2⟩ := h2 ts.length (by simp)
    rw [List.getD_eq_getElem?_getD, List.getElem?_append_right (by omega)] at e1 e2
    simp [hl] at e1 e2
    exact ⟨b, e1, e2⟩
/-! ### reading what was written -/
end NX
namespace NX
open PySem PySem.Spec PyProof.Rows L2
end NX
namespace NX
end NX
namespace NX
open PySem PySem.Spec PyProof.Rows L2
/-! ### spoilt texts -/
end NX
namespace NX
open PySem PySem.Spec PyProof.Rows L2
end NX
namespace NX
open PySem PySem.Spec PyProof.Rows L2
theorem RdX.mono {K : PySem.W.Frag} {H : Hp} {v : V} {X Y : List Nat → List (List Nat) → Prop} {R S : Nat → Prop} (h : RdX K H v X R) (hx : ∀ a rs, X a rs → Y a rs) (hr : ∀ k, R k → S k) : RdX K H v Y S := by
  rcases h with ⟨l, e, hl, h⟩ | ⟨hn, h⟩
  · exact .inl ⟨l, e, hl, h.imp (fun ⟨a, rs, e, h⟩ => ⟨a, rs, e, hx _ _ h⟩) fun ⟨k, e, h⟩ => ⟨k, e, hr _ h⟩⟩
  · exact .inr ⟨hn, hr _ h⟩
end NX
namespace NX
open PySem PySem.Spec PyProof.Rows L2
end NX
namespace NX
open PySem PySem.Spec PyProof.Rows L2
/-! ### the lines of a text, cut and joined -/
theorem r_addLs {K : PySem.W.Frag} {H : Hp} {Q : VK} {p q : Addr} {ls ms : List (List Nat)} (h1 : H p = some (.lst (ls.map T))) (h2 : H q = some (.lst (ms.map T))) (hl : ls.length + ms.length ≤ 16777216) (h : ∀ d H', Same H H' → H d = none → H' d = some (.lst ((ls ++ ms).map T)) → Q (.ref d) H') : rAddG K (.ref p) (.ref q) H Q := by
  refine r_addL h1 h2 (by rw [List.length_map, List.length_map]; exact hl) fun d nd => ?_
  refine h d _ (Same.new1 nd) nd ?_
  rw [upd_same, List.map_append]
theorem r_joinN {K : PySem.W.Frag} {H : Hp} {Q : VK} {p : Addr} {ls : List (List Nat)} (e : H p = some (.lst (ls.map T))) (hl : ∀ l ∈ ls, l.length ≤ 1000) (hn : ls.length ≤ 1000) (h : Q (T (glue 10 ls)) H) : rJoin K (T [10]) [.ref p] H Q := by
  refine r_join (SqL.of e) ?_ (by rw [joinL_glue]; exact h)
  have h1 := flat_le hl
  have h2 := Nat.mul_le_mul_right 1000 hn
  simp only [List.length_cons, List.length_nil]
  omega
end NX
namespace NX
open PySem PySem.Spec PyProof.Rows L2
/-! ### >= of texts -/
section
variable {X : Cx}
def rGeG : R2 := fun x y H Q => match x, y with
  | .int i, .int j => Q (.bl (decide (j ≤ i))) H
  | .str a, .str b => Q (.bl (!decide (a.cps.toList < b.cps.toList))) H
  | _, _ => False
theorem op_geG : OpR X (compareOp .GtE) rGeG := by
  intro pins s σ H x y v u Q I rx ry h
  unfold rGeG at h
  split at h
  · exact op_ge pins s σ H _ _ v u Q I rx ry ⟨_, _, rfl, rfl, h⟩
  · obtain ⟨t, rfl⟩ := rx
    obtain ⟨t', rfl⟩ := ry
    exact PySem.P.ge_str (fin_bl I h rfl)
  · exact h.elim
end
theorem r_geI {i j : Int} {H : Hp} {Q : VK} (h : Q (.bl (decide (j ≤ i))) H) : rGeG (.int i) (.int j) H Q := h
end NX
namespace NX
open PySem PySem.Spec PyProof.Rows L2 PySem.NumText
/-! ### reading rows sign by sign -/
end NX
namespace NX
open PySem PySem.Spec PyProof.Rows L2 PySem.NumText
/-! ### how long a text is that is read -/
/-! ### lists of parts (two texts each) -/
theorem lo1_in {a : List Nat} {c : Nat} (ha : Al a) (hc : lett c = true) : lo1 c ∈ a ↔ c ∈ a ++ a.map up1 := by
  rw [lett_iff] at hc
  rw [List.mem_append, List.mem_map]
  unfold lo1
  rcases hc with hc | hc
  · rw [if_pos hc]
    constructor
    · intro h
      exact .inr ⟨c + 32, h, by rw [up1_low (ha.2.2.1 _ h)]; omega⟩
    · rintro (h | ⟨e, he, h⟩)
      · have := ha.2.2.1 _ h; omega
      · have h2 := ha.2.2.1 _ he
        rw [up1_low h2] at h
        rw [show c + 32 = e by omega]; exact he
  · rw [if_neg (by omega)]
    constructor
    · exact .inl
    · rintro (h | ⟨e, he, h⟩)
      · exact h
      · have h2 := ha.2.2.1 _ he
        rw [up1_low h2] at h
        omega
end NX
namespace NX
open PySem PySem.Spec PyProof.Rows L2
theorem fm_bad (p : Nat → Bool) : ∀ l : List Nat, (l.filterMap fun c => if p c = true then some (T [c]) else none) = ((l.filter p).map fun c => [c]).map T
  | [] => rfl
  | c :: l => by
    rw [List.filterMap_cons, List.filter_cons]
    cases h : p c with
    | true => rw [if_pos rfl, if_pos rfl, fm_bad p l]; rfl
    | false => rw [if_neg (by decide), if_neg (by decide), fm_bad p l]
end NX
namespace NX
open PySem PySem.Spec PyProof.Rows L2
end NX
namespace NX
open PySem PySem.Spec PyProof.Rows L2
end NX
namespace NX
open PySem PySem.Spec PyProof.Rows L2
/-! ### tuples whose object is known: methods -/
theorem _root_.L2.SqT.frz {K : PySem.W.Frag} {H : Hp} {p : Addr} {o : Obj} {xs : List V} (h : H p = some (.frz o (.tup xs))) : SqT K H p xs := .inl (.inr ⟨o, h⟩)
end NX
namespace NX
open PySem PySem.Spec PyProof.Rows L2
theorem occ_idx {l : List Nat} {c : Nat} (hc : c ∈ l) : ∃ rest, Builtin.Str.occurrences (mkS l) (mkS [c]) 0 (mkS l).length 1 = l.idxOf c :: rest := by
  obtain ⟨a, b, i, rest, e1, e2, e3, e4⟩ := r_idxS (H := fun _ => none) (Q := fun v _ => v = .int (l.idxOf c : Nat)) hc rfl
  have h1 : a = mkS l := (V.str.inj e1).symm
  have h2 : b = mkS [c] := (V.str.inj (List.cons.inj e2).1).symm
  subst h1 h2
  have h3 : i = l.idxOf c := by
    have := V.int.inj e4
    omega
  exact ⟨rest, by rw [← h3]; exact e3⟩
end NX
namespace NX
open PySem PySem.Spec PyProof.Rows L2
/-! ### figures -/
def FigL (H : Hp) (ps : List Addr) (n : Nat) (im : List (List Nat)) : Prop := ps.length = im.length ∧ ∀ i, i < im.length → (∃ ob : Obj, ob.dict = none ∧ H (ps.getD i 0) = some (.frz ob (.tup ((im.getD i []).map nV)))) ∧ Prm n (im.getD i [])
theorem FigL.nil {H : Hp} {n : Nat} : FigL H [] n [] := ⟨rfl, fun i hi => absurd hi (by simp)⟩
theorem FigL.kp {H H' : Hp} {ps : List Addr} {n : Nat} {im : List (List Nat)} {w : Addr} {ys : List V} (h : FigL H ps n im) (k : Kp w H H') (e : H w = some (.lst ys)) : FigL H' ps n im :=
  ⟨h.1, fun i hi => by
    obtain ⟨⟨ob, hd, eo⟩, hp⟩ := h.2 i hi
    exact ⟨⟨ob, hd, k _ _ (fun z => by rw [z, e] at eo; cases eo) eo⟩, hp⟩⟩
theorem FigL.same {H H' : Hp} {ps : List Addr} {n : Nat} {im : List (List Nat)} (h : FigL H ps n im) (s : Same H H') : FigL H' ps n im :=
  ⟨h.1, fun i hi => by
    obtain ⟨⟨ob, hd, eo⟩, hp⟩ := h.2 i hi
    exact ⟨⟨ob, hd, s _ _ eo⟩, hp⟩⟩
theorem getD_appL {α : Type} {l : List α} {x d : α} {i : Nat} (h : i < l.length) : (l ++ [x]).getD i d = l.getD i d := by
  rw [List.getD_eq_getElem?_getD, List.getElem?_append_left h, ← List.getD_eq_getElem?_getD]
theorem getD_appR {α : Type} {l : List α} {x d : α} : (l ++ [x]).getD l.length d = x := by
  rw [List.getD_eq_getElem?_getD, List.getElem?_append_right (Nat.le_refl _)]; simp
theorem FigL.snoc {H : Hp} {ps : List Addr} {n : Nat} {im : List (List Nat)} {p : Addr} {ob : Obj} {l : List Nat} (h : FigL H ps n im) (hd : ob.dict = none) (e : H p = some (.frz ob (.tup (l.map nV)))) (hp : Prm n l) : FigL H (ps ++ [p]) n (im ++ [l]) := by
  refine ⟨by simp [h.1], fun i hi => ?_⟩
  rw [List.length_append, List.length_singleton] at hi
  by_cases c : i < im.length
  · rw [getD_appL (by rw [h.1]; exact c), getD_appL c]
    exact h.2 i c
  · have : i = im.length := by omega
    subst this
    rw [← h.1, getD_appR, h.1, getD_appR]
    exact ⟨⟨ob, hd, e⟩, hp⟩
theorem Figs.of {H : Hp} {p : Addr} {n : Nat} {im : List (List Nat)} {ps : List Addr} (e : H p = some (.lst (ps.map V.ref))) (h : FigL H ps n im) : Figs H p n im := ⟨ps, e, h.1, h.2⟩
end NX
namespace NX
end NX
namespace NX
end NX
namespace NX
open PySem PySem.Spec PyProof.Rows L2
/-! ### tuple(range(..)), its object known -/
end NX
namespace NX
open PySem PySem.Spec PyProof.Rows L2
/-! ### rows that move no point -/
def stay (a : List Nat) (im : List (List Nat)) (n : Nat) (l : List Nat) : Bool := (List.range n).all fun x => decide (ledF a im l x = x)
theorem Prm.range (n : Nat) : Prm n (List.range n) := List.Perm.refl _
/-- all arrangements -/
def arr : Nat → List Nat → List (List Nat)
  | 0, _ => [[]]
  | n + 1, L => L.flatMap fun x => (arr n (L.erase x)).map (x :: ·)
end NX
namespace NX
end NX
namespace NX
end NX
namespace NX
end NX
namespace NX
open PySem PySem.Spec PyProof.Rows L2
/-! ### rows and their backs lead back -/
/-! ### a map along a row -/
/-- where a letter leads a point along a row, if told -/
def f0 (c : Nat) (l : List Nat) (x : Nat) : Option Nat := if l[x]? = some c then some (x + 1) else if 0 < x ∧ l[x - 1]? = some (up1 c) then some (x - 1) else none
def ov : Option Nat → V
  | none => .non
  | some k => nV k
/-- a part of a permutation -/
def Part (m : Nat) (g : List (Option Nat)) : Prop := g.length = m ∧ (∀ (x v : Nat), g[x]? = some (some v) → v < m) ∧ ∀ (x y v : Nat), g[x]? = some (some v) → g[y]? = some (some v) → x = y
theorem Part.put {m : Nat} {g : List (Option Nat)} (h : Part m g) {p k : Nat} (hp : g[p]? = some none) (hk : k < m) (hn : some k ∉ g) : Part m (g.set p (some k)) := by
  have hat : ∀ {x v : Nat}, (g.set p (some k))[x]? = some (some v) → (x = p ∧ v = k) ∨ g[x]? = some (some v) := fun {x v} z => by
    rw [List.getElem?_set] at z
    by_cases e : p = x
    · rw [if_pos e] at z
      split at z
      · exact .inl ⟨e.symm, (Option.some.inj (Option.some.inj z)).symm⟩
      · cases z
    · rw [if_neg e] at z; exact .inr z
  refine ⟨by rw [List.length_set]; exact h.1, fun x v z => ?_, fun x y v z1 z2 => ?_⟩
  · rcases hat z with z | z
    · omega
    · exact h.2.1 x v z
  · rcases hat z1 with a1 | a1 <;> rcases hat z2 with b1 | b1
    · omega
    · exact absurd (List.mem_of_getElem? b1) (by rw [a1.2]; exact hn)
    · exact absurd (List.mem_of_getElem? a1) (by rw [b1.2]; exact hn)
    · exact h.2.2 x y v a1 b1
end NX
namespace NX
open PySem PySem.Spec PyProof.Rows L2
end NX
namespace NX
open PySem PySem.Spec PyProof.Rows L2
end NX
namespace NX
open PySem PySem.Spec PyProof.Rows L2
theorem Figs.kp {H H' : Hp} {p w : Addr} {n : Nat} {im : List (List Nat)} {ys : List V} (h : Figs H p n im) (hp : p ≠ w) (k : Kp w H H') (e : H w = some (.lst ys)) : Figs H' p n im := by
  obtain ⟨ps, e1, e2, e3⟩ := h
  exact Figs.of (k _ _ hp e1) (FigL.kp (⟨e2, e3⟩ : FigL H ps n im) k e)
end NX
namespace NX
open PySem PySem.Spec PyProof.Rows L2
end NX
namespace NX
open PySem PySem.Spec PyProof.Rows L2
/-! ### tuple displays and sums of tuples, their objects known -/
end NX
namespace NX
open PySem PySem.Spec PyProof.Rows L2
/-! ### all permutations, all maps -/
/-! ### lists of maps in the heap -/
/-- known tuples of numbers -/
def FrzT (H : Hp) (p : Addr) (l : List Nat) : Prop := ∃ ob : Obj, ob.dict = none ∧ H p = some (.frz ob (.tup (l.map nV)))
theorem FrzT.same {H H' : Hp} {p : Addr} {l : List Nat} (h : FrzT H p l) (s : Same H H') : FrzT H' p l := by
  obtain ⟨ob, hd, e⟩ := h
  exact ⟨ob, hd, s _ _ e⟩
def FrzL (H : Hp) (ps : List Addr) (fs : List (List Nat)) : Prop := ps.length = fs.length ∧ ∀ i, i < fs.length → FrzT H (ps.getD i 0) (fs.getD i [])
theorem FrzL.same {H H' : Hp} {ps : List Addr} {fs : List (List Nat)} (h : FrzL H ps fs) (s : Same H H') : FrzL H' ps fs := ⟨h.1, fun i hi => (h.2 i hi).same s⟩
theorem FigL.frz {H : Hp} {ps : List Addr} {fs : List (List Nat)} {n : Nat} (h : FigL H ps n fs) : FrzL H ps fs := ⟨h.1, fun i hi => (h.2 i hi).1⟩
/-- a list of maps -/
def MapsL (H : Hp) (qs : List Addr) (n : Nat) (ls : List (List (List Nat))) : Prop := qs.length = ls.length ∧ ∀ i, i < ls.length → Figs H (qs.getD i 0) n (ls.getD i [])
theorem MapsL.same {H H' : Hp} {qs : List Addr} {n : Nat} {ls : List (List (List Nat))} (h : MapsL H qs n ls) (s : Same H H') : MapsL H' qs n ls := ⟨h.1, fun i hi => (h.2 i hi).same s⟩
end NX
namespace NX
open PySem PySem.Spec PyProof.Rows L2
theorem FrzL.snoc {H : Hp} {ps : List Addr} {fs : List (List Nat)} {p : Addr} {l : List Nat} (h : FrzL H ps fs) (e : FrzT H p l) : FrzL H (ps ++ [p]) (fs ++ [l]) := by
  refine ⟨by simp [h.1], fun i hi => ?_⟩
  rw [List.length_append, List.length_singleton] at hi
  by_cases c : i < fs.length
  · rw [getD_appL (by rw [h.1]; exact c), getD_appL c]
    exact h.2 i c
  · have : i = fs.length := by omega
    subst this
    rw [← h.1, getD_appR, h.1, getD_appR]
    exact e
theorem FrzT.put {H : Hp} {p D : Addr} {l : List Nat} {ys : List V} {o : HO} (h : FrzT H p l) (e : H D = some (.lst ys)) : FrzT (upd H D o) p l := by
  obtain ⟨ob, hd, ep⟩ := h
  exact ⟨ob, hd, by rw [upd_ne (by rintro rfl; rw [e] at ep; cases ep)]; exact ep⟩
theorem FrzL.put {H : Hp} {ps : List Addr} {D : Addr} {fs : List (List Nat)} {ys : List V} {o : HO} (h : FrzL H ps fs) (e : H D = some (.lst ys)) : FrzL (upd H D o) ps fs := ⟨h.1, fun i hi => (h.2 i hi).put e⟩
theorem FrzL.nil {H : Hp} : FrzL H [] [] := ⟨rfl, fun i hi => absurd hi (by simp)⟩
end NX
namespace NX
open PySem PySem.Spec PyProof.Rows L2
theorem MapsL.nil {H : Hp} {n : Nat} : MapsL H [] n [] := ⟨rfl, fun i hi => absurd hi (by simp)⟩
theorem MapsL.snoc {H : Hp} {qs : List Addr} {n : Nat} {ls : List (List (List Nat))} {q : Addr} {im : List (List Nat)} (h : MapsL H qs n ls) (e : Figs H q n im) : MapsL H (qs ++ [q]) n (ls ++ [im]) := by
  refine ⟨by simp [h.1], fun i hi => ?_⟩
  rw [List.length_append, List.length_singleton] at hi
  by_cases c : i < ls.length
  · rw [getD_appL (by rw [h.1]; exact c), getD_appL c]
    exact h.2 i c
  · have : i = ls.length := by omega
    subst this
    rw [← h.1, getD_appR, h.1, getD_appR]
    exact e
theorem MapsL.put {H : Hp} {qs : List Addr} {n : Nat} {ls : List (List (List Nat))} {E : Addr} {ys : List V} {o : HO} (h : MapsL H qs n ls) (e : H E = some (.lst ys)) (hne : ∀ q ∈ qs, q ≠ E) : MapsL (upd H E o) qs n ls :=
  ⟨h.1, fun i hi => (h.2 i hi).kp (hne _ (by
    have hi' : i < qs.length := by rw [h.1]; exact hi
    rw [List.getD_eq_getElem?_getD, List.getElem?_eq_getElem hi']; exact List.getElem_mem hi')) ((Kp.refl E H).put) e⟩
theorem take_snocL {α : Type} {l : List α} {i : Nat} {d : α} (h : i < l.length) : l.take (i + 1) = l.take i ++ [l.getD i d] := by
  rw [List.take_succ_eq_append_getElem h, List.getD_eq_getElem?_getD, List.getElem?_eq_getElem h]; rfl
theorem getD_memA {α : Type} {l : List α} {i : Nat} {d : α} (h : i < l.length) : l.getD i d ∈ l := by
  rw [List.getD_eq_getElem?_getD, List.getElem?_eq_getElem h]; exact List.getElem_mem h
end NX
namespace NX
open PySem PySem.Spec PyProof.Rows L2
theorem getD_app {α : Type} {l m : List α} {d : α} {i : Nat} : (l ++ m).getD i d = if i < l.length then l.getD i d else m.getD (i - l.length) d := by
  by_cases h : i < l.length
  · rw [if_pos h, List.getD_eq_getElem?_getD, List.getElem?_append_left h, ← List.getD_eq_getElem?_getD]
  · rw [if_neg h, List.getD_eq_getElem?_getD, List.getElem?_append_right (by omega), ← List.getD_eq_getElem?_getD]
theorem FrzL.app {H : Hp} {ps qs : List Addr} {fs gs : List (List Nat)} (h : FrzL H ps fs) (g : FrzL H qs gs) : FrzL H (ps ++ qs) (fs ++ gs) := by
  refine ⟨by rw [List.length_append, List.length_append, h.1, g.1], fun i hi => ?_⟩
  rw [List.length_append] at hi
  rw [getD_app, getD_app, h.1]
  by_cases c : i < fs.length
  · rw [if_pos c, if_pos c]; exact h.2 i c
  · rw [if_neg c, if_neg c]; exact g.2 _ (by omega)
theorem MapsL.app {H : Hp} {ps qs : List Addr} {n : Nat} {fs gs : List (List (List Nat))} (h : MapsL H ps n fs) (g : MapsL H qs n gs) : MapsL H (ps ++ qs) n (fs ++ gs) := by
  refine ⟨by rw [List.length_append, List.length_append, h.1, g.1], fun i hi => ?_⟩
  rw [List.length_append] at hi
  rw [getD_app, getD_app, h.1]
  by_cases c : i < fs.length
  · rw [if_pos c, if_pos c]; exact h.2 i c
  · rw [if_neg c, if_neg c]; exact g.2 _ (by omega)
end NX
namespace NX
open PySem PySem.Spec PyProof.Rows L2
theorem MapsL.ne {H : Hp} {qs : List Addr} {n : Nat} {ls : List (List (List Nat))} {g : Addr} (h : MapsL H qs n ls) (ng : H g = none) : ∀ q ∈ qs, q ≠ g := fun q hq e => by
  obtain ⟨i, hi, rfl⟩ := List.getElem_of_mem hq
  obtain ⟨ps, e1, _⟩ := h.2 i (by rw [← h.1]; exact hi)
  rw [List.getD_eq_getElem?_getD, List.getElem?_eq_getElem hi] at e1
  have e2 : H (qs[i]) = some (.lst (ps.map V.ref)) := e1
  rw [e, ng] at e2; cases e2
end NX
namespace NX
open PySem PySem.Spec PyProof.Rows L2
/-! ### repr of lists of maps -/
end NX
namespace NX
open PySem PySem.Spec PyProof.Rows L2
theorem inV_str {s : Str} {ss : List Str} (h : s ∈ ss) : inV (.str s) (ss.map V.str) = true := by
  unfold inV
  rw [List.any_map, List.any_eq_true]
  exact ⟨s, h, by show (s == s) = true; simp⟩
theorem flat_str (ss : List Str) : (ss.map V.str).all flatV = true := by rw [List.all_map, List.all_eq_true]; intro x _; rfl
end NX
namespace NX
end NX
namespace NX
open PySem PySem.Spec PyProof.Rows L2
theorem MapsL.kp {H H' : Hp} {qs : List Addr} {n : Nat} {ls : List (List (List Nat))} {w : Addr} {ys : List V} (h : MapsL H qs n ls) (hne : ∀ q ∈ qs, q ≠ w) (k : Kp w H H') (e : H w = some (.lst ys)) : MapsL H' qs n ls :=
  ⟨h.1, fun i hi => (h.2 i hi).kp (hne _ (getD_memA (d := 0) (by rw [h.1]; exact hi))) k e⟩
end NX
namespace NX
end NX
namespace NX
end NX
namespace NX
open PySem PySem.Spec PyProof.Rows L2
/-! ### fields as targets, properties, an own __len__ -/
section
variable {X : Cx} {CX : CXT} {k : Nat} {f C p g a dx : Addr} {fd : FuncData} {ps : List Str} {sp : Sp} {dvs : List V} {ds : List Value} {E : XK} {x m : Str} {pos : Pos} {e o : Expr} {es : List Expr} {ta to : TE} {t : TA}
/-- o.m = v as a target -/
def gFld (K : PySem.W.Frag) (to : TE) (m : Str) : TG := fun v σ H Q => to σ H fun x H2 => ∃ a C dx fs, x = .ref a ∧ H2 a = some (.ins C dx fs) ∧ Cls K C ∧ NoAttr K C m ∧ fs.length < 1000 ∧ Q σ (upd H2 a (.ins C dx (putF m v fs)))
theorem pg_fld (ho : PE X o to) : PG X (.Attribute o m pos) (gFld X.K to m) := by
  refine ⟨fun pins s σ H v u Q I r h => ?_⟩
  refine PySem.W.kas_attr (thn (ho.run pins s σ H _ I h) fun ov s1 ⟨x, H1, I1, rx, a, C, dx, fs, ex, ea, c, n, l, q⟩ => ?_)
  subst ex
  obtain rfl : ov = Value.ref a := rx
  exact setattr_ok I1 ea c n l r fun s2 I2 => ⟨σ, _, I2, q⟩
def GFldJ (K : PySem.W.Frag) (m : Str) (v : V) (σ : L2.St) (Q : L2.St → Hp → Prop) (x : V) (H2 : Hp) : Prop := ∃ a C dx fs, x = .ref a ∧ H2 a = some (.ins C dx fs) ∧ Cls K C ∧ NoAttr K C m ∧ fs.length < 1000 ∧ Q σ (upd H2 a (.ins C dx (putF m v fs)))
theorem r_gfld {K : PySem.W.Frag} {v : V} {σ : L2.St} {H : Hp} {QN : L2.St → Hp → Prop} (h : to σ H fun x H2 => GFldJ K m v σ QN x H2) : gFld K to m v σ H QN := h
theorem r_gfldI {K : PySem.W.Frag} {v : V} {σ : L2.St} {H : Hp} {QN : L2.St → Hp → Prop} {fs : List (Str × V)} (e : H a = some (.ins C dx fs)) (c : Cls K C) (n : NoAttr K C m) (l : fs.length < 1000) (h : QN σ (upd H a (.ins C dx (putF m v fs)))) : GFldJ K m v σ QN (.ref a) H := ⟨a, C, dx, fs, rfl, e, c, n, l, h⟩
end
end NX
namespace GQ
open PySem PySem.SeqAt
open AutoSeq1 (wpAny_loadPart')
open MeetsSeq MeetsSeq2 MeetsSeq3 SeqRoads2
section
variable {prog : Program} {w : World} {A : Around} {E : Value → Shared → Prop} {R : Result → Shared → Prop}
theorem list_eqNe {l b : Addr} {items items2 : Array Value} {n n2 : Nat} {s : Shared} (hl1 : s.heap.get? l = some { cls := .type "list", data := .seq items n }) (hb1 : s.heap.get? b = some { cls := .type "list", data := .seq items2 n2 }) (hne : items.size ≠ items2.size)
    (fin : R (.ok (.ret (.bool false))) s) : wpAny (model prog w) A.in1 (Builtin.«list.__eq__» ⟨[.ref l, .ref b], []⟩) (FinOf prog w A R) (fun e s' => R (.error e) s') s := by
  obtain ⟨hp, g, d, tk, os⟩ := s
  have f3 := AutoSeq1.sub_list_list
  have hne : (items.size != items2.size) = true := by simpa using hne
  wp_walk using wpAny_loadPart' hl1, wpAny_loadPart' hb1
  exact fin
theorem rc_listNe {l b : Addr} {items items2 : Array Value} {n n2 : Nat} {s : Shared} {Q : Value → Shared → Prop} (hu : A.units < cLine) (hl1 : s.heap.get? l = some { cls := .type "list", data := .seq items n }) (hb1 : s.heap.get? b = some { cls := .type "list", data := .seq items2 n2 }) (hne : items.size ≠ items2.size)
    (fin : Q (.bool false) s) : wpAny (model prog w) A (richCompare .Eq (.ref l) (.ref b)) Q E s := by
  refine wpAny_richCompare_same_room (op := .Eq) ⟨_, hl1, rfl⟩ ⟨_, hb1, rfl⟩ F.slot_list_eq (call_here F.slot_list_eq ⟨_, hl1, rfl⟩ F.entry_list_eq (F.args_list_eq_2 _ _) ?_) hu
  exact list_eqNe (R := wants (fun v s' => v ≠ .notImplemented ∧ Q v s') E) hl1 hb1 hne ⟨(fun x => nomatch x), fin⟩
end
end GQ
namespace NX
open PySem PySem.Spec PyProof.Rows L2
/-! ### lists of unlike lengths -/
section
variable {X : Cx}
def rEqN (K : PySem.W.Frag) : R2 := fun x y H Q => rEqG K x y H Q ∨ ∃ a b xs ys, x = .ref a ∧ y = .ref b ∧ H a = some (.lst xs) ∧ H b = some (.lst ys) ∧ xs.length ≠ ys.length ∧ Q (.bl false) H
theorem op_eqN (hu : X.A.units + 64 < cLine) : OpR X (compareOp .Eq) (rEqN X.K) := by
  intro pins s σ H x y v u Q I rx ry h
  rcases h with h | h
  · exact op_eqG hu pins s σ H x y v u Q I rx ry h
  obtain ⟨a, b, xs, ys, rfl, rfl, ha, hb, hne, q⟩ := h
  cases (show v = Value.ref a from rx)
  cases (show u = Value.ref b from ry)
  obtain ⟨z, its, k, r, e⟩ := I.hok a _ ha
  obtain ⟨z2, its2, k2, r2, e2⟩ := I.hok b _ hb
  show wpAny (model X.prog X.w) X.A (richCompare .Eq (.ref a) (.ref b)) (EP X pins σ Q) X.xe s
  exact GQ.rc_listNe (by omega) e e2 (by rw [List.size_toArray, List.size_toArray, ← r.length, ← r2.length]; exact hne) ⟨.bl false, H, I, rfl, q⟩
theorem op_eqNK (K : PySem.W.Frag) (hu : X.A.units + 64 < cLine) (hK : X.K = K := by rfl) : OpR X (compareOp .Eq) (rEqN K) := by subst hK; exact op_eqN hu
theorem r_eqN0 {K : PySem.W.Frag} {H : Hp} {Q : VK} {p q : Addr} {xs : List V} (h1 : H p = some (.lst xs)) (h2 : H q = some (.lst [])) (h : Q (.bl (decide (xs = []))) H) : rEqN K (.ref p) (.ref q) H Q := by
  cases xs with
  | nil => exact .inl (r_eqL0 (SqL.of h1) (ls := []) .nil (SqL.of h2) h)
  | cons x xs => exact .inr ⟨p, q, _, _, rfl, rfl, h1, h2, by simp, by rw [decide_eq_false (by simp)] at h; exact h⟩
end
end NX
namespace NX
open PySem PySem.Spec PyProof.Rows L2
/-! ### live rows: what is kept -/
/-- all kept but what is listed; tuples are kept always -/
def Kx (L : List Addr) (H H' : Hp) : Prop := (∀ b o, b ∉ L → H b = some o → H' b = some o) ∧ ∀ b xs, H b = some (.tup xs) → H' b = some (.tup xs)
theorem Kx.of {L : List Addr} {H H' : Hp} (s : Same H H') : Kx L H H' := ⟨fun b o _ e => s b o e, fun b xs e => s _ _ e⟩
theorem Kx.refl {L : List Addr} {H : Hp} : Kx L H H := Kx.of (Same.refl _)
theorem Kx.trans {L : List Addr} {H H1 H2 : Hp} (a : Kx L H H1) (b : Kx L H1 H2) : Kx L H H2 := ⟨fun c o n e => b.1 c o n (a.1 c o n e), fun c xs e => b.2 c xs (a.2 c xs e)⟩
theorem Kx.mono {L M : List Addr} {H H' : Hp} (k : Kx L H H') (h : ∀ b ∈ L, b ∈ M) : Kx M H H' := ⟨fun b o n e => k.1 b o (fun z => n (h b z)) e, k.2⟩
theorem Wl.notup {H : Hp} {w : Addr} {n : Nat} {xs : List V} (hw : Wl H w n) : H w ≠ some (.tup xs) := by
  obtain ⟨_, _, _, e, _⟩ := hw
  rw [e]; intro z; cases z
theorem Kx.kp {H H' : Hp} {w : Addr} {n : Nat} (k : Kp w H H') (hw : Wl H w n) : Kx [w] H H' :=
  ⟨fun b o m e => k b o (by simpa using m) e, fun b xs e => k b _ (fun z => by subst z; exact hw.notup e) e⟩
theorem Kx.put {L : List Addr} {H H' : Hp} {p : Addr} {o : HO} (k : Kx L H H') (hp : p ∈ L) (h : ∀ xs, H' p ≠ some (.tup xs)) : Kx L H (upd H' p o) := by
  refine k.trans ⟨fun b u m e => ?_, fun b xs e => ?_⟩
  · rw [upd_ne (fun z => m (by rw [z]; exact hp))]; exact e
  · rw [upd_ne (fun z => by subst z; exact h _ e)]; exact e
theorem Kx.putL {L : List Addr} {H H' : Hp} {p : Addr} {o : HO} {xs : List V} (k : Kx L H H') (e : H' p = some (.lst xs)) (hp : p ∈ L) : Kx L H (upd H' p o) := k.put hp fun ys => by rw [e]; intro z; cases z
theorem Kx.putI {L : List Addr} {H H' : Hp} {p C dx : Addr} {o : HO} {fs : List (Str × V)} (k : Kx L H H') (e : H' p = some (.ins C dx fs)) (hp : p ∈ L) : Kx L H (upd H' p o) := k.put hp fun ys => by rw [e]; intro z; cases z
theorem Kx.kp1 {L : List Addr} {H H' : Hp} {w : Addr} (k : Kx L H H') (h : ∀ b ∈ L, b = w) : Kp w H H' := fun b o n e => k.1 b o (fun z => n (h b z)) e
theorem Wl.kx {L : List Addr} {H H' : Hp} {w : Addr} {n : Nat} (hw : Wl H w n) (k : Kx L H H') (h : w ∉ L) : Wl H' w n := by
  obtain ⟨w0, w1, w2, e, r⟩ := hw
  exact ⟨w0, w1, w2, k.1 _ _ h e, r⟩
theorem TupV.kx {K : PySem.W.Frag} {L : List Addr} {H H' : Hp} {v : V} {xs : List V} (h : TupV K H v xs) (k : Kx L H H') : TupV K H' v xs := by
  obtain ⟨p, rfl, e | e⟩ := h
  · exact ⟨p, rfl, .inl (k.2 _ _ e)⟩
  · exact ⟨p, rfl, .inr e⟩
theorem RulO.kx {K : PySem.W.Frag} {C : Addr} {L : List Addr} {H H' : Hp} {x : Addr} {a : List Nat} {rs : List (List Nat)} (h : RulO K C H x a rs) (k : Kx L H H') (n : x ∉ L) : RulO K C H' x a rs := by
  obtain ⟨dx, v, e, tv, r⟩ := h
  exact ⟨dx, v, k.1 _ _ n e, tv.kx k, r⟩
theorem RulO.notup {K : PySem.W.Frag} {C : Addr} {H : Hp} {x : Addr} {a : List Nat} {rs : List (List Nat)} (h : RulO K C H x a rs) : ∀ xs, H x ≠ some (.lst xs) := fun xs z => by
  obtain ⟨dx, v, e, _⟩ := h
  rw [e] at z; cases z
/-! what is past -/
theorem paired_last {α β : Type} {F : α → β → Prop} : ∀ {ts : List α} {S : List β} {s : β}, Paired F ts (S ++ [s]) → ∃ ts' v, ts = ts' ++ [v] ∧ Paired F ts' S ∧ F v s
  | _, [], s, .cons h .nil => ⟨[], _, rfl, .nil, h⟩
  | _, _ :: S, s, .cons h r => by
    obtain ⟨ts', v, rfl, p, f⟩ := paired_last r
    exact ⟨_ :: ts', v, rfl, .cons h p, f⟩
theorem paired_cat {α β : Type} {F : α → β → Prop} : ∀ {ts us : List α} {S R : List β}, Paired F ts S → Paired F us R → Paired F (ts ++ us) (S ++ R)
  | _, _, _, _, .nil, q => q
  | _, _, _, _, .cons h r, q => .cons h (paired_cat r q)
/-- (row, rules) -/
def PastE (H : Hp) (v : V) (s : List Nat × Addr) : Prop := ∃ t, v = .ref t ∧ H t = some (.tup [T s.1, .ref s.2])
theorem PastE.kx {L : List Addr} {H H' : Hp} (k : Kx L H H') {v : V} {s : List Nat × Addr} (h : PastE H v s) : PastE H' v s := by
  obtain ⟨t, rfl, e⟩ := h
  exact ⟨t, rfl, k.2 _ _ e⟩
/-- a live row -/
def LivO (C : Addr) (H : Hp) (x p : Addr) (now : List Nat) (r : Addr) (S : List (List Nat × Addr)) : Prop := ∃ dx ts, H x = some (.ins C dx [("now", T now), ("told_by", .ref r), ("past", .ref p)]) ∧ H p = some (.lst ts) ∧ Paired (PastE H) ts S
theorem LivO.kx {C : Addr} {L : List Addr} {H H' : Hp} {x p r : Addr} {now : List Nat} {S : List (List Nat × Addr)} (h : LivO C H x p now r S) (k : Kx L H H') (n1 : x ∉ L) (n2 : p ∉ L) : LivO C H' x p now r S := by
  obtain ⟨dx, ts, e1, e2, hp⟩ := h
  exact ⟨dx, ts, k.1 _ _ n1 e1, k.1 _ _ n2 e2, L2.Paired.mapP hp fun _ _ z => z.kx k⟩
theorem LivO.same {C : Addr} {H H' : Hp} {x p r : Addr} {now : List Nat} {S : List (List Nat × Addr)} (h : LivO C H x p now r S) (s : Same H H') : LivO C H' x p now r S := h.kx (L := []) (Kx.of s) (by simp) (by simp)
theorem LivO.ne {C : Addr} {H : Hp} {x p r : Addr} {now : List Nat} {S : List (List Nat × Addr)} (h : LivO C H x p now r S) : p ≠ x := fun z => by
  obtain ⟨dx, ts, e1, e2, _⟩ := h
  subst z; rw [e1] at e2; cases e2
/-! its fields -/
theorem lk3 {f g i h : Str} {u v w : V} (h1 : (h == f) = false) (h2 : (h == g) = false) (h3 : (h == i) = false) : List.lookup h [(f, u), (g, v), (i, w)] = none := by simp [List.lookup, h1, h2, h3]
end NX
namespace NX
open PySem PySem.Spec PyProof.Rows L2
/-! ### powers of unlike letters -/
end NX
namespace NX
open PySem PySem.Spec PyProof.Rows L2
theorem RulO.ne_lst {K : PySem.W.Frag} {C : Addr} {H : Hp} {y p : Addr} {a : List Nat} {rs : List (List Nat)} {xs : List V} (h : RulO K C H y a rs) (e : H p = some (.lst xs)) : y ≠ p := fun z => h.notup _ (z ▸ e)
theorem LivO.ne_lst {C : Addr} {H : Hp} {x p r q : Addr} {now : List Nat} {S : List (List Nat × Addr)} {xs : List V} (h : LivO C H x p now r S) (e : H q = some (.lst xs)) : x ≠ q := fun z => by
  obtain ⟨dx, ts, e1, _⟩ := h
  rw [z, e] at e1; cases e1
theorem Wl.lst {H : Hp} {w : Addr} {n : Nat} (h : Wl H w n) : ∃ xs, H w = some (.lst xs) := by
  obtain ⟨_, _, _, e, _⟩ := h; exact ⟨_, e⟩
theorem LivO.lst {C : Addr} {H : Hp} {x p r : Addr} {now : List Nat} {S : List (List Nat × Addr)} (h : LivO C H x p now r S) : ∃ xs, H p = some (.lst xs) := by
  obtain ⟨_, _, _, e, _⟩ := h; exact ⟨_, e⟩
/-- a live row beside the board of the least rows behind all calls that stand -/
def Brd (K : PySem.W.Frag) (H : Hp) (x p b r : Addr) (a : List Nat) (M : Nat) (rs : List (List Nat)) (now : List Nat) : Prop :=
  LivO (cA K "Live") H x p now r (rs.map fun l => (l, r)) ∧ H b = some (.lst ((rs ++ [now]).map T)) ∧ b ≠ p ∧ ∀ l ∈ rs ++ [now], RowOf a l ∧ l.length ≤ M
theorem Brd.kx {K : PySem.W.Frag} {H H' : Hp} {x p b r : Addr} {a : List Nat} {M : Nat} {rs : List (List Nat)} {now : List Nat} {L : List Addr} (h : Brd K H x p b r a M rs now) (k : Kx L H H') (h1 : x ∉ L) (h2 : p ∉ L) (h3 : b ∉ L) : Brd K H' x p b r a M rs now :=
  ⟨h.1.kx k h1 h2, k.1 _ _ h3 h.2.1, h.2.2⟩
theorem Brd.mono {K : PySem.W.Frag} {H : Hp} {x p b r : Addr} {a : List Nat} {M N : Nat} {rs : List (List Nat)} {now : List Nat} (h : Brd K H x p b r a M rs now) (hm : M ≤ N) : Brd K H x p b r a N rs now :=
  ⟨h.1, h.2.1, h.2.2.1, fun l hl => ⟨(h.2.2.2 l hl).1, Nat.le_trans (h.2.2.2 l hl).2 hm⟩⟩
end NX
namespace NX
open PySem PySem.Spec PyProof.Rows L2
theorem Brd.step {K : PySem.W.Frag} {H H' : Hp} {x p b r : Addr} {a : List Nat} {M N : Nat} {rs : List (List Nat)} {now l : List Nat} (h : Brd K H x p b r a M rs now) (hl : LivO (cA K "Live") H' x p l r ((rs ++ [now]).map fun l => (l, r))) (eb : H' b = some (.lst ((rs ++ [now] ++ [l]).map T))) (hm : M ≤ N) (h1 : RowOf a l) (h2 : l.length ≤ N) :
    Brd K H' x p b r a N (rs ++ [now]) l :=
  ⟨hl, eb, h.2.2.1, fun m hm' => by
    rcases List.mem_append.mp hm' with z | z
    · exact ⟨(h.2.2.2 m z).1, Nat.le_trans (h.2.2.2 m z).2 hm⟩
    · rw [List.mem_singleton.mp z]; exact ⟨h1, h2⟩⟩
end NX
namespace NX
open PySem PySem.Spec PyProof.Rows L2
theorem LivO.ins {C : Addr} {H : Hp} {x p r : Addr} {now : List Nat} {S : List (List Nat × Addr)} (h : LivO C H x p now r S) : ∃ dx fs, H x = some (.ins C dx fs) := by
  obtain ⟨dx, _, e, _⟩ := h; exact ⟨dx, _, e⟩
end NX
namespace NX
open PySem PySem.Spec PyProof.Rows L2
/-! ### len(set(xs)), xs a list of texts -/
end NX
namespace NX
open PySem PySem.Spec PyProof.Rows L2
/-! ### short overlaps, by beginnings -/
/-- a list of all kin, each once -/
def KinW (l : List Nat) (ws : List (List Nat)) : Prop := (∀ w, w ∈ ws ↔ w ∈ rots l ++ rots (bak l)) ∧ ws.Nodup ∧ ws.length ≤ 200
theorem KinW.len {l : List Nat} {ws : List (List Nat)} (h : KinW l ws) (hr : Row l) {w : List Nat} (hw : w ∈ ws) : Row w ∧ w.length = l.length := kinL_row hr ((kinL_mem l w).mpr ((h.1 w).mp hw))
theorem lgv_ge {as bs : List (List Nat)} {s : Nat} (hs : 1 ≤ s) : s ≤ lgv as bs ↔ ∃ a ∈ as, ∃ b ∈ bs, a ≠ b ∧ s ≤ cpl a b := by
  have h := lgv_is as bs
  constructor
  · intro hl
    rcases h.1 with z | ⟨a, ha, b, hb, hn, hc⟩
    · omega
    · exact ⟨a, ha, b, hb, hn, by omega⟩
  · rintro ⟨a, ha, b, hb, hn, hc⟩
    exact Nat.le_trans hc (h.2 a ha b hb hn)
def szOf (l m : List Nat) : Nat := (min l.length m.length + 5) / 6
theorem clT_none {rs : List (List Nat)} {i j : Nat} (h1 : 1 ≤ (rs.getD i []).length) (h2 : 1 ≤ (rs.getD j []).length) : clT rs i j = none ↔ ¬ ∃ a ∈ kinL (rs.getD i []), ∃ b ∈ kinL (rs.getD j []), a ≠ b ∧ szOf (rs.getD i []) (rs.getD j []) ≤ cpl a b := by
  have hs : 1 ≤ szOf (rs.getD i []) (rs.getD j []) := by unfold szOf; omega
  rw [← lgv_ge hs]
  unfold clT szOf
  generalize lgv (kinL (rs.getD i [])) (kinL (rs.getD j [])) = g
  split
  next c => constructor
            · intro z; cases z
            · intro z; omega
  next c => constructor
            · intro _; omega
            · intro _; rfl
end NX
namespace NX
open PySem PySem.Spec PyProof.Rows L2
/-! ### methods by keywords that may raise -/
end NX
namespace NX
open PySem PySem.Spec PyProof.Rows L2
/-! ### a live row beside a board of (told rows, least row) -/
structure Ent where
  rs : List (List Nat)
  now : List Nat
  r : Addr
  d : Addr
def BEnt (H : Hp) (v : V) (e : Ent) : Prop := ∃ t, v = .ref t ∧ H t = some (.tup [.ref e.d, T e.now])
theorem BEnt.kx {L : List Addr} {H H' : Hp} (k : Kx L H H') {v : V} {e : Ent} (h : BEnt H v e) : BEnt H' v e := by
  obtain ⟨t, rfl, e⟩ := h
  exact ⟨t, rfl, k.2 _ _ e⟩
def EntO (K : PySem.W.Frag) (H : Hp) (a : List Nat) (M : Nat) (F : List Addr) (e : Ent) : Prop := RulO K (cA K "Rules") H e.r a e.rs ∧ H e.d = some (.lst (e.rs.map T)) ∧ RowOf a e.now ∧ e.now.length ≤ M ∧ e.r ∉ F ∧ e.d ∉ F
theorem EntO.kx {K : PySem.W.Frag} {H H' : Hp} {a : List Nat} {M N : Nat} {F L : List Addr} {e : Ent} (h : EntO K H a M F e) (k : Kx L H H') (hl : ∀ z ∈ L, z ∈ F) (hm : M ≤ N) : EntO K H' a N F e := by
  obtain ⟨h1, h2, h3, h4, h5, h6⟩ := h
  exact ⟨h1.kx k (fun z => h5 (hl _ z)), k.1 _ _ (fun z => h6 (hl _ z)) h2, h3, by omega, h5, h6⟩
structure BdT (K : PySem.W.Frag) (H : Hp) (x p b w z : Addr) (a : List Nat) (M : Nat) (Es : List Ent) (E : Ent) : Prop where
  liv : LivO (cA K "Live") H x p E.now E.r (Es.map fun e => (e.now, e.r))
  brd : ∃ ts, H b = some (.lst ts) ∧ Paired (BEnt H) ts (Es ++ [E])
  ent : ∀ e ∈ Es ++ [E], EntO K H a M [x, p, b, w, z] e
theorem BdT.kx {K : PySem.W.Frag} {H H' : Hp} {x p b w z : Addr} {a : List Nat} {M N : Nat} {L : List Addr} {Es : List Ent} {E : Ent} (h : BdT K H x p b w z a M Es E) (k : Kx L H H') (h1 : x ∉ L) (h2 : p ∉ L) (h3 : b ∉ L) (hl : ∀ q ∈ L, q ∈ [x, p, b, w, z]) (hm : M ≤ N) : BdT K H' x p b w z a N Es E := by
  obtain ⟨ts, e, hp⟩ := h.brd
  exact ⟨h.liv.kx k h1 h2, ⟨ts, k.1 _ _ h3 e, L2.Paired.mapP hp fun _ _ z => z.kx k⟩, fun e he => (h.ent e he).kx k hl hm⟩
theorem BdT.same {K : PySem.W.Frag} {H H' : Hp} {x p b w z : Addr} {a : List Nat} {M : Nat} {Es : List Ent} {E : Ent} (h : BdT K H x p b w z a M Es E) (s : Same H H') : BdT K H' x p b w z a M Es E := h.kx (L := []) (Kx.of s) (by simp) (by simp) (by simp) (by simp) (Nat.le_refl _)
/-- the board is changed, then the live row -/
theorem BdT.step {K : PySem.W.Frag} {H H2 : Hp} {x p b w z : Addr} {a : List Nat} {M N : Nat} {Es : List Ent} {E G : Ent} {L : List Addr} {ts : List V} {v : V} (h : BdT K H x p b w z a M Es E) (k1 : Kx L H H2) (hl : ∀ q ∈ L, q ∈ [x, p, b, w, z]) (hm : M ≤ N)
    (eb : H2 b = some (.lst (ts ++ [v]))) (hp : Paired (BEnt H) ts (Es ++ [E])) (hv : BEnt H2 v G) (hg : EntO K H2 a N [x, p, b, w, z] G) (l : LivO (cA K "Live") H2 x p G.now G.r ((Es.map fun e => (e.now, e.r)) ++ [(E.now, E.r)])) :
    BdT K H2 x p b w z a N (Es ++ [E]) G :=
  ⟨by rw [List.map_append]; exact l, ⟨_, eb, paired_cat (L2.Paired.mapP hp fun _ _ z => z.kx k1) (.cons hv .nil)⟩, fun e he => by
    rcases List.mem_append.mp he with u | u
    · exact (h.ent e u).kx k1 hl hm
    · rw [List.mem_singleton.mp u]; exact hg⟩
end NX
namespace NX
open PySem PySem.Spec PyProof.Rows L2
/-- (rules, their told rows) -/
def SeenE (K : PySem.W.Frag) (H : Hp) (a : List Nat) (F : List Addr) (v : V) : Prop := ∃ u t r rs, v = .ref u ∧ H u = some (.tup [.ref r, .ref t]) ∧ H t = some (.tup (rs.map T)) ∧ RulO K (cA K "Rules") H r a rs ∧ r ∉ F
theorem SeenE.kx {K : PySem.W.Frag} {H H' : Hp} {a : List Nat} {F L : List Addr} {v : V} (h : SeenE K H a F v) (k : Kx L H H') (hl : ∀ q ∈ L, q ∈ F) : SeenE K H' a F v := by
  obtain ⟨u, t, r, rs, rfl, e1, e2, e3, e4⟩ := h
  exact ⟨u, t, r, rs, rfl, k.2 _ _ e1, k.2 _ _ e2, e3.kx k (fun z => e4 (hl _ z)), e4⟩
end NX
namespace PySem.W
open PySem PySem.Calls PyProof.Rows Builtin
end PySem.W
namespace NX
open PySem PySem.Spec PyProof.Rows L2
/-! ### != by an own == -/
end NX
namespace NX
open PySem PySem.Spec PyProof.Rows L2
/-! ### lists of unlike lengths, != -/
end NX
namespace NX
open PySem PySem.Spec PyProof.Rows L2
/-! ### live rows by their states -/
structure St2 where
  now : List Nat
  rs : List (List Nat)
inductive Cl where
  | lay (l : List Nat) | tell (l : List Nat) | drop (i : Nat) | take | turn
def Cl.way : Cl → Int
  | .lay _ => 0 | .tell _ => 1 | .drop _ => 2 | .take => 3 | .turn => 4
def Cl.val : Cl → V
  | .lay l => T l | .tell l => T l | .drop i => .int (i : Nat) | .take => .non | .turn => .non
def Cl.ok (a : List Nat) : Cl → Prop
  | .lay l => RowOf a l ∧ l.length ≤ 8 | .tell l => RowOf a l ∧ l.length ≤ 200 | .drop _ => True | .take => True | .turn => True
/-- what a call does; none: it is refused -/
noncomputable def cstp (a : List Nat) (s : St2) : Cl → Option St2
  | .lay l => some ⟨red (s.now ++ l), s.rs⟩
  | .tell l => if stB a s.rs l = true ∧ CL (s.rs ++ [l]) (s.rs ++ [l]).length (s.rs ++ [l]).length = [] then some ⟨s.now, s.rs ++ [l]⟩ else none
  | .drop i => if i < s.rs.length then some ⟨s.now, s.rs.take i ++ s.rs.drop (i + 1)⟩ else none
  | .take => some ⟨s.now.take (s.now.length - 1), s.rs⟩
  | .turn => some ⟨red (s.now.drop 1 ++ s.now.take 1), s.rs⟩
def StOk (a : List Nat) (M : Nat) (s : St2) : Prop := RowOf a s.now ∧ s.now.length ≤ M
theorem cstp_ok {a : List Nat} {M : Nat} {s s' : St2} {c : Cl} (h : StOk a M s) (hc : c.ok a) (e : cstp a s c = some s') : StOk a (M + 8) s' := by
  obtain ⟨h1, h2⟩ := h
  cases c with
  | lay l =>
    simp only [cstp, Option.some.injEq] at e
    subst e
    have hl := red_len (s.now ++ l)
    rw [List.length_append] at hl
    have := hc.2
    exact ⟨rowOf_red (h1.app hc.1), by show (red (s.now ++ l)).length ≤ _; omega⟩
  | tell l =>
    simp only [cstp] at e
    split at e
    · cases e; exact ⟨h1, by show s.now.length ≤ _; omega⟩
    · cases e
  | drop i =>
    simp only [cstp] at e
    split at e
    · cases e; exact ⟨h1, by show s.now.length ≤ _; omega⟩
    · cases e
  | take =>
    simp only [cstp, Option.some.injEq] at e
    subst e
    exact ⟨h1.take _, by show (s.now.take _).length ≤ _; rw [List.length_take]; omega⟩
  | turn =>
    simp only [cstp, Option.some.injEq] at e
    subst e
    have hl := red_len (s.now.drop 1 ++ s.now.take 1)
    rw [List.length_append, List.length_drop, List.length_take] at hl
    exact ⟨rowOf_red ((h1.drop 1).app (h1.take 1)), by show (red _).length ≤ _; omega⟩
/-- a past state -/
def PstE (K : PySem.W.Frag) (H : Hp) (a : List Nat) (F : List Addr) (e : List Nat × Addr) (s : St2) : Prop := e.1 = s.now ∧ RulO K (cA K "Rules") H e.2 a s.rs ∧ e.2 ∉ F
theorem PstE.kx {K : PySem.W.Frag} {H H' : Hp} {a : List Nat} {F L : List Addr} {e : List Nat × Addr} {s : St2} (h : PstE K H a F e s) (k : Kx L H H') (hl : ∀ q ∈ L, q ∈ F) : PstE K H' a F e s :=
  ⟨h.1, h.2.1.kx k fun z => h.2.2 (hl _ z), h.2.2⟩
/-- a live row, by its states -/
def LivA (K : PySem.W.Frag) (H : Hp) (x p : Addr) (a : List Nat) (F : List Addr) (ss : List St2) (s : St2) : Prop := ∃ r S, LivO (cA K "Live") H x p s.now r S ∧ RulO K (cA K "Rules") H r a s.rs ∧ r ∉ F ∧ Paired (PstE K H a F) S ss
theorem LivA.kx {K : PySem.W.Frag} {H H' : Hp} {x p : Addr} {a : List Nat} {F L : List Addr} {ss : List St2} {s : St2} (h : LivA K H x p a F ss s) (k : Kx L H H') (h1 : x ∉ L) (h2 : p ∉ L) (hl : ∀ q ∈ L, q ∈ F) : LivA K H' x p a F ss s := by
  obtain ⟨r, S, l, hr, hn, hp⟩ := h
  exact ⟨r, S, l.kx k h1 h2, hr.kx k (fun z => hn (hl _ z)), hn, L2.Paired.mapP hp fun _ _ q => q.kx k hl⟩
theorem LivA.same {K : PySem.W.Frag} {H H' : Hp} {x p : Addr} {a : List Nat} {F : List Addr} {ss : List St2} {s : St2} (h : LivA K H x p a F ss s) (k : Same H H') : LivA K H' x p a F ss s := h.kx (L := []) (Kx.of k) (by simp) (by simp) (by simp)
theorem LivA.snoc {K : PySem.W.Frag} {H H' : Hp} {x p r y : Addr} {a : List Nat} {F : List Addr} {ss : List St2} {s s' : St2} {S : List (List Nat × Addr)} (hr : RulO K (cA K "Rules") H r a s.rs) (hn : r ∉ F) (hp : Paired (PstE K H a F) S ss)
    (k : Kx [x, p] H H') (hx : x ∈ F) (hpF : p ∈ F) (l : LivO (cA K "Live") H' x p s'.now y (S ++ [(s.now, r)])) (hy : RulO K (cA K "Rules") H' y a s'.rs) (hyn : y ∉ F) : LivA K H' x p a F (ss ++ [s]) s' := by
  have hl : ∀ q ∈ [x, p], q ∈ F := by simp [hx, hpF]
  exact ⟨y, _, l, hy, hyn, paired_cat (L2.Paired.mapP hp fun _ _ q => q.kx k hl) (.cons ⟨rfl, hr.kx k fun z => hn (hl _ z), hn⟩ .nil)⟩
/-- what stands there -/
def FE (H : Hp) (F : List Addr) : Prop := ∀ f ∈ F, H f ≠ none
theorem FE.new {H : Hp} {F : List Addr} (h : FE H F) {y : Addr} (n : H y = none) : y ∉ F := fun z => h _ z n
theorem LivA.stand {K : PySem.W.Frag} {H : Hp} {x p : Addr} {a : List Nat} {F : List Addr} {ss : List St2} {s : St2} (h : LivA K H x p a F ss s) : H x ≠ none ∧ H p ≠ none := by
  obtain ⟨r, S, ⟨dx, ts, e1, e2, _⟩, _⟩ := h
  exact ⟨by rw [e1]; simp, by rw [e2]; simp⟩
theorem FE.kx {K : PySem.W.Frag} {H H' : Hp} {x p : Addr} {a : List Nat} {F : List Addr} {ss : List St2} {s : St2} (h : FE H F) (k : Kx [x, p] H H') (l : LivA K H' x p a F ss s) : FE H' F := fun f hf => by
  by_cases e1 : f = x
  · rw [e1]; exact l.stand.1
  by_cases e2 : f = p
  · rw [e2]; exact l.stand.2
  intro z
  cases e : H f with
  | none => exact h f hf e
  | some o => rw [k.1 f o (by simp [e1, e2]) e] at z; cases z
theorem FE.same {H H' : Hp} {F : List Addr} (h : FE H F) (k : Same H H') : FE H' F := fun f hf z => by
  cases e : H f with
  | none => exact h f hf e
  | some o => rw [k _ _ e] at z; cases z
/-- what is seen of a live row -/
def LookO (K : PySem.W.Frag) (H : Hp) (a : List Nat) (t : Addr) (s : St2) (n : Nat) : Prop := ∃ v, H t = some (.tup [T s.now, v, T a, .int (n : Nat)]) ∧ TupV K H v (s.rs.map T)
theorem LookO.kx {K : PySem.W.Frag} {H H' : Hp} {a : List Nat} {t : Addr} {s : St2} {n : Nat} {L : List Addr} (h : LookO K H a t s n) (k : Kx L H H') : LookO K H' a t s n := by
  obtain ⟨v, e, tv⟩ := h
  exact ⟨v, k.2 _ _ e, tv.kx k⟩
end NX
namespace NX
open PySem PySem.Spec PyProof.Rows L2
theorem LivA.nil {K : PySem.W.Frag} {H : Hp} {x p : Addr} {a : List Nat} {F : List Addr} {s : St2} (h : LivA K H x p a F [] s) : ∃ r, LivO (cA K "Live") H x p s.now r [] := by
  obtain ⟨r, S, l, hr, hn, hq⟩ := h
  cases hq
  exact ⟨r, l⟩
theorem LivA.liv {K : PySem.W.Frag} {H : Hp} {x p : Addr} {a : List Nat} {F : List Addr} {ss : List St2} {s : St2} (h : LivA K H x p a F ss s) : ∃ r S, LivO (cA K "Live") H x p s.now r S ∧ S.length = ss.length := by
  obtain ⟨r, S, l, _, _, hq⟩ := h
  exact ⟨r, S, l, PySem.Paired.length hq⟩
end NX
namespace NX
open PySem PySem.Spec PyProof.Rows L2
/-! ### calls that stand, and what was seen behind each -/
structure Tk (K : PySem.W.Frag) (H : Hp) (sd lk : Addr) (a : List Nat) (M : Nat) (s0 : St2) (us : List St2) (cs : List Cl) (ct lt : List Addr) : Prop where
  ul : us.length = cs.length + 1
  u0 : us.getD 0 s0 = s0
  st : ∀ k, k < cs.length → cstp a (us.getD k s0) (cs.getD k .take) = some (us.getD (k + 1) s0)
  ok : ∀ c ∈ cs, c.ok a
  so : ∀ u ∈ us, StOk a M u
  esd : H sd = some (.lst (ct.map V.ref))
  ctl : ct.length = cs.length
  ec : ∀ k, k < cs.length → H (ct.getD k 0) = some (.tup [.int (cs.getD k .take).way, (cs.getD k .take).val])
  elk : H lk = some (.lst (lt.map V.ref))
  ltl : lt.length = us.length
  el : ∀ k, k < us.length → LookO K H a (lt.getD k 0) (us.getD k s0) k
section
variable {K : PySem.W.Frag} {H H' : Hp} {sd lk : Addr} {a : List Nat} {M N : Nat} {s0 : St2} {us : List St2} {cs : List Cl} {ct lt L : List Addr}
theorem Tk.kx (h : Tk K H sd lk a M s0 us cs ct lt) (k : Kx L H H') (h1 : sd ∉ L) (h2 : lk ∉ L) (hm : M ≤ N) : Tk K H' sd lk a N s0 us cs ct lt :=
  ⟨h.ul, h.u0, h.st, h.ok, fun u hu => ⟨(h.so u hu).1, Nat.le_trans (h.so u hu).2 hm⟩, k.1 _ _ h1 h.esd, h.ctl, fun j hj => k.2 _ _ (h.ec j hj), k.1 _ _ h2 h.elk, h.ltl, fun j hj => (h.el j hj).kx k⟩
theorem Tk.same (h : Tk K H sd lk a M s0 us cs ct lt) (k : Same H H') : Tk K H' sd lk a M s0 us cs ct lt := h.kx (L := []) (Kx.of k) (by simp) (by simp) (Nat.le_refl _)
theorem getD_apL {α : Type} {l m : List α} {d : α} {k : Nat} (h : k < l.length) : (l ++ m).getD k d = l.getD k d := by
  rw [List.getD_eq_getElem?_getD, List.getD_eq_getElem?_getD, List.getElem?_append_left h]
theorem getD_apR {α : Type} {l : List α} {x d : α} : (l ++ [x]).getD l.length d = x := by
  rw [List.getD_eq_getElem?_getD, List.getElem?_append_right (Nat.le_refl _), Nat.sub_self]; rfl
/-- one more -/
theorem Tk.push (h : Tk K H sd lk a M s0 us cs ct lt) (k : Kx L H H') (hm : M + 8 ≤ N) {c : Cl} {s' : St2} {t u : Addr} (hc : c.ok a) (hs : cstp a (us.getD cs.length s0) c = some s') (esd : H' sd = some (.lst ((ct ++ [t]).map V.ref))) (elk : H' lk = some (.lst ((lt ++ [u]).map V.ref)))
    (et : H' t = some (.tup [.int c.way, c.val])) (eu : LookO K H' a u s' (cs.length + 1)) : Tk K H' sd lk a N s0 (us ++ [s']) (cs ++ [c]) (ct ++ [t]) (lt ++ [u]) := by
  have ul := h.ul
  have ctl := h.ctl
  have ltl := h.ltl
  refine ⟨by rw [List.length_append, List.length_append, ul]; rfl, ?_, fun j hj => ?_, fun z hz => ?_, fun z hz => ?_, esd, by rw [List.length_append, List.length_append, ctl]; rfl, fun j hj => ?_, elk, by rw [List.length_append, List.length_append, ltl]; rfl, fun j hj => ?_⟩
  · rw [getD_apL (by omega)]; exact h.u0
  · rw [List.length_append, List.length_singleton] at hj
    rcases (show j < cs.length ∨ j = cs.length by omega) with e | e
    · rw [getD_apL (by omega), getD_apL e, getD_apL (by omega)]; exact h.st j e
    · subst e
      rw [getD_apL (by omega), getD_apR, ← ul, getD_apR]; exact hs
  · rcases List.mem_append.mp hz with q | q
    · exact h.ok z q
    · rw [List.mem_singleton.mp q]; exact hc
  · rcases List.mem_append.mp hz with q | q
    · exact ⟨(h.so z q).1, by have := (h.so z q).2; omega⟩
    · rw [List.mem_singleton.mp q]
      have := cstp_ok (h.so _ (getD_memA (show cs.length < us.length by omega))) hc hs
      exact ⟨this.1, by have := this.2; omega⟩
  · rw [List.length_append, List.length_singleton] at hj
    rcases (show j < cs.length ∨ j = cs.length by omega) with e | e
    · rw [getD_apL (by omega), getD_apL e]; exact k.2 _ _ (h.ec j e)
    · subst e
      rw [getD_apR, ← ctl, getD_apR]; exact et
  · rw [List.length_append, List.length_singleton] at hj
    rcases (show j < us.length ∨ j = us.length by omega) with e | e
    · rw [getD_apL (by omega), getD_apL e]; exact (h.el j e).kx k
    · subst e
      rw [getD_apR, ← ltl, getD_apR, ltl, ul]; exact eu
end
end NX
namespace NX
open PySem PySem.Spec PyProof.Rows L2
end NX
namespace NX
open PySem PySem.Spec PyProof.Rows L2
section
variable {K : PySem.W.Frag} {H : Hp} {sd lk : Addr} {a : List Nat} {M : Nat} {s0 : St2} {us : List St2} {cs : List Cl} {ct lt : List Addr}
theorem Tk.all (h : Tk K H sd lk a M s0 us cs ct lt) : us.take cs.length ++ [us.getD cs.length s0] = us := by
  have := h.ul
  rw [← take_snocL (d := s0) (show cs.length < us.length by omega), ← this, List.take_length]
end
end NX
namespace NX
open PySem PySem.Spec PyProof.Rows L2
/-! ### greatest values -/
/-- the greatest value of which S holds, b where there is none above it -/
def IsTop (b : Nat) (S : Nat → Prop) (m : Nat) : Prop := (m = b ∨ S m) ∧ b ≤ m ∧ ∀ v, S v → v ≤ m
theorem IsTop.uniq {b m n : Nat} {S : Nat → Prop} (h : IsTop b S m) (g : IsTop b S n) : m = n := by
  have e : ∀ {m n : Nat}, IsTop b S m → IsTop b S n → m ≤ n := fun {m n} h g => by
    rcases h.1 with z | z
    · rw [z]; exact g.2.1
    · exact g.2.2 _ z
  exact Nat.le_antisymm (e h g) (e g h)
theorem IsTop.nil {b : Nat} {S : Nat → Prop} (h : ∀ v, ¬ S v) : IsTop b S b := ⟨.inl rfl, Nat.le_refl _, fun v z => absurd z (h v)⟩
theorem IsTop.congr {b m : Nat} {S R : Nat → Prop} (h : IsTop b S m) (e : ∀ v, S v ↔ R v) : IsTop b R m := ⟨h.1.imp id (e m).mp, h.2.1, fun v z => h.2.2 v ((e v).mpr z)⟩
theorem IsTop.step {b m k : Nat} {S R : Nat → Prop} (h : IsTop b S m) (e : ∀ v, R v ↔ S v ∨ v = k) : IsTop b R (max m k) := by
  refine ⟨?_, Nat.le_trans h.2.1 (Nat.le_max_left _ _), fun v z => ?_⟩
  · rcases Nat.le_total m k with z | z
    · rw [Nat.max_eq_right z]; exact .inr ((e k).mpr (.inr rfl))
    · rw [Nat.max_eq_left z]; exact h.1.imp id fun q => (e m).mpr (.inl q)
  · rcases (e v).mp z with q | q
    · exact Nat.le_trans (h.2.2 v q) (Nat.le_max_left _ _)
    · rw [q]; exact Nat.le_max_right _ _
/-- two lists, pair by pair -/
def PairS (xs ys : List (List Nat)) (f : List Nat → List Nat → Nat) (ok : List Nat → List Nat → Prop) (v : Nat) : Prop := ∃ x ∈ xs, ∃ y ∈ ys, ok x y ∧ f x y = v
theorem PairS.mem {xs ys as bs : List (List Nat)} {f : List Nat → List Nat → Nat} {ok : List Nat → List Nat → Prop} {v : Nat} (h1 : ∀ w, w ∈ xs ↔ w ∈ as) (h2 : ∀ w, w ∈ ys ↔ w ∈ bs) : PairS xs ys f ok v ↔ PairS as bs f ok v := by
  constructor
  · rintro ⟨x, hx, y, hy, r⟩; exact ⟨x, (h1 x).mp hx, y, (h2 y).mp hy, r⟩
  · rintro ⟨x, hx, y, hy, r⟩; exact ⟨x, (h1 x).mpr hx, y, (h2 y).mpr hy, r⟩
/-- a root and itself -/
def OSh (x y : List Nat) : Nat := cpl (repL x 3) (repL y 3)
def OSet (R : List Nat) : Nat → Prop := PairS (rots R) (rots R ++ rots (bak R)) OSh (fun x y => x ≠ y)
end NX
namespace NX
open PySem PySem.Spec PyProof.Rows L2
end NX
namespace NX
open PySem PySem.Spec PyProof.Rows L2
end NX
namespace NX
open PySem PySem.Spec PyProof.Rows L2
end NX
namespace NX
open PySem PySem.Spec PyProof.Rows L2
/-! ### desks: what is kept -/
/-- (rules, row) -/
def PasD (H : Hp) (v : V) (s : Addr × List Nat) : Prop := ∃ t, v = .ref t ∧ H t = some (.tup [.ref s.1, T s.2])
theorem PasD.kx {L : List Addr} {H H' : Hp} (k : Kx L H H') {v : V} {s : Addr × List Nat} (h : PasD H v s) : PasD H' v s := by
  obtain ⟨t, rfl, e⟩ := h
  exact ⟨t, rfl, k.2 _ _ e⟩
abbrev dsF (p r : Addr) (w : List Nat) : List (Str × V) := [(("past" : Str), .ref p), (("work" : Str), .ref r), (("word" : Str), T w)]
/-- a desk -/
def DskO (C : Addr) (H : Hp) (x p r : Addr) (w : List Nat) (S : List (Addr × List Nat)) : Prop := ∃ dx ts, H x = some (.ins C dx (dsF p r w)) ∧ H p = some (.lst ts) ∧ Paired (PasD H) ts S
section
variable {C : Addr} {L : List Addr} {H H' : Hp} {x p r : Addr} {w : List Nat} {S : List (Addr × List Nat)}
theorem DskO.kx (h : DskO C H x p r w S) (k : Kx L H H') (n1 : x ∉ L) (n2 : p ∉ L) : DskO C H' x p r w S := by
  obtain ⟨dx, ts, e1, e2, hp⟩ := h
  exact ⟨dx, ts, k.1 _ _ n1 e1, k.1 _ _ n2 e2, L2.Paired.mapP hp fun _ _ z => z.kx k⟩
theorem DskO.same (h : DskO C H x p r w S) (s : Same H H') : DskO C H' x p r w S := h.kx (L := []) (Kx.of s) (by simp) (by simp)
theorem DskO.ne (h : DskO C H x p r w S) : p ≠ x := fun z => by
  obtain ⟨dx, ts, e1, e2, _⟩ := h
  subst z; rw [e1] at e2; cases e2
theorem DskO.lst (h : DskO C H x p r w S) : ∃ xs, H p = some (.lst xs) := by obtain ⟨_, _, _, e, _⟩ := h; exact ⟨_, e⟩
theorem DskO.ins (h : DskO C H x p r w S) : ∃ dx, H x = some (.ins C dx (dsF p r w)) := by obtain ⟨dx, _, e, _⟩ := h; exact ⟨dx, e⟩
theorem DskO.ne_lst (h : DskO C H x p r w S) {q : Addr} {xs : List V} (e : H q = some (.lst xs)) : x ≠ q := fun z => by
  obtain ⟨dx, ts, e1, _⟩ := h
  rw [z, e] at e1; cases e1
theorem RulO.ne_dsk {K : PySem.W.Frag} {D y : Addr} {a : List Nat} {rs : List (List Nat)} (h : RulO K D H y a rs) (l : DskO C H x p r w S) : y ≠ x := fun z => by
  obtain ⟨dx, v, e, _⟩ := h
  obtain ⟨dx', ts, e1, _⟩ := l
  rw [z, e1] at e
  injection e with e
  injection e with _ _ e
  have := congrArg List.length e
  simp at this
end
section
variable {p r q : Addr} {w z : List Nat} {u v : V}
theorem ds_past : List.lookup ("past" : Str) (dsF p r w) = some (.ref p) := fld1
theorem ds_work : List.lookup ("work" : Str) (dsF p r w) = some (.ref r) := by
  rw [List.lookup, show (("work" : Str) == ("past" : Str)) = false by decide +kernel]; exact fld1
theorem ds_word : List.lookup ("word" : Str) (dsF p r w) = some (T w) := by
  rw [List.lookup, show (("word" : Str) == ("past" : Str)) = false by decide +kernel, List.lookup, show (("word" : Str) == ("work" : Str)) = false by decide +kernel]; exact fld1
theorem ds_put1 : putF ("work" : Str) (.ref q) (dsF p r w) = dsF p q w := by
  have h : ¬ (("past" : Str) = ("work" : Str)) := by decide +kernel
  simp only [putF, if_true, if_neg h]
theorem ds_put2 : putF ("word" : Str) (T z) (dsF p r w) = dsF p r z := by
  have h : ¬ (("past" : Str) = ("word" : Str)) := by decide +kernel
  have h2 : ¬ (("work" : Str) = ("word" : Str)) := by decide +kernel
  simp only [putF, if_true, if_neg h, if_neg h2]
theorem ds_mk : putF ("word" : Str) (T w) (putF ("work" : Str) (.ref r) (putF ("past" : Str) (.ref p) [])) = dsF p r w := by
  have h : ¬ (("past" : Str) = ("work" : Str)) := by decide +kernel
  have h2 : ¬ (("past" : Str) = ("word" : Str)) := by decide +kernel
  have h3 : ¬ (("work" : Str) = ("word" : Str)) := by decide +kernel
  simp only [putF, if_neg h, if_neg h2, if_neg h3]
end
end NX
namespace NX
theorem dec_short {n : Nat} (h : n ≤ 7) : (dec n).length ≤ 10 := by
  match n, h with
  | 0, _ | 1, _ | 2, _ | 3, _ | 4, _ | 5, _ | 6, _ | 7, _ => decide
end NX
namespace NX
theorem short_len3 {r : List Nat} (h : r.length ≤ 300) : (short r).length ≤ 4000 := by
  unfold short
  split
  · simp
  · have := wrt_len r.length r (Nat.le_refl _) (by omega)
    omega
end NX
namespace NX
open PySem PySem.Spec PyProof.Rows L2
/-! ### orders with words behind the first one -/
inductive Ord where
  | letters (b : List Nat) | tell (u : List Nat) | drop (n : Nat) | row (u : List Nat)
def Ord.word : Ord → List Nat
  | .letters _ => [108, 101, 116, 116, 101, 114, 115] | .tell _ => [116, 101, 108, 108] | .drop _ => [100, 114, 111, 112] | .row _ => [114, 111, 119]
/-- the words that tell what an order is about -/
def Ord.Reads (l : List Nat) : Ord → Prop
  | .letters b => l = b ∧ Al b | .tell u => anyL l = some u ∧ u.length ≤ 300 ∧ l.length ≤ 1000 | .drop n => numL l = some n ∧ l.length ≤ 2 | .row u => anyL l = some u ∧ u.length ≤ 300 ∧ l.length ≤ 1000
/-- what an order does -/
def OrdX (K : PySem.W.Frag) (H : Hp) (x p r : Addr) (w a : List Nat) (rs : List (List Nat)) (S : List (Addr × List Nat)) (o : Ord) (Q : VK) (E : XK) : Prop := match o with
  | .letters b => ∀ y H', H y = none → Kx [x, p] H H' → RulO K (cA K "Rules") H' y b [] → DskO (cA K "Desk") H' x p y [] (S ++ [(r, w)]) → Q (T ([108, 101, 116, 116, 101, 114, 115, 32] ++ dec b.length)) H'
  | .tell u => (¬ RowOf a u → ∀ H', Same H H' → E (.ref (cA K "NoRow")) none H') ∧
    (RowOf a u → stB a rs u = false → ∀ d H', Same H H' → H d = none → H' d = some (.xd [("index", .int (rs.length : Nat))]) → E (.ref (cA K "NoRows")) (some d) H') ∧
    (RowOf a u → stB a rs u = true → ∀ y H', H y = none → Kx [x, p] H H' → RulO K (cA K "Rules") H' y a (rs ++ [u]) → DskO (cA K "Desk") H' x p y w (S ++ [(r, w)]) → Q (T ([114, 111, 119, 115, 32] ++ dec (rs.length + 1))) H')
  | .drop n => (rs.length ≤ n → ∀ H', Same H H' → E (.ref (cA K "NoIndex")) none H') ∧
    (n < rs.length → ∀ y H', H y = none → Kx [x, p] H H' → RulO K (cA K "Rules") H' y a (rs.take n ++ rs.drop (n + 1)) → DskO (cA K "Desk") H' x p y w (S ++ [(r, w)]) → Q (T ([114, 111, 119, 115, 32] ++ dec (rs.length - 1))) H')
  | .row u => (¬ RowOf a u → ∀ H', Same H H' → E (.ref (cA K "NoRow")) none H') ∧
    (RowOf a u → ∀ H', Kx [x, p] H H' → DskO (cA K "Desk") H' x p r (red u) (S ++ [(r, w)]) → Q (T ([114, 111, 119, 32] ++ short (red u))) H')
end NX
namespace NX
open PySem PySem.Spec PyProof.Rows L2
theorem r_inTStr {K : PySem.W.Frag} {H : Hp} {Q : VK} {p : Addr} {s : Str} {ss : List Str} (e : SqT K H p (ss.map V.str)) (hs : s ∈ ss) (h : Q (.bl true) H) : rInG K (.str s) (.ref p) H Q :=
  .inr ⟨p, _, rfl, .inr e, rfl, flat_str ss, by rw [inV_str hs]; exact h⟩
theorem inV_not {s : Str} {ss : List Str} (h : s ∉ ss) : inV (.str s) (ss.map V.str) = false := by
  unfold inV
  rw [List.any_map, List.any_eq_false]
  intro x hx z
  refine h ?_
  have : (x == s) = true := z
  rw [beq_iff_eq] at this
  rw [← this]; exact hx
theorem r_ninTStr {K : PySem.W.Frag} {H : Hp} {Q : VK} {p : Addr} {s : Str} {ss : List Str} (e : SqT K H p (ss.map V.str)) (hs : s ∉ ss) (h : Q (.bl false) H) : rInG K (.str s) (.ref p) H Q :=
  .inr ⟨p, _, rfl, .inr e, rfl, flat_str ss, by rw [inV_not hs]; exact h⟩
theorem sub_take {l : List Nat} {i : Nat} : Builtin.Str.strSub (mkS l) 0 i = mkS (l.take i) := by
  apply TL.ext_tl
  show (Builtin.Str.strSub (mkS l) 0 i).cps.toList = (mkS (l.take i)).cps.toList
  rw [StrLaws.strSub_toList, show (mkS l).cps.toList = l by simp [mkS], show (mkS (l.take i)).cps.toList = l.take i by simp [mkS], List.drop_zero, Nat.sub_zero]
theorem part_sp {a l : List Nat} (h : 32 ∉ a) : Txt.partition (mkS (a ++ [32] ++ l)) (mkS [32]) = (mkS a, mkS [32], mkS l) := by
  obtain ⟨rest, e⟩ := occ_idx (l := a ++ [32] ++ l) (c := 32) (by simp)
  have ei : (a ++ [32] ++ l).idxOf 32 = a.length := by
    rw [List.append_assoc]
    clear e
    induction a with
    | nil => simp
    | cons b a ih =>
      simp only [List.mem_cons, not_or] at h
      rw [List.cons_append, List.idxOf_cons, ih h.2]
      have : (b == 32) = false := by rw [beq_eq_false_iff_ne]; exact fun z => h.1 z.symm
      simp [this]
  unfold Txt.partition
  rw [e, ei]
  simp only []
  rw [sub_take, List.append_assoc, List.take_left' rfl]
  refine Prod.ext rfl (Prod.ext rfl ?_)
  apply TL.ext_tl
  show (Builtin.Str.strSub (mkS (a ++ ([32] ++ l))) _ _).cps.toList = (mkS l).cps.toList
  rw [StrLaws.strSub_toList, show (mkS (a ++ ([32] ++ l))).cps.toList = a ++ ([32] ++ l) by simp [mkS], show (mkS l).cps.toList = l by simp [mkS], show (mkS (a ++ ([32] ++ l))).length = (a ++ ([32] ++ l)).length from mkS_len _, show (mkS [32]).length = 1 from mkS_len _]
  rw [show a.length + 1 = (a ++ [32]).length by simp, ← List.append_assoc, List.drop_left' rfl]
  rw [List.take_of_length_le (by simp; omega)]
theorem ow_no (o : Ord) : 32 ∉ o.word := by cases o <;> simp [Ord.word]
theorem ow_len (o : Ord) : o.word.length ≤ 7 := by cases o <;> simp [Ord.word]
theorem Ord.Reads.len {o : Ord} {l : List Nat} (h : o.Reads l) : l.length ≤ 1000 := by
  cases o with
  | letters b => obtain ⟨rfl, hb⟩ := h; have := hb.2.1; omega
  | tell u => exact h.2.2
  | drop n => have := h.2; omega
  | row u => exact h.2.2
theorem OrdX.from {K : PySem.W.Frag} {H H1 : Hp} {x p r : Addr} {w a : List Nat} {rs : List (List Nat)} {S : List (Addr × List Nat)} {o : Ord} {Q : VK} {E : XK} (h : OrdX K H x p r w a rs S o Q E) (s : Same H H1) : OrdX K H1 x p r w a rs S o Q E := by
  cases o with
  | letters b => exact fun y H' ny k hy hd => h y H' (s.free ny) ((Kx.of s).trans k) hy hd
  | tell u => exact ⟨fun c H' s' => h.1 c H' (s.trans s'), fun c d e H' s' n g => h.2.1 c d e H' (s.trans s') (s.free n) g, fun c d y H' ny k hy hd => h.2.2 c d y H' (s.free ny) ((Kx.of s).trans k) hy hd⟩
  | drop n => exact ⟨fun c H' s' => h.1 c H' (s.trans s'), fun d y H' ny k hy hd => h.2 d y H' (s.free ny) ((Kx.of s).trans k) hy hd⟩
  | row u => exact ⟨fun c H' s' => h.1 c H' (s.trans s'), fun d H' k hd => h.2 d H' ((Kx.of s).trans k) hd⟩
end NX
namespace NX
open PySem PySem.Spec PyProof.Rows L2
/-! ### desks by their states -/
structure DS where
  a : List Nat
  rs : List (List Nat)
  w : List Nat
inductive Ans where
  | txt (l : List Nat) | err (l : List Nat) (f : Option Nat)
def Ans.isT : Ans → Bool
  | .txt _ => true | .err _ _ => false
inductive Prt where
  | ord (o : Ord) | rules | root | undo
def Ord.val : Ord → V
  | .letters b => T b | .tell u => T u | .drop n => .int (n : Nat) | .row u => T u
def Ord.ok : Ord → Prop
  | .letters b => Al b | .tell u => Row u ∧ u.length ≤ 90 | .drop n => n ≤ 7 | .row u => Row u ∧ u.length ≤ 90
def Prt.way : Prt → List Nat
  | .ord o => o.word | .rules => [114, 117, 108, 101, 115] | .root => [114, 111, 111, 116] | .undo => [117, 110, 100, 111]
def Prt.val : Prt → V
  | .ord o => o.val | _ => .non
def Prt.ok : Prt → Prop
  | .ord o => o.ok | _ => True
/-- t is an order that tells it -/
def Prt.Says (t : List Nat) : Prt → Prop
  | .ord o => ∃ l, t = o.word ++ [32] ++ l ∧ o.Reads l
  | p => t = p.way
noncomputable def rootT (w : List Nat) : List Nat := short (root1 (red w)) ++ [32] ++ dec (rootn (red w))
/-- what an order does -/
noncomputable def obeh (s : DS) : Ord → Ans × DS
  | .letters b => (.txt ([108, 101, 116, 116, 101, 114, 115, 32] ++ dec b.length), ⟨b, [], []⟩)
  | .tell u => if RowOf s.a u then (if stB s.a s.rs u = true then (.txt ([114, 111, 119, 115, 32] ++ dec (s.rs.length + 1)), ⟨s.a, s.rs ++ [u], s.w⟩) else (.err [114, 111, 119, 115] (some s.rs.length), s)) else (.err [114, 111, 119] none, s)
  | .drop n => if n < s.rs.length then (.txt ([114, 111, 119, 115, 32] ++ dec (s.rs.length - 1)), ⟨s.a, s.rs.take n ++ s.rs.drop (n + 1), s.w⟩) else (.err [105, 110, 100, 101, 120] none, s)
  | .row u => if RowOf s.a u then (.txt ([114, 111, 119, 32] ++ short (red u)), ⟨s.a, s.rs, red u⟩) else (.err [114, 111, 119] none, s)
noncomputable def pbeh (s : DS) : Prt → Ans × DS
  | .ord o => obeh s o
  | .rules => (.txt (ruleT s.a s.rs), s)
  | _ => (.txt (rootT s.w), s)
/-- .. and undo, with what is past -/
noncomputable def bstp (ss : List DS) (s : DS) : Prt → Ans × List DS × DS
  | .ord o => ((obeh s o).1, if (obeh s o).1.isT = true then ss ++ [s] else ss, (obeh s o).2)
  | .undo => match ss.getLast? with
    | some s' => (.txt [117, 110, 100, 111, 110, 101], ss.dropLast, s')
    | none => (.err [117, 110, 100, 111] none, ss, s)
  | p => ((pbeh s p).1, ss, s)
theorem bstp_undo0 {s : DS} : bstp [] s .undo = (.err [117, 110, 100, 111] none, [], s) := rfl
theorem bstp_undo1 {ss : List DS} {s s' : DS} : bstp (ss ++ [s']) s .undo = (.txt [117, 110, 100, 111, 110, 101], ss, s') := by
  simp only [bstp, List.getLast?_concat, List.dropLast_concat]
def WOk (s : DS) : Prop := RowOf s.a s.w ∧ Free s.w ∧ s.w.length ≤ 300
theorem obeh_ok {s : DS} {o : Ord} (ha : Al s.a) (h : WOk s) (ho : o.ok) : WOk (obeh s o).2 := by
  cases o with
  | letters b => exact ⟨(fun c hc => nomatch hc), trivial, by show ([] : List Nat).length ≤ 300; simp⟩
  | tell u =>
    simp only [obeh]
    split
    · split <;> exact h
    · exact h
  | drop n => simp only [obeh]; split <;> exact h
  | row u =>
    simp only [obeh]
    split
    · rename_i hu
      exact ⟨rowOf_red hu, free_red (hu.row ha), by show (red u).length ≤ 300; have := red_len u; have := ho.2; omega⟩
    · exact h
/-! how they lie -/
def AnsO (H : Hp) (v : V) : Ans → Prop
  | .txt l => v = T l
  | .err l f => ∃ p, v = .ref p ∧ H p = some (.tup [T l, oV f])
theorem AnsO.kx {L : List Addr} {H H' : Hp} {v : V} {r : Ans} (h : AnsO H v r) (k : Kx L H H') : AnsO H' v r := by
  cases r with
  | txt l => exact h
  | err l f =>
    obtain ⟨p, rfl, e⟩ := h
    exact ⟨p, rfl, k.2 _ _ e⟩
theorem AnsO.same {H H' : Hp} {v : V} {r : Ans} (h : AnsO H v r) (s : Same H H') : AnsO H' v r := h.kx (Kx.of (L := []) s)
def StA (H : Hp) (v : V) (s : DS) : Prop := ∃ p q, v = .ref p ∧ H p = some (.tup [T s.a, .ref q, T s.w]) ∧ H q = some (.tup (s.rs.map T))
theorem StA.kx {L : List Addr} {H H' : Hp} {v : V} {s : DS} (h : StA H v s) (k : Kx L H H') : StA H' v s := by
  obtain ⟨p, q, rfl, e, t⟩ := h
  exact ⟨p, q, rfl, k.2 _ _ e, k.2 _ _ t⟩
theorem StA.same {H H' : Hp} {v : V} {s : DS} (h : StA H v s) (k : Same H H') : StA H' v s := h.kx (Kx.of (L := []) k)
def PrO (H : Hp) (v : V) (p : Prt) : Prop := ∃ q, v = .ref q ∧ H q = some (.tup [T p.way, p.val])
theorem PrO.kx {L : List Addr} {H H' : Hp} {v : V} {p : Prt} (h : PrO H v p) (k : Kx L H H') : PrO H' v p := by
  obtain ⟨q, rfl, e⟩ := h
  exact ⟨q, rfl, k.2 _ _ e⟩
theorem PrO.same {H H' : Hp} {v : V} {p : Prt} (h : PrO H v p) (k : Same H H') : PrO H' v p := h.kx (Kx.of (L := []) k)
/-- a list, or a desk -/
def Oty (H : Hp) (q : Addr) : Prop := (∃ xs, H q = some (.lst xs)) ∨ ∃ C dx p r w, H q = some (.ins C dx (dsF p r w))
theorem Oty.l {H : Hp} {q : Addr} {xs : List V} (e : H q = some (.lst xs)) : Oty H q := .inl ⟨_, e⟩
theorem Oty.wl {H : Hp} {q : Addr} {n : Nat} (h : Wl H q n) : Oty H q := by obtain ⟨_, _, _, e, _⟩ := h; exact .inl ⟨_, e⟩
theorem RulO.oty {K : PySem.W.Frag} {D y q : Addr} {H : Hp} {a : List Nat} {rs : List (List Nat)} (h : RulO K D H y a rs) (o : Oty H q) : y ≠ q := fun z => by
  obtain ⟨dx, v, e, _⟩ := h
  rw [z] at e
  rcases o with ⟨xs, e2⟩ | ⟨C, dx, p, r, w, e2⟩
  · rw [e2] at e; cases e
  · rw [e2] at e
    injection e with e
    injection e with _ _ e
    have := congrArg List.length e
    simp at this
def PsdE (K : PySem.W.Frag) (H : Hp) (e : Addr × List Nat) (s : DS) : Prop := e.2 = s.w ∧ RulO K (cA K "Rules") H e.1 s.a s.rs
theorem PsdE.kx {K : PySem.W.Frag} {L : List Addr} {H H' : Hp} {e : Addr × List Nat} {s : DS} (h : PsdE K H e s) (k : Kx L H H') (n : ∀ q ∈ L, Oty H q) : PsdE K H' e s :=
  ⟨h.1, h.2.kx k fun z => h.2.oty (n _ z) rfl⟩
/-- a desk, by its states -/
def DskA (K : PySem.W.Frag) (H : Hp) (x p : Addr) (ss : List DS) (s : DS) : Prop := ∃ r S, DskO (cA K "Desk") H x p r s.w S ∧ RulO K (cA K "Rules") H r s.a s.rs ∧ Paired (PsdE K H) S ss
section
variable {K : PySem.W.Frag} {L : List Addr} {H H' : Hp} {x p : Addr} {ss : List DS} {s s' : DS}
theorem DskA.kx (h : DskA K H x p ss s) (k : Kx L H H') (n1 : x ∉ L) (n2 : p ∉ L) (n : ∀ q ∈ L, Oty H q) : DskA K H' x p ss s := by
  obtain ⟨r, S, d, hr, hq⟩ := h
  exact ⟨r, S, d.kx k n1 n2, hr.kx k fun z => hr.oty (n _ z) rfl, L2.Paired.mapP hq fun _ _ z => z.kx k n⟩
theorem DskA.same (h : DskA K H x p ss s) (k : Same H H') : DskA K H' x p ss s := h.kx (Kx.of (L := []) k) (by simp) (by simp) (by simp)
theorem DskA.al (h : DskA K H x p ss s) : Al s.a := by obtain ⟨r, S, d, ⟨_, _, _, _, ha, _⟩, _⟩ := h; exact ha
theorem DskA.told (h : DskA K H x p ss s) : Told s.a s.rs := by obtain ⟨r, S, d, ⟨_, _, _, _, _, ht⟩, _⟩ := h; exact ht
theorem DskA.ne (h : DskA K H x p ss s) : p ≠ x := by obtain ⟨r, S, d, _⟩ := h; exact d.ne
theorem DskA.lst (h : DskA K H x p ss s) : ∃ xs, H p = some (.lst xs) := by obtain ⟨r, S, d, _⟩ := h; exact d.lst
theorem DskA.ins (h : DskA K H x p ss s) : ∃ dx r, H x = some (.ins (cA K "Desk") dx (dsF p r s.w)) := by obtain ⟨r, S, d, _⟩ := h; obtain ⟨dx, e⟩ := d.ins; exact ⟨dx, r, e⟩
theorem DskA.otyx (h : DskA K H x p ss s) : Oty H x := by obtain ⟨dx, r, e⟩ := h.ins; exact .inr ⟨_, _, _, _, _, e⟩
theorem DskA.otyp (h : DskA K H x p ss s) : Oty H p := by obtain ⟨xs, e⟩ := h.lst; exact .inl ⟨_, e⟩
theorem DskA.oty (h : DskA K H x p ss s) : ∀ q ∈ [x, p], Oty H q := fun q hq => by
  simp only [List.mem_cons, List.not_mem_nil, or_false] at hq
  rcases hq with rfl | rfl
  · exact h.otyx
  · exact h.otyp
theorem DskA.wl {w : Addr} {n : Nat} (h : DskA K H x p ss s) (hw : Wl H w n) (k : Kp w H H') (h1 : x ≠ w) (h2 : p ≠ w) : DskA K H' x p ss s :=
  h.kx (Kx.kp k hw) (by simp [h1]) (by simp [h2]) fun q hq => by simp only [List.mem_cons, List.not_mem_nil, or_false] at hq; subst hq; exact Oty.wl hw
theorem DskA.len (h : DskA K H x p ss s) : ∃ r S, DskO (cA K "Desk") H x p r s.w S ∧ RulO K (cA K "Rules") H r s.a s.rs ∧ S.length = ss.length := by
  obtain ⟨r, S, d, hr, hq⟩ := h
  exact ⟨r, S, d, hr, PySem.Paired.length hq⟩
/-- a call that is kept -/
theorem DskA.snoc {r y : Addr} {S : List (Addr × List Nat)} (h : DskA K H x p ss s) (hr : RulO K (cA K "Rules") H r s.a s.rs) (hq : Paired (PsdE K H) S ss) (k : Kx [x, p] H H') (d : DskO (cA K "Desk") H' x p y s'.w (S ++ [(r, s.w)])) (hy : RulO K (cA K "Rules") H' y s'.a s'.rs) : DskA K H' x p (ss ++ [s]) s' :=
  ⟨y, _, d, hy, paired_cat (L2.Paired.mapP hq fun _ _ z => z.kx k h.oty) (.cons ⟨rfl, hr.kx k fun z => hr.oty (h.oty _ z) rfl⟩ .nil)⟩
theorem DskA.nil (h : DskA K H x p [] s) : ∃ r, DskO (cA K "Desk") H x p r s.w [] ∧ RulO K (cA K "Rules") H r s.a s.rs := by
  obtain ⟨r, S, d, hr, hq⟩ := h
  cases hq
  exact ⟨r, d, hr⟩
theorem DskA.new {r : Addr} (d : DskO (cA K "Desk") H x p r s.w []) (hr : RulO K (cA K "Rules") H r s.a s.rs) : DskA K H x p [] s := ⟨r, [], d, hr, .nil⟩
end
/-! repr of an error -/
def dF : Option Nat → PyData
  | some n => .int (n : Nat) | none => .none
def dErr (l : List Nat) (f : Option Nat) : PyData := .tuple [.str (mkS l), dF f]
theorem dp_err {K : PySem.W.Frag} {H : Hp} {p : Addr} {l : List Nat} {f : Option Nat} (e : H p = some (.tup [T l, oV f])) : Dp K H (.ref p) (dErr l f) := by
  refine .tup (SqT.of e) (.cons (.str _) (.cons ?_ .nil))
  cases f with
  | none => exact .non
  | some n => exact .int _
def Ans.ok : Ans → Prop
  | .txt _ => True | .err l f => l.length ≤ 10 ∧ Asc l ∧ ∀ n, f = some n → n < 1000
theorem obeh_aok {s : DS} (h : s.rs.length ≤ 6) (o : Ord) : (obeh s o).1.ok := by
  cases o with
  | letters b => trivial
  | tell u =>
    simp only [obeh]
    split
    · split
      · trivial
      · refine ⟨by decide, (by unfold Asc; decide), fun n e => ?_⟩
        cases e; omega
    · refine ⟨by decide, (by unfold Asc; decide), fun n e => nomatch e⟩
  | drop n =>
    simp only [obeh]
    split
    · trivial
    · refine ⟨by decide, (by unfold Asc; decide), fun n e => nomatch e⟩
  | row u =>
    simp only [obeh]
    split
    · trivial
    · refine ⟨by decide, (by unfold Asc; decide), fun n e => nomatch e⟩
theorem bstp_aok {ss : List DS} {s : DS} (h : s.rs.length ≤ 6) (pr : Prt) : (bstp ss s pr).1.ok := by
  cases pr with
  | ord o => exact obeh_aok h o
  | rules => trivial
  | root => trivial
  | undo =>
    simp only [bstp]
    split
    · trivial
    · refine ⟨by decide, (by unfold Asc; decide), fun n e => nomatch e⟩
theorem shF_len {f : Option Nat} (hf : ∀ n, f = some n → n < 1000) : (dF f).shown.length ≤ 1921 := by
  cases f with
  | none => show (("None" : String) : Str).length ≤ 1921; decide
  | some n =>
    refine int_shown (i := (n : Nat)) ?_
    have := hf n rfl
    have : (n : Int).natAbs.log2 ≤ n := by rw [Int.natAbs_natCast]; exact Nat.log2_le_self n
    omega
theorem shErr_len {l : List Nat} {f : Option Nat} (hl : l.length ≤ 10) (ha : Asc l) (hf : ∀ n, f = some n → n < 1000) : (dErr l f).shown.length ≤ sizeLine := by
  have h1 := shF_len hf
  have h2 := PySem.StrLaws.reprText_len (mkS l) (fun c hc => by
      have := ha c (by simpa [mkS] using hc)
      have e : (16 : Nat) ^ 8 = 4294967296 := by decide
      omega)
  have h3 : (mkS l).length = l.length := by simp [mkS, Str.length]
  have h4 : (PyData.shown (.str (mkS l))).length ≤ 104 := by simp only [PyData.shown]; omega
  unfold dErr
  simp only [PyData.shown]
  unfold tupleText
  rw [strLen_append, strLen_append]
  have g1 : (("(" : String) : Str).length = 1 := rfl
  have g2 : ((if (PyData.shownAll [.str (mkS l), dF f]).length == 1 then ",)" else ")" : String) : Str).length ≤ 2 := by split <;> decide
  have g3 := join_length_add (PyData.shownAll [.str (mkS l), dF f]) (by simp [PyData.shownAll])
  have g4 : piled (PyData.shownAll [.str (mkS l), dF f]) ≤ 104 + 1921 + 100 := by
    simp only [PyData.shownAll, piled, List.map_cons, List.map_nil, List.sum_cons, List.sum_nil]
    omega
  have e : sizeLine = 16777216 := sizeLine_eq
  omega
theorem r_reprErr {K : PySem.W.Frag} {H : Hp} {Q : VK} {p : Addr} {l : List Nat} {f : Option Nat} (e : H p = some (.tup [T l, oV f])) (hl : l.length ≤ 10) (ha : Asc l) (hf : ∀ n, f = some n → n < 1000) (h : Q (.str (dErr l f).shown) H) : rReprD K [.ref p] H Q := by
  refine .inr ⟨p, dErr l f, rfl, dp_err e, ?_, ?_, ?_, shErr_len hl ha hf, h⟩
  · cases f with
    | none => simp [dErr, dF, PyData.showable, PyData.showableAll]
    | some n =>
      have := hf n rfl
      have h2 : (n : Int).natAbs.log2 ≤ n := by rw [Int.natAbs_natCast]; exact Nat.log2_le_self n
      simp only [dErr, dF, PyData.showable, PyData.showableAll, Bool.and_true, Bool.true_and, decide_eq_true_eq]
      omega
  · cases f <;> simp [dErr, dF, PyData.hasDict, PyData.hasDictAll]
  · cases f <;> simp [dErr, dF, PyData.depth, PyData.depthAll]
/-! the root, as the law finds it -/
theorem per_first {R : List Nat} {k : Nat} (hk : 0 < k) (hk2 : k ≤ R.length) (hg : repL (R.take k) (R.length / k) = R) (hn : ∀ j, 0 < j → j < k → ¬ (R.length % j = 0 ∧ repL (R.take j) (R.length / j) = R)) : per R = k := by
  have hne : R ≠ [] := fun e => by rw [e] at hk2; simp at hk2; omega
  have hp := per_spec hne
  have hl : (R.take k).length = k := by rw [List.length_take]; omega
  have hr : rot R k = R := by
    have := rot_repL (R.take k) (R.length / k)
    rw [hg, hl] at this
    exact this
  rcases Nat.lt_trichotomy (per R) k with h | h | h
  · exact absurd ⟨Nat.mod_eq_zero_of_dvd hp.dvd_len, hp.rep⟩ (hn _ hp.1 h)
  · exact h
  · exact absurd hr (hp.2.2.2 k hk h)
theorem per_none {R : List Nat} (hn : ∀ j, 0 < j → j ≤ R.length → ¬ (R.length % j = 0 ∧ repL (R.take j) (R.length / j) = R)) : R = [] := Classical.byContradiction fun hne => by
  have hp := per_spec hne
  exact hn _ hp.1 hp.2.1 ⟨Nat.mod_eq_zero_of_dvd hp.dvd_len, hp.rep⟩
theorem wr_self {most : Nat} : ∀ {l : List Nat}, Row l → Wr most l l
  | [], _ => Wr.nil
  | c :: l, h => (Wr.one (h c (by simp))).app (wr_self fun d hd => h d (by simp [hd]))
theorem lo1_bad {a : List Nat} (ha : Al a) {u : List Nat} (hu : Row u) : (u.filter fun c => decide (¬ (c ∈ a ++ a.map up1))) = [] ↔ RowOf a u := by
  rw [List.filter_eq_nil_iff]
  exact ⟨fun h c hc => Classical.not_not.mp fun z => h c hc (decide_eq_true z), fun h c hc z => (of_decide_eq_true z) (h c hc)⟩
/-! the law's loop -/
theorem bstp_wok {ss : List DS} {s : DS} {pr : Prt} (ha : Al s.a) (h : WOk s) (hs : ∀ u ∈ ss, WOk u) (ho : pr.ok) : WOk (bstp ss s pr).2.2 ∧ (∀ u ∈ (bstp ss s pr).2.1, WOk u) ∧ (bstp ss s pr).2.1.length ≤ ss.length + 1 := by
  cases pr with
  | ord o =>
    refine ⟨obeh_ok ha h ho, ?_, ?_⟩
    · simp only [bstp]
      split
      · intro u hu
        rcases List.mem_append.mp hu with hu | hu
        · exact hs u hu
        · rw [List.mem_singleton.mp hu]; exact h
      · exact hs
    · simp only [bstp]
      split
      · simp
      · omega
  | rules => exact ⟨h, hs, by simp only [bstp]; omega⟩
  | root => exact ⟨h, hs, by simp only [bstp]; omega⟩
  | undo =>
    rcases List.eq_nil_or_concat ss with rfl | ⟨ss', s', rfl⟩
    · rw [bstp_undo0]; exact ⟨h, hs, by simp⟩
    · rw [List.concat_eq_append] at *
      rw [bstp_undo1]
      exact ⟨hs s' (by simp), fun u hu => hs u (by simp [hu]), by simp; omega⟩
theorem spDsk_new {K : PySem.W.Frag} {C' : Addr} {H : Hp} {P : Addr → Hp → Prop} (hC : cA K "Desk" = C')
    (h : ∀ x p r H', H x = none → H p = none → Same H H' → RulO K (cA K "Rules") H' r [97, 98] [] → DskO (cA K "Desk") H' x p r [] [] → P x H') :
    ∀ x dx, H x = none → H dx = none → dx ≠ x → ∃ (x1 dx1 : Addr), [V.ref x] = [.ref x1] ∧ upd (upd H dx (.own x)) x (.ins C' dx []) x1 = some (.ins (cA K "Desk") dx1 []) ∧
      ∀ H' p r, upd (upd H dx (.own x)) x (.ins C' dx []) p = none → upd (upd H dx (.own x)) x (.ins C' dx []) r = none → Kp x1 (upd (upd H dx (.own x)) x (.ins C' dx [])) H' → RulO K (cA K "Rules") H' r [97, 98] [] → DskO (cA K "Desk") H' x1 p r [] [] → V.non = .non ∧ P x H' := by
  subst hC
  intro x dx nx nd hne
  have s1 : Same H (upd (upd H dx (.own x)) x (.ins (cA K "Desk") dx [])) := fun b o e => by
    have h1 : b ≠ x := fun z => by rw [z, nx] at e; cases e
    have h2 : b ≠ dx := fun z => by rw [z, nd] at e; cases e
    rw [upd_ne h1, upd_ne h2]; exact e
  exact ⟨x, dx, rfl, upd_same, fun H' p r np nr k hr hd => ⟨rfl, h x p r H' nx (s1.free np) (fun b o e => k _ _ (fun z => by rw [z, nx] at e; cases e) (s1 _ _ e)) hr hd⟩⟩
theorem paired_sta {H H' : Hp} {L : List Addr} {vs : List V} {ss : List DS} (h : Paired (StA H) vs ss) (k : Kx L H H') : Paired (StA H') vs ss := L2.Paired.mapP h fun _ _ z => z.kx k
end NX
set_option maxHeartbeats 2000000
namespace NX
open PySem PySem.Spec PyProof.Rows L2
/-! ### defs that ask for a token (text.replace), where no guard stands -/
theorem psstNox {X : Cx} {st : List Stmt} {t : TS} (h : PSsT X.nox st t) : PSsT X st t := fun pins s σ H D h0 I hw =>
  wpAny_mono (h pins s σ H D h0 (I.wish _) hw) (fun _ _ q => q.unwish) fun _ _ z => False.elim z
section
variable {CX : CXT} {P : Program} {w : World} {K : PySem.W.Frag} {mg : Str → Option Value} {base : Heap} {k : Nat} {f : Addr}
theorem fnG_ofT {name qual : Str} {params : Arguments} {body : List Stmt} {scope : Scope} {dV kV doc pm cdv ct oc : Value} {an od : Option Addr}
    {osl : Array (Option Value)} {N ps : List Str} {sp : Sp} (lk : K.lookup f = some ⟨oc, od, .func (PySem.W.fnOf name qual params body scope dV kV doc pm an cdv ct), osl⟩) (hcd : PySem.W.codeIn K cdv qual = true) (S : FnScope N ps scope)
    (hnc : ∀ y ∈ scope.names, y.2 ≠ .cell) (hps : 1 ≤ ps.length) (len : ∀ vs H Q E, sp vs H Q E → vs.length = ps.length)
    (hbody : ∀ (A : Around) (outer : List Env) (s : Shared) (H : Hp) (vs : List V) (Q : VK) (E : XK), (A.deeper (envOfC qual scope s.heap.objs.size f cdv)).guards = some [] → Room k (A.deeper (envOfC qual scope s.heap.objs.size f cdv)) → sp vs H Q E →
      ∃ t, PSsT (cxOf CX P w K mg base N qual scope f cdv A outer s H E) body t ∧ t { nx := fun _ H' => Q .non H', rt := Q } (L2.start N vs) H) :
    FnG P w K mg base CX (k + 1) f (PySem.W.fnOf name qual params body scope dV kV doc pm an cdv ct) ps sp := by
  refine ⟨len, fun A outer s H args us vs Q E hgu hr e0 hb r hsp => ?_⟩
  obtain ⟨t, ht, hq⟩ := hbody A outer s H vs Q E hgu (hr.deeper _) hsp
  have hl := len _ _ _ _ hsp
  have hul : us.length = ps.length := by rw [← r.length, hl]
  have KX : K.In s.heap := e0.mod.kin.keeps fun b o e => (e0.bs b o e).1
  have lim : s.heap.NoLimit := e0.mod.nolimit.keeps fun b o e => (e0.bs b o e).1
  have hloc : ∀ y ∈ ps.zip us, scope.names.lookup y.1 = some .local := by
    intro y hy
    rcases S.par y.1 (List.of_mem_zip hy).1 with q | q
    · exact q
    · exact absurd rfl (hnc _ (PySem.mem_of_lookup q))
  refine codeAny_call_function hr.depth (KX _ _ lk) rfl S.co S.gen rfl (PySem.W.codeRec_of KX hcd) (hb _ _ _ _ ?_)
  refine wpAny_newFunctionEnv hnc hloc (fun h1 hns hsb => ?_) S.kind
  have hz : (ps.zip us).length = ps.length := by rw [List.length_zip, hul, Nat.min_self]
  have keep : ∀ b o, s.heap.get? b = some o → h1.get? b = some o := fun b o e => hsb.extBut b o (Nat.ne_of_lt (Heap.lt_size e)) (Heap.get?_push_of_some _ e)
  have hcl : cellsFrom (s.heap.objs.size + 1) scope.names [] = [] := cells_none _ _ _ hnc
  have henv : newEnv scope s.heap.objs.size mainGlobals [] (qual ++ ".<locals>.") (some f) cdv none builtinsNs = envOfC qual scope s.heap.objs.size f cdv := by
    unfold envOfC
    rw [hcl] <;> rfl
  have hkl : ∀ y ∈ ps.zip us, (envOfC qual scope s.heap.objs.size f cdv).kindOf y.1 = some .local := by
    intro y hy
    simpa [Env.kindOf, envOfC, newEnv, S.kind] using hloc y hy
  have hm : (bindL (envOfC qual scope s.heap.objs.size f cdv).kindOf (ps.zip us) fun _ => none) = fun x => (ps.zip us).reverse.lookup x := by
    funext y
    rw [bindL_loc _ _ hkl y]
    cases (ps.zip us).reverse.lookup y <;> rfl
  have x : InCallC s s.heap.objs.size (bindL (envOfC qual scope s.heap.objs.size f cdv).kindOf (ps.zip us) fun _ => none) (cellsFrom (s.heap.objs.size + 1) scope.names [])
      (bindC (envOfC qual scope s.heap.objs.size f cdv).kindOf (ps.zip us) fun _ => none) ({ s with heap := h1, toks := s.toks + (ps.zip us).length } : Shared) := by
    rw [hm, hcl]
    exact ⟨⟨⟨_, _, rfl⟩, hns, keep, Nat.le_refl _⟩, fun n c hc => absurd hc (by simp), .nil, fun n c hc => absurd hc (by simp)⟩
  have hto : 1 ≤ ({ s with heap := h1, toks := s.toks + (ps.zip us).length } : Shared).toks := by
    show 1 ≤ s.toks + (ps.zip us).length
    omega
  show ({ s with heap := h1, toks := s.toks + (ps.zip us).length } : Shared).heap.NoLimit ∧ codeAny (model P w) A (.func body (newEnv scope s.heap.objs.size mainGlobals [] (qual ++ ".<locals>.") (some f) cdv none builtinsNs)) _ ({ s with heap := h1, toks := s.toks + (ps.zip us).length } : Shared)
  rw [henv]
  generalize ({ s with heap := h1, toks := s.toks + (ps.zip us).length } : Shared) = s1 at x hto ⊢
  refine ⟨lim.keeps x.toInCall.keep, codeAny_func ?_⟩
  have I := inv_start (CX := CX) (E := E) S hr.hd e0 hl r x
  refine wpAny_mono (ht [] s1 (L2.start N vs) H _ hto I hq) (fun fl s' hs => ?_) fun e s' hs => hs
  cases fl with
  | ret u =>
    obtain ⟨v, σ', H', J, rv, q⟩ := hs
    exact ⟨v, H', J.os, J.bare, J.base, J.hok, rv, q⟩
  | next =>
    obtain ⟨σ', H', J, q⟩ := hs
    exact ⟨.non, H', J.os, J.bare, J.base, J.hok, rfl, q⟩
  | brk =>
    obtain ⟨_, _, _, q⟩ := hs
    exact False.elim q
  | cont =>
    obtain ⟨_, _, _, q⟩ := hs
    exact False.elim q
theorem funGT {x qual : Str} {st : Stmt} {fd : FuncData} {N ps : List Str} {sp : Sp} (F : Fun K x qual st f fd) (S : FnScope N ps (defScope st)) (hnc : ∀ y ∈ (defScope st).names, y.2 ≠ .cell) (hps : 1 ≤ ps.length) (len : ∀ vs H Q E, sp vs H Q E → vs.length = ps.length)
    (hbody : ∀ (cdv : Value) (A : Around) (outer : List Env) (s : Shared) (H : Hp) (vs : List V) (Q : VK) (E : XK), (A.deeper (envOfC qual (defScope st) s.heap.objs.size f cdv)).guards = some [] → Room k (A.deeper (envOfC qual (defScope st) s.heap.objs.size f cdv)) → sp vs H Q E →
      ∃ t, PSsT (cxOf CX0 P w K mg base N qual (defScope st) f cdv A outer s H E).nox (defBody st) t ∧ t { nx := fun _ H' => Q .non H', rt := Q } (L2.start N vs) H) : FnG P w K mg base CX0 (k + 1) f fd ps sp := by
  obtain ⟨oc, od, kV, doc, pm, an, cdv, ct, osl, rfl, lk, hcd⟩ := F.ex
  refine fnG_ofT lk hcd S hnc hps len fun A outer s H vs Q E hgu hr hsp => ?_
  obtain ⟨t, h, q⟩ := hbody cdv A outer s H vs Q E hgu hr hsp
  exact ⟨t, psstNox h, q⟩
end
theorem pet_ifX {X : Cx} {c a b : Expr} {pos : Pos} {tA : TT} {ta tb : TE} (hc : PT X c tA) (ha : PET X a ta) (hb : PET X b tb) : PET X (.IfExp c a b pos) (tIf tA ta tb) := by
  intro pins s σ H Q h0 I h
  refine wpAny_IfExp (wpAny_mono (PySem.wpAny_toks (hc.run pins s σ H _ I h)) (fun d s1 q => ?_) fun _ _ z => z.2)
  obtain ⟨hk, H1, I1, q1⟩ := q
  cases d with
  | true => exact ha pins s1 σ H1 Q (Nat.le_trans h0 hk) I1 q1
  | false => exact hb pins s1 σ H1 Q (Nat.le_trans h0 hk) I1 q1
/-- text.replace of two written texts -/
theorem r_replC {to : TE} {y z : Str} {σ : L2.St} {H : Hp} {Q : VK} (h : to σ H fun v H1 => ∃ x, v = .str x ∧ x.length + (x.length + 1) * z.length ≤ 16777216 ∧ Q (.str (Txt.replace x y z)) H1) : CwR.tReplC to y z σ H Q := h
theorem replL_one {c : Nat} : ∀ l : List Nat, StrLaws.replL [c] [] l = l.filter fun d => decide (d ≠ c)
  | [] => StrLaws.replL_nil
  | d :: l => by
    by_cases e : d = c
    · rw [StrLaws.replL_hit (by simp) (by simp [e]), List.filter_cons, if_neg (by simp [e])]
      exact replL_one l
    · rw [StrLaws.replL_miss (by simp [e]), List.filter_cons, if_pos (by simp [e]), replL_one l]
theorem repl_dash (l : List Nat) : Txt.replace (mkS l) ("-" : Str) ("" : Str) = mkS (l.filter fun d => decide (d ≠ 45)) := by
  apply TL.ext_tl
  show (Txt.replace (mkS l) ("-" : Str) ("" : Str)).cps.toList = (mkS _).cps.toList
  rw [StrLaws.replace_list (by decide), show ("-" : Str).cps.toList = [45] by decide +kernel, show ("" : Str).cps.toList = [] by decide +kernel, show (mkS l).cps.toList = l by simp [mkS], replL_one]
  simp [mkS]
theorem wrt_no45 {l : List Nat} (h : Row l) (hl : l.length ≤ 300) : 45 ∉ wrt l := fun z => by
  have h1 := (wrt_wr (most := 300) l.length l (Nat.le_refl _) (by omega) h).read hl
  rw [rd_sign (by decide) (by decide) _ _ _ (Nat.le_refl _) z] at h1
  cases h1
theorem repl_short {l : List Nat} (h : Row l) (hl : l.length ≤ 300) : Txt.replace (mkS (short l)) ("-" : Str) ("" : Str) = mkS (wrt l) := by
  rw [repl_dash]
  congr 1
  unfold short
  split
  · rename_i e; rw [e, wrt_nil]; rfl
  · rw [List.filter_eq_self]
    intro c hc
    exact decide_eq_true fun e => wrt_no45 h hl (e ▸ hc)
/-- str(x) of a number or a text -/
theorem call_strIS {X : Cx} : CallR X (.type "str") (fun xs H Q => (∃ i, xs = [.int i] ∧ i.natAbs.log2 < 1920 ∧ Q (.str (toString i)) H) ∨ ∃ a, xs = [.str a] ∧ Q (.str a) H) := fun pins s σ H xs us Q I r h =>
  h.elim (call_str_int pins s σ H xs us Q I r) (SkE.call_str_str pins s σ H xs us Q I r)
section
variable {X : Cx} {CX : CXT} {k : Nat} {f C : Addr} {fd : FuncData} {ps : List Str} {sp : Sp} {dvs : List V} {ds : List Value} {E : XK} {x : Str} {p pos : Pos}
theorem pe_make0G (hgu : X.A.guards = some []) (M : Mk X.K C f) (F : FnG X.prog X.w X.K X.mg X.base CX k f fd ps sp) (hr : Room (k + 1) X.A) (hg : Gl X x) (hm : X.mg x = some (.ref C)) (hb : Binds X.K fd ps ds) (hd : Vals dvs ds) (hx : Passes CX X E)
    (hdb : (x == ("__debug__" : Str)) = false := by decide) : PE X (.Call (.Name x p) [] [] pos) (tMake C sp dvs E tNil) := by
  refine ⟨fun pins s σ H Q I h => ?_⟩
  refine wpAny_Call_Name_kw (ld_glob I hg hm ?_ hdb)
  exact PySem.W.callWith_K0 I.kIn M.kp (run_makeG (us := []) hgu M F hr hb hd hx I .nil h)
end
end NX
namespace NX
open PySem PySem.Spec PyProof.Rows L2
/-! ### two desks, each with a list of its states -/
structure Dk where
  x : Addr
  p : Addr
  q : Addr
  vs : List V
  ss : List DS
  s : DS
def Dk.own (d : Dk) : List Addr := [d.x, d.p, d.q]
def DkG (K : PySem.W.Frag) (H : Hp) (d : Dk) (n : Nat) : Prop := DskA K H d.x d.p d.ss d.s ∧ H d.q = some (.lst d.vs) ∧ Paired (StA H) d.vs (d.ss ++ [d.s]) ∧ WOk d.s ∧ (∀ u ∈ d.ss, WOk u) ∧ d.ss.length ≤ n ∧ d.q ≠ d.p
section
variable {K : PySem.W.Frag} {L : List Addr} {H H' : Hp} {d : Dk} {n : Nat}
theorem DkG.oty (h : DkG K H d n) : ∀ a ∈ d.own, Oty H a := fun a ha => by
  simp only [Dk.own, List.mem_cons, List.not_mem_nil, or_false] at ha
  rcases ha with rfl | rfl | rfl
  · exact h.1.otyx
  · exact h.1.otyp
  · exact Oty.l h.2.1
theorem Oty.stand {a : Addr} (h : Oty H a) : H a ≠ none := by
  rcases h with ⟨xs, e⟩ | ⟨C, dx, p, r, w, e⟩ <;> rw [e] <;> simp
theorem DkG.stand (h : DkG K H d n) : ∀ a ∈ d.own, H a ≠ none := fun a ha => (h.oty a ha).stand
theorem DkG.qx (h : DkG K H d n) : d.q ≠ d.x := fun z => by
  obtain ⟨dx, r, e⟩ := h.1.ins
  have := h.2.1
  rw [z, e] at this; cases this
theorem DkG.kx (h : DkG K H d n) (k : Kx L H H') (n1 : ∀ a ∈ L, a ∉ d.own) (o : ∀ a ∈ L, Oty H a) : DkG K H' d n := by
  obtain ⟨h1, h2, h3, h4, h5, h6, h7⟩ := h
  refine ⟨h1.kx k (fun z => n1 _ z (by simp [Dk.own])) (fun z => n1 _ z (by simp [Dk.own])) o, k.1 _ _ (fun z => n1 _ z (by simp [Dk.own])) h2, paired_sta h3 k, h4, h5, h6, h7⟩
theorem DkG.same (h : DkG K H d n) (s : Same H H') : DkG K H' d n := h.kx (Kx.of (L := []) s) (by simp) (by simp)
theorem DkG.mono {m : Nat} (h : DkG K H d n) (l : n ≤ m) : DkG K H d m := ⟨h.1, h.2.1, h.2.2.1, h.2.2.2.1, h.2.2.2.2.1, Nat.le_trans h.2.2.2.2.2.1 l, h.2.2.2.2.2.2⟩
theorem DkG.last (h : DkG K H d n) : ∃ vs v, d.vs = vs ++ [v] ∧ StA H v d.s ∧ Paired (StA H) vs d.ss := by
  obtain ⟨vs, v, e, hp, hv⟩ := paired_last h.2.2.1
  exact ⟨vs, v, e, hv, hp⟩
end
/-- all that the law keeps -/
def TwoD (K : PySem.W.Frag) (H : Hp) (dl pl : Addr) (f : Nat → Dk) (n : Nat) : Prop := H dl = some (.lst [.ref (f 0).x, .ref (f 1).x]) ∧ H pl = some (.lst [.ref (f 0).q, .ref (f 1).q]) ∧ dl ≠ pl ∧ (∀ i, i < 2 → DkG K H (f i) n ∧ dl ∉ (f i).own ∧ pl ∉ (f i).own) ∧ ∀ i j, i < 2 → j < 2 → i ≠ j → ∀ a ∈ (f i).own, a ∉ (f j).own
def twoAll (dl pl : Addr) (f : Nat → Dk) : List Addr := dl :: pl :: ((f 0).own ++ (f 1).own)
def putD (f : Nat → Dk) (i : Nat) (d : Dk) : Nat → Dk := fun k => if k = i then d else f k
theorem putD_same {f : Nat → Dk} {i : Nat} {d : Dk} : putD f i d i = d := if_pos rfl
theorem putD_ne {f : Nat → Dk} {i k : Nat} {d : Dk} (h : k ≠ i) : putD f i d k = f k := if_neg h
section
variable {K : PySem.W.Frag} {L : List Addr} {H H' : Hp} {dl pl : Addr} {f : Nat → Dk} {n : Nat} {i : Nat} {d : Dk}
theorem twoAll_own (hi : i < 2) {a : Addr} (ha : a ∈ (f i).own) : a ∈ twoAll dl pl f := by
  unfold twoAll
  rcases (show i = 0 ∨ i = 1 by omega) with rfl | rfl <;> simp [ha]
theorem TwoD.stand (h : TwoD K H dl pl f n) : ∀ a ∈ twoAll dl pl f, H a ≠ none := fun a ha => by
  obtain ⟨h1, h2, h3, h4, h5⟩ := h
  simp only [twoAll, List.mem_cons, List.mem_append] at ha
  rcases ha with rfl | rfl | ha | ha
  · rw [h1]; simp
  · rw [h2]; simp
  · exact (h4 0 (by decide)).1.stand a ha
  · exact (h4 1 (by decide)).1.stand a ha
theorem TwoD.oty (h : TwoD K H dl pl f n) : ∀ a ∈ twoAll dl pl f, Oty H a := fun a ha => by
  obtain ⟨h1, h2, h3, h4, h5⟩ := h
  simp only [twoAll, List.mem_cons, List.mem_append] at ha
  rcases ha with rfl | rfl | ha | ha
  · exact Oty.l h1
  · exact Oty.l h2
  · exact (h4 0 (by decide)).1.oty a ha
  · exact (h4 1 (by decide)).1.oty a ha
theorem TwoD.kx (h : TwoD K H dl pl f n) (k : Kx L H H') (hn : ∀ a ∈ L, a ∉ twoAll dl pl f) (o : ∀ a ∈ L, Oty H a) : TwoD K H' dl pl f n := by
  obtain ⟨h1, h2, h3, h4, h5⟩ := h
  refine ⟨k.1 _ _ (fun z => hn _ z (by simp [twoAll])) h1, k.1 _ _ (fun z => hn _ z (by simp [twoAll])) h2, h3, fun i hi => ?_, h5⟩
  obtain ⟨g, g1, g2⟩ := h4 i hi
  exact ⟨g.kx k (fun a ha z => hn a ha (twoAll_own hi z)) o, g1, g2⟩
theorem TwoD.same (h : TwoD K H dl pl f n) (s : Same H H') : TwoD K H' dl pl f n := h.kx (Kx.of (L := []) s) (by simp) (by simp)
theorem TwoD.wl {w : Addr} {m : Nat} (h : TwoD K H dl pl f n) (hw : Wl H w m) (k : Kp w H H') (hn : w ∉ twoAll dl pl f) : TwoD K H' dl pl f n :=
  h.kx (Kx.kp k hw) (by simpa using hn) (by simpa using Oty.wl hw)
theorem TwoD.mono {m : Nat} (h : TwoD K H dl pl f n) (l : n ≤ m) : TwoD K H dl pl f m := ⟨h.1, h.2.1, h.2.2.1, fun i hi => ⟨(h.2.2.2.1 i hi).1.mono l, (h.2.2.2.1 i hi).2⟩, h.2.2.2.2⟩
/-- something is done with one of them -/
theorem TwoD.step {m : Nat} (h : TwoD K H dl pl f n) (hi : i < 2) (k : Kx L H H') (hL : ∀ a ∈ L, a ∈ (f i).own) (g : DkG K H' d m) (hx : d.x = (f i).x) (hp : d.p = (f i).p) (hq : d.q = (f i).q) (l : n ≤ m) : TwoD K H' dl pl (putD f i d) m := by
  obtain ⟨h1, h2, h3, h4, h5⟩ := h
  have ho : d.own = (f i).own := by simp only [Dk.own, hx, hp, hq]
  have hO := (h4 i hi).1.oty
  have hfx : ∀ j, (putD f i d j).x = (f j).x := fun j => by
    by_cases e : j = i
    · subst e; rw [putD_same]; exact hx
    · rw [putD_ne e]
  have hfq : ∀ j, (putD f i d j).q = (f j).q := fun j => by
    by_cases e : j = i
    · subst e; rw [putD_same]; exact hq
    · rw [putD_ne e]
  have hfo : ∀ j, (putD f i d j).own = (f j).own := fun j => by
    by_cases e : j = i
    · subst e; rw [putD_same]; exact ho
    · rw [putD_ne e]
  refine ⟨?_, ?_, h3, fun j hj => ?_, fun a b ha hb hab => by rw [hfo, hfo]; exact h5 a b ha hb hab⟩
  · rw [hfx, hfx]; exact k.1 _ _ (fun z => (h4 i hi).2.1 (hL _ z)) h1
  · rw [hfq, hfq]; exact k.1 _ _ (fun z => (h4 i hi).2.2 (hL _ z)) h2
  · rw [hfo]
    refine ⟨?_, (h4 j hj).2⟩
    by_cases e : j = i
    · subst e; rw [putD_same]; exact g
    · rw [putD_ne e]
      exact ((h4 j hj).1.kx k (fun a ha => h5 i j hi hj (fun z => e z.symm) a (hL a ha)) (fun a ha => hO a (hL a ha))).mono l
/-- one of them is made anew -/
theorem TwoD.put {H1 H2 H3 H4 : Hp} (h : TwoD K H dl pl f n) (hi : i < 2) (s1 : Same H H1) (e2 : H2 = upd H1 dl (.lst ([V.ref (f 0).x, .ref (f 1).x].set i (.ref d.x)))) (s3 : Same H2 H3) (e4 : H4 = upd H3 pl (.lst ([V.ref (f 0).q, .ref (f 1).q].set i (.ref d.q))))
    (hn : ∀ a ∈ d.own, H a = none) (g : DskA K H1 d.x d.p d.ss d.s) (gq : H3 d.q = some (.lst d.vs)) (gs : Paired (StA H3) d.vs (d.ss ++ [d.s])) (gw : WOk d.s) (gws : ∀ u ∈ d.ss, WOk u) (gn : d.ss.length ≤ n) (gqp : d.q ≠ d.p) : TwoD K H4 dl pl (putD f i d) n := by
  have hst := h.stand
  obtain ⟨h1, h2, h3, h4, h5⟩ := id h
  have hfr : ∀ a ∈ d.own, a ∉ twoAll dl pl f := fun a ha z => hst a z (hn a ha)
  have hdl : dl ∉ d.own := fun z => hfr _ z (by simp [twoAll])
  have hpl : pl ∉ d.own := fun z => hfr _ z (by simp [twoAll])
  have d1 := s1 _ _ h1
  have p1 := s1 _ _ h2
  have k12 : Kx [dl, pl] H1 H2 := by rw [e2]; exact Kx.refl.putL d1 (by simp)
  have p2 : H2 pl = some (.lst [.ref (f 0).q, .ref (f 1).q]) := by rw [e2, upd_ne h3.symm]; exact p1
  have k34 : Kx [dl, pl] H3 H4 := by rw [e4]; exact Kx.refl.putL (s3 _ _ p2) (by simp)
  have k14 : Kx [dl, pl] H1 H4 := k12.trans ((Kx.of s3).trans k34)
  have hO1 : ∀ a ∈ [dl, pl], Oty H1 a := fun a ha => by
    simp only [List.mem_cons, List.not_mem_nil, or_false] at ha
    rcases ha with rfl | rfl
    · exact Oty.l d1
    · exact Oty.l p1
  have dl4 : H4 dl = some (.lst ([V.ref (f 0).x, .ref (f 1).x].set i (.ref d.x))) := by
    rw [e4, upd_ne h3]; exact s3 _ _ (by rw [e2]; exact upd_same)
  have pl4 : H4 pl = some (.lst ([V.ref (f 0).q, .ref (f 1).q].set i (.ref d.q))) := by rw [e4]; exact upd_same
  refine ⟨?_, ?_, h3, fun j hj => ?_, fun a b ha hb hab c hc hc2 => ?_⟩
  · rw [dl4]
    rcases (show i = 0 ∨ i = 1 by omega) with rfl | rfl <;> simp [putD]
  · rw [pl4]
    rcases (show i = 0 ∨ i = 1 by omega) with rfl | rfl <;> simp [putD]
  · by_cases e : j = i
    · subst e
      rw [putD_same]
      refine ⟨⟨g.kx k14 (fun z => ?_) (fun z => ?_) hO1, k34.1 _ _ (fun z => ?_) gq, paired_sta gs k34, gw, gws, gn, gqp⟩, hdl, hpl⟩
      all_goals
        simp only [List.mem_cons, List.not_mem_nil, or_false] at z
        rcases z with z | z
        · exact hdl (by rw [← z]; simp [Dk.own])
        · exact hpl (by rw [← z]; simp [Dk.own])
    · rw [putD_ne e]
      obtain ⟨g1, g2, g3⟩ := h4 j hj
      refine ⟨(g1.same s1).kx k14 (fun a ha z => ?_) hO1, g2, g3⟩
      simp only [List.mem_cons, List.not_mem_nil, or_false] at ha
      rcases ha with rfl | rfl
      · exact g2 z
      · exact g3 z
  · by_cases ea : a = i
    · subst ea
      rw [putD_same] at hc
      rw [putD_ne (fun z => hab z.symm)] at hc2
      exact hfr c hc (twoAll_own hb hc2)
    · rw [putD_ne ea] at hc
      by_cases eb : b = i
      · subst eb
        rw [putD_same] at hc2
        exact hfr c hc2 (twoAll_own ha hc)
      · rw [putD_ne eb] at hc2
        exact h5 a b ha hb hab c hc hc2
end
theorem obeh_err {s : DS} {o : Ord} (h : (obeh s o).1.isT = false) : (obeh s o).2 = s := by
  cases o with
  | letters b => cases h
  | tell u =>
    simp only [obeh] at h ⊢
    split at h
    · rename_i c
      rw [if_pos c]
      split at h
      · cases h
      · rename_i c2; rw [if_neg c2]
    · rename_i c; rw [if_neg c]
  | drop n =>
    simp only [obeh] at h ⊢
    split at h
    · cases h
    · rename_i c; rw [if_neg c]
  | row u =>
    simp only [obeh] at h ⊢
    split at h
    · cases h
    · rename_i c; rw [if_neg c]
theorem same_kx {L : List Addr} {H H1 H2 : Hp} (s : Same H H1) (k : Kx L H1 H2) (n : ∀ a ∈ L, H a = none) : Same H H2 := fun b o e => k.1 b o (fun z => by rw [n b z] at e; cases e) (s b o e)
theorem putD_self {f : Nat → Dk} {i : Nat} : putD f i (f i) = f := by
  funext k
  unfold putD
  split
  · rename_i e; rw [e]
  · rfl
theorem TwoD.show {K : PySem.W.Frag} {H H' : Hp} {dl pl : Addr} {f : Nat → Dk} {n i : Nat} (h : TwoD K H dl pl f n) (hi : i < 2) (k : Kx [(f i).x, (f i).p] H H') (hA : DskA K H' (f i).x (f i).p (f i).ss (f i).s) : TwoD K H' dl pl f n := by
  have g := (h.2.2.2.1 i hi).1
  have hqx := g.qx
  obtain ⟨g1, g2, g3, g4, g5, g6, g7⟩ := g
  have := h.step (d := f i) (m := n) hi k (fun a ha => by simp only [List.mem_cons, List.not_mem_nil, or_false] at ha; rcases ha with rfl | rfl <;> simp [Dk.own]) ⟨hA, k.1 _ _ (by simp [hqx, g7]) g2, paired_sta g3 k, g4, g5, g6, g7⟩ rfl rfl rfl (Nat.le_refl _)
  rwa [putD_self] at this
theorem at_two {g : Nat → V} {j : Nat} (h : j < 2) : atI [g 0, g 1] (j : Int) = some (g j) := by
  rcases (show j = 0 ∨ j = 1 by omega) with rfl | rfl <;> rfl
theorem ix_two {j : Nat} (h : j < 2) : ixN 2 (j : Int) = some j := by
  rcases (show j = 0 ∨ j = 1 by omega) with rfl | rfl <;> rfl
theorem fresh_ne {H : Hp} {a b : Addr} (h1 : H a = none) (h2 : H b ≠ none) : a ≠ b := fun z => h2 (z ▸ h1)
theorem putD_all {dl pl : Addr} {f : Nat → Dk} {i : Nat} {d : Dk} (hx : d.x = (f i).x) (hp : d.p = (f i).p) (hq : d.q = (f i).q) : twoAll dl pl (putD f i d) = twoAll dl pl f := by
  have : ∀ j, (putD f i d j).own = (f j).own := fun j => by
    by_cases e : j = i
    · subst e; rw [putD_same]; simp only [Dk.own, hx, hp, hq]
    · rw [putD_ne e]
  unfold twoAll
  rw [this, this]
theorem stand_same {H H' : Hp} {a : Addr} (h : H a ≠ none) (s : Same H H') : H' a ≠ none := fun z => by
  cases e : H a with
  | none => exact h e
  | some o => rw [s _ _ e] at z; cases z
theorem stand_upd {H : Hp} {a b : Addr} {o : HO} (h : H a ≠ none) : upd H b o a ≠ none := by
  by_cases e : a = b
  · subst e; rw [upd_same]; simp
  · rw [upd_ne e]; exact h
theorem twoAll_put {dl pl a : Addr} {f : Nat → Dk} {i : Nat} {d : Dk} (h : a ∈ twoAll dl pl (putD f i d)) : a ∈ twoAll dl pl f ∨ a ∈ d.own := by
  simp only [twoAll, List.mem_cons, List.mem_append] at h ⊢
  have key : ∀ j, a ∈ (putD f i d j).own → a ∈ (f j).own ∨ a ∈ d.own := fun j hj => by
    by_cases e : j = i
    · subst e; rw [putD_same] at hj; exact .inr hj
    · rw [putD_ne e] at hj; exact .inl hj
  rcases h with h | h | h | h
  · exact .inl (.inl h)
  · exact .inl (.inr (.inl h))
  · exact (key 0 h).imp (fun h => .inr (.inr (.inl h))) id
  · exact (key 1 h).imp (fun h => .inr (.inr (.inr h))) id
end NX
namespace NX
/-! ### endless words -/
/-- the character at a place of the endless word -/
def en (x : List Nat) (i : Nat) : Nat := x.getD (i % x.length) 0
def Agr (x y : List Nat) (m : Nat) : Prop := ∀ j, j < m → en x j = en y j
theorem en_lt {x : List Nat} {i : Nat} (h : i < x.length) : en x i = x.getD i 0 := by unfold en; rw [Nat.mod_eq_of_lt h]
theorem en_add (x : List Nat) (i : Nat) : en x (i + x.length) = en x i := by unfold en; rw [Nat.add_mod_right]
theorem en_mod (x : List Nat) (i : Nat) : en x (i % x.length) = en x i := by unfold en; rw [Nat.mod_mod]
theorem en_rep {x : List Nat} {n i : Nat} (h : i < n * x.length) : (repL x n).getD i 0 = en x i := by
  induction n generalizing i with
  | zero => omega
  | succ n ih =>
    rw [repL_succ]
    rw [Nat.succ_mul] at h
    by_cases c : i < x.length
    · rw [List.getD_eq_getElem?_getD, List.getElem?_append_left c, ← List.getD_eq_getElem?_getD, en_lt c]
    · rw [List.getD_eq_getElem?_getD, List.getElem?_append_right (by omega), ← List.getD_eq_getElem?_getD, ih (by omega)]
      have := en_add x (i - x.length)
      rw [Nat.sub_add_cancel (by omega)] at this
      exact this.symm
theorem getD_app_l {a b : List Nat} {i : Nat} (h : i < a.length) : (a ++ b).getD i 0 = a.getD i 0 := by
  rw [List.getD_eq_getElem?_getD, List.getElem?_append_left h, ← List.getD_eq_getElem?_getD]
theorem getD_app_r {a b : List Nat} {i : Nat} (h : a.length ≤ i) : (a ++ b).getD i 0 = b.getD (i - a.length) 0 := by
  rw [List.getD_eq_getElem?_getD, List.getElem?_append_right h, ← List.getD_eq_getElem?_getD]
theorem rot_get {x : List Nat} {k i : Nat} (hk : k ≤ x.length) (hi : i < x.length) : (rot x k).getD i 0 = en x (k + i) := by
  unfold rot
  by_cases c : i < x.length - k
  · rw [getD_app_l (by rw [List.length_drop]; exact c), getD_drop, en_lt (by omega)]
  · rw [getD_app_r (by rw [List.length_drop]; omega), List.length_drop, getD_take (by omega)]
    have e : k + i = (i - (x.length - k)) + x.length := by omega
    rw [e, en_add, en_lt (by omega)]
theorem en_rot {x : List Nat} {k : Nat} (hk : k ≤ x.length) (i : Nat) : en (rot x k) i = en x (k + i) := by
  by_cases h0 : x.length = 0
  · have : x = [] := List.eq_nil_of_length_eq_zero h0
    subst this
    unfold en rot; simp
  · have h1 := Nat.mod_lt i (Nat.pos_of_ne_zero h0)
    rw [← en_mod (rot x k) i, rot_len, en_lt (by rw [rot_len]; exact h1), rot_get hk h1]
    unfold en
    rw [Nat.add_mod_mod]
theorem ext_en {x y : List Nat} (hl : x.length = y.length) (h : ∀ i, i < x.length → en x i = en y i) : x = y := ext_getD hl fun i hi => by rw [← en_lt hi, ← en_lt (x := y) (by omega)]; exact h i hi
/-- how far they agree -/
def IsSh (x y : List Nat) (v : Nat) : Prop := Agr x y v ∧ en x v ≠ en y v
theorem IsSh.uniq {x y : List Nat} {v w : Nat} (h : IsSh x y v) (g : IsSh x y w) : v = w := by
  rcases Nat.lt_trichotomy v w with c | c | c
  · exact absurd (g.1 v c) h.2
  · exact c
  · exact absurd (h.1 w c) g.2
/-! ### words that commute -/
theorem comw_pow : ∀ (n : Nat) (x y : List Nat), x.length + y.length ≤ n → x ++ y = y ++ x → ∃ t a b, x = repL t a ∧ y = repL t b
  | 0, x, y, h, _ => ⟨[], 0, 0, by rw [repL_zero]; exact List.eq_nil_of_length_eq_zero (by omega), by rw [repL_zero]; exact List.eq_nil_of_length_eq_zero (by omega)⟩
  | n + 1, x, y, h, e => by
    by_cases hx : x = []
    · exact ⟨y, 0, 1, by rw [repL_zero]; exact hx, (repL_one y).symm⟩
    by_cases hy : y = []
    · exact ⟨x, 1, 0, (repL_one x).symm, by rw [repL_zero]; exact hy⟩
    have px := List.length_pos_iff.mpr hx
    have py := List.length_pos_iff.mpr hy
    rcases Nat.le_total x.length y.length with c | c
    · obtain ⟨z, rfl⟩ : ∃ z, y = x ++ z := by
        refine ⟨y.drop x.length, ?_⟩
        have h1 := congrArg (List.take x.length) e
        rw [List.take_left, List.take_append_of_le_length c] at h1
        conv => lhs; rw [← List.take_append_drop x.length y, ← h1]
      have e2 : x ++ z = z ++ x := by
        rw [List.append_assoc] at e
        exact List.append_cancel_left e
      obtain ⟨t, a, b, h1, h2⟩ := comw_pow n x z (by rw [List.length_append] at h; omega) e2
      exact ⟨t, a, a + b, h1, by rw [repL_add, ← h1, ← h2]⟩
    · obtain ⟨z, rfl⟩ : ∃ z, x = y ++ z := by
        refine ⟨x.drop y.length, ?_⟩
        have h1 := congrArg (List.take y.length) e
        rw [List.take_left, List.take_append_of_le_length c] at h1
        conv => lhs; rw [← List.take_append_drop y.length x, h1]
      have e2 : y ++ z = z ++ y := by
        rw [List.append_assoc] at e
        exact (List.append_cancel_left e).symm
      obtain ⟨t, a, b, h1, h2⟩ := comw_pow n y z (by rw [List.length_append] at h; omega) e2
      exact ⟨t, a + b, a, by rw [repL_add, ← h1, ← h2], h1⟩
/-! ### words that are no powers -/
def PrW (x : List Nat) : Prop := IsPer x x.length
theorem PrW.ne {x : List Nat} (h : PrW x) : x ≠ [] := fun e => by have := h.1; rw [e] at this; simp at this
theorem PrW.one {x t : List Nat} {a : Nat} (h : PrW x) (e : x = repL t a) : x = t := by
  have hp := h.1
  have hl := congrArg List.length e
  rw [repL_len] at hl
  have ha : 0 < a := Nat.pos_of_ne_zero fun z => by rw [z, Nat.zero_mul] at hl; omega
  have ht : 0 < t.length := Nat.pos_of_ne_zero fun z => by rw [z, Nat.mul_zero] at hl; omega
  by_cases c : a = 1
  · rw [e, c, repL_one]
  · exfalso
    have h2 : 2 * t.length ≤ a * t.length := Nat.mul_le_mul_right _ (by omega)
    refine h.2.2.2 t.length ht (by omega) ?_
    rw [e]; exact rot_repL t a
theorem PrW.eq {x y : List Nat} (h : PrW x) (g : PrW y) (e : x ++ y = y ++ x) : x = y := by
  obtain ⟨t, a, b, h1, h2⟩ := comw_pow _ x y (Nat.le_refl _) e
  rw [h.one h1, g.one h2]
theorem PrW.turn {x y : List Nat} (h : PrW x) (t : Turn x y) : PrW y := by
  have := t.per h
  unfold PrW
  rwa [← t.len]
end NX
namespace NX
/-! ### read backward -/
/-! ### the greatest shares -/
end NX
namespace NX
/-! ### powers and their overlaps -/
theorem en_repL {R : List Nat} {N : Nat} (hN : 1 ≤ N) (j : Nat) : en (repL R N) j = en R j := by
  rcases Nat.eq_zero_or_pos R.length with h0 | h0
  · have : R = [] := List.eq_nil_of_length_eq_zero h0
    subst this
    unfold en; simp [repL_nil]
  · have hp : 0 < N * R.length := Nat.mul_pos hN h0
    have h1 := Nat.mod_lt j hp
    conv => lhs; unfold en
    rw [repL_len, en_rep h1]
    unfold en
    rw [Nat.mod_mod_of_dvd j ⟨N, Nat.mul_comm _ _⟩]
theorem en_modadd (R : List Nat) (k i : Nat) : en R (k % R.length + i) = en R (k + i) := by unfold en; rw [Nat.mod_add_mod]
theorem rot_rep {R : List Nat} {N k : Nat} (hp : 0 < R.length) (hN : 1 ≤ N) (hk : k ≤ N * R.length) : rot (repL R N) k = repL (rot R (k % R.length)) N := by
  have hm := Nat.mod_lt k hp
  refine ext_en (by rw [rot_len, repL_len, repL_len, rot_len]) fun i _ => ?_
  rw [en_rot (by rw [repL_len]; exact hk), en_repL hN, en_repL hN, en_rot (by omega), en_modadd]
theorem rots_rep {R w : List Nat} {N : Nat} (hp : 0 < R.length) (hN : 1 ≤ N) : w ∈ rots (repL R N) ↔ ∃ x ∈ rots R, w = repL x N := by
  constructor
  · intro h
    obtain ⟨k, hk, rfl⟩ := rots_mem.mp h
    rw [repL_len] at hk
    exact ⟨_, rots_mem.mpr ⟨k % R.length, Nat.mod_lt _ hp, rfl⟩, rot_rep hp hN (by omega)⟩
  · rintro ⟨x, hx, rfl⟩
    obtain ⟨k, hk, rfl⟩ := rots_mem.mp hx
    have h2 : R.length ≤ N * R.length := Nat.le_mul_of_pos_left _ hN
    refine rots_mem.mpr ⟨k, by rw [repL_len]; omega, ?_⟩
    rw [rot_rep hp hN (by omega), Nat.mod_eq_of_lt hk]
theorem kin_rep {R w : List Nat} {N : Nat} (hp : 0 < R.length) (hN : 1 ≤ N) : w ∈ rots (repL R N) ++ rots (bak (repL R N)) ↔ ∃ x ∈ rots R ++ rots (bak R), w = repL x N := by
  rw [List.mem_append, bak_repL, rots_rep hp hN, rots_rep (by rw [bak_len]; exact hp) hN]
  constructor
  · rintro (⟨x, hx, e⟩ | ⟨x, hx, e⟩)
    · exact ⟨x, List.mem_append_left _ hx, e⟩
    · exact ⟨x, List.mem_append_right _ hx, e⟩
  · rintro ⟨x, hx, e⟩
    rcases List.mem_append.mp hx with q | q
    · exact .inl ⟨x, q, e⟩
    · exact .inr ⟨x, q, e⟩
end NX
namespace NX
/-! ### powers as told rows; the law's shares -/
end NX
namespace NX
/-! ### no clashes, told pair by pair -/
theorem clT_flip {rs : List (List Nat)} {i j : Nat} (h1 : 1 ≤ (rs.getD i []).length) (h2 : 1 ≤ (rs.getD j []).length) : clT rs i j = none ↔ clT rs j i = none := by
  have go : ∀ {i j : Nat}, 1 ≤ (rs.getD i []).length → 1 ≤ (rs.getD j []).length → clT rs i j = none → clT rs j i = none := fun {i j} h1 h2 h => by
    rw [clT_none h1 h2] at h
    rw [clT_none h2 h1]
    rintro ⟨a, ha, b, hb, n, hc⟩
    refine h ⟨b, hb, a, ha, n.symm, ?_⟩
    rw [cpl_comm]
    unfold szOf at hc ⊢
    rw [Nat.min_comm]
    exact hc
  exact ⟨go h1 h2, go h2 h1⟩
theorem CL_pairs {rs : List (List Nat)} {n : Nat} (h : ∀ i, i < n → 1 ≤ (rs.getD i []).length) : CL rs n n = [] ↔ ∀ j i, i ≤ j → j < n → clT rs j i = none := by
  rw [List.eq_nil_iff_forall_not_mem]
  constructor
  · intro g j i hij hj
    rw [← clT_flip (h i (by omega)) (h j hj)]
    cases e : clT rs i j with
    | none => rfl
    | some t => exact absurd (CL_mem.mpr ⟨i, j, hij, hj, e⟩) (g t)
  · intro g t ht
    obtain ⟨i, j, hij, hj, e⟩ := CL_mem.mp ht
    have := (clT_flip (h i (by omega)) (h j hj)).mpr (g j i hij hj)
    rw [this] at e; cases e
theorem clT_lg {rs : List (List Nat)} {i j m : Nat} {a b : List Nat} (ea : rs.getD i [] = a) (eb : rs.getD j [] = b) (h : IsLg (kinL a) (kinL b) m) : clT rs i j = none ↔ ¬ (0 < m ∧ min a.length b.length ≤ 6 * m) := by
  have e := lgv_eq h
  unfold clT
  rw [ea, eb, ← e]
  constructor
  · intro g c
    rw [if_pos c] at g; cases g
  · intro c
    rw [if_neg c]
end NX
set_option maxHeartbeats 4000000
namespace NX
open PySem PySem.Spec PyProof.Rows L2
/-! ### sorted(tuples, key=len) -/
/-- all that stood in g stands in h, but for what lies at a -/
def AllBut (g : Heap) (a : Addr) (h : Heap) : Prop := ∀ b o, b ≠ a → g.get? b = some o → h.get? b = some o
theorem AllBut.push {g h : Heap} {a : Addr} {o : Obj} (x : AllBut g a h) : AllBut g a (h.push o) := fun b u n e => Heap.get?_push_of_some _ (x b u n e)
/-! ### in the hand layer -/
end NX
set_option maxHeartbeats 4000000
namespace NX
open PySem PySem.Spec PyProof.Rows L2
/-! ### sorted: tuples of numbers of any lengths -/
def itI (l : List Int) : List (Int ⊕ List Nat) := l.map Sum.inl
/-- the order of tuples of numbers -/
def lxI (x y : List Int) : Bool := PyProof.Rows.lexLt PyProof.Rows.itemOrd (itI x) (itI y)
theorem itI_inj : ∀ {x y : List Int}, itI x = itI y → x = y
  | [], [], _ => rfl
  | [], _ :: _, h => by cases h
  | _ :: _, [], h => by cases h
  | a :: x, b :: y, h => by
    unfold itI at h
    rw [List.map_cons, List.map_cons] at h
    injection h with h1 h2
    injection h1 with h1
    rw [h1, itI_inj (show itI x = itI y from h2)]
theorem lxI_total {x y : List Int} (h1 : lxI x y = false) (h2 : lxI y x = false) : x = y := itI_inj (PyProof.Rows.lex_total _ _ h1 h2)
theorem lx_uniq {l m : List (List Int)} (p : l.Perm m) (h1 : l.Pairwise fun x y => lxI y x = false) (h2 : m.Pairwise fun x y => lxI y x = false) : l = m :=
  List.Perm.eq_of_pairwise (fun _ _ _ _ a b => (lxI_total b a)) h1 h2 p
section
variable {X : Cx} {pins : List (Addr × Obj)} {s : Shared} {σ : L2.St} {H : Hp}
theorem kin_paired {α β : Type} {F : α → β → Prop} {xs : List α} {ts : List β} (h : Paired F xs ts) : xs.length = ts.length ∧ ∀ (i : Nat) (h1 : i < xs.length) (h2 : i < ts.length), F xs[i] ts[i] := by
  induction h with
  | nil => exact ⟨rfl, fun i h => absurd h (by simp)⟩
  | cons a _ ih =>
    refine ⟨by rw [List.length_cons, List.length_cons, ih.1], fun i h1 h2 => ?_⟩
    cases i with
    | zero => exact a
    | succ i => exact ih.2 i (by simpa using h1) (by simpa using h2)
end
end NX
namespace NX
open PySem PySem.Spec PyProof.Rows L2
/-! ### lots of indexes -/
abbrev iL (l : List Nat) : List Int := l.map fun n : Nat => (n : Int)
def LotsO (H : Hp) (ps : List Addr) (ls : List (List Nat)) : Prop := Paired (fun p l => H p = some (HO.tup (l.map nV))) ps ls
section
variable {H H' : Hp} {ps : List Addr} {ls : List (List Nat)}
theorem LotsO.same (h : LotsO H ps ls) (s : Same H H') : LotsO H' ps ls := by
  unfold LotsO at h ⊢
  induction h with
  | nil => exact .nil
  | cons a _ ih => exact .cons (s _ _ a) ih
theorem LotsO.kp {d : Addr} {zs : List V} (h : LotsO H ps ls) (k : Kp d H H') (hd : H d = some (.lst zs)) : LotsO H' ps ls := by
  unfold LotsO at h ⊢
  induction h with
  | nil => exact .nil
  | cons a _ ih => exact .cons (k _ _ (fun z => by rw [z, hd] at a; cases a) a) ih
theorem LotsO.len (h : LotsO H ps ls) : ps.length = ls.length := (kin_paired h).1
theorem LotsO.app {qs : List Addr} {ms : List (List Nat)} (h : LotsO H ps ls) (g : LotsO H qs ms) : LotsO H (ps ++ qs) (ls ++ ms) := by
  unfold LotsO at h g ⊢
  induction h with
  | nil => exact g
  | cons a _ ih => exact .cons a ih
theorem LotsO.snoc {p : Addr} {l : List Nat} (h : LotsO H ps ls) (e : H p = some (HO.tup (l.map nV))) : LotsO H (ps ++ [p]) (ls ++ [l]) := h.app (.cons e .nil)
theorem LotsO.perm {qs : List Addr} (h : LotsO H ps ls) (p : ps.Perm qs) : ∃ ms, LotsO H qs ms ∧ ms.Perm ls := paired_perm p h
end
/-! ### subsets, in the order in which they are made -/
def subs : Nat → List (List Nat)
  | 0 => [[]]
  | n + 1 => subs n ++ (subs n).map (· ++ [n])
def subB (o l : List Nat) : Bool := o.all fun i => decide (i ∈ l)
/-- every pair is met -/
def enB (B : List (Nat × Nat)) (l : List Nat) : Bool := B.all fun b => decide (b.1 ∈ l) || decide (b.2 ∈ l)
/-- a least lot -/
def Lst (n : Nat) (B : List (Nat × Nat)) (l : List Nat) : Prop := l ∈ subs n ∧ enB B l = true ∧ ∀ o ∈ subs n, enB B o = true → subB o l = true → o = l
/-- what has been found of the first k lots -/
def Pick (n : Nat) (B : List (Nat × Nat)) (S : List (List Nat)) (k : Nat) (F : List (List Nat)) : Prop := (∀ l, l ∈ F ↔ l ∈ S.take k ∧ Lst n B l) ∧ F.Nodup ∧ F.length ≤ k
theorem Pick.nil {n : Nat} {B : List (Nat × Nat)} {S : List (List Nat)} : Pick n B S 0 [] := ⟨fun l => by simp, List.nodup_nil, Nat.le_refl _⟩
/-- the least lots, ascending -/
def IsLots (n : Nat) (B : List (Nat × Nat)) (L : List (List Nat)) : Prop := L.Pairwise (fun x y => lxI (iL y) (iL x) = false) ∧ L.Nodup ∧ ∀ l, l ∈ L ↔ Lst n B l
theorem iL_inj : ∀ {x y : List Nat}, iL x = iL y → x = y
  | [], [], _ => rfl
  | [], _ :: _, h => by cases h
  | _ :: _, [], h => by cases h
  | a :: x, b :: y, h => by
    change (a : Int) :: iL x = (b : Int) :: iL y at h
    injection h with h1 h2
    rw [show a = b by omega, iL_inj h2]
theorem IsLots.uniq {n : Nat} {B : List (Nat × Nat)} {L M : List (List Nat)} (h : IsLots n B L) (g : IsLots n B M) : L = M := by
  have p : L.Perm M := (List.perm_ext_iff_of_nodup h.2.1 g.2.1).mpr fun l => (h.2.2 l).trans (g.2.2 l).symm
  have e := lx_uniq (p.map iL) (List.pairwise_map.mpr h.1) (List.pairwise_map.mpr g.1)
  have : ∀ {A B : List (List Nat)}, A.map iL = B.map iL → A = B := by
    intro A
    induction A with
    | nil => intro B h; cases B with
      | nil => rfl
      | cons => cases h
    | cons a A ih => intro B h; cases B with
      | nil => cases h
      | cons b B => rw [List.map_cons, List.map_cons] at h; injection h with h1 h2; rw [iL_inj h1, ih h2]
  exact this e
theorem IsLots.congr {n : Nat} {B B' : List (Nat × Nat)} {L : List (List Nat)} (h : IsLots n B L) (e : ∀ l, enB B l = enB B' l) : IsLots n B' L := by
  refine ⟨h.1, h.2.1, fun l => (h.2.2 l).trans ?_⟩
  unfold Lst
  rw [e]
  refine and_congr_right fun _ => and_congr_right fun _ => ⟨fun k o ho he => k o ho (by rw [e]; exact he), fun k o ho he => k o ho (by rw [← e]; exact he)⟩
theorem LotsO.put {H2 H3 : Hp} {D d : Addr} {qs : List Addr} {ms : List (List Nat)} {l : List Nat} (h : LotsO H2 qs ms) (hD : H2 D = some (.lst (qs.map V.ref))) (s : Same H2 H3) (e : H3 d = some (.tup (l.map nV))) :
    LotsO (upd H3 D (.lst ((qs ++ [d]).map V.ref))) (qs ++ [d]) (ms ++ [l]) ∧ ∀ {H1 : Hp}, Kp D H1 H2 → Kp D H1 (upd H3 D (.lst ((qs ++ [d]).map V.ref))) := by
  have hdD : d ≠ D := by rintro rfl; rw [s _ _ hD] at e; cases e
  refine ⟨LotsO.snoc ((h.same s).kp (fun c o hc e => by rw [upd_ne hc]; exact e) (s _ _ hD)) ?_, fun {H1} k c o hc e => ?_⟩
  · rw [upd_ne hdD]; exact e
  · rw [upd_ne hc]
    exact s _ _ (k c o hc e)
end NX
namespace NX
open PySem PySem.Spec PyProof.Rows L2
/-! ### in: a tuple of numbers in a list of them -/
end NX
namespace NX
open PySem PySem.Spec PyProof.Rows L2
/-! ### rows left out -/
end NX
namespace NX
open PySem PySem.Spec PyProof.Rows L2
/-! ### powers of one row, and of a commutator -/
theorem cpl_pre : ∀ {x y s t : List Nat}, x.length = y.length → x ≠ y → cpl (x ++ s) (y ++ t) = cpl x y
  | [], [], _, _, _, h => absurd rfl h
  | [], _ :: _, _, _, h, _ => by cases h
  | _ :: _, [], _, _, h, _ => by cases h
  | a :: x, b :: y, s, t, h, n => by
    rw [List.cons_append, List.cons_append]
    unfold cpl
    by_cases c : a = b
    · rw [if_pos c, if_pos c, cpl_pre (by simpa using h) (fun e => n (by rw [c, e]))]
    · rw [if_neg c, if_neg c]
theorem repL_cons (x : List Nat) (n : Nat) : repL x (n + 1) = x ++ repL x n := by
  have := repL_add x 1 n
  rw [Nat.add_comm 1 n, repL_one] at this
  exact this
theorem cpl_rep {x y : List Nat} {N : Nat} (hl : x.length = y.length) (n : x ≠ y) (hN : 1 ≤ N) : cpl (repL x N) (repL y N) = cpl x y := by
  obtain ⟨k, rfl⟩ : ∃ k, N = k + 1 := ⟨N - 1, by omega⟩
  rw [repL_cons, repL_cons, cpl_pre hl n]
theorem kinL_rep {R w : List Nat} {N : Nat} (hp : 0 < R.length) (hN : 1 ≤ N) : w ∈ kinL (repL R N) ↔ ∃ x ∈ kinL R, w = repL x N := by
  rw [kinL_mem, kin_rep hp hN]
  constructor
  · rintro ⟨x, hx, e⟩; exact ⟨x, (kinL_mem R x).mpr hx, e⟩
  · rintro ⟨x, hx, e⟩; exact ⟨x, (kinL_mem R x).mp hx, e⟩
section
variable {R : List Nat} {N : Nat}
theorem kinL_ln {x : List Nat} (hR : Row R) (hx : x ∈ kinL R) : x.length = R.length := (kinL_row hR hx).2
theorem lg_rep {m : Nat} (hR : Row R) (hp : 0 < R.length) (hN : 1 ≤ N) (h : IsLg (kinL R) (kinL R) m) : IsLg (kinL (repL R N)) (kinL (repL R N)) m := by
  refine ⟨?_, fun a ha b hb n => ?_⟩
  · rcases h.1 with z | ⟨x, hx, y, hy, n, e⟩
    · exact .inl z
    · refine .inr ⟨repL x N, (kinL_rep hp hN).mpr ⟨x, hx, rfl⟩, repL y N, (kinL_rep hp hN).mpr ⟨y, hy, rfl⟩, fun z => n (repL_inj (by omega) z), ?_⟩
      rw [cpl_rep ((kinL_ln hR hx).trans (kinL_ln hR hy).symm) n hN]; exact e
  · obtain ⟨x, hx, rfl⟩ := (kinL_rep hp hN).mp ha
    obtain ⟨y, hy, rfl⟩ := (kinL_rep hp hN).mp hb
    have n' : x ≠ y := fun z => n (by rw [z])
    rw [cpl_rep ((kinL_ln hR hx).trans (kinL_ln hR hy).symm) n' hN]
    exact h.2 x hx y hy n'
end
/-! ### checkers -/
instance (as bs : List (List Nat)) (m : Nat) : Decidable (IsLg as bs m) := by unfold IsLg; infer_instance
theorem CL_one {R : List Nat} {m : Nat} (h1 : 1 ≤ R.length) (h : IsLg (kinL R) (kinL R) m) : CL [R] 1 1 = [] ↔ ¬ (0 < m ∧ R.length ≤ 6 * m) := by
  rw [CL_pairs (rs := [R]) (n := 1) (fun i hi => by obtain rfl : i = 0 := by omega
                                                    exact h1)]
  have hc := clT_lg (rs := [R]) (i := 0) (j := 0) rfl rfl h
  rw [Nat.min_self] at hc
  constructor
  · intro g; exact hc.mp (g 0 0 (Nat.le_refl _) (by omega))
  · intro g j i hij hj
    obtain rfl : j = 0 := by omega
    obtain rfl : i = 0 := by omega
    exact hc.mpr g
/-! ### a letter written unlike often -/
/-! ### the commutators -/
abbrev cmR (b c : Nat) : List Nat := [b, c, b - 32, c - 32]
structure Comm (b c : Nat) : Prop where
  al : Al [b, c]
  rr : RR [b, c] (cmR b c)
  lg : IsLg (kinL (cmR b c)) (kinL (cmR b c)) 1
  pcs : IsPcs (kinL (cmR b c)) [[b - 32], [c - 32], [b], [c]]
  top : IsTop 0 (OSet (cmR b c)) 1
  prw : PrW (cmR b c)
  up : [b, c].map up1 = [b - 32, c - 32]
section
variable {b c N : Nat}
theorem Comm.row (h : Comm b c) : Row (cmR b c) := h.rr.row h.al
theorem Comm.cl (h : Comm b c) (hN : 1 ≤ N) : CL [repL (cmR b c) N] 1 1 = [] ↔ 2 ≤ N := by
  rw [CL_one (by rw [repL_len]; simp; omega) (lg_rep h.row (by simp) hN h.lg), repL_len]
  simp; omega
end
/-! ### the surface -/
/-! ### rows that begin alike -/
end NX
namespace NX
open PySem PySem.Spec PyProof.Rows L2
/-! ### list of a text -/
end NX
local macro_rules | `(tactic| walk_at "len") => `(tactic| (simp only [List.length_append, List.length_map, List.length_reverse, List.length_cons, List.length_nil, List.length_drop, List.length_take, List.length_singleton, NX.repL_len] at *; omega))
local macro_rules | `(tactic| walk_at "len") => `(tactic| omega)
local macro_rules | `(tactic| walk_at "len") => `(tactic| assumption)
local macro_rules | `(tactic| walk_at "ne") => `(tactic| exact (L2.ne_of_none (by assumption) (by assumption)).symm)
local macro_rules | `(tactic| walk_at "ne") => `(tactic| exact L2.ne_of_none (by assumption) (by assumption))
local macro_rules | `(tactic| walk_at "ne") => `(tactic| (apply Ne.symm; assumption))
local macro_rules | `(tactic| walk_at "ne") => `(tactic| assumption)
local macro_rules | `(tactic| walk_at "look") => `(tactic| (refine Eq.trans (L2.upd_ne (by walk_at "ne")) ?_; walk_at "look"))
local macro_rules | `(tactic| walk_at "look") => `(tactic| exact L2.upd_same)
local macro_rules | `(tactic| walk_at "look") => `(tactic| assumption)
local macro_rules | `(tactic| walk_at "sql") => `(tactic| exact L2.SqL.of (by walk_at "look"))
local macro_rules | `(tactic| walk_at "sql") => `(tactic| assumption)
local macro_rules | `(tactic| walk_at "sqt") => `(tactic| exact L2.SqT.of (by walk_at "look"))
local macro_rules | `(tactic| walk_at "sqt") => `(tactic| assumption)
local macro_rules | `(tactic| walk_at "st") => `(tactic| with_reducible refine NX.r_inT ?_)
local macro_rules | `(tactic| walk_at "st") => `(tactic| with_reducible refine NX.r_chain ?_)
local macro_rules | `(tactic| walk_at "st") => `(tactic| with_reducible refine NX.r_meth ?_)
local macro_rules | `(tactic| walk_at "st") => `(tactic| with_reducible refine NX.r_make ?_)
local macro_rules | `(tactic| walk_at "st") => `(tactic| with_reducible refine NX.r_gfld ?_)
local macro_rules | `(tactic| walk_at "st") => `(tactic| with_reducible refine NX.r_sfld ?_)
local macro_rules | `(tactic| walk_at "st") => `(tactic| with_reducible refine NX.r_fld ?_)
local macro_rules | `(tactic| walk_at "st") => `(tactic| with_reducible refine NX.r_iZS ?_)
local macro_rules | `(tactic| walk_at "st") => `(tactic| with_reducible refine NX.r_iES ?_)
local macro_rules | `(tactic| walk_at "st") => `(tactic| with_reducible refine NX.r_ltS ?_)
local macro_rules | `(tactic| walk_at "st") => `(tactic| with_reducible refine NX.r_ltI ?_)
local macro_rules | `(tactic| walk_at "st") => `(tactic| with_reducible refine NX.r_goS ?_)
local macro_rules | `(tactic| walk_at "st") => `(tactic| with_reducible refine NX.r_iR2 ?_)
local macro_rules | `(tactic| walk_at "st") => `(tactic| with_reducible refine NX.r_iR1 ?_)
local macro_rules | `(tactic| walk_at "st") => `(tactic| with_reducible refine NX.r_iG ?_)
local macro_rules | `(tactic| walk_at "st") => `(tactic| with_reducible refine NX.r_lc ?_)
local macro_rules | `(tactic| walk_at "st") => `(tactic| with_reducible refine NX.r_for ?_)
local macro_rules | `(tactic| walk_at "st") => `(tactic| with_reducible refine NX.r_whb ?_)
local macro_rules | `(tactic| walk_at "st") => `(tactic| with_reducible refine NX.r_isnNN ?_)
local macro_rules | `(tactic| walk_at "st") => `(tactic| with_reducible refine NX.r_isSN ?_)
local macro_rules | `(tactic| walk_at "st") => `(tactic| with_reducible refine NX.r_isNN ?_)
local macro_rules | `(tactic| walk_at "st") => `(tactic| ((with_reducible refine' NX.r_ixT ?h ?a ?_); (case h => walk_at "sqt"); (case a => rfl)))
local macro_rules | `(tactic| walk_at "st") => `(tactic| ((with_reducible refine' NX.r_lenT ?h ?_); (case h => walk_at "sqt")))
local macro_rules | `(tactic| walk_at "st") => `(tactic| with_reducible refine NX.r_c2 ?_)
local macro_rules | `(tactic| walk_at "st") => `(tactic| with_reducible refine NX.r_c1 ?_)
local macro_rules | `(tactic| walk_at "st") => `(tactic| with_reducible refine NX.r_int ?_)
local macro_rules | `(tactic| walk_at "st") => `(tactic| ((with_reducible refine' NX.r_lenL ?h ?_); (case h => walk_at "sql")))
local macro_rules | `(tactic| walk_at "st") => `(tactic| ((with_reducible refine' NX.r_lenS ?h ?_); (case h => walk_at "len")))
local macro_rules | `(tactic| walk_at "st") => `(tactic| ((with_reducible refine' NX.r_slS ?h ?_); (case h => walk_at "len")))
local macro_rules | `(tactic| walk_at "st") => `(tactic| with_reducible refine NX.r_notin1 ?_)
local macro_rules | `(tactic| walk_at "st") => `(tactic| with_reducible refine NX.r_in1 ?_)
local macro_rules | `(tactic| walk_at "st") => `(tactic| with_reducible refine NX.r_eqI ?_)
local macro_rules | `(tactic| walk_at "st") => `(tactic| with_reducible refine NX.r_neS ?_)
local macro_rules | `(tactic| walk_at "st") => `(tactic| with_reducible refine NX.r_eqS ?_)
local macro_rules | `(tactic| walk_at "st") => `(tactic| with_reducible refine NX.r_eqSS ?_)
local macro_rules | `(tactic| walk_at "st") => `(tactic| ((with_reducible refine' NX.r_addS ?h ?_); (case h => walk_at "len")))
local macro_rules | `(tactic| walk_at "st") => `(tactic| with_reducible refine NX.r_addI ?_)
local macro_rules | `(tactic| walk_at "st") => `(tactic| ((with_reducible refine' NX.r_new ?h ?_); (case h => simp only [List.length_cons, List.length_nil]; decide)))
local macro_rules | `(tactic| walk_at "st") => `(tactic| with_reducible refine NX.r_tup ?_)
local macro_rules | `(tactic| walk_at "st") => `(tactic| with_reducible refine NX.r_lst ?_)
local macro_rules | `(tactic| walk_at "st") => `(tactic| ((with_reducible refine' NX.r_mulc' ?h ?_); (case h => first | decide | omega)))
local macro_rules | `(tactic| walk_at "st") => `(tactic| ((with_reducible refine' NX.r_mulc ?h ?_); (case h => first | decide | omega)))
local macro_rules | `(tactic| walk_at "st") => `(tactic| ((with_reducible refine' NX.r_setL ?h ?a ?_); (case h => walk_at "look"); (case a => rfl)))
local macro_rules | `(tactic| walk_at "st") => `(tactic| ((with_reducible refine' NX.r_ixL ?h ?a ?_); (case h => walk_at "sql"); (case a => rfl)))
local macro_rules | `(tactic| walk_at "st") => `(tactic| ((with_reducible refine' NX.r_fdivW ?h ?_); (case h => first | decide | omega)))
local macro_rules | `(tactic| walk_at "st") => `(tactic| ((with_reducible refine' NX.r_mod ?h ?_); (case h => first | decide | omega)))
local macro_rules | `(tactic| walk_at "st") => `(tactic| with_reducible refine NX.r_p40 ?_)
local macro_rules | `(tactic| walk_at "st") => `(tactic| with_reducible refine NX.r_p36 ?_)
local macro_rules | `(tactic| walk_at "st") => `(tactic| with_reducible refine NX.r_p39 ?_)
local macro_rules | `(tactic| walk_at "st") => `(tactic| with_reducible refine NX.r_p6 ?_)
local macro_rules | `(tactic| walk_at "st") => `(tactic| with_reducible refine NX.r_p18 ?_)
local macro_rules | `(tactic| walk_at "st") => `(tactic| with_reducible refine NX.r_I0 ?_)
local macro_rules | `(tactic| walk_at "st") => `(tactic| with_reducible refine L2.iteF ?_)
local macro_rules | `(tactic| walk_at "st") => `(tactic| with_reducible refine L2.iteT ?_)
local macro_rules | `(tactic| walk_at "st") => `(tactic| with_reducible refine NX.r_truB ?_)
local macro_rules | `(tactic| walk_at "st") => `(tactic| with_reducible refine NX.r_tru ?_)
local macro_rules | `(tactic| walk_at "st") => `(tactic| with_reducible refine NX.r_notT ?_)
local macro_rules | `(tactic| walk_at "st") => `(tactic| with_reducible refine NX.r_orT ?_)
local macro_rules | `(tactic| walk_at "st") => `(tactic| with_reducible refine NX.r_andT ?_)
local macro_rules | `(tactic| walk_at "st") => `(tactic| with_reducible refine NX.r_not ?_)
local macro_rules | `(tactic| walk_at "st") => `(tactic| with_reducible refine NX.r_or ?_)
local macro_rules | `(tactic| walk_at "st") => `(tactic| with_reducible refine NX.r_and ?_)
local macro_rules | `(tactic| walk_at "st") => `(tactic| with_reducible refine NX.r_bl ?_)
local macro_rules | `(tactic| walk_at "st") => `(tactic| with_reducible refine NX.r_test ?_)
local macro_rules | `(tactic| walk_at "st") => `(tactic| with_reducible refine NX.r_ifNF ?_)
local macro_rules | `(tactic| walk_at "st") => `(tactic| with_reducible refine NX.r_ifNT ?_)
local macro_rules | `(tactic| walk_at "st") => `(tactic| with_reducible refine NX.r_yes ?_)
local macro_rules | `(tactic| walk_at "st") => `(tactic| with_reducible refine NX.r_wipe (by with_unfolding_all rfl) ?_)
local macro_rules | `(tactic| walk_at "st") => `(tactic| ((with_reducible refine' NX.r_revS ?h ?_); (case h => walk_at "len")))
local macro_rules | `(tactic| walk_at "st") => `(tactic| with_reducible refine NX.r_rev ?_)
local macro_rules | `(tactic| walk_at "st") => `(tactic| with_reducible refine NX.r_int1 ?_)
local macro_rules | `(tactic| walk_at "st") => `(tactic| with_reducible refine NX.r_poS ?_)
local macro_rules | `(tactic| walk_at "st") => `(tactic| with_reducible refine NX.r_poN ?_)
local macro_rules | `(tactic| walk_at "st") => `(tactic| with_reducible refine NX.r_sl ?_)
local macro_rules | `(tactic| walk_at "st") => `(tactic| ((with_reducible refine' NX.r_tyL ?h ?_); (case h => walk_at "look")))
local macro_rules | `(tactic| walk_at "st") => `(tactic| with_reducible refine NX.r_tyS ?_)
local macro_rules | `(tactic| walk_at "st") => `(tactic| with_reducible refine NX.r_isS ?_)
local macro_rules | `(tactic| walk_at "st") => `(tactic| with_reducible refine NX.r_m1 ?_)
local macro_rules | `(tactic| walk_at "st") => `(tactic| with_reducible refine NX.r_bm ?_)
local macro_rules | `(tactic| walk_at "st") => `(tactic| with_reducible refine NX.r_bm0 ?_)
local macro_rules | `(tactic| walk_at "st") => `(tactic| with_reducible refine NX.r_call ?_)
local macro_rules | `(tactic| walk_at "st") => `(tactic| with_reducible refine NX.r_cons ?_)
local macro_rules | `(tactic| walk_at "st") => `(tactic| with_reducible refine NX.r_nil ?_)
local macro_rules | `(tactic| walk_at "st") => `(tactic| with_reducible refine NX.r_cb ?_)
local macro_rules | `(tactic| walk_at "st") => `(tactic| with_reducible refine NX.r_tif ?_)
local macro_rules | `(tactic| walk_at "st") => `(tactic| with_reducible refine NX.r_neg ?_)
local macro_rules | `(tactic| walk_at "st") => `(tactic| with_reducible refine NX.r_un ?_)
local macro_rules | `(tactic| walk_at "st") => `(tactic| with_reducible refine NX.r_op ?_)
local macro_rules | `(tactic| walk_at "st") => `(tactic| with_reducible refine NX.r_c ?_)
local macro_rules | `(tactic| walk_at "st") => `(tactic| with_reducible refine NX.r_var (by with_unfolding_all rfl) ?_)
local macro_rules | `(tactic| walk_at "st") => `(tactic| with_reducible refine NX.r_ifs ?_)
local macro_rules | `(tactic| walk_at "st") => `(tactic| with_reducible refine NX.r_next ?_)
local macro_rules | `(tactic| walk_at "st") => `(tactic| with_reducible refine NX.r_drop ?_)
local macro_rules | `(tactic| walk_at "st") => `(tactic| with_reducible refine NX.r_ret ?_)
local macro_rules | `(tactic| walk_at "st") => `(tactic| with_reducible refine NX.r_gnil ?_)
local macro_rules | `(tactic| walk_at "st") => `(tactic| with_reducible refine NX.r_gcons ?_)
local macro_rules | `(tactic| walk_at "st") => `(tactic| ((with_reducible refine' NX.r_gtup ?h ?a ?_); (case h => walk_at "sqt"); (case a => rfl)))
local macro_rules | `(tactic| walk_at "st") => `(tactic| with_reducible refine NX.r_par2 ?_)
local macro_rules | `(tactic| walk_at "st") => `(tactic| with_reducible refine NX.r_par ?_)
local macro_rules | `(tactic| walk_at "st") => `(tactic| with_reducible refine NX.r_gsub ?_)
local macro_rules | `(tactic| walk_at "st") => `(tactic| with_reducible refine NX.r_gname ?_)
local macro_rules | `(tactic| walk_at "st") => `(tactic| with_reducible refine NX.r_asg ?_)
local macro_rules | `(tactic| walk_at "st") => `(tactic| with_reducible refine NX.r_seq ?_)
local macro_rules | `(tactic| walk_at "go") => `(tactic| repeat walk_at "st")
local macro_rules | `(tactic| walk_at "ty") => `(tactic| exact L2.TyX.base (L2.TyOf.dK (by walk_at "look")))
local macro_rules | `(tactic| walk_at "ty") => `(tactic| exact L2.TyX.base (L2.TyOf.tup (by walk_at "look")))
local macro_rules | `(tactic| walk_at "ty") => `(tactic| exact L2.TyX.base (L2.TyOf.lst (by walk_at "look")))
local macro_rules | `(tactic| walk_at "ty") => `(tactic| exact L2.TyX.base (L2.TyOf.str _))
local macro_rules | `(tactic| walk_at "ty") => `(tactic| exact L2.TyX.base (L2.TyOf.int _))
local macro_rules | `(tactic| walk_at "ty") => `(tactic| exact L2.TyX.base (L2.TyOf.bl _))
local macro_rules | `(tactic| walk_at "ty") => `(tactic| exact L2.TyX.base L2.TyOf.non)
local macro_rules | `(tactic| walk_at "ty") => `(tactic| assumption)
local macro_rules | `(tactic| walk_at "st") => `(tactic| ((with_reducible refine' NX.r_ixB (b := false) ?ty ?k ?_); (case ty => walk_at "ty"); (case k => rfl)))
local macro_rules | `(tactic| walk_at "st") => `(tactic| ((with_reducible refine' NX.r_ixB (b := true) ?ty ?k ?_); (case ty => walk_at "ty"); (case k => rfl)))
local macro_rules | `(tactic| walk_at "st") => `(tactic| with_reducible refine NX.r_sortSet ?_)
local macro_rules | `(tactic| walk_at "st") => `(tactic| with_reducible refine NX.r_xf ?_)
local macro_rules | `(tactic| walk_at "st") => `(tactic| with_reducible refine NX.r_ost ?_)
local macro_rules | `(tactic| walk_at "st") => `(tactic| with_reducible refine NX.r_vei ?_)
local macro_rules | `(tactic| walk_at "st") => `(tactic| with_reducible refine NX.r_ri ?_)
local macro_rules | `(tactic| walk_at "st") => `(tactic| with_reducible refine NX.r_rz ?_)
local macro_rules | `(tactic| walk_at "st") => `(tactic| with_reducible refine NX.r_star ?_)
local macro_rules | `(tactic| walk_at "st") => `(tactic| with_reducible refine NX.r_makex ?_)
local macro_rules | `(tactic| walk_at "st") => `(tactic| with_reducible refine NX.r_methx ?_)
local macro_rules | `(tactic| walk_at "st") => `(tactic| with_reducible refine NX.r_geI ?_)
local macro_rules | `(tactic| walk_at "st") => `(tactic| with_reducible refine NX.r_callx ?_)
local macro_rules | `(tactic| walk_at "st") => `(tactic| ((with_reducible refine' NX.r_ifdF ?h ?_); (case h => decide)))
local macro_rules | `(tactic| walk_at "st") => `(tactic| ((with_reducible refine' NX.r_fmtI ?h ?_); (case h => omega)))
local macro_rules | `(tactic| walk_at "st") => `(tactic| ((with_reducible refine' NX.r_fmtS ?h ?_); (case h => walk_at "len")))
local macro_rules | `(tactic| walk_at "st") => `(tactic| ((with_reducible refine' NX.r_jsT ?h ?_); (case h => walk_at "len")))
local macro_rules | `(tactic| walk_at "st") => `(tactic| with_reducible refine NX.r_fmt ?_)
local macro_rules | `(tactic| walk_at "st") => `(tactic| with_reducible refine NX.r_js0 ?_)
local macro_rules | `(tactic| walk_at "st") => `(tactic| with_reducible refine NX.r_js ?_)
local macro_rules | `(tactic| walk_at "st") => `(tactic| with_reducible refine NX.r_jsE ?_)
namespace K85
open PySem PySem.Spec PyProof.Rows L2 NX
def topS (i : Nat) : Stmt := PySem.Challenge.pw_sixthrows_k85_whole_two_desks_by_turns.main.body.getD i (.Pass ⟨0, 0, 0, 0⟩)
abbrev s_NoRows_init : Stmt := inClass (topS 8) 0
abbrev N_NoRows_init : List Str := ["self", "index"]
theorem sc_NoRows_init : FnScope N_NoRows_init ["self", "index"] (defScope s_NoRows_init) := ⟨rfl, rfl, rfl, by decide +kernel, rfl, by decide +kernel, by decide +kernel⟩
abbrev s_is_whole : Stmt := topS 13
abbrev N_is_whole : List Str := ["value"]
theorem sc_is_whole : FnScope N_is_whole ["value"] (defScope s_is_whole) := ⟨rfl, rfl, rfl, by decide +kernel, rfl, by decide +kernel, by decide +kernel⟩
abbrev s_is_row : Stmt := topS 14
abbrev N_is_row : List Str := ["value", "sign"]
theorem sc_is_row : FnScope N_is_row ["value"] (defScope s_is_row) := ⟨rfl, rfl, rfl, by decide +kernel, rfl, by decide +kernel, by decide +kernel⟩
abbrev s_is_row_of : Stmt := topS 15
abbrev N_is_row_of : List Str := ["letters", "value", "both", "sign"]
theorem sc_is_row_of : FnScope N_is_row_of ["letters", "value"] (defScope s_is_row_of) := ⟨rfl, rfl, rfl, by decide +kernel, rfl, by decide +kernel, by decide +kernel⟩
abbrev s_are_letters : Stmt := topS 16
abbrev N_are_letters : List Str := ["value", "one", "two", "sign"]
theorem sc_are_letters : FnScope N_are_letters ["value"] (defScope s_are_letters) := ⟨rfl, rfl, rfl, by decide +kernel, rfl, by decide +kernel, by decide +kernel⟩
abbrev s_check_row : Stmt := topS 17
abbrev N_check_row : List Str := ["value"]
theorem sc_check_row : FnScope N_check_row ["value"] (defScope s_check_row) := ⟨rfl, rfl, rfl, by decide +kernel, rfl, by decide +kernel, by decide +kernel⟩
abbrev s_check_row_of : Stmt := topS 18
abbrev N_check_row_of : List Str := ["letters", "value"]
theorem sc_check_row_of : FnScope N_check_row_of ["letters", "value"] (defScope s_check_row_of) := ⟨rfl, rfl, rfl, by decide +kernel, rfl, by decide +kernel, by decide +kernel⟩
abbrev s_check_letters : Stmt := topS 19
abbrev N_check_letters : List Str := ["value"]
theorem sc_check_letters : FnScope N_check_letters ["value"] (defScope s_check_letters) := ⟨rfl, rfl, rfl, by decide +kernel, rfl, by decide +kernel, by decide +kernel⟩
abbrev s_back_of : Stmt := topS 21
abbrev N_back_of : List Str := ["row"]
theorem sc_back_of : FnScope N_back_of ["row"] (defScope s_back_of) := ⟨rfl, rfl, rfl, by decide +kernel, rfl, by decide +kernel, by decide +kernel⟩
abbrev s_least_of : Stmt := topS 22
abbrev N_least_of : List Str := ["row", "kept", "sign"]
theorem sc_least_of : FnScope N_least_of ["row"] (defScope s_least_of) := ⟨rfl, rfl, rfl, by decide +kernel, rfl, by decide +kernel, by decide +kernel⟩
abbrev s_core_of : Stmt := topS 23
abbrev N_core_of : List Str := ["free", "size"]
theorem sc_core_of : FnScope N_core_of ["free"] (defScope s_core_of) := ⟨rfl, rfl, rfl, by decide +kernel, rfl, by decide +kernel, by decide +kernel⟩
abbrev s_root : Stmt := topS 25
abbrev N_root : List Str := ["row", "lead", "ring", "size"]
theorem sc_root : FnScope N_root ["row"] (defScope s_root) := ⟨rfl, rfl, rfl, by decide +kernel, rfl, by decide +kernel, by decide +kernel⟩
abbrev s_is_turned : Stmt := topS 42
abbrev N_is_turned : List Str := ["one", "two"]
theorem sc_is_turned : FnScope N_is_turned ["one", "two"] (defScope s_is_turned) := ⟨rfl, rfl, rfl, by decide +kernel, rfl, by decide +kernel, by decide +kernel⟩
abbrev s_is_ring_row : Stmt := topS 49
abbrev N_is_ring_row : List Str := ["letters", "value", "place", "sign"]
theorem sc_is_ring_row : FnScope N_is_ring_row ["letters", "value"] (defScope s_is_ring_row) := ⟨rfl, rfl, rfl, by decide +kernel, rfl, by decide +kernel, by decide +kernel⟩
abbrev s_is_kin : Stmt := topS 50
abbrev N_is_kin : List Str := ["one", "two"]
theorem sc_is_kin : FnScope N_is_kin ["one", "two"] (defScope s_is_kin) := ⟨rfl, rfl, rfl, by decide +kernel, rfl, by decide +kernel, by decide +kernel⟩
abbrev s_can_stand : Stmt := topS 51
abbrev N_can_stand : List Str := ["letters", "earlier", "value", "row"]
theorem sc_can_stand : FnScope N_can_stand ["letters", "earlier", "value"] (defScope s_can_stand) := ⟨rfl, rfl, rfl, by decide +kernel, rfl, by decide +kernel, by decide +kernel⟩
abbrev s_check_rows : Stmt := topS 52
abbrev N_check_rows : List Str := ["letters", "rows", "index", "row"]
theorem sc_check_rows : FnScope N_check_rows ["letters", "rows"] (defScope s_check_rows) := ⟨rfl, rfl, rfl, by decide +kernel, rfl, by decide +kernel, by decide +kernel⟩
abbrev s_Rules_init : Stmt := inClass (topS 53) 0
abbrev N_Rules_init : List Str := ["self", "letters", "rows"]
theorem sc_Rules_init : FnScope N_Rules_init ["self", "letters", "rows"] (defScope s_Rules_init) := ⟨rfl, rfl, rfl, by decide +kernel, rfl, by decide +kernel, by decide +kernel⟩
abbrev s_Rules_letters : Stmt := inClass (topS 53) 1
abbrev N_Rules_letters : List Str := ["self"]
theorem sc_Rules_letters : FnScope N_Rules_letters ["self"] (defScope s_Rules_letters) := ⟨rfl, rfl, rfl, by decide +kernel, rfl, by decide +kernel, by decide +kernel⟩
abbrev s_Rules_rows : Stmt := inClass (topS 53) 2
abbrev N_Rules_rows : List Str := ["self"]
theorem sc_Rules_rows : FnScope N_Rules_rows ["self"] (defScope s_Rules_rows) := ⟨rfl, rfl, rfl, by decide +kernel, rfl, by decide +kernel, by decide +kernel⟩
abbrev s_Rules_without : Stmt := inClass (topS 53) 3
abbrev N_Rules_without : List Str := ["self", "index"]
theorem sc_Rules_without : FnScope N_Rules_without ["self", "index"] (defScope s_Rules_without) := ⟨rfl, rfl, rfl, by decide +kernel, rfl, by decide +kernel, by decide +kernel⟩
abbrev s_stretch : Stmt := topS 77
abbrev N_stretch : List Str := ["row", "place", "size"]
theorem sc_stretch : FnScope N_stretch ["row", "place"] (defScope s_stretch) := ⟨rfl, rfl, rfl, by decide +kernel, rfl, by decide +kernel, by decide +kernel⟩
abbrev s_written : Stmt := topS 78
abbrev N_written : List Str := ["row", "parts", "place", "size"]
theorem sc_written : FnScope N_written ["row"] (defScope s_written) := ⟨rfl, rfl, rfl, by decide +kernel, rfl, by decide +kernel, by decide +kernel⟩
abbrev s_number_in : Stmt := topS 79
abbrev N_number_in : List Str := ["text", "sign"]
theorem sc_number_in : FnScope N_number_in ["text"] (defScope s_number_in) := ⟨rfl, rfl, rfl, by decide +kernel, rfl, by decide +kernel, by decide +kernel⟩
abbrev s_times_in : Stmt := topS 80
abbrev N_times_in : List Str := ["text", "number"]
theorem sc_times_in : FnScope N_times_in ["text"] (defScope s_times_in) := ⟨rfl, rfl, rfl, by decide +kernel, rfl, by decide +kernel, by decide +kernel⟩
abbrev s_digits_at : Stmt := topS 81
abbrev N_digits_at : List Str := ["text", "place", "end"]
theorem sc_digits_at : FnScope N_digits_at ["text", "place"] (defScope s_digits_at) := ⟨rfl, rfl, rfl, by decide +kernel, rfl, by decide +kernel, by decide +kernel⟩
abbrev s_row_in : Stmt := topS 82
abbrev N_row_in : List Str := ["text", "most", "row", "place", "digits", "times"]
theorem sc_row_in : FnScope N_row_in ["text", "most"] (defScope s_row_in) := ⟨rfl, rfl, rfl, by decide +kernel, rfl, by decide +kernel, by decide +kernel⟩
abbrev s_any_row_in : Stmt := topS 83
abbrev N_any_row_in : List Str := ["text"]
theorem sc_any_row_in : FnScope N_any_row_in ["text"] (defScope s_any_row_in) := ⟨rfl, rfl, rfl, by decide +kernel, rfl, by decide +kernel, by decide +kernel⟩
abbrev s_row_text : Stmt := topS 84
abbrev N_row_text : List Str := ["row"]
theorem sc_row_text : FnScope N_row_text ["row"] (defScope s_row_text) := ⟨rfl, rfl, rfl, by decide +kernel, rfl, by decide +kernel, by decide +kernel⟩
abbrev s_rules_text : Stmt := topS 85
abbrev N_rules_text : List Str := ["rules", "row"]
theorem sc_rules_text : FnScope N_rules_text ["rules"] (defScope s_rules_text) := ⟨rfl, rfl, rfl, by decide +kernel, rfl, by decide +kernel, by decide +kernel⟩
abbrev s_row_or_none : Stmt := topS 88
abbrev N_row_or_none : List Str := ["words", "row"]
theorem sc_row_or_none : FnScope N_row_or_none ["words"] (defScope s_row_or_none) := ⟨rfl, rfl, rfl, by decide +kernel, rfl, by decide +kernel, by decide +kernel⟩
abbrev s_index_or_none : Stmt := topS 89
abbrev N_index_or_none : List Str := ["words", "number"]
theorem sc_index_or_none : FnScope N_index_or_none ["words"] (defScope s_index_or_none) := ⟨rfl, rfl, rfl, by decide +kernel, rfl, by decide +kernel, by decide +kernel⟩
abbrev s_rules_answer : Stmt := topS 92
abbrev N_rules_answer : List Str := ["work", "word", "free", "some", "found", "lines", "index", "own", "times", "lot", "clash"]
theorem sc_rules_answer : FnScope N_rules_answer ["work", "word"] (defScope s_rules_answer) := ⟨rfl, rfl, rfl, by decide +kernel, rfl, by decide +kernel, by decide +kernel⟩
abbrev s_row_answer : Stmt := topS 93
abbrev N_row_answer : List Str := ["work", "row", "word", "times", "own"]
theorem sc_row_answer : FnScope N_row_answer ["work", "row", "word"] (defScope s_row_answer) := ⟨rfl, rfl, rfl, by decide +kernel, rfl, by decide +kernel, by decide +kernel⟩
abbrev s_Desk_init : Stmt := inClass (topS 94) 0
abbrev N_Desk_init : List Str := ["self"]
theorem sc_Desk_init : FnScope N_Desk_init ["self"] (defScope s_Desk_init) := ⟨rfl, rfl, rfl, by decide +kernel, rfl, by decide +kernel, by decide +kernel⟩
abbrev s_Desk_turn_to : Stmt := inClass (topS 94) 1
abbrev N_Desk_turn_to : List Str := ["self", "work", "word"]
theorem sc_Desk_turn_to : FnScope N_Desk_turn_to ["self", "work", "word"] (defScope s_Desk_turn_to) := ⟨rfl, rfl, rfl, by decide +kernel, rfl, by decide +kernel, by decide +kernel⟩
abbrev s_Desk_row_read : Stmt := inClass (topS 94) 2
abbrev N_Desk_row_read : List Str := ["self", "words", "row"]
theorem sc_Desk_row_read : FnScope N_Desk_row_read ["self", "words"] (defScope s_Desk_row_read) := ⟨rfl, rfl, rfl, by decide +kernel, rfl, by decide +kernel, by decide +kernel⟩
abbrev s_Desk_letters_told : Stmt := inClass (topS 94) 3
abbrev N_Desk_letters_told : List Str := ["self", "words"]
theorem sc_Desk_letters_told : FnScope N_Desk_letters_told ["self", "words"] (defScope s_Desk_letters_told) := ⟨rfl, rfl, rfl, by decide +kernel, rfl, by decide +kernel, by decide +kernel⟩
abbrev s_Desk_row_told : Stmt := inClass (topS 94) 4
abbrev N_Desk_row_told : List Str := ["self", "words", "row"]
theorem sc_Desk_row_told : FnScope N_Desk_row_told ["self", "words"] (defScope s_Desk_row_told) := ⟨rfl, rfl, rfl, by decide +kernel, rfl, by decide +kernel, by decide +kernel⟩
abbrev s_Desk_row_dropped : Stmt := inClass (topS 94) 5
abbrev N_Desk_row_dropped : List Str := ["self", "words"]
theorem sc_Desk_row_dropped : FnScope N_Desk_row_dropped ["self", "words"] (defScope s_Desk_row_dropped) := ⟨rfl, rfl, rfl, by decide +kernel, rfl, by decide +kernel, by decide +kernel⟩
abbrev s_Desk_row_taken : Stmt := inClass (topS 94) 6
abbrev N_Desk_row_taken : List Str := ["self", "words", "row"]
theorem sc_Desk_row_taken : FnScope N_Desk_row_taken ["self", "words"] (defScope s_Desk_row_taken) := ⟨rfl, rfl, rfl, by decide +kernel, rfl, by decide +kernel, by decide +kernel⟩
abbrev s_Desk_undone : Stmt := inClass (topS 94) 7
abbrev N_Desk_undone : List Str := ["self"]
theorem sc_Desk_undone : FnScope N_Desk_undone ["self"] (defScope s_Desk_undone) := ⟨rfl, rfl, rfl, by decide +kernel, rfl, by decide +kernel, by decide +kernel⟩
abbrev s_Desk_order_of : Stmt := inClass (topS 94) 8
abbrev N_Desk_order_of : List Str := ["self", "word", "words"]
theorem sc_Desk_order_of : FnScope N_Desk_order_of ["self", "word", "words"] (defScope s_Desk_order_of) := ⟨rfl, rfl, rfl, by decide +kernel, rfl, by decide +kernel, by decide +kernel⟩
abbrev s_Desk_order : Stmt := inClass (topS 94) 9
abbrev N_Desk_order : List Str := ["self", "text", "word", "blank", "words"]
theorem sc_Desk_order : FnScope N_Desk_order ["self", "text"] (defScope s_Desk_order) := ⟨rfl, rfl, rfl, by decide +kernel, rfl, by decide +kernel, by decide +kernel⟩
abbrev s__law_well : Stmt := topS 96
abbrev N__law_well : List Str := ["script", "k", "cell"]
theorem sc__law_well : FnScope N__law_well ["script", "k"] (defScope s__law_well) := ⟨rfl, rfl, rfl, by decide +kernel, rfl, by decide +kernel, by decide +kernel⟩
abbrev s__law_pull : Stmt := topS 97
abbrev N__law_pull : List Str := ["well", "many", "found", "mixed"]
theorem sc__law_pull : FnScope N__law_pull ["well", "many"] (defScope s__law_pull) := ⟨rfl, rfl, rfl, by decide +kernel, rfl, by decide +kernel, by decide +kernel⟩
abbrev s__law_one_of : Stmt := topS 98
abbrev N__law_one_of : List Str := ["well", "some"]
theorem sc__law_one_of : FnScope N__law_one_of ["well", "some"] (defScope s__law_one_of) := ⟨rfl, rfl, rfl, by decide +kernel, rfl, by decide +kernel, by decide +kernel⟩
abbrev s__law_flip : Stmt := topS 99
abbrev N__law_flip : List Str := ["sign"]
theorem sc__law_flip : FnScope N__law_flip ["sign"] (defScope s__law_flip) := ⟨rfl, rfl, rfl, by decide +kernel, rfl, by decide +kernel, by decide +kernel⟩
abbrev s__law_back : Stmt := topS 100
abbrev N__law_back : List Str := ["word", "sign"]
theorem sc__law_back : FnScope N__law_back ["word"] (defScope s__law_back) := ⟨rfl, rfl, rfl, by decide +kernel, rfl, by decide +kernel, by decide +kernel⟩
abbrev s__law_alphabet : Stmt := topS 101
abbrev N__law_alphabet : List Str := ["well", "signs", "some", "k"]
theorem sc__law_alphabet : FnScope N__law_alphabet ["well"] (defScope s__law_alphabet) := ⟨rfl, rfl, rfl, by decide +kernel, rfl, by decide +kernel, by decide +kernel⟩
abbrev s__law_ring : Stmt := topS 102
abbrev N__law_ring : List Str := ["well", "alphabet", "size", "word", "signs", "k", "sign"]
theorem sc__law_ring : FnScope N__law_ring ["well", "alphabet", "size"] (defScope s__law_ring) := ⟨rfl, rfl, rfl, by decide +kernel, rfl, by decide +kernel, by decide +kernel⟩
abbrev s__law_is_kin : Stmt := topS 103
abbrev N__law_is_kin : List Str := ["one", "two"]
theorem sc__law_is_kin : FnScope N__law_is_kin ["one", "two"] (defScope s__law_is_kin) := ⟨rfl, rfl, rfl, by decide +kernel, rfl, by decide +kernel, by decide +kernel⟩
abbrev s__law_word : Stmt := topS 104
abbrev N__law_word : List Str := ["well", "alphabet", "most", "signs", "k"]
theorem sc__law_word : FnScope N__law_word ["well", "alphabet", "most"] (defScope s__law_word) := ⟨rfl, rfl, rfl, by decide +kernel, rfl, by decide +kernel, by decide +kernel⟩
abbrev s__law_short_text : Stmt := topS 105
abbrev N__law_short_text : List Str := ["word", "found", "size", "k"]
theorem sc__law_short_text : FnScope N__law_short_text ["word"] (defScope s__law_short_text) := ⟨rfl, rfl, rfl, by decide +kernel, rfl, by decide +kernel, by decide +kernel⟩
abbrev s__law_least : Stmt := topS 106
abbrev N__law_least : List Str := ["word", "kept", "sign"]
theorem sc__law_least : FnScope N__law_least ["word"] (defScope s__law_least) := ⟨rfl, rfl, rfl, by decide +kernel, rfl, by decide +kernel, by decide +kernel⟩
abbrev s__law_root : Stmt := topS 107
abbrev N__law_root : List Str := ["free", "size", "k", "lead", "ring", "many"]
theorem sc__law_root : FnScope N__law_root ["free"] (defScope s__law_root) := ⟨rfl, rfl, rfl, by decide +kernel, rfl, by decide +kernel, by decide +kernel⟩
abbrev s__law_fits : Stmt := topS 108
abbrev N__law_fits : List Str := ["word", "told", "k", "own"]
theorem sc__law_fits : FnScope N__law_fits ["word", "told"] (defScope s__law_fits) := ⟨rfl, rfl, rfl, by decide +kernel, rfl, by decide +kernel, by decide +kernel⟩
abbrev s__law_rules_text : Stmt := topS 109
abbrev N__law_rules_text : List Str := ["state", "own"]
theorem sc__law_rules_text : FnScope N__law_rules_text ["state"] (defScope s__law_rules_text) := ⟨rfl, rfl, rfl, by decide +kernel, rfl, by decide +kernel, by decide +kernel⟩
abbrev s__law_behind : Stmt := topS 110
abbrev N__law_behind : List Str := ["state", "parts", "alphabet", "told", "word", "way", "thing", "root_v", "times", "sign"]
theorem sc__law_behind : FnScope N__law_behind ["state", "parts"] (defScope s__law_behind) := ⟨rfl, rfl, rfl, by decide +kernel, rfl, by decide +kernel, by decide +kernel⟩
abbrev s__law_answer : Stmt := topS 111
abbrev N__law_answer : List Str := ["desk", "words", "found", "e"]
theorem sc__law_answer : FnScope N__law_answer ["desk", "words"] (defScope s__law_answer) := ⟨rfl, rfl, rfl, by decide +kernel, rfl, by decide +kernel, by decide +kernel⟩
abbrev s__law_is : Stmt := topS 112
abbrev N__law_is : List Str := ["found", "due"]
theorem sc__law_is : FnScope N__law_is ["found", "due"] (defScope s__law_is) := ⟨rfl, rfl, rfl, by decide +kernel, rfl, by decide +kernel, by decide +kernel⟩
abbrev s__law_row_words : Stmt := topS 113
abbrev N__law_row_words : List Str := ["well", "word"]
theorem sc__law_row_words : FnScope N__law_row_words ["well", "word"] (defScope s__law_row_words) := ⟨rfl, rfl, rfl, by decide +kernel, rfl, by decide +kernel, by decide +kernel⟩
abbrev s__law_row_told : Stmt := topS 114
abbrev N__law_row_told : List Str := ["well", "alphabet", "told", "way", "word", "own", "place", "turned_v"]
theorem sc__law_row_told : FnScope N__law_row_told ["well", "alphabet", "told"] (defScope s__law_row_told) := ⟨rfl, rfl, rfl, by decide +kernel, rfl, by decide +kernel, by decide +kernel⟩
abbrev s__law_drawn : Stmt := topS 115
abbrev N__law_drawn : List Str := ["well", "state", "alphabet", "told", "word", "way"]
theorem sc__law_drawn : FnScope N__law_drawn ["well", "state"] (defScope s__law_drawn) := ⟨rfl, rfl, rfl, by decide +kernel, rfl, by decide +kernel, by decide +kernel⟩
abbrev s__law_words : Stmt := topS 116
abbrev N__law_words : List Str := ["well", "parts", "way", "thing"]
theorem sc__law_words : FnScope N__law_words ["well", "parts"] (defScope s__law_words) := ⟨rfl, rfl, rfl, by decide +kernel, rfl, by decide +kernel, by decide +kernel⟩
abbrev s__law_shows : Stmt := topS 117
abbrev N__law_shows : List Str := ["desk", "state", "way"]
theorem sc__law_shows : FnScope N__law_shows ["desk", "state"] (defScope s__law_shows) := ⟨rfl, rfl, rfl, by decide +kernel, rfl, by decide +kernel, by decide +kernel⟩
abbrev s__law_next : Stmt := topS 118
abbrev N__law_next : List Str := ["past", "parts", "due", "late"]
theorem sc__law_next : FnScope N__law_next ["past", "parts"] (defScope s__law_next) := ⟨rfl, rfl, rfl, by decide +kernel, rfl, by decide +kernel, by decide +kernel⟩
abbrev s_law : Stmt := topS 119
abbrev N_law : List Str := ["script", "desks", "pasts", "k", "well", "some", "parts", "words", "which", "due"]
theorem sc_law : FnScope N_law ["script"] (defScope s_law) := ⟨rfl, rfl, rfl, by decide +kernel, rfl, by decide +kernel, by decide +kernel⟩
abbrev k_LOW : Str := mkS [97, 98, 99, 100, 101, 102, 103, 104, 105, 106, 107, 108, 109, 110, 111, 112, 113, 114, 115, 116, 117, 118, 119, 120, 121, 122]
abbrev k_HIGH : Str := mkS [65, 66, 67, 68, 69, 70, 71, 72, 73, 74, 75, 76, 77, 78, 79, 80, 81, 82, 83, 84, 85, 86, 87, 88, 89, 90]
abbrev k_EMPTY : Str := mkS [45]
abbrev k_DIGITS : Str := mkS [48, 49, 50, 51, 52, 53, 54, 55, 56, 57]
abbrev k_HEAD : Str := mkS [108, 101, 116, 116, 101, 114, 115, 32]
abbrev k_TAIL : Str := mkS [32, 105, 115, 32, 110, 111, 116, 104, 105, 110, 103]
set_option maxHeartbeats 4000000 in
/-- what the top has written -/
structure Tx (K : PySem.W.Frag) (mg : Str → Option Value) where
  a_NoRows_init : Addr
  d_NoRows_init : FuncData
  F_NoRows_init : Fun K "__init__" "NoRows.__init__" s_NoRows_init a_NoRows_init d_NoRows_init
  b_NoRows_init : Binds K d_NoRows_init ["self", "index"] []
  a_is_whole : Addr
  d_is_whole : FuncData
  F_is_whole : Fun K "is_whole" "is_whole" s_is_whole a_is_whole d_is_whole
  b_is_whole : Binds K d_is_whole ["value"] []
  g_is_whole : mg "is_whole" = some (.ref a_is_whole)
  a_is_row : Addr
  d_is_row : FuncData
  F_is_row : Fun K "is_row" "is_row" s_is_row a_is_row d_is_row
  b_is_row : Binds K d_is_row ["value"] []
  g_is_row : mg "is_row" = some (.ref a_is_row)
  a_is_row_of : Addr
  d_is_row_of : FuncData
  F_is_row_of : Fun K "is_row_of" "is_row_of" s_is_row_of a_is_row_of d_is_row_of
  b_is_row_of : Binds K d_is_row_of ["letters", "value"] []
  g_is_row_of : mg "is_row_of" = some (.ref a_is_row_of)
  a_are_letters : Addr
  d_are_letters : FuncData
  F_are_letters : Fun K "are_letters" "are_letters" s_are_letters a_are_letters d_are_letters
  b_are_letters : Binds K d_are_letters ["value"] []
  g_are_letters : mg "are_letters" = some (.ref a_are_letters)
  a_check_row : Addr
  d_check_row : FuncData
  F_check_row : Fun K "check_row" "check_row" s_check_row a_check_row d_check_row
  b_check_row : Binds K d_check_row ["value"] []
  g_check_row : mg "check_row" = some (.ref a_check_row)
  a_check_row_of : Addr
  d_check_row_of : FuncData
  F_check_row_of : Fun K "check_row_of" "check_row_of" s_check_row_of a_check_row_of d_check_row_of
  b_check_row_of : Binds K d_check_row_of ["letters", "value"] []
  g_check_row_of : mg "check_row_of" = some (.ref a_check_row_of)
  a_check_letters : Addr
  d_check_letters : FuncData
  F_check_letters : Fun K "check_letters" "check_letters" s_check_letters a_check_letters d_check_letters
  b_check_letters : Binds K d_check_letters ["value"] []
  g_check_letters : mg "check_letters" = some (.ref a_check_letters)
  a_back_of : Addr
  d_back_of : FuncData
  F_back_of : Fun K "back_of" "back_of" s_back_of a_back_of d_back_of
  b_back_of : Binds K d_back_of ["row"] []
  g_back_of : mg "back_of" = some (.ref a_back_of)
  a_least_of : Addr
  d_least_of : FuncData
  F_least_of : Fun K "least_of" "least_of" s_least_of a_least_of d_least_of
  b_least_of : Binds K d_least_of ["row"] []
  g_least_of : mg "least_of" = some (.ref a_least_of)
  a_core_of : Addr
  d_core_of : FuncData
  F_core_of : Fun K "core_of" "core_of" s_core_of a_core_of d_core_of
  b_core_of : Binds K d_core_of ["free"] []
  g_core_of : mg "core_of" = some (.ref a_core_of)
  a_root : Addr
  d_root : FuncData
  F_root : Fun K "root" "root" s_root a_root d_root
  b_root : Binds K d_root ["row"] []
  g_root : mg "root" = some (.ref a_root)
  a_is_turned : Addr
  d_is_turned : FuncData
  F_is_turned : Fun K "is_turned" "is_turned" s_is_turned a_is_turned d_is_turned
  b_is_turned : Binds K d_is_turned ["one", "two"] []
  g_is_turned : mg "is_turned" = some (.ref a_is_turned)
  a_is_ring_row : Addr
  d_is_ring_row : FuncData
  F_is_ring_row : Fun K "is_ring_row" "is_ring_row" s_is_ring_row a_is_ring_row d_is_ring_row
  b_is_ring_row : Binds K d_is_ring_row ["letters", "value"] []
  g_is_ring_row : mg "is_ring_row" = some (.ref a_is_ring_row)
  a_is_kin : Addr
  d_is_kin : FuncData
  F_is_kin : Fun K "is_kin" "is_kin" s_is_kin a_is_kin d_is_kin
  b_is_kin : Binds K d_is_kin ["one", "two"] []
  g_is_kin : mg "is_kin" = some (.ref a_is_kin)
  a_can_stand : Addr
  d_can_stand : FuncData
  F_can_stand : Fun K "can_stand" "can_stand" s_can_stand a_can_stand d_can_stand
  b_can_stand : Binds K d_can_stand ["letters", "earlier", "value"] []
  g_can_stand : mg "can_stand" = some (.ref a_can_stand)
  a_check_rows : Addr
  d_check_rows : FuncData
  F_check_rows : Fun K "check_rows" "check_rows" s_check_rows a_check_rows d_check_rows
  b_check_rows : Binds K d_check_rows ["letters", "rows"] []
  g_check_rows : mg "check_rows" = some (.ref a_check_rows)
  a_Rules_init : Addr
  d_Rules_init : FuncData
  v_Rules_init : V
  dv_Rules_init : Dfl0 K v_Rules_init
  F_Rules_init : FunD K "__init__" "Rules.__init__" (defArgs s_Rules_init) (defBody s_Rules_init) (defScope s_Rules_init) [v_Rules_init] [] a_Rules_init d_Rules_init
  b_Rules_init : Binds K d_Rules_init ["self", "letters", "rows"] []
  a_Rules_letters : Addr
  d_Rules_letters : FuncData
  F_Rules_letters : Fun K "letters" "Rules.letters" s_Rules_letters a_Rules_letters d_Rules_letters
  b_Rules_letters : Binds K d_Rules_letters ["self"] []
  a_Rules_rows : Addr
  d_Rules_rows : FuncData
  F_Rules_rows : Fun K "rows" "Rules.rows" s_Rules_rows a_Rules_rows d_Rules_rows
  b_Rules_rows : Binds K d_Rules_rows ["self"] []
  a_Rules_without : Addr
  d_Rules_without : FuncData
  F_Rules_without : Fun K "without" "Rules.without" s_Rules_without a_Rules_without d_Rules_without
  b_Rules_without : Binds K d_Rules_without ["self", "index"] []
  a_stretch : Addr
  d_stretch : FuncData
  F_stretch : Fun K "stretch" "stretch" s_stretch a_stretch d_stretch
  b_stretch : Binds K d_stretch ["row", "place"] []
  g_stretch : mg "stretch" = some (.ref a_stretch)
  a_written : Addr
  d_written : FuncData
  F_written : Fun K "written" "written" s_written a_written d_written
  b_written : Binds K d_written ["row"] []
  g_written : mg "written" = some (.ref a_written)
  a_number_in : Addr
  d_number_in : FuncData
  F_number_in : Fun K "number_in" "number_in" s_number_in a_number_in d_number_in
  b_number_in : Binds K d_number_in ["text"] []
  g_number_in : mg "number_in" = some (.ref a_number_in)
  a_times_in : Addr
  d_times_in : FuncData
  F_times_in : Fun K "times_in" "times_in" s_times_in a_times_in d_times_in
  b_times_in : Binds K d_times_in ["text"] []
  g_times_in : mg "times_in" = some (.ref a_times_in)
  a_digits_at : Addr
  d_digits_at : FuncData
  F_digits_at : Fun K "digits_at" "digits_at" s_digits_at a_digits_at d_digits_at
  b_digits_at : Binds K d_digits_at ["text", "place"] []
  g_digits_at : mg "digits_at" = some (.ref a_digits_at)
  a_row_in : Addr
  d_row_in : FuncData
  F_row_in : Fun K "row_in" "row_in" s_row_in a_row_in d_row_in
  b_row_in : Binds K d_row_in ["text", "most"] []
  g_row_in : mg "row_in" = some (.ref a_row_in)
  a_any_row_in : Addr
  d_any_row_in : FuncData
  F_any_row_in : Fun K "any_row_in" "any_row_in" s_any_row_in a_any_row_in d_any_row_in
  b_any_row_in : Binds K d_any_row_in ["text"] []
  g_any_row_in : mg "any_row_in" = some (.ref a_any_row_in)
  a_row_text : Addr
  d_row_text : FuncData
  F_row_text : Fun K "row_text" "row_text" s_row_text a_row_text d_row_text
  b_row_text : Binds K d_row_text ["row"] []
  g_row_text : mg "row_text" = some (.ref a_row_text)
  a_rules_text : Addr
  d_rules_text : FuncData
  F_rules_text : Fun K "rules_text" "rules_text" s_rules_text a_rules_text d_rules_text
  b_rules_text : Binds K d_rules_text ["rules"] []
  g_rules_text : mg "rules_text" = some (.ref a_rules_text)
  a_row_or_none : Addr
  d_row_or_none : FuncData
  F_row_or_none : Fun K "row_or_none" "row_or_none" s_row_or_none a_row_or_none d_row_or_none
  b_row_or_none : Binds K d_row_or_none ["words"] []
  g_row_or_none : mg "row_or_none" = some (.ref a_row_or_none)
  a_index_or_none : Addr
  d_index_or_none : FuncData
  F_index_or_none : Fun K "index_or_none" "index_or_none" s_index_or_none a_index_or_none d_index_or_none
  b_index_or_none : Binds K d_index_or_none ["words"] []
  g_index_or_none : mg "index_or_none" = some (.ref a_index_or_none)
  a_rules_answer : Addr
  d_rules_answer : FuncData
  F_rules_answer : Fun K "rules_answer" "rules_answer" s_rules_answer a_rules_answer d_rules_answer
  b_rules_answer : Binds K d_rules_answer ["work", "word"] []
  g_rules_answer : mg "rules_answer" = some (.ref a_rules_answer)
  a_row_answer : Addr
  d_row_answer : FuncData
  F_row_answer : Fun K "row_answer" "row_answer" s_row_answer a_row_answer d_row_answer
  b_row_answer : Binds K d_row_answer ["work", "row", "word"] []
  g_row_answer : mg "row_answer" = some (.ref a_row_answer)
  a_Desk_init : Addr
  d_Desk_init : FuncData
  F_Desk_init : Fun K "__init__" "Desk.__init__" s_Desk_init a_Desk_init d_Desk_init
  b_Desk_init : Binds K d_Desk_init ["self"] []
  a_Desk_turn_to : Addr
  d_Desk_turn_to : FuncData
  F_Desk_turn_to : Fun K "turn_to" "Desk.turn_to" s_Desk_turn_to a_Desk_turn_to d_Desk_turn_to
  b_Desk_turn_to : Binds K d_Desk_turn_to ["self", "work", "word"] []
  a_Desk_row_read : Addr
  d_Desk_row_read : FuncData
  F_Desk_row_read : Fun K "row_read" "Desk.row_read" s_Desk_row_read a_Desk_row_read d_Desk_row_read
  b_Desk_row_read : Binds K d_Desk_row_read ["self", "words"] []
  a_Desk_letters_told : Addr
  d_Desk_letters_told : FuncData
  F_Desk_letters_told : Fun K "letters_told" "Desk.letters_told" s_Desk_letters_told a_Desk_letters_told d_Desk_letters_told
  b_Desk_letters_told : Binds K d_Desk_letters_told ["self", "words"] []
  a_Desk_row_told : Addr
  d_Desk_row_told : FuncData
  F_Desk_row_told : Fun K "row_told" "Desk.row_told" s_Desk_row_told a_Desk_row_told d_Desk_row_told
  b_Desk_row_told : Binds K d_Desk_row_told ["self", "words"] []
  a_Desk_row_dropped : Addr
  d_Desk_row_dropped : FuncData
  F_Desk_row_dropped : Fun K "row_dropped" "Desk.row_dropped" s_Desk_row_dropped a_Desk_row_dropped d_Desk_row_dropped
  b_Desk_row_dropped : Binds K d_Desk_row_dropped ["self", "words"] []
  a_Desk_row_taken : Addr
  d_Desk_row_taken : FuncData
  F_Desk_row_taken : Fun K "row_taken" "Desk.row_taken" s_Desk_row_taken a_Desk_row_taken d_Desk_row_taken
  b_Desk_row_taken : Binds K d_Desk_row_taken ["self", "words"] []
  a_Desk_undone : Addr
  d_Desk_undone : FuncData
  F_Desk_undone : Fun K "undone" "Desk.undone" s_Desk_undone a_Desk_undone d_Desk_undone
  b_Desk_undone : Binds K d_Desk_undone ["self"] []
  a_Desk_order_of : Addr
  d_Desk_order_of : FuncData
  F_Desk_order_of : Fun K "order_of" "Desk.order_of" s_Desk_order_of a_Desk_order_of d_Desk_order_of
  b_Desk_order_of : Binds K d_Desk_order_of ["self", "word", "words"] []
  a_Desk_order : Addr
  d_Desk_order : FuncData
  F_Desk_order : Fun K "order" "Desk.order" s_Desk_order a_Desk_order d_Desk_order
  b_Desk_order : Binds K d_Desk_order ["self", "text"] []
  a__law_well : Addr
  d__law_well : FuncData
  F__law_well : Fun K "_law_well" "_law_well" s__law_well a__law_well d__law_well
  b__law_well : Binds K d__law_well ["script", "k"] []
  g__law_well : mg "_law_well" = some (.ref a__law_well)
  a__law_pull : Addr
  d__law_pull : FuncData
  F__law_pull : Fun K "_law_pull" "_law_pull" s__law_pull a__law_pull d__law_pull
  b__law_pull : Binds K d__law_pull ["well", "many"] []
  g__law_pull : mg "_law_pull" = some (.ref a__law_pull)
  a__law_one_of : Addr
  d__law_one_of : FuncData
  F__law_one_of : Fun K "_law_one_of" "_law_one_of" s__law_one_of a__law_one_of d__law_one_of
  b__law_one_of : Binds K d__law_one_of ["well", "some"] []
  g__law_one_of : mg "_law_one_of" = some (.ref a__law_one_of)
  a__law_flip : Addr
  d__law_flip : FuncData
  F__law_flip : Fun K "_law_flip" "_law_flip" s__law_flip a__law_flip d__law_flip
  b__law_flip : Binds K d__law_flip ["sign"] []
  g__law_flip : mg "_law_flip" = some (.ref a__law_flip)
  a__law_back : Addr
  d__law_back : FuncData
  F__law_back : Fun K "_law_back" "_law_back" s__law_back a__law_back d__law_back
  b__law_back : Binds K d__law_back ["word"] []
  g__law_back : mg "_law_back" = some (.ref a__law_back)
  a__law_alphabet : Addr
  d__law_alphabet : FuncData
  F__law_alphabet : Fun K "_law_alphabet" "_law_alphabet" s__law_alphabet a__law_alphabet d__law_alphabet
  b__law_alphabet : Binds K d__law_alphabet ["well"] []
  g__law_alphabet : mg "_law_alphabet" = some (.ref a__law_alphabet)
  a__law_ring : Addr
  d__law_ring : FuncData
  F__law_ring : Fun K "_law_ring" "_law_ring" s__law_ring a__law_ring d__law_ring
  b__law_ring : Binds K d__law_ring ["well", "alphabet", "size"] []
  g__law_ring : mg "_law_ring" = some (.ref a__law_ring)
  a__law_is_kin : Addr
  d__law_is_kin : FuncData
  F__law_is_kin : Fun K "_law_is_kin" "_law_is_kin" s__law_is_kin a__law_is_kin d__law_is_kin
  b__law_is_kin : Binds K d__law_is_kin ["one", "two"] []
  g__law_is_kin : mg "_law_is_kin" = some (.ref a__law_is_kin)
  a__law_word : Addr
  d__law_word : FuncData
  F__law_word : Fun K "_law_word" "_law_word" s__law_word a__law_word d__law_word
  b__law_word : Binds K d__law_word ["well", "alphabet", "most"] []
  g__law_word : mg "_law_word" = some (.ref a__law_word)
  a__law_short_text : Addr
  d__law_short_text : FuncData
  F__law_short_text : Fun K "_law_short_text" "_law_short_text" s__law_short_text a__law_short_text d__law_short_text
  b__law_short_text : Binds K d__law_short_text ["word"] []
  g__law_short_text : mg "_law_short_text" = some (.ref a__law_short_text)
  a__law_least : Addr
  d__law_least : FuncData
  F__law_least : Fun K "_law_least" "_law_least" s__law_least a__law_least d__law_least
  b__law_least : Binds K d__law_least ["word"] []
  g__law_least : mg "_law_least" = some (.ref a__law_least)
  a__law_root : Addr
  d__law_root : FuncData
  F__law_root : Fun K "_law_root" "_law_root" s__law_root a__law_root d__law_root
  b__law_root : Binds K d__law_root ["free"] []
  g__law_root : mg "_law_root" = some (.ref a__law_root)
  a__law_fits : Addr
  d__law_fits : FuncData
  F__law_fits : Fun K "_law_fits" "_law_fits" s__law_fits a__law_fits d__law_fits
  b__law_fits : Binds K d__law_fits ["word", "told"] []
  g__law_fits : mg "_law_fits" = some (.ref a__law_fits)
  a__law_rules_text : Addr
  d__law_rules_text : FuncData
  F__law_rules_text : Fun K "_law_rules_text" "_law_rules_text" s__law_rules_text a__law_rules_text d__law_rules_text
  b__law_rules_text : Binds K d__law_rules_text ["state"] []
  g__law_rules_text : mg "_law_rules_text" = some (.ref a__law_rules_text)
  a__law_behind : Addr
  d__law_behind : FuncData
  F__law_behind : Fun K "_law_behind" "_law_behind" s__law_behind a__law_behind d__law_behind
  b__law_behind : Binds K d__law_behind ["state", "parts"] []
  g__law_behind : mg "_law_behind" = some (.ref a__law_behind)
  a__law_answer : Addr
  d__law_answer : FuncData
  F__law_answer : Fun K "_law_answer" "_law_answer" s__law_answer a__law_answer d__law_answer
  b__law_answer : Binds K d__law_answer ["desk", "words"] []
  g__law_answer : mg "_law_answer" = some (.ref a__law_answer)
  a__law_is : Addr
  d__law_is : FuncData
  F__law_is : Fun K "_law_is" "_law_is" s__law_is a__law_is d__law_is
  b__law_is : Binds K d__law_is ["found", "due"] []
  g__law_is : mg "_law_is" = some (.ref a__law_is)
  a__law_row_words : Addr
  d__law_row_words : FuncData
  F__law_row_words : Fun K "_law_row_words" "_law_row_words" s__law_row_words a__law_row_words d__law_row_words
  b__law_row_words : Binds K d__law_row_words ["well", "word"] []
  g__law_row_words : mg "_law_row_words" = some (.ref a__law_row_words)
  a__law_row_told : Addr
  d__law_row_told : FuncData
  F__law_row_told : Fun K "_law_row_told" "_law_row_told" s__law_row_told a__law_row_told d__law_row_told
  b__law_row_told : Binds K d__law_row_told ["well", "alphabet", "told"] []
  g__law_row_told : mg "_law_row_told" = some (.ref a__law_row_told)
  a__law_drawn : Addr
  d__law_drawn : FuncData
  F__law_drawn : Fun K "_law_drawn" "_law_drawn" s__law_drawn a__law_drawn d__law_drawn
  b__law_drawn : Binds K d__law_drawn ["well", "state"] []
  g__law_drawn : mg "_law_drawn" = some (.ref a__law_drawn)
  a__law_words : Addr
  d__law_words : FuncData
  F__law_words : Fun K "_law_words" "_law_words" s__law_words a__law_words d__law_words
  b__law_words : Binds K d__law_words ["well", "parts"] []
  g__law_words : mg "_law_words" = some (.ref a__law_words)
  a__law_shows : Addr
  d__law_shows : FuncData
  F__law_shows : Fun K "_law_shows" "_law_shows" s__law_shows a__law_shows d__law_shows
  b__law_shows : Binds K d__law_shows ["desk", "state"] []
  g__law_shows : mg "_law_shows" = some (.ref a__law_shows)
  a__law_next : Addr
  d__law_next : FuncData
  F__law_next : Fun K "_law_next" "_law_next" s__law_next a__law_next d__law_next
  b__law_next : Binds K d__law_next ["past", "parts"] []
  g__law_next : mg "_law_next" = some (.ref a__law_next)
  a_law : Addr
  d_law : FuncData
  F_law : Fun K "law" "law" s_law a_law d_law
  b_law : Binds K d_law ["script"] []
  g_law : mg "law" = some (.ref a_law)
  a_RowError : Addr
  ns_RowError : PySem.W.nsIn K mainGlobals "RowError" = some (some (.ref a_RowError))
  gc_RowError : mg "RowError" = some (.ref a_RowError)
  xa_RowError : XcA K a_RowError
  ri_RowError : RiC K a_RowError
  a_NoRow : Addr
  ns_NoRow : PySem.W.nsIn K mainGlobals "NoRow" = some (some (.ref a_NoRow))
  gc_NoRow : mg "NoRow" = some (.ref a_NoRow)
  xa_NoRow : XcA K a_NoRow
  xx_NoRow : PySem.W.excIn K a_NoRow [.type "ValueError", .type "Exception", .type "BaseException", .type "object"] "ValueError.__new__" = true
  a_NoLetters : Addr
  ns_NoLetters : PySem.W.nsIn K mainGlobals "NoLetters" = some (some (.ref a_NoLetters))
  gc_NoLetters : mg "NoLetters" = some (.ref a_NoLetters)
  xa_NoLetters : XcA K a_NoLetters
  xx_NoLetters : PySem.W.excIn K a_NoLetters [.type "ValueError", .type "Exception", .type "BaseException", .type "object"] "ValueError.__new__" = true
  a_NoRows : Addr
  ns_NoRows : PySem.W.nsIn K mainGlobals "NoRows" = some (some (.ref a_NoRows))
  gc_NoRows : mg "NoRows" = some (.ref a_NoRows)
  xa_NoRows : XcA K a_NoRows
  ox_NoRows : OexC K a_NoRows
  xi_NoRows : PySem.W.findIn K (.ref a_NoRows) "__init__" = some (some (.ref a_NoRows_init))
  xt_NoRows : PySem.W.typeIn K (.ref a_NoRows_init) = some (.type "function")
  nf_NoRows_index : PySem.W.findIn K (.ref a_NoRows) "index" = some none
  a_NoIndex : Addr
  ns_NoIndex : PySem.W.nsIn K mainGlobals "NoIndex" = some (some (.ref a_NoIndex))
  gc_NoIndex : mg "NoIndex" = some (.ref a_NoIndex)
  xa_NoIndex : XcA K a_NoIndex
  xx_NoIndex : PySem.W.excIn K a_NoIndex [.type "ValueError", .type "Exception", .type "BaseException", .type "object"] "ValueError.__new__" = true
  a_NoOrder : Addr
  ns_NoOrder : PySem.W.nsIn K mainGlobals "NoOrder" = some (some (.ref a_NoOrder))
  gc_NoOrder : mg "NoOrder" = some (.ref a_NoOrder)
  xa_NoOrder : XcA K a_NoOrder
  xx_NoOrder : PySem.W.excIn K a_NoOrder [.type "ValueError", .type "Exception", .type "BaseException", .type "object"] "ValueError.__new__" = true
  a_NothingToUndo : Addr
  ns_NothingToUndo : PySem.W.nsIn K mainGlobals "NothingToUndo" = some (some (.ref a_NothingToUndo))
  gc_NothingToUndo : mg "NothingToUndo" = some (.ref a_NothingToUndo)
  xa_NothingToUndo : XcA K a_NothingToUndo
  xx_NothingToUndo : PySem.W.excIn K a_NothingToUndo [.type "ValueError", .type "Exception", .type "BaseException", .type "object"] "ValueError.__new__" = true
  a_NotShort : Addr
  ns_NotShort : PySem.W.nsIn K mainGlobals "NotShort" = some (some (.ref a_NotShort))
  gc_NotShort : mg "NotShort" = some (.ref a_NotShort)
  xa_NotShort : XcA K a_NotShort
  su_NoRow_NoOrder : PySem.W.subIn K (.ref a_NoRow) (.ref a_NoOrder) = some false
  su_NoRow_NoRow : PySem.W.subIn K (.ref a_NoRow) (.ref a_NoRow) = some true
  su_NoRow_NoRows : PySem.W.subIn K (.ref a_NoRow) (.ref a_NoRows) = some false
  su_NoRow_NoIndex : PySem.W.subIn K (.ref a_NoRow) (.ref a_NoIndex) = some false
  su_NoRow_NotShort : PySem.W.subIn K (.ref a_NoRow) (.ref a_NotShort) = some false
  su_NoRow_NothingToUndo : PySem.W.subIn K (.ref a_NoRow) (.ref a_NothingToUndo) = some false
  su_NoLetters_NoOrder : PySem.W.subIn K (.ref a_NoLetters) (.ref a_NoOrder) = some false
  su_NoLetters_NoRow : PySem.W.subIn K (.ref a_NoLetters) (.ref a_NoRow) = some false
  su_NoLetters_NoRows : PySem.W.subIn K (.ref a_NoLetters) (.ref a_NoRows) = some false
  su_NoLetters_NoIndex : PySem.W.subIn K (.ref a_NoLetters) (.ref a_NoIndex) = some false
  su_NoLetters_NotShort : PySem.W.subIn K (.ref a_NoLetters) (.ref a_NotShort) = some false
  su_NoLetters_NothingToUndo : PySem.W.subIn K (.ref a_NoLetters) (.ref a_NothingToUndo) = some false
  su_NoRows_NoOrder : PySem.W.subIn K (.ref a_NoRows) (.ref a_NoOrder) = some false
  su_NoRows_NoRow : PySem.W.subIn K (.ref a_NoRows) (.ref a_NoRow) = some false
  su_NoRows_NoRows : PySem.W.subIn K (.ref a_NoRows) (.ref a_NoRows) = some true
  su_NoRows_NoIndex : PySem.W.subIn K (.ref a_NoRows) (.ref a_NoIndex) = some false
  su_NoRows_NotShort : PySem.W.subIn K (.ref a_NoRows) (.ref a_NotShort) = some false
  su_NoRows_NothingToUndo : PySem.W.subIn K (.ref a_NoRows) (.ref a_NothingToUndo) = some false
  su_NoIndex_NoOrder : PySem.W.subIn K (.ref a_NoIndex) (.ref a_NoOrder) = some false
  su_NoIndex_NoRow : PySem.W.subIn K (.ref a_NoIndex) (.ref a_NoRow) = some false
  su_NoIndex_NoRows : PySem.W.subIn K (.ref a_NoIndex) (.ref a_NoRows) = some false
  su_NoIndex_NoIndex : PySem.W.subIn K (.ref a_NoIndex) (.ref a_NoIndex) = some true
  su_NoIndex_NotShort : PySem.W.subIn K (.ref a_NoIndex) (.ref a_NotShort) = some false
  su_NoIndex_NothingToUndo : PySem.W.subIn K (.ref a_NoIndex) (.ref a_NothingToUndo) = some false
  su_NoOrder_NoOrder : PySem.W.subIn K (.ref a_NoOrder) (.ref a_NoOrder) = some true
  su_NoOrder_NoRow : PySem.W.subIn K (.ref a_NoOrder) (.ref a_NoRow) = some false
  su_NoOrder_NoRows : PySem.W.subIn K (.ref a_NoOrder) (.ref a_NoRows) = some false
  su_NoOrder_NoIndex : PySem.W.subIn K (.ref a_NoOrder) (.ref a_NoIndex) = some false
  su_NoOrder_NotShort : PySem.W.subIn K (.ref a_NoOrder) (.ref a_NotShort) = some false
  su_NoOrder_NothingToUndo : PySem.W.subIn K (.ref a_NoOrder) (.ref a_NothingToUndo) = some false
  su_NothingToUndo_NoOrder : PySem.W.subIn K (.ref a_NothingToUndo) (.ref a_NoOrder) = some false
  su_NothingToUndo_NoRow : PySem.W.subIn K (.ref a_NothingToUndo) (.ref a_NoRow) = some false
  su_NothingToUndo_NoRows : PySem.W.subIn K (.ref a_NothingToUndo) (.ref a_NoRows) = some false
  su_NothingToUndo_NoIndex : PySem.W.subIn K (.ref a_NothingToUndo) (.ref a_NoIndex) = some false
  su_NothingToUndo_NotShort : PySem.W.subIn K (.ref a_NothingToUndo) (.ref a_NotShort) = some false
  su_NothingToUndo_NothingToUndo : PySem.W.subIn K (.ref a_NothingToUndo) (.ref a_NothingToUndo) = some true
  su_NotShort_NotShort : PySem.W.subIn K (.ref a_NotShort) (.ref a_NotShort) = some true
  a_Rules : Addr
  ns_Rules : PySem.W.nsIn K mainGlobals "Rules" = some (some (.ref a_Rules))
  gc_Rules : mg "Rules" = some (.ref a_Rules)
  cl_Rules : Cls K a_Rules
  mk_Rules : Mk K a_Rules a_Rules_init
  na_Rules_alphabet : NoAttr K a_Rules "alphabet"
  na_Rules_told : NoAttr K a_Rules "told"
  me_Rules_letters : Meth K a_Rules "letters" a_Rules_letters
  me_Rules_rows : Meth K a_Rules "rows" a_Rules_rows
  me_Rules_without : Meth K a_Rules "without" a_Rules_without
  a_Desk : Addr
  ns_Desk : PySem.W.nsIn K mainGlobals "Desk" = some (some (.ref a_Desk))
  gc_Desk : mg "Desk" = some (.ref a_Desk)
  cl_Desk : Cls K a_Desk
  mk_Desk : Mk K a_Desk a_Desk_init
  na_Desk_past : NoAttr K a_Desk "past"
  na_Desk_word : NoAttr K a_Desk "word"
  na_Desk_work : NoAttr K a_Desk "work"
  me_Desk_turn_to : Meth K a_Desk "turn_to" a_Desk_turn_to
  me_Desk_row_read : Meth K a_Desk "row_read" a_Desk_row_read
  me_Desk_letters_told : Meth K a_Desk "letters_told" a_Desk_letters_told
  me_Desk_row_told : Meth K a_Desk "row_told" a_Desk_row_told
  me_Desk_row_dropped : Meth K a_Desk "row_dropped" a_Desk_row_dropped
  me_Desk_row_taken : Meth K a_Desk "row_taken" a_Desk_row_taken
  me_Desk_undone : Meth K a_Desk "undone" a_Desk_undone
  me_Desk_order_of : Meth K a_Desk "order_of" a_Desk_order_of
  me_Desk_order : Meth K a_Desk "order" a_Desk_order
  n_str : mg "str" = none
  n_isinstance : mg "isinstance" = none
  n_int : mg "int" = none
  n_bool : mg "bool" = none
  n_all : mg "all" = none
  n_len : mg "len" = none
  n_zip : mg "zip" = none
  n_enumerate : mg "enumerate" = none
  n_any : mg "any" = none
  n_tuple : mg "tuple" = none
  n_abs : mg "abs" = none
  n_max : mg "max" = none
  n_range : mg "range" = none
  n_sorted : mg "sorted" = none
  n_set : mg "set" = none
  n_repr : mg "repr" = none
  n_min : mg "min" = none
  t_LOW : Tok
  g_LOW : mg "LOW" = some (.str k_LOW t_LOW)
  t_HIGH : Tok
  g_HIGH : mg "HIGH" = some (.str k_HIGH t_HIGH)
  t_MOST_LETTERS : Tok
  g_MOST_LETTERS : mg "MOST_LETTERS" = some (.int 4 t_MOST_LETTERS)
  t_MOST_SIZE : Tok
  g_MOST_SIZE : mg "MOST_SIZE" = some (.int 40 t_MOST_SIZE)
  t_MOST_ROWS : Tok
  g_MOST_ROWS : mg "MOST_ROWS" = some (.int 6 t_MOST_ROWS)
  t_EMPTY : Tok
  g_EMPTY : mg "EMPTY" = some (.str k_EMPTY t_EMPTY)
  t_DIGITS : Tok
  g_DIGITS : mg "DIGITS" = some (.str k_DIGITS t_DIGITS)
  t_MOST_CHARACTERS : Tok
  g_MOST_CHARACTERS : mg "MOST_CHARACTERS" = some (.int 300 t_MOST_CHARACTERS)
  t_HEAD : Tok
  g_HEAD : mg "HEAD" = some (.str k_HEAD t_HEAD)
  t_TAIL : Tok
  g_TAIL : mg "TAIL" = some (.str k_TAIL t_TAIL)
  t_MOST_DIGITS : Tok
  g_MOST_DIGITS : mg "MOST_DIGITS" = some (.int 2 t_MOST_DIGITS)
section
variable {P : Program} {w : World} {K : PySem.W.Frag} {mg : Str → Option Value} {base : Heap}
/-! ### are_letters -/
def sp_are_letters (K : PySem.W.Frag) : Sp := fun vs H Q _ => ∃ v : V, vs = [v] ∧ ((∃ l : List Nat, v = T l ∧ l.length ≤ 5000 ∧ ∀ H', Same H H' → Q (.bl (decide (Al l))) H') ∨ (NotS K H v ∧ Q (.bl false) H))
set_option maxHeartbeats 4000000 in
theorem ok_are_letters (Z : Tx K mg) : FnG P w K mg base CX0 1 Z.a_are_letters Z.d_are_letters ["value"] (sp_are_letters K) := by
  refine funG Z.F_are_letters sc_are_letters (fun vs H Q E h => ?_) (fun cdv A outer s H vs Q E gg rm h => ?_)
  · obtain ⟨v, rfl, q⟩ := h; rfl
  · obtain ⟨v, rfl, q⟩ := h
    refine ⟨_,
      (pss_cons (ps_if (PW.pt (pw_or (pt_not (pt_truK K (pe_callB (call_isXK K) (by rfl) Z.n_isinstance (by decide +kernel) (pa_cons (pv 0) (pa_cons (pe_bltn (v := .ty "str") (u := .type "str") (by rfl) Z.n_str (by decide +kernel) rfl) pa_nil))) (by intro _; rfl))) (pw_or1 (pt_not (pt_chain op_le op_le pe_int (pe_callB (call_lenK K) (by rfl) Z.n_len PySem.boot_len (pa_cons (pv 0) pa_nil)) (pe_glob (v := .int 4) (by rfl) Z.g_MOST_LETTERS ⟨_, rfl⟩))))))
        (pss_one (ps_ret pe_bl))
        pss_nil)
      (pss_cons (ps_if (pt_not (pt_truK K (pe_callB (cr_allK K rfl) (by rfl) Z.n_all (by decide +kernel) (pa_cons (pe_lc (own := [("sign", 3)]) (g := gName 3) (tt := tYes) rfl sc_are_letters.nd (pi_K K (pv 0)) (blkOk_by (N := N_are_letters) (sc := defScope s_are_letters) (by decide +kernel)) (fun _ _ _ _ _ => pg_name (i := 3) sc_are_letters.nd rfl (Or.inl rfl)) (fun _ _ _ _ _ => pts_nil) (fun _ _ _ _ _ => (pe_cmpR (op_inK K) (pv 3) (pe_glob (v := .str k_LOW) (by rfl) Z.g_LOW ⟨_, rfl⟩) (by rfl)))) pa_nil)) (by intro _; rfl)))
        (pss_one (ps_ret pe_bl))
        pss_nil)
      (pss_one (ps_ret (pe_callB (cr_allK K rfl) (by rfl) Z.n_all (by decide +kernel) (pa_cons (pe_lc (own := [("one", 1), ("two", 2)])  (tt := tYes) rfl sc_are_letters.nd (pi_zipSK K (by rfl) Z.n_zip (pa_cons (pv 0) (pa_cons (pe_slice (sl_K K) (pv 0) (po_some pe_int) po_none) pa_nil))) (blkOk_by (N := N_are_letters) (sc := defScope s_are_letters) (by decide +kernel)) (fun _ _ _ _ _ => (pg_tupK (n := 2) K rfl (pgs_cons (pg_name (i := 1) sc_are_letters.nd rfl (.inl rfl)) (pgs_cons (pg_name (i := 2) sc_are_letters.nd rfl (.inl rfl)) pgs_nil)))) (fun _ _ _ _ _ => pts_nil) (fun _ _ _ _ _ => (pe_cmpR op_ltG (pv 1) (pv 2) (nomark _)))) pa_nil)))))), ?_⟩
    rw [show L2.start N_are_letters [v] = [some (v), none, none, none] from rfl]
    rcases q with ⟨l, rfl, hl, q⟩ | ⟨⟨t, ty, hk⟩, q⟩
    · have hdec : ¬ Al l → ∀ H', Same H H' → Q (.bl false) H' := fun h H' s => by
        have := q H' s
        rwa [decide_eq_false h] at this
      walk_at "go"
      by_cases c1 : ¬ (1 ≤ l.length)
      · rw [decide_eq_false (show ¬ (1 : Int) ≤ (l.length : Int) by omega)]
        walk_at "go"
        exact hdec (fun h => c1 h.1) _ (Same.refl _)
      have c1 := Classical.not_not.mp c1
      rw [decide_eq_true (show (1 : Int) ≤ (l.length : Int) by omega)]
      walk_at "go"
      by_cases c2 : ¬ (l.length ≤ 4)
      · rw [decide_eq_false (show ¬ (l.length : Int) ≤ 4 by omega)]
        walk_at "go"
        exact hdec (fun h => c2 h.2.1) _ (Same.refl _)
      have c2 := Classical.not_not.mp c2
      rw [decide_eq_true (show (l.length : Int) ≤ 4 by omega)]
      walk_at "go"
      refine lc_known (known_str l) (fun i => some (.bl (decide (97 ≤ l.getD i 0 ∧ l.getD i 0 ≤ 122)))) (by omega) (fun _ _ => trivial) (fun i H2 QT hi sm hk => ?_) (fun D H1 nD s1 eD => ?_)
      · walk_at "go"
        rw [decide_eq_decide.mpr in_low]
        exact hk _ (Same.refl _)
      · walk_at "go"
        rw [fm_range l (fun c => V.bl (decide (97 ≤ c ∧ c ≤ 122))) 0] at eD
        refine r_all (bs := l.map fun c => decide (97 ≤ c ∧ c ≤ 122)) (SqL.of (by rw [eD, List.map_map]; rfl)) ?_
        rw [all_dec l (fun c => 97 ≤ c ∧ c ≤ 122)]
        by_cases c3 : ¬ (∀ c ∈ l, 97 ≤ c ∧ c ≤ 122)
        · rw [decide_eq_false c3]
          walk_at "go"
          exact hdec (fun h => c3 h.2.2.1) _ s1
        have c3 := Classical.not_not.mp c3
        rw [decide_eq_true c3]
        walk_at "go"
        rw [show (1 : Int) = ((1 : Nat) : Int) from rfl, cut_from]
        refine r_goZS (wkS (wkS ?_))
        refine lc_pair (known_zipS (l.map fun c => T [c]) ((l.drop 1).map fun c => T [c])) (fun i => some (.bl (decide (l.getD i 0 < l.getD (1 + i) 0)))) (by simp only [List.length_map, List.length_drop]; omega) (fun _ _ => ⟨rfl, rfl⟩) (fun i H2 d QT hi sm nd hk => ?_) (fun D2 H2 nD2 s2 eD2 => ?_)
        · simp only [List.length_map, List.length_drop] at hi
          rw [chars_getD (show i < l.length by omega), chars_getD (show i < (l.drop 1).length by rw [List.length_drop]; omega), getD_drop] at hk ⊢
          walk_at "go"
          rw [one_ltd]
          exact hk _ (Same.refl _)
        · walk_at "go"
          refine r_all (bs := (List.range (min (l.map fun c => T [c]).length ((l.drop 1).map fun c => T [c]).length)).map fun i => decide (l.getD i 0 < l.getD (1 + i) 0)) (SqL.of (by rw [eD2, List.map_map, ← fm_some]; rfl)) ?_
          rw [all_rng _ (fun i => l.getD i 0 < l.getD (1 + i) 0)]
          have hq := q _ (s1.trans s2)
          rw [show decide (Al l) = decide (∀ i, i < min (l.map fun c => T [c]).length ((l.drop 1).map fun c => T [c]).length → l.getD i 0 < l.getD (1 + i) 0) from decide_eq_decide.mpr ⟨fun h i hi => ?_, fun h => ⟨by omega, c2, c3, pw_adj fun i hi => ?_⟩⟩] at hq
          · exact hq
          · simp only [List.length_map, List.length_drop] at hi
            exact h.lt (by omega) (by omega)
          · have := h i (by simp only [List.length_map, List.length_drop]; omega)
            rwa [Nat.add_comm] at this
    · walk_at "go"
      refine r_ixB ty hk ?_
      walk_at "go"
      exact q
/-! ### check_letters -/
def sp_check_letters (_ : PySem.W.Frag) : Sp := fun vs H Q _ => ∃ a : List Nat, vs = [T a] ∧ Al a ∧ ∀ H', Same H H' → Q .non H'
set_option maxHeartbeats 4000000 in
theorem ok_check_letters (Z : Tx K mg) : FnG P w K mg base CX0 2 Z.a_check_letters Z.d_check_letters ["value"] (sp_check_letters K) := by
  refine funG Z.F_check_letters sc_check_letters (fun vs H Q E h => ?_) (fun cdv A outer s H vs Q E gg rm h => ?_)
  · obtain ⟨a, rfl, ha, q⟩ := h; rfl
  · obtain ⟨a, rfl, ha, q⟩ := h
    refine ⟨_,
      (pss_one (ps_if (pt_not (pt_truK K (pe_callG gg (ok_are_letters Z) rm (by rfl) Z.g_are_letters Z.F_are_letters.kp Z.b_are_letters .nil pass0 (pa_cons (pv 0) pa_nil)) (by intro _; rfl)))
        (pss_one (ps_never))
        pss_nil)), ?_⟩
    rw [show L2.start N_check_letters [T a] = [some (T a)] from rfl]
    have := ha.2.1
    walk_at "go"
    refine ⟨T a, rfl, .inl ⟨a, rfl, by omega, fun H1 s1 => ?_⟩⟩
    rw [decide_eq_true ha]
    walk_at "go"
    exact q _ s1
/-! ### is_row_of -/
def sp_is_row_of (K : PySem.W.Frag) : Sp := fun vs H Q _ => ∃ (a : List Nat) (v : V), vs = [T a, v] ∧ Al a ∧ ((∃ l : List Nat, v = T l ∧ l.length ≤ 5000 ∧ ∀ H', Same H H' → Q (.bl (decide (RowOf a l))) H') ∨ (NotS K H v ∧ Q (.bl false) H))
set_option maxHeartbeats 4000000 in
theorem ok_is_row_of (Z : Tx K mg) : FnG P w K mg base CX0 1 Z.a_is_row_of Z.d_is_row_of ["letters", "value"] (sp_is_row_of K) := by
  refine funG Z.F_is_row_of sc_is_row_of (fun vs H Q E h => ?_) (fun cdv A outer s H vs Q E gg rm h => ?_)
  · obtain ⟨a, v, rfl, ha, q⟩ := h; rfl
  · obtain ⟨a, v, rfl, ha, q⟩ := h
    refine ⟨_,
      (pss_cons (ps_if (pt_not (pt_truK K (pe_callB (call_isXK K) (by rfl) Z.n_isinstance (by decide +kernel) (pa_cons (pv 1) (pa_cons (pe_bltn (v := .ty "str") (u := .type "str") (by rfl) Z.n_str (by decide +kernel) rfl) pa_nil))) (by intro _; rfl)))
        (pss_one (ps_ret pe_bl))
        pss_nil)
      (pss_cons (ps_set (i := 2) sc_is_row_of.nd rfl (.inr rfl) (pe_op (op_addK K) (pv 0) (pe_bm0K K PySem.F.plainAttrs_str PySem.F.slot_str_upper PySem.F.type_str_upper mt_upL (pv 0))))
      (pss_one (ps_ret (pe_callB (cr_allK K rfl) (by rfl) Z.n_all (by decide +kernel) (pa_cons (pe_lc (own := [("sign", 3)]) (g := gName 3) (tt := tYes) rfl sc_is_row_of.nd (pi_K K (pv 1)) (blkOk_by (N := N_is_row_of) (sc := defScope s_is_row_of) (by decide +kernel)) (fun _ _ _ _ _ => pg_name (i := 3) sc_is_row_of.nd rfl (Or.inl rfl)) (fun _ _ _ _ _ => pts_nil) (fun _ _ _ _ _ => (pe_cmpR (op_inK K) (pv 3) (pv 2) (by rfl)))) pa_nil)))))), ?_⟩
    rw [show L2.start N_is_row_of [T a, v] = [some (T a), some (v), none, none] from rfl]
    have hal := ha.1
    have hal2 := ha.2.1
    rcases q with ⟨l, rfl, hl, q⟩ | ⟨⟨t, ty, hk⟩, q⟩
    · walk_at "go"
      refine r_map ha.asc (by omega) ?_
      walk_at "go"
      refine lc_known (known_str l) (fun i => some (.bl (decide (l.getD i 0 ∈ a ++ a.map up1)))) (by omega) (fun _ _ => trivial) (fun i H2 QT hi sm hk => ?_) (fun D H' nD sm eD => ?_)
      · walk_at "go"
        exact hk _ (Same.refl _)
      · walk_at "go"
        rw [fm_range l (fun c => V.bl (decide (c ∈ a ++ a.map up1))) 0] at eD
        refine r_all (bs := l.map fun c => decide (c ∈ a ++ a.map up1)) (SqL.of (by rw [eD, List.map_map]; rfl)) ?_
        rw [all_dec l (fun c => c ∈ a ++ a.map up1)]
        exact q _ sm
    · walk_at "go"
      refine r_ixB ty hk ?_
      walk_at "go"
      exact q
/-! ### is_ring_row -/
def sp_is_ring_row (K : PySem.W.Frag) : Sp := fun vs H Q _ => ∃ (a : List Nat) (v : V), vs = [T a, v] ∧ Al a ∧ ((∃ l : List Nat, v = T l ∧ l.length ≤ 5000 ∧ ∀ H', Same H H' → Q (.bl (decide (RR a l))) H') ∨ (NotS K H v ∧ Q (.bl false) H))
set_option maxHeartbeats 4000000 in
theorem ok_is_ring_row (Z : Tx K mg) : FnG P w K mg base CX0 2 Z.a_is_ring_row Z.d_is_ring_row ["letters", "value"] (sp_is_ring_row K) := by
  refine funG Z.F_is_ring_row sc_is_ring_row (fun vs H Q E h => ?_) (fun cdv A outer s H vs Q E gg rm h => ?_)
  · obtain ⟨a, v, rfl, ha, q⟩ := h; rfl
  · obtain ⟨a, v, rfl, ha, q⟩ := h
    refine ⟨_,
      (pss_cons (ps_if (PW.pt (pw_or (pt_not (pt_truK K (pe_callG gg (ok_is_row_of Z) rm (by rfl) Z.g_is_row_of Z.F_is_row_of.kp Z.b_is_row_of .nil pass0 (pa_cons (pv 0) (pa_cons (pv 1) pa_nil))) (by intro _; rfl))) (pw_or1 (pt_not (pt_chain op_le op_le pe_int (pe_callB (call_lenK K) (by rfl) Z.n_len PySem.boot_len (pa_cons (pv 1) pa_nil)) (pe_glob (v := .int 40) (by rfl) Z.g_MOST_SIZE ⟨_, rfl⟩))))))
        (pss_one (ps_ret pe_bl))
        pss_nil)
      (pss_one (ps_ret (pe_callB (cr_allK K rfl) (by rfl) Z.n_all (by decide +kernel) (pa_cons (pe_lc (own := [("place", 2), ("sign", 3)])  (tt := tYes) rfl sc_is_ring_row.nd (pi_enumSK K (by rfl) Z.n_enumerate (pa_cons (pv 1) pa_nil)) (blkOk_by (N := N_is_ring_row) (sc := defScope s_is_ring_row) (by decide +kernel)) (fun _ _ _ _ _ => (pg_tupK (n := 2) K rfl (pgs_cons (pg_name (i := 2) sc_is_ring_row.nd rfl (.inl rfl)) (pgs_cons (pg_name (i := 3) sc_is_ring_row.nd rfl (.inl rfl)) pgs_nil)))) (fun _ _ _ _ _ => pts_nil) (fun _ _ _ _ _ => (pe_cmpR (op_neK K (hu_of64 rm)) (pv 3) (pe_bm0K K PySem.F.plainAttrs_str PySem.F.slot_str_swapcase PySem.F.type_str_swapcase mt_swapL (pe_ix (ix_K K) (pv 1) (pe_op op_sub (pv 2) pe_int) (fun _ _ => rfl))) (nomark _)))) pa_nil))))), ?_⟩
    rw [show L2.start N_is_ring_row [T a, v] = [some (T a), some (v), none, none] from rfl]
    rcases q with ⟨l, rfl, hl, q⟩ | ⟨hn, q⟩
    · have hdec : ¬ RR a l → ∀ H', Same H H' → Q (.bl false) H' := fun h H' s => by
        have := q H' s
        rwa [decide_eq_false h] at this
      walk_at "go"
      refine ⟨a, T l, rfl, ha, .inl ⟨l, rfl, hl, fun H1 s1 => ?_⟩⟩
      by_cases c1 : ¬ (RowOf a l)
      · rw [decide_eq_false c1]
        walk_at "go"
        exact hdec (fun h => c1 h.1) _ s1
      have c1 := Classical.not_not.mp c1
      rw [decide_eq_true c1]
      have hrow := c1.row ha
      walk_at "go"
      by_cases c2 : ¬ (1 ≤ l.length)
      · rw [decide_eq_false (show ¬ (1 : Int) ≤ (l.length : Int) by omega)]
        walk_at "go"
        exact hdec (fun h => c2 h.2.1) _ s1
      have c2 := Classical.not_not.mp c2
      rw [decide_eq_true (show (1 : Int) ≤ (l.length : Int) by omega)]
      walk_at "go"
      by_cases c3 : ¬ (l.length ≤ 40)
      · rw [decide_eq_false (show ¬ (l.length : Int) ≤ 40 by omega)]
        walk_at "go"
        exact hdec (fun h => c3 h.2.2.1) _ s1
      have c3 := Classical.not_not.mp c3
      rw [decide_eq_true (show (l.length : Int) ≤ 40 by omega)]
      walk_at "go"
      refine r_goES (wkS ?_)
      refine lc_pair (known_enumS (l.map fun c => T [c])) (fun i => some (.bl (decide (l.getD i 0 ≠ swp (l.getD ((i + l.length - 1) % l.length) 0))))) (by rw [List.length_map]; omega) (fun _ _ => rfl) (fun i H2 d QT hi sm nd hk => ?_) (fun D H2 nD s2 eD => ?_)
      · rw [List.length_map] at hi
        rw [chars_getD hi] at hk ⊢
        walk_at "go"
        refine r_ixS (by omega) (at_prev hi) ?_
        have hc := hrow _ (getD_mem (show (i + l.length - 1) % l.length < l.length from Nat.mod_lt _ (by omega)))
        walk_at "go"
        refine r_map (Row.one hc).asc (by simp) ?_
        show rNeG _ _ (T [swp _]) _ _
        walk_at "go"
        rw [show (!decide ([l.getD i 0] = [swp (l.getD ((i + l.length - 1) % l.length) 0)])) = decide (l.getD i 0 ≠ swp (l.getD ((i + l.length - 1) % l.length) 0)) by rw [← decide_not]; exact decide_eq_decide.mpr ⟨fun h e => h (by rw [e]), fun h e => h (List.cons.inj e).1⟩]
        exact hk _ (Same.refl _)
      · walk_at "go"
        refine r_all (bs := (List.range (l.map fun c => T [c]).length).map fun i => decide (l.getD i 0 ≠ swp (l.getD ((i + l.length - 1) % l.length) 0))) (SqL.of (by rw [eD, List.map_map, ← fm_some]; rfl)) ?_
        rw [all_rng _ (fun i => l.getD i 0 ≠ swp (l.getD ((i + l.length - 1) % l.length) 0))]
        have hq := q _ (s1.trans s2)
        rw [show decide (RR a l) = decide (∀ i, i < (l.map fun c => T [c]).length → l.getD i 0 ≠ swp (l.getD ((i + l.length - 1) % l.length) 0)) from decide_eq_decide.mpr ⟨fun h i hi => h.2.2.2 i (by simpa using hi), fun h => ⟨c1, c2, c3, fun i hi => h i (by simpa using hi)⟩⟩] at hq
        exact hq
    · walk_at "go"
      refine ⟨a, v, rfl, ha, .inr ⟨hn, ?_⟩⟩
      walk_at "go"
      exact q
/-! ### is_turned -/
def sp_is_turned (_ : PySem.W.Frag) : Sp := fun vs H Q _ => ∃ a b : List Nat, vs = [T a, T b] ∧ a.length ≤ 1000 ∧ b.length ≤ 1000 ∧ Q (.bl (tnd a b)) H
set_option maxHeartbeats 4000000 in
theorem ok_is_turned (Z : Tx K mg) : FnG P w K mg base CX0 1 Z.a_is_turned Z.d_is_turned ["one", "two"] (sp_is_turned K) := by
  refine funG Z.F_is_turned sc_is_turned (fun vs H Q E h => ?_) (fun cdv A outer s H vs Q E gg rm h => ?_)
  · obtain ⟨a, b, rfl, la, lb, q⟩ := h; rfl
  · obtain ⟨a, b, rfl, la, lb, q⟩ := h
    refine ⟨_,
      (pss_one (ps_ret (pe_andK K (pe_cmpR (op_eqK K (hu_of64 rm)) (pe_callB (call_lenK K) (by rfl) Z.n_len PySem.boot_len (pa_cons (pv 0) pa_nil)) (pe_callB (call_lenK K) (by rfl) Z.n_len PySem.boot_len (pa_cons (pv 1) pa_nil)) (nomark _)) (pe_one (pe_cmpR (op_inK K) (pv 0) (pe_op (op_addK K) (pv 1) (pv 1)) (by rfl)))))), ?_⟩
    rw [show L2.start N_is_turned [T a, T b] = [some (T a), some (T b)] from rfl]
    walk_at "go"
    unfold tnd at q
    refine r_ifd (fun c => ?_) (fun c => ?_)
    · rw [decide_eq_true (show a.length = b.length by omega), Bool.true_and] at q
      walk_at "go"
      exact q
    · rw [decide_eq_false (show ¬ a.length = b.length by omega), Bool.false_and] at q
      rw [decide_eq_false c]
      exact q
/-! ### back_of -/
def sp_back_of (_ : PySem.W.Frag) : Sp := fun vs H Q _ => ∃ l : List Nat, vs = [T l] ∧ Row l ∧ l.length ≤ 5000000 ∧ Q (T (bak l)) H
set_option maxHeartbeats 4000000 in
theorem ok_back_of (Z : Tx K mg) : FnG P w K mg base CX0 1 Z.a_back_of Z.d_back_of ["row"] (sp_back_of K) := by
  refine funG Z.F_back_of sc_back_of (fun vs H Q E h => ?_) (fun cdv A outer s H vs Q E gg rm h => ?_)
  · obtain ⟨l, rfl, ha, hl, q⟩ := h; rfl
  · obtain ⟨l, rfl, ha, hl, q⟩ := h
    refine ⟨_,
      (pss_one (ps_ret (pe_bm0K K PySem.F.plainAttrs_str PySem.F.slot_str_swapcase PySem.F.type_str_swapcase mt_swapL (pe_revK K (pv 0))))), ?_⟩
    rw [show L2.start N_back_of [T l] = [some (T l)] from rfl]
    walk_at "go"
    refine r_map ha.rev.asc (by rw [List.length_reverse]; exact hl) ?_
    exact q
/-! ### is_kin -/
def sp_is_kin (_ : PySem.W.Frag) : Sp := fun vs H Q _ => ∃ a b : List Nat, vs = [T a, T b] ∧ Row b ∧ a.length ≤ 1000 ∧ b.length ≤ 1000 ∧ Q (.bl (tnd a b || tnd a (bak b))) H
set_option maxHeartbeats 4000000 in
theorem ok_is_kin (Z : Tx K mg) : FnG P w K mg base CX0 2 Z.a_is_kin Z.d_is_kin ["one", "two"] (sp_is_kin K) := by
  refine funG Z.F_is_kin sc_is_kin (fun vs H Q E h => ?_) (fun cdv A outer s H vs Q E gg rm h => ?_)
  · obtain ⟨a, b, rfl, hb, la, lb, q⟩ := h; rfl
  · obtain ⟨a, b, rfl, hb, la, lb, q⟩ := h
    refine ⟨_,
      (pss_one (ps_ret (pe_orK K (pe_callG gg (ok_is_turned Z) rm (by rfl) Z.g_is_turned Z.F_is_turned.kp Z.b_is_turned .nil pass0 (pa_cons (pv 0) (pa_cons (pv 1) pa_nil))) (pe_one (pe_callG gg (ok_is_turned Z) rm (by rfl) Z.g_is_turned Z.F_is_turned.kp Z.b_is_turned .nil pass0 (pa_cons (pv 0) (pa_cons (pe_callG gg (ok_back_of Z) rm (by rfl) Z.g_back_of Z.F_back_of.kp Z.b_back_of .nil pass0 (pa_cons (pv 1) pa_nil)) pa_nil))))))), ?_⟩
    rw [show L2.start N_is_kin [T a, T b] = [some (T a), some (T b)] from rfl]
    have hbl := bak_len b
    walk_at "go"
    refine ⟨a, b, rfl, la, lb, ?_⟩
    walk_at "go"
    cases e : tnd a b with
    | true =>
      rw [e, Bool.true_or] at q
      walk_at "go"
      exact q
    | false =>
      rw [e, Bool.false_or] at q
      walk_at "go"
      refine ⟨b, rfl, hb, by omega, ?_⟩
      exact ⟨a, bak b, rfl, la, by omega, q⟩
/-! ### can_stand -/
def sp_can_stand (K : PySem.W.Frag) : Sp := fun vs H Q _ => ∃ (p : Addr) (a : List Nat) (v : V) (es : List (List Nat)), vs = [T a, .ref p, v] ∧ H p = some (.tup (es.map T)) ∧ es.length ≤ 1000 ∧ Al a ∧ (∀ e ∈ es, RR a e) ∧ ((∃ l : List Nat, v = T l ∧ l.length ≤ 5000 ∧ ∀ H', Same H H' → Q (.bl (stB a es l)) H') ∨ (NotS K H v ∧ Q (.bl false) H))
set_option maxHeartbeats 4000000 in
theorem ok_can_stand (Z : Tx K mg) : FnG P w K mg base CX0 3 Z.a_can_stand Z.d_can_stand ["letters", "earlier", "value"] (sp_can_stand K) := by
  refine funG Z.F_can_stand sc_can_stand (fun vs H Q E h => ?_) (fun cdv A outer s H vs Q E gg rm h => ?_)
  · obtain ⟨p, a, v, es, rfl, ep, hel, ha, hes, q⟩ := h; rfl
  · obtain ⟨p, a, v, es, rfl, ep, hel, ha, hes, q⟩ := h
    refine ⟨_,
      (pss_cons (ps_if (PW.pt (pw_or (pt_cmpR op_geG (pe_callB (call_lenK K) (by rfl) Z.n_len PySem.boot_len (pa_cons (pv 1) pa_nil)) (pe_glob (v := .int 6) (by rfl) Z.g_MOST_ROWS ⟨_, rfl⟩) (nomark _)) (pw_or1 (pt_not (pt_truK K (pe_callG gg (ok_is_ring_row Z) rm (by rfl) Z.g_is_ring_row Z.F_is_ring_row.kp Z.b_is_ring_row .nil pass0 (pa_cons (pv 0) (pa_cons (pv 2) pa_nil))) (by intro _; rfl))))))
        (pss_one (ps_ret pe_bl))
        pss_nil)
      (pss_one (ps_ret (pe_notK K (pe_callB (cr_anyK K rfl) (by rfl) Z.n_any (by decide +kernel) (pa_cons (pe_lc (own := [("row", 3)]) (g := gName 3) (tt := tYes) rfl sc_can_stand.nd (pi_K K (pv 1)) (blkOk_by (N := N_can_stand) (sc := defScope s_can_stand) (by decide +kernel)) (fun _ _ _ _ _ => pg_name (i := 3) sc_can_stand.nd rfl (Or.inl rfl)) (fun _ _ _ _ _ => pts_nil) (fun _ _ _ _ _ => (pe_callG gg (ok_is_kin Z) rm (by rfl) Z.g_is_kin Z.F_is_kin.kp Z.b_is_kin .nil pass0 (pa_cons (pv 2) (pa_cons (pv 3) pa_nil))))) pa_nil)))))), ?_⟩
    rw [show L2.start N_can_stand [T a, .ref p, v] = [some (T a), some (.ref p), some (v), none] from rfl]
    by_cases c6 : ¬ (es.length < 6)
    · walk_at "go"
      rw [List.length_map, decide_eq_true (show (es.length : Int) ≥ 6 by omega)]
      walk_at "go"
      rcases q with ⟨l, rfl, hl, q⟩ | ⟨hn, q⟩
      · have := q _ (Same.refl _)
        unfold stB at this
        rwa [decide_eq_false c6, Bool.false_and] at this
      · exact q
    have c6 := Classical.not_not.mp c6
    walk_at "go"
    rw [List.length_map, decide_eq_false (show ¬ ((es.length : Int) ≥ 6) by omega)]
    walk_at "go"
    rcases q with ⟨l, rfl, hl, q⟩ | ⟨hn, q⟩
    · refine ⟨a, T l, rfl, ha, .inl ⟨l, rfl, hl, fun H1 s1 => ?_⟩⟩
      unfold stB at q
      rw [decide_eq_true c6, Bool.true_and] at q
      by_cases c1 : ¬ (RR a l)
      · rw [decide_eq_false c1] at q ⊢
        walk_at "go"
        exact q _ s1
      have c1 := Classical.not_not.mp c1
      rw [decide_eq_true c1] at q ⊢
      rw [Bool.true_and] at q
      have hl40 := c1.2.2.1
      walk_at "go"
      refine r_goT (SqT.of (s1 _ _ ep)) ?_
      refine lc_known (known_tup (es.map T)) (fun i => some (.bl (kinB l (es.getD i [])))) (by rw [List.length_map]; omega) (fun H2 s2 => SqT.of (s2 _ _ (s1 _ _ ep))) (fun i H2 QT hi sm hk => ?_) (fun D H2 nD s2 eD => ?_)
      · have hi' : i < es.length := by simpa using hi
        rw [map_getD es hi']
        have e1 := hes _ (getD_memL hi')
        have le := e1.2.2.1
        walk_at "go"
        refine ⟨l, es.getD i [], rfl, e1.1.row ha, by omega, by omega, ?_⟩
        exact hk _ (Same.refl _)
      · walk_at "go"
        rw [List.length_map, fm_getL es (fun e => some (V.bl (kinB l e))), List.filterMap_eq_map'] at eD
        refine r_any (bs := es.map fun e => kinB l e) (SqL.of (by rw [eD, List.map_map]; rfl)) ?_
        walk_at "go"
        have hq := q _ (s1.trans s2)
        rw [show (es.all fun e => !kinB l e) = !((es.map fun e => kinB l e).any id) by rw [List.any_map, List.not_any_eq_all_not]; rfl] at hq
        exact hq
    · refine ⟨a, v, rfl, ha, .inr ⟨hn, ?_⟩⟩
      walk_at "go"
      exact q
/-! ### check_rows -/
def sp_check_rows (K : PySem.W.Frag) : Sp := fun vs H Q _ => ∃ (v : V) (a : List Nat) (rs : List (List Nat)), vs = [T a, v] ∧ TupV K H v (rs.map T) ∧ Al a ∧ Told a rs ∧ ∀ H', Same H H' → Q .non H'
set_option maxHeartbeats 4000000 in
theorem ok_check_rows (Z : Tx K mg) : FnG P w K mg base CX0 4 Z.a_check_rows Z.d_check_rows ["letters", "rows"] (sp_check_rows K) := by
  refine funG Z.F_check_rows sc_check_rows (fun vs H Q E h => ?_) (fun cdv A outer s H vs Q E gg rm h => ?_)
  · obtain ⟨v, a, rs, rfl, tv, ha, hr, q⟩ := h; rfl
  · obtain ⟨v, a, rs, rfl, tv, ha, hr, q⟩ := h
    refine ⟨_,
      (pss_cons (ps_if (pt_not (pt_truK K (pe_callB (call_isXK K) (by rfl) Z.n_isinstance (by decide +kernel) (pa_cons (pv 1) (pa_cons (pe_bltn (v := .ty "tuple") (u := .type "tuple") (by rfl) Z.n_tuple (by decide +kernel) rfl) pa_nil))) (by intro _; rfl)))
        (pss_one (ps_never))
        pss_nil)
      (pss_one (ps_for PassesOwn.never rfl (pi_enumSK K (by rfl) Z.n_enumerate (pa_cons (pv 1) pa_nil)) (pg_tupK (n := 2) K rfl (pgs_cons (pg_name (i := 2) sc_check_rows.nd rfl (.inl rfl)) (pgs_cons (pg_name (i := 3) sc_check_rows.nd rfl (.inl rfl)) pgs_nil)))
        (pss_one (ps_if (pt_not (pt_truK K (pe_callG gg (ok_can_stand Z) rm (by rfl) Z.g_can_stand Z.F_can_stand.kp Z.b_can_stand .nil pass0 (pa_cons (pv 0) (pa_cons (pe_slice (sl_K K) (pv 1) po_none (po_some (pv 2))) (pa_cons (pv 3) pa_nil)))) (by intro _; rfl)))
          (pss_one (ps_never))
          pss_nil))))), ?_⟩
    rw [show L2.start N_check_rows [T a, v] = [some (T a), some (v), none, none] from rfl]
    have h6 := hr.1
    obtain ⟨p, rfl⟩ := tv.ref
    have ty := tv.ty
    walk_at "go"
    refine r_goES (wkT tv.sq ?_)
    refine for_pair (known_enumS (rs.map T)) (fun i σ H' => ∃ x y, σ = [some (T a), some (.ref p), x, y] ∧ Same H H') ⟨none, none, rfl, Same.refl _⟩ (fun i σ H' _ ⟨_, _, _, s⟩ => (tv.same s).sq) ?_ ?_
    · rintro i σ H' d hi ⟨x, y, rfl, sm⟩ nd
      have hi' : i < rs.length := by simpa using hi
      rw [map_getD rs hi']
      walk_at "go"
      refine r_slT ((tv.same sm).same (Same.new1 nd)).sq (by rw [List.length_map]; exact hi') fun e ne => ?_
      walk_at "go"
      have hri := hr.2.1 _ (getD_memL hi')
      have hl40 := hri.2.2.1
      refine ⟨e, a, T (rs.getD i []), rs.take i, rfl, by rw [upd_same, List.map_take], by rw [List.length_take]; omega, ha, fun z hz => hr.2.1 _ (List.mem_of_mem_take hz), .inl ⟨_, rfl, by omega, fun H2 s2 => ?_⟩⟩
      rw [hr.stands hi']
      walk_at "go"
      exact ⟨_, _, rfl, ((sm.new nd).new ne).trans s2⟩
    · rintro σ H' ⟨x, y, rfl, sm⟩
      walk_at "go"
      exact q _ sm
/-! ### Rules.__init__ -/
def sp_Rules_init (K : PySem.W.Frag) : Sp := spRul K (cA K "Rules")
set_option maxHeartbeats 4000000 in
theorem ok_Rules_init (Z : Tx K mg) : FnG P w K mg base CX0 5 Z.a_Rules_init Z.d_Rules_init ["self", "letters", "rows"] (sp_Rules_init K) := by
  refine funDG Z.F_Rules_init sc_Rules_init (fun vs H Q E h => ?_) (fun cdv A outer s H vs Q E gg rm h => ?_)
  · obtain ⟨x, dx, v, a, rs, rfl, ex, tv, ha, hr, q⟩ := h; rfl
  · obtain ⟨x, dx, v, a, rs, rfl, ex, tv, ha, hr, q⟩ := h
    refine ⟨_,
      (pss_cons (ps_expr (pe_callG gg (ok_check_letters Z) (rm.mono (by decide)) (by rfl) Z.g_check_letters Z.F_check_letters.kp Z.b_check_letters .nil pass0 (pa_cons (pv 1) pa_nil)))
      (pss_cons (ps_expr (pe_callG gg (ok_check_rows Z) rm (by rfl) Z.g_check_rows Z.F_check_rows.kp Z.b_check_rows .nil pass0 (pa_cons (pv 1) (pa_cons (pv 2) pa_nil))))
      (pss_cons (ps_fld (pv 0) (pv 1) rfl)
      (pss_one (ps_fld (pv 0) (pv 2) rfl))))), ?_⟩
    rw [show L2.start N_Rules_init [.ref x, T a, v] = [some (.ref x), some (T a), some (v)] from rfl]
    rw [cA_eq Z.ns_Rules] at ex q
    walk_at "go"
    refine ⟨a, rfl, ha, fun H1 s1 => ?_⟩
    walk_at "go"
    refine ⟨v, a, rs, rfl, tv.same s1, ha, hr, fun H2 s2 => ?_⟩
    have ex2 := s2 _ _ (s1 _ _ ex)
    walk_at "go"
    refine r_sfldI ex2 Z.cl_Rules Z.na_Rules_alphabet (by decide) ?_
    walk_at "go"
    refine r_sfldI upd_same Z.cl_Rules Z.na_Rules_told (by show 1 < 1000; decide) ?_
    refine q _ ?_ (((Kp.of (s1.trans s2)).put).put)
    rw [upd_same]
    exact congrArg (fun z => some (HO.ins Z.a_Rules dx z)) (put2 (by decide +kernel))
theorem bd_Rules_init_2 (Z : Tx K mg) : ∃ ds, Vals [Z.v_Rules_init] ds ∧ Binds K Z.d_Rules_init ["self", "letters", "rows"] ds := Z.F_Rules_init.binds1 2 0 (by simp) (by rfl) (fun T kV doc pm an cdv ct us its hu hi => match us, its, hu, hi with | [_, _], [_], _, _ => ⟨_, rfl, rfl⟩)
/-! ### Desk.__init__ -/
def sp_Desk_init (K : PySem.W.Frag) : Sp := fun vs H Q _ => ∃ (x dx : Addr), vs = [.ref x] ∧ H x = some (.ins (cA K "Desk") dx []) ∧ ∀ H' p r, H p = none → H r = none → Kp x H H' → RulO K (cA K "Rules") H' r [97, 98] [] → DskO (cA K "Desk") H' x p r [] [] → Q .non H'
set_option maxHeartbeats 4000000 in
theorem ok_Desk_init (Z : Tx K mg) : FnG P w K mg base CX0 7 Z.a_Desk_init Z.d_Desk_init ["self"] (sp_Desk_init K) := by
  refine funG Z.F_Desk_init sc_Desk_init (fun vs H Q E h => ?_) (fun cdv A outer s H vs Q E gg rm h => ?_)
  · obtain ⟨x, dx, rfl, ex, q⟩ := h; rfl
  · obtain ⟨x, dx, rfl, ex, q⟩ := h
    refine ⟨_,
      (pss_cons (ps_fld (pv 0) (pe_lst pa_nil) rfl)
      (pss_cons (ps_fld (pv 0) (pe_makeGD gg Z.mk_Rules (ok_Rules_init Z) rm (by rfl) Z.gc_Rules (bd_Rules_init_2 Z) pass0 (pa_cons (pe_strL (l := [97, 98]) (by decide +kernel)) pa_nil)) rfl)
      (pss_one (ps_fld (pv 0) (pe_strL (l := []) (by decide +kernel)) rfl)))), ?_⟩
    rw [show L2.start N_Desk_init [.ref x] = [some (.ref x)] from rfl]
    have hC := cA_eq Z.ns_Rules
    rw [cA_eq Z.ns_Desk] at ex q
    walk_at "go"
    intro p np
    have npx : p ≠ x := fun z => by rw [z, ex] at np; cases np
    generalize hh : upd _ p _ = H1
    obtain ⟨s1, ep⟩ := new_eq np hh
    clear hh
    have ex1 := s1 _ _ ex
    walk_at "go"
    refine r_sfldI ex1 Z.cl_Desk Z.na_Desk_past (by decide) ?_
    generalize hh : upd H1 x _ = H2
    have k2 : Kp x H1 H2 := by rw [← hh]; exact (Kp.refl x H1).put
    have ex2 : H2 x = some (.ins Z.a_Desk dx (putF "past" (.ref p) [])) := by rw [← hh]; exact upd_same
    clear hh
    walk_at "go"
    refine spRul_new (rs := []) hC Z.dv_Rules_init.tv (a := [97, 98]) (by decide) (told_nil _) fun r H3 nr s3 hr => ?_
    have ex3 := s3 _ _ ex2
    have nrx : r ≠ x := fun z => by rw [z, ex2] at nr; cases nr
    walk_at "go"
    refine r_sfldI ex3 Z.cl_Desk Z.na_Desk_work (by show 1 < 1000; decide) ?_
    walk_at "go"
    refine r_sfldI upd_same Z.cl_Desk Z.na_Desk_word (by show 2 < 1000; decide) ?_
    generalize hh : upd (upd H3 x _) x _ = H4
    have k4 : Kx [x] H3 H4 := by rw [← hh]; exact (Kx.refl.putI ex3 (by simp)).putI upd_same (by simp)
    have ex4 : H4 x = some (.ins Z.a_Desk dx (dsF p r [])) := by rw [← hh, ← ds_mk]; exact upd_same
    clear hh
    have kpx : Kp x H H4 := ((Kp.of s1).trans k2).trans ((Kp.of s3).trans (k4.kp1 (by simp)))
    have ep4 := k4.1 _ _ (by simp [npx]) (s3 _ _ (k2 _ _ npx ep))
    exact q H4 p r np (((Kp.of s1).trans k2).free nrx nr) kpx (hr.kx k4 (by simp [nrx])) ⟨dx, [], ex4, ep4, .nil⟩
/-! ### _law_well -/
def sp__law_well (K : PySem.W.Frag) : Sp := fun vs H Q _ => ∃ (a : Addr) (ns : List Int) (k : Nat), vs = [.ref a, .int (k : Int)] ∧ SqL K H a (ns.map V.int) ∧ k ≤ 100 ∧ ∀ p H', H p = none → Same H H' → Wl H' p 0 → Q (.ref p) H'
set_option maxHeartbeats 4000000 in
theorem ok__law_well (Z : Tx K mg) : FnG P w K mg base CX0 1 Z.a__law_well Z.d__law_well ["script", "k"] (sp__law_well K) := by
  refine funG Z.F__law_well sc__law_well (fun vs H Q E h => ?_) (fun cdv A outer s H vs Q E gg rm h => ?_)
  · obtain ⟨a, ns, k, rfl, hS, hk, q⟩ := h; rfl
  · obtain ⟨a, ns, k, rfl, hS, hk, q⟩ := h
    refine ⟨_,
      (pss_cons (ps_set (i := 2) sc__law_well.nd rfl (.inl rfl) (pe_ifExp (pt_cmpR op_ltG (pv 1) (pe_callB (call_lenK K) (by rfl) Z.n_len PySem.boot_len (pa_cons (pv 0) pa_nil)) (nomark _)) (pe_callB call_abs (by rfl) Z.n_abs (by decide +kernel) (pa_cons (pe_callTy call_intG (by rfl) Z.n_int (by decide +kernel) (pa_cons (pe_ix (ix_K K) (pv 0) (pv 1) (fun _ _ => rfl)) pa_nil)) pa_nil)) pe_int))
      (pss_one (ps_ret (pe_lst (pa_cons (pe_callB (call_max2 rfl) (by rfl) Z.n_max (by decide +kernel) (pa_cons pe_int (pa_cons (pe_op op_sub (pv 2) (pe_op op_powW pe_int pe_int)) pa_nil))) (pa_cons (pe_op (op_addK K) (pe_op (op_addK K) (pe_op op_mulG (pe_op op_modN (pe_callTy call_intG (by rfl) Z.n_int (by decide +kernel) (pa_cons (pv 2) pa_nil)) (pe_op (op_addK K) (pe_op op_powW pe_int pe_int) pe_int)) pe_int) (pe_op op_mulG pe_int (pv 1))) pe_int) (pa_cons pe_int pa_nil))))))), ?_⟩
    rw [show L2.start N__law_well [.ref a, .int (k : Int)] = [some (.ref a), some (.int (k : Int)), none] from rfl]
    refine r_seq ?_
    refine r_asg ?_
    refine r_gen (fun v H' => ∃ cell : Int, v = .int cell ∧ 0 ≤ cell ∧ H' = H) (fun v H' hv => ?_) (fun Q' k' => ?_)
    · obtain ⟨cell, rfl, h0, rfl⟩ := hv
      walk_at "go"
      intro p np
      have h1 : 0 ≤ cell % (1000000000000000000000000000000000000 + 67) := Int.emod_nonneg _ (by decide)
      have h2 : cell % (1000000000000000000000000000000000000 + 67) < 1000000000000000000000000000000000000 + 67 := Int.emod_lt_of_pos _ (by decide)
      generalize cell % (1000000000000000000000000000000000000 + 67) = y at h1 h2
      refine q p _ np (Same.new1 np) ⟨_, _, _, upd_same, ?_, ?_, ?_, ?_, ?_⟩
      · split <;> omega
      · omega
      · omega
      · omega
      · omega
    · walk_at "go"
      refine r_ifd (fun c => ?_) (fun c => ?_)
      · have hlt : k < ns.length := by rw [List.length_map] at c; omega
        walk_at "go"
        refine r_ixL hS (at_map hlt) ?_
        walk_at "go"
        exact k' _ _ ⟨_, rfl, by split <;> omega, rfl⟩
      · walk_at "go"
        exact k' _ _ ⟨_, rfl, by omega, rfl⟩
/-! ### _law_pull -/
def sp__law_pull (_ : PySem.W.Frag) : Sp := fun vs H Q _ => ∃ (a : Addr) (m : Int) (n : Nat), vs = [.ref a, .int m] ∧ Wl H a n ∧ n < 2 ^ 60 ∧ (0 < m ∧ m < 2 ^ 200) ∧ ∀ (r : Int) H', 0 ≤ r → r < m → Kp a H H' → Wl H' a (n + 1) → Q (.int r) H'
set_option maxHeartbeats 4000000 in
theorem ok__law_pull (Z : Tx K mg) : FnG P w K mg base CX0 1 Z.a__law_pull Z.d__law_pull ["well", "many"] (sp__law_pull K) := by
  refine funG Z.F__law_pull sc__law_pull (fun vs H Q E h => ?_) (fun cdv A outer s H vs Q E gg rm h => ?_)
  · obtain ⟨a, m, n, rfl, hw, hn, hm, q⟩ := h; rfl
  · obtain ⟨a, m, n, rfl, hw, hn, hm, q⟩ := h
    refine ⟨_,
      (pss_cons (ps_if (pt_cmpR op_gt (pe_ix (ix_K K) (pv 0) pe_int (fun _ _ => rfl)) pe_int (nomark _))
        (pss_cons (ps_set (i := 2) sc__law_pull.nd rfl (.inl rfl) (pe_op op_modN (pe_callTy call_intG (by rfl) Z.n_int (by decide +kernel) (pa_cons (pe_ix (ix_K K) (pv 0) pe_int (fun _ _ => rfl)) pa_nil)) (pv 1)))
        (pss_cons (ps_asg (pe_op op_fdivW (pe_ix (ix_K K) (pv 0) pe_int (fun _ _ => rfl)) (pv 1)) (pg_sub (pv 0) pe_int set_list))
        (pss_one (ps_ret (pv 2)))))
        pss_nil)
      (pss_cons (ps_asg (pe_op (op_addK K) (pe_ix (ix_K K) (pv 0) pe_int (fun _ _ => rfl)) pe_int) (pg_sub (pv 0) pe_int set_list))
      (pss_cons (ps_set (i := 3) sc__law_pull.nd rfl (.inl rfl) (pe_op op_modN (pe_callTy call_intG (by rfl) Z.n_int (by decide +kernel) (pa_cons (pe_op op_powW (pe_op (op_addK K) (pe_ix (ix_K K) (pv 0) pe_int (fun _ _ => rfl)) (pe_op op_mulG pe_int (pe_ix (ix_K K) (pv 0) pe_int (fun _ _ => rfl)))) pe_int) pa_nil)) (pe_op (op_addK K) (pe_op op_powW pe_int pe_int) pe_int)))
      (pss_cons (ps_set (i := 3) sc__law_pull.nd rfl (.inl rfl) (pe_op op_modN (pe_callTy call_intG (by rfl) Z.n_int (by decide +kernel) (pa_cons (pe_op op_powW (pe_op (op_addK K) (pv 3) (pe_op op_mulG pe_int (pe_ix (ix_K K) (pv 0) pe_int (fun _ _ => rfl)))) pe_int) pa_nil)) (pe_op (op_addK K) (pe_op op_powW pe_int pe_int) pe_int)))
      (pss_one (ps_ret (pe_op op_modN (pe_callTy call_intG (by rfl) Z.n_int (by decide +kernel) (pa_cons (pe_op op_fdivW (pv 3) (pe_op op_powW pe_int pe_int)) pa_nil)) (pv 1)))))))), ?_⟩
    rw [show L2.start N__law_pull [.ref a, .int m] = [some (.ref a), some (.int m), none, none] from rfl]
    obtain ⟨w0, w1, w2, eH, p0, p1, p2, p3, p4⟩ := hw
    walk_at "go"
    refine r_ifd (fun c => ?_) (fun c => ?_)
    · walk_at "go"
      exact q _ _ (Int.emod_nonneg _ (by omega)) (Int.emod_lt_of_pos _ hm.1) (Kp.put (Kp.refl a H)) ⟨_, _, _, upd_same, Int.ediv_nonneg p0 (by omega), p1, p2, p3, by omega⟩
    · walk_at "go"
      refine r_I (cpow_of (k := 140) (by decide) (by omega) (by decide)) ?_
      walk_at "go"
      have h1 : 0 ≤ (w1 + 472882027 * (w2 + 1)) ^ (3 : Int).toNat % (10000000000000000000000000000000000000000 + 121) := Int.emod_nonneg _ (by decide)
      have h2 : (w1 + 472882027 * (w2 + 1)) ^ (3 : Int).toNat % (10000000000000000000000000000000000000000 + 121) < 10000000000000000000000000000000000000000 + 121 := Int.emod_lt_of_pos _ (by decide)
      generalize (w1 + 472882027 * (w2 + 1)) ^ (3 : Int).toNat % (10000000000000000000000000000000000000000 + 121) = y at h1 h2
      refine r_I (cpow_of (k := 150) (by decide) (by omega) (by decide)) ?_
      walk_at "go"
      exact q _ _ (Int.emod_nonneg _ (by omega)) (Int.emod_lt_of_pos _ hm.1) (Kp.put (Kp.refl a H)) ⟨_, _, _, upd_same, p0, p1, p2, by omega, by omega⟩
/-! ### _law_one_of -/
def sp__law_one_of (_ : PySem.W.Frag) : Sp := fun vs H Q _ => ∃ (a : Addr) (v : V) (n : Nat), vs = [.ref a, v] ∧ Wl H a n ∧ n < 2 ^ 50 ∧ Or3
  (∃ l : List Nat, v = T l ∧ l ≠ [] ∧ l.length ≤ 1000000 ∧ ∀ c H', c ∈ l → Kp a H H' → Wl H' a (n + 1) → Q (T [c]) H')
  (∃ (p : Addr) (xs : List V), v = .ref p ∧ p ≠ a ∧ H p = some (.lst xs) ∧ xs ≠ [] ∧ xs.length ≤ 1000000 ∧ ∀ x H', x ∈ xs → Kp a H H' → Wl H' a (n + 1) → Q x H')
  (∃ (p : Addr) (xs : List V), v = .ref p ∧ p ≠ a ∧ H p = some (.tup xs) ∧ xs ≠ [] ∧ xs.length ≤ 1000000 ∧ ∀ x H', x ∈ xs → Kp a H H' → Wl H' a (n + 1) → Q x H')
set_option maxHeartbeats 4000000 in
theorem ok__law_one_of (Z : Tx K mg) : FnG P w K mg base CX0 2 Z.a__law_one_of Z.d__law_one_of ["well", "some"] (sp__law_one_of K) := by
  refine funG Z.F__law_one_of sc__law_one_of (fun vs H Q E h => ?_) (fun cdv A outer s H vs Q E gg rm h => ?_)
  · obtain ⟨a, v, n, rfl, hw, hn, q⟩ := h; rfl
  · obtain ⟨a, v, n, rfl, hw, hn, q⟩ := h
    refine ⟨_,
      (pss_one (ps_ret (pe_ix (ix_K K) (pv 1) (pe_callG gg (ok__law_pull Z) rm (by rfl) Z.g__law_pull Z.F__law_pull.kp Z.b__law_pull .nil pass0 (pa_cons (pv 0) (pa_cons (pe_callB (call_lenK K) (by rfl) Z.n_len PySem.boot_len (pa_cons (pv 1) pa_nil)) pa_nil))) (fun _ _ => rfl)))), ?_⟩
    rw [show L2.start N__law_one_of [.ref a, v] = [some (.ref a), some (v)] from rfl]
    rcases q with ⟨l, rfl, hne, hl, q⟩ | ⟨p, xs, rfl, hpa, ep, hne, hl, q⟩ | ⟨p, xs, rfl, hpa, ep, hne, hl, q⟩
    · have hp := List.length_pos_iff.mpr hne
      walk_at "go"
      refine ⟨a, _, n, rfl, hw, by omega, ⟨by omega, by omega⟩, fun r H1 r0 r1 k1 w1 => ?_⟩
      refine r_ixS (by omega) (at_nat r0 r1) ?_
      exact q _ _ (getD_mem (by omega)) k1 w1
    · have hp := List.length_pos_iff.mpr hne
      walk_at "go"
      refine ⟨a, _, n, rfl, hw, by omega, ⟨by omega, by omega⟩, fun r H1 r0 r1 k1 w1 => ?_⟩
      obtain ⟨i, rfl⟩ : ∃ i : Nat, r = (i : Int) := ⟨r.toNat, by omega⟩
      have hi : i < xs.length := by omega
      refine r_ixL (SqL.of (k1 _ _ hpa ep)) (atI_nat (List.getElem?_eq_getElem hi)) ?_
      exact q _ _ (List.getElem_mem hi) k1 w1
    · have hp := List.length_pos_iff.mpr hne
      walk_at "go"
      refine ⟨a, _, n, rfl, hw, by omega, ⟨by omega, by omega⟩, fun r H1 r0 r1 k1 w1 => ?_⟩
      obtain ⟨i, rfl⟩ : ∃ i : Nat, r = (i : Int) := ⟨r.toNat, by omega⟩
      have hi : i < xs.length := by omega
      refine r_ixT (SqT.of (k1 _ _ hpa ep)) (atI_nat (List.getElem?_eq_getElem hi)) ?_
      exact q _ _ (List.getElem_mem hi) k1 w1
/-! ### _law_alphabet -/
def sp__law_alphabet (_ : PySem.W.Frag) : Sp := fun vs H Q _ => ∃ (a : Addr) (n : Nat), vs = [.ref a] ∧ Wl H a n ∧ n < 2 ^ 40 ∧ ∀ l H', Al l → Kp a H H' → Wl H' a (n + 6) → Q (T l) H'
set_option maxHeartbeats 4000000 in
theorem ok__law_alphabet (Z : Tx K mg) : FnG P w K mg base CX0 3 Z.a__law_alphabet Z.d__law_alphabet ["well"] (sp__law_alphabet K) := by
  refine funG Z.F__law_alphabet sc__law_alphabet (fun vs H Q E h => ?_) (fun cdv A outer s H vs Q E gg rm h => ?_)
  · obtain ⟨a, n, rfl, hw, hn, q⟩ := h; rfl
  · obtain ⟨a, n, rfl, hw, hn, q⟩ := h
    refine ⟨_,
      (pss_cons (ps_if (pt_cmpR op_gt (pe_callG gg (ok__law_pull Z) (rm.mono (by decide)) (by rfl) Z.g__law_pull Z.F__law_pull.kp Z.b__law_pull .nil pass0 (pa_cons (pv 0) (pa_cons pe_int pa_nil))) pe_int (nomark _))
        (pss_one (ps_ret (pe_callG gg (ok__law_one_of Z) rm (by rfl) Z.g__law_one_of Z.F__law_one_of.kp Z.b__law_one_of .nil pass0 (pa_cons (pv 0) (pa_cons (pe_lst (pa_cons (pe_strL (l := [97]) (by decide +kernel)) (pa_cons (pe_strL (l := [97, 98]) (by decide +kernel)) (pa_cons (pe_strL (l := [97, 98, 99]) (by decide +kernel)) (pa_cons (pe_strL (l := [97, 98, 99, 100]) (by decide +kernel)) (pa_cons (pe_strL (l := [120, 122]) (by decide +kernel)) (pa_cons (pe_strL (l := [98, 99, 121]) (by decide +kernel)) pa_nil))))))) pa_nil)))))
        pss_nil)
      (pss_cons (ps_set (i := 1) sc__law_alphabet.nd rfl (.inr rfl) (pe_strL (l := [97, 98, 99, 100, 101, 102, 103, 104, 105, 106, 107, 108, 109, 110, 111, 112, 113, 114, 115, 116, 117, 118, 119, 120, 121, 122]) (by decide +kernel)))
      (pss_cons (ps_setLc (i := 2) (own := [("k", 3)]) (g := gName 3) (tt := tYes) rfl sc__law_alphabet.nd rfl rfl (sw_true rfl rfl rfl (by decide +kernel)) (pi_range1 (by rfl) Z.n_range (pa_cons (pe_op (op_addK K) pe_int (pe_callG gg (ok__law_pull Z) (rm.mono (by decide)) (by rfl) Z.g__law_pull Z.F__law_pull.kp Z.b__law_pull .nil pass0 (pa_cons (pv 0) (pa_cons pe_int pa_nil)))) pa_nil)) (blkOk_by (N := N__law_alphabet) (sc := defScope s__law_alphabet) (by decide +kernel)) (fun _ _ _ _ _ => pg_name (i := 3) sc__law_alphabet.nd rfl (Or.inl rfl)) (fun _ _ _ _ _ => pts_nil) (fun _ _ _ _ _ => (pe_ix (ix_K K) (pv 1) (pe_callG gg (ok__law_pull Z) (rm.mono (by decide)) (by rfl) Z.g__law_pull Z.F__law_pull.kp Z.b__law_pull .nil pass0 (pa_cons (pv 0) (pa_cons pe_int pa_nil))) (fun _ _ => rfl))))
      (pss_one (ps_ret (pe_joinK K (pe_strL (l := []) (by decide +kernel)) (pe_sortSetK K (by rfl) (by rfl) (by rfl) Z.n_sorted (by rfl) Z.n_set (pv 2)))))))), ?_⟩
    rw [show L2.start N__law_alphabet [.ref a] = [some (.ref a), none, none, none] from rfl]
    walk_at "go"
    refine ⟨a, 3, n, rfl, hw, by omega, by decide, fun r H1 r0 r1 k1 w1 => ?_⟩
    walk_at "go"
    refine r_ifd (fun c => ?_) (fun c => ?_)
    · walk_at "go"
      intro p np
      generalize hh : upd _ p _ = H2
      obtain ⟨s2, e2⟩ := new_eq np hh
      refine ⟨a, .ref p, _, rfl, w1.same s2, by omega, .inr ⟨p, _, rfl, w1.ne np, e2, by simp, by decide, fun x H3 hx k3 w3 => ?_⟩⟩
      have k13 : Kp a H H3 := k1.trans ((Kp.of s2).trans k3)
      simp only [List.mem_cons, List.not_mem_nil, or_false] at hx
      rcases hx with rfl | rfl | rfl | rfl | rfl | rfl <;> exact q _ _ ⟨by decide, by decide, by decide, by decide⟩ k13 (w3.mono (by omega))
    · walk_at "go"
      refine ⟨a, 4, _, rfl, w1, by omega, by decide, fun r2 H2 r20 r21 k2 w2 => ?_⟩
      obtain ⟨m, rfl⟩ : ∃ m : Nat, r2 = (m : Int) := ⟨r2.toNat, by omega⟩
      have k12 := k1.trans k2
      refine r_goR1 (by omega) ?_
      refine lc_inv (G := fun _ => True) (known_rng 0 _) (fun D i H' => D ≠ a ∧ H2 D = none ∧ Kp a H H' ∧ Wl H' a (n + 2 + i) ∧ ∃ ls : List Nat, ls.length = i ∧ (∀ c ∈ ls, 97 ≤ c ∧ c ≤ 122) ∧ H' D = some (.lst ((ls.map fun c => [c]).map T))) ?_ (fun _ _ _ _ _ => trivial) ?_ ?_
      · intro D nD
        exact ⟨w2.ne nD, nD, k12.new nD, w2.new nD, [], rfl, (fun c hc => nomatch hc), upd_same⟩
      · rintro D i H3 hi ⟨z1, z2, z3, z4, ls, z5, z6, z7⟩
        have hi4 : i < 4 := by omega
        walk_at "go"
        refine ⟨a, 26, _, rfl, z4, by omega, by decide, fun r3 H4 r30 r31 k4 w4 => ?_⟩
        refine r_ixS (l := [97, 98, 99, 100, 101, 102, 103, 104, 105, 106, 107, 108, 109, 110, 111, 112, 113, 114, 115, 116, 117, 118, 119, 120, 121, 122]) (by decide) (at_nat r30 (by simpa using r31)) ?_
        have hm : ∀ c ∈ ([97, 98, 99, 100, 101, 102, 103, 104, 105, 106, 107, 108, 109, 110, 111, 112, 113, 114, 115, 116, 117, 118, 119, 120, 121, 122] : List Nat), 97 ≤ c ∧ c ≤ 122 := by decide
        have hc := hm _ (getD_mem (i := r3.toNat) (show r3.toNat < 26 by omega))
        generalize ([97, 98, 99, 100, 101, 102, 103, 104, 105, 106, 107, 108, 109, 110, 111, 112, 113, 114, 115, 116, 117, 118, 119, 120, 121, 122] : List Nat).getD r3.toNat 0 = c at hc
        refine ⟨_, k4 _ _ z1 z7, by rw [sizeLine_eq, List.length_map, List.length_map]; omega, z1, z2, (z3.trans k4).mut (Kp.free k12 z1 z2), (w4.put z1).mono (by omega), ls ++ [c], by rw [List.length_append, z5]; rfl, ?_, by rw [upd_same, List.map_append, List.map_append]; rfl⟩
        intro d hd
        rcases List.mem_append.mp hd with hd | hd
        · exact z6 d hd
        · rw [List.mem_singleton.mp hd]; exact hc
      · rintro D H3 ⟨z1, z2, z3, z4, ls, z5, z6, z7⟩
        have hl : ls.length = m + 1 := by omega
        walk_at "go"
        refine r_ssetT (SqL.of z7) (by omega) fun zs d hz1 hz2 nd => ?_
        have ha := al_of hz1 hz2 z6 (by omega) (by omega)
        generalize hh : upd _ d _ = H4
        obtain ⟨s4, e4⟩ := new_eq nd hh
        refine r_join0 (ls := zs.map fun c => [c]) (SqL.of e4) (by rw [ones_flat]; have := ha.2.1; omega) ?_
        rw [ones_flat]
        exact q _ _ ha (z3.trans (Kp.of s4)) ((z4.same s4).mono (by omega))
/-! ### _law_flip -/
def sp__law_flip (_ : PySem.W.Frag) : Sp := fun vs H Q _ => ∃ c : Nat, vs = [T [c]] ∧ lett c = true ∧ Q (T [swp c]) H
set_option maxHeartbeats 4000000 in
theorem ok__law_flip (Z : Tx K mg) : FnG P w K mg base CX0 1 Z.a__law_flip Z.d__law_flip ["sign"] (sp__law_flip K) := by
  refine funG Z.F__law_flip sc__law_flip (fun vs H Q E h => ?_) (fun cdv A outer s H vs Q E gg rm h => ?_)
  · obtain ⟨c, rfl, hc, q⟩ := h; rfl
  · obtain ⟨c, rfl, hc, q⟩ := h
    refine ⟨_,
      (pss_one (ps_ret (pe_ifExp (pt_truK K (pe_bm0K K PySem.F.plainAttrs_str PySem.F.slot_str_islower PySem.F.type_str_islower mt_islowL (pv 0)) (by intro _; rfl)) (pe_bm0K K PySem.F.plainAttrs_str PySem.F.slot_str_upper PySem.F.type_str_upper mt_upL (pv 0)) (pe_bm0K K PySem.F.plainAttrs_str PySem.F.slot_str_lower PySem.F.type_str_lower mt_lowL (pv 0))))), ?_⟩
    rw [show L2.start N__law_flip [T [c]] = [some (T [c])] from rfl]
    have ha : Asc [c] := (Row.one hc).asc
    have h128 : c < 128 := ha c (by simp)
    have hl := lett_iff.mp hc
    walk_at "go"
    refine ⟨c, rfl, rfl, h128, ?_⟩
    cases e : isLo c with
    | true =>
      have h97 : 97 ≤ c ∧ c ≤ 122 := by unfold isLo at e; simp at e; omega
      walk_at "go"
      refine r_map ha (by simp) ?_
      have : up1 c = swp c := by unfold up1 swp; (repeat' split) <;> omega
      show Q (T [up1 c]) H
      rw [this]; exact q
    | false =>
      have h97 : ¬ (97 ≤ c ∧ c ≤ 122) := by intro h; unfold isLo at e; simp at e; omega
      walk_at "go"
      refine r_map ha (by simp) ?_
      have : lo1 c = swp c := by unfold lo1 swp; (repeat' split) <;> omega
      show Q (T [lo1 c]) H
      rw [this]; exact q
/-! ### _law_ring -/
def sp__law_ring (_ : PySem.W.Frag) : Sp := fun vs H Q _ => ∃ (p : Addr) (a : List Nat) (m n : Nat), vs = [.ref p, T a, .int (m : Int)] ∧ Wl H p n ∧ n < 2 ^ 40 ∧ Al a ∧ 1 ≤ m ∧ m ≤ 40 ∧ ∀ l H', RR a l → l.length ≤ m → Kp p H H' → Wl H' p (n + m) → Q (T l) H'
set_option maxHeartbeats 4000000 in
theorem ok__law_ring (Z : Tx K mg) : FnG P w K mg base CX0 3 Z.a__law_ring Z.d__law_ring ["well", "alphabet", "size"] (sp__law_ring K) := by
  refine funG Z.F__law_ring sc__law_ring (fun vs H Q E h => ?_) (fun cdv A outer s H vs Q E gg rm h => ?_)
  · obtain ⟨p, a, m, n, rfl, hw, hn, ha, hm0, hm, q⟩ := h; rfl
  · obtain ⟨p, a, m, n, rfl, hw, hn, ha, hm0, hm, q⟩ := h
    refine ⟨_,
      (pss_cons (ps_asg (pe_tup (pa_cons (pe_strL (l := []) (by decide +kernel)) (pa_cons (pe_op (op_addK K) (pv 1) (pe_bm0K K PySem.F.plainAttrs_str PySem.F.slot_str_upper PySem.F.type_str_upper mt_upL (pv 1))) pa_nil))) (pg_tupK (n := 2) K rfl (pgs_cons (pg_name (i := 3) sc__law_ring.nd rfl (.inr rfl)) (pgs_cons (pg_name (i := 4) sc__law_ring.nd rfl (.inl rfl)) pgs_nil))))
      (pss_cons (ps_for PassesOwn.never rfl (pi_range1 (by rfl) Z.n_range (pa_cons (pv 2) pa_nil)) (pg_name (i := 5) sc__law_ring.nd rfl (.inl rfl))
        (pss_one (ps_set (i := 3) sc__law_ring.nd rfl (.inr rfl) (pe_op (op_addK K) (pv 3) (pe_callG gg (ok__law_one_of Z) rm (by rfl) Z.g__law_one_of Z.F__law_one_of.kp Z.b__law_one_of .nil pass0 (pa_cons (pv 0) (pa_cons (pe_lc (own := [("sign", 6)]) (g := gName 6)  rfl sc__law_ring.nd (pi_K K (pv 4)) (blkOk_by (N := N__law_ring) (sc := defScope s__law_ring) (by decide +kernel)) (fun _ _ _ _ _ => pg_name (i := 6) sc__law_ring.nd rfl (Or.inl rfl)) (fun _ _ _ _ _ => (pts_one (PW.pt (pw_or (pt_cmpR (op_eqK K (hu_of64 rm)) (pv 3) (pe_strL (l := []) (by decide +kernel)) (nomark _)) (pw_or1 (pt_cmpR (op_neK K (hu_of64 rm)) (pv 6) (pe_callG gg (ok__law_flip Z) (rm.mono (by decide)) (by rfl) Z.g__law_flip Z.F__law_flip.kp Z.b__law_flip .nil pass0 (pa_cons (pe_ix (ix_K K) (pv 3) (pe_un un_neg pe_int) (fun _ _ => rfl)) pa_nil)) (nomark _))))))) (fun _ _ _ _ _ => (pv 6))) pa_nil)))))))
      (pss_cons (ps_for PassesOwn.never rfl (pi_range1 (by rfl) Z.n_range (pa_cons (pv 2) pa_nil)) (pg_name (i := 5) sc__law_ring.nd rfl (.inl rfl))
        (pss_one (ps_if (PW.pt (pw_and (pt_cmpR op_gt (pe_callB (call_lenK K) (by rfl) Z.n_len PySem.boot_len (pa_cons (pv 3) pa_nil)) pe_int (nomark _)) (pw_and1 (pt_cmpR (op_eqK K (hu_of64 rm)) (pe_ix (ix_K K) (pv 3) pe_int (fun _ _ => rfl)) (pe_callG gg (ok__law_flip Z) (rm.mono (by decide)) (by rfl) Z.g__law_flip Z.F__law_flip.kp Z.b__law_flip .nil pass0 (pa_cons (pe_ix (ix_K K) (pv 3) (pe_un un_neg pe_int) (fun _ _ => rfl)) pa_nil)) (nomark _)))))
          (pss_one (ps_set (i := 3) sc__law_ring.nd rfl (.inr rfl) (pe_slice (sl_K K) (pv 3) (po_some pe_int) (po_some (pe_un un_neg pe_int)))))
          pss_nil)))
      (pss_one (ps_ret (pv 3)))))), ?_⟩
    rw [show L2.start N__law_ring [.ref p, T a, .int (m : Int)] = [some (.ref p), some (T a), some (.int (m : Int)), none, none, none, none] from rfl]
    have hal := ha.1
    have hal2 := ha.2.1
    walk_at "go"
    refine r_map ha.asc (by omega) ?_
    have hS : (a ++ a.map up1).length ≤ 8 := by rw [List.length_append, List.length_map]; omega
    walk_at "go"
    intro t0 nt0
    walk_at "go"
    refine r_goR1 (by omega) ?_
    rw [Int.toNat_natCast]
    refine for_known (known_rng 0 _) (fun i σ H' => ∃ (r : List Nat) (x y : Option V), σ = [some (.ref p), some (T a), some (.int (m : Int)), some (T r), some (T (a ++ a.map up1)), x, y] ∧ r.length = i ∧ RowOf a r ∧ Free r ∧ Kp p H H' ∧ Wl H' p (n + i))
      ⟨[], none, none, rfl, rfl, (fun c hc => nomatch hc), trivial, Kp.of (Same.new1 nt0), hw.new nt0⟩ (fun _ _ _ _ _ => trivial) ?_ ?_
    · rintro i σ H1 hi ⟨r, x, y, rfl, hr, ho, hf, k1, w1⟩
      obtain ⟨b, hb⟩ : ∃ b : Nat, b = if r = [] then 0 else swp (r.getD (r.length - 1) 0) := ⟨_, rfl⟩
      have hsome := some_sign ha b
      have hrow : RowOf a (a ++ a.map up1) := fun c hc => hc
      have hmem : ∀ d ∈ (a ++ a.map up1).filter (fun c => decide (¬ c = b)), d ∈ a ++ a.map up1 ∧ ¬ d = b := fun d hd => by
        obtain ⟨h1, h2⟩ := List.mem_filter.mp hd
        exact ⟨h1, of_decide_eq_true h2⟩
      have hfl := List.length_filter_le (fun c => decide (¬ c = b)) (a ++ a.map up1)
      generalize hSS : a ++ a.map up1 = S at *
      walk_at "go"
      refine lc_known (known_str S) (fun j => if decide (¬ S.getD j 0 = b) = true then some (T [S.getD j 0]) else none) (by omega) (fun _ _ => trivial) (fun j H2 QT hj sm hk => ?_) (fun D H2 nD s2 eD => ?_)
      · have hc : S.getD j 0 ∈ S := getD_mem hj
        have hk1 := hk _ (Same.refl _)
        have hlc : lett (S.getD j 0) = true := (RowOf.row ha (l := [S.getD j 0]) (fun z hz => by rw [List.mem_singleton.mp hz, hSS]; exact hc)) _ (by simp)
        generalize S.getD j 0 = c at *
        walk_at "go"
        refine r_ifd (fun e => ?_) (fun e => ?_)
        · rw [if_pos e] at hb
          rw [if_pos (decide_eq_true (show ¬ c = b by rw [lett_iff] at hlc; omega))] at hk1
          walk_at "go"
          exact hk1
        · rw [if_neg e] at hb
          have hpos : 0 < r.length := List.length_pos_iff.mpr e
          have hlast := (ho.row ha) _ (getD_mem (show r.length - 1 < r.length by omega))
          walk_at "go"
          refine r_ixS (by omega) (show atI r (-1) = some _ from at_neg (l := r) (k := 0) hpos) ?_
          refine ⟨r.getD (r.length - 1 - 0) 0, rfl, hlast, ?_⟩
          walk_at "go"
          refine r_ifnd (fun c1 => ?_) (fun c1 => ?_)
          · rw [if_pos (decide_eq_true (show ¬ c = b from fun z => c1 (by rw [z, hb]; rfl)))] at hk1
            walk_at "go"
            exact hk1
          · rw [if_neg (by rw [decide_eq_false (fun z => z (by rw [hb]; exact (List.cons.inj c1).1))]; simp)] at hk1
            exact hk1
      · rw [fm_get S (fun c => if decide (¬ c = b) = true then some (T [c]) else none), fm_ones] at eD
        generalize hF : S.filter (fun c => decide (¬ c = b)) = F at *
        have hFp : 0 < F.length := List.length_pos_iff.mpr hsome
        have w2 := w1.same s2
        walk_at "go"
        refine ⟨p, .ref D, _, rfl, w2, by omega, .inr ⟨D, _, rfl, w1.ne nD, eD, ?_, ?_, fun x H3 hx k3 w3 => ?_⟩⟩
        · intro e
          have := congrArg List.length e
          rw [List.length_map, List.length_map, List.length_nil] at this
          omega
        · rw [List.length_map, List.length_map]; omega
        obtain ⟨z, hz, rfl⟩ := List.mem_map.mp hx
        obtain ⟨d, hd, rfl⟩ := List.mem_map.mp hz
        obtain ⟨h1, h2⟩ := hmem _ hd
        walk_at "go"
        refine ⟨r ++ [d], _, _, rfl, by rw [List.length_append, hr]; rfl, ?_, ?_, k1.trans ((Kp.of s2).trans k3), w3⟩
        · intro c hc
          rcases List.mem_append.mp hc with q1 | q1
          · exact ho c q1
          · rw [List.mem_singleton.mp q1, hSS]; exact h1
        · refine free_add hf fun c hc e => ?_
          have hne : r ≠ [] := by rintro rfl; simp at hc
          rw [if_neg hne] at hb
          apply h2
          rw [hb, e, last_getD hc]
    · rintro σ H1 ⟨r, x, y, rfl, hr, ho, hf, k1, w1⟩
      walk_at "go"
      refine r_goR1 (by omega) ?_
      rw [Int.toNat_natCast]
      refine for_known (known_rng 0 _) (fun j σ H' => ∃ (r : List Nat) (x : Option V), σ = [some (.ref p), some (T a), some (.int (m : Int)), some (T r), some (T (a ++ a.map up1)), x, y] ∧ RowOf a r ∧ Free r ∧ 1 ≤ r.length ∧ r.length ≤ m ∧ (NF r ∨ r.length + 2 * j ≤ m) ∧ H' = H1)
        ⟨r, x, rfl, ho, hf, by omega, by omega, .inr (by omega), rfl⟩ (fun _ _ _ _ _ => trivial) ?_ ?_
      · rintro j σ H2 hj ⟨u, x, rfl, hou, hfu, h1u, hlu, hnu, rfl⟩
        have hur := hou.row ha
        walk_at "go"
        refine r_ifd (fun c => ?_) (fun c => ?_)
        · have hu1 : 1 < u.length := by omega
          walk_at "go"
          refine r_ixS (by omega) (show atI u ((0 : Nat) : Int) = some _ from at_nat (by omega) (by omega)) ?_
          walk_at "go"
          refine r_ixS (by omega) (show atI u (-1) = some _ from at_neg (l := u) (k := 0) (by omega)) ?_
          have hlast := hur _ (getD_mem (show u.length - 1 - 0 < u.length by omega))
          refine ⟨u.getD (u.length - 1 - 0) 0, rfl, hlast, ?_⟩
          walk_at "go"
          refine r_ifd (fun c1 => ?_) (fun c1 => ?_)
          · have hface : u.getD 0 0 = swp (u.getD (u.length - 1) 0) := (List.cons.inj c1).1
            walk_at "go"
            rw [cut_in u hu1]
            have hn2 : u.length + 2 * j ≤ m := hnu.elim (fun z => absurd ⟨hu1, hface⟩ z) id
            have hu2 : 2 < u.length := by
              rcases Nat.lt_or_ge 2 u.length with z | z
              · exact z
              · have e2 : u.length = 2 := by omega
                have := free_at (l := u) (k := 0) hfu (by omega)
                rw [e2] at hface
                have h0 := hur _ (getD_mem (show 1 < u.length by omega))
                exact absurd (by rw [hface, swp_swp h0]) this
            refine ⟨_, _, rfl, fun z hz => hou z (List.mem_of_mem_take (List.mem_of_mem_drop hz)), (hfu.take _).drop _, ?_, ?_, .inr ?_, rfl⟩
            · rw [List.length_drop, List.length_take]; omega
            · rw [List.length_drop, List.length_take]; omega
            · rw [List.length_drop, List.length_take]; omega
          · walk_at "go"
            refine ⟨u, _, rfl, hou, hfu, h1u, hlu, .inl fun z => c1 (by show [u.getD 0 0] = [swp (u.getD (u.length - 1) 0)]; rw [z.2]), rfl⟩
        · walk_at "go"
          refine ⟨u, _, rfl, hou, hfu, h1u, hlu, .inl fun z => c (by omega), rfl⟩
      · rintro σ H2 ⟨u, x, rfl, hou, hfu, h1u, hlu, hnu, rfl⟩
        have hnf : NF u := hnu.elim id fun z => fun z2 => by omega
        walk_at "go"
        exact q _ _ (rr_of (hou.row ha) hou (by omega) (by omega) hfu hnf) hlu k1 w1
/-! ### _law_back -/
def sp__law_back (_ : PySem.W.Frag) : Sp := fun vs H Q _ => ∃ l : List Nat, vs = [T l] ∧ Row l ∧ l.length ≤ 5000000 ∧ ∀ H', Same H H' → Q (T (bak l)) H'
set_option maxHeartbeats 4000000 in
theorem ok__law_back (Z : Tx K mg) : FnG P w K mg base CX0 2 Z.a__law_back Z.d__law_back ["word"] (sp__law_back K) := by
  refine funG Z.F__law_back sc__law_back (fun vs H Q E h => ?_) (fun cdv A outer s H vs Q E gg rm h => ?_)
  · obtain ⟨l, rfl, ha, hl, q⟩ := h; rfl
  · obtain ⟨l, rfl, ha, hl, q⟩ := h
    refine ⟨_,
      (pss_one (ps_ret (pe_joinK K (pe_strL (l := []) (by decide +kernel)) (pe_lc (own := [("sign", 1)]) (g := gName 1) (tt := tYes) rfl sc__law_back.nd (pi_K K (pe_revK K (pv 0))) (blkOk_by (N := N__law_back) (sc := defScope s__law_back) (by decide +kernel)) (fun _ _ _ _ _ => pg_name (i := 1) sc__law_back.nd rfl (Or.inl rfl)) (fun _ _ _ _ _ => pts_nil) (fun _ _ _ _ _ => (pe_callG gg (ok__law_flip Z) rm (by rfl) Z.g__law_flip Z.F__law_flip.kp Z.b__law_flip .nil pass0 (pa_cons (pv 1) pa_nil))))))), ?_⟩
    rw [show L2.start N__law_back [T l] = [some (T l), none] from rfl]
    walk_at "go"
    refine lc_known (known_str l.reverse) (fun i => some (T [swp (l.reverse.getD i 0)])) (by rw [List.length_reverse]; omega) (fun _ _ => trivial) (fun i H2 QT hi sm hk => ?_) (fun D H' nD sm eD => ?_)
    · have hc : lett (l.reverse.getD i 0) = true := ha.rev _ (getD_mem hi)
      generalize l.reverse.getD i 0 = c at hc hk
      walk_at "go"
      refine ⟨c, rfl, hc, ?_⟩
      exact hk _ (Same.refl _)
    · walk_at "go"
      rw [fm_range l.reverse (fun c => T [swp c]) 0] at eD
      refine r_join0 (ls := (bak l).map fun c => [c]) (SqL.of (by rw [eD, ← ones_T, bak, List.map_map]; rfl)) (by rw [ones_flat, bak_len]; omega) ?_
      rw [ones_flat]
      exact q _ sm
/-! ### _law_row_told -/
def sp__law_row_told (K : PySem.W.Frag) : Sp := fun vs H Q _ => ∃ (w p : Addr) (a : List Nat) (rs : List (List Nat)) (n : Nat), vs = [.ref w, T a, .ref p] ∧ Wl H w n ∧ n < 2 ^ 36 ∧ Al a ∧ H p = some (.tup (rs.map T)) ∧ Told a rs ∧ ∀ u H', Row u → u.length ≤ 90 → Kp w H H' → Wl H' w (n + 40) → Q (T u) H'
set_option maxHeartbeats 4000000 in
theorem ok__law_row_told (Z : Tx K mg) : FnG P w K mg base CX0 4 Z.a__law_row_told Z.d__law_row_told ["well", "alphabet", "told"] (sp__law_row_told K) := by
  refine funG Z.F__law_row_told sc__law_row_told (fun vs H Q E h => ?_) (fun cdv A outer s H vs Q E gg rm h => ?_)
  · obtain ⟨w, p, a, rs, n, rfl, hw, hn, ha, ep, ht, q⟩ := h; rfl
  · obtain ⟨w, p, a, rs, n, rfl, hw, hn, ha, ep, ht, q⟩ := h
    refine ⟨_,
      (pss_cons (ps_par (i := 3) (j := 4) (by rfl) sc__law_row_told.nd rfl rfl (by decide) rfl rfl (pa_cons (pe_callG gg (ok__law_pull Z) (rm.mono (by decide)) (by rfl) Z.g__law_pull Z.F__law_pull.kp Z.b__law_pull .nil pass0 (pa_cons (pv 0) (pa_cons pe_int pa_nil))) (pa_cons (pe_callG gg (ok__law_ring Z) rm (by rfl) Z.g__law_ring Z.F__law_ring.kp Z.b__law_ring .nil pass0 (pa_cons (pv 0) (pa_cons (pv 1) (pa_cons (pe_op (op_addK K) pe_int (pe_callG gg (ok__law_pull Z) (rm.mono (by decide)) (by rfl) Z.g__law_pull Z.F__law_pull.kp Z.b__law_pull .nil pass0 (pa_cons (pv 0) (pa_cons pe_int pa_nil)))) pa_nil)))) pa_nil)) (by rfl))
      (pss_cons (ps_if (PW.pt (pw_or (pt_cmpR op_ltG (pv 3) pe_int (nomark _)) (pw_or1 (pt_cmpR (op_eqK K (hu_of64 rm)) (pv 2) (pe_tup pa_nil) (nomark _)))))
        (pss_one (ps_ret (pe_op op_mulG (pv 4) (pe_ix (ix_K K) (pe_lst (pa_cons pe_int (pa_cons (pe_op (op_addK K) pe_int (pe_callG gg (ok__law_pull Z) (rm.mono (by decide)) (by rfl) Z.g__law_pull Z.F__law_pull.kp Z.b__law_pull .nil pass0 (pa_cons (pv 0) (pa_cons (pe_op (op_addK K) (pe_op op_fdivW pe_int (pe_callB (call_lenK K) (by rfl) Z.n_len PySem.boot_len (pa_cons (pv 4) pa_nil))) pe_int) pa_nil)))) pa_nil))) (pe_op op_modN (pv 3) pe_int) (fun _ _ => rfl)))))
        pss_nil)
      (pss_cons (ps_set (i := 5) sc__law_row_told.nd rfl (.inl rfl) (pe_callG gg (ok__law_one_of Z) (rm.mono (by decide)) (by rfl) Z.g__law_one_of Z.F__law_one_of.kp Z.b__law_one_of .nil pass0 (pa_cons (pv 0) (pa_cons (pv 2) pa_nil))))
      (pss_cons (ps_set (i := 6) sc__law_row_told.nd rfl (.inl rfl) (pe_op op_modN (pe_callG gg (ok__law_pull Z) (rm.mono (by decide)) (by rfl) Z.g__law_pull Z.F__law_pull.kp Z.b__law_pull .nil pass0 (pa_cons (pv 0) (pa_cons pe_int pa_nil))) (pe_callB (call_lenK K) (by rfl) Z.n_len PySem.boot_len (pa_cons (pv 5) pa_nil))))
      (pss_cons (ps_set (i := 7) sc__law_row_told.nd rfl (.inl rfl) (pe_op (op_addK K) (pe_slice (sl_K K) (pv 5) (po_some (pv 6)) po_none) (pe_slice (sl_K K) (pv 5) po_none (po_some (pv 6)))))
      (pss_one (ps_ret (pe_ix (ix_K K) (pe_lst (pa_cons (pv 7) (pa_cons (pe_callG gg (ok__law_back Z) (rm.mono (by decide)) (by rfl) Z.g__law_back Z.F__law_back.kp Z.b__law_back .nil pass0 (pa_cons (pv 7) pa_nil)) (pa_cons (pe_op (op_addK K) (pv 5) (pv 5)) (pa_cons (pe_op (op_addK K) (pv 4) (pe_op op_mulG (pe_strL (l := [113]) (by decide +kernel)) (pe_callTy call_intG (by rfl) Z.n_int (by decide +kernel) (pa_cons (pe_cmpR (op_notInK K) (pe_strL (l := [113]) (by decide +kernel)) (pv 1) (by rfl)) pa_nil)))) pa_nil))))) (pe_op op_sub (pv 3) pe_int) (fun _ _ => rfl))))))))), ?_⟩
    rw [show L2.start N__law_row_told [.ref w, T a, .ref p] = [some (.ref w), some (T a), some (.ref p), none, none, none, none, none] from rfl]
    have hpw : p ≠ w := fun z => by obtain ⟨_, _, _, e, _⟩ := hw; rw [z, e] at ep; cases ep
    have h6 := ht.1
    walk_at "go"
    refine ⟨w, 8, n, rfl, hw, by omega, by decide, fun r1 H1 r10 r11 k1 w1 => ?_⟩
    walk_at "go"
    refine ⟨w, 8, _, rfl, w1, by omega, by decide, fun r2 H2 r20 r21 k2 w2 => ?_⟩
    obtain ⟨m2, rfl⟩ : ∃ m : Nat, r2 = (m : Int) := ⟨r2.toNat, by omega⟩
    walk_at "go"
    refine ⟨w, a, 1 + m2, _, by rw [Int.natCast_add]; rfl, w2, by omega, ha, by omega, by omega, fun l H3 hl hll k3 w3 => ?_⟩
    have hlr := hl.row ha
    have hl1 := hl.2.1
    have k03 := k1.trans (k2.trans k3)
    have ep3 := k03 _ _ hpw ep
    have w3 : Wl H3 w (n + 12) := w3.mono (by omega)
    walk_at "st"
    refine ⟨_, _, rfl, ?_⟩
    dsimp only
    refine r_seq ?_
    refine r_ifs (r_genT (fun b H' => Same H3 H' ∧ (b = false → 4 ≤ r1 ∧ rs ≠ [])) (fun b H4 hb => ?ga) (fun Q' k' => ?gb))
    case gb =>
      walk_at "go"
      refine r_ifd (fun c => ?_) (fun c => ?_)
      · exact k' _ _ ⟨Same.refl _, fun z => nomatch z⟩
      · walk_at "go"
        intro e ne
        generalize hh : upd _ e _ = H4
        obtain ⟨s4, ee⟩ := new_eq ne hh
        walk_at "go"
        refine r_eqTs (bs := []) (SqT.of (s4 _ _ ep3)) (SqT.of ee) (fun y hy => ((ht.2.1 _ hy).row ha).asc) (fun y hy => nomatch hy) ?_
        refine ⟨_, rfl, ?_⟩
        exact k' _ _ ⟨s4, fun z => ⟨by omega, of_decide_eq_false z⟩⟩
    obtain ⟨s4, hb⟩ := hb
    have w4 := w3.same s4
    have ep4 := s4 _ _ ep3
    have k04 := k03.trans (Kp.of s4)
    cases b with
    | true =>
      have hdv : (40 : Int) / (l.length : Int) = ((40 / l.length : Nat) : Int) := (Int.natCast_ediv 40 l.length).symm
      have hd1 : 40 / l.length * l.length ≤ 40 := Nat.div_mul_le_self _ _
      have hd2 : 40 / l.length ≤ 40 := Nat.div_le_self _ _
      generalize 40 / l.length = d at hdv hd1 hd2
      walk_at "go"
      rw [hdv]
      refine ⟨w, _, _, rfl, w4, by omega, by omega, fun r H5 r0 r1' k5 w5 => ?_⟩
      obtain ⟨m, rfl⟩ : ∃ m : Nat, r = (m : Int) := ⟨r.toNat, by omega⟩
      have hm : l.length * (1 + m) ≤ 48 := by
        have h1 : m ≤ d := by omega
        have h2 : l.length * m ≤ l.length * d := Nat.mul_le_mul_left _ h1
        rw [Nat.mul_comm l.length d] at h2
        rw [Nat.mul_add]; omega
      walk_at "go"
      intro t6 nt6
      generalize hh : upd _ t6 _ = H6
      obtain ⟨s6, e6⟩ := new_eq nt6 hh
      walk_at "go"
      obtain ⟨x, hx, hxl, hx48⟩ : ∃ x : Nat, atI [V.int 1, V.int (1 + (m : Int))] (r1 % 2) = some (.int (x : Nat)) ∧ l.length * x ≤ 48 ∧ x ≤ 48 := by
        rcases (show r1 % 2 = 0 ∨ r1 % 2 = 1 by omega) with e | e <;> rw [e]
        · exact ⟨1, rfl, by omega, by decide⟩
        · exact ⟨1 + m, by rw [Int.natCast_add]; rfl, hm, by omega⟩
      refine r_ixL (SqL.of e6) hx ?_
      refine r_mulS ⟨by omega, by omega, by rw [Int.toNat_natCast]; omega⟩ ?_
      rw [Int.toNat_natCast]
      exact q _ _ (hlr.rep x) (by rw [repL_len, Nat.mul_comm]; omega) (k04.trans (k5.trans (Kp.of s6))) ((w5.same s6).mono (by omega))
    | false =>
      obtain ⟨hr4, hne⟩ := hb rfl
      rw [if_neg (by decide)]
      walk_at "go"
      refine ⟨w, .ref p, _, rfl, w4, by omega, Or3.tup ⟨p, _, rfl, hpw, ep4, by simpa using hne, by rw [List.length_map]; omega, fun x H5 hx k5 w5 => ?_⟩⟩
      obtain ⟨own, ho, rfl⟩ := List.mem_map.mp hx
      have hor := ht.2.1 _ ho
      have horr := hor.row ha
      have ho1 := hor.2.1
      have ho2 := hor.2.2.1
      walk_at "go"
      refine ⟨w, 40, _, rfl, w5, by omega, by decide, fun r H6 r0 r1' k6 w6 => ?_⟩
      obtain ⟨j, hj⟩ : ∃ j : Nat, r % (own.length : Int) = (j : Int) := ⟨(r % (own.length : Int)).toNat, by have := Int.emod_nonneg r (show (own.length : Int) ≠ 0 by omega); omega⟩
      walk_at "go"
      rw [hj, cut_from]
      walk_at "go"
      rw [cut_to]
      have htr : Row (own.drop j ++ own.take j) := (horr.drop j).app (horr.take j)
      have htl : (own.drop j ++ own.take j).length ≤ 80 := by rw [List.length_append, List.length_drop, List.length_take]; omega
      have hbl := bak_len (own.drop j ++ own.take j)
      refine r_addS (by rw [List.length_append] at htl; omega) ?_
      generalize own.drop j ++ own.take j = tu at htr htl hbl
      walk_at "go"
      refine ⟨tu, rfl, htr, by omega, fun H7 s7 => ?_⟩
      walk_at "go"
      refine r_intB ?_
      obtain ⟨z, hz, hz2⟩ : ∃ z : Nat, (if (!decide (113 ∈ a)) = true then (1 : Int) else 0) = (z : Int) ∧ z ≤ 1 := by
        split
        · exact ⟨1, rfl, by decide⟩
        · exact ⟨0, rfl, by decide⟩
      rw [hz]
      refine r_mulS (l := [113]) ⟨by omega, by omega, by rw [Int.toNat_natCast]; simp; omega⟩ ?_
      rw [Int.toNat_natCast]
      have hzl : (repL [113] z).length = z := by rw [repL_len]; simp
      refine r_addS (by omega) ?_
      walk_at "go"
      intro t8 nt8
      generalize hh : upd _ t8 _ = H8
      obtain ⟨s8, e8⟩ := new_eq nt8 hh
      walk_at "go"
      have k08 := k04.trans (k5.trans (k6.trans (Kp.of (s7.trans s8))))
      have w8 := ((w6.same s7).same s8).mono (show _ ≤ n + 40 by omega)
      rcases (show r1 - 4 = 0 ∨ r1 - 4 = 1 ∨ r1 - 4 = 2 ∨ r1 - 4 = 3 by omega) with e | e | e | e <;> rw [e]
      · refine r_ixL (SqL.of e8) (show atI _ 0 = some _ from rfl) ?_
        exact q _ _ htr (by omega) k08 w8
      · refine r_ixL (SqL.of e8) (show atI _ 1 = some _ from rfl) ?_
        exact q _ _ htr.bak (by omega) k08 w8
      · refine r_ixL (SqL.of e8) (show atI _ 2 = some _ from rfl) ?_
        exact q _ _ (horr.app horr) (by rw [List.length_append]; omega) k08 w8
      · refine r_ixL (SqL.of e8) (show atI _ 3 = some _ from rfl) ?_
        exact q _ _ (hlr.app ((Row.one (by decide)).rep z)) (by rw [List.length_append]; omega) k08 w8
/-! ### _law_word -/
def sp__law_word (_ : PySem.W.Frag) : Sp := fun vs H Q _ => ∃ (p : Addr) (a : List Nat) (m n : Nat), vs = [.ref p, T a, .int (m : Nat)] ∧ m ≤ 1000 ∧ Wl H p n ∧ n < 2 ^ 40 ∧ Al a ∧ ∀ (l : List Nat) (H' : Hp), RowOf a l → l.length ≤ m → Kp p H H' → Wl H' p (n + m + 4) → Q (T l) H'
set_option maxHeartbeats 4000000 in
theorem ok__law_word (Z : Tx K mg) : FnG P w K mg base CX0 3 Z.a__law_word Z.d__law_word ["well", "alphabet", "most"] (sp__law_word K) := by
  refine funG Z.F__law_word sc__law_word (fun vs H Q E h => ?_) (fun cdv A outer s H vs Q E gg rm h => ?_)
  · obtain ⟨p, a, m, n, rfl, hm, hw, hn, ha, q⟩ := h; rfl
  · obtain ⟨p, a, m, n, rfl, hm, hw, hn, ha, q⟩ := h
    refine ⟨_,
      (pss_cons (ps_set (i := 3) sc__law_word.nd rfl (.inr rfl) (pe_op (op_addK K) (pv 1) (pe_bm0K K PySem.F.plainAttrs_str PySem.F.slot_str_upper PySem.F.type_str_upper mt_upL (pv 1))))
      (pss_cons (ps_if (pt_cmpR (op_eqK K (hu_of64 rm)) (pe_callG gg (ok__law_pull Z) (rm.mono (by decide)) (by rfl) Z.g__law_pull Z.F__law_pull.kp Z.b__law_pull .nil pass0 (pa_cons (pv 0) (pa_cons pe_int pa_nil))) pe_int (nomark _))
        (pss_one (ps_set (i := 3) sc__law_word.nd rfl (.inr rfl) (pe_op (op_addK K) (pe_callG gg (ok__law_one_of Z) rm (by rfl) Z.g__law_one_of Z.F__law_one_of.kp Z.b__law_one_of .nil pass0 (pa_cons (pv 0) (pa_cons (pv 3) pa_nil))) (pe_callG gg (ok__law_one_of Z) rm (by rfl) Z.g__law_one_of Z.F__law_one_of.kp Z.b__law_one_of .nil pass0 (pa_cons (pv 0) (pa_cons (pv 3) pa_nil))))))
        pss_nil)
      (pss_one (ps_ret (pe_joinK K (pe_strL (l := []) (by decide +kernel)) (pe_lc (own := [("k", 4)]) (g := gName 4) (tt := tYes) rfl sc__law_word.nd (pi_range1 (by rfl) Z.n_range (pa_cons (pe_callG gg (ok__law_pull Z) (rm.mono (by decide)) (by rfl) Z.g__law_pull Z.F__law_pull.kp Z.b__law_pull .nil pass0 (pa_cons (pv 0) (pa_cons (pe_op (op_addK K) (pv 2) pe_int) pa_nil))) pa_nil)) (blkOk_by (N := N__law_word) (sc := defScope s__law_word) (by decide +kernel)) (fun _ _ _ _ _ => pg_name (i := 4) sc__law_word.nd rfl (Or.inl rfl)) (fun _ _ _ _ _ => pts_nil) (fun _ _ _ _ _ => (pe_callG gg (ok__law_one_of Z) rm (by rfl) Z.g__law_one_of Z.F__law_one_of.kp Z.b__law_one_of .nil pass0 (pa_cons (pv 0) (pa_cons (pv 3) pa_nil)))))))))), ?_⟩
    rw [show L2.start N__law_word [.ref p, T a, .int (m : Nat)] = [some (.ref p), some (T a), some (.int (m : Nat)), none, none] from rfl]
    have hal := ha.1
    have hal2 := ha.2.1
    walk_at "go"
    refine r_map ha.asc (by omega) ?_
    have hS : (a ++ a.map up1).length ≤ 8 := by rw [List.length_append, List.length_map]; omega
    have hS0 : a ++ a.map up1 ≠ [] := fun z => by have := congrArg List.length z; rw [List.length_append, List.length_nil] at this; omega
    refine r_addS (by rw [List.length_map]; omega) ?_
    have hrow : RowOf a (a ++ a.map up1) := fun c hc => hc
    generalize a ++ a.map up1 = S at hS hS0 hrow
    have hSp := List.length_pos_iff.mpr hS0
    refine r_gname ?_
    walk_at "st"
    refine r_genS (fun σ' H' => ∃ S : List Nat, σ' = [some (.ref p), some (T a), some (.int (m : Nat)), some (T S), none] ∧ S ≠ [] ∧ S.length ≤ 8 ∧ RowOf a S ∧ Kp p H H' ∧ Wl H' p (n + 3)) ?ga ?gb
    case gb =>
      intro nx' k'
      walk_at "go"
      refine ⟨p, 3, n, rfl, hw, by omega, by decide, fun r H1 r0 r1 k1 w1 => ?_⟩
      walk_at "go"
      refine r_ifd (fun c => ?_) (fun c => ?_)
      · walk_at "go"
        refine ⟨p, _, _, rfl, w1, by omega, .inl ⟨_, rfl, hS0, by omega, fun c H2 hc k2 w2 => ?_⟩⟩
        walk_at "go"
        refine ⟨p, _, _, rfl, w2, by omega, .inl ⟨_, rfl, hS0, by omega, fun d H3 hd k3 w3 => ?_⟩⟩
        walk_at "go"
        refine k' _ _ ⟨[c] ++ [d], rfl, by simp, by simp, fun x hx => ?_, k1.trans (k2.trans k3), w3⟩
        simp only [List.mem_append, List.mem_singleton] at hx
        rcases hx with rfl | rfl
        · exact hrow _ hc
        · exact hrow _ hd
      · exact k' _ _ ⟨S, rfl, hS0, hS, hrow, k1, w1.mono (by omega)⟩
    clear hrow hSp hS0 hS
    rintro σ' H1 ⟨S, rfl, hS0, hS, hrow, k1, w1⟩
    walk_at "go"
    refine ⟨p, _, _, rfl, w1, by omega, by omega, fun r H2 r0 r1 k2 w2 => ?_⟩
    obtain ⟨u, rfl⟩ : ∃ u : Nat, r = (u : Int) := ⟨r.toNat, by omega⟩
    refine r_goR1 (by omega) ?_
    rw [Int.toNat_natCast]
    refine lc_inv (G := fun _ => True) (known_rng 0 _) (fun D i H' => D ≠ p ∧ H2 D = none ∧ Kp p H2 H' ∧ Wl H' p (n + 4 + i) ∧ ∃ ls : List Nat, ls.length = i ∧ RowOf a ls ∧ H' D = some (.lst ((ls.map fun c => [c]).map T))) ?_ (fun _ _ _ _ _ => trivial) ?_ ?_
    · intro D nD
      exact ⟨w2.ne nD, nD, (Kp.refl p _).new nD, w2.new nD, [], rfl, (fun c hc => nomatch hc), upd_same⟩
    · rintro D i H6 hi ⟨z1, z2, z3, z4, ls, z5, z6, z7⟩
      walk_at "go"
      refine ⟨p, _, _, rfl, z4, by omega, .inl ⟨_, rfl, hS0, by omega, fun c H7 hc k7 w7 => ?_⟩⟩
      refine ⟨_, k7 _ _ z1 z7, by rw [sizeLine_eq, List.length_map, List.length_map]; omega, z1, z2, (z3.trans k7).mut z2, (w7.put z1).mono (by omega), ls ++ [c], by rw [List.length_append, z5]; rfl, ?_, by rw [upd_same, List.map_append, List.map_append]; rfl⟩
      intro d hd
      rcases List.mem_append.mp hd with hd | hd
      · exact z6 d hd
      · rw [List.mem_singleton.mp hd]; exact hrow _ hc
    · rintro D H6 ⟨z1, z2, z3, z4, ls, z5, z6, z7⟩
      walk_at "go"
      refine r_join0 (ls := ls.map fun c => [c]) (SqL.of z7) (by rw [ones_flat]; omega) ?_
      rw [ones_flat]
      exact q _ _ z6 (by omega) (k1.trans (k2.trans z3)) (z4.mono (by omega))
/-! ### _law_drawn -/
def sp__law_drawn (K : PySem.W.Frag) : Sp := fun vs H Q _ => ∃ (w : Addr) (v : V) (s : DS) (n : Nat), vs = [.ref w, v] ∧ Wl H w n ∧ n < 2 ^ 34 ∧ StA H v s ∧ Al s.a ∧ Told s.a s.rs ∧ ∀ pr v' H', Prt.ok pr → Kp w H H' → Wl H' w (n + 100) → PrO H' v' pr → Q v' H'
set_option maxHeartbeats 4000000 in
theorem ok__law_drawn (Z : Tx K mg) : FnG P w K mg base CX0 5 Z.a__law_drawn Z.d__law_drawn ["well", "state"] (sp__law_drawn K) := by
  refine funG Z.F__law_drawn sc__law_drawn (fun vs H Q E h => ?_) (fun cdv A outer s H vs Q E gg rm h => ?_)
  · obtain ⟨w, v, s0, n, rfl, hw, hn, hv, ha, ht, q⟩ := h; rfl
  · obtain ⟨w, v, s0, n, rfl, hw, hn, hv, ha, ht, q⟩ := h
    refine ⟨_,
      (pss_cons (ps_asg (pv 1) (pg_tupK (n := 3) K rfl (pgs_cons (pg_name (i := 2) sc__law_drawn.nd rfl (.inl rfl)) (pgs_cons (pg_name (i := 3) sc__law_drawn.nd rfl (.inl rfl)) (pgs_cons (pg_name (i := 4) sc__law_drawn.nd rfl (.inl rfl)) pgs_nil)))))
      (pss_cons (ps_set (i := 5) sc__law_drawn.nd rfl (.inl rfl) (pe_callG gg (ok__law_pull Z) (rm.mono (by decide)) (by rfl) Z.g__law_pull Z.F__law_pull.kp Z.b__law_pull .nil pass0 (pa_cons (pv 0) (pa_cons pe_int pa_nil))))
      (pss_cons (ps_if (pt_cmpR op_ltG (pv 5) pe_int (nomark _))
        (pss_one (ps_ret (pe_tup (pa_cons (pe_strL (l := [108, 101, 116, 116, 101, 114, 115]) (by decide +kernel)) (pa_cons (pe_callG gg (ok__law_alphabet Z) (rm.mono (by decide)) (by rfl) Z.g__law_alphabet Z.F__law_alphabet.kp Z.b__law_alphabet .nil pass0 (pa_cons (pv 0) pa_nil)) pa_nil)))))
        pss_nil)
      (pss_cons (ps_if (pt_cmpR op_ltG (pv 5) pe_int (nomark _))
        (pss_one (ps_ret (pe_tup (pa_cons (pe_strL (l := [116, 101, 108, 108]) (by decide +kernel)) (pa_cons (pe_callG gg (ok__law_row_told Z) rm (by rfl) Z.g__law_row_told Z.F__law_row_told.kp Z.b__law_row_told .nil pass0 (pa_cons (pv 0) (pa_cons (pv 2) (pa_cons (pv 3) pa_nil)))) pa_nil)))))
        pss_nil)
      (pss_cons (ps_if (pt_cmpR op_ltG (pv 5) pe_int (nomark _))
        (pss_one (ps_ret (pe_tup (pa_cons (pe_strL (l := [100, 114, 111, 112]) (by decide +kernel)) (pa_cons (pe_callG gg (ok__law_pull Z) (rm.mono (by decide)) (by rfl) Z.g__law_pull Z.F__law_pull.kp Z.b__law_pull .nil pass0 (pa_cons (pv 0) (pa_cons (pe_op (op_addK K) (pe_callB (call_lenK K) (by rfl) Z.n_len PySem.boot_len (pa_cons (pv 3) pa_nil)) pe_int) pa_nil))) pa_nil)))))
        pss_nil)
      (pss_cons (ps_if (pt_cmpR op_ltG (pv 5) pe_int (nomark _))
        (pss_one (ps_ret (pe_tup (pa_cons (pe_strL (l := [114, 111, 119]) (by decide +kernel)) (pa_cons (pe_op (op_addK K) (pe_callG gg (ok__law_word Z) (rm.mono (by decide)) (by rfl) Z.g__law_word Z.F__law_word.kp Z.b__law_word .nil pass0 (pa_cons (pv 0) (pa_cons (pv 2) (pa_cons (pe_callG gg (ok__law_one_of Z) (rm.mono (by decide)) (by rfl) Z.g__law_one_of Z.F__law_one_of.kp Z.b__law_one_of .nil pass0 (pa_cons (pv 0) (pa_cons (pe_lst (pa_cons pe_int (pa_cons pe_int (pa_cons pe_int pa_nil)))) pa_nil))) pa_nil)))) (pe_op op_mulG (pe_strL (l := [81]) (by decide +kernel)) (pe_callTy call_intG (by rfl) Z.n_int (by decide +kernel) (pa_cons (pe_cmpR (op_eqK K (hu_of64 rm)) (pv 5) pe_int (nomark _)) pa_nil)))) pa_nil)))))
        pss_nil)
      (pss_one (ps_ret (pe_ix (ix_K K) (pe_lst (pa_cons (pe_tup (pa_cons (pe_strL (l := [114, 117, 108, 101, 115]) (by decide +kernel)) (pa_cons pe_non pa_nil))) (pa_cons (pe_tup (pa_cons (pe_strL (l := [114, 111, 111, 116]) (by decide +kernel)) (pa_cons pe_non pa_nil))) (pa_cons (pe_tup (pa_cons (pe_strL (l := [117, 110, 100, 111]) (by decide +kernel)) (pa_cons pe_non pa_nil))) (pa_cons (pe_tup (pa_cons (pe_strL (l := [117, 110, 100, 111]) (by decide +kernel)) (pa_cons pe_non pa_nil))) pa_nil))))) (pe_op op_sub (pv 5) pe_int) (fun _ _ => rfl)))))))))), ?_⟩
    rw [show L2.start N__law_drawn [.ref w, v] = [some (.ref w), some (v), none, none, none, none] from rfl]
    obtain ⟨p, ptv, rfl, ep, etv⟩ := hv
    have hpw : p ≠ w := fun z => by obtain ⟨_, _, _, e, _⟩ := hw; rw [z, e] at ep; cases ep
    have hptw : ptv ≠ w := fun z => by obtain ⟨_, _, _, e, _⟩ := hw; rw [z, e] at etv; cases etv
    have h6 := ht.1
    walk_at "go"
    refine ⟨w, 16, n, rfl, hw, by omega, by decide, fun r1 H1 r10 r11 k1 w1 => ?_⟩
    have etv1 := k1 _ _ hptw etv
    have etq1 : SqT K H1 ptv (s0.rs.map T) := SqT.of etv1
    walk_at "go"
    refine r_ifd (fun c => ?_) (fun c => ?_)
    · walk_at "go"
      refine ⟨w, _, rfl, w1, by omega, fun b H2 hb k2 w2 => ?_⟩
      walk_at "go"
      intro t nt
      generalize hh : upd _ t _ = H3
      obtain ⟨s3, e3⟩ := new_eq nt hh
      walk_at "go"
      exact q (.ord (.letters b)) _ H3 hb (k1.trans (k2.trans (Kp.of s3))) ((w2.same s3).mono (by omega)) ⟨t, rfl, e3⟩
    walk_at "go"
    refine r_ifd (fun c => ?_) (fun c => ?_)
    · walk_at "go"
      refine ⟨w, ptv, s0.a, s0.rs, _, rfl, w1, by omega, ha, etv1, ht, fun u H2 hu1 hu2 k2 w2 => ?_⟩
      walk_at "go"
      intro t nt
      generalize hh : upd _ t _ = H3
      obtain ⟨s3, e3⟩ := new_eq nt hh
      walk_at "go"
      exact q (.ord (.tell u)) _ H3 ⟨hu1, hu2⟩ (k1.trans (k2.trans (Kp.of s3))) ((w2.same s3).mono (by omega)) ⟨t, rfl, e3⟩
    walk_at "go"
    refine r_ifd (fun c => ?_) (fun c => ?_)
    · walk_at "go"
      rw [List.length_map]
      refine ⟨w, _, _, rfl, w1, by omega, by omega, fun r2 H2 r20 r21 k2 w2 => ?_⟩
      obtain ⟨m2, rfl⟩ : ∃ m : Nat, r2 = (m : Int) := ⟨r2.toNat, by omega⟩
      walk_at "go"
      intro t nt
      generalize hh : upd _ t _ = H3
      obtain ⟨s3, e3⟩ := new_eq nt hh
      walk_at "go"
      exact q (.ord (.drop m2)) _ H3 (by show m2 ≤ 7; omega) (k1.trans (k2.trans (Kp.of s3))) ((w2.same s3).mono (by omega)) ⟨t, rfl, e3⟩
    walk_at "go"
    refine r_ifd (fun c => ?_) (fun c => ?_)
    · walk_at "go"
      intro t0 nt0
      generalize hh : upd _ t0 _ = H2
      obtain ⟨s2, e2⟩ := new_eq nt0 hh
      walk_at "go"
      refine ⟨w, _, _, rfl, w1.same s2, by omega, .inr ⟨t0, _, rfl, w1.ne nt0, e2, by simp, by decide, fun x H3 hx k3 w3 => ?_⟩⟩
      obtain ⟨m, rfl, hm⟩ : ∃ m : Nat, x = .int (m : Nat) ∧ m ≤ 40 := by
        simp only [List.mem_cons, List.not_mem_nil, or_false] at hx
        rcases hx with rfl | rfl | rfl
        · exact ⟨3, rfl, by decide⟩
        · exact ⟨12, rfl, by decide⟩
        · exact ⟨40, rfl, by decide⟩
      walk_at "go"
      refine ⟨w, s0.a, m, _, rfl, by omega, w3, by omega, ha, fun u H4 hu hul k4 w4 => ?_⟩
      have hur := hu.row ha
      have k04 := k1.trans ((Kp.of s2).trans (k3.trans k4))
      walk_at "go"
      refine r_intB ?_
      obtain ⟨z, hz, hz2⟩ : ∃ z : Nat, (if decide (r1 = 11) = true then (1 : Int) else 0) = (z : Int) ∧ z ≤ 1 := by
        split
        · exact ⟨1, rfl, by decide⟩
        · exact ⟨0, rfl, by decide⟩
      rw [hz]
      refine r_mulS (l := [81]) ⟨by omega, by omega, by rw [Int.toNat_natCast]; simp; omega⟩ ?_
      rw [Int.toNat_natCast]
      have hzl : (repL [81] z).length = z := by rw [repL_len]; simp
      refine r_addS (by omega) ?_
      walk_at "go"
      intro t nt
      generalize hh : upd _ t _ = H5
      obtain ⟨s5, e5⟩ := new_eq nt hh
      walk_at "go"
      exact q (.ord (.row (u ++ repL [81] z))) _ H5 ⟨hur.app ((Row.one (by decide)).rep z), by rw [List.length_append]; omega⟩ (k04.trans (Kp.of s5)) ((w4.same s5).mono (by omega)) ⟨t, rfl, e5⟩
    · walk_at "go"
      intro t1 nt1
      generalize hh : upd _ t1 _ = H2
      obtain ⟨s2, e2⟩ := new_eq nt1 hh
      walk_at "go"
      intro t2 nt2
      generalize hh : upd _ t2 _ = H3
      obtain ⟨s3, e3⟩ := new_eq nt2 hh
      walk_at "go"
      intro t3 nt3
      generalize hh : upd _ t3 _ = H4
      obtain ⟨s4, e4⟩ := new_eq nt3 hh
      walk_at "go"
      intro t4 nt4
      generalize hh : upd _ t4 _ = H5
      obtain ⟨s5, e5⟩ := new_eq nt4 hh
      walk_at "go"
      intro t5 nt5
      generalize hh : upd _ t5 _ = H6
      obtain ⟨s6, e6⟩ := new_eq nt5 hh
      walk_at "go"
      have s16 := s2.trans (s3.trans (s4.trans (s5.trans s6)))
      have w6 := (w1.same s16).mono (show n + 1 ≤ n + 100 by omega)
      have k6 := k1.trans (Kp.of s16)
      rcases (show r1 - 12 = 0 ∨ r1 - 12 = 1 ∨ r1 - 12 = 2 ∨ r1 - 12 = 3 by omega) with e | e | e | e <;> rw [e]
      · refine r_ixL (SqL.of e6) (show atI _ 0 = some (V.ref t1) from rfl) ?_
        exact q .rules _ H6 trivial k6 w6 ⟨t1, rfl, (s3.trans (s4.trans (s5.trans s6))) _ _ e2⟩
      · refine r_ixL (SqL.of e6) (show atI _ 1 = some (V.ref t2) from rfl) ?_
        exact q .root _ H6 trivial k6 w6 ⟨t2, rfl, (s4.trans (s5.trans s6)) _ _ e3⟩
      · refine r_ixL (SqL.of e6) (show atI _ 2 = some (V.ref t3) from rfl) ?_
        exact q .undo _ H6 trivial k6 w6 ⟨t3, rfl, (s5.trans s6) _ _ e4⟩
      · refine r_ixL (SqL.of e6) (show atI _ 3 = some (V.ref t4) from rfl) ?_
        exact q .undo _ H6 trivial k6 w6 ⟨t4, rfl, s6 _ _ e5⟩
/-! ### _law_short_text -/
def sp__law_short_text (_ : PySem.W.Frag) : Sp := fun vs H Q _ => ∃ l : List Nat, vs = [T l] ∧ l.length ≤ 10000 ∧ ∀ H', Same H H' → Q (T (short l)) H'
set_option maxHeartbeats 4000000 in
theorem ok__law_short_text (Z : Tx K mg) : FnG P w K mg base CX0 1 Z.a__law_short_text Z.d__law_short_text ["word"] (sp__law_short_text K) := by
  refine funG Z.F__law_short_text sc__law_short_text (fun vs H Q E h => ?_) (fun cdv A outer s H vs Q E gg rm h => ?_)
  · obtain ⟨l, rfl, hl, q⟩ := h; rfl
  · obtain ⟨l, rfl, hl, q⟩ := h
    refine ⟨_,
      (pss_cons (ps_asg (pe_tup (pa_cons (pe_strL (l := []) (by decide +kernel)) (pa_cons pe_int pa_nil))) (pg_tupK (n := 2) K rfl (pgs_cons (pg_name (i := 1) sc__law_short_text.nd rfl (.inl rfl)) (pgs_cons (pg_name (i := 2) sc__law_short_text.nd rfl (.inl rfl)) pgs_nil))))
      (pss_cons (ps_for PassesOwn.never rfl (pi_range1 (by rfl) Z.n_range (pa_cons (pe_callB (call_lenK K) (by rfl) Z.n_len PySem.boot_len (pa_cons (pv 0) pa_nil)) pa_nil)) (pg_name (i := 3) sc__law_short_text.nd rfl (.inl rfl))
        (pss_cons (ps_set (i := 2) sc__law_short_text.nd rfl (.inl rfl) (pe_op (op_addK K) (pv 2) pe_int))
        (pss_one (ps_if (PW.pt (pw_or (pt_cmpR (op_eqK K (hu_of64 rm)) (pe_op (op_addK K) (pv 3) pe_int) (pe_callB (call_lenK K) (by rfl) Z.n_len PySem.boot_len (pa_cons (pv 0) pa_nil)) (nomark _)) (pw_or1 (pt_cmpR (op_neK K (hu_of64 rm)) (pe_ix (ix_K K) (pv 0) (pe_op (op_addK K) (pv 3) pe_int) (fun _ _ => rfl)) (pe_ix (ix_K K) (pv 0) (pv 3) (fun _ _ => rfl)) (nomark _)))))
          (pss_cons (ps_set (i := 1) sc__law_short_text.nd rfl (.inl rfl) (pe_op (op_addK K) (pe_op (op_addK K) (pv 1) (pe_ix (ix_K K) (pv 0) (pv 3) (fun _ _ => rfl))) (pe_ifExp (pt_cmpR op_gt (pv 2) pe_int (nomark _)) (pe_callTy call_str_int (by rfl) Z.n_str (by decide +kernel) (pa_cons (pv 2) pa_nil)) (pe_strL (l := []) (by decide +kernel)))))
          (pss_one (ps_set (i := 2) sc__law_short_text.nd rfl (.inl rfl) pe_int)))
          pss_nil))))
      (pss_one (ps_ret (pe_ifExp (pt_cmpR (op_eqK K (hu_of64 rm)) (pv 0) (pe_strL (l := []) (by decide +kernel)) (nomark _)) (pe_strL (l := [45]) (by decide +kernel)) (pv 1)))))), ?_⟩
    rw [show L2.start N__law_short_text [T l] = [some (T l), none, none, none] from rfl]
    walk_at "go"
    intro t0 n0
    generalize hh : upd _ t0 _ = H0
    obtain ⟨s0, e0⟩ := new_eq n0 hh
    walk_at "go"
    refine r_goR1 (by omega) ?_
    rw [Int.toNat_natCast]
    refine for_known (known_rng 0 _) (fun i σ H' => ∃ (f : List Nat) (sz : Nat) (x : Option V), σ = [some (T l), some (T f), some (.int (sz : Nat)), x] ∧ H' = H0 ∧ sz ≤ i ∧ i ≤ l.length ∧ (i = l.length → sz = 0) ∧ f.length ≤ 10 * i ∧ f ++ wrt (l.drop (i - sz)) = wrt l ∧ ∀ j, j ≤ sz → i - sz + j < l.length → l.getD (i - sz + j) 0 = l.getD (i - sz) 0)
      ⟨[], 0, none, rfl, rfl, Nat.le_refl _, Nat.zero_le _, fun _ => rfl, by simp, rfl, fun j hj _ => by rw [show 0 - 0 + j = 0 by omega]⟩ (fun _ _ _ _ _ => trivial) ?_ ?_
    · rintro i σ H' hi ⟨f, sz, x, rfl, rfl, hsz, _, _, hf, hw, hall⟩
      rw [Int.zero_add]
      have h0 : l.getD i 0 = l.getD (i - sz) 0 := by
        have := hall sz (Nat.le_refl _) (by omega)
        rwa [show i - sz + sz = i by omega] at this
      have ne : l.drop (i - sz) ≠ [] := by
        intro z
        have := congrArg List.length z
        rw [List.length_drop, List.length_nil] at this
        omega
      have gd : (l.drop (i - sz)).getD 0 0 = l.getD (i - sz) 0 := by rw [List.getD_eq_getElem?_getD, List.getElem?_drop, ← List.getD_eq_getElem?_getD]; rfl
      have ends : (i + 1 = l.length ∨ l.getD (i + 1) 0 ≠ l.getD i 0) → (f ++ [l.getD i 0] ++ (if sz + 1 = 1 then [] else dec (sz + 1))) ++ wrt (l.drop (i + 1)) = wrt l := fun h1 => by
        have key : run (l.drop (i - sz)) = sz + 1 := run_at (by omega) (fun j hj => hall j (by omega) (by omega)) (by rw [show i - sz + sz = i by omega]; exact h0) (by rw [show i - sz + sz = i by omega]; exact h1)
        rw [← hw, wrt_ne ne, key, gd, h0, List.drop_drop, show i - sz + (sz + 1) = i + 1 by omega]
        simp [List.append_assoc]
      have hd5 : (dec (sz + 1)).length ≤ 5 := dec_len (by decide) (by omega)
      walk_at "go"
      have fin : (i + 1 = l.length ∨ l.getD (i + 1) 0 ≠ l.getD i 0) → ∀ g : List Nat, g = f ++ [l.getD i 0] ++ (if sz + 1 = 1 then [] else dec (sz + 1)) → ∃ (f : List Nat) (sz : Nat) (x : Option V), [some (T l), some (T g), some (.int 0), some (.int (i : Nat))] = [some (T l), some (T f), some (.int (sz : Nat)), x] ∧ H' = H' ∧ sz ≤ i + 1 ∧ i + 1 ≤ l.length ∧ (i + 1 = l.length → sz = 0) ∧ f.length ≤ 10 * (i + 1) ∧ f ++ wrt (l.drop (i + 1 - sz)) = wrt l ∧ ∀ j, j ≤ sz → i + 1 - sz + j < l.length → l.getD (i + 1 - sz + j) 0 = l.getD (i + 1 - sz) 0 := fun c g hg =>
        ⟨g, 0, _, rfl, rfl, by omega, by omega, fun _ => rfl, by rw [hg, List.length_append, List.length_append, List.length_singleton]; split; (simp only [List.length_nil]; omega); omega, by rw [hg]; exact ends c, fun j hj _ => by rw [show j = 0 by omega]; rfl⟩
      refine r_ifd (fun c1 => ?_) (fun c1 => ?_)
      · have c : i + 1 = l.length ∨ l.getD (i + 1) 0 ≠ l.getD i 0 := .inl (by omega)
        walk_at "go"
        refine r_ixS (by omega) (at_nat (by omega) (by omega)) ?_
        rw [Int.toNat_natCast]
        walk_at "go"
        refine r_ifd (fun c2 => ?_) (fun c2 => ?_)
        · walk_at "go"
          rw [show (sz : Int) + 1 = ((sz + 1 : Nat) : Int) by omega]
          refine ⟨log_small (show sz + 1 < 2 ^ 60 by omega), ?_⟩
          rw [str_dec]
          walk_at "go"
          exact fin c _ (by rw [if_neg (by omega)])
        · walk_at "go"
          exact fin c _ (by rw [if_pos (by omega), List.append_nil])
      · walk_at "go"
        refine r_ixS (by omega) (at_nat (by omega) (by omega)) ?_
        walk_at "go"
        refine r_ixS (by omega) (at_nat (by omega) (by omega)) ?_
        rw [Int.toNat_natCast, show ((i : Int) + 1).toNat = i + 1 by omega]
        walk_at "go"
        refine r_ifnd (fun c2 => ?_) (fun c2 => ?_)
        · have c : i + 1 = l.length ∨ l.getD (i + 1) 0 ≠ l.getD i 0 := .inr fun z => c2 (by rw [z])
          walk_at "go"
          refine r_ixS (by omega) (at_nat (by omega) (by omega)) ?_
          rw [Int.toNat_natCast]
          walk_at "go"
          refine r_ifd (fun c2 => ?_) (fun c2 => ?_)
          · walk_at "go"
            rw [show (sz : Int) + 1 = ((sz + 1 : Nat) : Int) by omega]
            refine ⟨log_small (show sz + 1 < 2 ^ 60 by omega), ?_⟩
            rw [str_dec]
            walk_at "go"
            exact fin c _ (by rw [if_neg (by omega)])
          · walk_at "go"
            exact fin c _ (by rw [if_pos (by omega), List.append_nil])
        · have c2 : l.getD (i + 1) 0 = l.getD i 0 := (List.cons.inj c2).1
          rw [show (sz : Int) + 1 = ((sz + 1 : Nat) : Int) by omega]
          refine ⟨f, sz + 1, _, rfl, rfl, by omega, by omega, fun z => absurd z (by omega), by omega, by rw [show i + 1 - (sz + 1) = i - sz by omega]; exact hw, fun j hj hj2 => ?_⟩
          rw [show i + 1 - (sz + 1) = i - sz by omega] at hj2 ⊢
          by_cases e : j = sz + 1
          · rw [e, show i - sz + (sz + 1) = i + 1 by omega, c2, h0]
          · exact hall j (by omega) hj2
    · rintro σ H' ⟨f, sz, x, rfl, rfl, hsz, _, he, hf, hw, hall⟩
      have e0 := he rfl
      subst e0
      rw [Nat.sub_zero, List.drop_length, wrt_nil, List.append_nil] at hw
      unfold short at q
      walk_at "go"
      refine r_ifd (fun c2 => ?_) (fun c2 => ?_)
      · rw [if_pos c2] at q
        walk_at "go"
        exact q _ s0
      · rw [if_neg c2] at q
        walk_at "go"
        rw [hw]
        exact q _ s0
/-! ### _law_row_words -/
def sp__law_row_words (_ : PySem.W.Frag) : Sp := fun vs H Q _ => ∃ (w : Addr) (u : List Nat) (n : Nat), vs = [.ref w, T u] ∧ Wl H w n ∧ n < 2 ^ 40 ∧ Row u ∧ u.length ≤ 90 ∧ ∀ l H', anyL l = some u → l.length ≤ 1000 → Kp w H H' → Wl H' w (n + 3) → Q (T l) H'
set_option maxHeartbeats 4000000 in
theorem ok__law_row_words (Z : Tx K mg) : FnG P w K mg base CX0 2 Z.a__law_row_words Z.d__law_row_words ["well", "word"] (sp__law_row_words K) := by
  refine funGT Z.F__law_row_words sc__law_row_words (by decide +kernel) (by decide) (fun vs H Q E h => ?_) (fun cdv A outer s H vs Q E gg rm h => ?_)
  · obtain ⟨w, u, n, rfl, hw, hn, hu, hul, q⟩ := h; rfl
  · obtain ⟨w, u, n, rfl, hw, hn, hu, hul, q⟩ := h
    refine ⟨_,
      (L2.psst_cons (L2.PST.of (ps_if (PW.pt (pw_or (pt_cmpR (op_eqK K (hu_of64 rm)) (pv 1) (pe_strL (l := []) (by decide +kernel)) (nomark _)) (pw_or1 (pt_cmpR (op_eqK K (hu_of64 rm)) (pe_callG gg (ok__law_pull Z) rm (by rfl) Z.g__law_pull Z.F__law_pull.kp Z.b__law_pull .nil pass0 (pa_cons (pv 0) (pa_cons pe_int pa_nil))) pe_int (nomark _)))))
        (pss_one (ps_ret (pe_callG gg (ok__law_short_text Z) rm (by rfl) Z.g__law_short_text Z.F__law_short_text.kp Z.b__law_short_text .nil pass0 (pa_cons (pv 1) pa_nil))))
        pss_nil))
      (CwR.psst_one (CwR.pst_ret (NX.pet_ifX (pt_cmpR (op_eqK K (hu_of64 rm)) (pe_callG gg (ok__law_pull Z) rm (by rfl) Z.g__law_pull Z.F__law_pull.kp Z.b__law_pull .nil pass0 (pa_cons (pv 0) (pa_cons pe_int pa_nil))) pe_int (nomark _)) (CwR.PET.of (pv 1)) (CwR.pet_op (op_addK K) (CwR.PET.of (pe_ix (ix_K K) (pv 1) pe_int (fun _ _ => rfl))) (CwR.pet_replC (pe_callG gg (ok__law_short_text Z) rm (by rfl) Z.g__law_short_text Z.F__law_short_text.kp Z.b__law_short_text .nil pass0 (pa_cons (pe_slice (sl_K K) (pv 1) (po_some pe_int) po_none) pa_nil)))))))), ?_⟩
    rw [show L2.start N__law_row_words [.ref w, T u] = [some (.ref w), some (T u)] from rfl]
    have hsh : anyL (short u) = some u ∧ (short u).length ≤ 1000 := by
      unfold short
      split
      · rename_i e; rw [e]; exact ⟨rfl, by simp⟩
      · rename_i e
        have := wrt_len u.length u (Nat.le_refl _) (by omega)
        exact ⟨(wrt_wr u.length u (Nat.le_refl _) (by omega) hu).any (by omega) e, by omega⟩
    walk_at "go"
    refine r_ifd (fun c => ?_) (fun c => ?_)
    · walk_at "go"
      refine ⟨u, rfl, by omega, fun H2 s2 => ?_⟩
      exact q _ _ hsh.1 hsh.2 (Kp.of s2) ((hw.same s2).mono (by omega))
    walk_at "go"
    refine ⟨w, 3, n, rfl, hw, by omega, by decide, fun r H1 r0 r1 k1 w1 => ?_⟩
    walk_at "go"
    refine r_ifd (fun c1 => ?_) (fun c1 => ?_)
    · walk_at "go"
      refine ⟨u, rfl, by omega, fun H2 s2 => ?_⟩
      exact q _ _ hsh.1 hsh.2 (k1.trans (Kp.of s2)) ((w1.same s2).mono (by omega))
    walk_at "go"
    refine ⟨w, 2, _, rfl, w1, by omega, by decide, fun r2 H2 r20 r21 k2 w2 => ?_⟩
    walk_at "go"
    refine r_ifd (fun c2 => ?_) (fun c2 => ?_)
    · walk_at "go"
      exact q _ _ ((wr_self hu).any (by omega) c) (by omega) (k1.trans k2) (w2.mono (by omega))
    obtain ⟨b, v, rfl⟩ : ∃ b v, u = b :: v := by
      cases u with
      | nil => exact absurd rfl c
      | cons b v => exact ⟨b, v, rfl⟩
    have hv : Row v := fun d hd => hu d (by simp [hd])
    have hvl : v.length ≤ 90 := by rw [List.length_cons] at hul; omega
    have hwl := wrt_len v.length v (Nat.le_refl _) (by omega)
    have hsl := short_len3 (r := v) (by omega)
    walk_at "go"
    refine r_ixS (by omega) (at_nat (by omega) (by simp)) ?_
    refine r_replC ?_
    walk_at "go"
    rw [show (1 : Int) = ((1 : Nat) : Int) from rfl, cut_from]
    refine ⟨v, rfl, by omega, fun H3 s3 => ?_⟩
    refine ⟨mkS (short v), rfl, by rw [mkS_len]; show _ + _ * 0 ≤ _; omega, ?_⟩
    rw [repl_short hv (by omega)]
    refine r_addS (by simp; omega) ?_
    refine q _ _ ?_ (by simp; omega) (k1.trans (k2.trans (Kp.of s3))) ((w2.same s3).mono (by omega))
    exact ((Wr.one (hu b (by simp))).app (wrt_wr v.length v (Nat.le_refl _) (by omega) hv)).any (by simp; omega) (by simp)
/-! ### _law_words -/
def sp__law_words (_ : PySem.W.Frag) : Sp := fun vs H Q _ => ∃ (w : Addr) (v : V) (pr : Prt) (n : Nat), vs = [.ref w, v] ∧ Wl H w n ∧ n < 2 ^ 40 ∧ PrO H v pr ∧ pr.ok ∧ ∀ t H', pr.Says t → Kp w H H' → Wl H' w (n + 3) → Q (T t) H'
set_option maxHeartbeats 4000000 in
theorem ok__law_words (Z : Tx K mg) : FnG P w K mg base CX0 3 Z.a__law_words Z.d__law_words ["well", "parts"] (sp__law_words K) := by
  refine funG Z.F__law_words sc__law_words (fun vs H Q E h => ?_) (fun cdv A outer s H vs Q E gg rm h => ?_)
  · obtain ⟨w, v, pr, n, rfl, hw, hn, hv, hok, q⟩ := h; rfl
  · obtain ⟨w, v, pr, n, rfl, hw, hn, hv, hok, q⟩ := h
    refine ⟨_,
      (pss_cons (ps_asg (pv 1) (pg_tupK (n := 2) K rfl (pgs_cons (pg_name (i := 2) sc__law_words.nd rfl (.inl rfl)) (pgs_cons (pg_name (i := 3) sc__law_words.nd rfl (.inl rfl)) pgs_nil))))
      (pss_cons (ps_if (pt_cmpR op_isG (pv 3) pe_non (nomark _))
        (pss_one (ps_ret (pv 2)))
        pss_nil)
      (pss_cons (ps_if (pt_cmpR (op_inK K) (pv 2) (pe_tup (pa_cons (pe_strL (l := [116, 101, 108, 108]) (by decide +kernel)) (pa_cons (pe_strL (l := [114, 111, 119]) (by decide +kernel)) pa_nil))) (by rfl))
        (pss_one (ps_ret (pe_op (op_addK K) (pe_op (op_addK K) (pv 2) (pe_strL (l := [32]) (by decide +kernel))) (pe_callG gg (ok__law_row_words Z) rm (by rfl) Z.g__law_row_words Z.F__law_row_words.kp Z.b__law_row_words .nil pass0 (pa_cons (pv 0) (pa_cons (pv 3) pa_nil))))))
        pss_nil)
      (pss_one (ps_ret (pe_op (op_addK K) (pe_op (op_addK K) (pv 2) (pe_strL (l := [32]) (by decide +kernel))) (pe_callTy NX.call_strIS (by rfl) Z.n_str (by decide +kernel) (pa_cons (pv 3) pa_nil)))))))), ?_⟩
    rw [show L2.start N__law_words [.ref w, v] = [some (.ref w), some (v), none, none] from rfl]
    obtain ⟨p, rfl, ep⟩ := hv
    have w0 : Wl H w (n + 3) := hw.mono (by omega)
    have k0 : Kp w H H := Kp.of (Same.refl _)
    cases pr with
    | rules =>
      simp only [Prt.way, Prt.val] at ep
      walk_at "go"
      exact q _ _ rfl k0 w0
    | root =>
      simp only [Prt.way, Prt.val] at ep
      walk_at "go"
      exact q _ _ rfl k0 w0
    | undo =>
      simp only [Prt.way, Prt.val] at ep
      walk_at "go"
      exact q _ _ rfl k0 w0
    | ord o =>
      cases o with
      | letters b =>
        simp only [Prt.way, Prt.val, Ord.word, Ord.val] at ep
        have hb := hok.2.1
        walk_at "go"
        intro t1 nt1
        generalize hh : upd _ t1 _ = H1
        obtain ⟨s1, e1⟩ := new_eq nt1 hh
        walk_at "go"
        refine r_ninTStr (ss := [mkS [116, 101, 108, 108], mkS [114, 111, 119]]) (SqT.of e1) (by decide +kernel) ?_
        walk_at "go"
        refine .inr ⟨_, rfl, ?_⟩
        refine r_addS (by simp; omega) ?_
        exact q _ _ ⟨b, rfl, rfl, hok⟩ (Kp.of s1) (w0.same s1)
      | drop m =>
        simp only [Prt.way, Prt.val, Ord.word, Ord.val] at ep
        have hm : m ≤ 7 := hok
        have hdl := dec_len (n := m) (k := 2) (by decide) (by omega)
        walk_at "go"
        refine r_isIN ?_
        walk_at "go"
        intro t1 nt1
        generalize hh : upd _ t1 _ = H1
        obtain ⟨s1, e1⟩ := new_eq nt1 hh
        walk_at "go"
        refine r_ninTStr (ss := [mkS [116, 101, 108, 108], mkS [114, 111, 119]]) (SqT.of e1) (by decide +kernel) ?_
        walk_at "go"
        refine .inl ⟨_, rfl, r_strI (P := fun v => rAddG K (T ([100, 114, 111, 112] ++ [32])) v H1 _) (by omega) ?_⟩
        refine r_addS (by simp; omega) ?_
        refine q _ _ ⟨dec m, rfl, ?_, hdl⟩ (Kp.of s1) (w0.same s1)
        match m, hm with
        | 0, _ | 1, _ | 2, _ | 3, _ | 4, _ | 5, _ | 6, _ | 7, _ => decide
      | tell l =>
        simp only [Prt.way, Prt.val, Ord.word, Ord.val] at ep
        have hl2 := hok.2
        walk_at "go"
        intro t1 nt1
        generalize hh : upd _ t1 _ = H1
        obtain ⟨s1, e1⟩ := new_eq nt1 hh
        walk_at "go"
        refine r_inTStr (ss := [mkS [116, 101, 108, 108], mkS [114, 111, 119]]) (SqT.of e1) (by decide +kernel) ?_
        walk_at "go"
        refine ⟨w, l, n, rfl, hw.same s1, hn, hok.1, hok.2, fun t H2 h1 h2 k2 w2 => ?_⟩
        walk_at "go"
        exact q _ _ ⟨t, rfl, h1, by omega, h2⟩ ((Kp.of s1).trans k2) w2
      | row l =>
        simp only [Prt.way, Prt.val, Ord.word, Ord.val] at ep
        have hl2 := hok.2
        walk_at "go"
        intro t1 nt1
        generalize hh : upd _ t1 _ = H1
        obtain ⟨s1, e1⟩ := new_eq nt1 hh
        walk_at "go"
        refine r_inTStr (ss := [mkS [116, 101, 108, 108], mkS [114, 111, 119]]) (SqT.of e1) (by decide +kernel) ?_
        walk_at "go"
        refine ⟨w, l, n, rfl, hw.same s1, hn, hok.1, hok.2, fun t H2 h1 h2 k2 w2 => ?_⟩
        walk_at "go"
        exact q _ _ ⟨t, rfl, h1, by omega, h2⟩ ((Kp.of s1).trans k2) w2
/-! ### _law_is_kin -/
def sp__law_is_kin (_ : PySem.W.Frag) : Sp := fun vs H Q _ => ∃ a b : List Nat, vs = [T a, T b] ∧ Row b ∧ a.length ≤ 1000 ∧ b.length ≤ 1000 ∧ ∀ H', Same H H' → Q (.bl (kinB a b)) H'
set_option maxHeartbeats 4000000 in
theorem ok__law_is_kin (Z : Tx K mg) : FnG P w K mg base CX0 3 Z.a__law_is_kin Z.d__law_is_kin ["one", "two"] (sp__law_is_kin K) := by
  refine funG Z.F__law_is_kin sc__law_is_kin (fun vs H Q E h => ?_) (fun cdv A outer s H vs Q E gg rm h => ?_)
  · obtain ⟨a, b, rfl, hb, la, lb, q⟩ := h; rfl
  · obtain ⟨a, b, rfl, hb, la, lb, q⟩ := h
    refine ⟨_,
      (pss_one (ps_ret (pe_andK K (pe_cmpR (op_eqK K (hu_of64 rm)) (pe_callB (call_lenK K) (by rfl) Z.n_len PySem.boot_len (pa_cons (pv 0) pa_nil)) (pe_callB (call_lenK K) (by rfl) Z.n_len PySem.boot_len (pa_cons (pv 1) pa_nil)) (nomark _)) (pe_one (pe_orK K (pe_cmpR (op_inK K) (pv 0) (pe_op (op_addK K) (pv 1) (pv 1)) (by rfl)) (pe_one (pe_cmpR (op_inK K) (pv 0) (pe_op op_mulG (pe_callG gg (ok__law_back Z) rm (by rfl) Z.g__law_back Z.F__law_back.kp Z.b__law_back .nil pass0 (pa_cons (pv 1) pa_nil)) pe_int) (by rfl)))))))), ?_⟩
    rw [show L2.start N__law_is_kin [T a, T b] = [some (T a), some (T b)] from rfl]
    have hbl := bak_len b
    have hdef : kinB a b = (decide (a.length = b.length) && (subS (mkS (b ++ b)) (mkS a) || subS (mkS (bak b ++ bak b)) (mkS a))) := by
      unfold kinB tnd
      rw [hbl, ← Bool.and_or_distrib_left]
    walk_at "go"
    refine r_ifd (fun c => ?_) (fun c => ?_)
    · rw [decide_eq_true (show a.length = b.length by omega), Bool.true_and] at hdef
      walk_at "go"
      cases e : subS (mkS (b ++ b)) (mkS a) with
      | true =>
        rw [e, Bool.true_or] at hdef
        walk_at "go"
        rw [hdef] at q
        exact q _ (Same.refl _)
      | false =>
        rw [e, Bool.false_or] at hdef
        walk_at "go"
        refine ⟨b, rfl, hb, by omega, fun H1 s1 => ?_⟩
        walk_at "go"
        refine r_mulS ⟨by decide, by decide, by show (bak b).length * 2 ≤ _; omega⟩ ?_
        rw [show repL (bak b) (2 : Int).toNat = bak b ++ bak b by show repL (bak b) 2 = _; simp [repL]]
        walk_at "go"
        rw [hdef] at q
        exact q _ s1
    · rw [decide_eq_false (show ¬ a.length = b.length by omega), Bool.false_and] at hdef
      rw [hdef] at q
      rw [decide_eq_false c]
      exact q _ (Same.refl _)
/-! ### _law_fits -/
def sp__law_fits (K : PySem.W.Frag) : Sp := fun vs H Q _ => ∃ (v : V) (a l : List Nat) (rs : List (List Nat)), vs = [T l, v] ∧ TupV K H v (rs.map T) ∧ Al a ∧ RowOf a l ∧ l.length ≤ 1000 ∧ Told a rs ∧ ∀ H', Same H H' → Q (.bl (stB a rs l)) H'
set_option maxHeartbeats 4000000 in
theorem ok__law_fits (Z : Tx K mg) : FnG P w K mg base CX0 4 Z.a__law_fits Z.d__law_fits ["word", "told"] (sp__law_fits K) := by
  refine funG Z.F__law_fits sc__law_fits (fun vs H Q E h => ?_) (fun cdv A outer s H vs Q E gg rm h => ?_)
  · obtain ⟨v, a, l, rs, rfl, tv, ha, ho, hl, ht, q⟩ := h; rfl
  · obtain ⟨v, a, l, rs, rfl, tv, ha, ho, hl, ht, q⟩ := h
    refine ⟨_,
      (pss_cons (ps_if (PW.pt (pw_or (pt_not (pt_chain op_le op_le pe_int (pe_callB (call_lenK K) (by rfl) Z.n_len PySem.boot_len (pa_cons (pv 0) pa_nil)) pe_int)) (pw_or1 (pt_cmpR op_gt (pe_callB (call_lenK K) (by rfl) Z.n_len PySem.boot_len (pa_cons (pv 1) pa_nil)) pe_int (nomark _)))))
        (pss_one (ps_ret pe_bl))
        pss_nil)
      (pss_cons (ps_if (pt_cmpR (op_neK K (hu_of64 rm)) (pe_lc (own := [("k", 2)]) (g := gName 2)  rfl sc__law_fits.nd (pi_range1 (by rfl) Z.n_range (pa_cons (pe_callB (call_lenK K) (by rfl) Z.n_len PySem.boot_len (pa_cons (pv 0) pa_nil)) pa_nil)) (blkOk_by (N := N__law_fits) (sc := defScope s__law_fits) (by decide +kernel)) (fun _ _ _ _ _ => pg_name (i := 2) sc__law_fits.nd rfl (Or.inl rfl)) (fun _ _ _ _ _ => (pts_one (pt_cmpR (op_eqK K (hu_of64 rm)) (pe_ix (ix_K K) (pv 0) (pe_op op_sub (pv 2) pe_int) (fun _ _ => rfl)) (pe_callG gg (ok__law_flip Z) (rm.mono (by decide)) (by rfl) Z.g__law_flip Z.F__law_flip.kp Z.b__law_flip .nil pass0 (pa_cons (pe_ix (ix_K K) (pv 0) (pv 2) (fun _ _ => rfl)) pa_nil)) (nomark _)))) (fun _ _ _ _ _ => (pv 2))) (pe_lst pa_nil) (nomark _))
        (pss_one (ps_ret pe_bl))
        pss_nil)
      (pss_one (ps_ret (pe_cmpR (op_eqK K (hu_of64 rm)) (pe_lc (own := [("own", 3)]) (g := gName 3)  rfl sc__law_fits.nd (pi_K K (pv 1)) (blkOk_by (N := N__law_fits) (sc := defScope s__law_fits) (by decide +kernel)) (fun _ _ _ _ _ => pg_name (i := 3) sc__law_fits.nd rfl (Or.inl rfl)) (fun _ _ _ _ _ => (pts_one (pt_truK K (pe_callG gg (ok__law_is_kin Z) rm (by rfl) Z.g__law_is_kin Z.F__law_is_kin.kp Z.b__law_is_kin .nil pass0 (pa_cons (pv 0) (pa_cons (pv 3) pa_nil))) (by intro _; rfl)))) (fun _ _ _ _ _ => (pv 3))) (pe_lst pa_nil) (nomark _)))))), ?_⟩
    rw [show L2.start N__law_fits [T l, v] = [some (T l), some (v), none, none] from rfl]
    obtain ⟨p, rfl⟩ := tv.ref
    have tq := tv.sq
    have hr := ht.2.1
    have h6 := ht.1
    have hrow := ho.row ha
    have no : (¬ (rs.length < 6 ∧ RR a l ∧ ∀ e ∈ rs, kinB l e = false)) → stB a rs l = false := fun h => by
      cases e : stB a rs l with
      | false => rfl
      | true => exact absurd (stB_iff.mp e) h
    walk_at "go"
    refine r_ifd (fun c1 => ?_) (fun c1 => ?_)
    case refine_2 =>
      walk_at "go"
      rw [no fun z => by have := z.2.1.2.1; omega] at q
      exact q _ (Same.refl _)
    have hl1 : 1 ≤ l.length := by omega
    walk_at "go"
    refine r_ifnd (fun c2 => ?_) (fun c2 => ?_)
    · walk_at "go"
      rw [no fun z => by have := z.2.1.2.2.1; omega] at q
      exact q _ (Same.refl _)
    have hl2 : l.length ≤ 40 := by omega
    walk_at "go"
    rw [List.length_map]
    refine r_ifd (fun c3 => ?_) (fun c3 => ?_)
    · walk_at "go"
      rw [no fun z => by have := z.1; omega] at q
      exact q _ (Same.refl _)
    have hes : rs.length < 6 := by omega
    walk_at "go"
    refine r_goR1 (by omega) ?_
    rw [Int.toNat_natCast]
    refine lc_known (known_rng 0 _) (fun i => if decide (l.getD ((i + l.length - 1) % l.length) 0 = swp (l.getD i 0)) = true then some (.int (i : Nat)) else none) (by omega) (fun _ _ => trivial) (fun i H2 QT hi sm hk => ?_) (fun D H1 nD s1 eD => ?_)
    · have hk1 := hk _ (Same.refl _)
      have hc := hrow _ (getD_mem hi)
      have hat := at_prev hi
      rw [show (0 : Int) + (i : Int) = (i : Int) by omega]
      generalize l.getD ((i + l.length - 1) % l.length) 0 = pv at hat hk1
      walk_at "go"
      refine r_ixS (by omega) hat ?_
      walk_at "go"
      refine r_ixS (by omega) (at_nat (by omega) (by omega)) ?_
      rw [Int.toNat_natCast]
      refine ⟨_, rfl, hc, ?_⟩
      walk_at "go"
      refine r_ifd (fun c => ?_) (fun c => ?_)
      · rw [if_pos (decide_eq_true (List.cons.inj c).1)] at hk1
        walk_at "go"
        exact hk1
      · rw [if_neg (by rw [decide_eq_false (fun z => c (by rw [z]))]; decide)] at hk1
        exact hk1
    rw [fm_ints (fun i => decide (l.getD ((i + l.length - 1) % l.length) 0 = swp (l.getD i 0)))] at eD
    walk_at "go"
    intro e2 ne2
    generalize hh : upd _ e2 _ = H2
    obtain ⟨s2, ee2⟩ := new_eq ne2 hh
    walk_at "go"
    refine r_neLi (bs := []) (SqL.of (s2 _ _ eD)) (SqL.of ee2) ?_
    walk_at "go"
    refine r_ifnd (fun c => ?_) (fun c => ?_)
    · obtain ⟨z, hz⟩ := List.exists_mem_of_ne_nil _ c
      obtain ⟨i, hi, rfl⟩ := List.mem_map.mp hz
      obtain ⟨hi1, hi2⟩ := List.mem_filter.mp hi
      have hi1 := List.mem_range.mp hi1
      have hi2 := of_decide_eq_true hi2
      walk_at "go"
      rw [no fun z => z.2.1.2.2.2 i hi1 (by rw [hi2, swp_swp (hrow _ (getD_mem hi1))])] at q
      exact q _ (s1.trans s2)
    have hnf : ∀ i, i < l.length → l.getD i 0 ≠ swp (l.getD ((i + l.length - 1) % l.length) 0) := fun i hi e => by
      have hp : lett (l.getD ((i + l.length - 1) % l.length) 0) = true := hrow _ (getD_mem (Nat.mod_lt _ (by omega)))
      have : i ∈ (List.range l.length).filter (fun i => decide (l.getD ((i + l.length - 1) % l.length) 0 = swp (l.getD i 0))) := List.mem_filter.mpr ⟨List.mem_range.mpr hi, decide_eq_true (by rw [e, swp_swp hp])⟩
      rw [List.map_eq_nil_iff] at c
      rw [c] at this; cases this
    have hRR : RR a l := ⟨ho, hl1, hl2, hnf⟩
    have s12 := s1.trans s2
    have tq2 := (tv.same s12)
    have q : ∀ H', Same H H' → Q (.bl (rs.all fun e => !kinB l e)) H' := fun H' s => by
      have := q H' s
      unfold stB at this
      rwa [decide_eq_true (show rs.length < 6 by omega), decide_eq_true hRR, Bool.true_and, Bool.true_and] at this
    walk_at "go"
    refine r_goT tq2.sq ?_
    refine lc_known (known_tup (rs.map T)) (fun i => if kinB l (rs.getD i []) = true then some (T (rs.getD i [])) else none) (by rw [List.length_map]; omega) (fun H' s => (tq2.same s).sq) (fun i H6 QT hi s6 hk => ?_) (fun D6 H6 nD6 s6 eD6 => ?_)
    · rw [List.length_map] at hi
      rw [map_getD _ hi]
      have hr := ht.2.1 _ (getD_memL hi)
      have hr2 := hr.2.2.1
      generalize rs.getD i [] = r at hr hr2 hk
      walk_at "go"
      refine ⟨l, r, rfl, hr.row ha, by omega, by omega, fun H7 s7 => ?_⟩
      have hk1 := hk _ s7
      walk_at "go"
      cases e : kinB l r with
      | true => rw [if_pos e] at hk1; walk_at "go"; exact hk1
      | false => rw [if_neg (by rw [e]; decide)] at hk1; exact hk1
    rw [List.length_map, fm_getL rs (fun r => if kinB l r = true then some (T r) else none), fm_keep] at eD6
    walk_at "go"
    intro e7 ne7
    generalize hh : upd _ e7 _ = H7
    obtain ⟨s7, ee7⟩ := new_eq ne7 hh
    walk_at "go"
    refine r_eqLs (as := rs.filter (kinB l)) (bs := []) (SqL.of (s7 _ _ eD6)) (SqL.of ee7) (fun y hy => ((ht.2.1 _ (List.mem_filter.mp hy).1).row ha).asc) (fun y hy => nomatch hy) ?_
    have hq := q _ (s12.trans (s6.trans s7))
    rw [show (rs.all fun e => !kinB l e) = decide (rs.filter (kinB l) = []) by
      rw [Bool.eq_iff_iff, List.all_eq_true, decide_eq_true_eq, List.filter_eq_nil_iff]
      exact forall_congr' fun x => imp_congr_right fun _ => by cases kinB l x <;> simp] at hq
    exact hq
/-! ### _law_least -/
def sp__law_least (_ : PySem.W.Frag) : Sp := fun vs H Q _ => ∃ l : List Nat, vs = [T l] ∧ Row l ∧ l.length ≤ 5000000 ∧ ∀ H', Same H H' → Q (T (red l)) H'
set_option maxHeartbeats 4000000 in
theorem ok__law_least (Z : Tx K mg) : FnG P w K mg base CX0 2 Z.a__law_least Z.d__law_least ["word"] (sp__law_least K) := by
  refine funG Z.F__law_least sc__law_least (fun vs H Q E h => ?_) (fun cdv A outer s H vs Q E gg rm h => ?_)
  · obtain ⟨l, rfl, ha, hl, q⟩ := h; rfl
  · obtain ⟨l, rfl, ha, hl, q⟩ := h
    refine ⟨_,
      (pss_cons (ps_set (i := 1) sc__law_least.nd rfl (.inl rfl) (pe_lst pa_nil))
      (pss_cons (ps_for PassesOwn.never rfl (pi_K K (pv 0)) (pg_name (i := 2) sc__law_least.nd rfl (.inl rfl))
        (pss_one (ps_if (PW.pt (pw_and (pt_cmpR (op_neK K (hu_of64 rm)) (pv 1) (pe_lst pa_nil) (nomark _)) (pw_and1 (pt_cmpR (op_eqK K (hu_of64 rm)) (pe_ix (ix_K K) (pv 1) (pe_un un_neg pe_int) (fun _ _ => rfl)) (pe_callG gg (ok__law_flip Z) rm (by rfl) Z.g__law_flip Z.F__law_flip.kp Z.b__law_flip .nil pass0 (pa_cons (pv 2) pa_nil)) (nomark _)))))
          (pss_one (ps_expr (pe_bm0K K PySem.F.plainAttrs_list PySem.F.slot_list_pop PySem.F.type_list_pop mt_pop (pv 1))))
          (pss_one (ps_expr (pe_bmK K PySem.F.plainAttrs_list PySem.F.slot_list_append PySem.F.type_list_append mt_append (pv 1) (pa_cons (pv 2) pa_nil)))))))
      (pss_one (ps_ret (pe_joinK K (pe_strL (l := []) (by decide +kernel)) (pv 1)))))), ?_⟩
    rw [show L2.start N__law_least [T l] = [some (T l), none, none] from rfl]
    walk_at "go"
    intro p np
    walk_at "go"
    refine for_known (known_str l) (fun i σ H' => ∃ x, σ = [some (T l), some (.ref p), x] ∧ Same H H' ∧ H' p = some (.lst ((stk (l.take i)).reverse.map fun c => T [c])))
      ⟨none, rfl, Same.new1 np, by rw [upd_same]; rfl⟩ (fun _ _ _ _ _ => trivial) ?_ ?_
    · rintro i σ H' hi ⟨x, rfl, sm, eK⟩
      have hsn := take_snoc (getD_some hi)
      have hc : lett (l.getD i 0) = true := ha _ (getD_mem hi)
      have hr : Row (stk (l.take i)) := stk_row (ha.take i)
      have hlen : (stk (l.take i)).length ≤ l.length := Nat.le_trans (stk_len _) (by rw [List.length_take]; omega)
      rw [hsn, stk_snoc]
      generalize l.getD i 0 = c at hc
      generalize stk (l.take i) = s at eK hr hlen
      walk_at "go"
      intro e ne
      have npe : p ≠ e := ne_of_none eK ne
      have eK' : (upd H' e (.lst [])) p = some (.lst (s.reverse.map fun c => T [c])) := by rw [upd_ne npe]; exact eK
      have sm' : Same H (upd H' e (.lst [])) := sm.new ne
      refine r_neLs (as := s.reverse.map fun c => [c]) (bs := []) (SqL.of (by rw [eK', ones_T])) (SqL.of upd_same) (fun x hx => ?_) (fun x hx => nomatch hx) ?_
      · obtain ⟨d, hd, rfl⟩ := List.mem_map.mp hx
        exact (Row.one (hr.rev d hd)).asc
      walk_at "go"
      cases s with
      | nil =>
        rw [decide_eq_true (show (([] : List Nat).reverse.map fun c => [c]) = [] from rfl)]
        walk_at "go"
        refine r_append eK' (by simp) ?_
        exact ⟨_, rfl, sm'.mut np, by rw [upd_same]; rfl⟩
      | cons t r =>
        rw [decide_eq_false (show ¬ (((t :: r).reverse.map fun c => [c]) = []) by simp)]
        walk_at "go"
        refine r_ixL (SqL.of eK') (last_rev rfl) ?_
        walk_at "go"
        refine ⟨c, rfl, hc, ?_⟩
        walk_at "go"
        rw [push_cons]
        refine r_ifd (fun h => ?_) (fun h => ?_)
        · have h' : t = swp c := by injection h
          rw [if_pos h']
          walk_at "go"
          refine r_pop eK' (pop_rev rfl).1 ?_
          exact ⟨_, rfl, sm'.mut np, by rw [upd_same, (pop_rev rfl).2]⟩
        · have h' : ¬ t = swp c := fun e => h (by rw [e])
          rw [if_neg h']
          walk_at "go"
          refine r_append eK' (by simp only [List.length_map, List.length_reverse]; omega) ?_
          exact ⟨_, rfl, sm'.mut np, by rw [upd_same]; simp⟩
    · rintro σ H' ⟨x, rfl, sm, eK⟩
      rw [List.take_length] at eK
      walk_at "go"
      refine r_join0 (ls := (red l).map fun c => [c]) (SqL.of (by rw [eK, ← ones_T]; rfl)) (by rw [ones_flat]; have := red_len l; omega) ?_
      rw [ones_flat]
      exact q _ sm
/-! ### _law_rules_text -/
def sp__law_rules_text (K : PySem.W.Frag) : Sp := fun vs H Q _ => ∃ (v : V) (s : DS), vs = [v] ∧ StA H v s ∧ Al s.a ∧ Told s.a s.rs ∧ ∀ H', Same H H' → Q (T (ruleT s.a s.rs)) H'
set_option maxHeartbeats 4000000 in
theorem ok__law_rules_text (Z : Tx K mg) : FnG P w K mg base CX0 2 Z.a__law_rules_text Z.d__law_rules_text ["state"] (sp__law_rules_text K) := by
  refine funG Z.F__law_rules_text sc__law_rules_text (fun vs H Q E h => ?_) (fun cdv A outer s H vs Q E gg rm h => ?_)
  · obtain ⟨v, s, rfl, hs, ha, ht, fin⟩ := h; rfl
  · obtain ⟨v, s, rfl, hs, ha, ht, fin⟩ := h
    refine ⟨_,
      (pss_one (ps_ret (pe_joinK K (pe_strL (l := [10]) (by decide +kernel)) (pe_op (op_addK K) (pe_lst (pa_cons (pe_op (op_addK K) (pe_strL (l := [108, 101, 116, 116, 101, 114, 115, 32]) (by decide +kernel)) (pe_ix (ix_K K) (pv 0) pe_int (fun _ _ => rfl))) pa_nil)) (pe_lc (own := [("own", 1)]) (g := gName 1) (tt := tYes) rfl sc__law_rules_text.nd (pi_K K (pe_ix (ix_K K) (pv 0) pe_int (fun _ _ => rfl))) (blkOk_by (N := N__law_rules_text) (sc := defScope s__law_rules_text) (by decide +kernel)) (fun _ _ _ _ _ => pg_name (i := 1) sc__law_rules_text.nd rfl (Or.inl rfl)) (fun _ _ _ _ _ => pts_nil) (fun _ _ _ _ _ => (pe_op (op_addK K) (pe_callG gg (ok__law_short_text Z) rm (by rfl) Z.g__law_short_text Z.F__law_short_text.kp Z.b__law_short_text .nil pass0 (pa_cons (pv 1) pa_nil)) (pe_strL (l := [32, 105, 115, 32, 110, 111, 116, 104, 105, 110, 103]) (by decide +kernel))))))))), ?_⟩
    rw [show L2.start N__law_rules_text [v] = [some (v), none] from rfl]
    obtain ⟨q, p, rfl, eq, etv⟩ := hs
    have htv := TupV.of (K := K) etv
    have hal := ha.1
    have hal2 := ha.2.1
    have h6 := ht.1
    walk_at "go"
    intro g ng
    generalize hh : upd _ g _ = H1
    obtain ⟨s1, e1⟩ := new_eq ng hh
    walk_at "go"
    have eq1 := s1 _ _ eq
    have htv1 := htv.same s1
    walk_at "go"
    refine r_goT htv1.sq ?_
    refine lc_known (known_tup (s.rs.map T)) (fun i => some (T (short (s.rs.getD i []) ++ TLL))) (by rw [List.length_map]; omega) (fun H' s => (htv1.same s).sq) (fun i H2 QT hi sm hk => ?_) (fun D H2 nD s2 eD => ?_)
    · rw [List.length_map] at hi
      rw [map_getD _ hi]
      have hr1 := (ht.2.1 _ (getD_memL hi)).2.1
      have hr2 := (ht.2.1 _ (getD_memL hi)).2.2.1
      have hrr := ((ht.2.1 _ (getD_memL hi)).row ha)
      generalize s.rs.getD i [] = r at hr1 hr2 hk hrr
      have hs := short_len40 hr2
      walk_at "go"
      refine ⟨r, rfl, by omega, fun H3 s3 => ?_⟩
      walk_at "go"
      exact hk _ s3
    rw [List.length_map, fm_getL s.rs (fun r => some (T (short r ++ TLL))), List.filterMap_eq_map', show s.rs.map (fun r => T (short r ++ TLL)) = (s.rs.map fun r => short r ++ TLL).map T by rw [List.map_map]; rfl] at eD
    refine r_addLs (ls := [HDL ++ s.a]) (s2 _ _ e1) eD (by rw [List.length_map]; simp only [List.length_cons, List.length_nil]; omega) fun q3 H3 s3 n3 e3 => ?_
    have e3 : H3 q3 = some (.lst (((HDL ++ s.a) :: s.rs.map fun r => short r ++ TLL).map T)) := e3
    refine r_joinN e3 (fun l hl => ?_) (by rw [List.length_cons, List.length_map]; omega) ?_
    · rcases List.mem_cons.mp hl with rfl | hl
      · rw [List.length_append]; simp only [List.length_cons, List.length_nil]; omega
      · obtain ⟨r, hr, rfl⟩ := List.mem_map.mp hl
        have := short_len40 (ht.2.1 r hr).2.2.1
        rw [List.length_append]; simp only [List.length_cons, List.length_nil]; omega
    exact fin _ (s1.trans (s2.trans s3))
/-! ### _law_root -/
def sp__law_root (_ : PySem.W.Frag) : Sp := fun vs H Q _ => ∃ l : List Nat, vs = [T l] ∧ Row l ∧ Free l ∧ l.length ≤ 1000 ∧ ∀ t H', Same H H' → H' t = some (.tup [T (root1 l), .int (rootn l : Nat)]) → Q (.ref t) H'
set_option maxHeartbeats 4000000 in
theorem ok__law_root (Z : Tx K mg) : FnG P w K mg base CX0 3 Z.a__law_root Z.d__law_root ["free"] (sp__law_root K) := by
  refine funG Z.F__law_root sc__law_root (fun vs H Q E h => ?_) (fun cdv A outer s H vs Q E gg rm h => ?_)
  · obtain ⟨l, rfl, ha, hf, hl, q⟩ := h; rfl
  · obtain ⟨l, rfl, ha, hf, hl, q⟩ := h
    refine ⟨_,
      (pss_cons (ps_set (i := 1) sc__law_root.nd rfl (.inl rfl) pe_int)
      (pss_cons (ps_for PassesOwn.never rfl (pi_range1 (by rfl) Z.n_range (pa_cons (pe_op op_fdivW (pe_callB (call_lenK K) (by rfl) Z.n_len PySem.boot_len (pa_cons (pv 0) pa_nil)) pe_int) pa_nil)) (pg_name (i := 2) sc__law_root.nd rfl (.inl rfl))
        (pss_one (ps_if (PW.pt (pw_and (pt_cmpR (op_eqK K (hu_of64 rm)) (pv 1) (pv 2) (nomark _)) (pw_and1 (pt_cmpR (op_eqK K (hu_of64 rm)) (pe_ix (ix_K K) (pv 0) (pv 2) (fun _ _ => rfl)) (pe_callG gg (ok__law_flip Z) (rm.mono (by decide)) (by rfl) Z.g__law_flip Z.F__law_flip.kp Z.b__law_flip .nil pass0 (pa_cons (pe_ix (ix_K K) (pv 0) (pe_op op_sub (pe_un un_neg pe_int) (pv 2)) (fun _ _ => rfl)) pa_nil)) (nomark _)))))
          (pss_one (ps_set (i := 1) sc__law_root.nd rfl (.inl rfl) (pe_op (op_addK K) (pv 2) pe_int)))
          pss_nil)))
      (pss_cons (ps_par (i := 3) (j := 4) (by rfl) sc__law_root.nd rfl rfl (by decide) rfl rfl (pa_cons (pe_slice (sl_K K) (pv 0) po_none (po_some (pv 1))) (pa_cons (pe_slice (sl_K K) (pv 0) (po_some (pv 1)) (po_some (pe_op op_sub (pe_callB (call_lenK K) (by rfl) Z.n_len PySem.boot_len (pa_cons (pv 0) pa_nil)) (pv 1)))) pa_nil)) (by rfl))
      (pss_cons (ps_for PassesOwn.never rfl (pi_range2 (by rfl) Z.n_range (pa_cons pe_int (pa_cons (pe_op (op_addK K) (pe_callB (call_lenK K) (by rfl) Z.n_len PySem.boot_len (pa_cons (pv 4) pa_nil)) pe_int) pa_nil))) (pg_name (i := 5) sc__law_root.nd rfl (.inl rfl))
        (pss_one (ps_if (PW.pt (pw_and (pt_cmpR (op_eqK K (hu_of64 rm)) (pe_op op_modN (pe_callTy call_intG (by rfl) Z.n_int (by decide +kernel) (pa_cons (pe_callB (call_lenK K) (by rfl) Z.n_len PySem.boot_len (pa_cons (pv 4) pa_nil)) pa_nil)) (pv 5)) pe_int (nomark _)) (pw_and1 (pt_cmpR (op_eqK K (hu_of64 rm)) (pe_op op_mulG (pe_slice (sl_K K) (pv 4) po_none (po_some (pv 5))) (pe_op op_fdivW (pe_callB (call_lenK K) (by rfl) Z.n_len PySem.boot_len (pa_cons (pv 4) pa_nil)) (pv 5))) (pv 4) (nomark _)))))
          (pss_one (ps_ret (pe_tup (pa_cons (pe_op (op_addK K) (pe_op (op_addK K) (pv 3) (pe_slice (sl_K K) (pv 4) po_none (po_some (pv 5)))) (pe_callG gg (ok__law_back Z) rm (by rfl) Z.g__law_back Z.F__law_back.kp Z.b__law_back .nil pass0 (pa_cons (pv 3) pa_nil))) (pa_cons (pe_op op_fdivW (pe_callB (call_lenK K) (by rfl) Z.n_len PySem.boot_len (pa_cons (pv 4) pa_nil)) (pv 5)) pa_nil)))))
          pss_nil)))
      (pss_one (ps_ret (pe_tup (pa_cons (pe_strL (l := []) (by decide +kernel)) (pa_cons pe_int pa_nil))))))))), ?_⟩
    rw [show L2.start N__law_root [T l] = [some (T l), none, none, none, none, none] from rfl]
    have hcs := csize_le l
    obtain ⟨hc1, hc2⟩ := csize_spec l
    walk_at "go"
    refine r_goR1 (by omega) ?_
    refine for_known (known_rng 0 _) (fun i σ H' => ∃ (k : Nat) (x : Option V), σ = [some (T l), some (.int (k : Int)), x, none, none, none] ∧ k = min i (csize l) ∧ Same H H') ⟨0, none, rfl, by omega, Same.refl _⟩ (fun _ _ _ _ _ => trivial) ?_ ?_
    · rintro i σ H' hi ⟨k, x, rfl, hk, sm⟩
      rw [Int.zero_add]
      have hi2 : 2 * i + 1 < l.length := by omega
      walk_at "go"
      refine r_ifd (fun c => ?_) (fun c => ?_)
      · have eki : k = i := by omega
        walk_at "go"
        refine r_ixS (by omega) (at_nat (by omega) (by omega)) ?_
        walk_at "go"
        refine r_ixS (by omega) (at_neg (by omega)) ?_
        rw [Int.toNat_natCast]
        walk_at "go"
        have hrow := ha _ (getD_mem (show l.length - 1 - i < l.length by omega))
        refine ⟨_, rfl, hrow, ?_⟩
        walk_at "go"
        refine r_ifd (fun c1 => ?_) (fun c1 => ?_)
        · have hs : cstep l i := ⟨hi2, (List.cons.inj c1).1⟩
          have hlt : i < csize l := by
            rcases Nat.lt_or_ge i (csize l) with h | h
            · exact h
            · exact absurd (show cstep l (csize l) from (show i = csize l by omega) ▸ hs) hc2
          walk_at "go"
          exact ⟨i + 1, _, rfl, by omega, sm⟩
        · have hge : csize l ≤ i := by
            rcases Nat.lt_or_ge i (csize l) with h | h
            · exact absurd (by rw [(hc1 i h).2]) c1
            · exact h
          walk_at "go"
          exact ⟨k, _, rfl, by omega, sm⟩
      · walk_at "go"
        exact ⟨k, _, rfl, by omega, sm⟩
    rintro σ H1 ⟨k, x, rfl, hk, s1⟩
    have ek : k = csize l := by omega
    clear hk
    subst ek
    have hlr := core_join ha
    have hll := lead_len l
    have hgl := ring_len l
    have hbl := bak_len (lead l)
    have hroot : root1 l = lead l ++ (ring l).take (per (ring l)) ++ bak (lead l) := rfl
    have hrn : rootn l = (ring l).length / per (ring l) := rfl
    have hrow := ha.lead
    have hrn0 := ring_eq_nil ha hf
    walk_at "go"
    rw [show (l.length : Int) - (csize l : Int) = ((l.length - csize l : Nat) : Int) by omega, cut_to, cut_mid]
    rw [show l.take (csize l) = lead l from rfl, show (l.take (l.length - csize l)).drop (csize l) = ring l from rfl]
    generalize lead l = L at *
    generalize ring l = R at *
    walk_at "go"
    refine r_goR2 (by omega) ?_
    refine for_known (known_rng 1 _) (fun i σ H' => ∃ z : Option V, σ = [some (T l), some (.int (csize l : Nat)), x, some (T L), some (T R), z] ∧ Same H H' ∧ ∀ j, 0 < j → j ≤ i → ¬ (R.length % j = 0 ∧ repL (R.take j) (R.length / j) = R)) ⟨none, rfl, s1, fun j h1 h2 => by omega⟩ (fun _ _ _ _ _ => trivial) ?_ ?_
    · rintro i σ H2 hi ⟨z, rfl, s2, hn⟩
      have hi2 : i + 1 ≤ R.length := by omega
      rw [show (1 : Int) + (i : Int) = ((i + 1 : Nat) : Int) by omega]
      have hdiv : (R.length : Int) / ((i + 1 : Nat) : Int) = ((R.length / (i + 1) : Nat) : Int) := (Int.natCast_ediv _ _).symm
      have hml := Nat.mul_div_le R.length (i + 1)
      have htk : (R.take (i + 1)).length = i + 1 := by rw [List.length_take]; omega
      have hdl : R.length / (i + 1) ≤ R.length := Nat.div_le_self _ _
      have hmul : (R.take (i + 1)).length * (R.length / (i + 1)) ≤ R.length := by rw [htk]; exact hml
      have hfst := per_first (R := R) (k := i + 1) (by omega) hi2
      generalize hdN : R.length / (i + 1) = d at hdiv hdl hmul hfst
      walk_at "go"
      refine r_ifd (fun c => ?_) (fun c => ?_)
      · have hm : R.length % (i + 1) = 0 := by exact_mod_cast c
        walk_at "go"
        rw [cut_to, hdiv]
        refine r_mulS ⟨by omega, by omega, by rw [Int.toNat_natCast]; omega⟩ ?_
        rw [Int.toNat_natCast]
        walk_at "go"
        refine r_ifd (fun c2 => ?_) (fun c2 => ?_)
        · have hp : per R = i + 1 := hfst c2 fun j h1 h2 => hn j h1 (by omega)
          walk_at "go"
          rw [cut_to]
          walk_at "go"
          refine ⟨L, rfl, hrow, by omega, fun H3 s3 => ?_⟩
          walk_at "go"
          rw [hdiv]
          intro t nt
          generalize hh : upd _ t _ = H4
          obtain ⟨s4, e4⟩ := new_eq nt hh
          walk_at "go"
          refine q t H4 (s2.trans (s3.trans s4)) ?_
          rw [e4, hroot, hrn, hp, hdN]
        · walk_at "go"
          refine ⟨_, rfl, s2, fun j h1 h2 => ?_⟩
          by_cases e : j = i + 1
          · rw [e]; exact fun z => c2 (by have := z.2; rwa [hdN] at this)
          · exact hn j h1 (by omega)
      · walk_at "go"
        refine ⟨_, rfl, s2, fun j h1 h2 => ?_⟩
        by_cases e : j = i + 1
        · rw [e]; exact fun z => c (by exact_mod_cast z.1)
        · exact hn j h1 (by omega)
    · rintro σ H2 ⟨z, rfl, s2, hn⟩
      have hR0 : R = [] := per_none fun j h1 h2 => hn j h1 (by omega)
      have hl0 := hrn0.mp hR0
      walk_at "go"
      intro t nt
      generalize hh : upd _ t _ = H3
      obtain ⟨s3, e3⟩ := new_eq nt hh
      walk_at "go"
      refine q t H3 (s2.trans s3) ?_
      rw [e3, hl0, root1_nil, rootn_nil]; rfl
/-! ### _law_behind -/
def sp__law_behind (K : PySem.W.Frag) : Sp := fun vs H Q _ => ∃ (v u : V) (s : DS) (pr : Prt), vs = [v, u] ∧ StA H v s ∧ PrO H u pr ∧ pr ≠ .undo ∧ pr.ok ∧ Al s.a ∧ Told s.a s.rs ∧ WOk s ∧ ∀ t u1 u2 H', Same H H' → H' t = some (.tup [u1, u2]) → AnsO H' u1 (pbeh s pr).1 → StA H' u2 (pbeh s pr).2 → Q (.ref t) H'
set_option maxHeartbeats 4000000 in
theorem ok__law_behind (Z : Tx K mg) : FnG P w K mg base CX0 5 Z.a__law_behind Z.d__law_behind ["state", "parts"] (sp__law_behind K) := by
  refine funG Z.F__law_behind sc__law_behind (fun vs H Q E h => ?_) (fun cdv A outer s H vs Q E gg rm h => ?_)
  · obtain ⟨v, u, s0, pr, rfl, hv, hu, hpr, hok, ha, ht, hw, q⟩ := h; rfl
  · obtain ⟨v, u, s0, pr, rfl, hv, hu, hpr, hok, ha, ht, hw, q⟩ := h
    refine ⟨_,
      (pss_cons (ps_asg (pv 0) (pg_tupK (n := 3) K rfl (pgs_cons (pg_name (i := 2) sc__law_behind.nd rfl (.inr rfl)) (pgs_cons (pg_name (i := 3) sc__law_behind.nd rfl (.inl rfl)) (pgs_cons (pg_name (i := 4) sc__law_behind.nd rfl (.inl rfl)) pgs_nil)))))
      (pss_cons (ps_asg (pv 1) (pg_tupK (n := 2) K rfl (pgs_cons (pg_name (i := 5) sc__law_behind.nd rfl (.inl rfl)) (pgs_cons (pg_name (i := 6) sc__law_behind.nd rfl (.inl rfl)) pgs_nil))))
      (pss_cons (ps_if (pt_cmpR (op_eqK K (hu_of64 rm)) (pv 5) (pe_strL (l := [108, 101, 116, 116, 101, 114, 115]) (by decide +kernel)) (nomark _))
        (pss_one (ps_ret (pe_tup (pa_cons (pe_op (op_addK K) (pe_strL (l := [108, 101, 116, 116, 101, 114, 115, 32]) (by decide +kernel)) (pe_callTy call_str_int (by rfl) Z.n_str (by decide +kernel) (pa_cons (pe_callB (call_lenK K) (by rfl) Z.n_len PySem.boot_len (pa_cons (pv 6) pa_nil)) pa_nil))) (pa_cons (pe_tup (pa_cons (pv 6) (pa_cons (pe_tup pa_nil) (pa_cons (pe_strL (l := []) (by decide +kernel)) pa_nil)))) pa_nil)))))
        pss_nil)
      (pss_cons (ps_if (PW.pt (pw_and (pt_cmpR (op_inK K) (pv 5) (pe_tup (pa_cons (pe_strL (l := [116, 101, 108, 108]) (by decide +kernel)) (pa_cons (pe_strL (l := [114, 111, 119]) (by decide +kernel)) pa_nil))) (by rfl)) (pw_and1 (pt_cmpR (op_neK K (hu_of64 rm)) (pe_lc (own := [("sign", 9)]) (g := gName 9)  rfl sc__law_behind.nd (pi_K K (pv 6)) (blkOk_by (N := N__law_behind) (sc := defScope s__law_behind) (by decide +kernel)) (fun _ _ _ _ _ => pg_name (i := 9) sc__law_behind.nd rfl (Or.inl rfl)) (fun _ _ _ _ _ => (pts_one (pt_cmpR (op_notInK K) (pe_bm0K K PySem.F.plainAttrs_str PySem.F.slot_str_lower PySem.F.type_str_lower mt_lowL (pv 9)) (pv 2) (by rfl)))) (fun _ _ _ _ _ => (pv 9))) (pe_lst pa_nil) (nomark _)))))
        (pss_one (ps_ret (pe_tup (pa_cons (pe_tup (pa_cons (pe_strL (l := [114, 111, 119]) (by decide +kernel)) (pa_cons pe_non pa_nil))) (pa_cons (pv 0) pa_nil)))))
        pss_nil)
      (pss_cons (ps_if (PW.pt (pw_and (pt_cmpR (op_eqK K (hu_of64 rm)) (pv 5) (pe_strL (l := [116, 101, 108, 108]) (by decide +kernel)) (nomark _)) (pw_and1 (pt_not (pt_truK K (pe_callG gg (ok__law_fits Z) rm (by rfl) Z.g__law_fits Z.F__law_fits.kp Z.b__law_fits .nil pass0 (pa_cons (pv 6) (pa_cons (pv 3) pa_nil))) (by intro _; rfl))))))
        (pss_one (ps_ret (pe_tup (pa_cons (pe_tup (pa_cons (pe_strL (l := [114, 111, 119, 115]) (by decide +kernel)) (pa_cons (pe_callB (call_lenK K) (by rfl) Z.n_len PySem.boot_len (pa_cons (pv 3) pa_nil)) pa_nil))) (pa_cons (pv 0) pa_nil)))))
        pss_nil)
      (pss_cons (ps_if (pt_cmpR (op_eqK K (hu_of64 rm)) (pv 5) (pe_strL (l := [116, 101, 108, 108]) (by decide +kernel)) (nomark _))
        (pss_one (ps_ret (pe_tup (pa_cons (pe_op (op_addK K) (pe_strL (l := [114, 111, 119, 115, 32]) (by decide +kernel)) (pe_callTy call_str_int (by rfl) Z.n_str (by decide +kernel) (pa_cons (pe_op (op_addK K) (pe_callB (call_lenK K) (by rfl) Z.n_len PySem.boot_len (pa_cons (pv 3) pa_nil)) pe_int) pa_nil))) (pa_cons (pe_tup (pa_cons (pv 2) (pa_cons (pe_op (op_addK K) (pv 3) (pe_tup (pa_cons (pv 6) pa_nil))) (pa_cons (pv 4) pa_nil)))) pa_nil)))))
        pss_nil)
      (pss_cons (ps_if (PW.pt (pw_and (pt_cmpR (op_eqK K (hu_of64 rm)) (pv 5) (pe_strL (l := [100, 114, 111, 112]) (by decide +kernel)) (nomark _)) (pw_and1 (pt_cmpR op_geG (pv 6) (pe_callB (call_lenK K) (by rfl) Z.n_len PySem.boot_len (pa_cons (pv 3) pa_nil)) (nomark _)))))
        (pss_one (ps_ret (pe_tup (pa_cons (pe_tup (pa_cons (pe_strL (l := [105, 110, 100, 101, 120]) (by decide +kernel)) (pa_cons pe_non pa_nil))) (pa_cons (pv 0) pa_nil)))))
        pss_nil)
      (pss_cons (ps_if (pt_cmpR (op_eqK K (hu_of64 rm)) (pv 5) (pe_strL (l := [100, 114, 111, 112]) (by decide +kernel)) (nomark _))
        (pss_one (ps_ret (pe_tup (pa_cons (pe_op (op_addK K) (pe_strL (l := [114, 111, 119, 115, 32]) (by decide +kernel)) (pe_callTy call_str_int (by rfl) Z.n_str (by decide +kernel) (pa_cons (pe_op op_sub (pe_callB (call_lenK K) (by rfl) Z.n_len PySem.boot_len (pa_cons (pv 3) pa_nil)) pe_int) pa_nil))) (pa_cons (pe_tup (pa_cons (pv 2) (pa_cons (pe_op (op_addK K) (pe_slice (sl_K K) (pv 3) po_none (po_some (pv 6))) (pe_slice (sl_K K) (pv 3) (po_some (pe_op (op_addK K) (pv 6) pe_int)) po_none)) (pa_cons (pv 4) pa_nil)))) pa_nil)))))
        pss_nil)
      (pss_cons (ps_if (pt_cmpR (op_eqK K (hu_of64 rm)) (pv 5) (pe_strL (l := [114, 111, 119]) (by decide +kernel)) (nomark _))
        (pss_one (ps_ret (pe_tup (pa_cons (pe_op (op_addK K) (pe_strL (l := [114, 111, 119, 32]) (by decide +kernel)) (pe_callG gg (ok__law_short_text Z) (rm.mono (by decide)) (by rfl) Z.g__law_short_text Z.F__law_short_text.kp Z.b__law_short_text .nil pass0 (pa_cons (pe_callG gg (ok__law_least Z) (rm.mono (by decide)) (by rfl) Z.g__law_least Z.F__law_least.kp Z.b__law_least .nil pass0 (pa_cons (pv 6) pa_nil)) pa_nil))) (pa_cons (pe_tup (pa_cons (pv 2) (pa_cons (pv 3) (pa_cons (pe_callG gg (ok__law_least Z) (rm.mono (by decide)) (by rfl) Z.g__law_least Z.F__law_least.kp Z.b__law_least .nil pass0 (pa_cons (pv 6) pa_nil)) pa_nil)))) pa_nil)))))
        pss_nil)
      (pss_cons (ps_if (pt_cmpR (op_eqK K (hu_of64 rm)) (pv 5) (pe_strL (l := [114, 117, 108, 101, 115]) (by decide +kernel)) (nomark _))
        (pss_one (ps_ret (pe_tup (pa_cons (pe_callG gg (ok__law_rules_text Z) (rm.mono (by decide)) (by rfl) Z.g__law_rules_text Z.F__law_rules_text.kp Z.b__law_rules_text .nil pass0 (pa_cons (pv 0) pa_nil)) (pa_cons (pv 0) pa_nil)))))
        pss_nil)
      (pss_cons (ps_asg (pe_callG gg (ok__law_root Z) (rm.mono (by decide)) (by rfl) Z.g__law_root Z.F__law_root.kp Z.b__law_root .nil pass0 (pa_cons (pv 4) pa_nil)) (pg_tupK (n := 2) K rfl (pgs_cons (pg_name (i := 7) sc__law_behind.nd rfl (.inl rfl)) (pgs_cons (pg_name (i := 8) sc__law_behind.nd rfl (.inl rfl)) pgs_nil))))
      (pss_one (ps_ret (pe_tup (pa_cons (pe_op (op_addK K) (pe_op (op_addK K) (pe_callG gg (ok__law_short_text Z) (rm.mono (by decide)) (by rfl) Z.g__law_short_text Z.F__law_short_text.kp Z.b__law_short_text .nil pass0 (pa_cons (pv 7) pa_nil)) (pe_strL (l := [32]) (by decide +kernel))) (pe_callTy call_str_int (by rfl) Z.n_str (by decide +kernel) (pa_cons (pv 8) pa_nil))) (pa_cons (pv 0) pa_nil)))))))))))))))), ?_⟩
    rw [show L2.start N__law_behind [v, u] = [some (v), some (u), none, none, none, none, none, none, none, none] from rfl]
    have hv0 := hv
    have hal := ha.1
    have hal2 := ha.2.1
    have h6 := ht.1
    obtain ⟨p, ptv, rfl, ep, etv⟩ := hv
    have htv := TupV.of (K := K) etv
    have htq := htv.sq
    obtain ⟨p2, rfl, ep2⟩ := hu
    cases pr with
    | undo => exact absurd rfl hpr
    | rules =>
      simp only [Prt.way, Prt.val] at ep2
      walk_at "go"
      intro t1 nt1
      generalize hh : upd _ t1 _ = H1
      obtain ⟨s1, e1⟩ := new_eq nt1 hh
      walk_at "go"
      refine r_ninTStr (ss := [mkS [116, 101, 108, 108], mkS [114, 111, 119]]) (SqT.of e1) (by decide +kernel) ?_
      walk_at "go"
      refine ⟨_, s0, rfl, hv0.same s1, ha, ht, fun H2 s2 => ?_⟩
      walk_at "go"
      intro t3 nt3
      generalize hh : upd _ t3 _ = H3
      obtain ⟨s3, e3⟩ := new_eq nt3 hh
      walk_at "go"
      have s13 := s1.trans (s2.trans s3)
      exact q t3 _ _ H3 s13 e3 rfl (hv0.same s13)
    | root =>
      simp only [Prt.way, Prt.val] at ep2
      walk_at "go"
      intro t1 nt1
      generalize hh : upd _ t1 _ = H1
      obtain ⟨s1, e1⟩ := new_eq nt1 hh
      walk_at "go"
      refine r_ninTStr (ss := [mkS [116, 101, 108, 108], mkS [114, 111, 119]]) (SqT.of e1) (by decide +kernel) ?_
      have hwl := hw.2.2
      walk_at "go"
      refine ⟨s0.w, rfl, hw.1.row ha, hw.2.1, by omega, fun t2 H2 s2 e2 => ?_⟩
      have hrn : rootn s0.w ≤ 300 := by
        by_cases c : s0.w = []
        · rw [c, rootn_nil]; omega
        · have := rootn_le (f := s0.w) (hw.1.row ha) hw.2.1 c
          omega
      have hr1 := root1_len s0.w
      have hsl := short_len3 (r := root1 s0.w) (by omega)
      have hdl : (dec (rootn s0.w)).length ≤ 3 := dec_len (by decide) (by omega)
      refine r_gtup (SqT.of e2) rfl ?_
      walk_at "go"
      refine ⟨_, rfl, by omega, fun H3 s3 => ?_⟩
      walk_at "go"
      refine ⟨log_small (by omega), ?_⟩
      rw [str_dec]
      walk_at "go"
      intro t4 nt4
      generalize hh : upd _ t4 _ = H4
      obtain ⟨s4, e4⟩ := new_eq nt4 hh
      walk_at "go"
      have s14 := s1.trans (s2.trans (s3.trans s4))
      refine q t4 _ _ H4 s14 e4 ?_ (hv0.same s14)
      show _ = T (rootT s0.w)
      unfold rootT
      rw [red_free hw.2.1 (hw.1.row ha)]
    | ord o =>
      cases o with
      | letters b =>
        simp only [Prt.way, Prt.val, Ord.word, Ord.val] at ep2
        have hb : b.length ≤ 4 := hok.2.1
        have hdl := dec_short (n := b.length) (by omega)
        walk_at "go"
        refine ⟨log_small (by omega), ?_⟩
        rw [str_dec]
        walk_at "go"
        intro t1 nt1
        generalize hh : upd _ t1 _ = H1
        obtain ⟨s1, e1⟩ := new_eq nt1 hh
        walk_at "go"
        intro t2 nt2
        generalize hh : upd _ t2 _ = H2
        obtain ⟨s2, e2⟩ := new_eq nt2 hh
        walk_at "go"
        intro t3 nt3
        generalize hh : upd _ t3 _ = H3
        obtain ⟨s3, e3⟩ := new_eq nt3 hh
        walk_at "go"
        exact q t3 _ _ H3 (s1.trans (s2.trans s3)) e3 rfl ⟨t2, t1, rfl, s3 _ _ e2, (s2.trans s3) _ _ e1⟩
      | drop n =>
        simp only [Prt.way, Prt.val, Ord.word, Ord.val] at ep2
        walk_at "go"
        intro t1 nt1
        generalize hh : upd _ t1 _ = H1
        obtain ⟨s1, e1⟩ := new_eq nt1 hh
        walk_at "go"
        refine r_ninTStr (ss := [mkS [116, 101, 108, 108], mkS [114, 111, 119]]) (SqT.of e1) (by decide +kernel) ?_
        have htq1 := (htv.same s1).sq
        have etv1 := s1 _ _ etv
        walk_at "go"
        rw [List.length_map]
        refine r_ifd (fun c => ?_) (fun c => ?_)
        · have hno : ¬ n < s0.rs.length := by omega
          walk_at "go"
          intro t5 nt5
          generalize hh : upd _ t5 _ = H5
          obtain ⟨s5, e5⟩ := new_eq nt5 hh
          walk_at "go"
          intro t6 nt6
          generalize hh : upd _ t6 _ = H6
          obtain ⟨s6, e6⟩ := new_eq nt6 hh
          walk_at "go"
          have s06 := s1.trans (s5.trans s6)
          refine q t6 _ _ H6 s06 e6 ?_ ?_
          · simp only [pbeh, obeh, if_neg hno]
            exact ⟨t5, rfl, s6 _ _ e5⟩
          · simp only [pbeh, obeh, if_neg hno]
            exact hv0.same s06
        · have hlt : n < s0.rs.length := by omega
          have hdl := dec_short (n := s0.rs.length - 1) (by omega)
          walk_at "go"
          rw [List.length_map, show ((s0.rs.length : Nat) : Int) - 1 = ((s0.rs.length - 1 : Nat) : Int) by omega]
          refine ⟨log_small (by omega), ?_⟩
          rw [str_dec]
          walk_at "go"
          refine r_slTto etv1 fun p3 H3 s3 e3 => ?_
          walk_at "go"
          rw [show (n : Int) + 1 = ((n + 1 : Nat) : Int) by omega]
          refine r_slTfr (s3 _ _ etv1) fun p4 H4 s4 e4 => ?_
          refine r_addTt (s4 _ _ e3) e4 (by simp; omega) fun d H6 s6 e6 => ?_
          walk_at "go"
          intro t7 nt7
          generalize hh : upd _ t7 _ = H7
          obtain ⟨s7, e7⟩ := new_eq nt7 hh
          walk_at "go"
          intro t8 nt8
          generalize hh : upd _ t8 _ = H8
          obtain ⟨s8, e8⟩ := new_eq nt8 hh
          walk_at "go"
          have s38 := s3.trans (s4.trans (s6.trans (s7.trans s8)))
          refine q t8 _ _ H8 (s1.trans s38) e8 ?_ ?_
          · simp only [pbeh, obeh, if_pos hlt]
            rfl
          · simp only [pbeh, obeh, if_pos hlt]
            exact ⟨t7, d, rfl, s8 _ _ e7, by rw [(s7.trans s8) _ _ e6, List.map_append, List.map_take, List.map_drop]⟩
      | tell l =>
        simp only [Prt.way, Prt.val, Ord.word, Ord.val] at ep2
        walk_at "go"
        intro t1 nt1
        generalize hh : upd _ t1 _ = H1
        obtain ⟨s1, e1⟩ := new_eq nt1 hh
        walk_at "go"
        refine r_inTStr (ss := [mkS [116, 101, 108, 108], mkS [114, 111, 119]]) (SqT.of e1) (by decide +kernel) ?_
        have htq1 := (htv.same s1).sq
        have hl1 : Row l := hok.1
        have hl2 := hok.2
        walk_at "go"
        refine lc_known (known_str l) (fun i => if decide (¬ (l.getD i 0 ∈ s0.a ++ s0.a.map up1)) = true then some (T [l.getD i 0]) else none) (by omega) (fun _ _ => trivial) (fun i H2 QT hi sm hk => ?_) (fun D H2 nD s2 eD => ?_)
        · have hc := hl1 _ (getD_mem hi)
          have hk1 := hk _ (Same.refl _)
          generalize l.getD i 0 = c at hk1 hc
          walk_at "go"
          refine r_map (Row.one hc).asc (by simp) ?_
          rw [show List.map lo1 [c] = [lo1 c] from rfl]
          walk_at "go"
          rw [decide_eq_decide.mpr (lo1_in ha hc)]
          refine r_ifnd (fun c3 => ?_) (fun c3 => ?_)
          · rw [if_pos (decide_eq_true c3)] at hk1
            walk_at "go"
            exact hk1
          · rw [if_neg (by rw [decide_eq_false (fun z => z c3)]; decide)] at hk1
            exact hk1
        rw [fm_get l (fun c => if decide (¬ (c ∈ s0.a ++ s0.a.map up1)) = true then some (T [c]) else none), fm_bad fun c => decide (¬ (c ∈ s0.a ++ s0.a.map up1))] at eD
        walk_at "go"
        intro e3 ne3
        generalize hh : upd _ e3 _ = H3
        obtain ⟨s3, ee3⟩ := new_eq ne3 hh
        walk_at "go"
        have hF : ∀ y ∈ (l.filter fun c => decide (¬ (c ∈ s0.a ++ s0.a.map up1))).map (fun c => [c]), Asc y := fun y hy => by
          obtain ⟨c, hc, rfl⟩ := List.mem_map.mp hy
          exact (Row.one (hl1 c (List.mem_filter.mp hc).1)).asc
        refine r_neLs (bs := []) (SqL.of (s3 _ _ eD)) (SqL.of ee3) hF (fun y hy => nomatch hy) ?_
        have s03 := s1.trans (s2.trans s3)
        have hbad := lo1_bad ha hl1
        walk_at "go"
        refine r_ifnd (fun c3 => ?_) (fun c3 => ?_)
        · have hno : ¬ RowOf s0.a l := fun z => c3 (by rw [hbad.mpr z]; rfl)
          walk_at "go"
          intro t5 nt5
          generalize hh : upd _ t5 _ = H5
          obtain ⟨s5, e5⟩ := new_eq nt5 hh
          walk_at "go"
          intro t6 nt6
          generalize hh : upd _ t6 _ = H6
          obtain ⟨s6, e6⟩ := new_eq nt6 hh
          walk_at "go"
          have s06 := s03.trans (s5.trans s6)
          refine q t6 _ _ H6 s06 e6 ?_ ?_
          · simp only [pbeh, obeh, if_neg hno]
            exact ⟨t5, rfl, s6 _ _ e5⟩
          · simp only [pbeh, obeh, if_neg hno]
            exact hv0.same s06
        have hro : RowOf s0.a l := hbad.mp (List.map_eq_nil_iff.mp c3)
        have tv3 := htv.same s03
        have tq3 := tv3.sq
        walk_at "go"
        refine ⟨.ref ptv, s0.a, l, s0.rs, rfl, tv3, ha, hro, by omega, ht, fun H4 s4 => ?_⟩
        have s04 := s03.trans s4
        have tv4 := tv3.same s4
        have tq4 := tv4.sq
        have etv4 := s04 _ _ etv
        cases hst : stB s0.a s0.rs l with
        | false =>
          walk_at "go"
          rw [List.length_map]
          intro t5 nt5
          generalize hh : upd _ t5 _ = H5
          obtain ⟨s5, e5⟩ := new_eq nt5 hh
          walk_at "go"
          intro t6 nt6
          generalize hh : upd _ t6 _ = H6
          obtain ⟨s6, e6⟩ := new_eq nt6 hh
          walk_at "go"
          have s06 := s04.trans (s5.trans s6)
          refine q t6 _ _ H6 s06 e6 ?_ ?_
          · simp only [pbeh, obeh, if_pos hro, if_neg (show ¬ stB s0.a s0.rs l = true by rw [hst]; decide)]
            exact ⟨t5, rfl, s6 _ _ e5⟩
          · simp only [pbeh, obeh, if_pos hro, if_neg (show ¬ stB s0.a s0.rs l = true by rw [hst]; decide)]
            exact hv0.same s06
        | true =>
          have hdl := dec_short (n := s0.rs.length + 1) (by omega)
          walk_at "go"
          rw [List.length_map, show ((s0.rs.length : Nat) : Int) + 1 = ((s0.rs.length + 1 : Nat) : Int) by omega]
          refine ⟨log_small (by omega), ?_⟩
          rw [str_dec]
          walk_at "go"
          intro t5 nt5
          generalize hh : upd _ t5 _ = H5
          obtain ⟨s5, e5⟩ := new_eq nt5 hh
          walk_at "go"
          refine r_addTt (s5 _ _ etv4) e5 (by simp; omega) fun d H6 s6 e6 => ?_
          walk_at "go"
          intro t7 nt7
          generalize hh : upd _ t7 _ = H7
          obtain ⟨s7, e7⟩ := new_eq nt7 hh
          walk_at "go"
          intro t8 nt8
          generalize hh : upd _ t8 _ = H8
          obtain ⟨s8, e8⟩ := new_eq nt8 hh
          walk_at "go"
          have s08 := s04.trans (s5.trans (s6.trans (s7.trans s8)))
          refine q t8 _ _ H8 s08 e8 ?_ ?_
          · simp only [pbeh, obeh, if_pos hro, if_pos hst]
            rfl
          · simp only [pbeh, obeh, if_pos hro, if_pos hst]
            exact ⟨t7, d, rfl, s8 _ _ e7, by rw [(s7.trans s8) _ _ e6, List.map_append]; rfl⟩
      | row l =>
        simp only [Prt.way, Prt.val, Ord.word, Ord.val] at ep2
        walk_at "go"
        intro t1 nt1
        generalize hh : upd _ t1 _ = H1
        obtain ⟨s1, e1⟩ := new_eq nt1 hh
        walk_at "go"
        refine r_inTStr (ss := [mkS [116, 101, 108, 108], mkS [114, 111, 119]]) (SqT.of e1) (by decide +kernel) ?_
        have htq1 := (htv.same s1).sq
        have hl1 : Row l := hok.1
        have hl2 := hok.2
        walk_at "go"
        refine lc_known (known_str l) (fun i => if decide (¬ (l.getD i 0 ∈ s0.a ++ s0.a.map up1)) = true then some (T [l.getD i 0]) else none) (by omega) (fun _ _ => trivial) (fun i H2 QT hi sm hk => ?_) (fun D H2 nD s2 eD => ?_)
        · have hc := hl1 _ (getD_mem hi)
          have hk1 := hk _ (Same.refl _)
          generalize l.getD i 0 = c at hk1 hc
          walk_at "go"
          refine r_map (Row.one hc).asc (by simp) ?_
          rw [show List.map lo1 [c] = [lo1 c] from rfl]
          walk_at "go"
          rw [decide_eq_decide.mpr (lo1_in ha hc)]
          refine r_ifnd (fun c3 => ?_) (fun c3 => ?_)
          · rw [if_pos (decide_eq_true c3)] at hk1
            walk_at "go"
            exact hk1
          · rw [if_neg (by rw [decide_eq_false (fun z => z c3)]; decide)] at hk1
            exact hk1
        rw [fm_get l (fun c => if decide (¬ (c ∈ s0.a ++ s0.a.map up1)) = true then some (T [c]) else none), fm_bad fun c => decide (¬ (c ∈ s0.a ++ s0.a.map up1))] at eD
        walk_at "go"
        intro e3 ne3
        generalize hh : upd _ e3 _ = H3
        obtain ⟨s3, ee3⟩ := new_eq ne3 hh
        walk_at "go"
        have hF : ∀ y ∈ (l.filter fun c => decide (¬ (c ∈ s0.a ++ s0.a.map up1))).map (fun c => [c]), Asc y := fun y hy => by
          obtain ⟨c, hc, rfl⟩ := List.mem_map.mp hy
          exact (Row.one (hl1 c (List.mem_filter.mp hc).1)).asc
        refine r_neLs (bs := []) (SqL.of (s3 _ _ eD)) (SqL.of ee3) hF (fun y hy => nomatch hy) ?_
        have s03 := s1.trans (s2.trans s3)
        have hbad := lo1_bad ha hl1
        walk_at "go"
        refine r_ifnd (fun c3 => ?_) (fun c3 => ?_)
        · have hno : ¬ RowOf s0.a l := fun z => c3 (by rw [hbad.mpr z]; rfl)
          walk_at "go"
          intro t5 nt5
          generalize hh : upd _ t5 _ = H5
          obtain ⟨s5, e5⟩ := new_eq nt5 hh
          walk_at "go"
          intro t6 nt6
          generalize hh : upd _ t6 _ = H6
          obtain ⟨s6, e6⟩ := new_eq nt6 hh
          walk_at "go"
          have s06 := s03.trans (s5.trans s6)
          refine q t6 _ _ H6 s06 e6 ?_ ?_
          · simp only [pbeh, obeh, if_neg hno]
            exact ⟨t5, rfl, s6 _ _ e5⟩
          · simp only [pbeh, obeh, if_neg hno]
            exact hv0.same s06
        have hro : RowOf s0.a l := hbad.mp (List.map_eq_nil_iff.mp c3)
        have tv3 := htv.same s03
        have tq3 := tv3.sq
        walk_at "go"
        refine ⟨l, rfl, hl1, by omega, fun H4 s4 => ?_⟩
        have hrd := red_len l
        have hsl := short_len3 (r := red l) (by omega)
        refine ⟨red l, rfl, by omega, fun H5 s5 => ?_⟩
        refine r_addS (by simp; omega) ?_
        walk_at "go"
        refine ⟨l, rfl, hl1, by omega, fun H6 s6 => ?_⟩
        walk_at "go"
        intro t7 nt7
        generalize hh : upd _ t7 _ = H7
        obtain ⟨s7, e7⟩ := new_eq nt7 hh
        walk_at "go"
        intro t8 nt8
        generalize hh : upd _ t8 _ = H8
        obtain ⟨s8, e8⟩ := new_eq nt8 hh
        walk_at "go"
        have s48 := s4.trans (s5.trans (s6.trans (s7.trans s8)))
        refine q t8 _ _ H8 (s03.trans s48) e8 ?_ ?_
        · simp only [pbeh, obeh, if_pos hro]
          rfl
        · simp only [pbeh, obeh, if_pos hro]
          exact ⟨t7, ptv, rfl, s8 _ _ e7, (s03.trans s48) _ _ etv⟩
/-! ### _law_next -/
def sp__law_next (K : PySem.W.Frag) : Sp := fun us H Q _ => ∃ (q : Addr) (v : V) (vs : List V) (ss : List DS) (s : DS) (pr : Prt), us = [.ref q, v] ∧ H q = some (.lst vs) ∧ Paired (StA H) vs (ss ++ [s]) ∧ PrO H v pr ∧ pr.ok ∧ Al s.a ∧ Told s.a s.rs ∧ WOk s ∧ ss.length ≤ 1000 ∧ ∀ due vs' H', Kx [q] H H' → H' q = some (.lst vs') → Paired (StA H') vs' ((bstp ss s pr).2.1 ++ [(bstp ss s pr).2.2]) → AnsO H' due (bstp ss s pr).1 → Q due H'
set_option maxHeartbeats 4000000 in
theorem ok__law_next (Z : Tx K mg) : FnG P w K mg base CX0 6 Z.a__law_next Z.d__law_next ["past", "parts"] (sp__law_next K) := by
  refine funG Z.F__law_next sc__law_next (fun vs H Q E h => ?_) (fun cdv A outer s H vs Q E gg rm h => ?_)
  · obtain ⟨q, v, vs, ss, s0, pr, rfl, eq, hps, hv, hok, hal, htd, hw, hsl, fin⟩ := h; rfl
  · obtain ⟨q, v, vs, ss, s0, pr, rfl, eq, hps, hv, hok, hal, htd, hw, hsl, fin⟩ := h
    refine ⟨_,
      (pss_cons (ps_if (pt_cmpR (op_eqK K (hu_of64 rm)) (pe_ix (ix_K K) (pv 1) pe_int (fun _ _ => rfl)) (pe_strL (l := [117, 110, 100, 111]) (by decide +kernel)) (nomark _))
        (pss_cons (ps_if (pt_cmpR (op_eqK K (hu_of64 rm)) (pe_callB (call_lenK K) (by rfl) Z.n_len PySem.boot_len (pa_cons (pv 0) pa_nil)) pe_int (nomark _))
          (pss_one (ps_ret (pe_tup (pa_cons (pe_strL (l := [117, 110, 100, 111]) (by decide +kernel)) (pa_cons pe_non pa_nil)))))
          pss_nil)
        (pss_cons (ps_expr (pe_bm0K K PySem.F.plainAttrs_list PySem.F.slot_list_pop PySem.F.type_list_pop mt_pop (pv 0)))
        (pss_one (ps_ret (pe_strL (l := [117, 110, 100, 111, 110, 101]) (by decide +kernel))))))
        pss_nil)
      (pss_cons (ps_asg (pe_callG gg (ok__law_behind Z) rm (by rfl) Z.g__law_behind Z.F__law_behind.kp Z.b__law_behind .nil pass0 (pa_cons (pe_ix (ix_K K) (pv 0) (pe_un un_neg pe_int) (fun _ _ => rfl)) (pa_cons (pv 1) pa_nil))) (pg_tupK (n := 2) K rfl (pgs_cons (pg_name (i := 2) sc__law_next.nd rfl (.inl rfl)) (pgs_cons (pg_name (i := 3) sc__law_next.nd rfl (.inl rfl)) pgs_nil))))
      (pss_cons (ps_if (PW.pt (pw_and (pt_cmpR (op_inK K) (pe_ix (ix_K K) (pv 1) pe_int (fun _ _ => rfl)) (pe_tup (pa_cons (pe_strL (l := [108, 101, 116, 116, 101, 114, 115]) (by decide +kernel)) (pa_cons (pe_strL (l := [116, 101, 108, 108]) (by decide +kernel)) (pa_cons (pe_strL (l := [100, 114, 111, 112]) (by decide +kernel)) (pa_cons (pe_strL (l := [114, 111, 119]) (by decide +kernel)) pa_nil))))) (by rfl)) (pw_and1 (pt_truK K (pe_callB (call_isXK K) (by rfl) Z.n_isinstance (by decide +kernel) (pa_cons (pv 2) (pa_cons (pe_bltn (v := .ty "str") (u := .type "str") (by rfl) Z.n_str (by decide +kernel) rfl) pa_nil))) (by intro _; rfl)))))
        (pss_one (ps_expr (pe_bmK K PySem.F.plainAttrs_list PySem.F.slot_list_append PySem.F.type_list_append mt_append (pv 0) (pa_cons (pv 3) pa_nil))))
        pss_nil)
      (pss_one (ps_ret (pv 2)))))), ?_⟩
    rw [show L2.start N__law_next [.ref q, v] = [some (.ref q), some (v), none, none] from rfl]
    obtain ⟨vs, vl, rfl, hps', hvl⟩ := paired_last hps
    have hlen : vs.length = ss.length := PySem.Paired.length hps'
    obtain ⟨tp, rfl, etp⟩ := id hv
    have hat : atI (vs ++ [vl]) (-1) = some vl := at_last (by simp)
    cases pr with
    | undo =>
      simp only [Prt.way, Prt.val] at etp
      walk_at "go"
      rcases List.eq_nil_or_concat ss with rfl | ⟨ss', s', rfl⟩
      · have hv0 : vs = [] := List.eq_nil_of_length_eq_zero (by rw [hlen]; rfl)
        subst hv0
        rw [decide_eq_true (by simp)]
        walk_at "go"
        intro t9 nt9
        generalize hh : upd _ t9 _ = H9
        obtain ⟨s9, e9⟩ := new_eq nt9 hh
        walk_at "go"
        rw [bstp_undo0] at fin
        exact fin _ _ _ (Kx.of s9) (s9 _ _ eq) (paired_sta hps (Kx.of (L := []) s9)) ⟨t9, rfl, e9⟩
      · rw [List.concat_eq_append] at *
        rw [decide_eq_false (by simp only [List.length_append, List.length_singleton] at hlen ⊢; omega)]
        walk_at "go"
        refine r_pop (v := vl) eq (by simp) ?_
        rw [List.dropLast_concat]
        walk_at "go"
        rw [bstp_undo1] at fin
        have k1 : Kx [q] H (upd H q (.lst vs)) := Kx.refl.putL eq (by simp)
        exact fin _ _ _ k1 upd_same (paired_sta hps' k1) rfl
    | rules =>
      simp only [Prt.way, Prt.val] at etp
      walk_at "go"
      refine r_ixL (SqL.of eq) hat ?_
      walk_at "go"
      refine ⟨vl, .ref tp, s0, .rules, rfl, hvl, hv, (fun z => nomatch z), hok, hal, htd, hw, fun t9 u1 u2 H9 s9 e9 ha9 hs9 => ?_⟩
      have etp9 := s9 _ _ etp
      have eq9 := s9 _ _ eq
      refine r_gtup (SqT.of e9) rfl ?_
      walk_at "go"
      intro t10 nt10
      generalize hh : upd _ t10 _ = H10
      obtain ⟨s10, e10⟩ := new_eq nt10 hh
      walk_at "go"
      refine r_ninTStr (ss := [mkS [108, 101, 116, 116, 101, 114, 115], mkS [116, 101, 108, 108], mkS [100, 114, 111, 112], mkS [114, 111, 119]]) (SqT.of e10) (by decide +kernel) ?_
      walk_at "go"
      have s810 := s9.trans s10
      exact fin _ _ _ (Kx.of s810) (s10 _ _ eq9) (paired_sta hps (Kx.of (L := []) s810)) (ha9.same s10)
    | root =>
      simp only [Prt.way, Prt.val] at etp
      walk_at "go"
      refine r_ixL (SqL.of eq) hat ?_
      walk_at "go"
      refine ⟨vl, .ref tp, s0, .root, rfl, hvl, hv, (fun z => nomatch z), hok, hal, htd, hw, fun t9 u1 u2 H9 s9 e9 ha9 hs9 => ?_⟩
      have etp9 := s9 _ _ etp
      have eq9 := s9 _ _ eq
      refine r_gtup (SqT.of e9) rfl ?_
      walk_at "go"
      intro t10 nt10
      generalize hh : upd _ t10 _ = H10
      obtain ⟨s10, e10⟩ := new_eq nt10 hh
      walk_at "go"
      refine r_ninTStr (ss := [mkS [108, 101, 116, 116, 101, 114, 115], mkS [116, 101, 108, 108], mkS [100, 114, 111, 112], mkS [114, 111, 119]]) (SqT.of e10) (by decide +kernel) ?_
      walk_at "go"
      have s810 := s9.trans s10
      exact fin _ _ _ (Kx.of s810) (s10 _ _ eq9) (paired_sta hps (Kx.of (L := []) s810)) (ha9.same s10)
    | ord o =>
      have hmem : mkS o.word ∈ [mkS [108, 101, 116, 116, 101, 114, 115], mkS [116, 101, 108, 108], mkS [100, 114, 111, 112], mkS [114, 111, 119]] := by cases o <;> simp [Ord.word]
      have hnu : ¬ o.word = [117, 110, 100, 111] := by cases o <;> simp [Ord.word]
      walk_at "go"
      refine r_ifd (fun c => absurd c hnu) (fun _ => ?_)
      walk_at "go"
      refine r_ixL (SqL.of eq) hat ?_
      walk_at "go"
      refine ⟨vl, .ref tp, s0, .ord o, rfl, hvl, hv, (fun z => nomatch z), hok, hal, htd, hw, fun t9 u1 u2 H9 s9 e9 ha9 hs9 => ?_⟩
      have etp9 := s9 _ _ etp
      have eq9 := s9 _ _ eq
      refine r_gtup (SqT.of e9) rfl ?_
      walk_at "go"
      intro t10 nt10
      generalize hh : upd _ t10 _ = H10
      obtain ⟨s10, e10⟩ := new_eq nt10 hh
      walk_at "go"
      refine r_inTStr (ss := [mkS [108, 101, 116, 116, 101, 114, 115], mkS [116, 101, 108, 108], mkS [100, 114, 111, 112], mkS [114, 111, 119]]) (SqT.of e10) hmem ?_
      have s810 := s9.trans s10
      have eq10 := s10 _ _ eq9
      have ha10 := ha9.same s10
      have hps10 := paired_sta hps (Kx.of (L := []) s810)
      have hb : bstp ss s0 (.ord o) = ((obeh s0 o).1, if (obeh s0 o).1.isT = true then ss ++ [s0] else ss, (obeh s0 o).2) := rfl
      rw [hb] at fin
      have hs10 : StA H10 u2 (obeh s0 o).2 := hs9.same s10
      replace ha10 : AnsO H10 u1 (obeh s0 o).1 := ha10
      have herr := obeh_err (s := s0) (o := o)
      generalize (obeh s0 o).1 = rr at *
      cases rr with
      | txt l =>
        obtain rfl := ha10
        walk_at "go"
        refine r_append eq10 (by rw [List.length_append, List.length_singleton]; omega) ?_
        walk_at "go"
        have k810 : Kx [q] H (upd H10 q (.lst (vs ++ [vl] ++ [u2]))) := (Kx.of s810).putL eq10 (by simp)
        have kk : Kx [q] H10 (upd H10 q (.lst (vs ++ [vl] ++ [u2]))) := Kx.refl.putL eq10 (by simp)
        exact fin _ _ _ k810 upd_same (paired_cat (paired_sta hps10 kk) (.cons (hs10.kx kk) .nil)) rfl
      | err l f =>
        have he := herr rfl
        rw [he] at fin
        obtain ⟨t11, rfl, e11⟩ := ha10
        walk_at "go"
        exact fin _ _ _ (Kx.of s810) eq10 hps10 ⟨t11, rfl, e11⟩
/-! ### _law_is -/
def sp__law_is (_ : PySem.W.Frag) : Sp := fun vs H Q _ => ∃ (u v : V) (r : Ans), vs = [u, v] ∧ AnsO H u r ∧ AnsO H v r ∧ r.ok ∧ ∀ H', Same H H' → Q (.bl true) H'
set_option maxHeartbeats 4000000 in
theorem ok__law_is (Z : Tx K mg) : FnG P w K mg base CX0 1 Z.a__law_is Z.d__law_is ["found", "due"] (sp__law_is K) := by
  refine funG Z.F__law_is sc__law_is (fun vs H Q E h => ?_) (fun cdv A outer s H vs Q E gg rm h => ?_)
  · obtain ⟨u, v, r, rfl, hu, hv, hr, q⟩ := h; rfl
  · obtain ⟨u, v, r, rfl, hu, hv, hr, q⟩ := h
    refine ⟨_,
      (pss_cons (ps_if (pt_truK K (pe_callB (call_isXK K) (by rfl) Z.n_isinstance (by decide +kernel) (pa_cons (pv 1) (pa_cons (pe_bltn (v := .ty "str") (u := .type "str") (by rfl) Z.n_str (by decide +kernel) rfl) pa_nil))) (by intro _; rfl))
        (pss_one (ps_ret (pe_andK K (pe_callB (call_isXK K) (by rfl) Z.n_isinstance (by decide +kernel) (pa_cons (pv 0) (pa_cons (pe_bltn (v := .ty "str") (u := .type "str") (by rfl) Z.n_str (by decide +kernel) rfl) pa_nil))) (pe_one (pe_cmpR (op_eqK K (hu_of64 rm)) (pv 0) (pv 1) (nomark _))))))
        pss_nil)
      (pss_one (ps_ret (pe_andK K (pe_callB (call_isXK K) (by rfl) Z.n_isinstance (by decide +kernel) (pa_cons (pv 0) (pa_cons (pe_bltn (v := .ty "tuple") (u := .type "tuple") (by rfl) Z.n_tuple (by decide +kernel) rfl) pa_nil))) (pe_one (pe_cmpR (op_eqK K (hu_of64 rm)) (pe_callB (call_reprDK K gg (hu_of64 rm)) (by rfl) Z.n_repr (by decide +kernel) (pa_cons (pv 0) pa_nil)) (pe_callB (call_reprDK K gg (hu_of64 rm)) (by rfl) Z.n_repr (by decide +kernel) (pa_cons (pv 1) pa_nil)) (nomark _))))))), ?_⟩
    rw [show L2.start N__law_is [u, v] = [some (u), some (v)] from rfl]
    cases r with
    | txt l =>
      obtain rfl := hu
      obtain rfl := hv
      walk_at "go"
      exact q _ (Same.refl _)
    | err l f =>
      obtain ⟨t1, rfl, e1⟩ := hu
      obtain ⟨t2, rfl, e2⟩ := hv
      obtain ⟨h1, h2, h3⟩ := hr
      walk_at "go"
      refine r_reprErr e1 h1 h2 h3 ?_
      walk_at "go"
      refine r_reprErr e2 h1 h2 h3 ?_
      refine r_eqStr ?_
      exact q _ (Same.refl _)
/-! ### Desk.turn_to -/
def sp_Desk_turn_to (K : PySem.W.Frag) : Sp := fun vs H Q _ => ∃ (x p r t : Addr) (w l : List Nat) (S : List (Addr × List Nat)), vs = [.ref x, .ref t, T l] ∧ DskO (cA K "Desk") H x p r w S ∧ S.length < 100000 ∧ ∀ H', Kx [x, p] H H' → DskO (cA K "Desk") H' x p t l (S ++ [(r, w)]) → Q .non H'
set_option maxHeartbeats 4000000 in
theorem ok_Desk_turn_to (Z : Tx K mg) : FnG P w K mg base CX0 1 Z.a_Desk_turn_to Z.d_Desk_turn_to ["self", "work", "word"] (sp_Desk_turn_to K) := by
  refine funG Z.F_Desk_turn_to sc_Desk_turn_to (fun vs H Q E h => ?_) (fun cdv A outer s H vs Q E gg rm h => ?_)
  · obtain ⟨x, p, r, t, w, l, S, rfl, hd, hS, q⟩ := h; rfl
  · obtain ⟨x, p, r, t, w, l, S, rfl, hd, hS, q⟩ := h
    refine ⟨_,
      (pss_cons (ps_expr (pe_bmK K PySem.F.plainAttrs_list PySem.F.slot_list_append PySem.F.type_list_append mt_append (pe_fld (pv 0) rfl) (pa_cons (pe_tup (pa_cons (pe_fld (pv 0) rfl) (pa_cons (pe_fld (pv 0) rfl) pa_nil))) pa_nil)))
      (pss_one (ps_asg (pe_tup (pa_cons (pv 1) (pa_cons (pv 2) pa_nil))) (pg_tupK (n := 2) K rfl (pgs_cons (pg_fld (pv 0)) (pgs_cons (pg_fld (pv 0)) pgs_nil)))))), ?_⟩
    rw [show L2.start N_Desk_turn_to [.ref x, .ref t, T l] = [some (.ref x), some (.ref t), some (T l)] from rfl]
    have hpx := hd.ne
    rw [cA_eq Z.ns_Desk] at hd q
    obtain ⟨dx, ts, e1, e2, hp⟩ := hd
    have htl : ts.length = S.length := PySem.Paired.length hp
    walk_at "go"
    refine r_fldI e1 Z.cl_Desk Z.na_Desk_past ds_past ?_
    walk_at "go"
    refine r_fldI e1 Z.cl_Desk Z.na_Desk_work ds_work ?_
    walk_at "go"
    refine r_fldI e1 Z.cl_Desk Z.na_Desk_word ds_word ?_
    walk_at "go"
    intro u nu
    generalize hh : upd _ u _ = H1
    obtain ⟨s1, eu⟩ := new_eq nu hh
    clear hh
    have e11 := s1 _ _ e1
    have e21 := s1 _ _ e2
    walk_at "go"
    refine r_append e21 (by omega) ?_
    walk_at "go"
    intro v nv
    generalize hh : upd H1 p _ = H2 at nv
    have k2 : Kx [x, p] H H2 := by rw [← hh]; exact (Kx.of s1).putL e21 (by simp)
    have e12 : H2 x = some (.ins Z.a_Desk dx (dsF p r w)) := by rw [← hh, upd_ne hpx.symm]; exact e11
    have e22 : H2 p = some (.lst (ts ++ [.ref u])) := by rw [← hh]; exact upd_same
    have eu2 : H2 u = some (.tup [.ref r, T w]) := by
      have k12 : Kx [x, p] H1 H2 := by rw [← hh]; exact Kx.refl.putL e21 (by simp)
      exact k12.2 _ _ eu
    clear hh
    generalize hh : upd H2 v _ = H3
    obtain ⟨s3, ev⟩ := new_eq nv hh
    clear hh
    have e13 := s3 _ _ e12
    have e23 := s3 _ _ e22
    refine r_gtup (SqT.of ev) rfl ?_
    walk_at "go"
    refine r_gfldI e13 Z.cl_Desk Z.na_Desk_work (by show 3 < 1000; decide) ?_
    rw [ds_put1]
    walk_at "go"
    refine r_gfldI upd_same Z.cl_Desk Z.na_Desk_word (by show 3 < 1000; decide) ?_
    rw [ds_put2]
    walk_at "go"
    have k34 : Kx [x, p] H3 (upd (upd H3 x (.ins Z.a_Desk dx (dsF p t w))) x (.ins Z.a_Desk dx (dsF p t l))) := (Kx.refl.putI e13 (by simp)).putI upd_same (by simp)
    have k4 := k2.trans ((Kx.of s3).trans k34)
    exact q _ k4 ⟨dx, ts ++ [.ref u], upd_same, by rw [upd_ne hpx, upd_ne hpx]; exact e23, paired_cat (L2.Paired.mapP hp fun _ _ z => z.kx k4) (.cons ⟨u, rfl, k34.2 _ _ (s3 _ _ eu2)⟩ .nil)⟩
/-! ### Desk.letters_told X -/
def spx_Desk_letters_told (K : PySem.W.Frag) : Sp := fun vs H Q E => ∃ (x p r : Addr) (w l : List Nat) (S : List (Addr × List Nat)), vs = [.ref x, T l] ∧ DskO (cA K "Desk") H x p r w S ∧ S.length < 100000 ∧ l.length ≤ 5000 ∧
  ((Al l ∧ ∀ y H', H y = none → Kx [x, p] H H' → RulO K (cA K "Rules") H' y l [] → DskO (cA K "Desk") H' x p y [] (S ++ [(r, w)]) → Q (T ([108, 101, 116, 116, 101, 114, 115, 32] ++ dec l.length)) H') ∨ (¬ Al l ∧ ∀ H', Same H H' → E (.ref (cA K "NoOrder")) none H'))
set_option maxHeartbeats 4000000 in
theorem okx_Desk_letters_told (Z : Tx K mg) : FnG P w K mg base (L2.CX P w) 7 Z.a_Desk_letters_told Z.d_Desk_letters_told ["self", "words"] (spx_Desk_letters_told K) := by
  refine funGX Z.F_Desk_letters_told sc_Desk_letters_told (fun vs H Q E h => ?_) (fun cdv A outer s H vs Q E gg rm h => ?_)
  · obtain ⟨x, p, r, w, l, S, rfl, hd, hS, hl, hq⟩ := h; rfl
  · obtain ⟨x, p, r, w, l, S, rfl, hd, hS, hl, hq⟩ := h
    refine ⟨_,
      (pss_cons (ps_if (pt_not (pt_truK K (pe_callG gg (ok_are_letters Z) (rm.mono (by decide)) (by rfl) Z.g_are_letters Z.F_are_letters.kp Z.b_are_letters .nil pass0 (pa_cons (pv 1) pa_nil)) (by intro _; rfl)))
        (pss_one (ps_rz rfl (takes_of rfl rfl rfl rfl) ⟨Z.xx_NoOrder, Z.xa_NoOrder.k, Z.xa_NoOrder.b, Z.xa_NoOrder.t⟩ Z.gc_NoOrder (by rfl) (pa_cons (pe_strL (l := [116, 104, 101, 114, 101, 32, 105, 115, 32, 110, 111, 32, 115, 117, 99, 104, 32, 111, 114, 100, 101, 114]) (by decide +kernel)) pa_nil)))
        pss_nil)
      (pss_cons (ps_expr (pe_methX gg (pv 0) Z.cl_Desk Z.me_Desk_turn_to (ok_Desk_turn_to Z) (rm.mono (by decide)) Z.b_Desk_turn_to .nil (fun _ => pass0S) (pa_cons (pe_makeGD gg Z.mk_Rules (ok_Rules_init Z) rm (by rfl) Z.gc_Rules (bd_Rules_init_2 Z) pass0 (pa_cons (pv 1) pa_nil)) (pa_cons (pe_strL (l := []) (by decide +kernel)) pa_nil))))
      (pss_one (ps_ret (pe_joined (PJ.cons (pe_strL (l := [108, 101, 116, 116, 101, 114, 115, 32]) (by decide +kernel)) (PJ.cons (pe_fmt (pe_callB (call_lenK K) (by rfl) Z.n_len PySem.boot_len (pa_cons (pv 1) pa_nil))) PJ.nil))))))), ?_⟩
    rw [show L2.start N_Desk_letters_told [.ref x, T l] = [some (.ref x), some (T l)] from rfl]
    have hC := cA_eq Z.ns_Rules
    walk_at "go"
    refine ⟨_, rfl, .inl ⟨l, rfl, hl, fun H1 s1 => ?_⟩⟩
    rcases hq with ⟨ha, q⟩ | ⟨ha, q⟩
    · rw [decide_eq_true ha]
      have hd1 := hd.same s1
      obtain ⟨dx, ex⟩ := hd1.ins
      rw [cA_eq Z.ns_Desk] at ex
      have hl4 := ha.2.1
      walk_at "go"
      refine r_methI ex (lk3 (by decide +kernel) (by decide +kernel) (by decide +kernel)) ?_
      walk_at "go"
      refine spRul_new (rs := []) hC Z.dv_Rules_init.tv ha (told_nil _) fun y H2 ny s2 hy => ?_
      have hd2 := hd1.same s2
      obtain ⟨ps, ep⟩ := hd2.lst
      walk_at "go"
      have hyx := hy.ne_dsk hd2
      have hyp := hy.ne_lst ep
      refine ⟨x, p, r, y, w, [], S, rfl, hd2, hS, fun H3 k3 d3 => ?_⟩
      walk_at "go"
      refine r_jsT (by have := dec_short (n := l.length) (by omega); simp; omega) ?_
      exact q y _ (s1.free ny) ((Kx.of (s1.trans s2)).trans k3) (hy.kx k3 (by simp [hyx, hyp])) d3
    · rw [decide_eq_false ha]
      walk_at "go"
      rw [← cA_eq Z.ns_NoOrder]
      exact q _ s1
/-! ### digits_at -/
def sp_digits_at (_ : PySem.W.Frag) : Sp := fun vs H Q _ => ∃ (l : List Nat) (p : Nat), vs = [T l, .int (p : Nat)] ∧ p ≤ l.length ∧ l.length ≤ 100000 ∧ Q (T ((l.drop p).takeWhile dig)) H
set_option maxHeartbeats 4000000 in
theorem ok_digits_at (Z : Tx K mg) : FnG P w K mg base CX0 1 Z.a_digits_at Z.d_digits_at ["text", "place"] (sp_digits_at K) := by
  refine funG Z.F_digits_at sc_digits_at (fun vs H Q E h => ?_) (fun cdv A outer s H vs Q E gg rm h => ?_)
  · obtain ⟨l, p, rfl, hp, hl, q⟩ := h; rfl
  · obtain ⟨l, p, rfl, hp, hl, q⟩ := h
    refine ⟨_,
      (pss_cons (ps_set (i := 2) sc_digits_at.nd rfl (.inl rfl) (pv 1))
      (pss_cons (ps_while PassesOwn.never (PW.pt (pw_and (pt_cmpR op_ltG (pv 2) (pe_callB (call_lenK K) (by rfl) Z.n_len PySem.boot_len (pa_cons (pv 0) pa_nil)) (nomark _)) (pw_and1 (pt_cmpR (op_inK K) (pe_ix (ix_K K) (pv 0) (pv 2) (fun _ _ => rfl)) (pe_glob (v := .str k_DIGITS) (by rfl) Z.g_DIGITS ⟨_, rfl⟩) (by rfl)))))
        (pss_one (ps_set (i := 2) sc_digits_at.nd rfl (.inl rfl) (pe_op (op_addK K) (pv 2) pe_int))))
      (pss_one (ps_ret (pe_slice (sl_K K) (pv 0) (po_some (pv 1)) (po_some (pv 2))))))), ?_⟩
    rw [show L2.start N_digits_at [T l, .int (p : Nat)] = [some (T l), some (.int (p : Nat)), none] from rfl]
    walk_at "go"
    refine r_while (fun m σ H' => ∃ k : Nat, σ = [some (T l), some (.int (p : Nat)), some (.int (k : Nat))] ∧ m + k = l.length ∧ H' = H ∧ p ≤ k ∧ ∀ i, p ≤ i → i < k → dig (l.getD i 0) = true) (l.length - p) ⟨p, rfl, by omega, rfl, Nat.le_refl _, fun i h1 h2 => absurd h1 (by omega)⟩ ?_
    rintro m σ H' ⟨k, rfl, hm, rfl, hk, hall⟩
    walk_at "go"
    refine r_ifd (fun c1 => ?_) (fun c1 => ?_)
    · walk_at "go"
      refine r_ixS (by omega) (at_nat (by omega) (by omega)) ?_
      rw [Int.toNat_natCast]
      walk_at "go"
      refine r_ifd (fun c => ?_) (fun c => ?_)
      · walk_at "go"
        refine ⟨m - 1, by omega, k + 1, rfl, by omega, rfl, by omega, fun i h1 h2 => ?_⟩
        by_cases e : i = k
        · rw [e]; exact in_digs.mp c
        · exact hall i h1 (by omega)
      · walk_at "go"
        rw [cut_mid, ← tw_at hk (by omega) hall (.inr (by cases e : dig (l.getD k 0) with | false => rfl | true => exact absurd (in_digs.mpr e) c))]
        exact q
    · walk_at "go"
      rw [cut_mid, ← tw_at hk (by omega) hall (.inl (by omega))]
      exact q
/-! ### number_in -/
def sp_number_in (_ : PySem.W.Frag) : Sp := fun vs H Q _ => ∃ d : List Nat, vs = [T d] ∧ d.length ≤ 600 ∧ ∀ H', Same H H' → Q (oV (numL d)) H'
set_option maxHeartbeats 4000000 in
theorem ok_number_in (Z : Tx K mg) : FnG P w K mg base CX0 1 Z.a_number_in Z.d_number_in ["text"] (sp_number_in K) := by
  refine funG Z.F_number_in sc_number_in (fun vs H Q E h => ?_) (fun cdv A outer s H vs Q E gg rm h => ?_)
  · obtain ⟨d, rfl, hl, q⟩ := h; rfl
  · obtain ⟨d, rfl, hl, q⟩ := h
    refine ⟨_,
      (pss_cons (ps_if (PW.pt (pw_or (pt_cmpR (op_eqK K (hu_of64 rm)) (pv 0) (pe_strL (l := []) (by decide +kernel)) (nomark _)) (pw_or1 (pt_not (pt_truK K (pe_callB (cr_allK K rfl) (by rfl) Z.n_all (by decide +kernel) (pa_cons (pe_lc (own := [("sign", 1)]) (g := gName 1) (tt := tYes) rfl sc_number_in.nd (pi_K K (pv 0)) (blkOk_by (N := N_number_in) (sc := defScope s_number_in) (by decide +kernel)) (fun _ _ _ _ _ => pg_name (i := 1) sc_number_in.nd rfl (Or.inl rfl)) (fun _ _ _ _ _ => pts_nil) (fun _ _ _ _ _ => (pe_cmpR (op_inK K) (pv 1) (pe_glob (v := .str k_DIGITS) (by rfl) Z.g_DIGITS ⟨_, rfl⟩) (by rfl)))) pa_nil)) (by intro _; rfl))))))
        (pss_one (ps_ret pe_non))
        pss_nil)
      (pss_one (ps_ret (pe_ifExp (PW.pt (pw_or (pt_cmpR (op_eqK K (hu_of64 rm)) (pv 0) (pe_strL (l := [48]) (by decide +kernel)) (nomark _)) (pw_or1 (pt_cmpR (op_neK K (hu_of64 rm)) (pe_ix (ix_K K) (pv 0) pe_int (fun _ _ => rfl)) (pe_strL (l := [48]) (by decide +kernel)) (nomark _))))) (pe_callTy call_intG (by rfl) Z.n_int (by decide +kernel) (pa_cons (pv 0) pa_nil)) pe_non)))), ?_⟩
    rw [show L2.start N_number_in [T d] = [some (T d), none] from rfl]
    unfold numL at q
    walk_at "go"
    refine r_ifd (fun c => ?_) (fun c => ?_)
    · rw [if_pos (.inl c)] at q
      walk_at "go"
      exact q _ (Same.refl _)
    · have hp := List.length_pos_iff.mpr c
      walk_at "go"
      refine lc_known (known_str d) (fun i => some (.bl (dig (d.getD i 0)))) (by omega) (fun _ _ => trivial) (fun i H2 QT hi sm hk => ?_) (fun D H1 nD s1 eD => ?_)
      · walk_at "go"
        rw [show decide (d.getD i 0 ∈ ([48, 49, 50, 51, 52, 53, 54, 55, 56, 57] : List Nat)) = dig (d.getD i 0) by rw [Bool.eq_iff_iff, decide_eq_true_iff]; exact in_digs]
        exact hk _ (Same.refl _)
      · walk_at "go"
        rw [fm_range d (fun c => .bl (dig c)) 0] at eD
        refine r_all (bs := d.map dig) (SqL.of (by rw [eD, List.map_map]; rfl)) ?_
        rw [List.all_map]
        cases hd : d.all dig with
        | false =>
          rw [if_pos (.inr hd)] at q
          rw [show d.all (id ∘ dig) = false from hd]
          walk_at "go"
          exact q _ s1
        | true =>
          rw [if_neg (by rw [hd]; simp [c])] at q
          rw [show d.all (id ∘ dig) = true from hd]
          walk_at "go"
          refine r_ifd (fun c1 => ?_) (fun c1 => ?_)
          · rw [if_pos (.inl c1)] at q
            walk_at "go"
            exact r_intT hd c hl (q _ s1)
          · walk_at "go"
            refine r_ixS (by omega) (show atI d ((0 : Nat) : Int) = some _ from at_nat (by omega) (by omega)) ?_
            walk_at "go"
            refine r_ifnd (fun c2 => ?_) (fun c2 => ?_)
            · rw [if_pos (.inr fun z => c2 (by show [d.getD 0 0] = [48]; rw [z]))] at q
              walk_at "go"
              exact r_intT hd c hl (q _ s1)
            · have c3 : d.getD 0 0 = 48 := (List.cons.inj c2).1
              rw [if_neg (by rintro (z | z); exact c1 z; exact z c3)] at q
              walk_at "go"
              exact q _ s1
/-! ### times_in -/
def sp_times_in (_ : PySem.W.Frag) : Sp := fun vs H Q _ => ∃ d : List Nat, vs = [T d] ∧ d.length ≤ 100000 ∧ ∀ H', Same H H' → Q (oV (timesL d)) H'
set_option maxHeartbeats 4000000 in
theorem ok_times_in (Z : Tx K mg) : FnG P w K mg base CX0 2 Z.a_times_in Z.d_times_in ["text"] (sp_times_in K) := by
  refine funG Z.F_times_in sc_times_in (fun vs H Q E h => ?_) (fun cdv A outer s H vs Q E gg rm h => ?_)
  · obtain ⟨d, rfl, hl, q⟩ := h; rfl
  · obtain ⟨d, rfl, hl, q⟩ := h
    refine ⟨_,
      (pss_cons (ps_if (pt_cmpR (op_eqK K (hu_of64 rm)) (pv 0) (pe_strL (l := []) (by decide +kernel)) (nomark _))
        (pss_one (ps_ret pe_int))
        pss_nil)
      (pss_cons (ps_if (pt_cmpR op_gt (pe_callB (call_lenK K) (by rfl) Z.n_len PySem.boot_len (pa_cons (pv 0) pa_nil)) (pe_callB (call_lenK K) (by rfl) Z.n_len PySem.boot_len (pa_cons (pe_callTy call_str_int (by rfl) Z.n_str (by decide +kernel) (pa_cons (pe_glob (v := .int 300) (by rfl) Z.g_MOST_CHARACTERS ⟨_, rfl⟩) pa_nil)) pa_nil)) (nomark _))
        (pss_one (ps_ret pe_non))
        pss_nil)
      (pss_cons (ps_set (i := 1) sc_times_in.nd rfl (.inl rfl) (pe_callG gg (ok_number_in Z) rm (by rfl) Z.g_number_in Z.F_number_in.kp Z.b_number_in .nil pass0 (pa_cons (pv 0) pa_nil)))
      (pss_one (ps_ret (pe_ifExp (PW.pt (pw_and (pt_cmpR op_isNotG (pv 1) pe_non (nomark _)) (pw_and1 (pt_cmpR op_gt (pv 1) pe_int (nomark _))))) (pv 1) pe_non)))))), ?_⟩
    rw [show L2.start N_times_in [T d] = [some (T d), none] from rfl]
    unfold timesL at q
    walk_at "go"
    refine r_ifd (fun c => ?_) (fun c => ?_)
    · rw [if_pos c] at q
      walk_at "go"
      exact q _ (Same.refl _)
    · rw [if_neg c] at q
      walk_at "go"
      refine ⟨by decide, ?_⟩
      rw [show (300 : Int) = ((300 : Nat) : Int) from rfl, str_dec, show dec 300 = [51, 48, 48] by decide]
      walk_at "go"
      refine r_ifd (fun c1 => ?_) (fun c1 => ?_)
      · rw [if_pos (by have : ((3 : Nat) : Int) < (d.length : Int) := c1; omega)] at q
        walk_at "go"
        exact q _ (Same.refl _)
      · have c2 : ¬ 3 < d.length := fun z => c1 (by show ((3 : Nat) : Int) < (d.length : Int); omega)
        rw [if_neg c2] at q
        walk_at "go"
        refine ⟨d, rfl, by omega, fun H1 s1 => ?_⟩
        have q1 := q _ s1
        cases hn : numL d with
        | none =>
          rw [hn] at q1
          dsimp only [oV] at q1 ⊢
          walk_at "go"
          exact q1
        | some n =>
          rw [hn] at q1
          dsimp only [oV]
          walk_at "go"
          refine r_isnIN ?_
          walk_at "go"
          refine r_ifd (fun c3 => ?_) (fun c3 => ?_)
          · have q2 : Q (oV (if 1 < n then some n else none)) H1 := q1
            rw [if_pos (by omega)] at q2
            walk_at "go"
            exact q2
          · have q2 : Q (oV (if 1 < n then some n else none)) H1 := q1
            rw [if_neg (by omega)] at q2
            walk_at "go"
            exact q2
/-! ### row_in -/
def sp_row_in (_ : PySem.W.Frag) : Sp := fun vs H Q _ => ∃ (l : List Nat) (most : Nat), vs = [T l, .int (most : Nat)] ∧ l.length ≤ 100000 ∧ most ≤ 1000 ∧ ∀ H', Same H H' → Q (oT (rowL most l)) H'
set_option maxHeartbeats 4000000 in
theorem ok_row_in (Z : Tx K mg) : FnG P w K mg base CX0 3 Z.a_row_in Z.d_row_in ["text", "most"] (sp_row_in K) := by
  refine funG Z.F_row_in sc_row_in (fun vs H Q E h => ?_) (fun cdv A outer s H vs Q E gg rm h => ?_)
  · obtain ⟨l, most, rfl, hl, hm, q⟩ := h; rfl
  · obtain ⟨l, most, rfl, hl, hm, q⟩ := h
    refine ⟨_,
      (pss_cons (ps_asg (pe_tup (pa_cons (pe_strL (l := []) (by decide +kernel)) (pa_cons pe_int pa_nil))) (pg_tupK (n := 2) K rfl (pgs_cons (pg_name (i := 2) sc_row_in.nd rfl (.inl rfl)) (pgs_cons (pg_name (i := 3) sc_row_in.nd rfl (.inl rfl)) pgs_nil))))
      (pss_cons (ps_while PassesOwn.never (pt_cmpR op_ltG (pv 3) (pe_callB (call_lenK K) (by rfl) Z.n_len PySem.boot_len (pa_cons (pv 0) pa_nil)) (nomark _))
        (pss_cons (ps_set (i := 4) sc_row_in.nd rfl (.inl rfl) (pe_callG gg (ok_digits_at Z) (rm.mono (by decide)) (by rfl) Z.g_digits_at Z.F_digits_at.kp Z.b_digits_at .nil pass0 (pa_cons (pv 0) (pa_cons (pe_op (op_addK K) (pv 3) pe_int) pa_nil))))
        (pss_cons (ps_set (i := 5) sc_row_in.nd rfl (.inl rfl) (pe_callG gg (ok_times_in Z) rm (by rfl) Z.g_times_in Z.F_times_in.kp Z.b_times_in .nil pass0 (pa_cons (pv 4) pa_nil)))
        (pss_cons (ps_if (PW.pt (pw_or (pt_cmpR (op_notInK K) (pe_ix (ix_K K) (pv 0) (pv 3) (fun _ _ => rfl)) (pe_op (op_addK K) (pe_glob (v := .str k_LOW) (by rfl) Z.g_LOW ⟨_, rfl⟩) (pe_glob (v := .str k_HIGH) (by rfl) Z.g_HIGH ⟨_, rfl⟩)) (by rfl)) (pw_or (pt_cmpR op_isG (pv 5) pe_non (nomark _)) (pw_or1 (pt_cmpR op_gt (pe_op (op_addK K) (pe_callB (call_lenK K) (by rfl) Z.n_len PySem.boot_len (pa_cons (pv 2) pa_nil)) (pv 5)) (pv 1) (nomark _))))))
          (pss_one (ps_ret pe_non))
          pss_nil)
        (pss_cons (ps_set (i := 2) sc_row_in.nd rfl (.inl rfl) (pe_op (op_addK K) (pv 2) (pe_op op_mulG (pe_ix (ix_K K) (pv 0) (pv 3) (fun _ _ => rfl)) (pv 5))))
        (pss_one (ps_set (i := 3) sc_row_in.nd rfl (.inl rfl) (pe_op (op_addK K) (pe_op (op_addK K) (pv 3) pe_int) (pe_callB (call_lenK K) (by rfl) Z.n_len PySem.boot_len (pa_cons (pv 4) pa_nil))))))))))
      (pss_one (ps_ret (pe_ifExp (pt_cmpR (op_neK K (hu_of64 rm)) (pv 2) (pe_strL (l := []) (by decide +kernel)) (nomark _)) (pv 2) pe_non))))), ?_⟩
    rw [show L2.start N_row_in [T l, .int (most : Nat)] = [some (T l), some (.int (most : Nat)), none, none, none, none] from rfl]
    unfold rowL at q
    walk_at "go"
    intro t0 n0
    generalize hh : upd _ t0 _ = H0
    obtain ⟨s0, e0⟩ := new_eq n0 hh
    walk_at "go"
    refine r_while (fun m σ H' => ∃ (k : Nat) (acc : List Nat) (x y : Option V), σ = [some (T l), some (.int (most : Nat)), some (T acc), some (.int (k : Nat)), x, y] ∧ m + k = l.length ∧ Same H H' ∧ acc.length ≤ most ∧ rd most l [] = rd most (l.drop k) acc) l.length ⟨0, [], none, none, rfl, by omega, s0, by simp, rfl⟩ ?_
    rintro m σ H' ⟨k, acc, x, y, rfl, hmk, sm, ha, he⟩
    walk_at "go"
    refine r_ifd (fun c => ?_) (fun c => ?_)
    · have hk : k < l.length := by omega
      rw [drop_cons hk, rd_cons] at he
      have ht : ((l.drop (k + 1)).takeWhile dig).length ≤ l.length - (k + 1) := by
        have := (List.takeWhile_sublist (l := l.drop (k + 1)) dig).length_le
        rwa [List.length_drop] at this
      have no : rd most l [] = none → Q .non H' → Q .non H' := fun _ z => z
      walk_at "go"
      rw [show (k : Int) + 1 = ((k + 1 : Nat) : Int) by omega]
      refine ⟨l, k + 1, rfl, by omega, hl, ?_⟩
      generalize hd : (l.drop (k + 1)).takeWhile dig = d at *
      walk_at "go"
      refine ⟨d, rfl, by omega, fun H1 s1 => ?_⟩
      have q1 := q _ (sm.trans s1)
      walk_at "go"
      refine r_ixS (by omega) (at_nat (by omega) (by omega)) ?_
      rw [Int.toNat_natCast]
      generalize hc0 : l.getD k 0 = c0 at *
      walk_at "go"
      refine r_ifnd (fun c1 => ?_) (fun c1 => ?_)
      · have hlc : lett c0 = false := by
          cases e : lett c0 with
          | false => rfl
          | true => exact absurd (in_both.mpr e) c1
        rw [if_pos hlc] at he
        rw [he] at q1
        walk_at "go"
        exact q1
      · have hlc := in_both.mp c1
        rw [if_neg (by rw [hlc]; decide)] at he
        cases htm : timesL d with
        | none =>
          rw [htm] at he
          have he' : rd most l [] = none := he
          rw [he'] at q1
          dsimp only [oV]
          walk_at "go"
          exact q1
        | some t =>
          rw [htm] at he
          have he' : rd most l [] = if most < acc.length + t then none else rd most ((l.drop (k + 1)).drop d.length) (acc ++ repL [c0] t) := he
          dsimp only [oV]
          walk_at "go"
          refine r_isIN ?_
          walk_at "go"
          refine r_ifd (fun c2 => ?_) (fun c2 => ?_)
          · rw [if_pos (by omega)] at he'
            rw [he'] at q1
            walk_at "go"
            exact q1
          · rw [if_neg (by omega), List.drop_drop] at he'
            have hrl : (repL [c0] t).length = t := by rw [repL_len, List.length_singleton, Nat.mul_one]
            walk_at "go"
            refine r_ixS (by omega) (at_nat (by omega) (by omega)) ?_
            rw [Int.toNat_natCast, hc0]
            walk_at "go"
            refine r_mulS (l := [c0]) (n := (t : Nat)) ⟨by omega, by omega, by simp only [List.length_singleton, Int.toNat_natCast]; omega⟩ ?_
            rw [Int.toNat_natCast]
            walk_at "go"
            rw [show (k : Int) + 1 + (d.length : Int) = ((k + 1 + d.length : Nat) : Int) by omega]
            exact ⟨m - (1 + d.length), by omega, k + 1 + d.length, acc ++ repL [c0] t, _, _, rfl, by omega, sm.trans s1, by rw [List.length_append]; omega, he'⟩
    · have hk : k = l.length := by omega
      subst hk
      rw [List.drop_length, rd_nil] at he
      rw [he] at q
      walk_at "go"
      refine r_ifnd (fun c2 => ?_) (fun c2 => ?_)
      · walk_at "go"
        have q2 : Q (oT (if acc = [] then none else some acc)) H' := q _ sm
        rw [if_neg c2] at q2
        exact q2
      · walk_at "go"
        have q2 : Q (oT (if acc = [] then none else some acc)) H' := q _ sm
        rw [if_pos c2] at q2
        exact q2
/-! ### any_row_in -/
def sp_any_row_in (_ : PySem.W.Frag) : Sp := fun vs H Q _ => ∃ l : List Nat, vs = [T l] ∧ l.length ≤ 100000 ∧ ∀ H', Same H H' → Q (oT (anyL l)) H'
set_option maxHeartbeats 4000000 in
theorem ok_any_row_in (Z : Tx K mg) : FnG P w K mg base CX0 4 Z.a_any_row_in Z.d_any_row_in ["text"] (sp_any_row_in K) := by
  refine funG Z.F_any_row_in sc_any_row_in (fun vs H Q E h => ?_) (fun cdv A outer s H vs Q E gg rm h => ?_)
  · obtain ⟨l, rfl, hl, q⟩ := h; rfl
  · obtain ⟨l, rfl, hl, q⟩ := h
    refine ⟨_,
      (pss_one (ps_ret (pe_ifExp (pt_cmpR (op_eqK K (hu_of64 rm)) (pv 0) (pe_glob (v := .str k_EMPTY) (by rfl) Z.g_EMPTY ⟨_, rfl⟩) (nomark _)) (pe_strL (l := []) (by decide +kernel)) (pe_callG gg (ok_row_in Z) rm (by rfl) Z.g_row_in Z.F_row_in.kp Z.b_row_in .nil pass0 (pa_cons (pv 0) (pa_cons (pe_glob (v := .int 300) (by rfl) Z.g_MOST_CHARACTERS ⟨_, rfl⟩) pa_nil)))))), ?_⟩
    rw [show L2.start N_any_row_in [T l] = [some (T l)] from rfl]
    unfold anyL at q
    walk_at "go"
    refine r_ifd (fun c => ?_) (fun c => ?_)
    · rw [if_pos c] at q
      walk_at "go"
      exact q _ (Same.refl _)
    · rw [if_neg c] at q
      walk_at "go"
      exact ⟨l, 300, rfl, hl, by decide, q⟩
/-! ### row_or_none X -/
def spx_row_or_none (K : PySem.W.Frag) : Sp := fun vs H Q E => ∃ l : List Nat, vs = [T l] ∧ l.length ≤ 100000 ∧ ((∃ w, anyL l = some w ∧ ∀ H', Same H H' → Q (T w) H') ∨ (anyL l = none ∧ ∀ H', Same H H' → E (.ref (cA K "NoOrder")) none H'))
set_option maxHeartbeats 4000000 in
theorem okx_row_or_none (Z : Tx K mg) : FnG P w K mg base (L2.CX P w) 5 Z.a_row_or_none Z.d_row_or_none ["words"] (spx_row_or_none K) := by
  refine funGX Z.F_row_or_none sc_row_or_none (fun vs H Q E h => ?_) (fun cdv A outer s H vs Q E gg rm h => ?_)
  · obtain ⟨l, rfl, hl, hq⟩ := h; rfl
  · obtain ⟨l, rfl, hl, hq⟩ := h
    refine ⟨_,
      (pss_cons (ps_set (i := 1) sc_row_or_none.nd rfl (.inl rfl) (pe_callG gg (ok_any_row_in Z) rm (by rfl) Z.g_any_row_in Z.F_any_row_in.kp Z.b_any_row_in .nil pass0 (pa_cons (pv 0) pa_nil)))
      (pss_cons (ps_if (pt_cmpR op_isG (pv 1) pe_non (nomark _))
        (pss_one (ps_rz rfl (takes_of rfl rfl rfl rfl) ⟨Z.xx_NoOrder, Z.xa_NoOrder.k, Z.xa_NoOrder.b, Z.xa_NoOrder.t⟩ Z.gc_NoOrder (by rfl) (pa_cons (pe_strL (l := [116, 104, 101, 114, 101, 32, 105, 115, 32, 110, 111, 32, 115, 117, 99, 104, 32, 111, 114, 100, 101, 114]) (by decide +kernel)) pa_nil)))
        pss_nil)
      (pss_one (ps_ret (pv 1))))), ?_⟩
    rw [show L2.start N_row_or_none [T l] = [some (T l), none] from rfl]
    walk_at "go"
    refine ⟨l, rfl, hl, fun H1 s1 => ?_⟩
    rcases hq with ⟨w, e, q⟩ | ⟨e, q⟩
    · rw [e, show oT (some w) = T w from rfl]
      walk_at "go"
      exact q _ s1
    · rw [e, show oT none = V.non from rfl]
      walk_at "go"
      rw [← cA_eq Z.ns_NoOrder]
      exact q _ s1
/-! ### check_row_of X -/
def spx_check_row_of (K : PySem.W.Frag) : Sp := fun vs H Q E => ∃ (a : List Nat) (v : V), vs = [T a, v] ∧ Al a ∧ ((∃ l : List Nat, v = T l ∧ RowOf a l ∧ l.length ≤ 5000 ∧ ∀ H', Same H H' → Q .non H') ∨ (NRo K H a v ∧ ∀ H', Same H H' → E (.ref (cA K "NoRow")) none H'))
set_option maxHeartbeats 4000000 in
theorem okx_check_row_of (Z : Tx K mg) : FnG P w K mg base (L2.CX P w) 2 Z.a_check_row_of Z.d_check_row_of ["letters", "value"] (spx_check_row_of K) := by
  refine funGX Z.F_check_row_of sc_check_row_of (fun vs H Q E h => ?_) (fun cdv A outer s H vs Q E gg rm h => ?_)
  · obtain ⟨a, v, rfl, ha, q⟩ := h; rfl
  · obtain ⟨a, v, rfl, ha, q⟩ := h
    refine ⟨_,
      (pss_one (ps_if (pt_not (pt_truK K (pe_callG gg (ok_is_row_of Z) rm (by rfl) Z.g_is_row_of Z.F_is_row_of.kp Z.b_is_row_of .nil pass0 (pa_cons (pv 0) (pa_cons (pv 1) pa_nil))) (by intro _; rfl)))
        (pss_one (ps_rz rfl (takes_of rfl rfl rfl rfl) ⟨Z.xx_NoRow, Z.xa_NoRow.k, Z.xa_NoRow.b, Z.xa_NoRow.t⟩ Z.gc_NoRow (by rfl) (pa_cons (pe_strL (l := [116, 104, 105, 115, 32, 105, 115, 32, 110, 111, 32, 114, 111, 119, 32, 111, 102, 32, 116, 104, 101, 115, 101, 32, 108, 101, 116, 116, 101, 114, 115]) (by decide +kernel)) pa_nil)))
        pss_nil)), ?_⟩
    rw [show L2.start N_check_row_of [T a, v] = [some (T a), some (v)] from rfl]
    walk_at "go"
    refine ⟨a, v, rfl, ha, ?_⟩
    rcases q with ⟨l, rfl, hr, hl, q⟩ | ⟨⟨l, rfl, hl, hn⟩ | hn, q⟩
    · refine .inl ⟨l, rfl, hl, fun H1 s1 => ?_⟩
      rw [decide_eq_true hr]
      walk_at "go"
      exact q _ s1
    · refine .inl ⟨l, rfl, hl, fun H1 s1 => ?_⟩
      rw [decide_eq_false hn]
      walk_at "go"
      rw [← cA_eq Z.ns_NoRow]
      exact q _ s1
    · refine .inr ⟨hn, ?_⟩
      walk_at "go"
      rw [← cA_eq Z.ns_NoRow]
      exact q _ (Same.refl _)
/-! ### Rules.letters -/
def sp_Rules_letters (K : PySem.W.Frag) : Sp := fun vs H Q _ => ∃ (x dx : Addr) (u v : V), vs = [.ref x] ∧ H x = some (.ins (cA K "Rules") dx [("alphabet", u), ("told", v)]) ∧ Q u H
set_option maxHeartbeats 4000000 in
theorem ok_Rules_letters (Z : Tx K mg) : FnG P w K mg base CX0 1 Z.a_Rules_letters Z.d_Rules_letters ["self"] (sp_Rules_letters K) := by
  refine funG Z.F_Rules_letters sc_Rules_letters (fun vs H Q E h => ?_) (fun cdv A outer s H vs Q E gg rm h => ?_)
  · obtain ⟨x, dx, u, v, rfl, ex, q⟩ := h; rfl
  · obtain ⟨x, dx, u, v, rfl, ex, q⟩ := h
    refine ⟨_,
      (pss_one (ps_ret (pe_fld (pv 0) rfl))), ?_⟩
    rw [show L2.start N_Rules_letters [.ref x] = [some (.ref x)] from rfl]
    rw [cA_eq Z.ns_Rules] at ex
    walk_at "go"
    refine r_fldI ex Z.cl_Rules Z.na_Rules_alphabet (fld1) ?_
    exact q
/-! ### Desk.row_read X -/
def spx_Desk_row_read (K : PySem.W.Frag) : Sp := fun vs H Q E => ∃ (x p r : Addr) (w l a : List Nat) (rs : List (List Nat)) (S : List (Addr × List Nat)), vs = [.ref x, T l] ∧ DskO (cA K "Desk") H x p r w S ∧ RulO K (cA K "Rules") H r a rs ∧ l.length ≤ 1000 ∧
  Or3 (anyL l = none ∧ ∀ H', Same H H' → E (.ref (cA K "NoOrder")) none H') (∃ u, anyL l = some u ∧ RowOf a u ∧ u.length ≤ 300 ∧ ∀ H', Same H H' → Q (T u) H') (∃ u, anyL l = some u ∧ ¬ RowOf a u ∧ u.length ≤ 300 ∧ ∀ H', Same H H' → E (.ref (cA K "NoRow")) none H')
set_option maxHeartbeats 4000000 in
theorem okx_Desk_row_read (Z : Tx K mg) : FnG P w K mg base (L2.CX P w) 6 Z.a_Desk_row_read Z.d_Desk_row_read ["self", "words"] (spx_Desk_row_read K) := by
  refine funGX Z.F_Desk_row_read sc_Desk_row_read (fun vs H Q E h => ?_) (fun cdv A outer s H vs Q E gg rm h => ?_)
  · obtain ⟨x, p, r, w, l, a, rs, S, rfl, hd, hr, hl, hq⟩ := h; rfl
  · obtain ⟨x, p, r, w, l, a, rs, S, rfl, hd, hr, hl, hq⟩ := h
    refine ⟨_,
      (pss_cons (ps_set (i := 2) sc_Desk_row_read.nd rfl (.inl rfl) (pe_callX gg (okx_row_or_none Z) rm (by rfl) Z.g_row_or_none Z.F_row_or_none.kp Z.b_row_or_none .nil (fun σ => passS (takes_of rfl rfl rfl rfl) σ) (pa_cons (pv 1) pa_nil)))
      (pss_cons (ps_expr (pe_callX gg (okx_check_row_of Z) (rm.mono (by decide)) (by rfl) Z.g_check_row_of Z.F_check_row_of.kp Z.b_check_row_of .nil (fun σ => passS (takes_of rfl rfl rfl rfl) σ) (pa_cons (pe_meth0G gg (pe_fld (pv 0) rfl) Z.cl_Rules Z.me_Rules_letters (ok_Rules_letters Z) (rm.mono (by decide)) Z.b_Rules_letters .nil pass0) (pa_cons (pv 2) pa_nil))))
      (pss_one (ps_ret (pv 2))))), ?_⟩
    rw [show L2.start N_Desk_row_read [.ref x, T l] = [some (.ref x), some (T l), none] from rfl]
    obtain ⟨dr, v, er, tv, ha, ht⟩ := id hr
    have er0 := er
    rw [cA_eq Z.ns_Rules] at er0
    obtain ⟨dx, ex⟩ := hd.ins
    rw [cA_eq Z.ns_Desk] at ex
    walk_at "go"
    refine ⟨l, rfl, by omega, ?_⟩
    rcases hq with ⟨e, q⟩ | ⟨u, e, ho, hul, q⟩ | ⟨u, e, ho, hul, q⟩
    · exact .inr ⟨e, q⟩
    · refine .inl ⟨u, e, fun H1 s1 => ?_⟩
      have ex1 := s1 _ _ ex
      have er1 := s1 _ _ er0
      walk_at "go"
      refine r_fldI ex1 Z.cl_Desk Z.na_Desk_work ds_work ?_
      walk_at "go"
      refine r_methI er1 (lk2 (by decide +kernel) (by decide +kernel)) ?_
      refine ⟨r, dr, _, _, rfl, s1 _ _ er, ?_⟩
      walk_at "go"
      refine ⟨a, _, rfl, ha, .inl ⟨u, rfl, ho, by omega, fun H2 s2 => ?_⟩⟩
      walk_at "go"
      exact q _ (s1.trans s2)
    · refine .inl ⟨u, e, fun H1 s1 => ?_⟩
      have ex1 := s1 _ _ ex
      have er1 := s1 _ _ er0
      walk_at "go"
      refine r_fldI ex1 Z.cl_Desk Z.na_Desk_work ds_work ?_
      walk_at "go"
      refine r_methI er1 (lk2 (by decide +kernel) (by decide +kernel)) ?_
      refine ⟨r, dr, _, _, rfl, s1 _ _ er, ?_⟩
      walk_at "go"
      exact ⟨a, _, rfl, ha, .inr ⟨.inl ⟨u, rfl, by omega, ho⟩, fun H2 s2 => q _ (s1.trans s2)⟩⟩
/-! ### check_letters X -/
def spx_check_letters (K : PySem.W.Frag) : Sp := fun vs H Q E => ∃ v : V, vs = [v] ∧ ((∃ a : List Nat, v = T a ∧ a.length ≤ 5000 ∧ ((Al a ∧ ∀ H', Same H H' → Q .non H') ∨ (¬ Al a ∧ ∀ H', Same H H' → E (.ref (cA K "NoLetters")) none H'))) ∨ (NotS K H v ∧ ∀ H', Same H H' → E (.ref (cA K "NoLetters")) none H'))
set_option maxHeartbeats 4000000 in
theorem okx_check_letters (Z : Tx K mg) : FnG P w K mg base (L2.CX P w) 2 Z.a_check_letters Z.d_check_letters ["value"] (spx_check_letters K) := by
  refine funGX Z.F_check_letters sc_check_letters (fun vs H Q E h => ?_) (fun cdv A outer s H vs Q E gg rm h => ?_)
  · obtain ⟨v, rfl, q⟩ := h; rfl
  · obtain ⟨v, rfl, q⟩ := h
    refine ⟨_,
      (pss_one (ps_if (pt_not (pt_truK K (pe_callG gg (ok_are_letters Z) rm (by rfl) Z.g_are_letters Z.F_are_letters.kp Z.b_are_letters .nil pass0 (pa_cons (pv 0) pa_nil)) (by intro _; rfl)))
        (pss_one (ps_rz rfl (takes_of rfl rfl rfl rfl) ⟨Z.xx_NoLetters, Z.xa_NoLetters.k, Z.xa_NoLetters.b, Z.xa_NoLetters.t⟩ Z.gc_NoLetters (by rfl) (pa_cons (pe_strL (l := [108, 101, 116, 116, 101, 114, 115, 32, 97, 114, 101, 32, 111, 110, 101, 32, 116, 111, 32, 102, 111, 117, 114, 32, 108, 101, 116, 116, 101, 114, 115, 32, 102, 114, 111, 109, 32, 97, 32, 116, 111, 32, 122, 44, 32, 97, 115, 99, 101, 110, 100, 105, 110, 103]) (by decide +kernel)) pa_nil)))
        pss_nil)), ?_⟩
    rw [show L2.start N_check_letters [v] = [some (v)] from rfl]
    walk_at "go"
    rcases q with ⟨a, rfl, hl, q⟩ | ⟨hn, q⟩
    · refine ⟨T a, rfl, .inl ⟨a, rfl, hl, fun H1 s1 => ?_⟩⟩
      rcases q with ⟨ha, q⟩ | ⟨ha, q⟩
      · rw [decide_eq_true ha]
        walk_at "go"
        exact q _ s1
      · rw [decide_eq_false ha]
        walk_at "go"
        rw [← cA_eq Z.ns_NoLetters]
        exact q _ s1
    · refine ⟨v, rfl, .inr ⟨hn, ?_⟩⟩
      walk_at "go"
      rw [← cA_eq Z.ns_NoLetters]
      exact q _ (Same.refl _)
/-! ### NoRows.__init__ -/
set_option maxHeartbeats 4000000 in
theorem ok_NoRows_init (Z : Tx K mg) : FnOk P w K mg base CX0 1 Z.a_NoRows_init Z.d_NoRows_init ["self", "index"] (spXI (fun K => cA K "NoRows") "index" K) := by
  refine Z.F_NoRows_init.ok sc_NoRows_init (fun vs H Q E h => ?_) (fun cdv A outer s H vs Q E rm h => ?_)
  · obtain ⟨x, i, rfl, hi, ex, q⟩ := h; rfl
  · obtain ⟨x, i, rfl, hi, ex, q⟩ := h
    refine ⟨_,
      (pss_cons (ps_expr (pe_rinit K Z.ri_RowError (by rfl) Z.gc_RowError (pa_cons (pv 0) (pa_cons (pe_op (op_addK K) (pe_strL (l := [116, 104, 101, 114, 101, 32, 105, 115, 32, 110, 111, 32, 115, 117, 99, 104, 32, 114, 111, 119, 32, 97, 116, 32, 105, 110, 100, 101, 120, 32]) (by decide +kernel)) (pe_callTy call_str_int (by rfl) Z.n_str (by decide +kernel) (pa_cons (pv 1) pa_nil))) pa_nil))))
      (pss_one (ps_ostK K (pv 0) (pv 1)))), ?_⟩
    rw [show L2.start N_NoRows_init [.ref x, .int i] = [some (.ref x), some (.int i)] from rfl]
    simp only [cA_eq Z.ns_NoRows] at ex q
    obtain ⟨n, rfl⟩ : ∃ n : Nat, i = (n : Int) := ⟨i.toNat, by omega⟩
    walk_at "go"
    refine ⟨log_small (show n < 2 ^ 60 by omega), ?_⟩
    rw [str_dec]
    have hl : (dec n).length ≤ 20 := dec_len (by decide) (by omega)
    walk_at "go"
    refine ⟨x, _, _, rfl, by show 1 ≤ 1000; decide, Z.ox_NoRows, ex, ?_⟩
    walk_at "go"
    exact ⟨x, _, rfl, Z.ox_NoRows, Z.nf_NoRows_index, .inl ⟨ex, fun d nd hd => q d nd hd⟩⟩
/-! ### check_rows X -/
def spx_check_rows (K : PySem.W.Frag) : Sp := fun vs H Q E => ∃ (a : List Nat) (v : V), vs = [T a, v] ∧ Al a ∧ RwsX K H a v (∀ H', Same H H' → Q .non H') (fun k => ∀ d H', Same H H' → H d = none → H' d = some (.xd [("index", .int (k : Nat))]) → E (.ref (cA K "NoRows")) (some d) H')
set_option maxHeartbeats 4000000 in
theorem okx_check_rows (Z : Tx K mg) : FnG P w K mg base (L2.CX P w) 4 Z.a_check_rows Z.d_check_rows ["letters", "rows"] (spx_check_rows K) := by
  refine funGX Z.F_check_rows sc_check_rows (fun vs H Q E h => ?_) (fun cdv A outer s H vs Q E gg rm h => ?_)
  · obtain ⟨a, v, rfl, ha, q⟩ := h; rfl
  · obtain ⟨a, v, rfl, ha, q⟩ := h
    refine ⟨_,
      (pss_cons (ps_if (pt_not (pt_truK K (pe_callB (call_isXK K) (by rfl) Z.n_isinstance (by decide +kernel) (pa_cons (pv 1) (pa_cons (pe_bltn (v := .ty "tuple") (u := .type "tuple") (by rfl) Z.n_tuple (by decide +kernel) rfl) pa_nil))) (by intro _; rfl)))
        (pss_one (ps_ri rfl (takes_of rfl rfl rfl rfl) Z.ox_NoRows Z.xi_NoRows Z.xt_NoRows (ok_NoRows_init Z) (cA_eq Z.ns_NoRows) (rm.mono (by decide)) Z.b_NoRows_init (by rfl) Z.gc_NoRows (pa_cons pe_int pa_nil)))
        pss_nil)
      (pss_one (ps_for (passes_of rfl) rfl (pi_enumSK K (by rfl) Z.n_enumerate (pa_cons (pv 1) pa_nil)) (pg_tupK (n := 2) K rfl (pgs_cons (pg_name (i := 2) sc_check_rows.nd rfl (.inl rfl)) (pgs_cons (pg_name (i := 3) sc_check_rows.nd rfl (.inl rfl)) pgs_nil)))
        (pss_one (ps_if (pt_not (pt_truK K (pe_callG gg (ok_can_stand Z) rm (by rfl) Z.g_can_stand Z.F_can_stand.kp Z.b_can_stand .nil pass0 (pa_cons (pv 0) (pa_cons (pe_slice (sl_K K) (pv 1) po_none (po_some (pv 2))) (pa_cons (pv 3) pa_nil)))) (by intro _; rfl)))
          (pss_one (ps_ri rfl (takes_of rfl rfl rfl rfl) Z.ox_NoRows Z.xi_NoRows Z.xt_NoRows (ok_NoRows_init Z) (cA_eq Z.ns_NoRows) (rm.mono (by decide)) Z.b_NoRows_init (by rfl) Z.gc_NoRows (pa_cons (pv 2) pa_nil)))
          pss_nil))))), ?_⟩
    rw [show L2.start N_check_rows [T a, v] = [some (T a), some (v), none, none] from rfl]
    rcases q with ⟨p, xs, rs, rfl, ep, hl, hp, ht, q⟩ | ⟨⟨t, ty, hk⟩, q⟩
    · have hrl : rs.length ≤ xs.length := by
        have := congrArg List.length hp
        rw [List.length_take, List.length_map] at this
        omega
      have hx : ∀ i, i < rs.length → xs.getD i .non = T (rs.getD i []) := fun i hi => by
        have h1 : (xs.take rs.length).getD i .non = xs.getD i .non := by rw [List.getD_eq_getElem?_getD, List.getElem?_take_of_lt hi, ← List.getD_eq_getElem?_getD]
        rw [← h1, hp, map_getD rs hi]
      have htk : ∀ i, i ≤ rs.length → xs.take i = (rs.take i).map T := fun i hi => by
        rw [List.map_take, ← hp, List.take_take, Nat.min_eq_left hi]
      walk_at "go"
      refine r_goES (wkT (SqT.of ep) ?_)
      refine for_pair (known_enumS xs) (fun i σ H' => ∃ x y, σ = [some (T a), some (.ref p), x, y] ∧ Same H H' ∧ i ≤ rs.length) ⟨none, none, rfl, Same.refl _, Nat.zero_le _⟩ (fun i σ H' _ ⟨_, _, _, s, _⟩ => SqT.of (s _ _ ep)) ?_ ?_
      · rintro i σ H' d hi ⟨x, y, rfl, sm, hik⟩ nd
        walk_at "go"
        have e2 : (upd H' d (.tup [.int (i : Nat), xs.getD i .non])) p = some (.tup xs) := Same.new1 nd _ _ (sm _ _ ep)
        refine r_slT (SqT.of e2) hi fun e ne => ?_
        walk_at "go"
        refine ⟨e, a, xs.getD i .non, rs.take i, rfl, by rw [upd_same, htk i hik], by rw [List.length_take]; omega, ha, fun z hz => ht.2.1 _ (List.mem_of_mem_take hz), ?_⟩
        have s0 : Same H (upd (upd H' d (.tup [.int (i : Nat), xs.getD i .non])) e (.tup (xs.take i))) := (sm.new nd).new ne
        generalize upd (upd H' d (.tup [.int (i : Nat), xs.getD i .non])) e (.tup (xs.take i)) = H1 at s0 ⊢
        by_cases hlt : i < rs.length
        · rw [hx i hlt]
          have hri := ht.2.1 _ (getD_memL hlt)
          have hl40 := hri.2.2.1
          refine .inl ⟨_, rfl, by omega, fun H2 s2 => ?_⟩
          rw [ht.stands hlt]
          walk_at "go"
          exact ⟨_, _, rfl, s0.trans s2, hlt⟩
        · have hik2 : i = rs.length := by omega
          subst hik2
          rw [List.take_length]
          rcases q with ⟨e, q⟩ | ⟨e, hn, q⟩
          · omega
          · have fin : ∀ H2, Same H1 H2 → ∀ d2, H2 d2 = none → E (.ref (cA K "NoRows")) (some d2) (upd H2 d2 (.xd [("index", .int (rs.length : Nat))])) := fun H2 s2 d2 n2 =>
              q d2 _ ((s0.trans s2).new n2) ((s0.trans s2).free n2) upd_same
            rcases hn with ⟨l, el, hll, hbad⟩ | hn
            · rw [el]
              refine .inl ⟨l, rfl, hll, fun H2 s2 => ?_⟩
              rw [hbad]
              walk_at "go"
              rw [← cA_eq Z.ns_NoRows]
              exact ⟨by omega, fin H2 s2⟩
            · refine .inr ⟨hn.same s0, ?_⟩
              walk_at "go"
              rw [← cA_eq Z.ns_NoRows]
              exact ⟨by omega, fin H1 (Same.refl _)⟩
      · rintro σ H' ⟨x, y, rfl, sm, hik⟩
        rcases q with ⟨e, q⟩ | ⟨e, hn, q⟩
        · walk_at "go"
          exact q _ sm
        · omega
    · walk_at "go"
      refine r_ixB ty hk ?_
      walk_at "go"
      rw [← cA_eq Z.ns_NoRows]
      exact ⟨by omega, fun d nd => q d _ (Same.new1 nd) nd upd_same⟩
/-! ### Rules.__init__ X -/
def spx_Rules_init (K : PySem.W.Frag) : Sp := fun vs H Q E => ∃ (x C dx : Addr) (u v : V), vs = [.ref x, u, v] ∧ H x = some (.ins C dx []) ∧ PySem.W.nsIn K mainGlobals "Rules" = some (some (.ref C)) ∧ RulX K H u v (fun a p => ∀ H', H' x = some (.ins C dx [("alphabet", T a), ("told", .ref p)]) → Kp x H H' → Q .non H') (∀ H', Same H H' → E (.ref (cA K "NoLetters")) none H') (fun k => ∀ d H', Same H H' → H d = none → H' d = some (.xd [("index", .int (k : Nat))]) → E (.ref (cA K "NoRows")) (some d) H')
set_option maxHeartbeats 4000000 in
theorem okx_Rules_init (Z : Tx K mg) : FnG P w K mg base (L2.CX P w) 5 Z.a_Rules_init Z.d_Rules_init ["self", "letters", "rows"] (spx_Rules_init K) := by
  refine funDGX Z.F_Rules_init sc_Rules_init (fun vs H Q E h => ?_) (fun cdv A outer s H vs Q E gg rm h => ?_)
  · obtain ⟨x, C, dx, u, v, rfl, ex, eC, q⟩ := h; rfl
  · obtain ⟨x, C, dx, u, v, rfl, ex, eC, q⟩ := h
    refine ⟨_,
      (pss_cons (ps_expr (pe_callX gg (okx_check_letters Z) (rm.mono (by decide)) (by rfl) Z.g_check_letters Z.F_check_letters.kp Z.b_check_letters .nil (fun σ => passS (takes_of rfl rfl rfl rfl) σ) (pa_cons (pv 1) pa_nil)))
      (pss_cons (ps_expr (pe_callX gg (okx_check_rows Z) rm (by rfl) Z.g_check_rows Z.F_check_rows.kp Z.b_check_rows .nil (fun σ => passS (takes_of rfl rfl rfl rfl) σ) (pa_cons (pv 1) (pa_cons (pv 2) pa_nil))))
      (pss_cons (ps_fld (pv 0) (pv 1) rfl)
      (pss_one (ps_fld (pv 0) (pv 2) rfl))))), ?_⟩
    rw [show L2.start N_Rules_init [.ref x, u, v] = [some (.ref x), some (u), some (v)] from rfl]
    obtain rfl : C = Z.a_Rules := by have := eC.symm.trans Z.ns_Rules; simpa using this
    walk_at "go"
    rcases q with ⟨hn, q⟩ | ⟨a, rfl, ha, q⟩
    · refine ⟨u, rfl, ?_⟩
      rcases hn with ⟨l, rfl, hl, hna⟩ | hn
      · exact .inl ⟨l, rfl, hl, .inr ⟨hna, q⟩⟩
      · exact .inr ⟨hn, q⟩
    · have := ha.2.1
      refine ⟨T a, rfl, .inl ⟨a, rfl, by omega, .inl ⟨ha, fun H1 s1 => ?_⟩⟩⟩
      walk_at "go"
      refine ⟨a, v, rfl, ha, ?_⟩
      rcases q with ⟨p, rs, rfl, ep, ht, q⟩ | q
      · refine .inl ⟨p, rs.map T, rs, rfl, s1 _ _ ep, by rw [List.length_map]; have := ht.1; omega, ?_, ht, .inl ⟨by rw [List.length_map], fun H2 s2 => ?_⟩⟩
        · rw [show rs.length = (rs.map T).length by rw [List.length_map], List.take_length]
        have ex2 := s2 _ _ (s1 _ _ ex)
        walk_at "go"
        refine r_sfldI ex2 Z.cl_Rules Z.na_Rules_alphabet (by decide) ?_
        walk_at "go"
        refine r_sfldI upd_same Z.cl_Rules Z.na_Rules_told (by show 1 < 1000; decide) ?_
        refine q _ ?_ (((Kp.of (s1.trans s2)).put).put)
        rw [upd_same]
        exact congrArg (fun z => some (HO.ins Z.a_Rules dx z)) (put2 (by decide +kernel))
      · exact (q.same s1).mono (fun z => z.elim) fun k z d H2 s2 nd e => z d H2 (s1.trans s2) (s1.free nd) e
/-! ### Rules.rows -/
def sp_Rules_rows (K : PySem.W.Frag) : Sp := fun vs H Q _ => ∃ (x dx : Addr) (u v : V), vs = [.ref x] ∧ H x = some (.ins (cA K "Rules") dx [("alphabet", u), ("told", v)]) ∧ Q v H
set_option maxHeartbeats 4000000 in
theorem ok_Rules_rows (Z : Tx K mg) : FnG P w K mg base CX0 1 Z.a_Rules_rows Z.d_Rules_rows ["self"] (sp_Rules_rows K) := by
  refine funG Z.F_Rules_rows sc_Rules_rows (fun vs H Q E h => ?_) (fun cdv A outer s H vs Q E gg rm h => ?_)
  · obtain ⟨x, dx, u, v, rfl, ex, q⟩ := h; rfl
  · obtain ⟨x, dx, u, v, rfl, ex, q⟩ := h
    refine ⟨_,
      (pss_one (ps_ret (pe_fld (pv 0) rfl))), ?_⟩
    rw [show L2.start N_Rules_rows [.ref x] = [some (.ref x)] from rfl]
    rw [cA_eq Z.ns_Rules] at ex
    walk_at "go"
    refine r_fldI ex Z.cl_Rules Z.na_Rules_told (fld2 (by decide +kernel)) ?_
    exact q
/-! ### Desk.row_told X -/
def spx_Desk_row_told (K : PySem.W.Frag) : Sp := fun vs H Q E => ∃ (x p r : Addr) (w l u a : List Nat) (rs : List (List Nat)) (S : List (Addr × List Nat)), vs = [.ref x, T l] ∧ DskO (cA K "Desk") H x p r w S ∧ RulO K (cA K "Rules") H r a rs ∧ S.length < 100000 ∧ l.length ≤ 1000 ∧ anyL l = some u ∧ u.length ≤ 300 ∧
  (¬ RowOf a u → ∀ H', Same H H' → E (.ref (cA K "NoRow")) none H') ∧
  (RowOf a u → stB a rs u = false → ∀ d H', Same H H' → H d = none → H' d = some (.xd [("index", .int (rs.length : Nat))]) → E (.ref (cA K "NoRows")) (some d) H') ∧
  (RowOf a u → stB a rs u = true → ∀ y H', H y = none → Kx [x, p] H H' → RulO K (cA K "Rules") H' y a (rs ++ [u]) → DskO (cA K "Desk") H' x p y w (S ++ [(r, w)]) → Q (T ([114, 111, 119, 115, 32] ++ dec (rs.length + 1))) H')
set_option maxHeartbeats 4000000 in
theorem okx_Desk_row_told (Z : Tx K mg) : FnG P w K mg base (L2.CX P w) 7 Z.a_Desk_row_told Z.d_Desk_row_told ["self", "words"] (spx_Desk_row_told K) := by
  refine funGX Z.F_Desk_row_told sc_Desk_row_told (fun vs H Q E h => ?_) (fun cdv A outer s H vs Q E gg rm h => ?_)
  · obtain ⟨x, p, r, w, l, u, a, rs, S, rfl, hd, hr, hS, hl, hu, hul, q1, q2, q3⟩ := h; rfl
  · obtain ⟨x, p, r, w, l, u, a, rs, S, rfl, hd, hr, hS, hl, hu, hul, q1, q2, q3⟩ := h
    refine ⟨_,
      (pss_cons (ps_set (i := 2) sc_Desk_row_told.nd rfl (.inl rfl) (pe_methX gg (pv 0) Z.cl_Desk Z.me_Desk_row_read (okx_Desk_row_read Z) rm Z.b_Desk_row_read .nil (fun σ => passS (takes_of rfl rfl rfl rfl) σ) (pa_cons (pv 1) pa_nil)))
      (pss_cons (ps_expr (pe_methX gg (pv 0) Z.cl_Desk Z.me_Desk_turn_to (ok_Desk_turn_to Z) (rm.mono (by decide)) Z.b_Desk_turn_to .nil (fun _ => pass0S) (pa_cons (pe_makeX gg Z.mk_Rules (okx_Rules_init Z) rm (by rfl) Z.gc_Rules Z.b_Rules_init .nil (fun σ => passS (takes_of rfl rfl rfl rfl) σ) (pa_cons (pe_meth0G gg (pe_fld (pv 0) rfl) Z.cl_Rules Z.me_Rules_letters (ok_Rules_letters Z) (rm.mono (by decide)) Z.b_Rules_letters .nil pass0) (pa_cons (pe_tup (pa_starK K (pe_meth0G gg (pe_fld (pv 0) rfl) Z.cl_Rules Z.me_Rules_rows (ok_Rules_rows Z) (rm.mono (by decide)) Z.b_Rules_rows .nil pass0) (pa_cons (pv 2) pa_nil))) pa_nil))) (pa_cons (pe_fld (pv 0) rfl) pa_nil))))
      (pss_one (ps_ret (pe_joined (PJ.cons (pe_strL (l := [114, 111, 119, 115, 32]) (by decide +kernel)) (PJ.cons (pe_fmt (pe_callB (call_lenK K) (by rfl) Z.n_len PySem.boot_len (pa_cons (pe_meth0G gg (pe_fld (pv 0) rfl) Z.cl_Rules Z.me_Rules_rows (ok_Rules_rows Z) (rm.mono (by decide)) Z.b_Rules_rows .nil pass0) pa_nil))) PJ.nil))))))), ?_⟩
    rw [show L2.start N_Desk_row_told [.ref x, T l] = [some (.ref x), some (T l), none] from rfl]
    obtain ⟨dr, v, er, tv, ha, ht⟩ := id hr
    have er0 := er
    rw [cA_eq Z.ns_Rules] at er0
    have hC := cA_eq Z.ns_Rules
    obtain ⟨dx, ex⟩ := hd.ins
    rw [cA_eq Z.ns_Desk] at ex
    obtain ⟨pu, rfl⟩ := tv.ref
    have h6 := ht.1
    walk_at "go"
    refine r_methI ex (lk3 (by decide +kernel) (by decide +kernel) (by decide +kernel)) ?_
    walk_at "go"
    refine ⟨x, p, r, w, l, a, rs, S, rfl, hd, hr, hl, ?_⟩
    by_cases ho : RowOf a u
    · refine Or3.inr ⟨u, hu, ho, hul, fun H1 s1 => ?_⟩
      have hd1 := hd.same s1
      have hr1 := hr.same s1
      have ex1 := s1 _ _ ex
      have er1 := s1 _ _ er0
      have er11 := s1 _ _ er
      have tv1 := tv.same s1
      obtain ⟨ps, ep⟩ := hd1.lst
      walk_at "go"
      refine r_methI ex1 (lk3 (by decide +kernel) (by decide +kernel) (by decide +kernel)) ?_
      walk_at "go"
      refine r_fldI ex1 Z.cl_Desk Z.na_Desk_work ds_work ?_
      walk_at "go"
      refine r_methI er1 (lk2 (by decide +kernel) (by decide +kernel)) ?_
      refine ⟨r, dr, _, _, rfl, er11, ?_⟩
      walk_at "go"
      refine r_fldI ex1 Z.cl_Desk Z.na_Desk_work ds_work ?_
      walk_at "go"
      refine r_methI er1 (lk2 (by decide +kernel) (by decide +kernel)) ?_
      refine ⟨r, dr, _, _, rfl, er11, ?_⟩
      refine ⟨pu, rs.map T, rfl, .inl tv1.sq, ?_⟩
      walk_at "go"
      refine ⟨by rw [List.length_append, List.length_map, List.length_singleton, sizeLine_eq]; omega, fun t nt => ?_⟩
      generalize hh : upd _ t _ = H2
      obtain ⟨s2, et⟩ := new_eq nt hh
      clear hh
      walk_at "go"
      intro z dz nz ndz hdz
      have s3 : Same H2 (upd (upd H2 dz (.own z)) z (.ins Z.a_Rules dz [])) := (Same.new1 ndz).new (by rw [upd_ne hdz.symm]; exact nz)
      have ez : (upd (upd H2 dz (.own z)) z (.ins Z.a_Rules dz [])) z = some (.ins Z.a_Rules dz []) := upd_same
      generalize upd (upd H2 dz (.own z)) z (.ins Z.a_Rules dz []) = H3 at s3 ez ⊢
      have s02 := s1.trans s2
      have nz0 := s02.free nz
      refine ⟨z, _, dz, T a, .ref t, rfl, ez, Z.ns_Rules, ?_⟩
      cases hst : stB a rs u with
      | true =>
        have hT := Told.step ht hst
        refine .inr ⟨a, rfl, ha, .inl ⟨t, rs ++ [u], rfl, by rw [s3 _ _ et, List.map_append]; rfl, hT, fun H4 e4 k4 => ⟨rfl, ?_⟩⟩⟩
        have s24 : Same H2 H4 := fun c o hc => k4 c o (by rintro rfl; rw [nz] at hc; cases hc) (s3 _ _ hc)
        have s14 := s2.trans s24
        have hz4 : RulO K (cA K "Rules") H4 z a (rs ++ [u]) := ⟨dz, .ref t, by rw [hC]; exact e4, TupV.of (by rw [s24 _ _ et, List.map_append]; rfl), ha, hT⟩
        have hd4 := hd1.same s14
        have hzx := hz4.ne_dsk hd4
        obtain ⟨ps4, ep4⟩ := hd4.lst
        have hzp := hz4.ne_lst ep4
        obtain ⟨dx4, ex4⟩ := hd4.ins
        rw [cA_eq Z.ns_Desk] at ex4
        walk_at "go"
        refine r_fldI ex4 Z.cl_Desk Z.na_Desk_word ds_word ?_
        walk_at "go"
        refine ⟨x, p, r, z, w, w, S, rfl, hd4, hS, fun H5 k5 d5 => ?_⟩
        have hz5 := hz4.kx k5 (by simp [hzx, hzp])
        obtain ⟨dx5, ex5⟩ := d5.ins
        rw [cA_eq Z.ns_Desk] at ex5
        obtain ⟨dz5, v5, ez5, tv5, _, _⟩ := id hz5
        have ez50 := ez5
        rw [hC] at ez50
        obtain ⟨pv5, rfl⟩ := tv5.ref
        have tq5 := tv5.sq
        walk_at "go"
        refine r_fldI ex5 Z.cl_Desk Z.na_Desk_work ds_work ?_
        walk_at "go"
        refine r_methI ez50 (lk2 (by decide +kernel) (by decide +kernel)) ?_
        refine ⟨z, dz5, _, _, rfl, ez5, ?_⟩
        walk_at "go"
        rw [show (List.map T (rs ++ [u])).length = rs.length + 1 by simp]
        refine r_fmtI (by omega) ?_
        refine r_jsT (by have := dec_short (n := rs.length + 1) (by omega); simp; omega) ?_
        exact q3 ho hst z _ nz0 ((Kx.of (s1.trans s14)).trans k5) hz5 d5
      | false =>
        refine rulX_bad ha ht (zs := []) (by rw [s3 _ _ et]) (by simp) (.inl ⟨u, rfl, by omega, hst⟩) ?_
        intro d H4 s4 nd ed
        exact q2 ho hst d H4 (s02.trans (s3.trans s4)) ((s02.trans s3).free nd) ed
    · exact Or3.tup ⟨u, hu, ho, hul, fun H1 s1 => q1 ho _ s1⟩
/-! ### is_whole -/
def sp_is_whole (K : PySem.W.Frag) : Sp := fun vs H Q _ => ∃ v : V, vs = [v] ∧ ((∃ i : Int, v = .int i ∧ Q (.bl true) H) ∨ (((∃ b, v = .bl b) ∨ NotI K H v) ∧ Q (.bl false) H))
set_option maxHeartbeats 4000000 in
theorem ok_is_whole (Z : Tx K mg) : FnG P w K mg base CX0 1 Z.a_is_whole Z.d_is_whole ["value"] (sp_is_whole K) := by
  refine funG Z.F_is_whole sc_is_whole (fun vs H Q E h => ?_) (fun cdv A outer s H vs Q E gg rm h => ?_)
  · obtain ⟨v, rfl, q⟩ := h; rfl
  · obtain ⟨v, rfl, q⟩ := h
    refine ⟨_,
      (pss_one (ps_ret (pe_andK K (pe_callB (call_isXK K) (by rfl) Z.n_isinstance (by decide +kernel) (pa_cons (pv 0) (pa_cons (pe_bltn (v := .ty "int") (u := .type "int") (by rfl) Z.n_int (by decide +kernel) rfl) pa_nil))) (pe_one (pe_notK K (pe_callB (call_isXK K) (by rfl) Z.n_isinstance (by decide +kernel) (pa_cons (pv 0) (pa_cons (pe_bltn (v := .ty "bool") (u := .type "bool") (by rfl) Z.n_bool (by decide +kernel) rfl) pa_nil)))))))), ?_⟩
    rw [show L2.start N_is_whole [v] = [some (v)] from rfl]
    rcases q with ⟨i, rfl, q⟩ | ⟨⟨b, rfl⟩ | ⟨t, ty, hk⟩, q⟩
    · walk_at "go"
      exact q
    · walk_at "go"
      exact q
    · walk_at "go"
      refine r_ixB ty hk ?_
      walk_at "go"
      exact q
/-! ### Rules.without X -/
def spx_Rules_without (K : PySem.W.Frag) : Sp := fun vs H Q E => ∃ (x : Addr) (v : V) (a : List Nat) (rs : List (List Nat)), vs = [.ref x, v] ∧ RulO K (cA K "Rules") H x a rs ∧ ((∃ i : Nat, v = .int (i : Nat) ∧ i < rs.length ∧ ∀ y H', H y = none → Same H H' → RulO K (cA K "Rules") H' y a (rs.take i ++ rs.drop (i + 1)) → Q (.ref y) H') ∨ (BadIx K H rs.length v ∧ ∀ H', Same H H' → E (.ref (cA K "NoIndex")) none H'))
set_option maxHeartbeats 4000000 in
theorem okx_Rules_without (Z : Tx K mg) : FnG P w K mg base (L2.CX P w) 7 Z.a_Rules_without Z.d_Rules_without ["self", "index"] (spx_Rules_without K) := by
  refine funGX Z.F_Rules_without sc_Rules_without (fun vs H Q E h => ?_) (fun cdv A outer s H vs Q E gg rm h => ?_)
  · obtain ⟨x, v, a, rs, rfl, hx, hq⟩ := h; rfl
  · obtain ⟨x, v, a, rs, rfl, hx, hq⟩ := h
    refine ⟨_,
      (pss_cons (ps_if (PW.pt (pw_or (pt_not (pt_truK K (pe_callG gg (ok_is_whole Z) (rm.mono (by decide)) (by rfl) Z.g_is_whole Z.F_is_whole.kp Z.b_is_whole .nil pass0 (pa_cons (pv 1) pa_nil)) (by intro _; rfl))) (pw_or1 (pt_not (pt_chain op_le op_ltG pe_int (pv 1) (pe_callB (call_lenK K) (by rfl) Z.n_len PySem.boot_len (pa_cons (pe_fld (pv 0) rfl) pa_nil)))))))
        (pss_one (ps_rz rfl (takes_of rfl rfl rfl rfl) ⟨Z.xx_NoIndex, Z.xa_NoIndex.k, Z.xa_NoIndex.b, Z.xa_NoIndex.t⟩ Z.gc_NoIndex (by rfl) (pa_cons (pe_strL (l := [116, 104, 101, 114, 101, 32, 105, 115, 32, 110, 111, 32, 115, 117, 99, 104, 32, 116, 111, 108, 100, 32, 114, 111, 119]) (by decide +kernel)) pa_nil)))
        pss_nil)
      (pss_one (ps_ret (pe_makeX gg Z.mk_Rules (okx_Rules_init Z) rm (by rfl) Z.gc_Rules Z.b_Rules_init .nil (fun σ => passS (takes_of rfl rfl rfl rfl) σ) (pa_cons (pe_fld (pv 0) rfl) (pa_cons (pe_op (op_addK K) (pe_slice (sl_K K) (pe_fld (pv 0) rfl) po_none (po_some (pv 1))) (pe_slice (sl_K K) (pe_fld (pv 0) rfl) (po_some (pe_op (op_addK K) (pv 1) pe_int)) po_none)) pa_nil)))))), ?_⟩
    rw [show L2.start N_Rules_without [.ref x, v] = [some (.ref x), some (v)] from rfl]
    rcases hq with ⟨i, rfl, hi, q⟩ | ⟨hv, q⟩
    · have hC := cA_eq Z.ns_Rules
      obtain ⟨dx, v, ex, tv, ha, ht⟩ := hx
      have ex0 := ex
      rw [hC] at ex
      have h6 := ht.1
      obtain ⟨p, rfl, ep⟩ := tv.tr (by intro z; have := congrArg List.length z; simp at this; subst this; simp at hi)
      walk_at "go"
      refine ⟨_, rfl, .inl ⟨_, rfl, ?_⟩⟩
      walk_at "go"
      rw [decide_eq_true (show (0 : Int) ≤ (i : Int) by omega)]
      walk_at "go"
      refine r_fldI ex Z.cl_Rules Z.na_Rules_told (fld2 (by decide +kernel)) ?_
      walk_at "go"
      rw [List.length_map, decide_eq_true (show (i : Int) < (rs.length : Int) by omega)]
      walk_at "go"
      refine r_fldI ex Z.cl_Rules Z.na_Rules_alphabet fld1 ?_
      walk_at "go"
      refine r_fldI ex Z.cl_Rules Z.na_Rules_told (fld2 (by decide +kernel)) ?_
      walk_at "go"
      refine r_slTto ep fun p1 H1 s1 f1 => ?_
      walk_at "go"
      refine r_fldI (s1 _ _ ex) Z.cl_Rules Z.na_Rules_told (fld2 (by decide +kernel)) ?_
      walk_at "go"
      refine r_slTfr (s1 _ _ ep) fun p2 H2 s2 f2 => ?_
      walk_at "go"
      refine r_addTt (s2 _ _ f1) f2 (by simp; omega) fun p3 H3 s3 f3 => ?_
      have s03 : Same H H3 := s1.trans (s2.trans s3)
      walk_at "go"
      intro z dz nz ndz hdz
      have s4 : Same H3 (upd (upd H3 dz (.own z)) z (.ins Z.a_Rules dz [])) := (Same.new1 ndz).new (by rw [upd_ne hdz.symm]; exact nz)
      have ez : (upd (upd H3 dz (.own z)) z (.ins Z.a_Rules dz [])) z = some (.ins Z.a_Rules dz []) := upd_same
      generalize upd (upd H3 dz (.own z)) z (.ins Z.a_Rules dz []) = H4 at s4 ez ⊢
      have hT : Told a (rs.take i ++ rs.drop (i + 1)) := Told.sublist ht (drop_sub rs i)
      have f3' : H3 p3 = some (.tup ((rs.take i ++ rs.drop (i + 1)).map T)) := by rw [f3, List.map_append, List.map_take, List.map_drop]
      refine ⟨z, _, dz, T a, .ref p3, rfl, ez, Z.ns_Rules, .inr ⟨a, rfl, ha, .inl ⟨p3, rs.take i ++ rs.drop (i + 1), rfl, s4 _ _ f3', hT, fun H5 e5 k5 => ⟨rfl, ?_⟩⟩⟩⟩
      have s35 : Same H3 H5 := fun c o hc => k5 c o (by rintro rfl; rw [nz] at hc; cases hc) (s4 _ _ hc)
      exact q z H5 (s03.free nz) (s03.trans s35) ⟨dz, .ref p3, by rw [hC]; exact e5, TupV.of (s35 _ _ f3'), ha, hT⟩
    · have hC := cA_eq Z.ns_Rules
      obtain ⟨dx, u, ex, tv, ha, ht⟩ := hx
      have ex0 := ex
      rw [hC] at ex
      have h6 := ht.1
      obtain ⟨p, rfl⟩ := tv.ref
      have tq := tv.sq
      walk_at "go"
      rcases hv with ⟨i, rfl, hi⟩ | hv
      · refine ⟨_, rfl, .inl ⟨i, rfl, ?_⟩⟩
        walk_at "go"
        refine r_ifd (fun c => ?_) (fun c => ?_)
        · walk_at "go"
          refine r_fldI ex Z.cl_Rules Z.na_Rules_told (fld2 (by decide +kernel)) ?_
          walk_at "go"
          rw [List.length_map, decide_eq_false (show ¬ (i < (rs.length : Int)) by omega)]
          walk_at "go"
          rw [← cA_eq Z.ns_NoIndex]
          exact q _ (Same.refl _)
        · walk_at "go"
          rw [← cA_eq Z.ns_NoIndex]
          exact q _ (Same.refl _)
      · refine ⟨_, rfl, .inr ⟨hv, ?_⟩⟩
        walk_at "go"
        rw [← cA_eq Z.ns_NoIndex]
        exact q _ (Same.refl _)
/-! ### index_or_none X -/
def spx_index_or_none (K : PySem.W.Frag) : Sp := fun vs H Q E => ∃ l : List Nat, vs = [T l] ∧ l.length ≤ 100000 ∧ ((∃ n : Nat, l.length ≤ 2 ∧ numL l = some n ∧ ∀ H', Same H H' → Q (.int (n : Nat)) H') ∨ ((2 < l.length ∨ numL l = none) ∧ ∀ H', Same H H' → E (.ref (cA K "NoOrder")) none H'))
set_option maxHeartbeats 4000000 in
theorem okx_index_or_none (Z : Tx K mg) : FnG P w K mg base (L2.CX P w) 2 Z.a_index_or_none Z.d_index_or_none ["words"] (spx_index_or_none K) := by
  refine funGX Z.F_index_or_none sc_index_or_none (fun vs H Q E h => ?_) (fun cdv A outer s H vs Q E gg rm h => ?_)
  · obtain ⟨l, rfl, hl, hq⟩ := h; rfl
  · obtain ⟨l, rfl, hl, hq⟩ := h
    refine ⟨_,
      (pss_cons (ps_set (i := 1) sc_index_or_none.nd rfl (.inl rfl) (pe_ifExp (pt_cmpR op_le (pe_callB (call_lenK K) (by rfl) Z.n_len PySem.boot_len (pa_cons (pv 0) pa_nil)) (pe_glob (v := .int 2) (by rfl) Z.g_MOST_DIGITS ⟨_, rfl⟩) (nomark _)) (pe_callG gg (ok_number_in Z) rm (by rfl) Z.g_number_in Z.F_number_in.kp Z.b_number_in .nil pass0 (pa_cons (pv 0) pa_nil)) pe_non))
      (pss_cons (ps_if (pt_cmpR op_isG (pv 1) pe_non (nomark _))
        (pss_one (ps_rz rfl (takes_of rfl rfl rfl rfl) ⟨Z.xx_NoOrder, Z.xa_NoOrder.k, Z.xa_NoOrder.b, Z.xa_NoOrder.t⟩ Z.gc_NoOrder (by rfl) (pa_cons (pe_strL (l := [116, 104, 101, 114, 101, 32, 105, 115, 32, 110, 111, 32, 115, 117, 99, 104, 32, 111, 114, 100, 101, 114]) (by decide +kernel)) pa_nil)))
        pss_nil)
      (pss_one (ps_ret (pv 1))))), ?_⟩
    rw [show L2.start N_index_or_none [T l] = [some (T l), none] from rfl]
    walk_at "go"
    rcases hq with ⟨n, h2, e, q⟩ | ⟨h, q⟩
    · rw [decide_eq_true (show (l.length : Int) ≤ 2 by omega)]
      walk_at "go"
      refine ⟨l, rfl, by omega, fun H1 s1 => ?_⟩
      rw [e, show oV (some n) = V.int (n : Nat) from rfl]
      walk_at "go"
      refine r_isIN ?_
      walk_at "go"
      exact q _ s1
    · by_cases h2 : l.length ≤ 2
      · rw [decide_eq_true (show (l.length : Int) ≤ 2 by omega)]
        walk_at "go"
        refine ⟨l, rfl, by omega, fun H1 s1 => ?_⟩
        rw [h.resolve_left (by omega), show oV none = V.non from rfl]
        walk_at "go"
        rw [← cA_eq Z.ns_NoOrder]
        exact q _ s1
      · rw [decide_eq_false (show ¬ (l.length : Int) ≤ 2 by omega)]
        walk_at "go"
        rw [← cA_eq Z.ns_NoOrder]
        exact q _ (Same.refl _)
/-! ### Desk.row_dropped X -/
def spx_Desk_row_dropped (K : PySem.W.Frag) : Sp := fun vs H Q E => ∃ (x p r : Addr) (w l a : List Nat) (n : Nat) (rs : List (List Nat)) (S : List (Addr × List Nat)), vs = [.ref x, T l] ∧ DskO (cA K "Desk") H x p r w S ∧ RulO K (cA K "Rules") H r a rs ∧ S.length < 100000 ∧ l.length ≤ 2 ∧ numL l = some n ∧
  (rs.length ≤ n → ∀ H', Same H H' → E (.ref (cA K "NoIndex")) none H') ∧
  (n < rs.length → ∀ y H', H y = none → Kx [x, p] H H' → RulO K (cA K "Rules") H' y a (rs.take n ++ rs.drop (n + 1)) → DskO (cA K "Desk") H' x p y w (S ++ [(r, w)]) → Q (T ([114, 111, 119, 115, 32] ++ dec (rs.length - 1))) H')
set_option maxHeartbeats 4000000 in
theorem okx_Desk_row_dropped (Z : Tx K mg) : FnG P w K mg base (L2.CX P w) 8 Z.a_Desk_row_dropped Z.d_Desk_row_dropped ["self", "words"] (spx_Desk_row_dropped K) := by
  refine funGX Z.F_Desk_row_dropped sc_Desk_row_dropped (fun vs H Q E h => ?_) (fun cdv A outer s H vs Q E gg rm h => ?_)
  · obtain ⟨x, p, r, w, l, a, n, rs, S, rfl, hd, hr, hS, hl, hu, q1, q2⟩ := h; rfl
  · obtain ⟨x, p, r, w, l, a, n, rs, S, rfl, hd, hr, hS, hl, hu, q1, q2⟩ := h
    refine ⟨_,
      (pss_cons (ps_expr (pe_methX gg (pv 0) Z.cl_Desk Z.me_Desk_turn_to (ok_Desk_turn_to Z) (rm.mono (by decide)) Z.b_Desk_turn_to .nil (fun _ => pass0S) (pa_cons (pe_methX gg (pe_fld (pv 0) rfl) Z.cl_Rules Z.me_Rules_without (okx_Rules_without Z) rm Z.b_Rules_without .nil (fun σ => passS (takes_of rfl rfl rfl rfl) σ) (pa_cons (pe_callX gg (okx_index_or_none Z) (rm.mono (by decide)) (by rfl) Z.g_index_or_none Z.F_index_or_none.kp Z.b_index_or_none .nil (fun σ => passS (takes_of rfl rfl rfl rfl) σ) (pa_cons (pv 1) pa_nil)) pa_nil)) (pa_cons (pe_fld (pv 0) rfl) pa_nil))))
      (pss_one (ps_ret (pe_joined (PJ.cons (pe_strL (l := [114, 111, 119, 115, 32]) (by decide +kernel)) (PJ.cons (pe_fmt (pe_callB (call_lenK K) (by rfl) Z.n_len PySem.boot_len (pa_cons (pe_meth0G gg (pe_fld (pv 0) rfl) Z.cl_Rules Z.me_Rules_rows (ok_Rules_rows Z) (rm.mono (by decide)) Z.b_Rules_rows .nil pass0) pa_nil))) PJ.nil)))))), ?_⟩
    rw [show L2.start N_Desk_row_dropped [.ref x, T l] = [some (.ref x), some (T l)] from rfl]
    obtain ⟨dx, ex⟩ := hd.ins
    rw [cA_eq Z.ns_Desk] at ex
    obtain ⟨ps, ep⟩ := hd.lst
    walk_at "go"
    refine r_methI ex (lk3 (by decide +kernel) (by decide +kernel) (by decide +kernel)) ?_
    walk_at "go"
    refine r_fldI ex Z.cl_Desk Z.na_Desk_work ds_work ?_
    obtain ⟨dr, v, er, tv, ha, ht⟩ := id hr
    have er0 := er
    rw [cA_eq Z.ns_Rules] at er0
    have hC := cA_eq Z.ns_Rules
    have h6 := ht.1
    walk_at "go"
    refine r_methI er0 (lk2 (by decide +kernel) (by decide +kernel)) ?_
    walk_at "go"
    refine ⟨l, rfl, by omega, .inl ⟨n, hl, hu, fun H1 s1 => ?_⟩⟩
    have hd1 := hd.same s1
    have hr1 := hr.same s1
    walk_at "go"
    refine ⟨r, _, a, rs, rfl, hr1, ?_⟩
    by_cases hn : n < rs.length
    · refine .inl ⟨n, rfl, hn, fun y H2 ny s2 hy => ?_⟩
      have hd2 := hd1.same s2
      have hyx := hy.ne_dsk hd2
      obtain ⟨ps2, ep2⟩ := hd2.lst
      have hyp := hy.ne_lst ep2
      obtain ⟨dx2, ex2⟩ := hd2.ins
      rw [cA_eq Z.ns_Desk] at ex2
      walk_at "go"
      refine r_fldI ex2 Z.cl_Desk Z.na_Desk_word ds_word ?_
      walk_at "go"
      refine ⟨x, p, r, y, w, w, S, rfl, hd2, hS, fun H5 k5 d5 => ?_⟩
      have hz5 := hy.kx k5 (by simp [hyx, hyp])
      obtain ⟨dx5, ex5⟩ := d5.ins
      rw [cA_eq Z.ns_Desk] at ex5
      obtain ⟨dz5, v5, ez5, tv5, _, _⟩ := id hz5
      have ez50 := ez5
      rw [hC] at ez50
      obtain ⟨pv5, rfl⟩ := tv5.ref
      have tq5 := tv5.sq
      walk_at "go"
      refine r_fldI ex5 Z.cl_Desk Z.na_Desk_work ds_work ?_
      walk_at "go"
      refine r_methI ez50 (lk2 (by decide +kernel) (by decide +kernel)) ?_
      refine ⟨y, dz5, _, _, rfl, ez5, ?_⟩
      walk_at "go"
      rw [show (List.map T (rs.take n ++ rs.drop (n + 1))).length = rs.length - 1 by simp; omega]
      refine r_fmtI (by omega) ?_
      refine r_jsT (by have := dec_short (n := rs.length - 1) (by omega); simp; omega) ?_
      exact q2 hn y _ (s1.free ny) ((Kx.of (s1.trans s2)).trans k5) hz5 d5
    · exact .inr ⟨.inl ⟨n, rfl, by omega⟩, fun H2 s2 => q1 (by omega) _ (s1.trans s2)⟩
/-! ### least_of -/
def sp_least_of (_ : PySem.W.Frag) : Sp := fun vs H Q _ => ∃ l : List Nat, vs = [T l] ∧ Row l ∧ l.length ≤ 5000000 ∧ ∀ H', Same H H' → Q (T (red l)) H'
set_option maxHeartbeats 4000000 in
theorem ok_least_of (Z : Tx K mg) : FnG P w K mg base CX0 1 Z.a_least_of Z.d_least_of ["row"] (sp_least_of K) := by
  refine funG Z.F_least_of sc_least_of (fun vs H Q E h => ?_) (fun cdv A outer s H vs Q E gg rm h => ?_)
  · obtain ⟨l, rfl, ha, hl, q⟩ := h; rfl
  · obtain ⟨l, rfl, ha, hl, q⟩ := h
    refine ⟨_,
      (pss_cons (ps_set (i := 1) sc_least_of.nd rfl (.inl rfl) (pe_lst pa_nil))
      (pss_cons (ps_for PassesOwn.never rfl (pi_K K (pv 0)) (pg_name (i := 2) sc_least_of.nd rfl (.inl rfl))
        (pss_one (ps_if (PW.pt (pw_and (pt_cmpR (op_neK K (hu_of64 rm)) (pv 1) (pe_lst pa_nil) (nomark _)) (pw_and1 (pt_cmpR (op_eqK K (hu_of64 rm)) (pe_ix (ix_K K) (pv 1) (pe_un un_neg pe_int) (fun _ _ => rfl)) (pe_bm0K K PySem.F.plainAttrs_str PySem.F.slot_str_swapcase PySem.F.type_str_swapcase mt_swapL (pv 2)) (nomark _)))))
          (pss_one (ps_expr (pe_bm0K K PySem.F.plainAttrs_list PySem.F.slot_list_pop PySem.F.type_list_pop mt_pop (pv 1))))
          (pss_one (ps_expr (pe_bmK K PySem.F.plainAttrs_list PySem.F.slot_list_append PySem.F.type_list_append mt_append (pv 1) (pa_cons (pv 2) pa_nil)))))))
      (pss_one (ps_ret (pe_joinK K (pe_strL (l := []) (by decide +kernel)) (pv 1)))))), ?_⟩
    rw [show L2.start N_least_of [T l] = [some (T l), none, none] from rfl]
    walk_at "go"
    intro p np
    walk_at "go"
    refine for_known (known_str l) (fun i σ H' => ∃ x, σ = [some (T l), some (.ref p), x] ∧ Same H H' ∧ H' p = some (.lst ((stk (l.take i)).reverse.map fun c => T [c])))
      ⟨none, rfl, Same.new1 np, by rw [upd_same]; rfl⟩ (fun _ _ _ _ _ => trivial) ?_ ?_
    · rintro i σ H' hi ⟨x, rfl, sm, eK⟩
      have hsn := take_snoc (getD_some hi)
      have hc : lett (l.getD i 0) = true := ha _ (getD_mem hi)
      have hr : Row (stk (l.take i)) := stk_row (ha.take i)
      have hlen : (stk (l.take i)).length ≤ l.length := Nat.le_trans (stk_len _) (by rw [List.length_take]; omega)
      rw [hsn, stk_snoc]
      generalize l.getD i 0 = c at hc
      generalize stk (l.take i) = s at eK hr hlen
      walk_at "go"
      intro e ne
      have npe : p ≠ e := ne_of_none eK ne
      have eK' : (upd H' e (.lst [])) p = some (.lst (s.reverse.map fun c => T [c])) := by rw [upd_ne npe]; exact eK
      have sm' : Same H (upd H' e (.lst [])) := sm.new ne
      refine r_neLs (as := s.reverse.map fun c => [c]) (bs := []) (SqL.of (by rw [eK', ones_T])) (SqL.of upd_same) (fun x hx => ?_) (fun x hx => nomatch hx) ?_
      · obtain ⟨d, hd, rfl⟩ := List.mem_map.mp hx
        exact (Row.one (hr.rev d hd)).asc
      walk_at "go"
      cases s with
      | nil =>
        rw [decide_eq_true (show (([] : List Nat).reverse.map fun c => [c]) = [] from rfl)]
        walk_at "go"
        refine r_append eK' (by simp) ?_
        exact ⟨_, rfl, sm'.mut np, by rw [upd_same]; rfl⟩
      | cons t r =>
        rw [decide_eq_false (show ¬ (((t :: r).reverse.map fun c => [c]) = []) by simp)]
        walk_at "go"
        refine r_ixL (SqL.of eK') (last_rev rfl) ?_
        walk_at "go"
        refine r_map (Row.one hc).asc (by simp) ?_
        show NX.rEqG _ (T [t]) (T [swp c]) _ _
        walk_at "go"
        rw [push_cons]
        refine r_ifd (fun h => ?_) (fun h => ?_)
        · have h' : t = swp c := by injection h
          rw [if_pos h']
          walk_at "go"
          refine r_pop eK' (pop_rev rfl).1 ?_
          exact ⟨_, rfl, sm'.mut np, by rw [upd_same, (pop_rev rfl).2]⟩
        · have h' : ¬ t = swp c := fun e => h (by rw [e])
          rw [if_neg h']
          walk_at "go"
          refine r_append eK' (by simp only [List.length_map, List.length_reverse]; omega) ?_
          exact ⟨_, rfl, sm'.mut np, by rw [upd_same]; simp⟩
    · rintro σ H' ⟨x, rfl, sm, eK⟩
      rw [List.take_length] at eK
      walk_at "go"
      refine r_join0 (ls := (red l).map fun c => [c]) (SqL.of (by rw [eK, ← ones_T]; rfl)) (by rw [ones_flat]; have := red_len l; omega) ?_
      rw [ones_flat]
      exact q _ sm
/-! ### is_row -/
def sp_is_row (_ : PySem.W.Frag) : Sp := fun vs H Q _ => ∃ l : List Nat, vs = [T l] ∧ Asc l ∧ l.length ≤ 5000000 ∧ ∀ H', Same H H' → Q (.bl (l.all lett)) H'
set_option maxHeartbeats 4000000 in
theorem ok_is_row (Z : Tx K mg) : FnG P w K mg base CX0 1 Z.a_is_row Z.d_is_row ["value"] (sp_is_row K) := by
  refine funG Z.F_is_row sc_is_row (fun vs H Q E h => ?_) (fun cdv A outer s H vs Q E gg rm h => ?_)
  · obtain ⟨l, rfl, ha, hl, q⟩ := h; rfl
  · obtain ⟨l, rfl, ha, hl, q⟩ := h
    refine ⟨_,
      (pss_one (ps_ret (pe_andK K (pe_callB (call_isXK K) (by rfl) Z.n_isinstance (by decide +kernel) (pa_cons (pv 0) (pa_cons (pe_bltn (v := .ty "str") (u := .type "str") (by rfl) Z.n_str (by decide +kernel) rfl) pa_nil))) (pe_one (pe_callB (cr_allK K rfl) (by rfl) Z.n_all (by decide +kernel) (pa_cons (pe_lc (own := [("sign", 1)]) (g := gName 1) (tt := tYes) rfl sc_is_row.nd (pi_K K (pv 0)) (blkOk_by (N := N_is_row) (sc := defScope s_is_row) (by decide +kernel)) (fun _ _ _ _ _ => pg_name (i := 1) sc_is_row.nd rfl (Or.inl rfl)) (fun _ _ _ _ _ => pts_nil) (fun _ _ _ _ _ => (pe_orK K (pe_cmpR (op_inK K) (pv 1) (pe_glob (v := .str k_LOW) (by rfl) Z.g_LOW ⟨_, rfl⟩) (by rfl)) (pe_one (pe_cmpR (op_inK K) (pv 1) (pe_glob (v := .str k_HIGH) (by rfl) Z.g_HIGH ⟨_, rfl⟩) (by rfl)))))) pa_nil)))))), ?_⟩
    rw [show L2.start N_is_row [T l] = [some (T l), none] from rfl]
    walk_at "go"
    refine lc_known (known_str l) (fun i => some (.bl (lett (l.getD i 0)))) (by omega) (fun _ _ => trivial) (fun i H2 QT hi sm hk => ?_) (fun D H' nD sm eD => ?_)
    · walk_at "go"
      have hk1 := hk H2 (Same.refl H2)
      refine r_ifd (fun c => ?_) (fun c => ?_)
      · have e : lett (l.getD i 0) = true := lett_iff.mpr (.inr (in_low.mp c))
        rw [e] at hk1
        rw [decide_eq_true c]; exact hk1
      · walk_at "go"
        have e : lett (l.getD i 0) = decide (l.getD i 0 ∈ ([65, 66, 67, 68, 69, 70, 71, 72, 73, 74, 75, 76, 77, 78, 79, 80, 81, 82, 83, 84, 85, 86, 87, 88, 89, 90] : List Nat)) := by
          rw [Bool.eq_iff_iff, lett_iff, decide_eq_true_iff, in_high]
          have h97 : ¬ (97 ≤ l.getD i 0 ∧ l.getD i 0 ≤ 122) := fun h => c (in_low.mpr h)
          omega
        rw [e] at hk1
        exact hk1
    · walk_at "go"
      rw [fm_range l (fun c => .bl (lett c)) 0] at eD
      refine r_all (bs := l.map lett) (SqL.of (by rw [eD, List.map_map]; rfl)) ?_
      rw [List.all_map]
      exact q _ sm
/-! ### check_row -/
def sp_check_row (_ : PySem.W.Frag) : Sp := fun vs H Q _ => ∃ l : List Nat, vs = [T l] ∧ Row l ∧ l.length ≤ 5000000 ∧ ∀ H', Same H H' → Q .non H'
set_option maxHeartbeats 4000000 in
theorem ok_check_row (Z : Tx K mg) : FnG P w K mg base CX0 2 Z.a_check_row Z.d_check_row ["value"] (sp_check_row K) := by
  refine funG Z.F_check_row sc_check_row (fun vs H Q E h => ?_) (fun cdv A outer s H vs Q E gg rm h => ?_)
  · obtain ⟨l, rfl, ha, hl, q⟩ := h; rfl
  · obtain ⟨l, rfl, ha, hl, q⟩ := h
    refine ⟨_,
      (pss_one (ps_if (pt_not (pt_truK K (pe_callG gg (ok_is_row Z) rm (by rfl) Z.g_is_row Z.F_is_row.kp Z.b_is_row .nil pass0 (pa_cons (pv 0) pa_nil)) (by intro _; rfl)))
        (pss_one (ps_never))
        pss_nil)), ?_⟩
    rw [show L2.start N_check_row [T l] = [some (T l)] from rfl]
    walk_at "go"
    refine ⟨l, rfl, ha.asc, hl, fun H1 s1 => ?_⟩
    rw [show l.all lett = true from List.all_eq_true.mpr ha]
    walk_at "go"
    exact q _ s1
/-! ### stretch -/
def sp_stretch (_ : PySem.W.Frag) : Sp := fun vs H Q _ => ∃ (l : List Nat) (p : Nat), vs = [T l, .int (p : Nat)] ∧ p < l.length ∧ l.length ≤ 100000 ∧ Q (.int (run (l.drop p) : Nat)) H
set_option maxHeartbeats 4000000 in
theorem ok_stretch (Z : Tx K mg) : FnG P w K mg base CX0 1 Z.a_stretch Z.d_stretch ["row", "place"] (sp_stretch K) := by
  refine funG Z.F_stretch sc_stretch (fun vs H Q E h => ?_) (fun cdv A outer s H vs Q E gg rm h => ?_)
  · obtain ⟨l, p, rfl, hp, hl, q⟩ := h; rfl
  · obtain ⟨l, p, rfl, hp, hl, q⟩ := h
    refine ⟨_,
      (pss_cons (ps_set (i := 2) sc_stretch.nd rfl (.inl rfl) pe_int)
      (pss_cons (ps_while PassesOwn.never (PW.pt (pw_and (pt_cmpR op_ltG (pe_op (op_addK K) (pv 1) (pv 2)) (pe_callB (call_lenK K) (by rfl) Z.n_len PySem.boot_len (pa_cons (pv 0) pa_nil)) (nomark _)) (pw_and1 (pt_cmpR (op_eqK K (hu_of64 rm)) (pe_ix (ix_K K) (pv 0) (pe_op (op_addK K) (pv 1) (pv 2)) (fun _ _ => rfl)) (pe_ix (ix_K K) (pv 0) (pv 1) (fun _ _ => rfl)) (nomark _)))))
        (pss_one (ps_set (i := 2) sc_stretch.nd rfl (.inl rfl) (pe_op (op_addK K) (pv 2) pe_int))))
      (pss_one (ps_ret (pv 2))))), ?_⟩
    rw [show L2.start N_stretch [T l, .int (p : Nat)] = [some (T l), some (.int (p : Nat)), none] from rfl]
    have hd : ∀ i, (l.drop p).getD i 0 = l.getD (p + i) 0 := fun i => by rw [List.getD_eq_getElem?_getD, List.getElem?_drop, ← List.getD_eq_getElem?_getD]
    walk_at "go"
    refine r_while (fun m σ H' => ∃ k : Nat, σ = [some (T l), some (.int (p : Nat)), some (.int (k : Nat))] ∧ m + k = l.length ∧ H' = H ∧ 0 < k ∧ p + k ≤ l.length ∧ ∀ i, i < k → l.getD (p + i) 0 = l.getD p 0) (l.length - 1) ⟨1, rfl, by omega, rfl, by omega, by omega, fun i hi => by rw [show p + i = p by omega]⟩ ?_
    rintro m σ H' ⟨k, rfl, hm, rfl, h0, hk, hall⟩
    have hdrop : (l.drop p).length = l.length - p := List.length_drop
    walk_at "go"
    refine r_ifd (fun c1 => ?_) (fun c1 => ?_)
    · walk_at "go"
      refine r_ixS (by omega) (at_nat (by omega) (by omega)) ?_
      walk_at "go"
      refine r_ixS (by omega) (at_nat (by omega) (by omega)) ?_
      rw [Int.toNat_natCast, show ((p : Int) + (k : Int)).toNat = p + k by omega]
      walk_at "go"
      refine r_ifd (fun c => ?_) (fun c => ?_)
      · walk_at "go"
        refine ⟨m - 1, by omega, k + 1, rfl, by omega, rfl, by omega, by omega, fun i hi => ?_⟩
        by_cases e : i = k
        · rw [e]; exact (List.cons.inj c).1
        · exact hall i (by omega)
      · walk_at "go"
        rw [run_eq (l := l.drop p) (n := k) h0 (by omega) (fun i hi => by rw [hd, hd, hall i hi]; rfl) (.inr (by rw [hd, hd]; exact fun z => c (by rw [z]; rfl)))] at q
        exact q
    · walk_at "go"
      rw [run_eq (l := l.drop p) (n := k) h0 (by omega) (fun i hi => by rw [hd, hd, hall i hi]; rfl) (.inl (by omega))] at q
      exact q
/-! ### written -/
def sp_written (_ : PySem.W.Frag) : Sp := fun vs H Q _ => ∃ l : List Nat, vs = [T l] ∧ l.length ≤ 100000 ∧ ∀ H', Same H H' → Q (T (short l)) H'
set_option maxHeartbeats 4000000 in
theorem ok_written (Z : Tx K mg) : FnG P w K mg base CX0 2 Z.a_written Z.d_written ["row"] (sp_written K) := by
  refine funG Z.F_written sc_written (fun vs H Q E h => ?_) (fun cdv A outer s H vs Q E gg rm h => ?_)
  · obtain ⟨l, rfl, hl, q⟩ := h; rfl
  · obtain ⟨l, rfl, hl, q⟩ := h
    refine ⟨_,
      (pss_cons (ps_par (i := 1) (j := 2) (by rfl) sc_written.nd rfl rfl (by decide) rfl rfl (pa_cons (pe_lst pa_nil) (pa_cons pe_int pa_nil)) (by rfl))
      (pss_cons (ps_while PassesOwn.never (pt_cmpR op_ltG (pv 2) (pe_callB (call_lenK K) (by rfl) Z.n_len PySem.boot_len (pa_cons (pv 0) pa_nil)) (nomark _))
        (pss_cons (ps_set (i := 3) sc_written.nd rfl (.inl rfl) (pe_callG gg (ok_stretch Z) rm (by rfl) Z.g_stretch Z.F_stretch.kp Z.b_stretch .nil pass0 (pa_cons (pv 0) (pa_cons (pv 2) pa_nil))))
        (pss_cons (ps_expr (pe_bmK K PySem.F.plainAttrs_list PySem.F.slot_list_append PySem.F.type_list_append mt_append (pv 1) (pa_cons (pe_ifExp (pt_cmpR (op_eqK K (hu_of64 rm)) (pv 3) pe_int (nomark _)) (pe_ix (ix_K K) (pv 0) (pv 2) (fun _ _ => rfl)) (pe_joined (PJ.cons (pe_fmt (pe_ix (ix_K K) (pv 0) (pv 2) (fun _ _ => rfl))) (PJ.cons (pe_fmt (pv 3)) PJ.nil)))) pa_nil)))
        (pss_one (ps_set (i := 2) sc_written.nd rfl (.inl rfl) (pe_op (op_addK K) (pv 2) (pv 3)))))))
      (pss_one (ps_ret (pe_ifExp (pt_cmpR (op_eqK K (hu_of64 rm)) (pv 0) (pe_strL (l := []) (by decide +kernel)) (nomark _)) (pe_glob (v := .str k_EMPTY) (by rfl) Z.g_EMPTY ⟨_, rfl⟩) (pe_joinK K (pe_strL (l := []) (by decide +kernel)) (pv 1))))))), ?_⟩
    rw [show L2.start N_written [T l] = [some (T l), none, none, none] from rfl]
    walk_at "go"
    intro p np
    generalize hh : upd _ p _ = H1
    obtain ⟨s1, e1⟩ := new_eq np hh
    walk_at "go"
    refine r_while (fun m σ H' => ∃ (k : Nat) (ps : List (List Nat)) (x : Option V), σ = [some (T l), some (.ref p), some (.int (k : Nat)), x] ∧ m + k = l.length ∧ Same H H' ∧ H' p = some (.lst (ps.map T)) ∧ ps.length ≤ k ∧ ps.flatten ++ wrt (l.drop k) = wrt l) l.length ⟨0, [], none, rfl, by omega, s1, e1, by simp, by simp⟩ ?_
    rintro m σ H' ⟨k, ps, x, rfl, hm, sm, ep, hpk, hw⟩
    walk_at "go"
    refine r_ifd (fun c => ?_) (fun c => ?_)
    · have hk : k < l.length := by omega
      have hne : l.drop k ≠ [] := by
        intro z
        have := congrArg List.length z
        rw [List.length_drop, List.length_nil] at this
        omega
      have hr1 := run_pos hne
      have hr2 := run_le (l.drop k)
      rw [List.length_drop] at hr2
      have hgd : (l.drop k).getD 0 0 = l.getD k 0 := by rw [List.getD_eq_getElem?_getD, List.getElem?_drop, ← List.getD_eq_getElem?_getD]; rfl
      rw [wrt_ne hne, List.drop_drop, hgd] at hw
      walk_at "go"
      refine ⟨l, k, rfl, hk, hl, ?_⟩
      have hrb : run (l.drop k) < 10 ^ 9 := by omega
      generalize run (l.drop k) = r at *
      have fin : ∀ s : List Nat, s = [l.getD k 0] ++ (if r = 1 then [] else dec r) → ∀ H2, Same H H2 → H2 p = some (.lst ((ps ++ [s]).map T)) → ∃ m', m' < m ∧ ∃ (k' : Nat) (ps : List (List Nat)) (x : Option V), [some (T l), some (.ref p), some (.int ((k : Int) + (r : Int))), some (.int (r : Int))] = [some (T l), some (.ref p), some (.int (k' : Nat)), x] ∧ m' + k' = l.length ∧ Same H H2 ∧ H2 p = some (.lst (ps.map T)) ∧ ps.length ≤ k' ∧ ps.flatten ++ wrt (l.drop k') = wrt l := by
        intro s hs H2 s2 e2
        refine ⟨m - r, by omega, k + r, ps ++ [s], _, rfl, by omega, s2, e2, by rw [List.length_append]; simp only [List.length_singleton]; omega, ?_⟩
        rw [hs, List.flatten_append, ← hw]
        simp [List.append_assoc]
      walk_at "go"
      refine r_ifd (fun c2 => ?_) (fun c2 => ?_)
      · have hr : r = 1 := by omega
        subst hr
        walk_at "go"
        refine r_ixS (by omega) (at_nat (by omega) (by omega)) ?_
        rw [Int.toNat_natCast]
        walk_at "go"
        refine r_append ep (by rw [List.length_map]; omega) ?_
        walk_at "go"
        exact fin [l.getD k 0] rfl _ (sm.mut np) (by rw [upd_same]; simp)
      · walk_at "go"
        refine r_ixS (by omega) (at_nat (by omega) (by omega)) ?_
        rw [Int.toNat_natCast]
        have hdl : (dec r).length ≤ 9 := dec_len (by decide) hrb
        walk_at "go"
        refine r_append ep (by rw [List.length_map]; omega) ?_
        walk_at "go"
        exact fin ([l.getD k 0] ++ dec r) (by rw [if_neg (by omega)]) _ (sm.mut np) (by rw [upd_same]; simp)
    · have hk : k = l.length := by omega
      subst hk
      have hz : wrt ([] : List Nat) = [] := by rw [wrt]
      rw [List.drop_length, hz, List.append_nil] at hw
      unfold short at q
      walk_at "go"
      refine r_ifd (fun c2 => ?_) (fun c2 => ?_)
      · rw [if_pos c2] at q
        walk_at "go"
        exact q _ sm
      · rw [if_neg c2] at q
        have hwl := wrt_len l.length l (Nat.le_refl _) (by omega)
        walk_at "go"
        refine r_join0 (SqL.of ep) (by rw [hw]; omega) ?_
        rw [hw]
        exact q _ sm
/-! ### row_text -/
def sp_row_text (_ : PySem.W.Frag) : Sp := fun vs H Q _ => ∃ l : List Nat, vs = [T l] ∧ Row l ∧ l.length ≤ 100000 ∧ ∀ H', Same H H' → Q (T (short l)) H'
set_option maxHeartbeats 4000000 in
theorem ok_row_text (Z : Tx K mg) : FnG P w K mg base CX0 3 Z.a_row_text Z.d_row_text ["row"] (sp_row_text K) := by
  refine funG Z.F_row_text sc_row_text (fun vs H Q E h => ?_) (fun cdv A outer s H vs Q E gg rm h => ?_)
  · obtain ⟨l, rfl, ha, hl, q⟩ := h; rfl
  · obtain ⟨l, rfl, ha, hl, q⟩ := h
    refine ⟨_,
      (pss_cons (ps_expr (pe_callG gg (ok_check_row Z) rm (by rfl) Z.g_check_row Z.F_check_row.kp Z.b_check_row .nil pass0 (pa_cons (pv 0) pa_nil)))
      (pss_one (ps_ret (pe_callG gg (ok_written Z) rm (by rfl) Z.g_written Z.F_written.kp Z.b_written .nil pass0 (pa_cons (pv 0) pa_nil))))), ?_⟩
    rw [show L2.start N_row_text [T l] = [some (T l)] from rfl]
    walk_at "go"
    refine ⟨l, rfl, ha, by omega, fun H1 s1 => ?_⟩
    walk_at "go"
    exact ⟨l, rfl, hl, fun H2 s2 => q _ (s1.trans s2)⟩
/-! ### Desk.row_taken X -/
def spx_Desk_row_taken (K : PySem.W.Frag) : Sp := fun vs H Q E => ∃ (x p r : Addr) (w l u a : List Nat) (rs : List (List Nat)) (S : List (Addr × List Nat)), vs = [.ref x, T l] ∧ DskO (cA K "Desk") H x p r w S ∧ RulO K (cA K "Rules") H r a rs ∧ S.length < 100000 ∧ l.length ≤ 1000 ∧ anyL l = some u ∧ u.length ≤ 300 ∧
  (¬ RowOf a u → ∀ H', Same H H' → E (.ref (cA K "NoRow")) none H') ∧
  (RowOf a u → ∀ H', Kx [x, p] H H' → DskO (cA K "Desk") H' x p r (red u) (S ++ [(r, w)]) → Q (T ([114, 111, 119, 32] ++ short (red u))) H')
set_option maxHeartbeats 4000000 in
theorem okx_Desk_row_taken (Z : Tx K mg) : FnG P w K mg base (L2.CX P w) 7 Z.a_Desk_row_taken Z.d_Desk_row_taken ["self", "words"] (spx_Desk_row_taken K) := by
  refine funGX Z.F_Desk_row_taken sc_Desk_row_taken (fun vs H Q E h => ?_) (fun cdv A outer s H vs Q E gg rm h => ?_)
  · obtain ⟨x, p, r, w, l, u, a, rs, S, rfl, hd, hr, hS, hl, hu, hul, q1, q2⟩ := h; rfl
  · obtain ⟨x, p, r, w, l, u, a, rs, S, rfl, hd, hr, hS, hl, hu, hul, q1, q2⟩ := h
    refine ⟨_,
      (pss_cons (ps_set (i := 2) sc_Desk_row_taken.nd rfl (.inl rfl) (pe_callG gg (ok_least_of Z) (rm.mono (by decide)) (by rfl) Z.g_least_of Z.F_least_of.kp Z.b_least_of .nil pass0 (pa_cons (pe_methX gg (pv 0) Z.cl_Desk Z.me_Desk_row_read (okx_Desk_row_read Z) rm Z.b_Desk_row_read .nil (fun σ => passS (takes_of rfl rfl rfl rfl) σ) (pa_cons (pv 1) pa_nil)) pa_nil)))
      (pss_cons (ps_expr (pe_methX gg (pv 0) Z.cl_Desk Z.me_Desk_turn_to (ok_Desk_turn_to Z) (rm.mono (by decide)) Z.b_Desk_turn_to .nil (fun _ => pass0S) (pa_cons (pe_fld (pv 0) rfl) (pa_cons (pv 2) pa_nil))))
      (pss_one (ps_ret (pe_op (op_addK K) (pe_strL (l := [114, 111, 119, 32]) (by decide +kernel)) (pe_callG gg (ok_row_text Z) (rm.mono (by decide)) (by rfl) Z.g_row_text Z.F_row_text.kp Z.b_row_text .nil pass0 (pa_cons (pv 2) pa_nil))))))), ?_⟩
    rw [show L2.start N_Desk_row_taken [.ref x, T l] = [some (.ref x), some (T l), none] from rfl]
    obtain ⟨dx, ex⟩ := hd.ins
    rw [cA_eq Z.ns_Desk] at ex
    obtain ⟨_, _, _, _, ha, _⟩ := id hr
    walk_at "go"
    refine r_methI ex (lk3 (by decide +kernel) (by decide +kernel) (by decide +kernel)) ?_
    walk_at "go"
    refine ⟨x, p, r, w, l, a, rs, S, rfl, hd, hr, hl, ?_⟩
    by_cases ho : RowOf a u
    · refine Or3.inr ⟨u, hu, ho, hul, fun H1 s1 => ?_⟩
      have hd1 := hd.same s1
      have hrd := red_len u
      walk_at "go"
      refine ⟨u, rfl, ho.row ha, by omega, fun H2 s2 => ?_⟩
      have hd2 := hd1.same s2
      obtain ⟨dx2, ex2⟩ := hd2.ins
      rw [cA_eq Z.ns_Desk] at ex2
      walk_at "go"
      refine r_methI ex2 (lk3 (by decide +kernel) (by decide +kernel) (by decide +kernel)) ?_
      walk_at "go"
      refine r_fldI ex2 Z.cl_Desk Z.na_Desk_work ds_work ?_
      walk_at "go"
      refine ⟨x, p, r, r, w, red u, S, rfl, hd2, hS, fun H3 k3 d3 => ?_⟩
      walk_at "go"
      refine ⟨red u, rfl, (rowOf_red ho).row ha, by omega, fun H4 s4 => ?_⟩
      have hsl := short_len3 (r := red u) (by omega)
      refine r_addS (by simp; omega) ?_
      exact q2 ho _ ((Kx.of (s1.trans s2)).trans (k3.trans (Kx.of s4))) (d3.same s4)
    · exact Or3.tup ⟨u, hu, ho, hul, fun H1 s1 => q1 ho _ s1⟩
/-! ### Desk.order_of X -/
def spx_Desk_order_of (K : PySem.W.Frag) : Sp := fun vs H Q E => ∃ (x p r : Addr) (w a l : List Nat) (o : Ord) (rs : List (List Nat)) (S : List (Addr × List Nat)), vs = [.ref x, T o.word, T l] ∧ o.Reads l ∧ DskO (cA K "Desk") H x p r w S ∧ RulO K (cA K "Rules") H r a rs ∧ S.length < 100000 ∧ OrdX K H x p r w a rs S o Q E
set_option maxHeartbeats 4000000 in
theorem okx_Desk_order_of (Z : Tx K mg) : FnG P w K mg base (L2.CX P w) 9 Z.a_Desk_order_of Z.d_Desk_order_of ["self", "word", "words"] (spx_Desk_order_of K) := by
  refine funGX Z.F_Desk_order_of sc_Desk_order_of (fun vs H Q E h => ?_) (fun cdv A outer s H vs Q E gg rm h => ?_)
  · obtain ⟨x, p, r, w, a, l, o, rs, S, rfl, hl, hd, hr, hS, hq⟩ := h; rfl
  · obtain ⟨x, p, r, w, a, l, o, rs, S, rfl, hl, hd, hr, hS, hq⟩ := h
    refine ⟨_,
      (pss_cons (ps_if (pt_cmpR (op_eqK K (hu_of64 rm)) (pv 1) (pe_strL (l := [108, 101, 116, 116, 101, 114, 115]) (by decide +kernel)) (nomark _))
        (pss_one (ps_ret (pe_methX gg (pv 0) Z.cl_Desk Z.me_Desk_letters_told (okx_Desk_letters_told Z) (rm.mono (by decide)) Z.b_Desk_letters_told .nil (fun σ => passS (takes_of rfl rfl rfl rfl) σ) (pa_cons (pv 2) pa_nil))))
        pss_nil)
      (pss_cons (ps_if (pt_cmpR (op_eqK K (hu_of64 rm)) (pv 1) (pe_strL (l := [116, 101, 108, 108]) (by decide +kernel)) (nomark _))
        (pss_one (ps_ret (pe_methX gg (pv 0) Z.cl_Desk Z.me_Desk_row_told (okx_Desk_row_told Z) (rm.mono (by decide)) Z.b_Desk_row_told .nil (fun σ => passS (takes_of rfl rfl rfl rfl) σ) (pa_cons (pv 2) pa_nil))))
        pss_nil)
      (pss_cons (ps_if (pt_cmpR (op_eqK K (hu_of64 rm)) (pv 1) (pe_strL (l := [100, 114, 111, 112]) (by decide +kernel)) (nomark _))
        (pss_one (ps_ret (pe_methX gg (pv 0) Z.cl_Desk Z.me_Desk_row_dropped (okx_Desk_row_dropped Z) rm Z.b_Desk_row_dropped .nil (fun σ => passS (takes_of rfl rfl rfl rfl) σ) (pa_cons (pv 2) pa_nil))))
        pss_nil)
      (pss_cons (ps_if (pt_cmpR (op_eqK K (hu_of64 rm)) (pv 1) (pe_strL (l := [114, 111, 119]) (by decide +kernel)) (nomark _))
        (pss_one (ps_ret (pe_methX gg (pv 0) Z.cl_Desk Z.me_Desk_row_taken (okx_Desk_row_taken Z) (rm.mono (by decide)) Z.b_Desk_row_taken .nil (fun σ => passS (takes_of rfl rfl rfl rfl) σ) (pa_cons (pv 2) pa_nil))))
        pss_nil)
      (pss_cons (ps_if (pt_cmpR (op_eqK K (hu_of64 rm)) (pv 1) (pe_strL (l := [115, 97, 109, 101]) (by decide +kernel)) (nomark _))
        (pss_one (ps_never))
        pss_nil)
      (pss_one (ps_rz rfl (takes_of rfl rfl rfl rfl) ⟨Z.xx_NoOrder, Z.xa_NoOrder.k, Z.xa_NoOrder.b, Z.xa_NoOrder.t⟩ Z.gc_NoOrder (by rfl) (pa_cons (pe_strL (l := [116, 104, 101, 114, 101, 32, 105, 115, 32, 110, 111, 32, 115, 117, 99, 104, 32, 111, 114, 100, 101, 114]) (by decide +kernel)) pa_nil)))))))), ?_⟩
    rw [show L2.start N_Desk_order_of [.ref x, T o.word, T l] = [some (.ref x), some (T o.word), some (T l)] from rfl]
    obtain ⟨dx, ex⟩ := hd.ins
    rw [cA_eq Z.ns_Desk] at ex
    cases o with
    | letters b =>
      obtain ⟨rfl, hb⟩ := hl
      have hb4 := hb.2.1
      simp only [Ord.word]
      walk_at "go"
      refine r_methI ex (lk3 (by decide +kernel) (by decide +kernel) (by decide +kernel)) ?_
      walk_at "go"
      exact ⟨x, p, r, w, l, S, rfl, hd, hS, by omega, .inl ⟨hb, hq⟩⟩
    | tell u =>
      obtain ⟨h1, h2, h3⟩ := hl
      simp only [Ord.word]
      walk_at "go"
      refine r_methI ex (lk3 (by decide +kernel) (by decide +kernel) (by decide +kernel)) ?_
      walk_at "go"
      exact ⟨x, p, r, w, l, u, a, rs, S, rfl, hd, hr, hS, h3, h1, h2, hq.1, hq.2.1, hq.2.2⟩
    | drop n =>
      obtain ⟨h1, h2⟩ := hl
      simp only [Ord.word]
      walk_at "go"
      refine r_methI ex (lk3 (by decide +kernel) (by decide +kernel) (by decide +kernel)) ?_
      walk_at "go"
      exact ⟨x, p, r, w, l, a, n, rs, S, rfl, hd, hr, hS, h2, h1, hq.1, hq.2⟩
    | row u =>
      obtain ⟨h1, h2, h3⟩ := hl
      simp only [Ord.word]
      walk_at "go"
      refine r_methI ex (lk3 (by decide +kernel) (by decide +kernel) (by decide +kernel)) ?_
      walk_at "go"
      exact ⟨x, p, r, w, l, u, a, rs, S, rfl, hd, hr, hS, h3, h1, h2, hq.1, hq.2⟩
/-! ### Desk.undone X -/
def spx_Desk_undone (K : PySem.W.Frag) : Sp := fun vs H Q E => ∃ (x p r : Addr) (w : List Nat) (S : List (Addr × List Nat)), vs = [.ref x] ∧ DskO (cA K "Desk") H x p r w S ∧ ((∃ S' r0 w0, S = S' ++ [(r0, w0)] ∧ ∀ H', Kx [x, p] H H' → DskO (cA K "Desk") H' x p r0 w0 S' → Q (T [117, 110, 100, 111, 110, 101]) H') ∨ (S = [] ∧ ∀ H', Same H H' → E (.ref (cA K "NothingToUndo")) none H'))
set_option maxHeartbeats 4000000 in
theorem okx_Desk_undone (Z : Tx K mg) : FnG P w K mg base (L2.CX P w) 1 Z.a_Desk_undone Z.d_Desk_undone ["self"] (spx_Desk_undone K) := by
  refine funGX Z.F_Desk_undone sc_Desk_undone (fun vs H Q E h => ?_) (fun cdv A outer s H vs Q E gg rm h => ?_)
  · obtain ⟨x, p, r, w, S, rfl, hd, hq⟩ := h; rfl
  · obtain ⟨x, p, r, w, S, rfl, hd, hq⟩ := h
    refine ⟨_,
      (pss_cons (ps_if (pt_cmpR (op_eqNK K (hu_of64 rm)) (pe_fld (pv 0) rfl) (pe_lst pa_nil) (nomark _))
        (pss_one (ps_rz rfl (takes_of rfl rfl rfl rfl) ⟨Z.xx_NothingToUndo, Z.xa_NothingToUndo.k, Z.xa_NothingToUndo.b, Z.xa_NothingToUndo.t⟩ Z.gc_NothingToUndo (by rfl) (pa_cons (pe_strL (l := [116, 104, 101, 114, 101, 32, 105, 115, 32, 110, 111, 116, 104, 105, 110, 103, 32, 116, 111, 32, 116, 97, 107, 101, 32, 98, 97, 99, 107]) (by decide +kernel)) pa_nil)))
        pss_nil)
      (pss_cons (ps_asg (pe_bm0K K PySem.F.plainAttrs_list PySem.F.slot_list_pop PySem.F.type_list_pop mt_pop (pe_fld (pv 0) rfl)) (pg_tupK (n := 2) K rfl (pgs_cons (pg_fld (pv 0)) (pgs_cons (pg_fld (pv 0)) pgs_nil))))
      (pss_one (ps_ret (pe_strL (l := [117, 110, 100, 111, 110, 101]) (by decide +kernel)))))), ?_⟩
    rw [show L2.start N_Desk_undone [.ref x] = [some (.ref x)] from rfl]
    have hpx := hd.ne
    rcases hq with ⟨S', r0, w0, rfl, q⟩ | ⟨rfl, q⟩
    · rw [cA_eq Z.ns_Desk] at hd q
      obtain ⟨dx, ts, e1, e2, hp⟩ := id hd
      obtain ⟨ts, v0, rfl, hq, t0, rfl, e3⟩ := paired_last hp
      walk_at "go"
      refine r_fldI e1 Z.cl_Desk Z.na_Desk_past ds_past ?_
      walk_at "go"
      intro d nd
      generalize hh : upd _ d _ = H1
      obtain ⟨s1, ed⟩ := new_eq nd hh
      clear hh
      have e11 := s1 _ _ e1
      have e21 := s1 _ _ e2
      have e31 := s1 _ _ e3
      refine r_eqN0 e21 ed ?_
      rw [decide_eq_false (by simp)]
      walk_at "go"
      refine r_fldI e11 Z.cl_Desk Z.na_Desk_past ds_past ?_
      refine r_tyL e21 ?_
      refine r_pop (v := .ref t0) e21 (by simp) ?_
      rw [List.dropLast_concat]
      generalize hh : upd H1 p _ = H2
      have k2 : Kx [x, p] H H2 := by rw [← hh]; exact (Kx.of s1).putL e21 (by simp)
      have e12 : H2 x = some (.ins Z.a_Desk dx (dsF p r w)) := by rw [← hh, upd_ne hpx.symm]; exact e11
      have e22 : H2 p = some (.lst ts) := by rw [← hh]; exact upd_same
      have e32 := k2.2 _ _ e3
      clear hh
      refine r_gtup (SqT.of e32) rfl ?_
      walk_at "go"
      refine r_gfldI e12 Z.cl_Desk Z.na_Desk_work (by show 3 < 1000; decide) ?_
      rw [ds_put1]
      walk_at "go"
      refine r_gfldI upd_same Z.cl_Desk Z.na_Desk_word (by show 3 < 1000; decide) ?_
      rw [ds_put2]
      walk_at "go"
      have k3 : Kx [x, p] H (upd (upd H2 x (.ins Z.a_Desk dx (dsF p r0 w))) x (.ins Z.a_Desk dx (dsF p r0 w0))) := (k2.putI e12 (by simp)).putI upd_same (by simp)
      exact q _ k3 ⟨dx, ts, upd_same, by rw [upd_ne hpx, upd_ne hpx]; exact e22, L2.Paired.mapP hq fun _ _ z => z.kx k3⟩
    · rw [cA_eq Z.ns_Desk] at hd
      obtain ⟨dx, ts, e1, e2, hp⟩ := id hd
      cases hp
      walk_at "go"
      refine r_fldI e1 Z.cl_Desk Z.na_Desk_past ds_past ?_
      walk_at "go"
      intro d nd
      generalize hh : upd _ d _ = H1
      obtain ⟨s1, ed⟩ := new_eq nd hh
      clear hh
      refine r_eqN0 (s1 _ _ e2) ed ?_
      rw [decide_eq_true rfl]
      walk_at "go"
      rw [cA_eq Z.ns_NothingToUndo] at q
      exact q _ s1
/-! ### rules_text -/
def sp_rules_text (K : PySem.W.Frag) : Sp := fun vs H Q _ => ∃ (x : Addr) (a : List Nat) (rs : List (List Nat)), vs = [.ref x] ∧ RulO K (cA K "Rules") H x a rs ∧ ∀ H', Same H H' → Q (T (ruleT a rs)) H'
set_option maxHeartbeats 4000000 in
theorem ok_rules_text (Z : Tx K mg) : FnG P w K mg base CX0 3 Z.a_rules_text Z.d_rules_text ["rules"] (sp_rules_text K) := by
  refine funG Z.F_rules_text sc_rules_text (fun vs H Q E h => ?_) (fun cdv A outer s H vs Q E gg rm h => ?_)
  · obtain ⟨x, a, rs, rfl, hx, q⟩ := h; rfl
  · obtain ⟨x, a, rs, rfl, hx, q⟩ := h
    refine ⟨_,
      (pss_one (ps_ret (pe_joinK K (pe_strL (l := [10]) (by decide +kernel)) (pe_lst (pa_cons (pe_op (op_addK K) (pe_glob (v := .str k_HEAD) (by rfl) Z.g_HEAD ⟨_, rfl⟩) (pe_meth0G gg (pv 0) Z.cl_Rules Z.me_Rules_letters (ok_Rules_letters Z) (rm.mono (by decide)) Z.b_Rules_letters .nil pass0)) (pa_starK K (pe_lc (own := [("row", 1)]) (g := gName 1) (tt := tYes) rfl sc_rules_text.nd (pi_K K (pe_meth0G gg (pv 0) Z.cl_Rules Z.me_Rules_rows (ok_Rules_rows Z) (rm.mono (by decide)) Z.b_Rules_rows .nil pass0)) (blkOk_by (N := N_rules_text) (sc := defScope s_rules_text) (by decide +kernel)) (fun _ _ _ _ _ => pg_name (i := 1) sc_rules_text.nd rfl (Or.inl rfl)) (fun _ _ _ _ _ => pts_nil) (fun _ _ _ _ _ => (pe_op (op_addK K) (pe_callG gg (ok_written Z) rm (by rfl) Z.g_written Z.F_written.kp Z.b_written .nil pass0 (pa_cons (pv 1) pa_nil)) (pe_glob (v := .str k_TAIL) (by rfl) Z.g_TAIL ⟨_, rfl⟩)))) pa_nil)))))), ?_⟩
    rw [show L2.start N_rules_text [.ref x] = [some (.ref x), none] from rfl]
    obtain ⟨dx, u, ex, tv, ha, ht⟩ := id hx
    have ex0 := ex
    have hal := ha.1
    have hal2 := ha.2.1
    have h6 := ht.1
    rw [cA_eq Z.ns_Rules] at ex
    walk_at "go"
    refine r_methI ex (lk2 (by decide +kernel) (by decide +kernel)) ?_
    refine ⟨x, dx, _, _, rfl, ex0, ?_⟩
    walk_at "go"
    refine r_methI ex (lk2 (by decide +kernel) (by decide +kernel)) ?_
    refine ⟨x, dx, _, _, rfl, ex0, ?_⟩
    obtain ⟨p, rfl⟩ := tv.ref
    refine r_goT tv.sq ?_
    refine lc_known (known_tup (rs.map T)) (fun i => some (T (short (rs.getD i []) ++ TLL))) (by rw [List.length_map]; omega) (fun H' s => (tv.same s).sq) (fun i H2 QT hi sm hk => ?_) (fun D H2 nD s2 eD => ?_)
    · rw [List.length_map] at hi
      rw [map_getD _ hi]
      have hr := ht.2.1 _ (getD_memL hi)
      have hr2 := hr.2.2.1
      generalize rs.getD i [] = r at hr hr2 hk
      have hs := short_len40 hr2
      walk_at "go"
      refine ⟨r, rfl, by omega, fun H3 s3 => ?_⟩
      walk_at "go"
      exact hk _ s3
    · rw [List.length_map, fm_getL rs (fun r => some (T (short r ++ TLL))), List.filterMap_eq_map'] at eD
      walk_at "go"
      refine ⟨D, _, rfl, .inr (SqL.of eD), ?_⟩
      walk_at "go"
      refine ⟨by simp only [List.length_map, List.append_nil, List.length_cons]; rw [sizeLine_eq]; omega, ?_⟩
      intro b nb
      generalize hh : upd _ b _ = H3
      obtain ⟨s3, e3⟩ := new_eq nb hh
      clear hh
      have hfl : ((HDL ++ a) :: rs.map fun r => short r ++ TLL).flatten.length ≤ 20000 := by
        have h1 : (rs.map fun r => short r ++ TLL).flatten.length ≤ 1000 * rs.length := flat_lenM fun r hr => by
          have := short_len40 (ht.2.1 r hr).2.2.1
          rw [List.length_append]
          simp only [List.length_cons, List.length_nil]; omega
        rw [List.flatten_cons, List.length_append, List.length_append]
        simp only [List.length_cons, List.length_nil]
        omega
      refine r_join (ls := (HDL ++ a) :: rs.map fun r => short r ++ TLL) (SqL.of (by rw [e3]; simp [List.map_map])) (by simp only [List.length_cons, List.length_map, List.length_nil]; omega) ?_
      rw [joinL_glue]
      exact q _ (s2.trans s3)
/-! ### rules_answer -/
def sp_rules_answer (K : PySem.W.Frag) : Sp := fun vs H Q _ => ∃ (x : Addr) (a : List Nat) (rs : List (List Nat)), vs = [.ref x, T [114, 117, 108, 101, 115]] ∧ RulO K (cA K "Rules") H x a rs ∧ ∀ H', Same H H' → Q (T (ruleT a rs)) H'
set_option maxHeartbeats 4000000 in
theorem ok_rules_answer (Z : Tx K mg) : FnG P w K mg base CX0 4 Z.a_rules_answer Z.d_rules_answer ["work", "word"] (sp_rules_answer K) := by
  refine funG Z.F_rules_answer sc_rules_answer (fun vs H Q E h => ?_) (fun cdv A outer s H vs Q E gg rm h => ?_)
  · obtain ⟨x, a, rs, rfl, hx, q⟩ := h; rfl
  · obtain ⟨x, a, rs, rfl, hx, q⟩ := h
    refine ⟨_,
      (pss_cons (ps_if (pt_cmpR (op_eqK K (hu_of64 rm)) (pv 1) (pe_strL (l := [114, 117, 108, 101, 115]) (by decide +kernel)) (nomark _))
        (pss_one (ps_ret (pe_callG gg (ok_rules_text Z) rm (by rfl) Z.g_rules_text Z.F_rules_text.kp Z.b_rules_text .nil pass0 (pa_cons (pv 0) pa_nil))))
        pss_nil)
      (pss_cons (ps_if (pt_cmpR (op_eqK K (hu_of64 rm)) (pv 1) (pe_strL (l := [115, 104, 111, 114, 116]) (by decide +kernel)) (nomark _))
        (pss_one (ps_never))
        pss_nil)
      (pss_cons (ps_if (pt_cmpR (op_eqK K (hu_of64 rm)) (pv 1) (pe_strL (l := [108, 111, 116, 115]) (by decide +kernel)) (nomark _))
        (pss_one (ps_never))
        pss_nil)
      (pss_cons (ps_if (pt_cmpR (op_eqK K (hu_of64 rm)) (pv 1) (pe_strL (l := [100, 105, 118, 105, 115, 111, 114, 115]) (by decide +kernel)) (nomark _))
        (pss_cons (ps_never)
        (pss_one (ps_never)))
        pss_nil)
      (pss_cons (ps_never)
      (pss_cons (ps_never)
      (pss_one (ps_never)))))))), ?_⟩
    rw [show L2.start N_rules_answer [.ref x, T [114, 117, 108, 101, 115]] = [some (.ref x), some (T [114, 117, 108, 101, 115]), none, none, none, none, none, none, none, none, none] from rfl]
    walk_at "go"
    refine ⟨x, a, rs, rfl, hx, fun H1 s1 => ?_⟩
    walk_at "go"
    exact q _ s1
/-! ### core_of -/
def sp_core_of (_ : PySem.W.Frag) : Sp := fun vs H Q _ => ∃ l : List Nat, vs = [T l] ∧ Row l ∧ l.length ≤ 1000000 ∧ ∀ p H', H p = none → Same H H' → H' p = some (.tup [T (lead l), T (ring l)]) → Q (.ref p) H'
set_option maxHeartbeats 4000000 in
theorem ok_core_of (Z : Tx K mg) : FnG P w K mg base CX0 1 Z.a_core_of Z.d_core_of ["free"] (sp_core_of K) := by
  refine funG Z.F_core_of sc_core_of (fun vs H Q E h => ?_) (fun cdv A outer s H vs Q E gg rm h => ?_)
  · obtain ⟨l, rfl, ha, hl, q⟩ := h; rfl
  · obtain ⟨l, rfl, ha, hl, q⟩ := h
    refine ⟨_,
      (pss_cons (ps_set (i := 1) sc_core_of.nd rfl (.inl rfl) pe_int)
      (pss_cons (ps_while PassesOwn.never (PW.pt (pw_and (pt_cmpR op_ltG (pe_op (op_addK K) (pe_op op_mulG pe_int (pv 1)) pe_int) (pe_callB (call_lenK K) (by rfl) Z.n_len PySem.boot_len (pa_cons (pv 0) pa_nil)) (nomark _)) (pw_and1 (pt_cmpR (op_eqK K (hu_of64 rm)) (pe_ix (ix_K K) (pv 0) (pv 1) (fun _ _ => rfl)) (pe_bm0K K PySem.F.plainAttrs_str PySem.F.slot_str_swapcase PySem.F.type_str_swapcase mt_swapL (pe_ix (ix_K K) (pv 0) (pe_op op_sub (pe_un un_neg pe_int) (pv 1)) (fun _ _ => rfl))) (nomark _)))))
        (pss_one (ps_set (i := 1) sc_core_of.nd rfl (.inl rfl) (pe_op (op_addK K) (pv 1) pe_int))))
      (pss_one (ps_ret (pe_tup (pa_cons (pe_slice (sl_K K) (pv 0) po_none (po_some (pv 1))) (pa_cons (pe_slice (sl_K K) (pv 0) (po_some (pv 1)) (po_some (pe_op op_sub (pe_callB (call_lenK K) (by rfl) Z.n_len PySem.boot_len (pa_cons (pv 0) pa_nil)) (pv 1)))) pa_nil))))))), ?_⟩
    rw [show L2.start N_core_of [T l] = [some (T l), none] from rfl]
    walk_at "go"
    refine r_while (fun m σ H' => ∃ k : Nat, σ = [some (T l), some (.int (k : Int))] ∧ m + k = l.length ∧ H' = H ∧ ∀ j, j < k → cstep l j) l.length ⟨0, rfl, by omega, rfl, fun j hj => absurd hj (by omega)⟩ ?_
    rintro m σ H' ⟨k, rfl, hm, rfl, hk⟩
    refine r_genT (fun b H1 => b = decide (cstep l k) ∧ H1 = H') (fun b H1 hb => ?_) (fun Q' k' => ?_)
    · obtain ⟨rfl, rfl⟩ := hb
      refine r_ifd (fun c => ?_) (fun c => ?_)
      · have hkl := c.1
        walk_at "go"
        refine ⟨m - 1, by omega, k + 1, rfl, by omega, rfl, fun j hj => ?_⟩
        by_cases e : j = k
        · rw [e]; exact c
        · exact hk j (by omega)
      · have ek : csize l = k := csize_eq hk c
        have hle := csize_le l
        walk_at "go"
        rw [show (l.length : Int) - (k : Int) = ((l.length - k : Nat) : Int) by omega, cut_to, cut_mid]
        intro p np
        refine q p _ np (Same.new1 np) ?_
        rw [upd_same]
        unfold lead ring
        rw [ek]
    · walk_at "go"
      refine r_ifd (fun c1 => ?_) (fun c1 => ?_)
      · have hkl : 2 * k + 1 < l.length := by omega
        walk_at "go"
        refine r_ixS (by omega) (at_nat (by omega) (by omega)) ?_
        walk_at "go"
        refine r_ixS (by omega) (at_neg (by omega)) ?_
        walk_at "go"
        have hrow := ha _ (getD_mem (show l.length - 1 - k < l.length by omega))
        refine r_map (Row.one hrow).asc (by simp) ?_
        show NX.rEqG _ _ (T [swp (l.getD (l.length - 1 - k) 0)]) _ _
        rw [Int.toNat_natCast]
        walk_at "go"
        refine k' _ _ ⟨?_, rfl⟩
        rw [Bool.eq_iff_iff, decide_eq_true_iff, decide_eq_true_iff]
        unfold cstep
        simp [hkl]
      · walk_at "go"
        refine k' _ _ ⟨?_, rfl⟩
        rw [decide_eq_false fun c => c1 (by have := c.1; omega)]
/-! ### root -/
def sp_root (_ : PySem.W.Frag) : Sp := fun vs H Q _ => ∃ l : List Nat, vs = [T l] ∧ Row l ∧ l.length ≤ 1000000 ∧ ∀ p H', H p = none → Same H H' → H' p = some (.tup [T (root1 (red l)), .int (rootn (red l) : Nat)]) → Q (.ref p) H'
set_option maxHeartbeats 4000000 in
theorem ok_root (Z : Tx K mg) : FnG P w K mg base CX0 3 Z.a_root Z.d_root ["row"] (sp_root K) := by
  refine funG Z.F_root sc_root (fun vs H Q E h => ?_) (fun cdv A outer s H vs Q E gg rm h => ?_)
  · obtain ⟨l, rfl, ha, hl, q⟩ := h; rfl
  · obtain ⟨l, rfl, ha, hl, q⟩ := h
    refine ⟨_,
      (pss_cons (ps_expr (pe_callG gg (ok_check_row Z) rm (by rfl) Z.g_check_row Z.F_check_row.kp Z.b_check_row .nil pass0 (pa_cons (pv 0) pa_nil)))
      (pss_cons (ps_asg (pe_callG gg (ok_core_of Z) (rm.mono (by decide)) (by rfl) Z.g_core_of Z.F_core_of.kp Z.b_core_of .nil pass0 (pa_cons (pe_callG gg (ok_least_of Z) (rm.mono (by decide)) (by rfl) Z.g_least_of Z.F_least_of.kp Z.b_least_of .nil pass0 (pa_cons (pv 0) pa_nil)) pa_nil)) (pg_tupK (n := 2) K rfl (pgs_cons (pg_name (i := 1) sc_root.nd rfl (.inl rfl)) (pgs_cons (pg_name (i := 2) sc_root.nd rfl (.inl rfl)) pgs_nil))))
      (pss_cons (ps_if (pt_cmpR (op_eqK K (hu_of64 rm)) (pv 2) (pe_strL (l := []) (by decide +kernel)) (nomark _))
        (pss_one (ps_ret (pe_tup (pa_cons (pe_strL (l := []) (by decide +kernel)) (pa_cons pe_int pa_nil)))))
        pss_nil)
      (pss_cons (ps_set (i := 3) sc_root.nd rfl (.inl rfl) (pe_bmK K PySem.F.plainAttrs_str PySem.F.slot_str_index PySem.F.type_str_index mt_indexF (pe_op (op_addK K) (pv 2) (pv 2)) (pa_cons (pv 2) (pa_cons pe_int pa_nil))))
      (pss_one (ps_ret (pe_tup (pa_cons (pe_op (op_addK K) (pe_op (op_addK K) (pv 1) (pe_slice (sl_K K) (pv 2) po_none (po_some (pv 3)))) (pe_callG gg (ok_back_of Z) (rm.mono (by decide)) (by rfl) Z.g_back_of Z.F_back_of.kp Z.b_back_of .nil pass0 (pa_cons (pv 1) pa_nil))) (pa_cons (pe_op op_fdivW (pe_callB (call_lenK K) (by rfl) Z.n_len PySem.boot_len (pa_cons (pv 2) pa_nil)) (pv 3)) pa_nil))))))))), ?_⟩
    rw [show L2.start N_root [T l] = [some (T l), none, none, none] from rfl]
    walk_at "go"
    refine ⟨l, rfl, ha, by omega, fun H1 s1 => ?_⟩
    walk_at "go"
    refine ⟨l, rfl, ha, by omega, fun H2 s2 => ?_⟩
    refine ⟨red l, rfl, ha.red, by have := red_len l; omega, fun p H3 np s3 e => ?_⟩
    have hrl := red_len l
    have hll := lead_len (red l)
    have hgl := ring_len (red l)
    have hbl := bak_len (lead (red l))
    have hcs := csize_le (red l)
    walk_at "go"
    refine r_ifd (fun c => ?_) (fun c => ?_)
    · have hn : red l = [] := (ring_eq_nil ha.red (free_red ha)).mp c
      walk_at "go"
      intro p2 np2
      refine q p2 _ (((s1.trans s2).trans s3).free np2) (((s1.trans s2).trans s3).new np2) ?_
      rw [upd_same, hn, root1_nil, rootn_nil]; rfl
    · have hp := per_spec c
      have hpl := hp.2.1
      have hp0 := hp.1
      walk_at "go"
      refine r_indexF (p := per (ring (red l))) hp.1 ((at_ring hp.2.1).mpr hp.2.2.1) (fun k k0 kp hk => hp.2.2.2 k k0 kp ((at_ring (by omega)).mp hk)) ?_
      have htl : ((ring (red l)).take (per (ring (red l)))).length ≤ (ring (red l)).length := by rw [List.length_take]; omega
      walk_at "go"
      rw [cut_to]
      walk_at "go"
      refine ⟨lead (red l), rfl, ha.red.lead, by omega, ?_⟩
      walk_at "go"
      intro p2 np2
      refine q p2 _ (((s1.trans s2).trans s3).free np2) (((s1.trans s2).trans s3).new np2) ?_
      rw [upd_same]; rfl
/-! ### row_answer -/
def sp_row_answer (K : PySem.W.Frag) : Sp := fun vs H Q _ => ∃ (x : Addr) (w : List Nat), vs = [.ref x, T w, T [114, 111, 111, 116]] ∧ Row w ∧ w.length ≤ 300 ∧ ∀ H', Same H H' → Q (T (short (root1 (red w)) ++ [32] ++ dec (rootn (red w)))) H'
set_option maxHeartbeats 4000000 in
theorem ok_row_answer (Z : Tx K mg) : FnG P w K mg base CX0 4 Z.a_row_answer Z.d_row_answer ["work", "row", "word"] (sp_row_answer K) := by
  refine funG Z.F_row_answer sc_row_answer (fun vs H Q E h => ?_) (fun cdv A outer s H vs Q E gg rm h => ?_)
  · obtain ⟨x, w, rfl, hw, hl, q⟩ := h; rfl
  · obtain ⟨x, w, rfl, hw, hl, q⟩ := h
    refine ⟨_,
      (pss_cons (ps_if (pt_cmpR (op_eqK K (hu_of64 rm)) (pv 2) (pe_strL (l := [110, 111, 116, 104, 105, 110, 103]) (by decide +kernel)) (nomark _))
        (pss_one (ps_never))
        pss_nil)
      (pss_cons (ps_if (pt_cmpR (op_eqK K (hu_of64 rm)) (pv 2) (pe_strL (l := [111, 114, 100, 101, 114]) (by decide +kernel)) (nomark _))
        (pss_cons (ps_never)
        (pss_one (ps_never)))
        pss_nil)
      (pss_cons (ps_asg (pe_callG gg (ok_root Z) rm (by rfl) Z.g_root Z.F_root.kp Z.b_root .nil pass0 (pa_cons (pv 1) pa_nil)) (pg_tupK (n := 2) K rfl (pgs_cons (pg_name (i := 4) sc_row_answer.nd rfl (.inl rfl)) (pgs_cons (pg_name (i := 3) sc_row_answer.nd rfl (.inl rfl)) pgs_nil))))
      (pss_one (ps_ret (pe_joined (PJ.cons (pe_fmt (pe_callG gg (ok_row_text Z) rm (by rfl) Z.g_row_text Z.F_row_text.kp Z.b_row_text .nil pass0 (pa_cons (pv 4) pa_nil))) (PJ.cons (pe_strL (l := [32]) (by decide +kernel)) (PJ.cons (pe_fmt (pv 3)) PJ.nil))))))))), ?_⟩
    rw [show L2.start N_row_answer [.ref x, T w, T [114, 111, 111, 116]] = [some (.ref x), some (T w), some (T [114, 111, 111, 116]), none, none] from rfl]
    walk_at "go"
    refine ⟨w, rfl, hw, by omega, fun t H1 nt s1 et => ?_⟩
    refine r_gtup (SqT.of et) rfl ?_
    have hrw : Row (root1 (red w)) := by
      unfold root1
      exact ((hw.red.lead).app ((hw.red.ring).take _)).app hw.red.lead.bak
    have hrl := red_len w
    have hr1 := root1_len (red w)
    have hrn : rootn (red w) ≤ 300 := by
      by_cases c : red w = []
      · rw [c, rootn_nil]; omega
      · have := rootn_le (f := red w) hw.red (free_red hw) c
        omega
    have hdl : (dec (rootn (red w))).length ≤ 3 := dec_len (by decide) (by omega)
    walk_at "go"
    refine ⟨_, rfl, hrw, by omega, fun H2 s2 => ?_⟩
    have hsl := short_len3 (r := root1 (red w)) (by omega)
    walk_at "go"
    exact q _ (s1.trans s2)
/-! ### Desk.order X -/
def spx_Desk_order (K : PySem.W.Frag) : Sp := fun vs H Q E => ∃ (x p r : Addr) (w a t : List Nat) (rs : List (List Nat)) (S : List (Addr × List Nat)), vs = [.ref x, T t] ∧ DskO (cA K "Desk") H x p r w S ∧ RulO K (cA K "Rules") H r a rs ∧ S.length < 100000 ∧ Row w ∧ w.length ≤ 300 ∧
  ((∃ o l, t = Ord.word o ++ [32] ++ l ∧ o.Reads l ∧ OrdX K H x p r w a rs S o Q E) ∨
   (t = [117, 110, 100, 111] ∧ ((∃ S' r0 w0, S = S' ++ [(r0, w0)] ∧ ∀ H', Kx [x, p] H H' → DskO (cA K "Desk") H' x p r0 w0 S' → Q (T [117, 110, 100, 111, 110, 101]) H') ∨ (S = [] ∧ ∀ H', Same H H' → E (.ref (cA K "NothingToUndo")) none H'))) ∨
   (t = [114, 117, 108, 101, 115] ∧ ∀ H', Same H H' → Q (T (ruleT a rs)) H') ∨
   (t = [114, 111, 111, 116] ∧ ∀ H', Same H H' → Q (T (short (root1 (red w)) ++ [32] ++ dec (rootn (red w)))) H'))
set_option maxHeartbeats 4000000 in
theorem okx_Desk_order (Z : Tx K mg) : FnG P w K mg base (L2.CX P w) 10 Z.a_Desk_order Z.d_Desk_order ["self", "text"] (spx_Desk_order K) := by
  refine funGX Z.F_Desk_order sc_Desk_order (fun vs H Q E h => ?_) (fun cdv A outer s H vs Q E gg rm h => ?_)
  · obtain ⟨x, p, r, w, a, t, rs, S, rfl, hd, hr, hS, hw, hwl, hq⟩ := h; rfl
  · obtain ⟨x, p, r, w, a, t, rs, S, rfl, hd, hr, hS, hw, hwl, hq⟩ := h
    refine ⟨_,
      (pss_cons (ps_if (pt_not (pt_truK K (pe_callB (call_isXK K) (by rfl) Z.n_isinstance (by decide +kernel) (pa_cons (pv 1) (pa_cons (pe_bltn (v := .ty "str") (u := .type "str") (by rfl) Z.n_str (by decide +kernel) rfl) pa_nil))) (by intro _; rfl)))
        (pss_one (ps_rz rfl (takes_of rfl rfl rfl rfl) ⟨Z.xx_NoOrder, Z.xa_NoOrder.k, Z.xa_NoOrder.b, Z.xa_NoOrder.t⟩ Z.gc_NoOrder (by rfl) (pa_cons (pe_strL (l := [97, 110, 32, 111, 114, 100, 101, 114, 32, 105, 115, 32, 97, 32, 115, 116, 114, 105, 110, 103]) (by decide +kernel)) pa_nil)))
        pss_nil)
      (pss_cons (ps_if (pt_cmpR (op_inK K) (pe_strL (l := [32]) (by decide +kernel)) (pv 1) (by rfl))
        (pss_cons (ps_asg (pe_bmK K PySem.F.plainAttrs_str PySem.F.slot_str_partition PySem.F.type_str_partition mt_partition (pv 1) (pa_cons (pe_strL (l := [32]) (by decide +kernel)) pa_nil)) (pg_tupK (n := 3) K rfl (pgs_cons (pg_name (i := 2) sc_Desk_order.nd rfl (.inl rfl)) (pgs_cons (pg_name (i := 3) sc_Desk_order.nd rfl (.inl rfl)) (pgs_cons (pg_name (i := 4) sc_Desk_order.nd rfl (.inl rfl)) pgs_nil)))))
        (pss_one (ps_ret (pe_methX gg (pv 0) Z.cl_Desk Z.me_Desk_order_of (okx_Desk_order_of Z) rm Z.b_Desk_order_of .nil (fun σ => passS (takes_of rfl rfl rfl rfl) σ) (pa_cons (pv 2) (pa_cons (pv 4) pa_nil))))))
        pss_nil)
      (pss_cons (ps_if (pt_cmpR (op_eqK K (hu_of64 rm)) (pv 1) (pe_strL (l := [117, 110, 100, 111]) (by decide +kernel)) (nomark _))
        (pss_one (ps_ret (pe_meth0X gg (pv 0) Z.cl_Desk Z.me_Desk_undone (okx_Desk_undone Z) (rm.mono (by decide)) Z.b_Desk_undone .nil (fun σ => passS (takes_of rfl rfl rfl rfl) σ))))
        pss_nil)
      (pss_cons (ps_if (pt_cmpR (op_inK K) (pv 1) (pe_tup (pa_cons (pe_strL (l := [114, 117, 108, 101, 115]) (by decide +kernel)) (pa_cons (pe_strL (l := [115, 104, 111, 114, 116]) (by decide +kernel)) (pa_cons (pe_strL (l := [108, 111, 116, 115]) (by decide +kernel)) (pa_cons (pe_strL (l := [100, 105, 118, 105, 115, 111, 114, 115]) (by decide +kernel)) (pa_cons (pe_strL (l := [114, 111, 117, 110, 100]) (by decide +kernel)) pa_nil)))))) (by rfl))
        (pss_one (ps_ret (pe_callG gg (ok_rules_answer Z) (rm.mono (by decide)) (by rfl) Z.g_rules_answer Z.F_rules_answer.kp Z.b_rules_answer .nil pass0 (pa_cons (pe_fld (pv 0) rfl) (pa_cons (pv 1) pa_nil)))))
        pss_nil)
      (pss_cons (ps_if (pt_cmpR (op_inK K) (pv 1) (pe_tup (pa_cons (pe_strL (l := [110, 111, 116, 104, 105, 110, 103]) (by decide +kernel)) (pa_cons (pe_strL (l := [111, 114, 100, 101, 114]) (by decide +kernel)) (pa_cons (pe_strL (l := [114, 111, 111, 116]) (by decide +kernel)) pa_nil)))) (by rfl))
        (pss_one (ps_ret (pe_callG gg (ok_row_answer Z) (rm.mono (by decide)) (by rfl) Z.g_row_answer Z.F_row_answer.kp Z.b_row_answer .nil pass0 (pa_cons (pe_fld (pv 0) rfl) (pa_cons (pe_fld (pv 0) rfl) (pa_cons (pv 1) pa_nil))))))
        pss_nil)
      (pss_one (ps_rz rfl (takes_of rfl rfl rfl rfl) ⟨Z.xx_NoOrder, Z.xa_NoOrder.k, Z.xa_NoOrder.b, Z.xa_NoOrder.t⟩ Z.gc_NoOrder (by rfl) (pa_cons (pe_strL (l := [116, 104, 101, 114, 101, 32, 105, 115, 32, 110, 111, 32, 115, 117, 99, 104, 32, 111, 114, 100, 101, 114]) (by decide +kernel)) pa_nil)))))))), ?_⟩
    rw [show L2.start N_Desk_order [.ref x, T t] = [some (.ref x), some (T t), none, none, none] from rfl]
    obtain ⟨dx, ex⟩ := hd.ins
    rw [cA_eq Z.ns_Desk] at ex
    rcases hq with ⟨o, l, rfl, hl, hq⟩ | ⟨rfl, hq⟩ | ⟨rfl, q⟩ | ⟨rfl, q⟩
    · have hll := Ord.Reads.len hl
      have how := ow_len o
      walk_at "go"
      rw [decide_eq_true (by simp)]
      walk_at "go"
      refine ⟨_, _, rfl, rfl, rfl, by rw [mkS_len, sizeLine_eq]; simp; omega, fun t nt => ?_⟩
      rw [part_sp (ow_no o)]
      generalize hh : upd _ t _ = H1
      obtain ⟨s1, et⟩ := new_eq nt hh
      clear hh
      refine r_gtup (SqT.of et) rfl ?_
      have ex1 := s1 _ _ ex
      walk_at "go"
      refine r_methI ex1 (lk3 (by decide +kernel) (by decide +kernel) (by decide +kernel)) ?_
      walk_at "go"
      exact ⟨x, p, r, w, a, l, o, rs, S, rfl, hl, hd.same s1, hr.same s1, hS, OrdX.from hq s1⟩
    · walk_at "go"
      refine r_methI ex (lk3 (by decide +kernel) (by decide +kernel) (by decide +kernel)) ?_
      exact ⟨x, p, r, w, S, rfl, hd, hq⟩
    · walk_at "go"
      intro e ne
      generalize hh : upd _ e _ = H1
      obtain ⟨s1, e1⟩ := new_eq ne hh
      clear hh
      refine r_inTStr (ss := [mkS [114, 117, 108, 101, 115], mkS [115, 104, 111, 114, 116], mkS [108, 111, 116, 115], mkS [100, 105, 118, 105, 115, 111, 114, 115], mkS [114, 111, 117, 110, 100]]) (SqT.of e1) List.mem_cons_self ?_
      have ex1 := s1 _ _ ex
      walk_at "go"
      refine r_fldI ex1 Z.cl_Desk Z.na_Desk_work ds_work ?_
      walk_at "go"
      refine ⟨r, a, rs, rfl, hr.same s1, fun H2 s2 => ?_⟩
      exact q _ (s1.trans s2)
    · walk_at "go"
      intro e ne
      generalize hh : upd _ e _ = H1
      obtain ⟨s1, e1⟩ := new_eq ne hh
      clear hh
      refine r_ninTStr (ss := [mkS [114, 117, 108, 101, 115], mkS [115, 104, 111, 114, 116], mkS [108, 111, 116, 115], mkS [100, 105, 118, 105, 115, 111, 114, 115], mkS [114, 111, 117, 110, 100]]) (SqT.of e1) (by decide +kernel) ?_
      have ex1 := s1 _ _ ex
      walk_at "go"
      intro f nf
      generalize hh : upd _ f _ = H2
      obtain ⟨s2, e2⟩ := new_eq nf hh
      clear hh
      refine r_inTStr (ss := [mkS [110, 111, 116, 104, 105, 110, 103], mkS [111, 114, 100, 101, 114], mkS [114, 111, 111, 116]]) (SqT.of e2) (by decide +kernel) ?_
      have ex2 := s2 _ _ ex1
      walk_at "go"
      refine r_fldI ex2 Z.cl_Desk Z.na_Desk_work ds_work ?_
      walk_at "go"
      refine r_fldI ex2 Z.cl_Desk Z.na_Desk_word ds_word ?_
      walk_at "go"
      refine ⟨r, w, rfl, hw, hwl, fun H3 s3 => ?_⟩
      exact q _ (s1.trans (s2.trans s3))
/-! ### _law_answer -/
def sp__law_answer (K : PySem.W.Frag) : Sp := fun vs H Q _ => ∃ (x p : Addr) (t : List Nat) (pr : Prt) (ss : List DS) (s : DS), vs = [.ref x, T t] ∧ DskA K H x p ss s ∧ ss.length < 100000 ∧ WOk s ∧ pr.Says t ∧ ∀ v H', Kx [x, p] H H' → AnsO H' v (bstp ss s pr).1 → DskA K H' x p (bstp ss s pr).2.1 (bstp ss s pr).2.2 → Q v H'
set_option maxHeartbeats 4000000 in
theorem ok__law_answer (Z : Tx K mg) : FnG P w K mg base CX0 11 Z.a__law_answer Z.d__law_answer ["desk", "words"] (sp__law_answer K) := by
  refine funG Z.F__law_answer sc__law_answer (fun vs H Q E h => ?_) (fun cdv A outer s H vs Q E gg rm h => ?_)
  · obtain ⟨x, p, t, pr, ss, s, rfl, hA, hS, hw, ht, q⟩ := h; rfl
  · obtain ⟨x, p, t, pr, ss, s, rfl, hA, hS, hw, ht, q⟩ := h
    refine ⟨_,
      (pss_cons (ps_set (i := 2) sc__law_answer.nd rfl (.inl rfl) pe_non)
      (pss_cons (ps_tryT rfl rfl rfl takes0 (fun W pn xe tk hpo =>
        (pss_one (ps_set (i := 2) sc__law_answer.nd rfl (.inl rfl) (pe_methX gg (pv 0) Z.cl_Desk Z.me_Desk_order (okx_Desk_order Z) rm Z.b_Desk_order .nil (fun σ => passS tk σ) (pa_cons (pv 1) pa_nil)))))
    (HdsT.cons0 ⟨by rfl, by decide, .inl Z.gc_NoOrder⟩ (fun _ _ => (pss_one (ps_set (i := 2) sc__law_answer.nd rfl (.inl rfl) (pe_tup (pa_cons (pe_strL (l := [111, 114, 100, 101, 114]) (by decide +kernel)) (pa_cons pe_non pa_nil)))))) (HdsT.cons0 ⟨by rfl, by decide, .inl Z.gc_NoRow⟩ (fun _ _ => (pss_one (ps_set (i := 2) sc__law_answer.nd rfl (.inl rfl) (pe_tup (pa_cons (pe_strL (l := [114, 111, 119]) (by decide +kernel)) (pa_cons pe_non pa_nil)))))) (HdsT.cons1 (i := 3) ⟨by rfl, by decide, .inl Z.gc_NoRows⟩ sc__law_answer.nd rfl rfl (fun _ _ => (pss_one (ps_set (i := 2) sc__law_answer.nd rfl (.inl rfl) (pe_tup (pa_cons (pe_strL (l := [114, 111, 119, 115]) (by decide +kernel)) (pa_cons (pe_xfT K (pv 3)) pa_nil)))))) (HdsT.cons0 ⟨by rfl, by decide, .inl Z.gc_NoIndex⟩ (fun _ _ => (pss_one (ps_set (i := 2) sc__law_answer.nd rfl (.inl rfl) (pe_tup (pa_cons (pe_strL (l := [105, 110, 100, 101, 120]) (by decide +kernel)) (pa_cons pe_non pa_nil)))))) (HdsT.cons0 ⟨by rfl, by decide, .inl Z.gc_NotShort⟩ (fun _ _ => (pss_one (ps_set (i := 2) sc__law_answer.nd rfl (.inl rfl) (pe_tup (pa_cons (pe_strL (l := [115, 104, 111, 114, 116]) (by decide +kernel)) (pa_cons pe_non pa_nil)))))) (HdsT.cons0 ⟨by rfl, by decide, .inl Z.gc_NothingToUndo⟩ (fun _ _ => (pss_one (ps_set (i := 2) sc__law_answer.nd rfl (.inl rfl) (pe_tup (pa_cons (pe_strL (l := [117, 110, 100, 111]) (by decide +kernel)) (pa_cons pe_non pa_nil)))))) HdsT.nil)))))))
      (pss_one (ps_ret (pv 2))))), ?_⟩
    rw [show L2.start N__law_answer [.ref x, T t] = [some (.ref x), some (T t), none, none] from rfl]
    obtain ⟨r, S, d, hr, hq⟩ := id hA
    have hSl : S.length = ss.length := PySem.Paired.length hq
    obtain ⟨dx, ex⟩ := d.ins
    rw [cA_eq Z.ns_Desk] at ex
    have hal := hA.al
    walk_at "go"
    refine r_methI ex (lk3 (by decide +kernel) (by decide +kernel) (by decide +kernel)) ?_
    walk_at "go"
    refine ⟨x, p, r, s.w, s.a, t, s.rs, S, rfl, d, hr, by omega, hw.1.row hal, hw.2.2, ?_⟩
    cases pr with
    | ord o =>
      obtain ⟨l, rfl, hl⟩ := ht
      refine .inl ⟨o, l, rfl, hl, ?_⟩
      cases o with
      | letters b =>
        intro y H1 ny k1 hy d1
        walk_at "go"
        exact q _ H1 k1 rfl (hA.snoc (s' := ⟨b, [], []⟩) hr hq k1 d1 hy)
      | tell u =>
        refine ⟨fun h H1 s1 => ?_, fun h h2 d1 H1 s1 n1 e1 => ?_, fun h h2 y H1 ny k1 hy d1 => ?_⟩
        · simp only [bstp, obeh, if_neg h, Ans.isT] at q
          rw [cA_eq Z.ns_NoRow]
          refine ⟨false, Z.xa_NoOrder.em Z.su_NoRow_NoOrder, (fun z => nomatch z), fun _ => ?_⟩
          refine ⟨true, Z.xa_NoRow.em Z.su_NoRow_NoRow, fun _ e ne => ?_, fun z => nomatch z⟩
          generalize hh : upd _ e _ = H2
          obtain ⟨s2, e2⟩ := new_eq ne hh
          clear hh
          walk_at "go"
          intro t3 nt3
          generalize hh : upd _ t3 _ = H3
          obtain ⟨s3, e3⟩ := new_eq nt3 hh
          walk_at "go"
          walk_at "go"
          exact q _ _ (Kx.of (s1.trans (s2.trans s3))) ⟨t3, rfl, e3⟩ (hA.same (s1.trans (s2.trans s3)))
        · simp only [bstp, obeh, if_pos h, if_neg (show ¬ stB s.a s.rs u = true by rw [h2]; decide), Ans.isT] at q
          rw [cA_eq Z.ns_NoRows]
          refine ⟨false, Z.xa_NoOrder.em Z.su_NoRows_NoOrder, (fun z => nomatch z), fun _ => ?_⟩
          refine ⟨false, Z.xa_NoRow.em Z.su_NoRows_NoRow, (fun z => nomatch z), fun _ => ?_⟩
          refine ⟨true, Z.xa_NoRows.em Z.su_NoRows_NoRows, fun _ e ne => ?_, fun z => nomatch z⟩
          generalize hh : upd _ e _ = H2
          obtain ⟨s2, e2⟩ := new_eq ne hh
          clear hh
          walk_at "go"
          refine r_xfI e2 Z.xa_NoRows Z.nf_NoRows_index (s2 _ _ e1) rfl ?_
          walk_at "go"
          intro t3 nt3
          generalize hh : upd _ t3 _ = H3
          obtain ⟨s3, e3⟩ := new_eq nt3 hh
          walk_at "go"
          walk_at "go"
          exact q _ _ (Kx.of (s1.trans (s2.trans s3))) ⟨t3, rfl, e3⟩ (hA.same (s1.trans (s2.trans s3)))
        · simp only [bstp, obeh, if_pos h, if_pos h2, Ans.isT] at q
          walk_at "go"
          exact q _ H1 k1 rfl (hA.snoc (s' := ⟨s.a, s.rs ++ [u], s.w⟩) hr hq k1 d1 hy)
      | drop n =>
        refine ⟨fun h H1 s1 => ?_, fun h y H1 ny k1 hy d1 => ?_⟩
        · simp only [bstp, obeh, if_neg (show ¬ n < s.rs.length by omega), Ans.isT] at q
          rw [cA_eq Z.ns_NoIndex]
          refine ⟨false, Z.xa_NoOrder.em Z.su_NoIndex_NoOrder, (fun z => nomatch z), fun _ => ?_⟩
          refine ⟨false, Z.xa_NoRow.em Z.su_NoIndex_NoRow, (fun z => nomatch z), fun _ => ?_⟩
          refine ⟨false, Z.xa_NoRows.em Z.su_NoIndex_NoRows, (fun z => nomatch z), fun _ => ?_⟩
          refine ⟨true, Z.xa_NoIndex.em Z.su_NoIndex_NoIndex, fun _ e ne => ?_, fun z => nomatch z⟩
          generalize hh : upd _ e _ = H2
          obtain ⟨s2, e2⟩ := new_eq ne hh
          clear hh
          walk_at "go"
          intro t3 nt3
          generalize hh : upd _ t3 _ = H3
          obtain ⟨s3, e3⟩ := new_eq nt3 hh
          walk_at "go"
          walk_at "go"
          exact q _ _ (Kx.of (s1.trans (s2.trans s3))) ⟨t3, rfl, e3⟩ (hA.same (s1.trans (s2.trans s3)))
        · simp only [bstp, obeh, if_pos h, Ans.isT] at q
          walk_at "go"
          exact q _ H1 k1 rfl (hA.snoc (s' := ⟨s.a, s.rs.take n ++ s.rs.drop (n + 1), s.w⟩) hr hq k1 d1 hy)
      | row u =>
        refine ⟨fun h H1 s1 => ?_, fun h H1 k1 d1 => ?_⟩
        · simp only [bstp, obeh, if_neg h, Ans.isT] at q
          rw [cA_eq Z.ns_NoRow]
          refine ⟨false, Z.xa_NoOrder.em Z.su_NoRow_NoOrder, (fun z => nomatch z), fun _ => ?_⟩
          refine ⟨true, Z.xa_NoRow.em Z.su_NoRow_NoRow, fun _ e ne => ?_, fun z => nomatch z⟩
          generalize hh : upd _ e _ = H2
          obtain ⟨s2, e2⟩ := new_eq ne hh
          clear hh
          walk_at "go"
          intro t3 nt3
          generalize hh : upd _ t3 _ = H3
          obtain ⟨s3, e3⟩ := new_eq nt3 hh
          walk_at "go"
          walk_at "go"
          exact q _ _ (Kx.of (s1.trans (s2.trans s3))) ⟨t3, rfl, e3⟩ (hA.same (s1.trans (s2.trans s3)))
        · simp only [bstp, obeh, if_pos h, Ans.isT] at q
          walk_at "go"
          exact q _ H1 k1 rfl (hA.snoc (s' := ⟨s.a, s.rs, red u⟩) hr hq k1 d1 (hr.kx k1 fun z => hr.oty (hA.oty _ z) rfl))
    | rules =>
      obtain rfl := ht
      refine .inr (.inr (.inl ⟨rfl, fun H1 s1 => ?_⟩))
      walk_at "go"
      exact q _ H1 (Kx.of s1) rfl (hA.same s1)
    | root =>
      obtain rfl := ht
      refine .inr (.inr (.inr ⟨rfl, fun H1 s1 => ?_⟩))
      walk_at "go"
      exact q _ H1 (Kx.of s1) rfl (hA.same s1)
    | undo =>
      obtain rfl := ht
      refine .inr (.inl ⟨rfl, ?_⟩)
      rcases List.eq_nil_or_concat ss with rfl | ⟨ss', s', rfl⟩
      · cases hq
        refine .inr ⟨rfl, fun H1 s1 => ?_⟩
        rw [bstp_undo0] at q
        rw [cA_eq Z.ns_NothingToUndo]
        refine ⟨false, Z.xa_NoOrder.em Z.su_NothingToUndo_NoOrder, (fun z => nomatch z), fun _ => ?_⟩
        refine ⟨false, Z.xa_NoRow.em Z.su_NothingToUndo_NoRow, (fun z => nomatch z), fun _ => ?_⟩
        refine ⟨false, Z.xa_NoRows.em Z.su_NothingToUndo_NoRows, (fun z => nomatch z), fun _ => ?_⟩
        refine ⟨false, Z.xa_NoIndex.em Z.su_NothingToUndo_NoIndex, (fun z => nomatch z), fun _ => ?_⟩
        refine ⟨false, Z.xa_NotShort.em Z.su_NothingToUndo_NotShort, (fun z => nomatch z), fun _ => ?_⟩
        refine ⟨true, Z.xa_NothingToUndo.em Z.su_NothingToUndo_NothingToUndo, fun _ e ne => ?_, fun z => nomatch z⟩
        generalize hh : upd _ e _ = H2
        obtain ⟨s2, e2⟩ := new_eq ne hh
        clear hh
        walk_at "go"
        intro t3 nt3
        generalize hh : upd _ t3 _ = H3
        obtain ⟨s3, e3⟩ := new_eq nt3 hh
        walk_at "go"
        walk_at "go"
        exact q _ _ (Kx.of (s1.trans (s2.trans s3))) ⟨t3, rfl, e3⟩ (hA.same (s1.trans (s2.trans s3)))
      · rw [List.concat_eq_append] at *
        rw [bstp_undo1] at q
        have hO := hA.oty
        obtain ⟨S', ⟨r0, w0⟩, rfl, hq', e1, e2⟩ := paired_last hq
        cases e1
        refine .inl ⟨S', r0, _, rfl, fun H1 k1 d1 => ?_⟩
        walk_at "go"
        exact q _ H1 k1 rfl ⟨r0, S', d1, e2.kx k1 (fun z => e2.oty (hO _ z) rfl), L2.Paired.mapP hq' fun _ _ z => z.kx k1 hO⟩
/-! ### _law_shows -/
def sp__law_shows (K : PySem.W.Frag) : Sp := fun vs H Q _ => ∃ (x p : Addr) (v : V) (ss : List DS) (s : DS), vs = [.ref x, v] ∧ DskA K H x p ss s ∧ StA H v s ∧ WOk s ∧ ss.length < 100000 ∧ ∀ H', Kx [x, p] H H' → DskA K H' x p ss s → Q (.bl true) H'
set_option maxHeartbeats 4000000 in
theorem ok__law_shows (Z : Tx K mg) : FnG P w K mg base CX0 12 Z.a__law_shows Z.d__law_shows ["desk", "state"] (sp__law_shows K) := by
  refine funG Z.F__law_shows sc__law_shows (fun vs H Q E h => ?_) (fun cdv A outer s H vs Q E gg rm h => ?_)
  · obtain ⟨x, p, v, ss, s0, rfl, hA, hv, hw, hS, q⟩ := h; rfl
  · obtain ⟨x, p, v, ss, s0, rfl, hA, hv, hw, hS, q⟩ := h
    refine ⟨_,
      (pss_cons (ps_for PassesOwn.never rfl (pi_K K (pe_tup (pa_cons (pe_strL (l := [114, 111, 111, 116]) (by decide +kernel)) (pa_cons (pe_strL (l := [114, 117, 108, 101, 115]) (by decide +kernel)) pa_nil)))) (pg_name (i := 2) sc__law_shows.nd rfl (.inl rfl))
        (pss_one (ps_if (pt_not (pt_truK K (pe_callG gg (ok__law_is Z) (rm.mono (by decide)) (by rfl) Z.g__law_is Z.F__law_is.kp Z.b__law_is .nil pass0 (pa_cons (pe_callG gg (ok__law_answer Z) rm (by rfl) Z.g__law_answer Z.F__law_answer.kp Z.b__law_answer .nil pass0 (pa_cons (pv 0) (pa_cons (pv 2) pa_nil))) (pa_cons (pe_ix (ix_K K) (pe_callG gg (ok__law_behind Z) (rm.mono (by decide)) (by rfl) Z.g__law_behind Z.F__law_behind.kp Z.b__law_behind .nil pass0 (pa_cons (pv 1) (pa_cons (pe_tup (pa_cons (pv 2) (pa_cons pe_non pa_nil))) pa_nil))) pe_int (fun _ _ => rfl)) pa_nil))) (by intro _; rfl)))
          (pss_one (ps_ret pe_bl))
          pss_nil)))
      (pss_one (ps_ret pe_bl))), ?_⟩
    rw [show L2.start N__law_shows [.ref x, v] = [some (.ref x), some (v), none] from rfl]
    have hal := hA.al
    have htd := hA.told
    walk_at "go"
    intro d nd
    generalize hh : upd _ d _ = H3
    obtain ⟨s13, ed⟩ := new_eq nd hh
    walk_at "go"
    have hls : ∀ l ∈ [Prt.way .root, Prt.way .rules], l = Prt.way .rules ∨ l = Prt.way .root := by simp
    have ed : H3 d = some (.tup ([Prt.way .root, Prt.way .rules].map T)) := ed
    generalize hL : [Prt.way .root, Prt.way .rules] = ls at hls ed
    have hll : ls.length ≤ 3 := by rw [← hL]; simp
    refine r_goT (SqT.of ed) ?_
    refine for_known (known_tup (ls.map T)) (fun i σ H' => ∃ z, σ = [some (.ref x), some v, z] ∧ Kx [x, p] H3 H' ∧ DskA K H' x p ss s0) ⟨none, rfl, Kx.refl, hA.same s13⟩ (fun i σ H' hi ⟨_, _, k, _⟩ => SqT.of (k.2 _ _ ed)) ?_ ?_
    · rintro i σ H4 hi ⟨z, rfl, k4, hA4⟩
      rw [List.length_map] at hi
      rw [map_getD _ hi]
      have hg := hls _ (getD_memL hi)
      generalize ls.getD i [] = l at hg
      have hv4 := (hv.same s13).kx k4
      obtain ⟨pr, hpr, hpl, hne, hno⟩ : ∃ pr : Prt, Prt.Says l pr ∧ pr.way = l ∧ pr.val = .non ∧ pr ≠ .undo ∧ (bstp ss s0 pr).2 = (ss, s0) ∧ (bstp ss s0 pr).1 = (pbeh s0 pr).1 ∧ pr.ok := by
        rcases hg with rfl | rfl
        · exact ⟨.rules, rfl, rfl, rfl, (fun z => nomatch z), rfl, rfl, trivial⟩
        · exact ⟨.root, rfl, rfl, rfl, (fun z => nomatch z), rfl, rfl, trivial⟩
      obtain ⟨hno, hb2, hb1, hpk⟩ := hno
      walk_at "go"
      refine ⟨x, p, l, pr, ss, s0, rfl, hA4, hS, hw, hpr, fun u H5 k5 hu hA5 => ?_⟩
      rw [hb2] at hA5
      have hA5 : DskA K H5 x p ss s0 := hA5
      rw [hb1] at hu
      walk_at "go"
      intro t6 nt6
      generalize hh : upd _ t6 _ = H6
      obtain ⟨s6, e6⟩ := new_eq nt6 hh
      walk_at "go"
      refine ⟨v, .ref t6, s0, pr, rfl, (hv4.kx k5).same s6, ⟨t6, rfl, by rw [e6, hpl, hne]⟩, hno, hpk, hal, htd, hw, fun t u1 u2 H7 s7 e7 ha7 hs7 => ?_⟩
      walk_at "go"
      refine ⟨u, u1, _, rfl, (hu.same s6).same s7, ha7, hb1 ▸ bstp_aok htd.1 pr, fun H8 s8 => ?_⟩
      walk_at "go"
      exact ⟨_, rfl, k4.trans (k5.trans (Kx.of (s6.trans (s7.trans s8)))), hA5.same (s6.trans (s7.trans s8))⟩
    · rintro σ H4 ⟨z, rfl, k4, hA4⟩
      walk_at "go"
      exact q _ ((Kx.of s13).trans k4) hA4
/-! ### law -/
def sp_law (K : PySem.W.Frag) : Sp := fun vs H Q _ => ∃ (a : Addr) (ns : List Int), vs = [.ref a] ∧ SqL K H a (ns.map V.int) ∧ ns.length ≤ 63 ∧ ∀ H', Q (.bl true) H'
set_option maxHeartbeats 4000000 in
theorem ok_law (Z : Tx K mg) : FnG P w K mg base CX0 13 Z.a_law Z.d_law ["script"] (sp_law K) := by
  refine funG Z.F_law sc_law (fun vs H Q E h => ?_) (fun cdv A outer s H vs Q E gg rm h => ?_)
  · obtain ⟨a0, ns, rfl, hS, hlen, fin⟩ := h; rfl
  · obtain ⟨a0, ns, rfl, hS, hlen, fin⟩ := h
    refine ⟨_,
      (pss_cons (ps_par (i := 1) (j := 2) (by rfl) sc_law.nd rfl rfl (by decide) rfl rfl (pa_cons (pe_lst (pa_cons (NX.pe_make0G gg Z.mk_Desk (ok_Desk_init Z) (rm.mono (by decide)) (by rfl) Z.gc_Desk Z.b_Desk_init .nil pass0) (pa_cons (NX.pe_make0G gg Z.mk_Desk (ok_Desk_init Z) (rm.mono (by decide)) (by rfl) Z.gc_Desk Z.b_Desk_init .nil pass0) pa_nil))) (pa_cons (pe_lst (pa_cons (pe_lst (pa_cons (pe_tup (pa_cons (pe_strL (l := [97, 98]) (by decide +kernel)) (pa_cons (pe_tup pa_nil) (pa_cons (pe_strL (l := []) (by decide +kernel)) pa_nil)))) pa_nil)) (pa_cons (pe_lst (pa_cons (pe_tup (pa_cons (pe_strL (l := [97, 98]) (by decide +kernel)) (pa_cons (pe_tup pa_nil) (pa_cons (pe_strL (l := []) (by decide +kernel)) pa_nil)))) pa_nil)) pa_nil))) pa_nil)) (by rfl))
      (pss_cons (ps_for PassesOwn.never rfl (pi_range1 (by rfl) Z.n_range (pa_cons (pe_callB (call_max2 rfl) (by rfl) Z.n_max (by decide +kernel) (pa_cons pe_int (pa_cons (pe_callB (call_min2 rfl) (by rfl) Z.n_min (by decide +kernel) (pa_cons pe_int (pa_cons (pe_callB (call_lenK K) (by rfl) Z.n_len PySem.boot_len (pa_cons (pv 0) pa_nil)) pa_nil))) pa_nil))) pa_nil)) (pg_name (i := 3) sc_law.nd rfl (.inl rfl))
        (pss_cons (ps_set (i := 4) sc_law.nd rfl (.inl rfl) (pe_callG gg (ok__law_well Z) (rm.mono (by decide)) (by rfl) Z.g__law_well Z.F__law_well.kp Z.b__law_well .nil pass0 (pa_cons (pv 0) (pa_cons (pv 3) pa_nil))))
        (pss_cons (ps_set (i := 5) sc_law.nd rfl (.inl rfl) (pe_ix (ix_K K) (pe_lst (pa_cons (pe_lst (pa_cons pe_int pa_nil)) (pa_cons (pe_lst (pa_cons pe_int pa_nil)) (pa_cons (pe_lst (pa_cons pe_int (pa_cons pe_int pa_nil))) (pa_cons (pe_lst (pa_cons pe_int (pa_cons pe_int pa_nil))) pa_nil))))) (pe_callG gg (ok__law_pull Z) (rm.mono (by decide)) (by rfl) Z.g__law_pull Z.F__law_pull.kp Z.b__law_pull .nil pass0 (pa_cons (pv 4) (pa_cons pe_int pa_nil))) (fun _ _ => rfl)))
        (pss_cons (ps_set (i := 6) sc_law.nd rfl (.inl rfl) (pe_callG gg (ok__law_drawn Z) (rm.mono (by decide)) (by rfl) Z.g__law_drawn Z.F__law_drawn.kp Z.b__law_drawn .nil pass0 (pa_cons (pv 4) (pa_cons (pe_ix (ix_K K) (pe_ix (ix_K K) (pv 2) (pe_ix (ix_K K) (pv 5) pe_int (fun _ _ => rfl)) (fun _ _ => rfl)) (pe_un un_neg pe_int) (fun _ _ => rfl)) pa_nil))))
        (pss_cons (ps_set (i := 7) sc_law.nd rfl (.inl rfl) (pe_callG gg (ok__law_words Z) (rm.mono (by decide)) (by rfl) Z.g__law_words Z.F__law_words.kp Z.b__law_words .nil pass0 (pa_cons (pv 4) (pa_cons (pv 6) pa_nil))))
        (pss_cons (ps_for PassesOwn.never rfl (pi_K K (pv 5)) (pg_name (i := 8) sc_law.nd rfl (.inl rfl))
          (pss_cons (ps_set (i := 9) sc_law.nd rfl (.inl rfl) (pe_callG gg (ok__law_next Z) (rm.mono (by decide)) (by rfl) Z.g__law_next Z.F__law_next.kp Z.b__law_next .nil pass0 (pa_cons (pe_ix (ix_K K) (pv 2) (pv 8) (fun _ _ => rfl)) (pa_cons (pv 6) pa_nil))))
          (pss_one (ps_if (pt_not (pt_truK K (pe_callG gg (ok__law_is Z) (rm.mono (by decide)) (by rfl) Z.g__law_is Z.F__law_is.kp Z.b__law_is .nil pass0 (pa_cons (pe_callG gg (ok__law_answer Z) (rm.mono (by decide)) (by rfl) Z.g__law_answer Z.F__law_answer.kp Z.b__law_answer .nil pass0 (pa_cons (pe_ix (ix_K K) (pv 1) (pv 8) (fun _ _ => rfl)) (pa_cons (pv 7) pa_nil))) (pa_cons (pv 9) pa_nil))) (by intro _; rfl)))
            (pss_one (ps_ret pe_bl))
            pss_nil))))
        (pss_cons (ps_if (PW.pt (pw_or (pt_not (pt_truK K (pe_callG gg (ok__law_shows Z) rm (by rfl) Z.g__law_shows Z.F__law_shows.kp Z.b__law_shows .nil pass0 (pa_cons (pe_ix (ix_K K) (pv 1) pe_int (fun _ _ => rfl)) (pa_cons (pe_ix (ix_K K) (pe_ix (ix_K K) (pv 2) pe_int (fun _ _ => rfl)) (pe_un un_neg pe_int) (fun _ _ => rfl)) pa_nil))) (by intro _; rfl))) (pw_or1 (pt_not (pt_truK K (pe_callG gg (ok__law_shows Z) rm (by rfl) Z.g__law_shows Z.F__law_shows.kp Z.b__law_shows .nil pass0 (pa_cons (pe_ix (ix_K K) (pv 1) pe_int (fun _ _ => rfl)) (pa_cons (pe_ix (ix_K K) (pe_ix (ix_K K) (pv 2) pe_int (fun _ _ => rfl)) (pe_un un_neg pe_int) (fun _ _ => rfl)) pa_nil))) (by intro _; rfl))))))
          (pss_one (ps_ret pe_bl))
          pss_nil)
        (pss_one (ps_if (pt_cmpR (op_eqK K (hu_of64 rm)) (pe_callG gg (ok__law_pull Z) (rm.mono (by decide)) (by rfl) Z.g__law_pull Z.F__law_pull.kp Z.b__law_pull .nil pass0 (pa_cons (pv 4) (pa_cons pe_int pa_nil))) pe_int (nomark _))
          (pss_cons (ps_set (i := 8) sc_law.nd rfl (.inl rfl) (pe_callG gg (ok__law_pull Z) (rm.mono (by decide)) (by rfl) Z.g__law_pull Z.F__law_pull.kp Z.b__law_pull .nil pass0 (pa_cons (pv 4) (pa_cons pe_int pa_nil))))
          (pss_cons (ps_asg (NX.pe_make0G gg Z.mk_Desk (ok_Desk_init Z) (rm.mono (by decide)) (by rfl) Z.gc_Desk Z.b_Desk_init .nil pass0) (pg_sub (pv 1) (pv 8) set_list))
          (pss_cons (ps_asg (pe_lst (pa_cons (pe_tup (pa_cons (pe_strL (l := [97, 98]) (by decide +kernel)) (pa_cons (pe_tup pa_nil) (pa_cons (pe_strL (l := []) (by decide +kernel)) pa_nil)))) pa_nil)) (pg_sub (pv 2) (pv 8) set_list))
          (pss_one (ps_if (pt_not (pt_truK K (pe_callG gg (ok__law_shows Z) rm (by rfl) Z.g__law_shows Z.F__law_shows.kp Z.b__law_shows .nil pass0 (pa_cons (pe_ix (ix_K K) (pv 1) (pv 8) (fun _ _ => rfl)) (pa_cons (pe_tup (pa_cons (pe_strL (l := [97, 98]) (by decide +kernel)) (pa_cons (pe_tup pa_nil) (pa_cons (pe_strL (l := []) (by decide +kernel)) pa_nil)))) pa_nil))) (by intro _; rfl)))
            (pss_one (ps_ret pe_bl))
            pss_nil)))))
          pss_nil)))))))))
      (pss_one (ps_ret pe_bl)))), ?_⟩
    rw [show L2.start N_law [.ref a0] = [some (.ref a0), none, none, none, none, none, none, none, none, none] from rfl]
    have hC := cA_eq Z.ns_Desk
    walk_at "go"
    refine spDsk_new hC fun x0 p0 r0 H1 nx0 np0 s1 hr0 hd0 => ?_
    walk_at "go"
    refine spDsk_new hC fun x1 p1 r1 H2 nx1 np1 s2 hr1 hd1 => ?_
    walk_at "go"
    intro dl ndl
    generalize hh : upd _ dl _ = H3
    obtain ⟨s3, e3⟩ := new_eq ndl hh
    walk_at "go"
    intro t4 nt4
    generalize hh : upd _ t4 _ = H4
    obtain ⟨s4, e4⟩ := new_eq nt4 hh
    walk_at "go"
    intro t5 nt5
    generalize hh : upd _ t5 _ = H5
    obtain ⟨s5, e5⟩ := new_eq nt5 hh
    walk_at "go"
    intro q0 nq0
    generalize hh : upd _ q0 _ = H6
    obtain ⟨s6, e6⟩ := new_eq nq0 hh
    walk_at "go"
    intro t7 nt7
    generalize hh : upd _ t7 _ = H7
    obtain ⟨s7, e7⟩ := new_eq nt7 hh
    walk_at "go"
    intro t8 nt8
    generalize hh : upd _ t8 _ = H8
    obtain ⟨s8, e8⟩ := new_eq nt8 hh
    walk_at "go"
    intro q1 nq1
    generalize hh : upd _ q1 _ = H9
    obtain ⟨s9, e9⟩ := new_eq nq1 hh
    walk_at "go"
    intro pl npl
    generalize hh : upd _ pl _ = H10
    obtain ⟨s10, e10⟩ := new_eq npl hh
    walk_at "go"
    have s010 : Same H H10 := s1.trans (s2.trans (s3.trans (s4.trans (s5.trans (s6.trans (s7.trans (s8.trans (s9.trans s10))))))))
    have hS10 := sqL_same hS s010
    obtain ⟨st, hst⟩ : ∃ st : DS, st = ⟨[97, 98], [], []⟩ := ⟨_, rfl⟩
    have hwst : WOk st := by rw [hst]; exact ⟨(fun c hc => nomatch hc), trivial, by simp⟩
    have g0 : DskA K H1 x0 p0 [] st := by rw [hst]; exact DskA.new hd0 hr0
    have g1 : DskA K H2 x1 p1 [] st := by rw [hst]; exact DskA.new hd1 hr1
    have hsta0 : StA H10 (.ref t5) st := by rw [hst]; exact ⟨t5, t4, rfl, (s6.trans (s7.trans (s8.trans (s9.trans s10)))) _ _ e5, (s5.trans (s6.trans (s7.trans (s8.trans (s9.trans s10))))) _ _ e4⟩
    have hsta1 : StA H10 (.ref t8) st := by rw [hst]; exact ⟨t8, t7, rfl, (s9.trans s10) _ _ e8, (s8.trans (s9.trans s10)) _ _ e7⟩
    have s25 := s3.trans (s4.trans s5)
    have s58 := s6.trans (s7.trans s8)
    have a1 : x1 ≠ x0 := fresh_ne nx1 g0.otyx.stand
    have a2 : x1 ≠ p0 := fresh_ne nx1 g0.otyp.stand
    have a3 : p1 ≠ x0 := fresh_ne np1 g0.otyx.stand
    have a4 : p1 ≠ p0 := fresh_ne np1 g0.otyp.stand
    have b1 : dl ≠ x0 := fresh_ne ndl (g0.same s2).otyx.stand
    have b2 : dl ≠ p0 := fresh_ne ndl (g0.same s2).otyp.stand
    have b3 : dl ≠ x1 := fresh_ne ndl g1.otyx.stand
    have b4 : dl ≠ p1 := fresh_ne ndl g1.otyp.stand
    have c1 : q0 ≠ x0 := fresh_ne nq0 (g0.same (s2.trans s25)).otyx.stand
    have c2 : q0 ≠ p0 := fresh_ne nq0 (g0.same (s2.trans s25)).otyp.stand
    have c3 : q0 ≠ x1 := fresh_ne nq0 (g1.same s25).otyx.stand
    have c4 : q0 ≠ p1 := fresh_ne nq0 (g1.same s25).otyp.stand
    have c5 : q0 ≠ dl := fresh_ne nq0 (by rw [(s4.trans s5) _ _ e3]; simp)
    have d1 : q1 ≠ x0 := fresh_ne nq1 (g0.same (s2.trans (s25.trans s58))).otyx.stand
    have d2 : q1 ≠ p0 := fresh_ne nq1 (g0.same (s2.trans (s25.trans s58))).otyp.stand
    have d3 : q1 ≠ x1 := fresh_ne nq1 (g1.same (s25.trans s58)).otyx.stand
    have d4 : q1 ≠ p1 := fresh_ne nq1 (g1.same (s25.trans s58)).otyp.stand
    have d5 : q1 ≠ dl := fresh_ne nq1 (by rw [((s4.trans s5).trans s58) _ _ e3]; simp)
    have d6 : q1 ≠ q0 := fresh_ne nq1 (by rw [(s7.trans s8) _ _ e6]; simp)
    have f1 : pl ≠ x0 := fresh_ne npl (g0.same (s2.trans (s25.trans (s58.trans s9)))).otyx.stand
    have f2 : pl ≠ p0 := fresh_ne npl (g0.same (s2.trans (s25.trans (s58.trans s9)))).otyp.stand
    have f3 : pl ≠ x1 := fresh_ne npl (g1.same (s25.trans (s58.trans s9))).otyx.stand
    have f4 : pl ≠ p1 := fresh_ne npl (g1.same (s25.trans (s58.trans s9))).otyp.stand
    have f5 : pl ≠ dl := fresh_ne npl (by rw [((s4.trans s5).trans (s58.trans s9)) _ _ e3]; simp)
    have f6 : pl ≠ q0 := fresh_ne npl (by rw [((s7.trans s8).trans s9) _ _ e6]; simp)
    have f7 : pl ≠ q1 := fresh_ne npl (by rw [e9]; simp)
    have hT : ∃ f : Nat → Dk, (∀ a ∈ twoAll dl pl f, H a = none) ∧ TwoD K H10 dl pl f 0 := by
      refine ⟨fun k => if k = 0 then ⟨x0, p0, q0, [.ref t5], [], st⟩ else ⟨x1, p1, q1, [.ref t8], [], st⟩, fun a ha => ?_, (s4.trans (s5.trans (s58.trans (s9.trans s10)))) _ _ e3, e10, f5.symm, fun i hi => ?_, fun i j hi hj hij a ha => ?_⟩
      · simp only [twoAll, Dk.own, if_true, if_neg (show ¬ (1 = 0) by decide), List.mem_cons, List.mem_append, List.not_mem_nil, or_false] at ha
        have n1 := s1.free nx1
        have n2 := s1.free np1
        have n3 := (s1.trans s2).free ndl
        have n4 := ((s1.trans s2).trans s25).free nq0
        have n5 := (((s1.trans s2).trans s25).trans s58).free nq1
        have n6 := ((((s1.trans s2).trans s25).trans s58).trans s9).free npl
        rcases ha with rfl | rfl | (rfl | rfl | rfl) | rfl | rfl | rfl <;> assumption
      · rcases (show i = 0 ∨ i = 1 by omega) with rfl | rfl
        · refine ⟨⟨g0.same (s2.trans (s25.trans (s58.trans (s9.trans s10)))), (s7.trans (s8.trans (s9.trans s10))) _ _ e6, .cons hsta0 .nil, hwst, (fun u hu => nomatch hu), Nat.le_refl _, c2⟩, ?_, ?_⟩
          · simp [Dk.own, b1, b2, c5.symm]
          · simp [Dk.own, f1, f2, f6]
        · refine ⟨⟨g1.same (s25.trans (s58.trans (s9.trans s10))), s10 _ _ e9, .cons hsta1 .nil, hwst, (fun u hu => nomatch hu), Nat.le_refl _, d4⟩, ?_, ?_⟩
          · simp [Dk.own, b3, b4, d5.symm]
          · simp [Dk.own, f3, f4, f7]
      · rcases (show (i = 0 ∧ j = 1) ∨ (i = 1 ∧ j = 0) by omega) with ⟨rfl, rfl⟩ | ⟨rfl, rfl⟩
        · simp only [Dk.own, if_true, if_neg (show ¬ (1 = 0) by decide), List.mem_cons, List.not_mem_nil, or_false] at ha ⊢
          rcases ha with rfl | rfl | rfl
          · simp [a1.symm, a3.symm, d1.symm]
          · simp [a2.symm, a4.symm, d2.symm]
          · simp [c3, c4, d6.symm]
        · simp only [Dk.own, if_true, if_neg (show ¬ (1 = 0) by decide), List.mem_cons, List.not_mem_nil, or_false] at ha ⊢
          rcases ha with rfl | rfl | rfl
          · simp [a1, a2, c3.symm]
          · simp [a3, a4, c4.symm]
          · simp [d1, d2, d6]
    obtain ⟨f0, hf0, hT0⟩ := hT
    clear a1 a2 a3 a4 b1 b2 b3 b4 c1 c2 c3 c4 c5 d1 d2 d3 d4 d5 d6 f1 f2 f3 f4 f5 f6 f7 g0 g1 hsta0 hsta1
    walk_at "go"
    simp only [List.length_map]
    obtain ⟨t, ht, et⟩ : ∃ t : Nat, t ≤ 63 ∧ (if (if (ns.length : Int) < 63 then (ns.length : Int) else 63) > 6 then (if (ns.length : Int) < 63 then (ns.length : Int) else 63) else 6) = (t : Int) :=
      ⟨(if (if (ns.length : Int) < 63 then (ns.length : Int) else 63) > 6 then (if (ns.length : Int) < 63 then (ns.length : Int) else 63) else 6).toNat, by split <;> split <;> omega, by split <;> split <;> omega⟩
    rw [et]
    refine r_goR1 (by omega) ?_
    refine for_known (known_rng 0 _) (fun i σ H' => ∃ (f : Nat → Dk) (z3 z4 z5 z6 z7 z8 z9 : Option V), σ = [some (.ref a0), some (.ref dl), some (.ref pl), z3, z4, z5, z6, z7, z8, z9] ∧ Same H H' ∧ (∀ a ∈ twoAll dl pl f, H a = none) ∧ TwoD K H' dl pl f (2 * i))
      ⟨f0, none, none, none, none, none, none, none, rfl, s010, hf0, hT0⟩ (fun _ _ _ _ _ => trivial) ?_ ?_
    · rintro i σ H6 hi ⟨f, z3, z4, z5, z6, z7, z8, z9, rfl, s6, hf, hT⟩
      rw [Int.zero_add]
      have hS6 := sqL_same hS s6
      have hst6 := hT.stand
      walk_at "go"
      refine ⟨a0, ns, i, rfl, hS6, by omega, fun w H7 nw s7 w7 => ?_⟩
      have hwT : w ∉ twoAll dl pl f := fun z => hst6 _ z nw
      have nwH : H w = none := s6.free nw
      have hT7 := hT.same s7
      walk_at "go"
      intro m1 nm1
      generalize hh : upd _ m1 _ = G1
      obtain ⟨g1, e1⟩ := new_eq nm1 hh
      walk_at "go"
      intro m2 nm2
      generalize hh : upd _ m2 _ = G2
      obtain ⟨g2, e2⟩ := new_eq nm2 hh
      walk_at "go"
      intro m3 nm3
      generalize hh : upd _ m3 _ = G3
      obtain ⟨g3, e3⟩ := new_eq nm3 hh
      walk_at "go"
      intro m4 nm4
      generalize hh : upd _ m4 _ = G4
      obtain ⟨g4, e4⟩ := new_eq nm4 hh
      walk_at "go"
      intro ml nml
      generalize hh : upd _ ml _ = G5
      obtain ⟨g5, e5⟩ := new_eq nml hh
      walk_at "go"
      have g15 : Same H7 G5 := g1.trans (g2.trans (g3.trans (g4.trans g5)))
      have w8 := w7.same g15
      refine ⟨w, 4, _, rfl, w8, by decide, by decide, fun r H8 r0 r1 k8 w8 => ?_⟩
      have hTg := hT7.same g15
      have hT8 := hTg.wl (w7.same g15) k8 hwT
      obtain ⟨sl, js, hat, esl, hslw, hslT, hjl, hj0, hj2⟩ : ∃ (sl : Addr) (js : List Nat), atI [V.ref m1, .ref m2, .ref m3, .ref m4] r = some (.ref sl) ∧ H8 sl = some (.lst (js.map fun j => V.int (j : Nat))) ∧ sl ≠ w ∧ sl ∉ twoAll dl pl f ∧ js.length ≤ 2 ∧ js ≠ [] ∧ ∀ j ∈ js, j < 2 := by
        have x1 := w7.ne nm1
        have x2 := (w7.same g1).ne nm2
        have x3 := ((w7.same g1).same g2).ne nm3
        have x4 := (((w7.same g1).same g2).same g3).ne nm4
        rcases (show r = 0 ∨ r = 1 ∨ r = 2 ∨ r = 3 by omega) with rfl | rfl | rfl | rfl
        · exact ⟨m1, [0], rfl, k8 _ _ x1 ((g2.trans (g3.trans (g4.trans g5))) _ _ e1), x1, fun z => hT7.stand _ z nm1, by simp, by simp, by simp⟩
        · exact ⟨m2, [1], rfl, k8 _ _ x2 ((g3.trans (g4.trans g5)) _ _ e2), x2, fun z => (hT7.same g1).stand _ z nm2, by simp, by simp, by simp⟩
        · exact ⟨m3, [0, 1], rfl, k8 _ _ x3 ((g4.trans g5) _ _ e3), x3, fun z => (hT7.same (g1.trans g2)).stand _ z nm3, by simp, by simp, by simp⟩
        · exact ⟨m4, [1, 0], rfl, k8 _ _ x4 (g5 _ _ e4), x4, fun z => (hT7.same (g1.trans (g2.trans g3))).stand _ z nm4, by simp, by simp, by simp⟩
      have eml := k8 _ _ (((((w7.same g1).same g2).same g3).same g4).ne nml) e5
      obtain ⟨j0, js', rfl⟩ : ∃ j0 js', js = j0 :: js' := by
        cases js with
        | nil => exact absurd rfl hj0
        | cons a b => exact ⟨a, b, rfl⟩
      have hj0' := hj2 j0 (by simp)
      refine r_ixL (SqL.of eml) hat ?_
      walk_at "go"
      refine r_ixL (SqL.of esl) (show atI _ ((0 : Nat) : Int) = some (V.int (j0 : Nat)) from atI_nat rfl) ?_
      refine r_ixL (SqL.of hT8.2.1) (at_two (g := fun j => V.ref (f j).q) hj0') ?_
      obtain ⟨gj, _, _⟩ := hT8.2.2.2.1 j0 hj0'
      obtain ⟨vs0, v0, hv0e, hv0, _⟩ := gj.last
      walk_at "go"
      refine r_ixL (SqL.of gj.2.1) (show atI (f j0).vs (-1) = some v0 by rw [hv0e]; exact at_last (by simp)) ?_
      refine ⟨w, v0, (f j0).s, _, rfl, w8, by decide, hv0, gj.1.al, gj.1.told, fun pr v' H9 hok k9 w9 hv9 => ?_⟩
      have hT9 := hT8.wl w8 k9 hwT
      have esl9 := k9 _ _ hslw esl
      walk_at "go"
      refine ⟨w, v', pr, _, rfl, w9, by decide, hv9, hok, fun tt H10 hsay k10 w10 => ?_⟩
      have hT10 := hT9.wl w9 k10 hwT
      have esl10 := k10 _ _ hslw esl9
      have hv10 := hv9.kx (Kx.kp k10 w9)
      have nwL : ∀ a ∈ [w], H a = none := by simpa using nwH
      have s10 : Same H H10 := same_kx (same_kx (same_kx (s6.trans (s7.trans g15)) (Kx.kp k8 (w7.same g15)) nwL) (Kx.kp k9 w8) nwL) (Kx.kp k10 w9) nwL
      walk_at "go"
      refine r_goL (SqL.of esl10) ?_
      refine for_known (known_list ((j0 :: js').map fun j => V.int (j : Nat))) (fun k σ H' => ∃ (f' : Nat → Dk) (z8 z9 : Option V), σ = [some (.ref a0), some (.ref dl), some (.ref pl), some (.int (i : Nat)), some (.ref w), some (.ref sl), some v', some (T tt), z8, z9] ∧ Same H H' ∧ twoAll dl pl f' = twoAll dl pl f ∧ TwoD K H' dl pl f' (2 * i + k) ∧ Wl H' w (0 + 1 + 100 + 3) ∧ PrO H' v' pr ∧ H' sl = some (.lst ((j0 :: js').map fun j => V.int (j : Nat))))
        ⟨f, _, _, rfl, s10, rfl, hT10, w10, hv10, esl10⟩ (fun k σ H' hk ⟨_, _, _, _, _, _, _, _, _, e⟩ => SqL.of e) ?_ ?_
      · rintro k σ H11 hk ⟨f', z8, z9, rfl, s11, ha', hT11, w11, hv11, esl11⟩
        rw [List.length_map] at hk
        obtain ⟨j, hjv, hjj⟩ : ∃ j : Nat, ((j0 :: js').map fun j => V.int (j : Nat)).getD k .non = .int (j : Nat) ∧ j < 2 := by
          refine ⟨(j0 :: js').getD k 0, ?_, hj2 _ (getD_mem' hk)⟩
          rw [List.getD_eq_getElem?_getD, List.getElem?_map, List.getElem?_eq_getElem hk, List.getD_eq_getElem?_getD, List.getElem?_eq_getElem hk]
          rfl
        rw [hjv]
        have hT11' := hT11
        obtain ⟨edl, epl, hne, hgg, hdis⟩ := hT11
        obtain ⟨⟨gA, gq, gs, gw, gws, gn, gqp⟩, gdl, gpl⟩ := hgg j hjj
        have gqx : (f' j).q ≠ (f' j).x := (hgg j hjj).1.qx
        have hbw := bstp_wok (ss := (f' j).ss) (pr := pr) gA.al gw gws hok
        have hak := bstp_aok (ss := (f' j).ss) gA.told.1 pr
        walk_at "go"
        refine r_ixL (SqL.of epl) (at_two (g := fun j => V.ref (f' j).q) hjj) ?_
        walk_at "go"
        refine ⟨(f' j).q, v', (f' j).vs, (f' j).ss, (f' j).s, pr, rfl, gq, gs, hv11, hok, gA.al, gA.told, gw, by omega, fun due vs' H12 k12 eq12 ps12 hdue => ?_⟩
        have gA12 := gA.kx k12 (by simpa using gqx.symm) (by simpa using gqp.symm) (by simpa using Oty.l gq)
        have edl12 := k12.1 _ _ (by simpa [Dk.own] using fun z : dl = (f' j).q => gdl (by rw [z]; simp [Dk.own])) edl
        have ovw : ∀ a ∈ (f' j).own, a ≠ w := fun a ha z => hwT (z ▸ (ha' ▸ twoAll_own hjj ha))
        have ovs : ∀ a ∈ (f' j).own, a ≠ sl := fun a ha z => hslT (z ▸ (ha' ▸ twoAll_own hjj ha))
        walk_at "go"
        refine r_ixL (SqL.of edl12) (at_two (g := fun j => V.ref (f' j).x) hjj) ?_
        walk_at "go"
        refine ⟨(f' j).x, (f' j).p, tt, pr, (f' j).ss, (f' j).s, rfl, gA12, by omega, gw, hsay, fun u H13 k13 hu hA13 => ?_⟩
        walk_at "go"
        refine ⟨u, due, _, rfl, hu, hdue.kx k13, hak, fun H14 s14 => ?_⟩
        have ko : Kx (f' j).own H11 H14 := (k12.mono (by simp [Dk.own])).trans ((k13.mono (by simp [Dk.own])).trans (Kx.of s14))
        have k1214 : Kx [(f' j).x, (f' j).p] H12 H14 := k13.trans (Kx.of s14)
        walk_at "go"
        refine ⟨putD f' j ⟨(f' j).x, (f' j).p, (f' j).q, vs', (bstp (f' j).ss (f' j).s pr).2.1, (bstp (f' j).ss (f' j).s pr).2.2⟩, _, _, rfl, same_kx s11 ko ?_, ?_, ?_, w11.kx ko (fun z => ovw w z rfl), hv11.kx ko, ko.1 _ _ (fun z => ovs sl z rfl) esl11⟩
        · exact fun a ha => hf a (ha' ▸ twoAll_own hjj ha)
        · refine Eq.trans (putD_all ?_ ?_ ?_) ha' <;> rfl
        · exact hT11'.step hjj ko (fun a ha => ha) ⟨hA13.same s14, k1214.1 _ _ (by simp [gqx, gqp]) eq12, paired_sta ps12 k1214, hbw.1, hbw.2.1, Nat.le_trans hbw.2.2 (show (f' j).ss.length + 1 ≤ 2 * i + (k + 1) by omega), gqp⟩ rfl rfl rfl (by omega)
      rintro σ H11 ⟨f', z8, z9, rfl, s11, ha', hT11, w11, hv11, esl11⟩
      have hT11 := hT11.mono (show _ ≤ 2 * (i + 1) by simp only [List.length_map] at *; omega)
      have hf' : ∀ a ∈ twoAll dl pl f', H a = none := fun a ha => hf a (ha' ▸ ha)
      have hwT' : w ∉ twoAll dl pl f' := fun z => hwT (ha' ▸ z)
      clear hT10 hT9 hT8 hTg hT7 hT
      have edl := hT11.1
      have epl := hT11.2.1
      obtain ⟨gj, _, _⟩ := hT11.2.2.2.1 0 (by decide)
      obtain ⟨vs0, v0, hv0e, hv0, _⟩ := gj.last
      walk_at "go"
      refine r_ixL (SqL.of gj.2.1) (show atI (f' 0).vs (-1) = some v0 by rw [hv0e]; exact at_last (by simp)) ?_
      walk_at "go"
      have hss := gj.2.2.2.2.2.1
      refine ⟨(f' 0).x, (f' 0).p, v0, (f' 0).ss, (f' 0).s, rfl, gj.1, hv0, gj.2.2.2.1, by omega, fun H12 k12 hA12 => ?_⟩
      have hxw : ∀ j, j < 2 → ∀ a ∈ (f' j).own, w ≠ a := fun j hj a ha z => hwT' (z ▸ twoAll_own hj ha)
      have hT12 := hT11.show (by decide) k12 hA12
      have w12 := w11.kx k12 (fun z => hxw 0 (by decide) w (by simp only [Dk.own, List.mem_cons, List.not_mem_nil, or_false] at z ⊢; rcases z with z | z <;> simp [z]) rfl)
      have s12 := same_kx s11 k12 (fun a ha => hf' a (twoAll_own (i := 0) (by decide) (by simp only [Dk.own, List.mem_cons, List.not_mem_nil, or_false] at ha ⊢; rcases ha with z | z <;> simp [z])))
      have edl := hT12.1
      have epl := hT12.2.1
      obtain ⟨gj, _, _⟩ := hT12.2.2.2.1 1 (by decide)
      obtain ⟨vs1, v1, hv1e, hv1, _⟩ := gj.last
      walk_at "go"
      refine r_ixL (SqL.of gj.2.1) (show atI (f' 1).vs (-1) = some v1 by rw [hv1e]; exact at_last (by simp)) ?_
      walk_at "go"
      have hss := gj.2.2.2.2.2.1
      refine ⟨(f' 1).x, (f' 1).p, v1, (f' 1).ss, (f' 1).s, rfl, gj.1, hv1, gj.2.2.2.1, by omega, fun H13 k13 hA13 => ?_⟩
      have hT13 := hT12.show (by decide) k13 hA13
      have w13 := w12.kx k13 (fun z => hxw 1 (by decide) w (by simp only [Dk.own, List.mem_cons, List.not_mem_nil, or_false] at z ⊢; rcases z with z | z <;> simp [z]) rfl)
      have s13 := same_kx s12 k13 (fun a ha => hf' a (twoAll_own (i := 1) (by decide) (by simp only [Dk.own, List.mem_cons, List.not_mem_nil, or_false] at ha ⊢; rcases ha with z | z <;> simp [z])))
      walk_at "go"
      refine ⟨w, 12, _, rfl, w13, by decide, by decide, fun r2 H14 r20 r21 k14 w14 => ?_⟩
      have hT14 := hT13.wl w13 k14 hwT'
      have s14 := same_kx s13 (Kx.kp k14 w13) nwL
      walk_at "go"
      refine r_ifd (fun c => ?_) (fun c => ?_)
      · walk_at "go"
        refine ⟨w, 2, _, rfl, w14, by decide, by decide, fun r3 H15 r30 r31 k15 w15 => ?_⟩
        obtain ⟨j, rfl⟩ : ∃ j : Nat, r3 = (j : Int) := ⟨r3.toNat, by omega⟩
        have hj : j < 2 := by omega
        have hT15 := hT14.wl w14 k15 hwT'
        have s15 := same_kx s14 (Kx.kp k15 w14) nwL
        walk_at "go"
        refine spDsk_new hC fun x p r H16 nx np s16 hr hd => ?_
        have edl16 := s16 _ _ hT15.1
        have epl16 := s16 _ _ hT15.2.1
        walk_at "go"
        refine r_setL edl16 (ix_two hj) ?_
        generalize hu : upd H16 dl _ = H17
        have hdlpl := hT15.2.2.1
        have epl17 : H17 pl = some (.lst [V.ref (f' 0).q, .ref (f' 1).q]) := by rw [← hu, upd_ne hdlpl.symm]; exact epl16
        walk_at "go"
        intro t1 nt1
        generalize hh : upd _ t1 _ = G1
        obtain ⟨g1, e1⟩ := new_eq nt1 hh
        walk_at "go"
        intro t2 nt2
        generalize hh : upd _ t2 _ = G2
        obtain ⟨g2, e2⟩ := new_eq nt2 hh
        walk_at "go"
        intro q nq
        generalize hh : upd _ q _ = G3
        obtain ⟨g3, e3⟩ := new_eq nq hh
        walk_at "go"
        have g13 : Same H17 G3 := g1.trans (g2.trans g3)
        have eplG := g13 _ _ epl17
        refine r_setL eplG (ix_two hj) ?_
        generalize hu2 : upd G3 pl _ = H18
        have gA : DskA K H16 x p [] st := by rw [hst]; exact DskA.new hd hr
        have hq15 : H15 q = none := Classical.byContradiction fun z => stand_same (stand_upd (b := dl) (stand_same z s16)) (by rw [hu]; exact g1.trans g2) nq
        have hqp : q ≠ p := fresh_ne nq (stand_same (stand_upd (b := dl) gA.otyp.stand) (by rw [hu]; exact g1.trans g2))
        have staG : StA G3 (.ref t2) st := by rw [hst]; exact ⟨t2, t1, rfl, g3 _ _ e2, (g2.trans g3) _ _ e1⟩
        have hT18 := hT15.put (d := ⟨x, p, q, [.ref t2], [], st⟩) hj s16 hu.symm g13 hu2.symm (fun a ha => by
          simp only [Dk.own, List.mem_cons, List.not_mem_nil, or_false] at ha
          rcases ha with rfl | rfl | rfl <;> assumption) gA e3 (.cons staG .nil) hwst (fun u hu => nomatch hu) (Nat.zero_le _) hqp
        have k1618 : Kx [dl, pl] H16 H18 := by
          rw [← hu2]
          exact ((hu ▸ Kx.refl.putL edl16 (by simp) : Kx [dl, pl] H16 H17).trans (Kx.of g13)).putL eplG (by simp)
        have hnone : ∀ a ∈ [dl, pl], H a = none := fun a ha => hf' a (by simp only [twoAll, List.mem_cons, List.not_mem_nil, or_false] at ha ⊢; rcases ha with z | z <;> simp [z])
        have s18 := same_kx (s15.trans s16) k1618 hnone
        have edl18 := hT18.1
        have hg18 := (hT18.2.2.2.1 j hj).1
        rw [putD_same] at hg18
        have hg18 : DskA K H18 x p [] st := hg18.1
        generalize hdd : (⟨x, p, q, [.ref t2], [], st⟩ : Dk) = dd at hT18 edl18
        have hddx : dd.x = x := by rw [← hdd]
        have hddp : dd.p = p := by rw [← hdd]
        have hddw : dd.own = [x, p, q] := by rw [← hdd]; rfl
        have hdds : dd.ss = [] ∧ dd.s = st := by rw [← hdd]; exact ⟨rfl, rfl⟩
        walk_at "go"
        refine r_ixL (SqL.of edl18) (at_two (g := fun i => V.ref (putD f' j dd i).x) hj) ?_
        rw [putD_same, hddx]
        walk_at "go"
        intro t5 nt5
        generalize hh : upd _ t5 _ = H19
        obtain ⟨s19, e5⟩ := new_eq nt5 hh
        walk_at "go"
        intro t6 nt6
        generalize hh : upd _ t6 _ = H20
        obtain ⟨s20, e6⟩ := new_eq nt6 hh
        walk_at "go"
        have s1820 := s19.trans s20
        refine ⟨x, p, .ref t6, [], st, rfl, hg18.same s1820, by rw [hst]; exact ⟨t6, t5, rfl, e6, s20 _ _ e5⟩, hwst, by simp, fun H21 k21 hA21 => ?_⟩
        have hT21 := (hT18.same s1820).show (i := j) hj (H' := H21) (by rw [putD_same, hddx, hddp]; exact k21) (by rw [putD_same, hddx, hddp, hdds.1, hdds.2]; exact hA21)
        have nx0' := s15.free nx
        have np0' := s15.free np
        have nq0' := s15.free hq15
        have s21 := same_kx (s18.trans s1820) k21 (fun a ha => by
          simp only [List.mem_cons, List.not_mem_nil, or_false] at ha
          rcases ha with rfl | rfl <;> assumption)
        walk_at "go"
        refine ⟨_, _, _, _, _, _, _, _, rfl, s21, fun a ha => ?_, hT21⟩
        rcases twoAll_put ha with h | h
        · exact hf' a h
        · rw [hddw] at h
          simp only [List.mem_cons, List.not_mem_nil, or_false] at h
          rcases h with rfl | rfl | rfl <;> assumption
      · walk_at "go"
        exact ⟨f', _, _, _, _, _, _, _, rfl, s14, hf', hT14⟩
    · rintro σ H6 ⟨f, z3, z4, z5, z6, z7, z8, z9, rfl, _⟩
      walk_at "go"
      exact fin _
end
/-! ### what the top has written; the end -/
theorem all_mk {l : PySem.W.OpenLaw} {w : World} {K : PySem.W.Frag} {h : Heap} {mg : Str → Option Value} {fa : Addr} (X : K.In h) (G : h.Ns mainGlobals mg) (hfa : mg "law" = some (.ref fa))
    {f_Rules : Addr} (n_Rules : PySem.W.nsIn K mainGlobals "Rules" = some (some (.ref f_Rules))) (pg_Rules : PySem.W.plainGet K f_Rules Str.empty = true) (hd_Rules : PySem.W.hasDictIn K f_Rules = true) (po_Rules : PySem.W.plainOver K f_Rules = true) (sa_Rules : PySem.W.findIn K (.ref f_Rules) "__setattr__" = some (some (.builtin "object.__setattr__"))) (mk_Rules : PySem.W.makesIn K f_Rules = true) (kc_Rules : PySem.W.keepIn K (.ref f_Rules) = true)
    (na_Rules_alphabet : PySem.W.findIn K (.ref f_Rules) "alphabet" = some none)
    (na_Rules_told : PySem.W.findIn K (.ref f_Rules) "told" = some none)
    {f_Desk : Addr} (n_Desk : PySem.W.nsIn K mainGlobals "Desk" = some (some (.ref f_Desk))) (pg_Desk : PySem.W.plainGet K f_Desk Str.empty = true) (hd_Desk : PySem.W.hasDictIn K f_Desk = true) (po_Desk : PySem.W.plainOver K f_Desk = true) (sa_Desk : PySem.W.findIn K (.ref f_Desk) "__setattr__" = some (some (.builtin "object.__setattr__"))) (mk_Desk : PySem.W.makesIn K f_Desk = true) (kc_Desk : PySem.W.keepIn K (.ref f_Desk) = true)
    (na_Desk_past : PySem.W.findIn K (.ref f_Desk) "past" = some none)
    (na_Desk_word : PySem.W.findIn K (.ref f_Desk) "word" = some none)
    (na_Desk_work : PySem.W.findIn K (.ref f_Desk) "work" = some none)
    {f_RowError : Addr} (n_RowError : PySem.W.nsIn K mainGlobals "RowError" = some (some (.ref f_RowError))) (xb_RowError : PySem.W.subIn K (.ref f_RowError) (.type "BaseException") = some true) (xt_RowError : PySem.W.typeIn K (.ref f_RowError) = some (.type "type")) (xk_RowError : PySem.W.keepIn K (.ref f_RowError) = true) (xd_RowError : PySem.W.hasDictIn K f_RowError = true) (xv_RowError : PySem.W.subIn K (.ref f_RowError) (.type "ValueError") = some true) (xg_RowError : PySem.W.findIn K (.ref f_RowError) "__getattribute__" = some (some (.builtin "BaseException.__getattribute__"))) (xh_RowError : PySem.W.findIn K (.ref f_RowError) "__getattr__" = some none) (xc_RowError : PySem.W.findIn K (.ref f_RowError) "__class__" = some (some (.builtin "object.__class__"))) (xm_RowError : PySem.W.mroIn K f_RowError (.type "object") = some true) (r1_RowError : PySem.W.readsIn K f_RowError (.type "type") = true) (r2_RowError : PySem.W.specialIn K (.ref f_RowError) "__getattribute__" = some (some (.builtin "type.__getattribute__"))) (r3_RowError : PySem.W.findCls K (.ref f_RowError) (.type "type") "__init__" = some (.val (.builtin "ValueError.__init__")))
    {f_NoRow : Addr} (n_NoRow : PySem.W.nsIn K mainGlobals "NoRow" = some (some (.ref f_NoRow))) (xb_NoRow : PySem.W.subIn K (.ref f_NoRow) (.type "BaseException") = some true) (xt_NoRow : PySem.W.typeIn K (.ref f_NoRow) = some (.type "type")) (xk_NoRow : PySem.W.keepIn K (.ref f_NoRow) = true) (xd_NoRow : PySem.W.hasDictIn K f_NoRow = true) (xv_NoRow : PySem.W.subIn K (.ref f_NoRow) (.type "ValueError") = some true) (xg_NoRow : PySem.W.findIn K (.ref f_NoRow) "__getattribute__" = some (some (.builtin "BaseException.__getattribute__"))) (xh_NoRow : PySem.W.findIn K (.ref f_NoRow) "__getattr__" = some none) (xc_NoRow : PySem.W.findIn K (.ref f_NoRow) "__class__" = some (some (.builtin "object.__class__"))) (xm_NoRow : PySem.W.mroIn K f_NoRow (.type "object") = some true) (xx_NoRow : PySem.W.excIn K f_NoRow [.type "ValueError", .type "Exception", .type "BaseException", .type "object"] "ValueError.__new__" = true)
    {f_NoLetters : Addr} (n_NoLetters : PySem.W.nsIn K mainGlobals "NoLetters" = some (some (.ref f_NoLetters))) (xb_NoLetters : PySem.W.subIn K (.ref f_NoLetters) (.type "BaseException") = some true) (xt_NoLetters : PySem.W.typeIn K (.ref f_NoLetters) = some (.type "type")) (xk_NoLetters : PySem.W.keepIn K (.ref f_NoLetters) = true) (xd_NoLetters : PySem.W.hasDictIn K f_NoLetters = true) (xv_NoLetters : PySem.W.subIn K (.ref f_NoLetters) (.type "ValueError") = some true) (xg_NoLetters : PySem.W.findIn K (.ref f_NoLetters) "__getattribute__" = some (some (.builtin "BaseException.__getattribute__"))) (xh_NoLetters : PySem.W.findIn K (.ref f_NoLetters) "__getattr__" = some none) (xc_NoLetters : PySem.W.findIn K (.ref f_NoLetters) "__class__" = some (some (.builtin "object.__class__"))) (xm_NoLetters : PySem.W.mroIn K f_NoLetters (.type "object") = some true) (xx_NoLetters : PySem.W.excIn K f_NoLetters [.type "ValueError", .type "Exception", .type "BaseException", .type "object"] "ValueError.__new__" = true)
    {f_NoRows : Addr} {nm_NoRows qn_NoRows : Str} {N_xNoRows : Addr} {bs_NoRows : List Value} {sn_NoRows : List Str} {sub_NoRows : List Value} {ab_NoRows : Bool} {col_NoRows : Option Bool} {dd_NoRows : Option Addr} {m0_NoRows m1_NoRows m2_NoRows m3_NoRows m5_NoRows : Option Value} {fb_NoRows : Addr} (n_NoRows : PySem.W.nsIn K mainGlobals "NoRows" = some (some (.ref f_NoRows))) (xb_NoRows : PySem.W.subIn K (.ref f_NoRows) (.type "BaseException") = some true) (xt_NoRows : PySem.W.typeIn K (.ref f_NoRows) = some (.type "type")) (xk_NoRows : PySem.W.keepIn K (.ref f_NoRows) = true) (xd_NoRows : PySem.W.hasDictIn K f_NoRows = true) (xv_NoRows : PySem.W.subIn K (.ref f_NoRows) (.type "ValueError") = some true) (xg_NoRows : PySem.W.findIn K (.ref f_NoRows) "__getattribute__" = some (some (.builtin "BaseException.__getattribute__"))) (xh_NoRows : PySem.W.findIn K (.ref f_NoRows) "__getattr__" = some none) (xc_NoRows : PySem.W.findIn K (.ref f_NoRows) "__class__" = some (some (.builtin "object.__class__"))) (xm_NoRows : PySem.W.mroIn K f_NoRows (.type "object") = some true) (xl_NoRows : K.lookup f_NoRows = some (excClassObj nm_NoRows qn_NoRows f_NoRows N_xNoRows bs_NoRows [.ref fb_NoRows, .type "ValueError", .type "Exception", .type "BaseException", .type "object"] true sn_NoRows sub_NoRows ab_NoRows col_NoRows dd_NoRows m0_NoRows m1_NoRows m2_NoRows m3_NoRows m5_NoRows "ValueError.__new__")) (xs_NoRows : PySem.W.findIn K (.ref f_NoRows) "__setattr__" = some (some (.builtin "object.__setattr__"))) (xn_index_NoRows : PySem.W.findIn K (.ref f_NoRows) "index" = some none)
    {f_NoIndex : Addr} (n_NoIndex : PySem.W.nsIn K mainGlobals "NoIndex" = some (some (.ref f_NoIndex))) (xb_NoIndex : PySem.W.subIn K (.ref f_NoIndex) (.type "BaseException") = some true) (xt_NoIndex : PySem.W.typeIn K (.ref f_NoIndex) = some (.type "type")) (xk_NoIndex : PySem.W.keepIn K (.ref f_NoIndex) = true) (xd_NoIndex : PySem.W.hasDictIn K f_NoIndex = true) (xv_NoIndex : PySem.W.subIn K (.ref f_NoIndex) (.type "ValueError") = some true) (xg_NoIndex : PySem.W.findIn K (.ref f_NoIndex) "__getattribute__" = some (some (.builtin "BaseException.__getattribute__"))) (xh_NoIndex : PySem.W.findIn K (.ref f_NoIndex) "__getattr__" = some none) (xc_NoIndex : PySem.W.findIn K (.ref f_NoIndex) "__class__" = some (some (.builtin "object.__class__"))) (xm_NoIndex : PySem.W.mroIn K f_NoIndex (.type "object") = some true) (xx_NoIndex : PySem.W.excIn K f_NoIndex [.type "ValueError", .type "Exception", .type "BaseException", .type "object"] "ValueError.__new__" = true)
    {f_NoOrder : Addr} (n_NoOrder : PySem.W.nsIn K mainGlobals "NoOrder" = some (some (.ref f_NoOrder))) (xb_NoOrder : PySem.W.subIn K (.ref f_NoOrder) (.type "BaseException") = some true) (xt_NoOrder : PySem.W.typeIn K (.ref f_NoOrder) = some (.type "type")) (xk_NoOrder : PySem.W.keepIn K (.ref f_NoOrder) = true) (xd_NoOrder : PySem.W.hasDictIn K f_NoOrder = true) (xv_NoOrder : PySem.W.subIn K (.ref f_NoOrder) (.type "ValueError") = some true) (xg_NoOrder : PySem.W.findIn K (.ref f_NoOrder) "__getattribute__" = some (some (.builtin "BaseException.__getattribute__"))) (xh_NoOrder : PySem.W.findIn K (.ref f_NoOrder) "__getattr__" = some none) (xc_NoOrder : PySem.W.findIn K (.ref f_NoOrder) "__class__" = some (some (.builtin "object.__class__"))) (xm_NoOrder : PySem.W.mroIn K f_NoOrder (.type "object") = some true) (xx_NoOrder : PySem.W.excIn K f_NoOrder [.type "ValueError", .type "Exception", .type "BaseException", .type "object"] "ValueError.__new__" = true)
    {f_NothingToUndo : Addr} (n_NothingToUndo : PySem.W.nsIn K mainGlobals "NothingToUndo" = some (some (.ref f_NothingToUndo))) (xb_NothingToUndo : PySem.W.subIn K (.ref f_NothingToUndo) (.type "BaseException") = some true) (xt_NothingToUndo : PySem.W.typeIn K (.ref f_NothingToUndo) = some (.type "type")) (xk_NothingToUndo : PySem.W.keepIn K (.ref f_NothingToUndo) = true) (xd_NothingToUndo : PySem.W.hasDictIn K f_NothingToUndo = true) (xv_NothingToUndo : PySem.W.subIn K (.ref f_NothingToUndo) (.type "ValueError") = some true) (xg_NothingToUndo : PySem.W.findIn K (.ref f_NothingToUndo) "__getattribute__" = some (some (.builtin "BaseException.__getattribute__"))) (xh_NothingToUndo : PySem.W.findIn K (.ref f_NothingToUndo) "__getattr__" = some none) (xc_NothingToUndo : PySem.W.findIn K (.ref f_NothingToUndo) "__class__" = some (some (.builtin "object.__class__"))) (xm_NothingToUndo : PySem.W.mroIn K f_NothingToUndo (.type "object") = some true) (xx_NothingToUndo : PySem.W.excIn K f_NothingToUndo [.type "ValueError", .type "Exception", .type "BaseException", .type "object"] "ValueError.__new__" = true)
    {f_NotShort : Addr} (n_NotShort : PySem.W.nsIn K mainGlobals "NotShort" = some (some (.ref f_NotShort))) (xb_NotShort : PySem.W.subIn K (.ref f_NotShort) (.type "BaseException") = some true) (xt_NotShort : PySem.W.typeIn K (.ref f_NotShort) = some (.type "type")) (xk_NotShort : PySem.W.keepIn K (.ref f_NotShort) = true) (xd_NotShort : PySem.W.hasDictIn K f_NotShort = true) (xv_NotShort : PySem.W.subIn K (.ref f_NotShort) (.type "ValueError") = some true) (xg_NotShort : PySem.W.findIn K (.ref f_NotShort) "__getattribute__" = some (some (.builtin "BaseException.__getattribute__"))) (xh_NotShort : PySem.W.findIn K (.ref f_NotShort) "__getattr__" = some none) (xc_NotShort : PySem.W.findIn K (.ref f_NotShort) "__class__" = some (some (.builtin "object.__class__"))) (xm_NotShort : PySem.W.mroIn K f_NotShort (.type "object") = some true)
    (xS1 : PySem.W.specialIn K (.builtin "object.__class__") "__get__" = some (some (.builtin "getset_descriptor.__get__"))) (xS2 : PySem.W.takesIn K (.builtin "object.__class__") = some true)
    (su_NoRow_NoOrder : PySem.W.subIn K (.ref f_NoRow) (.ref f_NoOrder) = some false)
    (su_NoRow_NoRow : PySem.W.subIn K (.ref f_NoRow) (.ref f_NoRow) = some true)
    (su_NoRow_NoRows : PySem.W.subIn K (.ref f_NoRow) (.ref f_NoRows) = some false)
    (su_NoRow_NoIndex : PySem.W.subIn K (.ref f_NoRow) (.ref f_NoIndex) = some false)
    (su_NoRow_NotShort : PySem.W.subIn K (.ref f_NoRow) (.ref f_NotShort) = some false)
    (su_NoRow_NothingToUndo : PySem.W.subIn K (.ref f_NoRow) (.ref f_NothingToUndo) = some false)
    (su_NoLetters_NoOrder : PySem.W.subIn K (.ref f_NoLetters) (.ref f_NoOrder) = some false)
    (su_NoLetters_NoRow : PySem.W.subIn K (.ref f_NoLetters) (.ref f_NoRow) = some false)
    (su_NoLetters_NoRows : PySem.W.subIn K (.ref f_NoLetters) (.ref f_NoRows) = some false)
    (su_NoLetters_NoIndex : PySem.W.subIn K (.ref f_NoLetters) (.ref f_NoIndex) = some false)
    (su_NoLetters_NotShort : PySem.W.subIn K (.ref f_NoLetters) (.ref f_NotShort) = some false)
    (su_NoLetters_NothingToUndo : PySem.W.subIn K (.ref f_NoLetters) (.ref f_NothingToUndo) = some false)
    (su_NoRows_NoOrder : PySem.W.subIn K (.ref f_NoRows) (.ref f_NoOrder) = some false)
    (su_NoRows_NoRow : PySem.W.subIn K (.ref f_NoRows) (.ref f_NoRow) = some false)
    (su_NoRows_NoRows : PySem.W.subIn K (.ref f_NoRows) (.ref f_NoRows) = some true)
    (su_NoRows_NoIndex : PySem.W.subIn K (.ref f_NoRows) (.ref f_NoIndex) = some false)
    (su_NoRows_NotShort : PySem.W.subIn K (.ref f_NoRows) (.ref f_NotShort) = some false)
    (su_NoRows_NothingToUndo : PySem.W.subIn K (.ref f_NoRows) (.ref f_NothingToUndo) = some false)
    (su_NoIndex_NoOrder : PySem.W.subIn K (.ref f_NoIndex) (.ref f_NoOrder) = some false)
    (su_NoIndex_NoRow : PySem.W.subIn K (.ref f_NoIndex) (.ref f_NoRow) = some false)
    (su_NoIndex_NoRows : PySem.W.subIn K (.ref f_NoIndex) (.ref f_NoRows) = some false)
    (su_NoIndex_NoIndex : PySem.W.subIn K (.ref f_NoIndex) (.ref f_NoIndex) = some true)
    (su_NoIndex_NotShort : PySem.W.subIn K (.ref f_NoIndex) (.ref f_NotShort) = some false)
    (su_NoIndex_NothingToUndo : PySem.W.subIn K (.ref f_NoIndex) (.ref f_NothingToUndo) = some false)
    (su_NoOrder_NoOrder : PySem.W.subIn K (.ref f_NoOrder) (.ref f_NoOrder) = some true)
    (su_NoOrder_NoRow : PySem.W.subIn K (.ref f_NoOrder) (.ref f_NoRow) = some false)
    (su_NoOrder_NoRows : PySem.W.subIn K (.ref f_NoOrder) (.ref f_NoRows) = some false)
    (su_NoOrder_NoIndex : PySem.W.subIn K (.ref f_NoOrder) (.ref f_NoIndex) = some false)
    (su_NoOrder_NotShort : PySem.W.subIn K (.ref f_NoOrder) (.ref f_NotShort) = some false)
    (su_NoOrder_NothingToUndo : PySem.W.subIn K (.ref f_NoOrder) (.ref f_NothingToUndo) = some false)
    (su_NothingToUndo_NoOrder : PySem.W.subIn K (.ref f_NothingToUndo) (.ref f_NoOrder) = some false)
    (su_NothingToUndo_NoRow : PySem.W.subIn K (.ref f_NothingToUndo) (.ref f_NoRow) = some false)
    (su_NothingToUndo_NoRows : PySem.W.subIn K (.ref f_NothingToUndo) (.ref f_NoRows) = some false)
    (su_NothingToUndo_NoIndex : PySem.W.subIn K (.ref f_NothingToUndo) (.ref f_NoIndex) = some false)
    (su_NothingToUndo_NotShort : PySem.W.subIn K (.ref f_NothingToUndo) (.ref f_NotShort) = some false)
    (su_NothingToUndo_NothingToUndo : PySem.W.subIn K (.ref f_NothingToUndo) (.ref f_NothingToUndo) = some true)
    (su_NotShort_NotShort : PySem.W.subIn K (.ref f_NotShort) (.ref f_NotShort) = some true)
    {f_NoRows_init : Addr} {od_NoRows_init an_NoRows_init : Option Addr} {sl_NoRows_init : Array (Option Value)} {oc_NoRows_init kV_NoRows_init dc_NoRows_init pm_NoRows_init cd_NoRows_init ct_NoRows_init : Value}
    (a_NoRows_init : PySem.W.findIn K (.ref f_NoRows) "__init__" = some (some (.ref f_NoRows_init))) (i_NoRows_init : PySem.W.typeIn K (.ref f_NoRows_init) = some (.type "function"))
    (l_NoRows_init : K.lookup f_NoRows_init = some ⟨oc_NoRows_init, od_NoRows_init, .func (PySem.W.fnOf "__init__" "NoRows.__init__" (defArgs s_NoRows_init) (defBody s_NoRows_init) (defScope s_NoRows_init) .none kV_NoRows_init dc_NoRows_init pm_NoRows_init an_NoRows_init cd_NoRows_init ct_NoRows_init), sl_NoRows_init⟩) (c_NoRows_init : PySem.W.codeIn K cd_NoRows_init "NoRows.__init__" = true) (k_NoRows_init : PySem.W.keepIn K (.ref f_NoRows_init) = true)
    {f_is_whole : Addr} {od_is_whole an_is_whole : Option Addr} {sl_is_whole : Array (Option Value)} {oc_is_whole kV_is_whole dc_is_whole pm_is_whole cd_is_whole ct_is_whole : Value}
    (a_is_whole : PySem.W.nsIn K mainGlobals "is_whole" = some (some (.ref f_is_whole)))
    (l_is_whole : K.lookup f_is_whole = some ⟨oc_is_whole, od_is_whole, .func (PySem.W.fnOf "is_whole" "is_whole" (defArgs s_is_whole) (defBody s_is_whole) (defScope s_is_whole) .none kV_is_whole dc_is_whole pm_is_whole an_is_whole cd_is_whole ct_is_whole), sl_is_whole⟩) (c_is_whole : PySem.W.codeIn K cd_is_whole "is_whole" = true) (k_is_whole : PySem.W.keepIn K (.ref f_is_whole) = true)
    {f_is_row : Addr} {od_is_row an_is_row : Option Addr} {sl_is_row : Array (Option Value)} {oc_is_row kV_is_row dc_is_row pm_is_row cd_is_row ct_is_row : Value}
    (a_is_row : PySem.W.nsIn K mainGlobals "is_row" = some (some (.ref f_is_row)))
    (l_is_row : K.lookup f_is_row = some ⟨oc_is_row, od_is_row, .func (PySem.W.fnOf "is_row" "is_row" (defArgs s_is_row) (defBody s_is_row) (defScope s_is_row) .none kV_is_row dc_is_row pm_is_row an_is_row cd_is_row ct_is_row), sl_is_row⟩) (c_is_row : PySem.W.codeIn K cd_is_row "is_row" = true) (k_is_row : PySem.W.keepIn K (.ref f_is_row) = true)
    {f_is_row_of : Addr} {od_is_row_of an_is_row_of : Option Addr} {sl_is_row_of : Array (Option Value)} {oc_is_row_of kV_is_row_of dc_is_row_of pm_is_row_of cd_is_row_of ct_is_row_of : Value}
    (a_is_row_of : PySem.W.nsIn K mainGlobals "is_row_of" = some (some (.ref f_is_row_of)))
    (l_is_row_of : K.lookup f_is_row_of = some ⟨oc_is_row_of, od_is_row_of, .func (PySem.W.fnOf "is_row_of" "is_row_of" (defArgs s_is_row_of) (defBody s_is_row_of) (defScope s_is_row_of) .none kV_is_row_of dc_is_row_of pm_is_row_of an_is_row_of cd_is_row_of ct_is_row_of), sl_is_row_of⟩) (c_is_row_of : PySem.W.codeIn K cd_is_row_of "is_row_of" = true) (k_is_row_of : PySem.W.keepIn K (.ref f_is_row_of) = true)
    {f_are_letters : Addr} {od_are_letters an_are_letters : Option Addr} {sl_are_letters : Array (Option Value)} {oc_are_letters kV_are_letters dc_are_letters pm_are_letters cd_are_letters ct_are_letters : Value}
    (a_are_letters : PySem.W.nsIn K mainGlobals "are_letters" = some (some (.ref f_are_letters)))
    (l_are_letters : K.lookup f_are_letters = some ⟨oc_are_letters, od_are_letters, .func (PySem.W.fnOf "are_letters" "are_letters" (defArgs s_are_letters) (defBody s_are_letters) (defScope s_are_letters) .none kV_are_letters dc_are_letters pm_are_letters an_are_letters cd_are_letters ct_are_letters), sl_are_letters⟩) (c_are_letters : PySem.W.codeIn K cd_are_letters "are_letters" = true) (k_are_letters : PySem.W.keepIn K (.ref f_are_letters) = true)
    {f_check_row : Addr} {od_check_row an_check_row : Option Addr} {sl_check_row : Array (Option Value)} {oc_check_row kV_check_row dc_check_row pm_check_row cd_check_row ct_check_row : Value}
    (a_check_row : PySem.W.nsIn K mainGlobals "check_row" = some (some (.ref f_check_row)))
    (l_check_row : K.lookup f_check_row = some ⟨oc_check_row, od_check_row, .func (PySem.W.fnOf "check_row" "check_row" (defArgs s_check_row) (defBody s_check_row) (defScope s_check_row) .none kV_check_row dc_check_row pm_check_row an_check_row cd_check_row ct_check_row), sl_check_row⟩) (c_check_row : PySem.W.codeIn K cd_check_row "check_row" = true) (k_check_row : PySem.W.keepIn K (.ref f_check_row) = true)
    {f_check_row_of : Addr} {od_check_row_of an_check_row_of : Option Addr} {sl_check_row_of : Array (Option Value)} {oc_check_row_of kV_check_row_of dc_check_row_of pm_check_row_of cd_check_row_of ct_check_row_of : Value}
    (a_check_row_of : PySem.W.nsIn K mainGlobals "check_row_of" = some (some (.ref f_check_row_of)))
    (l_check_row_of : K.lookup f_check_row_of = some ⟨oc_check_row_of, od_check_row_of, .func (PySem.W.fnOf "check_row_of" "check_row_of" (defArgs s_check_row_of) (defBody s_check_row_of) (defScope s_check_row_of) .none kV_check_row_of dc_check_row_of pm_check_row_of an_check_row_of cd_check_row_of ct_check_row_of), sl_check_row_of⟩) (c_check_row_of : PySem.W.codeIn K cd_check_row_of "check_row_of" = true) (k_check_row_of : PySem.W.keepIn K (.ref f_check_row_of) = true)
    {f_check_letters : Addr} {od_check_letters an_check_letters : Option Addr} {sl_check_letters : Array (Option Value)} {oc_check_letters kV_check_letters dc_check_letters pm_check_letters cd_check_letters ct_check_letters : Value}
    (a_check_letters : PySem.W.nsIn K mainGlobals "check_letters" = some (some (.ref f_check_letters)))
    (l_check_letters : K.lookup f_check_letters = some ⟨oc_check_letters, od_check_letters, .func (PySem.W.fnOf "check_letters" "check_letters" (defArgs s_check_letters) (defBody s_check_letters) (defScope s_check_letters) .none kV_check_letters dc_check_letters pm_check_letters an_check_letters cd_check_letters ct_check_letters), sl_check_letters⟩) (c_check_letters : PySem.W.codeIn K cd_check_letters "check_letters" = true) (k_check_letters : PySem.W.keepIn K (.ref f_check_letters) = true)
    {f_back_of : Addr} {od_back_of an_back_of : Option Addr} {sl_back_of : Array (Option Value)} {oc_back_of kV_back_of dc_back_of pm_back_of cd_back_of ct_back_of : Value}
    (a_back_of : PySem.W.nsIn K mainGlobals "back_of" = some (some (.ref f_back_of)))
    (l_back_of : K.lookup f_back_of = some ⟨oc_back_of, od_back_of, .func (PySem.W.fnOf "back_of" "back_of" (defArgs s_back_of) (defBody s_back_of) (defScope s_back_of) .none kV_back_of dc_back_of pm_back_of an_back_of cd_back_of ct_back_of), sl_back_of⟩) (c_back_of : PySem.W.codeIn K cd_back_of "back_of" = true) (k_back_of : PySem.W.keepIn K (.ref f_back_of) = true)
    {f_least_of : Addr} {od_least_of an_least_of : Option Addr} {sl_least_of : Array (Option Value)} {oc_least_of kV_least_of dc_least_of pm_least_of cd_least_of ct_least_of : Value}
    (a_least_of : PySem.W.nsIn K mainGlobals "least_of" = some (some (.ref f_least_of)))
    (l_least_of : K.lookup f_least_of = some ⟨oc_least_of, od_least_of, .func (PySem.W.fnOf "least_of" "least_of" (defArgs s_least_of) (defBody s_least_of) (defScope s_least_of) .none kV_least_of dc_least_of pm_least_of an_least_of cd_least_of ct_least_of), sl_least_of⟩) (c_least_of : PySem.W.codeIn K cd_least_of "least_of" = true) (k_least_of : PySem.W.keepIn K (.ref f_least_of) = true)
    {f_core_of : Addr} {od_core_of an_core_of : Option Addr} {sl_core_of : Array (Option Value)} {oc_core_of kV_core_of dc_core_of pm_core_of cd_core_of ct_core_of : Value}
    (a_core_of : PySem.W.nsIn K mainGlobals "core_of" = some (some (.ref f_core_of)))
    (l_core_of : K.lookup f_core_of = some ⟨oc_core_of, od_core_of, .func (PySem.W.fnOf "core_of" "core_of" (defArgs s_core_of) (defBody s_core_of) (defScope s_core_of) .none kV_core_of dc_core_of pm_core_of an_core_of cd_core_of ct_core_of), sl_core_of⟩) (c_core_of : PySem.W.codeIn K cd_core_of "core_of" = true) (k_core_of : PySem.W.keepIn K (.ref f_core_of) = true)
    {f_root : Addr} {od_root an_root : Option Addr} {sl_root : Array (Option Value)} {oc_root kV_root dc_root pm_root cd_root ct_root : Value}
    (a_root : PySem.W.nsIn K mainGlobals "root" = some (some (.ref f_root)))
    (l_root : K.lookup f_root = some ⟨oc_root, od_root, .func (PySem.W.fnOf "root" "root" (defArgs s_root) (defBody s_root) (defScope s_root) .none kV_root dc_root pm_root an_root cd_root ct_root), sl_root⟩) (c_root : PySem.W.codeIn K cd_root "root" = true) (k_root : PySem.W.keepIn K (.ref f_root) = true)
    {f_is_turned : Addr} {od_is_turned an_is_turned : Option Addr} {sl_is_turned : Array (Option Value)} {oc_is_turned kV_is_turned dc_is_turned pm_is_turned cd_is_turned ct_is_turned : Value}
    (a_is_turned : PySem.W.nsIn K mainGlobals "is_turned" = some (some (.ref f_is_turned)))
    (l_is_turned : K.lookup f_is_turned = some ⟨oc_is_turned, od_is_turned, .func (PySem.W.fnOf "is_turned" "is_turned" (defArgs s_is_turned) (defBody s_is_turned) (defScope s_is_turned) .none kV_is_turned dc_is_turned pm_is_turned an_is_turned cd_is_turned ct_is_turned), sl_is_turned⟩) (c_is_turned : PySem.W.codeIn K cd_is_turned "is_turned" = true) (k_is_turned : PySem.W.keepIn K (.ref f_is_turned) = true)
    {f_is_ring_row : Addr} {od_is_ring_row an_is_ring_row : Option Addr} {sl_is_ring_row : Array (Option Value)} {oc_is_ring_row kV_is_ring_row dc_is_ring_row pm_is_ring_row cd_is_ring_row ct_is_ring_row : Value}
    (a_is_ring_row : PySem.W.nsIn K mainGlobals "is_ring_row" = some (some (.ref f_is_ring_row)))
    (l_is_ring_row : K.lookup f_is_ring_row = some ⟨oc_is_ring_row, od_is_ring_row, .func (PySem.W.fnOf "is_ring_row" "is_ring_row" (defArgs s_is_ring_row) (defBody s_is_ring_row) (defScope s_is_ring_row) .none kV_is_ring_row dc_is_ring_row pm_is_ring_row an_is_ring_row cd_is_ring_row ct_is_ring_row), sl_is_ring_row⟩) (c_is_ring_row : PySem.W.codeIn K cd_is_ring_row "is_ring_row" = true) (k_is_ring_row : PySem.W.keepIn K (.ref f_is_ring_row) = true)
    {f_is_kin : Addr} {od_is_kin an_is_kin : Option Addr} {sl_is_kin : Array (Option Value)} {oc_is_kin kV_is_kin dc_is_kin pm_is_kin cd_is_kin ct_is_kin : Value}
    (a_is_kin : PySem.W.nsIn K mainGlobals "is_kin" = some (some (.ref f_is_kin)))
    (l_is_kin : K.lookup f_is_kin = some ⟨oc_is_kin, od_is_kin, .func (PySem.W.fnOf "is_kin" "is_kin" (defArgs s_is_kin) (defBody s_is_kin) (defScope s_is_kin) .none kV_is_kin dc_is_kin pm_is_kin an_is_kin cd_is_kin ct_is_kin), sl_is_kin⟩) (c_is_kin : PySem.W.codeIn K cd_is_kin "is_kin" = true) (k_is_kin : PySem.W.keepIn K (.ref f_is_kin) = true)
    {f_can_stand : Addr} {od_can_stand an_can_stand : Option Addr} {sl_can_stand : Array (Option Value)} {oc_can_stand kV_can_stand dc_can_stand pm_can_stand cd_can_stand ct_can_stand : Value}
    (a_can_stand : PySem.W.nsIn K mainGlobals "can_stand" = some (some (.ref f_can_stand)))
    (l_can_stand : K.lookup f_can_stand = some ⟨oc_can_stand, od_can_stand, .func (PySem.W.fnOf "can_stand" "can_stand" (defArgs s_can_stand) (defBody s_can_stand) (defScope s_can_stand) .none kV_can_stand dc_can_stand pm_can_stand an_can_stand cd_can_stand ct_can_stand), sl_can_stand⟩) (c_can_stand : PySem.W.codeIn K cd_can_stand "can_stand" = true) (k_can_stand : PySem.W.keepIn K (.ref f_can_stand) = true)
    {f_check_rows : Addr} {od_check_rows an_check_rows : Option Addr} {sl_check_rows : Array (Option Value)} {oc_check_rows kV_check_rows dc_check_rows pm_check_rows cd_check_rows ct_check_rows : Value}
    (a_check_rows : PySem.W.nsIn K mainGlobals "check_rows" = some (some (.ref f_check_rows)))
    (l_check_rows : K.lookup f_check_rows = some ⟨oc_check_rows, od_check_rows, .func (PySem.W.fnOf "check_rows" "check_rows" (defArgs s_check_rows) (defBody s_check_rows) (defScope s_check_rows) .none kV_check_rows dc_check_rows pm_check_rows an_check_rows cd_check_rows ct_check_rows), sl_check_rows⟩) (c_check_rows : PySem.W.codeIn K cd_check_rows "check_rows" = true) (k_check_rows : PySem.W.keepIn K (.ref f_check_rows) = true)
    {f_Rules_init : Addr} {od_Rules_init an_Rules_init : Option Addr} {sl_Rules_init : Array (Option Value)} {oc_Rules_init kV_Rules_init dc_Rules_init pm_Rules_init cd_Rules_init ct_Rules_init : Value}
    {T_Rules_init E_Rules_init : Addr} {oT_Rules_init : Value} {pT_Rules_init : Option Addr} {nT_Rules_init : Nat} {sT_Rules_init : Array (Option Value)}
    (a_Rules_init : PySem.W.findIn K (.ref f_Rules) "__init__" = some (some (.ref f_Rules_init))) (i_Rules_init : PySem.W.isFn K (.ref f_Rules_init) = true)
    (l_Rules_init : K.lookup f_Rules_init = some ⟨oc_Rules_init, od_Rules_init, .func (PySem.W.fnOf "__init__" "Rules.__init__" (defArgs s_Rules_init) (defBody s_Rules_init) (defScope s_Rules_init) (.ref T_Rules_init) kV_Rules_init dc_Rules_init pm_Rules_init an_Rules_init cd_Rules_init ct_Rules_init), sl_Rules_init⟩) (c_Rules_init : PySem.W.codeIn K cd_Rules_init "Rules.__init__" = true) (k_Rules_init : PySem.W.keepIn K (.ref f_Rules_init) = true)
    (lt_Rules_init : K.lookup T_Rules_init = some ⟨oT_Rules_init, pT_Rules_init, .seq #[.ref E_Rules_init] nT_Rules_init, sT_Rules_init⟩)
    {pE_Rules_init : Option Addr} {nE_Rules_init : Nat} {sE_Rules_init : Array (Option Value)} (le_Rules_init : K.lookup E_Rules_init = some ⟨.type "tuple", pE_Rules_init, .seq #[] nE_Rules_init, sE_Rules_init⟩)
    {f_Rules_letters : Addr} {od_Rules_letters an_Rules_letters : Option Addr} {sl_Rules_letters : Array (Option Value)} {oc_Rules_letters kV_Rules_letters dc_Rules_letters pm_Rules_letters cd_Rules_letters ct_Rules_letters : Value}
    (a_Rules_letters : PySem.W.findIn K (.ref f_Rules) "letters" = some (some (.ref f_Rules_letters))) (i_Rules_letters : PySem.W.isFn K (.ref f_Rules_letters) = true)
    (l_Rules_letters : K.lookup f_Rules_letters = some ⟨oc_Rules_letters, od_Rules_letters, .func (PySem.W.fnOf "letters" "Rules.letters" (defArgs s_Rules_letters) (defBody s_Rules_letters) (defScope s_Rules_letters) .none kV_Rules_letters dc_Rules_letters pm_Rules_letters an_Rules_letters cd_Rules_letters ct_Rules_letters), sl_Rules_letters⟩) (c_Rules_letters : PySem.W.codeIn K cd_Rules_letters "Rules.letters" = true) (k_Rules_letters : PySem.W.keepIn K (.ref f_Rules_letters) = true)
    {f_Rules_rows : Addr} {od_Rules_rows an_Rules_rows : Option Addr} {sl_Rules_rows : Array (Option Value)} {oc_Rules_rows kV_Rules_rows dc_Rules_rows pm_Rules_rows cd_Rules_rows ct_Rules_rows : Value}
    (a_Rules_rows : PySem.W.findIn K (.ref f_Rules) "rows" = some (some (.ref f_Rules_rows))) (i_Rules_rows : PySem.W.isFn K (.ref f_Rules_rows) = true)
    (l_Rules_rows : K.lookup f_Rules_rows = some ⟨oc_Rules_rows, od_Rules_rows, .func (PySem.W.fnOf "rows" "Rules.rows" (defArgs s_Rules_rows) (defBody s_Rules_rows) (defScope s_Rules_rows) .none kV_Rules_rows dc_Rules_rows pm_Rules_rows an_Rules_rows cd_Rules_rows ct_Rules_rows), sl_Rules_rows⟩) (c_Rules_rows : PySem.W.codeIn K cd_Rules_rows "Rules.rows" = true) (k_Rules_rows : PySem.W.keepIn K (.ref f_Rules_rows) = true)
    {f_Rules_without : Addr} {od_Rules_without an_Rules_without : Option Addr} {sl_Rules_without : Array (Option Value)} {oc_Rules_without kV_Rules_without dc_Rules_without pm_Rules_without cd_Rules_without ct_Rules_without : Value}
    (a_Rules_without : PySem.W.findIn K (.ref f_Rules) "without" = some (some (.ref f_Rules_without))) (i_Rules_without : PySem.W.isFn K (.ref f_Rules_without) = true)
    (l_Rules_without : K.lookup f_Rules_without = some ⟨oc_Rules_without, od_Rules_without, .func (PySem.W.fnOf "without" "Rules.without" (defArgs s_Rules_without) (defBody s_Rules_without) (defScope s_Rules_without) .none kV_Rules_without dc_Rules_without pm_Rules_without an_Rules_without cd_Rules_without ct_Rules_without), sl_Rules_without⟩) (c_Rules_without : PySem.W.codeIn K cd_Rules_without "Rules.without" = true) (k_Rules_without : PySem.W.keepIn K (.ref f_Rules_without) = true)
    {f_stretch : Addr} {od_stretch an_stretch : Option Addr} {sl_stretch : Array (Option Value)} {oc_stretch kV_stretch dc_stretch pm_stretch cd_stretch ct_stretch : Value}
    (a_stretch : PySem.W.nsIn K mainGlobals "stretch" = some (some (.ref f_stretch)))
    (l_stretch : K.lookup f_stretch = some ⟨oc_stretch, od_stretch, .func (PySem.W.fnOf "stretch" "stretch" (defArgs s_stretch) (defBody s_stretch) (defScope s_stretch) .none kV_stretch dc_stretch pm_stretch an_stretch cd_stretch ct_stretch), sl_stretch⟩) (c_stretch : PySem.W.codeIn K cd_stretch "stretch" = true) (k_stretch : PySem.W.keepIn K (.ref f_stretch) = true)
    {f_written : Addr} {od_written an_written : Option Addr} {sl_written : Array (Option Value)} {oc_written kV_written dc_written pm_written cd_written ct_written : Value}
    (a_written : PySem.W.nsIn K mainGlobals "written" = some (some (.ref f_written)))
    (l_written : K.lookup f_written = some ⟨oc_written, od_written, .func (PySem.W.fnOf "written" "written" (defArgs s_written) (defBody s_written) (defScope s_written) .none kV_written dc_written pm_written an_written cd_written ct_written), sl_written⟩) (c_written : PySem.W.codeIn K cd_written "written" = true) (k_written : PySem.W.keepIn K (.ref f_written) = true)
    {f_number_in : Addr} {od_number_in an_number_in : Option Addr} {sl_number_in : Array (Option Value)} {oc_number_in kV_number_in dc_number_in pm_number_in cd_number_in ct_number_in : Value}
    (a_number_in : PySem.W.nsIn K mainGlobals "number_in" = some (some (.ref f_number_in)))
    (l_number_in : K.lookup f_number_in = some ⟨oc_number_in, od_number_in, .func (PySem.W.fnOf "number_in" "number_in" (defArgs s_number_in) (defBody s_number_in) (defScope s_number_in) .none kV_number_in dc_number_in pm_number_in an_number_in cd_number_in ct_number_in), sl_number_in⟩) (c_number_in : PySem.W.codeIn K cd_number_in "number_in" = true) (k_number_in : PySem.W.keepIn K (.ref f_number_in) = true)
    {f_times_in : Addr} {od_times_in an_times_in : Option Addr} {sl_times_in : Array (Option Value)} {oc_times_in kV_times_in dc_times_in pm_times_in cd_times_in ct_times_in : Value}
    (a_times_in : PySem.W.nsIn K mainGlobals "times_in" = some (some (.ref f_times_in)))
    (l_times_in : K.lookup f_times_in = some ⟨oc_times_in, od_times_in, .func (PySem.W.fnOf "times_in" "times_in" (defArgs s_times_in) (defBody s_times_in) (defScope s_times_in) .none kV_times_in dc_times_in pm_times_in an_times_in cd_times_in ct_times_in), sl_times_in⟩) (c_times_in : PySem.W.codeIn K cd_times_in "times_in" = true) (k_times_in : PySem.W.keepIn K (.ref f_times_in) = true)
    {f_digits_at : Addr} {od_digits_at an_digits_at : Option Addr} {sl_digits_at : Array (Option Value)} {oc_digits_at kV_digits_at dc_digits_at pm_digits_at cd_digits_at ct_digits_at : Value}
    (a_digits_at : PySem.W.nsIn K mainGlobals "digits_at" = some (some (.ref f_digits_at)))
    (l_digits_at : K.lookup f_digits_at = some ⟨oc_digits_at, od_digits_at, .func (PySem.W.fnOf "digits_at" "digits_at" (defArgs s_digits_at) (defBody s_digits_at) (defScope s_digits_at) .none kV_digits_at dc_digits_at pm_digits_at an_digits_at cd_digits_at ct_digits_at), sl_digits_at⟩) (c_digits_at : PySem.W.codeIn K cd_digits_at "digits_at" = true) (k_digits_at : PySem.W.keepIn K (.ref f_digits_at) = true)
    {f_row_in : Addr} {od_row_in an_row_in : Option Addr} {sl_row_in : Array (Option Value)} {oc_row_in kV_row_in dc_row_in pm_row_in cd_row_in ct_row_in : Value}
    (a_row_in : PySem.W.nsIn K mainGlobals "row_in" = some (some (.ref f_row_in)))
    (l_row_in : K.lookup f_row_in = some ⟨oc_row_in, od_row_in, .func (PySem.W.fnOf "row_in" "row_in" (defArgs s_row_in) (defBody s_row_in) (defScope s_row_in) .none kV_row_in dc_row_in pm_row_in an_row_in cd_row_in ct_row_in), sl_row_in⟩) (c_row_in : PySem.W.codeIn K cd_row_in "row_in" = true) (k_row_in : PySem.W.keepIn K (.ref f_row_in) = true)
    {f_any_row_in : Addr} {od_any_row_in an_any_row_in : Option Addr} {sl_any_row_in : Array (Option Value)} {oc_any_row_in kV_any_row_in dc_any_row_in pm_any_row_in cd_any_row_in ct_any_row_in : Value}
    (a_any_row_in : PySem.W.nsIn K mainGlobals "any_row_in" = some (some (.ref f_any_row_in)))
    (l_any_row_in : K.lookup f_any_row_in = some ⟨oc_any_row_in, od_any_row_in, .func (PySem.W.fnOf "any_row_in" "any_row_in" (defArgs s_any_row_in) (defBody s_any_row_in) (defScope s_any_row_in) .none kV_any_row_in dc_any_row_in pm_any_row_in an_any_row_in cd_any_row_in ct_any_row_in), sl_any_row_in⟩) (c_any_row_in : PySem.W.codeIn K cd_any_row_in "any_row_in" = true) (k_any_row_in : PySem.W.keepIn K (.ref f_any_row_in) = true)
    {f_row_text : Addr} {od_row_text an_row_text : Option Addr} {sl_row_text : Array (Option Value)} {oc_row_text kV_row_text dc_row_text pm_row_text cd_row_text ct_row_text : Value}
    (a_row_text : PySem.W.nsIn K mainGlobals "row_text" = some (some (.ref f_row_text)))
    (l_row_text : K.lookup f_row_text = some ⟨oc_row_text, od_row_text, .func (PySem.W.fnOf "row_text" "row_text" (defArgs s_row_text) (defBody s_row_text) (defScope s_row_text) .none kV_row_text dc_row_text pm_row_text an_row_text cd_row_text ct_row_text), sl_row_text⟩) (c_row_text : PySem.W.codeIn K cd_row_text "row_text" = true) (k_row_text : PySem.W.keepIn K (.ref f_row_text) = true)
    {f_rules_text : Addr} {od_rules_text an_rules_text : Option Addr} {sl_rules_text : Array (Option Value)} {oc_rules_text kV_rules_text dc_rules_text pm_rules_text cd_rules_text ct_rules_text : Value}
    (a_rules_text : PySem.W.nsIn K mainGlobals "rules_text" = some (some (.ref f_rules_text)))
    (l_rules_text : K.lookup f_rules_text = some ⟨oc_rules_text, od_rules_text, .func (PySem.W.fnOf "rules_text" "rules_text" (defArgs s_rules_text) (defBody s_rules_text) (defScope s_rules_text) .none kV_rules_text dc_rules_text pm_rules_text an_rules_text cd_rules_text ct_rules_text), sl_rules_text⟩) (c_rules_text : PySem.W.codeIn K cd_rules_text "rules_text" = true) (k_rules_text : PySem.W.keepIn K (.ref f_rules_text) = true)
    {f_row_or_none : Addr} {od_row_or_none an_row_or_none : Option Addr} {sl_row_or_none : Array (Option Value)} {oc_row_or_none kV_row_or_none dc_row_or_none pm_row_or_none cd_row_or_none ct_row_or_none : Value}
    (a_row_or_none : PySem.W.nsIn K mainGlobals "row_or_none" = some (some (.ref f_row_or_none)))
    (l_row_or_none : K.lookup f_row_or_none = some ⟨oc_row_or_none, od_row_or_none, .func (PySem.W.fnOf "row_or_none" "row_or_none" (defArgs s_row_or_none) (defBody s_row_or_none) (defScope s_row_or_none) .none kV_row_or_none dc_row_or_none pm_row_or_none an_row_or_none cd_row_or_none ct_row_or_none), sl_row_or_none⟩) (c_row_or_none : PySem.W.codeIn K cd_row_or_none "row_or_none" = true) (k_row_or_none : PySem.W.keepIn K (.ref f_row_or_none) = true)
    {f_index_or_none : Addr} {od_index_or_none an_index_or_none : Option Addr} {sl_index_or_none : Array (Option Value)} {oc_index_or_none kV_index_or_none dc_index_or_none pm_index_or_none cd_index_or_none ct_index_or_none : Value}
    (a_index_or_none : PySem.W.nsIn K mainGlobals "index_or_none" = some (some (.ref f_index_or_none)))
    (l_index_or_none : K.lookup f_index_or_none = some ⟨oc_index_or_none, od_index_or_none, .func (PySem.W.fnOf "index_or_none" "index_or_none" (defArgs s_index_or_none) (defBody s_index_or_none) (defScope s_index_or_none) .none kV_index_or_none dc_index_or_none pm_index_or_none an_index_or_none cd_index_or_none ct_index_or_none), sl_index_or_none⟩) (c_index_or_none : PySem.W.codeIn K cd_index_or_none "index_or_none" = true) (k_index_or_none : PySem.W.keepIn K (.ref f_index_or_none) = true)
    {f_rules_answer : Addr} {od_rules_answer an_rules_answer : Option Addr} {sl_rules_answer : Array (Option Value)} {oc_rules_answer kV_rules_answer dc_rules_answer pm_rules_answer cd_rules_answer ct_rules_answer : Value}
    (a_rules_answer : PySem.W.nsIn K mainGlobals "rules_answer" = some (some (.ref f_rules_answer)))
    (l_rules_answer : K.lookup f_rules_answer = some ⟨oc_rules_answer, od_rules_answer, .func (PySem.W.fnOf "rules_answer" "rules_answer" (defArgs s_rules_answer) (defBody s_rules_answer) (defScope s_rules_answer) .none kV_rules_answer dc_rules_answer pm_rules_answer an_rules_answer cd_rules_answer ct_rules_answer), sl_rules_answer⟩) (c_rules_answer : PySem.W.codeIn K cd_rules_answer "rules_answer" = true) (k_rules_answer : PySem.W.keepIn K (.ref f_rules_answer) = true)
    {f_row_answer : Addr} {od_row_answer an_row_answer : Option Addr} {sl_row_answer : Array (Option Value)} {oc_row_answer kV_row_answer dc_row_answer pm_row_answer cd_row_answer ct_row_answer : Value}
    (a_row_answer : PySem.W.nsIn K mainGlobals "row_answer" = some (some (.ref f_row_answer)))
    (l_row_answer : K.lookup f_row_answer = some ⟨oc_row_answer, od_row_answer, .func (PySem.W.fnOf "row_answer" "row_answer" (defArgs s_row_answer) (defBody s_row_answer) (defScope s_row_answer) .none kV_row_answer dc_row_answer pm_row_answer an_row_answer cd_row_answer ct_row_answer), sl_row_answer⟩) (c_row_answer : PySem.W.codeIn K cd_row_answer "row_answer" = true) (k_row_answer : PySem.W.keepIn K (.ref f_row_answer) = true)
    {f_Desk_init : Addr} {od_Desk_init an_Desk_init : Option Addr} {sl_Desk_init : Array (Option Value)} {oc_Desk_init kV_Desk_init dc_Desk_init pm_Desk_init cd_Desk_init ct_Desk_init : Value}
    (a_Desk_init : PySem.W.findIn K (.ref f_Desk) "__init__" = some (some (.ref f_Desk_init))) (i_Desk_init : PySem.W.isFn K (.ref f_Desk_init) = true)
    (l_Desk_init : K.lookup f_Desk_init = some ⟨oc_Desk_init, od_Desk_init, .func (PySem.W.fnOf "__init__" "Desk.__init__" (defArgs s_Desk_init) (defBody s_Desk_init) (defScope s_Desk_init) .none kV_Desk_init dc_Desk_init pm_Desk_init an_Desk_init cd_Desk_init ct_Desk_init), sl_Desk_init⟩) (c_Desk_init : PySem.W.codeIn K cd_Desk_init "Desk.__init__" = true) (k_Desk_init : PySem.W.keepIn K (.ref f_Desk_init) = true)
    {f_Desk_turn_to : Addr} {od_Desk_turn_to an_Desk_turn_to : Option Addr} {sl_Desk_turn_to : Array (Option Value)} {oc_Desk_turn_to kV_Desk_turn_to dc_Desk_turn_to pm_Desk_turn_to cd_Desk_turn_to ct_Desk_turn_to : Value}
    (a_Desk_turn_to : PySem.W.findIn K (.ref f_Desk) "turn_to" = some (some (.ref f_Desk_turn_to))) (i_Desk_turn_to : PySem.W.isFn K (.ref f_Desk_turn_to) = true)
    (l_Desk_turn_to : K.lookup f_Desk_turn_to = some ⟨oc_Desk_turn_to, od_Desk_turn_to, .func (PySem.W.fnOf "turn_to" "Desk.turn_to" (defArgs s_Desk_turn_to) (defBody s_Desk_turn_to) (defScope s_Desk_turn_to) .none kV_Desk_turn_to dc_Desk_turn_to pm_Desk_turn_to an_Desk_turn_to cd_Desk_turn_to ct_Desk_turn_to), sl_Desk_turn_to⟩) (c_Desk_turn_to : PySem.W.codeIn K cd_Desk_turn_to "Desk.turn_to" = true) (k_Desk_turn_to : PySem.W.keepIn K (.ref f_Desk_turn_to) = true)
    {f_Desk_row_read : Addr} {od_Desk_row_read an_Desk_row_read : Option Addr} {sl_Desk_row_read : Array (Option Value)} {oc_Desk_row_read kV_Desk_row_read dc_Desk_row_read pm_Desk_row_read cd_Desk_row_read ct_Desk_row_read : Value}
    (a_Desk_row_read : PySem.W.findIn K (.ref f_Desk) "row_read" = some (some (.ref f_Desk_row_read))) (i_Desk_row_read : PySem.W.isFn K (.ref f_Desk_row_read) = true)
    (l_Desk_row_read : K.lookup f_Desk_row_read = some ⟨oc_Desk_row_read, od_Desk_row_read, .func (PySem.W.fnOf "row_read" "Desk.row_read" (defArgs s_Desk_row_read) (defBody s_Desk_row_read) (defScope s_Desk_row_read) .none kV_Desk_row_read dc_Desk_row_read pm_Desk_row_read an_Desk_row_read cd_Desk_row_read ct_Desk_row_read), sl_Desk_row_read⟩) (c_Desk_row_read : PySem.W.codeIn K cd_Desk_row_read "Desk.row_read" = true) (k_Desk_row_read : PySem.W.keepIn K (.ref f_Desk_row_read) = true)
    {f_Desk_letters_told : Addr} {od_Desk_letters_told an_Desk_letters_told : Option Addr} {sl_Desk_letters_told : Array (Option Value)} {oc_Desk_letters_told kV_Desk_letters_told dc_Desk_letters_told pm_Desk_letters_told cd_Desk_letters_told ct_Desk_letters_told : Value}
    (a_Desk_letters_told : PySem.W.findIn K (.ref f_Desk) "letters_told" = some (some (.ref f_Desk_letters_told))) (i_Desk_letters_told : PySem.W.isFn K (.ref f_Desk_letters_told) = true)
    (l_Desk_letters_told : K.lookup f_Desk_letters_told = some ⟨oc_Desk_letters_told, od_Desk_letters_told, .func (PySem.W.fnOf "letters_told" "Desk.letters_told" (defArgs s_Desk_letters_told) (defBody s_Desk_letters_told) (defScope s_Desk_letters_told) .none kV_Desk_letters_told dc_Desk_letters_told pm_Desk_letters_told an_Desk_letters_told cd_Desk_letters_told ct_Desk_letters_told), sl_Desk_letters_told⟩) (c_Desk_letters_told : PySem.W.codeIn K cd_Desk_letters_told "Desk.letters_told" = true) (k_Desk_letters_told : PySem.W.keepIn K (.ref f_Desk_letters_told) = true)
    {f_Desk_row_told : Addr} {od_Desk_row_told an_Desk_row_told : Option Addr} {sl_Desk_row_told : Array (Option Value)} {oc_Desk_row_told kV_Desk_row_told dc_Desk_row_told pm_Desk_row_told cd_Desk_row_told ct_Desk_row_told : Value}
    (a_Desk_row_told : PySem.W.findIn K (.ref f_Desk) "row_told" = some (some (.ref f_Desk_row_told))) (i_Desk_row_told : PySem.W.isFn K (.ref f_Desk_row_told) = true)
    (l_Desk_row_told : K.lookup f_Desk_row_told = some ⟨oc_Desk_row_told, od_Desk_row_told, .func (PySem.W.fnOf "row_told" "Desk.row_told" (defArgs s_Desk_row_told) (defBody s_Desk_row_told) (defScope s_Desk_row_told) .none kV_Desk_row_told dc_Desk_row_told pm_Desk_row_told an_Desk_row_told cd_Desk_row_told ct_Desk_row_told), sl_Desk_row_told⟩) (c_Desk_row_told : PySem.W.codeIn K cd_Desk_row_told "Desk.row_told" = true) (k_Desk_row_told : PySem.W.keepIn K (.ref f_Desk_row_told) = true)
    {f_Desk_row_dropped : Addr} {od_Desk_row_dropped an_Desk_row_dropped : Option Addr} {sl_Desk_row_dropped : Array (Option Value)} {oc_Desk_row_dropped kV_Desk_row_dropped dc_Desk_row_dropped pm_Desk_row_dropped cd_Desk_row_dropped ct_Desk_row_dropped : Value}
    (a_Desk_row_dropped : PySem.W.findIn K (.ref f_Desk) "row_dropped" = some (some (.ref f_Desk_row_dropped))) (i_Desk_row_dropped : PySem.W.isFn K (.ref f_Desk_row_dropped) = true)
    (l_Desk_row_dropped : K.lookup f_Desk_row_dropped = some ⟨oc_Desk_row_dropped, od_Desk_row_dropped, .func (PySem.W.fnOf "row_dropped" "Desk.row_dropped" (defArgs s_Desk_row_dropped) (defBody s_Desk_row_dropped) (defScope s_Desk_row_dropped) .none kV_Desk_row_dropped dc_Desk_row_dropped pm_Desk_row_dropped an_Desk_row_dropped cd_Desk_row_dropped ct_Desk_row_dropped), sl_Desk_row_dropped⟩) (c_Desk_row_dropped : PySem.W.codeIn K cd_Desk_row_dropped "Desk.row_dropped" = true) (k_Desk_row_dropped : PySem.W.keepIn K (.ref f_Desk_row_dropped) = true)
    {f_Desk_row_taken : Addr} {od_Desk_row_taken an_Desk_row_taken : Option Addr} {sl_Desk_row_taken : Array (Option Value)} {oc_Desk_row_taken kV_Desk_row_taken dc_Desk_row_taken pm_Desk_row_taken cd_Desk_row_taken ct_Desk_row_taken : Value}
    (a_Desk_row_taken : PySem.W.findIn K (.ref f_Desk) "row_taken" = some (some (.ref f_Desk_row_taken))) (i_Desk_row_taken : PySem.W.isFn K (.ref f_Desk_row_taken) = true)
    (l_Desk_row_taken : K.lookup f_Desk_row_taken = some ⟨oc_Desk_row_taken, od_Desk_row_taken, .func (PySem.W.fnOf "row_taken" "Desk.row_taken" (defArgs s_Desk_row_taken) (defBody s_Desk_row_taken) (defScope s_Desk_row_taken) .none kV_Desk_row_taken dc_Desk_row_taken pm_Desk_row_taken an_Desk_row_taken cd_Desk_row_taken ct_Desk_row_taken), sl_Desk_row_taken⟩) (c_Desk_row_taken : PySem.W.codeIn K cd_Desk_row_taken "Desk.row_taken" = true) (k_Desk_row_taken : PySem.W.keepIn K (.ref f_Desk_row_taken) = true)
    {f_Desk_undone : Addr} {od_Desk_undone an_Desk_undone : Option Addr} {sl_Desk_undone : Array (Option Value)} {oc_Desk_undone kV_Desk_undone dc_Desk_undone pm_Desk_undone cd_Desk_undone ct_Desk_undone : Value}
    (a_Desk_undone : PySem.W.findIn K (.ref f_Desk) "undone" = some (some (.ref f_Desk_undone))) (i_Desk_undone : PySem.W.isFn K (.ref f_Desk_undone) = true)
    (l_Desk_undone : K.lookup f_Desk_undone = some ⟨oc_Desk_undone, od_Desk_undone, .func (PySem.W.fnOf "undone" "Desk.undone" (defArgs s_Desk_undone) (defBody s_Desk_undone) (defScope s_Desk_undone) .none kV_Desk_undone dc_Desk_undone pm_Desk_undone an_Desk_undone cd_Desk_undone ct_Desk_undone), sl_Desk_undone⟩) (c_Desk_undone : PySem.W.codeIn K cd_Desk_undone "Desk.undone" = true) (k_Desk_undone : PySem.W.keepIn K (.ref f_Desk_undone) = true)
    {f_Desk_order_of : Addr} {od_Desk_order_of an_Desk_order_of : Option Addr} {sl_Desk_order_of : Array (Option Value)} {oc_Desk_order_of kV_Desk_order_of dc_Desk_order_of pm_Desk_order_of cd_Desk_order_of ct_Desk_order_of : Value}
    (a_Desk_order_of : PySem.W.findIn K (.ref f_Desk) "order_of" = some (some (.ref f_Desk_order_of))) (i_Desk_order_of : PySem.W.isFn K (.ref f_Desk_order_of) = true)
    (l_Desk_order_of : K.lookup f_Desk_order_of = some ⟨oc_Desk_order_of, od_Desk_order_of, .func (PySem.W.fnOf "order_of" "Desk.order_of" (defArgs s_Desk_order_of) (defBody s_Desk_order_of) (defScope s_Desk_order_of) .none kV_Desk_order_of dc_Desk_order_of pm_Desk_order_of an_Desk_order_of cd_Desk_order_of ct_Desk_order_of), sl_Desk_order_of⟩) (c_Desk_order_of : PySem.W.codeIn K cd_Desk_order_of "Desk.order_of" = true) (k_Desk_order_of : PySem.W.keepIn K (.ref f_Desk_order_of) = true)
    {f_Desk_order : Addr} {od_Desk_order an_Desk_order : Option Addr} {sl_Desk_order : Array (Option Value)} {oc_Desk_order kV_Desk_order dc_Desk_order pm_Desk_order cd_Desk_order ct_Desk_order : Value}
    (a_Desk_order : PySem.W.findIn K (.ref f_Desk) "order" = some (some (.ref f_Desk_order))) (i_Desk_order : PySem.W.isFn K (.ref f_Desk_order) = true)
    (l_Desk_order : K.lookup f_Desk_order = some ⟨oc_Desk_order, od_Desk_order, .func (PySem.W.fnOf "order" "Desk.order" (defArgs s_Desk_order) (defBody s_Desk_order) (defScope s_Desk_order) .none kV_Desk_order dc_Desk_order pm_Desk_order an_Desk_order cd_Desk_order ct_Desk_order), sl_Desk_order⟩) (c_Desk_order : PySem.W.codeIn K cd_Desk_order "Desk.order" = true) (k_Desk_order : PySem.W.keepIn K (.ref f_Desk_order) = true)
    {f__law_well : Addr} {od__law_well an__law_well : Option Addr} {sl__law_well : Array (Option Value)} {oc__law_well kV__law_well dc__law_well pm__law_well cd__law_well ct__law_well : Value}
    (a__law_well : PySem.W.nsIn K mainGlobals "_law_well" = some (some (.ref f__law_well)))
    (l__law_well : K.lookup f__law_well = some ⟨oc__law_well, od__law_well, .func (PySem.W.fnOf "_law_well" "_law_well" (defArgs s__law_well) (defBody s__law_well) (defScope s__law_well) .none kV__law_well dc__law_well pm__law_well an__law_well cd__law_well ct__law_well), sl__law_well⟩) (c__law_well : PySem.W.codeIn K cd__law_well "_law_well" = true) (k__law_well : PySem.W.keepIn K (.ref f__law_well) = true)
    {f__law_pull : Addr} {od__law_pull an__law_pull : Option Addr} {sl__law_pull : Array (Option Value)} {oc__law_pull kV__law_pull dc__law_pull pm__law_pull cd__law_pull ct__law_pull : Value}
    (a__law_pull : PySem.W.nsIn K mainGlobals "_law_pull" = some (some (.ref f__law_pull)))
    (l__law_pull : K.lookup f__law_pull = some ⟨oc__law_pull, od__law_pull, .func (PySem.W.fnOf "_law_pull" "_law_pull" (defArgs s__law_pull) (defBody s__law_pull) (defScope s__law_pull) .none kV__law_pull dc__law_pull pm__law_pull an__law_pull cd__law_pull ct__law_pull), sl__law_pull⟩) (c__law_pull : PySem.W.codeIn K cd__law_pull "_law_pull" = true) (k__law_pull : PySem.W.keepIn K (.ref f__law_pull) = true)
    {f__law_one_of : Addr} {od__law_one_of an__law_one_of : Option Addr} {sl__law_one_of : Array (Option Value)} {oc__law_one_of kV__law_one_of dc__law_one_of pm__law_one_of cd__law_one_of ct__law_one_of : Value}
    (a__law_one_of : PySem.W.nsIn K mainGlobals "_law_one_of" = some (some (.ref f__law_one_of)))
    (l__law_one_of : K.lookup f__law_one_of = some ⟨oc__law_one_of, od__law_one_of, .func (PySem.W.fnOf "_law_one_of" "_law_one_of" (defArgs s__law_one_of) (defBody s__law_one_of) (defScope s__law_one_of) .none kV__law_one_of dc__law_one_of pm__law_one_of an__law_one_of cd__law_one_of ct__law_one_of), sl__law_one_of⟩) (c__law_one_of : PySem.W.codeIn K cd__law_one_of "_law_one_of" = true) (k__law_one_of : PySem.W.keepIn K (.ref f__law_one_of) = true)
    {f__law_flip : Addr} {od__law_flip an__law_flip : Option Addr} {sl__law_flip : Array (Option Value)} {oc__law_flip kV__law_flip dc__law_flip pm__law_flip cd__law_flip ct__law_flip : Value}
    (a__law_flip : PySem.W.nsIn K mainGlobals "_law_flip" = some (some (.ref f__law_flip)))
    (l__law_flip : K.lookup f__law_flip = some ⟨oc__law_flip, od__law_flip, .func (PySem.W.fnOf "_law_flip" "_law_flip" (defArgs s__law_flip) (defBody s__law_flip) (defScope s__law_flip) .none kV__law_flip dc__law_flip pm__law_flip an__law_flip cd__law_flip ct__law_flip), sl__law_flip⟩) (c__law_flip : PySem.W.codeIn K cd__law_flip "_law_flip" = true) (k__law_flip : PySem.W.keepIn K (.ref f__law_flip) = true)
    {f__law_back : Addr} {od__law_back an__law_back : Option Addr} {sl__law_back : Array (Option Value)} {oc__law_back kV__law_back dc__law_back pm__law_back cd__law_back ct__law_back : Value}
    (a__law_back : PySem.W.nsIn K mainGlobals "_law_back" = some (some (.ref f__law_back)))
    (l__law_back : K.lookup f__law_back = some ⟨oc__law_back, od__law_back, .func (PySem.W.fnOf "_law_back" "_law_back" (defArgs s__law_back) (defBody s__law_back) (defScope s__law_back) .none kV__law_back dc__law_back pm__law_back an__law_back cd__law_back ct__law_back), sl__law_back⟩) (c__law_back : PySem.W.codeIn K cd__law_back "_law_back" = true) (k__law_back : PySem.W.keepIn K (.ref f__law_back) = true)
    {f__law_alphabet : Addr} {od__law_alphabet an__law_alphabet : Option Addr} {sl__law_alphabet : Array (Option Value)} {oc__law_alphabet kV__law_alphabet dc__law_alphabet pm__law_alphabet cd__law_alphabet ct__law_alphabet : Value}
    (a__law_alphabet : PySem.W.nsIn K mainGlobals "_law_alphabet" = some (some (.ref f__law_alphabet)))
    (l__law_alphabet : K.lookup f__law_alphabet = some ⟨oc__law_alphabet, od__law_alphabet, .func (PySem.W.fnOf "_law_alphabet" "_law_alphabet" (defArgs s__law_alphabet) (defBody s__law_alphabet) (defScope s__law_alphabet) .none kV__law_alphabet dc__law_alphabet pm__law_alphabet an__law_alphabet cd__law_alphabet ct__law_alphabet), sl__law_alphabet⟩) (c__law_alphabet : PySem.W.codeIn K cd__law_alphabet "_law_alphabet" = true) (k__law_alphabet : PySem.W.keepIn K (.ref f__law_alphabet) = true)
    {f__law_ring : Addr} {od__law_ring an__law_ring : Option Addr} {sl__law_ring : Array (Option Value)} {oc__law_ring kV__law_ring dc__law_ring pm__law_ring cd__law_ring ct__law_ring : Value}
    (a__law_ring : PySem.W.nsIn K mainGlobals "_law_ring" = some (some (.ref f__law_ring)))
    (l__law_ring : K.lookup f__law_ring = some ⟨oc__law_ring, od__law_ring, .func (PySem.W.fnOf "_law_ring" "_law_ring" (defArgs s__law_ring) (defBody s__law_ring) (defScope s__law_ring) .none kV__law_ring dc__law_ring pm__law_ring an__law_ring cd__law_ring ct__law_ring), sl__law_ring⟩) (c__law_ring : PySem.W.codeIn K cd__law_ring "_law_ring" = true) (k__law_ring : PySem.W.keepIn K (.ref f__law_ring) = true)
    {f__law_is_kin : Addr} {od__law_is_kin an__law_is_kin : Option Addr} {sl__law_is_kin : Array (Option Value)} {oc__law_is_kin kV__law_is_kin dc__law_is_kin pm__law_is_kin cd__law_is_kin ct__law_is_kin : Value}
    (a__law_is_kin : PySem.W.nsIn K mainGlobals "_law_is_kin" = some (some (.ref f__law_is_kin)))
    (l__law_is_kin : K.lookup f__law_is_kin = some ⟨oc__law_is_kin, od__law_is_kin, .func (PySem.W.fnOf "_law_is_kin" "_law_is_kin" (defArgs s__law_is_kin) (defBody s__law_is_kin) (defScope s__law_is_kin) .none kV__law_is_kin dc__law_is_kin pm__law_is_kin an__law_is_kin cd__law_is_kin ct__law_is_kin), sl__law_is_kin⟩) (c__law_is_kin : PySem.W.codeIn K cd__law_is_kin "_law_is_kin" = true) (k__law_is_kin : PySem.W.keepIn K (.ref f__law_is_kin) = true)
    {f__law_word : Addr} {od__law_word an__law_word : Option Addr} {sl__law_word : Array (Option Value)} {oc__law_word kV__law_word dc__law_word pm__law_word cd__law_word ct__law_word : Value}
    (a__law_word : PySem.W.nsIn K mainGlobals "_law_word" = some (some (.ref f__law_word)))
    (l__law_word : K.lookup f__law_word = some ⟨oc__law_word, od__law_word, .func (PySem.W.fnOf "_law_word" "_law_word" (defArgs s__law_word) (defBody s__law_word) (defScope s__law_word) .none kV__law_word dc__law_word pm__law_word an__law_word cd__law_word ct__law_word), sl__law_word⟩) (c__law_word : PySem.W.codeIn K cd__law_word "_law_word" = true) (k__law_word : PySem.W.keepIn K (.ref f__law_word) = true)
    {f__law_short_text : Addr} {od__law_short_text an__law_short_text : Option Addr} {sl__law_short_text : Array (Option Value)} {oc__law_short_text kV__law_short_text dc__law_short_text pm__law_short_text cd__law_short_text ct__law_short_text : Value}
    (a__law_short_text : PySem.W.nsIn K mainGlobals "_law_short_text" = some (some (.ref f__law_short_text)))
    (l__law_short_text : K.lookup f__law_short_text = some ⟨oc__law_short_text, od__law_short_text, .func (PySem.W.fnOf "_law_short_text" "_law_short_text" (defArgs s__law_short_text) (defBody s__law_short_text) (defScope s__law_short_text) .none kV__law_short_text dc__law_short_text pm__law_short_text an__law_short_text cd__law_short_text ct__law_short_text), sl__law_short_text⟩) (c__law_short_text : PySem.W.codeIn K cd__law_short_text "_law_short_text" = true) (k__law_short_text : PySem.W.keepIn K (.ref f__law_short_text) = true)
    {f__law_least : Addr} {od__law_least an__law_least : Option Addr} {sl__law_least : Array (Option Value)} {oc__law_least kV__law_least dc__law_least pm__law_least cd__law_least ct__law_least : Value}
    (a__law_least : PySem.W.nsIn K mainGlobals "_law_least" = some (some (.ref f__law_least)))
    (l__law_least : K.lookup f__law_least = some ⟨oc__law_least, od__law_least, .func (PySem.W.fnOf "_law_least" "_law_least" (defArgs s__law_least) (defBody s__law_least) (defScope s__law_least) .none kV__law_least dc__law_least pm__law_least an__law_least cd__law_least ct__law_least), sl__law_least⟩) (c__law_least : PySem.W.codeIn K cd__law_least "_law_least" = true) (k__law_least : PySem.W.keepIn K (.ref f__law_least) = true)
    {f__law_root : Addr} {od__law_root an__law_root : Option Addr} {sl__law_root : Array (Option Value)} {oc__law_root kV__law_root dc__law_root pm__law_root cd__law_root ct__law_root : Value}
    (a__law_root : PySem.W.nsIn K mainGlobals "_law_root" = some (some (.ref f__law_root)))
    (l__law_root : K.lookup f__law_root = some ⟨oc__law_root, od__law_root, .func (PySem.W.fnOf "_law_root" "_law_root" (defArgs s__law_root) (defBody s__law_root) (defScope s__law_root) .none kV__law_root dc__law_root pm__law_root an__law_root cd__law_root ct__law_root), sl__law_root⟩) (c__law_root : PySem.W.codeIn K cd__law_root "_law_root" = true) (k__law_root : PySem.W.keepIn K (.ref f__law_root) = true)
    {f__law_fits : Addr} {od__law_fits an__law_fits : Option Addr} {sl__law_fits : Array (Option Value)} {oc__law_fits kV__law_fits dc__law_fits pm__law_fits cd__law_fits ct__law_fits : Value}
    (a__law_fits : PySem.W.nsIn K mainGlobals "_law_fits" = some (some (.ref f__law_fits)))
    (l__law_fits : K.lookup f__law_fits = some ⟨oc__law_fits, od__law_fits, .func (PySem.W.fnOf "_law_fits" "_law_fits" (defArgs s__law_fits) (defBody s__law_fits) (defScope s__law_fits) .none kV__law_fits dc__law_fits pm__law_fits an__law_fits cd__law_fits ct__law_fits), sl__law_fits⟩) (c__law_fits : PySem.W.codeIn K cd__law_fits "_law_fits" = true) (k__law_fits : PySem.W.keepIn K (.ref f__law_fits) = true)
    {f__law_rules_text : Addr} {od__law_rules_text an__law_rules_text : Option Addr} {sl__law_rules_text : Array (Option Value)} {oc__law_rules_text kV__law_rules_text dc__law_rules_text pm__law_rules_text cd__law_rules_text ct__law_rules_text : Value}
    (a__law_rules_text : PySem.W.nsIn K mainGlobals "_law_rules_text" = some (some (.ref f__law_rules_text)))
    (l__law_rules_text : K.lookup f__law_rules_text = some ⟨oc__law_rules_text, od__law_rules_text, .func (PySem.W.fnOf "_law_rules_text" "_law_rules_text" (defArgs s__law_rules_text) (defBody s__law_rules_text) (defScope s__law_rules_text) .none kV__law_rules_text dc__law_rules_text pm__law_rules_text an__law_rules_text cd__law_rules_text ct__law_rules_text), sl__law_rules_text⟩) (c__law_rules_text : PySem.W.codeIn K cd__law_rules_text "_law_rules_text" = true) (k__law_rules_text : PySem.W.keepIn K (.ref f__law_rules_text) = true)
    {f__law_behind : Addr} {od__law_behind an__law_behind : Option Addr} {sl__law_behind : Array (Option Value)} {oc__law_behind kV__law_behind dc__law_behind pm__law_behind cd__law_behind ct__law_behind : Value}
    (a__law_behind : PySem.W.nsIn K mainGlobals "_law_behind" = some (some (.ref f__law_behind)))
    (l__law_behind : K.lookup f__law_behind = some ⟨oc__law_behind, od__law_behind, .func (PySem.W.fnOf "_law_behind" "_law_behind" (defArgs s__law_behind) (defBody s__law_behind) (defScope s__law_behind) .none kV__law_behind dc__law_behind pm__law_behind an__law_behind cd__law_behind ct__law_behind), sl__law_behind⟩) (c__law_behind : PySem.W.codeIn K cd__law_behind "_law_behind" = true) (k__law_behind : PySem.W.keepIn K (.ref f__law_behind) = true)
    {f__law_answer : Addr} {od__law_answer an__law_answer : Option Addr} {sl__law_answer : Array (Option Value)} {oc__law_answer kV__law_answer dc__law_answer pm__law_answer cd__law_answer ct__law_answer : Value}
    (a__law_answer : PySem.W.nsIn K mainGlobals "_law_answer" = some (some (.ref f__law_answer)))
    (l__law_answer : K.lookup f__law_answer = some ⟨oc__law_answer, od__law_answer, .func (PySem.W.fnOf "_law_answer" "_law_answer" (defArgs s__law_answer) (defBody s__law_answer) (defScope s__law_answer) .none kV__law_answer dc__law_answer pm__law_answer an__law_answer cd__law_answer ct__law_answer), sl__law_answer⟩) (c__law_answer : PySem.W.codeIn K cd__law_answer "_law_answer" = true) (k__law_answer : PySem.W.keepIn K (.ref f__law_answer) = true)
    {f__law_is : Addr} {od__law_is an__law_is : Option Addr} {sl__law_is : Array (Option Value)} {oc__law_is kV__law_is dc__law_is pm__law_is cd__law_is ct__law_is : Value}
    (a__law_is : PySem.W.nsIn K mainGlobals "_law_is" = some (some (.ref f__law_is)))
    (l__law_is : K.lookup f__law_is = some ⟨oc__law_is, od__law_is, .func (PySem.W.fnOf "_law_is" "_law_is" (defArgs s__law_is) (defBody s__law_is) (defScope s__law_is) .none kV__law_is dc__law_is pm__law_is an__law_is cd__law_is ct__law_is), sl__law_is⟩) (c__law_is : PySem.W.codeIn K cd__law_is "_law_is" = true) (k__law_is : PySem.W.keepIn K (.ref f__law_is) = true)
    {f__law_row_words : Addr} {od__law_row_words an__law_row_words : Option Addr} {sl__law_row_words : Array (Option Value)} {oc__law_row_words kV__law_row_words dc__law_row_words pm__law_row_words cd__law_row_words ct__law_row_words : Value}
    (a__law_row_words : PySem.W.nsIn K mainGlobals "_law_row_words" = some (some (.ref f__law_row_words)))
    (l__law_row_words : K.lookup f__law_row_words = some ⟨oc__law_row_words, od__law_row_words, .func (PySem.W.fnOf "_law_row_words" "_law_row_words" (defArgs s__law_row_words) (defBody s__law_row_words) (defScope s__law_row_words) .none kV__law_row_words dc__law_row_words pm__law_row_words an__law_row_words cd__law_row_words ct__law_row_words), sl__law_row_words⟩) (c__law_row_words : PySem.W.codeIn K cd__law_row_words "_law_row_words" = true) (k__law_row_words : PySem.W.keepIn K (.ref f__law_row_words) = true)
    {f__law_row_told : Addr} {od__law_row_told an__law_row_told : Option Addr} {sl__law_row_told : Array (Option Value)} {oc__law_row_told kV__law_row_told dc__law_row_told pm__law_row_told cd__law_row_told ct__law_row_told : Value}
    (a__law_row_told : PySem.W.nsIn K mainGlobals "_law_row_told" = some (some (.ref f__law_row_told)))
    (l__law_row_told : K.lookup f__law_row_told = some ⟨oc__law_row_told, od__law_row_told, .func (PySem.W.fnOf "_law_row_told" "_law_row_told" (defArgs s__law_row_told) (defBody s__law_row_told) (defScope s__law_row_told) .none kV__law_row_told dc__law_row_told pm__law_row_told an__law_row_told cd__law_row_told ct__law_row_told), sl__law_row_told⟩) (c__law_row_told : PySem.W.codeIn K cd__law_row_told "_law_row_told" = true) (k__law_row_told : PySem.W.keepIn K (.ref f__law_row_told) = true)
    {f__law_drawn : Addr} {od__law_drawn an__law_drawn : Option Addr} {sl__law_drawn : Array (Option Value)} {oc__law_drawn kV__law_drawn dc__law_drawn pm__law_drawn cd__law_drawn ct__law_drawn : Value}
    (a__law_drawn : PySem.W.nsIn K mainGlobals "_law_drawn" = some (some (.ref f__law_drawn)))
    (l__law_drawn : K.lookup f__law_drawn = some ⟨oc__law_drawn, od__law_drawn, .func (PySem.W.fnOf "_law_drawn" "_law_drawn" (defArgs s__law_drawn) (defBody s__law_drawn) (defScope s__law_drawn) .none kV__law_drawn dc__law_drawn pm__law_drawn an__law_drawn cd__law_drawn ct__law_drawn), sl__law_drawn⟩) (c__law_drawn : PySem.W.codeIn K cd__law_drawn "_law_drawn" = true) (k__law_drawn : PySem.W.keepIn K (.ref f__law_drawn) = true)
    {f__law_words : Addr} {od__law_words an__law_words : Option Addr} {sl__law_words : Array (Option Value)} {oc__law_words kV__law_words dc__law_words pm__law_words cd__law_words ct__law_words : Value}
    (a__law_words : PySem.W.nsIn K mainGlobals "_law_words" = some (some (.ref f__law_words)))
    (l__law_words : K.lookup f__law_words = some ⟨oc__law_words, od__law_words, .func (PySem.W.fnOf "_law_words" "_law_words" (defArgs s__law_words) (defBody s__law_words) (defScope s__law_words) .none kV__law_words dc__law_words pm__law_words an__law_words cd__law_words ct__law_words), sl__law_words⟩) (c__law_words : PySem.W.codeIn K cd__law_words "_law_words" = true) (k__law_words : PySem.W.keepIn K (.ref f__law_words) = true)
    {f__law_shows : Addr} {od__law_shows an__law_shows : Option Addr} {sl__law_shows : Array (Option Value)} {oc__law_shows kV__law_shows dc__law_shows pm__law_shows cd__law_shows ct__law_shows : Value}
    (a__law_shows : PySem.W.nsIn K mainGlobals "_law_shows" = some (some (.ref f__law_shows)))
    (l__law_shows : K.lookup f__law_shows = some ⟨oc__law_shows, od__law_shows, .func (PySem.W.fnOf "_law_shows" "_law_shows" (defArgs s__law_shows) (defBody s__law_shows) (defScope s__law_shows) .none kV__law_shows dc__law_shows pm__law_shows an__law_shows cd__law_shows ct__law_shows), sl__law_shows⟩) (c__law_shows : PySem.W.codeIn K cd__law_shows "_law_shows" = true) (k__law_shows : PySem.W.keepIn K (.ref f__law_shows) = true)
    {f__law_next : Addr} {od__law_next an__law_next : Option Addr} {sl__law_next : Array (Option Value)} {oc__law_next kV__law_next dc__law_next pm__law_next cd__law_next ct__law_next : Value}
    (a__law_next : PySem.W.nsIn K mainGlobals "_law_next" = some (some (.ref f__law_next)))
    (l__law_next : K.lookup f__law_next = some ⟨oc__law_next, od__law_next, .func (PySem.W.fnOf "_law_next" "_law_next" (defArgs s__law_next) (defBody s__law_next) (defScope s__law_next) .none kV__law_next dc__law_next pm__law_next an__law_next cd__law_next ct__law_next), sl__law_next⟩) (c__law_next : PySem.W.codeIn K cd__law_next "_law_next" = true) (k__law_next : PySem.W.keepIn K (.ref f__law_next) = true)
    {f_law : Addr} {od_law an_law : Option Addr} {sl_law : Array (Option Value)} {oc_law kV_law dc_law pm_law cd_law ct_law : Value}
    (a_law : PySem.W.nsIn K mainGlobals "law" = some (some (.ref f_law)))
    (l_law : K.lookup f_law = some ⟨oc_law, od_law, .func (PySem.W.fnOf "law" "law" (defArgs s_law) (defBody s_law) (defScope s_law) .none kV_law dc_law pm_law an_law cd_law ct_law), sl_law⟩) (c_law : PySem.W.codeIn K cd_law "law" = true) (k_law : PySem.W.keepIn K (.ref f_law) = true)
    (z_str : PySem.W.nsIn K mainGlobals "str" = some none)
    (z_isinstance : PySem.W.nsIn K mainGlobals "isinstance" = some none)
    (z_int : PySem.W.nsIn K mainGlobals "int" = some none)
    (z_bool : PySem.W.nsIn K mainGlobals "bool" = some none)
    (z_all : PySem.W.nsIn K mainGlobals "all" = some none)
    (z_len : PySem.W.nsIn K mainGlobals "len" = some none)
    (z_zip : PySem.W.nsIn K mainGlobals "zip" = some none)
    (z_enumerate : PySem.W.nsIn K mainGlobals "enumerate" = some none)
    (z_any : PySem.W.nsIn K mainGlobals "any" = some none)
    (z_tuple : PySem.W.nsIn K mainGlobals "tuple" = some none)
    (z_abs : PySem.W.nsIn K mainGlobals "abs" = some none)
    (z_max : PySem.W.nsIn K mainGlobals "max" = some none)
    (z_range : PySem.W.nsIn K mainGlobals "range" = some none)
    (z_sorted : PySem.W.nsIn K mainGlobals "sorted" = some none)
    (z_set : PySem.W.nsIn K mainGlobals "set" = some none)
    (z_repr : PySem.W.nsIn K mainGlobals "repr" = some none)
    (z_min : PySem.W.nsIn K mainGlobals "min" = some none)
    {t_LOW : Tok} (y_LOW : PySem.W.nsIn K mainGlobals "LOW" = some (some (.str k_LOW t_LOW)))
    {t_HIGH : Tok} (y_HIGH : PySem.W.nsIn K mainGlobals "HIGH" = some (some (.str k_HIGH t_HIGH)))
    {t_MOST_LETTERS : Tok} (y_MOST_LETTERS : PySem.W.nsIn K mainGlobals "MOST_LETTERS" = some (some (.int 4 t_MOST_LETTERS)))
    {t_MOST_SIZE : Tok} (y_MOST_SIZE : PySem.W.nsIn K mainGlobals "MOST_SIZE" = some (some (.int 40 t_MOST_SIZE)))
    {t_MOST_ROWS : Tok} (y_MOST_ROWS : PySem.W.nsIn K mainGlobals "MOST_ROWS" = some (some (.int 6 t_MOST_ROWS)))
    {t_EMPTY : Tok} (y_EMPTY : PySem.W.nsIn K mainGlobals "EMPTY" = some (some (.str k_EMPTY t_EMPTY)))
    {t_DIGITS : Tok} (y_DIGITS : PySem.W.nsIn K mainGlobals "DIGITS" = some (some (.str k_DIGITS t_DIGITS)))
    {t_MOST_CHARACTERS : Tok} (y_MOST_CHARACTERS : PySem.W.nsIn K mainGlobals "MOST_CHARACTERS" = some (some (.int 300 t_MOST_CHARACTERS)))
    {t_HEAD : Tok} (y_HEAD : PySem.W.nsIn K mainGlobals "HEAD" = some (some (.str k_HEAD t_HEAD)))
    {t_TAIL : Tok} (y_TAIL : PySem.W.nsIn K mainGlobals "TAIL" = some (some (.str k_TAIL t_TAIL)))
    {t_MOST_DIGITS : Tok} (y_MOST_DIGITS : PySem.W.nsIn K mainGlobals "MOST_DIGITS" = some (some (.int 2 t_MOST_DIGITS)))
    : ∃ fd : FuncData, (∀ (s : Shared) (v : Value), BindsTo s fd ⟨[v], []⟩ [("script", v)]) ∧ ∀ base : Heap, K.In base → base.Ns mainGlobals mg → FnG l.prog w K mg base CX0 13 fa fd ["script"] (sp_law K) := by
  have e := hfa.symm.trans (PySem.W.mg_of X G a_law)
  cases e
  have F_NoRows_init := fun_mk (st := s_NoRows_init) l_NoRows_init c_NoRows_init k_NoRows_init
  have F_is_whole := fun_mk (st := s_is_whole) l_is_whole c_is_whole k_is_whole
  have F_is_row := fun_mk (st := s_is_row) l_is_row c_is_row k_is_row
  have F_is_row_of := fun_mk (st := s_is_row_of) l_is_row_of c_is_row_of k_is_row_of
  have F_are_letters := fun_mk (st := s_are_letters) l_are_letters c_are_letters k_are_letters
  have F_check_row := fun_mk (st := s_check_row) l_check_row c_check_row k_check_row
  have F_check_row_of := fun_mk (st := s_check_row_of) l_check_row_of c_check_row_of k_check_row_of
  have F_check_letters := fun_mk (st := s_check_letters) l_check_letters c_check_letters k_check_letters
  have F_back_of := fun_mk (st := s_back_of) l_back_of c_back_of k_back_of
  have F_least_of := fun_mk (st := s_least_of) l_least_of c_least_of k_least_of
  have F_core_of := fun_mk (st := s_core_of) l_core_of c_core_of k_core_of
  have F_root := fun_mk (st := s_root) l_root c_root k_root
  have F_is_turned := fun_mk (st := s_is_turned) l_is_turned c_is_turned k_is_turned
  have F_is_ring_row := fun_mk (st := s_is_ring_row) l_is_ring_row c_is_ring_row k_is_ring_row
  have F_is_kin := fun_mk (st := s_is_kin) l_is_kin c_is_kin k_is_kin
  have F_can_stand := fun_mk (st := s_can_stand) l_can_stand c_can_stand k_can_stand
  have F_check_rows := fun_mk (st := s_check_rows) l_check_rows c_check_rows k_check_rows
  have F_Rules_init := funD_mk (st := s_Rules_init) l_Rules_init c_Rules_init k_Rules_init lt_Rules_init
  have B_Rules_init := bD_full (F_Rules_init.binds1 (ps := ["self", "letters", "rows"]) 3 1 (by simp) (by rfl) (fun T kV doc pm an cdv ct us its hu hi => match us, its, hu, hi with | [_, _, _], [_], _, _ => ⟨_, rfl, rfl⟩))
  have F_Rules_letters := fun_mk (st := s_Rules_letters) l_Rules_letters c_Rules_letters k_Rules_letters
  have F_Rules_rows := fun_mk (st := s_Rules_rows) l_Rules_rows c_Rules_rows k_Rules_rows
  have F_Rules_without := fun_mk (st := s_Rules_without) l_Rules_without c_Rules_without k_Rules_without
  have F_stretch := fun_mk (st := s_stretch) l_stretch c_stretch k_stretch
  have F_written := fun_mk (st := s_written) l_written c_written k_written
  have F_number_in := fun_mk (st := s_number_in) l_number_in c_number_in k_number_in
  have F_times_in := fun_mk (st := s_times_in) l_times_in c_times_in k_times_in
  have F_digits_at := fun_mk (st := s_digits_at) l_digits_at c_digits_at k_digits_at
  have F_row_in := fun_mk (st := s_row_in) l_row_in c_row_in k_row_in
  have F_any_row_in := fun_mk (st := s_any_row_in) l_any_row_in c_any_row_in k_any_row_in
  have F_row_text := fun_mk (st := s_row_text) l_row_text c_row_text k_row_text
  have F_rules_text := fun_mk (st := s_rules_text) l_rules_text c_rules_text k_rules_text
  have F_row_or_none := fun_mk (st := s_row_or_none) l_row_or_none c_row_or_none k_row_or_none
  have F_index_or_none := fun_mk (st := s_index_or_none) l_index_or_none c_index_or_none k_index_or_none
  have F_rules_answer := fun_mk (st := s_rules_answer) l_rules_answer c_rules_answer k_rules_answer
  have F_row_answer := fun_mk (st := s_row_answer) l_row_answer c_row_answer k_row_answer
  have F_Desk_init := fun_mk (st := s_Desk_init) l_Desk_init c_Desk_init k_Desk_init
  have F_Desk_turn_to := fun_mk (st := s_Desk_turn_to) l_Desk_turn_to c_Desk_turn_to k_Desk_turn_to
  have F_Desk_row_read := fun_mk (st := s_Desk_row_read) l_Desk_row_read c_Desk_row_read k_Desk_row_read
  have F_Desk_letters_told := fun_mk (st := s_Desk_letters_told) l_Desk_letters_told c_Desk_letters_told k_Desk_letters_told
  have F_Desk_row_told := fun_mk (st := s_Desk_row_told) l_Desk_row_told c_Desk_row_told k_Desk_row_told
  have F_Desk_row_dropped := fun_mk (st := s_Desk_row_dropped) l_Desk_row_dropped c_Desk_row_dropped k_Desk_row_dropped
  have F_Desk_row_taken := fun_mk (st := s_Desk_row_taken) l_Desk_row_taken c_Desk_row_taken k_Desk_row_taken
  have F_Desk_undone := fun_mk (st := s_Desk_undone) l_Desk_undone c_Desk_undone k_Desk_undone
  have F_Desk_order_of := fun_mk (st := s_Desk_order_of) l_Desk_order_of c_Desk_order_of k_Desk_order_of
  have F_Desk_order := fun_mk (st := s_Desk_order) l_Desk_order c_Desk_order k_Desk_order
  have F__law_well := fun_mk (st := s__law_well) l__law_well c__law_well k__law_well
  have F__law_pull := fun_mk (st := s__law_pull) l__law_pull c__law_pull k__law_pull
  have F__law_one_of := fun_mk (st := s__law_one_of) l__law_one_of c__law_one_of k__law_one_of
  have F__law_flip := fun_mk (st := s__law_flip) l__law_flip c__law_flip k__law_flip
  have F__law_back := fun_mk (st := s__law_back) l__law_back c__law_back k__law_back
  have F__law_alphabet := fun_mk (st := s__law_alphabet) l__law_alphabet c__law_alphabet k__law_alphabet
  have F__law_ring := fun_mk (st := s__law_ring) l__law_ring c__law_ring k__law_ring
  have F__law_is_kin := fun_mk (st := s__law_is_kin) l__law_is_kin c__law_is_kin k__law_is_kin
  have F__law_word := fun_mk (st := s__law_word) l__law_word c__law_word k__law_word
  have F__law_short_text := fun_mk (st := s__law_short_text) l__law_short_text c__law_short_text k__law_short_text
  have F__law_least := fun_mk (st := s__law_least) l__law_least c__law_least k__law_least
  have F__law_root := fun_mk (st := s__law_root) l__law_root c__law_root k__law_root
  have F__law_fits := fun_mk (st := s__law_fits) l__law_fits c__law_fits k__law_fits
  have F__law_rules_text := fun_mk (st := s__law_rules_text) l__law_rules_text c__law_rules_text k__law_rules_text
  have F__law_behind := fun_mk (st := s__law_behind) l__law_behind c__law_behind k__law_behind
  have F__law_answer := fun_mk (st := s__law_answer) l__law_answer c__law_answer k__law_answer
  have F__law_is := fun_mk (st := s__law_is) l__law_is c__law_is k__law_is
  have F__law_row_words := fun_mk (st := s__law_row_words) l__law_row_words c__law_row_words k__law_row_words
  have F__law_row_told := fun_mk (st := s__law_row_told) l__law_row_told c__law_row_told k__law_row_told
  have F__law_drawn := fun_mk (st := s__law_drawn) l__law_drawn c__law_drawn k__law_drawn
  have F__law_words := fun_mk (st := s__law_words) l__law_words c__law_words k__law_words
  have F__law_shows := fun_mk (st := s__law_shows) l__law_shows c__law_shows k__law_shows
  have F__law_next := fun_mk (st := s__law_next) l__law_next c__law_next k__law_next
  have F_law := fun_mk (st := s_law) l_law c_law k_law
  let Z : Tx K mg := {
    a_NoRows_init := f_NoRows_init, d_NoRows_init := _, F_NoRows_init := F_NoRows_init, b_NoRows_init := F_NoRows_init.binds (ps := ["self", "index"]) (fun _ _ _ _ _ _ us hl => match us, hl with | [_, _], _ => rfl),
    a_is_whole := f_is_whole, d_is_whole := _, F_is_whole := F_is_whole, b_is_whole := F_is_whole.binds (ps := ["value"]) (fun _ _ _ _ _ _ us hl => match us, hl with | [_], _ => rfl), g_is_whole := PySem.W.mg_of X G a_is_whole,
    a_is_row := f_is_row, d_is_row := _, F_is_row := F_is_row, b_is_row := F_is_row.binds (ps := ["value"]) (fun _ _ _ _ _ _ us hl => match us, hl with | [_], _ => rfl), g_is_row := PySem.W.mg_of X G a_is_row,
    a_is_row_of := f_is_row_of, d_is_row_of := _, F_is_row_of := F_is_row_of, b_is_row_of := F_is_row_of.binds (ps := ["letters", "value"]) (fun _ _ _ _ _ _ us hl => match us, hl with | [_, _], _ => rfl), g_is_row_of := PySem.W.mg_of X G a_is_row_of,
    a_are_letters := f_are_letters, d_are_letters := _, F_are_letters := F_are_letters, b_are_letters := F_are_letters.binds (ps := ["value"]) (fun _ _ _ _ _ _ us hl => match us, hl with | [_], _ => rfl), g_are_letters := PySem.W.mg_of X G a_are_letters,
    a_check_row := f_check_row, d_check_row := _, F_check_row := F_check_row, b_check_row := F_check_row.binds (ps := ["value"]) (fun _ _ _ _ _ _ us hl => match us, hl with | [_], _ => rfl), g_check_row := PySem.W.mg_of X G a_check_row,
    a_check_row_of := f_check_row_of, d_check_row_of := _, F_check_row_of := F_check_row_of, b_check_row_of := F_check_row_of.binds (ps := ["letters", "value"]) (fun _ _ _ _ _ _ us hl => match us, hl with | [_, _], _ => rfl), g_check_row_of := PySem.W.mg_of X G a_check_row_of,
    a_check_letters := f_check_letters, d_check_letters := _, F_check_letters := F_check_letters, b_check_letters := F_check_letters.binds (ps := ["value"]) (fun _ _ _ _ _ _ us hl => match us, hl with | [_], _ => rfl), g_check_letters := PySem.W.mg_of X G a_check_letters,
    a_back_of := f_back_of, d_back_of := _, F_back_of := F_back_of, b_back_of := F_back_of.binds (ps := ["row"]) (fun _ _ _ _ _ _ us hl => match us, hl with | [_], _ => rfl), g_back_of := PySem.W.mg_of X G a_back_of,
    a_least_of := f_least_of, d_least_of := _, F_least_of := F_least_of, b_least_of := F_least_of.binds (ps := ["row"]) (fun _ _ _ _ _ _ us hl => match us, hl with | [_], _ => rfl), g_least_of := PySem.W.mg_of X G a_least_of,
    a_core_of := f_core_of, d_core_of := _, F_core_of := F_core_of, b_core_of := F_core_of.binds (ps := ["free"]) (fun _ _ _ _ _ _ us hl => match us, hl with | [_], _ => rfl), g_core_of := PySem.W.mg_of X G a_core_of,
    a_root := f_root, d_root := _, F_root := F_root, b_root := F_root.binds (ps := ["row"]) (fun _ _ _ _ _ _ us hl => match us, hl with | [_], _ => rfl), g_root := PySem.W.mg_of X G a_root,
    a_is_turned := f_is_turned, d_is_turned := _, F_is_turned := F_is_turned, b_is_turned := F_is_turned.binds (ps := ["one", "two"]) (fun _ _ _ _ _ _ us hl => match us, hl with | [_, _], _ => rfl), g_is_turned := PySem.W.mg_of X G a_is_turned,
    a_is_ring_row := f_is_ring_row, d_is_ring_row := _, F_is_ring_row := F_is_ring_row, b_is_ring_row := F_is_ring_row.binds (ps := ["letters", "value"]) (fun _ _ _ _ _ _ us hl => match us, hl with | [_, _], _ => rfl), g_is_ring_row := PySem.W.mg_of X G a_is_ring_row,
    a_is_kin := f_is_kin, d_is_kin := _, F_is_kin := F_is_kin, b_is_kin := F_is_kin.binds (ps := ["one", "two"]) (fun _ _ _ _ _ _ us hl => match us, hl with | [_, _], _ => rfl), g_is_kin := PySem.W.mg_of X G a_is_kin,
    a_can_stand := f_can_stand, d_can_stand := _, F_can_stand := F_can_stand, b_can_stand := F_can_stand.binds (ps := ["letters", "earlier", "value"]) (fun _ _ _ _ _ _ us hl => match us, hl with | [_, _, _], _ => rfl), g_can_stand := PySem.W.mg_of X G a_can_stand,
    a_check_rows := f_check_rows, d_check_rows := _, F_check_rows := F_check_rows, b_check_rows := F_check_rows.binds (ps := ["letters", "rows"]) (fun _ _ _ _ _ _ us hl => match us, hl with | [_, _], _ => rfl), g_check_rows := PySem.W.mg_of X G a_check_rows,
    a_Rules_init := f_Rules_init, d_Rules_init := _, v_Rules_init := V.ref E_Rules_init, dv_Rules_init := ⟨E_Rules_init, _, _, rfl, le_Rules_init, rfl, rfl⟩, F_Rules_init := F_Rules_init, b_Rules_init := B_Rules_init,
    a_Rules_letters := f_Rules_letters, d_Rules_letters := _, F_Rules_letters := F_Rules_letters, b_Rules_letters := F_Rules_letters.binds (ps := ["self"]) (fun _ _ _ _ _ _ us hl => match us, hl with | [_], _ => rfl),
    a_Rules_rows := f_Rules_rows, d_Rules_rows := _, F_Rules_rows := F_Rules_rows, b_Rules_rows := F_Rules_rows.binds (ps := ["self"]) (fun _ _ _ _ _ _ us hl => match us, hl with | [_], _ => rfl),
    a_Rules_without := f_Rules_without, d_Rules_without := _, F_Rules_without := F_Rules_without, b_Rules_without := F_Rules_without.binds (ps := ["self", "index"]) (fun _ _ _ _ _ _ us hl => match us, hl with | [_, _], _ => rfl),
    a_stretch := f_stretch, d_stretch := _, F_stretch := F_stretch, b_stretch := F_stretch.binds (ps := ["row", "place"]) (fun _ _ _ _ _ _ us hl => match us, hl with | [_, _], _ => rfl), g_stretch := PySem.W.mg_of X G a_stretch,
    a_written := f_written, d_written := _, F_written := F_written, b_written := F_written.binds (ps := ["row"]) (fun _ _ _ _ _ _ us hl => match us, hl with | [_], _ => rfl), g_written := PySem.W.mg_of X G a_written,
    a_number_in := f_number_in, d_number_in := _, F_number_in := F_number_in, b_number_in := F_number_in.binds (ps := ["text"]) (fun _ _ _ _ _ _ us hl => match us, hl with | [_], _ => rfl), g_number_in := PySem.W.mg_of X G a_number_in,
    a_times_in := f_times_in, d_times_in := _, F_times_in := F_times_in, b_times_in := F_times_in.binds (ps := ["text"]) (fun _ _ _ _ _ _ us hl => match us, hl with | [_], _ => rfl), g_times_in := PySem.W.mg_of X G a_times_in,
    a_digits_at := f_digits_at, d_digits_at := _, F_digits_at := F_digits_at, b_digits_at := F_digits_at.binds (ps := ["text", "place"]) (fun _ _ _ _ _ _ us hl => match us, hl with | [_, _], _ => rfl), g_digits_at := PySem.W.mg_of X G a_digits_at,
    a_row_in := f_row_in, d_row_in := _, F_row_in := F_row_in, b_row_in := F_row_in.binds (ps := ["text", "most"]) (fun _ _ _ _ _ _ us hl => match us, hl with | [_, _], _ => rfl), g_row_in := PySem.W.mg_of X G a_row_in,
    a_any_row_in := f_any_row_in, d_any_row_in := _, F_any_row_in := F_any_row_in, b_any_row_in := F_any_row_in.binds (ps := ["text"]) (fun _ _ _ _ _ _ us hl => match us, hl with | [_], _ => rfl), g_any_row_in := PySem.W.mg_of X G a_any_row_in,
    a_row_text := f_row_text, d_row_text := _, F_row_text := F_row_text, b_row_text := F_row_text.binds (ps := ["row"]) (fun _ _ _ _ _ _ us hl => match us, hl with | [_], _ => rfl), g_row_text := PySem.W.mg_of X G a_row_text,
    a_rules_text := f_rules_text, d_rules_text := _, F_rules_text := F_rules_text, b_rules_text := F_rules_text.binds (ps := ["rules"]) (fun _ _ _ _ _ _ us hl => match us, hl with | [_], _ => rfl), g_rules_text := PySem.W.mg_of X G a_rules_text,
    a_row_or_none := f_row_or_none, d_row_or_none := _, F_row_or_none := F_row_or_none, b_row_or_none := F_row_or_none.binds (ps := ["words"]) (fun _ _ _ _ _ _ us hl => match us, hl with | [_], _ => rfl), g_row_or_none := PySem.W.mg_of X G a_row_or_none,
    a_index_or_none := f_index_or_none, d_index_or_none := _, F_index_or_none := F_index_or_none, b_index_or_none := F_index_or_none.binds (ps := ["words"]) (fun _ _ _ _ _ _ us hl => match us, hl with | [_], _ => rfl), g_index_or_none := PySem.W.mg_of X G a_index_or_none,
    a_rules_answer := f_rules_answer, d_rules_answer := _, F_rules_answer := F_rules_answer, b_rules_answer := F_rules_answer.binds (ps := ["work", "word"]) (fun _ _ _ _ _ _ us hl => match us, hl with | [_, _], _ => rfl), g_rules_answer := PySem.W.mg_of X G a_rules_answer,
    a_row_answer := f_row_answer, d_row_answer := _, F_row_answer := F_row_answer, b_row_answer := F_row_answer.binds (ps := ["work", "row", "word"]) (fun _ _ _ _ _ _ us hl => match us, hl with | [_, _, _], _ => rfl), g_row_answer := PySem.W.mg_of X G a_row_answer,
    a_Desk_init := f_Desk_init, d_Desk_init := _, F_Desk_init := F_Desk_init, b_Desk_init := F_Desk_init.binds (ps := ["self"]) (fun _ _ _ _ _ _ us hl => match us, hl with | [_], _ => rfl),
    a_Desk_turn_to := f_Desk_turn_to, d_Desk_turn_to := _, F_Desk_turn_to := F_Desk_turn_to, b_Desk_turn_to := F_Desk_turn_to.binds (ps := ["self", "work", "word"]) (fun _ _ _ _ _ _ us hl => match us, hl with | [_, _, _], _ => rfl),
    a_Desk_row_read := f_Desk_row_read, d_Desk_row_read := _, F_Desk_row_read := F_Desk_row_read, b_Desk_row_read := F_Desk_row_read.binds (ps := ["self", "words"]) (fun _ _ _ _ _ _ us hl => match us, hl with | [_, _], _ => rfl),
    a_Desk_letters_told := f_Desk_letters_told, d_Desk_letters_told := _, F_Desk_letters_told := F_Desk_letters_told, b_Desk_letters_told := F_Desk_letters_told.binds (ps := ["self", "words"]) (fun _ _ _ _ _ _ us hl => match us, hl with | [_, _], _ => rfl),
    a_Desk_row_told := f_Desk_row_told, d_Desk_row_told := _, F_Desk_row_told := F_Desk_row_told, b_Desk_row_told := F_Desk_row_told.binds (ps := ["self", "words"]) (fun _ _ _ _ _ _ us hl => match us, hl with | [_, _], _ => rfl),
    a_Desk_row_dropped := f_Desk_row_dropped, d_Desk_row_dropped := _, F_Desk_row_dropped := F_Desk_row_dropped, b_Desk_row_dropped := F_Desk_row_dropped.binds (ps := ["self", "words"]) (fun _ _ _ _ _ _ us hl => match us, hl with | [_, _], _ => rfl),
    a_Desk_row_taken := f_Desk_row_taken, d_Desk_row_taken := _, F_Desk_row_taken := F_Desk_row_taken, b_Desk_row_taken := F_Desk_row_taken.binds (ps := ["self", "words"]) (fun _ _ _ _ _ _ us hl => match us, hl with | [_, _], _ => rfl),
    a_Desk_undone := f_Desk_undone, d_Desk_undone := _, F_Desk_undone := F_Desk_undone, b_Desk_undone := F_Desk_undone.binds (ps := ["self"]) (fun _ _ _ _ _ _ us hl => match us, hl with | [_], _ => rfl),
    a_Desk_order_of := f_Desk_order_of, d_Desk_order_of := _, F_Desk_order_of := F_Desk_order_of, b_Desk_order_of := F_Desk_order_of.binds (ps := ["self", "word", "words"]) (fun _ _ _ _ _ _ us hl => match us, hl with | [_, _, _], _ => rfl),
    a_Desk_order := f_Desk_order, d_Desk_order := _, F_Desk_order := F_Desk_order, b_Desk_order := F_Desk_order.binds (ps := ["self", "text"]) (fun _ _ _ _ _ _ us hl => match us, hl with | [_, _], _ => rfl),
    a__law_well := f__law_well, d__law_well := _, F__law_well := F__law_well, b__law_well := F__law_well.binds (ps := ["script", "k"]) (fun _ _ _ _ _ _ us hl => match us, hl with | [_, _], _ => rfl), g__law_well := PySem.W.mg_of X G a__law_well,
    a__law_pull := f__law_pull, d__law_pull := _, F__law_pull := F__law_pull, b__law_pull := F__law_pull.binds (ps := ["well", "many"]) (fun _ _ _ _ _ _ us hl => match us, hl with | [_, _], _ => rfl), g__law_pull := PySem.W.mg_of X G a__law_pull,
    a__law_one_of := f__law_one_of, d__law_one_of := _, F__law_one_of := F__law_one_of, b__law_one_of := F__law_one_of.binds (ps := ["well", "some"]) (fun _ _ _ _ _ _ us hl => match us, hl with | [_, _], _ => rfl), g__law_one_of := PySem.W.mg_of X G a__law_one_of,
    a__law_flip := f__law_flip, d__law_flip := _, F__law_flip := F__law_flip, b__law_flip := F__law_flip.binds (ps := ["sign"]) (fun _ _ _ _ _ _ us hl => match us, hl with | [_], _ => rfl), g__law_flip := PySem.W.mg_of X G a__law_flip,
    a__law_back := f__law_back, d__law_back := _, F__law_back := F__law_back, b__law_back := F__law_back.binds (ps := ["word"]) (fun _ _ _ _ _ _ us hl => match us, hl with | [_], _ => rfl), g__law_back := PySem.W.mg_of X G a__law_back,
    a__law_alphabet := f__law_alphabet, d__law_alphabet := _, F__law_alphabet := F__law_alphabet, b__law_alphabet := F__law_alphabet.binds (ps := ["well"]) (fun _ _ _ _ _ _ us hl => match us, hl with | [_], _ => rfl), g__law_alphabet := PySem.W.mg_of X G a__law_alphabet,
    a__law_ring := f__law_ring, d__law_ring := _, F__law_ring := F__law_ring, b__law_ring := F__law_ring.binds (ps := ["well", "alphabet", "size"]) (fun _ _ _ _ _ _ us hl => match us, hl with | [_, _, _], _ => rfl), g__law_ring := PySem.W.mg_of X G a__law_ring,
    a__law_is_kin := f__law_is_kin, d__law_is_kin := _, F__law_is_kin := F__law_is_kin, b__law_is_kin := F__law_is_kin.binds (ps := ["one", "two"]) (fun _ _ _ _ _ _ us hl => match us, hl with | [_, _], _ => rfl), g__law_is_kin := PySem.W.mg_of X G a__law_is_kin,
    a__law_word := f__law_word, d__law_word := _, F__law_word := F__law_word, b__law_word := F__law_word.binds (ps := ["well", "alphabet", "most"]) (fun _ _ _ _ _ _ us hl => match us, hl with | [_, _, _], _ => rfl), g__law_word := PySem.W.mg_of X G a__law_word,
    a__law_short_text := f__law_short_text, d__law_short_text := _, F__law_short_text := F__law_short_text, b__law_short_text := F__law_short_text.binds (ps := ["word"]) (fun _ _ _ _ _ _ us hl => match us, hl with | [_], _ => rfl), g__law_short_text := PySem.W.mg_of X G a__law_short_text,
    a__law_least := f__law_least, d__law_least := _, F__law_least := F__law_least, b__law_least := F__law_least.binds (ps := ["word"]) (fun _ _ _ _ _ _ us hl => match us, hl with | [_], _ => rfl), g__law_least := PySem.W.mg_of X G a__law_least,
    a__law_root := f__law_root, d__law_root := _, F__law_root := F__law_root, b__law_root := F__law_root.binds (ps := ["free"]) (fun _ _ _ _ _ _ us hl => match us, hl with | [_], _ => rfl), g__law_root := PySem.W.mg_of X G a__law_root,
    a__law_fits := f__law_fits, d__law_fits := _, F__law_fits := F__law_fits, b__law_fits := F__law_fits.binds (ps := ["word", "told"]) (fun _ _ _ _ _ _ us hl => match us, hl with | [_, _], _ => rfl), g__law_fits := PySem.W.mg_of X G a__law_fits,
    a__law_rules_text := f__law_rules_text, d__law_rules_text := _, F__law_rules_text := F__law_rules_text, b__law_rules_text := F__law_rules_text.binds (ps := ["state"]) (fun _ _ _ _ _ _ us hl => match us, hl with | [_], _ => rfl), g__law_rules_text := PySem.W.mg_of X G a__law_rules_text,
    a__law_behind := f__law_behind, d__law_behind := _, F__law_behind := F__law_behind, b__law_behind := F__law_behind.binds (ps := ["state", "parts"]) (fun _ _ _ _ _ _ us hl => match us, hl with | [_, _], _ => rfl), g__law_behind := PySem.W.mg_of X G a__law_behind,
    a__law_answer := f__law_answer, d__law_answer := _, F__law_answer := F__law_answer, b__law_answer := F__law_answer.binds (ps := ["desk", "words"]) (fun _ _ _ _ _ _ us hl => match us, hl with | [_, _], _ => rfl), g__law_answer := PySem.W.mg_of X G a__law_answer,
    a__law_is := f__law_is, d__law_is := _, F__law_is := F__law_is, b__law_is := F__law_is.binds (ps := ["found", "due"]) (fun _ _ _ _ _ _ us hl => match us, hl with | [_, _], _ => rfl), g__law_is := PySem.W.mg_of X G a__law_is,
    a__law_row_words := f__law_row_words, d__law_row_words := _, F__law_row_words := F__law_row_words, b__law_row_words := F__law_row_words.binds (ps := ["well", "word"]) (fun _ _ _ _ _ _ us hl => match us, hl with | [_, _], _ => rfl), g__law_row_words := PySem.W.mg_of X G a__law_row_words,
    a__law_row_told := f__law_row_told, d__law_row_told := _, F__law_row_told := F__law_row_told, b__law_row_told := F__law_row_told.binds (ps := ["well", "alphabet", "told"]) (fun _ _ _ _ _ _ us hl => match us, hl with | [_, _, _], _ => rfl), g__law_row_told := PySem.W.mg_of X G a__law_row_told,
    a__law_drawn := f__law_drawn, d__law_drawn := _, F__law_drawn := F__law_drawn, b__law_drawn := F__law_drawn.binds (ps := ["well", "state"]) (fun _ _ _ _ _ _ us hl => match us, hl with | [_, _], _ => rfl), g__law_drawn := PySem.W.mg_of X G a__law_drawn,
    a__law_words := f__law_words, d__law_words := _, F__law_words := F__law_words, b__law_words := F__law_words.binds (ps := ["well", "parts"]) (fun _ _ _ _ _ _ us hl => match us, hl with | [_, _], _ => rfl), g__law_words := PySem.W.mg_of X G a__law_words,
    a__law_shows := f__law_shows, d__law_shows := _, F__law_shows := F__law_shows, b__law_shows := F__law_shows.binds (ps := ["desk", "state"]) (fun _ _ _ _ _ _ us hl => match us, hl with | [_, _], _ => rfl), g__law_shows := PySem.W.mg_of X G a__law_shows,
    a__law_next := f__law_next, d__law_next := _, F__law_next := F__law_next, b__law_next := F__law_next.binds (ps := ["past", "parts"]) (fun _ _ _ _ _ _ us hl => match us, hl with | [_, _], _ => rfl), g__law_next := PySem.W.mg_of X G a__law_next,
    a_law := fa, d_law := _, F_law := F_law, b_law := F_law.binds (ps := ["script"]) (fun _ _ _ _ _ _ us hl => match us, hl with | [_], _ => rfl), g_law := hfa,
    a_Rules := f_Rules, ns_Rules := n_Rules, gc_Rules := PySem.W.mg_of X G n_Rules, cl_Rules := ⟨pg_Rules, hd_Rules, po_Rules, sa_Rules⟩, mk_Rules := ⟨mk_Rules, a_Rules_init, i_Rules_init, kc_Rules⟩,
    na_Rules_alphabet := na_Rules_alphabet,
    na_Rules_told := na_Rules_told,
    me_Rules_letters := ⟨a_Rules_letters, i_Rules_letters, k_Rules_letters⟩,
    me_Rules_rows := ⟨a_Rules_rows, i_Rules_rows, k_Rules_rows⟩,
    me_Rules_without := ⟨a_Rules_without, i_Rules_without, k_Rules_without⟩,
    a_Desk := f_Desk, ns_Desk := n_Desk, gc_Desk := PySem.W.mg_of X G n_Desk, cl_Desk := ⟨pg_Desk, hd_Desk, po_Desk, sa_Desk⟩, mk_Desk := ⟨mk_Desk, a_Desk_init, i_Desk_init, kc_Desk⟩,
    na_Desk_past := na_Desk_past,
    na_Desk_word := na_Desk_word,
    na_Desk_work := na_Desk_work,
    me_Desk_turn_to := ⟨a_Desk_turn_to, i_Desk_turn_to, k_Desk_turn_to⟩,
    me_Desk_row_read := ⟨a_Desk_row_read, i_Desk_row_read, k_Desk_row_read⟩,
    me_Desk_letters_told := ⟨a_Desk_letters_told, i_Desk_letters_told, k_Desk_letters_told⟩,
    me_Desk_row_told := ⟨a_Desk_row_told, i_Desk_row_told, k_Desk_row_told⟩,
    me_Desk_row_dropped := ⟨a_Desk_row_dropped, i_Desk_row_dropped, k_Desk_row_dropped⟩,
    me_Desk_row_taken := ⟨a_Desk_row_taken, i_Desk_row_taken, k_Desk_row_taken⟩,
    me_Desk_undone := ⟨a_Desk_undone, i_Desk_undone, k_Desk_undone⟩,
    me_Desk_order_of := ⟨a_Desk_order_of, i_Desk_order_of, k_Desk_order_of⟩,
    me_Desk_order := ⟨a_Desk_order, i_Desk_order, k_Desk_order⟩,
    a_RowError := f_RowError, ns_RowError := n_RowError, gc_RowError := PySem.W.mg_of X G n_RowError, xa_RowError := ⟨xb_RowError, xt_RowError, xk_RowError, xd_RowError, xv_RowError, xg_RowError, xh_RowError, xc_RowError, xS1, xS2, xm_RowError⟩,
    ri_RowError := ⟨r1_RowError, r2_RowError, r3_RowError⟩,
    a_NoRow := f_NoRow, ns_NoRow := n_NoRow, gc_NoRow := PySem.W.mg_of X G n_NoRow, xa_NoRow := ⟨xb_NoRow, xt_NoRow, xk_NoRow, xd_NoRow, xv_NoRow, xg_NoRow, xh_NoRow, xc_NoRow, xS1, xS2, xm_NoRow⟩,
    xx_NoRow := xx_NoRow,
    a_NoLetters := f_NoLetters, ns_NoLetters := n_NoLetters, gc_NoLetters := PySem.W.mg_of X G n_NoLetters, xa_NoLetters := ⟨xb_NoLetters, xt_NoLetters, xk_NoLetters, xd_NoLetters, xv_NoLetters, xg_NoLetters, xh_NoLetters, xc_NoLetters, xS1, xS2, xm_NoLetters⟩,
    xx_NoLetters := xx_NoLetters,
    a_NoRows := f_NoRows, ns_NoRows := n_NoRows, gc_NoRows := PySem.W.mg_of X G n_NoRows, xa_NoRows := ⟨xb_NoRows, xt_NoRows, xk_NoRows, xd_NoRows, xv_NoRows, xg_NoRows, xh_NoRows, xc_NoRows, xS1, xS2, xm_NoRows⟩,
    ox_NoRows := ⟨⟨_, _, _, _, _, _, _, _, _, _, _, _, _, _, _, xl_NoRows, by rfl⟩, xs_NoRows, xb_NoRows, xt_NoRows, xk_NoRows⟩, xi_NoRows := a_NoRows_init, xt_NoRows := i_NoRows_init,
    nf_NoRows_index := xn_index_NoRows,
    a_NoIndex := f_NoIndex, ns_NoIndex := n_NoIndex, gc_NoIndex := PySem.W.mg_of X G n_NoIndex, xa_NoIndex := ⟨xb_NoIndex, xt_NoIndex, xk_NoIndex, xd_NoIndex, xv_NoIndex, xg_NoIndex, xh_NoIndex, xc_NoIndex, xS1, xS2, xm_NoIndex⟩,
    xx_NoIndex := xx_NoIndex,
    a_NoOrder := f_NoOrder, ns_NoOrder := n_NoOrder, gc_NoOrder := PySem.W.mg_of X G n_NoOrder, xa_NoOrder := ⟨xb_NoOrder, xt_NoOrder, xk_NoOrder, xd_NoOrder, xv_NoOrder, xg_NoOrder, xh_NoOrder, xc_NoOrder, xS1, xS2, xm_NoOrder⟩,
    xx_NoOrder := xx_NoOrder,
    a_NothingToUndo := f_NothingToUndo, ns_NothingToUndo := n_NothingToUndo, gc_NothingToUndo := PySem.W.mg_of X G n_NothingToUndo, xa_NothingToUndo := ⟨xb_NothingToUndo, xt_NothingToUndo, xk_NothingToUndo, xd_NothingToUndo, xv_NothingToUndo, xg_NothingToUndo, xh_NothingToUndo, xc_NothingToUndo, xS1, xS2, xm_NothingToUndo⟩,
    xx_NothingToUndo := xx_NothingToUndo,
    a_NotShort := f_NotShort, ns_NotShort := n_NotShort, gc_NotShort := PySem.W.mg_of X G n_NotShort, xa_NotShort := ⟨xb_NotShort, xt_NotShort, xk_NotShort, xd_NotShort, xv_NotShort, xg_NotShort, xh_NotShort, xc_NotShort, xS1, xS2, xm_NotShort⟩,
    su_NoRow_NoOrder := su_NoRow_NoOrder,
    su_NoRow_NoRow := su_NoRow_NoRow,
    su_NoRow_NoRows := su_NoRow_NoRows,
    su_NoRow_NoIndex := su_NoRow_NoIndex,
    su_NoRow_NotShort := su_NoRow_NotShort,
    su_NoRow_NothingToUndo := su_NoRow_NothingToUndo,
    su_NoLetters_NoOrder := su_NoLetters_NoOrder,
    su_NoLetters_NoRow := su_NoLetters_NoRow,
    su_NoLetters_NoRows := su_NoLetters_NoRows,
    su_NoLetters_NoIndex := su_NoLetters_NoIndex,
    su_NoLetters_NotShort := su_NoLetters_NotShort,
    su_NoLetters_NothingToUndo := su_NoLetters_NothingToUndo,
    su_NoRows_NoOrder := su_NoRows_NoOrder,
    su_NoRows_NoRow := su_NoRows_NoRow,
    su_NoRows_NoRows := su_NoRows_NoRows,
    su_NoRows_NoIndex := su_NoRows_NoIndex,
    su_NoRows_NotShort := su_NoRows_NotShort,
    su_NoRows_NothingToUndo := su_NoRows_NothingToUndo,
    su_NoIndex_NoOrder := su_NoIndex_NoOrder,
    su_NoIndex_NoRow := su_NoIndex_NoRow,
    su_NoIndex_NoRows := su_NoIndex_NoRows,
    su_NoIndex_NoIndex := su_NoIndex_NoIndex,
    su_NoIndex_NotShort := su_NoIndex_NotShort,
    su_NoIndex_NothingToUndo := su_NoIndex_NothingToUndo,
    su_NoOrder_NoOrder := su_NoOrder_NoOrder,
    su_NoOrder_NoRow := su_NoOrder_NoRow,
    su_NoOrder_NoRows := su_NoOrder_NoRows,
    su_NoOrder_NoIndex := su_NoOrder_NoIndex,
    su_NoOrder_NotShort := su_NoOrder_NotShort,
    su_NoOrder_NothingToUndo := su_NoOrder_NothingToUndo,
    su_NothingToUndo_NoOrder := su_NothingToUndo_NoOrder,
    su_NothingToUndo_NoRow := su_NothingToUndo_NoRow,
    su_NothingToUndo_NoRows := su_NothingToUndo_NoRows,
    su_NothingToUndo_NoIndex := su_NothingToUndo_NoIndex,
    su_NothingToUndo_NotShort := su_NothingToUndo_NotShort,
    su_NothingToUndo_NothingToUndo := su_NothingToUndo_NothingToUndo,
    su_NotShort_NotShort := su_NotShort_NotShort,
    n_str := PySem.W.mg_none_of X G z_str,
    n_isinstance := PySem.W.mg_none_of X G z_isinstance,
    n_int := PySem.W.mg_none_of X G z_int,
    n_bool := PySem.W.mg_none_of X G z_bool,
    n_all := PySem.W.mg_none_of X G z_all,
    n_len := PySem.W.mg_none_of X G z_len,
    n_zip := PySem.W.mg_none_of X G z_zip,
    n_enumerate := PySem.W.mg_none_of X G z_enumerate,
    n_any := PySem.W.mg_none_of X G z_any,
    n_tuple := PySem.W.mg_none_of X G z_tuple,
    n_abs := PySem.W.mg_none_of X G z_abs,
    n_max := PySem.W.mg_none_of X G z_max,
    n_range := PySem.W.mg_none_of X G z_range,
    n_sorted := PySem.W.mg_none_of X G z_sorted,
    n_set := PySem.W.mg_none_of X G z_set,
    n_repr := PySem.W.mg_none_of X G z_repr,
    n_min := PySem.W.mg_none_of X G z_min,
    t_LOW := t_LOW, g_LOW := PySem.W.mg_of X G y_LOW,
    t_HIGH := t_HIGH, g_HIGH := PySem.W.mg_of X G y_HIGH,
    t_MOST_LETTERS := t_MOST_LETTERS, g_MOST_LETTERS := PySem.W.mg_of X G y_MOST_LETTERS,
    t_MOST_SIZE := t_MOST_SIZE, g_MOST_SIZE := PySem.W.mg_of X G y_MOST_SIZE,
    t_MOST_ROWS := t_MOST_ROWS, g_MOST_ROWS := PySem.W.mg_of X G y_MOST_ROWS,
    t_EMPTY := t_EMPTY, g_EMPTY := PySem.W.mg_of X G y_EMPTY,
    t_DIGITS := t_DIGITS, g_DIGITS := PySem.W.mg_of X G y_DIGITS,
    t_MOST_CHARACTERS := t_MOST_CHARACTERS, g_MOST_CHARACTERS := PySem.W.mg_of X G y_MOST_CHARACTERS,
    t_HEAD := t_HEAD, g_HEAD := PySem.W.mg_of X G y_HEAD,
    t_TAIL := t_TAIL, g_TAIL := PySem.W.mg_of X G y_TAIL,
    t_MOST_DIGITS := t_MOST_DIGITS, g_MOST_DIGITS := PySem.W.mg_of X G y_MOST_DIGITS }
  exact ⟨Z.d_law, fun s v => by exact .of_eq rfl, fun base _ _ => ok_law Z⟩
end K85
open PySem PySem.W PyProof.Rows
set_option maxRecDepth 100000 in
set_option maxHeartbeats 0 in
theorem PySem.Challenge.cw_sixthrows_k85_whole_two_desks_by_turns_holds : PySem.Challenge.rw_sixthrows_k85_whole_two_desks_by_turns.Holds := by
  w_on; o_law; k_head; (case hw => w_witness2)
  k_fill
  refine NX.walk_ofKG (l := PySem.Challenge.rw_sixthrows_k85_whole_two_desks_by_turns) (n := 63) (k := 13) (x := "script") (CX := L2.CX0) (sp := K85.sp_law) rfl (by decide) rfl ⟨rfl, by decide, by decide⟩ (fun w h Y => PySem.W.kIn_of Y) ?F (fun K _ a ns hl _ hS => ⟨a, ns, rfl, hS, hl, fun _ => rfl⟩) (fun _ _ _ _ h => h)
  case F =>
    intro w mg fa h KX G hmg
    refine' K85.all_mk KX G hmg ?n_Rules ?pg_Rules ?hd_Rules ?po_Rules ?sa_Rules ?mk_Rules ?kc_Rules ?na_Rules_alphabet ?na_Rules_told ?n_Desk ?pg_Desk ?hd_Desk ?po_Desk ?sa_Desk ?mk_Desk ?kc_Desk ?na_Desk_past ?na_Desk_word ?na_Desk_work ?n_RowError ?xb_RowError ?xt_RowError ?xk_RowError ?xd_RowError ?xv_RowError ?xg_RowError ?xh_RowError ?xc_RowError ?xm_RowError ?r1_RowError ?r2_RowError ?r3_RowError ?n_NoRow ?xb_NoRow ?xt_NoRow ?xk_NoRow ?xd_NoRow ?xv_NoRow ?xg_NoRow ?xh_NoRow ?xc_NoRow ?xm_NoRow ?xx_NoRow ?n_NoLetters ?xb_NoLetters ?xt_NoLetters ?xk_NoLetters ?xd_NoLetters ?xv_NoLetters ?xg_NoLetters ?xh_NoLetters ?xc_NoLetters ?xm_NoLetters ?xx_NoLetters ?n_NoRows ?xb_NoRows ?xt_NoRows ?xk_NoRows ?xd_NoRows ?xv_NoRows ?xg_NoRows ?xh_NoRows ?xc_NoRows ?xm_NoRows ?xl_NoRows ?xs_NoRows ?xn_index_NoRows ?n_NoIndex ?xb_NoIndex ?xt_NoIndex ?xk_NoIndex ?xd_NoIndex ?xv_NoIndex ?xg_NoIndex ?xh_NoIndex ?xc_NoIndex ?xm_NoIndex ?xx_NoIndex ?n_NoOrder ?xb_NoOrder ?xt_NoOrder ?xk_NoOrder ?xd_NoOrder ?xv_NoOrder ?xg_NoOrder ?xh_NoOrder ?xc_NoOrder ?xm_NoOrder ?xx_NoOrder ?n_NothingToUndo ?xb_NothingToUndo ?xt_NothingToUndo ?xk_NothingToUndo ?xd_NothingToUndo ?xv_NothingToUndo ?xg_NothingToUndo ?xh_NothingToUndo ?xc_NothingToUndo ?xm_NothingToUndo ?xx_NothingToUndo ?n_NotShort ?xb_NotShort ?xt_NotShort ?xk_NotShort ?xd_NotShort ?xv_NotShort ?xg_NotShort ?xh_NotShort ?xc_NotShort ?xm_NotShort ?xS1 ?xS2 ?su_NoRow_NoOrder ?su_NoRow_NoRow ?su_NoRow_NoRows ?su_NoRow_NoIndex ?su_NoRow_NotShort ?su_NoRow_NothingToUndo ?su_NoLetters_NoOrder ?su_NoLetters_NoRow ?su_NoLetters_NoRows ?su_NoLetters_NoIndex ?su_NoLetters_NotShort ?su_NoLetters_NothingToUndo ?su_NoRows_NoOrder ?su_NoRows_NoRow ?su_NoRows_NoRows ?su_NoRows_NoIndex ?su_NoRows_NotShort ?su_NoRows_NothingToUndo ?su_NoIndex_NoOrder ?su_NoIndex_NoRow ?su_NoIndex_NoRows ?su_NoIndex_NoIndex ?su_NoIndex_NotShort ?su_NoIndex_NothingToUndo ?su_NoOrder_NoOrder ?su_NoOrder_NoRow ?su_NoOrder_NoRows ?su_NoOrder_NoIndex ?su_NoOrder_NotShort ?su_NoOrder_NothingToUndo ?su_NothingToUndo_NoOrder ?su_NothingToUndo_NoRow ?su_NothingToUndo_NoRows ?su_NothingToUndo_NoIndex ?su_NothingToUndo_NotShort ?su_NothingToUndo_NothingToUndo ?su_NotShort_NotShort ?a_NoRows_init ?i_NoRows_init ?l_NoRows_init ?c_NoRows_init ?k_NoRows_init ?a_is_whole ?l_is_whole ?c_is_whole ?k_is_whole ?a_is_row ?l_is_row ?c_is_row ?k_is_row ?a_is_row_of ?l_is_row_of ?c_is_row_of ?k_is_row_of ?a_are_letters ?l_are_letters ?c_are_letters ?k_are_letters ?a_check_row ?l_check_row ?c_check_row ?k_check_row ?a_check_row_of ?l_check_row_of ?c_check_row_of ?k_check_row_of ?a_check_letters ?l_check_letters ?c_check_letters ?k_check_letters ?a_back_of ?l_back_of ?c_back_of ?k_back_of ?a_least_of ?l_least_of ?c_least_of ?k_least_of ?a_core_of ?l_core_of ?c_core_of ?k_core_of ?a_root ?l_root ?c_root ?k_root ?a_is_turned ?l_is_turned ?c_is_turned ?k_is_turned ?a_is_ring_row ?l_is_ring_row ?c_is_ring_row ?k_is_ring_row ?a_is_kin ?l_is_kin ?c_is_kin ?k_is_kin ?a_can_stand ?l_can_stand ?c_can_stand ?k_can_stand ?a_check_rows ?l_check_rows ?c_check_rows ?k_check_rows ?a_Rules_init ?i_Rules_init ?l_Rules_init ?c_Rules_init ?k_Rules_init ?lt_Rules_init ?le_Rules_init ?a_Rules_letters ?i_Rules_letters ?l_Rules_letters ?c_Rules_letters ?k_Rules_letters ?a_Rules_rows ?i_Rules_rows ?l_Rules_rows ?c_Rules_rows ?k_Rules_rows ?a_Rules_without ?i_Rules_without ?l_Rules_without ?c_Rules_without ?k_Rules_without ?a_stretch ?l_stretch ?c_stretch ?k_stretch ?a_written ?l_written ?c_written ?k_written ?a_number_in ?l_number_in ?c_number_in ?k_number_in ?a_times_in ?l_times_in ?c_times_in ?k_times_in ?a_digits_at ?l_digits_at ?c_digits_at ?k_digits_at ?a_row_in ?l_row_in ?c_row_in ?k_row_in ?a_any_row_in ?l_any_row_in ?c_any_row_in ?k_any_row_in ?a_row_text ?l_row_text ?c_row_text ?k_row_text ?a_rules_text ?l_rules_text ?c_rules_text ?k_rules_text ?a_row_or_none ?l_row_or_none ?c_row_or_none ?k_row_or_none ?a_index_or_none ?l_index_or_none ?c_index_or_none ?k_index_or_none ?a_rules_answer ?l_rules_answer ?c_rules_answer ?k_rules_answer ?a_row_answer ?l_row_answer ?c_row_answer ?k_row_answer ?a_Desk_init ?i_Desk_init ?l_Desk_init ?c_Desk_init ?k_Desk_init ?a_Desk_turn_to ?i_Desk_turn_to ?l_Desk_turn_to ?c_Desk_turn_to ?k_Desk_turn_to ?a_Desk_row_read ?i_Desk_row_read ?l_Desk_row_read ?c_Desk_row_read ?k_Desk_row_read ?a_Desk_letters_told ?i_Desk_letters_told ?l_Desk_letters_told ?c_Desk_letters_told ?k_Desk_letters_told ?a_Desk_row_told ?i_Desk_row_told ?l_Desk_row_told ?c_Desk_row_told ?k_Desk_row_told ?a_Desk_row_dropped ?i_Desk_row_dropped ?l_Desk_row_dropped ?c_Desk_row_dropped ?k_Desk_row_dropped ?a_Desk_row_taken ?i_Desk_row_taken ?l_Desk_row_taken ?c_Desk_row_taken ?k_Desk_row_taken ?a_Desk_undone ?i_Desk_undone ?l_Desk_undone ?c_Desk_undone ?k_Desk_undone ?a_Desk_order_of ?i_Desk_order_of ?l_Desk_order_of ?c_Desk_order_of ?k_Desk_order_of ?a_Desk_order ?i_Desk_order ?l_Desk_order ?c_Desk_order ?k_Desk_order ?a__law_well ?l__law_well ?c__law_well ?k__law_well ?a__law_pull ?l__law_pull ?c__law_pull ?k__law_pull ?a__law_one_of ?l__law_one_of ?c__law_one_of ?k__law_one_of ?a__law_flip ?l__law_flip ?c__law_flip ?k__law_flip ?a__law_back ?l__law_back ?c__law_back ?k__law_back ?a__law_alphabet ?l__law_alphabet ?c__law_alphabet ?k__law_alphabet ?a__law_ring ?l__law_ring ?c__law_ring ?k__law_ring ?a__law_is_kin ?l__law_is_kin ?c__law_is_kin ?k__law_is_kin ?a__law_word ?l__law_word ?c__law_word ?k__law_word ?a__law_short_text ?l__law_short_text ?c__law_short_text ?k__law_short_text ?a__law_least ?l__law_least ?c__law_least ?k__law_least ?a__law_root ?l__law_root ?c__law_root ?k__law_root ?a__law_fits ?l__law_fits ?c__law_fits ?k__law_fits ?a__law_rules_text ?l__law_rules_text ?c__law_rules_text ?k__law_rules_text ?a__law_behind ?l__law_behind ?c__law_behind ?k__law_behind ?a__law_answer ?l__law_answer ?c__law_answer ?k__law_answer ?a__law_is ?l__law_is ?c__law_is ?k__law_is ?a__law_row_words ?l__law_row_words ?c__law_row_words ?k__law_row_words ?a__law_row_told ?l__law_row_told ?c__law_row_told ?k__law_row_told ?a__law_drawn ?l__law_drawn ?c__law_drawn ?k__law_drawn ?a__law_words ?l__law_words ?c__law_words ?k__law_words ?a__law_shows ?l__law_shows ?c__law_shows ?k__law_shows ?a__law_next ?l__law_next ?c__law_next ?k__law_next ?a_law ?l_law ?c_law ?k_law ?z_str ?z_isinstance ?z_int ?z_bool ?z_all ?z_len ?z_zip ?z_enumerate ?z_any ?z_tuple ?z_abs ?z_max ?z_range ?z_sorted ?z_set ?z_repr ?z_min ?y_LOW ?y_HIGH ?y_MOST_LETTERS ?y_MOST_SIZE ?y_MOST_ROWS ?y_EMPTY ?y_DIGITS ?y_MOST_CHARACTERS ?y_HEAD ?y_TAIL ?y_MOST_DIGITS
    (case n_Rules => k_is)
    (case pg_Rules => k_is)
    (case hd_Rules => k_is)
    (case po_Rules => k_is)
    (case sa_Rules => k_is)
    (case mk_Rules => k_is)
    (case kc_Rules => k_is)
    (case na_Rules_alphabet => k_is)
    (case na_Rules_told => k_is)
    (case n_Desk => k_is)
    (case pg_Desk => k_is)
    (case hd_Desk => k_is)
    (case po_Desk => k_is)
    (case sa_Desk => k_is)
    (case mk_Desk => k_is)
    (case kc_Desk => k_is)
    (case na_Desk_past => k_is)
    (case na_Desk_word => k_is)
    (case na_Desk_work => k_is)
    (case n_RowError => k_is)
    (case xb_RowError => k_is)
    (case xt_RowError => k_is)
    (case xk_RowError => k_is)
    (case xd_RowError => k_is)
    (case xv_RowError => k_is)
    (case xg_RowError => k_is)
    (case xh_RowError => k_is)
    (case xc_RowError => k_is)
    (case xm_RowError => k_is)
    (case r1_RowError => k_is)
    (case r2_RowError => k_is)
    (case r3_RowError => k_is)
    (case n_NoRow => k_is)
    (case xb_NoRow => k_is)
    (case xt_NoRow => k_is)
    (case xk_NoRow => k_is)
    (case xd_NoRow => k_is)
    (case xv_NoRow => k_is)
    (case xg_NoRow => k_is)
    (case xh_NoRow => k_is)
    (case xc_NoRow => k_is)
    (case xm_NoRow => k_is)
    (case xx_NoRow => k_exc)
    (case n_NoLetters => k_is)
    (case xb_NoLetters => k_is)
    (case xt_NoLetters => k_is)
    (case xk_NoLetters => k_is)
    (case xd_NoLetters => k_is)
    (case xv_NoLetters => k_is)
    (case xg_NoLetters => k_is)
    (case xh_NoLetters => k_is)
    (case xc_NoLetters => k_is)
    (case xm_NoLetters => k_is)
    (case xx_NoLetters => k_exc)
    (case n_NoRows => k_is)
    (case xb_NoRows => k_is)
    (case xt_NoRows => k_is)
    (case xk_NoRows => k_is)
    (case xd_NoRows => k_is)
    (case xv_NoRows => k_is)
    (case xg_NoRows => k_is)
    (case xh_NoRows => k_is)
    (case xc_NoRows => k_is)
    (case xm_NoRows => k_is)
    (case xl_NoRows => k_is)
    (case xs_NoRows => k_is)
    (case xn_index_NoRows => k_is)
    (case n_NoIndex => k_is)
    (case xb_NoIndex => k_is)
    (case xt_NoIndex => k_is)
    (case xk_NoIndex => k_is)
    (case xd_NoIndex => k_is)
    (case xv_NoIndex => k_is)
    (case xg_NoIndex => k_is)
    (case xh_NoIndex => k_is)
    (case xc_NoIndex => k_is)
    (case xm_NoIndex => k_is)
    (case xx_NoIndex => k_exc)
    (case n_NoOrder => k_is)
    (case xb_NoOrder => k_is)
    (case xt_NoOrder => k_is)
    (case xk_NoOrder => k_is)
    (case xd_NoOrder => k_is)
    (case xv_NoOrder => k_is)
    (case xg_NoOrder => k_is)
    (case xh_NoOrder => k_is)
    (case xc_NoOrder => k_is)
    (case xm_NoOrder => k_is)
    (case xx_NoOrder => k_exc)
    (case n_NothingToUndo => k_is)
    (case xb_NothingToUndo => k_is)
    (case xt_NothingToUndo => k_is)
    (case xk_NothingToUndo => k_is)
    (case xd_NothingToUndo => k_is)
    (case xv_NothingToUndo => k_is)
    (case xg_NothingToUndo => k_is)
    (case xh_NothingToUndo => k_is)
    (case xc_NothingToUndo => k_is)
    (case xm_NothingToUndo => k_is)
    (case xx_NothingToUndo => k_exc)
    (case n_NotShort => k_is)
    (case xb_NotShort => k_is)
    (case xt_NotShort => k_is)
    (case xk_NotShort => k_is)
    (case xd_NotShort => k_is)
    (case xv_NotShort => k_is)
    (case xg_NotShort => k_is)
    (case xh_NotShort => k_is)
    (case xc_NotShort => k_is)
    (case xm_NotShort => k_is)
    (case xS1 => k_is)
    (case xS2 => k_is)
    (case su_NoRow_NoOrder => k_is)
    (case su_NoRow_NoRow => k_is)
    (case su_NoRow_NoRows => k_is)
    (case su_NoRow_NoIndex => k_is)
    (case su_NoRow_NotShort => k_is)
    (case su_NoRow_NothingToUndo => k_is)
    (case su_NoLetters_NoOrder => k_is)
    (case su_NoLetters_NoRow => k_is)
    (case su_NoLetters_NoRows => k_is)
    (case su_NoLetters_NoIndex => k_is)
    (case su_NoLetters_NotShort => k_is)
    (case su_NoLetters_NothingToUndo => k_is)
    (case su_NoRows_NoOrder => k_is)
    (case su_NoRows_NoRow => k_is)
    (case su_NoRows_NoRows => k_is)
    (case su_NoRows_NoIndex => k_is)
    (case su_NoRows_NotShort => k_is)
    (case su_NoRows_NothingToUndo => k_is)
    (case su_NoIndex_NoOrder => k_is)
    (case su_NoIndex_NoRow => k_is)
    (case su_NoIndex_NoRows => k_is)
    (case su_NoIndex_NoIndex => k_is)
    (case su_NoIndex_NotShort => k_is)
    (case su_NoIndex_NothingToUndo => k_is)
    (case su_NoOrder_NoOrder => k_is)
    (case su_NoOrder_NoRow => k_is)
    (case su_NoOrder_NoRows => k_is)
    (case su_NoOrder_NoIndex => k_is)
    (case su_NoOrder_NotShort => k_is)
    (case su_NoOrder_NothingToUndo => k_is)
    (case su_NothingToUndo_NoOrder => k_is)
    (case su_NothingToUndo_NoRow => k_is)
    (case su_NothingToUndo_NoRows => k_is)
    (case su_NothingToUndo_NoIndex => k_is)
    (case su_NothingToUndo_NotShort => k_is)
    (case su_NothingToUndo_NothingToUndo => k_is)
    (case su_NotShort_NotShort => k_is)
    (case a_NoRows_init => k_is)
    (case i_NoRows_init => k_is)
    (case l_NoRows_init => k_is)
    (case c_NoRows_init => k_is)
    (case k_NoRows_init => k_is)
    (case a_is_whole => k_is)
    (case l_is_whole => k_is)
    (case c_is_whole => k_is)
    (case k_is_whole => k_is)
    (case a_is_row => k_is)
    (case l_is_row => k_is)
    (case c_is_row => k_is)
    (case k_is_row => k_is)
    (case a_is_row_of => k_is)
    (case l_is_row_of => k_is)
    (case c_is_row_of => k_is)
    (case k_is_row_of => k_is)
    (case a_are_letters => k_is)
    (case l_are_letters => k_is)
    (case c_are_letters => k_is)
    (case k_are_letters => k_is)
    (case a_check_row => k_is)
    (case l_check_row => k_is)
    (case c_check_row => k_is)
    (case k_check_row => k_is)
    (case a_check_row_of => k_is)
    (case l_check_row_of => k_is)
    (case c_check_row_of => k_is)
    (case k_check_row_of => k_is)
    (case a_check_letters => k_is)
    (case l_check_letters => k_is)
    (case c_check_letters => k_is)
    (case k_check_letters => k_is)
    (case a_back_of => k_is)
    (case l_back_of => k_is)
    (case c_back_of => k_is)
    (case k_back_of => k_is)
    (case a_least_of => k_is)
    (case l_least_of => k_is)
    (case c_least_of => k_is)
    (case k_least_of => k_is)
    (case a_core_of => k_is)
    (case l_core_of => k_is)
    (case c_core_of => k_is)
    (case k_core_of => k_is)
    (case a_root => k_is)
    (case l_root => k_is)
    (case c_root => k_is)
    (case k_root => k_is)
    (case a_is_turned => k_is)
    (case l_is_turned => k_is)
    (case c_is_turned => k_is)
    (case k_is_turned => k_is)
    (case a_is_ring_row => k_is)
    (case l_is_ring_row => k_is)
    (case c_is_ring_row => k_is)
    (case k_is_ring_row => k_is)
    (case a_is_kin => k_is)
    (case l_is_kin => k_is)
    (case c_is_kin => k_is)
    (case k_is_kin => k_is)
    (case a_can_stand => k_is)
    (case l_can_stand => k_is)
    (case c_can_stand => k_is)
    (case k_can_stand => k_is)
    (case a_check_rows => k_is)
    (case l_check_rows => k_is)
    (case c_check_rows => k_is)
    (case k_check_rows => k_is)
    (case a_Rules_init => k_is)
    (case i_Rules_init => k_is)
    (case l_Rules_init => k_is)
    (case c_Rules_init => k_is)
    (case k_Rules_init => k_is)
    (case lt_Rules_init => k_is)
    (case le_Rules_init => k_is)
    (case a_Rules_letters => k_is)
    (case i_Rules_letters => k_is)
    (case l_Rules_letters => k_is)
    (case c_Rules_letters => k_is)
    (case k_Rules_letters => k_is)
    (case a_Rules_rows => k_is)
    (case i_Rules_rows => k_is)
    (case l_Rules_rows => k_is)
    (case c_Rules_rows => k_is)
    (case k_Rules_rows => k_is)
    (case a_Rules_without => k_is)
    (case i_Rules_without => k_is)
    (case l_Rules_without => k_is)
    (case c_Rules_without => k_is)
    (case k_Rules_without => k_is)
    (case a_stretch => k_is)
    (case l_stretch => k_is)
    (case c_stretch => k_is)
    (case k_stretch => k_is)
    (case a_written => k_is)
    (case l_written => k_is)
    (case c_written => k_is)
    (case k_written => k_is)
    (case a_number_in => k_is)
    (case l_number_in => k_is)
    (case c_number_in => k_is)
    (case k_number_in => k_is)
    (case a_times_in => k_is)
    (case l_times_in => k_is)
    (case c_times_in => k_is)
    (case k_times_in => k_is)
    (case a_digits_at => k_is)
    (case l_digits_at => k_is)
    (case c_digits_at => k_is)
    (case k_digits_at => k_is)
    (case a_row_in => k_is)
    (case l_row_in => k_is)
    (case c_row_in => k_is)
    (case k_row_in => k_is)
    (case a_any_row_in => k_is)
    (case l_any_row_in => k_is)
    (case c_any_row_in => k_is)
    (case k_any_row_in => k_is)
    (case a_row_text => k_is)
    (case l_row_text => k_is)
    (case c_row_text => k_is)
    (case k_row_text => k_is)
    (case a_rules_text => k_is)
    (case l_rules_text => k_is)
    (case c_rules_text => k_is)
    (case k_rules_text => k_is)
    (case a_row_or_none => k_is)
    (case l_row_or_none => k_is)
    (case c_row_or_none => k_is)
    (case k_row_or_none => k_is)
    (case a_index_or_none => k_is)
    (case l_index_or_none => k_is)
    (case c_index_or_none => k_is)
    (case k_index_or_none => k_is)
    (case a_rules_answer => k_is)
    (case l_rules_answer => k_is)
    (case c_rules_answer => k_is)
    (case k_rules_answer => k_is)
    (case a_row_answer => k_is)
    (case l_row_answer => k_is)
    (case c_row_answer => k_is)
    (case k_row_answer => k_is)
    (case a_Desk_init => k_is)
    (case i_Desk_init => k_is)
    (case l_Desk_init => k_is)
    (case c_Desk_init => k_is)
    (case k_Desk_init => k_is)
    (case a_Desk_turn_to => k_is)
    (case i_Desk_turn_to => k_is)
    (case l_Desk_turn_to => k_is)
    (case c_Desk_turn_to => k_is)
    (case k_Desk_turn_to => k_is)
    (case a_Desk_row_read => k_is)
    (case i_Desk_row_read => k_is)
    (case l_Desk_row_read => k_is)
    (case c_Desk_row_read => k_is)
    (case k_Desk_row_read => k_is)
    (case a_Desk_letters_told => k_is)
    (case i_Desk_letters_told => k_is)
    (case l_Desk_letters_told => k_is)
    (case c_Desk_letters_told => k_is)
    (case k_Desk_letters_told => k_is)
    (case a_Desk_row_told => k_is)
    (case i_Desk_row_told => k_is)
    (case l_Desk_row_told => k_is)
    (case c_Desk_row_told => k_is)
    (case k_Desk_row_told => k_is)
    (case a_Desk_row_dropped => k_is)
    (case i_Desk_row_dropped => k_is)
    (case l_Desk_row_dropped => k_is)
    (case c_Desk_row_dropped => k_is)
    (case k_Desk_row_dropped => k_is)
    (case a_Desk_row_taken => k_is)
    (case i_Desk_row_taken => k_is)
    (case l_Desk_row_taken => k_is)
    (case c_Desk_row_taken => k_is)
    (case k_Desk_row_taken => k_is)
    (case a_Desk_undone => k_is)
    (case i_Desk_undone => k_is)
    (case l_Desk_undone => k_is)
    (case c_Desk_undone => k_is)
    (case k_Desk_undone => k_is)
    (case a_Desk_order_of => k_is)
    (case i_Desk_order_of => k_is)
    (case l_Desk_order_of => k_is)
    (case c_Desk_order_of => k_is)
    (case k_Desk_order_of => k_is)
    (case a_Desk_order => k_is)
    (case i_Desk_order => k_is)
    (case l_Desk_order => k_is)
    (case c_Desk_order => k_is)
    (case k_Desk_order => k_is)
    (case a__law_well => k_is)
    (case l__law_well => k_is)
    (case c__law_well => k_is)
    (case k__law_well => k_is)
    (case a__law_pull => k_is)
    (case l__law_pull => k_is)
    (case c__law_pull => k_is)
    (case k__law_pull => k_is)
    (case a__law_one_of => k_is)
    (case l__law_one_of => k_is)
    (case c__law_one_of => k_is)
    (case k__law_one_of => k_is)
    (case a__law_flip => k_is)
    (case l__law_flip => k_is)
    (case c__law_flip => k_is)
    (case k__law_flip => k_is)
    (case a__law_back => k_is)
    (case l__law_back => k_is)
    (case c__law_back => k_is)
    (case k__law_back => k_is)
    (case a__law_alphabet => k_is)
    (case l__law_alphabet => k_is)
    (case c__law_alphabet => k_is)
    (case k__law_alphabet => k_is)
    (case a__law_ring => k_is)
    (case l__law_ring => k_is)
    (case c__law_ring => k_is)
    (case k__law_ring => k_is)
    (case a__law_is_kin => k_is)
    (case l__law_is_kin => k_is)
    (case c__law_is_kin => k_is)
    (case k__law_is_kin => k_is)
    (case a__law_word => k_is)
    (case l__law_word => k_is)
    (case c__law_word => k_is)
    (case k__law_word => k_is)
    (case a__law_short_text => k_is)
    (case l__law_short_text => k_is)
    (case c__law_short_text => k_is)
    (case k__law_short_text => k_is)
    (case a__law_least => k_is)
    (case l__law_least => k_is)
    (case c__law_least => k_is)
    (case k__law_least => k_is)
    (case a__law_root => k_is)
    (case l__law_root => k_is)
    (case c__law_root => k_is)
    (case k__law_root => k_is)
    (case a__law_fits => k_is)
    (case l__law_fits => k_is)
    (case c__law_fits => k_is)
    (case k__law_fits => k_is)
    (case a__law_rules_text => k_is)
    (case l__law_rules_text => k_is)
    (case c__law_rules_text => k_is)
    (case k__law_rules_text => k_is)
    (case a__law_behind => k_is)
    (case l__law_behind => k_is)
    (case c__law_behind => k_is)
    (case k__law_behind => k_is)
    (case a__law_answer => k_is)
    (case l__law_answer => k_is)
    (case c__law_answer => k_is)
    (case k__law_answer => k_is)
    (case a__law_is => k_is)
    (case l__law_is => k_is)
    (case c__law_is => k_is)
    (case k__law_is => k_is)
    (case a__law_row_words => k_is)
    (case l__law_row_words => k_is)
    (case c__law_row_words => k_is)
    (case k__law_row_words => k_is)
    (case a__law_row_told => k_is)
    (case l__law_row_told => k_is)
    (case c__law_row_told => k_is)
    (case k__law_row_told => k_is)
    (case a__law_drawn => k_is)
    (case l__law_drawn => k_is)
    (case c__law_drawn => k_is)
    (case k__law_drawn => k_is)
    (case a__law_words => k_is)
    (case l__law_words => k_is)
    (case c__law_words => k_is)
    (case k__law_words => k_is)
    (case a__law_shows => k_is)
    (case l__law_shows => k_is)
    (case c__law_shows => k_is)
    (case k__law_shows => k_is)
    (case a__law_next => k_is)
    (case l__law_next => k_is)
    (case c__law_next => k_is)
    (case k__law_next => k_is)
    (case a_law => k_is)
    (case l_law => k_is)
    (case c_law => k_is)
    (case k_law => k_is)
    (case z_str => k_is)
    (case z_isinstance => k_is)
    (case z_int => k_is)
    (case z_bool => k_is)
    (case z_all => k_is)
    (case z_len => k_is)
    (case z_zip => k_is)
    (case z_enumerate => k_is)
    (case z_any => k_is)
    (case z_tuple => k_is)
    (case z_abs => k_is)
    (case z_max => k_is)
    (case z_range => k_is)
    (case z_sorted => k_is)
    (case z_set => k_is)
    (case z_repr => k_is)
    (case z_min => k_is)
    (case y_LOW => k_is)
    (case y_HIGH => k_is)
    (case y_MOST_LETTERS => k_is)
    (case y_MOST_SIZE => k_is)
    (case y_MOST_ROWS => k_is)
    (case y_EMPTY => k_is)
    (case y_DIGITS => k_is)
    (case y_MOST_CHARACTERS => k_is)
    (case y_HEAD => k_is)
    (case y_TAIL => k_is)
    (case y_MOST_DIGITS => k_is)
