import PyProof.Rows.All
import Wide.All
import OpenK.AllK
import Wide.FinOn
import HandS.ForMost
import HandS.IsInst
import HandS.ClsMeth
import HandS.FStr
import HandS.Walk
import KE.KOpsOwn
import HandS.MakeKw
import HandS.Defaults
import HandS.Set
import HandS.More
import HandS.Strs
import PyProof.StrWalks
import PyProof.Rows.SetFrom
import PyProof.Rows.SortShellAny
import KE.GoesMore
import KE.GoesZip
import HandS.Iter
import KE.GoesEnum
import HandS.Replace
import PyProof.StrLawsFirst
import HandS.Evl
import HandS.Property
import HandS.TupAny
import HandS.Deep
import HandS.SetFor
import HandS.ListItems
import HandS.Conv
import HandS.Zip
import HandS.Style
import HandS.Dict
import HandS.SortInts
import HandS.Words
import PySem.Challenge.RW_ringdepth_k17_whole_first_texts_and_numb
set_option Elab.async false
set_option linter.all false
section
set_option maxRecDepth 100000
set_option maxHeartbeats 4000000
/-! Rules of my own over the hand layer: texts as lists of codes, str * int, own special methods, repr. -/
namespace RX
open PySem PySem.Spec PyProof.Rows L2

/-! ### texts as lists of codes -/
abbrev Tx := List Nat
def stx (l : Tx) : Str := ⟨l.toArray⟩
def tx (l : Tx) : V := .str (stx l)
theorem stx_len (l : Tx) : (stx l).length = l.length := by show l.toArray.size = l.length; simp
theorem stx_list (l : Tx) : (stx l).cps.toList = l := by show l.toArray.toList = l; simp
theorem stx_inj {a b : Tx} (h : stx a = stx b) : a = b := by
  have := congrArg (fun z : Str => z.cps.toList) h
  simpa [stx] using this
theorem tx_inj {a b : Tx} (h : tx a = tx b) : a = b := stx_inj (by unfold tx at h; injection h)
theorem stx_of (z : Str) : stx z.cps.toList = z := by cases z; simp [stx]
theorem tx_of (z : Str) : V.str z = tx z.cps.toList := by unfold tx; rw [stx_of]
theorem stx_app (a b : Tx) : stx a ++ stx b = stx (a ++ b) := by
  show (⟨a.toArray ++ b.toArray⟩ : Str) = ⟨(a ++ b).toArray⟩
  simp
theorem dec_tx (a b : Tx) : decide (tx a = tx b) = decide (a = b) := by
  by_cases h : a = b
  · subst h; simp
  · rw [decide_eq_false h, decide_eq_false (fun e => h (tx_inj e))]

section
variable {X : Cx}
/-! operators by lists of codes -/
def rAddT : R2 := fun x y H Q => ∃ a b, x = tx a ∧ y = tx b ∧ a.length + b.length ≤ sizeLine ∧ Q (tx (a ++ b)) H
theorem op_addT : OpR X (binaryOp .Add) rAddT := fun pins s σ H x y v u Q I rx ry h => op_add_str pins s σ H x y v u Q I rx ry (by
  obtain ⟨a, b, rfl, rfl, hl, q⟩ := h
  exact ⟨stx a, stx b, rfl, rfl, by rw [stx_len, stx_len]; exact hl, by rw [stx_app]; exact q⟩)
def rEqT : R2 := fun x y H Q => ∃ a b, x = tx a ∧ y = tx b ∧ Q (.bl (decide (a = b))) H
theorem op_eqT : OpR X (compareOp .Eq) rEqT := fun pins s σ H x y v u Q I rx ry h => op_eq pins s σ H x y v u Q I rx ry (by
  obtain ⟨a, b, rfl, rfl, q⟩ := h
  exact ⟨rfl, by rw [dec_tx]; exact q⟩)
def rNeT : R2 := fun x y H Q => ∃ a b, x = tx a ∧ y = tx b ∧ Q (.bl (!decide (a = b))) H
theorem op_neT : OpR X (compareOp .NotEq) rNeT := fun pins s σ H x y v u Q I rx ry h => op_ne pins s σ H x y v u Q I rx ry (by
  obtain ⟨a, b, rfl, rfl, q⟩ := h
  exact ⟨rfl, by rw [dec_tx]; exact q⟩)
/-- one sign in a text -/
def rInT : R2 := fun x y H Q => ∃ c a, x = tx [c] ∧ y = tx a ∧ Q (.bl (decide (c ∈ a))) H
theorem op_inT : OpR X (compareOp .In) rInT := fun pins s σ H x y v u Q I rx ry h => op_in_sign pins s σ H x y v u Q I rx ry (by
  obtain ⟨c, a, rfl, rfl, q⟩ := h
  exact ⟨c, stx a, rfl, rfl, by rw [stx_list]; exact q⟩)
def rNotInT : R2 := fun x y H Q => ∃ c a, x = tx [c] ∧ y = tx a ∧ Q (.bl (!decide (c ∈ a))) H
theorem op_notInT : OpR X (compareOp .NotIn) rNotInT := fun pins s σ H x y v u Q I rx ry h => op_notIn_sign pins s σ H x y v u Q I rx ry (by
  obtain ⟨c, a, rfl, rfl, q⟩ := h
  exact ⟨c, stx a, rfl, rfl, by rw [stx_list]; exact q⟩)
/-- a text's item, counted from 0 -/
def rIxTx : R2 := fun x y H Q => ∃ (a : Tx) (i : Nat) (c : Nat), x = tx a ∧ y = .int i ∧ a.length ≤ sizeLine ∧ a[i]? = some c ∧ Q (tx [c]) H
theorem ix_T : IxR X rIxTx := fun value slice pins s σ H x y v u Q I rx ry h hs => ix_str value slice pins s σ H x y v u Q I rx ry (by
  obtain ⟨a, i, c, rfl, rfl, hl, hc, q⟩ := h
  exact ⟨stx a, i, c, rfl, rfl, by rw [stx_len]; exact hl, by rw [stx_list]; exact atI_nat hc, q⟩) hs
/-- a text's slice -/
def cutT (a : Tx) (lo hi : Option Int) : Tx := (a.drop (HT.sIx a.length 0 lo)).take (HT.sIx a.length a.length hi - HT.sIx a.length 0 lo)
def rSlT : V → Option Int → Option Int → Hp → VK → Prop := fun x lo hi H Q => ∃ a, x = tx a ∧ a.length ≤ sizeLine ∧ Q (tx (cutT a lo hi)) H
theorem sl_T : SlR X rSlT := fun pins s σ H x v vl vu lo hi sl Q I rx hs pl pu h => sl_str pins s σ H x v vl vu lo hi sl Q I rx hs pl pu (by
  obtain ⟨a, rfl, hl, q⟩ := h
  refine ⟨stx a, rfl, by rw [stx_len]; exact hl, ?_⟩
  have e : V.str (cutS (stx a) lo hi) = tx (cutT a lo hi) := by
    unfold cutS cutT tx
    rw [stx_list, stx_len]
    rfl
  rw [e]
  exact q)
theorem cutT_to (a : Tx) (k : Nat) : cutT a none (some (k : Int)) = a.take k := by
  unfold cutT
  rw [HT.sIx_nat, HT.sIx_none, List.drop_zero, Nat.sub_zero]
  by_cases h : k ≤ a.length
  · rw [Nat.min_eq_left h]
  · rw [Nat.min_eq_right (by omega), List.take_of_length_le (Nat.le_refl _), List.take_of_length_le (by omega)]
theorem cutT_from (a : Tx) (k : Nat) : cutT a (some (k : Int)) none = a.drop k := by
  unfold cutT
  rw [HT.sIx_nat, HT.sIx_none]
  by_cases h : k ≤ a.length
  · rw [Nat.min_eq_left h, List.take_of_length_le (by rw [List.length_drop]; omega)]
  · rw [Nat.min_eq_right (by omega), Nat.sub_self, List.take_zero, List.drop_of_length_le (by omega)]
/-- text * int -/
def repT (a : Tx) (k : Nat) : Tx := (List.replicate k a).flatten
theorem repT_len (a : Tx) (k : Nat) : (repT a k).length = k * a.length := by
  unfold repT
  induction k with
  | zero => simp
  | succ k ih =>
    rw [List.replicate_succ, List.flatten_cons, List.length_append, ih, Nat.add_mul, Nat.one_mul, Nat.add_comm]
theorem fold_app (c : Array Nat) : ∀ (k : Nat) (acc : Array Nat), ((List.replicate k c).foldl (· ++ ·) acc).toList = acc.toList ++ repT c.toList k
  | 0, acc => by simp [repT]
  | k + 1, acc => by
    rw [List.replicate_succ, List.foldl_cons, fold_app c k (acc ++ c)]
    unfold repT
    rw [List.replicate_succ, List.flatten_cons, Array.toList_append, List.append_assoc]
def rMulT : R2 := fun x y H Q => ∃ (a : Tx) (k : Nat), x = tx a ∧ y = .int k ∧ k ≤ 1000000 ∧ a.length * k ≤ 16777216 ∧ Q (tx (repT a k)) H
theorem repT_one (a : Tx) : repT a 1 = a := by simp [repT]
theorem repT_zero (a : Tx) : repT a 0 = [] := by simp [repT]
theorem repT_nil (k : Nat) : repT [] k = [] := by
  have := repT_len [] k
  simpa using this
theorem op_mulT : OpR X (binaryOp .Mult) rMulT := by
  intro pins s σ H x y v u Q I rx ry h
  obtain ⟨a, k, rfl, rfl, hk, hl, q⟩ := h
  obtain ⟨t, rfl⟩ := (show ∃ t, v = Value.str (stx a) t from rx)
  obtain ⟨t', rfl⟩ := (show ∃ t', u = Value.int (k : Int) t' from ry)
  have hlen := stx_len a
  refine PySem.P.mul_str (by
    have h1 : ¬ ((k : Int) < -(2 ^ 63 : Int)) := by omega
    have h2 : ¬ ((k : Int) ≥ 2 ^ 63) := by omega
    rw [decide_eq_false h1, decide_eq_false h2]; rfl) (fun h1 h2 => ?_) (fun h1 h2 => ?_) ?_
  · have hk1 : (0 : Int) < k := by omega
    have b : (2 ^ 63 - 1 : Int) / 1000000 ≤ (2 ^ 63 - 1) / (k : Int) := by
      apply Int.le_ediv_of_mul_le hk1
      have c1 : (2 ^ 63 - 1 : Int) / 1000000 * 1000000 ≤ 2 ^ 63 - 1 := by decide
      have c2 : (2 ^ 63 - 1 : Int) / 1000000 * (k : Int) ≤ (2 ^ 63 - 1 : Int) / 1000000 * 1000000 := Int.mul_le_mul_of_nonneg_left (by omega) (by decide)
      omega
    have c3 : ((stx a).length : Int) ≤ 16777216 := by
      have : a.length ≤ a.length * k := Nat.le_mul_of_pos_right _ (by omega)
      omega
    have c4 : (16777216 : Int) ≤ (2 ^ 63 - 1) / 1000000 := by decide
    omega
  · unfold Builtin.Str.tooLong
    rw [hlen, Int.toNat_natCast]
    exact decide_eq_false (by rw [sizeLine_eq]; omega)
  · by_cases h1 : (k : Int) < 1
    · rw [if_pos h1]
      have hk0 : k = 0 := by omega
      subst hk0
      rw [repT_zero] at q
      exact ⟨by decide, tx [], H, I.tok _, ⟨_, rfl⟩, q⟩
    · rw [if_neg h1]
      by_cases h2 : ((k : Int) == 1 || (stx a).length == 0) = true
      · rw [if_pos h2]
        have e : repT a k = a := by
          rcases Bool.or_eq_true_iff.mp h2 with e | e
          · have : k = 1 := by have := beq_iff_eq.mp e; omega
            rw [this, repT_one]
          · have : a = [] := by
              have h0 := beq_iff_eq.mp e
              rw [hlen] at h0
              exact List.eq_nil_of_length_eq_zero h0
            rw [this, repT_nil]
        rw [e] at q
        exact ⟨tx a, H, I, ⟨t, rfl⟩, q⟩
      · rw [if_neg h2]
        have e : (⟨(List.replicate (k : Int).toNat (stx a).cps).foldl (· ++ ·) #[]⟩ : Str) = stx (repT a k) := by
          have := fold_app (stx a).cps k #[]
          rw [stx_list] at this
          show (⟨_⟩ : Str) = ⟨(repT a k).toArray⟩
          congr 1
          rw [Int.toNat_natCast]
          apply Array.toList_inj.mp
          rw [this]
          simp
        rw [e]
        exact ⟨by rw [stx_len, repT_len, sizeLine_eq, Nat.mul_comm]; exact hl, tx (repT a k), H, I.tok _, ⟨_, rfl⟩, q⟩
/-- len of a text -/
def rLenT : List V → Hp → VK → Prop := fun xs H Q => ∃ a, xs = [tx a] ∧ a.length ≤ sizeLine ∧ Q (.int (a.length : Int)) H
theorem call_lenT : CallR X (.builtin "len") rLenT := fun pins s σ H xs us Q I r h => call_len_str pins s σ H xs us Q I r (by
  obtain ⟨a, rfl, hl, q⟩ := h
  exact ⟨stx a, rfl, by rw [stx_len]; exact hl, by rw [stx_len]; exact q⟩)
/-- ''.join(list of texts) -/
theorem joinL_nil : ∀ ps : List Tx, TL.joinL [] ps = ps.flatten
  | [] => rfl
  | [p] => by simp [TL.joinL]
  | p :: q :: r => by
    show p ++ ([] ++ TL.joinL [] (q :: r)) = _
    rw [joinL_nil (q :: r)]
    simp
def rJoinT (K : PySem.W.Frag) : V → List V → Hp → VK → Prop := fun x xs H Q => ∃ p, ∃ ps : List Tx, x = tx [] ∧ xs = [.ref p] ∧ SqL K H p (ps.map tx) ∧ ps.flatten.length ≤ 16777216 ∧ Q (tx ps.flatten) H
theorem mt_joinT : MtR X "str.join" (rJoinT X.K) := fun pins s σ H x xs v us Q I rx rs h => mt_join pins s σ H x xs v us Q I rx rs (by
  obtain ⟨p, ps, rfl, rfl, hp, hl, q⟩ := h
  refine ⟨stx [], p, ps.map stx, rfl, rfl, .inl (by rw [List.map_map]; exact hp), ?_, ?_⟩
  · have e : ((ps.map stx).map (·.length)).sum = ps.flatten.length := by
      rw [List.map_map, List.length_flatten]
      congr 1
      first
        | done
        | (apply List.map_congr_left; intro a _; exact stx_len a)
    rw [e, stx_len]
    simpa using hl
  · have e : V.str (Txt.join (stx []) (ps.map stx)) = tx ps.flatten := by
      rw [tx_of]
      have e2 : (Txt.join (stx []) (ps.map stx)).cps.toList = ps.flatten := by
        have := TL.tl_join (stx []) (ps.map stx)
        rw [TL.join_eq]
        show TL.tl (Str.join (stx []) (ps.map stx)) = _
        rw [this]
        have e3 : TL.tl (stx []) = [] := stx_list []
        rw [e3, List.map_map, joinL_nil]
        congr 1
        conv => rhs; rw [← List.map_id ps]
        apply List.map_congr_left
        intro a _
        exact stx_list a
      rw [e2]
    rw [e]
    exact q)
theorem pe_joinT {o e : Expr} {to te : TE} {apos pos : Pos} (ho : PE X o to) (he : PE X e te) (hs : starEach [e] X.env = [(false, eval e X.env)] := by rfl) (hbase : attributeBase o "join" X.env (eval o X.env) = eval o X.env := by rfl) (hline : (apos.endLine == pos.line) = true := by rfl) :
    PE X (.Call (.Attribute o "join" apos) [e] [] pos) (tM1 (rJoinT X.K) to te) :=
  pe_m1 PySem.F.slot_str_join PySem.F.type_str_join mt_joinT ho he hs hbase hline
end
end RX
end
section
set_option maxRecDepth 100000
set_option maxHeartbeats 4000000
/-! own special methods: str + x by __radd__, != by an own __eq__, at the library's level -/
namespace RX
open PySem PySem.W PySem.Calls PyProof.Rows Builtin
section
variable {prog : Program} {w : World} {A : Around} {E : Value → Shared → Prop} {s : Shared} {K : Frag} {x C L f : Addr} {h₀ : Heap} {m : Str → Option Value} {ox : Obj} {od : Option Obj}

theorem fillsR_K {M : Model} {h : Heap} {nm : String} {cd : ClassData} {rest : List Value} (X : K.In h) (hc : clsIn K C = some cd) (hm : cd.mro = .ref C :: rest) (hn : findIn K (.ref C) (PySem.dunder nm) = some none) (hs : findIn K (.ref C) (dunderR nm) = some (some (.ref f))) :
    Looks M h (fillsNumberSlot (.ref C) nm) true := by
  intro A Q E s k q
  unfold fillsNumberSlot
  refine wpAny_bind ((looks_clsIn X hc).andThen (f := fun cd => pure cd.mro) .now A _ E s k ?_)
  rw [hm, List.anyM_cons]
  refine wpAny_bind ?_
  show wpAny M A (List.anyM _ [PySem.dunder nm, dunderR nm]) _ _ _
  rw [List.anyM_cons]
  refine wpAny_bind (wpAny_bind (looks_findIn X hn A _ E s k ?_))
  dsimp only
  refine wpAny_pure ?_
  rw [if_neg (by decide), List.anyM_cons]
  refine wpAny_bind (wpAny_bind (looks_findIn X hs A _ E s k ?_))
  dsimp only
  rw [if_pos (show (!ownNameWrapper (.ref f) (dunderR nm)) = true from rfl)]
  refine wpAny_pure ?_
  rw [if_pos rfl]
  refine wpAny_pure ?_
  rw [if_pos rfl]
  exact wpAny_pure q

theorem radd_K {y : Str} {t : Tok} {Q : Value → Shared → Prop} (F : Fr h₀ L s.heap m) (X₀ : K.In h₀) (I : InstAt s.heap x ox C od) (hc : selfFirst K C = true)
    (hn : findIn K (.ref C) (PySem.dunder "add") = some none) (hs : findIn K (.ref C) (dunderR "add") = some (some (.ref f))) (hf : isFn K (.ref f) = true)
    (h : wpAny (model prog w) A (call (.ref f) [.ref x, .str y t]) (PySem.W.CmpBack Q) E s) : wpAny (model prog w) A (binaryOp .Add (.str y t) (.ref x)) Q E s := by
  have X := X₀.keeps F.keep
  obtain ⟨cd, rest, hcd, hm⟩ := ksp_first hc
  have one := ksp_try X I hs hf h
  obtain ⟨hh, g, d, tt, os⟩ := s
  have L1 : Looks (model prog w) hh (typeOf (.ref x)) (.ref C) := I.type
  have L2 : Looks (model prog w) hh (typeOf (.str y t)) (.type "str") := Looks.of_pure rfl
  have L3 : Looks (model prog w) hh (fillsNumberSlot (.ref C) "add") true := fillsR_K X hcd hm hn hs
  have L4 : Looks (model prog w) hh (fillsNumberSlot (.type "str") "add") false := Looks.of_pure PySem.noFill_str_add
  have hne : (Value.type "str" == Value.ref C) = false := Bool.eq_false_iff.mpr fun q => by cases beq_iff_eq.mp q
  have hi : Operator.info .Add = (("+", "add") : String × String) := rfl
  simp only [binaryOp, hi]
  refine wpAny_holding (wpAny_bind ?_)
  unfold binaryOp1
  refine wpAny_bind (L2.at (wpAny_bind (L1.at (wpAny_bind (L4.at ?_)))))
  simp only [hne, Bool.false_eq_true, if_false]
  ksp_lk
  refine wpAny_mono one (fun r s' hr' => ?_) fun _ _ e => e
  obtain ⟨v, rfl, hq⟩ := hr'
  ksp_lk
  exact hq

theorem ne_K {b tb : Value} {Q : Value → Shared → Prop} (hu : A.units + 1 < cLine) (F : Fr h₀ L s.heap m) (X₀ : K.In h₀) (I : InstAt s.heap x ox C od) (hb : Looks (model prog w) s.heap (typeOf b) tb) (hn : notFirst K C tb = true)
    (hne : findIn K (.ref C) "__ne__" = some (some (.builtin "object.__ne__"))) (hob : subIn K (.ref C) (.type "object") = some true)
    (hs : findIn K (.ref C) "__eq__" = some (some (.ref f))) (hf : isFn K (.ref f) = true)
    (h : wpAny (model prog w) A.in1 (call (.ref f) [.ref x, b]) (fun v s' => ∃ r, v = .bool r ∧ Q (.bool (!r)) s') E s) : wpAny (model prog w) A (richCompare .NotEq (.ref x) b) Q E s := by
  have X := X₀.keeps F.keep
  have hu0 : A.units < cLine := Nat.lt_of_succ_lt hu
  have one : wpAny (model prog w) A (tryCompare (.ref x) "__ne__" b) (fun r s' => ∃ v, r = some v ∧ Q v s') E s := by
    unfold tryCompare
    refine wpAny_bind ?_
    simp only [callSpecialIfBound?, bindSpecialIfBound?]
    refine wpAny_holding (wpAny_bind (wpAny_bind (wpAny_bind (I.type.here ((looks_findIn X hne).here ?_)))))
    refine wpAny_bind (wpAny_askSetting (wpAny_ite ?_))
    have body : wpAny (model prog w) A (call (.builtin "object.__ne__") [.ref x, b]) (fun v s' => (∃ r, v = .bool r) ∧ Q v s') E s := by
      refine wpAny_call (codeAny_call_builtin PySem.F.cmp_object.ne.plain PySem.F.cmpEntry_ne (check_slot PySem.F.cmpKind_ne PySem.F.cmpSplit_ne (I.type.andThen (looks_subIn X hob)) (PySem.F.cmpArgs_ne _ _) ?_))
      unfold Builtin.«object.__ne__»
      have eq1 : wpAny (model prog w) A.in1 (callSpecialIfBound? (.ref x) "__eq__" [b]) (fun v s' => ∃ r, v = some (.bool r) ∧ Q (.bool (!r)) s') E s :=
        ifBound_K X I hs hf (wpAny_mono h (fun v s' hv => by obtain ⟨r, rfl, hq⟩ := hv; exact ⟨r, rfl, hq⟩) fun _ _ e => e)
      repeat (first
        | with_reducible refine wpAny_cRoomFor hu ?_
        | (refine wpAny_bind (m := callSpecialIfBound? (.ref x) (Str.ofString "__eq__") [b]) (wpAny_mono eq1 (fun r s' hr => by
            obtain ⟨r, rfl, hq⟩ := hr
            repeat (first | exact ⟨⟨_, rfl⟩, hq⟩ | exact wpAny_pure ⟨⟨_, rfl⟩, hq⟩ | (refine wpAny_bind (m := truthy (.bool _)) (wpAny_truthy_bool ?_)) | wp_step)) fun _ _ e => e))
        | wp_step)
    have fin : wpAny (model prog w) A (call (.builtin "object.__ne__") ([.ref x] ++ [b]) >>= fun v => pure (some v)) (fun a s' => wpAny (model prog w) A (match a with
      | some .notImplemented | none => pure none
      | some v => pure (some v)) (fun r s' => ∃ v, r = some v ∧ Q v s') E s') E s := by
      refine wpAny_bind (wpAny_mono body (fun v s' hv => wpAny_pure ?_) fun _ _ e => e)
      obtain ⟨⟨r, rfl⟩, hq⟩ := hv
      exact wpAny_pure ⟨_, rfl, hq⟩
    have bd : bindSpecial (.builtin "object.__ne__") (.ref x) = pure (.builtin "object.__ne__", [.ref x]) := PySem.F.cmp_object.ne.bind (.ref x)
    split
    · exact wpAny_bind (by rw [bd]; exact wpAny_pure (wpAny_pure (by exact fin)))
    · exact wpAny_tryCatch (wpAny_bind (by rw [bd]; exact wpAny_pure (wpAny_pure (by exact fin))))
  unfold richCompare
  simp only [oneThing_ref]
  refine wpAny_holding (wpAny_bind (wpAny_cRoomFor hu0 ?_))
  rw [PySem.cmpInfo_NotEq]
  dsimp only
  refine wpAny_bind (I.type.here (wpAny_bind (hb.here ?_)))
  split
  · rename_i q
    have e : subIn K tb (.ref C) = some false := by
      rcases Bool.or_eq_true_iff.mp hn with e | e
      · rw [beq_iff_eq.mp e] at q; simp at q
      · exact beq_iff_eq.mp e
    refine wpAny_bind ((looks_subIn X e).here ?_)
    simp only [Bool.false_eq_true, if_false]
    refine wpAny_bind (wpAny_mono one (fun r s' z => ?_) fun _ _ e => e)
    obtain ⟨v, rfl, hq⟩ := z
    exact wpAny_pure hq
  · refine wpAny_bind (wpAny_pure ?_)
    simp only [Bool.false_eq_true, if_false]
    refine wpAny_bind (wpAny_mono one (fun r s' z => ?_) fun _ _ e => e)
    obtain ⟨v, rfl, hq⟩ := z
    exact wpAny_pure hq
end
end RX
end
section
set_option maxRecDepth 100000
set_option maxHeartbeats 4000000
/-! own special methods over the hand layer -/
namespace RX
open PySem PySem.Spec PyProof.Rows L2
section
variable {X : Cx} {CX : CXT} {k : Nat} {f C : Addr} {fd : FuncData} {ps : List Str} {sp : Sp} {E : XK}
/-- the callee runs, somewhere below this body -/
theorem run_at {A : Around} {pins : List (Addr × Obj)} {σ : L2.St} {H : Hp} {s : Shared} {Q : VK} {us : List Value} {vs : List V} (F : FnOk X.prog X.w X.K X.mg X.base CX k f fd ps sp) (hr : Room k A) (hfr : A.frames = X.A.frames) (hb : Binds X.K fd ps []) (hx : Passes CX X E)
    (I : Inv X pins σ H s) (r : Vals vs us) (h : sp vs H Q E) : wpAny (model X.prog X.w) A (call (.ref f) us) (EP X pins σ Q) X.xe s := by
  have e0 : Env0 X.prog X.w X.K X.mg X.base A X.stack s H := by
    have e := I.env0
    exact ⟨by rw [hfr]; exact e.frames, e.mod, e.bs, e.bsz, e.funs, e.frf, e.hok, e.bare⟩
  have hl := F.len _ _ _ _ h
  have hlu : us.length = ps.length := by rw [← r.length]; exact hl
  refine wpAny_call (codeAny_mono (F.run A X.stack s H ⟨us, []⟩ us vs Q E hr e0 (by
    have := hb s us I.kIn (by simpa using hlu)
    simpa using this) r h) fun r s' hq => ?_)
  cases r with
  | error e => exact hx pins σ H s e s' I hq
  | ok fl =>
    cases fl with
    | ret u => exact I.after hq
    | next => exact False.elim hq
    | brk => exact False.elim hq
    | cont => exact False.elim hq
theorem ins_look {pins : List (Addr × Obj)} {σ : L2.St} {H : Hp} {s : Shared} {a dx : Addr} {fs : List (Str × V)} (I : Inv X pins σ H s) (h : H a = some (.ins C dx fs)) : ∃ od, PySem.W.InstAt s.heap a (PySem.W.instObj C dx) C (some od) := by
  obtain ⟨mA, J, _⟩ := ins_get I.hok h
  obtain ⟨od, J, _⟩ := J.look
  exact ⟨od, J⟩
/-- x == y by the own __eq__, both instances of C -/
def rOwn2 (C : Addr) (sp : Sp) (E : XK) (g : Bool → Bool) : R2 := fun x y H Q => ∃ a dx fs b dy gs, x = .ref a ∧ y = .ref b ∧ H a = some (.ins C dx fs) ∧ H b = some (.ins C dy gs) ∧
  sp [.ref a, .ref b] H (fun v H' => ∃ k, v = .bl k ∧ Q (.bl (g k)) H') E
theorem op_eqOwn (F : FnOk X.prog X.w X.K X.mg X.base CX k f fd ps sp) (hr : Room k X.A) (hb : Binds X.K fd ps []) (hx : Passes CX X E)
    (hs : PySem.W.findIn X.K (.ref C) "__eq__" = some (some (.ref f))) (hf : PySem.W.isFn X.K (.ref f) = true) : OpR X (compareOp .Eq) (rOwn2 C sp E id) := by
  intro pins s σ H x y v u Q I rx ry h
  obtain ⟨a, dx, fs, b, dy, gs, rfl, rfl, ha, hb', h⟩ := h
  cases rx
  cases ry
  obtain ⟨od, J⟩ := ins_look I ha
  obtain ⟨od', J'⟩ := ins_look I hb'
  obtain ⟨m, hF⟩ := I.fr
  show wpAny (model X.prog X.w) X.A (richCompare .Eq (.ref a) (.ref b)) (EP X pins σ Q) X.xe s
  refine PySem.W.cmp_K (op := .Eq) (tb := .ref C) hr.units0 hF I.ok.mod.kin J J'.type (by simp [PySem.W.notFirst]) hs hf ?_
  refine wpAny_mono (run_at (vs := [V.ref a, V.ref b]) F hr rfl hb hx I (.cons rfl (.cons rfl .nil)) h) (fun r s' q => ?_) fun _ _ e => e
  obtain ⟨v, H', I', rv, k, rfl, q⟩ := q
  cases rv
  exact ⟨.bl k, H', I', rfl, q⟩
theorem op_neOwn (F : FnOk X.prog X.w X.K X.mg X.base CX k f fd ps sp) (hr : Room (k + 1) X.A) (hb : Binds X.K fd ps []) (hx : Passes CX X E)
    (hs : PySem.W.findIn X.K (.ref C) "__eq__" = some (some (.ref f))) (hf : PySem.W.isFn X.K (.ref f) = true)
    (hne : PySem.W.findIn X.K (.ref C) "__ne__" = some (some (.builtin "object.__ne__"))) (hob : PySem.W.subIn X.K (.ref C) (.type "object") = some true) : OpR X (compareOp .NotEq) (rOwn2 C sp E not) := by
  intro pins s σ H x y v u Q I rx ry h
  obtain ⟨a, dx, fs, b, dy, gs, rfl, rfl, ha, hb', h⟩ := h
  cases rx
  cases ry
  obtain ⟨od, J⟩ := ins_look I ha
  obtain ⟨od', J'⟩ := ins_look I hb'
  obtain ⟨m, hF⟩ := I.fr
  show wpAny (model X.prog X.w) X.A (richCompare .NotEq (.ref a) (.ref b)) (EP X pins σ Q) X.xe s
  refine ne_K (tb := .ref C) (hu_of hr) hF I.ok.mod.kin J J'.type (by simp [PySem.W.notFirst]) hne hob hs hf ?_
  refine wpAny_mono (run_at (A := X.A.in1) (vs := [V.ref a, V.ref b]) F hr.in1 rfl hb hx I (.cons rfl (.cons rfl .nil)) h) (fun r s' q => ?_) fun _ _ e => e
  obtain ⟨v, H', I', rv, k, rfl, q⟩ := q
  cases rv
  exact ⟨k, rfl, .bl (!k), H', I', rfl, q⟩
/-- repr(x) by the own __repr__ -/
def rReprOwn (C : Addr) (sp : Sp) (E : XK) : List V → Hp → VK → Prop := fun xs H Q => ∃ a dx fs, xs = [.ref a] ∧ H a = some (.ins C dx fs) ∧ sp [.ref a] H (fun v H' => ∃ z, v = .str z ∧ Q (.str z) H') E
theorem call_reprOwn (F : FnOk X.prog X.w X.K X.mg X.base CX k f fd ps sp) (hr : Room (k + 1) X.A) (hb : Binds X.K fd ps []) (hx : Passes CX X E)
    (hs : PySem.W.findIn X.K (.ref C) "__repr__" = some (some (.ref f))) (hf : PySem.W.isFn X.K (.ref f) = true) : CallR X (.builtin "repr") (rReprOwn C sp E) := by
  intro pins s σ H xs us Q I r h
  obtain ⟨a, dx, fs, rfl, ha, h⟩ := h
  obtain ⟨u, rfl, ru⟩ := vals1 r
  cases ru
  obtain ⟨od, J⟩ := ins_look I ha
  obtain ⟨m, hF⟩ := I.fr
  refine PySem.W.repr_K hr.in1.units0 hF I.ok.mod.kin J hs hf ?_
  refine wpAny_mono (run_at (A := X.A.in1) (vs := [V.ref a]) F hr.in1 rfl hb hx I (.cons rfl .nil) h) (fun r s' q => ?_) fun _ _ e => e
  obtain ⟨v, H', I', rv, z, rfl, q⟩ := q
  obtain ⟨t, rfl⟩ := rv
  exact ⟨.str z, H', I', ⟨t, rfl⟩, q⟩
/-- x[i] by the own __getitem__ -/
def rItemOwn (C : Addr) (sp : Sp) (E : XK) : R2 := fun x y H Q => ∃ a dx fs, x = .ref a ∧ H a = some (.ins C dx fs) ∧ sp [.ref a, y] H Q E
theorem pe_itemOwn {a b : Expr} {ta tb : TE} {pos : Pos} (F : FnOk X.prog X.w X.K X.mg X.base CX k f fd ps sp) (hr : Room (k + 1) X.A) (hb : Binds X.K fd ps []) (hx : Passes CX X E)
    (hs : PySem.W.findIn X.K (.ref C) "__getitem__" = some (some (.ref f))) (hf : PySem.W.isFn X.K (.ref f) = true) (hfn : PySem.W.fnIn X.K f = true) (pa : PE X a ta) (pb : PE X b tb)
    (hsl : ∀ x i, subscripted b true (.ref x) i = runValue (.builtin "lifetime.subscript" ⟨[.ref x, i], []⟩) := by intro _ _; with_unfolding_all rfl) : PE X (.Subscript a b pos) (tOp (rItemOwn C sp E) ta tb) := by
  refine ⟨fun pins s σ H Q I h => ?_⟩
  refine Subscript_ (binT pa pb I h fun v u s2 x y H2 I2 rx ry q => ?_)
  obtain ⟨a', dx, fs, rfl, ha, h⟩ := q
  cases rx
  obtain ⟨od, J⟩ := ins_look I2 ha
  obtain ⟨m, hF⟩ := I2.fr
  exact PySem.W.sub_K hF I2.ok.mod.kin J hs hfn hf (run_at (A := X.A.in1) (vs := [V.ref a', y]) F hr.in1 rfl hb hx I2 (.cons rfl (.cons ry .nil)) h) (hsl _ _)
/-- v in x by the own __contains__ -/
def rInOwn (C : Addr) (sp : Sp) (E : XK) (g : Bool → Bool) : R2 := fun y x H Q => ∃ a dx fs, x = .ref a ∧ H a = some (.ins C dx fs) ∧ sp [.ref a, y] H (fun v H' => ∃ k, v = .bl k ∧ Q (.bl (g k)) H') E
theorem op_inOwn (F : FnOk X.prog X.w X.K X.mg X.base CX k f fd ps sp) (hr : Room k X.A) (hb : Binds X.K fd ps []) (hx : Passes CX X E)
    (hs : PySem.W.findIn X.K (.ref C) "__contains__" = some (some (.ref f))) (hf : PySem.W.isFn X.K (.ref f) = true) : OpR X (compareOp .In) (rInOwn C sp E id) := by
  intro pins s σ H y x u v Q I ry rx h
  obtain ⟨a, dx, fs, rfl, ha, h⟩ := h
  cases rx
  obtain ⟨od, J⟩ := ins_look I ha
  obtain ⟨m, hF⟩ := I.fr
  refine PySem.W.in_K hF I.ok.mod.kin J hs hf (wpAny_mono (run_at (vs := [V.ref a, y]) F hr rfl hb hx I (.cons rfl (.cons ry .nil)) h) (fun r s' q => ?_) fun _ _ e => e)
  obtain ⟨v, H', I', rv, k, rfl, q⟩ := q
  cases rv
  exact wpAny_truthy_bool ⟨.bl k, H', I', rfl, q⟩
theorem op_notInOwn (F : FnOk X.prog X.w X.K X.mg X.base CX k f fd ps sp) (hr : Room k X.A) (hb : Binds X.K fd ps []) (hx : Passes CX X E)
    (hs : PySem.W.findIn X.K (.ref C) "__contains__" = some (some (.ref f))) (hf : PySem.W.isFn X.K (.ref f) = true) : OpR X (compareOp .NotIn) (rInOwn C sp E not) := by
  intro pins s σ H y x u v Q I ry rx h
  obtain ⟨a, dx, fs, rfl, ha, h⟩ := h
  cases rx
  obtain ⟨od, J⟩ := ins_look I ha
  obtain ⟨m, hF⟩ := I.fr
  refine PySem.W.notIn_K hF I.ok.mod.kin J hs hf (wpAny_mono (run_at (vs := [V.ref a, y]) F hr rfl hb hx I (.cons rfl (.cons ry .nil)) h) (fun r s' q => ?_) fun _ _ e => e)
  obtain ⟨v, H', I', rv, k, rfl, q⟩ := q
  cases rv
  exact wpAny_truthy_bool ⟨.bl (!k), H', I', rfl, q⟩
/-- text + x by the own __radd__ -/
def rRaddOwn (C : Addr) (sp : Sp) (E : XK) : R2 := fun y x H Q => ∃ t a dx fs, y = tx t ∧ x = .ref a ∧ H a = some (.ins C dx fs) ∧ sp [.ref a, tx t] H Q E
theorem op_raddOwn (F : FnOk X.prog X.w X.K X.mg X.base CX k f fd ps sp) (hr : Room k X.A) (hb : Binds X.K fd ps []) (hx : Passes CX X E) (hc : PySem.W.selfFirst X.K C = true)
    (hn : PySem.W.findIn X.K (.ref C) (PySem.dunder "add") = some none) (hs : PySem.W.findIn X.K (.ref C) (dunderR "add") = some (some (.ref f))) (hf : PySem.W.isFn X.K (.ref f) = true) : OpR X (binaryOp .Add) (rRaddOwn C sp E) := by
  intro pins s σ H y x u v Q I ry rx h
  obtain ⟨t, a, dx, fs, rfl, rfl, ha, h⟩ := h
  cases rx
  obtain ⟨tk, rfl⟩ := (show ∃ tk, u = Value.str (stx t) tk from ry)
  obtain ⟨od, J⟩ := ins_look I ha
  obtain ⟨m, hF⟩ := I.fr
  refine radd_K hF I.ok.mod.kin J hc hn hs hf (wpAny_mono (run_at (vs := [V.ref a, tx t]) F hr rfl hb hx I (.cons rfl (.cons ⟨tk, rfl⟩ .nil)) h) (fun r s' q => ?_) fun _ _ e => e)
  obtain ⟨v, H', I', rv, q⟩ := id q
  cases r <;> first | exact q | (cases v <;> first | exact ⟨_, H', I', rv, q⟩ | (obtain ⟨_, z⟩ := rv; cases z) | cases rv)
/-- o.m(e, .., k = v, ..) -/
def tMethK (C : Addr) (m : Str) (sp : Sp) (gV : List V → List V → List V) (E : XK) (ta : TE) (tk : TA) : TE := fun σ H Q => ta σ H fun x H1 => ∃ a dx fs, x = .ref a ∧ H1 a = some (.ins C dx fs) ∧ fs.lookup m = none ∧
  tk σ H1 fun zs H2 => sp (gV [x] zs) H2 Q E
end
end RX
end
section
set_option maxRecDepth 100000
set_option maxHeartbeats 4000000
/-! defs that are run where no repr is under way (A.guards = some []): their promise, their call, the law's end; repr of data -/
namespace RX
open PySem PySem.Spec PyProof.Rows L2

/-- as the layer's promise of a def, for callers around which no repr runs -/
structure GOk (P : Program) (w : World) (K : PySem.W.Frag) (mg : Str → Option Value) (base : Heap) (k : Nat) (f : Addr) (fd : FuncData) (ps : List Str) (sp : Sp) : Prop where
  len : ∀ vs H Q E, sp vs H Q E → vs.length = ps.length
  run : ∀ (A : Around) (outer : List Env) (s : Shared) (H : Hp) (args : Args) (us : List Value) (vs : List V) (Q : VK), A.guards = some [] → Room k A → Env0 P w K mg base A outer s H → BindsTo s fd args (ps.zip us) → Vals vs us → sp vs H Q E0 →
    codeAny (model P w) A (.call (.ref f) args) (CR CX0 outer P w H s Q E0) s
section
variable {P : Program} {w : World} {K : PySem.W.Frag} {mg : Str → Option Value} {base : Heap}
theorem GOk.of {k : Nat} {f : Addr} {fd : FuncData} {ps : List Str} {sp : Sp} (F : FnOk P w K mg base CX0 k f fd ps sp) : GOk P w K mg base k f fd ps sp :=
  ⟨F.len, fun A outer s H args us vs Q _ hr e0 hb r h => F.run A outer s H args us vs Q E0 hr e0 hb r h⟩
/-- a def of the text, by its body; the body knows that no repr runs around it -/
theorem fun_okG {x qual : Str} {st : Stmt} {f : Addr} {fd : FuncData} {N ps : List Str} {k : Nat} {sp : Sp} (F : Fun K x qual st f fd) (S : FnScope N ps (defScope st)) (len : ∀ vs H Q E, sp vs H Q E → vs.length = ps.length)
    (hbody : ∀ (cdv : Value) (A : Around) (outer : List Env) (s : Shared) (H : Hp) (vs : List V) (Q : VK), A.guards = some [] → Room k (A.deeper (envOfC qual (defScope st) s.heap.objs.size f cdv)) → sp vs H Q E0 →
      ∃ t, PSs (cxOf CX0 P w K mg base N qual (defScope st) f cdv A outer s H E0).nox (defBody st) t ∧ t { nx := fun _ H' => Q .non H', rt := Q } (start N vs) H) : GOk P w K mg base (k + 1) f fd ps sp := by
  obtain ⟨oc, od, kV, doc, pm, an, cdv, ct, osl, rfl, lk, hcd⟩ := F.ex
  refine ⟨len, fun A outer s H args us vs Q hgd hr e0 hb r hsp => ?_⟩
  have keepB : ∀ b o, base.get? b = some o → s.heap.get? b = some o := fun b o e => (e0.bs b o e).1
  have inS : K.In s.heap := e0.mod.kin.keeps keepB
  have kinds : ∀ y ∈ ps.zip us, (defScope st).names.lookup y.1 = some .local ∨ ((defScope st).names.lookup y.1 = some .cell ∧ ((cellsFrom (s.heap.objs.size + 1) (defScope st).names []).lookup y.1).isSome = true) := by
    rintro ⟨n, v⟩ hy
    cases S.par n (List.of_mem_zip hy).1 with
    | inl q => exact .inl q
    | inr q => exact .inr ⟨q, PySem.W.cellsFrom_some _ _ _ (.inl q)⟩
  apply codeAny_call_function hr.depth (inS _ _ lk) rfl S.co S.gen rfl (PySem.W.codeRec_of inS hcd)
  apply hb
  apply wpAny_newFunctionEnv_cells S.kind kinds
  intro env he s1 x
  subst he
  refine ⟨(e0.mod.nolimit.keeps keepB).keeps x.toInCall.keep, codeAny_func ?_⟩
  obtain ⟨t, ht, hq⟩ := hbody cdv A outer s H vs Q hgd (hr.deeper _) hsp
  have I := inv_start (CX := CX0) (P := P) (w := w) (K := K) (mg := mg) (base := base) (E := E0) S hr.hd e0 (len _ _ _ _ hsp) r x
  refine wpAny_mono (ht.nox.run [] s1 (start N vs) H _ I hq) ?_ fun _ _ z => z
  intro fl s' hs
  cases fl with
  | ret u =>
    obtain ⟨v, σ', H', J, rv, q⟩ := hs
    exact ⟨v, H', J.os, J.bare, J.base, J.hok, rv, q⟩
  | next =>
    obtain ⟨σ', H', J, q⟩ := hs
    exact ⟨V.non, H', J.os, J.bare, J.base, J.hok, rfl, q⟩
  | brk => exact (let ⟨_, _, _, q⟩ := hs; False.elim q)
  | cont => exact (let ⟨_, _, _, q⟩ := hs; False.elim q)
end
section
variable {X : Cx} {k : Nat} {f : Addr} {fd : FuncData} {ps : List Str} {sp : Sp} {x : Str} {p pos : Pos} {e : Expr} {es : List Expr} {t : TA}
/-- f(e, ..) of such a def -/
theorem pe_callG (F : GOk X.prog X.w X.K X.mg X.base k f fd ps sp) (hgd : X.A.guards = some []) (hr : Room k X.A) (hg : Gl X x) (hm : X.mg x = some (.ref f)) (hk : PySem.W.keepIn X.K (.ref f) = true) (hb : Binds X.K fd ps [])
    (ha : PA X (e :: es) t) (hdb : (x == ("__debug__" : Str)) = false := by decide) (he : starEach (e :: es) X.env = (false, eval e X.env) :: starEach es X.env := by rfl) (hpl : (backTo pos (starEach es X.env)).any (·.1) = false := by rfl) :
    PE X (.Call (.Name x p) (e :: es) [] pos) (tCall sp [] E0 t) := by
  refine ⟨fun pins s σ H Q I h => wpAny_Call_Name_kw (ld_glob I hg hm ?_ hdb)⟩
  refine PySem.W.callWith_K (h₀ := X.base) I.ok.mod.kin hk (thn (ha.run pos pins s σ H _ I h) ?_) he hpl
  rintro us s1 ⟨vs, H1, I1, r, q⟩
  refine ⟨I1.kIn, ?_⟩
  have q : sp (vs ++ []) H1 Q E0 := q
  rw [List.append_nil] at q
  have hl : us.length = ps.length := by rw [← r.length]; exact F.len _ _ _ _ q
  refine wpAny_call (codeAny_mono (F.run X.A X.stack s1 H1 ⟨us, []⟩ us vs Q hgd hr I1.env0 (by
    have b := hb s1 us I1.kIn (by rw [List.append_nil]; exact hl)
    rw [List.append_nil] at b
    exact b) r q) ?_)
  intro r' s' hq
  cases r' with
  | error e => exact False.elim hq
  | ok fl =>
    cases fl with
    | ret u => exact I1.after hq
    | next => exact False.elim hq
    | brk => exact False.elim hq
    | cont => exact False.elim hq
/-! ### repr -/
/-- repr(x), x a list or a tuple of data -/
def rReprD (K : PySem.W.Frag) : List V → Hp → VK → Prop := fun xs H Q => ∃ a d, xs = [.ref a] ∧ Dp K H (.ref a) d ∧ d.showable = true ∧ d.hasDict = false ∧ d.depth ≤ 20 ∧ d.shown.length ≤ sizeLine ∧ Q (.str d.shown) H
theorem call_reprD {k : Nat} (hgd : X.A.guards = some []) (hr : Room k X.A) : CallR X (.builtin "repr") (rReprD X.K) := by
  intro pins s σ H xs us Q I r h
  obtain ⟨a, d, rfl, hd, h1, h2, h3, h4, q⟩ := h
  obtain ⟨u, rfl, ru⟩ := vals1 r
  cases ru
  obtain ⟨as, hR⟩ := hd.reads I d (.ref a) (.ref a) rfl
  have hu := hr.units
  refine repr_of_reads' hR h1 (fun z => by rw [h2] at z; cases z) hgd (by omega) (fun _ _ e => e) (fun h' u tk hk => ?_) h4
  exact ⟨.str d.shown, H, I.kept hk, ⟨_, rfl⟩, q⟩
/-- repr(x), x any data -/
def rReprA (K : PySem.W.Frag) : List V → Hp → VK → Prop := fun xs H Q => ∃ v d, xs = [v] ∧ Dp K H v d ∧ d.showable = true ∧ d.hasDict = false ∧ d.depth ≤ 20 ∧ d.shown.length ≤ sizeLine ∧ Q (.str d.shown) H
theorem call_reprA {k : Nat} (hgd : X.A.guards = some []) (hr : Room k X.A) : CallR X (.builtin "repr") (rReprA X.K) := by
  intro pins s σ H xs us Q I r h
  obtain ⟨v, d, rfl, hd, h1, h2, h3, h4, q⟩ := h
  cases hd with
  | non =>
    obtain ⟨u, rfl, ru⟩ := vals1 r
    cases ru
    exact PySem.P.repr_of_none ⟨.str _, H, I.tok _, ⟨_, rfl⟩, q⟩
  | bl b =>
    obtain ⟨u, rfl, ru⟩ := vals1 r
    cases ru
    refine PySem.P.repr_of_bool ⟨.str _, H, I.tok _, ⟨_, rfl⟩, ?_⟩
    cases b <;> exact q
  | int i =>
    obtain ⟨u, rfl, tk, rfl⟩ := vals1 r
    exact PySem.P.repr_of_int (by simpa [PyData.showable] using h1) ⟨.str _, H, I.tok _, ⟨_, rfl⟩, q⟩
  | str x =>
    obtain ⟨u, rfl, tk, rfl⟩ := vals1 r
    exact PySem.P.repr_of_str ⟨.str _, H, I.tok _, ⟨_, rfl⟩, q⟩ h4
  | lst hs hA => exact call_reprD hgd hr pins s σ H _ us Q I r ⟨_, _, rfl, .lst hs hA, h1, h2, h3, h4, q⟩
  | tup hs hA => exact call_reprD hgd hr pins s σ H _ us Q I r ⟨_, _, rfl, .tup hs hA, h1, h2, h3, h4, q⟩
end
end RX
end
section
set_option maxRecDepth 100000
set_option maxHeartbeats 4000000
/-! the law's end for a def that is run where no repr is under way; repr of a list of own instances -/
namespace RX
open PySem PySem.Spec PyProof.Rows L2

/-- the law's call, from an abstract heap that tracks the script alone (or nothing) -/
theorem law_core {P : Program} {w : World} {K : PySem.W.Frag} {mg mb : Str → Option Value} {k : Nat} {fa a : Addr} {fd : FuncData} {x : Str} {sp : Sp} {s : Shared} {vs : List Value} {ns : List Int} {H : Hp}
    (KX : K.In s.heap) (hns : s.heap.Ns mainGlobals mg) (hb : s.heap.Ns builtinsNs mb) (hbb : ∀ x : Str, x ≠ "__name__" → mb x = bootBuiltins x) (hlim : s.heap.NoLimit) (hg : s.gens = #[])
    (ha : s.heap.get? a = some { cls := .type "list", data := .seq vs.toArray }) (hr : Room k callerA)
    (F : ∀ base : Heap, K.In base → base.Ns mainGlobals mg → GOk P w K mg base k fa fd [x] sp) (hbind : ∀ (s : Shared) (u : Value), BindsTo s fd ⟨[u], []⟩ [(x, u)])
    (hsp : sp [.ref a] H (fun v _ => v = .bl true) E0) (hO : Only H) (hok : HOk P w H s.heap) (hA : ∀ b, H b ≠ none → b = a) (hK : H a ≠ none → K.lookup a = none) :
    codeAny (model P w) callerA (.call (.ref fa) ⟨[.ref a], []⟩) (fun r s' => r = .ok (.ret (.bool true)) ∧ OldK s.heap s'.heap ∧ s'.os = s.os ∧ AllBare s'.gens) s := by
  have free : ∀ {b : Addr} {o : Obj} {es : Array DictEntry} {ep : Nat}, s.heap.get? b = some o → o.data = .dict es ep → H b = none := by
    intro b o es ep e d
    apply Classical.byContradiction
    intro q
    have e' := hA b q
    subst e'
    rw [ha] at e
    cases e
    cases (show Data.seq vs.toArray _ = Data.dict es ep from d)
  have ns' : ∀ {b : Addr} {m : Str → Option Value}, s.heap.Ns b m → (hidT s.heap H).Ns b m := by
    rintro b m ⟨o, es, ep, e, d, r⟩
    exact ⟨o, es, ep, hidT_get e (free e d), d, r⟩
  have kin : K.In (hidT s.heap H) := by
    intro b o e
    refine hidT_get (KX b o e) (Classical.byContradiction fun q => ?_)
    have e' := hA b q
    subst e'
    rw [hK q] at e
    cases e
  obtain ⟨mc, l1, l2⟩ := hlim
  have e0 : Env0 P w K mg (hidT s.heap H) callerA [] s H :=
    ⟨rfl, ⟨kin, ns' hns, ⟨mb, ns' hb, hbb⟩, ⟨mc, ns' l1, l2⟩⟩, fun b o e => of_hidT e, Nat.le_of_eq (hidT_size _ _), trivial, fun b hb => absurd (show b ∈ ([] : List Addr) from hb) (by simp), hok, .of_eq hg⟩
  refine codeAny_mono ((F _ kin (ns' hns)).run callerA [] s H ⟨[.ref a], []⟩ [.ref a] [.ref a] _ rfl hr e0 (hbind s (.ref a)) (.cons rfl .nil) hsp) ?_
  intro r s' h
  cases r with
  | error e => exact False.elim h
  | ok fl =>
    cases fl with
    | next => exact False.elim h
    | brk => exact False.elim h
    | cont => exact False.elim h
    | ret u =>
      obtain ⟨v, H', os, bare, un, hok', r', q⟩ := h
      cases (show v = .bl true from q)
      cases (show u = Value.bool true from r')
      refine ⟨rfl, OldK.of_keep fun b o e => ?_, os, bare⟩
      rcases hO b with z | ⟨ob, xs, z⟩
      · exact un.keep b o e z (fun y => absurd (show b ∈ ([] : List Addr) from y) (by simp)) (by simp)
      · have e1 := (hok b _ z).1
        rw [e] at e1
        cases e1
        exact (hok' b _ (un.frzs b _ _ z)).1
theorem law_runG {P : Program} {w : World} {K : PySem.W.Frag} {mg mb : Str → Option Value} {k : Nat} {fa a : Addr} {fd : FuncData} {x : Str} {sp : Sp} {s : Shared} {vs : List Value} {ns : List Int}
    (KX : K.In s.heap) (hns : s.heap.Ns mainGlobals mg) (hb : s.heap.Ns builtinsNs mb) (hbb : ∀ x : Str, x ≠ "__name__" → mb x = bootBuiltins x) (hlim : s.heap.NoLimit) (hg : s.gens = #[])
    (ha : s.heap.get? a = some { cls := .type "list", data := .seq vs.toArray }) (hi : IntsAre vs ns) (hl : ns.length ≤ sizeLine) (hr : Room k callerA)
    (F : ∀ base : Heap, K.In base → base.Ns mainGlobals mg → GOk P w K mg base k fa fd [x] sp) (hbind : ∀ (s : Shared) (u : Value), BindsTo s fd ⟨[u], []⟩ [(x, u)])
    (hsp : ∀ H : Hp, Only H → SqL K H a (ns.map V.int) → sp [.ref a] H (fun v _ => v = .bl true) E0) :
    codeAny (model P w) callerA (.call (.ref fa) ⟨[.ref a], []⟩) (fun r s' => r = .ok (.ret (.bool true)) ∧ OldK s.heap s'.heap ∧ s'.os = s.os ∧ AllBare s'.gens) s := by
  have rv := vals_ints hi
  have lenV := hi.length
  cases hk : K.lookup a with
  | some o =>
    have e := KX a o hk
    rw [ha] at e
    cases e
    have O : Only (fun _ => none) := fun _ => .inl rfl
    exact law_core (vs := vs) (ns := ns) (H := fun _ => none) KX hns hb hbb hlim hg ha hr F hbind
      (hsp _ O (.inr ⟨_, vs.toArray, _, hk, rfl, rfl, rfl, by rw [List.size_toArray, lenV]; exact hl, by simpa using rv⟩)) O (fun b u z => nomatch z) (fun b z => absurd rfl z) fun z => absurd rfl z
  | none =>
    have O : Only (fun b => if b = a then some (.frz { cls := .type "list", data := .seq vs.toArray } (.lst (ns.map V.int))) else none) := by
      intro b
      by_cases hb : b = a
      · exact .inr ⟨_, _, if_pos hb⟩
      · exact .inl (if_neg hb)
    refine law_core (vs := vs) (ns := ns) (H := fun b => if b = a then some (.frz { cls := .type "list", data := .seq vs.toArray } (.lst (ns.map V.int))) else none) KX hns hb hbb hlim hg ha hr F hbind
      (hsp _ O (.inl (.inr ⟨{ cls := .type "list", data := .seq vs.toArray }, if_pos rfl⟩))) O ?_ ?_ fun _ => hk
    · intro b u z
      by_cases hb : b = a
      · cases (if_pos hb).symm.trans z
        subst hb
        exact ⟨ha, by rw [List.length_map]; exact hl, vs, _, rv, ha⟩
      · cases (if_neg hb).symm.trans z
    · intro b z
      apply Classical.byContradiction
      intro hb
      exact z (if_neg hb)
/-- the goal that the head leaves, from the law's promise -/
theorem walk_G {l : PySem.W.OpenLaw} {n k : Nat} {q : Program} {loose : List Str} {XP : (Str → Option Value) → Heap → Prop} {YP : World → Heap → Prop} {d : DefRec} {K : Params → PySem.W.Frag} {sp : PySem.W.Frag → Sp} {x : Str}
    (hn : l.most = some n) (hn2 : n ≤ sizeLine) (hdf : d.params.defaults = []) (hr : Room k callerA) (hY : ∀ (w : World) (h : Heap), YP w h → (K w.params).In h)
    (F : ∀ (w : World) (mg : Str → Option Value) (fa : Addr) (h : Heap), (K w.params).In h → h.Ns mainGlobals mg → mg d.name = some (.ref fa) →
      ∃ fd : FuncData, (∀ (s : Shared) (u : Value), BindsTo s fd ⟨[u], []⟩ [(x, u)]) ∧ ∀ base : Heap, (K w.params).In base → base.Ns mainGlobals mg → GOk l.prog w (K w.params) mg base k fa fd [x] (sp (K w.params)))
    (hsp : ∀ (K : PySem.W.Frag) (H : Hp) (a : Addr) (ns : List Int), ns.length ≤ n → Only H → SqL K H a (ns.map V.int) → sp K [.ref a] H (fun v _ => v = .bl true) E0) :
    PySem.W.WalkO q loose XP YP l.row.toRowW d [] (fun f vs => PySem.call f vs) := by
  apply Att.attach_call hn hdf
  intro w s₀ s₁ mg mb fa o pm cd doc a vs ns G Y ho hd hcd hmg hobj hints hlen hg
  obtain ⟨fd, hb, hF⟩ := F w mg fa _ (hY w _ Y) G.T.g hmg
  exact law_runG (hY w _ Y) G.T.g G.T.b G.T.builtins G.T.nolimit hg hobj hints (Nat.le_trans hlen hn2) hr hF hb fun H hO hS => hsp _ H a ns hlen hO hS
end RX
end
section
set_option maxRecDepth 100000
set_option maxHeartbeats 4000000
/-! repr of a list of own instances -/
namespace RX
open PySem PySem.Spec PyProof.Rows L2

theorem under_loop_frames (A : Around) (args : Args) : (A.under (.builtin "list.__repr__.loop" args)).frames = A.frames := by
  simp [Around.under, Code.envs, Code.isFrame, pushEnvs]
theorem under_loop_room {A : Around} {k : Nat} (r : Room (k + 1) A) (args : Args) : Room k (A.under (.builtin "list.__repr__.loop" args)) := by
  refine ⟨r.hd, ?_, ?_⟩
  · have := r.dp
    have e : (Code.builtin "list.__repr__.loop" args).weight ≤ 1 := by
      simp [Code.weight, Code.isCreation, Code.isGuard, Code.isCaller, Code.frames, Code.isFrame, guardIds]
    show A.depth + (Code.builtin "list.__repr__.loop" args).weight + 3 * k + 5 < _
    omega
  · have := r.un
    rw [units_under_list_loop]
    omega
theorem vals_refs : ∀ {bs : List Addr} {its : List Value}, Vals (bs.map V.ref) its → its = bs.map Value.ref
  | [], _, .nil => rfl
  | b :: bs, _, .cons r t => by
    rw [List.map_cons, vals_refs t]
    congr 1
section
variable {X : Cx} {CX : CXT} {k : Nat} {f C : Addr} {fd : FuncData} {ps : List Str} {sp : Sp} {E : XK}
/-- one instance within the list's repr -/
theorem repr_item {A : Around} {pins : List (Addr × Obj)} {σ : L2.St} {H : Hp} {s : Shared} {a dx : Addr} {fs : List (Str × V)} {b : Nat} {t : Str} {J : Hp → Prop} {Q : Str → Shared → Prop}
    (F : FnOk X.prog X.w X.K X.mg X.base CX k f fd ps sp) (hr : Room k A) (hfr : A.frames = X.A.frames) (hb : Binds X.K fd ps []) (hx : Passes CX X E)
    (hs : PySem.W.findIn X.K (.ref C) "__repr__" = some (some (.ref f))) (hf : PySem.W.isFn X.K (.ref f) = true) (hz : b ≤ sizeLine)
    (I : Inv X pins σ H s) (ha : H a = some (.ins C dx fs)) (h : sp [.ref a] H (fun v H' => v = .str t ∧ J H') E)
    (q : ∀ s' H', Inv X pins σ H' s' → J H' → Q t s') : wpAny (model X.prog X.w) A (pyReprUnder b (.ref a)) Q X.xe s := by
  obtain ⟨od, W⟩ := ins_look I ha
  refine wpAny_pyReprUnder_ref hz ?_
  unfold pyReprObjUnder pyReprObjBy
  refine wpAny_bind (wpAny_cRoomFor hr.units0 ?_)
  refine wpAny_bind (wpAny_bind (W.type.here ((PySem.W.looks_findIn I.kIn hs).here ?_)))
  rw [if_neg (by simp)]
  have run : wpAny (model X.prog X.w) A (call (.ref f) [.ref a]) (fun v s' => (∃ u, v = .str t u) ∧ Q t s') X.xe s := by
    refine wpAny_mono (run_at (vs := [V.ref a]) F hr hfr hb hx I (.cons rfl .nil) h) ?_ fun _ _ e => e
    rintro r s' ⟨v, H', I', rv, rfl, j⟩
    obtain ⟨u, rfl⟩ := (show ∃ u, r = Value.str t u from rv)
    exact ⟨⟨u, rfl⟩, q s' H' I' j⟩
  have fin : wpAny (model X.prog X.w) A (call (.ref f) ([.ref a] ++ []) >>= fun v => pure (some v)) (fun o s' => ∃ u, o = some (.str t u) ∧ Q t s') X.xe s := by
    refine wpAny_bind (wpAny_mono run ?_ fun _ _ e => e)
    rintro v s' ⟨⟨u, rfl⟩, z⟩
    exact wpAny_pure ⟨u, rfl, z⟩
  refine wpAny_bind (wpAny_mono (Q := fun o s' => ∃ u, o = some (.str t u) ∧ Q t s') ?_ ?_ fun _ _ e => e)
  · simp only [callSpecialIfBoundBy?, bindSpecialIfBound?]
    refine wpAny_holding (wpAny_bind (wpAny_bind (wpAny_bind (W.type.here ((PySem.W.looks_findIn I.kIn hs).here ?_)))))
    refine wpAny_bind (wpAny_askSetting (wpAny_ite ?_))
    split
    · exact wpAny_bind ((PySem.W.bind_fn I.kIn _ (beq_iff_eq.mp hf)).here (wpAny_pure (by exact fin)))
    · exact wpAny_tryCatch (wpAny_bind ((PySem.W.bind_fn I.kIn _ (beq_iff_eq.mp hf)).here (wpAny_pure (by exact fin))))
  · rintro o s' ⟨u, rfl, z⟩
    exact wpAny_bind (wpAny_isInstance (T := "str") (b := true) rfl isSubtype_str_str (wpAny_pure ⟨t, u, rfl, z⟩))
/-- what the list of the parts needs to be an object that nothing else touches -/
structure Apart (X : Cx) (pins : List (Addr × Obj)) (P : Addr) : Prop where
  new : X.s_0.heap.objs.size ≤ P
  loc : P ≠ X.env.locals
  cel : ∀ x c, X.env.cells.lookup x = some c → c ≠ P
  pin : ∀ p ∈ X.pn ++ pins, p.1 ≠ P
  fs : P ∉ X.fs
/-- the loop over the items -/
theorem repr_loop {A : Around} {pins : List (Addr × Obj)} {σ : L2.St} {a P : Addr} {bs : List Addr} {ts : List Str} {J : Hp → Prop} {R : Result → Shared → Prop}
    (F : FnOk X.prog X.w X.K X.mg X.base CX k f fd ps sp) (hr : Room (k + 1) A) (hfr : A.frames = X.A.frames) (hb : Binds X.K fd ps []) (hx : Passes CX X E) (hxe : ∀ e s', X.xe e s' → R (.error e) s')
    (hs : PySem.W.findIn X.K (.ref C) "__repr__" = some (some (.ref f))) (hf : PySem.W.isFn X.K (.ref f) = true) (ap : Apart X pins P) (hl : ts.length = bs.length) (hsz : (listText ts).length ≤ sizeLine)
    (hJ : ∀ H, J H → H a = some (.lst (bs.map V.ref)) ∧ ∀ (i : Nat) (b : Addr) (t : Str), bs[i]? = some b → ts[i]? = some t → ∃ dx fs, H b = some (.ins C dx fs) ∧ sp [.ref b] H (fun v H' => v = .str t ∧ J H') E)
    (fin : ∀ s' H' u, Inv X pins σ H' s' → J H' → R (.ok (.ret (.str (listText ts) u))) s') :
    ∀ (j i : Nat), bs.length - i = j → i ≤ bs.length → ∀ (s : Shared) (H : Hp) (acc : Array Value) (c : Nat) (done : List (Str × Tok)),
    Inv X ((P, { cls := .type "list", dict := none, data := .seq acc c, slots := #[] }) :: pins) σ H s → J H → acc.toList = strValues done → done.map (·.1) = ts.take i →
    codeAny (model X.prog X.w) A (.builtin "list.__repr__.loop" ⟨[.ref a, rawInt i, .ref P, rawInt ((piled (ts.take i) : Nat) : Int)], []⟩) R s := by
  have hp3 := piled_le_listText ts
  have each : ∀ t ∈ ts, t.length ≤ sizeLine := fun t ht => by
    have h2 := (textFrom_len ts 0 "[").2.1 t ht
    have hX : (listText ts).length = (textFrom 0 "[" ts).length + 1 := by
      show (textFrom 0 "[" ts ++ "]").length = _
      rw [strLen_append]; rfl
    omega
  have items : ∀ {s : Shared} {H : Hp} {pins' : List (Addr × Obj)}, Inv X pins' σ H s → J H → ∃ n, s.heap.get? a = some { cls := .type "list", data := .seq (bs.map Value.ref).toArray n } := by
    intro s H pins' I hj
    obtain ⟨_, its, n, rv, e⟩ := I.hok a _ (hJ H hj).1
    have : its = bs.map Value.ref := vals_refs rv
    subst this
    exact ⟨n, e⟩
  intro j
  induction j with
  | zero =>
    intro i hk hi s H acc c done I hj hacc hdone
    have hin : i = bs.length := by omega
    obtain ⟨n, ea⟩ := items I hj
    refine codeAny_builtin PySem.F.entry_list_repr_loop ?_
    show wpAny _ _ (Builtin.«list.__repr__.loop» ⟨[.ref a, .int i 0, .ref P, .int ((piled (ts.take i) : Nat) : Int) 0], []⟩) _ _ s
    rw [repr_loop_tree]
    refine wpAny_bind (wpAny_listItems ea rfl ?_)
    have hnone : (bs.map Value.ref).toArray[(i : Int).toNat]? = none := by simp [hin]
    simp only [hnone]
    unfold reprEnd
    refine wpAny_bind (wpAny_listItems (ClX.pin_at I) rfl ?_)
    rw [hacc, repr_fold]
    refine wpAny_bind (wpAny_pure ?_)
    have hall : done.map (·.1) = ts := by rw [hdone, hin, ← hl, List.take_length]
    rw [hall]
    exact wpAny_bind (wpAny_mkStr (wpAny_pure (fin _ H _ ((ClX.unpin I).tok _) hj)) hsz)
  | succ j ih =>
    intro i hk hi s H acc c done I hj hacc hdone
    have hlt : i < bs.length := by omega
    obtain ⟨n, ea⟩ := items I hj
    have hb' : bs[i]? = some bs[i] := List.getElem?_eq_getElem hlt
    have ht' : ts[i]? = some (ts[i]'(by omega)) := List.getElem?_eq_getElem (by omega)
    generalize ts[i]'(by omega) = t at ht'
    obtain ⟨dx, fs, hi1, hsp⟩ := (hJ H hj).2 i _ _ hb' ht'
    have hp1 := piled_take_succ ht'
    have hp2 := piled_take_le ts (i + 1)
    refine codeAny_builtin PySem.F.entry_list_repr_loop ?_
    show wpAny _ _ (Builtin.«list.__repr__.loop» ⟨[.ref a, .int i 0, .ref P, .int ((piled (ts.take i) : Nat) : Int) 0], []⟩) _ _ s
    rw [repr_loop_tree]
    refine wpAny_bind (wpAny_listItems ea rfl ?_)
    have hsome : (bs.map Value.ref).toArray[(i : Int).toNat]? = some (.ref bs[i]) := by simp [hlt]
    simp only [hsome]
    rw [Int.toNat_natCast]
    refine wpAny_bind (wpAny_holding (wpAny_mono (repr_item (J := J) F (under_loop_room hr _) ((under_loop_frames _ _).trans hfr) hb hx hs hf (by omega) I hi1 hsp (Q := fun r s' => r = t ∧ ∃ H', Inv X ((P, { cls := .type "list", dict := none, data := .seq acc c, slots := #[] }) :: pins) σ H' s' ∧ J H') fun s' H' I' j' => ⟨rfl, H', I', j'⟩) ?_ fun e s' z => hxe e s' z))
    rintro r s' ⟨rfl, H', I', j'⟩
    refine wpAny_bind (wpAny_mkStr ?_ (each _ (List.mem_of_getElem? ht')))
    refine wpAny_bind ?_
    show wpAny _ _ (updateSeq P _) _ _ _
    have hasz : acc.size ≤ sizeLine := by
      have e1 : acc.toList.length = acc.size := by simp
      have e2 : (strValues done).length = done.length := by simp [strValues]
      have e3 : done.length = (ts.take i).length := by rw [← hdone, List.length_map]
      have e4 : 2 * (ts.take i).length ≤ piled (ts.take i) := by
        generalize ts.take i = l
        induction l with
        | nil => simp
        | cons x l ih => rw [piled_cons, List.length_cons]; omega
      rw [hacc] at e1
      omega
    refine wpAny_updateSeq (ClX.pin_at I') rfl (wpAny_pure ⟨PySem.F.quiet_list_repr_loop _, ?_⟩) hasz
    have e1 : ((i : Int) + 1) = ((i + 1 : Nat) : Int) := by omega
    have e2 : piled (ts.take i) + (r.length + 2) = piled (ts.take (i + 1)) := by omega
    rw [e1, e2]
    obtain ⟨c', hc'⟩ : ∃ c', Obj.mapSeq (fun y => y.push (.str r s'.toks)) { cls := .type "list", dict := none, data := .seq acc c, slots := #[] } = { cls := .type "list", dict := none, data := .seq (acc.push (.str r s'.toks)) c', slots := #[] } := ⟨_, rfl⟩
    refine ih (i + 1) (by omega) hlt _ H' (acc.push (.str r s'.toks)) c' (done ++ [(r, s'.toks)]) ?_ j' (by simp [hacc, strValues]) (by simp [List.take_add_one, ht', hdone])
    have hPn := ClX.pin_un I'
    have I2 := (ClX.unpin I').turned (it := P) (t' := s'.toks + 1) (h' := s'.heap.update P (Obj.mapSeq fun y => y.push (.str r s'.toks))) (fun b o hbP e => (Heap.get?_update_other _ _ (fun z : P = b => hbP z.symm)).trans e) hPn ap.loc (.inr ap.new) ap.cel ap.pin
    refine I2.pins_of ?_
    intro p hp
    rcases List.mem_cons.mp hp with e | e
    · subst e
      exact ⟨by rw [← hc']; exact Heap.get?_update_self _ (ClX.pin_at I') rfl, hPn, ap.loc, ap.fs, fun v z => nomatch z⟩
    · exact I2.pin p (List.mem_append_right _ e)
/-- repr([x, y, ..]) of own instances: J holds at each turn -/
def rReprL (C : Addr) (sp : Sp) (E : XK) : List V → Hp → VK → Prop := fun xs H Q => ∃ (a : Addr) (bs : List Addr) (ts : List Str) (J : Hp → Prop), xs = [.ref a] ∧ bs ≠ [] ∧ ts.length = bs.length ∧ (listText ts).length ≤ sizeLine ∧ J H ∧
  (∀ H, J H → H a = some (.lst (bs.map V.ref)) ∧ ∀ (i : Nat) (b : Addr) (t : Str), bs[i]? = some b → ts[i]? = some t → ∃ dx fs, H b = some (.ins C dx fs) ∧ sp [.ref b] H (fun v H' => v = .str t ∧ J H') E) ∧
  ∀ H', J H' → Q (.str (listText ts)) H'
theorem call_reprL (hgd : X.A.guards = some []) (F : FnOk X.prog X.w X.K X.mg X.base CX k f fd ps sp) (hr : Room (k + 2) X.A) (hb : Binds X.K fd ps []) (hx : Passes CX X E)
    (hs : PySem.W.findIn X.K (.ref C) "__repr__" = some (some (.ref f))) (hf : PySem.W.isFn X.K (.ref f) = true) : CallR X (.builtin "repr") (rReprL C sp E) := by
  intro pins s σ H xs us Q I r h
  obtain ⟨a, bs, ts, J, rfl, hne, hl, hsz, hj, hJ, q⟩ := h
  obtain ⟨u, rfl, ru⟩ := vals1 r
  cases ru
  obtain ⟨_, its, n, rv, ea⟩ := I.hok a _ (hJ H hj).1
  cases vals_refs rv
  obtain ⟨b0, br, rfl⟩ : ∃ b r, bs = b :: r := by
    cases bs with
    | nil => exact absurd rfl hne
    | cons b r => exact ⟨b, r, rfl⟩
  have hTy : s.TypeIs (.ref a) "list" := ⟨_, ea, rfl⟩
  refine call_repr_slot (hu_of hr) hTy PySem.F.slot_list_repr.toG ?_
  refine wpAny_call (codeAny_call_builtin PySem.F.slot_list_repr.plain PySem.F.entry_list_repr (PySem.F.slot_list_repr.check _ _ _ _ _ _ _ _ hTy (PySem.F.args_list_repr_1 _) ?_))
  refine wpAny_list_repr_head (A := X.A.in1.in1) (b := 0) (g := []) hgd (fun v rest kw hm => nomatch hm) ea (x := .ref b0) (l := br.map Value.ref) rfl ?_
  refine wpAny_bind (m := newList []) (wpAny_newObj_type ?_)
  refine wpAny_pure ⟨PySem.F.quiet_list_repr_loop _, ?_⟩
  have low : ∀ {c : Addr} {o : Obj}, s.heap.get? c = some o → c ≠ s.heap.objs.size := fun e => Nat.ne_of_lt (Heap.lt_size e)
  have ap : Apart X pins s.heap.objs.size := by
    refine ⟨I.sz, fun z => ?_, fun x c e z => ?_, fun p hp => low (I.pin p hp).1, I.nofs (Nat.le_refl _)⟩
    · exact absurd I.lt (by rw [← z]; exact Nat.lt_irrefl _)
    · obtain ⟨v, o, ho, _⟩ := I.cell x c e
      exact low ho z
  have I2 : Inv X ((s.heap.objs.size, { cls := .type "list", dict := none, data := .seq #[] 0, slots := #[] }) :: pins) σ H { s with heap := s.heap.push { cls := .type "list", dict := none, data := .seq #[] 0, slots := #[] } } :=
    ClX.pin_new (t' := s.toks) I (fun b o e => Heap.get?_push_of_some _ e) (Nat.le_refl _) (Heap.get?_push_size _ rfl) (fun v z => nomatch z)
  refine repr_loop (A := X.A.in1) (J := J) (ts := ts) F hr.in1 rfl hb hx (fun e s' z => z) hs hf ap hl hsz hJ ?_ _ 0 rfl (Nat.zero_le _) _ H #[] _ [] I2 hj rfl (by simp)
  intro s' H' u I' j'
  exact ⟨_, _, rfl, .str (listText ts), H', I', ⟨u, rfl⟩, q H' j'⟩
end
end RX
end
section
set_option maxRecDepth 100000
set_option maxHeartbeats 4000000
/-! o.m(k = v, ..) -/
namespace RX
open PySem PySem.Spec PyProof.Rows L2
def tMethKw (C : Addr) (m : Str) (n : Nat) (sp : Sp) (gV : List V → List V → List V) (E : XK) (ta : TE) (tk : TA) : TE := fun σ H Q => ta σ H fun x H1 => ∃ a dx fs, x = .ref a ∧ H1 a = some (.ins C dx fs) ∧ fs.lookup m = none ∧
  tk σ H1 fun zs H2 => zs.length = n ∧ sp (gV [.ref a] zs) H2 Q E
section
variable {X : Cx} {CX : CXT} {k : Nat} {f C : Addr} {fd : FuncData} {ps ks : List Str} {sp : Sp} {E : XK} {m : Str} {pos apos : Pos} {o : Expr} {kws : List Keyword} {ta : TE} {tk : TA} {g : List Value → List Value → List Value} {gV : List V → List V → List V}
theorem pe_methKw {pl : Sem Bool} (he : PE X o ta) (c : Cls X.K C) (hm : Meth X.K C m f) (F : FnOk X.prog X.w X.K X.mg X.base CX k f fd ps sp) (hr : Room k X.A) (hb : KBn X.K fd ps 1 ks g gV) (hx : Passes CX X E) (hkw : PK X kws tk)
    (hall : (backToKw pos (keywordEach kws X.env)).all (·.1.isSome) = true := by rfl) (hks : (backToKw pos (keywordEach kws X.env)).filterMap (·.1) = ks := by rfl)
    (hpl : ((backTo pos (starEach [] X.env)).any (·.1) || (backToKw pos (keywordEach kws X.env)).any (·.1.isNone)) = false := by rfl)
    (ht : eval (.Call (.Attribute o m apos) [] kws pos) X.env = (do
      let ov ← eval o X.env
      standAt apos.atName
      let (f, first) ← holding [ov] (getMethod ov m pl)
      callWith pos f first (backTo pos (starEach [] X.env)) (backToKw pos (keywordEach kws X.env))) := by rfl) :
    PE X (.Call (.Attribute o m apos) [] kws pos) (tMethKw C m ks.length sp gV E ta tk) := by
  refine ⟨fun pins s σ H Q I h => ?_⟩
  refine PySem.W.methodCall_KW (pl := pl) (thn (he.run pins s σ H _ I h) ?_) ht
  rintro u s1 ⟨x, H1, I1, rx, a, dx, fs, rfl, ea, l, q⟩
  cases rx
  refine getmeth_ok I1 ea c hm l ?_
  refine PySem.W.callWith_KW0 (first := [.ref a]) (h₀ := X.base) I.ok.mod.kin hm.kp hall (thn (hkw.run pos pins s1 σ H1 _ I1 q) ?_) hpl
  rintro ws s2 ⟨zs, H2, I2, rz, l2, q2⟩
  refine ⟨I2.kIn, ?_⟩
  rw [hks]
  have r2 := hb.rel (vs := [V.ref a]) (us := [Value.ref a]) (.cons rfl .nil) rz
  refine wpAny_call (codeAny_mono (F.run X.A X.stack s2 H2 ⟨[.ref a], ks.zip ws⟩ (g [.ref a] ws) (gV [.ref a] zs) Q E hr I2.env0 (hb.to s2 [.ref a] ws I2.kIn rfl (rz.length.symm.trans l2)) r2 q2) ?_)
  intro r' s' hq
  cases r' with
  | error e => exact hx pins σ H2 s2 e s' I2 hq
  | ok fl =>
    cases fl with
    | ret u => exact I2.after hq
    | next => exact False.elim hq
    | brk => exact False.elim hq
    | cont => exact False.elim hq
end
end RX
end
section
set_option maxRecDepth 100000
set_option maxHeartbeats 4000000
/-! list(text); set(list of texts); sorted(set of texts) -/
namespace RX
open PySem PySem.Spec PyProof.Rows L2
section
variable {prog : Program} {w : World} {A : Around} {E : Value → Shared → Prop} {s : Shared}
theorem hint_txt {x : Str} {t : Tok} {Q : Bool → Shared → Prop} (h : Q false s) : wpAny (model prog w) A (Builtin.List.listLengthHint (.str x t)) Q E s := by
  have hT : s.TypeIs (.str x t) "str" := typeIs_str s x t
  unfold Builtin.List.listLengthHint; refine wpAny_bind (wpAny_specialOf hT PySem.F.slot_str_len.lookup ?_)
  generalize hid : ("str.__len__" : String) = id0; wp_delta
  rw [show splitId id0 = some ("str", "__len__") from by subst hid; decide +kernel]; subst hid
  refine wpAny_bind (wpAny_isInstance (T := "str") (b := true) hT (by rw [isSubtype_type]; kernel_rfl) ?_)
  refine wpAny_ite_split (fun hab => absurd hab (by decide)) (fun _ => wpAny_ite_split (fun _ => ?_) (fun hab => absurd (by decide +kernel) hab))
  exact wpAny_bind (wpAny_typeOf hT (wpAny_pure h))
theorem extend_txt {R : Result → Shared → Prop} (hh : A.handled = none) (x : Str) (t : Tok) (S : Addr) (res : Value) (c₀ : Nat) (hS : s.heap.get? S = some { cls := .type "list", data := .seq #[] c₀ }) (hn : x.cps.size ≤ sizeLine)
    (hR : ∀ h' tk acc' c', (∀ b o, b ≠ S → s.heap.get? b = some o → h'.get? b = some o) → h'.get? S = some { cls := .type "list", dict := none, data := .seq acc' c', slots := #[] } → ItemsOf (SignAt x) acc' x.cps.size → R (.ok (.ret res)) { s with heap := h', toks := tk }) :
    wpAny (model prog w) A.in1 (Builtin.List.listExtendWith (.ref S) (.str x t) res)
      (fun fin s' => match fin with | .done f => R (.ok f) s' | .again c' => c'.quiet = true ∧ codeAny (model prog w) A c' R s') (fun e s' => R (.error e) s') s := by
  have hSI : S ≠ s.heap.objs.size := Nat.ne_of_lt (Heap.lt_size hS); have hSf : S ∉ [s.heap.objs.size] := fun hm => hSI (List.mem_singleton.mp hm)
  unfold Builtin.List.listExtendWith; refine wpAny_bind (wpAny_typeOf (T := "str") (v := .str x t) (typeIs_str s x t) ?_)
  simp only [show Builtin.List.listSameRef (.ref S) (.str x t) = false from rfl, show (Value.type "str" == Value.type "list") = false by decide, show (Value.type "str" == Value.type "tuple") = false by decide, Bool.or_false, Bool.false_eq_true, if_false]
  refine wpAny_bind (wpAny_pyIter_str fun o St W hst => wpAny_bind (wpAny_holding (hint_txt ?_)))
  rw [if_neg (by first | decide | decide +kernel)]
  refine wpAny_pure ⟨plainId_quiet PySem.F.plain_extend_loop _, codeAny_extend_loopS (W A.in1 hh).toS hn _ hSf _ x.cps.size 0 _ _ _ rfl (Nat.zero_le _) hst (Heap.get?_push_of_some _ hS) (ItemsOf.nil _) fun s' acc' c' hm hS' hacc => ?_⟩
  rw [Moved.eq_with hm]
  refine hR s'.heap s'.toks acc' c' (fun b ob hb e => hm.heap b ob (fun hmem => ?_) (Heap.get?_push_of_some _ e)) hS' hacc
  rcases List.mem_cons.mp hmem with e' | hmem; exact hb e'
  exact absurd (Heap.lt_size e) (by rw [List.mem_singleton.mp hmem]; exact Nat.lt_irrefl _)
theorem list_init_txt {R : Result → Shared → Prop} (hh : A.handled = none) (x : Str) (t : Tok) (S : Addr) (hS : s.heap.get? S = some { cls := .type "list", data := .seq #[] }) (hn : x.cps.size ≤ sizeLine)
    (hR : ∀ h' tk acc' c', (∀ b o, b ≠ S → s.heap.get? b = some o → h'.get? b = some o) → h'.get? S = some { cls := .type "list", dict := none, data := .seq acc' c', slots := #[] } → ItemsOf (SignAt x) acc' x.cps.size → R (.ok (.ret .none)) { s with heap := h', toks := tk }) :
    wpAny (model prog w) A.in1 (Builtin.«list.__init__» ⟨[.ref S, .str x t], []⟩)
      (fun fin s' => match fin with | .done f => R (.ok f) s' | .again c' => c'.quiet = true ∧ codeAny (model prog w) A c' R s') (fun e s' => R (.error e) s') s := by
  show wpAny _ _ (do let old ← Builtin.List.listItems (.ref S); Builtin.List.listUpdate (.ref S) (fun _ => #[]); letGo old.toList.reverse; Builtin.List.listExtendWith (.ref S) (.str x t) .none) _ _ s
  refine wpAny_bind ?_; unfold Builtin.List.listItems
  refine wpAny_bind (wpAny_seqItems hS rfl (wpAny_pure ?_))
  show wpAny _ _ (updateSeq S (fun _ => #[]) >>= fun _ => letGo (#[] : Array Value).toList.reverse >>= fun _ => Builtin.List.listExtendWith (.ref S) (.str x t) .none) _ _ s
  refine wpAny_bind (wpAny_updateSeq hS rfl ?_)
  have hS₂ := Heap.get?_update_self (Obj.mapSeq (fun _ => (#[] : Array Value))) hS rfl; have oth : ∀ b o, b ≠ S → s.heap.get? b = some o → (s.heap.update S (Obj.mapSeq (fun _ => (#[] : Array Value)))).get? b = some o := fun b o hb e => (Heap.get?_update_other _ _ (Ne.symm hb)).trans e
  exact wpAny_bind (wpAny_letGo (extend_txt hh x t S .none _ hS₂ hn fun h' tk acc' c' hk hS' hacc => hR h' tk acc' c' (fun b o hb e => hk b o hb (oth b o hb e)) hS' hacc))
/-- list(text) -/
theorem call_list_txt {x : Str} {t : Tok} {Q : Value → Shared → Prop} (hh : A.handled = none) (hn : x.cps.size ≤ sizeLine)
    (hQ : ∀ h' tk acc' c', (∀ b o, s.heap.get? b = some o → h'.get? b = some o) → h'.get? s.heap.objs.size = some { cls := .type "list", dict := none, data := .seq acc' c', slots := #[] } → ItemsOf (SignAt x) acc' x.cps.size → Q (.ref s.heap.objs.size) { s with heap := h', toks := tk }) :
    wpAny (model prog w) A (call (.type "list") [.str x t]) Q E s := by
  refine callType_codes (Q₁ := fun obj s₁ => obj = .ref s.heap.objs.size ∧ s₁ = { s with heap := s.heap.push { cls := .type "list", data := .seq #[] } }) PySem.F.called_list (PySem.F.typeCall_list_1 _) PySem.F.entry_list_init (code_list_new _ ⟨rfl, rfl⟩) fun obj s₁ h₁ => ?_
  obtain ⟨rfl, rfl⟩ := h₁; have hS : (s.heap.push { cls := .type "list", data := .seq #[] }).get? s.heap.objs.size = some { cls := .type "list", data := .seq #[] } := Heap.get?_push_size _ rfl
  refine ⟨⟨_, hS, rfl⟩, PySem.F.args_list_init_2 _ _, list_init_txt (A := A.in1) hh x t _ hS hn (fun h' tk acc' c' hk hS' hacc => ?_)⟩
  exact ⟨rfl, hQ h' tk acc' c' (fun b o e => hk b o (Nat.ne_of_lt (Heap.lt_size e)) (Heap.get?_push_of_some _ e)) hS' hacc⟩
end
section
variable {X : Cx}
/-- list(text) over the layer -/
def rListT : List V → Hp → VK → Prop := fun xs H Q => ∃ a : Tx, xs = [tx a] ∧ a.length ≤ sizeLine ∧ ∀ p, H p = none → Q (.ref p) (upd H p (.lst (a.map fun c => tx [c])))
theorem call_listT (hc : X.calm = true) : CallR X (.type "list") rListT := by
  intro pins s σ H xs us Q I r h
  obtain ⟨a, rfl, hz, q⟩ := h
  obtain ⟨u, rfl, ru⟩ := vals1 r
  obtain ⟨t, rfl⟩ := (show ∃ t, u = Value.str (stx a) t from ru)
  have hsz : (stx a).cps.size = a.length := by show a.toArray.size = a.length; simp
  refine call_list_txt (I.ok.hd hc) (by rw [hsz]; exact hz) fun h' tk acc c' hk e hi => ?_
  refine ⟨.ref s.heap.objs.size, upd H s.heap.objs.size (.lst (a.map fun c => tx [c])), I.laid hk (Nat.le_refl _) ⟨by rw [List.length_map]; exact hz, acc.toList, c', ?_, by rw [Array.toArray_toList]; exact e⟩, rfl, q _ (I.hok.fresh (Nat.le_refl _))⟩
  refine vals_of_idx _ _ (by rw [List.length_map, Array.length_toList, hi.1, hsz]) fun j u hj => ?_
  obtain ⟨c, t', hc', rfl⟩ := hi.2 j u (by rw [← Array.getElem?_toList]; exact hj)
  have hc2 : a[j]? = some c := by simpa [stx] using hc'
  exact ⟨tx [c], by rw [List.getElem?_map, hc2]; rfl, ⟨_, rfl⟩⟩
end
end RX
end
section
set_option maxRecDepth 100000
set_option maxHeartbeats 4000000
/-! sets of texts: set(list), sorted(set) -/
namespace RX
open PySem PySem.Spec PyProof.Rows L2
def skey (e : Int × Value) : Str := match e.2 with | .str k _ => k | _ => Str.empty
def GoodS (w : World) (e : Int × Value) : Prop := ∃ k tk, e.2 = Value.str k tk ∧ e.1 = hashStr w k
/-- the set of texts at a: S its members, n their number; its table rises and can be walked -/
def SetT (w : World) (h : Heap) (a : Addr) (S : Str → Bool) (n : Nat) : Prop :=
  ∃ o es ep t, h.get? a = some o ∧ o.ExactSet ∧ o.data = .set es ep t ∧ (∀ e ∈ es.toList, GoodS w e) ∧ (es.toList.map skey).Nodup ∧ (∀ k, S k = true ↔ k ∈ es.toList.map skey) ∧ es.size < scanBound ∧ t.fits es.size = true ∧ es.size = n ∧
    Ris t.place.toList ∧ (w.params.followText "set-order" = true ∨ t.led = true)
section
variable {P : Program} {w : World} {h h' : Heap} {a : Addr} {S : Str → Bool} {n : Nat}
theorem SetT.at (R : SetT w h a S n) (k : ∀ o, h.get? a = some o → h'.get? a = some o) : SetT w h' a S n := by obtain ⟨o, es, ep, t, ho, r⟩ := R; exact ⟨o, es, ep, t, k o ho, r⟩
theorem SetT.congr {S' : Str → Bool} {n' : Nat} (R : SetT w h a S n) (e : ∀ k, S k = S' k) (en : n = n') : SetT w h a S' n' := by have q : S = S' := funext e; subst q; subst en; exact R
theorem gs_elems {l : List (Int × Value)} (g : ∀ e ∈ l, GoodS w e) : ElemsOf (PySem.strKind P w) l := fun e he => by
  obtain ⟨k, tk, h1, h2⟩ := g e he; exact ⟨⟨k, by rw [h1]; exact strKind_is P w k tk, h2⟩, by rw [h1] <;> rfl⟩
theorem gs_is {e : Int × Value} (g : GoodS w e) (k : Str) : (PySem.strKind P w).is k e.2 = true ↔ skey e = k := by
  obtain ⟨k0, tk, h1, _⟩ := g
  have e1 : skey e = k0 := by unfold skey; rw [h1]
  rw [e1, h1]
  constructor
  · intro z; exact ((PySem.strKind P w).inj (.str k0 tk) k k0 z (strKind_is P w k0 tk)).symm
  · rintro rfl; exact strKind_is P w k0 tk
theorem gs_mem {l : List (Int × Value)} (g : ∀ e ∈ l, GoodS w e) (k : Str) : k ∈ l.map skey ↔ ∃ e ∈ l, (PySem.strKind P w).is k e.2 = true := by
  rw [List.mem_map]; exact ⟨fun ⟨e, he, q⟩ => ⟨e, he, (gs_is (g e he) k).2 q⟩, fun ⟨e, he, q⟩ => ⟨e, he, (gs_is (g e he) k).1 q⟩⟩
theorem setT_fresh {h : Heap} (w : World) : SetT w (h.push { cls := .type "set", dict := none, data := .set #[] 0 (.fresh 0 0 (!w.params.followText "set-order")) }) h.objs.size (fun _ => false) 0 := by
  refine ⟨_, #[], 0, _, Heap.get?_push_size _ rfl, ⟨rfl, rfl, rfl⟩, rfl, (fun e he => by simp at he), (by simp), (fun k => by simp), (by decide), (by rfl), rfl, List.Pairwise.nil, ?_⟩
  show _ ∨ (!w.params.followText "set-order") = true; cases w.params.followText "set-order"; exact .inr rfl; exact .inl rfl
end
section
variable {P : Program} {w : World} {A : Around} {E : Value → Shared → Prop} {s : Shared} {a : Addr} {S : Str → Bool} {n : Nat}
theorem setT_tail {g : Bool → Sem Unit} (hg : ∀ (b : Bool) (s₁ : Shared) (Q' : Unit → Shared → Prop), Q' () s₁ → wpAny (model P w) A (g b) Q' E s₁)
    {o : Obj} {es : Array (Int × Value)} {ep : Nat} {t : SetTable} (ho : s.heap.get? a = some o) (hex : o.ExactSet) (hd : o.data = .set es ep t)
    {es1 : Array (Int × Value)} {t2 : SetTable} {S' : Str → Bool} (g1 : ∀ e ∈ es1.toList, GoodS w e) (nd1 : (es1.toList.map skey).Nodup) (m1 : ∀ k, S' k = true ↔ k ∈ es1.toList.map skey) (hb1 : es1.size < scanBound) (hf2 : t2.fits es1.size = true)
    (hr : Ris t2.place.toList) (hl : w.params.followText "set-order" = true ∨ t2.led = true) {wasDummy : Bool} {R : Option Bool → Shared → Prop} (hR : ∀ h', Heap.SameBut a s.heap h' → SetT w h' a S' es1.size → R (some true) { s with heap := h' }) :
    wpAny (model P w) A (do storeSet a es1 t2
                            if (!wasDummy && t2.tooFull) = true then do
                                g (relayAll t2 es1 (SetTable.grown es1.size)).2.2
                                storeSet a (relayAll t2 es1 (SetTable.grown es1.size)).1 (relayAll t2 es1 (SetTable.grown es1.size)).2.1
                                pure (some true)
                              else pure (some true)) R E s := by
  have ho1 := store_at (es' := es1) (t' := t2) ho hd; have sb1 := Heap.SameBut.update s.heap a (Obj.putSet es1 t2)
  refine wpAny_bind (wpAny_storeSet_of ho hd ?_ (fits_of_scanBound hb1)); split
  · have pm := relayAll_perm t2 es1 (SetTable.grown es1.size); have hf3 := relayAll_fits t2 es1 (SetTable.grown es1.size); have hr3 := relayAll_ris t2 es1 (SetTable.grown es1.size); have hl3 := relayAll_led t2 es1 (SetTable.grown es1.size)
    generalize relayAll t2 es1 (SetTable.grown es1.size) = Z at pm hf3 hr3 hl3 ⊢; obtain ⟨es2, t3, gave⟩ := Z
    dsimp only at pm hf3 hr3 hl3 ⊢; have hsz : es2.size = es1.size := by rw [← Array.length_toList, pm.length_eq, Array.length_toList]
    have hb2 : es2.size < scanBound := by rw [hsz]; exact hb1
    refine wpAny_bind (hg _ _ _ (wpAny_bind (wpAny_storeSet_of ho1 rfl ?_ (fits_of_scanBound hb2)))); have ho2 := store_at (es' := es2) (t' := t3) ho1 rfl
    exact wpAny_pure (hR _ (sb1.trans (Heap.SameBut.update _ a _)) ⟨_, es2, _, t3, ho2, hex, rfl, fun e he => g1 e (pm.mem_iff.mp he), (pm.map skey).nodup_iff.mpr nd1, fun k => (m1 k).trans (pm.map skey).mem_iff.symm, hb2, hf3, hsz, hr3, hl.imp id fun z => by rw [hl3]; exact z⟩)
  · exact wpAny_pure (hR _ sb1 ⟨_, es1, _, t2, ho1, hex, rfl, g1, nd1, m1, hb1, hf2, rfl, hr, hl⟩)
theorem setT_add {k : Str} {tk : Tok} {Q : Bool → Shared → Prop} (R : SetT w s.heap a S n) (room : n + 1 < scanBound)
    (hQ : ∀ h', Heap.SameBut a s.heap h' → SetT w h' a (fun j => S j || decide (j = k)) (if S k = true then n else n + 1) → Q (!S k) { s with heap := h' }) : wpAny (model P w) A (setAddHashed a (.str k tk) ((PySem.strKind P w).hash k)) Q E s := by
  obtain ⟨o, es, ep, t, ho, hex, hd, g, nd, hm, hb, hf, hn, hr, hl⟩ := R
  have hkey : (PySem.strKind P w).is k (.str k tk) = true := strKind_is P w k tk; have hsc : (Value.str k tk).scannable = true := rfl
  have hel : ElemsOf (PySem.strKind P w) es.toList := gs_elems g
  unfold setAddHashed setAddHashedIn; refine wpAny_holding (wpAny_bind (wpAny_setState_of ho hd hf ?_))
  dsimp only; rw [byScan_of hsc hb hel]
  simp only [↓reduceIte]; unfold setAddByScan
  refine wpAny_bind (wpAny_bind (wpAny_rule (wpAny_bind (wpAny_setScan_of hkey ho hd hf hel ?_))))
  cases hfi : List.findIdx? (fun e => (PySem.strKind P w).is k e.2) es.toList with
  | some j =>
    dsimp only; obtain ⟨hj, pj, _⟩ := List.findIdx?_eq_some_iff_getElem.mp hfi
    have hSk : S k = true := (hm k).2 ((gs_mem (P := P) (w := w) g k).2 ⟨es.toList[j], List.getElem_mem hj, pj⟩)
    refine wpAny_pure (wpAny_pure ?_); have q := hQ s.heap (Heap.SameBut.refl a s.heap) ⟨o, es, ep, t, ho, hex, hd, g, nd, fun i => by
      rw [Bool.or_eq_true, decide_eq_true_eq, ← hm i]; exact ⟨fun z => z.elim id (fun e => e ▸ hSk), .inl⟩, hb, hf, by rw [if_pos hSk]; exact hn, hr, hl⟩
    rw [hSk] at q; exact q
  | none =>
    dsimp only; have hnk : k ∉ es.toList.map skey := fun z => by
      obtain ⟨e, he, q⟩ := (gs_mem (P := P) (w := w) g k).1 z; have c := List.findIdx?_eq_none_iff.mp hfi e he
      rw [q] at c; cases c
    have hSk : S k = false := by cases q : S k with | false => rfl | true => exact absurd ((hm k).1 q) hnk
    have pm := layNew_perm t es ((PySem.strKind P w).hash k) (.str k tk); have hf1 := layNew_fits t es ((PySem.strKind P w).hash k) (.str k tk)
    have hr1 := layNew_ris t es ((PySem.strKind P w).hash k) (.str k tk) hr; have hl1 := layNew_led t es ((PySem.strKind P w).hash k) (.str k tk)
    generalize layNew t es ((PySem.strKind P w).hash k) (.str k tk) = Z at pm hf1 hr1 hl1 ⊢; obtain ⟨es1, t1, wasDummy, gave⟩ := Z
    dsimp only at pm hf1 hr1 hl1 ⊢; rw [Array.toList_push] at pm
    have pc : es1.toList.Perm (((PySem.strKind P w).hash k, Value.str k tk) :: es.toList) := pm.trans (List.perm_append_singleton _ _); have pk : (es1.toList.map skey).Perm (k :: es.toList.map skey) := pc.map skey
    have g1 : ∀ e ∈ es1.toList, GoodS w e := fun e he => by
      rcases List.mem_cons.mp (pc.mem_iff.mp he) with z | z; rw [z]; exact ⟨k, tk, rfl, rfl⟩
      exact g e z
    have nd1 : (es1.toList.map skey).Nodup := pk.nodup_iff.mpr (List.nodup_cons.mpr ⟨hnk, nd⟩); have m1 : ∀ i, (S i || decide (i = k)) = true ↔ i ∈ es1.toList.map skey := fun i => by
      rw [Bool.or_eq_true, decide_eq_true_eq, hm i, pk.mem_iff, List.mem_cons]; exact Or.comm
    have hsz : es1.size = n + 1 := by rw [← Array.length_toList, pc.length_eq, List.length_cons, Array.length_toList, hn]
    have hb1 : es1.size < scanBound := by rw [hsz]; exact room
    have hled : w.params.followText "set-order" = true ∨ t1.led = true := hl.imp id fun z => by rw [hl1]; exact z
    have fin : ∀ h', Heap.SameBut a s.heap h' → SetT w h' a (fun j => S j || decide (j = k)) es1.size → Q true { s with heap := h' } := fun h' sb r => by
      have q := hQ h' sb; rw [hSk] at q; rw [hsz] at r; exact q r
    have hgw : ∀ (b : Bool) (s₁ : Shared) (Q' : Unit → Shared → Prop), Q' () s₁ → wpAny (model P w) A (match b with | true => rule "set.scan.the-table-gave-way" | false => pure ()) Q' E s₁ := fun b s₁ Q' q => by cases b <;> first | exact wpAny_pure q | exact wpAny_rule q
    refine wpAny_bind (hgw _ _ _ ?_); split
    · refine wpAny_bind ?_; rw [hashByValue_scannable 8 hsc]
      refine wpAny_pure (setT_tail ?_ ho hex hd g1 nd1 m1 hb1 ?_ ?_ ?_ ?_)
      · intro b s₁ Q' q; cases b <;> first | exact wpAny_pure q | exact wpAny_rule q
      · first | (split <;> first | exact hf1 | exact SetTable.fits_plain_off hf1) | exact hf1
      · first | (split <;> exact hr1) | exact hr1
      · first | (split <;> exact hled) | exact hled
      · intro h' sb r; dsimp only; exact wpAny_pure (fin h' sb r)
    · refine wpAny_bind (wpAny_pure ?_); simp only [↓reduceIte]
      refine setT_tail ?_ ho hex hd g1 nd1 m1 hb1 hf1 hr1 hled (fun h' sb r => by dsimp only; exact wpAny_pure (fin h' sb r))
      intro b s₁ Q' q; cases b <;> first | exact wpAny_pure q | exact wpAny_rule q
end
end RX
end
section
set_option maxRecDepth 100000
set_option maxHeartbeats 4000000
/-! set(list of texts), sorted of it -/
namespace RX
open PySem PySem.Spec PyProof.Rows L2
/-- the unlike ones of a list, in the order in which they came -/
def metS (xs : List Str) : List Str := xs.foldl (fun m x => if x ∈ m then m else m ++ [x]) []
theorem metS_snoc (xs : List Str) (x : Str) : metS (xs ++ [x]) = if x ∈ metS xs then metS xs else metS xs ++ [x] := by unfold metS; rw [List.foldl_append]; rfl
theorem met_len : ∀ (xs m : List Str), (xs.foldl (fun m x => if x ∈ m then m else m ++ [x]) m).length ≤ m.length + xs.length
  | [], m => Nat.le_refl _
  | x :: xs, m => by
    rw [List.foldl_cons, List.length_cons]
    refine Nat.le_trans (met_len xs _) ?_
    split
    · omega
    · rw [List.length_append]; show m.length + 1 + xs.length ≤ _; omega
theorem met_mem (k : Str) : ∀ (xs m : List Str), k ∈ xs.foldl (fun m x => if x ∈ m then m else m ++ [x]) m ↔ k ∈ m ∨ k ∈ xs
  | [], m => by simp
  | x :: xs, m => by
    rw [List.foldl_cons, met_mem k xs]
    split
    · rename_i h
      rw [List.mem_cons]
      exact ⟨fun z => z.elim .inl fun z => .inr (.inr z), fun z => z.elim .inl fun z => z.elim (fun e => .inl (e ▸ h)) .inr⟩
    · rw [List.mem_append, List.mem_singleton, List.mem_cons, or_assoc]
theorem metS_len (xs : List Str) : (metS xs).length ≤ xs.length := by have := met_len xs []; rw [List.length_nil, Nat.zero_add] at this; exact this
theorem metS_mem (xs : List Str) (k : Str) : k ∈ metS xs ↔ k ∈ xs := (met_mem k xs []).trans ⟨fun z => z.elim (fun q => nomatch q) id, .inr⟩
def metB (xs : List Str) : Str → Bool := fun k => decide (k ∈ metS xs)
section
variable {prog : Program} {w : World} {A : Around} {R : Result → Shared → Prop} {I : Addr} {fp wr : List Addr} {G : Array GenState → Array GenState → Prop} {n : Nat} {P : Nat → Value → Prop} {St : Nat → Shared → Prop}
theorem loopT (W : WalksS prog w A.in1 I fp wr G n P St) (S : Addr) (hSf : S ∉ fp) (xs : List Str) (hsz : xs.length = n) (hb : n + 1 < scanBound) (hval : ∀ i v, P i v → ∃ t, v = .str (xs.getD i Str.empty) t) :
    ∀ (k i : Nat) (s : Shared), n - i = k → i ≤ n → St i s → SetT w s.heap S (metB (xs.take i)) (metS (xs.take i)).length →
      (∀ s', Moved (S :: wr) G s s' → SetT w s'.heap S (metB xs) (metS xs).length → R (.ok (.ret .none)) s') → codeAny (model prog w) A (.builtin "set.update.loop" ⟨[.ref S, .ref I], []⟩) R s := by
  have hSw : S ∉ wr := fun h => hSf (W.sub _ h); have hsub : ∀ b ∈ wr, b ∈ S :: wr := fun b hb => List.mem_cons_of_mem _ hb
  intro k; induction k with
  | zero =>
    intro i s hk hi hst hS hR; have hin : i = n := by omega
    subst hin; refine codeAny_builtin PyProof.Rows.F.entry_set_update_loop ?_
    rw [Around.under_plainId PyProof.Rows.F.plain_set_update_loop _]; show wpAny _ A.in1 (pyNext (.ref I) >>= _) _ _ s
    refine wpAny_bind (W.done s _ _ hst fun s' hm => ?_); show wpAny _ A.in1 (ret Value.none) _ _ s'
    rw [← hsz, List.take_length] at hS
    exact wpAny_pure (hR s' (hm.mono hsub) (hS.at fun o ho => hm.heap S o hSw ho))
  | succ k ih =>
    intro i s hk hi hst hS hR; have hlt : i < n := by omega
    refine codeAny_builtin PyProof.Rows.F.entry_set_update_loop ?_; rw [Around.under_plainId PyProof.Rows.F.plain_set_update_loop _]
    show wpAny _ A.in1 (pyNext (.ref I) >>= _) _ _ s; refine wpAny_bind (W.item i s _ _ hlt hst fun v s' hP hst' hm => ?_)
    obtain ⟨t, rfl⟩ := hval i v hP; have hS' := hS.at fun o ho => hm.heap S o hSw ho
    show wpAny _ A.in1 (holding [Value.str (xs.getD i Str.empty) t] (setAdd S (.str (xs.getD i Str.empty) t)) >>= _) _ _ s'
    refine wpAny_bind (wpAny_holding ?_); unfold setAdd
    refine wpAny_holding (wpAny_bind ((PySem.strKind prog w).pyHash (k := xs.getD i Str.empty) (strKind_is _ _ _ _) ?_))
    have hroom : (metS (xs.take i)).length + 1 < scanBound := by have := metS_len (xs.take i); rw [List.length_take] at this; omega
    refine setT_add (s := { s' with toks := s'.toks + 1 }) hS' hroom fun h' hsb hS2 => ?_
    have ht : xs.take (i + 1) = xs.take i ++ [xs.getD i Str.empty] := by
      have hl : i < xs.length := by omega
      rw [List.take_succ_eq_append_getElem hl, List.getD_eq_getElem?_getD, List.getElem?_eq_getElem hl]; rfl
    have hSi : SetT w h' S (metB (xs.take (i + 1))) (metS (xs.take (i + 1))).length := by
      refine hS2.congr (fun k' => ?_) ?_
      · rw [ht]
        unfold metB
        rw [Bool.eq_iff_iff, Bool.or_eq_true, decide_eq_true_eq, decide_eq_true_eq, decide_eq_true_eq, metS_mem, metS_mem, List.mem_append, List.mem_singleton]
      · rw [ht, metS_snoc]
        unfold metB
        by_cases hx : xs.getD i Str.empty ∈ metS (xs.take i)
        · rw [if_pos hx, if_pos (decide_eq_true hx)]
        · rw [if_neg hx, if_neg (by rw [decide_eq_true_eq]; exact hx), List.length_append]; rfl
    refine wpAny_pure ⟨plainId_quiet PyProof.Rows.F.plain_set_update_loop _, ih (i + 1) _ (by omega) hlt (W.frame _ s' _ _ hst' (Nat.le_succ _) fun b hb o e => ?_) hSi fun s'' hm'' hS'' => ?_⟩
    · rw [hsb.2 b (fun h : b = S => hSf (by rw [← h]; exact hb))]; exact e
    · refine hR s'' (Moved.trans W.gtrans ((hm.mono hsub).then_heap (Nat.le_succ _) fun b o hb e => ?_) hm'') hS''; rw [hsb.2 b (fun h : b = S => hb (by rw [h]; exact List.mem_cons_self))]; exact e
end
section
variable {prog : Program} {w : World} {A : Around} {E : Value → Shared → Prop} {s : Shared}
theorem code_set_new1 (a : Value) {Q₁ : Value → Shared → Prop} (h : Q₁ (.ref s.heap.objs.size) { s with heap := s.heap.push { cls := .type "set", dict := none, data := .set #[] 0 (.fresh 0 0 (!w.params.followText "set-order")) } }) :
    codeAny (model prog w) A (.call (.builtin "set.__new__") ⟨[.type "set", a], []⟩) (wants Q₁ E) s := by
  refine codeAny_of_tree ?_
  show wpAny _ A.in1 (do checkBuiltinCall "set.__new__" ⟨[.type "set", a], []⟩; again (.builtin "set.__new__" ⟨[.type "set", a], []⟩)) _ _ s
  refine wpAny_bind (wpAny_of_eq (PySem.F.newCall_set_1 a) (wpAny_pure ⟨plainId_quiet PySem.F.plain_set_new _, codeAny_builtin PySem.F.entry_set_new ?_⟩)); rw [Around.under_plainId PySem.F.plain_set_new _]
  unfold Builtin.«set.__new__» Builtin.Frozenset.newClass; have hsub := sub_set_self
  obtain ⟨hp, g, d, tk, os⟩ := s; dsimp only
  wp_walk
  refine wpAny_askSetting (wpAny_pure ?_); dsimp only
  simp only [newObj]; exact wpAny_bind (wpAny_alloc (wpAny_pure (wpAny_pure h)))
theorem call_set_listT {l : Addr} {items : Array Value} {xs : List Str} {Q : Value → Shared → Prop} (hh : A.handled = none) (hl : s.heap.IsList l items) (hi : StrsAre items.toList xs) (hb : items.size + 1 < scanBound)
    (h : ∀ (h' : Heap) (tk : Nat), SetT w h' s.heap.objs.size (metB xs) (metS xs).length → (∀ b o, b < s.heap.objs.size → s.heap.get? b = some o → h'.get? b = some o) → Q (.ref s.heap.objs.size) { s with heap := h', toks := tk }) :
    wpAny (model prog w) A (call (.type "set") [.ref l]) Q E s := by
  have hxl : xs.length = items.size := by have := hi.length; rw [Array.length_toList] at this; exact this.symm
  obtain ⟨c, tl, hmro⟩ := PySem.F.called_set.mro; have hmade := PySem.F.called_set.made
  have hsub := PySem.F.called_set.sub; refine wpAny_call (codeAny_of_tree ?_)
  show wpAny _ _ (callAny (.type "set") _) _ _ _; refine wpAny_pure ⟨Code.quiet_builtin _ (by decide +kernel), codeAny_builtin PySem.F.entry_type_call ?_⟩
  rw [Around.under_plain (weight_type_call_type "set" [.ref l] []) rfl]; have h1 := PySem.F.called_set.notType
  have h2 := PySem.F.called_set.canCreate; have hct := PySem.F.typeCall_set_1 (.ref l)
  repeat (any_goals (first | assumption | wp_step))
  have hS0 := setT_fresh (h := s.heap) w
  have hS : (s.heap.push { cls := .type "set", dict := none, data := .set #[] 0 (.fresh 0 0 (!w.params.followText "set-order")) }).get? s.heap.objs.size = some { cls := .type "set", dict := none, data := .set #[] 0 (.fresh 0 0 (!w.params.followText "set-order")) } := Heap.get?_push_size _ rfl
  refine codeAny_mono (code_set_new1 (.ref l) (E := E) (Q₁ := fun obj s₁ => obj = .ref s.heap.objs.size ∧ s₁ = { s with heap := s.heap.push { cls := .type "set", dict := none, data := .set #[] 0 (.fresh 0 0 (!w.params.followText "set-order")) } }) ⟨rfl, rfl⟩) fun r s₁ hr => ?_
  generalize hled : (!w.params.followText "set-order") = led at hS hS0 hr ⊢
  cases r with
  | error e => exact hr
  | ok fl =>
    cases fl with
    | ret obj =>
      obtain ⟨rfl, rfl⟩ := hr
      have hT : Shared.TypeIs { s with heap := s.heap.push { cls := .type "set", dict := none, data := .set #[] 0 (.fresh 0 0 led) } } (.ref s.heap.objs.size) "set" := ⟨_, hS, rfl⟩
      have hli := PySem.F.called_set.init.lookup; have hbi := PySem.F.called_set.init.bind (.ref s.heap.objs.size)
      repeat (any_goals (first | assumption | wp_step))
      refine codeAny_mono (codeAny_call_builtin (R := wants (fun r s₂ => r = .none ∧ ∃ h' tk, s₂ = { s with heap := h', toks := tk } ∧ SetT w h' s.heap.objs.size (metB xs) (metS xs).length ∧ (∀ b o, b < s.heap.objs.size → s.heap.get? b = some o → h'.get? b = some o)) E) PySem.F.called_set.init.plain PySem.F.entry_set_init (PySem.check_set_init_1 hT ?_)) fun r₂ s₂ hr₂ => ?_
      · obtain ⟨ol, hol, hcl, nl, hdl⟩ := hl
        obtain ⟨ocls, odict, odata, oslots⟩ := ol; simp only at hcl hdl
        subst hcl; subst hdl; have hlS : l < s.heap.objs.size := Heap.lt_size hol
        have hol' : (s.heap.push { cls := .type "set", dict := none, data := .set #[] 0 (.fresh 0 0 led) }).get? l = some { cls := .type "list", dict := odict, data := .seq items nl, slots := oslots } := Heap.get?_push_of_some _ hol
        have hsls := PySem.F.sub_list_set; have hslf := PySem.F.sub_list_frozenset
        have hne : (Value.type "list" == Value.type "dict") = false := by decide
        have hl1 : (s.heap.push { cls := .type "set", dict := none, data := .set #[] 0 (.fresh 0 0 led) }).IsList l items := ⟨_, hol', rfl, nl, rfl⟩
        unfold Builtin.«set.__init__» noKeywords Builtin.Frozenset.updateFrom; generalize hPI : pyIter = PI
        wp_walk
        subst hPI
        refine wpAny_pyIter_list hl1 (wpAny_bind (wpAny_runValue ?_)); have hh3 : A.in1.in1.in1.handled = none := by simp [hh]
        have hneI : l ≠ (s.heap.push { cls := .type "set", dict := none, data := .set #[] 0 (.fresh 0 0 led) }).objs.size := by rw [Heap.size_push]; exact Nat.ne_of_lt (Nat.lt_succ_of_lt hlS)
        have hSf : s.heap.objs.size ∉ [(s.heap.push { cls := .type "set", dict := none, data := .set #[] 0 (.fresh 0 0 led) }).objs.size, l] := by
          rw [Heap.size_push]; simp only [List.mem_cons, List.not_mem_nil, or_false, not_or]; exact ⟨Nat.ne_of_lt (Nat.lt_succ_self _), Nat.ne_of_gt hlS⟩
        have hval : ∀ (i : Nat) (v : Value), items[i]? = some v → ∃ t, v = .str (xs.getD i Str.empty) t := fun i v hv => SS.strs_at hi i v (by rw [Array.getElem?_toList]; exact hv)
        refine loopT ((Walks.list hh3 _ l hneI items).toS) s.heap.objs.size hSf xs hxl hb hval (items.size - 0) 0 _ (by omega) (Nat.zero_le _) ⟨⟨_, Heap.get?_push_size _ rfl, rfl, rfl⟩, (hl1.push _)⟩ (hS0.at fun o ho => Heap.get?_push_of_some _ ho) ?_
        intro s' hm hS'; obtain ⟨h', g', d', tk', os'⟩ := s'
        have eg : g' = s.gens := hm.gens; have ed : d' = s.drawn := hm.drawn; have eo : os' = s.os := hm.os
        subst eg; subst ed; subst eo; show wpAny _ _ _ _ _ _
        refine wpAny_pure ?_; show wpAny _ _ (ret Value.none) _ _ _
        refine wpAny_pure ⟨rfl, h', tk', rfl, hS', fun b o hb e => ?_⟩; have hb1 : b ≠ s.heap.objs.size := Nat.ne_of_lt hb
        have hb2 : b ≠ (s.heap.push { cls := .type "set", dict := none, data := .set #[] 0 (.fresh 0 0 led) }).objs.size := by rw [Heap.size_push]; exact Nat.ne_of_lt (Nat.lt_succ_of_lt hb)
        exact hm.heap b o (by simp only [List.mem_cons, List.not_mem_nil, or_false, not_or]; exact ⟨hb1, hb2⟩) (Heap.get?_push_of_some _ (Heap.get?_push_of_some _ e))
      · cases r₂ with
        | error e => exact hr₂
        | ok fl₂ =>
          cases fl₂ with
          | ret r =>
            obtain ⟨rfl, h', tk, rfl, hS', hk'⟩ := hr₂; repeat (any_goals (first | assumption | wp_step))
            exact h _ _ hS' hk'
          | _ => exact hr₂.elim
    | _ => exact hr.elim
theorem strs_of : ∀ (l : List Value), (∀ v ∈ l, ∃ k tk, v = Value.str k tk) → ∃ ss, StrsAre l ss
  | [], _ => ⟨[], .nil⟩
  | v :: l, h => by
    obtain ⟨k, tk, rfl⟩ := h v List.mem_cons_self
    obtain ⟨ss, r⟩ := strs_of l fun u hu => h u (List.mem_cons_of_mem _ hu)
    exact ⟨k :: ss, .cons k tk r⟩
end
end RX
end
section
set_option maxRecDepth 100000
set_option maxHeartbeats 4000000
/-! set(list of texts), sorted(set of texts) over the layer -/
namespace RX
open PySem PySem.Spec PyProof.Rows L2
section
variable {P : Program} {w : World} {A : Around} {E : Value → Shared → Prop} {s : Shared} {a : Addr} {S : Str → Bool} {n : Nat}
theorem sorted_setT {Q : Value → Shared → Prop} (R : SetT w s.heap a S n) (hh : A.handled = none)
    (hQ : ∀ s' p (out : Array Value) (c : Nat) (ss : List Str), (∀ b o, s.heap.get? b = some o → s'.heap.get? b = some o) → s'.gens = s.gens → s'.os = s.os → s.heap.objs.size ≤ p → s'.heap.get? p = some (seqObj "list" out c) →
      StrsAre out.toList ss → sortedS ss = true → ss.Nodup → (∀ k, k ∈ ss ↔ S k = true) → ss.length = n → n < scanBound → Q (.ref p) s') : wpAny (model P w) A (call (.builtin "sorted") [.ref a]) Q E s := by
  obtain ⟨o, es, ep, t, ho, hex, hd, g, nd, hm, hb, hf, hn, hr, hl⟩ := R
  refine Calls.call_function_entry kind_sorted plain_sorted entry_sorted (args_sorted1 _) ?_; unfold Builtin.«sorted»
  refine wpAny_bind (m := checkCount "sorted" 1 1 _) (wpAny_pure (wpAny_bind (collect_set (A := A.in1) hh ⟨o, ho, hex.1, hd⟩ hf hb hr hl fun s1 vs k1 hz g1 o1 pm => ?_)))
  have hvl : vs.length = n := by rw [pm.length_eq, List.length_map, Array.length_toList]; exact hn
  have hg : ∀ v ∈ vs, ∃ k tk, v = Value.str k tk := fun v hv => by
    obtain ⟨e, he, q⟩ := List.mem_map.mp (pm.mem_iff.mp hv); obtain ⟨k, tk, h1, _⟩ := g e he; exact ⟨k, tk, by rw [← q]; exact h1⟩
  obtain ⟨ss, hI⟩ := strs_of vs hg
  have ek : ∀ {vs : List Value} {ss : List Str}, StrsAre vs ss → ss = vs.map fun v => skey (0, v) := fun {vs ss} h => by
    induction h with
    | nil => rfl
    | cons y k r ih => rw [List.map_cons, ← ih]; rfl
  have pk : ss.Perm (es.toList.map skey) := by
    rw [ek hI]
    have q := pm.map (fun v => skey (0, v)); rw [List.map_map] at q
    exact q
  have hlz : vs.length ≤ sizeLine := by rw [hvl, ← hn]; exact fits_of_scanBound hb
  refine wpAny_bind (wpAny_newList ?_ hlz)
  have hoL : (s1.heap.push (seqObj "list" vs.toArray 0)).get? s1.heap.objs.size = some (seqObj "list" vs.toArray 0) := Heap.get?_push_size _ rfl
  refine wpAny_bind (wpAny_holding (wpAny_call_entry slot_list_sort ⟨_, hoL, rfl⟩ entry_list_sort (list_sort_treeKAny strKind_oneLt hoL hI.keysOf (fun v₁ v₂ rest e => keyKind_strs (by rw [← e]; exact hI)) hlz fun st' hp hs => ⟨_, rfl, ?_⟩) (args_list_sort _)))
  obtain ⟨ss', h1, h2, h3⟩ := sorted_out_str hI hp hs
  obtain ⟨c, hc⟩ := sortedHeap_at (vs := vs) (out := (arrOf st').map (·.2)) hoL
  have pn : ss'.Perm (es.toList.map skey) := h2.trans pk
  refine wpAny_pure ⟨_, rfl, hQ _ s1.heap.objs.size _ c ss' (fun b u e => ?_) g1 o1 hz hc h1 h3 (pn.nodup_iff.mpr nd) (fun k => by rw [pn.mem_iff, ← hm k]) (by rw [pn.length_eq, List.length_map, Array.length_toList]; exact hn) (by rw [← hn]; exact hb)⟩
  have q := k1 b u e; have hlt := Heap.lt_size q
  show (sortedHeap (s1.heap.push (seqObj "list" vs.toArray 0)) s1.heap.objs.size vs _).get? b = some u
  rw [sortedHeap_old (Nat.ne_of_lt hlt) (by rw [size_push']; exact Nat.lt_succ_of_lt hlt)]; exact Heap.get?_push_of_some _ q
end
/-- the set of texts at a -/
def SetTO (w : World) (a : Addr) (S : Str → Bool) (n : Nat) : HO := .ext fun h => SetT w h a S n
/-- one-sign texts that rise -/
theorem rise_of : ∀ (cs : List Nat), sortedS (cs.map fun c => stx [c]) = true → (cs.map fun c => stx [c]).Nodup → cs.Pairwise (· < ·) := by
  have go : ∀ (cs : List Nat) (p : Nat), risingS (stx [p]) (cs.map fun c => stx [c]) = true → ((p :: cs).map fun c => stx [c]).Nodup → (p :: cs).Pairwise (· < ·) := by
    intro cs
    induction cs with
    | nil => intro p _ _; exact List.pairwise_singleton _ _
    | cons x r ih =>
      intro p h nd
      have h' : (!ltCps (stx [x]).cps.toList (stx [p]).cps.toList && risingS (stx [x]) (r.map fun c => stx [c])) = true := h
      rw [Bool.and_eq_true] at h'
      rw [List.map_cons, List.nodup_cons] at nd
      have pr := ih x h'.2 nd.2
      have hle : ¬ x < p := by
        have h1 := h'.1
        rw [ltCps_eq, stx_list, stx_list, Bool.not_eq_true', decide_eq_false_iff_not] at h1
        intro z
        exact h1 (List.cons_lt_cons_iff.mpr (.inl z))
      have hne : p ≠ x := fun e => nd.1 (by rw [e, List.map_cons]; exact List.mem_cons_self)
      have hpx : p < x := by omega
      refine List.pairwise_cons.mpr ⟨fun y hy => ?_, pr⟩
      rcases List.mem_cons.mp hy with e | e
      · rw [e]; exact hpx
      · exact Nat.lt_trans hpx ((List.pairwise_cons.mp pr).1 y e)
  intro cs h nd
  cases cs with
  | nil => exact List.Pairwise.nil
  | cons p r => exact go r p h nd
theorem ones_of : ∀ (ss : List Str), (∀ k ∈ ss, ∃ c : Nat, k = stx [c]) → ∃ cs : List Nat, ss = cs.map fun c => stx [c]
  | [], _ => ⟨[], rfl⟩
  | k :: ss, h => by
    obtain ⟨c, rfl⟩ := h k List.mem_cons_self
    obtain ⟨cs, rfl⟩ := ones_of ss fun k hk => h k (List.mem_cons_of_mem _ hk)
    exact ⟨c :: cs, rfl⟩
theorem stx1_inj {c d : Nat} (h : stx [c] = stx [d]) : c = d := by have := stx_inj h; injection this
section
variable {X : Cx}
theorem setTO_new {w : World} {P : Program} {H : Hp} {h : Heap} {a : Addr} {S : Str → Bool} {n : Nat} (R : SetT w h a S n) : ObjOk P w H h a (SetTO w a S n) := by
  have ⟨o, _, _, _, ho, _⟩ := R
  exact ⟨R, ⟨o, ho⟩, fun h1 h2 p k => SetT.at p k⟩
theorem vals_strs : ∀ {ys : List Str} {us : List Value}, Vals (ys.map V.str) us → StrsAre us ys := strsAre_of
/-- set(list of texts) -/
def rSetT (K : PySem.W.Frag) (w : World) : List V → Hp → VK → Prop := fun xs H Q => ∃ (l : Addr) (ss : List Str), xs = [V.ref l] ∧ SqL K H l (ss.map V.str) ∧ ss.length ≤ 4000 ∧ ∀ p, H p = none → Q (.ref p) (upd H p (SetTO w p (metB ss) (metS ss).length))
theorem call_setT (hc : X.calm = true) : CallR X (.type "set") (rSetT X.K X.w) := by
  intro pins s σ H xs us Q I r h
  obtain ⟨l, ss, rfl, hs, hl, q⟩ := h
  obtain ⟨u, rfl, ru⟩ := vals1 r
  cases ru
  obtain ⟨its, rv, pl, hz⟩ := I.list hs
  have hlen : its.toArray.size = ss.length := by rw [List.size_toArray, ← rv.length, List.length_map]
  refine call_set_listT (I.ok.hd hc) pl.isList (by simpa using strsAre_of rv) (by rw [hlen]; unfold scanBound; omega) fun h' tk hS hk => ?_
  exact ⟨.ref _, upd H s.heap.objs.size (SetTO X.w s.heap.objs.size (metB ss) (metS ss).length), I.laid (t' := tk) (fun b u e => hk b u (Heap.lt_size e) e) (Nat.le_refl _) (setTO_new hS), rfl, q _ (I.hok.fresh (Nat.le_refl _))⟩
/-- sorted(set of one-sign texts) -/
def rSortT (w : World) : List V → Hp → VK → Prop := fun vs H Q => ∃ (a : Addr) (S : Str → Bool) (n : Nat), vs = [V.ref a] ∧ H a = some (SetTO w a S n) ∧ (∀ k, S k = true → ∃ c : Nat, k = stx [c]) ∧
  ∀ (cs : List Nat) (p : Addr), cs.Pairwise (· < ·) → (∀ c : Nat, c ∈ cs ↔ S (stx [c]) = true) → H p = none → Q (.ref p) (upd H p (.lst (cs.map fun c => tx [c])))
theorem cr_sortT (hc : X.calm = true) : CallR X (.builtin "sorted") (rSortT X.w) := by
  intro pins s σ H vs us Q I r h
  obtain ⟨a, S, n, rfl, ha, hone, q⟩ := h
  have R : SetT X.w s.heap a S n := (I.hok a _ ha).1
  rw [Vals.ref1 r]
  refine sorted_setT R (I.ok.hd hc) fun s' p out c ss k g o hp hg hi hs nd hm hl hb => ?_
  obtain ⟨cs, rfl⟩ := ones_of ss fun k hk => hone k ((hm k).mp hk)
  have hv : Vals (cs.map fun c => tx [c]) out.toList := by
    have go : ∀ {us : List Value} {ss : List Str}, StrsAre us ss → Vals (ss.map V.str) us := fun {us ss} h => by
      induction h with
      | nil => exact .nil
      | cons y k r ih => exact .cons ⟨k, rfl⟩ ih
    have := go hi
    rw [List.map_map] at this
    exact this
  have hlen : (cs.map fun c => tx [c]).length ≤ sizeLine := by
    rw [List.length_map] at hl ⊢
    rw [hl]; exact fits_of_scanBound hb
  have hn : H p = none := I.hok.fresh hp
  have J : Inv X pins σ (upd H p (.lst (cs.map fun c => tx [c]))) { s with heap := s'.heap, gens := s'.gens, drawn := s'.drawn, toks := s'.toks } :=
    I.call (ch := []) (Un.laid k hp hn) (I.hok.laid k hp ⟨hlen, out.toList, c, hv, hg⟩) (by rw [g]; exact I.bare) (fun _ z => nomatch z)
  have e : s' = { s with heap := s'.heap, gens := s'.gens, drawn := s'.drawn, toks := s'.toks } := by
    cases s'; cases s; cases o; rfl
  rw [e]
  refine ⟨.ref p, _, J, rfl, q cs p (rise_of cs hs nd) (fun c => ?_) hn⟩
  rw [← hm, List.mem_map]
  exact ⟨fun h => ⟨c, h, rfl⟩, fun ⟨d, hd, e⟩ => stx1_inj e ▸ hd⟩
end
end RX
end
section
set_option maxRecDepth 100000
set_option maxHeartbeats 4000000
/-! zip(text, text) as what is walked -/
namespace RX
open PySem PySem.Spec PyProof.Rows L2
/-- the signs of two texts, in new pairs -/
def Itzt (a b : Tx) : It :=
  ⟨fun i _ => i < a.length ∧ i < b.length, fun i H v H' => ∃ T c d, v = .ref T ∧ H T = none ∧ H' = upd H T (.tup [tx [c], tx [d]]) ∧ a[i]? = some c ∧ b[i]? = some d, fun i _ => i ≤ a.length ∧ i ≤ b.length ∧ (i = a.length ∨ i = b.length)⟩
theorem stx_size (a : Tx) : (stx a).cps.size = a.length := by show a.toArray.size = a.length; simp
theorem stx_get {a : Tx} {i c : Nat} (h : (stx a).cps[i]? = some c) : a[i]? = some c := by simpa [stx] using h
theorem turn_zipT {P : Program} {w : World} {K : PySem.W.Frag} {elts : List Expr} {kk : Nat} {tpos : Pos} {a b : Tx} {t u : Tok} {z TI TO i1 i2 : Addr} (S : ZipSep2 z TI TO i1 i2 [i1] [i2]) :
    Turn P w K (.Tuple elts kk tpos) (Itzt a b) [z, TI, TO, i1, i2] z (fun i h => IsZip h z TI TO .none ∧ IsTupOf2 h TI (.ref i1) (.ref i2) ∧ (∃ x y, IsTupOf2 h TO x y) ∧ h.IsStrIter i1 (strIterType (stx a)) (stx a) t i ∧ h.IsStrIter i2 (strIterType (stx b)) (stx b) u i) where
  mem := by simp
  obj := fun i h st c hc => by
    obtain ⟨hz, hTI, ⟨x, y, hTO⟩, ⟨o1, e1, _, d1⟩, ⟨o2, e2, _, d2⟩⟩ := st
    have e' : c = z ∨ c = TI ∨ c = TO ∨ c = i1 ∨ c = i2 := by simpa using hc
    rcases e' with q | q | q | q | q <;> rw [q]
    · exact ⟨_, hz, fun v q => nomatch q⟩
    · exact ⟨_, hTI, fun v q => nomatch q⟩
    · exact ⟨_, hTO, fun v q => nomatch q⟩
    · exact ⟨o1, e1, fun v q => by rw [d1] at q; cases q⟩
    · exact ⟨o2, e2, fun v q => by rw [d2] at q; cases q⟩
  keep := fun i h h' st k => by
    obtain ⟨hz, hTI, ⟨x, y, hTO⟩, ⟨o1, e1, r1⟩, ⟨o2, e2, r2⟩⟩ := st
    exact ⟨k z (by simp) _ hz, k TI (by simp) _ hTI, ⟨x, y, k TO (by simp) _ hTO⟩, ⟨o1, k i1 (by simp) _ e1, r1⟩, ⟨o2, k i2 (by simp) _ e2, r2⟩⟩
  item := by
    intro X hP hw hK hc i pins s σ H E I hf st hg; subst hP hw hK
    obtain ⟨hz, hTI, ⟨x0, y0, hTO⟩, h1, h2⟩ := st
    have hzl : z < s.heap.objs.size := Heap.lt_size hz
    have hh : X.A.in1.handled = none := by have := I.ok.hd hc; exact this
    refine wpAny_pyNext_zipD2_item S (Draws.text hh i1 (stx a) t) (Draws.text hh i2 (stx b) u) hz hTI hTO h1 h2 (by rw [stx_size]; exact hg.1) (by rw [stx_size]; exact hg.2) fun x1 x2 h' tk y1 y2 z' TO' h1' h2' hT hsz hk => ?_
    obtain ⟨c, u1, hc1, rfl⟩ := y1
    obtain ⟨d, u2, hd1, rfl⟩ := y2
    refine ⟨_, rfl, wpAny_letOwnedTupleGo_zip (s := { s with heap := h', toks := tk }) z' fun h'' z'' sb => ?_⟩
    have hT2 : h''.get? s.heap.objs.size = some { cls := .type "tuple", data := .seq #[.str ⟨#[c]⟩ u1, .str ⟨#[d]⟩ u2] } := (sb.2 _ (Nat.ne_of_gt hzl)).trans hT
    have new : ObjOk X.prog X.w (upd H s.heap.objs.size (.tup [tx [c], tx [d]])) h'' s.heap.objs.size (.tup [tx [c], tx [d]]) := ⟨by show 2 ≤ sizeLine; decide, [.str ⟨#[c]⟩ u1, .str ⟨#[d]⟩ u2], .cons ⟨_, rfl⟩ (.cons ⟨_, rfl⟩ .nil), ⟨_, hT2, rfl, _, rfl⟩⟩
    have I1 : Inv X pins σ (upd H s.heap.objs.size (.tup [tx [c], tx [d]])) { s with heap := h'', toks := tk } :=
      I.turnedNew (t' := tk) (ch := [z, TI, TO, i1, i2]) (fun e o hb q => (sb.2 e (fun q' => hb (by simp [q']))).trans (hk e o (fun q' => hb (by simp [q'])) (fun q' => hb (by simp [q'])) (fun q' => hb (by simp [q'])) (fun q' => hb (by simp [q'])) q)) hf (Nat.le_refl _) new
    refine ⟨.ref s.heap.objs.size, _, I1, rfl, ⟨_, c, d, rfl, I.hok.fresh (Nat.le_refl _), rfl, stx_get hc1, stx_get hd1⟩, ⟨z'', ?_, ⟨_, _, (sb.2 _ S.TOz).trans TO'⟩, ?_, ?_⟩, fun e hcm => ?_⟩
    · exact (sb.2 _ S.TIz).trans (hk _ _ S.TIz S.TITO S.TIi1 S.TIi2 hTI)
    · obtain ⟨o, ho, r⟩ := h1'; exact ⟨o, (sb.2 _ S.zi1.symm).trans ho, r⟩
    · obtain ⟨o, ho, r⟩ := h2'; exact ⟨o, (sb.2 _ S.zi2.symm).trans ho, r⟩
    · have hlt : e < s.heap.objs.size := by
        have e' : e = z ∨ e = TI ∨ e = TO ∨ e = i1 ∨ e = i2 := by simpa using hcm
        obtain ⟨_, e1, _⟩ := h1; obtain ⟨_, e2, _⟩ := h2
        rcases e' with q | q | q | q | q <;> rw [q]
        · exact hzl
        · exact Heap.lt_size hTI
        · exact Heap.lt_size hTO
        · exact Heap.lt_size e1
        · exact Heap.lt_size e2
      rw [upd_ne (Nat.ne_of_lt hlt)]; exact (hf e hcm).1
  done := by
    intro X hP hw hK hc i pins s σ H E I hf st hg; subst hP hw hK
    obtain ⟨hz, hTI, ⟨x0, y0, hTO⟩, h1, h2⟩ := st
    have hh : X.A.in1.handled = none := by have := I.ok.hd hc; exact this
    refine wpAny_pyNext_zipD2_end S (Draws.text hh i1 (stx a) t) (Draws.text hh i2 (stx b) u) hz hTI hTO h1 h2 (by rw [stx_size]; exact hg.1) (by rw [stx_size]; exact hg.2.1) (by rw [stx_size, stx_size]; exact hg.2.2) fun h' tk hk => ⟨rfl, ?_⟩
    exact I.turnedL (t' := tk) (ch := [z, TI, TO, i1, i2]) (fun c o hb q => hk c o (fun q' => hb (by simp [q'])) (fun q' => hb (by simp [q'])) (fun q' => hb (by simp [q'])) (fun q' => hb (by simp [q'])) q) hf
  self := fun A i s Q E st h => wpAny_pyIter_zip st.1 h
def iZipT (ta : TA) : TI := fun σ H R => ta σ H fun vs H1 => ∃ a b : Tx, vs = [tx a, tx b] ∧ R (Itzt a b) H1
theorem pi_zipT {X : Cx} {e e2 : Expr} {ta : TA} {p pos tpos : Pos} {elts : List Expr} {kk : Nat} (hg : Gl X "zip") (hm : X.mg "zip" = none) (ha : PA X [e, e2] ta)
    (hs : starEach [e, e2] X.env = (false, eval e X.env) :: starEach [e2] X.env := by rfl) (hpl : (backTo pos (starEach [e2] X.env)).any (·.1) = false := by rfl) : PI X (.Tuple elts kk tpos) (.Call (.Name "zip" p) [e, e2] [] pos) (iZipT ta) := by
  refine ⟨fun pins s σ H R I h => Call_ (ld_blt I hg hm PyProof.Rows.boot_zip (PyProof.Rows.callWith_type1 (thn (ha.run pos pins s σ H _ I h) fun us s1 ⟨vs, H1, I1, r1, q1⟩ => ?_) hs hpl))⟩
  obtain ⟨a, b, rfl, q⟩ := q1
  cases r1 with
  | cons r rr =>
    cases rr with
    | cons r' rr =>
      cases rr
      obtain ⟨t, rfl⟩ := (show ∃ t, _ = Value.str (stx a) t from r)
      obtain ⟨u, rfl⟩ := (show ∃ t, _ = Value.str (stx b) t from r')
      refine zip_begins2 (begins_text (stx a) t) (begins_text (stx b) u) trivial trivial fun h' hz hTI hTO h1 h2 hsz hk => wpAny_pyIter_zip hz ?_
      have I2 : Inv X pins σ H1 { s1 with heap := h' } := I1.kept (t' := s1.toks) hk
      have S : ZipSep2 (s1.heap.objs.size + 4) (s1.heap.objs.size + 2) (s1.heap.objs.size + 3) s1.heap.objs.size (s1.heap.objs.size + 1) [s1.heap.objs.size] [s1.heap.objs.size + 1] := by
        constructor <;> simp
      refine ⟨s1.heap.objs.size + 4, [s1.heap.objs.size + 4, s1.heap.objs.size + 2, s1.heap.objs.size + 3, s1.heap.objs.size, s1.heap.objs.size + 1], _, _, H1, rfl, I2, turn_zipT (a := a) (b := b) (t := t) (u := u) S, ⟨hz, hTI, ⟨_, _, hTO⟩, ⟨_, h1, rfl, rfl⟩, ⟨_, h2, rfl, rfl⟩⟩, fun c hcm => ?_, q⟩
      have e' : c = s1.heap.objs.size + 4 ∨ c = s1.heap.objs.size + 2 ∨ c = s1.heap.objs.size + 3 ∨ c = s1.heap.objs.size ∨ c = s1.heap.objs.size + 1 := by simpa using hcm
      have hle : s1.heap.objs.size ≤ c := by rcases e' with z | z | z | z | z <;> rw [z] <;> first | exact Nat.le_add_right _ _ | exact Nat.le_refl _
      exact I1.fpOk hle (I1.hok.fresh hle)
/-- the walk of it -/
theorem walk_zipT {a b : Tx} : Walk (Itzt a b) (min a.length b.length) (fun _ => True) (fun i H v H' => ∃ T c d, v = .ref T ∧ H T = none ∧ H' = upd H T (.tup [tx [c], tx [d]]) ∧ a[i]? = some c ∧ b[i]? = some d) :=
  ⟨fun i H hi _ => ⟨by omega, by omega⟩, fun H _ => ⟨by omega, by omega, by omega⟩, fun i H x H' hi _ y => y⟩
end RX
end
section
set_option maxRecDepth 100000
set_option maxHeartbeats 4000000
/-! len(x) by the own __len__ -/
namespace RX
open PySem PySem.Spec PyProof.Rows L2
section
variable {X : Cx} {CX : CXT} {k : Nat} {f C : Addr} {fd : FuncData} {ps : List Str} {sp : Sp} {E : XK}
def rLenOwn (C : Addr) (sp : Sp) (E : XK) : List V → Hp → VK → Prop := fun xs H Q => ∃ a dx fs, xs = [.ref a] ∧ H a = some (.ins C dx fs) ∧ sp [.ref a] H (fun v H' => ∃ n : Nat, v = .int n ∧ n ≤ 1000000 ∧ Q (.int n) H') E
theorem call_lenOwn (F : FnOk X.prog X.w X.K X.mg X.base CX k f fd ps sp) (hr : Room (k + 1) X.A) (hb : Binds X.K fd ps []) (hx : Passes CX X E)
    (hs : PySem.W.findIn X.K (.ref C) "__len__" = some (some (.ref f))) (hf : PySem.W.isFn X.K (.ref f) = true) : CallR X (.builtin "len") (rLenOwn C sp E) := by
  intro pins s σ H xs us Q I r h
  obtain ⟨a, dx, fs, rfl, ha, h⟩ := h
  obtain ⟨u, rfl, ru⟩ := vals1 r
  cases ru
  obtain ⟨od, J⟩ := ins_look I ha
  obtain ⟨m, hF⟩ := I.fr
  refine PySem.W.len_K hF I.ok.mod.kin J hs hf ?_
  refine wpAny_mono (run_at (A := X.A.in1) (vs := [V.ref a]) F hr.in1 rfl hb hx I (.cons rfl .nil) h) (fun r s' q => ?_) fun _ _ e => e
  obtain ⟨v, H', I', rv, n, rfl, hn, q⟩ := q
  obtain ⟨t, rfl⟩ := rv
  exact ⟨⟨by omega, by omega⟩, .int n, H', I'.tok _, ⟨_, rfl⟩, q⟩
end
end RX
end
section
set_option maxRecDepth 100000
set_option maxHeartbeats 4000000
/-! what is walked: a list or a tuple; enumerate of either -/
namespace RX
open PySem PySem.Spec PyProof.Rows L2
section
variable {X : Cx} {tg : Expr}
/-- over a list or a tuple -/
def iSeq (K : PySem.W.Frag) (tl : TE) : TI := fun σ H R => tl σ H fun x H1 => ∃ a, x = .ref a ∧ (((∃ xs, SqL K H1 a xs) ∧ R (Itl K a) H1) ∨ ((∃ xs, SqT K H1 a xs) ∧ R (Itt K a) H1))
theorem pi_seq {l : Expr} {tl : TE} (hl : PE X l tl) : PI X tg l (iSeq X.K tl) := by
  refine ⟨fun pins s σ H R I h => thn (hl.run pins s σ H _ I h) fun v s1 ⟨x, H1, I1, r1, q1⟩ => ?_⟩
  obtain ⟨a, e, q⟩ := q1
  subst e
  cases r1
  rcases q with ⟨⟨xs, hq⟩, q⟩ | ⟨⟨xs, hq⟩, q⟩
  · obtain ⟨its, rv, p, hz⟩ := I1.list hq
    refine wpAny_pyIter_list p.isList ⟨s1.heap.objs.size, [s1.heap.objs.size], _, _, H1, rfl, I1.kept (t' := s1.toks) fun b o e => Heap.get?_push_of_some _ e, turn_list a _, ⟨_, Heap.get?_push_size _ rfl, rfl, rfl⟩, fun b hb => ?_, q⟩
    rw [List.mem_singleton.mp hb]
    exact I1.fpOk (Nat.le_refl _) (I1.hok.fresh (Nat.le_refl _))
  · obtain ⟨its, rv, p, hz⟩ := I1.tuple hq
    refine wpAny_pyIter_tuple (show s1.heap.IsTuple a its.toArray from p) ⟨s1.heap.objs.size, [s1.heap.objs.size], _, _, H1, rfl, I1.kept (t' := s1.toks) fun b o e => Heap.get?_push_of_some _ e, turn_tuple a _, ⟨_, Heap.get?_push_size _ rfl, rfl, rfl⟩, fun b hb => ?_, q⟩
    rw [List.mem_singleton.mp hb]
    exact I1.fpOk (Nat.le_refl _) (I1.hok.fresh (Nat.le_refl _))
end
/-! ### enumerate(tuple) -/
theorem meets_enumT {v : Value} {o : Obj} {H : Heap → Prop} (B : Begins v o H) :
    Meets (Builtin.«enumerate.__new__» ⟨[.type "enumerate", v], []⟩) (fun _ R s => H s.heap ∧ R (.ok (.ret (.ref (s.heap.push o).objs.size))) { s with heap := (s.heap.push o).push { cls := .type "enumerate", data := .fields #[.none, .bool false, .ref s.heap.objs.size, rawInt 0, .none, .none] } }) :=
  .of_wp fun prog w A R s h => by
    obtain ⟨hp, g, d, tk, os⟩ := s; obtain ⟨h1, h⟩ := h; have hsub := sub_enumerate
    have q1 : ∀ {A' : Around} {E : Value → Shared → Prop} {Q : Value → Shared → Prop}, Q (.ref hp.objs.size) ⟨hp.push o, g, d, tk, os⟩ → wpAny (model prog w) A' (pyIter v) Q E ⟨hp, g, d, tk, os⟩ := fun q => B.iter prog w _ _ ⟨hp, g, d, tk, os⟩ _ h1 q
    wp_walk using q1
    refine wpAny_stack_any fun st => wpAny_pure ?_
    split
    · rename_i c _ _ _ _ _; cases (c == Value.type "enumerate")
      · wp_walk using q1
        exact ⟨_, rfl, h⟩
      · wp_walk using q1
        exact ⟨_, rfl, h⟩
    · wp_walk using q1
      exact ⟨_, rfl, h⟩
section
variable {prog : Program} {w : World} {A : Around} {E : Value → Shared → Prop} {s : Shared}
theorem call_enumT {v : Value} {o : Obj} {H : Heap → Prop} {Q : Value → Shared → Prop} (B : Begins v o H) (h1 : H s.heap)
    (h : ∀ h', IsEnum h' (s.heap.objs.size + 1) s.heap.objs.size 0 .none → h'.get? s.heap.objs.size = some o → h'.objs.size = s.heap.objs.size + 2 → (∀ b o, s.heap.get? b = some o → h'.get? b = some o) → Q (.ref (s.heap.objs.size + 1)) { s with heap := h' }) :
    wpAny (model prog w) A (call (.type "enumerate") [v]) Q E s := by
  refine callType_new F.called_enumerate (by decide) (F.typeCall_enumerate_1 _) (F.newCall_enumerate_1 _) (fun obj => F.args_object_init_2 obj _) F.entry_enumerate_new (meets_enumT B) ⟨h1, ?_⟩
  have hz : (s.heap.push o).objs.size = s.heap.objs.size + 1 := Heap.size_push ..
  have he : IsEnum ((s.heap.push o).push { cls := .type "enumerate", data := .fields #[.none, .bool false, .ref s.heap.objs.size, rawInt 0, .none, .none] }) (s.heap.objs.size + 1) s.heap.objs.size 0 .none := by
    have q := Heap.get?_push_size (s.heap.push o) (o := { cls := .type "enumerate", data := .fields #[.none, .bool false, .ref s.heap.objs.size, rawInt 0, .none, .none] }) rfl; rw [hz] at q; exact q
  show _ ∧ _
  rw [hz]; exact ⟨⟨_, he, rfl⟩, h _ he (Heap.get?_push_of_some _ (Heap.get?_push_size _ B.free)) (by rw [Heap.size_push, hz]) fun b o x => Heap.get?_push_of_some _ (Heap.get?_push_of_some _ x)⟩
end
/-- the tuple at a, each item in a new pair -/
def IteT (K : PySem.W.Frag) (a : Addr) : It :=
  ⟨fun i H => ∃ (xs : List V) (x : V), SqT K H a xs ∧ xs[i]? = some x, fun i H v H' => ∃ T x, v = .ref T ∧ H T = none ∧ H' = upd H T (.tup [.int (i : Nat), x]) ∧ ∀ xs, SqT K H a xs → xs[i]? = some x, fun i H => ∃ xs : List V, SqT K H a xs ∧ xs.length = i⟩
theorem turn_enumT {P : Program} {w : World} {K : PySem.W.Frag} {elts : List Expr} {kk : Nat} {tpos : Pos} (a e it : Addr) :
    Turn P w K (.Tuple elts kk tpos) (IteT K a) [e, it] e (fun i h => (∃ old, IsEnum h e it ((i : Nat) : Int) old) ∧ h.IsTupleIter it a i ∧ e ≠ it ∧ a ≠ it ∧ e ≠ a) where
  mem := by simp
  obj := fun i h st b hb => by
    obtain ⟨⟨old, he⟩, ⟨o, ho, hc, hd⟩, _⟩ := st
    have e' : b = e ∨ b = it := by simpa using hb
    rcases e' with z | z <;> rw [z]
    · exact ⟨_, he, fun v q => nomatch q⟩
    · exact ⟨o, ho, fun v q => by rw [hd] at q; cases q⟩
  keep := fun i h h' st k => let ⟨⟨old, he⟩, hi, r⟩ := st; ⟨⟨old, k e (by simp) _ he⟩, hi.at fun o q => k it (by simp) o q, r⟩
  item := by
    intro X hP hw hK hc i pins s σ H E I hf st hg; subst hP hw hK
    obtain ⟨⟨old, he⟩, hit, hne, hai, hea⟩ := st
    obtain ⟨xs, x, hq, hx⟩ := hg; obtain ⟨its, rv, p, hz⟩ := I.tuple hq
    obtain ⟨u, hu, ru⟩ := rv.get hx
    have hel : e < s.heap.objs.size := Heap.lt_size he
    have hil : it < s.heap.objs.size := by obtain ⟨_, q, _⟩ := hit; exact Heap.lt_size q
    have hh : X.A.in1.handled = none := by have := I.ok.hd hc; exact this
    have hin : i < its.toArray.size := by rw [List.size_toArray]; exact (List.getElem?_eq_some_iff.mp hu).1
    refine wpAny_pyNext_enum_itemD (Draws.tuple hh it a hai its.toArray) he ⟨hit, p⟩ hin hne (by simp [hne, hea]) fun x1 h' tk hP ho hst' hT hsz hk => ?_
    have ex1 : x1 = u := by
      have h1 : its.toArray[i]? = some x1 := hP
      have h2 : its.toArray[i]? = some u := by simpa using hu
      rw [h1] at h2; exact Option.some.inj h2
    subst ex1
    refine ⟨_, rfl, wpAny_letOwnedTupleGo_enum (s := { s with heap := h', toks := tk + 1 }) ho fun h'' he' sb => ?_⟩
    have hT2 : h''.get? s.heap.objs.size = some { cls := .type "tuple", data := .seq #[.int i tk, x1] } := (sb.2 _ (Nat.ne_of_gt hel)).trans hT
    have new : ObjOk X.prog X.w (upd H s.heap.objs.size (.tup [.int (i : Nat), x])) h'' s.heap.objs.size (.tup [.int (i : Nat), x]) := ⟨by show 2 ≤ sizeLine; decide, [.int i tk, x1], .cons ⟨_, rfl⟩ (.cons ru .nil), ⟨_, hT2, rfl, _, rfl⟩⟩
    have I1 : Inv X pins σ (upd H s.heap.objs.size (.tup [.int (i : Nat), x])) { s with heap := h'', toks := tk + 1 } :=
      I.turnedNew (ch := [e, it]) (fun b ob hb q => (sb.2 b (fun z => hb (by simp [z]))).trans (hk b ob (fun z => hb (by simp [z])) (fun z => hb (by simp [z])) q)) hf (Nat.le_refl _) new
    refine ⟨.ref s.heap.objs.size, _, I1, rfl, ⟨_, x, rfl, I.hok.fresh (Nat.le_refl _), rfl, fun ys hy => ?_⟩, ⟨⟨x1, ?_⟩, hst'.1.at fun o q => (sb.2 it (Ne.symm hne)).trans q, hne, hai, hea⟩, fun b hb => ?_⟩
    · rw [I.tuple_inj hy hq]; exact hx
    · rw [show ((i + 1 : Nat) : Int) = (i : Int) + 1 by omega]; exact he'
    · have hb' : b < s.heap.objs.size := by
        have e' : b = e ∨ b = it := by simpa using hb
        rcases e' with z | z <;> rw [z]
        · exact hel
        · exact hil
      rw [upd_ne (Nat.ne_of_lt hb')]; exact (hf b hb).1
  done := by
    intro X hP hw hK hc i pins s σ H E I hf st hg; subst hP hw hK
    obtain ⟨⟨old, he⟩, hit, hne, hai, hea⟩ := st
    obtain ⟨xs, hq, hx⟩ := hg; obtain ⟨its, rv, p, hz⟩ := I.tuple hq
    obtain ⟨f0, f1, f2, f3, f4, f5⟩ := hf it (by simp)
    have hh : X.A.in1.handled = none := by have := I.ok.hd hc; exact this
    have hl : its.toArray.size = i := by rw [List.size_toArray, ← rv.length, hx]
    refine wpAny_pyNext_enum_endD (Draws.tuple hh it a hai its.toArray) he (by rw [hl]; exact ⟨hit, p⟩) fun h' eb => ⟨rfl, I.turned (t' := s.toks) (fun b o hb q => eb b o hb q) f0 f1 f3 f4 f5⟩
  self := fun A i s Q E st h => let ⟨⟨_, he⟩, _⟩ := st; wpAny_pyIter_enum he h
/-- enumerate of a list or a tuple -/
def iEnumS (K : PySem.W.Frag) (ta : TA) : TI := fun σ H R => ta σ H fun vs H1 => ∃ a, vs = [.ref a] ∧ (((∃ xs, SqL K H1 a xs) ∧ R (Ite K a) H1) ∨ ((∃ xs, SqT K H1 a xs) ∧ R (IteT K a) H1))
theorem pi_enumS {X : Cx} {e : Expr} {ta : TA} {p pos tpos : Pos} {elts : List Expr} {kk : Nat} (hg : Gl X "enumerate") (hm : X.mg "enumerate" = none) (ha : PA X [e] ta) (hs : starEach [e] X.env = [(false, eval e X.env)] := by rfl) :
    PI X (.Tuple elts kk tpos) (.Call (.Name "enumerate" p) [e] [] pos) (iEnumS X.K ta) := by
  refine ⟨fun pins s σ H R I h => Call_ (ld_blt I hg hm boot_enumerate (PyProof.Rows.callWith_type1 (thn (ha.run pos pins s σ H _ I h) fun us s1 ⟨vs, H1, I1, r1, q1⟩ => ?_) hs rfl))⟩
  obtain ⟨a, ex, q⟩ := q1
  subst ex
  cases r1 with
  | cons r rr =>
    cases rr
    cases r
    have fp : ∀ b ∈ [s1.heap.objs.size + 1, s1.heap.objs.size], s1.heap.objs.size ≤ b := fun b hb => by
      have e' : b = s1.heap.objs.size + 1 ∨ b = s1.heap.objs.size := by simpa using hb
      rcases e' with z | z <;> rw [z] <;> first | exact Nat.le_add_right _ _ | exact Nat.le_refl _
    rcases q with ⟨⟨xs, hq⟩, q⟩ | ⟨⟨xs, hq⟩, q⟩
    · obtain ⟨its, rv, p', hz⟩ := I1.list hq
      refine call_enumerate_list p'.isList fun h' he hit hsz hk => wpAny_pyIter_enum he ⟨s1.heap.objs.size + 1, [s1.heap.objs.size + 1, s1.heap.objs.size], _, _, H1, rfl, I1.kept (t' := s1.toks) hk, turn_enum a (s1.heap.objs.size + 1) s1.heap.objs.size, ⟨⟨.none, he⟩, hit, Nat.succ_ne_self _⟩, fun b hb => I1.fpOk (fp b hb) (I1.hok.fresh (fp b hb)), q⟩
    · obtain ⟨its, rv, p', hz⟩ := I1.tuple hq
      have la : a < s1.heap.objs.size := by obtain ⟨o, ho, _⟩ := p'; exact Heap.lt_size ho
      refine call_enumT (begins_tuple a its.toArray) p' fun h' he hit hsz hk => wpAny_pyIter_enum he ⟨s1.heap.objs.size + 1, [s1.heap.objs.size + 1, s1.heap.objs.size], _, _, H1, rfl, I1.kept (t' := s1.toks) hk, turn_enumT a (s1.heap.objs.size + 1) s1.heap.objs.size, ⟨⟨.none, he⟩, ⟨_, hit, rfl, rfl⟩, Nat.succ_ne_self _, Nat.ne_of_lt la, Nat.ne_of_gt (Nat.lt_succ_of_lt la)⟩, fun b hb => I1.fpOk (fp b hb) (I1.hok.fresh (fp b hb)), q⟩
theorem walk_enumT {K : PySem.W.Frag} {a : Addr} {xs : List V} : Walk (IteT K a) xs.length (fun H => SqT K H a xs) (YPair (fun i => some (.int (i : Nat))) (fun i => xs[i]?)) :=
  ⟨fun i H hi q => ⟨xs, xs[i], q, by simp [hi]⟩, fun H q => ⟨xs, q, rfl⟩, fun i H x H' hi q y => let ⟨T, z, e1, e2, e3, h⟩ := y; ⟨T, _, z, e1, e2, e3, rfl, h xs q⟩⟩
end RX
end
section
set_option maxRecDepth 100000
set_option maxHeartbeats 4000000
/-! text.index(sign) -/
namespace RX
open PySem PySem.Spec PyProof.Rows L2
theorem subAt_sign (a : Tx) (c k : Nat) : Builtin.Str.subAt (stx a) (stx [c]) k = true ↔ a[k]? = some c := by
  unfold Builtin.Str.subAt
  rw [beq_iff_eq, stx_len]
  show a.toArray.extract k (k + 1) = [c].toArray ↔ _
  rw [← Array.toList_inj, Array.toList_extract]
  show (a.extract k (k + 1)) = [c] ↔ _
  rw [List.extract_eq_drop_take]
  rw [show k + 1 - k = 1 by omega]
  cases h : a[k]? with
  | none =>
    rw [List.drop_eq_nil_of_le (by rw [List.getElem?_eq_none_iff] at h; exact h)]
    simp
  | some x =>
    obtain ⟨hk, e⟩ := List.getElem?_eq_some_iff.mp h
    rw [List.drop_eq_getElem_cons hk, e]
    simp
def rIndexT : V → List V → Hp → VK → Prop := fun x xs H Q => ∃ (a : Tx) (c i : Nat), x = tx a ∧ xs = [tx [c]] ∧ a[i]? = some c ∧ (∀ j, j < i → a[j]? ≠ some c) ∧ Q (.int (i : Nat)) H
theorem mt_indexT {X : Cx} : MtR X "str.index" rIndexT := fun pins s σ H x xs v us Q I rx rxs h => mt_sindex pins s σ H x xs v us Q I rx rxs (by
  obtain ⟨a, c, i, rfl, rfl, hi, hj, q⟩ := h
  have hl : i < a.length := (List.getElem?_eq_some_iff.mp hi).1
  have at_i : StrLaws.At (stx a) (stx [c]) (stx a).length i := ⟨by rw [stx_len, stx_len]; show i + 1 ≤ _; omega, (subAt_sign a c i).mpr hi⟩
  rcases StrLaws.occ_head (stx a) (stx [c]) 1 (Nat.le_refl _) with ⟨_, hn⟩ | ⟨k, r, e, hk, hb⟩
  · exact absurd at_i (hn i)
  · have : k = i := by
      rcases Nat.lt_trichotomy k i with z | z | z
      · exact absurd ((subAt_sign a c k).mp hk.2) (hj k z)
      · exact z
      · exact absurd at_i (hb i z)
    subst this
    exact ⟨stx a, stx [c], k, r, rfl, rfl, e, q⟩)
end RX
end
section
set_option maxRecDepth 100000
set_option maxHeartbeats 4000000
/-! values as data: D, what stands for it (Rep), what is owned (Own), the state of a def's run (Stt) -/
namespace VS
open PySem L2 RX Evl
inductive D where
  | non | bl (b : Bool) | int (i : Int) | str (a : Tx)
  | lst (xs : List D) | tup (xs : List D)
  | dic (kvs : List (Key × D)) | ins (C : Addr) (fs : List (Str × D))
abbrev DS := List (Option D)
def D.scal : D → Bool
  | .lst _ => false
  | .tup _ => false
  | .dic _ => false
  | .ins _ _ => false
  | _ => true
mutual
inductive Rep (Z : Hp) : D → V → Prop
  | non : Rep Z .non .non
  | bl (b : Bool) : Rep Z (.bl b) (.bl b)
  | int (i : Int) : Rep Z (.int i) (.int i)
  | str (a : Tx) : Rep Z (.str a) (tx a)
  | lst {a : Addr} {vs : List V} {ds : List D} : Z a = some (.lst vs) → Reps Z ds vs → Rep Z (.lst ds) (.ref a)
  | tup {a : Addr} {vs : List V} {ds : List D} : Z a = some (.tup vs) → Reps Z ds vs → Rep Z (.tup ds) (.ref a)
  | dic {a : Addr} {kv : List (Key × V)} {kd : List (Key × D)} : Z a = some (.dK kv) → kd.map Prod.fst = kv.map Prod.fst → Reps Z (kd.map Prod.snd) (kv.map Prod.snd) → Rep Z (.dic kd) (.ref a)
  | ins {a C dx : Addr} {kv : List (Str × V)} {kd : List (Str × D)} : Z a = some (.ins C dx kv) → kd.map Prod.fst = kv.map Prod.fst → Reps Z (kd.map Prod.snd) (kv.map Prod.snd) → Rep Z (.ins C kd) (.ref a)
inductive Reps (Z : Hp) : List D → List V → Prop
  | nil : Reps Z [] []
  | cons {d : D} {ds : List D} {v : V} {vs : List V} : Rep Z d v → Reps Z ds vs → Reps Z (d :: ds) (v :: vs)
end
mutual
theorem Rep.mono {Z Z' : Hp} (e : Ex Z Z') : ∀ {d : D} {v : V}, Rep Z d v → Rep Z' d v
  | _, _, .non => .non
  | _, _, .bl b => .bl b
  | _, _, .int i => .int i
  | _, _, .str a => .str a
  | _, _, .lst h r => .lst (e _ _ h) (Reps.mono e r)
  | _, _, .tup h r => .tup (e _ _ h) (Reps.mono e r)
  | _, _, .dic h k r => .dic (e _ _ h) k (Reps.mono e r)
  | _, _, .ins h k r => .ins (e _ _ h) k (Reps.mono e r)
theorem Reps.mono {Z Z' : Hp} (e : Ex Z Z') : ∀ {ds : List D} {vs : List V}, Reps Z ds vs → Reps Z' ds vs
  | _, _, .nil => .nil
  | _, _, .cons h r => .cons (Rep.mono e h) (Reps.mono e r)
end
theorem Reps.length {Z : Hp} : ∀ {ds : List D} {vs : List V}, Reps Z ds vs → vs.length = ds.length
  | _, _, .nil => rfl
  | _, _, .cons _ r => by rw [List.length_cons, List.length_cons, r.length]
theorem Reps.get {Z : Hp} : ∀ {ds : List D} {vs : List V} {i : Nat} {d : D}, Reps Z ds vs → ds[i]? = some d → ∃ v, vs[i]? = some v ∧ Rep Z d v
  | _, _, _, _, .nil, e => by simp at e
  | _, _, 0, _, .cons h _, e => by simp at e; subst e; exact ⟨_, rfl, h⟩
  | _, _, i + 1, d, .cons _ r, e => by
    obtain ⟨v, h1, h2⟩ := Reps.get (i := i) (d := d) r (by simpa using e)
    exact ⟨v, by simpa using h1, h2⟩
theorem Reps.app {Z : Hp} : ∀ {ds es : List D} {vs ws : List V}, Reps Z ds vs → Reps Z es ws → Reps Z (ds ++ es) (vs ++ ws)
  | _, _, _, _, .nil, s => s
  | _, _, _, _, .cons h r, s => .cons h (r.app s)
theorem Reps.take {Z : Hp} : ∀ {ds : List D} {vs : List V} (n : Nat), Reps Z ds vs → Reps Z (ds.take n) (vs.take n)
  | _, _, 0, _ => .nil
  | _, _, _ + 1, .nil => .nil
  | _, _, n + 1, .cons h r => .cons h (r.take n)
theorem Reps.drop {Z : Hp} : ∀ {ds : List D} {vs : List V} (n : Nat), Reps Z ds vs → Reps Z (ds.drop n) (vs.drop n)
  | _, _, 0, r => r
  | _, _, _ + 1, .nil => .nil
  | _, _, n + 1, .cons _ r => r.drop n
theorem Reps.set {Z : Hp} {d : D} {v : V} (h : Rep Z d v) : ∀ {ds : List D} {vs : List V} (i : Nat), Reps Z ds vs → Reps Z (ds.set i d) (vs.set i v)
  | _, _, _, .nil => .nil
  | _, _, 0, .cons _ r => .cons h r
  | _, _, i + 1, .cons q r => .cons q (r.set h i)
theorem Rep.scal {Z Z' : Hp} {d : D} {v : V} (h : Rep Z d v) (s : d.scal = true) : Rep Z' d v := by
  cases h with
  | non => exact .non
  | bl b => exact .bl b
  | int i => exact .int i
  | str a => exact .str a
  | lst _ _ => cases s
  | tup _ _ => cases s
  | dic _ _ _ => cases s
  | ins _ _ _ => cases s
inductive L3 (P : D → V → List Addr → Prop) : List D → List V → List Addr → Prop
  | nil : L3 P [] [] []
  | cons {d : D} {v : V} {b : List Addr} {ds : List D} {vs : List V} {bs : List Addr} : P d v b → L3 P ds vs bs → L3 P (d :: ds) (v :: vs) (b ++ bs)
/-- owned down to a depth -/
def Own (Z H : Hp) : Nat → D → V → List Addr → Prop
  | 0, d, v, bs => Rep Z d v ∧ bs = []
  | n + 1, .lst xs, v, bs => ∃ a vs cs, v = .ref a ∧ H a = some (.lst vs) ∧ L3 (Own Z H n) xs vs cs ∧ bs = a :: cs
  | _ + 1, .tup xs, v, bs => Rep Z (.tup xs) v ∧ bs = []
  | n + 1, .dic kd, v, bs => ∃ a kv cs, v = .ref a ∧ H a = some (.dK kv) ∧ kd.map Prod.fst = kv.map Prod.fst ∧ L3 (Own Z H n) (kd.map Prod.snd) (kv.map Prod.snd) cs ∧ bs = a :: cs
  | n + 1, .ins C kd, v, bs => ∃ a dx kv cs, v = .ref a ∧ H a = some (.ins C dx kv) ∧ kd.map Prod.fst = kv.map Prod.fst ∧ L3 (Own Z H n) (kd.map Prod.snd) (kv.map Prod.snd) cs ∧ bs = a :: cs
  | _ + 1, .non, v, bs => v = .non ∧ bs = []
  | _ + 1, .bl b, v, bs => v = .bl b ∧ bs = []
  | _ + 1, .int i, v, bs => v = .int i ∧ bs = []
  | _ + 1, .str a, v, bs => v = tx a ∧ bs = []
theorem L3.imp {P Q : D → V → List Addr → Prop} : ∀ {ds : List D} {vs : List V} {bs : List Addr}, L3 P ds vs bs → (∀ d v b, (∀ a ∈ b, a ∈ bs) → P d v b → Q d v b) → L3 Q ds vs bs
  | _, _, _, .nil, _ => .nil
  | _, _, _, .cons h r, f => .cons (f _ _ _ (fun a ha => List.mem_append_left _ ha) h) (r.imp fun d v b hb q => f d v b (fun a ha => List.mem_append_right _ (hb a ha)) q)
theorem L3.mem {P : D → V → List Addr → Prop} : ∀ {ds : List D} {vs : List V} {bs : List Addr}, L3 P ds vs bs → ∀ a ∈ bs, ∃ d v b, P d v b ∧ a ∈ b
  | _, _, _, .nil, a, h => nomatch h
  | _, _, _, .cons h r, a, ha => by
    rcases List.mem_append.mp ha with q | q
    · exact ⟨_, _, _, h, q⟩
    · exact r.mem a q
theorem L3.reps {Z : Hp} {P : D → V → List Addr → Prop} : ∀ {ds : List D} {vs : List V} {bs : List Addr}, L3 P ds vs bs → (∀ d v b, (∀ a ∈ b, a ∈ bs) → P d v b → Rep Z d v) → Reps Z ds vs
  | _, _, _, .nil, _ => .nil
  | _, _, _, .cons h r, f => .cons (f _ _ _ (fun a ha => List.mem_append_left _ ha) h) (r.reps fun d v b hb q => f d v b (fun a ha => List.mem_append_right _ (hb a ha)) q)
theorem L3.of_reps {Z H : Hp} : ∀ {ds : List D} {vs : List V}, Reps Z ds vs → L3 (Own Z H 0) ds vs []
  | _, _, .nil => .nil
  | _, _, .cons h r => .cons (b := []) ⟨h, rfl⟩ (L3.of_reps r)
theorem L3.to_reps {Z H : Hp} : ∀ {ds : List D} {vs : List V} {bs : List Addr}, L3 (Own Z H 0) ds vs bs → Reps Z ds vs ∧ bs = []
  | _, _, _, .nil => ⟨.nil, rfl⟩
  | _, _, _, .cons h r => by
    obtain ⟨h1, rfl⟩ := h
    obtain ⟨h2, rfl⟩ := r.to_reps
    exact ⟨.cons h1 h2, rfl⟩
theorem L3.app {P : D → V → List Addr → Prop} : ∀ {ds es : List D} {vs ws : List V} {bs cs : List Addr}, L3 P ds vs bs → L3 P es ws cs → L3 P (ds ++ es) (vs ++ ws) (bs ++ cs)
  | _, _, _, _, _, _, .nil, s => s
  | _, _, _, _, _, _, .cons h r, s => by rw [List.append_assoc]; exact .cons h (r.app s)
theorem L3.length {P : D → V → List Addr → Prop} : ∀ {ds : List D} {vs : List V} {bs : List Addr}, L3 P ds vs bs → vs.length = ds.length
  | _, _, _, .nil => rfl
  | _, _, _, .cons _ r => by rw [List.length_cons, List.length_cons, r.length]
theorem Own.mono {Z H Z' H' : Hp} (e : Ex Z Z') : ∀ (n : Nat) {d : D} {v : V} {bs : List Addr}, (∀ a ∈ bs, ∀ o, H a = some o → H' a = some o) → Own Z H n d v bs → Own Z' H' n d v bs
  | 0, _, _, _, _, h => ⟨h.1.mono e, h.2⟩
  | n + 1, .lst xs, _, _, k, ⟨a, vs, cs, h1, h2, h3, h4⟩ => ⟨a, vs, cs, h1, k _ (by rw [h4]; exact List.mem_cons_self) _ h2, h3.imp fun d v b hb q => Own.mono e n (fun a ha => k a (by rw [h4]; exact List.mem_cons_of_mem _ (hb a ha))) q, h4⟩
  | _ + 1, .tup xs, _, _, _, h => ⟨h.1.mono e, h.2⟩
  | n + 1, .dic kd, _, _, k, ⟨a, kv, cs, h1, h2, hk, h3, h4⟩ => ⟨a, kv, cs, h1, k _ (by rw [h4]; exact List.mem_cons_self) _ h2, hk, h3.imp fun d v b hb q => Own.mono e n (fun a ha => k a (by rw [h4]; exact List.mem_cons_of_mem _ (hb a ha))) q, h4⟩
  | n + 1, .ins C kd, _, _, k, ⟨a, dx, kv, cs, h1, h2, hk, h3, h4⟩ => ⟨a, dx, kv, cs, h1, k _ (by rw [h4]; exact List.mem_cons_self) _ h2, hk, h3.imp fun d v b hb q => Own.mono e n (fun a ha => k a (by rw [h4]; exact List.mem_cons_of_mem _ (hb a ha))) q, h4⟩
  | _ + 1, .non, _, _, _, h => h
  | _ + 1, .bl _, _, _, _, h => h
  | _ + 1, .int _, _, _, _, h => h
  | _ + 1, .str _, _, _, _, h => h
/-- what is owned may be shared: its cells laid to the zone -/
theorem Own.rep {Z H Z' : Hp} (e : Ex Z Z') : ∀ (n : Nat) {d : D} {v : V} {bs : List Addr}, (∀ a ∈ bs, ∀ o, H a = some o → Z' a = some o) → Own Z H n d v bs → Rep Z' d v
  | 0, _, _, _, _, h => h.1.mono e
  | n + 1, .lst xs, _, _, k, ⟨a, vs, cs, h1, h2, h3, h4⟩ => by
    subst h1
    exact .lst (k _ (by rw [h4]; exact List.mem_cons_self) _ h2) (h3.reps fun d v b hb q => Own.rep e n (fun a ha => k a (by rw [h4]; exact List.mem_cons_of_mem _ (hb a ha))) q)
  | _ + 1, .tup xs, _, _, _, h => h.1.mono e
  | n + 1, .dic kd, _, _, k, ⟨a, kv, cs, h1, h2, hk, h3, h4⟩ => by
    subst h1
    exact .dic (k _ (by rw [h4]; exact List.mem_cons_self) _ h2) hk (h3.reps fun d v b hb q => Own.rep e n (fun a ha => k a (by rw [h4]; exact List.mem_cons_of_mem _ (hb a ha))) q)
  | n + 1, .ins C kd, _, _, k, ⟨a, dx, kv, cs, h1, h2, hk, h3, h4⟩ => by
    subst h1
    exact .ins (k _ (by rw [h4]; exact List.mem_cons_self) _ h2) hk (h3.reps fun d v b hb q => Own.rep e n (fun a ha => k a (by rw [h4]; exact List.mem_cons_of_mem _ (hb a ha))) q)
  | _ + 1, .non, _, _, _, h => by rw [h.1]; exact .non
  | _ + 1, .bl _, _, _, _, h => by rw [h.1]; exact .bl _
  | _ + 1, .int _, _, _, _, h => by rw [h.1]; exact .int _
  | _ + 1, .str _, _, _, _, h => by rw [h.1]; exact .str _
theorem Own.live {Z H : Hp} : ∀ (n : Nat) {d : D} {v : V} {bs : List Addr}, Own Z H n d v bs → ∀ a ∈ bs, H a ≠ none
  | 0, _, _, _, h, a, ha => by rw [h.2] at ha; cases ha
  | n + 1, .lst xs, _, _, ⟨a, vs, cs, h1, h2, h3, h4⟩, b, hb => by
    rw [h4] at hb
    rcases List.mem_cons.mp hb with e | hb
    · rw [e, h2]; intro z; cases z
    · obtain ⟨d, v, c, q1, q2⟩ := h3.mem b hb
      exact Own.live n q1 b q2
  | n + 1, .dic kd, _, _, ⟨a, kv, cs, h1, h2, hk, h3, h4⟩, b, hb => by
    rw [h4] at hb
    rcases List.mem_cons.mp hb with e | hb
    · rw [e, h2]; intro z; cases z
    · obtain ⟨d, v, c, q1, q2⟩ := h3.mem b hb
      exact Own.live n q1 b q2
  | n + 1, .ins C kd, _, _, ⟨a, dx, kv, cs, h1, h2, hk, h3, h4⟩, b, hb => by
    rw [h4] at hb
    rcases List.mem_cons.mp hb with e | hb
    · rw [e, h2]; intro z; cases z
    · obtain ⟨d, v, c, q1, q2⟩ := h3.mem b hb
      exact Own.live n q1 b q2
  | _ + 1, .tup _, _, _, h, a, ha => by rw [h.2] at ha; cases ha
  | _ + 1, .non, _, _, h, a, ha => by rw [h.2] at ha; cases ha
  | _ + 1, .bl _, _, _, h, a, ha => by rw [h.2] at ha; cases ha
  | _ + 1, .int _, _, _, h, a, ha => by rw [h.2] at ha; cases ha
  | _ + 1, .str _, _, _, h, a, ha => by rw [h.2] at ha; cases ha
theorem Own.scal {Z H : Hp} {n : Nat} {d : D} {v : V} (h : Rep Z d v) (s : d.scal = true) : Own Z H n d v [] := by
  cases n with
  | zero => exact ⟨h, rfl⟩
  | succ n =>
    cases h with
    | non => exact ⟨rfl, rfl⟩
    | bl b => exact ⟨rfl, rfl⟩
    | int i => exact ⟨rfl, rfl⟩
    | str a => exact ⟨rfl, rfl⟩
    | lst _ _ => cases s
    | tup _ _ => cases s
    | dic _ _ _ => cases s
    | ins _ _ _ => cases s
/-- what is flat at a depth needs no zone -/
def flatN : Nat → D → Bool
  | 0, d => d.scal
  | n + 1, .lst xs => xs.all (flatN n)
  | _ + 1, .tup _ => false
  | n + 1, .dic kd => kd.all fun k => flatN n k.2
  | n + 1, .ins _ kd => kd.all fun k => flatN n k.2
  | _ + 1, _ => true
theorem L3.flat {P Q : D → V → List Addr → Prop} {f : D → Bool} : ∀ {ds : List D} {vs : List V} {bs : List Addr}, L3 P ds vs bs → ds.all f = true → (∀ d v b, f d = true → P d v b → Q d v b) → L3 Q ds vs bs
  | _, _, _, .nil, _, _ => .nil
  | _, _, _, .cons h r, e, k => by
    rw [List.all_cons, Bool.and_eq_true] at e
    exact .cons (k _ _ _ e.1 h) (r.flat e.2 k)
theorem Own.flat {Z Z' H : Hp} : ∀ (n : Nat) {d : D} {v : V} {bs : List Addr}, flatN n d = true → Own Z H n d v bs → Own Z' H n d v bs
  | 0, _, _, _, f, h => ⟨h.1.scal f, h.2⟩
  | n + 1, .lst xs, _, _, f, ⟨a, vs, cs, h1, h2, h3, h4⟩ => ⟨a, vs, cs, h1, h2, h3.flat f fun d v b e q => Own.flat n e q, h4⟩
  | n + 1, .tup xs, _, _, f, _ => nomatch f
  | n + 1, .dic kd, _, _, f, ⟨a, kv, cs, h1, h2, hk, h3, h4⟩ => ⟨a, kv, cs, h1, h2, hk, h3.flat (f := flatN n) (by rw [List.all_map]; exact f) fun d v b e q => Own.flat n e q, h4⟩
  | n + 1, .ins C kd, _, _, f, ⟨a, dx, kv, cs, h1, h2, hk, h3, h4⟩ => ⟨a, dx, kv, cs, h1, h2, hk, h3.flat (f := flatN n) (by rw [List.all_map]; exact f) fun d v b e q => Own.flat n e q, h4⟩
  | _ + 1, .non, _, _, _, h => h
  | _ + 1, .bl _, _, _, _, h => h
  | _ + 1, .int _, _, _, _, h => h
  | _ + 1, .str _, _, _, _, h => h
/-- the modes: shared (o 0), owned to a depth, a pot that stands at an address -/
inductive Md where
  | o (n : Nat) | pot (p : Addr) (n : Nat)
abbrev Md.sh : Md := .o 0
def OwnM (Z H : Hp) : Md → D → V → List Addr → Prop
  | .o n => Own Z H n
  | .pot p n => fun d v bs => v = .ref p ∧ Own Z H n d v bs
theorem OwnM.mono {Z H Z' H' : Hp} (e : Ex Z Z') {μ : Md} {d : D} {v : V} {bs : List Addr} (k : ∀ a ∈ bs, ∀ o, H a = some o → H' a = some o) (h : OwnM Z H μ d v bs) : OwnM Z' H' μ d v bs := by
  cases μ with
  | o n => exact Own.mono e n k h
  | pot p n => exact ⟨h.1, Own.mono e n k h.2⟩
/-- the state: U is kept, Zc is the zone ahead; each slot stands for its data -/
structure Stt (U Zc : Hp) (μ : List Md) (ds : DS) (σ : St) (H Z : Hp) : Prop where
  exU : Ex U H
  exZ : Ex Zc Z
  sub : Ex Z H
  old : ∀ a, U a ≠ none → Z a = Zc a
  len : ds.length = σ.length
  own : ∃ ass : Nat → List Addr, (∀ i d, ds[i]? = some (some d) → ∃ v, σ[i]? = some (some v) ∧ OwnM Z H (μ.getD i .sh) d v (ass i)) ∧ (∀ i, (ass i).Nodup) ∧ (∀ i j a, a ∈ ass i → a ∈ ass j → i = j) ∧
    ∀ i a, a ∈ ass i → U a = none ∧ Z a = none ∧ H a ≠ none
section
variable {U Zc : Hp} {μ : List Md} {ds : DS} {σ : St} {H Z H' Z' : Hp}
theorem Stt.get (s : Stt U Zc μ ds σ H Z) {i : Nat} {d : D} (h : ds[i]? = some (some d)) : ∃ v bs, σ[i]? = some (some v) ∧ OwnM Z H (μ.getD i .sh) d v bs :=
  let ⟨ass, h1, _⟩ := s.own
  let ⟨v, a, b⟩ := h1 i d h
  ⟨v, ass i, a, b⟩
/-- what a rule gives: a result at a depth -/
def Ret (H Z : Hp) (n : Nat) (d : D) (Q : VK) : Prop := ∀ v H' Z', Stt H Z [.o n] [some d] [some v] H' Z' → Q v H'
theorem Stt.one {n : Nat} {d : D} {v : V} {bs : List Addr} (e1 : Ex H H') (e2 : Ex Z Z') (e3 : Ex Z' H') (e4 : ∀ a, H a ≠ none → Z' a = Z a) (h : Own Z' H' n d v bs) (nd : bs.Nodup) (fr : ∀ a ∈ bs, H a = none ∧ Z' a = none ∧ H' a ≠ none) : Stt H Z [.o n] [some d] [some v] H' Z' := by
  refine ⟨e1, e2, e3, e4, rfl, fun i => if i = 0 then bs else [], fun i d' q => ?_, fun i => ?_, fun i j a h1 h2 => ?_, fun i a h1 => ?_⟩
  · cases i with
    | zero =>
      have e : d = d' := by simpa using q
      subst e
      exact ⟨v, rfl, h⟩
    | succ i => simp at q
  · show (if i = 0 then bs else []).Nodup
    split
    · exact nd
    · exact List.nodup_nil
  · by_cases hi : i = 0 <;> by_cases hj : j = 0
    · rw [hi, hj]
    · simp [hj] at h2
    · simp [hi] at h1
    · simp [hi] at h1
  · by_cases hi : i = 0
    · simp [hi] at h1
      exact fr a h1
    · simp [hi] at h1
/-- a result that lies in the zone as it is -/
theorem Ret.rep {n : Nat} {d : D} {v : V} {Q : VK} (k : Ret H Z n d Q) (e : Ex Z H) (h : Own Z H n d v []) : Q v H :=
  k v H Z (Stt.one (fun _ _ q => q) (fun _ _ q => q) e (fun _ _ => rfl) h List.nodup_nil fun a z => nomatch z)
theorem Ret.scal {n : Nat} {d : D} {v : V} {Q : VK} (k : Ret H Z n d Q) (e : Ex Z H) (h : Rep Z d v) (s : d.scal = true) : Q v H := k.rep e (Own.scal h s)
/-- a new cell -/
theorem Ret.new {n : Nat} {d : D} {p : Addr} {o : HO} {Q : VK} (k : Ret H Z n d Q) (e : Ex Z H) (hp : H p = none) (h : Own Z (upd H p o) n d (.ref p) [p]) : Q (.ref p) (upd H p o) := by
  refine k _ _ Z (Stt.one (Ex.new hp) (fun _ _ q => q) (fun a o q => Ex.new hp _ _ (e a o q)) (fun _ _ => rfl) h (by simp) fun a ha => ?_)
  obtain rfl : a = p := by simpa using ha
  refine ⟨hp, ?_, by rw [upd_same]; intro z; cases z⟩
  cases q : Z a with
  | none => rfl
  | some u => rw [e _ _ q] at hp; cases hp
/-- a new cell of the zone -/
theorem Ret.newZ {n : Nat} {d : D} {p : Addr} {o : HO} {Q : VK} (k : Ret H Z n d Q) (e : Ex Z H) (hp : H p = none) (h : Own (upd Z p o) (upd H p o) n d (.ref p) []) : Q (.ref p) (upd H p o) := by
  have hz : Z p = none := by
    cases q : Z p with
    | none => rfl
    | some u => rw [e _ _ q] at hp; cases hp
  refine k _ _ (upd Z p o) (Stt.one (Ex.new hp) (Ex.new hz) (fun a u q => ?_) (fun a ha => ?_) h List.nodup_nil fun a z => nomatch z)
  · by_cases ha : a = p
    · subst ha; rw [upd_same] at q ⊢; exact q
    · rw [upd_ne ha] at q ⊢; exact e _ _ q
  · rw [upd_ne]
    intro z
    subst z
    exact ha hp
/-- a result is put ahead of the slots -/
theorem Stt.push {n : Nat} {d : D} {v : V} (s : Stt U Zc μ ds σ H Z) (r : Stt H Z [.o n] [some d] [some v] H' Z') : Stt U Zc (.o n :: μ) (some d :: ds) (some v :: σ) H' Z' := by
  obtain ⟨ass, h1, h2, h3, h4⟩ := s.own
  obtain ⟨bss, g1, g2, g3, g4⟩ := r.own
  refine ⟨fun a o e => r.exU _ _ (s.exU _ _ e), fun a o e => r.exZ _ _ (s.exZ _ _ e), r.sub, fun a ha => ?_, by simp [s.len], fun i => match i with | 0 => bss 0 | i + 1 => ass i, fun i d' q => ?_, fun i => ?_, fun i j a a1 a2 => ?_, fun i a a1 => ?_⟩
  · have hH : H a ≠ none := fun z => by
      cases q : U a with
      | none => exact ha q
      | some o => rw [s.exU _ _ q] at z; cases z
    rw [r.old a hH]
    exact s.old a ha
  · cases i with
    | zero =>
      have e : d = d' := by simpa using q
      subst e
      obtain ⟨v', a, b⟩ := g1 0 d rfl
      obtain rfl : v = v' := by simpa using a
      exact ⟨v, rfl, b⟩
    | succ i =>
      obtain ⟨v', a, b⟩ := h1 i d' (by simpa using q)
      exact ⟨v', by simpa using a, b.mono r.exZ fun a ha o e => r.exU _ _ e⟩
  · cases i with
    | zero => exact g2 0
    | succ i => exact h2 i
  · cases i with
    | zero =>
      cases j with
      | zero => rfl
      | succ j => exact absurd (g4 0 a a1).1 (h4 j a a2).2.2
    | succ i =>
      cases j with
      | zero => exact absurd (g4 0 a a2).1 (h4 i a a1).2.2
      | succ j => rw [h3 i j a a1 a2]
  · cases i with
    | zero =>
      obtain ⟨b1, b2, b3⟩ := g4 0 a a1
      refine ⟨?_, b2, b3⟩
      cases q : U a with
      | none => rfl
      | some o => rw [s.exU _ _ q] at b1; cases b1
    | succ i =>
      obtain ⟨b1, b2, b3⟩ := h4 i a a1
      refine ⟨b1, ?_, fun z => ?_⟩
      · rw [r.old a b3]; exact b2
      · cases q : H a with
        | none => exact b3 q
        | some o => rw [r.exU _ _ q] at z; cases z
theorem Stt.pop {n : Md} {d : Option D} {v : Option V} (s : Stt U Zc (n :: μ) (d :: ds) (v :: σ) H Z) : Stt U Zc μ ds σ H Z := by
  obtain ⟨ass, h1, h2, h3, h4⟩ := s.own
  refine ⟨s.exU, s.exZ, s.sub, s.old, by have := s.len; simpa using this, fun i => ass (i + 1), fun i d' q => ?_, fun i => h2 _, fun i j a a1 a2 => by have := h3 _ _ a a1 a2; omega, fun i a a1 => h4 _ a a1⟩
  obtain ⟨v', a, b⟩ := h1 (i + 1) d' (by simpa using q)
  exact ⟨v', by simpa using a, by simpa using b⟩
theorem Stt.top {n : Nat} {d : D} {v : V} (s : Stt U Zc (.o n :: μ) (some d :: ds) (some v :: σ) H Z) : ∃ bs, Own Z H n d v bs := by
  obtain ⟨v', bs, a, b⟩ := s.get (i := 0) rfl
  obtain rfl : v = v' := by simpa using a
  exact ⟨bs, b⟩
theorem Stt.top0 {d : D} {v : V} (s : Stt U Zc (.o 0 :: μ) (some d :: ds) (some v :: σ) H Z) : Rep Z d v := let ⟨_, h⟩ := s.top; h.1
/-- a slot is shared from now on -/
theorem Stt.share {i : Nat} (s : Stt U Zc μ ds σ H Z) (hi : i < μ.length) : ∃ Z', Ex Z Z' ∧ Stt U Zc (μ.set i .sh) ds σ H Z' := by
  obtain ⟨ass, h1, h2, h3, h4⟩ := s.own
  refine ⟨fun a => if a ∈ ass i then H a else Z a, fun a o e => ?_, s.exU, fun a o e => ?_, fun a o e => ?_, fun a ha => ?_, s.len, fun j => if j = i then [] else ass j, fun j d' q => ?_, fun j => ?_, fun j k a a1 a2 => ?_, fun j a a1 => ?_⟩
  · have : a ∉ ass i := fun z => by rw [(h4 i a z).2.1] at e; cases e
    simp only [if_neg this]
    exact e
  · have e := s.exZ _ _ e
    have : a ∉ ass i := fun z => by rw [(h4 i a z).2.1] at e; cases e
    simp only [if_neg this]
    exact e
  · by_cases q : a ∈ ass i
    · simpa only [if_pos q] using e
    · simp only [if_neg q] at e
      exact s.sub _ _ e
  · have : a ∉ ass i := fun z => ha (h4 i a z).1
    simp only [if_neg this]
    exact s.old a ha
  · obtain ⟨v, a, b⟩ := h1 j d' q
    refine ⟨v, a, ?_⟩
    have eZ : Ex Z (fun a => if a ∈ ass i then H a else Z a) := fun a o e => by
      have : a ∉ ass i := fun z => by rw [(h4 i a z).2.1] at e; cases e
      simp only [if_neg this]
      exact e
    by_cases hj : j = i
    · subst hj
      rw [List.getD_eq_getElem?_getD, List.getElem?_set_self hi]
      refine ⟨?_, by simp⟩
      cases hm : μ.getD j .sh with
      | o n =>
        rw [hm] at b
        exact Own.rep eZ n (fun a ha o e => by simp only [if_pos ha]; exact e) b
      | pot p n =>
        rw [hm] at b
        exact Own.rep eZ n (fun a ha o e => by simp only [if_pos ha]; exact e) b.2
    · rw [List.getD_eq_getElem?_getD, List.getElem?_set_ne (Ne.symm hj), ← List.getD_eq_getElem?_getD]
      simp only [if_neg hj]
      exact b.mono eZ fun _ _ _ e => e
  · show (if j = i then [] else ass j).Nodup
    split
    · exact List.nodup_nil
    · exact h2 j
  · by_cases hj : j = i
    · simp [hj] at a1
    · by_cases hk : k = i
      · simp [hk] at a2
      · simp only [if_neg hj] at a1
        simp only [if_neg hk] at a2
        exact h3 j k a a1 a2
  · by_cases hj : j = i
    · simp [hj] at a1
    · simp only [if_neg hj] at a1
      obtain ⟨b1, b2, b3⟩ := h4 j a a1
      refine ⟨b1, ?_, b3⟩
      have : a ∉ ass i := fun z => hj (h3 j i a a1 z)
      simp only [if_neg this]
      exact b2
/-- a result is laid into a slot -/
theorem Stt.store {n : Nat} {d : D} {v : V} {i : Nat} (s : Stt U Zc (.o n :: μ) (some d :: ds) (some v :: σ) H Z) (hi : i < μ.length) : Stt U Zc (μ.set i (.o n)) (ds.set i (some d)) (σ.set i (some v)) H Z := by
  obtain ⟨ass, h1, h2, h3, h4⟩ := s.own
  have hl : ds.length = σ.length := by have := s.len; simpa using this
  obtain ⟨v', a0, b0⟩ := h1 0 d rfl
  obtain rfl : v = v' := by simpa using a0
  refine ⟨s.exU, s.exZ, s.sub, s.old, by rw [List.length_set, List.length_set, hl], fun j => if j = i then ass 0 else ass (j + 1), fun j d' q => ?_, fun j => ?_, fun j k a a1 a2 => ?_, fun j a a1 => ?_⟩
  · by_cases hj : j = i
    · subst hj
      have hjl : j < ds.length := by
        have := (List.getElem?_eq_some_iff.mp q).1
        simpa using this
      rw [List.getElem?_set_self hjl] at q
      have e : d = d' := by simpa using q
      subst e
      refine ⟨v, List.getElem?_set_self (by omega), ?_⟩
      rw [List.getD_eq_getElem?_getD, List.getElem?_set_self hi]
      simp only [if_pos]
      exact b0
    · rw [List.getElem?_set_ne (Ne.symm hj)] at q
      obtain ⟨v1, a1, b1⟩ := h1 (j + 1) d' (by simpa using q)
      refine ⟨v1, by rw [List.getElem?_set_ne (Ne.symm hj)]; simpa using a1, ?_⟩
      rw [List.getD_eq_getElem?_getD, List.getElem?_set_ne (Ne.symm hj), ← List.getD_eq_getElem?_getD]
      simp only [if_neg hj]
      simpa using b1
  · show (if j = i then ass 0 else ass (j + 1)).Nodup
    split <;> exact h2 _
  · by_cases hj : j = i <;> by_cases hk : k = i
    · rw [hj, hk]
    · simp only [if_pos hj] at a1; simp only [if_neg hk] at a2
      exact absurd (h3 _ _ a a1 a2) (by omega)
    · simp only [if_neg hj] at a1; simp only [if_pos hk] at a2
      exact absurd (h3 _ _ a a1 a2) (by omega)
    · simp only [if_neg hj] at a1; simp only [if_neg hk] at a2
      have := h3 _ _ a a1 a2
      omega
  · by_cases hj : j = i
    · simp only [if_pos hj] at a1; exact h4 _ a a1
    · simp only [if_neg hj] at a1; exact h4 _ a a1
end
end VS
end
section
set_option maxRecDepth 100000
set_option maxHeartbeats 4000000
/-! the judgements over readings: expressions, tests, arguments; plain rules -/
namespace VS
open PySem L2 RX Evl
theorem Ex.rf (H : Hp) : Ex H H := fun _ _ q => q
abbrev PP := Hp → Hp → D → V → Prop
/-- shared; owned to one level or shared; anything that stands in the heap -/
def PZ : PP := fun Z _ d v => Rep Z d v
def P1 : PP := fun Z H d v => ∃ n bs, n ≤ 1 ∧ Own Z H n d v bs
def PH : PP := fun _ H d v => Rep H d v
structure Mo (P : PP) : Prop where
  m : ∀ {Z Z' H H' : Hp} {d : D} {v : V}, Ex Z Z' → Ex H H' → P Z H d v → P Z' H' d v
theorem mo_Z : Mo PZ := ⟨fun e _ h => Rep.mono e h⟩
theorem mo_1 : Mo P1 := ⟨fun e f h => let ⟨n, bs, hn, q⟩ := h; ⟨n, bs, hn, Own.mono e n (fun a _ o z => f _ _ z) q⟩⟩
theorem mo_H : Mo PH := ⟨fun _ f h => Rep.mono f h⟩
theorem PZ.one {Z H : Hp} {d : D} {v : V} (h : PZ Z H d v) : P1 Z H d v := ⟨0, [], by decide, h, rfl⟩
theorem P1.h {Z H : Hp} {d : D} {v : V} (e : Ex Z H) (h : P1 Z H d v) : PH Z H d v := let ⟨n, bs, _, q⟩ := h; Own.rep e n (fun _ _ _ z => z) q
abbrev Mr := DS → Option D
/-- an expression, nothing changed but new objects: its result at a depth -/
def VE (μ : List Md) (t : TE) (n : Nat) (m : Mr) : Prop :=
  ∀ U Zc ds σ H Z, Stt U Zc μ ds σ H Z → ∀ d, m ds = some d → ∀ Q : VK, (∀ v H' Z', Stt U Zc (.o n :: μ) (some d :: ds) (some v :: σ) H' Z' → Ex Z Z' → Ex H H' → Q v H') → t σ H Q
/-- its result seen by P -/
def VP (P : PP) (μ : List Md) (t : TE) (m : Mr) : Prop :=
  ∀ U Zc ds σ H Z, Stt U Zc μ ds σ H Z → ∀ d, m ds = some d → ∀ Q : VK, (∀ v H' Z', Stt U Zc μ ds σ H' Z' → Ex Z Z' → Ex H H' → P Z' H' d v → Q v H') → t σ H Q
/-- an expression that may change slots' contents -/
def VX (μ : List Md) (t : TE) (n : Nat) (m : DS → Option (D × DS)) : Prop :=
  ∀ U Zc ds σ H Z, Stt U Zc μ ds σ H Z → ∀ d ds', m ds = some (d, ds') → ∀ Q : VK, (∀ v H' Z', Stt U Zc (.o n :: μ) (some d :: ds') (some v :: σ) H' Z' → Ex Z Z' → Q v H') → t σ H Q
def lft (m : Mr) : DS → Option (D × DS) := fun ds => (m ds).map fun d => (d, ds)
theorem lft_some {m : Mr} {ds ds' : DS} {d : D} (h : lft m ds = some (d, ds')) : m ds = some d ∧ ds' = ds := by
  unfold lft at h
  cases e : m ds with
  | none => rw [e] at h; cases h
  | some x =>
    rw [e] at h
    have h : (x, ds) = (d, ds') := by simpa using h
    cases h
    exact ⟨rfl, rfl⟩
section
variable {μ : List Md} {t ta tb : TE} {n : Nat} {m ma mb : Mr} {P : PP}
theorem VE.x (h : VE μ t n m) : VX μ t n (lft m) := fun U Zc ds σ H Z s d ds' e Q k => by
  obtain ⟨e1, rfl⟩ := lft_some e
  exact h U Zc ds' σ H Z s d e1 Q fun v H' Z' s' e1 _ => k v H' Z' s' e1
theorem VE.sh (h : VE μ t n m) : VE μ t 0 m := fun U Zc ds σ H Z s d e Q k => h U Zc ds σ H Z s d e Q fun v H' Z' s' e1 e2 => by
  obtain ⟨Z2, e3, s2⟩ := s'.share (i := 0) (by simp)
  exact k v H' Z2 s2 (fun _ _ q => e3 _ _ (e1 _ _ q)) e2
theorem VX.sh {m : DS → Option (D × DS)} (h : VX μ t n m) : VX μ t 0 m := fun U Zc ds σ H Z s d ds' e Q k => h U Zc ds σ H Z s d ds' e Q fun v H' Z' s' e1 => by
  obtain ⟨Z2, e3, s2⟩ := s'.share (i := 0) (by simp)
  exact k v H' Z2 s2 fun _ _ q => e3 _ _ (e1 _ _ q)
theorem VE.z (h : VE μ t n m) : VP PZ μ t m := fun U Zc ds σ H Z s d e Q k => h.sh U Zc ds σ H Z s d e Q fun v H' Z' s' e1 e2 => k v H' Z' s'.pop e1 e2 s'.top0
theorem VE.h (h : VE μ t n m) : VP PH μ t m := fun U Zc ds σ H Z s d e Q k => h U Zc ds σ H Z s d e Q fun v H' Z' s' e1 e2 =>
  let ⟨_, b⟩ := s'.top
  k v H' Z' s'.pop e1 e2 (Own.rep s'.sub n (fun _ _ _ z => z) b)
theorem VE.one (h : VE μ t n m) (hn : n ≤ 1 := by decide) : VP P1 μ t m := fun U Zc ds σ H Z s d e Q k => h U Zc ds σ H Z s d e Q fun v H' Z' s' e1 e2 =>
  let ⟨bs, b⟩ := s'.top
  k v H' Z' s'.pop e1 e2 ⟨n, bs, hn, b⟩
theorem VP.h1 (h : VP P1 μ t m) : VP PH μ t m := fun U Zc ds σ H Z s d e Q k => h U Zc ds σ H Z s d e Q fun v H' Z' s' e1 e2 p => k v H' Z' s' e1 e2 (p.h s'.sub)
theorem VP.z1 (h : VP PZ μ t m) : VP P1 μ t m := fun U Zc ds σ H Z s d e Q k => h U Zc ds σ H Z s d e Q fun v H' Z' s' e1 e2 p => k v H' Z' s' e1 e2 p.one
/-- a shared result, laid ahead -/
theorem Stt.pushZ {U Zc : Hp} {ds : DS} {σ : St} {H Z : Hp} {d : D} {v : V} (s : Stt U Zc μ ds σ H Z) (h : Rep Z d v) : Stt U Zc (.o 0 :: μ) (some d :: ds) (some v :: σ) H Z :=
  s.push (Stt.one (Ex.rf _) (Ex.rf _) s.sub (fun _ _ => rfl) (n := 0) ⟨h, rfl⟩ List.nodup_nil fun a z => nomatch z)
theorem VP.e0 (h : VP PZ μ t m) : VE μ t 0 m := fun U Zc ds σ H Z s d e Q k => h U Zc ds σ H Z s d e Q fun v H' Z' s' e1 e2 p => k v H' Z' (s'.pushZ p) e1 e2
/-! names, constants -/
def mVar (i : Nat) : Mr := fun ds => (ds[i]?).join
theorem mVar_some {i : Nat} {ds : DS} {d : D} (h : mVar i ds = some d) : ds[i]? = some (some d) := by
  unfold mVar at h
  cases e : ds[i]? with
  | none => rw [e] at h; cases h
  | some x => rw [e] at h; exact congrArg some h
theorem VP.var0 {i : Nat} (hm : μ.getD i .sh = .o 0) : VP PZ μ (tVar i) (mVar i) := fun U Zc ds σ H Z s d e Q k => by
  obtain ⟨v, bs, h1, h2⟩ := s.get (mVar_some e)
  rw [hm] at h2
  exact ⟨v, h1, k v H Z s (Ex.rf _) (Ex.rf _) h2.1⟩
theorem VP.var1 {i : Nat} (hm : μ.getD i .sh = .o 1) : VP P1 μ (tVar i) (mVar i) := fun U Zc ds σ H Z s d e Q k => by
  obtain ⟨v, bs, h1, h2⟩ := s.get (mVar_some e)
  rw [hm] at h2
  exact ⟨v, h1, k v H Z s (Ex.rf _) (Ex.rf _) ⟨1, bs, by decide, h2⟩⟩
theorem VP.varH {i : Nat} : VP PH μ (tVar i) (mVar i) := fun U Zc ds σ H Z s d e Q k => by
  obtain ⟨v, bs, h1, h2⟩ := s.get (mVar_some e)
  refine ⟨v, h1, k v H Z s (Ex.rf _) (Ex.rf _) ?_⟩
  cases hm : μ.getD i .sh with
  | o n => rw [hm] at h2; exact Own.rep s.sub n (fun _ _ _ z => z) h2
  | pot p n => rw [hm] at h2; exact Own.rep s.sub n (fun _ _ _ z => z) h2.2
theorem VE.var {i : Nat} (hm : μ.getD i .sh = .o 0) : VE μ (tVar i) 0 (mVar i) := (VP.var0 hm).e0
def mC (d : D) : Mr := fun _ => some d
theorem Stt.pushS {U Zc : Hp} {ds : DS} {σ : St} {H Z : Hp} {d : D} {v : V} (s : Stt U Zc μ ds σ H Z) (h : Rep Z d v) (hs : d.scal = true) : Stt U Zc (.o n :: μ) (some d :: ds) (some v :: σ) H Z :=
  s.push (Stt.one (Ex.rf _) (Ex.rf _) s.sub (fun _ _ => rfl) (n := n) (Own.scal h hs) List.nodup_nil fun a z => nomatch z)
theorem VE.c {d : D} {v : V} (h : ∀ Z, Rep Z d v) (hs : d.scal = true := by rfl) : VE μ (tC v) n (mC d) := fun U Zc ds σ H Z s d' e Q k => by
  cases e
  exact k v H Z (s.pushS (h Z) hs) (Ex.rf _) (Ex.rf _)
theorem VE.cI {i : Int} : VE μ (tC (.int i)) n (mC (.int i)) := VE.c fun _ => .int i
theorem VE.cB {b : Bool} : VE μ (tC (.bl b)) n (mC (.bl b)) := VE.c fun _ => .bl b
theorem VE.cN : VE μ (tC .non) n (mC .non) := VE.c fun _ => .non
theorem VE.cT {a : Tx} : VE μ (tC (tx a)) n (mC (.str a)) := VE.c fun _ => .str a
/-! two operands -/
def mBin (f : D → D → Option D) (a b : Mr) : Mr := fun ds => (a ds).bind fun x => (b ds).bind fun y => f x y
theorem bind_some {α β : Type} {x : Option α} {f : α → Option β} {b : β} (h : x.bind f = some b) : ∃ a, x = some a ∧ f a = some b := by
  cases x with
  | none => cases h
  | some a => exact ⟨a, rfl, h⟩
/-- what an operator does to data, seen by P -/
def OpP (P : PP) (r : R2) (f : D → D → Option D) (n : Nat) : Prop :=
  ∀ Z H x y dx dy d Q, Ex Z H → P Z H dx x → P Z H dy y → f dx dy = some d → Ret H Z n d Q → r x y H Q
theorem VE.bin {r : R2} {f : D → D → Option D} (mp : Mo P) (op : OpP P r f n) (ha : VP P μ ta ma) (hb : VP P μ tb mb) : VE μ (tOp r ta tb) n (mBin f ma mb) := fun U Zc ds σ H Z s d e Q k => by
  obtain ⟨x, e1, e⟩ := bind_some e
  obtain ⟨y, e2, e⟩ := bind_some e
  refine ha U Zc ds σ H Z s x e1 _ fun v H1 Z1 s1 f1 g1 p1 => ?_
  refine hb U Zc ds σ H1 Z1 s1 y e2 _ fun w H2 Z2 s2 f2 g2 p2 => ?_
  exact op Z2 H2 v w x y d Q s2.sub (mp.m f2 g2 p1) p2 e fun u H3 Z3 r3 => k u H3 Z3 (s2.push r3) (fun _ _ q => r3.exZ _ _ (f2 _ _ (f1 _ _ q))) fun _ _ q => r3.exU _ _ (g2 _ _ (g1 _ _ q))
def mBinX (f : D → D → Option D) (a b : DS → Option (D × DS)) : DS → Option (D × DS) := fun ds => (a ds).bind fun x => (b x.2).bind fun y => (f x.1 y.1).map fun d => (d, y.2)
theorem VX.bin {r : R2} {f : D → D → Option D} {ma mb : DS → Option (D × DS)} (op : OpP PZ r f n) (ha : VX μ ta 0 ma) (hb : VX μ tb 0 mb) : VX μ (tOp r ta tb) n (mBinX f ma mb) := fun U Zc ds σ H Z s d ds' e Q k => by
  obtain ⟨⟨x, d1⟩, e1, e⟩ := bind_some e
  obtain ⟨⟨y, d2⟩, e2, e⟩ := bind_some e
  obtain ⟨d', e3, e4⟩ := Option.map_eq_some_iff.mp e
  cases e4
  refine ha U Zc ds σ H Z s x d1 e1 _ fun v H1 Z1 s1 f1 => ?_
  refine hb U Zc d1 σ H1 Z1 s1.pop y d2 e2 _ fun w H2 Z2 s2 f2 => ?_
  exact op Z2 H2 v w x y d Q s2.sub (Rep.mono f2 s1.top0) s2.top0 e3 fun u H3 Z3 r3 => k u H3 Z3 (s2.pop.push r3) fun _ _ q => r3.exZ _ _ (f2 _ _ (f1 _ _ q))
theorem OpP.z {r : R2} {f : D → D → Option D} (h : OpP P1 r f n) : OpP PZ r f n := fun Z H x y dx dy d Q e p q => h Z H x y dx dy d Q e p.one q.one
theorem OpP.hz {r : R2} {f : D → D → Option D} (h : OpP PH r f n) : OpP PZ r f n := fun Z H x y dx dy d Q e p q => h Z H x y dx dy d Q e (Rep.mono e p) (Rep.mono e q)
/-! one operand: a reading that goes on with r -/
def UnP (P : PP) (r : V → Hp → VK → Prop) (f : D → Option D) (n : Nat) : Prop := ∀ Z H x dx d Q, Ex Z H → P Z H dx x → f dx = some d → Ret H Z n d Q → r x H Q
def mUn (f : D → Option D) (a : Mr) : Mr := fun ds => (a ds).bind f
theorem VE.un {r : V → Hp → VK → Prop} {f : D → Option D} (op : UnP P r f n) (ha : VP P μ ta ma) : VE μ (tUn r ta) n (mUn f ma) := fun U Zc ds σ H Z s d e Q k => by
  obtain ⟨x, e1, e⟩ := bind_some e
  refine ha U Zc ds σ H Z s x e1 _ fun v H1 Z1 s1 f1 g1 p1 => ?_
  exact op Z1 H1 v x d Q s1.sub p1 e fun u H3 Z3 r3 => k u H3 Z3 (s1.push r3) (fun _ _ q => r3.exZ _ _ (f1 _ _ q)) fun _ _ q => r3.exU _ _ (g1 _ _ q)
def mUnX (f : D → Option D) (a : DS → Option (D × DS)) : DS → Option (D × DS) := fun ds => (a ds).bind fun x => (f x.1).map fun d => (d, x.2)
theorem VX.un {r : V → Hp → VK → Prop} {f : D → Option D} {ma : DS → Option (D × DS)} (op : UnP PZ r f n) (ha : VX μ ta 0 ma) : VX μ (tUn r ta) n (mUnX f ma) := fun U Zc ds σ H Z s d ds' e Q k => by
  obtain ⟨⟨x, d1⟩, e1, e⟩ := bind_some e
  obtain ⟨d', e3, e4⟩ := Option.map_eq_some_iff.mp e
  cases e4
  refine ha U Zc ds σ H Z s x _ e1 _ fun v H1 Z1 s1 f1 => ?_
  exact op Z1 H1 v x d Q s1.sub s1.top0 e3 fun u H3 Z3 r3 => k u H3 Z3 (s1.pop.push r3) fun _ _ q => r3.exZ _ _ (f1 _ _ q)
end
/-! lists of arguments -/
inductive L2r (R : D → V → Prop) : List D → List V → Prop
  | nil : L2r R [] []
  | cons {d : D} {v : V} {ds : List D} {vs : List V} : R d v → L2r R ds vs → L2r R (d :: ds) (v :: vs)
theorem L2r.imp {R S : D → V → Prop} (f : ∀ d v, R d v → S d v) : ∀ {ds : List D} {vs : List V}, L2r R ds vs → L2r S ds vs
  | _, _, .nil => .nil
  | _, _, .cons h r => .cons (f _ _ h) (r.imp f)
theorem L2r.reps {Z : Hp} : ∀ {ds : List D} {vs : List V}, L2r (Rep Z) ds vs → Reps Z ds vs
  | _, _, .nil => .nil
  | _, _, .cons h r => .cons h r.reps
theorem L2r.length {R : D → V → Prop} : ∀ {ds : List D} {vs : List V}, L2r R ds vs → vs.length = ds.length
  | _, _, .nil => rfl
  | _, _, .cons _ r => by rw [List.length_cons, List.length_cons, r.length]
def VA (P : PP) (μ : List Md) (t : TA) (k : Nat) (m : DS → Option (List D)) : Prop :=
  (∀ ds xs, m ds = some xs → xs.length = k) ∧
  ∀ U Zc ds σ H Z, Stt U Zc μ ds σ H Z → ∀ xs, m ds = some xs → ∀ Q : List V → Hp → Prop, (∀ vs H' Z', Stt U Zc μ ds σ H' Z' → Ex Z Z' → Ex H H' → L2r (P Z' H') xs vs → Q vs H') → t σ H Q
def VAX (μ : List Md) (t : TA) (k : Nat) (m : DS → Option (List D × DS)) : Prop :=
  (∀ ds xs ds', m ds = some (xs, ds') → xs.length = k) ∧
  ∀ U Zc ds σ H Z, Stt U Zc μ ds σ H Z → ∀ xs ds', m ds = some (xs, ds') → ∀ Q : List V → Hp → Prop, (∀ vs H' Z', Stt U Zc μ ds' σ H' Z' → Ex Z Z' → L2r (Rep Z') xs vs → Q vs H') → t σ H Q
def mNil : DS → Option (List D) := fun _ => some []
def mCons (a : Mr) (r : DS → Option (List D)) : DS → Option (List D) := fun ds => (a ds).bind fun x => (r ds).map fun xs => x :: xs
def mNilX : DS → Option (List D × DS) := fun ds => some ([], ds)
def mConsX (a : DS → Option (D × DS)) (r : DS → Option (List D × DS)) : DS → Option (List D × DS) := fun ds => (a ds).bind fun x => (r x.2).map fun xs => (x.1 :: xs.1, xs.2)
section
variable {μ : List Md} {t ta tb : TE} {tr : TA} {n k : Nat} {m ma mb : Mr} {P : PP} {mr : DS → Option (List D)}
theorem VA.nil : VA P μ tNil 0 mNil := ⟨fun ds xs e => by cases e; rfl, fun U Zc ds σ H Z s xs e Q k => by
  cases e
  exact k [] H Z s (Ex.rf _) (Ex.rf _) .nil⟩
theorem VA.cons (mp : Mo P) (ha : VP P μ ta ma) (hr : VA P μ tr k mr) : VA P μ (tCons ta tr) (k + 1) (mCons ma mr) := ⟨fun ds xs e => by
    obtain ⟨x, e1, e⟩ := bind_some e
    obtain ⟨ys, e3, e4⟩ := Option.map_eq_some_iff.mp e
    subst e4
    rw [List.length_cons, hr.1 ds ys e3], fun U Zc ds σ H Z s xs e Q kk => by
  obtain ⟨x, e1, e⟩ := bind_some e
  obtain ⟨ys, e3, e4⟩ := Option.map_eq_some_iff.mp e
  subst e4
  refine ha U Zc ds σ H Z s x e1 _ fun v H1 Z1 s1 f1 g1 p1 => ?_
  refine hr.2 U Zc ds σ H1 Z1 s1 ys e3 _ fun vs H2 Z2 s2 f2 g2 p2 => ?_
  exact kk (v :: vs) H2 Z2 s2 (fun _ _ q => f2 _ _ (f1 _ _ q)) (fun _ _ q => g2 _ _ (g1 _ _ q)) (.cons (mp.m f2 g2 p1) p2)⟩
theorem VAX.nil : VAX μ tNil 0 mNilX := ⟨fun ds xs ds' e => by cases e; rfl, fun U Zc ds σ H Z s xs ds' e Q k => by
  cases e
  exact k [] H Z s (Ex.rf _) .nil⟩
theorem VAX.cons {ma : DS → Option (D × DS)} {mr : DS → Option (List D × DS)} (ha : VX μ ta 0 ma) (hr : VAX μ tr k mr) : VAX μ (tCons ta tr) (k + 1) (mConsX ma mr) := ⟨fun ds xs ds' e => by
    obtain ⟨x, e1, e⟩ := bind_some e
    obtain ⟨ys, e3, e4⟩ := Option.map_eq_some_iff.mp e
    cases e4
    rw [List.length_cons, hr.1 _ ys.1 ys.2 e3], fun U Zc ds σ H Z s xs ds' e Q kk => by
  obtain ⟨⟨x, d1⟩, e1, e⟩ := bind_some e
  obtain ⟨⟨ys, d2⟩, e3, e4⟩ := Option.map_eq_some_iff.mp e
  cases e4
  refine ha U Zc ds σ H Z s x d1 e1 _ fun v H1 Z1 s1 f1 => ?_
  refine hr.2 U Zc d1 σ H1 Z1 s1.pop ys _ e3 _ fun vs H2 Z2 s2 f2 p2 => ?_
  exact kk (v :: vs) H2 Z2 s2 (fun _ _ q => f2 _ _ (f1 _ _ q)) (.cons (Rep.mono f2 s1.top0) p2)⟩
def liftA (m : DS → Option (List D)) : DS → Option (List D × DS) := fun ds => (m ds).map fun xs => (xs, ds)
theorem VA.x (h : VA PZ μ tr k mr) : VAX μ tr k (liftA mr) := ⟨fun ds xs ds' e => by
    obtain ⟨ys, e3, e4⟩ := Option.map_eq_some_iff.mp e
    cases e4
    exact h.1 _ _ e3, fun U Zc ds σ H Z s xs ds' e Q kk => by
  obtain ⟨ys, e3, e4⟩ := Option.map_eq_some_iff.mp e
  cases e4
  exact h.2 U Zc _ σ H Z s _ e3 Q fun vs H' Z' s' e1 _ p => kk vs H' Z' s' e1 p⟩
/-! displays -/
def mLst (m : DS → Option (List D)) : Mr := fun ds => (m ds).map .lst
def mTup (m : DS → Option (List D)) : Mr := fun ds => (m ds).map .tup
def mLstX (m : DS → Option (List D × DS)) : DS → Option (D × DS) := fun ds => (m ds).map fun x => (.lst x.1, x.2)
def mTupX (m : DS → Option (List D × DS)) : DS → Option (D × DS) := fun ds => (m ds).map fun x => (.tup x.1, x.2)
theorem Ret.lst {H Z : Hp} {xs : List D} {vs : List V} {p : Addr} {Q : VK} (k : Ret H Z 1 (.lst xs) Q) (e : Ex Z H) (hp : H p = none) (h : Reps Z xs vs) : Q (.ref p) (upd H p (.lst vs)) :=
  k.new e hp ⟨p, vs, [], rfl, upd_same, (L3.of_reps h), rfl⟩
theorem Own.tup {Z H : Hp} {n : Nat} {xs : List D} {v : V} (h : Rep Z (.tup xs) v) : Own Z H n (.tup xs) v [] := by
  cases n with
  | zero => exact ⟨h, rfl⟩
  | succ n => exact ⟨h, rfl⟩
theorem up_ex {Z H : Hp} {p : Addr} {o : HO} (e : Ex Z H) (hp : H p = none) : Ex Z (upd Z p o) := Ex.new (by
  cases q : Z p with
  | none => rfl
  | some u => rw [e _ _ q] at hp; cases hp)
theorem Ret.tup {H Z : Hp} {n : Nat} {xs : List D} {vs : List V} {p : Addr} {Q : VK} (k : Ret H Z n (.tup xs) Q) (e : Ex Z H) (hp : H p = none) (h : Reps Z xs vs) : Q (.ref p) (upd H p (.tup vs)) :=
  k.newZ e hp (Own.tup (.tup upd_same (h.mono (up_ex e hp))))
theorem VE.lst (ha : VA PZ μ tr k mr) (hk : k ≤ 100000 := by decide) : VE μ (tLst tr) 1 (mLst mr) := fun U Zc ds σ H Z s d e Q kk => by
  obtain ⟨xs, e3, e4⟩ := Option.map_eq_some_iff.mp e
  subst e4
  refine ha.2 U Zc ds σ H Z s xs e3 _ fun vs H1 Z1 s1 f1 g1 p1 => ⟨?_, fun p hp => ?_⟩
  · rw [p1.length, ha.1 _ _ e3]
    exact Nat.le_trans hk (by decide)
  · exact Ret.lst (Z := Z1) (fun u H3 Z3 r3 => kk u H3 Z3 (s1.push r3) (fun _ _ q => r3.exZ _ _ (f1 _ _ q)) fun _ _ q => r3.exU _ _ (g1 _ _ q)) s1.sub hp p1.reps
theorem VE.tup (ha : VA PZ μ tr k mr) (hk : k ≤ 100000 := by decide) : VE μ (tTup tr) n (mTup mr) := fun U Zc ds σ H Z s d e Q kk => by
  obtain ⟨xs, e3, e4⟩ := Option.map_eq_some_iff.mp e
  subst e4
  refine ha.2 U Zc ds σ H Z s xs e3 _ fun vs H1 Z1 s1 f1 g1 p1 => ⟨?_, fun p hp => ?_⟩
  · rw [p1.length, ha.1 _ _ e3]
    exact Nat.le_trans hk (by decide)
  · exact Ret.tup (Z := Z1) (fun u H3 Z3 r3 => kk u H3 Z3 (s1.push r3) (fun _ _ q => r3.exZ _ _ (f1 _ _ q)) fun _ _ q => r3.exU _ _ (g1 _ _ q)) s1.sub hp p1.reps
theorem VX.lst {mr : DS → Option (List D × DS)} (ha : VAX μ tr k mr) (hk : k ≤ 100000 := by decide) : VX μ (tLst tr) 1 (mLstX mr) := fun U Zc ds σ H Z s d ds' e Q kk => by
  obtain ⟨xs, e3, e4⟩ := Option.map_eq_some_iff.mp e
  cases e4
  refine ha.2 U Zc ds σ H Z s xs.1 xs.2 e3 _ fun vs H1 Z1 s1 f1 p1 => ⟨?_, fun p hp => ?_⟩
  · rw [p1.length, ha.1 _ _ _ e3]
    exact Nat.le_trans hk (by decide)
  · exact Ret.lst (Z := Z1) (fun u H3 Z3 r3 => kk u H3 Z3 (s1.push r3) (fun _ _ q => r3.exZ _ _ (f1 _ _ q))) s1.sub hp p1.reps
theorem VX.tup {mr : DS → Option (List D × DS)} (ha : VAX μ tr k mr) (hk : k ≤ 100000 := by decide) : VX μ (tTup tr) n (mTupX mr) := fun U Zc ds σ H Z s d ds' e Q kk => by
  obtain ⟨xs, e3, e4⟩ := Option.map_eq_some_iff.mp e
  cases e4
  refine ha.2 U Zc ds σ H Z s xs.1 xs.2 e3 _ fun vs H1 Z1 s1 f1 p1 => ⟨?_, fun p hp => ?_⟩
  · rw [p1.length, ha.1 _ _ _ e3]
    exact Nat.le_trans hk (by decide)
  · exact Ret.tup (Z := Z1) (fun u H3 Z3 r3 => kk u H3 Z3 (s1.push r3) (fun _ _ q => r3.exZ _ _ (f1 _ _ q))) s1.sub hp p1.reps
/-! calls of builtins: a reading of the arguments -/
def ArP (P : PP) (r : List V → Hp → VK → Prop) (f : List D → Option D) (n : Nat) : Prop := ∀ Z H vs xs d Q, Ex Z H → L2r (P Z H) xs vs → f xs = some d → Ret H Z n d Q → r vs H Q
def mAr (f : List D → Option D) (m : DS → Option (List D)) : Mr := fun ds => (m ds).bind f
def mArX (f : List D → Option D) (m : DS → Option (List D × DS)) : DS → Option (D × DS) := fun ds => (m ds).bind fun x => (f x.1).map fun d => (d, x.2)
theorem VE.ar {r : List V → Hp → VK → Prop} {f : List D → Option D} (op : ArP P r f n) (ha : VA P μ tr k mr) : VE μ (tCB r tr) n (mAr f mr) := fun U Zc ds σ H Z s d e Q kk => by
  obtain ⟨xs, e1, e⟩ := bind_some e
  refine ha.2 U Zc ds σ H Z s xs e1 _ fun vs H1 Z1 s1 f1 g1 p1 => ?_
  exact op Z1 H1 vs xs d Q s1.sub p1 e fun u H3 Z3 r3 => kk u H3 Z3 (s1.push r3) (fun _ _ q => r3.exZ _ _ (f1 _ _ q)) fun _ _ q => r3.exU _ _ (g1 _ _ q)
theorem VX.ar {r : List V → Hp → VK → Prop} {f : List D → Option D} {mr : DS → Option (List D × DS)} (op : ArP PZ r f n) (ha : VAX μ tr k mr) : VX μ (tCB r tr) n (mArX f mr) := fun U Zc ds σ H Z s d ds' e Q kk => by
  obtain ⟨⟨xs, d1⟩, e1, e⟩ := bind_some e
  obtain ⟨d', e3, e4⟩ := Option.map_eq_some_iff.mp e
  cases e4
  refine ha.2 U Zc ds σ H Z s xs _ e1 _ fun vs H1 Z1 s1 f1 p1 => ?_
  exact op Z1 H1 vs xs d Q s1.sub p1 e3 fun u H3 Z3 r3 => kk u H3 Z3 (s1.push r3) (fun _ _ q => r3.exZ _ _ (f1 _ _ q))
end
end VS
end
section
set_option maxRecDepth 100000
set_option maxHeartbeats 4000000
/-! tests, statements, loops -/
namespace VS
open PySem L2 RX Evl
section
variable {U Zc : Hp} {μ : List Md} {ds : DS} {σ : St} {H Z : Hp} {n : Nat} {d : D} {v : V}
/-- the result ahead is set aside: its cells are kept -/
theorem Stt.absorb (s : Stt U Zc (.o n :: μ) (some d :: ds) (some v :: σ) H Z) :
    ∃ bs, Own Z H n d v bs ∧ bs.Nodup ∧ (∀ b ∈ bs, U b = none ∧ Z b = none ∧ H b ≠ none) ∧ Stt (fun a => if a ∈ bs then H a else U a) Zc μ ds σ H Z := by
  obtain ⟨ass, h1, h2, h3, h4⟩ := s.own
  obtain ⟨v', a0, b0⟩ := h1 0 d rfl
  obtain rfl : v = v' := by simpa using a0
  refine ⟨ass 0, b0, h2 0, fun b hb => h4 0 b hb, fun a o e => ?_, s.exZ, s.sub, fun a ha => ?_, by have := s.len; simpa using this, fun i => ass (i + 1), fun i d' q => ?_, fun i => h2 _, fun i j a a1 a2 => by have := h3 _ _ a a1 a2; omega, fun i a a1 => ?_⟩
  · by_cases q : a ∈ ass 0
    · simpa only [if_pos q] using e
    · simp only [if_neg q] at e
      exact s.exU _ _ e
  · by_cases q : a ∈ ass 0
    · have hz := (h4 0 a q).2.1
      rw [hz]
      cases w : Zc a with
      | none => rfl
      | some u => rw [s.exZ _ _ w] at hz; cases hz
    · simp only [if_neg q] at ha
      exact s.old a ha
  · obtain ⟨v', a, b⟩ := h1 (i + 1) d' (by simpa using q)
    exact ⟨v', by simpa using a, by simpa using b⟩
  · have q : a ∉ ass 0 := fun z => absurd (h3 _ _ a z a1) (by omega)
    simp only [if_neg q]
    exact h4 _ a a1
/-- what was set aside comes back as a result -/
theorem Stt.release {U' : Hp} {bs : List Addr} (s : Stt U' Zc μ ds σ H Z) (eU : Ex U U') (h : Own Z H n d v bs) (nd : bs.Nodup) (hb : ∀ b ∈ bs, U' b ≠ none ∧ U b = none ∧ Z b = none) : Stt U Zc (.o n :: μ) (some d :: ds) (some v :: σ) H Z := by
  obtain ⟨ass, h1, h2, h3, h4⟩ := s.own
  have nU : ∀ a, U a ≠ none → U' a ≠ none := fun a ha z => by
    cases q : U a with
    | none => exact ha q
    | some o => rw [eU _ _ q] at z; cases z
  refine ⟨fun a o e => s.exU _ _ (eU _ _ e), s.exZ, s.sub, fun a ha => s.old a (nU a ha), by simp [s.len], fun i => match i with | 0 => bs | i + 1 => ass i, fun i d' q => ?_, fun i => ?_, fun i j a a1 a2 => ?_, fun i a a1 => ?_⟩
  · cases i with
    | zero =>
      have e : d = d' := by simpa using q
      subst e
      exact ⟨v, rfl, h⟩
    | succ i =>
      obtain ⟨v', a, b⟩ := h1 i d' (by simpa using q)
      exact ⟨v', by simpa using a, b⟩
  · cases i with
    | zero => exact nd
    | succ i => exact h2 i
  · cases i with
    | zero =>
      cases j with
      | zero => rfl
      | succ j => exact absurd (h4 j a a2).1 (hb a a1).1
    | succ i =>
      cases j with
      | zero => exact absurd (h4 i a a1).1 (hb a a2).1
      | succ j => rw [h3 i j a a1 a2]
  · cases i with
    | zero =>
      obtain ⟨b1, b2, b3⟩ := hb a a1
      refine ⟨b2, b3, fun z => ?_⟩
      cases q : U' a with
      | none => exact b1 q
      | some o => rw [s.exU _ _ q] at z; cases z
    | succ i =>
      obtain ⟨b1, b2, b3⟩ := h4 i a a1
      refine ⟨?_, b2, b3⟩
      cases q : U a with
      | none => rfl
      | some o => rw [eU _ _ q] at b1; cases b1
/-- a kept cell that is not of the zone is changed -/
theorem Stt.change {p : Addr} {o : HO} (s : Stt U Zc μ ds σ H Z) (hU : U p ≠ none) (hZ : Z p = none) : Stt (upd U p o) Zc μ ds σ (upd H p o) Z := by
  obtain ⟨ass, h1, h2, h3, h4⟩ := s.own
  have hne : ∀ i, ∀ a ∈ ass i, a ≠ p := fun i a ha z => by subst z; exact hU (h4 i a ha).1
  refine ⟨fun a u e => ?_, s.exZ, fun a u e => ?_, fun a ha => ?_, s.len, ass, fun i d' q => ?_, h2, h3, fun i a a1 => ?_⟩
  · by_cases q : a = p
    · subst q; rw [upd_same] at e ⊢; exact e
    · rw [upd_ne q] at e ⊢; exact s.exU _ _ e
  · rw [upd_ne (fun z => by rw [z, hZ] at e; cases e)]
    exact s.sub _ _ e
  · by_cases q : a = p
    · subst q; exact s.old a hU
    · rw [upd_ne q] at ha; exact s.old a ha
  · obtain ⟨v', a, b⟩ := h1 i d' q
    exact ⟨v', a, b.mono (Ex.rf _) fun a ha o e => by rw [upd_ne (hne i a ha)]; exact e⟩
  · obtain ⟨b1, b2, b3⟩ := h4 i a a1
    rw [upd_ne (hne i a a1), upd_ne (hne i a a1)]
    exact ⟨b1, b2, b3⟩
/-- a new cell is kept -/
theorem Stt.keep {p : Addr} {o : HO} (s : Stt U Zc μ ds σ H Z) (hp : H p = none) : Stt (upd U p o) Zc μ ds σ (upd H p o) Z ∧ Ex U (upd U p o) ∧ Z p = none ∧ U p = none := by
  obtain ⟨ass, h1, h2, h3, h4⟩ := s.own
  have hz : Z p = none := by
    cases q : Z p with
    | none => rfl
    | some u => rw [s.sub _ _ q] at hp; cases hp
  have hu : U p = none := by
    cases q : U p with
    | none => rfl
    | some u => rw [s.exU _ _ q] at hp; cases hp
  have hc : Zc p = none := by
    cases q : Zc p with
    | none => rfl
    | some u => rw [s.exZ _ _ q] at hz; cases hz
  have hne : ∀ i, ∀ a ∈ ass i, a ≠ p := fun i a ha z => by subst z; exact (h4 i a ha).2.2 hp
  refine ⟨⟨fun a u e => ?_, s.exZ, fun a u e => Ex.new hp _ _ (s.sub _ _ e), fun a ha => ?_, s.len, ass, fun i d' q => ?_, h2, h3, fun i a a1 => ?_⟩, Ex.new hu, hz, hu⟩
  · by_cases q : a = p
    · subst q; rw [upd_same] at e ⊢; exact e
    · rw [upd_ne q] at e ⊢; exact s.exU _ _ e
  · by_cases q : a = p
    · subst q; rw [hz, hc]
    · rw [upd_ne q] at ha; exact s.old a ha
  · obtain ⟨v', a, b⟩ := h1 i d' q
    exact ⟨v', a, b.mono (Ex.rf _) fun a ha o e => by rw [upd_ne (hne i a ha)]; exact e⟩
  · obtain ⟨b1, b2, b3⟩ := h4 i a a1
    rw [upd_ne (hne i a a1), upd_ne (hne i a a1)]
    exact ⟨b1, b2, b3⟩
end
/-! tests -/
def VT (μ : List Md) (t : TT) (m : DS → Option (Bool × DS)) : Prop :=
  ∀ U Zc ds σ H Z, Stt U Zc μ ds σ H Z → ∀ b ds', m ds = some (b, ds') → ∀ Q : Bool → Hp → Prop, (∀ H' Z', Stt U Zc μ ds' σ H' Z' → Ex Z Z' → Q b H') → t σ H Q
/-- .. that changes nothing -/
def VTp (μ : List Md) (t : TT) (m : DS → Option Bool) : Prop :=
  ∀ U Zc ds σ H Z, Stt U Zc μ ds σ H Z → ∀ b, m ds = some b → ∀ Q : Bool → Hp → Prop, (∀ H' Z', Stt U Zc μ ds σ H' Z' → Ex Z Z' → Ex H H' → Q b H') → t σ H Q
def D.isB : D → Option Bool
  | .bl b => some b
  | _ => none
theorem isB_some {d : D} {b : Bool} (h : d.isB = some b) : d = .bl b := by
  cases d with
  | bl c => cases h; rfl
  | _ => cases h
theorem Rep.isB {Z : Hp} {b : Bool} {v : V} (h : Rep Z (.bl b) v) : v = .bl b := by cases h; rfl
def mT (m : Mr) : DS → Option Bool := fun ds => (m ds).bind D.isB
def mTX (m : DS → Option (D × DS)) : DS → Option (Bool × DS) := fun ds => (m ds).bind fun x => (x.1.isB).map fun b => (b, x.2)
def liftT (m : DS → Option Bool) : DS → Option (Bool × DS) := fun ds => (m ds).map fun b => (b, ds)
def mNotT (m : DS → Option Bool) : DS → Option Bool := fun ds => (m ds).map (!·)
def mAndT (a b : DS → Option Bool) : DS → Option Bool := fun ds => (a ds).bind fun x => if x = true then b ds else some false
def mOrT (a b : DS → Option Bool) : DS → Option Bool := fun ds => (a ds).bind fun x => if x = true then some true else b ds
def mNotTX (m : DS → Option (Bool × DS)) : DS → Option (Bool × DS) := fun ds => (m ds).map fun x => (!x.1, x.2)
def mAndTX (a b : DS → Option (Bool × DS)) : DS → Option (Bool × DS) := fun ds => (a ds).bind fun x => if x.1 = true then b x.2 else some (false, x.2)
def mOrTX (a b : DS → Option (Bool × DS)) : DS → Option (Bool × DS) := fun ds => (a ds).bind fun x => if x.1 = true then some (true, x.2) else b x.2
section
variable {μ : List Md} {t u : TT} {te ta tb : TE} {n : Nat} {m : Mr} {a b : DS → Option Bool} {ax bx : DS → Option (Bool × DS)} {mx : DS → Option (D × DS)}
theorem VTp.x (h : VTp μ t a) : VT μ t (liftT a) := fun U Zc ds σ H Z s b ds' e Q k => by
  obtain ⟨c, e1, e2⟩ := Option.map_eq_some_iff.mp e
  cases e2
  exact h U Zc _ σ H Z s _ e1 Q fun H' Z' s' f _ => k H' Z' s' f
theorem VTp.of (h : VP PH μ te m) : VTp μ (tTest te) (mT m) := fun U Zc ds σ H Z s b e Q k => by
  obtain ⟨x, e1, e2⟩ := bind_some e
  cases isB_some e2
  exact h U Zc ds σ H Z s _ e1 _ fun v H' Z' s' f g p => ⟨b, Rep.isB p, k H' Z' s' f g⟩
theorem VT.of (h : VX μ te 0 mx) : VT μ (tTest te) (mTX mx) := fun U Zc ds σ H Z s b ds' e Q k => by
  obtain ⟨⟨x, d1⟩, e1, e⟩ := bind_some e
  obtain ⟨c, e2, e3⟩ := Option.map_eq_some_iff.mp e
  cases e3
  cases isB_some e2
  exact h U Zc ds σ H Z s _ _ e1 _ fun v H' Z' s' f => ⟨_, Rep.isB s'.top0, k H' Z' s'.pop f⟩
theorem VTp.not (h : VTp μ t a) : VTp μ (tNot t) (mNotT a) := fun U Zc ds σ H Z s b e Q k => by
  obtain ⟨x, e1, e2⟩ := Option.map_eq_some_iff.mp e
  subst e2
  exact h U Zc ds σ H Z s x e1 _ fun H' Z' s' f g => k H' Z' s' f g
theorem VT.not (h : VT μ t ax) : VT μ (tNot t) (mNotTX ax) := fun U Zc ds σ H Z s b ds' e Q k => by
  obtain ⟨x, e1, e2⟩ := Option.map_eq_some_iff.mp e
  cases e2
  exact h U Zc ds σ H Z s x.1 x.2 e1 _ fun H' Z' s' f => k H' Z' s' f
theorem VTp.and (ha : VTp μ t a) (hb : VTp μ u b) : VTp μ (tAnd t u) (mAndT a b) := fun U Zc ds σ H Z s c e Q k => by
  obtain ⟨x, e1, e⟩ := bind_some e
  refine ha U Zc ds σ H Z s x e1 _ fun H' Z' s' f g => ?_
  cases x with
  | true => exact hb U Zc ds σ H' Z' s' c e Q fun H2 Z2 s2 f2 g2 => k H2 Z2 s2 (fun _ _ q => f2 _ _ (f _ _ q)) fun _ _ q => g2 _ _ (g _ _ q)
  | false => cases e; exact k H' Z' s' f g
theorem VTp.or (ha : VTp μ t a) (hb : VTp μ u b) : VTp μ (tOr t u) (mOrT a b) := fun U Zc ds σ H Z s c e Q k => by
  obtain ⟨x, e1, e⟩ := bind_some e
  refine ha U Zc ds σ H Z s x e1 _ fun H' Z' s' f g => ?_
  cases x with
  | true => cases e; exact k H' Z' s' f g
  | false => exact hb U Zc ds σ H' Z' s' c e Q fun H2 Z2 s2 f2 g2 => k H2 Z2 s2 (fun _ _ q => f2 _ _ (f _ _ q)) fun _ _ q => g2 _ _ (g _ _ q)
theorem VT.and (ha : VT μ t ax) (hb : VT μ u bx) : VT μ (tAnd t u) (mAndTX ax bx) := fun U Zc ds σ H Z s c ds' e Q k => by
  obtain ⟨⟨x, d1⟩, e1, e⟩ := bind_some e
  refine ha U Zc ds σ H Z s x d1 e1 _ fun H' Z' s' f => ?_
  cases x with
  | true => exact hb U Zc d1 σ H' Z' s' c ds' e Q fun H2 Z2 s2 f2 => k H2 Z2 s2 fun _ _ q => f2 _ _ (f _ _ q)
  | false => cases e; exact k H' Z' s' f
theorem VT.or (ha : VT μ t ax) (hb : VT μ u bx) : VT μ (tOr t u) (mOrTX ax bx) := fun U Zc ds σ H Z s c ds' e Q k => by
  obtain ⟨⟨x, d1⟩, e1, e⟩ := bind_some e
  refine ha U Zc ds σ H Z s x d1 e1 _ fun H' Z' s' f => ?_
  cases x with
  | true => cases e; exact k H' Z' s' f
  | false => exact hb U Zc d1 σ H' Z' s' c ds' e Q fun H2 Z2 s2 f2 => k H2 Z2 s2 fun _ _ q => f2 _ _ (f _ _ q)
/-! and, or, not as values; x if c else y -/
def mAnd (a b : Mr) : Mr := fun ds => (a ds).bind fun x => x.isB.bind fun c => if c = true then b ds else some (.bl false)
def mOr (a b : Mr) : Mr := fun ds => (a ds).bind fun x => x.isB.bind fun c => if c = true then some (.bl true) else b ds
def mNot (a : Mr) : Mr := fun ds => (a ds).bind fun x => x.isB.map fun c => .bl (!c)
def mIte (c : DS → Option Bool) (a b : Mr) : Mr := fun ds => (c ds).bind fun x => if x = true then a ds else b ds
def mAndX (a b : DS → Option (D × DS)) : DS → Option (D × DS) := fun ds => (a ds).bind fun x => x.1.isB.bind fun c => if c = true then b x.2 else some (.bl false, x.2)
def mOrX (a b : DS → Option (D × DS)) : DS → Option (D × DS) := fun ds => (a ds).bind fun x => x.1.isB.bind fun c => if c = true then some (.bl true, x.2) else b x.2
def mNotX (a : DS → Option (D × DS)) : DS → Option (D × DS) := fun ds => (a ds).bind fun x => x.1.isB.map fun c => (.bl (!c), x.2)
def mIteX (c : DS → Option (Bool × DS)) (a b : DS → Option (D × DS)) : DS → Option (D × DS) := fun ds => (c ds).bind fun x => if x.1 = true then a x.2 else b x.2
variable {ma mb : Mr} {mxa mxb : DS → Option (D × DS)}
theorem VE.and (ha : VP PH μ ta ma) (hb : VE μ tb n mb) : VE μ (tAndV ta tb) n (mAnd ma mb) := fun U Zc ds σ H Z s d e Q k => by
  obtain ⟨x, e1, e⟩ := bind_some e
  obtain ⟨c, e2, e⟩ := bind_some e
  cases isB_some e2
  refine ha U Zc ds σ H Z s _ e1 _ fun v H' Z' s' f g p => ⟨c, Rep.isB p, ?_⟩
  cases c with
  | true => exact hb U Zc ds σ H' Z' s' d e Q fun v2 H2 Z2 s2 f2 g2 => k v2 H2 Z2 s2 (fun _ _ q => f2 _ _ (f _ _ q)) fun _ _ q => g2 _ _ (g _ _ q)
  | false => cases e; exact k _ H' Z' (s'.pushS (.bl false) rfl) f g
theorem VE.or (ha : VP PH μ ta ma) (hb : VE μ tb n mb) : VE μ (tOrV ta tb) n (mOr ma mb) := fun U Zc ds σ H Z s d e Q k => by
  obtain ⟨x, e1, e⟩ := bind_some e
  obtain ⟨c, e2, e⟩ := bind_some e
  cases isB_some e2
  refine ha U Zc ds σ H Z s _ e1 _ fun v H' Z' s' f g p => ⟨c, Rep.isB p, ?_⟩
  cases c with
  | true => cases e; exact k _ H' Z' (s'.pushS (.bl true) rfl) f g
  | false => exact hb U Zc ds σ H' Z' s' d e Q fun v2 H2 Z2 s2 f2 g2 => k v2 H2 Z2 s2 (fun _ _ q => f2 _ _ (f _ _ q)) fun _ _ q => g2 _ _ (g _ _ q)
theorem VE.not (ha : VP PH μ ta ma) : VE μ (tNotV ta) n (mNot ma) := fun U Zc ds σ H Z s d e Q k => by
  obtain ⟨x, e1, e⟩ := bind_some e
  obtain ⟨c, e2, e3⟩ := Option.map_eq_some_iff.mp e
  subst e3
  cases isB_some e2
  exact ha U Zc ds σ H Z s _ e1 _ fun v H' Z' s' f g p => ⟨c, Rep.isB p, k _ H' Z' (s'.pushS (.bl _) rfl) f g⟩
theorem VE.ite (hc : VTp μ t a) (ha : VE μ ta n ma) (hb : VE μ tb n mb) : VE μ (tIf t ta tb) n (mIte a ma mb) := fun U Zc ds σ H Z s d e Q k => by
  obtain ⟨c, e1, e⟩ := bind_some e
  refine hc U Zc ds σ H Z s c e1 _ fun H' Z' s' f g => ?_
  cases c with
  | true => exact ha U Zc ds σ H' Z' s' d e Q fun v2 H2 Z2 s2 f2 g2 => k v2 H2 Z2 s2 (fun _ _ q => f2 _ _ (f _ _ q)) fun _ _ q => g2 _ _ (g _ _ q)
  | false => exact hb U Zc ds σ H' Z' s' d e Q fun v2 H2 Z2 s2 f2 g2 => k v2 H2 Z2 s2 (fun _ _ q => f2 _ _ (f _ _ q)) fun _ _ q => g2 _ _ (g _ _ q)
theorem VX.and (ha : VX μ ta 0 mxa) (hb : VX μ tb n mxb) : VX μ (tAndV ta tb) n (mAndX mxa mxb) := fun U Zc ds σ H Z s d ds' e Q k => by
  obtain ⟨⟨x, d1⟩, e1, e⟩ := bind_some e
  obtain ⟨c, e2, e⟩ := bind_some e
  cases isB_some e2
  refine ha U Zc ds σ H Z s _ d1 e1 _ fun v H' Z' s' f => ⟨c, Rep.isB s'.top0, ?_⟩
  cases c with
  | true => exact hb U Zc d1 σ H' Z' s'.pop d ds' e Q fun v2 H2 Z2 s2 f2 => k v2 H2 Z2 s2 (fun _ _ q => f2 _ _ (f _ _ q))
  | false => cases e; exact k _ H' Z' (s'.pop.pushS (.bl false) rfl) f
theorem VX.or (ha : VX μ ta 0 mxa) (hb : VX μ tb n mxb) : VX μ (tOrV ta tb) n (mOrX mxa mxb) := fun U Zc ds σ H Z s d ds' e Q k => by
  obtain ⟨⟨x, d1⟩, e1, e⟩ := bind_some e
  obtain ⟨c, e2, e⟩ := bind_some e
  cases isB_some e2
  refine ha U Zc ds σ H Z s _ d1 e1 _ fun v H' Z' s' f => ⟨c, Rep.isB s'.top0, ?_⟩
  cases c with
  | true => cases e; exact k _ H' Z' (s'.pop.pushS (.bl true) rfl) f
  | false => exact hb U Zc d1 σ H' Z' s'.pop d ds' e Q fun v2 H2 Z2 s2 f2 => k v2 H2 Z2 s2 (fun _ _ q => f2 _ _ (f _ _ q))
theorem VX.not (ha : VX μ ta 0 mxa) : VX μ (tNotV ta) n (mNotX mxa) := fun U Zc ds σ H Z s d ds' e Q k => by
  obtain ⟨⟨x, d1⟩, e1, e⟩ := bind_some e
  obtain ⟨c, e2, e3⟩ := Option.map_eq_some_iff.mp e
  cases e3
  cases isB_some e2
  exact ha U Zc ds σ H Z s _ _ e1 _ fun v H' Z' s' f => ⟨c, Rep.isB s'.top0, k _ H' Z' (s'.pop.pushS (.bl _) rfl) f⟩
theorem VX.ite (hc : VT μ t ax) (ha : VX μ ta n mxa) (hb : VX μ tb n mxb) : VX μ (tIf t ta tb) n (mIteX ax mxa mxb) := fun U Zc ds σ H Z s d ds' e Q k => by
  obtain ⟨⟨c, d1⟩, e1, e⟩ := bind_some e
  refine hc U Zc ds σ H Z s c d1 e1 _ fun H' Z' s' f => ?_
  cases c with
  | true => exact ha U Zc d1 σ H' Z' s' d ds' e Q fun v2 H2 Z2 s2 f2 => k v2 H2 Z2 s2 (fun _ _ q => f2 _ _ (f _ _ q))
  | false => exact hb U Zc d1 σ H' Z' s' d ds' e Q fun v2 H2 Z2 s2 f2 => k v2 H2 Z2 s2 (fun _ _ q => f2 _ _ (f _ _ q))
end
/-! statements -/
inductive Fl where
  | nx (ds : DS) | rt (d : D) (ds : DS)
abbrev Ms := DS → Option Fl
/-- what is wanted behind; io: the pot in slot 0; rn: the depth of what is returned -/
def Post (io : Option (Addr × Nat)) (rn : Nat) (U Zc : Hp) (μ : List Md) (E : Ends) : Fl → Prop
  | .nx ds => ∀ σ H Z, Stt U Zc μ ds σ H Z → E.nx σ H
  | .rt d ds => ∀ v H Z, (match io with
    | none => Stt U Zc [.o rn] [some d] [some v] H Z
    | some p => Stt U Zc [.o rn, .pot p.1 p.2] [some d, (ds[0]?).join] [some v, some (.ref p.1)] H Z) → E.rt v H
def VSt (io : Option (Addr × Nat)) (rn : Nat) (μ μ' : List Md) (t : TS) (m : Ms) : Prop :=
  ∀ U Zc ds σ H Z, Stt U Zc μ ds σ H Z → ∀ fl, m ds = some fl → ∀ E : Ends, Post io rn U Zc μ' E fl → t E σ H
section
variable {io : Option (Addr × Nat)} {rn : Nat} {μ μ' μ1 : List Md} {t u : TS} {te : TE} {tc : TT} {n i : Nat} {m k : Ms} {mx : DS → Option (D × DS)} {bx : DS → Option (Bool × DS)}
def mNext : Ms := fun ds => some (.nx ds)
theorem VSt.next : VSt io rn μ μ tNext mNext := fun U Zc ds σ H Z s fl e E p => by
  cases e
  exact p σ H Z s
def mSeq (a b : Ms) : Ms := fun ds => (a ds).bind fun
  | .nx d => b d
  | .rt d ds => some (.rt d ds)
theorem VSt.seq (ha : VSt io rn μ μ1 t m) (hb : VSt io rn μ1 μ' u k) : VSt io rn μ μ' (tSeq t u) (mSeq m k) := fun U Zc ds σ H Z s fl e E p => by
  obtain ⟨f1, e1, e⟩ := bind_some e
  refine ha U Zc ds σ H Z s f1 e1 _ ?_
  cases f1 with
  | nx d => exact fun σ' H' Z' s' => hb U Zc d σ' H' Z' s' fl e E p
  | rt d d2 => cases e; exact p
def mSet (i : Nat) (m : DS → Option (D × DS)) : Ms := fun ds => (m ds).map fun x => .nx (x.2.set i (some x.1))
theorem VSt.set (h : VX μ te n mx) (hi : Nat.blt i μ.length = true := by rfl) : VSt io rn μ (μ.set i (.o n)) (tAsg te (gName i)) (mSet i mx) := fun U Zc ds σ H Z s fl e E p => by
  obtain ⟨⟨d, d1⟩, e1, e2⟩ := Option.map_eq_some_iff.mp e
  subst e2
  exact h U Zc ds σ H Z s d d1 e1 _ fun v H' Z' s' f => p _ _ Z' (s'.store (Nat.blt_eq ▸ hi))
def mDrop (m : DS → Option (D × DS)) : Ms := fun ds => (m ds).map fun x => .nx x.2
theorem VSt.drop (h : VX μ te n mx) : VSt io rn μ μ (tDrop te) (mDrop mx) := fun U Zc ds σ H Z s fl e E p => by
  obtain ⟨⟨d, d1⟩, e1, e2⟩ := Option.map_eq_some_iff.mp e
  subst e2
  exact h U Zc ds σ H Z s d d1 e1 _ fun v H' Z' s' f => p _ _ Z' s'.pop
def mRet (m : DS → Option (D × DS)) : Ms := fun ds => (m ds).map fun x => .rt x.1 x.2
/-- the result alone -/
theorem Stt.only {U Zc H Z : Hp} {ds : DS} {σ : St} {d : D} {v : V} (s : Stt U Zc (.o n :: μ) (some d :: ds) (some v :: σ) H Z) : Stt U Zc [.o n] [some d] [some v] H Z := by
  obtain ⟨ass, h1, h2, h3, h4⟩ := s.own
  refine ⟨s.exU, s.exZ, s.sub, s.old, rfl, ass, fun i d' q => ?_, h2, h3, h4⟩
  cases i with
  | zero =>
    obtain ⟨v', a, b⟩ := h1 0 d' (by simpa using q)
    exact ⟨v', by simpa using a, by simpa using b⟩
  | succ i => simp at q
/-- the result and the pot -/
theorem Stt.only2 {U Zc H Z : Hp} {ds : DS} {σ : St} {d : D} {v : V} {p : Addr} {pn : Nat} (s : Stt U Zc (.o n :: μ) (some d :: ds) (some v :: σ) H Z) (hm : μ.getD 0 .sh = .pot p pn) : Stt U Zc [.o n, .pot p pn] [some d, (ds[0]?).join] [some v, some (.ref p)] H Z := by
  obtain ⟨ass, h1, h2, h3, h4⟩ := s.own
  refine ⟨s.exU, s.exZ, s.sub, s.old, rfl, ass, fun i d' q => ?_, h2, h3, h4⟩
  cases i with
  | zero =>
    obtain ⟨v', a, b⟩ := h1 0 d' (by simpa using q)
    exact ⟨v', by simpa using a, by simpa using b⟩
  | succ i =>
    cases i with
    | zero =>
      have q : (ds[0]?).join = some d' := by simpa using q
      have q' : ds[0]? = some (some d') := by
        cases e : ds[0]? with
        | none => rw [e] at q; cases q
        | some x => rw [e] at q; exact congrArg some q
      obtain ⟨v', a, b⟩ := h1 1 d' (by simpa using q')
      have hm' : (Md.o n :: μ).getD 1 .sh = .pot p pn := by simpa using hm
      rw [hm'] at b
      obtain ⟨b1, b2⟩ := b
      refine ⟨v', by rw [b1]; rfl, ?_⟩
      exact ⟨b1, b2⟩
    | succ i => simp at q
theorem VSt.ret (h : VX μ te rn mx) : VSt none rn μ μ' (tRet te) (mRet mx) := fun U Zc ds σ H Z s fl e E p => by
  obtain ⟨⟨d, d1⟩, e1, e2⟩ := Option.map_eq_some_iff.mp e
  subst e2
  exact h U Zc ds σ H Z s d d1 e1 _ fun v H' Z' s' f => p _ _ Z' s'.only
theorem VSt.retP {q : Addr} {qn : Nat} (h : VX μ te rn mx) (hm : μ.getD 0 .sh = .pot q qn) : VSt (some (q, qn)) rn μ μ' (tRet te) (mRet mx) := fun U Zc ds σ H Z s fl e E p => by
  obtain ⟨⟨d, d1⟩, e1, e2⟩ := Option.map_eq_some_iff.mp e
  subst e2
  exact h U Zc ds σ H Z s d d1 e1 _ fun v H' Z' s' f => p _ _ Z' (s'.only2 hm)
def mIf (c : DS → Option (Bool × DS)) (a b : Ms) : Ms := fun ds => (c ds).bind fun x => if x.1 = true then a x.2 else b x.2
theorem VSt.ite (hc : VT μ tc bx) (ha : VSt io rn μ μ' t m) (hb : VSt io rn μ μ' u k) : VSt io rn μ μ' (tIfS tc t u) (mIf bx m k) := fun U Zc ds σ H Z s fl e E p => by
  obtain ⟨⟨b, d1⟩, e1, e⟩ := bind_some e
  refine hc U Zc ds σ H Z s b d1 e1 _ fun H' Z' s' f => ?_
  cases b with
  | true => exact ha U Zc d1 σ H' Z' s' fl e E p
  | false => exact hb U Zc d1 σ H' Z' s' fl e E p
/-- never come to -/
def mNever : Ms := fun _ => none
theorem VSt.never : VSt io rn μ μ' t mNever := fun U Zc ds σ H Z s fl e E p => nomatch e
/-- a slot is shared ahead, or behind -/
theorem VSt.shA (i : Nat) (h : VSt io rn (μ.set i .sh) μ' t m) (hi : Nat.blt i μ.length = true := by rfl) : VSt io rn μ μ' t m := fun U Zc ds σ H Z s fl e E p => by
  obtain ⟨Z2, _, s2⟩ := s.share (Nat.blt_eq ▸ hi)
  exact h U Zc ds σ H Z2 s2 fl e E p
theorem VSt.shB (i : Nat) (h : VSt io rn μ μ' t m) (hi : Nat.blt i μ'.length = true := by rfl) : VSt io rn μ (μ'.set i .sh) t m := fun U Zc ds σ H Z s fl e E p => by
  refine h U Zc ds σ H Z s fl e E ?_
  cases fl with
  | nx d =>
    intro σ' H' Z' s'
    obtain ⟨Z2, _, s2⟩ := s'.share (Nat.blt_eq ▸ hi)
    exact p σ' H' Z2 s2
  | rt d d2 => exact p
end
end VS
end
section
set_option maxRecDepth 100000
set_option maxHeartbeats 4000000
/-! loops, comprehensions, parallel stores -/
namespace VS
open PySem L2 RX Evl
/-! what is walked -/
/-- J walks over the data xs, while the zone Z0 stands -/
def Wk (J : It) (xs : List D) (Z0 : Hp) : Prop := ∃ (G : Hp → Prop) (Y : Nat → Hp → V → Hp → Prop), Walk J xs.length G Y ∧ (∀ Z H, Ex Z0 Z → Ex Z H → G H) ∧
  ∀ i d Z H v H', xs[i]? = some d → Ex Z0 Z → Ex Z H → Y i H v H' → ∃ Z', Stt H Z [.o 0] [some d] [some v] H' Z'
def VI (μ : List Md) (wi : TI) (m : DS → Option (List D × DS)) : Prop :=
  ∀ U Zc ds σ H Z, Stt U Zc μ ds σ H Z → ∀ xs ds', m ds = some (xs, ds') → ∀ R : It → Hp → Prop, (∀ J H' Z', Stt U Zc μ ds' σ H' Z' → Ex Z Z' → Wk J xs Z' → R J H') → wi σ H R
def VIp (μ : List Md) (wi : TI) (m : DS → Option (List D)) : Prop :=
  ∀ U Zc ds σ H Z, Stt U Zc μ ds σ H Z → ∀ xs, m ds = some xs → ∀ R : It → Hp → Prop, (∀ J H' Z', Stt U Zc μ ds σ H' Z' → Ex Z Z' → Ex H H' → Wk J xs Z' → R J H') → wi σ H R
theorem VIp.x {μ : List Md} {wi : TI} {m : DS → Option (List D)} (h : VIp μ wi m) : VI μ wi (liftA m) := fun U Zc ds σ H Z s xs ds' e R k => by
  obtain ⟨ys, e3, e4⟩ := Option.map_eq_some_iff.mp e
  cases e4
  exact h U Zc _ σ H Z s _ e3 R fun J H' Z' s' f _ w => k J H' Z' s' f w
/-- what is done with an item -/
def VG (μ : List Md) (g : TG) (tg : D → DS → Option DS) : Prop :=
  ∀ U Zc ds σ H Z d v, Stt U Zc (.o 0 :: μ) (some d :: ds) (some v :: σ) H Z → ∀ ds', tg d ds = some ds' → ∀ Q : St → Hp → Prop, (∀ σ', Stt U Zc μ ds' σ' H Z → Q σ' H) → g v σ H Q
theorem set_same {μ : List Md} {i : Nat} {x : Md} (h : μ[i]? = some x) : μ.set i x = μ := by
  apply List.ext_getElem?
  intro j
  by_cases hj : j = i
  · subst hj
    rw [List.getElem?_set_self ((List.getElem?_eq_some_iff.mp h).1), h]
  · rw [List.getElem?_set_ne (Ne.symm hj)]
def gN (i : Nat) : D → DS → Option DS := fun d ds => some (ds.set i (some d))
theorem VG.name {μ : List Md} {i : Nat} (hi : μ[i]? = some .sh) : VG μ (gName i) (gN i) := fun U Zc ds σ H Z d v s ds' e Q k => by
  cases e
  have := s.store (i := i) (List.getElem?_eq_some_iff.mp hi).1
  rw [set_same hi] at this
  exact k _ this
/-- a tuple's parts, one by one -/
def VGs (μ : List Md) (g : TGs) (tg : List D → DS → Option DS) : Prop :=
  ∀ U Zc ds σ H Z xs vs, Stt U Zc μ ds σ H Z → Reps Z xs vs → ∀ ds', tg xs ds = some ds' → ∀ Q : St → Hp → Prop, (∀ σ', Stt U Zc μ ds' σ' H Z → Q σ' H) → g vs σ H Q
def gsN : List D → DS → Option DS := fun xs ds => match xs with
  | [] => some ds
  | _ => none
def gsC (a : D → DS → Option DS) (b : List D → DS → Option DS) : List D → DS → Option DS := fun xs ds => match xs with
  | x :: xs => (a x ds).bind fun d => b xs d
  | [] => none
theorem VGs.nil {μ : List Md} : VGs μ gNil gsN := fun U Zc ds σ H Z xs vs s r ds' e Q k => by
  cases r with
  | nil => cases e; exact ⟨rfl, k σ s⟩
  | cons _ _ => cases e
theorem VGs.cons {μ : List Md} {g : TG} {gs : TGs} {a : D → DS → Option DS} {b : List D → DS → Option DS} (ha : VG μ g a) (hb : VGs μ gs b) : VGs μ (gCons g gs) (gsC a b) := fun U Zc ds σ H Z xs vs s r ds' e Q k => by
  cases r with
  | nil => cases e
  | cons h r =>
    obtain ⟨d1, e1, e2⟩ := bind_some e
    exact ⟨_, _, rfl, ha U Zc ds σ H Z _ _ (s.pushZ h) d1 e1 _ fun σ' s' => hb U Zc d1 σ' H Z _ _ s' r ds' e2 Q k⟩
def gT (n : Nat) (b : List D → DS → Option DS) : D → DS → Option DS := fun d ds => match d with
  | .tup xs => if xs.length = n then b xs ds else none
  | _ => none
theorem VG.tup {μ : List Md} {K : PySem.W.Frag} {n : Nat} {gs : TGs} {b : List D → DS → Option DS} (hb : VGs μ gs b) : VG μ (gTup K n gs) (gT n b) := fun U Zc ds σ H Z d v s ds' e Q k => by
  have h := s.top0
  cases h with
  | tup ha r =>
    rename_i a vs xs
    have e : (if xs.length = n then b xs ds else none) = some ds' := e
    by_cases hn : xs.length = n
    · rw [if_pos hn] at e
      exact ⟨a, vs, rfl, SqT.of (s.sub _ _ ha), by rw [r.length, hn], hb U Zc ds σ H Z xs vs s.pop r ds' e Q k⟩
    · rw [if_neg hn] at e; cases e
  | non => cases e
  | bl _ => cases e
  | int _ => cases e
  | str _ => cases e
  | lst _ _ => cases e
  | dic _ _ _ => cases e
  | ins _ _ _ => cases e
/-! for -/
def loopD (tg : D → DS → Option DS) (mb : Ms) : List D → DS → Option Fl
  | [], ds => some (.nx ds)
  | x :: xs, ds => (tg x ds).bind fun d1 => (mb d1).bind fun
    | .nx d2 => loopD tg mb xs d2
    | .rt d d2 => some (.rt d d2)
def mFor (mi : DS → Option (List D × DS)) (tg : D → DS → Option DS) (mb : Ms) : Ms := fun ds => (mi ds).bind fun x => loopD tg mb x.1 x.2
section
variable {io : Option (Addr × Nat)} {rn : Nat} {μ μ' : List Md} {t u : TS} {te : TE} {tc : TT} {n i : Nat} {m k : Ms} {mx : DS → Option (D × DS)} {bx : DS → Option (Bool × DS)} {wi : TI} {g : TG} {mi : DS → Option (List D × DS)} {tg : D → DS → Option DS}
theorem drop_get {α : Type} {xs : List α} {i : Nat} {x : α} (h : xs[i]? = some x) : xs.drop i = x :: xs.drop (i + 1) := by
  obtain ⟨hi, rfl⟩ := List.getElem?_eq_some_iff.mp h
  exact List.drop_eq_getElem_cons hi
theorem Stt.base {U Zc Z1 : Hp} {ds : DS} {σ : St} {H Z : Hp} (s : Stt U Zc μ ds σ H Z) (e : Ex Z1 Z) (o : ∀ a, U a ≠ none → Z1 a = Zc a) : Stt U Z1 μ ds σ H Z :=
  ⟨s.exU, e, s.sub, fun a ha => (s.old a ha).trans (o a ha).symm, s.len, s.own⟩
theorem Stt.unbase {U Zc Z1 : Hp} {ds : DS} {σ : St} {H Z : Hp} (s : Stt U Z1 μ ds σ H Z) (e : Ex Zc Z1) (o : ∀ a, U a ≠ none → Z1 a = Zc a) : Stt U Zc μ ds σ H Z :=
  ⟨s.exU, fun a u q => s.exZ _ _ (e _ _ q), s.sub, fun a ha => (s.old a ha).trans (o a ha), s.len, s.own⟩
theorem Post.base {U Zc Z1 : Hp} {E : Ends} {fl : Fl} (p : Post io rn U Zc μ E fl) (e : Ex Zc Z1) (o : ∀ a, U a ≠ none → Z1 a = Zc a) : Post io rn U Z1 μ E fl := by
  cases fl with
  | nx d => exact fun σ H Z s => p σ H Z (s.unbase e o)
  | rt d d2 =>
    cases io with
    | none => exact fun v H Z s => p v H Z (s.unbase e o)
    | some q => exact fun v H Z s => p v H Z (s.unbase e o)
theorem VSt.for (hi : VI μ wi mi) (hg : VG μ g tg) (hb : VSt io rn μ μ t m) : VSt io rn μ μ (tFor wi g t) (mFor mi tg m) := fun U Zc ds σ H Z s fl e E p => by
  obtain ⟨⟨xs, d1⟩, e1, e⟩ := bind_some e
  refine hi U Zc ds σ H Z s xs d1 e1 _ fun J H1 Z1 s1 f1 w => ?_
  obtain ⟨G, Y, w, wG, wY⟩ := w
  have p1 := p.base s1.exZ s1.old
  refine for_it w (fun i σ H => ∃ ds Z, Stt U Z1 μ ds σ H Z ∧ loopD tg m (xs.drop i) ds = some fl) ⟨d1, Z1, s1.base (Ex.rf _) s1.old, e⟩ ?_ ?_ ?_
  · rintro i σ H hi ⟨ds, Z, s, _⟩
    exact wG Z H s.exZ s.sub
  · rintro i v σ H H' hi ⟨ds, Z, s, e⟩ y
    have hx : xs[i]? = some xs[i] := List.getElem?_eq_getElem hi
    obtain ⟨Z', r⟩ := wY i xs[i] Z H v H' hx s.exZ s.sub y
    rw [drop_get hx] at e
    obtain ⟨d2, e2, e⟩ := bind_some e
    obtain ⟨f3, e3, e⟩ := bind_some e
    refine hg U Z1 ds σ H' Z' _ v (s.push r) d2 e2 _ fun σ' s' => ?_
    refine hb U Z1 d2 σ' H' Z' s' f3 e3 _ ?_
    cases f3 with
    | nx d3 => exact fun σ2 H2 Z2 s2 => ⟨d3, Z2, s2, e⟩
    | rt d d3 => cases e; exact p1
  · rintro σ H ⟨ds, Z, s, e⟩
    rw [List.drop_length] at e
    cases e
    exact p1 σ H Z s
/-! while -/
def loopW (mc : DS → Option (Bool × DS)) (mb : Ms) : Nat → DS → Option Fl
  | 0, _ => none
  | n + 1, ds => (mc ds).bind fun x => if x.1 = true then (mb x.2).bind fun
    | .nx d2 => loopW mc mb n d2
    | .rt d d2 => some (.rt d d2) else some (.nx x.2)
theorem loopW_mono {mc : DS → Option (Bool × DS)} {mb : Ms} {fl : Fl} : ∀ {n k : Nat} {ds : DS}, loopW mc mb n ds = some fl → n ≤ k → loopW mc mb k ds = some fl
  | 0, _, _, e, _ => nomatch e
  | n + 1, 0, _, _, h => absurd h (by omega)
  | n + 1, k + 1, ds, e, h => by
    obtain ⟨x, e1, e⟩ := bind_some e
    show ((mc ds).bind _) = _
    rw [e1]
    show (if x.1 = true then _ else _) = _
    by_cases hx : x.1 = true
    · rw [if_pos hx] at e ⊢
      obtain ⟨f, e2, e⟩ := bind_some e
      rw [e2]
      cases f with
      | nx d2 => exact loopW_mono (ds := d2) e (by omega)
      | rt d d2 => exact e
    · rw [if_neg hx] at e ⊢
      exact e
/-- as many turns as may be -/
@[irreducible] def fuel : Nat := 1000000000
theorem fuel_ge {n : Nat} (h : n ≤ 1000000000) : n ≤ fuel := by unfold fuel; exact h
def mWhile (mc : DS → Option (Bool × DS)) (mb : Ms) : Ms := loopW mc mb fuel
theorem VSt.while (hc : VT μ tc bx) (hb : VSt io rn μ μ t m) : VSt io rn μ μ (tWhile tc t) (mWhile bx m) := fun U Zc ds σ H Z s fl e E p => by
  refine ⟨fun k σ H => ∃ ds Z, Stt U Zc μ ds σ H Z ∧ loopW bx m k ds = some fl, ⟨fuel, ds, Z, s, e⟩, ?_⟩
  rintro k σ H ⟨ds, Z, s, e⟩
  cases k with
  | zero => cases e
  | succ k =>
    obtain ⟨⟨b, d1⟩, e1, e⟩ := bind_some e
    refine hc U Zc ds σ H Z s b d1 e1 _ fun H' Z' s' f => ?_
    cases b with
    | true =>
      obtain ⟨f2, e2, e⟩ := bind_some e
      refine (if_pos rfl).mpr ⟨fun σ H => ∃ ds Z, Stt U Zc μ ds σ H Z ∧ loopW bx m k ds = some fl, fun σ' H' z => ⟨k, Nat.lt_succ_self _, z⟩, ?_⟩
      refine hb U Zc d1 σ H' Z' s' f2 e2 _ ?_
      cases f2 with
      | nx d2 => exact fun σ2 H2 Z2 s2 => ⟨d2, Z2, s2, e⟩
      | rt d d2 => cases e; exact p
    | false =>
      cases e
      exact p σ H' Z' s'
end
end VS
end
section
set_option maxRecDepth 100000
set_option maxHeartbeats 4000000
/-! comprehensions -/
namespace VS
open PySem L2 RX Evl
def wipeD (ds : DS) : List Nat → DS
  | [] => ds
  | v :: vs => (wipeD ds vs).set v none
theorem wipe_get (σ : St) (j : Nat) : ∀ vs : List Nat, (wipe σ vs)[j]? = if j ∈ vs ∧ j < σ.length then some none else σ[j]?
  | [] => by simp [wipe]
  | v :: vs => by
    unfold wipe
    by_cases h : j = v
    · subst h
      by_cases hl : j < σ.length
      · rw [List.getElem?_set_self (by rw [wipe_length]; exact hl), if_pos ⟨List.mem_cons_self, hl⟩]
      · rw [if_neg fun z => hl z.2, List.getElem?_eq_none (by rw [List.length_set, wipe_length]; omega), List.getElem?_eq_none (by omega)]
    · rw [List.getElem?_set_ne (Ne.symm h), wipe_get σ j vs]
      simp [List.mem_cons, h]
theorem wipeD_length (ds : DS) : ∀ vs : List Nat, (wipeD ds vs).length = ds.length
  | [] => rfl
  | v :: vs => by unfold wipeD; rw [List.length_set, wipeD_length ds vs]
theorem wipeD_get (ds : DS) (j : Nat) : ∀ vs : List Nat, (wipeD ds vs)[j]? = if j ∈ vs ∧ j < ds.length then some none else ds[j]?
  | [] => by simp [wipeD]
  | v :: vs => by
    unfold wipeD
    by_cases h : j = v
    · subst h
      by_cases hl : j < ds.length
      · rw [List.getElem?_set_self (by rw [wipeD_length]; exact hl), if_pos ⟨List.mem_cons_self, hl⟩]
      · rw [if_neg fun z => hl z.2, List.getElem?_eq_none (by rw [List.length_set, wipeD_length]; omega), List.getElem?_eq_none (by omega)]
    · rw [List.getElem?_set_ne (Ne.symm h), wipeD_get ds j vs]
      simp [List.mem_cons, h]
theorem wipe_set {σ : St} {i : Nat} {x : Option V} {vs : List Nat} (h : i ∈ vs) : wipe (σ.set i x) vs = wipe σ vs := by
  apply List.ext_getElem?
  intro j
  rw [wipe_get, wipe_get, List.length_set]
  by_cases hj : j ∈ vs ∧ j < σ.length
  · rw [if_pos hj, if_pos hj]
  · rw [if_neg hj, if_neg hj]
    by_cases e : j = i
    · subst e
      have hl : ¬ j < σ.length := fun z => hj ⟨h, z⟩
      rw [List.getElem?_eq_none (by rw [List.length_set]; omega), List.getElem?_eq_none (by omega)]
    · rw [List.getElem?_set_ne (Ne.symm e)]
theorem wipeD_set {ds : DS} {i : Nat} {x : Option D} {vs : List Nat} (h : i ∈ vs) : wipeD (ds.set i x) vs = wipeD ds vs := by
  apply List.ext_getElem?
  intro j
  rw [wipeD_get, wipeD_get, List.length_set]
  by_cases hj : j ∈ vs ∧ j < ds.length
  · rw [if_pos hj, if_pos hj]
  · rw [if_neg hj, if_neg hj]
    by_cases e : j = i
    · subst e
      have hl : ¬ j < ds.length := fun z => hj ⟨h, z⟩
      rw [List.getElem?_eq_none (by rw [List.length_set]; omega), List.getElem?_eq_none (by omega)]
    · rw [List.getElem?_set_ne (Ne.symm e)]
theorem wipe_wipe (σ : St) (vs : List Nat) : wipe (wipe σ vs) vs = wipe σ vs := by
  apply List.ext_getElem?
  intro j
  rw [wipe_get, wipe_get, wipe_length]
  by_cases hj : j ∈ vs ∧ j < σ.length
  · rw [if_pos hj, if_pos hj]
  · rw [if_neg hj, if_neg hj]
theorem wipeD_wipe (ds : DS) (vs : List Nat) : wipeD (wipeD ds vs) vs = wipeD ds vs := by
  apply List.ext_getElem?
  intro j
  rw [wipeD_get, wipeD_get, wipeD_length]
  by_cases hj : j ∈ vs ∧ j < ds.length
  · rw [if_pos hj, if_pos hj]
  · rw [if_neg hj, if_neg hj]
/-- a target that stores in these slots alone -/
structure WG (vs : List Nat) (g : TG) (tg : D → DS → Option DS) : Prop where
  st : ∀ x σ H (Q : St → Hp → Prop), g x σ H Q → g x σ H fun σ2 H2 => wipe σ2 vs = wipe σ vs ∧ Q σ2 H2
  dt : ∀ x ds d1, tg x ds = some d1 → wipeD d1 vs = wipeD ds vs
  mono : ∀ x σ H (Q R : St → Hp → Prop), (∀ σ H, Q σ H → R σ H) → g x σ H Q → g x σ H R
structure WGs (vs : List Nat) (g : TGs) (tg : List D → DS → Option DS) : Prop where
  st : ∀ x σ H (Q : St → Hp → Prop), g x σ H Q → g x σ H fun σ2 H2 => wipe σ2 vs = wipe σ vs ∧ Q σ2 H2
  dt : ∀ x ds d1, tg x ds = some d1 → wipeD d1 vs = wipeD ds vs
  mono : ∀ x σ H (Q R : St → Hp → Prop), (∀ σ H, Q σ H → R σ H) → g x σ H Q → g x σ H R
theorem WG.name {vs : List Nat} {i : Nat} (h : i ∈ vs) : WG vs (gName i) (gN i) := ⟨fun x σ H Q q => ⟨wipe_set h, q⟩, fun x ds d1 e => by cases e; exact wipeD_set h, fun x σ H Q R f q => f _ _ q⟩
theorem gsN_some {x : List D} {ds d1 : DS} (e : gsN x ds = some d1) : d1 = ds := by
  cases x with
  | nil => cases e; rfl
  | cons _ _ => cases e
theorem WGs.nil {vs : List Nat} : WGs vs gNil gsN := ⟨fun x σ H Q ⟨e, q⟩ => ⟨e, rfl, q⟩, fun x ds d1 e => by rw [gsN_some e], fun x σ H Q R f ⟨e, q⟩ => ⟨e, f _ _ q⟩⟩
theorem WGs.cons {vs : List Nat} {i : Nat} {gs : TGs} {tgs : List D → DS → Option DS} (h : i ∈ vs) (r : WGs vs gs tgs) : WGs vs (gCons (gName i) gs) (gsC (gN i) tgs) :=
  ⟨fun x σ H Q ⟨v, r1, e, q⟩ => ⟨v, r1, e, by
    have := r.st r1 (σ.set i (some v)) H Q q
    rw [wipe_set h] at this
    exact this⟩, fun x ds d1 e => by
    cases x with
    | nil => cases e
    | cons x xs =>
      have e : tgs xs (ds.set i (some x)) = some d1 := e
      rw [r.dt xs _ d1 e, wipeD_set h], fun x σ H Q R f ⟨v, r1, e, q⟩ => ⟨v, r1, e, r.mono _ _ _ Q R f q⟩⟩
theorem gT_some {n : Nat} {tgs : List D → DS → Option DS} {x : D} {ds d1 : DS} (e : gT n tgs x ds = some d1) : ∃ xs, x = .tup xs ∧ tgs xs ds = some d1 := by
  cases x with
  | tup xs =>
    have e : (if xs.length = n then tgs xs ds else none) = some d1 := e
    by_cases hn : xs.length = n
    · rw [if_pos hn] at e; exact ⟨xs, rfl, e⟩
    · rw [if_neg hn] at e; cases e
  | _ => cases e
theorem WG.tup {vs : List Nat} {K : PySem.W.Frag} {n : Nat} {gs : TGs} {tgs : List D → DS → Option DS} (r : WGs vs gs tgs) : WG vs (gTup K n gs) (gT n tgs) :=
  ⟨fun x σ H Q ⟨a, xs, e, h1, h2, q⟩ => ⟨a, xs, e, h1, h2, r.st xs σ H Q q⟩, fun x ds d1 e => (let ⟨xs, _, e⟩ := gT_some e; r.dt xs ds d1 e), fun x σ H Q R f ⟨a, xs, e, h1, h2, q⟩ => ⟨a, xs, e, h1, h2, r.mono _ _ _ Q R f q⟩⟩
/-- a target within a comprehension -/
theorem VG.within {μ : List Md} {vs : List Nat} {g : TG} {tg : D → DS → Option DS} (hg : VG μ g tg) (hw : WG vs g tg) {U Zc : Hp} {ds ds' : DS} {σ : St} {H Z : Hp} {d : D} {v : V} (s : Stt U Zc (.o 0 :: μ) (some d :: ds) (some v :: L2.wipe σ vs) H Z) (e : tg d ds = some ds') {Q : St → Hp → Prop}
    (k : ∀ σ', Stt U Zc μ ds' σ' H Z → L2.wipe σ' vs = L2.wipe σ vs → Q σ' H) : g v (L2.wipe σ vs) H fun σ2 H2 => L2.wipe σ2 vs = L2.wipe σ vs ∧ Q σ2 H2 := by
  have h1 := hw.st v (L2.wipe σ vs) H _ (hg U Zc ds (L2.wipe σ vs) H Z d v s ds' e (fun σ' H' => H' = H ∧ Stt U Zc μ ds' σ' H Z) fun σ' s' => ⟨rfl, s'⟩)
  refine hw.mono _ _ _ _ _ ?_ h1
  rintro σ2 H2 ⟨a, rfl, b⟩
  rw [wipe_wipe] at a
  exact ⟨a, k σ2 b a⟩
section
variable {U Zc : Hp} {μ : List Md} {ds : DS} {σ : St} {H Z : Hp}
theorem Stt.wipe (s : Stt U Zc μ ds σ H Z) (vs : List Nat) : Stt U Zc μ (wipeD ds vs) (L2.wipe σ vs) H Z := by
  obtain ⟨ass, h1, h2, h3, h4⟩ := s.own
  refine ⟨s.exU, s.exZ, s.sub, s.old, by rw [wipeD_length, wipe_length, s.len], ass, fun i d q => ?_, h2, h3, h4⟩
  rw [wipeD_get] at q
  by_cases hj : i ∈ vs ∧ i < ds.length
  · rw [if_pos hj] at q; cases q
  · rw [if_neg hj] at q
    obtain ⟨v, a, b⟩ := h1 i d q
    refine ⟨v, ?_, b⟩
    rw [wipe_get, if_neg (by rw [← s.len]; exact hj)]
    exact a
/-- the slots of a comprehension's own names as they were -/
theorem Stt.unwipe {vs : List Nat} {ds0 : DS} (s : Stt U Zc μ (wipeD ds vs) (L2.wipe σ vs) H Z) (hl : ds.length = σ.length) (h : ∀ v ∈ vs, ∀ d, ds[v]? = some (some d) → ∃ x, σ[v]? = some (some x) ∧ Rep Z d x) (hm : ∀ v ∈ vs, μ.getD v .sh = .sh) : Stt U Zc μ ds σ H Z := by
  obtain ⟨ass, h1, h2, h3, h4⟩ := s.own
  refine ⟨s.exU, s.exZ, s.sub, s.old, hl, fun i => if i ∈ vs then [] else ass i, fun i d q => ?_, fun i => ?_, fun i j a a1 a2 => ?_, fun i a a1 => ?_⟩
  · by_cases hi : i ∈ vs
    · obtain ⟨x, a, b⟩ := h i hi d q
      refine ⟨x, a, ?_⟩
      rw [hm i hi]
      simp only [if_pos hi]
      exact ⟨b, rfl⟩
    · obtain ⟨v, a, b⟩ := h1 i d (by rw [wipeD_get, if_neg fun z => hi z.1]; exact q)
      refine ⟨v, ?_, ?_⟩
      · rw [wipe_get, if_neg fun z => hi z.1] at a; exact a
      · simp only [if_neg hi]; exact b
  · show (if i ∈ vs then [] else ass i).Nodup
    split
    · exact List.nodup_nil
    · exact h2 i
  · by_cases hi : i ∈ vs
    · simp [hi] at a1
    · by_cases hj : j ∈ vs
      · simp [hj] at a2
      · simp only [if_neg hi] at a1
        simp only [if_neg hj] at a2
        exact h3 i j a a1 a2
  · by_cases hi : i ∈ vs
    · simp [hi] at a1
    · simp only [if_neg hi] at a1
      exact h4 i a a1
end
def Md.isSh : Md → Bool
  | .o 0 => true
  | _ => false
def allSh (μ : List Md) (vs : List Nat) : Bool := vs.all fun v => (μ.getD v .sh).isSh
theorem isSh_eq {m : Md} (h : m.isSh = true) : m = .sh := by
  cases m with
  | o n =>
    cases n with
    | zero => rfl
    | succ n => cases h
  | pot _ _ => cases h
theorem allSh_all {μ : List Md} {vs : List Nat} (h : allSh μ vs = true) : ∀ v ∈ vs, μ.getD v .sh = .sh := fun v hv => isSh_eq (List.all_eq_true.mp h v hv)
/-- one item of a comprehension -/
def lcF (tg : D → DS → Option DS) (mt : DS → Option Bool) (me : Mr) (ds : DS) : D → Option (Option D) := fun x => (tg x ds).bind fun d1 => (mt d1).bind fun b => if b = true then (me d1).map some else some none
def lcGo (f : D → Option (Option D)) : List D → Option (List D)
  | [] => some []
  | x :: xs => (f x).bind fun y => (lcGo f xs).map fun ys => match y with
    | some y => y :: ys
    | none => ys
def lim : Nat := 10000000
def mLc (mi : DS → Option (List D)) (tg : D → DS → Option DS) (mt : DS → Option Bool) (me : Mr) (vs : List Nat) : Mr := fun ds => (mi ds).bind fun xs => if xs.length ≤ lim then (lcGo (lcF tg mt me (wipeD ds vs)) xs).map .lst else none
theorem VTp.yes {μ : List Md} : VTp μ tYes (fun _ => some true) := fun U Zc ds σ H Z s b e Q k => by
  cases e
  exact k H Z s (Ex.rf _) (Ex.rf _)
theorem lim_lt {n : Nat} (h : n < lim) : n < sizeLine := Nat.lt_of_lt_of_le h (by decide)
/-- the list that grows: at D the values acc for ys -/
structure Grow (U U' Z H : Hp) (n : Nat) (D : Addr) (ys : List VS.D) (acc : List V) (cs : List Addr) : Prop where
  uu : Ex U U'
  at_ : U' D = some (.lst acc)
  l3 : L3 (Own Z H n) ys acc cs
  nd : (D :: cs).Nodup
  fr : ∀ b ∈ D :: cs, U' b ≠ none ∧ U b = none ∧ Z b = none
theorem Grow.step {U U' Zc Z Z3 H H3 : Hp} {μ : List Md} {n : Nat} {D : Addr} {ys : List VS.D} {acc : List V} {cs : List Addr} {ds : DS} {σ : St} {y : VS.D} {v : V} (g : Grow U U' Z H n D ys acc cs) (eU : Ex U' H)
    (s : Stt U' Zc (.o n :: μ) (some y :: ds) (some v :: σ) H3 Z3) (eZ : Ex Z Z3) (oZ : ∀ a, U' a ≠ none → Z a = Zc a) :
    ∃ U2 cs2, Grow U U2 Z3 (upd H3 D (.lst (acc ++ [v]))) n D (ys ++ [y]) (acc ++ [v]) cs2 ∧ Stt U2 Zc μ ds σ (upd H3 D (.lst (acc ++ [v]))) Z3 := by
  have hDZ : Z3 D = none := by
    have h1 := s.old D (by rw [g.at_]; intro z; cases z)
    rw [h1, ← oZ D (by rw [g.at_]; intro z; cases z)]
    exact (g.fr D List.mem_cons_self).2.2
  obtain ⟨bs, o, nd, hb, s2⟩ := s.absorb
  have hDb : D ∉ bs := fun z => by
    have := (hb D z).1
    rw [g.at_] at this; cases this
  have hcb : ∀ a ∈ cs, a ∉ bs := fun a ha z => (g.fr a (List.mem_cons_of_mem _ ha)).1 (hb a z).1
  have nd0 := List.nodup_cons.mp g.nd
  have s3 := s2.change (p := D) (o := .lst (acc ++ [v])) (by simp only [if_neg hDb]; rw [g.at_]; intro z; cases z) hDZ
  refine ⟨_, cs ++ bs, ⟨fun a u e => ?_, by rw [upd_same], ?_, ?_, fun b hb' => ?_⟩, s3⟩
  · have h1 := g.uu _ _ e
    have hne : a ≠ D := fun z => by
      subst z
      have := (g.fr a List.mem_cons_self).2.1
      rw [e] at this; cases this
    rw [upd_ne hne]
    have : a ∉ bs := fun z => by
      have := (hb a z).1
      rw [h1] at this; cases this
    simp only [if_neg this]
    exact h1
  · refine (g.l3.imp fun d w b hb' q => Own.mono eZ n (fun a ha u e => ?_) q).app (by
      have := L3.cons (P := Own Z3 (upd H3 D (.lst (acc ++ [v]))) n) (Own.mono (Ex.rf _) n (fun a ha u e => by rw [upd_ne (fun z : a = D => hDb (z ▸ ha))]; exact e) o) .nil
      rw [List.append_nil] at this
      exact this)
    have ha' := hb' a ha
    have hU := (g.fr a (List.mem_cons_of_mem _ ha')).1
    have hne : a ≠ D := fun z => nd0.1 (z ▸ ha')
    rw [upd_ne hne]
    cases q : U' a with
    | none => exact absurd q hU
    | some w' =>
      have h1 := eU _ _ q
      rw [e] at h1
      cases h1
      exact s.exU _ _ q
  · rw [List.nodup_cons]
    refine ⟨fun z => ?_, List.nodup_append.mpr ⟨nd0.2, nd, fun a ha b hb' e => hcb a ha (e ▸ hb')⟩⟩
    rcases List.mem_append.mp z with z | z
    · exact nd0.1 z
    · exact hDb z
  · rcases List.mem_cons.mp hb' with e | hb'
    · subst e
      exact ⟨(by rw [upd_same]; intro z; cases z), (g.fr b List.mem_cons_self).2.1, hDZ⟩
    · rcases List.mem_append.mp hb' with h1 | h1
      · have hf := g.fr b (List.mem_cons_of_mem _ h1)
        have hne : b ≠ D := fun z => nd0.1 (z ▸ h1)
        rw [upd_ne hne]
        simp only [if_neg (hcb b h1)]
        refine ⟨hf.1, hf.2.1, ?_⟩
        rw [s.old b hf.1, ← oZ b hf.1]
        exact hf.2.2
      · have hne : b ≠ D := fun z => hDb (z ▸ h1)
        rw [upd_ne hne]
        simp only [if_pos h1]
        obtain ⟨q1, q2, q3⟩ := hb b h1
        refine ⟨q3, ?_, q2⟩
        cases q : U b with
        | none => rfl
        | some u => rw [g.uu _ _ q] at q1; cases q1
/-- a turn that adds nothing -/
theorem Grow.skip {U U' Zc Z Z3 H H3 : Hp} {μ : List Md} {n : Nat} {D : Addr} {ys : List VS.D} {acc : List V} {cs : List Addr} {ds : DS} {σ : St} (g : Grow U U' Z H n D ys acc cs) (eU : Ex U' H)
    (s : Stt U' Zc μ ds σ H3 Z3) (eZ : Ex Z Z3) (oZ : ∀ a, U' a ≠ none → Z a = Zc a) : Grow U U' Z3 H3 n D ys acc cs := by
  refine ⟨g.uu, g.at_, g.l3.imp fun d w b hb' q => Own.mono eZ n (fun a ha u e => ?_) q, g.nd, fun b hb' => ?_⟩
  · have hU := (g.fr a (List.mem_cons_of_mem _ (hb' a ha))).1
    cases q : U' a with
    | none => exact absurd q hU
    | some w' =>
      have h1 := eU _ _ q
      rw [e] at h1
      cases h1
      exact s.exU _ _ q
  · have hf := g.fr b hb'
    exact ⟨hf.1, hf.2.1, by rw [s.old b hf.1, ← oZ b hf.1]; exact hf.2.2⟩
section
variable {μ : List Md} {wi : TI} {g : TG} {tt : TT} {te : TE} {vs : List Nat} {n : Nat} {mi : DS → Option (List D)} {tg : D → DS → Option DS} {mt : DS → Option Bool} {me : Mr}
theorem VE.lc (hi : VIp μ wi mi) (hg : VG μ g tg) (hw : WG vs g tg) (ht : VTp μ tt mt) (he : VE μ te n me) (hs : allSh μ vs = true := by rfl) : VE μ (tLc wi g tt te vs) (n + 1) (mLc mi tg mt me vs) := fun U Zc ds σ H Z s d e Q k => by
  have hm := allSh_all hs
  obtain ⟨xs, e1, e⟩ := bind_some e
  by_cases hlim : xs.length ≤ lim
  case neg => rw [if_neg hlim] at e; cases e
  rw [if_pos hlim] at e
  obtain ⟨tot, e2, rfl⟩ := Option.map_eq_some_iff.mp e
  refine hi U Zc ds σ H Z s xs e1 _ fun J H1 Z1 s1 f1 g1 w => ?_
  obtain ⟨G, Y, w, wG, wY⟩ := w
  intro D hD
  obtain ⟨s0, u0, z0, n0⟩ := ((s1.wipe vs).base (Ex.rf _) s1.old).keep (p := D) (o := .lst []) hD
  refine lc_it w (Qd := fun H => Q (.ref D) H) (fun i H => ∃ U' Z acc cs ys zs, Grow U U' Z H n D ys acc cs ∧ Stt U' Z1 μ (wipeD ds vs) (wipe σ vs) H Z ∧ Ex H1 H ∧ acc.length ≤ i ∧ lcGo (lcF tg mt me (wipeD ds vs)) (xs.drop i) = some zs ∧ ys ++ zs = tot) ⟨_, Z1, [], [], [], tot, ⟨u0, upd_same, .nil, by simp, fun b hb => ?_⟩, s0, Ex.new hD, Nat.le_refl _, e2, rfl⟩ ?_ ?_ ?_
  · obtain rfl : b = D := by simpa using hb
    exact ⟨(by rw [upd_same]; intro z; cases z), n0, z0⟩
  · rintro i H hi ⟨U', Z, acc, cs, ys, zs, gr, s, _⟩
    exact wG Z H s.exZ s.sub
  · rintro i v H H' hi ⟨U', Z, acc, cs, ys, zs, gr, s, eH, hac, e3, e4⟩ y
    have hx : xs[i]? = some xs[i] := List.getElem?_eq_getElem hi
    obtain ⟨Z', r⟩ := wY i xs[i] Z H v H' hx s.exZ s.sub y
    rw [drop_get hx] at e3
    obtain ⟨yo, e5, e6⟩ := bind_some e3
    obtain ⟨zs', e7, e8⟩ := Option.map_eq_some_iff.mp e6
    obtain ⟨d1, e9, e10⟩ := bind_some e5
    obtain ⟨b, e11, e12⟩ := bind_some e10
    have hb1 := hw.dt _ _ _ e9
    rw [wipeD_wipe] at hb1
    refine hg.within hw (s.push r) e9 fun σ' s' ew => ?_
    refine ht U' Z1 d1 σ' H' Z' s' b e11 _ fun H2 Z2 s2 f2 g2 => ?_
    have eH' : Ex H1 H2 := fun _ _ q => g2 _ _ (r.exU _ _ (eH _ _ q))
    have eZ2 : Ex Z Z2 := fun _ _ q => f2 _ _ (r.exZ _ _ q)
    cases b with
    | true =>
      obtain ⟨y, e13, rfl⟩ := Option.map_eq_some_iff.mp e12
      refine (if_pos rfl).mpr (he U' Z1 d1 σ' H2 Z2 s2 y e13 _ fun v3 H3 Z3 s3 f3 g3 => ?_)
      obtain ⟨U2, cs2, gr2, s4⟩ := gr.step s.exU s3 (fun _ _ q => f3 _ _ (eZ2 _ _ q)) s.old
      have s5 := s4.wipe vs
      rw [hb1, ew] at s5
      refine ⟨acc, s3.exU _ _ gr.at_, lim_lt (by omega), U2, Z3, acc ++ [v3], cs2, ys ++ [y], zs', gr2, s5, ?_, by rw [List.length_append]; show _ + 1 ≤ _; omega, e7, ?_⟩
      · exact Ex.mut (fun _ _ q => g3 _ _ (eH' _ _ q)) hD
      · rw [← e4, ← e8, List.append_assoc]
        rfl
    | false =>
      cases e12
      have s5 := s2.wipe vs
      rw [hb1, ew] at s5
      exact ⟨U', Z2, acc, cs, ys, zs', gr.skip s.exU s2 eZ2 s.old, s5, eH', by omega, e7, by rw [← e4, ← e8]⟩
  · rintro H ⟨U', Z, acc, cs, ys, zs, gr, s, eH, hac, e3, e4⟩
    rw [List.drop_length] at e3
    cases e3
    rw [List.append_nil] at e4
    subst e4
    have s2 := s.unwipe (ds0 := ds) s1.len (fun v hv d hd => by
      obtain ⟨x, bs, a, b⟩ := s1.get hd
      rw [hm v hv] at b
      exact ⟨x, a, b.1.mono s.exZ⟩) hm
    have s3 := s2.release (n := n + 1) (d := .lst ys) (v := .ref D) (bs := D :: cs) gr.uu ⟨D, acc, cs, rfl, s.exU _ _ gr.at_, gr.l3, rfl⟩ gr.nd gr.fr
    exact k (.ref D) H Z (s3.unbase s1.exZ s1.old) (fun _ _ q => s.exZ _ _ (f1 _ _ q)) fun _ _ q => eH _ _ (g1 _ _ q)
end
end VS
end
section
set_option maxRecDepth 100000
set_option maxHeartbeats 4000000
/-! comprehensions that draw; parallel stores; defs and calls -/
namespace VS
open PySem L2 RX Evl
def lcGoX (tg : D → DS → Option DS) (mt : DS → Option (Bool × DS)) (me : DS → Option (D × DS)) (vs : List Nat) : List D → DS → Option (List D × DS)
  | [], ds => some ([], ds)
  | x :: xs, ds => (tg x ds).bind fun d1 => (mt d1).bind fun b => if b.1 = true then (me b.2).bind fun y => (lcGoX tg mt me vs xs (wipeD y.2 vs)).map fun r => (y.1 :: r.1, r.2) else lcGoX tg mt me vs xs (wipeD b.2 vs)
/-- the slots vs as they were in ds0 -/
def unwipeD (ds0 ds : DS) : List Nat → DS
  | [] => ds
  | v :: vs => (unwipeD ds0 ds vs).set v (ds0[v]?).join
theorem unwipeD_length (ds0 ds : DS) : ∀ vs : List Nat, (unwipeD ds0 ds vs).length = ds.length
  | [] => rfl
  | v :: vs => by unfold unwipeD; rw [List.length_set, unwipeD_length ds0 ds vs]
theorem unwipeD_get (ds0 ds : DS) (j : Nat) : ∀ vs : List Nat, (unwipeD ds0 ds vs)[j]? = if j ∈ vs ∧ j < ds.length then some (ds0[j]?).join else ds[j]?
  | [] => by simp [unwipeD]
  | v :: vs => by
    unfold unwipeD
    by_cases h : j = v
    · subst h
      by_cases hl : j < ds.length
      · rw [List.getElem?_set_self (by rw [unwipeD_length]; exact hl), if_pos ⟨List.mem_cons_self, hl⟩]
      · rw [if_neg fun z => hl z.2, List.getElem?_eq_none (by rw [List.length_set, unwipeD_length]; omega), List.getElem?_eq_none (by omega)]
    · rw [List.getElem?_set_ne (Ne.symm h), unwipeD_get ds0 ds j vs]
      simp [List.mem_cons, h]
theorem wipeD_unwipe {ds0 ds : DS} {vs : List Nat} (h : wipeD ds vs = ds) : wipeD (unwipeD ds0 ds vs) vs = ds := by
  apply List.ext_getElem?
  intro j
  rw [wipeD_get, unwipeD_length, unwipeD_get]
  by_cases hj : j ∈ vs ∧ j < ds.length
  · rw [if_pos hj]
    have := wipeD_get ds j vs
    rw [h, if_pos hj] at this
    exact this.symm
  · rw [if_neg hj, if_neg hj]
def mLcX (mi : DS → Option (List D × DS)) (tg : D → DS → Option DS) (mt : DS → Option (Bool × DS)) (me : DS → Option (D × DS)) (vs : List Nat) : DS → Option (D × DS) := fun ds => (mi ds).bind fun x => if x.1.length ≤ lim then (lcGoX tg mt me vs x.1 (wipeD x.2 vs)).map fun r => (.lst r.1, unwipeD x.2 r.2 vs) else none
theorem VT.yes {μ : List Md} : VT μ tYes (fun ds => some (true, ds)) := fun U Zc ds σ H Z s b ds' e Q k => by
  cases e
  exact k H Z s (Ex.rf _)
section
variable {μ : List Md} {wi : TI} {g : TG} {tt : TT} {te : TE} {vs : List Nat} {n : Nat} {mi : DS → Option (List D × DS)} {tg : D → DS → Option DS} {mt : DS → Option (Bool × DS)} {me : DS → Option (D × DS)}
theorem VX.lc (hi : VI μ wi mi) (hg : VG μ g tg) (hw : WG vs g tg) (ht : VT μ tt mt) (he : VX μ te n me) (hs : allSh μ vs = true := by rfl) : VX μ (tLc wi g tt te vs) (n + 1) (mLcX mi tg mt me vs) := fun U Zc ds σ H Z s d ds' e Q k => by
  have hm := allSh_all hs
  obtain ⟨⟨xs, ds1⟩, e1, e⟩ := bind_some e
  by_cases hlim : xs.length ≤ lim
  case neg => rw [if_neg hlim] at e; cases e
  rw [if_pos hlim] at e
  obtain ⟨⟨tot, dE⟩, e2, e0⟩ := Option.map_eq_some_iff.mp e
  cases e0
  refine hi U Zc ds σ H Z s xs ds1 e1 _ fun J H1 Z1 s1 f1 w => ?_
  obtain ⟨G, Y, w, wG, wY⟩ := w
  intro D hD
  obtain ⟨s0, u0, z0, n0⟩ := ((s1.wipe vs).base (Ex.rf _) s1.old).keep (p := D) (o := .lst []) hD
  refine lc_it w (Qd := fun H => Q (.ref D) H) (fun i H => ∃ U' Z acc cs ys zs dw, Grow U U' Z H n D ys acc cs ∧ Stt U' Z1 μ dw (wipe σ vs) H Z ∧ wipeD dw vs = dw ∧ acc.length ≤ i ∧ lcGoX tg mt me vs (xs.drop i) dw = some (zs, dE) ∧ ys ++ zs = tot) ⟨_, Z1, [], [], [], tot, wipeD ds1 vs, ⟨u0, upd_same, .nil, by simp, fun b hb => ?_⟩, s0, wipeD_wipe _ _, Nat.le_refl _, e2, rfl⟩ ?_ ?_ ?_
  · obtain rfl : b = D := by simpa using hb
    exact ⟨(by rw [upd_same]; intro z; cases z), n0, z0⟩
  · rintro i H hi ⟨U', Z, acc, cs, ys, zs, dw, gr, s, _⟩
    exact wG Z H s.exZ s.sub
  · rintro i v H H' hi ⟨U', Z, acc, cs, ys, zs, dw, gr, s, hdw, hac, e3, e4⟩ y
    have hx : xs[i]? = some xs[i] := List.getElem?_eq_getElem hi
    obtain ⟨Z', r⟩ := wY i xs[i] Z H v H' hx s.exZ s.sub y
    rw [drop_get hx] at e3
    obtain ⟨d1, e9, e10⟩ := bind_some e3
    obtain ⟨⟨b, d2⟩, e11, e12⟩ := bind_some e10
    have hb1 := hw.dt _ _ _ e9
    rw [hdw] at hb1
    refine hg.within hw (s.push r) e9 fun σ' s' ew => ?_
    refine ht U' Z1 d1 σ' H' Z' s' b d2 e11 _ fun H2 Z2 s2 f2 => ?_
    have eZ2 : Ex Z Z2 := fun _ _ q => f2 _ _ (r.exZ _ _ q)
    cases b with
    | true =>
      obtain ⟨⟨y, d3⟩, e13, e14⟩ := bind_some e12
      obtain ⟨⟨zs', dE'⟩, e15, e16⟩ := Option.map_eq_some_iff.mp e14
      cases e16
      refine (if_pos rfl).mpr (he U' Z1 d2 σ' H2 Z2 s2 y d3 e13 _ fun v3 H3 Z3 s3 f3 => ?_)
      obtain ⟨U2, cs2, gr2, s4⟩ := gr.step s.exU s3 (fun _ _ q => f3 _ _ (eZ2 _ _ q)) s.old
      have s5 := s4.wipe vs
      rw [ew] at s5
      refine ⟨acc, s3.exU _ _ gr.at_, lim_lt (by omega), U2, Z3, acc ++ [v3], cs2, ys ++ [y], zs', wipeD d3 vs, gr2, s5, wipeD_wipe _ _, by rw [List.length_append]; show _ + 1 ≤ _; omega, e15, ?_⟩
      rw [← e4, List.append_assoc]
      rfl
    | false =>
      have s5 := s2.wipe vs
      rw [ew] at s5
      exact ⟨U', Z2, acc, cs, ys, zs, wipeD d2 vs, gr.skip s.exU s2 eZ2 s.old, s5, wipeD_wipe _ _, by omega, e12, e4⟩
  · rintro H ⟨U', Z, acc, cs, ys, zs, dw, gr, s, hdw, hac, e3, e4⟩
    rw [List.drop_length] at e3
    cases e3
    rw [List.append_nil] at e4
    subst e4
    have s' : Stt U' Z1 μ (wipeD (unwipeD ds1 dE vs) vs) (wipe σ vs) H Z := by rw [wipeD_unwipe hdw]; exact s
    have hl : dE.length = σ.length := by have := s.len; rw [wipe_length] at this; exact this
    have s2 := s'.unwipe (ds0 := ds1) (by rw [unwipeD_length, hl]) (fun v hv d hd => by
      rw [unwipeD_get] at hd
      have hvl : v < dE.length := by
        by_cases z : v < dE.length
        · exact z
        · rw [if_neg fun q => z q.2, List.getElem?_eq_none (by omega)] at hd; cases hd
      rw [if_pos ⟨hv, hvl⟩] at hd
      have hd' : ds1[v]? = some (some d) := by
        cases q : ds1[v]? with
        | none => rw [q] at hd; cases hd
        | some x => rw [q] at hd; exact hd
      obtain ⟨x, bs, a, b⟩ := s1.get hd'
      rw [hm v hv] at b
      exact ⟨x, a, b.1.mono s.exZ⟩) hm
    have s3 := s2.release (n := n + 1) (d := .lst ys) (v := .ref D) (bs := D :: cs) gr.uu ⟨D, acc, cs, rfl, s.exU _ _ gr.at_, gr.l3, rfl⟩ gr.nd gr.fr
    exact k (.ref D) H Z (s3.unbase s1.exZ s1.old) (fun _ _ q => s.exZ _ _ (f1 _ _ q))
end
/-! a, b = x, y -/
def mPar (i j : Nat) (a b : DS → Option (D × DS)) : Ms := fun ds => (a ds).bind fun x => (b x.2).map fun y => .nx ((y.2.set i (some x.1)).set j (some y.1))
section
variable {io : Option (Addr × Nat)} {rn : Nat} {μ : List Md} {ta tb : TE} {n1 n2 i j : Nat} {ma mb : DS → Option (D × DS)}
theorem two_results {U Zc H1 Z1 H2 Z2 : Hp} {d2 : DS} {σ : St} {x y : D} {v w : V} {bs : List Addr} (o : Own Z1 H1 n1 x v bs) (nd : bs.Nodup) (hb : ∀ b ∈ bs, U b = none ∧ Z1 b = none ∧ H1 b ≠ none)
    (oc : ∀ b ∈ bs, Zc b = none) (s2 : Stt (fun a => if a ∈ bs then H1 a else U a) Zc (.o n2 :: μ) (some y :: d2) (some w :: σ) H2 Z2) (eZ : Ex Z1 Z2) : Stt U Zc (.o n1 :: .o n2 :: μ) (some x :: some y :: d2) (some v :: some w :: σ) H2 Z2 := by
  refine s2.release (fun a u e => ?_) (Own.mono eZ n1 (fun a ha u e => s2.exU _ _ (by simp only [if_pos ha]; exact e)) o) nd fun b hb' => ⟨?_, (hb b hb').1, ?_⟩
  · have : a ∉ bs := fun z => by rw [(hb a z).1] at e; cases e
    simp only [if_neg this]
    exact e
  · simp only [if_pos hb']
    exact (hb b hb').2.2
  · rw [s2.old b (by simp only [if_pos hb']; exact (hb b hb').2.2)]
    exact oc b hb'
theorem two_store {U Zc H Z : Hp} {ds : DS} {σ : St} {x y : D} {v w : V} (s : Stt U Zc (.o n1 :: .o n2 :: μ) (some x :: some y :: ds) (some v :: some w :: σ) H Z) (hi : i < μ.length) (hj : j < μ.length) :
    Stt U Zc ((μ.set i (.o n1)).set j (.o n2)) ((ds.set i (some x)).set j (some y)) ((σ.set i (some v)).set j (some w)) H Z := by
  have h1 := s.store (i := i + 1) (by simpa using hi)
  have h2 : Stt U Zc (.o n2 :: μ.set i (.o n1)) (some y :: ds.set i (some x)) (some w :: σ.set i (some v)) H Z := h1
  exact h2.store (i := j) (by simpa using hj)
theorem VSt.par (ha : VX μ ta n1 ma) (hb : VX μ tb n2 mb) (hi : Nat.blt i μ.length = true := by rfl) (hj : Nat.blt j μ.length = true := by rfl) : VSt io rn μ ((μ.set i (.o n1)).set j (.o n2)) (tPar i j (tCons ta (tCons tb tNil))) (mPar i j ma mb) := fun U Zc ds σ H Z s fl e E p => by
  obtain ⟨⟨x, d1⟩, e1, e⟩ := bind_some e
  obtain ⟨⟨y, d2⟩, e2, e3⟩ := Option.map_eq_some_iff.mp e
  subst e3
  refine ha U Zc ds σ H Z s x d1 e1 _ fun v H1 Z1 s1 f1 => ?_
  obtain ⟨bs, o, nd, hbs, s1'⟩ := s1.absorb
  refine hb _ Zc d1 σ H1 Z1 s1' y d2 e2 _ fun w H2 Z2 s2 f2 => ⟨v, w, rfl, ?_⟩
  have oc : ∀ b ∈ bs, Zc b = none := fun b hb' => by
    cases q : Zc b with
    | none => rfl
    | some u => have := s1.exZ _ _ q; rw [(hbs b hb').2.1] at this; cases this
  exact p _ H2 Z2 (two_store (two_results o nd hbs oc s2 f2) (Nat.blt_eq ▸ hi) (Nat.blt_eq ▸ hj))
/-- the same by a tuple -/
theorem VSt.parT {K : PySem.W.Frag} (ha : VX μ ta n1 ma) (hb : VX μ tb n2 mb) (hi : Nat.blt i μ.length = true := by rfl) (hj : Nat.blt j μ.length = true := by rfl) : VSt io rn μ ((μ.set i (.o n1)).set j (.o n2)) (tAsg (tTup (tCons ta (tCons tb tNil))) (gTup K 2 (gCons (gName i) (gCons (gName j) gNil)))) (mPar i j ma mb) := fun U Zc ds σ H Z s fl e E p => by
  obtain ⟨⟨x, d1⟩, e1, e⟩ := bind_some e
  obtain ⟨⟨y, d2⟩, e2, e3⟩ := Option.map_eq_some_iff.mp e
  subst e3
  refine ha U Zc ds σ H Z s x d1 e1 _ fun v H1 Z1 s1 f1 => ?_
  obtain ⟨bs, o, nd, hbs, s1'⟩ := s1.absorb
  refine hb _ Zc d1 σ H1 Z1 s1' y d2 e2 _ fun w H2 Z2 s2 f2 => ⟨by show 2 ≤ sizeLine; decide, fun q hq => ⟨q, _, rfl, SqT.of upd_same, rfl, v, _, rfl, w, _, rfl, rfl, ?_⟩⟩
  have oc : ∀ b ∈ bs, Zc b = none := fun b hb' => by
    cases q : Zc b with
    | none => rfl
    | some u => have := s1.exZ _ _ q; rw [(hbs b hb').2.1] at this; cases this
  have s3 := two_store (two_results o nd hbs oc s2 f2) (Nat.blt_eq ▸ hi) (Nat.blt_eq ▸ hj)
  obtain ⟨s4, eu, _, hu⟩ := s3.keep (p := q) (o := .tup [v, w]) hq
  refine p _ _ Z2 ?_
  exact ⟨fun a u e => s4.exU _ _ (eu _ _ e), s4.exZ, s4.sub, s3.old, s4.len, (let ⟨ass, h1, h2, h3, h4⟩ := s4.own; ⟨ass, h1, h2, h3, fun i a ha => ⟨by
    have := (h4 i a ha).1
    (cases z : U a with
    | none => rfl
    | some u => rw [eu _ _ z] at this; cases this), (h4 i a ha).2⟩⟩)⟩
end
end VS
end
section
set_option maxRecDepth 100000
set_option maxHeartbeats 4000000
/-! defs: what they promise, how they are called; slots' contents changed -/
namespace VS
open PySem L2 RX Evl
/-! a def over data -/
def spV (n : Nat) (m : List D → Option D) : Sp := fun vs H Q _ => ∃ Z xs d, Ex Z H ∧ Reps Z xs vs ∧ m xs = some d ∧ Ret H Z n d Q
def fnM (N k : Nat) (mb : Ms) : List D → Option D := fun xs => if xs.length = k then (match mb (xs.map some ++ List.replicate (N - k) none) with
  | some (.rt d _) => some d
  | some (.nx _) => some .non
  | none => none) else none
theorem fnM_some {N k : Nat} {mb : Ms} {xs : List D} {d : D} (h : fnM N k mb xs = some d) : xs.length = k ∧ ∃ fl, mb (xs.map some ++ List.replicate (N - k) none) = some fl ∧ ((∃ ds, fl = .rt d ds) ∨ (∃ ds, fl = .nx ds ∧ d = .non)) := by
  unfold fnM at h
  by_cases hk : xs.length = k
  · rw [if_pos hk] at h
    refine ⟨hk, ?_⟩
    cases e : mb (xs.map some ++ List.replicate (N - k) none) with
    | none => rw [e] at h; cases h
    | some fl =>
      rw [e] at h
      refine ⟨fl, rfl, ?_⟩
      cases fl with
      | rt d' ds => cases h; exact .inl ⟨ds, rfl⟩
      | nx ds => cases h; exact .inr ⟨ds, rfl, rfl⟩
  · rw [if_neg hk] at h; cases h
theorem spV_len {n N k : Nat} {mb : Ms} (vs : List V) (H : Hp) (Q : VK) (E : XK) (h : spV n (fnM N k mb) vs H Q E) : vs.length = k := by
  obtain ⟨Z, xs, d, _, r, e, _⟩ := h
  rw [r.length, (fnM_some e).1]
theorem reps_slots {Z : Hp} : ∀ {xs : List D} {vs : List V} {r i : Nat} {d : D}, Reps Z xs vs → (xs.map some ++ List.replicate r none)[i]? = some (some d) → ∃ v, (vs.map some ++ List.replicate r (none : Option V))[i]? = some (some v) ∧ Rep Z d v
  | _, _, r, i, d, .nil, e => by
    simp only [List.map_nil, List.nil_append] at e
    rw [List.getElem?_replicate] at e
    split at e <;> cases e
  | _, _, r, 0, d, .cons h _, e => by
    simp at e
    subst e
    exact ⟨_, rfl, h⟩
  | _, _, r, i + 1, d, .cons _ q, e => by
    obtain ⟨v, a, b⟩ := reps_slots (r := r) (i := i) (d := d) q (by simpa using e)
    exact ⟨v, by simpa using a, b⟩
theorem getD_rep (n i : Nat) : (List.replicate n Md.sh).getD i .sh = .sh := by
  rw [List.getD_eq_getElem?_getD, List.getElem?_replicate]
  split <;> rfl
theorem Stt.start {Z H : Hp} {xs : List D} {vs : List V} {r n : Nat} (e : Ex Z H) (h : Reps Z xs vs) : Stt H Z (List.replicate n .sh) (xs.map some ++ List.replicate r none) (vs.map some ++ List.replicate r none) H Z := by
  refine ⟨Ex.rf _, Ex.rf _, e, fun _ _ => rfl, by simp [h.length], fun _ => [], fun i d q => ?_, fun _ => List.nodup_nil, fun _ _ a z => absurd z (by simp), fun _ a z => absurd z (by simp)⟩
  obtain ⟨v, a, b⟩ := reps_slots h q
  rw [getD_rep]
  exact ⟨v, a, b, rfl⟩
theorem VSt.fn {N : List Str} {n k : Nat} {μ' : List Md} {t : TS} {mb : Ms} {vs : List V} {H : Hp} {Q : VK} {E : XK} (h : VSt none n (List.replicate N.length .sh) μ' t mb) (hs : spV n (fnM N.length k mb) vs H Q E) : t { nx := fun _ H' => Q .non H', rt := Q } (L2.start N vs) H := by
  obtain ⟨Z, xs, d, ez, r, e, kk⟩ := hs
  obtain ⟨hk, fl, e1, hfl⟩ := fnM_some e
  have hst : L2.start N vs = vs.map some ++ List.replicate (N.length - k) none := by unfold L2.start; rw [r.length, hk]
  rw [hst]
  refine h H Z _ _ H Z (Stt.start ez r) fl e1 _ ?_
  rcases hfl with ⟨ds, rfl⟩ | ⟨ds, rfl, rfl⟩
  · exact fun v H' Z' s' => kk v H' Z' s'
  · exact fun σ' H' Z' s' => kk .non H' Z' (s'.pushS (n := n) .non rfl).only
section
variable {μ : List Md} {tr : TA} {n k : Nat} {mr : DS → Option (List D)} {m : List D → Option D} {E : XK}
theorem VE.call (ha : VA PZ μ tr k mr) : VE μ (tCall (spV n m) [] E tr) n (mAr m mr) := fun U Zc ds σ H Z s d e Q kk => by
  obtain ⟨xs, e1, e⟩ := bind_some e
  refine ha.2 U Zc ds σ H Z s xs e1 _ fun vs H1 Z1 s1 f1 g1 p1 => ?_
  rw [List.append_nil]
  exact ⟨Z1, xs, d, s1.sub, p1.reps, e, fun u H3 Z3 r3 => kk u H3 Z3 (s1.push r3) (fun _ _ q => r3.exZ _ _ (f1 _ _ q)) fun _ _ q => r3.exU _ _ (g1 _ _ q)⟩
theorem VX.call {mr : DS → Option (List D × DS)} (ha : VAX μ tr k mr) : VX μ (tCall (spV n m) [] E tr) n (mArX m mr) := fun U Zc ds σ H Z s d ds' e Q kk => by
  obtain ⟨⟨xs, d1⟩, e1, e⟩ := bind_some e
  obtain ⟨d', e3, e4⟩ := Option.map_eq_some_iff.mp e
  cases e4
  refine ha.2 U Zc ds σ H Z s xs _ e1 _ fun vs H1 Z1 s1 f1 p1 => ?_
  rw [List.append_nil]
  exact ⟨Z1, xs, d, s1.sub, p1.reps, e3, fun u H3 Z3 r3 => kk u H3 Z3 (s1.push r3) (fun _ _ q => r3.exZ _ _ (f1 _ _ q))⟩
/-- a result that needs no zone, made over the whole heap as a zone -/
theorem Stt.flat {H H' Z Z' : Hp} {d : D} {v : V} (ez : Ex Z H) (r : Stt H H [.o n] [some d] [some v] H' Z') (f : flatN n d = true) : Stt H Z [.o n] [some d] [some v] H' Z := by
  obtain ⟨ass, h1, h2, h3, h4⟩ := r.own
  refine ⟨r.exU, Ex.rf _, fun a u e => r.exU _ _ (ez _ _ e), fun _ _ => rfl, rfl, ass, fun i d' q => ?_, h2, h3, fun i a ha => ?_⟩
  · cases i with
    | zero =>
      have e : d = d' := by simpa using q
      subst e
      obtain ⟨v', a, b⟩ := h1 0 d rfl
      exact ⟨v', a, Own.flat n f b⟩
    | succ i => simp at q
  · obtain ⟨b1, b2, b3⟩ := h4 i a ha
    refine ⟨b1, ?_, b3⟩
    cases q : Z a with
    | none => rfl
    | some u => rw [ez _ _ q] at b1; cases b1
/-- arguments that are lent: the result needs no zone -/
theorem VE.callB (ha : VA PH μ tr k mr) (hf : ∀ xs d, m xs = some d → flatN n d = true) : VE μ (tCall (spV n m) [] E tr) n (mAr m mr) := fun U Zc ds σ H Z s d e Q kk => by
  obtain ⟨xs, e1, e⟩ := bind_some e
  refine ha.2 U Zc ds σ H Z s xs e1 _ fun vs H1 Z1 s1 f1 g1 p1 => ?_
  rw [List.append_nil]
  exact ⟨H1, xs, d, Ex.rf _, p1.reps, e, fun u H3 Z3 r3 => kk u H3 Z1 (s1.push (Stt.flat s1.sub r3 (hf _ _ e))) f1 fun _ _ q => r3.exU _ _ (g1 _ _ q)⟩
/-! methods and properties of instances -/
/-- an instance of C that has no such attribute of its own -/
def D.isIns (C : Addr) (f : Str) : D → Bool
  | .ins C' fs => decide (C' = C) && (fs.lookup f).isNone
  | _ => false
theorem look_none {γ δ : Type} {kd : List (Str × γ)} {kv : List (Str × δ)} {f : Str} (h : kd.map Prod.fst = kv.map Prod.fst) (e : kd.lookup f = none) : kv.lookup f = none := by
  induction kd generalizing kv with
  | nil =>
    cases kv with
    | nil => rfl
    | cons _ _ => cases h
  | cons x xs ih =>
    cases kv with
    | nil => cases h
    | cons y ys =>
      rw [List.map_cons, List.map_cons, List.cons.injEq] at h
      obtain ⟨x1, x2⟩ := x
      obtain ⟨y1, y2⟩ := y
      have h1 : x1 = y1 := h.1
      subst h1
      rw [List.lookup_cons] at e ⊢
      cases q : f == x1 with
      | true => rw [q] at e; cases e
      | false => rw [q] at e; exact ih h.2 e
theorem isIns_rep {H : Hp} {C : Addr} {f : Str} {d : D} {v : V} (h : Rep H d v) (e : d.isIns C f = true) : ∃ a dx fs, v = .ref a ∧ H a = some (.ins C dx fs) ∧ fs.lookup f = none := by
  cases h with
  | ins h1 h2 h3 =>
    rename_i a C' dx kv kd
    have e : (decide (C' = C) && (kd.lookup f).isNone) = true := e
    rw [Bool.and_eq_true, decide_eq_true_eq] at e
    obtain ⟨e1, e2⟩ := e
    subst e1
    exact ⟨a, dx, kv, rfl, h1, look_none h2 (Option.isNone_iff_eq_none.mp e2)⟩
  | _ => cases e
def mMeth (C : Addr) (f : Str) (m : List D → Option D) (a : Mr) (mr : DS → Option (List D)) : Mr := fun ds => (a ds).bind fun o => if o.isIns C f = true then (mr ds).bind fun xs => m (o :: xs) else none
variable {ta : TE} {ma : Mr} {C : Addr} {f : Str}
theorem VE.meth (ho : VP PZ μ ta ma) (ha : VA PZ μ tr k mr) : VE μ (tMeth C f (spV n m) [] E ta tr) n (mMeth C f m ma mr) := fun U Zc ds σ H Z s d e Q kk => by
  obtain ⟨o, e1, e⟩ := bind_some e
  by_cases hi : o.isIns C f = true
  case neg => rw [if_neg hi] at e; cases e
  rw [if_pos hi] at e
  obtain ⟨xs, e2, e⟩ := bind_some e
  refine ho U Zc ds σ H Z s o e1 _ fun v H1 Z1 s1 f1 g1 p1 => ?_
  obtain ⟨a, dx, fs, rfl, ha1, hl⟩ := isIns_rep (Rep.mono s1.sub p1) hi
  refine ⟨a, dx, fs, rfl, ha1, hl, ?_⟩
  refine ha.2 U Zc ds σ H1 Z1 s1 xs e2 _ fun vs H2 Z2 s2 f2 g2 p2 => ?_
  rw [List.append_nil]
  exact ⟨Z2, o :: xs, d, s2.sub, .cons (Rep.mono f2 p1) p2.reps, e, fun u H3 Z3 r3 => kk u H3 Z3 (s2.push r3) (fun _ _ q => r3.exZ _ _ (f2 _ _ (f1 _ _ q))) fun _ _ q => r3.exU _ _ (g2 _ _ (g1 _ _ q))⟩
theorem VE.methB (ho : VP PH μ ta ma) (ha : VA PH μ tr k mr) (hf : ∀ xs d, m xs = some d → flatN n d = true) : VE μ (tMeth C f (spV n m) [] E ta tr) n (mMeth C f m ma mr) := fun U Zc ds σ H Z s d e Q kk => by
  obtain ⟨o, e1, e⟩ := bind_some e
  by_cases hi : o.isIns C f = true
  case neg => rw [if_neg hi] at e; cases e
  rw [if_pos hi] at e
  obtain ⟨xs, e2, e⟩ := bind_some e
  refine ho U Zc ds σ H Z s o e1 _ fun v H1 Z1 s1 f1 g1 p1 => ?_
  obtain ⟨a, dx, fs, rfl, ha1, hl⟩ := isIns_rep p1 hi
  refine ⟨a, dx, fs, rfl, ha1, hl, ?_⟩
  refine ha.2 U Zc ds σ H1 Z1 s1 xs e2 _ fun vs H2 Z2 s2 f2 g2 p2 => ?_
  rw [List.append_nil]
  exact ⟨H2, o :: xs, d, Ex.rf _, .cons (Rep.mono g2 p1) p2.reps, e, fun u H3 Z3 r3 => kk u H3 Z2 (s2.push (Stt.flat s2.sub r3 (hf _ _ e))) (fun _ _ q => f2 _ _ (f1 _ _ q)) fun _ _ q => r3.exU _ _ (g2 _ _ (g1 _ _ q))⟩
def mMethX (C : Addr) (f : Str) (m : List D → Option D) (a : Mr) (mr : DS → Option (List D × DS)) : DS → Option (D × DS) := fun ds => (a ds).bind fun o => if o.isIns C f = true then (mr ds).bind fun x => (m (o :: x.1)).map fun d => (d, x.2) else none
theorem VX.meth {mr : DS → Option (List D × DS)} (ho : VP PZ μ ta ma) (ha : VAX μ tr k mr) : VX μ (tMeth C f (spV n m) [] E ta tr) n (mMethX C f m ma mr) := fun U Zc ds σ H Z s d ds' e Q kk => by
  obtain ⟨o, e1, e⟩ := bind_some e
  by_cases hi : o.isIns C f = true
  case neg => rw [if_neg hi] at e; cases e
  rw [if_pos hi] at e
  obtain ⟨⟨xs, d1⟩, e2, e⟩ := bind_some e
  obtain ⟨d', e3, e4⟩ := Option.map_eq_some_iff.mp e
  cases e4
  refine ho U Zc ds σ H Z s o e1 _ fun v H1 Z1 s1 f1 g1 p1 => ?_
  obtain ⟨a, dx, fs, rfl, ha1, hl⟩ := isIns_rep (Rep.mono s1.sub p1) hi
  refine ⟨a, dx, fs, rfl, ha1, hl, ?_⟩
  refine ha.2 U Zc ds σ H1 Z1 s1 xs _ e2 _ fun vs H2 Z2 s2 f2 p2 => ?_
  rw [List.append_nil]
  exact ⟨Z2, o :: xs, d, s2.sub, .cons (Rep.mono f2 p1) p2.reps, e3, fun u H3 Z3 r3 => kk u H3 Z3 (s2.push r3) (fun _ _ q => r3.exZ _ _ (f2 _ _ (f1 _ _ q)))⟩
/-- an instance of C -/
def D.isC (C : Addr) : D → Bool
  | .ins C' _ => decide (C' = C)
  | _ => false
theorem isC_rep {H : Hp} {C : Addr} {d : D} {v : V} (h : Rep H d v) (e : d.isC C = true) : ∃ a dx fs, v = .ref a ∧ H a = some (.ins C dx fs) := by
  cases h with
  | ins h1 h2 h3 =>
    rename_i a C' dx kv kd
    have e : decide (C' = C) = true := e
    rw [decide_eq_true_eq] at e
    subst e
    exact ⟨a, dx, kv, rfl, h1⟩
  | _ => cases e
def mProp (C : Addr) (m : List D → Option D) (a : Mr) : Mr := fun ds => (a ds).bind fun o => if o.isC C = true then m [o] else none
theorem VE.prop (ho : VP PZ μ ta ma) : VE μ (tProp C (spV n m) [] E ta) n (mProp C m ma) := fun U Zc ds σ H Z s d e Q kk => by
  obtain ⟨o, e1, e⟩ := bind_some e
  by_cases hi : o.isC C = true
  case neg => rw [if_neg hi] at e; cases e
  rw [if_pos hi] at e
  refine ho U Zc ds σ H Z s o e1 _ fun v H1 Z1 s1 f1 g1 p1 => ?_
  obtain ⟨a, dx, fs, rfl, ha1⟩ := isC_rep (Rep.mono s1.sub p1) hi
  exact ⟨a, dx, fs, rfl, ha1, Z1, [o], d, s1.sub, .cons p1 .nil, e, fun u H3 Z3 r3 => kk u H3 Z3 (s1.push r3) (fun _ _ q => r3.exZ _ _ (f1 _ _ q)) fun _ _ q => r3.exU _ _ (g1 _ _ q)⟩
/-! o.f -/
def D.fld (f : Str) : D → Option D
  | .ins _ fs => fs.lookup f
  | _ => none
theorem look_some {Z : Hp} {kd : List (Str × D)} {kv : List (Str × V)} {f : Str} {d : D} (h : kd.map Prod.fst = kv.map Prod.fst) (r : Reps Z (kd.map Prod.snd) (kv.map Prod.snd)) (e : kd.lookup f = some d) : ∃ v, kv.lookup f = some v ∧ Rep Z d v := by
  induction kd generalizing kv with
  | nil => cases e
  | cons x xs ih =>
    cases kv with
    | nil => cases h
    | cons y ys =>
      rw [List.map_cons, List.map_cons, List.cons.injEq] at h
      obtain ⟨x1, x2⟩ := x
      obtain ⟨y1, y2⟩ := y
      have h1 : x1 = y1 := h.1
      subst h1
      cases r with
      | cons r1 r2 =>
        rw [List.lookup_cons] at e ⊢
        cases q : f == x1 with
        | true => rw [q] at e; cases e; exact ⟨y2, rfl, r1⟩
        | false => rw [q] at e; exact ih h.2 r2 e
theorem fld_rep {Z H : Hp} {f : Str} {d x : D} {v : V} (e : Ex Z H) (h : P1 Z H d v) (q : d.fld f = some x) : ∃ a C dx fs y, v = .ref a ∧ H a = some (.ins C dx fs) ∧ fs.lookup f = some y ∧ Rep Z x y ∧ d.isC C = true := by
  obtain ⟨n, bs, hn, h⟩ := h
  cases d with
  | ins C kd =>
    cases n with
    | zero =>
      obtain ⟨h, _⟩ := h
      cases h with
      | ins h1 h2 h3 =>
        obtain ⟨y, a, b⟩ := look_some h2 h3 q
        exact ⟨_, _, _, _, y, rfl, e _ _ h1, a, b, by show decide (C = C) = true; simp⟩
    | succ n =>
      obtain rfl : n = 0 := by omega
      obtain ⟨a, dx, kv, cs, rfl, h1, h2, h3, _⟩ := h
      obtain ⟨h3, _⟩ := h3.to_reps
      obtain ⟨y, a', b⟩ := look_some h2 h3 q
      exact ⟨a, C, dx, kv, y, rfl, h1, a', b, by show decide (C = C) = true; simp⟩
  | _ => cases q
/-- o.f where o is of the class C, whose attributes are plain -/
def mFld (C : Addr) (f : Str) (a : Mr) : Mr := fun ds => (a ds).bind fun o => if o.isC C = true then o.fld f else none
theorem VE.fld {K : PySem.W.Frag} (ho : VP P1 μ ta ma) (hc : Cls K C) (hn : NoAttr K C f) : VE μ (tFld K ta f) 0 (mFld C f ma) := fun U Zc ds σ H Z s d e Q kk => by
  obtain ⟨o, e1, e⟩ := bind_some e
  by_cases hi : o.isC C = true
  case neg => rw [if_neg hi] at e; cases e
  rw [if_pos hi] at e
  refine ho U Zc ds σ H Z s o e1 _ fun v H1 Z1 s1 f1 g1 p1 => ?_
  obtain ⟨a, C', dx, fs, y, rfl, h1, h2, h3, h4⟩ := fld_rep s1.sub p1 e
  have eC : C' = C := by
    cases o with
    | ins C2 kd =>
      have a1 : C2 = C' := by simpa [D.isC] using h4
      have a2 : C2 = C := by simpa [D.isC] using hi
      rw [← a1, a2]
    | _ => cases hi
  subst eC
  exact ⟨a, C', dx, fs, y, rfl, h1, hc, hn, h2, kk y H1 Z1 (s1.pushZ h3) f1 g1⟩
end
end VS
end
section
set_option maxRecDepth 100000
set_option maxHeartbeats 4000000
/-! slots' contents changed; pots; instances made -/
namespace VS
open PySem L2 RX Evl
def Md.dep : Md → Nat
  | .o n => n
  | .pot _ n => n
section
variable {U Zc : Hp} {μ : List Md} {ds : DS} {σ : St} {H Z : Hp} {n k i : Nat} {d dy : D} {v y : V}
theorem OwnM.own {μ : Md} {bs : List Addr} (h : OwnM Z H μ d v bs) : Own Z H μ.dep d v bs := by
  cases μ with
  | o n => exact h
  | pot p n => exact h.2
/-- a slot's content is changed, with the result ahead taken in -/
theorem Stt.mut (s : Stt U Zc (.o k :: μ) (some dy :: ds) (some y :: σ) H Z) (hd : ds[i]? = some (some d)) :
    ∃ v bs cs, σ[i]? = some (some v) ∧ Own Z H (μ.getD i .sh).dep d v bs ∧ Own Z H k dy y cs ∧ (bs ++ cs).Nodup ∧ (∀ a ∈ bs ++ cs, Z a = none) ∧
      ∀ H' d' bs', (∀ b, b ∉ bs → H' b = H b) → Own Z H' (μ.getD i .sh).dep d' v bs' → (∀ b ∈ bs', b ∈ bs ++ cs) → bs'.Nodup → (∀ b ∈ bs, H' b ≠ none) → Stt U Zc μ (ds.set i (some d')) σ H' Z := by
  obtain ⟨ass, h1, h2, h3, h4⟩ := s.own
  have hl : ds.length = σ.length := by have := s.len; simpa using this
  obtain ⟨y', a0, b0⟩ := h1 0 dy rfl
  obtain rfl : y = y' := by simpa using a0
  obtain ⟨v, a1, b1⟩ := h1 (i + 1) d (by simpa using hd)
  have a1 : σ[i]? = some (some v) := by simpa using a1
  have b1 : OwnM Z H (μ.getD i .sh) d v (ass (i + 1)) := by simpa using b1
  have hil : i < ds.length := (List.getElem?_eq_some_iff.mp hd).1
  refine ⟨v, ass (i + 1), ass 0, a1, b1.own, b0, ?_, fun a ha => ?_, fun H' d' bs' hH ho hb nd hn => ?_⟩
  · exact List.nodup_append.mpr ⟨h2 _, h2 _, fun a ha b hb e => by
      subst e
      have := h3 _ _ a ha hb
      omega⟩
  · rcases List.mem_append.mp ha with q | q
    · exact (h4 _ a q).2.1
    · exact (h4 _ a q).2.1
  · have hU : ∀ a o, U a = some o → H' a = some o := fun a o e => by
      rw [hH a fun z => by rw [(h4 _ a z).1] at e; cases e]
      exact s.exU _ _ e
    have hZ : ∀ a o, Z a = some o → H' a = some o := fun a o e => by
      rw [hH a fun z => by rw [(h4 _ a z).2.1] at e; cases e]
      exact s.sub _ _ e
    refine ⟨hU, s.exZ, hZ, s.old, by rw [List.length_set, hl], fun j => if j = i then bs' else ass (j + 1), fun j d2 q => ?_, fun j => ?_, fun j l a c1 c2 => ?_, fun j a c1 => ?_⟩
    · by_cases hj : j = i
      · subst hj
        rw [List.getElem?_set_self hil] at q
        have e : d' = d2 := by simpa using q
        subst e
        refine ⟨v, a1, ?_⟩
        simp only [if_pos]
        cases hm : μ.getD j .sh with
        | o n => rw [hm] at ho; exact ho
        | pot p n =>
          rw [hm] at ho b1
          exact ⟨b1.1, ho⟩
      · rw [List.getElem?_set_ne (Ne.symm hj)] at q
        obtain ⟨v2, c1, c2⟩ := h1 (j + 1) d2 (by simpa using q)
        refine ⟨v2, by simpa using c1, ?_⟩
        simp only [if_neg hj]
        have c2 : OwnM Z H (μ.getD j .sh) d2 v2 (ass (j + 1)) := by simpa using c2
        exact c2.mono (Ex.rf _) fun a ha o e => by
          rw [hH a fun z => by have := h3 _ _ a ha z; omega]
          exact e
    · show (if j = i then bs' else ass (j + 1)).Nodup
      split
      · exact nd
      · exact h2 _
    · have both : ∀ a, a ∈ bs' → ∀ l, l ≠ i → a ∉ ass (l + 1) := fun a ha l hl z => by
        rcases List.mem_append.mp (hb a ha) with q | q
        · have := h3 _ _ a q z; omega
        · have := h3 _ _ a q z; omega
      by_cases hj : j = i <;> by_cases hl' : l = i
      · rw [hj, hl']
      · simp only [if_pos hj] at c1; simp only [if_neg hl'] at c2
        exact absurd c2 (both a c1 l hl')
      · simp only [if_neg hj] at c1; simp only [if_pos hl'] at c2
        exact absurd c1 (both a c2 j hj)
      · simp only [if_neg hj] at c1; simp only [if_neg hl'] at c2
        have := h3 _ _ a c1 c2
        omega
    · by_cases hj : j = i
      · simp only [if_pos hj] at c1
        rcases List.mem_append.mp (hb a c1) with q | q
        · exact ⟨(h4 _ a q).1, (h4 _ a q).2.1, hn a q⟩
        · refine ⟨(h4 _ a q).1, (h4 _ a q).2.1, ?_⟩
          rw [hH a fun z => by have := h3 _ _ a q z; omega]
          exact (h4 _ a q).2.2
      · simp only [if_neg hj] at c1
        refine ⟨(h4 _ a c1).1, (h4 _ a c1).2.1, ?_⟩
        rw [hH a fun z => by have := h3 _ _ a c1 z; omega]
        exact (h4 _ a c1).2.2
/-- .. a list -/
theorem Stt.mutL {xs : List D} (s : Stt U Zc (.o k :: μ) (some dy :: ds) (some y :: σ) H Z) (hd : ds[i]? = some (some (.lst xs))) (hm : (μ.getD i .sh).dep = n + 1) :
    ∃ a vs bs cs, σ[i]? = some (some (.ref a)) ∧ H a = some (.lst vs) ∧ L3 (Own Z H n) xs vs bs ∧ Own Z H k dy y cs ∧ (a :: bs ++ cs).Nodup ∧ Z a = none ∧
      ∀ ys ws bs', L3 (Own Z H n) ys ws bs' → (∀ b ∈ bs', b ∈ bs ++ cs) → bs'.Nodup → Stt U Zc μ (ds.set i (some (.lst ys))) σ (upd H a (.lst ws)) Z := by
  obtain ⟨v, bs0, cs, h1, h2, h3, h4, h5, h6⟩ := s.mut hd
  rw [hm] at h2 h6
  obtain ⟨a, vs, bs, rfl, ha, hl, rfl⟩ := h2
  refine ⟨a, vs, bs, cs, h1, ha, hl, h3, h4, h5 a (by simp), fun ys ws bs' hL hsub nd => ?_⟩
  have hna : a ∉ bs' := fun z => by
    have q : a ∉ bs ++ cs := by
      have := h4
      rw [List.cons_append, List.nodup_cons] at this
      exact this.1
    exact q (hsub a z)
  refine h6 _ (.lst ys) (a :: bs') (fun b hb => upd_ne fun z => hb (by rw [z]; simp)) ⟨a, ws, bs', rfl, upd_same, hL.imp fun d v b hb q => Own.mono (Ex.rf _) n (fun c hc o e => by rw [upd_ne (fun z : c = a => hna (z ▸ hb c hc))]; exact e) q, rfl⟩ (fun b hb => ?_) (List.nodup_cons.mpr ⟨hna, nd⟩) fun b hb => ?_
  · rcases List.mem_cons.mp hb with e | hb
    · rw [e]; simp
    · exact List.mem_append.mpr ((List.mem_append.mp (hsub b hb)).imp (List.mem_cons_of_mem _) id)
  · by_cases e : b = a
    · rw [e, upd_same]; intro z; cases z
    · rw [upd_ne e]
      have hb' : b ∈ bs := (List.mem_cons.mp hb).resolve_left e
      obtain ⟨d, v, b2, q1, q2⟩ := hl.mem b hb'
      exact Own.live n q1 b q2
end
/-! methods of lists in a slot -/
def D.isL : D → Bool
  | .lst _ => true
  | _ => false
theorem isL_some {d : D} (h : d.isL = true) : ∃ xs, d = .lst xs := by
  cases d with
  | lst xs => exact ⟨xs, rfl⟩
  | _ => cases h
/-- the list in a slot -/
def sl (i : Nat) (ds : DS) : Option (List D) := match mVar i ds with
  | some (.lst xs) => some xs
  | _ => none
theorem sl_some {i : Nat} {ds : DS} {xs : List D} (h : sl i ds = some xs) : ds[i]? = some (some (.lst xs)) := by
  unfold sl at h
  cases e : mVar i ds with
  | none => rw [e] at h; cases h
  | some d =>
    rw [e] at h
    cases d with
    | lst ys => cases h; exact mVar_some e
    | _ => cases h
section
variable {μ : List Md} {K : PySem.W.Frag} {te tj : TE} {n k i : Nat} {me : DS → Option (D × DS)}
/-- the list in a slot stands in the heap -/
theorem Stt.atL {U Zc : Hp} {ds : DS} {σ : St} {H Z : Hp} {xs : List D} (s : Stt U Zc μ ds σ H Z) (h : ds[i]? = some (some (.lst xs))) : ∃ a vs, σ[i]? = some (some (.ref a)) ∧ H a = some (.lst vs) ∧ vs.length = xs.length := by
  obtain ⟨v, bs, h1, h2⟩ := s.get h
  have := Own.rep s.sub _ (fun _ _ _ z => z) h2.own
  cases this with
  | lst ha r => exact ⟨_, _, h1, ha, r.length⟩
def mAppend (i : Nat) (me : DS → Option (D × DS)) : DS → Option (D × DS) := fun ds => (sl i ds).bind fun _ => (me ds).bind fun y => (sl i y.2).bind fun xs => if xs.length < lim then some (.non, y.2.set i (some (.lst (xs ++ [y.1])))) else none
theorem VX.append (he : VX μ te n me) (hm : (μ.getD i .sh).dep = n + 1) : VX μ (tBM K "list" rAppend (tVar i) (tCons te tNil)) k (mAppend i me) := fun U Zc ds σ H Z s d ds' e Q kk => by
  obtain ⟨x0, e0, e⟩ := bind_some e
  obtain ⟨⟨y, d1⟩, e1, e⟩ := bind_some e
  obtain ⟨xs, e2, e⟩ := bind_some e
  by_cases hl : xs.length < lim
  case neg => rw [if_neg hl] at e; cases e
  rw [if_pos hl] at e
  cases e
  obtain ⟨a, vs, h1, h2, h3⟩ := s.atL (sl_some e0)
  refine ⟨.ref a, h1, .inl ⟨rfl, vs, SqL.of h2⟩, ?_⟩
  refine he U Zc ds σ H Z s y d1 e1 _ fun v H1 Z1 s1 f1 => ?_
  obtain ⟨a', vs', bs, cs, g1, g2, g3, g4, g5, g6, g7⟩ := s1.mutL (sl_some e2) hm
  have ea : a = a' := by rw [h1] at g1; cases g1; rfl
  subst ea
  refine ⟨a, vs', v, rfl, rfl, g2, lim_lt (by rw [g3.length]; exact hl), ?_⟩
  have nd : (bs ++ cs).Nodup := by
    have := g5
    rw [List.cons_append, List.nodup_cons] at this
    exact this.2
  have s2 := g7 (xs ++ [y]) (vs' ++ [v]) (bs ++ cs) (g3.app (by have := L3.cons g4 (.nil (P := Own Z1 H1 n)); rw [List.append_nil] at this; exact this)) (fun b hb => hb) nd
  exact kk .non _ Z1 (s2.pushS .non rfl) f1
/-- no argument: the list is made another one of its own parts -/
def mLs (i : Nat) (f : List D → List D) : DS → Option (D × DS) := fun ds => (sl i ds).map fun xs => (.non, ds.set i (some (.lst (f xs))))
theorem VX.clear (hm : (μ.getD i .sh).dep = n + 1) : VX μ (tBM K "list" rClear (tVar i) tNil) k (mLs i fun _ => []) := fun U Zc ds σ H Z s d ds' e Q kk => by
  obtain ⟨xs, e1, e2⟩ := Option.map_eq_some_iff.mp e
  cases e2
  obtain ⟨a', vs', bs, cs, g1, g2, g3, g4, g5, g6, g7⟩ := (s.pushS (n := 0) .non rfl).mutL (sl_some e1) hm
  exact ⟨.ref a', g1, .inl ⟨rfl, vs', SqL.of g2⟩, a', vs', rfl, rfl, g2, kk .non _ Z ((g7 [] [] [] .nil (fun b hb => nomatch hb) List.nodup_nil).pushS .non rfl) (Ex.rf _)⟩
theorem L3.rev {P : D → V → List Addr → Prop} : ∀ {ds : List D} {vs : List V} {bs : List Addr}, L3 P ds vs bs → ∃ cs, L3 P ds.reverse vs.reverse cs ∧ (∀ b, b ∈ cs ↔ b ∈ bs) ∧ (bs.Nodup → cs.Nodup)
  | _, _, _, .nil => ⟨[], .nil, fun _ => Iff.rfl, fun h => h⟩
  | _, _, _, .cons (b := b) (bs := bs) h r => by
    obtain ⟨cs, h1, h2, h3⟩ := r.rev
    refine ⟨cs ++ b, ?_, fun x => ?_, fun nd => ?_⟩
    · rw [List.reverse_cons, List.reverse_cons]
      have := h1.app (L3.cons h (.nil (P := P)))
      rw [List.append_nil] at this
      exact this
    · rw [List.mem_append, List.mem_append, h2 x, Or.comm]
    · obtain ⟨n1, n2, n3⟩ := List.nodup_append.mp nd
      exact List.nodup_append.mpr ⟨h3 n2, n1, fun a ha c hc e => n3 c hc a ((h2 a).mp ha) e.symm⟩
theorem VX.reverse (hm : (μ.getD i .sh).dep = n + 1) : VX μ (tBM K "list" rReverse (tVar i) tNil) k (mLs i List.reverse) := fun U Zc ds σ H Z s d ds' e Q kk => by
  obtain ⟨xs, e1, e2⟩ := Option.map_eq_some_iff.mp e
  cases e2
  obtain ⟨a', vs', bs, cs, g1, g2, g3, g4, g5, g6, g7⟩ := (s.pushS (n := 0) .non rfl).mutL (sl_some e1) hm
  obtain ⟨cs', r1, r2, r3⟩ := g3.rev
  have nd : bs.Nodup := by
    have := g5
    rw [List.cons_append, List.nodup_cons] at this
    exact (List.nodup_append.mp this.2).1
  exact ⟨.ref a', g1, .inl ⟨rfl, vs', SqL.of g2⟩, a', vs', rfl, rfl, g2, kk .non _ Z ((g7 _ _ cs' r1 (fun b hb => List.mem_append_left _ ((r2 b).mp hb)) (r3 nd)).pushS .non rfl) (Ex.rf _)⟩
/-- x.pop(): of a list of shared things -/
def mPop (i : Nat) : DS → Option (D × DS) := fun ds => (sl i ds).bind fun xs => (xs.getLast?).map fun y => (y, ds.set i (some (.lst xs.dropLast)))
theorem Reps.dropLast {Z : Hp} {xs : List D} {vs : List V} (h : Reps Z xs vs) : Reps Z xs.dropLast vs.dropLast := by
  have := h.take (vs.length - 1)
  rw [List.dropLast_eq_take, List.dropLast_eq_take, ← h.length]
  exact this
theorem VX.pop (hm : (μ.getD i .sh).dep = 1) : VX μ (tBM K "list" rPop (tVar i) tNil) 0 (mPop i) := fun U Zc ds σ H Z s d ds' e Q kk => by
  obtain ⟨xs, e1, e⟩ := bind_some e
  obtain ⟨y, e2, e3⟩ := Option.map_eq_some_iff.mp e
  cases e3
  obtain ⟨a', vs', bs, cs, g1, g2, g3, g4, g5, g6, g7⟩ := (s.pushS (n := 0) .non rfl).mutL (sl_some e1) hm
  obtain ⟨r, _⟩ := g3.to_reps
  rw [List.getLast?_eq_getElem?] at e2
  obtain ⟨v, h1, h2⟩ := r.get e2
  refine ⟨.ref a', g1, .inl ⟨rfl, vs', SqL.of g2⟩, a', vs', v, rfl, rfl, g2, by rw [r.length]; exact h1, ?_⟩
  exact kk v _ Z ((g7 _ _ [] (L3.of_reps r.dropLast) (fun b hb => nomatch hb) List.nodup_nil).pushZ h2) (Ex.rf _)
/-- x.pop(j), j counted from 0 -/
def mPopAt (i : Nat) (me : DS → Option (D × DS)) : DS → Option (D × DS) := fun ds => (sl i ds).bind fun _ => (me ds).bind fun j => match j.1 with
  | .int z => (sl i j.2).bind fun xs => if 0 ≤ z ∧ xs.length ≤ lim then (xs[z.toNat]?).map fun y => (y, j.2.set i (some (.lst (xs.eraseIdx z.toNat)))) else none
  | _ => none
theorem Reps.erase {Z : Hp} : ∀ {xs : List D} {vs : List V} (j : Nat), Reps Z xs vs → Reps Z (xs.eraseIdx j) (vs.eraseIdx j)
  | _, _, _, .nil => .nil
  | _, _, 0, .cons _ r => r
  | _, _, j + 1, .cons h r => .cons h (r.erase j)
theorem VX.popAt (he : VX μ te 0 me) (hm : (μ.getD i .sh).dep = 1) : VX μ (tBM K "list" rPopAt (tVar i) (tCons te tNil)) 0 (mPopAt i me) := fun U Zc ds σ H Z s d ds' e Q kk => by
  obtain ⟨x0, e0, e⟩ := bind_some e
  obtain ⟨⟨j, d1⟩, e1, e⟩ := bind_some e
  cases j with
  | int z =>
    obtain ⟨xs, e2, e⟩ := bind_some e
    by_cases hz : 0 ≤ z ∧ xs.length ≤ lim
    case neg => rw [if_neg hz] at e; cases e
    rw [if_pos hz] at e
    obtain ⟨y, e3, e4⟩ := Option.map_eq_some_iff.mp e
    cases e4
    obtain ⟨a, vs, h1, h2, h3⟩ := s.atL (sl_some e0)
    refine ⟨.ref a, h1, .inl ⟨rfl, vs, SqL.of h2⟩, ?_⟩
    refine he U Zc ds σ H Z s _ d1 e1 _ fun v H1 Z1 s1 f1 => ?_
    have hv : v = .int z := by have := s1.top0; cases this; rfl
    subst hv
    obtain ⟨a', vs', bs, cs, g1, g2, g3, g4, g5, g6, g7⟩ := (s1.pop.pushS (n := 0) .non rfl).mutL (sl_some e2) hm
    have ea : a = a' := by rw [h1] at g1; cases g1; rfl
    subst ea
    obtain ⟨r, _⟩ := g3.to_reps
    obtain ⟨w, q1, q2⟩ := r.get e3
    have hj : z.toNat < xs.length := (List.getElem?_eq_some_iff.mp e3).1
    have hlim : lim = 10000000 := rfl
    refine ⟨a, vs', z, z.toNat, w, rfl, rfl, g2, by omega, by omega, ?_, q1, ?_⟩
    · have hvl := r.length
      exact (ixN_seq (by unfold ixN; rw [if_pos hz.1, if_pos (by omega)])).1
    · exact kk w _ Z1 ((g7 _ _ [] (L3.of_reps (r.erase _)) (fun b hb => nomatch hb) List.nodup_nil).pushZ q2) f1
  | _ => cases e
/-- x[j] = e -/
def mSetIx (i : Nat) (mj : Mr) (me : DS → Option (D × DS)) : Ms := fun ds => (me ds).bind fun y => (mj y.2).bind fun j => match j with
  | .int z => (sl i y.2).bind fun xs => if 0 ≤ z ∧ z.toNat < xs.length then some (.nx (y.2.set i (some (.lst (xs.set z.toNat y.1))))) else none
  | _ => none
theorem VSt.setIx {io : Option (Addr × Nat)} {rn : Nat} {mj : Mr} (he : VX μ te 0 me) (hj : VP PH μ tj mj) (hm : (μ.getD i .sh).dep = 1) : VSt io rn μ μ (tAsg te (gSub (tVar i) tj rSetL)) (mSetIx i mj me) := fun U Zc ds σ H Z s fl e E p => by
  obtain ⟨⟨y, d1⟩, e1, e⟩ := bind_some e
  obtain ⟨j, e2, e⟩ := bind_some e
  cases j with
  | int z =>
    obtain ⟨xs, e3, e⟩ := bind_some e
    by_cases hz : 0 ≤ z ∧ z.toNat < xs.length
    case neg => rw [if_neg hz] at e; cases e
    rw [if_pos hz] at e
    cases e
    refine he U Zc ds σ H Z s y d1 e1 _ fun v H1 Z1 s1 f1 => ?_
    obtain ⟨a, vs, h1, h2, h3⟩ := s1.pop.atL (sl_some e3)
    refine ⟨.ref a, h1, ?_⟩
    refine hj U Zc d1 σ H1 Z1 s1.pop _ e2 _ fun w H2 Z2 s2 f2 g2' p2 => ?_
    have hv : w = .int z := by cases p2; rfl
    subst hv
    obtain ⟨a', vs', bs, cs, g1, g2, g3, g4, g5, g6, g7⟩ := (s2.pushS (n := 0) .non rfl).mutL (sl_some e3) hm
    have ea : a = a' := by rw [h1] at g1; cases g1; rfl
    subst ea
    obtain ⟨r, _⟩ := g3.to_reps
    have hvl := r.length
    refine ⟨a, vs', z, z.toNat, rfl, rfl, g2, ?_, ?_⟩
    · unfold ixN
      rw [if_pos hz.1, if_pos (by omega)]
    · exact p _ _ Z2 (g7 _ _ [] (L3.of_reps (r.set (Rep.mono f2 s1.top0) _)) (fun b hb => nomatch hb) List.nodup_nil)
  | _ => cases e
end
end VS
end
section
set_option maxRecDepth 100000
set_option maxHeartbeats 4000000
/-! pots: defs that change their first argument; instances made by __init__ -/
namespace VS
open PySem L2 RX Evl
/-- the heap without a cell -/
def dl (H : Hp) (p : Addr) : Hp := fun b => if b = p then none else H b
theorem dl_same {H : Hp} {p : Addr} : dl H p p = none := by unfold dl; rw [if_pos rfl]
theorem dl_ne {H : Hp} {p b : Addr} (h : b ≠ p) : dl H p b = H b := by unfold dl; rw [if_neg h]
theorem dl_none {H : Hp} {p b : Addr} (h : H b = none) : dl H p b = none := by
  by_cases e : b = p
  · rw [e, dl_same]
  · rw [dl_ne e, h]
theorem dl_ex {H : Hp} {p : Addr} : Ex (dl H p) H := fun a o e => by
  by_cases q : a = p
  · rw [q, dl_same] at e; cases e
  · rw [dl_ne q] at e; exact e
/-- a def whose first argument stands at p, is owned, and is changed -/
def spP (pn n : Nat) (m : List D → Option (D × D)) : Sp := fun vs H Q _ => ∃ Z p ws d0 xs d d1, vs = .ref p :: ws ∧ Ex Z H ∧ Z p = none ∧ Own Z H pn d0 (.ref p) [p] ∧ Reps Z xs ws ∧ m (d0 :: xs) = some (d, d1) ∧
  ∀ v H' Z', Stt (dl H p) Z [.o n, .pot p pn] [some d, some d1] [some v, some (.ref p)] H' Z' → Q v H'
def fnP (N k : Nat) (mb : Ms) : List D → Option (D × D) := fun xs => if xs.length = k then (match mb (xs.map some ++ List.replicate (N - k) none) with
  | some (.rt d ds) => (mVar 0 ds).map fun d1 => (d, d1)
  | some (.nx ds) => (mVar 0 ds).map fun d1 => (.non, d1)
  | none => none) else none
theorem fnP_some {N k : Nat} {mb : Ms} {xs : List D} {d d1 : D} (h : fnP N k mb xs = some (d, d1)) : xs.length = k ∧ ∃ fl ds, mb (xs.map some ++ List.replicate (N - k) none) = some fl ∧ ds[0]? = some (some d1) ∧ (fl = .rt d ds ∨ (fl = .nx ds ∧ d = .non)) := by
  unfold fnP at h
  by_cases hk : xs.length = k
  · rw [if_pos hk] at h
    refine ⟨hk, ?_⟩
    cases e : mb (xs.map some ++ List.replicate (N - k) none) with
    | none => rw [e] at h; cases h
    | some fl =>
      rw [e] at h
      cases fl with
      | rt d' ds =>
        obtain ⟨x, h1, h2⟩ := Option.map_eq_some_iff.mp h
        cases h2
        exact ⟨_, ds, rfl, mVar_some h1, .inl rfl⟩
      | nx ds =>
        obtain ⟨x, h1, h2⟩ := Option.map_eq_some_iff.mp h
        cases h2
        exact ⟨_, ds, rfl, mVar_some h1, .inr ⟨rfl, rfl⟩⟩
  · rw [if_neg hk] at h; cases h
theorem spP_len {pn n N k : Nat} {mb : Ms} (vs : List V) (H : Hp) (Q : VK) (E : XK) (h : spP pn n (fnP N k mb) vs H Q E) : vs.length = k := by
  obtain ⟨Z, p, ws, d0, xs, d, d1, rfl, _, _, _, r, e, _⟩ := h
  have := (fnP_some e).1
  rw [List.length_cons] at this ⊢
  rw [r.length, this]
theorem Stt.startP {Z H : Hp} {p : Addr} {pn : Nat} {d0 : D} {xs : List D} {vs : List V} {r n : Nat} (e : Ex Z H) (hz : Z p = none) (h0 : Own Z H pn d0 (.ref p) [p]) (h : Reps Z xs vs) :
    Stt (dl H p) Z (.pot p pn :: List.replicate n .sh) (some d0 :: (xs.map some ++ List.replicate r none)) (some (.ref p) :: (vs.map some ++ List.replicate r none)) H Z := by
  have hp : H p ≠ none := Own.live pn h0 p (by simp)
  refine ⟨dl_ex, Ex.rf _, e, fun _ _ => rfl, by simp [h.length], fun i => if i = 0 then [p] else [], fun i d q => ?_, fun i => ?_, fun i j a h1 h2 => ?_, fun i a h1 => ?_⟩
  · cases i with
    | zero =>
      have e : d0 = d := by simpa using q
      subst e
      exact ⟨_, rfl, rfl, h0⟩
    | succ i =>
      obtain ⟨v, a, b⟩ := reps_slots h (by simpa using q)
      refine ⟨v, by simpa using a, ?_⟩
      have : (Md.pot p pn :: List.replicate n Md.sh).getD (i + 1) .sh = .sh := by
        have := getD_rep n i
        simpa using this
      rw [this]
      exact ⟨b, by simp⟩
  · show (if i = 0 then [p] else []).Nodup
    split
    · simp
    · exact List.nodup_nil
  · by_cases hi : i = 0 <;> by_cases hj : j = 0
    · rw [hi, hj]
    · simp [hj] at h2
    · simp [hi] at h1
    · simp [hi] at h1
  · by_cases hi : i = 0
    · have : a = p := by simpa [hi] using h1
      subst this
      exact ⟨dl_same, hz, hp⟩
    · simp [hi] at h1
theorem VSt.fnP {N : List Str} {pn n k : Nat} {μ' : Addr → List Md} {t : TS} {mb : Ms} {vs : List V} {H : Hp} {Q : VK} {E : XK} (h : ∀ p, VSt (some (p, pn)) n (.pot p pn :: List.replicate (N.length - 1) .sh) (μ' p) t mb) (hN : 0 < k) (hm : ∀ p, (μ' p).getD 0 .sh = .pot p pn) (hs : spP pn n (VS.fnP N.length k mb) vs H Q E) : t { nx := fun _ H' => Q .non H', rt := Q } (L2.start N vs) H := by
  obtain ⟨Z, p, ws, d0, xs, d, d1, rfl, ez, hz, h0, r, e, kk⟩ := hs
  obtain ⟨hk, fl, dsE, e1, e2, hfl⟩ := fnP_some e
  have hst : L2.start N (.ref p :: ws) = some (.ref p) :: (ws.map some ++ List.replicate (N.length - k) none) := by
    unfold L2.start
    have : (V.ref p :: ws).length = k := by rw [List.length_cons, r.length, ← hk, List.length_cons]
    rw [this]
    rfl
  rw [hst]
  have e1 : mb (some d0 :: (xs.map some ++ List.replicate (N.length - k) none)) = some fl := e1
  refine h p (dl H p) Z _ _ H Z (Stt.startP ez hz h0 r) fl e1 _ ?_
  have ej : (dsE[0]?).join = some d1 := by rw [e2]; rfl
  rcases hfl with rfl | ⟨rfl, rfl⟩
  · intro v H' Z' s'
    rw [ej] at s'
    exact kk v H' Z' s'
  · intro σ' H' Z' s'
    have := (s'.pushS (n := n) .non rfl).only2 (hm p)
    rw [ej] at this
    exact kk .non H' Z' this
/-- a slot's pot, changed by a call, and the result -/
theorem Stt.pushP {U Zc : Hp} {μ : List Md} {ds : DS} {σ : St} {H Z H' Z' : Hp} {i n pn : Nat} {p : Addr} {d d0 d1 : D} {v : V} (s : Stt U Zc μ ds σ H Z) (hi : ds[i]? = some (some d0)) (hm : μ.getD i .sh = .pot p pn) (hb : ∀ bs, Own Z H pn d0 (.ref p) bs → bs = [p])
    (r : Stt (dl H p) Z [.o n, .pot p pn] [some d, some d1] [some v, some (.ref p)] H' Z') : Stt U Zc (.o n :: μ) (some d :: ds.set i (some d1)) (some v :: σ) H' Z' := by
  obtain ⟨ass, h1, h2, h3, h4⟩ := s.own
  obtain ⟨bss, g1, g2, g3, g4⟩ := r.own
  have hil : i < ds.length := (List.getElem?_eq_some_iff.mp hi).1
  obtain ⟨v0, a0, b0⟩ := h1 i d0 hi
  rw [hm] at b0
  obtain ⟨rfl, b0⟩ := b0
  have ep := hb _ b0
  obtain ⟨v1, a1, b1⟩ := g1 1 d1 rfl
  obtain ⟨w1, b1⟩ := (show v1 = .ref p ∧ Own Z' H' pn d1 v1 (bss 1) from b1)
  subst w1
  obtain ⟨v2, a2, b2⟩ := g1 0 d rfl
  obtain rfl : v = v2 := by simpa using a2
  have np : ∀ j a, a ∈ ass j → j ≠ i → a ≠ p := fun j a ha hj z => hj (h3 j i a ha (by rw [ep, z]; simp))
  have inU : ∀ j a, a ∈ ass j → j ≠ i → dl H p a ≠ none := fun j a ha hj => by rw [dl_ne (np j a ha hj)]; exact (h4 j a ha).2.2
  have pU : U p = none := (h4 i p (by rw [ep]; simp)).1
  have eU : ∀ a o, U a = some o → dl H p a = some o := fun a o e => by
    rw [dl_ne fun z => by rw [z, pU] at e; cases e]
    exact s.exU _ _ e
  have eUn : ∀ a, dl H p a = none → U a = none := fun a z => by
    cases q : U a with
    | none => rfl
    | some o => rw [eU _ _ q] at z; cases z
  refine ⟨fun a o e => r.exU _ _ (eU a o e), fun a o e => r.exZ _ _ (s.exZ _ _ e), r.sub, fun a ha => ?_, by simp [s.len], fun j => match j with | 0 => bss 0 | j + 1 => if j = i then bss 1 else ass j, fun j d' q => ?_, fun j => ?_, fun j l a c1 c2 => ?_, fun j a c1 => ?_⟩
  · rw [r.old a (by
      cases q : U a with
      | none => exact absurd q ha
      | some o => rw [eU _ _ q]; intro z; cases z)]
    exact s.old a ha
  · cases j with
    | zero =>
      have e : d = d' := by simpa using q
      subst e
      exact ⟨v, rfl, b2⟩
    | succ j =>
      have q : (ds.set i (some d1))[j]? = some (some d') := by simpa using q
      by_cases hj : j = i
      · subst hj
        rw [List.getElem?_set_self hil] at q
        have e : d1 = d' := by simpa using q
        subst e
        refine ⟨.ref p, by simpa using a0, ?_⟩
        have hm' : (Md.o n :: μ).getD (j + 1) .sh = .pot p pn := by simpa using hm
        rw [hm']
        simp only [if_pos]
        exact ⟨rfl, b1⟩
      · rw [List.getElem?_set_ne (Ne.symm hj)] at q
        obtain ⟨v', c1, c2⟩ := h1 j d' q
        refine ⟨v', by simpa using c1, ?_⟩
        simp only [if_neg hj]
        have c2' : OwnM Z H ((Md.o n :: μ).getD (j + 1) .sh) d' v' (ass j) := by simpa using c2
        exact c2'.mono r.exZ fun a ha o e => r.exU _ _ (by rw [dl_ne (np j a ha hj)]; exact e)
  · cases j with
    | zero => exact g2 0
    | succ j =>
      show (if j = i then bss 1 else ass j).Nodup
      split
      · exact g2 1
      · exact h2 j
  · have out : ∀ k, ∀ a ∈ bss k, dl H p a = none := fun k a ha => (g4 k a ha).1
    cases j with
    | zero =>
      cases l with
      | zero => rfl
      | succ l =>
        by_cases hl : l = i
        · have c2 : a ∈ bss 1 := by simpa [hl] using c2
          exact absurd (g3 0 1 a c1 c2) (by decide)
        · have c2 : a ∈ ass l := by simpa [hl] using c2
          exact absurd (out 0 a c1) (inU l a c2 hl)
    | succ j =>
      cases l with
      | zero =>
        by_cases hj : j = i
        · have c1 : a ∈ bss 1 := by simpa [hj] using c1
          exact absurd (g3 0 1 a c2 c1) (by decide)
        · have c1 : a ∈ ass j := by simpa [hj] using c1
          exact absurd (out 0 a c2) (inU j a c1 hj)
      | succ l =>
        by_cases hj : j = i <;> by_cases hl : l = i
        · rw [hj, hl]
        · have c1 : a ∈ bss 1 := by simpa [hj] using c1
          have c2 : a ∈ ass l := by simpa [hl] using c2
          exact absurd (out 1 a c1) (inU l a c2 hl)
        · have c1 : a ∈ ass j := by simpa [hj] using c1
          have c2 : a ∈ bss 1 := by simpa [hl] using c2
          exact absurd (out 1 a c2) (inU j a c1 hj)
        · have c1 : a ∈ ass j := by simpa [hj] using c1
          have c2 : a ∈ ass l := by simpa [hl] using c2
          rw [h3 j l a c1 c2]
  · cases j with
    | zero =>
      obtain ⟨q1, q2, q3⟩ := g4 0 a c1
      exact ⟨eUn a q1, q2, q3⟩
    | succ j =>
      by_cases hj : j = i
      · have c1 : a ∈ bss 1 := by simpa [hj] using c1
        obtain ⟨q1, q2, q3⟩ := g4 1 a c1
        exact ⟨eUn a q1, q2, q3⟩
      · have c1 : a ∈ ass j := by simpa [hj] using c1
        obtain ⟨q1, q2, q3⟩ := h4 j a c1
        refine ⟨q1, ?_, fun z => ?_⟩
        · rw [r.old a (inU j a c1 hj)]; exact q2
        · cases w : dl H p a with
          | none => exact inU j a c1 hj w
          | some o => rw [r.exU _ _ w] at z; cases z
section
variable {μ : List Md} {tr : TA} {n k i : Nat} {p : Addr} {mr : DS → Option (List D × DS)} {m : List D → Option (D × D)} {E : XK} {C : Addr}
theorem own1_lst {Z H : Hp} {xs : List D} {v : V} {bs : List Addr} (h : Own Z H 1 (.lst xs) v bs) : ∃ a, v = .ref a ∧ bs = [a] := by
  obtain ⟨a, vs, cs, rfl, _, h3, rfl⟩ := h
  obtain ⟨_, rfl⟩ := h3.to_reps
  exact ⟨a, rfl, rfl⟩
/-- f(pot, ..) -/
def mCallP (i : Nat) (m : List D → Option (D × D)) (mr : DS → Option (List D × DS)) : DS → Option (D × DS) := fun ds => (sl i ds).bind fun _ => (mr ds).bind fun x => (sl i x.2).bind fun c => (m (.lst c :: x.1)).map fun r => (r.1, x.2.set i (some r.2))
theorem VX.callP (hm : μ.getD i .sh = .pot p 1) (ha : VAX μ tr k mr) : VX μ (tCall (spP 1 n m) [] E (tCons (tVar i) tr)) n (mCallP i m mr) := fun U Zc ds σ H Z s d ds' e Q kk => by
  obtain ⟨c0, e0, e⟩ := bind_some e
  obtain ⟨⟨xs, d1⟩, e1, e⟩ := bind_some e
  obtain ⟨c, e2, e⟩ := bind_some e
  obtain ⟨⟨r, dn⟩, e3, e4⟩ := Option.map_eq_some_iff.mp e
  cases e4
  obtain ⟨v, bs, h1, h2⟩ := s.get (sl_some e0)
  rw [hm] at h2
  obtain ⟨rfl, _⟩ := h2
  refine ⟨_, h1, ?_⟩
  refine ha.2 U Zc ds σ H Z s xs d1 e1 _ fun vs H1 Z1 s1 f1 p1 => ?_
  show spP 1 n m ((V.ref p :: vs) ++ []) H1 Q E
  rw [List.append_nil]
  have hc := sl_some e2
  obtain ⟨ass, a1, a2, a3, a4⟩ := s1.own
  obtain ⟨v', b1, b2⟩ := a1 i _ hc
  rw [hm] at b2
  obtain ⟨rfl, b3⟩ := b2
  obtain ⟨q, q1, q2⟩ := own1_lst b3
  cases q1
  refine ⟨Z1, p, vs, .lst c, xs, _, dn, rfl, s1.sub, (a4 i p (by rw [q2]; simp)).2.1, by rw [← q2]; exact b3, p1.reps, e3, fun u H3 Z3 r3 => ?_⟩
  refine kk u H3 Z3 (s1.pushP hc hm (fun bs hb => ?_) r3) fun _ _ q => r3.exZ _ _ (f1 _ _ q)
  obtain ⟨a, g1, g2⟩ := own1_lst hb
  cases g1
  exact g2
/-- C(..) -/
def mMake (C : Addr) (m : List D → Option (D × D)) (mr : DS → Option (List D)) : Mr := fun ds => (mr ds).bind fun xs => (m (.ins C [] :: xs)).bind fun r => match r.1 with
  | .non => some r.2
  | _ => none
def mMakeX (C : Addr) (m : List D → Option (D × D)) (mr : DS → Option (List D × DS)) : DS → Option (D × DS) := fun ds => (mr ds).bind fun x => (m (.ins C [] :: x.1)).bind fun r => match r.1 with
  | .non => some (r.2, x.2)
  | _ => none
theorem made {pn : Nat} {vs : List V} {xs : List D} {d : D} {H Z : Hp} {Q : VK} {E : XK} (e : Ex Z H) (r : Reps Z xs vs) (hm : m (.ins C [] :: xs) = some (.non, d)) (k : Ret H Z pn d Q) (hpn : 0 < pn) :
    ∀ x dx, H x = none → H dx = none → dx ≠ x → spP pn 0 m (.ref x :: (vs ++ [])) (upd (upd H dx (.own x)) x (.ins C dx [])) (fun v H2 => v = .non ∧ Q (.ref x) H2) E := by
  intro x dx hx hdx hne
  rw [List.append_nil]
  have e1 : Ex H (upd H dx (.own x)) := Ex.new hdx
  have hx1 : upd H dx (.own x) x = none := by rw [upd_ne hne.symm]; exact hx
  have e2 : Ex H (upd (upd H dx (.own x)) x (.ins C dx [])) := fun a o q => Ex.new hx1 _ _ (e1 _ _ q)
  have hz : Z x = none := by
    cases q : Z x with
    | none => rfl
    | some o => rw [e _ _ q] at hx; cases hx
  obtain ⟨pn, rfl⟩ : ∃ q, pn = q + 1 := ⟨pn - 1, by omega⟩
  refine ⟨Z, x, vs, .ins C [], xs, .non, d, rfl, fun a o q => e2 _ _ (e _ _ q), hz, ⟨x, dx, [], [], rfl, upd_same, rfl, .nil, rfl⟩, r, hm, fun v H' Z' s => ⟨?_, ?_⟩⟩
  · have := s.top0
    cases this
    rfl
  · have eD : Ex H (dl (upd (upd H dx (.own x)) x (.ins C dx [])) x) := fun a o q => by
      rw [dl_ne fun z => by rw [z, hx] at q; cases q]
      exact e2 _ _ q
    refine k _ H' Z' ?_
    obtain ⟨ass, h1, h2, h3, h4⟩ := s.own
    refine ⟨fun a o q => s.exU _ _ (eD _ _ q), s.exZ, s.sub, fun a ha => s.old a fun z => ?_, rfl, fun i => ass (i + 1), fun i d' q => ?_, fun i => h2 _, fun i j a c1 c2 => by have := h3 _ _ a c1 c2; omega, fun i a c1 => ?_⟩
    · cases q : H a with
      | none => exact ha q
      | some o => rw [eD _ _ q] at z; cases z
    · cases i with
      | zero =>
        obtain ⟨v', c1, c2⟩ := h1 1 d' (by simpa using q)
        refine ⟨v', by simpa using c1, ?_⟩
        exact (show v' = .ref x ∧ Own Z' H' (pn + 1) d' v' (ass 1) from c2).2
      | succ i => simp at q
    · obtain ⟨b1, b2, b3⟩ := h4 _ a c1
      refine ⟨?_, b2, b3⟩
      cases q : H a with
      | none => rfl
      | some o => rw [eD _ _ q] at b1; cases b1
theorem VE.make {pn : Nat} {mr : DS → Option (List D)} (ha : VA PZ μ tr k mr) (hpn : 0 < pn := by decide) : VE μ (tMake C (spP pn 0 m) [] E tr) pn (mMake C m mr) := fun U Zc ds σ H Z s d e Q kk => by
  obtain ⟨xs, e1, e⟩ := bind_some e
  obtain ⟨⟨r, o⟩, e2, e⟩ := bind_some e
  cases r with
  | non =>
    cases e
    refine ha.2 U Zc ds σ H Z s xs e1 _ fun vs H1 Z1 s1 f1 g1 p1 => ?_
    exact made s1.sub p1.reps e2 (fun u H3 Z3 r3 => kk u H3 Z3 (s1.push r3) (fun _ _ q => r3.exZ _ _ (f1 _ _ q)) fun _ _ q => r3.exU _ _ (g1 _ _ q)) hpn
  | _ => cases e
theorem VX.make {pn : Nat} (ha : VAX μ tr k mr) (hpn : 0 < pn := by decide) : VX μ (tMake C (spP pn 0 m) [] E tr) pn (mMakeX C m mr) := fun U Zc ds σ H Z s d ds' e Q kk => by
  obtain ⟨⟨xs, d1⟩, e1, e⟩ := bind_some e
  obtain ⟨⟨r, o⟩, e2, e⟩ := bind_some e
  cases r with
  | non =>
    cases e
    refine ha.2 U Zc ds σ H Z s xs _ e1 _ fun vs H1 Z1 s1 f1 p1 => ?_
    exact made s1.sub p1.reps e2 (fun u H3 Z3 r3 => kk u H3 Z3 (s1.push r3) (fun _ _ q => r3.exZ _ _ (f1 _ _ q))) hpn
  | _ => cases e
/-- with lent arguments, for a result that needs no zone -/
theorem VE.makeB {pn : Nat} {mr : DS → Option (List D)} (ha : VA PH μ tr k mr) (hf : ∀ xs d, m (.ins C [] :: xs) = some (.non, d) → flatN pn d = true) (hpn : 0 < pn := by decide) : VE μ (tMake C (spP pn 0 m) [] E tr) pn (mMake C m mr) := fun U Zc ds σ H Z s d e Q kk => by
  obtain ⟨xs, e1, e⟩ := bind_some e
  obtain ⟨⟨r, o⟩, e2, e⟩ := bind_some e
  cases r with
  | non =>
    cases e
    refine ha.2 U Zc ds σ H Z s xs e1 _ fun vs H1 Z1 s1 f1 g1 p1 => ?_
    exact made (Ex.rf _) p1.reps e2 (fun u H3 Z3 r3 => kk u H3 Z1 (s1.push (Stt.flat s1.sub r3 (hf _ _ e2))) f1 fun _ _ q => r3.exU _ _ (g1 _ _ q)) hpn
  | _ => cases e
/-! self.f = e, self in a slot, f a new one -/
theorem putF_new (f : Str) (v : V) : ∀ fs : List (Str × V), fs.lookup f = none → putF f v fs = fs ++ [(f, v)]
  | [], _ => rfl
  | (g, x) :: r, h => by
    rw [List.lookup_cons] at h
    by_cases e : g = f
    · subst e
      rw [beq_self_eq_true] at h
      cases h
    · have hb : (f == g) = false := beq_eq_false_iff_ne.mpr (Ne.symm e)
      rw [hb] at h
      unfold putF
      rw [if_neg e, putF_new f v r h]
      rfl
/-- the instance in a slot -/
def si (C : Addr) (i : Nat) (ds : DS) : Option (List (Str × D)) := match mVar i ds with
  | some (.ins C' fs) => if C' = C then some fs else none
  | _ => none
theorem si_some {C : Addr} {i : Nat} {ds : DS} {fs : List (Str × D)} (h : si C i ds = some fs) : ds[i]? = some (some (.ins C fs)) := by
  unfold si at h
  cases e : mVar i ds with
  | none => rw [e] at h; cases h
  | some d =>
    rw [e] at h
    cases d with
    | ins C' gs =>
      have h : (if C' = C then some gs else none) = some fs := h
      by_cases hc : C' = C
      · rw [if_pos hc] at h
        cases h
        subst hc
        exact mVar_some e
      · rw [if_neg hc] at h; cases h
    | _ => cases h
def mSetF (C : Addr) (i : Nat) (f : Str) (me : DS → Option (D × DS)) : Ms := fun ds => (me ds).bind fun y => (si C i y.2).bind fun fs => if (fs.lookup f).isNone = true ∧ fs.length < 100 then some (.nx (y.2.set i (some (.ins C (fs ++ [(f, y.1)]))))) else none
theorem VSt.setF {io : Option (Addr × Nat)} {rn : Nat} {K : PySem.W.Frag} {te : TE} {f : Str} {me : DS → Option (D × DS)} (he : VX μ te n me) (hm : (μ.getD i .sh).dep = n + 1) (hc : Cls K C) (hn : NoAttr K C f) : VSt io rn μ μ (sFld K (tVar i) te f) (mSetF C i f me) := fun U Zc ds σ H Z s fl e E p => by
  obtain ⟨⟨y, d1⟩, e1, e⟩ := bind_some e
  obtain ⟨fs, e2, e⟩ := bind_some e
  by_cases hz : (fs.lookup f).isNone = true ∧ fs.length < 100
  case neg => rw [if_neg hz] at e; cases e
  rw [if_pos hz] at e
  cases e
  refine he U Zc ds σ H Z s y d1 e1 _ fun v H1 Z1 s1 f1 => ?_
  obtain ⟨w, bs, cs, h1, h2, h3, h4, h5, h6⟩ := s1.mut (si_some e2)
  rw [hm] at h2 h6
  obtain ⟨a, dx, kv, b0, rfl, g1, g2, g3, rfl⟩ := h2
  have hlk : kv.lookup f = none := look_none g2 (Option.isNone_iff_eq_none.mp hz.1)
  have hlen : kv.length = fs.length := by have := congrArg List.length g2; simpa using this.symm
  refine ⟨_, h1, a, C, dx, kv, rfl, g1, hc, hn, by omega, ?_⟩
  rw [putF_new f v kv hlk]
  have nd := h4
  rw [List.cons_append, List.nodup_cons] at nd
  refine p _ _ Z1 (h6 _ _ (a :: (b0 ++ cs)) (fun b hb => upd_ne fun z => hb (by rw [z]; simp)) ⟨a, dx, kv ++ [(f, v)], b0 ++ cs, rfl, upd_same, by rw [List.map_append, List.map_append, g2]; rfl, ?_, rfl⟩ (fun b hb => by simpa using hb) (by simpa using h4) fun b hb => ?_)
  · rw [List.map_append, List.map_append]
    have ne : ∀ c ∈ b0 ++ cs, c ≠ a := fun c hc z => nd.1 (z ▸ hc)
    refine (g3.imp fun d v b hb q => Own.mono (Ex.rf _) n (fun c hc o e => by rw [upd_ne (ne c (List.mem_append_left _ (hb c hc)))]; exact e) q).app ?_
    have := L3.cons (Own.mono (Z' := Z1) (H' := upd H1 a (.ins C dx (kv ++ [(f, v)]))) (Ex.rf _) n (fun c hc o e => by rw [upd_ne (ne c (List.mem_append_right _ hc))]; exact e) h3) .nil
    rw [List.append_nil] at this
    exact this
  · by_cases e : b = a
    · rw [e, upd_same]; intro z; cases z
    · rw [upd_ne e]
      have hb' : b ∈ b0 := (List.mem_cons.mp hb).resolve_left e
      obtain ⟨d, v, b2, q1, q2⟩ := g3.mem b hb'
      exact Own.live n q1 b q2
end
end VS
end
section
set_option maxRecDepth 100000
set_option maxHeartbeats 4000000
/-! Python's operators over data, each with one reading for all kinds -/
namespace VS
open PySem L2 RX Evl
section
variable {X : Cx}
theorem OpR.or {f : Value → Value → Sem Value} {r s : R2} (h1 : OpR X f r) (h2 : OpR X f s) : OpR X f (fun x y H Q => r x y H Q ∨ s x y H Q) := fun pins st σ H x y v u Q I rx ry h => h.elim (h1 pins st σ H x y v u Q I rx ry) (h2 pins st σ H x y v u Q I rx ry)
theorem CallR.or {f : Value} {r s : List V → Hp → VK → Prop} (h1 : CallR X f r) (h2 : CallR X f s) : CallR X f (fun xs H Q => r xs H Q ∨ s xs H Q) := fun pins st σ H xs us Q I rx h => h.elim (h1 pins st σ H xs us Q I rx) (h2 pins st σ H xs us Q I rx)
theorem SlR.or {r s : V → Option Int → Option Int → Hp → VK → Prop} (h1 : SlR X r) (h2 : SlR X s) : SlR X (fun x lo hi H Q => r x lo hi H Q ∨ s x lo hi H Q) := fun pins st σ H x v vl vu lo hi sl Q I rx hs pl pu h => h.elim (h1 pins st σ H x v vl vu lo hi sl Q I rx hs pl pu) (h2 pins st σ H x v vl vu lo hi sl Q I rx hs pl pu)
theorem PI.or {tg e : Expr} {w1 w2 : TI} (h1 : PI X tg e w1) (h2 : PI X tg e w2) : PI X tg e (fun σ H R => w1 σ H R ∨ w2 σ H R) := ⟨fun pins s σ H R I h => h.elim (h1.run pins s σ H R I) (h2.run pins s σ H R I)⟩
theorem PE.or {e : Expr} {t1 t2 : TE} (h1 : PE X e t1) (h2 : PE X e t2) : PE X e (fun σ H Q => t1 σ H Q ∨ t2 σ H Q) := ⟨fun pins s σ H Q I h => h.elim (h1.run pins s σ H Q I) (h2.run pins s σ H Q I)⟩
end
/-! what P1 tells of a list, a tuple -/
theorem P1.lst {Z H : Hp} {xs : List D} {v : V} (e : Ex Z H) (h : P1 Z H (.lst xs) v) : ∃ a vs, v = .ref a ∧ H a = some (.lst vs) ∧ Reps Z xs vs := by
  obtain ⟨n, bs, hn, h⟩ := h
  cases n with
  | zero =>
    obtain ⟨h, _⟩ := h
    cases h with
    | lst h1 h2 => exact ⟨_, _, rfl, e _ _ h1, h2⟩
  | succ n =>
    obtain rfl : n = 0 := by omega
    obtain ⟨a, vs, cs, rfl, h1, h2, _⟩ := h
    exact ⟨a, vs, rfl, h1, h2.to_reps.1⟩
theorem P1.tup {Z H : Hp} {xs : List D} {v : V} (e : Ex Z H) (h : P1 Z H (.tup xs) v) : ∃ a vs, v = .ref a ∧ H a = some (.tup vs) ∧ Reps Z xs vs ∧ Rep Z (.tup xs) v := by
  obtain ⟨n, bs, hn, h⟩ := h
  have h : Rep Z (.tup xs) v := by
    cases n with
    | zero => exact h.1
    | succ n => exact h.1
  cases h with
  | tup h1 h2 => exact ⟨_, _, rfl, e _ _ h1, h2, .tup h1 h2⟩
theorem P1.int {Z H : Hp} {i : Int} {v : V} (h : P1 Z H (.int i) v) : v = .int i := by
  obtain ⟨n, bs, hn, h⟩ := h
  cases n with
  | zero => obtain ⟨h, _⟩ := h; cases h; rfl
  | succ n => exact h.1
theorem P1.str {Z H : Hp} {a : Tx} {v : V} (h : P1 Z H (.str a) v) : v = tx a := by
  obtain ⟨n, bs, hn, h⟩ := h
  cases n with
  | zero => obtain ⟨h, _⟩ := h; cases h; rfl
  | succ n => exact h.1
/-! + -/
def dAdd : D → D → Option D
  | .int i, .int j => some (.int (i + j))
  | .str a, .str b => if a.length + b.length ≤ sizeLine then some (.str (a ++ b)) else none
  | .lst a, .lst b => if a.length + b.length ≤ sizeLine then some (.lst (a ++ b)) else none
  | .tup a, .tup b => if a.length + b.length ≤ sizeLine then some (.tup (a ++ b)) else none
  | _, _ => none
def rAddU (K : PySem.W.Frag) : R2 := fun x y H Q => rI0 (fun i j => .int (i + j)) x y H Q ∨ rAddT x y H Q ∨ rCat x y H Q ∨ rCatA K x y H Q
theorem op_addU {X : Cx} : OpR X (binaryOp .Add) (rAddU X.K) := op_add.or (op_addT.or (op_cat.or op_catA))
theorem if_some {α : Type} {c : Prop} [Decidable c] {x y : α} (h : (if c then some x else none) = some y) : c ∧ x = y := by
  by_cases hc : c
  · rw [if_pos hc] at h; exact ⟨hc, Option.some.inj h⟩
  · rw [if_neg hc] at h; cases h
theorem opp_add {K : PySem.W.Frag} : OpP P1 (rAddU K) dAdd 1 := fun Z H x y dx dy d Q e hx hy h k => by
  cases dx with
  | int i =>
    cases dy with
    | int j =>
      cases h
      exact .inl ⟨i, j, hx.int, hy.int, k.scal e (.int _) rfl⟩
    | _ => cases h
  | str a =>
    cases dy with
    | str b =>
      obtain ⟨hl, rfl⟩ := if_some h
      exact .inr (.inl ⟨a, b, hx.str, hy.str, hl, k.scal e (.str _) rfl⟩)
    | _ => cases h
  | lst a =>
    cases dy with
    | lst b =>
      obtain ⟨hl, rfl⟩ := if_some h
      obtain ⟨p, vs, rfl, h1, h2⟩ := hx.lst e
      obtain ⟨q, ws, rfl, h3, h4⟩ := hy.lst e
      exact .inr (.inr (.inl ⟨p, q, vs, ws, rfl, rfl, h1, h3, by rw [h2.length, h4.length]; exact hl, fun r hr => k.lst e hr (h2.app h4)⟩))
    | _ => cases h
  | tup a =>
    cases dy with
    | tup b =>
      obtain ⟨hl, rfl⟩ := if_some h
      obtain ⟨p, vs, rfl, h1, h2, h5⟩ := hx.tup e
      obtain ⟨q, ws, rfl, h3, h4, h6⟩ := hy.tup e
      refine .inr (.inr (.inr ⟨p, q, vs, ws, rfl, rfl, SqT.of h1, SqT.of h3, by rw [h2.length, h4.length]; exact hl, fun e0 => ?_, fun e0 e1 => ?_, fun e0 e1 r hr => k.tup e hr (h2.app h4)⟩))
      · subst e0
        have : a = [] := List.eq_nil_of_length_eq_zero (by rw [← h2.length]; rfl)
        subst this
        exact k.rep e (Own.tup h6)
      · subst e1
        have : b = [] := List.eq_nil_of_length_eq_zero (by rw [← h4.length]; rfl)
        subst this
        rw [List.append_nil] at k
        exact k.rep e (Own.tup h5)
    | _ => cases h
  | _ => cases h
/-! - * // % ** -/
def dSub : D → D → Option D
  | .int i, .int j => some (.int (i - j))
  | _, _ => none
theorem opp_sub : OpP PH (rI0 fun i j => .int (i - j)) dSub n := fun Z H x y dx dy d Q e hx hy h k => by
  cases dx with
  | int i =>
    cases dy with
    | int j =>
      cases h
      cases hx
      cases hy
      exact ⟨i, j, rfl, rfl, k.scal e (.int _) rfl⟩
    | _ => cases h
  | _ => cases h
def dMod : D → D → Option D
  | .int i, .int j => if 0 < j then some (.int (i % j)) else none
  | _, _ => none
theorem opp_mod : OpP PH (rI (fun _ j => 0 < j) fun i j => .int (i % j)) dMod n := fun Z H x y dx dy d Q e hx hy h k => by
  cases dx with
  | int i =>
    cases dy with
    | int j =>
      obtain ⟨hl, rfl⟩ := if_some h
      cases hx
      cases hy
      exact ⟨i, j, rfl, rfl, hl, k.scal e (.int _) rfl⟩
    | _ => cases h
  | _ => cases h
def dDiv : D → D → Option D
  | .int i, .int j => if 0 < j ∧ j < 1073741824 then some (.int (i / j)) else none
  | _, _ => none
theorem opp_div : OpP PH (rI CDiv fun i j => .int (i / j)) dDiv n := fun Z H x y dx dy d Q e hx hy h k => by
  cases dx with
  | int i =>
    cases dy with
    | int j =>
      obtain ⟨hl, rfl⟩ := if_some h
      cases hx
      cases hy
      exact ⟨i, j, rfl, rfl, hl, k.scal e (.int _) rfl⟩
    | _ => cases h
  | _ => cases h
def dPow : D → D → Option D
  | .int i, .int j => if 0 ≤ j ∧ j ≤ 1000000 ∧ i.natAbs < 2 ^ 64 then some (.int (i ^ j.toNat)) else none
  | _, _ => none
theorem opp_pow : OpP PH (rI CPow fun i j => .int (i ^ j.toNat)) dPow n := fun Z H x y dx dy d Q e hx hy h k => by
  cases dx with
  | int i =>
    cases dy with
    | int j =>
      obtain ⟨hl, rfl⟩ := if_some h
      cases hx
      cases hy
      exact ⟨i, j, rfl, rfl, hl, k.scal e (.int _) rfl⟩
    | _ => cases h
  | _ => cases h
def dMul : D → D → Option D
  | .int i, .int j => if -(2 ^ 64) < j ∧ j < 2 ^ 64 then some (.int (i * j)) else if -(2 ^ 64) < i ∧ i < 2 ^ 64 then some (.int (i * j)) else none
  | .str a, .int k => if 0 ≤ k ∧ k ≤ 1000000 ∧ a.length * k.toNat ≤ 16777216 then some (.str (repT a k.toNat)) else none
  | .lst a, .int k => if 0 ≤ k ∧ k ≤ 1000000 ∧ a.length * k.toNat ≤ sizeLine then some (.lst (List.replicate k.toNat a).flatten) else none
  | _, _ => none
def rMulU : R2 := fun x y H Q => rI CMul (fun i j => .int (i * j)) x y H Q ∨ rMulT x y H Q ∨ rRep x y H Q
theorem op_mulU {X : Cx} : OpR X (binaryOp .Mult) rMulU := op_mul.or (op_mulT.or op_rep)
theorem Reps.rep {Z : Hp} {ds : List D} {vs : List V} (h : Reps Z ds vs) : ∀ k : Nat, Reps Z (List.replicate k ds).flatten (List.replicate k vs).flatten
  | 0 => .nil
  | k + 1 => by
    rw [List.replicate_succ, List.replicate_succ, List.flatten_cons, List.flatten_cons]
    exact h.app (h.rep k)
theorem opp_mul : OpP P1 rMulU dMul 1 := fun Z H x y dx dy d Q e hx hy h k => by
  cases dx with
  | int i =>
    cases dy with
    | int j =>
      have h : (if -(2 ^ 64) < j ∧ j < 2 ^ 64 then some (D.int (i * j)) else if -(2 ^ 64) < i ∧ i < 2 ^ 64 then some (D.int (i * j)) else none) = some d := h
      by_cases hc : -(2 ^ 64) < j ∧ j < 2 ^ 64
      · rw [if_pos hc] at h
        cases h
        exact .inl ⟨i, j, hx.int, hy.int, .inr hc, k.scal e (.int _) rfl⟩
      · rw [if_neg hc] at h
        obtain ⟨hl, rfl⟩ := if_some h
        exact .inl ⟨i, j, hx.int, hy.int, .inl hl, k.scal e (.int _) rfl⟩
    | _ => cases h
  | str a =>
    cases dy with
    | int j =>
      obtain ⟨hl, rfl⟩ := if_some h
      obtain ⟨n, rfl⟩ := Int.eq_ofNat_of_zero_le hl.1
      rw [Int.toNat_natCast] at hl k
      exact .inr (.inl ⟨a, n, hx.str, hy.int, by omega, hl.2.2, k.scal e (.str _) rfl⟩)
    | _ => cases h
  | lst a =>
    cases dy with
    | int j =>
      obtain ⟨hl, rfl⟩ := if_some h
      obtain ⟨p, vs, rfl, h1, h2⟩ := hx.lst e
      exact .inr (.inr ⟨p, j, vs, rfl, hy.int, h1, by omega, by omega, by rw [h2.length]; exact hl.2.2, fun r hr => k.lst e hr (h2.rep _)⟩)
    | _ => cases h
  | _ => cases h
/-! < <= > >= -/
def dLt : D → D → Option D
  | .int i, .int j => some (.bl (decide (i < j)))
  | .str a, .str b => some (.bl (decide (a < b)))
  | _, _ => none
def rLtU : R2 := fun x y H Q => rI0 (fun i j => .bl (decide (i < j))) x y H Q ∨ (∃ i j, x = .str i ∧ y = .str j ∧ Q (.bl (decide (i.cps.toList < j.cps.toList))) H)
theorem op_ltU {X : Cx} : OpR X (compareOp .Lt) rLtU := op_lt.or op_lt_str
theorem opp_lt : OpP PH rLtU dLt n := fun Z H x y dx dy d Q e hx hy h k => by
  cases dx with
  | int i =>
    cases dy with
    | int j =>
      cases h
      cases hx
      cases hy
      exact .inl ⟨i, j, rfl, rfl, k.scal e (.bl _) rfl⟩
    | _ => cases h
  | str a =>
    cases dy with
    | str b =>
      cases h
      cases hx
      cases hy
      refine .inr ⟨stx a, stx b, rfl, rfl, ?_⟩
      rw [stx_list, stx_list]
      exact k.scal e (.bl _) rfl
    | _ => cases h
  | _ => cases h
def dCmp (f : Int → Int → Bool) : D → D → Option D
  | .int i, .int j => some (.bl (f i j))
  | _, _ => none
theorem opp_cmp (f : Int → Int → Bool) : OpP PH (rI0 fun i j => .bl (f i j)) (dCmp f) n := fun Z H x y dx dy d Q e hx hy h k => by
  cases dx with
  | int i =>
    cases dy with
    | int j =>
      cases h
      cases hx
      cases hy
      exact ⟨i, j, rfl, rfl, k.scal e (.bl _) rfl⟩
    | _ => cases h
  | _ => cases h
def dLe : D → D → Option D := dCmp fun i j => decide (i ≤ j)
def dGt : D → D → Option D := dCmp fun i j => decide (j < i)
def dGe : D → D → Option D := dCmp fun i j => decide (j ≤ i)
theorem opp_le : OpP PH (rI0 fun i j => .bl (decide (i ≤ j))) dLe n := opp_cmp _
theorem opp_gt : OpP PH (rI0 fun i j => .bl (decide (j < i))) dGt n := opp_cmp _
theorem opp_ge : OpP PH (rI0 fun i j => .bl (decide (j ≤ i))) dGe n := opp_cmp _
/-! == of data -/
mutual
def D.eqb : D → D → Bool
  | .non, .non => true
  | .bl a, .bl b => a == b
  | .bl a, .int j => (if a then 1 else 0) == j
  | .int i, .bl b => i == (if b then 1 else 0)
  | .int i, .int j => i == j
  | .str x, .str y => x == y
  | .lst xs, .lst ys => eqbs xs ys
  | .tup xs, .tup ys => eqbs xs ys
  | _, _ => false
def eqbs : List D → List D → Bool
  | [], [] => true
  | x :: xs, y :: ys => D.eqb x y && eqbs xs ys
  | _, _ => false
end
mutual
/-- as the library's data; texts must be texts -/
def D.pd : D → Option PyData
  | .non => some .none
  | .bl b => some (.bool b)
  | .int i => some (.int i)
  | .str a => some (.str (stx a))
  | .lst xs => (pds xs).map .list
  | .tup xs => (pds xs).map .tuple
  | _ => none
def pds : List D → Option (List PyData)
  | [] => some []
  | x :: xs => (D.pd x).bind fun p => (pds xs).map fun ps => p :: ps
end
mutual
theorem pd_dp {K : PySem.W.Frag} {H : Hp} : ∀ {d : D} {v : V} {p : PyData}, Rep H d v → d.pd = some p → Dp K H v p
  | _, _, _, .non, e => by simp only [D.pd] at e; cases e; exact .non
  | _, _, _, .bl b, e => by simp only [D.pd] at e; cases e; exact .bl b
  | _, _, _, .int i, e => by simp only [D.pd] at e; cases e; exact .int i
  | _, _, _, .str a, e => by simp only [D.pd] at e; cases e; exact .str _
  | _, _, _, .lst h r, e => by
    simp only [D.pd] at e
    obtain ⟨ps, e1, rfl⟩ := Option.map_eq_some_iff.mp e
    exact .lst (SqL.of h) (pds_dp r e1)
  | _, _, _, .tup h r, e => by
    simp only [D.pd] at e
    obtain ⟨ps, e1, rfl⟩ := Option.map_eq_some_iff.mp e
    exact .tup (SqT.of h) (pds_dp r e1)
  | _, _, _, .dic h _ r, e => by simp only [D.pd] at e; cases e
  | _, _, _, .ins h _ r, e => by simp only [D.pd] at e; cases e
theorem pds_dp {K : PySem.W.Frag} {H : Hp} : ∀ {ds : List D} {vs : List V} {ps : List PyData}, Reps H ds vs → pds ds = some ps → DpAll K H vs ps
  | _, _, _, .nil, e => by simp only [pds] at e; cases e; exact .nil
  | _, _, _, .cons h r, e => by
    simp only [pds] at e
    obtain ⟨p, e1, e⟩ := bind_some e
    obtain ⟨ps, e2, rfl⟩ := Option.map_eq_some_iff.mp e
    exact .cons (pd_dp h e1) (pds_dp r e2)
end
theorem stx_beq (a b : Tx) : (stx a == stx b) = (a == b) := by
  by_cases h : a = b
  · subst h; simp
  · rw [beq_eq_false_iff_ne.mpr h, beq_eq_false_iff_ne.mpr (fun e => h (stx_inj e))]
mutual
theorem pd_eqv : ∀ {a b : D} {p q : PyData}, a.pd = some p → b.pd = some q → PyData.eqv p q = a.eqb b
  | .non, b, p, q, h1, h2 => by
    simp only [D.pd] at h1; cases h1
    cases b <;> simp only [D.pd] at h2 <;> first
      | (exfalso; cases h2; done)
      | (cases h2; simp [PyData.eqv, D.eqb])
      | (obtain ⟨ps, _, rfl⟩ := Option.map_eq_some_iff.mp h2; simp [PyData.eqv, D.eqb])
  | .bl a, b, p, q, h1, h2 => by
    simp only [D.pd] at h1; cases h1
    cases b <;> simp only [D.pd] at h2 <;> first
      | (exfalso; cases h2; done)
      | (cases h2; simp [PyData.eqv, D.eqb])
      | (obtain ⟨ps, _, rfl⟩ := Option.map_eq_some_iff.mp h2; simp [PyData.eqv, D.eqb])
  | .int a, b, p, q, h1, h2 => by
    simp only [D.pd] at h1; cases h1
    cases b <;> simp only [D.pd] at h2 <;> first
      | (exfalso; cases h2; done)
      | (cases h2; simp [PyData.eqv, D.eqb])
      | (obtain ⟨ps, _, rfl⟩ := Option.map_eq_some_iff.mp h2; simp [PyData.eqv, D.eqb])
  | .str a, b, p, q, h1, h2 => by
    simp only [D.pd] at h1; cases h1
    cases b <;> simp only [D.pd] at h2 <;> first
      | (exfalso; cases h2; done)
      | (cases h2; simp only [PyData.eqv, D.eqb, stx_beq])
      | (cases h2; simp [PyData.eqv, D.eqb])
      | (obtain ⟨ps, _, rfl⟩ := Option.map_eq_some_iff.mp h2; simp [PyData.eqv, D.eqb])
  | .lst xs, b, p, q, h1, h2 => by
    simp only [D.pd] at h1
    obtain ⟨ps, e1, rfl⟩ := Option.map_eq_some_iff.mp h1
    cases b <;> simp only [D.pd] at h2 <;> first
      | (exfalso; cases h2; done)
      | (cases h2; simp [PyData.eqv, D.eqb])
      | (obtain ⟨qs, e2, rfl⟩ := Option.map_eq_some_iff.mp h2; simp only [PyData.eqv, D.eqb] <;> first | exact pds_eqv e1 e2 | rfl)
  | .tup xs, b, p, q, h1, h2 => by
    simp only [D.pd] at h1
    obtain ⟨ps, e1, rfl⟩ := Option.map_eq_some_iff.mp h1
    cases b <;> simp only [D.pd] at h2 <;> first
      | (exfalso; cases h2; done)
      | (cases h2; simp [PyData.eqv, D.eqb])
      | (obtain ⟨qs, e2, rfl⟩ := Option.map_eq_some_iff.mp h2; simp only [PyData.eqv, D.eqb] <;> first | exact pds_eqv e1 e2 | rfl)
  | .dic _, b, p, q, h1, h2 => by simp only [D.pd] at h1; cases h1
  | .ins _ _, b, p, q, h1, h2 => by simp only [D.pd] at h1; cases h1
theorem pds_eqv : ∀ {a b : List D} {p q : List PyData}, pds a = some p → pds b = some q → PyData.eqvAll p q = eqbs a b
  | [], [], _, _, h1, h2 => by simp only [pds] at h1 h2; cases h1; cases h2; simp [PyData.eqvAll, eqbs]
  | [], y :: ys, _, _, h1, h2 => by
    simp only [pds] at h1 h2
    cases h1
    obtain ⟨p, e1, e⟩ := bind_some h2
    obtain ⟨ps, e2, rfl⟩ := Option.map_eq_some_iff.mp e
    simp [PyData.eqvAll, eqbs]
  | x :: xs, [], _, _, h1, h2 => by
    simp only [pds] at h1 h2
    cases h2
    obtain ⟨p, e1, e⟩ := bind_some h1
    obtain ⟨ps, e2, rfl⟩ := Option.map_eq_some_iff.mp e
    simp [PyData.eqvAll, eqbs]
  | x :: xs, y :: ys, _, _, h1, h2 => by
    simp only [pds] at h1 h2
    obtain ⟨p, e1, e⟩ := bind_some h1
    obtain ⟨ps, e2, rfl⟩ := Option.map_eq_some_iff.mp e
    obtain ⟨q, e3, e⟩ := bind_some h2
    obtain ⟨qs, e4, rfl⟩ := Option.map_eq_some_iff.mp e
    simp only [PyData.eqvAll, eqbs]
    rw [pd_eqv e1 e3, pds_eqv e2 e4]
end
/-- data that may be compared -/
def D.ok (d : D) : Bool := match d.pd with
  | some p => SeqAt.shaped p
  | none => false
theorem ok_some {d : D} (h : d.ok = true) : ∃ p, d.pd = some p ∧ SeqAt.shaped p = true := by
  unfold D.ok at h
  cases e : d.pd with
  | none => rw [e] at h; cases h
  | some p => rw [e] at h; exact ⟨p, rfl, h⟩
def dEq : D → D → Option D
  | .str a, .str b => some (.bl (decide (a = b)))
  | x, y => if x.ok && y.ok then some (.bl (x.eqb y)) else none
def dNe (x y : D) : Option D := (dEq x y).bind fun d => d.isB.map fun b => .bl (!b)
def rEqU (K : PySem.W.Frag) : R2 := fun x y H Q => rEqT x y H Q ∨ rEqD K x y H Q
def rNeU (K : PySem.W.Frag) : R2 := fun x y H Q => rNeT x y H Q ∨ rNeD K x y H Q
theorem op_eqU {X : Cx} (hu : X.A.units + 64 < cLine) : OpR X (compareOp .Eq) (rEqU X.K) := op_eqT.or (op_eqD hu)
theorem op_neU {X : Cx} (hu : X.A.units + 64 < cLine) : OpR X (compareOp .NotEq) (rNeU X.K) := op_neT.or (op_neD hu)
theorem dEq_some {x y d : D} (h : dEq x y = some d) : (∃ a b, x = .str a ∧ y = .str b ∧ d = .bl (decide (a = b))) ∨ (x.ok = true ∧ y.ok = true ∧ d = .bl (x.eqb y)) := by
  unfold dEq at h
  split at h
  · cases h; exact .inl ⟨_, _, rfl, rfl, rfl⟩
  · have := if_some (c := (x.ok && y.ok) = true) h
    rw [Bool.and_eq_true] at this
    exact .inr ⟨this.1.1, this.1.2, this.2.symm⟩
theorem opp_eq {K : PySem.W.Frag} : OpP PH (rEqU K) dEq n := fun Z H x y dx dy d Q e hx hy h k => by
  rcases dEq_some h with ⟨a, b, rfl, rfl, rfl⟩ | ⟨h1, h2, rfl⟩
  · cases hx
    cases hy
    exact .inl ⟨a, b, rfl, rfl, k.scal e (.bl _) rfl⟩
  · obtain ⟨p, e1, s1⟩ := ok_some h1
    obtain ⟨q, e2, s2⟩ := ok_some h2
    refine .inr ⟨p, q, pd_dp hx e1, pd_dp hy e2, s1, s2, ?_⟩
    rw [pd_eqv e1 e2]
    exact k.scal e (.bl _) rfl
theorem opp_ne {K : PySem.W.Frag} : OpP PH (rNeU K) dNe n := fun Z H x y dx dy d Q e hx hy h k => by
  obtain ⟨d1, h0, h3⟩ := bind_some h
  obtain ⟨b, h4, rfl⟩ := Option.map_eq_some_iff.mp h3
  cases isB_some h4
  rcases dEq_some h0 with ⟨a, b, rfl, rfl, e0⟩ | ⟨h1, h2, e0⟩
  · cases e0
    cases hx
    cases hy
    exact .inl ⟨a, _, rfl, rfl, k.scal e (.bl _) rfl⟩
  · obtain ⟨p, e1, s1⟩ := ok_some h1
    obtain ⟨q, e2, s2⟩ := ok_some h2
    refine .inr ⟨p, q, pd_dp hx e1, pd_dp hy e2, s1, s2, ?_⟩
    rw [pd_eqv e1 e2]
    cases e0
    exact k.scal e (.bl _) rfl
end VS
end
section
set_option maxRecDepth 100000
set_option maxHeartbeats 4000000
/-! own == and != with any other value; repr by an own __repr__ that itself calls repr -/
namespace RX
open PySem PySem.Spec PyProof.Rows L2
section
variable {X : Cx} {CX : CXT} {k : Nat} {f C : Addr} {fd : FuncData} {ps : List Str} {sp : Sp} {E : XK}
def rOwnX (K : PySem.W.Frag) (C : Addr) (sp : Sp) (E : XK) (g : Bool → Bool) : R2 := fun x y H Q => ∃ a dx fs t, x = .ref a ∧ H a = some (.ins C dx fs) ∧ TyX K H y t ∧ PySem.W.notFirst K C t = true ∧
  sp [.ref a, y] H (fun v H' => ∃ k, v = .bl k ∧ Q (.bl (g k)) H') E
theorem op_eqOwnX (F : FnOk X.prog X.w X.K X.mg X.base CX k f fd ps sp) (hr : Room k X.A) (hb : Binds X.K fd ps []) (hx : Passes CX X E)
    (hs : PySem.W.findIn X.K (.ref C) "__eq__" = some (some (.ref f))) (hf : PySem.W.isFn X.K (.ref f) = true) : OpR X (compareOp .Eq) (rOwnX X.K C sp E id) := by
  intro pins s σ H x y v u Q I rx ry h
  obtain ⟨a, dx, fs, t, rfl, ha, ty, hn, h⟩ := h
  cases rx
  obtain ⟨od, J⟩ := ins_look I ha
  obtain ⟨P, Z, p, _⟩ := kit_of I ry ty
  obtain ⟨m, hF⟩ := I.fr
  have go : wpAny (model X.prog X.w) X.A (call (.ref f) [.ref a, u]) (fun v s' => ∃ k, v = .bool k ∧ EP X pins σ Q (.bool k) s') X.xe s := by
    refine wpAny_mono (run_at (vs := [V.ref a, y]) F hr rfl hb hx I (.cons rfl (.cons ry .nil)) h) (fun r s' q => ?_) fun _ _ e => e
    obtain ⟨v, H', I', rv, k, rfl, q⟩ := q
    cases rv
    exact ⟨k, rfl, .bl k, H', I', rfl, q⟩
  show wpAny (model X.prog X.w) X.A (richCompare .Eq (.ref a) u) (EP X pins σ Q) X.xe s
  refine PySem.W.cmp_K (op := .Eq) (tb := t) hr.units0 hF I.ok.mod.kin J (Z.ty _ _ I.kIn p) hn hs hf ?_
  refine wpAny_mono go (fun r s' q => ?_) fun _ _ e => e
  obtain ⟨k, rfl, q⟩ := q
  exact q
theorem op_neOwnX (F : FnOk X.prog X.w X.K X.mg X.base CX k f fd ps sp) (hr : Room (k + 1) X.A) (hb : Binds X.K fd ps []) (hx : Passes CX X E)
    (hs : PySem.W.findIn X.K (.ref C) "__eq__" = some (some (.ref f))) (hf : PySem.W.isFn X.K (.ref f) = true)
    (hne : PySem.W.findIn X.K (.ref C) "__ne__" = some (some (.builtin "object.__ne__"))) (hob : PySem.W.subIn X.K (.ref C) (.type "object") = some true) : OpR X (compareOp .NotEq) (rOwnX X.K C sp E not) := by
  intro pins s σ H x y v u Q I rx ry h
  obtain ⟨a, dx, fs, t, rfl, ha, ty, hn, h⟩ := h
  cases rx
  obtain ⟨od, J⟩ := ins_look I ha
  obtain ⟨P, Z, p, _⟩ := kit_of I ry ty
  obtain ⟨m, hF⟩ := I.fr
  show wpAny (model X.prog X.w) X.A (richCompare .NotEq (.ref a) u) (EP X pins σ Q) X.xe s
  refine ne_K (tb := t) (hu_of hr) hF I.ok.mod.kin J (Z.ty _ _ I.kIn p) hn hne hob hs hf ?_
  refine wpAny_mono (run_at (A := X.A.in1) (vs := [V.ref a, y]) F hr.in1 rfl hb hx I (.cons rfl (.cons ry .nil)) h) (fun r s' q => ?_) fun _ _ e => e
  obtain ⟨v, H', I', rv, k, rfl, q⟩ := q
  cases rv
  exact ⟨k, rfl, .bl (!k), H', I', rfl, q⟩
theorem run_atG {A : Around} {pins : List (Addr × Obj)} {σ : L2.St} {H : Hp} {s : Shared} {Q : VK} {us : List Value} {vs : List V} (F : GOk X.prog X.w X.K X.mg X.base k f fd ps sp) (hgd : A.guards = some []) (hr : Room k A) (hfr : A.frames = X.A.frames) (hb : Binds X.K fd ps [])
    (I : Inv X pins σ H s) (r : Vals vs us) (h : sp vs H Q E0) : wpAny (model X.prog X.w) A (call (.ref f) us) (EP X pins σ Q) X.xe s := by
  have e0 : Env0 X.prog X.w X.K X.mg X.base A X.stack s H := by
    have e := I.env0
    exact ⟨by rw [hfr]; exact e.frames, e.mod, e.bs, e.bsz, e.funs, e.frf, e.hok, e.bare⟩
  have hl := F.len _ _ _ _ h
  have hlu : us.length = ps.length := by rw [← r.length]; exact hl
  refine wpAny_call (codeAny_mono (F.run A X.stack s H ⟨us, []⟩ us vs Q hgd hr e0 (by
    have := hb s us I.kIn (by simpa using hlu)
    simpa using this) r h) fun r s' hq => ?_)
  cases r with
  | error e => exact False.elim hq
  | ok fl =>
    cases fl with
    | ret u => exact I.after hq
    | next => exact False.elim hq
    | brk => exact False.elim hq
    | cont => exact False.elim hq
theorem call_reprOwnG (F : GOk X.prog X.w X.K X.mg X.base k f fd ps sp) (hgd : X.A.guards = some []) (hr : Room (k + 1) X.A) (hb : Binds X.K fd ps [])
    (hs : PySem.W.findIn X.K (.ref C) "__repr__" = some (some (.ref f))) (hf : PySem.W.isFn X.K (.ref f) = true) : CallR X (.builtin "repr") (rReprOwn C sp E0) := by
  intro pins s σ H xs us Q I r h
  obtain ⟨a, dx, fs, rfl, ha, h⟩ := h
  obtain ⟨u, rfl, ru⟩ := vals1 r
  cases ru
  obtain ⟨od, J⟩ := ins_look I ha
  obtain ⟨m, hF⟩ := I.fr
  refine PySem.W.repr_K hr.in1.units0 hF I.ok.mod.kin J hs hf ?_
  refine wpAny_mono (run_atG (A := X.A.in1) (vs := [V.ref a]) F hgd hr.in1 rfl hb I (.cons rfl .nil) h) (fun r s' q => ?_) fun _ _ e => e
  obtain ⟨v, H', I', rv, z, rfl, q⟩ := q
  obtain ⟨t, rfl⟩ := rv
  exact ⟨.str z, H', I', ⟨t, rfl⟩, q⟩
/-- {x!r}, x a list or a tuple of data -/
def tFmtRD (K : PySem.W.Frag) (te : TE) : TE := fun σ H Q => te σ H fun x H1 => ∃ a d, x = .ref a ∧ Dp K H1 (.ref a) d ∧ d.showable = true ∧ d.hasDict = false ∧ d.depth ≤ 20 ∧ d.shown.length ≤ sizeLine ∧ Q (.str d.shown) H1
theorem pe_fmtRD {e : Expr} {te : TE} {pos : Pos} (hgd : X.A.guards = some []) (hr : Room k X.A) (he : PE X e te) : PE X (.FormattedValue e 114 none pos) (tFmtRD X.K te) := by
  refine ⟨fun pins s σ H Q I h => ?_⟩
  refine wpAny_FormattedValue_repr (thn (he.run pins s σ H _ I h) fun v s1 hv => ?_)
  obtain ⟨x, H1, I1, r1, a, d, rfl, hd, h1, h2, h3, h4, q⟩ := hv
  cases r1
  obtain ⟨as, hR⟩ := hd.reads I1 d (.ref a) (.ref a) rfl
  have hu := hr.units
  refine pyReprObj_of_reads hR h1 (fun z => by rw [h2] at z; cases z) hgd (by omega) (fun _ _ e => e) (fun h' u tk hk => ?_) h4
  exact wpAny_formatField_str ⟨.str d.shown, H1, I1.kept hk, ⟨_, rfl⟩, q⟩ ⟨.str d.shown, H1, (I1.kept hk).tok _, ⟨_, rfl⟩, q⟩ h4
end
end RX
end
section
set_option maxRecDepth 100000
set_option maxHeartbeats 4000000
/-! in, [ ], slices, len, further calls, what is walked -/
namespace VS
open PySem L2 RX Evl
/-! in -/
theorem scal_flat {H : Hp} {d : D} {v : V} (h : Rep H d v) (s : d.scal = true) : flatV v = true := by
  cases h with
  | non => rfl
  | bl _ => rfl
  | int _ => rfl
  | str _ => rfl
  | _ => cases s
theorem scal_eqV {H : Hp} {d e : D} {v w : V} (h : Rep H d v) (g : Rep H e w) (s : d.scal = true) (t : e.scal = true) : eqV v w = d.eqb e := by
  cases h with
  | non => cases g <;> first | rfl | cases t
  | bl _ => cases g <;> first | rfl | cases t
  | int _ => cases g <;> first | rfl | cases t
  | str a =>
    cases g with
    | str b => show (stx a == stx b) = (a == b); exact stx_beq a b
    | non => rfl
    | bl _ => rfl
    | int _ => rfl
    | _ => cases t
  | _ => cases s
theorem flats {H : Hp} : ∀ {ds : List D} {vs : List V}, Reps H ds vs → ds.all D.scal = true → vs.all flatV = true
  | _, _, .nil, _ => rfl
  | _, _, .cons h r, e => by
    rw [List.all_cons, Bool.and_eq_true] at e ⊢
    exact ⟨scal_flat h e.1, flats r e.2⟩
theorem any_eqV {H : Hp} {e : D} {w : V} (g : Rep H e w) (t : e.scal = true) : ∀ {ds : List D} {vs : List V}, Reps H ds vs → ds.all D.scal = true → inV w vs = ds.any (·.eqb e)
  | _, _, .nil, _ => rfl
  | _, _, .cons h r, q => by
    rw [List.all_cons, Bool.and_eq_true] at q
    have := any_eqV g t r q.2
    unfold inV at this ⊢
    rw [List.any_cons, List.any_cons, this, scal_eqV h g q.1 t]
def inB (x : D) (ys : List D) : Bool := ys.any (·.eqb x)
def dIn (x : D) : D → Option D
  | .str a => match x with
    | .str [c] => some (.bl (decide (c ∈ a)))
    | _ => none
  | .lst ys => if (x.scal && ys.all D.scal) = true then some (.bl (inB x ys)) else if (x.ok && (D.lst ys).ok) = true then some (.bl (inB x ys)) else none
  | .tup ys => if (x.scal && ys.all D.scal) = true then some (.bl (inB x ys)) else none
  | _ => none
def dNotIn (x y : D) : Option D := (dIn x y).bind fun d => d.isB.map fun b => .bl (!b)
def rInU (K : PySem.W.Frag) : R2 := fun x y H Q => rInT x y H Q ∨ rIn K false x y H Q ∨ rInD K x y H Q
def rNotInU (K : PySem.W.Frag) : R2 := fun x y H Q => rNotInT x y H Q ∨ rIn K true x y H Q ∨ rNotInD K x y H Q
theorem op_inU {X : Cx} (hu : X.A.units + 65 < cLine) : OpR X (compareOp .In) (rInU X.K) := op_inT.or (op_in_seq.or (op_inD hu))
theorem op_notInU {X : Cx} (hu : X.A.units + 65 < cLine) : OpR X (compareOp .NotIn) (rNotInU X.K) := op_notInT.or (op_notIn_seq.or (op_notInD hu))
theorem pds_any {x : D} {p : PyData} (hx : x.pd = some p) : ∀ {ys : List D} {ps : List PyData}, pds ys = some ps → (ps.any fun z => PyData.eqv z p) = inB x ys
  | [], _, h => by simp only [pds] at h; cases h; rfl
  | y :: ys, _, h => by
    simp only [pds] at h
    obtain ⟨q, e1, e⟩ := bind_some h
    obtain ⟨qs, e2, rfl⟩ := Option.map_eq_some_iff.mp e
    unfold inB
    rw [List.any_cons, List.any_cons, pd_eqv e1 hx, pds_any hx e2]
    rfl
theorem in_cases {x y d : D} (h : dIn x y = some d) : (∃ c a, x = .str [c] ∧ y = .str a ∧ d = .bl (decide (c ∈ a))) ∨ (∃ ys, (y = .lst ys ∨ y = .tup ys) ∧ x.scal = true ∧ ys.all D.scal = true ∧ d = .bl (inB x ys)) ∨
    (∃ ys, y = .lst ys ∧ x.ok = true ∧ y.ok = true ∧ d = .bl (inB x ys)) := by
  cases y with
  | str a =>
    cases x with
    | str c =>
      cases c with
      | nil => cases h
      | cons c r =>
        cases r with
        | nil => cases h; exact .inl ⟨c, a, rfl, rfl, rfl⟩
        | cons _ _ => cases h
    | _ => cases h
  | lst ys =>
    have h : (if (x.scal && ys.all D.scal) = true then some (D.bl (inB x ys)) else if (x.ok && (D.lst ys).ok) = true then some (.bl (inB x ys)) else none) = some d := h
    by_cases c : (x.scal && ys.all D.scal) = true
    · rw [if_pos c] at h
      rw [Bool.and_eq_true] at c
      cases h
      exact .inr (.inl ⟨ys, .inl rfl, c.1, c.2, rfl⟩)
    · rw [if_neg c] at h
      obtain ⟨c, rfl⟩ := if_some h
      rw [Bool.and_eq_true] at c
      exact .inr (.inr ⟨ys, rfl, c.1, c.2, rfl⟩)
  | tup ys =>
    obtain ⟨c, rfl⟩ := if_some h
    rw [Bool.and_eq_true] at c
    exact .inr (.inl ⟨ys, .inr rfl, c.1, c.2, rfl⟩)
  | _ => cases h
theorem seq_rep {K : PySem.W.Frag} {H : Hp} {y : D} {ys : List D} {v : V} (h : Rep H y v) (e : y = .lst ys ∨ y = .tup ys) : ∃ p vs, v = .ref p ∧ (SqL K H p vs ∨ SqT K H p vs) ∧ Reps H ys vs := by
  rcases e with rfl | rfl
  · cases h with
    | lst h1 h2 => exact ⟨_, _, rfl, .inl (SqL.of h1), h2⟩
  · cases h with
    | tup h1 h2 => exact ⟨_, _, rfl, .inr (SqT.of h1), h2⟩
theorem opp_in {K : PySem.W.Frag} : OpP PH (rInU K) dIn n := fun Z H x y dx dy d Q e hx hy h k => by
  rcases in_cases h with ⟨c, a, rfl, rfl, rfl⟩ | ⟨ys, hy', h1, h2, rfl⟩ | ⟨ys, rfl, h1, h2, rfl⟩
  · cases hx; cases hy
    exact .inl ⟨c, a, rfl, rfl, k.scal e (.bl _) rfl⟩
  · obtain ⟨p, vs, rfl, hq, r⟩ := seq_rep (K := K) hy hy'
    refine .inr (.inl ⟨p, vs, rfl, hq, scal_flat hx h1, flats r h2, ?_⟩)
    rw [any_eqV hx h1 r h2]
    exact k.scal e (.bl _) rfl
  · obtain ⟨p, e1, s1⟩ := ok_some h1
    obtain ⟨q, e2, s2⟩ := ok_some h2
    have e3 := e2
    simp only [D.pd] at e3
    obtain ⟨qs, e4, rfl⟩ := Option.map_eq_some_iff.mp e3
    refine .inr (.inr ⟨p, qs, pd_dp hx e1, pd_dp hy e2, s1, s2, ?_⟩)
    rw [pds_any e1 e4]
    exact k.scal e (.bl _) rfl
theorem opp_notIn {K : PySem.W.Frag} : OpP PH (rNotInU K) dNotIn n := fun Z H x y dx dy d Q e hx hy h k => by
  obtain ⟨d1, h0, h3⟩ := bind_some h
  obtain ⟨b, h4, rfl⟩ := Option.map_eq_some_iff.mp h3
  cases isB_some h4
  rcases in_cases h0 with ⟨c, a, rfl, rfl, e0⟩ | ⟨ys, hy', h1, h2, e0⟩ | ⟨ys, rfl, h1, h2, e0⟩
  · cases e0; cases hx; cases hy
    exact .inl ⟨c, a, rfl, rfl, k.scal e (.bl _) rfl⟩
  · cases e0
    obtain ⟨p, vs, rfl, hq, r⟩ := seq_rep (K := K) hy hy'
    refine .inr (.inl ⟨p, vs, rfl, hq, scal_flat hx h1, flats r h2, ?_⟩)
    rw [any_eqV hx h1 r h2]
    exact k.scal e (.bl _) rfl
  · cases e0
    obtain ⟨p, e1, s1⟩ := ok_some h1
    obtain ⟨q, e2, s2⟩ := ok_some h2
    have e3 := e2
    simp only [D.pd] at e3
    obtain ⟨qs, e4, rfl⟩ := Option.map_eq_some_iff.mp e3
    refine .inr (.inr ⟨p, qs, pd_dp hx e1, pd_dp hy e2, s1, s2, ?_⟩)
    rw [pds_any e1 e4]
    exact k.scal e (.bl _) rfl
/-! [ ] -/
def dIx : D → D → Option D
  | .lst xs, .int i => atI xs i
  | .tup xs, .int i => atI xs i
  | .str a, .int i => if a.length ≤ sizeLine then (atI a i).map fun c => .str [c] else none
  | _, _ => none
theorem Reps.at {Z : Hp} {xs : List D} {vs : List V} {i : Int} {d : D} (h : Reps Z xs vs) (e : atI xs i = some d) : ∃ v, atI vs i = some v ∧ Rep Z d v := by
  unfold atI at e ⊢
  obtain ⟨j, e1, e2⟩ := bind_some e
  obtain ⟨v, h1, h2⟩ := h.get e2
  refine ⟨v, ?_, h2⟩
  rw [h.length, e1]
  exact h1
theorem opp_ix {K : PySem.W.Frag} : OpP P1 (rIx K) dIx 0 := fun Z H x y dx dy d Q e hx hy h k => by
  cases dx with
  | lst xs =>
    cases dy with
    | int i =>
      obtain ⟨p, vs, rfl, h1, h2⟩ := hx.lst e
      obtain ⟨v, q1, q2⟩ := h2.at h
      exact .inl ⟨p, vs, i, v, rfl, hy.int, SqL.of h1, q1, k.rep e ⟨q2, rfl⟩⟩
    | _ => cases h
  | tup xs =>
    cases dy with
    | int i =>
      obtain ⟨p, vs, rfl, h1, h2, _⟩ := hx.tup e
      obtain ⟨v, q1, q2⟩ := h2.at h
      exact .inr (.inl ⟨p, vs, i, v, rfl, hy.int, SqT.of h1, q1, k.rep e ⟨q2, rfl⟩⟩)
    | _ => cases h
  | str a =>
    cases dy with
    | int i =>
      have h : (if a.length ≤ sizeLine then (atI a i).map fun c => D.str [c] else none) = some d := h
      by_cases hl : a.length ≤ sizeLine
      · rw [if_pos hl] at h
        obtain ⟨c, e1, rfl⟩ := Option.map_eq_some_iff.mp h
        exact .inr (.inr ⟨stx a, i, c, hx.str, hy.int, by rw [stx_len]; exact hl, by rw [stx_list]; exact e1, k.scal e (.str [c]) rfl⟩)
      · rw [if_neg hl] at h; cases h
    | _ => cases h
  | _ => cases h
/-! slices -/
def cutD (xs : List D) (lo hi : Option Int) : List D := (xs.drop (HT.sIx xs.length 0 lo)).take (HT.sIx xs.length xs.length hi - HT.sIx xs.length 0 lo)
def dSl (lo hi : Option Int) : D → Option D
  | .lst xs => some (.lst (cutD xs lo hi))
  | .tup xs => some (.tup (cutD xs lo hi))
  | .str a => if a.length ≤ sizeLine then some (.str (cutT a lo hi)) else none
  | _ => none
def rSlU (K : PySem.W.Frag) : V → Option Int → Option Int → Hp → VK → Prop := fun x lo hi H Q => RX.rSlT x lo hi H Q ∨ rSlL K x lo hi H Q ∨ rSlA K x lo hi H Q
theorem sl_U {X : Cx} : SlR X (rSlU X.K) := sl_T.or (sl_list.or sl_tupA)
theorem Reps.cut {Z : Hp} {xs : List D} {vs : List V} (h : Reps Z xs vs) (lo hi : Option Int) : Reps Z (cutD xs lo hi) (cutV vs lo hi) := by
  unfold cutD cutV
  rw [h.length]
  exact (h.drop _).take _
theorem cutD_all {xs : List D} {lo hi : Option Int} (h1 : HT.sIx xs.length 0 lo = 0) (h2 : HT.sIx xs.length xs.length hi = xs.length) : cutD xs lo hi = xs := by
  unfold cutD
  rw [h1, h2, List.drop_zero, Nat.sub_zero, List.take_length]
theorem slp {K : PySem.W.Frag} {Z H : Hp} {x : V} {dx d : D} {lo hi : Option Int} {Q : VK} (e : Ex Z H) (hx : P1 Z H dx x) (h : dSl lo hi dx = some d) (k : Ret H Z 1 d Q) : rSlU K x lo hi H Q := by
  cases dx with
  | lst xs =>
    cases h
    obtain ⟨p, vs, rfl, h1, h2⟩ := hx.lst e
    exact .inr (.inl ⟨p, vs, rfl, SqL.of h1, fun q hq => k.lst e hq (h2.cut lo hi)⟩)
  | tup xs =>
    cases h
    obtain ⟨p, vs, rfl, h1, h2, h3⟩ := hx.tup e
    refine .inr (.inr ⟨p, vs, rfl, SqT.of h1, fun c => ?_, fun _ q hq => k.tup e hq (h2.cut lo hi)⟩)
    rw [h2.length] at c
    rw [cutD_all c.1 c.2] at k
    exact k.rep e (Own.tup h3)
  | str a =>
    obtain ⟨hl, rfl⟩ := if_some h
    exact .inl ⟨a, hx.str, hl, k.scal e (.str _) rfl⟩
  | _ => cases h
def VO (μ : List Md) (t : TO) (m : DS → Option (Option Int)) : Prop :=
  ∀ U Zc ds σ H Z, Stt U Zc μ ds σ H Z → ∀ i, m ds = some i → ∀ Q : Option Int → Hp → Prop, (∀ H' Z', Stt U Zc μ ds σ H' Z' → Ex Z Z' → Ex H H' → Q i H') → t σ H Q
def D.isI : D → Option Int
  | .int i => some i
  | _ => none
theorem isI_some {d : D} {i : Int} (h : d.isI = some i) : d = .int i := by
  cases d with
  | int c => cases h; rfl
  | _ => cases h
def mNo : DS → Option (Option Int) := fun _ => some none
def mYes (m : Mr) : DS → Option (Option Int) := fun ds => (m ds).bind fun d => d.isI.map some
section
variable {μ : List Md} {ta : TE} {tl th : TO} {n : Nat} {ma : Mr} {ml mh : DS → Option (Option Int)}
theorem VO.none : VO μ tNoPart mNo := fun U Zc ds σ H Z s i e Q k => by
  cases e
  exact k H Z s (Ex.rf _) (Ex.rf _)
theorem VO.some (ha : VP PH μ ta ma) : VO μ (tPart ta) (mYes ma) := fun U Zc ds σ H Z s i e Q k => by
  obtain ⟨d, e1, e2⟩ := bind_some e
  obtain ⟨j, e3, rfl⟩ := Option.map_eq_some_iff.mp e2
  cases isI_some e3
  exact ha U Zc ds σ H Z s _ e1 _ fun v H' Z' s' f g p => by cases p; exact ⟨j, rfl, k H' Z' s' f g⟩
def mSl (ma : Mr) (ml mh : DS → Option (Option Int)) : Mr := fun ds => (ma ds).bind fun x => (ml ds).bind fun l => (mh ds).bind fun h => dSl l h x
theorem VE.sl {K : PySem.W.Frag} (ha : VP P1 μ ta ma) (hl : VO μ tl ml) (hh : VO μ th mh) : VE μ (tSl (rSlU K) ta tl th) 1 (mSl ma ml mh) := fun U Zc ds σ H Z s d e Q k => by
  obtain ⟨x, e1, e⟩ := bind_some e
  obtain ⟨l, e2, e⟩ := bind_some e
  obtain ⟨h, e3, e⟩ := bind_some e
  refine ha U Zc ds σ H Z s x e1 _ fun v H1 Z1 s1 f1 g1 p1 => ?_
  refine hl U Zc ds σ H1 Z1 s1 l e2 _ fun H2 Z2 s2 f2 g2 => ?_
  refine hh U Zc ds σ H2 Z2 s2 h e3 _ fun H3 Z3 s3 f3 g3 => ?_
  exact slp s3.sub (mo_1.m f3 g3 (mo_1.m f2 g2 p1)) e fun u H4 Z4 r4 => k u H4 Z4 (s3.push r4) (fun _ _ q => r4.exZ _ _ (f3 _ _ (f2 _ _ (f1 _ _ q)))) fun _ _ q => r4.exU _ _ (g3 _ _ (g2 _ _ (g1 _ _ q)))
end
/-! len -/
def dLen : List D → Option D
  | [.lst xs] => some (.int xs.length)
  | [.tup xs] => some (.int xs.length)
  | [.dic kd] => some (.int kd.length)
  | [.str a] => if a.length ≤ sizeLine then some (.int a.length) else none
  | _ => none
def rLenU (K : PySem.W.Frag) : List V → Hp → VK → Prop := fun xs H Q => rLenT xs H Q ∨ (∃ p ys, xs = [.ref p] ∧ (SqL K H p ys ∨ SqT K H p ys) ∧ Q (.int ys.length) H) ∨ (∃ a kvs, xs = [V.ref a] ∧ H a = some (.dK kvs) ∧ Q (.int kvs.length) H)
theorem call_lenU {X : Cx} : CallR X (.builtin "len") (rLenU X.K) := call_lenT.or (call_len_seq.or call_lenD)
theorem arp_len {K : PySem.W.Frag} : ArP PH (rLenU K) dLen n := fun Z H vs xs d Q e r h k => by
  cases r with
  | nil => cases h
  | cons r1 r2 =>
    rename_i x v xs vs
    cases r2 with
    | cons _ _ => cases x <;> cases h
    | nil =>
      cases r1 with
      | lst h1 h2 =>
        cases h
        refine .inr (.inl ⟨_, _, rfl, .inl (SqL.of h1), ?_⟩)
        rw [h2.length]
        exact k.scal e (.int _) rfl
      | tup h1 h2 =>
        cases h
        refine .inr (.inl ⟨_, _, rfl, .inr (SqT.of h1), ?_⟩)
        rw [h2.length]
        exact k.scal e (.int _) rfl
      | dic h1 h2 h3 =>
        cases h
        refine .inr (.inr ⟨_, _, rfl, h1, ?_⟩)
        have := congrArg List.length h2
        rw [List.length_map, List.length_map] at this
        rw [← this]
        exact k.scal e (.int _) rfl
      | str a =>
        obtain ⟨hl, rfl⟩ := if_some h
        exact .inl ⟨a, rfl, hl, k.scal e (.int _) rfl⟩
      | _ => cases h
end VS
end
section
set_option maxRecDepth 100000
set_option maxHeartbeats 4000000
/-! calls of builtins, methods, what is walked -/
namespace VS
open PySem L2 RX Evl
/-- a function of one argument -/
def d1 (f : D → Option D) : List D → Option D := fun xs => match xs with
  | [x] => f x
  | _ => none
def d2 (f : D → D → Option D) : List D → Option D := fun xs => match xs with
  | [x, y] => f x y
  | _ => none
theorem L2r.d1 {R : D → V → Prop} {xs : List D} {vs : List V} {f : D → Option D} {d : D} (h : L2r R xs vs) (e : d1 f xs = some d) : ∃ x v, xs = [x] ∧ vs = [v] ∧ R x v ∧ f x = some d := by
  cases h with
  | nil => cases e
  | cons h1 r =>
    cases r with
    | nil => exact ⟨_, _, rfl, rfl, h1, e⟩
    | cons _ _ => cases e
theorem L2r.d2 {R : D → V → Prop} {xs : List D} {vs : List V} {f : D → D → Option D} {d : D} (h : L2r R xs vs) (e : d2 f xs = some d) : ∃ x y v w, xs = [x, y] ∧ vs = [v, w] ∧ R x v ∧ R y w ∧ f x y = some d := by
  cases h with
  | nil => cases e
  | cons h1 r =>
    cases r with
    | nil => cases e
    | cons h2 r =>
      cases r with
      | nil => exact ⟨_, _, _, _, rfl, rfl, h1, h2, e⟩
      | cons _ _ => cases e
/-! int(x), abs, max, min -/
def dInt : D → Option D
  | .int i => some (.int i)
  | .bl b => some (.int (if b then 1 else 0))
  | _ => none
theorem arp_int : ArP PH (fun xs H Q => (∃ i, xs = [.int i] ∧ Q (.int i) H) ∨ ∃ k, xs = [.bl k] ∧ Q (.int (if k then 1 else 0)) H) (d1 dInt) n := fun Z H vs xs d Q e r h k => by
  obtain ⟨x, v, rfl, rfl, hx, h⟩ := r.d1 h
  cases hx with
  | int i => cases h; exact .inl ⟨i, rfl, k.scal e (.int _) rfl⟩
  | bl b => cases h; exact .inr ⟨b, rfl, k.scal e (.int _) rfl⟩
  | _ => cases h
def dAbs : D → Option D
  | .int i => some (.int (if i < 0 then -i else i))
  | _ => none
theorem arp_abs : ArP PH (fun xs H Q => ∃ i, xs = [.int i] ∧ Q (.int (if i < 0 then -i else i)) H) (d1 dAbs) n := fun Z H vs xs d Q e r h k => by
  obtain ⟨x, v, rfl, rfl, hx, h⟩ := r.d1 h
  cases hx with
  | int i => cases h; exact ⟨i, rfl, k.scal e (.int _) rfl⟩
  | _ => cases h
def dMax : D → D → Option D
  | .int i, .int j => some (.int (if j > i then j else i))
  | _, _ => none
def dMin : D → D → Option D
  | .int i, .int j => some (.int (if j < i then j else i))
  | _, _ => none
theorem arp_max : ArP PH (fun xs H Q => ∃ i j, xs = [.int i, .int j] ∧ Q (.int (if j > i then j else i)) H) (d2 dMax) n := fun Z H vs xs d Q e r h k => by
  obtain ⟨x, y, v, w, rfl, rfl, hx, hy, h⟩ := r.d2 h
  cases hx with
  | int i =>
    cases hy with
    | int j => cases h; exact ⟨i, j, rfl, k.scal e (.int _) rfl⟩
    | _ => cases h
  | _ => cases h
theorem arp_min : ArP PH (fun xs H Q => ∃ i j, xs = [.int i, .int j] ∧ Q (.int (if j < i then j else i)) H) (d2 dMin) n := fun Z H vs xs d Q e r h k => by
  obtain ⟨x, y, v, w, rfl, rfl, hx, hy, h⟩ := r.d2 h
  cases hx with
  | int i =>
    cases hy with
    | int j => cases h; exact ⟨i, j, rfl, k.scal e (.int _) rfl⟩
    | _ => cases h
  | _ => cases h
/-! list(x), tuple(x) of a list or a tuple -/
def dList : D → Option D
  | .lst xs => some (.lst xs)
  | .tup xs => some (.lst xs)
  | _ => none
def dTuple : D → Option D
  | .lst xs => some (.tup xs)
  | .tup xs => some (.tup xs)
  | _ => none
theorem arp_list {K : PySem.W.Frag} : ArP P1 (fun xs H Q => ∃ p ys, xs = [.ref p] ∧ (SqL K H p ys ∨ SqT K H p ys) ∧ ∀ l, H l = none → Q (.ref l) (upd H l (.lst ys))) (d1 dList) 1 := fun Z H vs xs d Q e r h k => by
  obtain ⟨x, v, rfl, rfl, hx, h⟩ := r.d1 h
  cases x with
  | lst xs =>
    cases h
    obtain ⟨a, ws, rfl, h1, h2⟩ := hx.lst e
    exact ⟨a, ws, rfl, .inl (SqL.of h1), fun l hl => k.lst e hl h2⟩
  | tup xs =>
    cases h
    obtain ⟨a, ws, rfl, h1, h2, _⟩ := hx.tup e
    exact ⟨a, ws, rfl, .inr (SqT.of h1), fun l hl => k.lst e hl h2⟩
  | _ => cases h
theorem arp_tuple {K : PySem.W.Frag} : ArP P1 (fun xs H Q => ∃ p ys, xs = [.ref p] ∧ ((SqL K H p ys ∧ ∀ l, H l = none → Q (.ref l) (upd H l (.tup ys))) ∨ (SqT K H p ys ∧ Q (.ref p) H))) (d1 dTuple) n := fun Z H vs xs d Q e r h k => by
  obtain ⟨x, v, rfl, rfl, hx, h⟩ := r.d1 h
  cases x with
  | lst xs =>
    cases h
    obtain ⟨a, ws, rfl, h1, h2⟩ := hx.lst e
    exact ⟨a, ws, rfl, .inl ⟨SqL.of h1, fun l hl => k.tup e hl h2⟩⟩
  | tup xs =>
    cases h
    obtain ⟨a, ws, rfl, h1, h2, h3⟩ := hx.tup e
    exact ⟨a, ws, rfl, .inr ⟨SqT.of h1, k.rep e (Own.tup h3)⟩⟩
  | _ => cases h
/-! all, any of a list of truths -/
def allB : List D → Option (List Bool)
  | [] => some []
  | x :: xs => x.isB.bind fun b => (allB xs).map fun bs => b :: bs
def dAll : D → Option D
  | .lst xs => (allB xs).map fun bs => .bl (bs.all id)
  | _ => none
def dAny : D → Option D
  | .lst xs => (allB xs).map fun bs => .bl (bs.any id)
  | _ => none
theorem allB_rep {H : Hp} : ∀ {xs : List D} {vs : List V} {bs : List Bool}, Reps H xs vs → allB xs = some bs → vs = bs.map V.bl
  | _, _, _, .nil, e => by cases e; rfl
  | _, _, _, .cons h r, e => by
    obtain ⟨b, e1, e⟩ := bind_some e
    obtain ⟨bs, e2, rfl⟩ := Option.map_eq_some_iff.mp e
    cases isB_some e1
    rw [Rep.isB h, allB_rep r e2]
    rfl
theorem arp_all {K : PySem.W.Frag} : ArP PH (rAll K) (d1 dAll) n := fun Z H vs xs d Q e r h k => by
  obtain ⟨x, v, rfl, rfl, hx, h⟩ := r.d1 h
  cases hx with
  | lst h1 h2 =>
    obtain ⟨bs, e1, rfl⟩ := Option.map_eq_some_iff.mp h
    have := allB_rep h2 e1
    subst this
    exact ⟨_, bs, rfl, SqL.of h1, k.scal e (.bl _) rfl⟩
  | _ => cases h
theorem arp_any {K : PySem.W.Frag} : ArP PH (rAny K) (d1 dAny) n := fun Z H vs xs d Q e r h k => by
  obtain ⟨x, v, rfl, rfl, hx, h⟩ := r.d1 h
  cases hx with
  | lst h1 h2 =>
    obtain ⟨bs, e1, rfl⟩ := Option.map_eq_some_iff.mp h
    have := allB_rep h2 e1
    subst this
    exact ⟨_, bs, rfl, SqL.of h1, k.scal e (.bl _) rfl⟩
  | _ => cases h
/-! repr of data -/
def shw (d : D) : Option Tx := d.pd.bind fun p => if p.showable = true ∧ p.hasDict = false ∧ p.depth ≤ 20 ∧ p.shown.length ≤ sizeLine then some p.shown.cps.toList else none
def dRepr (d : D) : Option D := (shw d).map .str
theorem arp_repr {K : PySem.W.Frag} : ArP PH (rReprA K) (d1 dRepr) n := fun Z H vs xs d Q e r h k => by
  obtain ⟨x, v, rfl, rfl, hx, h⟩ := r.d1 h
  obtain ⟨t, e1, rfl⟩ := Option.map_eq_some_iff.mp h
  obtain ⟨p, e2, e3⟩ := bind_some e1
  obtain ⟨⟨a1, a2, a3, a4⟩, rfl⟩ := if_some e3
  refine ⟨v, p, rfl, pd_dp hx e2, a1, a2, a3, a4, ?_⟩
  rw [tx_of]
  exact k.scal e (.str _) rfl
/-! isinstance(x, T), T a builtin class -/
def tyN : D → Option String
  | .non => some "NoneType"
  | .bl _ => some "bool"
  | .int _ => some "int"
  | .str _ => some "str"
  | .lst _ => some "list"
  | .tup _ => some "tuple"
  | .dic _ => some "dict"
  | .ins _ _ => none
theorem tyN_rep {K : PySem.W.Frag} {H : Hp} {d : D} {v : V} {s : String} (h : Rep H d v) (e : tyN d = some s) : TyX K H v (.type s) := by
  cases h with
  | non => cases e; exact .base .non
  | bl b => cases e; exact .base (.bl b)
  | int i => cases e; exact .base (.int i)
  | str a => cases e; exact .base (.str _)
  | lst h1 _ => cases e; exact .base (.lst h1)
  | tup h1 _ => cases e; exact .base (.tup h1)
  | dic h1 _ _ => cases e; exact .base (.dK h1)
  | ins _ _ _ => cases e
/-- the classes of the program whose instances are no T -/
structure NoT (K : PySem.W.Frag) (T : String) (C : Addr) : Prop where
  cl : Cls K C
  ha : PySem.W.findIn K (.ref C) "__class__" = some (some (.builtin "object.__class__"))
  hn : PySem.W.specialIn K (.builtin "object.__class__") "__get__" = some (some (.builtin "getset_descriptor.__get__"))
  htk : PySem.W.takesIn K (.builtin "object.__class__") = some true
  hm : PySem.W.mroIn K C (.type "object") = some true
  no : PySem.W.kitOne K (.ref C) (.type T) = some false
/-- isinstance's answer; cs: classes of the program whose instances are none -/
def isi (cs : List Addr) (T : String) (d : D) : Option D := match d with
  | .ins C _ => if C ∈ cs then some (.bl false) else none
  | d => (tyN d).bind fun s => (kitB s T).map .bl
section
variable {μ : List Md} {ta : TE} {n : Nat} {ma : Mr}
theorem VE.isi {K : PySem.W.Frag} {T : String} {cs : List Addr} (hc : ∀ C ∈ cs, NoT K T C) (ha : VP PH μ ta ma) : VE μ (tCB (rIsi K) (tCons ta (tCons (tC (.ty T)) tNil))) n (mUn (VS.isi cs T) ma) := fun U Zc ds σ H Z s d e Q k => by
  obtain ⟨x, e1, e⟩ := bind_some e
  refine ha U Zc ds σ H Z s x e1 _ fun v H1 Z1 s1 f1 g1 p1 => ?_
  cases hx : tyN x with
  | none =>
    cases x with
    | ins C fs =>
      obtain ⟨hC, rfl⟩ := if_some (show (if C ∈ cs then some (D.bl false) else none) = some d from e)
      have N := hc C hC
      cases p1 with
      | ins h1 h2 h3 => exact ⟨_, _, .ref C, .type T, false, rfl, .ty T, .base (.ins h1 N.cl N.ha N.hn N.htk N.hm), N.no, k _ H1 Z1 (s1.pushS (.bl _) rfl) f1 g1⟩
    | _ => cases hx
  | some s' =>
    have e : (kitB s' T).map D.bl = some d := by
      cases x with
      | ins _ _ => cases hx
      | _ => cases hx; exact e
    obtain ⟨b, e2, rfl⟩ := Option.map_eq_some_iff.mp e
    exact ⟨_, _, .type s', .type T, b, rfl, .ty T, tyN_rep p1 hx, kit_ty e2, k _ H1 Z1 (s1.pushS (.bl b) rfl) f1 g1⟩
/-- isinstance(x, (T1, T2)) -/
def isi2 (T1 T2 : String) (d : D) : Option D := (tyN d).bind fun s => (kitB s T1).bind fun b => if b = true then some (.bl true) else (kitB s T2).map .bl
theorem VE.isi2 {K : PySem.W.Frag} {T1 T2 : String} (ha : VP PH μ ta ma) : VE μ (tCB (rIsiT K) (tCons ta (tCons (tTup (tCons (tC (.ty T1)) (tCons (tC (.ty T2)) tNil))) tNil))) n (mUn (VS.isi2 T1 T2) ma) := fun U Zc ds σ H Z s d e Q k => by
  obtain ⟨x, e1, e⟩ := bind_some e
  obtain ⟨s', hx, e⟩ := bind_some e
  obtain ⟨b, hb, e⟩ := bind_some e
  refine ha U Zc ds σ H Z s x e1 _ fun v H1 Z1 s1 f1 g1 p1 => ⟨by show 2 ≤ sizeLine; decide, fun tp htp => ?_⟩
  have ez : Ex H1 (upd H1 tp (.tup [.ty T1, .ty T2])) := Ex.new htp
  have ht := tyN_rep (K := K) (Rep.mono ez p1) hx
  have s2 := s1.push (Stt.one (n := 0) (d := .non) (v := .non) (bs := []) ez (Ex.rf _) (fun a o q => ez _ _ (s1.sub _ _ q)) (fun _ _ => rfl) ⟨.non, rfl⟩ List.nodup_nil fun a z => nomatch z)
  have fin : ∀ c : Bool, d = .bl c → Q (.bl c) (upd H1 tp (.tup [.ty T1, .ty T2])) := fun c ec => by
    subst ec
    exact k _ _ Z1 (s2.pop.pushS (.bl c) rfl) f1 fun _ _ q => ez _ _ (g1 _ _ q)
  cases b with
  | true =>
    cases e
    exact ⟨_, tp, _, .type s', [.type T1, .type T2], true, rfl, upd_same, .cons (.ty T1) (.cons (.ty T2) .nil), ht, kitAny_cons (kit_ty hb) (fun z => nomatch z) fun _ => rfl, fin true rfl⟩
  | false =>
    obtain ⟨c, e2, rfl⟩ := Option.map_eq_some_iff.mp (show (kitB s' T2).map D.bl = some d from e)
    refine ⟨_, tp, _, .type s', [.type T1, .type T2], c, rfl, upd_same, .cons (.ty T1) (.cons (.ty T2) .nil), ht, kitAny_cons (kit_ty hb) (fun _ => ?_) (fun z => nomatch z), fin c rfl⟩
    cases c with
    | true => exact kitAny_cons (kit_ty e2) (fun z => nomatch z) fun _ => rfl
    | false => exact kitAny_cons (r := false) (kit_ty e2) (fun _ => rfl) fun z => nomatch z
/-- isinstance(x, C), C a class of the program -/
structure IsC (K : PySem.W.Frag) (C : Addr) : Prop where
  cl : Cls K C
  ha : PySem.W.findIn K (.ref C) "__class__" = some (some (.builtin "object.__class__"))
  hn : PySem.W.specialIn K (.builtin "object.__class__") "__get__" = some (some (.builtin "getset_descriptor.__get__"))
  htk : PySem.W.takesIn K (.builtin "object.__class__") = some true
  hm : PySem.W.mroIn K C (.type "object") = some true
  one : PySem.W.kitOne K (.ref C) (.ref C) = some true
  none_ : PySem.W.kitOne K (.type "NoneType") (.ref C) = some false
  bool_ : PySem.W.kitOne K (.type "bool") (.ref C) = some false
  int_ : PySem.W.kitOne K (.type "int") (.ref C) = some false
  str_ : PySem.W.kitOne K (.type "str") (.ref C) = some false
  list_ : PySem.W.kitOne K (.type "list") (.ref C) = some false
  tup_ : PySem.W.kitOne K (.type "tuple") (.ref C) = some false
  dict_ : PySem.W.kitOne K (.type "dict") (.ref C) = some false
theorem IsC.no {K : PySem.W.Frag} {C : Addr} (I : IsC K C) {d : D} {s : String} (e : tyN d = some s) : PySem.W.kitOne K (.type s) (.ref C) = some false := by
  cases d with
  | non => cases e; exact I.none_
  | bl _ => cases e; exact I.bool_
  | int _ => cases e; exact I.int_
  | str _ => cases e; exact I.str_
  | lst _ => cases e; exact I.list_
  | tup _ => cases e; exact I.tup_
  | dic _ => cases e; exact I.dict_
  | ins _ _ => cases e
def isiC (C : Addr) (d : D) : Option D := match d with
  | .ins C' _ => if C' = C then some (.bl true) else none
  | _ => some (.bl false)
theorem VE.isiC {K : PySem.W.Frag} {C : Addr} (I : IsC K C) (ha : VP PH μ ta ma) : VE μ (tCB (rIsi K) (tCons ta (tCons (tC (.ref C)) tNil))) n (mUn (VS.isiC C) ma) := fun U Zc ds σ H Z s d e Q k => by
  obtain ⟨x, e1, e⟩ := bind_some e
  refine ha U Zc ds σ H Z s x e1 _ fun v H1 Z1 s1 f1 g1 p1 => ?_
  cases hx : tyN x with
  | none =>
    cases x with
    | ins C' fs =>
      obtain ⟨rfl, rfl⟩ := if_some (show (if C' = C then some (D.bl true) else none) = some d from e)
      cases p1 with
      | ins h1 h2 h3 => exact ⟨_, _, .ref C', .ref C', true, rfl, .own C', .base (.ins h1 I.cl I.ha I.hn I.htk I.hm), I.one, k _ H1 Z1 (s1.pushS (.bl _) rfl) f1 g1⟩
    | _ => cases hx
  | some s' =>
    have e : d = .bl false := by
      cases x with
      | ins _ _ => cases hx
      | _ => cases e; rfl
    subst e
    exact ⟨_, _, .type s', .ref C, false, rfl, .own C, tyN_rep p1 hx, I.no hx, k _ H1 Z1 (s1.pushS (.bl _) rfl) f1 g1⟩
end
/-! l.index(x), t.index(s), l.count(x), ''.join(l) -/
def ixOf (x : D) : List D → Option Nat
  | [] => none
  | y :: ys => if y.eqb x = true then some 0 else (ixOf x ys).map (· + 1)
theorem ixOf_some {x : D} : ∀ {ys : List D} {j : Nat}, ixOf x ys = some j → (∃ z, ys[j]? = some z ∧ z.eqb x = true) ∧ ∀ m z, m < j → ys[m]? = some z → z.eqb x = false
  | [], _, h => nomatch h
  | y :: ys, j, h => by
    unfold ixOf at h
    by_cases c : y.eqb x = true
    · rw [if_pos c] at h
      cases h
      exact ⟨⟨y, rfl, c⟩, fun m z hm => absurd hm (Nat.not_lt_zero _)⟩
    · rw [if_neg c] at h
      obtain ⟨i, e1, rfl⟩ := Option.map_eq_some_iff.mp h
      obtain ⟨⟨z, h1, h2⟩, h3⟩ := ixOf_some e1
      refine ⟨⟨z, by simpa using h1, h2⟩, fun m z hm hz => ?_⟩
      cases m with
      | zero => simp at hz; subst hz; simpa using c
      | succ m => exact h3 m z (by omega) (by simpa using hz)
def dIndex : D → D → Option D
  | .lst ys, x => if (x.scal && ys.all D.scal) = true then (ixOf x ys).map fun j : Nat => .int (j : Int) else if (x.ok && (D.lst ys).ok) = true then (ixOf x ys).map fun j : Nat => .int (j : Int) else none
  | .str a, .str [c] => if c ∈ a then some (.int (a.idxOf c : Nat)) else none
  | _, _ => none
def rIndexU (K : PySem.W.Frag) : V → List V → Hp → VK → Prop := fun x xs H Q => rIndex K x xs H Q ∨ rIndexD K x xs H Q
theorem mt_indexU {X : Cx} (hu : X.A.units + 65 < cLine) : MtR X "list.index" (rIndexU X.K) := fun pins s σ H x xs v us Q I rx rxs h => h.elim (mt_index pins s σ H x xs v us Q I rx rxs) (mt_indexD hu pins s σ H x xs v us Q I rx rxs)
/-- o.m(e) of a builtin type: the reading by values -/
def MtP (P : PP) (T : String) (K : PySem.W.Frag) (r : V → List V → Hp → VK → Prop) (f : D → List D → Option D) (n : Nat) : Prop :=
  ∀ Z H x vs dx xs d Q, Ex Z H → P Z H dx x → L2r (P Z H) xs vs → f dx xs = some d → Ret H Z n d Q → r x vs H Q
def mMt (f : D → List D → Option D) (a : Mr) (mr : DS → Option (List D)) : Mr := fun ds => (a ds).bind fun o => (mr ds).bind fun xs => f o xs
section
variable {μ : List Md} {ta : TE} {tr : TA} {n k : Nat} {ma : Mr} {mr : DS → Option (List D)} {P : PP}
theorem VE.mt {K : PySem.W.Frag} {T : String} {r : V → List V → Hp → VK → Prop} {f : D → List D → Option D} (mp : Mo P) (ht : ∀ Z H dx x xs d, Ex Z H → P Z H dx x → f dx xs = some d → tyV K T x H) (op : MtP P T K r f n) (ho : VP P μ ta ma) (ha : VA P μ tr k mr) : VE μ (tBM K T r ta tr) n (mMt f ma mr) := fun U Zc ds σ H Z s d e Q kk => by
  obtain ⟨o, e1, e⟩ := bind_some e
  obtain ⟨xs, e2, e⟩ := bind_some e
  refine ho U Zc ds σ H Z s o e1 _ fun v H1 Z1 s1 f1 g1 p1 => ⟨ht Z1 H1 o v xs d s1.sub p1 e, ?_⟩
  refine ha.2 U Zc ds σ H1 Z1 s1 xs e2 _ fun vs H2 Z2 s2 f2 g2 p2 => ?_
  exact op Z2 H2 v vs o xs d Q s2.sub (mp.m f2 g2 p1) p2 e fun u H3 Z3 r3 => kk u H3 Z3 (s2.push r3) (fun _ _ q => r3.exZ _ _ (f2 _ _ (f1 _ _ q))) fun _ _ q => r3.exU _ _ (g2 _ _ (g1 _ _ q))
end
def dIndexL (o : D) (xs : List D) : Option D := match o with
  | .lst _ => d1 (dIndex o) xs
  | _ => none
def dIndexS (o : D) (xs : List D) : Option D := match o with
  | .str _ => d1 (dIndex o) xs
  | _ => none
theorem ty_list {K : PySem.W.Frag} {H : Hp} {xs : List D} {v : V} (h : Rep H (.lst xs) v) : tyV K "list" v H := by
  cases h with
  | lst h1 _ => exact .inl ⟨rfl, _, SqL.of h1⟩
theorem ty_indexL {K : PySem.W.Frag} (Z H : Hp) (dx : D) (x : V) (xs : List D) (d : D) (_ : Ex Z H) (h : PH Z H dx x) (e : dIndexL dx xs = some d) : tyV K "list" x H := by
  cases dx with
  | lst _ => exact ty_list h
  | _ => cases e
theorem mtp_indexL {K : PySem.W.Frag} : MtP PH "list" K (rIndexU K) dIndexL n := fun Z H x vs dx xs d Q e hx r h k => by
  cases dx with
  | lst ys =>
    obtain ⟨y, w, rfl, rfl, hy, h⟩ := r.d1 h
    cases hx with
    | lst h1 h2 =>
      have h : (if (y.scal && ys.all D.scal) = true then (ixOf y ys).map fun j : Nat => D.int (j : Int) else if (y.ok && (D.lst ys).ok) = true then (ixOf y ys).map fun j : Nat => D.int (j : Int) else none) = some d := h
      by_cases c : (y.scal && ys.all D.scal) = true
      · rw [if_pos c] at h
        rw [Bool.and_eq_true] at c
        obtain ⟨j, e1, rfl⟩ := Option.map_eq_some_iff.mp h
        obtain ⟨⟨z, q1, q2⟩, q3⟩ := ixOf_some e1
        obtain ⟨u, r1, r2⟩ := h2.get q1
        have hsc : ∀ {m : Nat} {z : D}, ys[m]? = some z → z.scal = true := fun hz => List.all_eq_true.mp c.2 _ (List.mem_of_getElem? hz)
        refine .inl ⟨_, _, w, j, u, rfl, rfl, SqL.of h1, scal_flat hy c.1, flats h2 c.2, r1, by rw [scal_eqV r2 hy (hsc q1) c.1]; exact q2, fun m z' hm hz => ?_, k.scal e (.int _) rfl⟩
        have hml : m < ys.length := by rw [← h2.length]; exact (List.getElem?_eq_some_iff.mp hz).1
        have hzd : ys[m]? = some ys[m] := List.getElem?_eq_getElem hml
        obtain ⟨u', r1', r2'⟩ := h2.get hzd
        rw [hz] at r1'
        cases r1'
        rw [scal_eqV r2' hy (hsc hzd) c.1]
        exact q3 m _ hm hzd
      · rw [if_neg c] at h
        by_cases c2 : (y.ok && (D.lst ys).ok) = true
        · rw [if_pos c2] at h
          rw [Bool.and_eq_true] at c2
          obtain ⟨j, e1, rfl⟩ := Option.map_eq_some_iff.mp h
          obtain ⟨⟨z, q1, q2⟩, q3⟩ := ixOf_some e1
          obtain ⟨p, t1, s1⟩ := ok_some c2.1
          obtain ⟨q, t2, s2⟩ := ok_some c2.2
          have t3 := t2
          simp only [D.pd] at t3
          obtain ⟨qs, t4, rfl⟩ := Option.map_eq_some_iff.mp t3
          have pg : ∀ {ys : List D} {qs : List PyData}, pds ys = some qs → ∀ {m : Nat} {z : D}, ys[m]? = some z → ∃ p, z.pd = some p ∧ qs[m]? = some p := by
            intro ys
            induction ys with
            | nil => intro qs _ m z hz; simp at hz
            | cons y ys ih =>
              intro qs hq m z hz
              simp only [pds] at hq
              obtain ⟨p', a1, a2⟩ := bind_some hq
              obtain ⟨ps, a3, rfl⟩ := Option.map_eq_some_iff.mp a2
              cases m with
              | zero => simp at hz; subst hz; exact ⟨p', a1, rfl⟩
              | succ m =>
                obtain ⟨p2, b1, b2⟩ := ih a3 (m := m) (z := z) (by simpa using hz)
                exact ⟨p2, b1, by simpa using b2⟩
          obtain ⟨pz, w1, w2⟩ := pg t4 q1
          refine .inr ⟨_, w, p, qs, j, pz, rfl, rfl, pd_dp (.lst h1 h2) t2, pd_dp hy t1, s2, s1, w2, by rw [pd_eqv w1 t1]; exact q2, fun m z' hm hz => ?_, k.scal e (.int _) rfl⟩
          have hml : m < ys.length := by
            have a : ∀ {ys : List D} {qs : List PyData}, pds ys = some qs → qs.length = ys.length := by
              intro ys
              induction ys with
              | nil => intro qs hq; simp only [pds] at hq; cases hq; rfl
              | cons y ys ih =>
                intro qs hq
                simp only [pds] at hq
                obtain ⟨p', a1, a2⟩ := bind_some hq
                obtain ⟨ps, a3, rfl⟩ := Option.map_eq_some_iff.mp a2
                rw [List.length_cons, List.length_cons, ih a3]
            rw [← a t4]
            exact (List.getElem?_eq_some_iff.mp hz).1
          have hzd : ys[m]? = some ys[m] := List.getElem?_eq_getElem hml
          obtain ⟨pz', w1', w2'⟩ := pg t4 hzd
          rw [hz] at w2'
          cases w2'
          rw [pd_eqv w1' t1]
          exact q3 m _ hm hzd
        · rw [if_neg c2] at h; cases h
  | _ => cases h
theorem ty_indexS {K : PySem.W.Frag} (Z H : Hp) (dx : D) (x : V) (xs : List D) (d : D) (_ : Ex Z H) (h : PH Z H dx x) (e : dIndexS dx xs = some d) : tyV K "str" x H := by
  cases dx with
  | str _ => cases h; exact (rfl : ("str" : String) = "str")
  | _ => cases e
theorem idx_get {c : Nat} {a : Tx} (h : c ∈ a) : a[a.idxOf c]? = some c ∧ ∀ j, j < a.idxOf c → a[j]? ≠ some c := by
  have hl := List.idxOf_lt_length_of_mem h
  refine ⟨by rw [List.getElem?_eq_getElem hl, List.getElem_idxOf], fun j hj z => ?_⟩
  obtain ⟨h1, h2⟩ := List.getElem?_eq_some_iff.mp z
  have := List.not_of_lt_findIdx (p := (· == c)) hj
  simp [h2] at this
theorem mtp_indexS {K : PySem.W.Frag} : MtP PH "str" K rIndexT dIndexS n := fun Z H x vs dx xs d Q e hx r h k => by
  cases dx with
  | str a =>
    obtain ⟨y, w, rfl, rfl, hy, h⟩ := r.d1 h
    cases y with
    | str s =>
      cases s with
      | nil => cases h
      | cons c s =>
        cases s with
        | cons _ _ => cases h
        | nil =>
          obtain ⟨hc, rfl⟩ := if_some (show (if c ∈ a then some (D.int (a.idxOf c : Nat)) else none) = some d from h)
          cases hx
          cases hy
          obtain ⟨i1, i2⟩ := idx_get hc
          exact ⟨a, c, a.idxOf c, rfl, rfl, i1, i2, k.scal e (.int _) rfl⟩
    | _ => cases h
  | _ => cases h
end VS
end
section
set_option maxRecDepth 100000
set_option maxHeartbeats 4000000
/-! what is walked; join; own == and len; comparisons in a row -/
namespace VS
open PySem L2 RX Evl
def dItems : D → Option (List D)
  | .lst xs => some xs
  | .tup xs => some xs
  | .str a => some (a.map fun c => .str [c])
  | _ => none
def mItems (m : Mr) : DS → Option (List D) := fun ds => (m ds).bind dItems
theorem Stt.item {H Z : Hp} {d : D} {v : V} (e : Ex Z H) (h : Rep Z d v) : Stt H Z [.o 0] [some d] [some v] H Z := Stt.one (Ex.rf _) (Ex.rf _) e (fun _ _ => rfl) (n := 0) ⟨h, rfl⟩ List.nodup_nil fun a z => nomatch z
theorem wk_list {K : PySem.W.Frag} {a : Addr} {vs : List V} {xs : List D} {Z0 : Hp} (h : Z0 a = some (.lst vs)) (r : Reps Z0 xs vs) : Wk (Itl K a) xs Z0 := by
  have w := walk_list (K := K) (a := a) (xs := vs)
  rw [r.length] at w
  refine ⟨_, _, w, fun Z H f g => SqL.of (g _ _ (f _ _ h)), fun i d Z H v H' hd f g y => ?_⟩
  obtain ⟨rfl, hv⟩ := y
  obtain ⟨v', q1, q2⟩ := r.get hd
  rw [hv] at q1
  cases q1
  exact ⟨Z, Stt.item g (q2.mono f)⟩
theorem wk_tup {K : PySem.W.Frag} {a : Addr} {vs : List V} {xs : List D} {Z0 : Hp} (h : Z0 a = some (.tup vs)) (r : Reps Z0 xs vs) : Wk (Itt K a) xs Z0 := by
  have w := walk_tup (K := K) (a := a) (xs := vs)
  rw [r.length] at w
  refine ⟨_, _, w, fun Z H f g => SqT.of (g _ _ (f _ _ h)), fun i d Z H v H' hd f g y => ?_⟩
  obtain ⟨rfl, hv⟩ := y
  obtain ⟨v', q1, q2⟩ := r.get hd
  rw [hv] at q1
  cases q1
  exact ⟨Z, Stt.item g (q2.mono f)⟩
theorem wk_str {a : Tx} {Z0 : Hp} : Wk (Its (stx a)) (a.map fun c => D.str [c]) Z0 := by
  have w := walk_str (z := stx a)
  rw [stx_size, ← List.length_map (f := fun c => D.str [c])] at w
  refine ⟨_, _, w, fun Z H f g => trivial, fun i d Z H v H' hd f g y => ?_⟩
  obtain ⟨rfl, c, hc, rfl⟩ := y
  have := stx_get hc
  rw [List.getElem?_map, this] at hd
  cases hd
  exact ⟨Z, Stt.item g (.str [c])⟩
def iAnyU (K : PySem.W.Frag) (te : TE) : TI := fun σ H R => iList K te σ H R ∨ iTup K te σ H R ∨ iStr te σ H R
theorem pi_U {X : Cx} {tg e : Expr} {te : TE} (h : PE X e te) : PI X tg e (iAnyU X.K te) := PI.or (pi_list h) (PI.or (pi_tup h) (pi_str h))
theorem PE.K {X : Cx} {K : PySem.W.Frag} {e : Expr} {t : PySem.W.Frag → TE} (h : PE X e (t X.K)) (hK : X.K = K) : PE X e (t K) := by subst hK; exact h
theorem pi_UK {X : Cx} {K : PySem.W.Frag} {tg e : Expr} {te : TE} (h : PE X e te) (hK : X.K = K) : PI X tg e (iAnyU K te) := by subst hK; exact pi_U h
theorem pi_enumK {X : Cx} {K : PySem.W.Frag} {e : Expr} {ta : TA} {p pos tpos : Pos} {elts : List Expr} {kk : Nat} (hg : Gl X "enumerate") (hm : X.mg "enumerate" = none) (ha : PA X [e] ta) (hK : X.K = K) (hs : starEach [e] X.env = [(false, eval e X.env)] := by rfl) :
    PI X (.Tuple elts kk tpos) (.Call (.Name "enumerate" p) [e] [] pos) (iEnumS K ta) := by subst hK; exact pi_enumS hg hm ha hs
section
variable {μ : List Md} {te : TE} {tr : TA} {m : Mr} {mr : DS → Option (List D)} {k : Nat}
theorem VIp.any {K : PySem.W.Frag} (h : VP PZ μ te m) : VIp μ (iAnyU K te) (mItems m) := fun U Zc ds σ H Z s xs e R kk => by
  obtain ⟨d, e1, e2⟩ := bind_some e
  cases d with
  | lst ys =>
    cases e2
    refine .inl (h U Zc ds σ H Z s _ e1 _ fun v H' Z' s' f g p => ?_)
    cases p with
    | lst h1 h2 => exact ⟨_, rfl, ⟨_, SqL.of (s'.sub _ _ h1)⟩, kk _ H' Z' s' f g (wk_list h1 h2)⟩
  | tup ys =>
    cases e2
    refine .inr (.inl (h U Zc ds σ H Z s _ e1 _ fun v H' Z' s' f g p => ?_))
    cases p with
    | tup h1 h2 => exact ⟨_, rfl, ⟨_, SqT.of (s'.sub _ _ h1)⟩, kk _ H' Z' s' f g (wk_tup h1 h2)⟩
  | str a =>
    cases e2
    refine .inr (.inr (h U Zc ds σ H Z s _ e1 _ fun v H' Z' s' f g p => ?_))
    cases p
    exact ⟨_, rfl, kk _ H' Z' s' f g wk_str⟩
  | _ => cases e2
theorem VI.any {K : PySem.W.Frag} {m : DS → Option (D × DS)} (h : VX μ te 0 m) : VI μ (iAnyU K te) (fun ds => (m ds).bind fun x => (dItems x.1).map fun xs => (xs, x.2)) := fun U Zc ds σ H Z s xs ds' e R kk => by
  obtain ⟨⟨d, d1⟩, e1, e2⟩ := bind_some e
  obtain ⟨ys, e3, e4⟩ := Option.map_eq_some_iff.mp e2
  cases e4
  cases d with
  | lst ys =>
    cases e3
    refine .inl (h U Zc ds σ H Z s _ _ e1 _ fun v H' Z' s' f => ?_)
    have p := s'.top0
    cases p with
    | lst h1 h2 => exact ⟨_, rfl, ⟨_, SqL.of (s'.sub _ _ h1)⟩, kk _ H' Z' s'.pop f (wk_list h1 h2)⟩
  | tup ys =>
    cases e3
    refine .inr (.inl (h U Zc ds σ H Z s _ _ e1 _ fun v H' Z' s' f => ?_))
    have p := s'.top0
    cases p with
    | tup h1 h2 => exact ⟨_, rfl, ⟨_, SqT.of (s'.sub _ _ h1)⟩, kk _ H' Z' s'.pop f (wk_tup h1 h2)⟩
  | str a =>
    cases e3
    refine .inr (.inr (h U Zc ds σ H Z s _ _ e1 _ fun v H' Z' s' f => ?_))
    have p := s'.top0
    cases p
    exact ⟨_, rfl, kk _ H' Z' s'.pop f wk_str⟩
  | _ => cases e3
/-! range -/
def rgD (lo : Int) (n : Nat) : List D := (List.range n).map fun i => .int (lo + (i : Nat))
theorem wk_range {lo : Int} {n : Nat} {Z0 : Hp} : Wk (Itr lo n) (rgD lo n) Z0 := by
  have w := walk_range (lo := lo) (n := n)
  have hl : (rgD lo n).length = n := by unfold rgD; rw [List.length_map, List.length_range]
  rw [← hl] at w
  refine ⟨_, _, by rw [hl] at w ⊢; exact w, fun Z H f g => trivial, fun i d Z H v H' hd f g y => ?_⟩
  obtain ⟨rfl, rfl⟩ := y
  unfold rgD at hd
  rw [List.getElem?_map] at hd
  obtain ⟨j, h1, rfl⟩ := Option.map_eq_some_iff.mp hd
  have : j = i := by
    obtain ⟨h2, h3⟩ := List.getElem?_eq_some_iff.mp h1
    simpa using h3.symm
  subst this
  exact ⟨Z, Stt.item g (.int _)⟩
def mRange (m : DS → Option (List D)) : DS → Option (List D) := fun ds => (m ds).bind fun xs => match xs with
  | [.int j] => if -(2 ^ 62) ≤ j ∧ j < 2 ^ 62 then some (rgD 0 j.toNat) else none
  | [.int i, .int j] => if -(2 ^ 62) ≤ i ∧ i < 2 ^ 62 ∧ -(2 ^ 62) ≤ j ∧ j < 2 ^ 62 then some (rgD i (j - i).toNat) else none
  | _ => none
theorem VIp.range1 (h : VA PH μ tr 1 mr) : VIp μ (iRng1 tr) (mRange mr) := fun U Zc ds σ H Z s xs e R kk => by
  obtain ⟨ys, e1, e2⟩ := bind_some e
  have hl := h.1 _ _ e1
  refine h.2 U Zc ds σ H Z s ys e1 _ fun vs H' Z' s' f g p => ?_
  cases p with
  | nil => cases e2
  | cons p1 p2 =>
    cases p2 with
    | cons _ _ => simp at hl
    | nil =>
      cases p1 with
      | int j =>
        obtain ⟨hb, rfl⟩ := if_some e2
        exact ⟨j, rfl, hb.1, hb.2, kk _ H' Z' s' f g wk_range⟩
      | _ => cases e2
theorem VIp.range2 (h : VA PH μ tr 2 mr) : VIp μ (iRng2 tr) (mRange mr) := fun U Zc ds σ H Z s xs e R kk => by
  obtain ⟨ys, e1, e2⟩ := bind_some e
  have hl := h.1 _ _ e1
  refine h.2 U Zc ds σ H Z s ys e1 _ fun vs H' Z' s' f g p => ?_
  cases p with
  | nil => cases e2
  | cons p1 p2 =>
    cases p2 with
    | nil => simp at hl
    | cons p2 p3 =>
      cases p3 with
      | cons _ _ => simp at hl
      | nil =>
        cases p1 with
        | int i =>
          cases p2 with
          | int j =>
            obtain ⟨hb, rfl⟩ := if_some e2
            exact ⟨i, j, rfl, hb, kk _ H' Z' s' f g wk_range⟩
          | _ => cases e2
        | _ => cases e2
def mRangeX (m : DS → Option (List D × DS)) : DS → Option (List D × DS) := fun ds => (m ds).bind fun x => (mRange (fun _ => some x.1) ds).map fun xs => (xs, x.2)
theorem VI.range1 {mr : DS → Option (List D × DS)} (h : VAX μ tr 1 mr) : VI μ (iRng1 tr) (mRangeX mr) := fun U Zc ds σ H Z s xs ds' e R kk => by
  obtain ⟨⟨ys, d1⟩, e1, e2⟩ := bind_some e
  obtain ⟨zs, e3, e4⟩ := Option.map_eq_some_iff.mp e2
  cases e4
  have hl := h.1 _ _ _ e1
  refine h.2 U Zc ds σ H Z s ys _ e1 _ fun vs H' Z' s' f p => ?_
  cases p with
  | nil => cases e3
  | cons p1 p2 =>
    cases p2 with
    | cons _ _ => simp at hl
    | nil =>
      cases p1 with
      | int j =>
        obtain ⟨hb, rfl⟩ := if_some (show (if -(2 ^ 62) ≤ j ∧ j < 2 ^ 62 then some (rgD 0 j.toNat) else none) = some xs from e3)
        exact ⟨j, rfl, hb.1, hb.2, kk _ H' Z' s' f wk_range⟩
      | _ => cases e3
/-! enumerate -/
def enD (xs : List D) : List D := (List.range xs.length).zipWith (fun i x => .tup [.int (i : Nat), x]) xs
theorem enD_length (xs : List D) : (enD xs).length = xs.length := by unfold enD; rw [List.length_zipWith, List.length_range, Nat.min_self]
theorem enD_get {xs : List D} {i : Nat} {d : D} (h : (enD xs)[i]? = some d) : ∃ x, xs[i]? = some x ∧ d = .tup [.int (i : Nat), x] := by
  unfold enD at h
  rw [List.getElem?_zipWith] at h
  have hi : i < xs.length := by
    by_cases c : i < xs.length
    · exact c
    · rw [List.getElem?_eq_none (by rw [List.length_range]; omega)] at h; cases h
  rw [List.getElem?_eq_getElem (by rw [List.length_range]; exact hi), List.getElem_range, List.getElem?_eq_getElem hi] at h
  cases h
  exact ⟨_, List.getElem?_eq_getElem hi, rfl⟩
/-- a new tuple of two -/
theorem Stt.pair {H Z : Hp} {T : Addr} {x y : D} {v w : V} (e : Ex Z H) (hT : H T = none) (hx : Rep Z x v) (hy : Rep Z y w) : ∃ Z', Stt H Z [.o 0] [some (.tup [x, y])] [some (.ref T)] (upd H T (.tup [v, w])) Z' := by
  have hz : Z T = none := by
    cases q : Z T with
    | none => rfl
    | some u => rw [e _ _ q] at hT; cases hT
  refine ⟨upd Z T (.tup [v, w]), Stt.one (Ex.new hT) (Ex.new hz) (fun a u q => ?_) (fun a ha => ?_) (n := 0) ⟨.tup upd_same (.cons (hx.mono (Ex.new hz)) (.cons (hy.mono (Ex.new hz)) .nil)), rfl⟩ List.nodup_nil fun a z => nomatch z⟩
  · by_cases ha : a = T
    · subst ha; rw [upd_same] at q ⊢; exact q
    · rw [upd_ne ha] at q ⊢; exact e _ _ q
  · rw [upd_ne]
    intro z
    subst z
    exact ha hT
theorem wk_enum {K : PySem.W.Frag} {a : Addr} {vs : List V} {xs : List D} {Z0 : Hp} (h : Z0 a = some (.lst vs)) (r : Reps Z0 xs vs) : Wk (Ite K a) (enD xs) Z0 := by
  have w := walk_enum (K := K) (a := a) (xs := vs)
  rw [r.length, ← enD_length] at w
  refine ⟨_, _, w, fun Z H f g => SqL.of (g _ _ (f _ _ h)), fun i d Z H v H' hd f g y => ?_⟩
  obtain ⟨T, x1, y1, rfl, hT, rfl, h1, h2⟩ := y
  cases h1
  obtain ⟨x, hx, rfl⟩ := enD_get hd
  obtain ⟨v', q1, q2⟩ := r.get hx
  have h2 : vs[i]? = some y1 := h2
  rw [h2] at q1
  cases q1
  exact Stt.pair g hT (.int _) (q2.mono f)
theorem wk_enumT {K : PySem.W.Frag} {a : Addr} {vs : List V} {xs : List D} {Z0 : Hp} (h : Z0 a = some (.tup vs)) (r : Reps Z0 xs vs) : Wk (IteT K a) (enD xs) Z0 := by
  have w := walk_enumT (K := K) (a := a) (xs := vs)
  rw [r.length, ← enD_length] at w
  refine ⟨_, _, w, fun Z H f g => SqT.of (g _ _ (f _ _ h)), fun i d Z H v H' hd f g y => ?_⟩
  obtain ⟨T, x1, y1, rfl, hT, rfl, h1, h2⟩ := y
  cases h1
  obtain ⟨x, hx, rfl⟩ := enD_get hd
  obtain ⟨v', q1, q2⟩ := r.get hx
  have h2 : vs[i]? = some y1 := h2
  rw [h2] at q1
  cases q1
  exact Stt.pair g hT (.int _) (q2.mono f)
def mEnum (m : DS → Option (List D)) : DS → Option (List D) := fun ds => (m ds).bind fun xs => match xs with
  | [.lst ys] => some (enD ys)
  | [.tup ys] => some (enD ys)
  | _ => none
theorem VIp.enum {K : PySem.W.Frag} (h : VA PZ μ tr 1 mr) : VIp μ (iEnumS K tr) (mEnum mr) := fun U Zc ds σ H Z s xs e R kk => by
  obtain ⟨ys, e1, e2⟩ := bind_some e
  have hl := h.1 _ _ e1
  refine h.2 U Zc ds σ H Z s ys e1 _ fun vs H' Z' s' f g p => ?_
  cases p with
  | nil => cases e2
  | cons p1 p2 =>
    cases p2 with
    | cons _ _ => simp at hl
    | nil =>
      cases p1 with
      | lst h1 h2 => cases e2; exact ⟨_, rfl, .inl ⟨⟨_, SqL.of (s'.sub _ _ h1)⟩, kk _ H' Z' s' f g (wk_enum h1 h2)⟩⟩
      | tup h1 h2 => cases e2; exact ⟨_, rfl, .inr ⟨⟨_, SqT.of (s'.sub _ _ h1)⟩, kk _ H' Z' s' f g (wk_enumT h1 h2)⟩⟩
      | _ => cases e2
/-! zip of two texts -/
def zpT (a b : Tx) : List D := a.zipWith (fun c d => .tup [.str [c], .str [d]]) b
theorem wk_zipT {a b : Tx} {Z0 : Hp} : Wk (Itzt a b) (zpT a b) Z0 := by
  have w := walk_zipT (a := a) (b := b)
  have hl : (zpT a b).length = min a.length b.length := by unfold zpT; rw [List.length_zipWith]
  rw [← hl] at w
  refine ⟨_, _, w, fun Z H f g => trivial, fun i d Z H v H' hd f g y => ?_⟩
  obtain ⟨T, c1, c2, rfl, hT, rfl, h1, h2⟩ := y
  unfold zpT at hd
  rw [List.getElem?_zipWith, h1, h2] at hd
  cases hd
  exact Stt.pair g hT (.str [c1]) (.str [c2])
def mZipT (m : DS → Option (List D)) : DS → Option (List D) := fun ds => (m ds).bind fun xs => match xs with
  | [.str a, .str b] => some (zpT a b)
  | _ => none
theorem VIp.zipT (h : VA PH μ tr 2 mr) : VIp μ (iZipT tr) (mZipT mr) := fun U Zc ds σ H Z s xs e R kk => by
  obtain ⟨ys, e1, e2⟩ := bind_some e
  have hl := h.1 _ _ e1
  refine h.2 U Zc ds σ H Z s ys e1 _ fun vs H' Z' s' f g p => ?_
  cases p with
  | nil => cases e2
  | cons p1 p2 =>
    cases p2 with
    | nil => simp at hl
    | cons p2 p3 =>
      cases p3 with
      | cons _ _ => simp at hl
      | nil =>
        cases p1 with
        | str a =>
          cases p2 with
          | str b => cases e2; exact ⟨a, b, rfl, kk _ H' Z' s' f g wk_zipT⟩
          | _ => cases e2
        | _ => cases e2
/-! ''.join(l) -/
def allT : List D → Option (List Tx)
  | [] => some []
  | .str a :: xs => (allT xs).map fun r => a :: r
  | _ => none
theorem allT_rep {H : Hp} : ∀ {xs : List D} {vs : List V} {ts : List Tx}, Reps H xs vs → allT xs = some ts → vs = ts.map tx
  | _, _, _, .nil, e => by cases e; rfl
  | _, _, _, .cons h r, e => by
    cases h with
    | str a =>
      obtain ⟨ts, e2, rfl⟩ := Option.map_eq_some_iff.mp e
      rw [allT_rep r e2]
      rfl
    | _ => cases e
def dJoin : D → Option D
  | .lst xs => (allT xs).bind fun ts => if ts.flatten.length ≤ 16777216 then some (.str ts.flatten) else none
  | _ => none
theorem join_rep {K : PySem.W.Frag} {Z H : Hp} {x : D} {v : V} {d : D} {n : Nat} {Q : VK} (e : Ex Z H) (h : Rep H x v) (q : dJoin x = some d) (k : Ret H Z n d Q) : rJoinT K (tx []) [v] H Q := by
  cases h with
  | lst h1 h2 =>
    obtain ⟨ts, e1, e2⟩ := bind_some q
    obtain ⟨hl, rfl⟩ := if_some e2
    have := allT_rep h2 e1
    subst this
    exact ⟨_, ts, rfl, rfl, SqL.of h1, hl, k.scal e (.str _) rfl⟩
  | _ => cases q
theorem VE.join {K : PySem.W.Frag} {n : Nat} (h : VP PH μ te m) : VE μ (tM1 (rJoinT K) (tC (tx [])) te) n (mUn dJoin m) := fun U Zc ds σ H Z s d e Q kk => by
  obtain ⟨x, e1, e2⟩ := bind_some e
  refine ⟨⟨_, rfl⟩, h U Zc ds σ H Z s x e1 _ fun v H' Z' s' f g p => ?_⟩
  exact join_rep s'.sub p e2 fun u H3 Z3 r3 => kk u H3 Z3 (s'.push r3) (fun _ _ q => r3.exZ _ _ (f _ _ q)) fun _ _ q => r3.exU _ _ (g _ _ q)
theorem VX.join {K : PySem.W.Frag} {n : Nat} {m : DS → Option (D × DS)} (h : VX μ te 0 m) : VX μ (tM1 (rJoinT K) (tC (tx [])) te) n (mUnX dJoin m) := fun U Zc ds σ H Z s d ds' e Q kk => by
  obtain ⟨⟨x, d1⟩, e1, e2⟩ := bind_some e
  obtain ⟨y, e3, e4⟩ := Option.map_eq_some_iff.mp e2
  cases e4
  refine ⟨⟨_, rfl⟩, h U Zc ds σ H Z s x _ e1 _ fun v H' Z' s' f => ?_⟩
  exact join_rep s'.sub (Rep.mono s'.sub s'.top0) e3 fun u H3 Z3 r3 => kk u H3 Z3 (s'.pop.push r3) (fun _ _ q => r3.exZ _ _ (f _ _ q))
/-! a < b < c -/
def mChain (f g : D → D → Option D) (a b c : Mr) : Mr := fun ds => (a ds).bind fun x => (b ds).bind fun y => (f x y).bind fun z => z.isB.bind fun k => if k = true then (c ds).bind fun w => g y w else some (.bl false)
theorem VE.chain {r r' : R2} {f g : D → D → Option D} {ta tb tc : TE} {ma mb mc : Mr} {n : Nat} (o1 : OpP PH r f 0) (o2 : OpP PH r' g n) (ha : VP PH μ ta ma) (hb : VP PH μ tb mb) (hc : VP PH μ tc mc) : VE μ (tChain r r' ta tb tc) n (mChain f g ma mb mc) := fun U Zc ds σ H Z s d e Q kk => by
  obtain ⟨x, e1, e⟩ := bind_some e
  obtain ⟨y, e2, e⟩ := bind_some e
  obtain ⟨z, e3, e⟩ := bind_some e
  obtain ⟨b, e4, e⟩ := bind_some e
  cases isB_some e4
  refine ha U Zc ds σ H Z s x e1 _ fun v H1 Z1 s1 f1 g1 p1 => ?_
  refine hb U Zc ds σ H1 Z1 s1 y e2 _ fun w H2 Z2 s2 f2 g2 p2 => ?_
  refine o1 Z2 H2 v w x y _ _ s2.sub (mo_H.m f2 g2 p1) p2 e3 fun u H3 Z3 r3 => ⟨b, Rep.isB r3.top0, ?_⟩
  have s3 := (s2.push r3).pop
  cases b with
  | true =>
    obtain ⟨w', e5, e6⟩ := bind_some (show ((mc ds).bind fun w => g y w) = some d from e)
    rw [if_pos rfl]
    refine hc U Zc ds σ H3 Z3 s3 w' e5 _ fun u' H4 Z4 s4 f4 g4 p4 => ?_
    exact o2 Z4 H4 w u' y w' d Q s4.sub (mo_H.m f4 (fun _ _ q => g4 _ _ (r3.exU _ _ q)) p2) p4 e6 fun u5 H5 Z5 r5 => kk u5 H5 Z5 (s4.push r5) (fun _ _ q => r5.exZ _ _ (f4 _ _ (r3.exZ _ _ (f2 _ _ (f1 _ _ q))))) fun _ _ q => r5.exU _ _ (g4 _ _ (r3.exU _ _ (g2 _ _ (g1 _ _ q))))
  | false =>
    cases e
    rw [if_neg Bool.false_ne_true]
    exact kk _ H3 Z3 (s3.pushS (.bl false) rfl) (fun _ _ q => r3.exZ _ _ (f2 _ _ (f1 _ _ q))) fun _ _ q => r3.exU _ _ (g2 _ _ (g1 _ _ q))
end
end VS
end
section
set_option maxRecDepth 100000
set_option maxHeartbeats 4000000
/-! own special methods; keywords; ranges; the small rules that the printed texts name -/
namespace VS
open PySem L2 RX Evl
theorem ru {k : Nat} {A : Around} (h : Room k A) : A.units + 64 < cLine := by
  have := h.un
  omega
theorem ru5 {k : Nat} {A : Around} (h : Room k A) : A.units + 65 < cLine := by
  have := h.un
  omega
def rTupleS (K : PySem.W.Frag) : List V → Hp → VK → Prop := fun xs H Q => ∃ p ys, xs = [.ref p] ∧ ((SqL K H p ys ∧ ∀ l, H l = none → Q (.ref l) (upd H l (.tup ys))) ∨ (SqT K H p ys ∧ Q (.ref p) H))
/-! -i written -/
def mNeg (a : Mr) : Mr := fun ds => (a ds).bind fun d => d.isI.map fun i => .int (-i)
def mIxC (i : Int) (a : Mr) : Mr := mBin dIx a (mC (.int i))
section
variable {μ : List Md} {ta tb te : TE} {n : Nat} {ma mb : Mr} {io : Option (Addr × Nat)} {rn : Nat} {μ' : List Md}
theorem VE.neg {i : Int} : VE μ (tUn (rU fun i => .int (-i)) (tC (.int i))) n (mC (.int (-i))) := fun U Zc ds σ H Z s d e Q k => by
  cases e
  exact ⟨i, rfl, k _ H Z (s.pushS (.int (-i)) rfl) (Ex.rf _) (Ex.rf _)⟩
theorem VE.ixNeg {K : PySem.W.Frag} {i : Int} (ha : VP P1 μ ta ma) : VE μ (tOp (rIx K) ta (tUn (rU fun i => .int (-i)) (tC (.int i)))) 0 (mIxC (-i) ma) := VE.bin mo_1 opp_ix ha (VE.one (VE.neg (n := 0)))
/-! return, unpacking, += -/
def mRetN : Ms := fun ds => some (.rt .non ds)
theorem VSt.retN : VSt none rn μ μ' tRetN mRetN := fun U Zc ds σ H Z s fl e E p => by
  cases e
  exact p .non H Z (s.pushS .non rfl).only
/-- return x, x owned: handed over -/
theorem VSt.retV {i : Nat} (hm : μ.getD i .sh = .o rn) : VSt none rn μ μ' (tRet (tVar i)) (mRet (lft (mVar i))) := fun U Zc ds σ H Z s fl e E p => by
  obtain ⟨⟨d, d1⟩, e1, e2⟩ := Option.map_eq_some_iff.mp e
  subst e2
  obtain ⟨e3, e4⟩ := lft_some e1
  have hd := mVar_some e3
  obtain ⟨ass, h1, h2, h3, h4⟩ := s.own
  obtain ⟨v, a, b⟩ := h1 i d hd
  rw [hm] at b
  refine ⟨v, a, p v H Z ?_⟩
  refine ⟨s.exU, s.exZ, s.sub, s.old, rfl, fun j => if j = 0 then ass i else [], fun j d' q => ?_, fun j => ?_, fun j k a c1 c2 => ?_, fun j a c1 => ?_⟩
  · cases j with
    | zero =>
      have e : d = d' := by simpa using q
      subst e
      exact ⟨v, rfl, b⟩
    | succ j => simp at q
  · show (if j = 0 then ass i else []).Nodup
    split
    · exact h2 i
    · exact List.nodup_nil
  · by_cases hj : j = 0 <;> by_cases hk : k = 0
    · rw [hj, hk]
    · simp [hk] at c2
    · simp [hj] at c1
    · simp [hj] at c1
  · by_cases hj : j = 0
    · simp [hj] at c1; exact h4 i a c1
    · simp [hj] at c1
theorem VSt.retVP {i : Nat} {q : Addr} {qn : Nat} (hm : μ.getD i .sh = .o rn) (h0 : μ.getD 0 .sh = .pot q qn) (hi : Nat.blt 0 i = true := by rfl) : VSt (some (q, qn)) rn μ μ' (tRet (tVar i)) (mRet (lft (mVar i))) := fun U Zc ds σ H Z s fl e E p => by
  obtain ⟨⟨d, d1⟩, e1, e2⟩ := Option.map_eq_some_iff.mp e
  subst e2
  obtain ⟨e3, rfl⟩ := lft_some e1
  have hd := mVar_some e3
  have hi0 : i ≠ 0 := fun z => by rw [z] at hi; cases hi
  obtain ⟨ass, h1, h2, h3, h4⟩ := s.own
  obtain ⟨v, a, b⟩ := h1 i d hd
  rw [hm] at b
  refine ⟨v, a, p v H Z ?_⟩
  refine ⟨s.exU, s.exZ, s.sub, s.old, rfl, fun j => if j = 0 then ass i else if j = 1 then ass 0 else [], fun j d' q => ?_, fun j => ?_, fun j k a c1 c2 => ?_, fun j a c1 => ?_⟩
  · cases j with
    | zero =>
      have e : d = d' := by simpa using q
      subst e
      exact ⟨v, rfl, b⟩
    | succ j =>
      cases j with
      | zero =>
        have q : (d1[0]?).join = some d' := by simpa using q
        have q' : d1[0]? = some (some d') := by
          cases e : d1[0]? with
          | none => rw [e] at q; cases q
          | some x => rw [e] at q; exact congrArg some q
        obtain ⟨v', a', b'⟩ := h1 0 d' q'
        rw [h0] at b'
        obtain ⟨b1, b2⟩ := b'
        refine ⟨v', by rw [b1]; rfl, b1, ?_⟩
        simpa using b2
      | succ j => simp at q
  · show (if j = 0 then ass i else if j = 1 then ass 0 else []).Nodup
    split
    · exact h2 i
    · split
      · exact h2 0
      · exact List.nodup_nil
  · have hne : ∀ a, a ∈ ass i → a ∉ ass 0 := fun a x y => hi0 (h3 i 0 a x y)
    by_cases hj : j = 0 <;> by_cases hk : k = 0
    · rw [hj, hk]
    · by_cases hk1 : k = 1
      · simp [hj] at c1; simp [hk1] at c2; exact absurd c2 (hne a c1)
      · simp [hk, hk1] at c2
    · by_cases hj1 : j = 1
      · simp [hk] at c2; simp [hj1] at c1; exact absurd c1 (hne a c2)
      · simp [hj, hj1] at c1
    · by_cases hj1 : j = 1 <;> by_cases hk1 : k = 1
      · rw [hj1, hk1]
      · simp [hk, hk1] at c2
      · simp [hj, hj1] at c1
      · simp [hj, hj1] at c1
  · by_cases hj : j = 0
    · simp [hj] at c1; exact h4 i a c1
    · by_cases hj1 : j = 1
      · simp [hj1] at c1; exact h4 0 a c1
      · simp [hj, hj1] at c1
def mUnp (m : DS → Option (D × DS)) (tg : D → DS → Option DS) : Ms := fun ds => (m ds).bind fun x => (tg x.1 x.2).map .nx
theorem VSt.unp {g : TG} {tg : D → DS → Option DS} {m : DS → Option (D × DS)} (h : VX μ te 0 m) (hg : VG μ g tg) : VSt io rn μ μ (tAsg te g) (mUnp m tg) := fun U Zc ds σ H Z s fl e E p => by
  obtain ⟨⟨d, d1⟩, e1, e⟩ := bind_some e
  obtain ⟨d2, e2, rfl⟩ := Option.map_eq_some_iff.mp e
  refine h U Zc ds σ H Z s d d1 e1 _ fun v H' Z' s' f => ?_
  exact hg U Zc d1 σ H' Z' d v s' d2 e2 _ fun σ' s'' => p σ' H' Z' s''
def mAug (i : Nat) (a : Mr) : Ms := fun ds => (mVar i ds).bind fun x => (a ds).bind fun y => match x, y with
  | .int p, .int q => some (.nx (ds.set i (some (.int (p + q)))))
  | _, _ => none
theorem VSt.aug {i : Nat} (ha : VP PH μ ta ma) (hm : μ[i]? = some .sh := by rfl) : VSt io rn μ μ (tAug i ta (ipI fun i j => i + j)) (mAug i ma) := fun U Zc ds σ H Z s fl e E p => by
  obtain ⟨x, e1, e⟩ := bind_some e
  obtain ⟨y, e2, e⟩ := bind_some e
  obtain ⟨v, bs, h1, h2⟩ := s.get (mVar_some e1)
  have hm' : μ.getD i .sh = .sh := by rw [List.getD_eq_getElem?_getD, hm]; rfl
  rw [hm'] at h2
  refine ⟨v, h1, ha U Zc ds σ H Z s y e2 _ fun w H' Z' s' f g p1 => ?_⟩
  cases x with
  | int a =>
    cases y with
    | int b =>
      cases e
      have hv : v = .int a := by cases h2.1; rfl
      have hw : w = .int b := by cases p1; rfl
      refine ⟨a, b, hv, hw, ?_⟩
      have s2 := (s'.pushS (n := 0) (d := .int (a + b)) (.int (a + b)) rfl).store (i := i) (List.getElem?_eq_some_iff.mp hm).1
      rw [set_same hm] at s2
      exact p _ H' Z' s2
    | _ => cases e
  | _ => cases e
/-! is None -/
def D.isN : D → Bool
  | .non => true
  | _ => false
def dIsN (x y : D) : Option D := if y.isN = true then some (.bl x.isN) else none
def dNotN (x y : D) : Option D := if y.isN = true then some (.bl (!x.isN)) else none
theorem isN_rep {H : Hp} {d : D} {v : V} (h : Rep H d v) : decide (v = .non) = d.isN := by
  cases h <;> first | rfl | (apply decide_eq_false; intro z; cases z)
theorem opp_isN : OpP PH (fun x y H Q => y = .non ∧ Q (.bl (decide (x = .non))) H) dIsN n := fun Z H x y dx dy d Q e hx hy h k => by
  obtain ⟨hy', rfl⟩ := if_some h
  have : y = .non := by cases hy <;> first | rfl | cases hy'
  refine ⟨this, ?_⟩
  rw [isN_rep hx]
  exact k.scal e (.bl _) rfl
theorem opp_notN : OpP PH (fun x y H Q => y = .non ∧ Q (.bl (!decide (x = .non))) H) dNotN n := fun Z H x y dx dy d Q e hx hy h k => by
  obtain ⟨hy', rfl⟩ := if_some h
  have : y = .non := by cases hy <;> first | rfl | cases hy'
  refine ⟨this, ?_⟩
  rw [isN_rep hx]
  exact k.scal e (.bl _) rfl
/-! own ==, !=, in, len, repr -/
structure NF (K : PySem.W.Frag) (C : Addr) : Prop extends IsC K C where
  nfOwn : PySem.W.notFirst K C (.ref C) = true
  nfNone : PySem.W.notFirst K C (.type "NoneType") = true
  nfBool : PySem.W.notFirst K C (.type "bool") = true
  nfInt : PySem.W.notFirst K C (.type "int") = true
  nfStr : PySem.W.notFirst K C (.type "str") = true
  nfList : PySem.W.notFirst K C (.type "list") = true
  nfTup : PySem.W.notFirst K C (.type "tuple") = true
  nfDict : PySem.W.notFirst K C (.type "dict") = true
theorem NF.at {K : PySem.W.Frag} {C : Addr} (I : NF K C) {d : D} {s : String} (e : tyN d = some s) : PySem.W.notFirst K C (.type s) = true := by
  cases d with
  | non => cases e; exact I.nfNone
  | bl _ => cases e; exact I.nfBool
  | int _ => cases e; exact I.nfInt
  | str _ => cases e; exact I.nfStr
  | lst _ => cases e; exact I.nfList
  | tup _ => cases e; exact I.nfTup
  | dic _ => cases e; exact I.nfDict
  | ins _ _ => cases e
def dOwn (g : Bool → Bool) (C : Addr) (m : List D → Option D) (x y : D) : Option D := if (x.isC C && ((tyN y).isSome || y.isC C)) = true then (m [x, y]).bind fun d => d.isB.map fun b => .bl (g b) else none
abbrev dOwnEq := dOwn id
abbrev dOwnNe := dOwn (!·)
theorem ret_b {H Z H' Z' : Hp} {b c : Bool} {v : V} {Q : VK} (k : Ret H Z n (.bl c) Q) (s : Stt H Z [.o 0] [some (.bl b)] [some v] H' Z') : Q (.bl c) H' := k _ H' Z' (s.pop.pushS (.bl c) rfl)
theorem opp_own {K : PySem.W.Frag} {C : Addr} {m : List D → Option D} {E : XK} (g : Bool → Bool) (I : NF K C) : OpP PZ (rOwnX K C (spV 0 m) E g) (dOwn g C m) n := fun Z H x y dx dy d Q e hx hy h k => by
  unfold dOwn at h
  by_cases c : (dx.isC C && ((tyN dy).isSome || dy.isC C)) = true
  case neg => rw [if_neg c] at h; cases h
  rw [if_pos c] at h
  rw [Bool.and_eq_true, Bool.or_eq_true] at c
  obtain ⟨r, e1, h⟩ := bind_some h
  obtain ⟨b, e2, rfl⟩ := Option.map_eq_some_iff.mp h
  cases isB_some e2
  obtain ⟨a, ddx, fs, rfl, h1⟩ := isC_rep (Rep.mono e hx) c.1
  have fin : spV 0 m [.ref a, y] H (fun v H' => ∃ k, v = .bl k ∧ Q (.bl (g k)) H') E := ⟨Z, [dx, dy], .bl b, e, .cons hx (.cons hy .nil), e1, fun v H' Z' s => ⟨b, Rep.isB s.top0, ret_b k s⟩⟩
  rcases c.2 with c2 | c2
  · obtain ⟨s, hs⟩ := Option.isSome_iff_exists.mp c2
    exact ⟨a, ddx, fs, .type s, rfl, h1, tyN_rep (Rep.mono e hy) hs, I.at hs, fin⟩
  · obtain ⟨a', dx', fs', rfl, h1'⟩ := isC_rep (Rep.mono e hy) c2
    exact ⟨a, ddx, fs, .ref C, rfl, h1, .base (.ins h1' I.cl I.ha I.hn I.htk I.hm), I.nfOwn, fin⟩
theorem opp_ownEq {K : PySem.W.Frag} {C : Addr} {m : List D → Option D} {E : XK} (I : NF K C) : OpP PZ (rOwnX K C (spV 0 m) E id) (dOwnEq C m) n := opp_own id I
theorem opp_ownNe {K : PySem.W.Frag} {C : Addr} {m : List D → Option D} {E : XK} (I : NF K C) : OpP PZ (rOwnX K C (spV 0 m) E (!·)) (dOwnNe C m) n := opp_own (!·) I
def dInOwn (g : Bool → Bool) (C : Addr) (m : List D → Option D) (y x : D) : Option D := if x.isC C = true then (m [x, y]).bind fun d => d.isB.map fun b => .bl (g b) else none
abbrev dOwnIn := dInOwn id
abbrev dOwnNotIn := dInOwn (!·)
theorem opp_inOwn {C : Addr} {m : List D → Option D} {E : XK} (g : Bool → Bool) : OpP PZ (rInOwn C (spV 0 m) E g) (dInOwn g C m) n := fun Z H y x dy dx d Q e hy hx h k => by
  unfold dInOwn at h
  by_cases c : dx.isC C = true
  case neg => rw [if_neg c] at h; cases h
  rw [if_pos c] at h
  obtain ⟨r, e1, h⟩ := bind_some h
  obtain ⟨b, e2, rfl⟩ := Option.map_eq_some_iff.mp h
  cases isB_some e2
  obtain ⟨a, ddx, fs, rfl, h1⟩ := isC_rep (Rep.mono e hx) c
  exact ⟨a, ddx, fs, rfl, h1, Z, [dx, dy], .bl b, e, .cons hx (.cons hy .nil), e1, fun v H' Z' s => ⟨b, Rep.isB s.top0, ret_b k s⟩⟩
theorem opp_ownIn {C : Addr} {m : List D → Option D} {E : XK} : OpP PZ (rInOwn C (spV 0 m) E id) (dOwnIn C m) n := opp_inOwn id
theorem opp_ownNotIn {C : Addr} {m : List D → Option D} {E : XK} : OpP PZ (rInOwn C (spV 0 m) E (!·)) (dOwnNotIn C m) n := opp_inOwn (!·)
def mLenOwn (C : Addr) (m : List D → Option D) (a : Mr) : Mr := fun ds => (a ds).bind fun o => if o.isC C = true then (m [o]).bind fun r => r.isI.bind fun k => if 0 ≤ k ∧ k ≤ 1000000 then some (.int k) else none else none
theorem VE.lenOwn {C : Addr} {m : List D → Option D} {E : XK} (ha : VP PZ μ ta ma) : VE μ (tCB (rLenOwn C (spV 0 m) E) (tCons ta tNil)) n (mLenOwn C m ma) := fun U Zc ds σ H Z s d e Q kk => by
  obtain ⟨o, e1, e⟩ := bind_some e
  by_cases hi : o.isC C = true
  case neg => rw [if_neg hi] at e; cases e
  rw [if_pos hi] at e
  obtain ⟨r, e2, e⟩ := bind_some e
  obtain ⟨k, e3, e⟩ := bind_some e
  obtain ⟨hk, rfl⟩ := if_some e
  cases isI_some e3
  obtain ⟨j, rfl⟩ := Int.eq_ofNat_of_zero_le hk.1
  refine ha U Zc ds σ H Z s o e1 _ fun v H1 Z1 s1 f1 g1 p1 => ?_
  obtain ⟨a, dx, fs, rfl, h1⟩ := isC_rep (Rep.mono s1.sub p1) hi
  refine ⟨a, dx, fs, rfl, h1, Z1, [o], .int (j : Int), s1.sub, .cons p1 .nil, e2, fun v H3 Z3 r3 => ⟨j, ?_, by omega, ?_⟩⟩
  · have := r3.top0
    cases this
    rfl
  · exact kk _ H3 Z3 (((s1.push r3).pop).pushS (.int _) rfl) (fun _ _ q => r3.exZ _ _ (f1 _ _ q)) fun _ _ q => r3.exU _ _ (g1 _ _ q)
def mReprOwn (C : Addr) (m : List D → Option D) (a : Mr) : Mr := fun ds => (a ds).bind fun o => if o.isC C = true then (m [o]).bind fun r => match r with
  | .str t => some (.str t)
  | _ => none else none
theorem VE.reprOwn {C : Addr} {m : List D → Option D} {E : XK} (ha : VP PZ μ ta ma) : VE μ (tCB (rReprOwn C (spV 0 m) E) (tCons ta tNil)) n (mReprOwn C m ma) := fun U Zc ds σ H Z s d e Q kk => by
  obtain ⟨o, e1, e⟩ := bind_some e
  by_cases hi : o.isC C = true
  case neg => rw [if_neg hi] at e; cases e
  rw [if_pos hi] at e
  obtain ⟨r, e2, e⟩ := bind_some e
  cases r with
  | str t =>
    cases e
    refine ha U Zc ds σ H Z s o e1 _ fun v H1 Z1 s1 f1 g1 p1 => ?_
    obtain ⟨a, dx, fs, rfl, h1⟩ := isC_rep (Rep.mono s1.sub p1) hi
    refine ⟨a, dx, fs, rfl, h1, Z1, [o], .str t, s1.sub, .cons p1 .nil, e2, fun v H3 Z3 r3 => ⟨stx t, ?_, ?_⟩⟩
    · have := r3.top0
      cases this
      rfl
    · exact kk _ H3 Z3 (((s1.push r3).pop).pushS (.str _) rfl) (fun _ _ q => r3.exZ _ _ (f1 _ _ q)) fun _ _ q => r3.exU _ _ (g1 _ _ q)
  | _ => cases e
/-! list(range(..)) -/
theorem rg_reps (Z : Hp) (a b : Int) : Reps Z (rgD a (b - a).toNat) (rgV a b) := by
  unfold rgD rgV
  generalize List.range (b - a).toNat = l
  induction l with
  | nil => exact .nil
  | cons x xs ih => exact .cons (.int _) ih
def okRg (a b : Int) : Bool := decide (-(2 ^ 62) ≤ a ∧ a < 2 ^ 62 ∧ -(2 ^ 62) ≤ b ∧ b < 2 ^ 62 ∧ (b - a).toNat ≤ 2 ^ 24)
theorem okRg_ok {a b : Int} (h : okRg a b = true) : RgOk a b := by
  unfold okRg at h
  have h' := of_decide_eq_true h
  exact h'
def mRgList1 (a : Mr) : Mr := fun ds => (a ds).bind fun x => x.isI.bind fun i => if okRg 0 i = true then some (.lst (rgD 0 (i - 0).toNat)) else none
def mRgList2 (a b : Mr) : Mr := fun ds => (a ds).bind fun x => (b ds).bind fun y => x.isI.bind fun i => y.isI.bind fun j => if okRg i j = true then some (.lst (rgD i (j - i).toNat)) else none
def mRgTuple1 (a : Mr) : Mr := fun ds => (a ds).bind fun x => x.isI.bind fun i => if okRg 0 i = true then some (.tup (rgD 0 (i - 0).toNat)) else none
theorem VE.listRg1 (ha : VP PH μ ta ma) : VE μ (tLstRg (tRg1 ta)) 1 (mRgList1 ma) := fun U Zc ds σ H Z s d e Q k => by
  obtain ⟨x, e1, e⟩ := bind_some e
  obtain ⟨i, e2, e⟩ := bind_some e
  obtain ⟨hk, rfl⟩ := if_some e
  cases isI_some e2
  refine ha U Zc ds σ H Z s _ e1 _ fun v H1 Z1 s1 f1 g1 p1 => ?_
  cases p1
  exact ⟨i, rfl, okRg_ok hk, fun q hq => Ret.lst (Z := Z1) (fun u H3 Z3 r3 => k u H3 Z3 (s1.push r3) (fun _ _ q => r3.exZ _ _ (f1 _ _ q)) fun _ _ q => r3.exU _ _ (g1 _ _ q)) s1.sub hq (rg_reps _ _ _)⟩
theorem VE.listRg2 (ha : VP PH μ ta ma) (hb : VP PH μ tb mb) : VE μ (tLstRg (tRg2 ta tb)) 1 (mRgList2 ma mb) := fun U Zc ds σ H Z s d e Q k => by
  obtain ⟨x, e1, e⟩ := bind_some e
  obtain ⟨y, e3, e⟩ := bind_some e
  obtain ⟨i, e2, e⟩ := bind_some e
  obtain ⟨j, e4, e⟩ := bind_some e
  obtain ⟨hk, rfl⟩ := if_some e
  cases isI_some e2
  cases isI_some e4
  refine ha U Zc ds σ H Z s _ e1 _ fun v H1 Z1 s1 f1 g1 p1 => ?_
  cases p1
  refine hb U Zc ds σ H1 Z1 s1 _ e3 _ fun w H2 Z2 s2 f2 g2 p2 => ?_
  cases p2
  exact ⟨i, j, rfl, rfl, okRg_ok hk, fun q hq => Ret.lst (Z := Z2) (fun u H3 Z3 r3 => k u H3 Z3 (s2.push r3) (fun _ _ q => r3.exZ _ _ (f2 _ _ (f1 _ _ q))) fun _ _ q => r3.exU _ _ (g2 _ _ (g1 _ _ q))) s2.sub hq (rg_reps _ _ _)⟩
theorem VE.tupleRg1 (ha : VP PH μ ta ma) : VE μ (tTupRg (tRg1 ta)) n (mRgTuple1 ma) := fun U Zc ds σ H Z s d e Q k => by
  obtain ⟨x, e1, e⟩ := bind_some e
  obtain ⟨i, e2, e⟩ := bind_some e
  obtain ⟨hk, rfl⟩ := if_some e
  cases isI_some e2
  refine ha U Zc ds σ H Z s _ e1 _ fun v H1 Z1 s1 f1 g1 p1 => ?_
  cases p1
  exact ⟨i, rfl, okRg_ok hk, fun q hq => Ret.tup (Z := Z1) (fun u H3 Z3 r3 => k u H3 Z3 (s1.push r3) (fun _ _ q => r3.exZ _ _ (f1 _ _ q)) fun _ _ q => r3.exU _ _ (g1 _ _ q)) s1.sub hq (rg_reps _ _ _)⟩
end
/-! keywords -/
/-- as they stand; two exchanged -/
def pmI {α : Type} (us ws : List α) : List α := us ++ ws
def pm2 {α : Type} (us ws : List α) : List α := match ws with
  | [a, b] => us ++ [b, a]
  | _ => us ++ ws
structure Pm (gD : List D → List D → List D) (gV : List V → List V → List V) : Prop where
  reps : ∀ {Z : Hp} {us ws : List D} {vs zs : List V}, Reps Z us vs → Reps Z ws zs → Reps Z (gD us ws) (gV vs zs)
theorem pm_I : Pm pmI pmI := ⟨fun h r => h.app r⟩
theorem pm_2 : Pm pm2 pm2 := ⟨fun h r => by
  cases r with
  | nil => exact h.app .nil
  | cons r1 r =>
    cases r with
    | nil => exact h.app (.cons r1 .nil)
    | cons r2 r =>
      cases r with
      | nil => exact h.app (.cons r2 (.cons r1 .nil))
      | cons r3 r => exact h.app (.cons r1 (.cons r2 (.cons r3 r)))⟩
def mMethK (C : Addr) (f : Str) (m : List D → Option D) (gD : List D → List D → List D) (a : Mr) (mr : DS → Option (List D)) : Mr := fun ds => (a ds).bind fun o => if o.isIns C f = true then (mr ds).bind fun xs => m (gD [o] xs) else none
def mMakeK (C : Addr) (m : List D → Option (D × D)) (gD : List D → List D → List D) (mr : DS → Option (List D)) : Mr := fun ds => (mr ds).bind fun xs => match gD [.ins C []] xs with
  | [] => none
  | x :: ys => (m (.ins C [] :: ys)).bind fun r => match r.1 with
    | .non => some r.2
    | _ => none
section
variable {μ : List Md} {ta : TE} {tr : TA} {n k : Nat} {ma : Mr} {mr : DS → Option (List D)} {C : Addr} {f : Str} {E : XK} {gD : List D → List D → List D} {gV : List V → List V → List V}
theorem VE.methK {m : List D → Option D} (pm : Pm gD gV) (ho : VP PZ μ ta ma) (ha : VA PZ μ tr k mr) : VE μ (tMethKw C f k (spV n m) gV E ta tr) n (mMethK C f m gD ma mr) := fun U Zc ds σ H Z s d e Q kk => by
  obtain ⟨o, e1, e⟩ := bind_some e
  by_cases hi : o.isIns C f = true
  case neg => rw [if_neg hi] at e; cases e
  rw [if_pos hi] at e
  obtain ⟨xs, e2, e⟩ := bind_some e
  refine ho U Zc ds σ H Z s o e1 _ fun v H1 Z1 s1 f1 g1 p1 => ?_
  obtain ⟨a, dx, fs, rfl, ha1, hl⟩ := isIns_rep (Rep.mono s1.sub p1) hi
  refine ⟨a, dx, fs, rfl, ha1, hl, ?_⟩
  refine ha.2 U Zc ds σ H1 Z1 s1 xs e2 _ fun vs H2 Z2 s2 f2 g2 p2 => ⟨by rw [p2.length, ha.1 _ _ e2], ?_⟩
  exact ⟨Z2, gD [o] xs, d, s2.sub, pm.reps (.cons (Rep.mono f2 p1) .nil) p2.reps, e, fun u H3 Z3 r3 => kk u H3 Z3 (s2.push r3) (fun _ _ q => r3.exZ _ _ (f2 _ _ (f1 _ _ q))) fun _ _ q => r3.exU _ _ (g2 _ _ (g1 _ _ q))⟩
end
end VS
end
section
set_option maxRecDepth 100000
set_option maxHeartbeats 4000000
/-! further rules: constants of a class, texts with fields, stores into lists of lists, keywords for a class -/
namespace VS
open PySem L2 RX Evl
section
variable {μ : List Md} {ta tb tc te : TE} {n i j : Nat} {ma mb mc : Mr} {io : Option (Addr × Nat)} {rn : Nat}
theorem VP.varP {p : Addr} (hm : μ.getD i .sh = .pot p 1) : VP P1 μ (tVar i) (mVar i) := fun U Zc ds σ H Z s d e Q k => by
  obtain ⟨v, bs, h1, h2⟩ := s.get (mVar_some e)
  rw [hm] at h2
  exact ⟨v, h1, k v H Z s (Ex.rf _) (Ex.rf _) ⟨1, bs, by decide, h2.2⟩⟩
/-! a scalar at any depth -/
def mScal (a : Mr) : Mr := fun ds => (a ds).bind fun d => if d.scal = true then some d else none
theorem VE.scal (ha : VP PH μ ta ma) : VE μ ta n (mScal ma) := fun U Zc ds σ H Z s d e Q k => by
  obtain ⟨x, e1, e⟩ := bind_some e
  obtain ⟨hs, rfl⟩ := if_some e
  exact ha U Zc ds σ H Z s x e1 Q fun v H' Z' s' f g p => k v H' Z' (s'.pushS (Rep.scal p hs) hs) f g
theorem VX.scal {m : DS → Option (D × DS)} (h : VX μ te 0 m) : VX μ te n (fun ds => (m ds).bind fun x => if x.1.scal = true then some x else none) := fun U Zc ds σ H Z s d ds' e Q k => by
  obtain ⟨x, e1, e⟩ := bind_some e
  obtain ⟨hs, rfl⟩ := if_some e
  exact h U Zc ds σ H Z s _ _ e1 Q fun v H' Z' s' f => k v H' Z' (s'.pop.pushS s'.top0 hs) f
/-! C.NAME -/
theorem VE.cval {K : PySem.W.Frag} {C : Addr} {mc' u : Value} {f : Str} {i : Int} (r : ClX.CRead K C mc') (c : ClX.CVal K C mc' f (.int i) u) : VE μ (ClX.tCVal K (tC (.ref C)) f) n (mC (.int i)) := fun U Zc ds σ H Z s d e Q k => by
  cases e
  exact ⟨C, mc', .int i, u, rfl, r, c, k _ H Z (s.pushS (.int i) rfl) (Ex.rf _) (Ex.rf _)⟩
/-! {} -/
theorem VE.dnew : VE μ tDNewK 1 (mC (.dic [])) := fun U Zc ds σ H Z s d e Q k => by
  cases e
  intro p hp
  exact Ret.new (Z := Z) (n := 1) (d := .dic []) (fun u H3 Z3 r3 => k u H3 Z3 (s.push r3) r3.exZ r3.exU) s.sub hp ⟨p, [], [], rfl, upd_same, rfl, .nil, rfl⟩
/-! divmod -/
def dDivmod : D → D → Option D
  | .int i, .int j => if 0 < j ∧ j < 1073741824 then some (.tup [.int (i / j), .int (i % j)]) else none
  | _, _ => none
theorem arp_divmod : ArP PH (fun xs H Q => ∃ i j, xs = [.int i, .int j] ∧ CDiv i j ∧ ∀ p, H p = none → Q (.ref p) (upd H p (.tup [.int (i / j), .int (i % j)]))) (d2 dDivmod) n := fun Z H vs xs d Q e r h k => by
  obtain ⟨x, y, v, w, rfl, rfl, hx, hy, h⟩ := r.d2 h
  cases hx with
  | int i =>
    cases hy with
    | int j =>
      obtain ⟨hc, rfl⟩ := if_some h
      exact ⟨i, j, rfl, hc, fun p hp => k.tup e hp (.cons (.int _) (.cons (.int _) .nil))⟩
    | _ => cases h
  | _ => cases h
/-! x[c], y = e -/
def unpF (i j : Nat) (c : Int) (d : D) (d1 : DS) : Option Fl := match d with
  | .tup [p, q] => (sl i d1).bind fun xs => if 0 ≤ c ∧ c.toNat < xs.length then some (.nx ((d1.set i (some (.lst (xs.set c.toNat p)))).set j (some q))) else none
  | _ => none
def mUnpSt (i j : Nat) (c : Int) (m : DS → Option (D × DS)) : Ms := fun ds => (m ds).bind fun x => unpF i j c x.1 x.2
theorem VSt.unpSt {K : PySem.W.Frag} {c : Int} {m : DS → Option (D × DS)} (h : VX μ te 0 m) (hm : (μ.getD i .sh).dep = 1) (hj : μ[j]? = some .sh) : VSt io rn μ μ (tAsg te (gTup K 2 (gCons (gSub (tVar i) (tC (.int c)) rSetL) (gCons (gName j) gNil)))) (mUnpSt i j c m) := fun U Zc ds σ H Z s fl e E p => by
  obtain ⟨⟨d, d1⟩, e1, e⟩ := bind_some e
  have e' : unpF i j c d d1 = some fl := e
  refine h U Zc ds σ H Z s d d1 e1 _ fun v H' Z' s' f => ?_
  have ht := s'.top0
  cases ht with
  | tup h1 h2 =>
    cases h2 with
    | nil => cases e'
    | cons r1 r2 =>
      cases r2 with
      | nil => cases e'
      | cons r2 r3 =>
        cases r3 with
        | cons _ _ => cases e'
        | nil =>
          obtain ⟨xs, e2, e3⟩ := bind_some e'
          obtain ⟨hc, rfl⟩ := if_some e3
          obtain ⟨a', vs', bs, cs, g1, g2, g3, g4, g5, g6, g7⟩ := (s'.pop.pushS (n := 0) .non rfl).mutL (sl_some e2) hm
          obtain ⟨r, _⟩ := g3.to_reps
          have hvl := r.length
          refine ⟨_, _, rfl, SqT.of (s'.sub _ _ h1), rfl, _, _, rfl, _, g1, a', vs', c, c.toNat, rfl, rfl, g2, ?_, _, _, rfl, rfl, ?_⟩
          · unfold ixN
            rw [if_pos hc.1, if_pos (by omega)]
          · have s2 := g7 _ _ [] (L3.of_reps (r.set r1 c.toNat)) (fun b hb => nomatch hb) List.nodup_nil
            have s3 := (s2.pushZ r2).store (i := j) (List.getElem?_eq_some_iff.mp hj).1
            rw [set_same hj] at s3
            exact p _ _ Z' s3
  | _ => cases e'
/-! clear of what was just told -/
def mClearT (m : DS → Option (D × DS)) : DS → Option (D × DS) := fun ds => (m ds).bind fun x => if x.1.isL = true then some (.non, x.2) else none
theorem Stt.weakU {U U' Zc : Hp} {ds : DS} {σ : St} {H Z : Hp} (s : Stt U' Zc μ ds σ H Z) (e : Ex U U') : Stt U Zc μ ds σ H Z := by
  obtain ⟨ass, h1, h2, h3, h4⟩ := s.own
  refine ⟨fun a o q => s.exU _ _ (e _ _ q), s.exZ, s.sub, fun a ha => s.old a fun z => ?_, s.len, ass, h1, h2, h3, fun i a ha => ⟨?_, (h4 i a ha).2⟩⟩
  · cases q : U a with
    | none => exact ha q
    | some o => rw [e _ _ q] at z; cases z
  · have := (h4 i a ha).1
    cases q : U a with
    | none => rfl
    | some o => rw [e _ _ q] at this; cases this
theorem VX.clearT {K : PySem.W.Frag} {k : Nat} {m : DS → Option (D × DS)} (h : VX μ te (n + 1) m) : VX μ (tBM K "list" rClear te tNil) k (mClearT m) := fun U Zc ds σ H Z s d ds' e Q kk => by
  obtain ⟨⟨x, d1⟩, e1, e⟩ := bind_some e
  obtain ⟨hl, e2⟩ := if_some e
  cases e2
  obtain ⟨xs, rfl⟩ := isL_some hl
  refine h U Zc ds σ H Z s _ _ e1 _ fun v H' Z' s' f => ?_
  obtain ⟨bs, o, nd, hb, s2⟩ := s'.absorb
  obtain ⟨a, vs, cs, rfl, ha, hl3, rfl⟩ := o
  refine ⟨.inl ⟨rfl, vs, SqL.of ha⟩, a, vs, rfl, rfl, ha, ?_⟩
  have s3 := s2.change (p := a) (o := .lst []) (by simp only [List.mem_cons, true_or, if_true]; rw [ha]; intro z; cases z) (hb a List.mem_cons_self).2.1
  have s4 := s3.weakU (U := U) fun b o q => by
    have hn : b ∉ a :: cs := fun z => by have := (hb b z).1; rw [q] at this; cases this
    have hne : b ≠ a := fun z => hn (by rw [z]; exact List.mem_cons_self)
    rw [upd_ne hne]
    simp only [if_neg hn]
    exact q
  exact kk .non _ Z' (s4.pushS .non rfl) f
/-! x[a][b] = e, a list of lists that is owned whole -/
theorem L3.split {P : D → V → List Addr → Prop} : ∀ {ds : List D} {vs : List V} {bs : List Addr} {k : Nat} {d : D}, L3 P ds vs bs → ds[k]? = some d → ∃ v b b1 b2, vs[k]? = some v ∧ P d v b ∧ bs = b1 ++ (b ++ b2) ∧
    ∀ d' v' b' Q, (∀ d v b, (∀ a ∈ b, a ∈ b1 ++ b2) → P d v b → Q d v b) → Q d' v' b' → L3 Q (ds.set k d') (vs.set k v') (b1 ++ (b' ++ b2))
  | _, _, _, k, d, .nil, e => by simp at e
  | _, _, _, 0, d, .cons (b := b) (bs := bs) h r, e => by
    simp at e
    subst e
    exact ⟨_, b, [], bs, rfl, h, rfl, fun d' v' b' Q f q => by
      rw [List.nil_append]
      exact .cons q (r.imp fun d v b hb p => f d v b (by simpa using hb) p)⟩
  | _, _, _, k + 1, d, .cons (b := b0) (bs := bs) h r, e => by
    obtain ⟨v, b, b1, b2, h1, h2, rfl, h4⟩ := L3.split (k := k) (d := d) r (by simpa using e)
    refine ⟨v, b, b0 ++ b1, b2, by simpa using h1, h2, by simp [List.append_assoc], fun d' v' b' Q f q => ?_⟩
    rw [List.append_assoc]
    exact .cons (f _ _ _ (fun a ha => by simp [ha]) h) (h4 d' v' b' Q (fun d v b hb p => f d v b (fun a ha => by have := hb a ha; simp only [List.mem_append] at this ⊢; rcases this with z | z <;> simp [z]) p) q)
def set2F (i : Nat) (y : D) (d1 : DS) (a b : Int) (xs : List D) : Option Fl := match xs[a.toNat]? with
  | some (.lst ys) => if 0 ≤ a ∧ 0 ≤ b ∧ b.toNat < ys.length then some (.nx (d1.set i (some (.lst (xs.set a.toNat (.lst (ys.set b.toNat y))))))) else none
  | _ => none
theorem set2F_some {i : Nat} {y : D} {d1 : DS} {a b : Int} {xs : List D} {fl : Fl} (h : set2F i y d1 a b xs = some fl) : ∃ ys, xs[a.toNat]? = some (.lst ys) ∧ (0 ≤ a ∧ 0 ≤ b ∧ b.toNat < ys.length) ∧ fl = .nx (d1.set i (some (.lst (xs.set a.toNat (.lst (ys.set b.toNat y)))))) := by
  unfold set2F at h
  split at h
  · rename_i ys hx
    obtain ⟨hc, e⟩ := if_some h
    exact ⟨ys, hx, hc, e.symm⟩
  · cases h
def mSet2 (i : Nat) (ma mb : Mr) (me : DS → Option (D × DS)) : Ms := fun ds => (me ds).bind fun y => (ma y.2).bind fun a => (mb y.2).bind fun b => a.isI.bind fun a => b.isI.bind fun b => (sl i y.2).bind fun xs => set2F i y.1 y.2 a b xs
theorem VSt.set2 {K : PySem.W.Frag} {me : DS → Option (D × DS)} (he : VX μ te 0 me) (ha : VP PH μ ta ma) (hb : VP PH μ tb mb) (hm : (μ.getD i .sh).dep = 2) : VSt io rn μ μ (tAsg te (gSub (tOp (rIx K) (tVar i) ta) tb rSetL)) (mSet2 i ma mb me) := fun U Zc ds σ H Z s fl e E p => by
  obtain ⟨⟨y, d1⟩, e1, e⟩ := bind_some e
  obtain ⟨da, e2, e⟩ := bind_some e
  obtain ⟨db, e3, e⟩ := bind_some e
  obtain ⟨a, e4, e⟩ := bind_some e
  obtain ⟨b, e5, e⟩ := bind_some e
  obtain ⟨xs, e6, e7⟩ := bind_some e
  cases isI_some e4
  cases isI_some e5
  obtain ⟨ys, hx, hc, rfl⟩ := set2F_some e7
  refine he U Zc ds σ H Z s y d1 e1 _ fun v H1 Z1 s1 f1 => ?_
  obtain ⟨q0, vs0, h1, h2, h3⟩ := s1.pop.atL (sl_some e6)
  refine ⟨_, h1, ?_⟩
  refine ha U Zc d1 σ H1 Z1 s1.pop _ e2 _ fun wa H2 Z2 s2 f2 g2 p2 => ?_
  cases p2
  obtain ⟨w, bs0, cs, m1, m2, m3, m4, m5, m6⟩ := (s2.pushS (n := 0) .non rfl).mut (sl_some e6)
  rw [hm] at m2
  obtain ⟨q, vs, bs, rfl, ha0, hl, rfl⟩ := m2
  have eq0 : q0 = q := by rw [h1] at m1; cases m1; rfl
  subst eq0
  obtain ⟨vb, cb, b1, b2, w1, w2, w3, w4⟩ := hl.split hx
  obtain ⟨qb, vsb, csb, rfl, hqb, hlb, rfl⟩ := w2
  refine .inl ⟨q0, vs, a, .ref qb, rfl, rfl, SqL.of ha0, by
    unfold atI
    have : ixN vs.length a = some a.toNat := by
      unfold ixN
      have := (List.getElem?_eq_some_iff.mp w1).1
      rw [if_pos hc.1, if_pos (by omega)]
    rw [this]
    exact w1, ?_⟩
  refine hb U Zc d1 σ H2 Z2 s2 _ e3 _ fun wb H3 Z3 s3 f3 g3 p3 => ?_
  cases p3
  obtain ⟨w', bs0', cs', m1', m2', m3', m4', m5', m6'⟩ := (s3.pushS (n := 0) .non rfl).mut (sl_some e6)
  rw [hm] at m2' m6'
  obtain ⟨q', vs', bs', rfl, ha0', hl', rfl⟩ := m2'
  have eq1 : q0 = q' := by rw [h1] at m1'; cases m1'; rfl
  subst eq1
  have evs : vs' = vs := by
    have := g3 _ _ ha0
    rw [this] at ha0'
    cases ha0'
    rfl
  subst evs
  obtain ⟨vb', cb', b1', b2', w1', w2', w3', w4'⟩ := hl'.split hx
  have evb : vb' = .ref qb := by rw [w1] at w1'; cases w1'; rfl
  subst evb
  obtain ⟨qb', vsb', csb', eqb, hqb', hlb', ecb⟩ := w2'
  cases eqb
  obtain ⟨r, er⟩ := hlb'.to_reps
  subst er
  subst ecb
  subst w3'
  have nd := m4'
  have hvl := r.length
  have nc : cs' = [] := m3'.2
  subst nc
  have nqb : qb ≠ q0 := fun z => by
    subst z
    simp only [List.append_nil, List.nodup_cons, List.mem_append] at nd
    exact nd.1 (.inr (.inl (by simp)))
  have nin : ∀ c ∈ b1' ++ b2', c ≠ qb := fun c hc' z => by
    subst z
    simp only [List.append_nil, List.nodup_cons] at nd
    obtain ⟨n1, n2, n3⟩ := List.nodup_append.mp nd.2
    rcases List.mem_append.mp hc' with h | h
    · exact n3 c h c (List.mem_append_left _ (by simp)) rfl
    · obtain ⟨n4, n5, n6⟩ := List.nodup_append.mp n2
      exact n6 c (by simp) c h rfl
  refine ⟨qb, vsb', b, b.toNat, rfl, rfl, hqb', ?_, ?_⟩
  · unfold ixN
    rw [if_pos hc.2.1, if_pos (by omega)]
  · refine p _ _ Z3 (m6' _ (.lst (xs.set a.toNat (.lst (ys.set b.toNat y)))) (q0 :: (b1' ++ ([qb] ++ b2'))) (fun c hc' => upd_ne fun z => hc' (by rw [z]; simp)) ⟨q0, vs', b1' ++ ([qb] ++ b2'), rfl, by rw [upd_ne nqb.symm]; exact ha0', ?_, rfl⟩ (fun c hc' => by simpa using hc') (by simpa using m4') fun c hc' => ?_)
    · have := w4' (.lst (ys.set b.toNat y)) (.ref qb) [qb] (Own Z3 (upd H3 qb (.lst (vsb'.set b.toNat v))) 1) (fun d' v' bb hbb q => Own.mono (Ex.rf _) 1 (fun c hc' o e => by rw [upd_ne (nin c (hbb c hc'))]; exact e) q) ⟨qb, _, [], rfl, upd_same, L3.of_reps (r.set (Rep.mono f3 (Rep.mono f2 s1.top0)) _), rfl⟩
      have hset : vs'.set a.toNat (.ref qb) = vs' := by
        apply List.ext_getElem?
        intro k
        by_cases hk : k = a.toNat
        · subst hk
          rw [List.getElem?_set_self ((List.getElem?_eq_some_iff.mp w1).1), w1]
        · rw [List.getElem?_set_ne (Ne.symm hk)]
      rw [hset] at this
      exact this
    · by_cases ec : c = qb
      · rw [ec, upd_same]; intro z; cases z
      · rw [upd_ne ec]
        have ho : Own Z3 H3 2 (.lst xs) (.ref q0) (q0 :: (b1' ++ ([qb] ++ b2'))) := ⟨q0, vs', _, rfl, ha0', hl', rfl⟩
        exact Own.live 2 ho c (by simpa using hc')
/-! f'..' -/
def VJ (μ : List Md) (ts : List TE) (m : DS → Option (List Tx)) : Prop :=
  ∀ U Zc ds σ H Z, Stt U Zc μ ds σ H Z → ∀ xs, m ds = some xs → ∀ (acc : Str) (Q : Str → Hp → Prop), acc.length + xs.flatten.length ≤ sizeLine → (∀ H' Z', Stt U Zc μ ds σ H' Z' → Ex Z Z' → Ex H H' → Q (acc ++ stx xs.flatten) H') → tJs ts acc σ H Q
def mJn : DS → Option (List Tx) := fun _ => some []
def mJc (a : Mr) (r : DS → Option (List Tx)) : DS → Option (List Tx) := fun ds => (a ds).bind fun x => (r ds).bind fun xs => match x with
  | .str t => some (t :: xs)
  | _ => none
theorem VJ.nil : VJ μ [] mJn := fun U Zc ds σ H Z s xs e acc Q hl k => by
  cases e
  have := k H Z s (Ex.rf _) (Ex.rf _)
  have e : acc ++ stx ([] : List Tx).flatten = acc := by
    rw [← stx_of acc, stx_app]; simp
  rw [e] at this
  exact this
theorem VJ.cons {ts : List TE} {mr : DS → Option (List Tx)} (ha : VP PH μ ta ma) (hr : VJ μ ts mr) : VJ μ (ta :: ts) (mJc ma mr) := fun U Zc ds σ H Z s xs e acc Q hl k => by
  obtain ⟨x, e1, e⟩ := bind_some e
  obtain ⟨ys, e2, e⟩ := bind_some e
  cases x with
  | str t =>
    cases e
    refine ha U Zc ds σ H Z s _ e1 _ fun v H1 Z1 s1 f1 g1 p1 => ?_
    cases p1
    have hl' : acc.length + (t.length + ys.flatten.length) ≤ sizeLine := by simpa using hl
    have hlen : (acc ++ stx t).length = acc.length + t.length := by rw [strLen_append, stx_len]
    refine ⟨stx t, rfl, by rw [hlen]; omega, ?_⟩
    refine hr U Zc ds σ H1 Z1 s1 ys e2 _ Q (by rw [hlen]; omega) fun H2 Z2 s2 f2 g2 => ?_
    have := k H2 Z2 s2 (fun _ _ q => f2 _ _ (f1 _ _ q)) fun _ _ q => g2 _ _ (g1 _ _ q)
    have e : acc ++ stx t ++ stx ys.flatten = acc ++ stx (t :: ys).flatten := by
      rw [← stx_of acc, stx_app, stx_app, stx_app]; simp
    rw [e]
    exact this
  | _ => cases e
def mJoined (m : DS → Option (List Tx)) : Mr := fun ds => (m ds).bind fun xs => if xs.flatten.length ≤ sizeLine then some (.str xs.flatten) else none
theorem VE.joined {ts : List TE} {m : DS → Option (List Tx)} (h : VJ μ ts m) : VE μ (fun σ H Q => tJs ts Str.empty σ H fun out H1 => Q (.str out) H1) n (mJoined m) := fun U Zc ds σ H Z s d e Q k => by
  obtain ⟨xs, e1, e⟩ := bind_some e
  obtain ⟨hl, rfl⟩ := if_some e
  refine h U Zc ds σ H Z s xs e1 _ _ (by show 0 + _ ≤ _; omega) fun H' Z' s' f g => ?_
  have e : Str.empty ++ stx xs.flatten = stx xs.flatten := by
    have : Str.empty = stx [] := rfl
    rw [this, stx_app]; rfl
  rw [e]
  exact k _ H' Z' (s'.pushS (.str _) rfl) f g
/-- {x!r}: a text or data -/
theorem VE.fmtR (h : VP PH μ ta ma) : VE μ (tFmtR ta) n (mUn (fun d => match d with | .str a => dRepr (.str a) | _ => none) ma) := fun U Zc ds σ H Z s d e Q k => by
  obtain ⟨x, e1, e⟩ := bind_some e
  cases x with
  | str a =>
    refine h U Zc ds σ H Z s _ e1 _ fun v H' Z' s' f g p => ?_
    cases p
    obtain ⟨t, e2, rfl⟩ := Option.map_eq_some_iff.mp e
    obtain ⟨p, e3, e4⟩ := bind_some e2
    simp only [D.pd] at e3
    cases e3
    obtain ⟨⟨_, _, _, hl⟩, rfl⟩ := if_some e4
    refine .inl ⟨stx a, rfl, hl, ?_⟩
    have := k (tx (PyData.str (stx a)).shown.cps.toList) H' Z' (s'.pushS (.str _) rfl) f g
    rw [← tx_of] at this
    exact this
  | _ => cases e
theorem VE.fmtRD {K : PySem.W.Frag} (h : VP PH μ ta ma) : VE μ (tFmtRD K ta) n (mUn (fun d => match d with | .lst xs => dRepr (.lst xs) | .tup xs => dRepr (.tup xs) | _ => none) ma) := fun U Zc ds σ H Z s d e Q k => by
  obtain ⟨x, e1, e⟩ := bind_some e
  have go : ∀ y : D, (y.isL = true ∨ ∃ xs, y = .tup xs) → x = y → dRepr y = some d → tFmtRD K ta σ H Q := fun y hy ex er => by
    subst ex
    obtain ⟨t, e2, rfl⟩ := Option.map_eq_some_iff.mp er
    obtain ⟨p, e3, e4⟩ := bind_some e2
    obtain ⟨⟨a1, a2, a3, a4⟩, rfl⟩ := if_some e4
    refine h U Zc ds σ H Z s _ e1 _ fun v H' Z' s' f g pp => ?_
    have hv : ∃ a, v = .ref a := by
      rcases hy with hy | ⟨xs, rfl⟩
      · obtain ⟨xs, rfl⟩ := isL_some hy
        cases pp
        exact ⟨_, rfl⟩
      · cases pp
        exact ⟨_, rfl⟩
    obtain ⟨a, rfl⟩ := hv
    refine ⟨a, p, rfl, pd_dp pp e3, a1, a2, a3, a4, ?_⟩
    have := k (tx p.shown.cps.toList) H' Z' (s'.pushS (.str _) rfl) f g
    rw [← tx_of] at this
    exact this
  cases x with
  | lst xs => exact go (.lst xs) (.inl rfl) rfl e
  | tup xs => exact go (.tup xs) (.inr ⟨xs, rfl⟩) rfl e
  | _ => cases e
end
/-! lent arguments: the result is looked at -/
def mFlat (n : Nat) (m : Mr) : Mr := fun ds => (m ds).bind fun d => if flatN n d = true then some d else none
section
variable {μ : List Md} {ta : TE} {tr : TA} {n k : Nat} {ma : Mr} {mr : DS → Option (List D)} {C : Addr} {f : Str} {E : XK}
theorem VE.callF {m : List D → Option D} (ha : VA PH μ tr k mr) : VE μ (tCall (spV n m) [] E tr) n (mFlat n (mAr m mr)) := fun U Zc ds σ H Z s d e Q kk => by
  obtain ⟨d', e0, e⟩ := bind_some e
  obtain ⟨hf, rfl⟩ := if_some e
  obtain ⟨xs, e1, e⟩ := bind_some e0
  refine ha.2 U Zc ds σ H Z s xs e1 _ fun vs H1 Z1 s1 f1 g1 p1 => ?_
  rw [List.append_nil]
  exact ⟨H1, xs, d', Ex.rf _, p1.reps, e, fun u H3 Z3 r3 => kk u H3 Z1 (s1.push (Stt.flat s1.sub r3 hf)) f1 fun _ _ q => r3.exU _ _ (g1 _ _ q)⟩
theorem VE.methF {m : List D → Option D} (ho : VP PH μ ta ma) (ha : VA PH μ tr k mr) : VE μ (tMeth C f (spV n m) [] E ta tr) n (mFlat n (mMeth C f m ma mr)) := fun U Zc ds σ H Z s d e Q kk => by
  obtain ⟨d', e0, e⟩ := bind_some e
  obtain ⟨hf, rfl⟩ := if_some e
  obtain ⟨o, e1, e⟩ := bind_some e0
  by_cases hi : o.isIns C f = true
  case neg => rw [if_neg hi] at e; cases e
  rw [if_pos hi] at e
  obtain ⟨xs, e2, e⟩ := bind_some e
  refine ho U Zc ds σ H Z s o e1 _ fun v H1 Z1 s1 f1 g1 p1 => ?_
  obtain ⟨a, dx, fs, rfl, ha1, hl⟩ := isIns_rep p1 hi
  refine ⟨a, dx, fs, rfl, ha1, hl, ?_⟩
  refine ha.2 U Zc ds σ H1 Z1 s1 xs e2 _ fun vs H2 Z2 s2 f2 g2 p2 => ?_
  rw [List.append_nil]
  exact ⟨H2, o :: xs, d', Ex.rf _, .cons (Rep.mono g2 p1) p2.reps, e, fun u H3 Z3 r3 => kk u H3 Z2 (s2.push (Stt.flat s2.sub r3 hf)) (fun _ _ q => f2 _ _ (f1 _ _ q)) fun _ _ q => r3.exU _ _ (g2 _ _ (g1 _ _ q))⟩
theorem VE.makeF {m : List D → Option (D × D)} {pn : Nat} (ha : VA PH μ tr k mr) (hpn : 0 < pn := by decide) : VE μ (tMake C (spP pn 0 m) [] E tr) pn (mFlat pn (mMake C m mr)) := fun U Zc ds σ H Z s d e Q kk => by
  obtain ⟨d', e0, e⟩ := bind_some e
  obtain ⟨hf, rfl⟩ := if_some e
  obtain ⟨xs, e1, e⟩ := bind_some e0
  obtain ⟨⟨r, o⟩, e2, e⟩ := bind_some e
  cases r with
  | non =>
    cases e
    refine ha.2 U Zc ds σ H Z s xs e1 _ fun vs H1 Z1 s1 f1 g1 p1 => ?_
    exact made (Ex.rf _) p1.reps e2 (fun u H3 Z3 r3 => kk u H3 Z1 (s1.push (Stt.flat s1.sub r3 hf)) f1 fun _ _ q => r3.exU _ _ (g1 _ _ q)) hpn
  | _ => cases e
end
/-! C(k = v, ..) -/
section
variable {X : Cx} {CX : CXT} {k : Nat} {f C : Addr} {fd : FuncData} {ps ks : List Str} {sp : Sp} {E : XK} {x : Str} {p pos : Pos} {kws : List Keyword} {tk : TA} {g : List Value → List Value → List Value} {gV : List V → List V → List V}
theorem pe_makeK0 (M : Mk X.K C f) (F : FnOk X.prog X.w X.K X.mg X.base CX k f fd ps sp) (hr : Room (k + 1) X.A) (hg : Gl X x) (hm : X.mg x = some (.ref C)) (hb : KBn X.K fd ps 1 ks g gV) (hx : Passes CX X E)
    (hkw : PK X kws tk) (hall : (backToKw pos (keywordEach kws X.env)).all (·.1.isSome) = true := by rfl) (hks : (backToKw pos (keywordEach kws X.env)).filterMap (·.1) = ks := by rfl)
    (hdb : (x == ("__debug__" : Str)) = false := by decide)
    (hpl : ((backTo pos (starEach [] X.env)).any (·.1) || (backToKw pos (keywordEach kws X.env)).any (·.1.isNone)) = false := by rfl) :
    PE X (.Call (.Name x p) [] kws pos) (tMakeN C 0 ks.length sp gV E tNil tk) := by
  refine ⟨fun pins s σ H Q I h => ?_⟩
  refine wpAny_Call_Name_kw (ld_glob I hg hm ?_ hdb)
  refine PySem.W.callWith_KW0 (first := []) (h₀ := X.base) I.ok.mod.kin M.kp hall (thn (hkw.run pos pins s σ H _ I h) fun ws s2 ⟨zs, H2, I2, rz, l1, l2, q2⟩ => ⟨I2.kIn, ?_⟩) hpl
  rw [hks]
  exact run_makeN (n := 0) M F hr hb hx I2 .nil rz l1 l2 q2
end
theorem VE.makeK {μ : List Md} {tr : TA} {k : Nat} {mr : DS → Option (List D)} {C : Addr} {E : XK} {gD : List D → List D → List D} {gV : List V → List V → List V} {m : List D → Option (D × D)} {pn : Nat} (pm : Pm gD gV) (hh : ∀ xs : List D, ∃ ys, gD [.ins C []] xs = .ins C [] :: ys ∧ ∀ (a : Addr) (vs : List V) (Z : Hp), Reps Z xs vs → ∃ ws, gV [.ref a] vs = .ref a :: ws ∧ Reps Z ys ws) (ha : VA PZ μ tr k mr) (hpn : 0 < pn := by decide) :
    VE μ (tMakeN C 0 k (spP pn 0 m) gV E tNil tr) pn (mMakeK C m gD mr) := fun U Zc ds σ H Z s d e Q kk => by
  obtain ⟨xs, e1, e⟩ := bind_some e
  obtain ⟨ys, hy, hv⟩ := hh xs
  rw [hy] at e
  obtain ⟨⟨r, o⟩, e2, e⟩ := bind_some e
  cases r with
  | non =>
    cases e
    refine ha.2 U Zc ds σ H Z s xs e1 _ fun vs H1 Z1 s1 f1 g1 p1 => ⟨rfl, by rw [p1.length, ha.1 _ _ e1], fun x dx hx hdx hne => ?_⟩
    obtain ⟨ws, hw, rw'⟩ := hv x vs Z1 p1.reps
    rw [hw]
    have := made (C := C) (m := m) (E := E) s1.sub rw' e2 (fun u H3 Z3 r3 => kk u H3 Z3 (s1.push r3) (fun _ _ q => r3.exZ _ _ (f1 _ _ q)) fun _ _ q => r3.exU _ _ (g1 _ _ q)) hpn x dx hx hdx hne
    rw [List.append_nil] at this
    exact this
  | _ => cases e
theorem hd_I {C : Addr} (xs : List D) : ∃ ys, pmI [.ins C []] xs = .ins C [] :: ys ∧ ∀ (a : Addr) (vs : List V) (Z : Hp), Reps Z xs vs → ∃ ws, pmI [V.ref a] vs = .ref a :: ws ∧ Reps Z ys ws := ⟨xs, rfl, fun a vs Z r => ⟨vs, rfl, r⟩⟩
theorem hd_2 {C : Addr} (xs : List D) : ∃ ys, pm2 [.ins C []] xs = .ins C [] :: ys ∧ ∀ (a : Addr) (vs : List V) (Z : Hp), Reps Z xs vs → ∃ ws, pm2 [V.ref a] vs = .ref a :: ws ∧ Reps Z ys ws := by
  match xs with
  | [] => exact ⟨[], rfl, fun a vs Z r => by cases r; exact ⟨[], rfl, .nil⟩⟩
  | [x] => exact ⟨[x], rfl, fun a vs Z r => by cases r with | cons r1 r => cases r; exact ⟨_, rfl, .cons r1 .nil⟩⟩
  | [x, y] => exact ⟨[y, x], rfl, fun a vs Z r => by cases r with | cons r1 r => cases r with | cons r2 r => cases r; exact ⟨_, rfl, .cons r2 (.cons r1 .nil)⟩⟩
  | x :: y :: z :: r => exact ⟨x :: y :: z :: r, rfl, fun a vs Z q => by cases q with | cons q1 q => cases q with | cons q2 q => cases q with | cons q3 q => exact ⟨_, rfl, .cons q1 (.cons q2 (.cons q3 q))⟩⟩
/-- how keywords come to parameters -/
theorem kb_I {K : PySem.W.Frag} {x q : Str} {st : Stmt} {f : Addr} {fd : FuncData} {y : Str} {s : Str} (F : Fun K x q st f fd) (h : ∀ (kV doc pm : Value) (an : Option Addr) (cdv ct : Value) (u v : Value), bindArgs (PySem.W.fnOf x q (defArgs st) (defBody st) (defScope st) .none kV doc pm an cdv ct) ⟨[u], [(y, v)]⟩ = pure ([(s, u), (y, v)] : List (Str × Value))) : KBn K fd [s, y] 1 [y] pmI pmI := by
  obtain ⟨oc, od, kV, doc, pm, an, cdv, ct, osl, rfl, lk, hcd⟩ := F.ex
  refine ⟨fun s us ws X l1 l2 => ?_, fun r1 r2 => r1.append r2⟩
  match us, ws, l1, l2 with
  | [u], [v], _, _ => exact .of_eq (h kV doc pm an cdv ct u v)
theorem kb_2 {K : PySem.W.Frag} {x q : Str} {st : Stmt} {f : Addr} {fd : FuncData} {y z : Str} {s : Str} (F : Fun K x q st f fd) (h : ∀ (kV doc pm : Value) (an : Option Addr) (cdv ct : Value) (u v w : Value), bindArgs (PySem.W.fnOf x q (defArgs st) (defBody st) (defScope st) .none kV doc pm an cdv ct) ⟨[u], [(z, v), (y, w)]⟩ = pure ([(s, u), (y, w), (z, v)] : List (Str × Value))) : KBn K fd [s, y, z] 1 [z, y] pm2 pm2 := by
  obtain ⟨oc, od, kV, doc, pm, an, cdv, ct, osl, rfl, lk, hcd⟩ := F.ex
  refine ⟨fun s us ws X l1 l2 => ?_, fun r1 r2 => ?_⟩
  · match us, ws, l1, l2 with
    | [u], [v, w], _, _ => exact .of_eq (h kV doc pm an cdv ct u v w)
  · cases r2 with
    | nil => exact r1.append .nil
    | cons q1 q =>
      cases q with
      | nil => exact r1.append (.cons q1 .nil)
      | cons q2 q =>
        cases q with
        | nil => exact r1.append (.cons q2 (.cons q1 .nil))
        | cons q3 q => exact r1.append (.cons q1 (.cons q2 (.cons q3 q)))
end VS
end
section
set_option maxRecDepth 100000
set_option maxHeartbeats 4000000
/-! zip(text, list) as what is walked -/
namespace RX
open PySem PySem.Spec PyProof.Rows L2
/-- the signs of a text and the items of the list at b as it stands at each turn, in new pairs -/
def Itzl (K : PySem.W.Frag) (a : Tx) (b : Addr) : It :=
  ⟨fun i H => i < a.length ∧ ∃ ys y, SqL K H b ys ∧ ys[i]? = some y, fun i H v H' => ∃ T c y, v = .ref T ∧ H T = none ∧ H' = upd H T (.tup [tx [c], y]) ∧ a[i]? = some c ∧ ∀ ys, SqL K H b ys → ys[i]? = some y, fun i H => ∃ ys, SqL K H b ys ∧ i ≤ a.length ∧ i ≤ ys.length ∧ (i = a.length ∨ i = ys.length)⟩
theorem turn_zipL {P : Program} {w : World} {K : PySem.W.Frag} {elts : List Expr} {kk : Nat} {tpos : Pos} {a : Tx} {b : Addr} {t : Tok} {z TI TO i1 i2 : Addr} (S : ZipSep2 z TI TO i1 i2 [i1] [i2, b]) (hb2 : b ≠ i2) :
    Turn P w K (.Tuple elts kk tpos) (Itzl K a b) [z, TI, TO, i1, i2] z (fun i h => IsZip h z TI TO .none ∧ IsTupOf2 h TI (.ref i1) (.ref i2) ∧ (∃ x y, IsTupOf2 h TO x y) ∧ h.IsStrIter i1 (strIterType (stx a)) (stx a) t i ∧ h.IsListIter i2 b i) where
  mem := by simp
  obj := fun i h st c hc => by
    obtain ⟨hz, hTI, ⟨x, y, hTO⟩, ⟨o1, e1, _, d1⟩, ⟨o2, e2, _, d2⟩⟩ := st
    have e' : c = z ∨ c = TI ∨ c = TO ∨ c = i1 ∨ c = i2 := by simpa using hc
    rcases e' with q | q | q | q | q <;> rw [q]
    · exact ⟨_, hz, fun v q => nomatch q⟩
    · exact ⟨_, hTI, fun v q => nomatch q⟩
    · exact ⟨_, hTO, fun v q => nomatch q⟩
    · exact ⟨o1, e1, fun v q => by rw [d1] at q; cases q⟩
    · exact ⟨o2, e2, fun v q => by rw [d2] at q; cases q⟩
  keep := fun i h h' st k => by
    obtain ⟨hz, hTI, ⟨x, y, hTO⟩, ⟨o1, e1, r1⟩, h2⟩ := st
    exact ⟨k z (by simp) _ hz, k TI (by simp) _ hTI, ⟨x, y, k TO (by simp) _ hTO⟩, ⟨o1, k i1 (by simp) _ e1, r1⟩, h2.at fun o q => k i2 (by simp) o q⟩
  item := by
    intro X hP hw hK hc i pins s σ H E I hf st hg; subst hP hw hK
    obtain ⟨hz, hTI, ⟨x0, y0, hTO⟩, h1, h2⟩ := st
    obtain ⟨hi, ys, y, hqy, hy⟩ := hg
    obtain ⟨its, rv, p, _⟩ := I.list hqy
    obtain ⟨u, hu, ru⟩ := rv.get hy
    have hzl : z < s.heap.objs.size := Heap.lt_size hz
    have hh : X.A.in1.handled = none := by have := I.ok.hd hc; exact this
    have hil : i < its.toArray.size := by
      have := (List.getElem?_eq_some_iff.mp hu).1
      simpa using this
    refine wpAny_pyNext_zipD2_item S (Draws.text hh i1 (stx a) t) (Draws.list hh i2 b hb2 its.toArray) hz hTI hTO h1 ⟨h2, p.isList⟩ (by rw [stx_size]; exact hi) hil fun x1 x2 h' tk y1 y2 z' TO' h1' h2' hT hsz hk => ?_
    obtain ⟨c, u1, hc1, rfl⟩ := y1
    have y2 : its[i]? = some x2 := by simpa using y2
    have ex : x2 = u := Option.some.inj (y2.symm.trans hu)
    subst ex
    refine ⟨_, rfl, wpAny_letOwnedTupleGo_zip (s := { s with heap := h', toks := tk }) z' fun h'' z'' sb => ?_⟩
    have hT2 : h''.get? s.heap.objs.size = some { cls := .type "tuple", data := .seq #[.str ⟨#[c]⟩ u1, x2] } := (sb.2 _ (Nat.ne_of_gt hzl)).trans hT
    have new : ObjOk X.prog X.w (upd H s.heap.objs.size (.tup [tx [c], y])) h'' s.heap.objs.size (.tup [tx [c], y]) := ⟨by show 2 ≤ sizeLine; decide, [.str ⟨#[c]⟩ u1, x2], .cons ⟨_, rfl⟩ (.cons ru .nil), ⟨_, hT2, rfl, _, rfl⟩⟩
    have I1 : Inv X pins σ (upd H s.heap.objs.size (.tup [tx [c], y])) { s with heap := h'', toks := tk } :=
      I.turnedNew (t' := tk) (ch := [z, TI, TO, i1, i2]) (fun e o hb q => (sb.2 e (fun q' => hb (by simp [q']))).trans (hk e o (fun q' => hb (by simp [q'])) (fun q' => hb (by simp [q'])) (fun q' => hb (by simp [q'])) (fun q' => hb (by simp [q'])) q)) hf (Nat.le_refl _) new
    have zi1 : i1 ≠ z := fun e => S.zf1 (by simp [e])
    have zi2 : i2 ≠ z := fun e => S.zf2 (by simp [e])
    refine ⟨.ref s.heap.objs.size, _, I1, rfl, ⟨_, c, y, rfl, I.hok.fresh (Nat.le_refl _), rfl, stx_get hc1, fun l hl => by rw [I.list_inj hl hqy]; exact hy⟩, ⟨z'', ?_, ⟨_, _, (sb.2 _ S.TOz).trans TO'⟩, ?_, ?_⟩, fun e hcm => ?_⟩
    · exact (sb.2 _ S.TIz).trans (hk _ _ S.TIz S.TITO S.TIi1 S.TIi2 hTI)
    · obtain ⟨o, ho, r⟩ := h1'; exact ⟨o, (sb.2 _ zi1).trans ho, r⟩
    · exact h2'.1.at fun o q => (sb.2 _ zi2).trans q
    · have hlt : e < s.heap.objs.size := by
        have e' : e = z ∨ e = TI ∨ e = TO ∨ e = i1 ∨ e = i2 := by simpa using hcm
        obtain ⟨_, e1, _⟩ := h1; obtain ⟨_, e2, _⟩ := h2
        rcases e' with q | q | q | q | q <;> rw [q]
        · exact hzl
        · exact Heap.lt_size hTI
        · exact Heap.lt_size hTO
        · exact Heap.lt_size e1
        · exact Heap.lt_size e2
      rw [upd_ne (Nat.ne_of_lt hlt)]; exact (hf e hcm).1
  done := by
    intro X hP hw hK hc i pins s σ H E I hf st hg; subst hP hw hK
    obtain ⟨hz, hTI, ⟨x0, y0, hTO⟩, h1, h2⟩ := st
    obtain ⟨ys, hqy, g1, g2, g3⟩ := hg
    obtain ⟨its, rv, p, _⟩ := I.list hqy
    have hl : its.toArray.size = ys.length := by have := rv.length; simp; omega
    have hh : X.A.in1.handled = none := by have := I.ok.hd hc; exact this
    refine wpAny_pyNext_zipD2_end S (Draws.text hh i1 (stx a) t) (Draws.list hh i2 b hb2 its.toArray) hz hTI hTO h1 ⟨h2, p.isList⟩ (by rw [stx_size]; exact g1) (by rw [hl]; exact g2) (by rw [stx_size, hl]; exact g3) fun h' tk hk => ⟨rfl, ?_⟩
    exact I.turnedL (t' := tk) (ch := [z, TI, TO, i1, i2]) (fun c o hb q => hk c o (fun q' => hb (by simp [q'])) (fun q' => hb (by simp [q'])) (fun q' => hb (by simp [q'])) (fun q' => hb (by simp [q'])) q) hf
  self := fun A i s Q E st h => wpAny_pyIter_zip st.1 h
def iZipL (K : PySem.W.Frag) (ta : TA) : TI := fun σ H R => ta σ H fun vs H1 => ∃ (a : Tx) (b : Addr) (ys : List V), vs = [tx a, .ref b] ∧ SqL K H1 b ys ∧ R (Itzl K a b) H1
theorem pi_zipL {X : Cx} {e e2 : Expr} {ta : TA} {p pos tpos : Pos} {elts : List Expr} {kk : Nat} (hg : Gl X "zip") (hm : X.mg "zip" = none) (ha : PA X [e, e2] ta)
    (hs : starEach [e, e2] X.env = (false, eval e X.env) :: starEach [e2] X.env := by rfl) (hpl : (backTo pos (starEach [e2] X.env)).any (·.1) = false := by rfl) : PI X (.Tuple elts kk tpos) (.Call (.Name "zip" p) [e, e2] [] pos) (iZipL X.K ta) := by
  refine ⟨fun pins s σ H R I h => Call_ (ld_blt I hg hm PyProof.Rows.boot_zip (PyProof.Rows.callWith_type1 (thn (ha.run pos pins s σ H _ I h) fun us s1 ⟨vs, H1, I1, r1, q1⟩ => ?_) hs hpl))⟩
  obtain ⟨a, b, ys, rfl, hqy, q⟩ := q1
  cases r1 with
  | cons r rr =>
    cases rr with
    | cons r' rr =>
      cases rr
      cases r'
      obtain ⟨t, rfl⟩ := (show ∃ t, _ = Value.str (stx a) t from r)
      obtain ⟨its, rv, p1, _⟩ := I1.list hqy
      have hbl : b < s1.heap.objs.size := p1.lt
      have n0 : ¬ s1.heap.objs.size = b := Nat.ne_of_gt hbl
      have n1 : b ≠ s1.heap.objs.size + 1 := Nat.ne_of_lt (Nat.lt_of_lt_of_le hbl (Nat.le_add_right _ _))
      have n3 : ¬ s1.heap.objs.size + 3 = b := Nat.ne_of_gt (Nat.lt_of_lt_of_le hbl (Nat.le_add_right _ _))
      have n4 : ¬ s1.heap.objs.size + 4 = b := Nat.ne_of_gt (Nat.lt_of_lt_of_le hbl (Nat.le_add_right _ _))
      refine zip_begins2 (begins_text (stx a) t) (begins_list b its.toArray) trivial p1.isList fun h' hz hTI hTO h1 h2 hsz hk => wpAny_pyIter_zip hz ?_
      have I2 : Inv X pins σ H1 { s1 with heap := h' } := I1.kept (t' := s1.toks) hk
      have S : ZipSep2 (s1.heap.objs.size + 4) (s1.heap.objs.size + 2) (s1.heap.objs.size + 3) s1.heap.objs.size (s1.heap.objs.size + 1) [s1.heap.objs.size] [s1.heap.objs.size + 1, b] := by
        constructor <;> simp [n0, n3, n4]
      refine ⟨s1.heap.objs.size + 4, [s1.heap.objs.size + 4, s1.heap.objs.size + 2, s1.heap.objs.size + 3, s1.heap.objs.size, s1.heap.objs.size + 1], _, _, H1, rfl, I2, turn_zipL (a := a) (b := b) (t := t) S n1, ⟨hz, hTI, ⟨_, _, hTO⟩, ⟨_, h1, rfl, rfl⟩, ⟨_, h2, rfl, rfl⟩⟩, fun c hcm => ?_, q⟩
      have e' : c = s1.heap.objs.size + 4 ∨ c = s1.heap.objs.size + 2 ∨ c = s1.heap.objs.size + 3 ∨ c = s1.heap.objs.size ∨ c = s1.heap.objs.size + 1 := by simpa using hcm
      have hle : s1.heap.objs.size ≤ c := by rcases e' with z | z | z | z | z <;> rw [z] <;> first | exact Nat.le_add_right _ _ | exact Nat.le_refl _
      exact I1.fpOk hle (I1.hok.fresh hle)
/-- the walk of it, the list staying as it is -/
theorem walk_zipL {K : PySem.W.Frag} {a : Tx} {b : Addr} {ys : List V} : Walk (Itzl K a b) (min a.length ys.length) (fun H => SqL K H b ys) (fun i H v H' => ∃ T c y, v = .ref T ∧ H T = none ∧ H' = upd H T (.tup [tx [c], y]) ∧ a[i]? = some c ∧ ys[i]? = some y) :=
  ⟨fun i H hi hs => ⟨by omega, ys, ys[i]'(by omega), hs, List.getElem?_eq_getElem (by omega)⟩, fun H hs => ⟨ys, hs, by omega, by omega, by omega⟩, fun i H x H' hi hs y => by
    obtain ⟨T, c, y, h1, h2, h3, h4, h5⟩ := y
    exact ⟨T, c, y, h1, h2, h3, h4, h5 ys hs⟩⟩
end RX
end
section
set_option maxRecDepth 100000
set_option maxHeartbeats 4000000
/-! C.m(..), m a staticmethod -/
namespace RX
open PySem PySem.Spec PyProof.Rows L2
/-- C.m is a staticmethod: its record at p, its def at g -/
structure SMet (K : PySem.W.Frag) (C : Addr) (m : Str) (p g : Addr) : Prop where
  rd : PySem.W.readsIn K C (.type "type") = true
  ga : PySem.W.specialIn K (.ref C) "__getattribute__" = some (some (.builtin "type.__getattribute__"))
  at_ : PySem.W.findCls K (.ref C) (.type "type") m = some (.get (.builtin "staticmethod.__get__") (.ref p) .none (.ref C))
  rc : ∃ rest, PySem.W.recIn K p "staticmethod" = some (.ref g :: rest)
  kp : PySem.W.keepIn K (.ref g) = true
def tSMeth (C : Addr) (sp : Sp) (dvs : List V) (E : XK) (ta : TE) (t : TA) : TE := fun σ H Q => ta σ H fun x H1 => x = .ref C ∧ tCall sp dvs E t σ H1 Q
def tSMethKw (C : Addr) (n : Nat) (sp : Sp) (gV : List V → List V → List V) (E : XK) (ta : TE) (tk : TA) : TE := fun σ H Q => ta σ H fun x H1 => x = .ref C ∧ tk σ H1 fun zs H2 => zs.length = n ∧ sp (gV [] zs) H2 Q E
section
variable {X : Cx} {CX : CXT} {k : Nat} {f C p g : Addr} {fd : FuncData} {ps ks : List Str} {sp : Sp} {dvs : List V} {ds : List Value} {E : XK} {m : Str} {pos apos : Pos} {o e : Expr} {es : List Expr} {kws : List Keyword} {ta : TE} {t tk : TA}
theorem getmethsm_ok {A : Around} {E : Value → Shared → Prop} {pins : List (Addr × Obj)} {σ : L2.St} {H : Hp} {s : Shared} {pl : Sem Bool} {Q : Value × List Value → Shared → Prop} (I : Inv X pins σ H s) (k : SMet X.K C m p g) (h : ∀ s', Inv X pins σ H s' → Q (.ref g, []) s') : wpAny (model X.prog X.w) A (getMethod (.ref C) m pl) Q E s := by
  obtain ⟨rest, hp⟩ := k.rc
  refine PySem.W.method_cls I.kIn k.ga (PySem.W.cls_bind I.kIn k.rd k.at_ ?_)
  refine wpAny_call (PySem.W.sm_get (s := { s with toks := s.toks + 1 }) I.kIn hp (PySem.W.handed_on rfl ?_))
  exact h _ (I.tok _)
theorem pe_smeth {pl : Sem Bool} (he : PE X o ta) (c : SMet X.K C m p f) (F : FnOk X.prog X.w X.K X.mg X.base CX k f fd ps sp) (hr : Room k X.A) (hb : Binds X.K fd ps ds) (hd : Vals dvs ds) (hx : Passes CX X E) (ha : PA X (e :: es) t)
    (hst : starEach (e :: es) X.env = (false, eval e X.env) :: starEach es X.env := by rfl) (hpl : (backTo pos (starEach es X.env)).any (·.1) = false := by rfl)
    (ht : eval (.Call (.Attribute o m apos) (e :: es) [] pos) X.env = (do
      let ov ← eval o X.env
      standAt apos.atName
      let (f, first) ← holding [ov] (getMethod ov m pl)
      callWith pos f first (backTo pos (starEach (e :: es) X.env)) (backToKw pos (keywordEach [] X.env))) := by rfl) :
    PE X (.Call (.Attribute o m apos) (e :: es) [] pos) (tSMeth C sp dvs E ta t) := by
  refine ⟨fun pins s σ H Q I h => ?_⟩
  refine PySem.W.methodCall_KW (pl := pl) (thn (he.run pins s σ H _ I h) fun u s1 ⟨x, H1, I1, rx, ex, q⟩ => ?_) ht
  subst ex
  obtain rfl : u = Value.ref C := rx
  refine getmethsm_ok I1 c fun s2 I2 => ?_
  refine PySem.W.callWith_K (h₀ := X.base) I.ok.mod.kin c.kp (thn (ha.run pos pins s2 σ H1 _ I2 q) fun us s3 ⟨vs, H2, I3, r, q2⟩ => ⟨I3.kIn, ?_⟩) hst hpl
  exact run_fn F hr hb hd hx I3 r q2
theorem pe_smethKw {g : List Value → List Value → List Value} {gV : List V → List V → List V} {pl : Sem Bool} (he : PE X o ta) (c : SMet X.K C m p f) (F : FnOk X.prog X.w X.K X.mg X.base CX k f fd ps sp) (hr : Room k X.A) (hb : KBn X.K fd ps 0 ks g gV) (hx : Passes CX X E) (hkw : PK X kws tk)
    (hall : (backToKw pos (keywordEach kws X.env)).all (·.1.isSome) = true := by rfl) (hks : (backToKw pos (keywordEach kws X.env)).filterMap (·.1) = ks := by rfl)
    (hpl : ((backTo pos (starEach [] X.env)).any (·.1) || (backToKw pos (keywordEach kws X.env)).any (·.1.isNone)) = false := by rfl)
    (ht : eval (.Call (.Attribute o m apos) [] kws pos) X.env = (do
      let ov ← eval o X.env
      standAt apos.atName
      let (f, first) ← holding [ov] (getMethod ov m pl)
      callWith pos f first (backTo pos (starEach [] X.env)) (backToKw pos (keywordEach kws X.env))) := by rfl) :
    PE X (.Call (.Attribute o m apos) [] kws pos) (tSMethKw C ks.length sp gV E ta tk) := by
  refine ⟨fun pins s σ H Q I h => ?_⟩
  refine PySem.W.methodCall_KW (pl := pl) (thn (he.run pins s σ H _ I h) fun u s1 ⟨x, H1, I1, rx, ex, q⟩ => ?_) ht
  subst ex
  obtain rfl : u = Value.ref C := rx
  refine getmethsm_ok I1 c fun s0 I0 => ?_
  refine PySem.W.callWith_KW0 (first := []) (h₀ := X.base) I.ok.mod.kin c.kp hall (thn (hkw.run pos pins s0 σ H1 _ I0 q) ?_) hpl
  rintro ws s2 ⟨zs, H2, I2, rz, l2, q2⟩
  refine ⟨I2.kIn, ?_⟩
  rw [hks]
  have r2 := hb.rel (vs := []) (us := []) .nil rz
  refine wpAny_call (codeAny_mono (F.run X.A X.stack s2 H2 ⟨[], ks.zip ws⟩ (g [] ws) (gV [] zs) Q E hr I2.env0 (hb.to s2 [] ws I2.kIn rfl (rz.length.symm.trans l2)) r2 q2) ?_)
  intro r' s' hq
  cases r' with
  | error e => exact hx pins σ H2 s2 e s' I2 hq
  | ok fl =>
    cases fl with
    | ret u => exact I2.after hq
    | next => exact False.elim hq
    | brk => exact False.elim hq
    | cont => exact False.elim hq
end
end RX
end
section
set_option maxRecDepth 100000
set_option maxHeartbeats 4000000
/-! zip of a text or a list with a list; staticmethods -/
namespace VS
open PySem L2 RX Evl
def zpD (xs ys : List D) : List D := xs.zipWith (fun c d => .tup [c, d]) ys
theorem wk_zipL {K : PySem.W.Frag} {a : Tx} {b : Addr} {vs : List V} {ys : List D} {Z0 : Hp} (h : Z0 b = some (.lst vs)) (r : Reps Z0 ys vs) : Wk (Itzl K a b) (zpD (a.map fun c => .str [c]) ys) Z0 := by
  have w := walk_zipL (K := K) (a := a) (b := b) (ys := vs)
  have hl : (zpD (a.map fun c => D.str [c]) ys).length = min a.length vs.length := by unfold zpD; rw [List.length_zipWith, List.length_map, r.length]
  rw [← hl] at w
  refine ⟨_, _, w, fun Z H f g => SqL.of (g _ _ (f _ _ h)), fun i d Z H v H' hd f g y => ?_⟩
  obtain ⟨T, c1, y, rfl, hT, rfl, h1, h2⟩ := y
  unfold zpD at hd
  rw [List.getElem?_zipWith, List.getElem?_map, h1] at hd
  cases hy : ys[i]? with
  | none => rw [hy] at hd; cases hd
  | some e =>
    rw [hy] at hd
    cases hd
    obtain ⟨v', q1, q2⟩ := r.get hy
    rw [h2] at q1
    cases q1
    exact Stt.pair g hT (.str [c1]) (q2.mono f)
theorem wk_zip {K : PySem.W.Frag} {a b : Addr} {us vs : List V} {xs ys : List D} {Z0 : Hp} (h1 : Z0 a = some (.lst us)) (r1 : Reps Z0 xs us) (h2 : Z0 b = some (.lst vs)) (r2 : Reps Z0 ys vs) : Wk (Itz K a b) (zpD xs ys) Z0 := by
  have hl : (zpD xs ys).length = min us.length vs.length := by unfold zpD; rw [List.length_zipWith, r1.length, r2.length]
  have w : Walk (Itz K a b) (min us.length vs.length) (fun H => SqL K H a us ∧ SqL K H b vs) (fun i H v H' => ∃ T x y, v = .ref T ∧ H T = none ∧ H' = upd H T (.tup [x, y]) ∧ us[i]? = some x ∧ vs[i]? = some y) :=
    ⟨fun i H hi hs => ⟨us, vs, us[i]'(by omega), vs[i]'(by omega), hs.1, hs.2, List.getElem?_eq_getElem (by omega), List.getElem?_eq_getElem (by omega)⟩, fun H hs => ⟨us, vs, hs.1, hs.2, by omega⟩, fun i H x H' hi hs y => by
      obtain ⟨T, x, y, e1, e2, e3, e4, e5⟩ := y
      exact ⟨T, x, y, e1, e2, e3, e4 us hs.1, e5 vs hs.2⟩⟩
  rw [← hl] at w
  refine ⟨_, _, w, fun Z H f g => ⟨SqL.of (g _ _ (f _ _ h1)), SqL.of (g _ _ (f _ _ h2))⟩, fun i d Z H v H' hd f g y => ?_⟩
  obtain ⟨T, x, y, rfl, hT, rfl, q1, q2⟩ := y
  unfold zpD at hd
  rw [List.getElem?_zipWith] at hd
  cases hx : xs[i]? with
  | none => rw [hx] at hd; cases hd
  | some d1 =>
    cases hy : ys[i]? with
    | none => rw [hx, hy] at hd; cases hd
    | some d2 =>
      rw [hx, hy] at hd
      cases hd
      obtain ⟨v1, p1, p2⟩ := r1.get hx
      obtain ⟨v2, p3, p4⟩ := r2.get hy
      rw [q1] at p1
      rw [q2] at p3
      cases p1
      cases p3
      exact Stt.pair g hT (p2.mono f) (p4.mono f)
def iZipU (K : PySem.W.Frag) (ta : TA) : TI := fun σ H R => iZipT ta σ H R ∨ iZipL K ta σ H R ∨ RZ.iZipA K ta σ H R
theorem pi_zipU {X : Cx} {K : PySem.W.Frag} {e e2 : Expr} {ta : TA} {p pos tpos : Pos} {elts : List Expr} {kk : Nat} (hg : Gl X "zip") (hm : X.mg "zip" = none) (ha : PA X [e, e2] ta) (hK : X.K = K)
    (hs : starEach [e, e2] X.env = (false, eval e X.env) :: starEach [e2] X.env := by rfl) (hpl : (backTo pos (starEach [e2] X.env)).any (·.1) = false := by rfl) : PI X (.Tuple elts kk tpos) (.Call (.Name "zip" p) [e, e2] [] pos) (iZipU K ta) := by
  subst hK
  exact PI.or (pi_zipT hg hm ha hs hpl) (PI.or (pi_zipL hg hm ha hs hpl) (RZ.pi_zipA hg hm ha hs hpl))
def zipF (xs : List D) : Option (List D) := match xs with
  | [.str a, .str b] => some (zpT a b)
  | [.str a, .lst ys] => some (zpD (a.map fun c => .str [c]) ys)
  | [.lst xs, .lst ys] => some (zpD xs ys)
  | _ => none
def mZip (m : DS → Option (List D)) : DS → Option (List D) := fun ds => (m ds).bind zipF
theorem VIp.zipU {K : PySem.W.Frag} {μ : List Md} {tr : TA} {mr : DS → Option (List D)} (h : VA PZ μ tr 2 mr) : VIp μ (iZipU K tr) (mZip mr) := fun U Zc ds σ H Z s xs e R kk => by
  obtain ⟨ys, e1, e2⟩ := bind_some e
  match ys, e1, e2 with
  | [.str a, .str b], e1, e2 =>
    cases e2
    refine .inl (h.2 U Zc ds σ H Z s _ e1 _ fun vs H' Z' s' f g p => ?_)
    cases p with
    | cons p1 p2 =>
      cases p2 with
      | cons p2 p3 =>
        cases p3
        cases p1
        cases p2
        exact ⟨a, b, rfl, kk _ H' Z' s' f g wk_zipT⟩
  | [.str a, .lst zs], e1, e2 =>
    cases e2
    refine .inr (.inl (h.2 U Zc ds σ H Z s _ e1 _ fun vs H' Z' s' f g p => ?_))
    cases p with
    | cons p1 p2 =>
      cases p2 with
      | cons p2 p3 =>
        cases p3
        cases p1
        cases p2 with
        | lst h1 h2 => exact ⟨a, _, _, rfl, SqL.of (s'.sub _ _ h1), kk _ H' Z' s' f g (wk_zipL h1 h2)⟩
  | [.lst ws, .lst zs], e1, e2 =>
    cases e2
    refine .inr (.inr (h.2 U Zc ds σ H Z s _ e1 _ fun vs H' Z' s' f g p => ?_))
    cases p with
    | cons p1 p2 =>
      cases p2 with
      | cons p2 p3 =>
        cases p3
        cases p1 with
        | lst g1 g2 =>
          cases p2 with
          | lst h1 h2 => exact ⟨_, _, _, _, rfl, .inl ⟨SqL.of (s'.sub _ _ g1), SqL.of (s'.sub _ _ h1), kk _ H' Z' s' f g (wk_zip g1 g2 h1 h2)⟩⟩
/-! C.m(..), m a staticmethod -/
def mArK (m : List D → Option D) (gD : List D → List D → List D) (mr : DS → Option (List D)) : Mr := fun ds => (mr ds).bind fun xs => m (gD [] xs)
section
variable {μ : List Md} {C : Addr} {E : XK} {tr : TA} {n k : Nat} {m : List D → Option D} {mr : DS → Option (List D)} {gD : List D → List D → List D} {gV : List V → List V → List V}
theorem VE.smeth (ha : VA PZ μ tr k mr) : VE μ (tSMeth C (spV n m) [] E (tC (.ref C)) tr) n (mAr m mr) := fun U Zc ds σ H Z s d e Q kk => ⟨rfl, VE.call ha U Zc ds σ H Z s d e Q kk⟩
theorem VE.smethK (pm : Pm gD gV) (ha : VA PZ μ tr k mr) : VE μ (tSMethKw C k (spV n m) gV E (tC (.ref C)) tr) n (mArK m gD mr) := fun U Zc ds σ H Z s d e Q kk => by
  obtain ⟨xs, e2, e⟩ := bind_some e
  refine ⟨rfl, ha.2 U Zc ds σ H Z s xs e2 _ fun vs H2 Z2 s2 f2 g2 p2 => ⟨by rw [p2.length, ha.1 _ _ e2], ?_⟩⟩
  exact ⟨Z2, gD [] xs, d, s2.sub, pm.reps .nil p2.reps, e, fun u H3 Z3 r3 => kk u H3 Z3 (s2.push r3) (fun _ _ q => r3.exZ _ _ (f2 _ _ q)) fun _ _ q => r3.exU _ _ (g2 _ _ q)⟩
end
/-- how keywords alone come to parameters -/
theorem kb_02 {K : PySem.W.Frag} {x q : Str} {st : Stmt} {f : Addr} {fd : FuncData} {y z : Str} (F : Fun K x q st f fd) (h : ∀ (kV doc pm : Value) (an : Option Addr) (cdv ct : Value) (v w : Value), bindArgs (PySem.W.fnOf x q (defArgs st) (defBody st) (defScope st) .none kV doc pm an cdv ct) ⟨[], [(z, v), (y, w)]⟩ = pure ([(y, w), (z, v)] : List (Str × Value))) : KBn K fd [y, z] 0 [z, y] pm2 pm2 := by
  obtain ⟨oc, od, kV, doc, pm, an, cdv, ct, osl, rfl, lk, hcd⟩ := F.ex
  refine ⟨fun s us ws X l1 l2 => ?_, fun r1 r2 => ?_⟩
  · match us, ws, l1, l2 with
    | [], [v, w], _, _ => exact .of_eq (h kV doc pm an cdv ct v w)
  · cases r2 with
    | nil => exact r1.append .nil
    | cons q1 q =>
      cases q with
      | nil => exact r1.append (.cons q1 .nil)
      | cons q2 q =>
        cases q with
        | nil => exact r1.append (.cons q2 (.cons q1 .nil))
        | cons q3 q => exact r1.append (.cons q1 (.cons q2 (.cons q3 q)))
theorem kb_0I {K : PySem.W.Frag} {x q : Str} {st : Stmt} {f : Addr} {fd : FuncData} {y : Str} (F : Fun K x q st f fd) (h : ∀ (kV doc pm : Value) (an : Option Addr) (cdv ct : Value) (v : Value), bindArgs (PySem.W.fnOf x q (defArgs st) (defBody st) (defScope st) .none kV doc pm an cdv ct) ⟨[], [(y, v)]⟩ = pure ([(y, v)] : List (Str × Value))) : KBn K fd [y] 0 [y] pmI pmI := by
  obtain ⟨oc, od, kV, doc, pm, an, cdv, ct, osl, rfl, lk, hcd⟩ := F.ex
  refine ⟨fun s us ws X l1 l2 => ?_, fun r1 r2 => r1.append r2⟩
  match us, ws, l1, l2 with
  | [], [v], _, _ => exact .of_eq (h kV doc pm an cdv ct v)
/-! x.extend(l), x a list of shared things -/
def mExtend (i : Nat) (me : DS → Option (D × DS)) : DS → Option (D × DS) := fun ds => (sl i ds).bind fun _ => (me ds).bind fun y => match y.1 with
  | .lst ys => (sl i y.2).bind fun xs => if xs.length + ys.length ≤ sizeLine then some (.non, y.2.set i (some (.lst (xs ++ ys)))) else none
  | _ => none
theorem VX.extend {μ : List Md} {K : PySem.W.Frag} {te : TE} {k i : Nat} {me : DS → Option (D × DS)} (he : VX μ te 0 me) (hm : (μ.getD i .sh).dep = 1) : VX μ (tBM K "list" rExtend (tVar i) (tCons te tNil)) k (mExtend i me) := fun U Zc ds σ H Z s d ds' e Q kk => by
  obtain ⟨x0, e0, e⟩ := bind_some e
  obtain ⟨⟨y, d1⟩, e1, e⟩ := bind_some e
  cases y with
  | lst ys =>
    obtain ⟨xs, e2, e⟩ := bind_some e
    obtain ⟨hl, e⟩ := if_some e
    cases e
    obtain ⟨a, vs, h1, h2, h3⟩ := s.atL (sl_some e0)
    refine ⟨.ref a, h1, .inl ⟨rfl, vs, SqL.of h2⟩, ?_⟩
    refine he U Zc ds σ H Z s _ d1 e1 _ fun v H1 Z1 s1 f1 => ?_
    obtain ⟨a', vs', bs, cs, g1, g2, g3, g4, g5, g6, g7⟩ := s1.mutL (sl_some e2) hm
    have ea : a = a' := by rw [h1] at g1; cases g1; rfl
    subst ea
    obtain ⟨g4, rfl⟩ := g4
    obtain ⟨r, _⟩ := g3.to_reps
    cases g4 with
    | lst q1 q2 =>
      refine ⟨a, _, vs', _, rfl, rfl, g2, s1.sub _ _ q1, by rw [r.length, q2.length]; exact hl, ?_⟩
      exact kk .non _ Z1 ((g7 (xs ++ ys) _ [] (L3.of_reps (r.app q2)) (fun b hb => nomatch hb) List.nodup_nil).pushS .non rfl) f1
  | _ => cases e
/-! a, b, c = x, y, z -/
def mPar3 (i j l : Nat) (a b c : DS → Option (D × DS)) : Ms := fun ds => (a ds).bind fun x => (b x.2).bind fun y => (c y.2).map fun z => .nx (((z.2.set i (some x.1)).set j (some y.1)).set l (some z.1))
section
variable {μ : List Md} {ta tb tc : TE} {n1 n2 n3 i j l : Nat} {ma mb mc : DS → Option (D × DS)} {io : Option (Addr × Nat)} {rn : Nat}
theorem VSt.par3 (ha : VX μ ta n1 ma) (hb : VX μ tb n2 mb) (hc : VX μ tc n3 mc) (hi : Nat.blt i μ.length = true := by rfl) (hj : Nat.blt j μ.length = true := by rfl) (hl : Nat.blt l μ.length = true := by rfl) : VSt io rn μ (((μ.set i (.o n1)).set j (.o n2)).set l (.o n3)) (tPar3 i j l (tCons ta (tCons tb (tCons tc tNil)))) (mPar3 i j l ma mb mc) := fun U Zc ds σ H Z s fl e E p => by
  obtain ⟨⟨x, d1⟩, e1, e⟩ := bind_some e
  obtain ⟨⟨y, d2⟩, e2, e⟩ := bind_some e
  obtain ⟨⟨z, d3⟩, e3, e4⟩ := Option.map_eq_some_iff.mp e
  subst e4
  refine ha U Zc ds σ H Z s x d1 e1 _ fun v H1 Z1 s1 f1 => ?_
  obtain ⟨bs, o, nd, hbs, s1'⟩ := s1.absorb
  refine hb _ Zc d1 σ H1 Z1 s1' y d2 e2 _ fun w H2 Z2 s2 f2 => ?_
  obtain ⟨bs2, o2, nd2, hbs2, s2'⟩ := s2.absorb
  refine hc _ Zc d2 σ H2 Z2 s2' z d3 e3 _ fun u H3 Z3 s3 f3 => ⟨v, w, u, rfl, ?_⟩
  have oc : ∀ b ∈ bs, Zc b = none := fun b hb' => by
    cases q : Zc b with
    | none => rfl
    | some u => have := s1.exZ _ _ q; rw [(hbs b hb').2.1] at this; cases this
  have oc2 : ∀ b ∈ bs2, Zc b = none := fun b hb' => by
    cases q : Zc b with
    | none => rfl
    | some u => have := s2.exZ _ _ q; rw [(hbs2 b hb').2.1] at this; cases this
  have t1 := two_results o2 nd2 hbs2 oc2 s3 f3
  have t2 := two_results o nd hbs oc t1 (fun _ _ q => f3 _ _ (f2 _ _ q))
  have hi := (Nat.blt_eq ▸ hi : i < μ.length)
  have hj := (Nat.blt_eq ▸ hj : j < μ.length)
  have hl := (Nat.blt_eq ▸ hl : l < μ.length)
  have h1 := t2.store (i := i + 2) (by simpa using hi)
  have h1 : Stt U Zc (.o n2 :: .o n3 :: μ.set i (.o n1)) (some y :: some z :: d3.set i (some x)) (some w :: some u :: σ.set i (some v)) H3 Z3 := h1
  exact p _ H3 Z3 (by
    have h2 := h1.store (i := j + 1) (by simpa using hj)
    have h2 : Stt U Zc (.o n3 :: (μ.set i (.o n1)).set j (.o n2)) (some z :: (d3.set i (some x)).set j (some y)) (some u :: (σ.set i (some v)).set j (some w)) H3 Z3 := h2
    exact h2.store (i := l) (by simpa using hl))
end
end VS
end
section
set_option maxRecDepth 100000
set_option maxHeartbeats 4000000
/-! dicts whose keys are numbers or texts -/
namespace VS
open PySem L2 RX Evl
theorem ru1 {k : Nat} {A : Around} (h : Room k A) : A.units + 1 < cLine := by
  have := ru h
  omega
def dKey : D → Option Key
  | .int i => some (.inl i)
  | .str a => some (.inr (stx a))
  | _ => none
theorem dKey_rep {H : Hp} {d : D} {v : V} {k : Key} (h : Rep H d v) (e : dKey d = some k) : v = kV k := by
  cases h with
  | int i => cases e; rfl
  | str a => cases e; rfl
  | _ => cases e
def valD (kd : List (Key × D)) (k : Key) : Option D := (kd.find? fun kv => decide (kv.1 = k)).map (·.2)
def putD (kd : List (Key × D)) (k : Key) (v : D) : List (Key × D) :=
  if (kd.any fun kv => decide (kv.1 = k)) = true then kd.map (fun kv => if kv.1 = k then (kv.1, v) else kv) else kd ++ [(k, v)]
theorem val_rep {Z : Hp} (k : Key) : ∀ {kd : List (Key × D)} {kv : List (Key × V)}, kd.map Prod.fst = kv.map Prod.fst → Reps Z (kd.map Prod.snd) (kv.map Prod.snd) → (valD kd k = none ∧ valV kv k = none) ∨ ∃ d v, valD kd k = some d ∧ valV kv k = some v ∧ Rep Z d v
  | [], [], _, _ => .inl ⟨rfl, rfl⟩
  | [], _ :: _, e, _ => by cases e
  | _ :: _, [], e, _ => by cases e
  | (k1, d1) :: kd, (k2, v2) :: kv, e, r => by
    rw [List.map_cons, List.map_cons] at e
    injection e with e1 e2
    have e1 : k1 = k2 := e1
    subst e1
    cases r with
    | cons r1 r2 =>
      unfold valD valV
      rw [List.find?_cons, List.find?_cons]
      by_cases c : k1 = k
      · rw [show decide (k1 = k) = true from decide_eq_true c]
        exact .inr ⟨d1, v2, rfl, rfl, r1⟩
      · rw [show decide (k1 = k) = false from decide_eq_false c]
        exact val_rep k e2 r2
theorem put_rep {Z : Hp} (k : Key) {d : D} {v : V} (h : Rep Z d v) {kd : List (Key × D)} {kv : List (Key × V)} (e : kd.map Prod.fst = kv.map Prod.fst) (r : Reps Z (kd.map Prod.snd) (kv.map Prod.snd)) : (putD kd k d).map Prod.fst = (putK kv k v).map Prod.fst ∧ Reps Z ((putD kd k d).map Prod.snd) ((putK kv k v).map Prod.snd) := by
  have ha : (kd.any fun kv => decide (kv.1 = k)) = kv.any fun kv => decide (kv.1 = k) := by
    have h1 : ∀ {γ : Type} (l : List (Key × γ)), (l.any fun kv => decide (kv.1 = k)) = (l.map Prod.fst).any fun z => decide (z = k) := fun l => by rw [List.any_map]; rfl
    rw [h1, h1, e]
  unfold putD putK
  rw [ha]
  by_cases c : (kv.any fun kv => decide (kv.1 = k)) = true
  · rw [if_pos c, if_pos c]
    clear c ha
    induction kd generalizing kv with
    | nil =>
      cases kv with
      | nil => exact ⟨rfl, .nil⟩
      | cons _ _ => cases e
    | cons p kd ih =>
      cases kv with
      | nil => cases e
      | cons q kv =>
        rw [List.map_cons, List.map_cons] at e
        injection e with e1 e2
        cases r with
        | cons r1 r2 =>
          obtain ⟨i1, i2⟩ := ih e2 r2
          obtain ⟨k1, d1⟩ := p
          obtain ⟨k2, v2⟩ := q
          have e1 : k1 = k2 := e1
          subst e1
          by_cases c : k1 = k
          · simp only [List.map_cons, if_pos c]
            exact ⟨congrArg (k1 :: ·) i1, .cons h i2⟩
          · simp only [List.map_cons, if_neg c]
            exact ⟨congrArg (k1 :: ·) i1, .cons r1 i2⟩
  · rw [if_neg c, if_neg c]
    rw [List.map_append, List.map_append, List.map_append, List.map_append, e]
    exact ⟨rfl, r.app (.cons h .nil)⟩
theorem P1.dic {Z H : Hp} {kd : List (Key × D)} {x : V} (e : Ex Z H) (h : P1 Z H (.dic kd) x) : ∃ p kv, x = .ref p ∧ H p = some (.dK kv) ∧ kd.map Prod.fst = kv.map Prod.fst ∧ Reps Z (kd.map Prod.snd) (kv.map Prod.snd) := by
  obtain ⟨n, bs, hn, q⟩ := h
  match n, hn, q with
  | 0, _, q =>
    obtain ⟨q, _⟩ := q
    cases q with
    | dic h1 h2 h3 => exact ⟨_, _, rfl, e _ _ h1, h2, h3⟩
  | 1, _, q =>
    obtain ⟨a, kv, cs, rfl, h1, h2, h3, _⟩ := q
    exact ⟨a, kv, rfl, h1, h2, h3.to_reps.1⟩
  | n + 2, hn, _ => omega
def dDGet : D → D → Option D
  | .dic kd, y => (dKey y).bind fun k => valD kd k
  | _, _ => none
def rDGet : R2 := fun x y H Q => ∃ a v, x = .ref a ∧ DGet H a y (some v) ∧ Q v H
theorem opp_dget : OpP P1 rDGet dDGet 0 := fun Z H x y dx dy d Q e hx hy h k => by
  cases dx with
  | dic kd =>
    obtain ⟨key, e1, e2⟩ := bind_some h
    obtain ⟨p, kv, rfl, h1, h2, h3⟩ := hx.dic e
    have := dKey_rep (hy.h e) e1
    subst this
    rcases val_rep key h2 h3 with ⟨q, _⟩ | ⟨d', v, q1, q2, q3⟩
    · rw [q] at e2; cases e2
    · rw [q1] at e2
      cases e2
      refine ⟨p, v, rfl, ?_, k.rep e ⟨q3, rfl⟩⟩
      rw [← q2]
      exact DGet.k h1
  | _ => cases h
theorem VE.dget {μ : List Md} {ta tb : TE} {ma mb : Mr} (ha : VP P1 μ ta ma) (hb : VP P1 μ tb mb) : VE μ (tDGet ta tb) 0 (mBin dDGet ma mb) := VE.bin (r := rDGet) mo_1 opp_dget ha hb
def dDIn (y : D) : D → Option D
  | .dic kd => (dKey y).map fun k => .bl (valD kd k).isSome
  | _ => none
def dDNotIn (y : D) : D → Option D
  | .dic kd => (dKey y).map fun k => .bl (!(valD kd k).isSome)
  | _ => none
theorem opp_din : OpP P1 (fun y x H Q => ∃ a o, x = .ref a ∧ DGet H a y o ∧ Q (.bl o.isSome) H) dDIn 0 := fun Z H y x dy dx d Q e hy hx h k => by
  cases dx with
  | dic kd =>
    obtain ⟨key, e1, rfl⟩ := Option.map_eq_some_iff.mp h
    obtain ⟨p, kv, rfl, h1, h2, h3⟩ := hx.dic e
    have := dKey_rep (hy.h e) e1
    subst this
    have hs : (valD kd key).isSome = (valV kv key).isSome := by
      rcases val_rep key h2 h3 with ⟨q1, q2⟩ | ⟨d', v, q1, q2, q3⟩ <;> rw [q1, q2] <;> rfl
    rw [hs] at k
    exact ⟨p, valV kv key, rfl, DGet.k h1, k.scal e (.bl _) rfl⟩
  | _ => cases h
theorem opp_dnotin : OpP P1 (fun y x H Q => ∃ a o, x = .ref a ∧ DGet H a y o ∧ Q (.bl (!o.isSome)) H) dDNotIn 0 := fun Z H y x dy dx d Q e hy hx h k => by
  cases dx with
  | dic kd =>
    obtain ⟨key, e1, rfl⟩ := Option.map_eq_some_iff.mp h
    obtain ⟨p, kv, rfl, h1, h2, h3⟩ := hx.dic e
    have := dKey_rep (hy.h e) e1
    subst this
    have hs : (valD kd key).isSome = (valV kv key).isSome := by
      rcases val_rep key h2 h3 with ⟨q1, q2⟩ | ⟨d', v, q1, q2, q3⟩ <;> rw [q1, q2] <;> rfl
    rw [hs] at k
    exact ⟨p, valV kv key, rfl, DGet.k h1, k.scal e (.bl _) rfl⟩
  | _ => cases h
theorem VE.din {μ : List Md} {ta tb : TE} {ma mb : Mr} (ha : VP P1 μ ta ma) (hb : VP P1 μ tb mb) : VE μ (tDIn ta tb) 0 (mBin dDIn ma mb) := VE.bin mo_1 opp_din ha hb
theorem VE.dnotin {μ : List Md} {ta tb : TE} {ma mb : Mr} (ha : VP P1 μ ta ma) (hb : VP P1 μ tb mb) : VE μ (tDNotIn ta tb) 0 (mBin dDNotIn ma mb) := VE.bin mo_1 opp_dnotin ha hb
/-- the dict in a slot -/
def sd (i : Nat) (ds : DS) : Option (List (Key × D)) := match mVar i ds with
  | some (.dic kd) => some kd
  | _ => none
theorem sd_some {i : Nat} {ds : DS} {kd : List (Key × D)} (h : sd i ds = some kd) : ds[i]? = some (some (.dic kd)) := by
  unfold sd at h
  cases e : mVar i ds with
  | none => rw [e] at h; cases h
  | some d =>
    rw [e] at h
    cases d with
    | dic ys => cases h; exact mVar_some e
    | _ => cases h
section
variable {μ : List Md} {k n i : Nat} {U Zc : Hp} {ds : DS} {σ : St} {H Z : Hp} {dy : D} {y : V}
theorem Stt.mutD {kd : List (Key × D)} (s : Stt U Zc (.o k :: μ) (some dy :: ds) (some y :: σ) H Z) (hd : ds[i]? = some (some (.dic kd))) (hm : (μ.getD i .sh).dep = 1) :
    ∃ a kv cs, σ[i]? = some (some (.ref a)) ∧ H a = some (.dK kv) ∧ kd.map Prod.fst = kv.map Prod.fst ∧ Reps Z (kd.map Prod.snd) (kv.map Prod.snd) ∧ Own Z H k dy y cs ∧ Z a = none ∧
      ∀ kd' kv', kd'.map Prod.fst = kv'.map Prod.fst → Reps Z (kd'.map Prod.snd) (kv'.map Prod.snd) → Stt U Zc μ (ds.set i (some (.dic kd'))) σ (upd H a (.dK kv')) Z := by
  obtain ⟨v, bs0, cs, h1, h2, h3, h4, h5, h6⟩ := s.mut hd
  rw [hm] at h2 h6
  obtain ⟨a, kv, bs, rfl, ha, hf, hl, rfl⟩ := h2
  obtain ⟨r, rfl⟩ := hl.to_reps
  refine ⟨a, kv, cs, h1, ha, hf, r, h3, h5 a (by simp), fun kd' kv' e r' => ?_⟩
  refine h6 _ (.dic kd') [a] (fun b hb => upd_ne fun z => hb (by rw [z]; simp)) ⟨a, kv', [], rfl, upd_same, e, L3.of_reps r', rfl⟩ (fun b hb => ?_) (by simp) fun b hb => ?_
  · rw [List.mem_singleton.mp hb]; simp
  · rw [List.mem_singleton.mp hb, upd_same]
    intro z
    cases z
end
/-- d[k] = e -/
def mPut (i : Nat) (mj : Mr) (me : DS → Option (D × DS)) : Ms := fun ds => (me ds).bind fun y => (mj y.2).bind fun j => (dKey j).bind fun k => (sd i y.2).bind fun kd => if kd.length < sizeLine then some (.nx (y.2.set i (some (.dic (putD kd k y.1))))) else none
theorem VSt.dput {μ : List Md} {te tj : TE} {i : Nat} {me : DS → Option (D × DS)} {io : Option (Addr × Nat)} {rn : Nat} {mj : Mr} (he : VX μ te 0 me) (hj : VP PH μ tj mj) (hm : (μ.getD i .sh).dep = 1) : VSt io rn μ μ (sDPut (tVar i) tj te) (mPut i mj me) := fun U Zc ds σ H Z s fl e E p => by
  obtain ⟨⟨y, d1⟩, e1, e⟩ := bind_some e
  obtain ⟨j, e2, e⟩ := bind_some e
  obtain ⟨key, e3, e⟩ := bind_some e
  obtain ⟨kd, e4, e⟩ := bind_some e
  obtain ⟨hl, e⟩ := if_some e
  cases e
  refine he U Zc ds σ H Z s y d1 e1 _ fun v H1 Z1 s1 f1 => ?_
  obtain ⟨a0, kv0, cs0, h1, _⟩ := (s1.pop.pushS (n := 0) .non rfl).mutD (sd_some e4) hm
  refine ⟨.ref a0, h1, ?_⟩
  refine hj U Zc d1 σ H1 Z1 s1.pop _ e2 _ fun w H2 Z2 s2 f2 g2' p2 => ?_
  have hv := dKey_rep p2 e3
  subst hv
  obtain ⟨a, kv, cs, g1, g2, g3, g4, g5, g6, g7⟩ := (s2.pushS (n := 0) .non rfl).mutD (sd_some e4) hm
  have ea : a0 = a := by rw [h1] at g1; cases g1; rfl
  subst ea
  obtain ⟨q1, q2⟩ := put_rep key (Rep.mono f2 s1.top0) g3 g4
  have hlen : kv.length < sizeLine := by
    have := congrArg List.length g3
    rw [List.length_map, List.length_map] at this
    omega
  exact ⟨a0, _, rfl, DPut.k g2 hlen, p _ _ Z2 (g7 _ _ q1 q2)⟩
/-- a new cell that is kept -/
theorem Stt.lay {U Zc : Hp} {μ : List Md} {ds : DS} {σ : St} {H Z : Hp} {p : Addr} {o : HO} (s : Stt U Zc μ ds σ H Z) (hp : H p = none) : Stt (upd U p o) Zc μ ds σ (upd H p o) Z := by
  have hZ : Z p = none := by
    cases q : Z p with
    | none => rfl
    | some u => rw [s.sub _ _ q] at hp; cases hp
  have hC : Zc p = none := by
    cases q : Zc p with
    | none => rfl
    | some u => rw [s.exZ _ _ q] at hZ; cases hZ
  obtain ⟨ass, h1, h2, h3, h4⟩ := s.own
  have hne : ∀ {a : Addr} {u : HO}, H a = some u → a ≠ p := fun {a u} q z => by subst z; rw [hp] at q; cases q
  refine ⟨fun a u q => ?_, s.exZ, fun a u q => ?_, fun a ha => ?_, s.len, ass, fun i d hd => ?_, h2, h3, fun i a ha => ?_⟩
  · by_cases c : a = p
    · subst c; rw [upd_same] at q ⊢; exact q
    · rw [upd_ne c] at q ⊢; exact s.exU _ _ q
  · have := s.sub _ _ q
    rw [upd_ne (hne this)]
    exact this
  · by_cases c : a = p
    · rw [c, hZ, hC]
    · rw [upd_ne c] at ha; exact s.old a ha
  · obtain ⟨v, q1, q2⟩ := h1 i d hd
    exact ⟨v, q1, OwnM.mono (Ex.rf _) (fun a _ u q => by rw [upd_ne (hne q)]; exact q) q2⟩
  · obtain ⟨q1, q2, q3⟩ := h4 i a ha
    have c : a ≠ p := fun z => by subst z; exact q3 hp
    rw [upd_ne c, upd_ne c]
    exact ⟨q1, q2, q3⟩
/-- {k: v} -/
def mDisp1 (mk mv : Mr) : Mr := fun ds => (mk ds).bind fun x => (dKey x).bind fun k => (mv ds).map fun y => .dic [(k, y)]
theorem VE.disp1 {μ : List Md} {tk tv : TE} {mk mv : Mr} (hk : VP PH μ tk mk) (hv : VP PZ μ tv mv) : VE μ (tDisp [(tk, tv)]) 1 (mDisp1 mk mv) := fun U Zc ds σ H Z s d e Q kk => by
  obtain ⟨x, e1, e⟩ := bind_some e
  obtain ⟨k, e2, e⟩ := bind_some e
  obtain ⟨y, e3, rfl⟩ := Option.map_eq_some_iff.mp e
  intro p hp
  refine hk _ Zc ds σ _ Z (s.lay (o := .dK []) hp) x e1 _ fun v H1 Z1 s1 f1 g1 p1 => ?_
  refine hv _ Zc ds σ H1 Z1 s1 y e3 _ fun w H2 Z2 s2 f2 g2 p2 => ?_
  have hU : U p = none := by
    cases q : U p with
    | none => rfl
    | some u => rw [s.exU _ _ q] at hp; cases hp
  have hC : Zc p = none := by
    cases q : Zc p with
    | none => rfl
    | some u => rw [s.sub _ _ (s.exZ _ _ q)] at hp; cases hp
  have h2 : H2 p = some (.dK []) := s2.exU _ _ upd_same
  refine ⟨h2, [(k, w)], by rw [dKey_rep p1 e2]; rfl, by show 1 ≤ 15; decide, ?_⟩
  have s3 : Stt U Zc (.o 1 :: μ) (some (.dic []) :: ds) (some (.ref p) :: σ) H2 Z2 := by
    refine s2.release (bs := [p]) (fun a u q => ?_) ⟨p, [], [], rfl, h2, rfl, .nil, rfl⟩ (by simp) fun b hb => ?_
    · by_cases c : a = p
      · subst c; rw [hU] at q; cases q
      · rw [upd_ne c]; exact q
    · rw [List.mem_singleton.mp hb]
      refine ⟨(by rw [upd_same]; intro z; cases z), hU, ?_⟩
      rw [s2.old p (by rw [upd_same]; intro z; cases z)]
      exact hC
  obtain ⟨a, kv, cs, g3, g4, g5, g6, g7, g8, g9⟩ := (s3.pushS (n := 0) .non rfl).mutD (i := 0) (kd := []) rfl rfl
  cases g3
  have s4 := g9 [(k, y)] [(k, w)] rfl (.cons p2 .nil)
  refine kk (.ref p) _ Z2 s4 (fun _ _ q => f2 _ _ (f1 _ _ q)) fun a u q => ?_
  have c : a ≠ p := fun z => by subst z; rw [hp] at q; cases q
  rw [upd_ne c]
  exact g2 _ _ (g1 _ _ (by rw [upd_ne c]; exact q))
end VS
end
section
set_option maxRecDepth 100000
set_option maxHeartbeats 4000000
/-! set(list of ints) -/
namespace RX
open PySem PySem.Spec PyProof.Rows L2
section
variable {prog : Program} {w : World} {A : Around} {E : Value → Shared → Prop} {s : Shared}
theorem call_set_listI {l : Addr} {items : Array Value} (ns : List Int) {Q : Value → Shared → Prop} (hh : A.handled = none) (hl : s.heap.IsList l items) (hi : IntsAre items.toList ns) (hb : items.size + 1 < scanBound)
    (h : ∀ (h' : Heap) (tk c : Nat), SetR w h' s.heap.objs.size (fun j => decide (j ∈ ns)) c → c ≤ ns.length → (∀ b o, b < s.heap.objs.size → s.heap.get? b = some o → h'.get? b = some o) → Q (.ref s.heap.objs.size) { s with heap := h', toks := tk }) :
    wpAny (model prog w) A (call (.type "set") [.ref l]) Q E s := by
  have hisz : items.size = ns.length := by have q := IntsAre.length hi; rw [Array.length_toList] at q; exact q
  obtain ⟨c, tl, hmro⟩ := PySem.F.called_set.mro; have hmade := PySem.F.called_set.made
  have hsub := PySem.F.called_set.sub; refine wpAny_call (codeAny_of_tree ?_)
  show wpAny _ _ (callAny (.type "set") _) _ _ _; refine wpAny_pure ⟨Code.quiet_builtin _ (by decide +kernel), codeAny_builtin PySem.F.entry_type_call ?_⟩
  rw [Around.under_plain (weight_type_call_type "set" [.ref l] []) rfl]; have h1 := PySem.F.called_set.notType
  have h2 := PySem.F.called_set.canCreate; have hct := PySem.F.typeCall_set_1 (.ref l)
  repeat (any_goals (first | assumption | wp_step))
  have hS : (s.heap.push { cls := .type "set", dict := none, data := .set #[] 0 (.fresh 0 0 (!w.params.followText "set-order")) }).get? s.heap.objs.size = some { cls := .type "set", dict := none, data := .set #[] 0 (.fresh 0 0 (!w.params.followText "set-order")) } := Heap.get?_push_size _ rfl
  refine codeAny_mono (code_set_new1 (.ref l) (E := E) (Q₁ := fun obj s₁ => obj = .ref s.heap.objs.size ∧ s₁ = { s with heap := s.heap.push { cls := .type "set", dict := none, data := .set #[] 0 (.fresh 0 0 (!w.params.followText "set-order")) } }) ⟨rfl, rfl⟩) fun r s₁ hr => ?_
  cases r with
  | error e => exact hr
  | ok fl =>
    cases fl with
    | ret obj =>
      obtain ⟨rfl, rfl⟩ := hr
      have hT : Shared.TypeIs { s with heap := s.heap.push { cls := .type "set", dict := none, data := .set #[] 0 (.fresh 0 0 (!w.params.followText "set-order")) } } (.ref s.heap.objs.size) "set" := ⟨_, hS, rfl⟩
      have hli := PySem.F.called_set.init.lookup; have hbi := PySem.F.called_set.init.bind (.ref s.heap.objs.size)
      repeat (any_goals (first | assumption | wp_step))
      refine codeAny_mono (codeAny_call_builtin (R := wants (fun r s₂ => r = .none ∧ ∃ h' tk c, s₂ = { s with heap := h', toks := tk } ∧ SetR w h' s.heap.objs.size (fun j => decide (j ∈ ns)) c ∧ c ≤ ns.length ∧ (∀ b o, b < s.heap.objs.size → s.heap.get? b = some o → h'.get? b = some o)) E) PySem.F.called_set.init.plain PySem.F.entry_set_init (PySem.check_set_init_1 hT ?_)) fun r₂ s₂ hr₂ => ?_
      · obtain ⟨ol, hol, hcl, nl, hdl⟩ := hl
        obtain ⟨ocls, odict, odata, oslots⟩ := ol; simp only at hcl hdl
        subst hcl; subst hdl; have hlS : l < s.heap.objs.size := Heap.lt_size hol
        have hol' : (s.heap.push { cls := .type "set", dict := none, data := .set #[] 0 (.fresh 0 0 (!w.params.followText "set-order")) }).get? l = some { cls := .type "list", dict := odict, data := .seq items nl, slots := oslots } := Heap.get?_push_of_some _ hol
        have hsls := PySem.F.sub_list_set; have hslf := PySem.F.sub_list_frozenset
        have hne : (Value.type "list" == Value.type "dict") = false := by decide
        have hl1 : (s.heap.push { cls := .type "set", dict := none, data := .set #[] 0 (.fresh 0 0 (!w.params.followText "set-order")) }).IsList l items := ⟨_, hol', rfl, nl, rfl⟩
        unfold Builtin.«set.__init__» noKeywords Builtin.Frozenset.updateFrom; generalize hPI : pyIter = PI
        wp_walk
        subst hPI
        refine wpAny_pyIter_list hl1 (wpAny_bind (wpAny_runValue ?_)); have hh3 : A.in1.in1.in1.handled = none := by simp [hh]
        have hneI : l ≠ (s.heap.push { cls := .type "set", dict := none, data := .set #[] 0 (.fresh 0 0 (!w.params.followText "set-order")) }).objs.size := by rw [Heap.size_push]; exact Nat.ne_of_lt (Nat.lt_succ_of_lt hlS)
        have hSf : s.heap.objs.size ∉ [(s.heap.push { cls := .type "set", dict := none, data := .set #[] 0 (.fresh 0 0 (!w.params.followText "set-order")) }).objs.size, l] := by
          rw [Heap.size_push]; simp only [List.mem_cons, List.not_mem_nil, or_false, not_or]; exact ⟨Nat.ne_of_lt (Nat.lt_succ_self _), Nat.ne_of_gt hlS⟩
        have hval : ∀ (i : Nat) (v : Value), items[i]? = some v → ∃ k t, ns[i]? = some k ∧ v = .int k t := fun i v hv => by
          have hi' : i < ns.length := by rw [← hisz]; exact (Array.getElem?_eq_some_iff.mp hv).1
          obtain ⟨t, e⟩ := PyProof.Rows.IntsAre.int_at hi i v (by rw [Array.getElem?_toList]; exact hv)
          refine ⟨ns[i], t, List.getElem?_eq_getElem hi', ?_⟩
          rw [e, List.getD_eq_getElem?_getD, List.getElem?_eq_getElem hi'] <;> rfl
        refine set_update_ints ((Walks.list hh3 _ l hneI items).toS) s.heap.objs.size hSf ns hisz (by omega) hval (items.size - 0) 0 _ (by omega) (Nat.zero_le _) ⟨⟨_, Heap.get?_push_size _ rfl, rfl, rfl⟩, (hl1.push _)⟩ ⟨0, Nat.le_refl 0, setR_new_at (Heap.get?_push_of_some _ hS)⟩ ?_
        intro s' c' hm hc' hS'; obtain ⟨h', g', d', tk', os'⟩ := s'
        have eg : g' = s.gens := hm.gens; have ed : d' = s.drawn := hm.drawn; have eo : os' = s.os := hm.os
        subst eg; subst ed; subst eo; show wpAny _ _ _ _ _ _
        refine wpAny_pure ?_; show wpAny _ _ (ret Value.none) _ _ _
        rw [hisz] at hc'; refine wpAny_pure ⟨rfl, h', tk', c', rfl, hS', hc', fun b o hb e => ?_⟩; have hb1 : b ≠ s.heap.objs.size := Nat.ne_of_lt hb
        have hb2 : b ≠ (s.heap.push { cls := .type "set", dict := none, data := .set #[] 0 (.fresh 0 0 (!w.params.followText "set-order")) }).objs.size := by rw [Heap.size_push]; exact Nat.ne_of_lt (Nat.lt_succ_of_lt hb)
        exact hm.heap b o (by simp only [List.mem_cons, List.not_mem_nil, or_false, not_or]; exact ⟨hb1, hb2⟩) (Heap.get?_push_of_some _ (Heap.get?_push_of_some _ e))
      · cases r₂ with
        | error e => exact hr₂
        | ok fl₂ =>
          cases fl₂ with
          | ret r =>
            obtain ⟨rfl, h', tk, c', rfl, hS', hc', hk'⟩ := hr₂; repeat (any_goals (first | assumption | wp_step))
            exact h _ _ _ hS' hc' hk'
          | _ => exact hr₂.elim
    | _ => exact hr.elim
end
end RX
end
section
set_option maxRecDepth 100000
set_option maxHeartbeats 4000000
/-! sorted(set(list of ints)) -/
namespace RX
open PySem PySem.Spec PyProof.Rows L2
def SetIO (w : World) (a : Addr) (S : Int → Bool) (n : Nat) : HO := .ext fun h => SetR w h a S n
section
variable {X : Cx}
theorem setIO_new {w : World} {P : Program} {H : Hp} {h : Heap} {a : Addr} {S : Int → Bool} {n : Nat} (R : SetR w h a S n) : ObjOk P w H h a (SetIO w a S n) := by
  have ⟨o, _, _, _, ho, _⟩ := R
  exact ⟨R, ⟨o, ho⟩, fun h1 h2 p k => SetR.at p k⟩
def rSetI (K : PySem.W.Frag) (w : World) : List V → Hp → VK → Prop := fun xs H Q => ∃ (l : Addr) (ns : List Int), xs = [V.ref l] ∧ SqL K H l (ns.map V.int) ∧ ns.length ≤ 4000 ∧ ∀ p c, H p = none → c ≤ ns.length → Q (.ref p) (upd H p (SetIO w p (fun j => decide (j ∈ ns)) c))
theorem call_setI (hc : X.calm = true) : CallR X (.type "set") (rSetI X.K X.w) := by
  intro pins s σ H xs us Q I r h
  obtain ⟨l, ns, rfl, hs, hl, q⟩ := h
  obtain ⟨u, rfl, ru⟩ := vals1 r
  cases ru
  obtain ⟨its, rv, pl, hz⟩ := I.list hs
  have hlen : its.toArray.size = ns.length := by rw [List.size_toArray, ← rv.length, List.length_map]
  refine call_set_listI ns (I.ok.hd hc) pl.isList (by simpa using RZ.intsAre_vals rv) (by rw [hlen]; unfold scanBound; omega) fun h' tk c hS hc' hk => ?_
  exact ⟨.ref _, upd H s.heap.objs.size (SetIO X.w s.heap.objs.size (fun j => decide (j ∈ ns)) c), I.laid (t' := tk) (fun b u e => hk b u (Heap.lt_size e) e) (Nat.le_refl _) (setIO_new hS), rfl, q _ c (I.hok.fresh (Nat.le_refl _)) hc'⟩
section
variable {P : Program} {w : World} {A : Around} {E : Value → Shared → Prop} {s : Shared} {a : Addr}
theorem sorted_setN {S : Int → Bool} {n : Nat} {Q : Value → Shared → Prop} (R : SetR w s.heap a S n) (hh : A.handled = none) (hn' : n ≤ 4000)
    (hQ : ∀ s' p (out : Array Value) (c : Nat) (ns : List Int), (∀ b o, s.heap.get? b = some o → s'.heap.get? b = some o) → s'.gens = s.gens → s'.os = s.os → s.heap.objs.size ≤ p →
      s'.heap.get? p = some (seqObj "list" out c) → IntsAre out.toList ns → ns.Pairwise (· < ·) → (∀ k, k ∈ ns ↔ S k = true) → ns.length = n → Q (.ref p) s') :
    wpAny (model P w) A (call (.builtin "sorted") [.ref a]) Q E s := by
  obtain ⟨o, es, ep, t, ho, hex, hd, g, nd, hm, hb, hf, hn, hr, hl⟩ := R
  refine Calls.call_function_entry kind_sorted plain_sorted entry_sorted (args_sorted1 _) ?_
  unfold Builtin.«sorted»
  refine wpAny_bind (m := checkCount "sorted" 1 1 _) (wpAny_pure ?_)
  refine wpAny_bind (collect_set (A := A.in1) hh ⟨o, ho, hex.1, hd⟩ hf hb hr hl fun s1 vs k1 hz g1 o1 pm => ?_)
  have hvl : vs.length = n := by rw [pm.length_eq, List.length_map, Array.length_toList]; exact hn
  have hI : IntsAre vs (vs.map Builtin.Re.reRawOf) := ints_of vs fun v hv => by
    obtain ⟨e, he, q⟩ := List.mem_map.mp (pm.mem_iff.mp hv)
    obtain ⟨k, tk, h1, _⟩ := g e he
    exact ⟨k, tk, by rw [← q]; exact h1⟩
  have pk : (vs.map Builtin.Re.reRawOf).Perm (es.toList.map keyOf) := by
    have q := pm.map Builtin.Re.reRawOf
    rw [List.map_map] at q
    exact q
  have hsz : vs.length ≤ sizeLine := by rw [hvl, sizeLine_eq]; omega
  refine wpAny_bind (wpAny_newList ?_ hsz)
  have hoL : (s1.heap.push (seqObj "list" vs.toArray 0)).get? s1.heap.objs.size = some (seqObj "list" vs.toArray 0) := Heap.get?_push_size _ rfl
  refine wpAny_bind (wpAny_holding (wpAny_call_entry slot_list_sort ⟨_, hoL, rfl⟩ entry_list_sort (SrtO.list_sort_ord SrtO.swo_int hoL hsz (fun h2 => SrtO.ints_sortable hI h2) fun out h1 h2 => ⟨_, rfl, ?_⟩) (args_list_sort _)))
  obtain ⟨b1, b2, b3⟩ := SrtO.ints_out hI h1 h2
  obtain ⟨c, hc⟩ := sortedHeap_at (vs := vs) (out := out.toArray) hoL
  have pn : (out.map SrtO.iv).Perm (es.toList.map keyOf) := b2.trans pk
  refine wpAny_pure ⟨_, rfl, hQ _ s1.heap.objs.size out.toArray c (out.map SrtO.iv) (fun b u e => ?_) g1 o1 hz hc b1 (lt_of_le_nodup _ b3 (pn.nodup_iff.mpr nd)) (fun k => by rw [pn.mem_iff, ← hm k]) ?_⟩
  · have q := k1 b u e
    have hlt := Heap.lt_size q
    show (sortedHeap (s1.heap.push (seqObj "list" vs.toArray 0)) s1.heap.objs.size vs out.toArray).get? b = some u
    rw [sortedHeap_old (Nat.ne_of_lt hlt) (by rw [size_push']; exact Nat.lt_succ_of_lt hlt)]
    exact Heap.get?_push_of_some _ q
  · rw [pn.length_eq, List.length_map, Array.length_toList]; exact hn
end
/-- sorted(set of ints) -/
def rSortI (w : World) : List V → Hp → VK → Prop := fun vs H Q => ∃ (a : Addr) (S : Int → Bool) (n : Nat), vs = [V.ref a] ∧ H a = some (SetIO w a S n) ∧ n ≤ 4000 ∧
  ∀ (ns : List Int) (p : Addr), ns.Pairwise (· < ·) → (∀ k, k ∈ ns ↔ S k = true) → H p = none → Q (.ref p) (upd H p (.lst (ns.map V.int)))
theorem cr_sortI (hc : X.calm = true) : CallR X (.builtin "sorted") (rSortI X.w) := by
  intro pins s σ H vs us Q I r h
  obtain ⟨a, S, n, rfl, ha, h64, q⟩ := h
  have R : SetR X.w s.heap a S n := (I.hok a _ ha).1
  rw [Vals.ref1 r]
  refine sorted_setN R (I.ok.hd hc) h64 fun s' p out c ns k g o hp hg hi hs hm hl => ?_
  have hv : Vals (ns.map V.int) out.toList := by
    have go : ∀ {us : List Value} {ns : List Int}, IntsAre us ns → Vals (ns.map V.int) us := fun {us ns} h => by
      induction h with
      | nil => exact .nil
      | cons n t r ih => exact .cons ⟨t, rfl⟩ ih
    exact go hi
  have hlen : (ns.map V.int).length ≤ sizeLine := by
    rw [List.length_map, hl]
    unfold sizeLine
    omega
  have hn : H p = none := I.hok.fresh hp
  have J : Inv X pins σ (upd H p (.lst (ns.map V.int))) { s with heap := s'.heap, gens := s'.gens, drawn := s'.drawn, toks := s'.toks } :=
    I.call (ch := []) (Un.laid k hp hn) (I.hok.laid k hp ⟨hlen, out.toList, c, hv, hg⟩) (by rw [g]; exact I.bare) (fun _ z => nomatch z)
  have e : s' = { s with heap := s'.heap, gens := s'.gens, drawn := s'.drawn, toks := s'.toks } := by
    cases s'; cases s; cases o; rfl
  rw [e]
  exact ⟨.ref p, _, J, rfl, q ns p hs hm hn⟩
end
end RX
end
section
set_option maxRecDepth 100000
set_option maxHeartbeats 4000000
/-! sorted(set(x)), x a list of ints -/
namespace VS
open PySem L2 RX Evl
def insI (x : Int) : List Int → List Int
  | [] => [x]
  | y :: r => if x < y then x :: y :: r else if x = y then y :: r else y :: insI x r
def srtI : List Int → List Int
  | [] => []
  | x :: r => insI x (srtI r)
theorem insI_mem (x k : Int) : ∀ l : List Int, k ∈ insI x l ↔ k = x ∨ k ∈ l
  | [] => by simp [insI]
  | y :: r => by
    unfold insI
    split
    · simp
    · split
      · rename_i h; subst h; simp
      · rw [List.mem_cons, insI_mem x k r, List.mem_cons]
        constructor
        · rintro (h | h | h)
          · exact .inr (.inl h)
          · exact .inl h
          · exact .inr (.inr h)
        · rintro (h | h | h)
          · exact .inr (.inl h)
          · exact .inl h
          · exact .inr (.inr h)
theorem insI_sorted (x : Int) : ∀ l : List Int, l.Pairwise (· < ·) → (insI x l).Pairwise (· < ·)
  | [], _ => by simp [insI]
  | y :: r, h => by
    obtain ⟨h1, h2⟩ := List.pairwise_cons.mp h
    unfold insI
    split
    · rename_i q
      refine List.pairwise_cons.mpr ⟨fun z hz => ?_, h⟩
      rcases List.mem_cons.mp hz with e | e
      · rw [e]; exact q
      · exact Int.lt_trans q (h1 z e)
    · split
      · exact h
      · refine List.pairwise_cons.mpr ⟨fun z hz => ?_, insI_sorted x r h2⟩
        rcases (insI_mem x z r).mp hz with e | e
        · omega
        · exact h1 z e
theorem srtI_mem (k : Int) : ∀ l : List Int, k ∈ srtI l ↔ k ∈ l
  | [] => by simp [srtI]
  | x :: r => by unfold srtI; rw [insI_mem, srtI_mem k r, List.mem_cons]
theorem srtI_sorted : ∀ l : List Int, (srtI l).Pairwise (· < ·)
  | [] => by simp [srtI]
  | x :: r => by unfold srtI; exact insI_sorted x _ (srtI_sorted r)
theorem sorted_uniq : ∀ {a b : List Int}, a.Pairwise (· < ·) → b.Pairwise (· < ·) → (∀ k, k ∈ a ↔ k ∈ b) → a = b
  | [], [], _, _, _ => rfl
  | [], y :: s, _, _, h => by have := (h y).mpr List.mem_cons_self; cases this
  | x :: r, [], _, _, h => by have := (h x).mp List.mem_cons_self; cases this
  | x :: r, y :: s, ha, hb, h => by
    obtain ⟨a1, a2⟩ := List.pairwise_cons.mp ha
    obtain ⟨b1, b2⟩ := List.pairwise_cons.mp hb
    have e : x = y := by
      have p := (h x).mp List.mem_cons_self
      have q := (h y).mpr List.mem_cons_self
      rcases List.mem_cons.mp p with p | p
      · exact p
      · rcases List.mem_cons.mp q with q | q
        · exact q.symm
        · have := a1 _ q; have := b1 _ p; omega
    subst e
    rw [sorted_uniq a2 b2 fun k => ?_]
    constructor
    · intro hk
      rcases List.mem_cons.mp ((h k).mp (List.mem_cons_of_mem _ hk)) with e | e
      · subst e; exact absurd (a1 _ hk) (by omega)
      · exact e
    · intro hk
      rcases List.mem_cons.mp ((h k).mpr (List.mem_cons_of_mem _ hk)) with e | e
      · subst e; exact absurd (b1 _ hk) (by omega)
      · exact e
def intsD : List D → Option (List Int)
  | [] => some []
  | .int i :: r => (intsD r).map fun l => i :: l
  | _ => none
theorem intsD_map (ns : List Int) : intsD (ns.map .int) = some ns := by
  induction ns with
  | nil => rfl
  | cons n r ih => rw [List.map_cons, intsD, ih] <;> rfl
theorem intsD_some : ∀ {xs : List D} {ns : List Int}, intsD xs = some ns → xs = ns.map .int
  | [], ns, h => by cases h; rfl
  | .int i :: r, ns, h => by
    unfold intsD at h
    obtain ⟨l, h1, h2⟩ := Option.map_eq_some_iff.mp h
    subst h2
    rw [List.map_cons, intsD_some h1]
  | .non :: r, ns, h => by simp [intsD] at h
  | .bl _ :: r, ns, h => by simp [intsD] at h
  | .str _ :: r, ns, h => by simp [intsD] at h
  | .lst _ :: r, ns, h => by simp [intsD] at h
  | .tup _ :: r, ns, h => by simp [intsD] at h
  | .dic _ :: r, ns, h => by simp [intsD] at h
  | .ins _ _ :: r, ns, h => by simp [intsD] at h
theorem reps_ints {Z : Hp} : ∀ {ns : List Int} {vs : List V}, Reps Z (ns.map .int) vs → vs = ns.map V.int
  | [], _, .nil => rfl
  | n :: ns, _, .cons h r => by
    cases h
    rw [List.map_cons, reps_ints r]
theorem ints_reps {Z : Hp} : ∀ (ns : List Int), Reps Z (ns.map .int) (ns.map V.int)
  | [] => .nil
  | n :: ns => .cons (.int n) (ints_reps ns)
def dSortSet : D → Option D
  | .lst xs => (intsD xs).bind fun ns => if ns.length ≤ 4000 then some (.lst ((srtI ns).map .int)) else none
  | _ => none
theorem VE.sortSet {K : PySem.W.Frag} {w : World} {μ : List Md} {t : TE} {m : Mr} (h : VP PH μ t m) : VE μ (tCB (rSortI w) (tCons (tCB (rSetI K w) (tCons t tNil)) tNil)) 1 (mUn dSortSet m) := fun U Zc ds σ H Z s d e Q k => by
  obtain ⟨x, e1, e⟩ := bind_some e
  cases x with
  | lst xs =>
    unfold dSortSet at e
    obtain ⟨ns, e2, e3⟩ := bind_some e
    split at e3
    · rename_i hl
      cases e3
      have hx := intsD_some e2
      subst hx
      refine h U Zc ds σ H Z s _ e1 _ fun v H1 Z1 s1 f1 g1 p1 => ?_
      cases p1 with
      | @lst a vs _ h1 h2 =>
        obtain rfl := reps_ints h2
        refine ⟨a, ns, rfl, SqL.of h1, hl, fun p c hp hc => ⟨p, _, c, rfl, upd_same, Nat.le_trans hc hl, fun ns' q hs hm hq => ?_⟩⟩
        have en : ns' = srtI ns := sorted_uniq hs (srtI_sorted ns) fun j => by rw [hm j, srtI_mem]; simp
        subst en
        have hqp : q ≠ p := fun z => by subst z; rw [upd_same] at hq; cases hq
        have hq1 : H1 q = none := by rw [upd_ne hqp] at hq; exact hq
        have E1 : Ex H1 (upd (upd H1 p (SetIO w p (fun j => decide (j ∈ ns)) c)) q (.lst ((srtI ns).map V.int))) := fun a o z => Ex.new hq _ _ (Ex.new hp _ _ z)
        refine k _ _ Z1 (s1.push (Stt.one E1 (Ex.rf _) (fun a o z => E1 _ _ (s1.sub _ _ z)) (fun _ _ => rfl) (bs := [q]) ⟨q, _, [], rfl, upd_same, L3.of_reps (ints_reps _), rfl⟩ (by simp) fun a ha => ?_)) f1 fun a o z => E1 _ _ (g1 _ _ z)
        obtain rfl : a = q := by simpa using ha
        refine ⟨hq1, ?_, by rw [upd_same]; intro z; cases z⟩
        cases qz : Z1 a with
        | none => rfl
        | some u => rw [s1.sub _ _ qz] at hq1; cases hq1
    · cases e3
  | _ => cases e
end VS
end
section
set_option maxRecDepth 100000
set_option maxHeartbeats 4000000
namespace LW
open PySem L2 RX VS Evl
def top (i : Nat) : Stmt := PySem.Challenge.pw_ringdepth_k17_whole_first_texts_and_numb.main.body.getD i (.Pass ⟨0, 0, 0, 0⟩)
/-- the built-in names are not shadowed -/
structure Bn (mg : Str → Option Value) : Prop where
  n_len : mg "len" = none
  n_int : mg "int" = none
  n_str : mg "str" = none
  n_bool : mg "bool" = none
  n_isinstance : mg "isinstance" = none
  n_all : mg "all" = none
  n_any : mg "any" = none
  n_range : mg "range" = none
  n_max : mg "max" = none
  n_min : mg "min" = none
  n_abs : mg "abs" = none
  n_divmod : mg "divmod" = none
  n_repr : mg "repr" = none
  n_list : mg "list" = none
  n_tuple : mg "tuple" = none
  n_zip : mg "zip" = none
  n_enumerate : mg "enumerate" = none
  n_sorted : mg "sorted" = none
  n_set : mg "set" = none
  n_dict : mg "dict" = none
  n_sum : mg "sum" = none
/-- a def of the module; where no repr runs around; a method; a property; __init__; a special method -/
def Df (P : Program) (w : World) (K : PySem.W.Frag) (mg : Str → Option Value) (base : Heap) (k : Nat) (x : Str) (ps : List Str) (sp : Sp) : Prop :=
  ∃ f fd, FnOk P w K mg base CX0 k f fd ps sp ∧ mg x = some (.ref f) ∧ PySem.W.keepIn K (.ref f) = true ∧ Binds K fd ps []
def Dg (P : Program) (w : World) (K : PySem.W.Frag) (mg : Str → Option Value) (base : Heap) (k : Nat) (x : Str) (ps : List Str) (sp : Sp) : Prop :=
  ∃ f fd, GOk P w K mg base k f fd ps sp ∧ mg x = some (.ref f) ∧ PySem.W.keepIn K (.ref f) = true ∧ Binds K fd ps []
def Dm (P : Program) (w : World) (K : PySem.W.Frag) (mg : Str → Option Value) (base : Heap) (C : Addr) (k : Nat) (x : Str) (ps : List Str) (sp : Sp) : Prop :=
  ∃ f fd, FnOk P w K mg base CX0 k f fd ps sp ∧ Meth K C x f ∧ Binds K fd ps []
def Dp_ (P : Program) (w : World) (K : PySem.W.Frag) (mg : Str → Option Value) (base : Heap) (C : Addr) (k : Nat) (x : Str) (sp : Sp) : Prop :=
  ∃ p f fd, PropOf K C x p f ∧ FnOk P w K mg base CX0 k f fd ["self"] sp ∧ Binds K fd ["self"] []
def Di (P : Program) (w : World) (K : PySem.W.Frag) (mg : Str → Option Value) (base : Heap) (C : Addr) (k : Nat) (ps : List Str) (sp : Sp) : Prop :=
  ∃ f fd, Mk K C f ∧ FnOk P w K mg base CX0 k f fd ps sp ∧ Binds K fd ps []
def Do (P : Program) (w : World) (K : PySem.W.Frag) (mg : Str → Option Value) (base : Heap) (C : Addr) (k : Nat) (x : Str) (ps : List Str) (sp : Sp) : Prop :=
  ∃ f fd, FnOk P w K mg base CX0 k f fd ps sp ∧ PySem.W.findIn K (.ref C) x = some (some (.ref f)) ∧ PySem.W.isFn K (.ref f) = true ∧ Binds K fd ps []
def Dog (P : Program) (w : World) (K : PySem.W.Frag) (mg : Str → Option Value) (base : Heap) (C : Addr) (k : Nat) (x : Str) (ps : List Str) (sp : Sp) : Prop :=
  ∃ f fd, GOk P w K mg base k f fd ps sp ∧ PySem.W.findIn K (.ref C) x = some (some (.ref f)) ∧ PySem.W.isFn K (.ref f) = true ∧ Binds K fd ps []
def Dmk (P : Program) (w : World) (K : PySem.W.Frag) (mg : Str → Option Value) (base : Heap) (C : Addr) (k : Nat) (x : Str) (ps ks : List Str) (g : {α : Type} → List α → List α → List α) (sp : Sp) : Prop :=
  ∃ f fd, FnOk P w K mg base CX0 k f fd ps sp ∧ Meth K C x f ∧ KBn K fd ps 1 ks g g
def Dik (P : Program) (w : World) (K : PySem.W.Frag) (mg : Str → Option Value) (base : Heap) (C : Addr) (k : Nat) (ps ks : List Str) (g : {α : Type} → List α → List α → List α) (sp : Sp) : Prop :=
  ∃ f fd, Mk K C f ∧ FnOk P w K mg base CX0 k f fd ps sp ∧ KBn K fd ps 1 ks g g
/-- a staticmethod -/
def Ds (P : Program) (w : World) (K : PySem.W.Frag) (mg : Str → Option Value) (base : Heap) (C : Addr) (k : Nat) (c x : Str) (ps : List Str) (sp : Sp) : Prop :=
  ∃ p f fd, mg c = some (.ref C) ∧ SMet K C x p f ∧ FnOk P w K mg base CX0 k f fd ps sp ∧ Binds K fd ps []
def Dsk (P : Program) (w : World) (K : PySem.W.Frag) (mg : Str → Option Value) (base : Heap) (C : Addr) (k : Nat) (c x : Str) (ps ks : List Str) (g : {α : Type} → List α → List α → List α) (sp : Sp) : Prop :=
  ∃ p f fd, mg c = some (.ref C) ∧ SMet K C x p f ∧ FnOk P w K mg base CX0 k f fd ps sp ∧ KBn K fd ps 0 ks g g
/-- a class whose instances' attributes are plain -/
structure TC_Machine (K : PySem.W.Frag) (C : Addr) : Prop where
  cl : Cls K C
  n_own_letters : NoAttr K C "own_letters"
  n_own_rows : NoAttr K C "own_rows"
  sNe : PySem.W.findIn K (.ref C) "__ne__" = some (some (.builtin "object.__ne__"))
  sOb : PySem.W.subIn K (.ref C) (.type "object") = some true
  nf : NF K C
end LW
end
section
set_option maxRecDepth 100000
set_option maxHeartbeats 4000000
namespace LW
open PySem L2 RX VS Evl
def mb_is_integer (cM : Addr) : Ms :=
  (mRet (lft (mAnd (mUn (isi [] "int") (mVar 0)) (mNot (mUn (isi [] "bool") (mVar 0))))))
def m_is_integer (cM : Addr) : List D → Option D := fnM 1 1 (mb_is_integer cM)
def mb_is_count (cM : Addr) : Ms :=
  (mRet (lft (mAnd (mAr (m_is_integer cM) (mCons (mVar 0) mNil)) (mBin dGe (mVar 0) (mC (.int 0))))))
def m_is_count (cM : Addr) : List D → Option D := fnM 1 1 (mb_is_count cM)
def mb_is_list (cM : Addr) : Ms :=
  (mRet (lft (mUn (isi2 "list" "tuple") (mVar 0))))
def m_is_list (cM : Addr) : List D → Option D := fnM 1 1 (mb_is_list cM)
def mb_is_text (cM : Addr) : Ms :=
  (mRet (lft (mAnd (mUn (isi [] "str") (mVar 0)) (mAr (d1 dAll) (mCons (mLc (mItems (mVar 0)) (gN 1) (fun _ => some true) (mBin dIn (mVar 1) (mC (.str [97, 98, 99, 100, 101, 102, 103, 104, 105, 106, 107, 108, 109, 110, 111, 112, 113, 114, 115, 116, 117, 118, 119, 120, 121, 122]))) [1]) mNil)))))
def m_is_text (cM : Addr) : List D → Option D := fnM 2 1 (mb_is_text cM)
def mb_are_letters (cM : Addr) : Ms :=
  (mSeq (mIf (liftT (mOrT (mNotT (mT (mAr (m_is_text cM) (mCons (mVar 0) mNil)))) (mNotT (mT (mChain dLe dLe (mC (.int 1)) (mAr dLen (mCons (mVar 0) mNil)) (mC (.int 3))))))) (mRet (lft (mC (.bl false)))) mNext)
    (mRet (lft (mAr (d1 dAll) (mCons (mLc (mZipT (mCons (mVar 0) (mCons (mSl (mVar 0) (mYes (mC (.int 1))) mNo) mNil))) (gT 2 (gsC (gN 1) (gsC (gN 2) gsN))) (fun _ => some true) (mBin dLt (mVar 1) (mVar 2)) [1, 2]) mNil)))))
def m_are_letters (cM : Addr) : List D → Option D := fnM 3 1 (mb_are_letters cM)
def mb_is_row (cM : Addr) : Ms :=
  (mSeq (mIf (liftT (mOrT (mNotT (mT (mAr (m_is_list cM) (mCons (mVar 0) mNil)))) (mT (mBin dNe (mAr dLen (mCons (mVar 0) mNil)) (mVar 1))))) (mRet (lft (mC (.bl false)))) mNext)
    (mRet (lft (mAr (d1 dAll) (mCons (mLc (mItems (mVar 0)) (gN 3) (fun _ => some true) (mAnd (mAr (m_is_integer cM) (mCons (mVar 3) mNil)) (mChain dLe dLt (mC (.int 0)) (mVar 3) (mVar 2))) [3]) mNil)))))
def m_is_row (cM : Addr) : List D → Option D := fnM 4 3 (mb_is_row cM)
def mb_want_rows (cM : Addr) : Ms :=
  (mSeq (mIf (liftT (mNotT (mT (mAr (m_are_letters cM) (mCons (mVar 0) mNil))))) mNever mNext)
    (mSeq (mIf (liftT (mOrT (mNotT (mT (mAr (m_is_list cM) (mCons (mVar 1) mNil)))) (mT (mBin dEq (mAr dLen (mCons (mVar 1) mNil)) (mC (.int 0)))))) mNever mNext)
    (mSeq (mFor (liftA (mEnum (mCons (mVar 1) mNil))) (gT 2 (gsC (gN 2) (gsC (gN 3) gsN))) (mIf (liftT (mNotT (mT (mAr (m_is_row cM) (mCons (mVar 3) (mCons (mAr dLen (mCons (mVar 0) mNil)) (mCons (mAr dLen (mCons (mVar 1) mNil)) mNil))))))) mNever mNext))
    (mIf (liftT (mT (mBin dGt (mAr dLen (mCons (mVar 1) mNil)) (mC (.int 120))))) mNever mNext))))
def m_want_rows (cM : Addr) : List D → Option D := fnM 4 2 (mb_want_rows cM)
def mb_met_from (cM : Addr) : Ms :=
  (mSeq (mSet 2 (lft (mLst (mCons (mVar 1) mNil))))
    (mSeq (mSet 3 (lft (mC (.int 0))))
    (mSeq (mWhile (liftT (mT (mBin dLt (mVar 3) (mAr dLen (mCons (mVar 2) mNil))))) (mSeq (mFor (liftA (mItems (mBin dIx (mVar 0) (mBin dIx (mVar 2) (mVar 3))))) (gN 4) (mIf (liftT (mT (mBin dNotIn (mVar 4) (mVar 2)))) (mDrop (mAppend 2 (lft (mVar 4)))) mNext))
    (mSet 3 (lft (mBin dAdd (mVar 3) (mC (.int 1)))))))
    (mRet (lft (mVar 2))))))
def m_met_from (cM : Addr) : List D → Option D := fnM 5 2 (mb_met_from cM)
def mb_rows_from (cM : Addr) : Ms :=
  (mSeq (mSet 2 (lft (mAr (m_met_from cM) (mCons (mVar 0) (mCons (mVar 1) mNil)))))
    (mRet (lft (mLc (mItems (mVar 2)) (gN 3) (fun _ => some true) (mLc (mItems (mBin dIx (mVar 0) (mVar 3))) (gN 4) (fun _ => some true) (mMt dIndexL (mVar 2) (mCons (mVar 4) mNil)) [4]) [3]))))
def m_rows_from (cM : Addr) : List D → Option D := fnM 5 2 (mb_rows_from cM)
def mb_Machine___init__ (cM : Addr) : Ms :=
  (mSeq (mDrop (lft (mAr (m_want_rows cM) (mCons (mVar 1) (mCons (mVar 2) mNil)))))
    (mSeq (mSet 3 (lft (mAr (m_met_from cM) (mCons (mVar 2) (mCons (mC (.int 0)) mNil)))))
    (mSeq (mFor (liftA (mRange (mCons (mAr dLen (mCons (mVar 2) mNil)) mNil))) (gN 4) (mIf (liftT (mT (mBin dNotIn (mVar 4) (mVar 3)))) mNever mNext))
    (mSeq (mSetF cM 0 "own_letters" (lft (mScal (mVar 1))))
    (mSetF cM 0 "own_rows" (lft (mLc (mItems (mVar 2)) (gN 5) (fun _ => some true) (mAr (d1 dList) (mCons (mVar 5) mNil)) [5])))))))
def m_Machine___init__ (cM : Addr) : List D → Option (D × D) := VS.fnP 6 3 (mb_Machine___init__ cM)
def mb_Machine_come_to (cM : Addr) : Ms :=
  (mSeq (mDrop (lft (mAr (m_want_rows cM) (mCons (mVar 0) (mCons (mVar 1) mNil)))))
    (mRet (lft (mMake cM (m_Machine___init__ cM) (mCons (mVar 0) (mCons (mAr (m_rows_from cM) (mCons (mVar 1) (mCons (mC (.int 0)) mNil))) mNil))))))
def m_Machine_come_to (cM : Addr) : List D → Option D := fnM 2 2 (mb_Machine_come_to cM)
def mb_Machine_letters (cM : Addr) : Ms :=
  (mRet (lft (mFld cM "own_letters" (mVar 0))))
def m_Machine_letters (cM : Addr) : List D → Option D := fnM 1 1 (mb_Machine_letters cM)
def mb_Machine_rows (cM : Addr) : Ms :=
  (mRet (lft (mLc (mItems (mFld cM "own_rows" (mVar 0))) (gN 1) (fun _ => some true) (mAr (d1 dList) (mCons (mVar 1) mNil)) [1])))
def m_Machine_rows (cM : Addr) : List D → Option D := fnM 2 1 (mb_Machine_rows cM)
def mb_Machine___len__ (cM : Addr) : Ms :=
  (mRet (lft (mAr dLen (mCons (mFld cM "own_rows" (mVar 0)) mNil))))
def m_Machine___len__ (cM : Addr) : List D → Option D := fnM 1 1 (mb_Machine___len__ cM)
def mb_is_place_of (cM : Addr) : Ms :=
  (mRet (lft (mAnd (mAr (m_is_count cM) (mCons (mVar 1) mNil)) (mBin dLt (mVar 1) (mLenOwn cM (m_Machine___len__ cM) (mVar 0))))))
def m_is_place_of (cM : Addr) : List D → Option D := fnM 2 2 (mb_is_place_of cM)
def mb_want_place (cM : Addr) : Ms :=
  (mIf (liftT (mNotT (mT (mAr (m_is_place_of cM) (mCons (mVar 0) (mCons (mVar 1) mNil)))))) mNever mNext)
def m_want_place (cM : Addr) : List D → Option D := fnM 2 2 (mb_want_place cM)
def mb_want_letter (cM : Addr) : Ms :=
  (mIf (liftT (mOrT (mNotT (mT (mUn (isi [] "str") (mVar 1)))) (mOrT (mT (mBin dNe (mAr dLen (mCons (mVar 1) mNil)) (mC (.int 1)))) (mT (mBin dNotIn (mVar 1) (mProp cM (m_Machine_letters cM) (mVar 0))))))) mNever mNext)
def m_want_letter (cM : Addr) : List D → Option D := fnM 2 2 (mb_want_letter cM)
def mb_want_text (cM : Addr) : Ms :=
  (mIf (liftT (mOrT (mNotT (mT (mAr (m_is_text cM) (mCons (mVar 1) mNil)))) (mNotT (mT (mAr (d1 dAll) (mCons (mLc (mItems (mVar 1)) (gN 2) (fun _ => some true) (mBin dIn (mVar 2) (mProp cM (m_Machine_letters cM) (mVar 0))) [2]) mNil)))))) mNever mNext)
def m_want_text (cM : Addr) : List D → Option D := fnM 3 2 (mb_want_text cM)
def mb_Machine_led (cM : Addr) : Ms :=
  (mSeq (mSet 3 (lft (mLst (mCons (mVar 1) mNil))))
    (mSeq (mFor (liftA (mItems (mVar 2))) (gN 4) (mDrop (mAppend 3 (lft (mBin dIx (mBin dIx (mFld cM "own_rows" (mVar 0)) (mIxC (-1) (mVar 3))) (mMt dIndexS (mFld cM "own_letters" (mVar 0)) (mCons (mVar 4) mNil)))))))
    (mRet (lft (mVar 3)))))
def m_Machine_led (cM : Addr) : List D → Option D := fnM 5 3 (mb_Machine_led cM)
def mb_Machine_goes (cM : Addr) : Ms :=
  (mSeq (mDrop (lft (mAr (m_want_place cM) (mCons (mVar 0) (mCons (mVar 1) mNil)))))
    (mSeq (mDrop (lft (mAr (m_want_text cM) (mCons (mVar 0) (mCons (mVar 2) mNil)))))
    (mRet (lft (mIxC (-1) (mMeth cM "led" (m_Machine_led cM) (mVar 0) (mCons (mVar 1) (mCons (mVar 2) mNil))))))))
def m_Machine_goes (cM : Addr) : List D → Option D := fnM 3 3 (mb_Machine_goes cM)
def mb_Machine_first_text (cM : Addr) : Ms :=
  (mSeq (mDrop (lft (mAr (m_want_place cM) (mCons (mVar 0) (mCons (mVar 1) mNil)))))
    (mSeq (mPar3 2 3 4 (lft (mLst (mCons (mC (.str [])) mNil))) (lft (mLst (mCons (mC (.int 0)) mNil))) (lft (mC (.int 0))))
    (mSeq (mWhile (liftT (mT (mBin dNe (mBin dIx (mVar 3) (mVar 4)) (mVar 1)))) (mSeq (mFor (liftA (mZip (mCons (mFld cM "own_letters" (mVar 0)) (mCons (mBin dIx (mFld cM "own_rows" (mVar 0)) (mBin dIx (mVar 3) (mVar 4))) mNil)))) (gT 2 (gsC (gN 5) (gsC (gN 6) gsN))) (mIf (liftT (mT (mBin dNotIn (mVar 6) (mVar 3)))) (mSeq (mDrop (mAppend 2 (lft (mBin dAdd (mBin dIx (mVar 2) (mVar 4)) (mVar 5)))))
    (mDrop (mAppend 3 (lft (mVar 6))))) mNext))
    (mAug 4 (mC (.int 1)))))
    (mRet (lft (mBin dIx (mVar 2) (mVar 4)))))))
def m_Machine_first_text (cM : Addr) : List D → Option D := fnM 7 2 (mb_Machine_first_text cM)
def mb_Machine_numbered (cM : Addr) : Ms :=
  (mRet (lft (mMake cM (m_Machine___init__ cM) (mCons (mFld cM "own_letters" (mVar 0)) (mCons (mAr (m_rows_from cM) (mCons (mFld cM "own_rows" (mVar 0)) (mCons (mC (.int 0)) mNil))) mNil)))))
def m_Machine_numbered (cM : Addr) : List D → Option D := fnM 1 1 (mb_Machine_numbered cM)
def mb_Machine_at (cM : Addr) : Ms :=
  (mSeq (mDrop (lft (mAr (m_want_place cM) (mCons (mVar 0) (mCons (mVar 1) mNil)))))
    (mRet (lft (mMake cM (m_Machine___init__ cM) (mCons (mFld cM "own_letters" (mVar 0)) (mCons (mAr (m_rows_from cM) (mCons (mFld cM "own_rows" (mVar 0)) (mCons (mVar 1) mNil))) mNil))))))
def m_Machine_at (cM : Addr) : List D → Option D := fnM 2 2 (mb_Machine_at cM)
def mb_Machine___eq__ (cM : Addr) : Ms :=
  (mRet (lft (mAnd (mUn (isiC cM) (mVar 1)) (mAnd (mBin dEq (mFld cM "own_letters" (mVar 0)) (mFld cM "own_letters" (mVar 1))) (mBin dEq (mFld cM "own_rows" (mVar 0)) (mFld cM "own_rows" (mVar 1)))))))
def m_Machine___eq__ (cM : Addr) : List D → Option D := fnM 2 2 (mb_Machine___eq__ cM)
def mb_Machine___repr__ (cM : Addr) : Ms :=
  (mRet (lft (mJoined (mJc (mC (.str [77, 97, 99, 104, 105, 110, 101, 40])) (mJc (mUn (fun d => match d with | .str a => dRepr (.str a) | _ => none) (mFld cM "own_letters" (mVar 0))) (mJc (mC (.str [44, 32])) (mJc (mUn (fun d => match d with | .lst xs => dRepr (.lst xs) | .tup xs => dRepr (.tup xs) | _ => none) (mFld cM "own_rows" (mVar 0))) (mJc (mC (.str [41])) mJn))))))))
def m_Machine___repr__ (cM : Addr) : List D → Option D := fnM 1 1 (mb_Machine___repr__ cM)
def mb__law_draw (cM : Addr) : Ms :=
  (mSeq (mIf (liftT (mT (mBin dGt (mBin dIx (mVar 0) (mC (.int 0))) (mC (.int 0))))) (mSeq (mUnpSt 0 2 0 (lft (mAr (d2 dDivmod) (mCons (mBin dIx (mVar 0) (mC (.int 0))) (mCons (mVar 1) mNil)))))
    (mRet (lft (mVar 2)))) mNext)
    (mSeq (mSetIx 0 (mC (.int 1)) (lft (mBin dMod (mAr (d1 dInt) (mCons (mBin dAdd (mBin dMul (mBin dIx (mVar 0) (mC (.int 1))) (mC (.int 48271))) (mC (.int 11279))) mNil)) (mC (.int 2147483629)))))
    (mRet (lft (mBin dMod (mAr (d1 dInt) (mCons (mBin dDiv (mBin dMod (mAr (d1 dInt) (mCons (mBin dMul (mBin dIx (mVar 0) (mC (.int 1))) (mBin dIx (mVar 0) (mC (.int 1)))) mNil)) (mC (.int 2147483549))) (mC (.int 13))) mNil)) (mVar 1))))))
def m__law_draw (cM : Addr) : List D → Option (D × D) := VS.fnP 3 2 (mb__law_draw cM)
def mb__law_pick (cM : Addr) : Ms :=
  (mRet (mBinX dIx (lft (mVar 1)) (mCallP 0 (m__law_draw cM) (liftA (mCons (mAr dLen (mCons (mVar 1) mNil)) mNil)))))
def m__law_pick (cM : Addr) : List D → Option (D × D) := VS.fnP 2 2 (mb__law_pick cM)
def mb__law_met (cM : Addr) : Ms :=
  (mSeq (mPar 2 3 (lft (mLst (mCons (mVar 1) mNil))) (lft (mC (.int 0))))
    (mSeq (mWhile (liftT (mAndT (mT (mBin dLt (mVar 3) (mAr dLen (mCons (mVar 2) mNil)))) (mT (mBin dLt (mVar 3) (mC (.int 200)))))) (mSeq (mSet 2 (lft (mBin dAdd (mVar 2) (mLc (mEnum (mCons (mBin dIx (mVar 0) (mBin dIx (mVar 2) (mVar 3))) mNil)) (gT 2 (gsC (gN 4) (gsC (gN 5) gsN))) (mT (mBin dNotIn (mVar 5) (mBin dAdd (mVar 2) (mSl (mBin dIx (mVar 0) (mBin dIx (mVar 2) (mVar 3))) mNo (mYes (mVar 4)))))) (mVar 5) [4, 5]))))
    (mSet 3 (lft (mBin dAdd (mVar 3) (mC (.int 1)))))))
    (mRet (lft (mVar 2)))))
def m__law_met (cM : Addr) : List D → Option D := fnM 6 2 (mb__law_met cM)
def mb__law_called (cM : Addr) : Ms :=
  (mRet (lft (mLc (mItems (mVar 1)) (gN 2) (fun _ => some true) (mLc (mItems (mBin dIx (mVar 0) (mVar 2))) (gN 3) (fun _ => some true) (mMt dIndexL (mVar 1) (mCons (mVar 3) mNil)) [3]) [2])))
def m__law_called (cM : Addr) : List D → Option D := fnM 4 2 (mb__law_called cM)
def mb__law_rows (cM : Addr) : Ms :=
  (mSeq (mSet 3 (mBinX dAdd (lft (mC (.int 1))) (mCallP 0 (m__law_draw cM) (liftA (mCons (mVar 2) mNil)))))
    (mSeq (mSet 4 (mLcX (liftA (mRange (mCons (mVar 3) mNil))) (gN 7) (fun ds => some (true, ds)) (mLcX (liftA (mRange (mCons (mVar 1) mNil))) (gN 8) (fun ds => some (true, ds)) (mCallP 0 (m__law_draw cM) (liftA (mCons (mVar 3) mNil))) [8]) [7]))
    (mSeq (mSet 4 (lft (mAr (m__law_called cM) (mCons (mVar 4) (mCons (mAr (m__law_met cM) (mCons (mVar 4) (mCons (mC (.int 0)) mNil))) mNil)))))
    (mSeq (mPar 5 6 (lft (mRgList2 (mC (.int 1)) (mAr dLen (mCons (mVar 4) mNil)))) (lft (mLst (mCons (mC (.int 0)) mNil))))
    (mSeq (mWhile (liftT (mT (mBin dNe (mVar 5) (mLst mNil)))) (mDrop (mAppend 6 (mPopAt 5 (mCallP 0 (m__law_draw cM) (liftA (mCons (mAr dLen (mCons (mVar 5) mNil)) mNil)))))))
    (mRet (lft (mAr (m__law_called cM) (mCons (mVar 4) (mCons (mVar 6) mNil))))))))))
def m__law_rows (cM : Addr) : List D → Option (D × D) := VS.fnP 9 3 (mb__law_rows cM)
def mb__law_letters (cM : Addr) : Ms :=
  (mRet (mCallP 0 (m__law_pick cM) (liftA (mCons (mLst (mCons (mC (.str [97])) (mCons (mC (.str [122])) (mCons (mC (.str [97, 98])) (mCons (mC (.str [97, 98])) (mCons (mC (.str [98, 120])) (mCons (mC (.str [97, 98, 99])) (mCons (mC (.str [107, 121, 122])) (mCons (mC (.str [103, 109, 114])) (mCons (mC (.str [104, 106, 119])) (mCons (mC (.str [108, 110, 112])) (mCons (mC (.str [111, 118])) mNil)))))))))))) mNil))))
def m__law_letters (cM : Addr) : List D → Option (D × D) := VS.fnP 1 1 (mb__law_letters cM)
def mb__law_goes (cM : Addr) : Ms :=
  (mSeq (mFor (liftA (mItems (mVar 3))) (gN 4) (mSet 2 (lft (mBin dIx (mBin dIx (mVar 1) (mVar 2)) (mMt dIndexS (mVar 0) (mCons (mVar 4) mNil))))))
    (mRet (lft (mVar 2))))
def m__law_goes (cM : Addr) : List D → Option D := fnM 5 4 (mb__law_goes cM)
def mb__law_firsts (cM : Addr) : Ms :=
  (mSeq (mPar 2 3 (lft (mDisp1 (mC (.int 0)) (mC (.str [])))) (lft (mLst (mCons (mC (.str [])) mNil))))
    (mSeq (mFor (liftA (mRange (mCons (mAr dLen (mCons (mVar 1) mNil)) mNil))) (gN 4) (mSeq (mSet 5 (lft (mLst mNil)))
    (mSeq (mFor (liftA (mItems (mVar 3))) (gN 6) (mDrop (mExtend 5 (lft (mLc (mItems (mVar 0)) (gN 8) (fun _ => some true) (mBin dAdd (mVar 6) (mVar 8)) [8])))))
    (mSeq (mSet 3 (lft (mLst mNil)))
    (mFor (liftA (mItems (mVar 5))) (gN 6) (mSeq (mSet 7 (lft (mAr (m__law_goes cM) (mCons (mVar 0) (mCons (mVar 1) (mCons (mC (.int 0)) (mCons (mVar 6) mNil)))))))
    (mIf (liftT (mT (mBin dDNotIn (mVar 7) (mVar 2)))) (mSeq (mPut 2 (mVar 7) (lft (mVar 6)))
    (mDrop (mAppend 3 (lft (mVar 6))))) mNext)))))))
    (mRet (lft (mVar 2)))))
def m__law_firsts (cM : Addr) : List D → Option D := fnM 9 2 (mb__law_firsts cM)
def mb__law_texts (cM : Addr) : Ms :=
  (mSeq (mPar 2 3 (lft (mLst (mCons (mC (.str [])) mNil))) (lft (mLst (mCons (mC (.str [])) mNil))))
    (mSeq (mFor (liftA (mRange (mCons (mVar 1) mNil))) (gN 4) (mSeq (mSet 5 (lft (mLst mNil)))
    (mSeq (mFor (liftA (mItems (mVar 3))) (gN 6) (mDrop (mExtend 5 (lft (mLc (mItems (mVar 0)) (gN 7) (fun _ => some true) (mBin dAdd (mVar 6) (mVar 7)) [7])))))
    (mSeq (mSet 3 (lft (mVar 5)))
    (mSet 2 (lft (mBin dAdd (mVar 2) (mVar 3))))))))
    (mRet (lft (mVar 2)))))
def m__law_texts (cM : Addr) : List D → Option D := fnM 8 2 (mb__law_texts cM)
def mb__law_texts_right (cM : Addr) : Ms :=
  (mSeq (mSet 3 (lft (mAr (m__law_firsts cM) (mCons (mVar 1) (mCons (mVar 2) mNil)))))
    (mSeq (mFor (liftA (mRange (mCons (mAr dLen (mCons (mVar 2) mNil)) mNil))) (gN 4) (mSeq (mSet 5 (lft (mMeth cM "first_text" (m_Machine_first_text cM) (mVar 0) (mCons (mVar 4) mNil))))
    (mIf (liftT (mOrT (mT (mBin dNe (mVar 5) (mBin dDGet (mVar 3) (mVar 4)))) (mOrT (mT (mBin dNe (mMethK cM "first_text" (m_Machine_first_text cM) pmI (mVar 0) (mCons (mVar 4) mNil)) (mVar 5))) (mT (mBin dNe (mMeth cM "goes" (m_Machine_goes cM) (mVar 0) (mCons (mC (.int 0)) (mCons (mVar 5) mNil))) (mVar 4)))))) (mRet (lft (mC (.bl false)))) mNext)))
    (mSeq (mSet 6 (lft (mLc (mItems (mAr (m__law_texts cM) (mCons (mVar 1) (mCons (mC (.int 4)) mNil)))) (gN 8) (fun _ => some true) (mAr (m__law_goes cM) (mCons (mVar 1) (mCons (mVar 2) (mCons (mC (.int 0)) (mCons (mVar 8) mNil))))) [8])))
    (mSeq (mSet 7 (lft (mAr (m__law_texts cM) (mCons (mVar 1) (mCons (mC (.int 4)) mNil)))))
    (mRet (lft (mAr (d1 dAll) (mCons (mLc (mItems (mUn dSortSet (mVar 6))) (gN 4) (fun _ => some true) (mBin dEq (mMeth cM "first_text" (m_Machine_first_text cM) (mVar 0) (mCons (mVar 4) mNil)) (mBin dIx (mVar 7) (mMt dIndexL (mVar 6) (mCons (mVar 4) mNil)))) [4]) mNil))))))))
def m__law_texts_right (cM : Addr) : List D → Option D := fnM 9 3 (mb__law_texts_right cM)
def mb__law_numbered_right (cM : Addr) : Ms :=
  (mSeq (mSet 4 (lft (mAr (m__law_called cM) (mCons (mVar 3) (mCons (mAr (m__law_met cM) (mCons (mVar 3) (mCons (mC (.int 0)) mNil))) mNil)))))
    (mSeq (mSet 5 (lft (mMeth cM "numbered" (m_Machine_numbered cM) (mVar 1) mNil)))
    (mSeq (mIf (liftT (mOrT (mT (mBin dNe (mReprOwn cM (m_Machine___repr__ cM) (mVar 5)) (mBin dAdd (mBin dAdd (mBin dAdd (mBin dAdd (mC (.str [77, 97, 99, 104, 105, 110, 101, 40])) (mAr (d1 dRepr) (mCons (mVar 2) mNil))) (mC (.str [44, 32]))) (mAr (d1 dRepr) (mCons (mVar 4) mNil))) (mC (.str [41]))))) (mT (mBin (dOwnNe cM (m_Machine___eq__ cM)) (mMeth cM "numbered" (m_Machine_numbered cM) (mVar 5) mNil) (mVar 5))))) (mRet (lft (mC (.bl false)))) mNext)
    (mSeq (mPar 6 7 (lft (mRgList2 (mC (.int 1)) (mAr dLen (mCons (mVar 3) mNil)))) (lft (mLst (mCons (mC (.int 0)) mNil))))
    (mSeq (mWhile (liftT (mT (mBin dNe (mVar 6) (mLst mNil)))) (mDrop (mAppend 7 (mPopAt 6 (mCallP 0 (m__law_draw cM) (liftA (mCons (mAr dLen (mCons (mVar 6) mNil)) mNil)))))))
    (mRet (lft (mAnd (mBin (dOwnEq cM (m_Machine___eq__ cM)) (mMeth cM "numbered" (m_Machine_numbered cM) (mMake cM (m_Machine___init__ cM) (mCons (mVar 2) (mCons (mAr (m__law_called cM) (mCons (mVar 3) (mCons (mVar 7) mNil))) mNil))) mNil) (mVar 5)) (mBin dEq (mBin (dOwnEq cM (m_Machine___eq__ cM)) (mVar 1) (mVar 5)) (mBin dEq (mVar 3) (mVar 4)))))))))))
def m__law_numbered_right (cM : Addr) : List D → Option (D × D) := VS.fnP 8 4 (mb__law_numbered_right cM)
def mb__law_at_right (cM : Addr) : Ms :=
  (mSeq (mFor (liftA (mRange (mCons (mAr dLen (mCons (mVar 3) mNil)) mNil))) (gN 4) (mSeq (mSet 5 (lft (mAr (m__law_met cM) (mCons (mVar 3) (mCons (mVar 4) mNil)))))
    (mSeq (mSet 6 (lft (mAr (m__law_called cM) (mCons (mVar 3) (mCons (mVar 5) mNil)))))
    (mSeq (mFor (liftA (mItems (mLst (mCons (mMeth cM "at" (m_Machine_at cM) (mVar 1) (mCons (mVar 4) mNil)) (mCons (mMethK cM "at" (m_Machine_at cM) pmI (mVar 1) (mCons (mVar 4) mNil)) mNil))))) (gN 7) (mIf (liftT (mOrT (mT (mBin dNe (mReprOwn cM (m_Machine___repr__ cM) (mVar 7)) (mBin dAdd (mBin dAdd (mBin dAdd (mBin dAdd (mC (.str [77, 97, 99, 104, 105, 110, 101, 40])) (mAr (d1 dRepr) (mCons (mVar 2) mNil))) (mC (.str [44, 32]))) (mAr (d1 dRepr) (mCons (mVar 6) mNil))) (mC (.str [41]))))) (mT (mBin (dOwnNe cM (m_Machine___eq__ cM)) (mMeth cM "numbered" (m_Machine_numbered cM) (mVar 7) mNil) (mVar 7))))) (mRet (lft (mC (.bl false)))) mNext))
    (mSeq (mSet 8 (mUnX dJoin (mLcX (mRangeX (mConsX (mCallP 0 (m__law_draw cM) (liftA (mCons (mC (.int 9)) mNil))) mNilX)) (gN 9) (fun ds => some (true, ds)) (mCallP 0 (m__law_pick cM) (liftA (mCons (mVar 2) mNil))) [9])))
    (mIf (liftT (mT (mBin dNe (mBin dIx (mVar 5) (mMeth cM "goes" (m_Machine_goes cM) (mMeth cM "at" (m_Machine_at cM) (mVar 1) (mCons (mVar 4) mNil)) (mCons (mC (.int 0)) (mCons (mVar 8) mNil)))) (mMeth cM "goes" (m_Machine_goes cM) (mVar 1) (mCons (mVar 4) (mCons (mVar 8) mNil)))))) (mRet (lft (mC (.bl false)))) mNext))))))
    (mRet (lft (mBin (dOwnEq cM (m_Machine___eq__ cM)) (mMeth cM "at" (m_Machine_at cM) (mVar 1) (mCons (mC (.int 0)) mNil)) (mMeth cM "numbered" (m_Machine_numbered cM) (mVar 1) mNil)))))
def m__law_at_right (cM : Addr) : List D → Option (D × D) := VS.fnP 10 4 (mb__law_at_right cM)
def mb__law_come_right (cM : Addr) : Ms :=
  (mSeq (mSet 2 (mBinX dAdd (lft (mC (.int 1))) (mCallP 0 (m__law_draw cM) (liftA (mCons (mC (.int 8)) mNil)))))
    (mSeq (mSet 3 (mLcX (liftA (mRange (mCons (mVar 2) mNil))) (gN 7) (fun ds => some (true, ds)) (mLcX (liftA (mRange (mCons (mAr dLen (mCons (mVar 1) mNil)) mNil))) (gN 8) (fun ds => some (true, ds)) (mCallP 0 (m__law_draw cM) (liftA (mCons (mVar 2) mNil))) [8]) [7]))
    (mSeq (mPar 4 5 (lft (mAr (d1 dRepr) (mCons (mVar 3) mNil))) (lft (mAr (m__law_called cM) (mCons (mVar 3) (mCons (mAr (m__law_met cM) (mCons (mVar 3) (mCons (mC (.int 0)) mNil))) mNil)))))
    (mSeq (mFor (liftA (mItems (mLst (mCons (mAr (m_Machine_come_to cM) (mCons (mVar 1) (mCons (mVar 3) mNil))) (mCons (mArK (m_Machine_come_to cM) pm2 (mCons (mAr (d1 dTuple) (mCons (mVar 3) mNil)) (mCons (mVar 1) mNil))) mNil))))) (gN 6) (mIf (liftT (mOrT (mT (mBin dNe (mReprOwn cM (m_Machine___repr__ cM) (mVar 6)) (mBin dAdd (mBin dAdd (mBin dAdd (mBin dAdd (mC (.str [77, 97, 99, 104, 105, 110, 101, 40])) (mAr (d1 dRepr) (mCons (mVar 1) mNil))) (mC (.str [44, 32]))) (mAr (d1 dRepr) (mCons (mVar 5) mNil))) (mC (.str [41]))))) (mT (mBin (dOwnNe cM (m_Machine___eq__ cM)) (mVar 6) (mMake cM (m_Machine___init__ cM) (mCons (mVar 1) (mCons (mVar 5) mNil))))))) (mRet (lft (mC (.bl false)))) mNext))
    (mRet (lft (mBin dEq (mAr (d1 dRepr) (mCons (mVar 3) mNil)) (mVar 4))))))))
def m__law_come_right (cM : Addr) : List D → Option (D × D) := VS.fnP 9 2 (mb__law_come_right cM)
def mb__law_long_right (cM : Addr) : Ms :=
  (mSeq (mSet 2 (mBinX dAdd (lft (mC (.int 60))) (mCallP 0 (m__law_draw cM) (liftA (mCons (mC (.int 61)) mNil)))))
    (mSeq (mSet 3 (mLcX (liftA (mRange (mCons (mVar 2) mNil))) (gN 5) (fun ds => some (true, ds)) (mBinX dAdd (lft (mLst (mCons (mAr (d2 dMin) (mCons (mBin dAdd (mVar 5) (mC (.int 1))) (mCons (mBin dSub (mVar 2) (mC (.int 1))) mNil))) mNil))) (mBinX dMul (mLstX (mConsX (mCallP 0 (m__law_draw cM) (liftA (mCons (mBin dAdd (mVar 5) (mC (.int 1))) mNil))) mNilX)) (lft (mBin dSub (mAr dLen (mCons (mVar 1) mNil)) (mC (.int 1)))))) [5]))
    (mSeq (mPar 4 5 (lft (mMake cM (m_Machine___init__ cM) (mCons (mVar 1) (mCons (mVar 3) mNil)))) (mCallP 0 (m__law_draw cM) (liftA (mCons (mVar 2) mNil))))
    (mSeq (mIf (liftT (mOrT (mT (mBin dNe (mMeth cM "first_text" (m_Machine_first_text cM) (mVar 4) (mCons (mBin dSub (mVar 2) (mC (.int 1))) mNil)) (mBin dMul (mBin dIx (mVar 1) (mC (.int 0))) (mBin dSub (mVar 2) (mC (.int 1)))))) (mT (mBin dNe (mMeth cM "first_text" (m_Machine_first_text cM) (mVar 4) (mCons (mVar 5) mNil)) (mBin dMul (mBin dIx (mVar 1) (mC (.int 0))) (mVar 5)))))) (mRet (lft (mC (.bl false)))) mNext)
    (mSeq (mSet 6 (lft (mAr (m__law_met cM) (mCons (mVar 3) (mCons (mVar 5) mNil)))))
    (mRet (lft (mAnd (mBin dEq (mAr (d1 dRepr) (mCons (mMeth cM "rows" (m_Machine_rows cM) (mMeth cM "at" (m_Machine_at cM) (mVar 4) (mCons (mVar 5) mNil)) mNil) mNil)) (mAr (d1 dRepr) (mCons (mAr (m__law_called cM) (mCons (mVar 3) (mCons (mVar 6) mNil))) mNil))) (mAnd (mBin (dOwnEq cM (m_Machine___eq__ cM)) (mMeth cM "numbered" (m_Machine_numbered cM) (mVar 4) mNil) (mVar 4)) (mBin dEq (mLenOwn cM (m_Machine___len__ cM) (mVar 4)) (mVar 2)))))))))))
def m__law_long_right (cM : Addr) : List D → Option (D × D) := VS.fnP 7 2 (mb__law_long_right cM)
def mb__law_right (cM : Addr) : Ms :=
  (mSeq (mSet 1 (mCallP 0 (m__law_letters cM) (liftA mNil)))
    (mSeq (mSet 2 (mCallP 0 (m__law_rows cM) (liftA (mCons (mAr dLen (mCons (mVar 1) mNil)) (mCons (mC (.int 7)) mNil)))))
    (mSeq (mSet 3 (lft (mMake cM (m_Machine___init__ cM) (mCons (mVar 1) (mCons (mVar 2) mNil)))))
    (mSeq (mIf (mOrTX (liftT (mNotT (mT (mAr (m__law_texts_right cM) (mCons (mVar 3) (mCons (mVar 1) (mCons (mVar 2) mNil))))))) (mNotTX (mTX (mCallP 0 (m__law_numbered_right cM) (liftA (mCons (mVar 3) (mCons (mVar 1) (mCons (mVar 2) mNil)))))))) (mRet (lft (mC (.bl false)))) mNext)
    (mSeq (mIf (mOrTX (mNotTX (mTX (mCallP 0 (m__law_at_right cM) (liftA (mCons (mVar 3) (mCons (mVar 1) (mCons (mVar 2) mNil))))))) (mNotTX (mTX (mCallP 0 (m__law_come_right cM) (liftA (mCons (mVar 1) mNil)))))) (mRet (lft (mC (.bl false)))) mNext)
    (mRet (mAndX (mCallP 0 (m__law_long_right cM) (liftA (mCons (mVar 1) mNil))) (mAndX (lft (mBin (dOwnEq cM (m_Machine___eq__ cM)) (mVar 3) (mMake cM (m_Machine___init__ cM) (mCons (mVar 1) (mCons (mVar 2) mNil))))) (lft (mBin dEq (mAr (d1 dRepr) (mCons (mMeth cM "rows" (m_Machine_rows cM) (mVar 3) mNil) mNil)) (mAr (d1 dRepr) (mCons (mVar 2) mNil))))))))))))
def m__law_right (cM : Addr) : List D → Option (D × D) := VS.fnP 4 1 (mb__law_right cM)
end LW
end
section
set_option maxRecDepth 100000
set_option maxHeartbeats 4000000
namespace LW
open PySem L2 RX VS Evl
section
variable {P : Program} {w : World} {K : PySem.W.Frag} {mg : Str → Option Value} {base : Heap}
abbrev st_is_integer : Stmt := top 15
theorem sc_is_integer : FnScope ["value"] ["value"] (defScope st_is_integer) := ⟨rfl, rfl, rfl, by decide +kernel, rfl, by decide +kernel, by decide +kernel⟩
theorem ok_is_integer {f : Addr} {fd : FuncData} {cM : Addr} (F : Fun K "is_integer" "is_integer" st_is_integer f fd) (B : Bn mg)  :
    FnOk P w K mg base CX0 1 f fd ["value"] (spV 0 (m_is_integer cM)) := by
  refine F.ok sc_is_integer spV_len (fun cdv A outer s H vs Q E hr h => ?_)
  refine ⟨_, (pss_one (ps_ret (pe_and (pe_callB call_isi rfl B.n_isinstance (by decide +kernel) (pa_cons (pv 0) (pa_cons (pe_bltn (v := .ty "int") (u := .type "int") rfl B.n_int (by decide +kernel) rfl) pa_nil))) (pe_one (pe_not (pe_callB call_isi rfl B.n_isinstance (by decide +kernel) (pa_cons (pv 0) (pa_cons (pe_bltn (v := .ty "bool") (u := .type "bool") rfl B.n_bool (by decide +kernel) rfl) pa_nil)))))))), ?_⟩
  exact VSt.fn (N := ["value"]) (μ' := [.o 0]) (mb := mb_is_integer cM)
    (VSt.ret (VE.x (VE.and (VE.h (n := 0) (VE.isi (K := K) (cs := []) (fun _ z => nomatch z) VP.varH)) (VE.not (VE.h (n := 0) (VE.isi (K := K) (cs := []) (fun _ z => nomatch z) VP.varH)))))) h
abbrev st_is_count : Stmt := top 16
theorem sc_is_count : FnScope ["value"] ["value"] (defScope st_is_count) := ⟨rfl, rfl, rfl, by decide +kernel, rfl, by decide +kernel, by decide +kernel⟩
theorem ok_is_count {f : Addr} {fd : FuncData} {cM : Addr} (F : Fun K "is_count" "is_count" st_is_count f fd) (B : Bn mg) (D_is_integer : Df P w K mg base 1 "is_integer" ["value"] (spV 0 (m_is_integer cM))) :
    FnOk P w K mg base CX0 2 f fd ["value"] (spV 0 (m_is_count cM)) := by
  obtain ⟨f_is_integer, fd_is_integer, G_is_integer, m_is_integer, k_is_integer, b_is_integer⟩ := D_is_integer
  refine F.ok sc_is_count spV_len (fun cdv A outer s H vs Q E hr h => ?_)
  refine ⟨_, (pss_one (ps_ret (pe_and (pe_call G_is_integer (hr.mono (show 1 ≤ 1 by decide)) rfl m_is_integer k_is_integer b_is_integer .nil pass0 (pa_cons (pv 0) pa_nil)) (pe_one (pe_cmpR op_ge (pv 0) pe_int (nomark _)))))), ?_⟩
  exact VSt.fn (N := ["value"]) (μ' := [.o 0]) (mb := mb_is_count cM)
    (VSt.ret (VE.x (VE.and (VE.h (n := 0) (VE.call (VA.cons mo_Z (VP.var0 rfl) VA.nil))) (VE.bin mo_H opp_ge VP.varH (VE.h (n := 0) VE.cI))))) h
abbrev st_is_list : Stmt := top 17
theorem sc_is_list : FnScope ["value"] ["value"] (defScope st_is_list) := ⟨rfl, rfl, rfl, by decide +kernel, rfl, by decide +kernel, by decide +kernel⟩
theorem ok_is_list {f : Addr} {fd : FuncData} {cM : Addr} (F : Fun K "is_list" "is_list" st_is_list f fd) (B : Bn mg)  :
    FnOk P w K mg base CX0 1 f fd ["value"] (spV 0 (m_is_list cM)) := by
  refine F.ok sc_is_list spV_len (fun cdv A outer s H vs Q E hr h => ?_)
  refine ⟨_, (pss_one (ps_ret (pe_callB call_isiT rfl B.n_isinstance (by decide +kernel) (pa_cons (pv 0) (pa_cons (pe_tup (pa_cons (pe_bltn (v := .ty "list") (u := .type "list") rfl B.n_list (by decide +kernel) rfl) (pa_cons (pe_bltn (v := .ty "tuple") (u := .type "tuple") rfl B.n_tuple (by decide +kernel) rfl) pa_nil))) pa_nil))))), ?_⟩
  exact VSt.fn (N := ["value"]) (μ' := [.o 0]) (mb := mb_is_list cM)
    (VSt.ret (VE.x (VE.isi2 (K := K) VP.varH))) h
abbrev st_is_text : Stmt := top 18
theorem sc_is_text : FnScope ["value", "sign"] ["value"] (defScope st_is_text) := ⟨rfl, rfl, rfl, by decide +kernel, rfl, by decide +kernel, by decide +kernel⟩
theorem ok_is_text {f : Addr} {fd : FuncData} {cM : Addr} (F : Fun K "is_text" "is_text" st_is_text f fd) (B : Bn mg) (c_SMALL : ∃ t, mg "SMALL" = some (.str (stx [97, 98, 99, 100, 101, 102, 103, 104, 105, 106, 107, 108, 109, 110, 111, 112, 113, 114, 115, 116, 117, 118, 119, 120, 121, 122]) t)) :
    FnOk P w K mg base CX0 1 f fd ["value"] (spV 0 (m_is_text cM)) := by
  obtain ⟨t_SMALL, m_SMALL⟩ := c_SMALL
  refine F.ok sc_is_text spV_len (fun cdv A outer s H vs Q E hr h => ?_)
  refine ⟨_, (pss_one (ps_ret (pe_and (pe_callB call_isi rfl B.n_isinstance (by decide +kernel) (pa_cons (pv 0) (pa_cons (pe_bltn (v := .ty "str") (u := .type "str") rfl B.n_str (by decide +kernel) rfl) pa_nil))) (pe_one (pe_callB (cr_all rfl) rfl B.n_all (by decide +kernel) (pa_cons (pe_lc (own := [("sign", 1)]) (g := gName 1) rfl sc_is_text.nd (pi_U (pv 0)) (blkOk_by (own := [("sign", 1)]) (N := ["value", "sign"]) (sc := defScope st_is_text) (by decide +kernel)) (fun _ _ _ _ _ => (pg_name (i := 1) sc_is_text.nd rfl (Or.inl rfl))) (fun _ _ _ _ _ => pts_nil) (fun _ _ _ _ _ => (pe_cmpR ((op_inU (ru5 hr)) : OpR _ _ (rInU K)) (pv 1) (pe_glob (v := tx [97, 98, 99, 100, 101, 102, 103, 104, 105, 106, 107, 108, 109, 110, 111, 112, 113, 114, 115, 116, 117, 118, 119, 120, 121, 122]) rfl m_SMALL ⟨_, rfl⟩) rfl))) pa_nil)))))), ?_⟩
  exact VSt.fn (N := ["value", "sign"]) (μ' := [.o 0, .o 0]) (mb := mb_is_text cM)
    (VSt.ret (VE.x (VE.and (VE.h (n := 0) (VE.isi (K := K) (cs := []) (fun _ z => nomatch z) VP.varH)) (VE.ar (arp_all (K := K)) (VA.cons mo_H (VE.h (n := 1) (VE.lc (vs := [1]) (VIp.any (K := K) (VP.var0 rfl)) (VG.name rfl) (WG.name (by decide)) VTp.yes (VE.bin mo_H (opp_in (K := K)) VP.varH (VE.h (n := 0) (VE.cT (a := [97, 98, 99, 100, 101, 102, 103, 104, 105, 106, 107, 108, 109, 110, 111, 112, 113, 114, 115, 116, 117, 118, 119, 120, 121, 122])))))) VA.nil))))) h
abbrev st_are_letters : Stmt := top 19
theorem sc_are_letters : FnScope ["value", "one", "other"] ["value"] (defScope st_are_letters) := ⟨rfl, rfl, rfl, by decide +kernel, rfl, by decide +kernel, by decide +kernel⟩
theorem ok_are_letters {f : Addr} {fd : FuncData} {cM : Addr} (F : Fun K "are_letters" "are_letters" st_are_letters f fd) (B : Bn mg) (D_is_text : Df P w K mg base 1 "is_text" ["value"] (spV 0 (m_is_text cM))) (c_MOST_LETTERS : ∃ t, mg "MOST_LETTERS" = some (.int 3 t)) :
    FnOk P w K mg base CX0 2 f fd ["value"] (spV 0 (m_are_letters cM)) := by
  obtain ⟨f_is_text, fd_is_text, G_is_text, m_is_text, k_is_text, b_is_text⟩ := D_is_text
  obtain ⟨t_MOST_LETTERS, m_MOST_LETTERS⟩ := c_MOST_LETTERS
  refine F.ok sc_are_letters spV_len (fun cdv A outer s H vs Q E hr h => ?_)
  refine ⟨_, (pss_cons (ps_if (PW.pt (pw_or (pt_not (pt_val (pe_call G_is_text (hr.mono (show 1 ≤ 1 by decide)) rfl m_is_text k_is_text b_is_text .nil pass0 (pa_cons (pv 0) pa_nil)))) (pw_or1 (pt_not (pt_chain op_le op_le pe_int (pe_callB call_lenU rfl B.n_len PySem.boot_len (pa_cons (pv 0) pa_nil)) (pe_glob (v := .int 3) rfl m_MOST_LETTERS ⟨_, rfl⟩)))))) (pss_one (ps_ret pe_bl)) pss_nil)
    (pss_one (ps_ret (pe_callB (cr_all rfl) rfl B.n_all (by decide +kernel) (pa_cons (pe_lc (own := [("one", 1), ("other", 2)]) (g := gTup K 2 (gCons (gName 1) (gCons (gName 2) gNil))) rfl sc_are_letters.nd (pi_zipT rfl B.n_zip (pa_cons (pv 0) (pa_cons (pe_slice sl_U (pv 0) (po_some pe_int) po_none) pa_nil))) (blkOk_by (own := [("one", 1), ("other", 2)]) (N := ["value", "one", "other"]) (sc := defScope st_are_letters) (by decide +kernel)) (fun _ _ _ _ _ => (pg_tup rfl (pgs_cons (pg_name (i := 1) sc_are_letters.nd rfl (Or.inl rfl)) (pgs_cons (pg_name (i := 2) sc_are_letters.nd rfl (Or.inl rfl)) pgs_nil)))) (fun _ _ _ _ _ => pts_nil) (fun _ _ _ _ _ => (pe_cmpR op_ltU (pv 1) (pv 2) (nomark _)))) pa_nil))))), ?_⟩
  exact VSt.fn (N := ["value", "one", "other"]) (μ' := [.o 0, .o 0, .o 0]) (mb := mb_are_letters cM)
    (VSt.seq (μ1 := [.o 0, .o 0, .o 0]) (VSt.ite (VTp.x (VTp.or (VTp.not (VTp.of (VE.h (n := 0) (VE.call (VA.cons mo_Z (VP.var0 rfl) VA.nil))))) (VTp.not (VTp.of (VE.h (n := 0) (VE.chain opp_le opp_le (VE.h (n := 0) VE.cI) (VE.h (n := 0) (VE.ar (arp_len (K := K)) (VA.cons mo_H VP.varH VA.nil))) (VE.h (n := 0) VE.cI))))))) (VSt.ret (VE.x VE.cB)) VSt.next)
    (VSt.ret (VE.x (VE.ar (arp_all (K := K)) (VA.cons mo_H (VE.h (n := 1) (VE.lc (vs := [1, 2]) (VIp.zipT (VA.cons mo_H VP.varH (VA.cons mo_H (VE.h (n := 1) (VE.sl (K := K) (VP.z1 (VP.var0 rfl)) (VO.some (VE.h (n := 0) VE.cI)) VO.none)) VA.nil))) (VG.tup (K := K) (VGs.cons (VG.name rfl) (VGs.cons (VG.name rfl) VGs.nil))) (WG.tup (WGs.cons (by decide) (WGs.cons (by decide) WGs.nil))) VTp.yes (VE.bin mo_H opp_lt VP.varH VP.varH))) VA.nil))))) h
abbrev st_is_row : Stmt := top 29
theorem sc_is_row : FnScope ["value", "size", "many", "goal"] ["value", "size", "many"] (defScope st_is_row) := ⟨rfl, rfl, rfl, by decide +kernel, rfl, by decide +kernel, by decide +kernel⟩
theorem ok_is_row {f : Addr} {fd : FuncData} {cM : Addr} (F : Fun K "is_row" "is_row" st_is_row f fd) (B : Bn mg) (D_is_list : Df P w K mg base 1 "is_list" ["value"] (spV 0 (m_is_list cM))) (D_is_integer : Df P w K mg base 1 "is_integer" ["value"] (spV 0 (m_is_integer cM))) :
    FnOk P w K mg base CX0 2 f fd ["value", "size", "many"] (spV 0 (m_is_row cM)) := by
  obtain ⟨f_is_list, fd_is_list, G_is_list, m_is_list, k_is_list, b_is_list⟩ := D_is_list
  obtain ⟨f_is_integer, fd_is_integer, G_is_integer, m_is_integer, k_is_integer, b_is_integer⟩ := D_is_integer
  refine F.ok sc_is_row spV_len (fun cdv A outer s H vs Q E hr h => ?_)
  refine ⟨_, (pss_cons (ps_if (PW.pt (pw_or (pt_not (pt_val (pe_call G_is_list (hr.mono (show 1 ≤ 1 by decide)) rfl m_is_list k_is_list b_is_list .nil pass0 (pa_cons (pv 0) pa_nil)))) (pw_or1 (pt_cmpR (op_neU (ru hr)) (pe_callB call_lenU rfl B.n_len PySem.boot_len (pa_cons (pv 0) pa_nil)) (pv 1) (nomark _))))) (pss_one (ps_ret pe_bl)) pss_nil)
    (pss_one (ps_ret (pe_callB (cr_all rfl) rfl B.n_all (by decide +kernel) (pa_cons (pe_lc (own := [("goal", 3)]) (g := gName 3) rfl sc_is_row.nd (pi_U (pv 0)) (blkOk_by (own := [("goal", 3)]) (N := ["value", "size", "many", "goal"]) (sc := defScope st_is_row) (by decide +kernel)) (fun _ _ _ _ _ => (pg_name (i := 3) sc_is_row.nd rfl (Or.inl rfl))) (fun _ _ _ _ _ => pts_nil) (fun _ _ _ _ _ => (pe_and (pe_call G_is_integer (hr.mono (show 1 ≤ 1 by decide)) rfl m_is_integer k_is_integer b_is_integer .nil pass0 (pa_cons (pv 3) pa_nil)) (pe_one (pe_chain op_le op_ltU pe_int (pv 3) (pv 2)))))) pa_nil))))), ?_⟩
  exact VSt.fn (N := ["value", "size", "many", "goal"]) (μ' := [.o 0, .o 0, .o 0, .o 0]) (mb := mb_is_row cM)
    (VSt.seq (μ1 := [.o 0, .o 0, .o 0, .o 0]) (VSt.ite (VTp.x (VTp.or (VTp.not (VTp.of (VE.h (n := 0) (VE.call (VA.cons mo_Z (VP.var0 rfl) VA.nil))))) (VTp.of (VE.h (n := 0) (VE.bin mo_H (opp_ne (K := K)) (VE.h (n := 0) (VE.ar (arp_len (K := K)) (VA.cons mo_H VP.varH VA.nil))) VP.varH))))) (VSt.ret (VE.x VE.cB)) VSt.next)
    (VSt.ret (VE.x (VE.ar (arp_all (K := K)) (VA.cons mo_H (VE.h (n := 1) (VE.lc (vs := [3]) (VIp.any (K := K) (VP.var0 rfl)) (VG.name rfl) (WG.name (by decide)) VTp.yes (VE.and (VE.h (n := 0) (VE.call (VA.cons mo_Z (VP.var0 rfl) VA.nil))) (VE.chain opp_le opp_lt (VE.h (n := 0) VE.cI) VP.varH VP.varH)))) VA.nil))))) h
abbrev st_want_rows : Stmt := top 30
theorem sc_want_rows : FnScope ["letters", "rows", "position", "row"] ["letters", "rows"] (defScope st_want_rows) := ⟨rfl, rfl, rfl, by decide +kernel, rfl, by decide +kernel, by decide +kernel⟩
theorem ok_want_rows {f : Addr} {fd : FuncData} {cM : Addr} (F : Fun K "want_rows" "want_rows" st_want_rows f fd) (B : Bn mg) (D_are_letters : Df P w K mg base 2 "are_letters" ["value"] (spV 0 (m_are_letters cM))) (D_is_list : Df P w K mg base 1 "is_list" ["value"] (spV 0 (m_is_list cM))) (D_is_row : Df P w K mg base 2 "is_row" ["value", "size", "many"] (spV 0 (m_is_row cM))) (V_Machine_MOST_PLACES : mg "Machine" = some (.ref cM) ∧ ∃ mc u, ClX.CRead K cM mc ∧ ClX.CVal K cM mc "MOST_PLACES" (.int 120) u) :
    FnOk P w K mg base CX0 3 f fd ["letters", "rows"] (spV 0 (m_want_rows cM)) := by
  obtain ⟨f_are_letters, fd_are_letters, G_are_letters, m_are_letters, k_are_letters, b_are_letters⟩ := D_are_letters
  obtain ⟨f_is_list, fd_is_list, G_is_list, m_is_list, k_is_list, b_is_list⟩ := D_is_list
  obtain ⟨f_is_row, fd_is_row, G_is_row, m_is_row, k_is_row, b_is_row⟩ := D_is_row
  obtain ⟨cm_Machine, mc_Machine, u_Machine, cr_Machine_MOST_PLACES, cv_Machine_MOST_PLACES⟩ := V_Machine_MOST_PLACES
  refine F.ok sc_want_rows spV_len (fun cdv A outer s H vs Q E hr h => ?_)
  refine ⟨_, (pss_cons (ps_if (pt_not (pt_val (pe_call G_are_letters (hr.mono (show 2 ≤ 2 by decide)) rfl m_are_letters k_are_letters b_are_letters .nil pass0 (pa_cons (pv 0) pa_nil)))) (pss_one ps_never) pss_nil)
    (pss_cons (ps_if (PW.pt (pw_or (pt_not (pt_val (pe_call G_is_list (hr.mono (show 1 ≤ 2 by decide)) rfl m_is_list k_is_list b_is_list .nil pass0 (pa_cons (pv 1) pa_nil)))) (pw_or1 (pt_cmpR (op_eqU (ru hr)) (pe_callB call_lenU rfl B.n_len PySem.boot_len (pa_cons (pv 1) pa_nil)) pe_int (nomark _))))) (pss_one ps_never) pss_nil)
    (pss_cons (ps_for PassesOwn.never rfl (pi_enumS rfl B.n_enumerate (pa_cons (pv 1) pa_nil)) (pg_tup rfl (pgs_cons (pg_name (i := 2) sc_want_rows.nd rfl (Or.inl rfl)) (pgs_cons (pg_name (i := 3) sc_want_rows.nd rfl (Or.inl rfl)) pgs_nil))) (pss_one (ps_if (pt_not (pt_val (pe_call G_is_row (hr.mono (show 2 ≤ 2 by decide)) rfl m_is_row k_is_row b_is_row .nil pass0 (pa_cons (pv 3) (pa_cons (pe_callB call_lenU rfl B.n_len PySem.boot_len (pa_cons (pv 0) pa_nil)) (pa_cons (pe_callB call_lenU rfl B.n_len PySem.boot_len (pa_cons (pv 1) pa_nil)) pa_nil)))))) (pss_one ps_never) pss_nil)))
    (pss_one (ps_if (pt_cmpR op_gt (pe_callB call_lenU rfl B.n_len PySem.boot_len (pa_cons (pv 1) pa_nil)) (ClX.pe_cval (pe_glob (v := .ref cM) rfl cm_Machine rfl)) (nomark _)) (pss_one ps_never) pss_nil))))), ?_⟩
  exact VSt.fn (N := ["letters", "rows", "position", "row"]) (μ' := [.o 0, .o 0, .o 0, .o 0]) (mb := mb_want_rows cM)
    (VSt.seq (μ1 := [.o 0, .o 0, .o 0, .o 0]) (VSt.ite (VTp.x (VTp.not (VTp.of (VE.h (n := 0) (VE.call (VA.cons mo_Z (VP.var0 rfl) VA.nil)))))) VSt.never VSt.next)
    (VSt.seq (μ1 := [.o 0, .o 0, .o 0, .o 0]) (VSt.ite (VTp.x (VTp.or (VTp.not (VTp.of (VE.h (n := 0) (VE.call (VA.cons mo_Z (VP.var0 rfl) VA.nil))))) (VTp.of (VE.h (n := 0) (VE.bin mo_H (opp_eq (K := K)) (VE.h (n := 0) (VE.ar (arp_len (K := K)) (VA.cons mo_H VP.varH VA.nil))) (VE.h (n := 0) VE.cI)))))) VSt.never VSt.next)
    (VSt.seq (μ1 := [.o 0, .o 0, .o 0, .o 0]) (VSt.for (VIp.x (VIp.enum (K := K) (VA.cons mo_Z (VP.var0 rfl) VA.nil))) (VG.tup (K := K) (VGs.cons (VG.name rfl) (VGs.cons (VG.name rfl) VGs.nil))) (VSt.ite (VTp.x (VTp.not (VTp.of (VE.h (n := 0) (VE.call (VA.cons mo_Z (VP.var0 rfl) (VA.cons mo_Z (VE.z (n := 0) (VE.ar (arp_len (K := K)) (VA.cons mo_H VP.varH VA.nil))) (VA.cons mo_Z (VE.z (n := 0) (VE.ar (arp_len (K := K)) (VA.cons mo_H VP.varH VA.nil))) VA.nil)))))))) VSt.never VSt.next))
    (VSt.ite (VTp.x (VTp.of (VE.h (n := 0) (VE.bin mo_H opp_gt (VE.h (n := 0) (VE.ar (arp_len (K := K)) (VA.cons mo_H VP.varH VA.nil))) (VE.h (n := 0) (VE.cval cr_Machine_MOST_PLACES cv_Machine_MOST_PLACES)))))) VSt.never VSt.next)))) h
abbrev st_met_from : Stmt := top 31
theorem sc_met_from : FnScope ["rows", "start", "found", "at", "goal"] ["rows", "start"] (defScope st_met_from) := ⟨rfl, rfl, rfl, by decide +kernel, rfl, by decide +kernel, by decide +kernel⟩
theorem ok_met_from {f : Addr} {fd : FuncData} {cM : Addr} (F : Fun K "met_from" "met_from" st_met_from f fd) (B : Bn mg)  :
    FnOk P w K mg base CX0 1 f fd ["rows", "start"] (spV 1 (m_met_from cM)) := by
  refine F.ok sc_met_from spV_len (fun cdv A outer s H vs Q E hr h => ?_)
  refine ⟨_, (pss_cons (ps_set (i := 2) sc_met_from.nd rfl (Or.inl rfl) (pe_lst (pa_cons (pv 1) pa_nil)))
    (pss_cons (ps_set (i := 3) sc_met_from.nd rfl (Or.inl rfl) pe_int)
    (pss_cons (ps_while PassesOwn.never (pt_cmpR op_ltU (pv 3) (pe_callB call_lenU rfl B.n_len PySem.boot_len (pa_cons (pv 2) pa_nil)) (nomark _)) (pss_cons (ps_for PassesOwn.never rfl (pi_U (pe_ix ix_seq (pv 0) (pe_ix ix_seq (pv 2) (pv 3) (fun _ _ => rfl)) (fun _ _ => rfl))) (pg_name (i := 4) sc_met_from.nd rfl (Or.inl rfl)) (pss_one (ps_if (pt_cmpR (op_notInU (ru5 hr)) (pv 4) (pv 2) rfl) (pss_one (ps_expr (pe_bm PySem.F.plainAttrs_list PySem.F.slot_list_append PySem.F.type_list_append mt_append (pv 2) (pa_cons (pv 4) pa_nil)))) pss_nil)))
    (pss_one (ps_set (i := 3) sc_met_from.nd rfl (Or.inl rfl) (pe_op op_addU (pv 3) pe_int)))))
    (pss_one (ps_ret (pv 2)))))), ?_⟩
  exact VSt.fn (N := ["rows", "start", "found", "at", "goal"]) (μ' := [.o 0, .o 0, .o 1, .o 0, .o 0]) (mb := mb_met_from cM)
    (VSt.seq (μ1 := [.o 0, .o 0, .o 1, .o 0, .o 0]) (VSt.set (i := 2) (VE.x (VE.lst (VA.cons mo_Z (VP.var0 rfl) VA.nil))))
    (VSt.seq (μ1 := [.o 0, .o 0, .o 1, .o 0, .o 0]) (VSt.set (i := 3) (VE.x VE.cI))
    (VSt.seq (μ1 := [.o 0, .o 0, .o 1, .o 0, .o 0]) (VSt.while (VTp.x (VTp.of (VE.h (n := 0) (VE.bin mo_H opp_lt VP.varH (VE.h (n := 0) (VE.ar (arp_len (K := K)) (VA.cons mo_H VP.varH VA.nil))))))) (VSt.seq (μ1 := [.o 0, .o 0, .o 1, .o 0, .o 0]) (VSt.for (VIp.x (VIp.any (K := K) (VE.z (n := 0) (VE.bin mo_1 (opp_ix (K := K)) (VP.z1 (VP.var0 rfl)) (VE.one (n := 0) (VE.bin mo_1 (opp_ix (K := K)) (VP.var1 rfl) (VP.z1 (VP.var0 rfl)))))))) (VG.name rfl) (VSt.ite (VTp.x (VTp.of (VE.h (n := 0) (VE.bin mo_H (opp_notIn (K := K)) VP.varH VP.varH)))) (VSt.drop (n := 0) (VX.append (VE.x (VE.var rfl)) rfl)) VSt.next))
    (VSt.set (i := 3) (VE.x (VE.sh (n := 1) (VE.bin mo_1 (opp_add (K := K)) (VP.z1 (VP.var0 rfl)) (VE.one (n := 0) VE.cI)))))))
    (VSt.retV rfl)))) h
abbrev st_rows_from : Stmt := top 32
theorem sc_rows_from : FnScope ["rows", "start", "places", "place", "goal"] ["rows", "start"] (defScope st_rows_from) := ⟨rfl, rfl, rfl, by decide +kernel, rfl, by decide +kernel, by decide +kernel⟩
theorem ok_rows_from {f : Addr} {fd : FuncData} {cM : Addr} (F : Fun K "rows_from" "rows_from" st_rows_from f fd) (B : Bn mg) (D_met_from : Df P w K mg base 1 "met_from" ["rows", "start"] (spV 1 (m_met_from cM))) :
    FnOk P w K mg base CX0 2 f fd ["rows", "start"] (spV 0 (m_rows_from cM)) := by
  obtain ⟨f_met_from, fd_met_from, G_met_from, m_met_from, k_met_from, b_met_from⟩ := D_met_from
  refine F.ok sc_rows_from spV_len (fun cdv A outer s H vs Q E hr h => ?_)
  refine ⟨_, (pss_cons (ps_set (i := 2) sc_rows_from.nd rfl (Or.inr rfl) (pe_call G_met_from (hr.mono (show 1 ≤ 1 by decide)) rfl m_met_from k_met_from b_met_from .nil pass0 (pa_cons (pv 0) (pa_cons (pv 1) pa_nil))))
    (pss_one (ps_ret (pe_lc (own := [("place", 3)]) (g := gName 3) rfl sc_rows_from.nd (pi_U (pv 2)) (blkOk_by (own := [("place", 3)]) (N := ["rows", "start", "places", "place", "goal"]) (sc := defScope st_rows_from) (by decide +kernel)) (fun _ _ _ _ _ => (pg_name (i := 3) sc_rows_from.nd rfl (Or.inl rfl))) (fun _ _ _ _ _ => pts_nil) (fun _ _ _ _ _ => (pe_lc (own := [("goal", 4)]) (g := gName 4) rfl sc_rows_from.nd (pi_UK (K := K) (pe_ix (ix_seq : IxR _ (rIx K)) (pv 0) (pv 3) (fun _ _ => rfl)) rfl) (blkOk_by (own := [("goal", 4)]) (N := ["rows", "start", "places", "place", "goal"]) (by kernel_rfl)) (fun _ _ _ _ _ => (pg_name (i := 4) sc_rows_from.nd rfl (Or.inl rfl))) (fun _ _ _ _ _ => pts_nil) (fun _ _ _ _ _ => (PE.K (K := K) (t := fun K_ => tBM K_ _ _ _ _) (pe_bm PySem.F.plainAttrs_list PySem.F.slot_list_index PySem.F.type_list_index ((mt_indexU (ru5 hr)) : MtR _ _ (rIndexU K)) (pv 2) (pa_cons (pv 4) pa_nil)) rfl)))))))), ?_⟩
  exact VSt.fn (N := ["rows", "start", "places", "place", "goal"]) (μ' := [.o 0, .o 0, .o 0, .o 0, .o 0]) (mb := mb_rows_from cM)
    (VSt.seq (μ1 := [.o 0, .o 0, .o 0, .o 0, .o 0]) (VSt.set (i := 2) (VE.x (VE.sh (n := 1) (VE.call (VA.cons mo_Z (VP.var0 rfl) (VA.cons mo_Z (VP.var0 rfl) VA.nil))))))
    (VSt.ret (VE.x (VE.sh (n := 1) (VE.lc (vs := [3]) (VIp.any (K := K) (VP.var0 rfl)) (VG.name rfl) (WG.name (by decide)) VTp.yes (VE.sh (n := 1) (VE.lc (vs := [4]) (VIp.any (K := K) (VE.z (n := 0) (VE.bin mo_1 (opp_ix (K := K)) (VP.z1 (VP.var0 rfl)) (VP.z1 (VP.var0 rfl))))) (VG.name rfl) (WG.name (by decide)) VTp.yes (VE.mt (K := K) mo_H ty_indexL mtp_indexL VP.varH (VA.cons mo_H VP.varH VA.nil))))))))) h
abbrev st_Machine___init__ : Stmt := inClass (top 33) 1
theorem sc_Machine___init__ : FnScope ["self", "letters", "rows", "met", "place", "row_here"] ["self", "letters", "rows"] (defScope st_Machine___init__) := ⟨rfl, rfl, rfl, by decide +kernel, rfl, by decide +kernel, by decide +kernel⟩
theorem ok_Machine___init__ {f : Addr} {fd : FuncData} {cM : Addr} (F : Fun K "__init__" "Machine.__init__" st_Machine___init__ f fd) (B : Bn mg) (T_Machine : TC_Machine K cM) (D_want_rows : Df P w K mg base 3 "want_rows" ["letters", "rows"] (spV 0 (m_want_rows cM))) (D_met_from : Df P w K mg base 1 "met_from" ["rows", "start"] (spV 1 (m_met_from cM))) :
    FnOk P w K mg base CX0 4 f fd ["self", "letters", "rows"] (spP 3 0 (m_Machine___init__ cM)) := by
  obtain ⟨f_want_rows, fd_want_rows, G_want_rows, m_want_rows, k_want_rows, b_want_rows⟩ := D_want_rows
  obtain ⟨f_met_from, fd_met_from, G_met_from, m_met_from, k_met_from, b_met_from⟩ := D_met_from
  refine F.ok sc_Machine___init__ spP_len (fun cdv A outer s H vs Q E hr h => ?_)
  refine ⟨_, (pss_cons (ps_expr (pe_call G_want_rows (hr.mono (show 3 ≤ 3 by decide)) rfl m_want_rows k_want_rows b_want_rows .nil pass0 (pa_cons (pv 1) (pa_cons (pv 2) pa_nil))))
    (pss_cons (ps_set (i := 3) sc_Machine___init__.nd rfl (Or.inl rfl) (pe_call G_met_from (hr.mono (show 1 ≤ 3 by decide)) rfl m_met_from k_met_from b_met_from .nil pass0 (pa_cons (pv 2) (pa_cons pe_int pa_nil))))
    (pss_cons (ps_for PassesOwn.never rfl (pi_range1 rfl B.n_range (pa_cons (pe_callB call_lenU rfl B.n_len PySem.boot_len (pa_cons (pv 2) pa_nil)) pa_nil)) (pg_name (i := 4) sc_Machine___init__.nd rfl (Or.inl rfl)) (pss_one (ps_if (pt_cmpR (op_notInU (ru5 hr)) (pv 4) (pv 3) rfl) (pss_one ps_never) pss_nil)))
    (pss_cons (ps_fld (pv 0) (pv 1) rfl)
    (pss_one (ps_fld (pv 0) (pe_lc (own := [("row_here", 5)]) (g := gName 5) rfl sc_Machine___init__.nd (pi_U (pv 2)) (blkOk_by (own := [("row_here", 5)]) (N := ["self", "letters", "rows", "met", "place", "row_here"]) (sc := defScope st_Machine___init__) (by decide +kernel)) (fun _ _ _ _ _ => (pg_name (i := 5) sc_Machine___init__.nd rfl (Or.inl rfl))) (fun _ _ _ _ _ => pts_nil) (fun _ _ _ _ _ => (pe_callTy (call_list_of : CallR _ _ (rListS K)) rfl B.n_list (by decide +kernel) (pa_cons (pv 5) pa_nil)))) rfl)))))), ?_⟩
  exact VSt.fnP (N := ["self", "letters", "rows", "met", "place", "row_here"]) (μ' := fun p => [.pot p 3, .o 0, .o 0, .o 0, .o 0, .o 0]) (mb := mb_Machine___init__ cM) (fun p =>
    (VSt.seq (μ1 := [.pot p 3, .o 0, .o 0, .o 0, .o 0, .o 0]) (VSt.drop (n := 0) (VE.x (VE.call (VA.cons mo_Z (VP.var0 rfl) (VA.cons mo_Z (VP.var0 rfl) VA.nil)))))
    (VSt.seq (μ1 := [.pot p 3, .o 0, .o 0, .o 0, .o 0, .o 0]) (VSt.set (i := 3) (VE.x (VE.sh (n := 1) (VE.call (VA.cons mo_Z (VP.var0 rfl) (VA.cons mo_Z (VE.z (n := 0) VE.cI) VA.nil))))))
    (VSt.seq (μ1 := [.pot p 3, .o 0, .o 0, .o 0, .o 0, .o 0]) (VSt.for (VIp.x (VIp.range1 (VA.cons mo_H (VE.h (n := 0) (VE.ar (arp_len (K := K)) (VA.cons mo_H VP.varH VA.nil))) VA.nil))) (VG.name rfl) (VSt.ite (VTp.x (VTp.of (VE.h (n := 0) (VE.bin mo_H (opp_notIn (K := K)) VP.varH VP.varH)))) VSt.never VSt.next))
    (VSt.seq (μ1 := [.pot p 3, .o 0, .o 0, .o 0, .o 0, .o 0]) (VSt.setF (VE.x (VE.scal (n := 2) VP.varH)) rfl T_Machine.cl T_Machine.n_own_letters)
    (VSt.setF (VE.x (VE.lc (vs := [5]) (VIp.any (K := K) (VP.var0 rfl)) (VG.name rfl) (WG.name (by decide)) VTp.yes (VE.ar (arp_list (K := K)) (VA.cons mo_1 (VP.z1 (VP.var0 rfl)) VA.nil)))) rfl T_Machine.cl T_Machine.n_own_rows)))))) (by decide) (fun p => rfl) h
abbrev st_Machine_come_to : Stmt := inClass (top 33) 2
theorem sc_Machine_come_to : FnScope ["letters", "rows"] ["letters", "rows"] (defScope st_Machine_come_to) := ⟨rfl, rfl, rfl, by decide +kernel, rfl, by decide +kernel, by decide +kernel⟩
theorem ok_Machine_come_to {f : Addr} {fd : FuncData} {cM : Addr} (F : Fun K "come_to" "Machine.come_to" st_Machine_come_to f fd) (B : Bn mg) (D_want_rows : Df P w K mg base 3 "want_rows" ["letters", "rows"] (spV 0 (m_want_rows cM))) (D_Machine___init__ : Di P w K mg base cM 4 ["self", "letters", "rows"] (spP 3 0 (m_Machine___init__ cM))) (mk_Machine : mg "Machine" = some (.ref cM)) (D_rows_from : Df P w K mg base 2 "rows_from" ["rows", "start"] (spV 0 (m_rows_from cM))) :
    FnOk P w K mg base CX0 6 f fd ["letters", "rows"] (spV 0 (m_Machine_come_to cM)) := by
  obtain ⟨f_want_rows, fd_want_rows, G_want_rows, m_want_rows, k_want_rows, b_want_rows⟩ := D_want_rows
  obtain ⟨f_Machine___init__, fd_Machine___init__, MK_Machine, G_Machine___init__, b_Machine___init__⟩ := D_Machine___init__
  have m_Machine := mk_Machine
  obtain ⟨f_rows_from, fd_rows_from, G_rows_from, m_rows_from, k_rows_from, b_rows_from⟩ := D_rows_from
  refine F.ok sc_Machine_come_to spV_len (fun cdv A outer s H vs Q E hr h => ?_)
  refine ⟨_, (pss_cons (ps_expr (pe_call G_want_rows (hr.mono (show 3 ≤ 5 by decide)) rfl m_want_rows k_want_rows b_want_rows .nil pass0 (pa_cons (pv 0) (pa_cons (pv 1) pa_nil))))
    (pss_one (ps_ret (pe_make MK_Machine G_Machine___init__ (hr.mono (show 5 ≤ 5 by decide)) rfl m_Machine b_Machine___init__ .nil pass0 (pa_cons (pv 0) (pa_cons (pe_call G_rows_from (hr.mono (show 2 ≤ 5 by decide)) rfl m_rows_from k_rows_from b_rows_from .nil pass0 (pa_cons (pv 1) (pa_cons pe_int pa_nil))) pa_nil)))))), ?_⟩
  exact VSt.fn (N := ["letters", "rows"]) (μ' := [.o 0, .o 0]) (mb := mb_Machine_come_to cM)
    (VSt.seq (μ1 := [.o 0, .o 0]) (VSt.drop (n := 0) (VE.x (VE.call (VA.cons mo_Z (VP.var0 rfl) (VA.cons mo_Z (VP.var0 rfl) VA.nil)))))
    (VSt.ret (VE.x (VE.sh (n := 3) (VE.make (VA.cons mo_Z (VP.var0 rfl) (VA.cons mo_Z (VE.z (n := 0) (VE.call (VA.cons mo_Z (VP.var0 rfl) (VA.cons mo_Z (VE.z (n := 0) VE.cI) VA.nil)))) VA.nil))))))) h
abbrev st_Machine_letters : Stmt := inClass (top 33) 3
theorem sc_Machine_letters : FnScope ["self"] ["self"] (defScope st_Machine_letters) := ⟨rfl, rfl, rfl, by decide +kernel, rfl, by decide +kernel, by decide +kernel⟩
theorem ok_Machine_letters {f : Addr} {fd : FuncData} {cM : Addr} (F : Fun K "letters" "Machine.letters" st_Machine_letters f fd) (B : Bn mg) (T_Machine : TC_Machine K cM) :
    FnOk P w K mg base CX0 1 f fd ["self"] (spV 0 (m_Machine_letters cM)) := by
  refine F.ok sc_Machine_letters spV_len (fun cdv A outer s H vs Q E hr h => ?_)
  refine ⟨_, (pss_one (ps_ret (pe_fld (pv 0) rfl))), ?_⟩
  exact VSt.fn (N := ["self"]) (μ' := [.o 0]) (mb := mb_Machine_letters cM)
    (VSt.ret (VE.x (VE.fld (VP.z1 (VP.var0 rfl)) T_Machine.cl T_Machine.n_own_letters))) h
abbrev st_Machine_rows : Stmt := inClass (top 33) 4
theorem sc_Machine_rows : FnScope ["self", "row"] ["self"] (defScope st_Machine_rows) := ⟨rfl, rfl, rfl, by decide +kernel, rfl, by decide +kernel, by decide +kernel⟩
theorem ok_Machine_rows {f : Addr} {fd : FuncData} {cM : Addr} (F : Fun K "rows" "Machine.rows" st_Machine_rows f fd) (B : Bn mg) (T_Machine : TC_Machine K cM) :
    FnOk P w K mg base CX0 1 f fd ["self"] (spV 2 (m_Machine_rows cM)) := by
  refine F.ok sc_Machine_rows spV_len (fun cdv A outer s H vs Q E hr h => ?_)
  refine ⟨_, (pss_one (ps_ret (pe_lc (own := [("row", 1)]) (g := gName 1) rfl sc_Machine_rows.nd (pi_U (pe_fld (pv 0) rfl)) (blkOk_by (own := [("row", 1)]) (N := ["self", "row"]) (sc := defScope st_Machine_rows) (by decide +kernel)) (fun _ _ _ _ _ => (pg_name (i := 1) sc_Machine_rows.nd rfl (Or.inl rfl))) (fun _ _ _ _ _ => pts_nil) (fun _ _ _ _ _ => (pe_callTy (call_list_of : CallR _ _ (rListS K)) rfl B.n_list (by decide +kernel) (pa_cons (pv 1) pa_nil)))))), ?_⟩
  exact VSt.fn (N := ["self", "row"]) (μ' := [.o 0, .o 0]) (mb := mb_Machine_rows cM)
    (VSt.ret (VE.x (VE.lc (vs := [1]) (VIp.any (K := K) (VE.z (n := 0) (VE.fld (VP.z1 (VP.var0 rfl)) T_Machine.cl T_Machine.n_own_rows))) (VG.name rfl) (WG.name (by decide)) VTp.yes (VE.ar (arp_list (K := K)) (VA.cons mo_1 (VP.z1 (VP.var0 rfl)) VA.nil))))) h
abbrev st_Machine___len__ : Stmt := inClass (top 33) 13
theorem sc_Machine___len__ : FnScope ["self"] ["self"] (defScope st_Machine___len__) := ⟨rfl, rfl, rfl, by decide +kernel, rfl, by decide +kernel, by decide +kernel⟩
theorem ok_Machine___len__ {f : Addr} {fd : FuncData} {cM : Addr} (F : Fun K "__len__" "Machine.__len__" st_Machine___len__ f fd) (B : Bn mg) (T_Machine : TC_Machine K cM) :
    FnOk P w K mg base CX0 1 f fd ["self"] (spV 0 (m_Machine___len__ cM)) := by
  refine F.ok sc_Machine___len__ spV_len (fun cdv A outer s H vs Q E hr h => ?_)
  refine ⟨_, (pss_one (ps_ret (pe_callB call_lenU rfl B.n_len PySem.boot_len (pa_cons (pe_fld (pv 0) rfl) pa_nil)))), ?_⟩
  exact VSt.fn (N := ["self"]) (μ' := [.o 0]) (mb := mb_Machine___len__ cM)
    (VSt.ret (VE.x (VE.ar (arp_len (K := K)) (VA.cons mo_H (VE.h (n := 0) (VE.fld (VP.z1 (VP.var0 rfl)) T_Machine.cl T_Machine.n_own_rows)) VA.nil)))) h
abbrev st_is_place_of : Stmt := top 20
theorem sc_is_place_of : FnScope ["machine", "value"] ["machine", "value"] (defScope st_is_place_of) := ⟨rfl, rfl, rfl, by decide +kernel, rfl, by decide +kernel, by decide +kernel⟩
theorem ok_is_place_of {f : Addr} {fd : FuncData} {cM : Addr} (F : Fun K "is_place_of" "is_place_of" st_is_place_of f fd) (B : Bn mg) (T_Machine : TC_Machine K cM) (D_is_count : Df P w K mg base 2 "is_count" ["value"] (spV 0 (m_is_count cM))) (D_Machine___len__ : Do P w K mg base cM 1 "__len__" ["self"] (spV 0 (m_Machine___len__ cM))) :
    FnOk P w K mg base CX0 3 f fd ["machine", "value"] (spV 0 (m_is_place_of cM)) := by
  obtain ⟨f_is_count, fd_is_count, G_is_count, m_is_count, k_is_count, b_is_count⟩ := D_is_count
  obtain ⟨f_Machine___len__, fd_Machine___len__, G_Machine___len__, s_Machine___len__, i_Machine___len__, b_Machine___len__⟩ := D_Machine___len__
  refine F.ok sc_is_place_of spV_len (fun cdv A outer s H vs Q E hr h => ?_)
  refine ⟨_, (pss_one (ps_ret (pe_and (pe_call G_is_count (hr.mono (show 2 ≤ 2 by decide)) rfl m_is_count k_is_count b_is_count .nil pass0 (pa_cons (pv 1) pa_nil)) (pe_one (pe_cmpR op_ltU (pv 1) (pe_callB (call_lenOwn (C := cM) G_Machine___len__ (hr.mono (show 2 ≤ 2 by decide)) b_Machine___len__ pass0 s_Machine___len__ i_Machine___len__) rfl B.n_len PySem.boot_len (pa_cons (pv 0) pa_nil)) (nomark _)))))), ?_⟩
  exact VSt.fn (N := ["machine", "value"]) (μ' := [.o 0, .o 0]) (mb := mb_is_place_of cM)
    (VSt.ret (VE.x (VE.and (VE.h (n := 0) (VE.call (VA.cons mo_Z (VP.var0 rfl) VA.nil))) (VE.bin mo_H opp_lt VP.varH (VE.h (n := 0) (VE.lenOwn (VP.var0 rfl))))))) h
abbrev st_want_place : Stmt := top 21
theorem sc_want_place : FnScope ["machine", "value"] ["machine", "value"] (defScope st_want_place) := ⟨rfl, rfl, rfl, by decide +kernel, rfl, by decide +kernel, by decide +kernel⟩
theorem ok_want_place {f : Addr} {fd : FuncData} {cM : Addr} (F : Fun K "want_place" "want_place" st_want_place f fd) (B : Bn mg) (D_is_place_of : Df P w K mg base 3 "is_place_of" ["machine", "value"] (spV 0 (m_is_place_of cM))) :
    FnOk P w K mg base CX0 4 f fd ["machine", "value"] (spV 0 (m_want_place cM)) := by
  obtain ⟨f_is_place_of, fd_is_place_of, G_is_place_of, m_is_place_of, k_is_place_of, b_is_place_of⟩ := D_is_place_of
  refine F.ok sc_want_place spV_len (fun cdv A outer s H vs Q E hr h => ?_)
  refine ⟨_, (pss_one (ps_if (pt_not (pt_val (pe_call G_is_place_of (hr.mono (show 3 ≤ 3 by decide)) rfl m_is_place_of k_is_place_of b_is_place_of .nil pass0 (pa_cons (pv 0) (pa_cons (pv 1) pa_nil))))) (pss_one ps_never) pss_nil)), ?_⟩
  exact VSt.fn (N := ["machine", "value"]) (μ' := [.o 0, .o 0]) (mb := mb_want_place cM)
    (VSt.ite (VTp.x (VTp.not (VTp.of (VE.h (n := 0) (VE.call (VA.cons mo_Z (VP.var0 rfl) (VA.cons mo_Z (VP.var0 rfl) VA.nil))))))) VSt.never VSt.next) h
abbrev st_want_letter : Stmt := top 34
theorem sc_want_letter : FnScope ["machine", "letter"] ["machine", "letter"] (defScope st_want_letter) := ⟨rfl, rfl, rfl, by decide +kernel, rfl, by decide +kernel, by decide +kernel⟩
theorem ok_want_letter {f : Addr} {fd : FuncData} {cM : Addr} (F : Fun K "want_letter" "want_letter" st_want_letter f fd) (B : Bn mg) (T_Machine : TC_Machine K cM) (D_Machine_letters : Dp_ P w K mg base cM 1 "letters" (spV 0 (m_Machine_letters cM))) :
    FnOk P w K mg base CX0 3 f fd ["machine", "letter"] (spV 0 (m_want_letter cM)) := by
  obtain ⟨pp_Machine_letters, f_Machine_letters, fd_Machine_letters, p_Machine_letters, G_Machine_letters, b_Machine_letters⟩ := D_Machine_letters
  refine F.ok sc_want_letter spV_len (fun cdv A outer s H vs Q E hr h => ?_)
  refine ⟨_, (pss_one (ps_if (PW.pt (pw_or (pt_not (pt_val (pe_callB call_isi rfl B.n_isinstance (by decide +kernel) (pa_cons (pv 1) (pa_cons (pe_bltn (v := .ty "str") (u := .type "str") rfl B.n_str (by decide +kernel) rfl) pa_nil))))) (pw_or (pt_cmpR (op_neU (ru hr)) (pe_callB call_lenU rfl B.n_len PySem.boot_len (pa_cons (pv 1) pa_nil)) pe_int (nomark _)) (pw_or1 (pt_cmpR (op_notInU (ru5 hr)) (pv 1) (pe_prop (pv 0) T_Machine.cl p_Machine_letters G_Machine_letters (hr.mono (show 2 ≤ 2 by decide)) b_Machine_letters .nil pass0 rfl) rfl))))) (pss_one ps_never) pss_nil)), ?_⟩
  exact VSt.fn (N := ["machine", "letter"]) (μ' := [.o 0, .o 0]) (mb := mb_want_letter cM)
    (VSt.ite (VTp.x (VTp.or (VTp.not (VTp.of (VE.h (n := 0) (VE.isi (K := K) (cs := []) (fun _ z => nomatch z) VP.varH)))) (VTp.or (VTp.of (VE.h (n := 0) (VE.bin mo_H (opp_ne (K := K)) (VE.h (n := 0) (VE.ar (arp_len (K := K)) (VA.cons mo_H VP.varH VA.nil))) (VE.h (n := 0) VE.cI)))) (VTp.of (VE.h (n := 0) (VE.bin mo_H (opp_notIn (K := K)) VP.varH (VE.h (n := 0) (VE.prop (VP.var0 rfl))))))))) VSt.never VSt.next) h
abbrev st_want_text : Stmt := top 35
theorem sc_want_text : FnScope ["machine", "text", "letter"] ["machine", "text"] (defScope st_want_text) := ⟨rfl, rfl, rfl, by decide +kernel, rfl, by decide +kernel, by decide +kernel⟩
theorem ok_want_text {f : Addr} {fd : FuncData} {cM : Addr} (F : Fun K "want_text" "want_text" st_want_text f fd) (B : Bn mg) (T_Machine : TC_Machine K cM) (D_is_text : Df P w K mg base 1 "is_text" ["value"] (spV 0 (m_is_text cM))) (D_Machine_letters : Dp_ P w K mg base cM 1 "letters" (spV 0 (m_Machine_letters cM))) :
    FnOk P w K mg base CX0 3 f fd ["machine", "text"] (spV 0 (m_want_text cM)) := by
  obtain ⟨f_is_text, fd_is_text, G_is_text, m_is_text, k_is_text, b_is_text⟩ := D_is_text
  obtain ⟨pp_Machine_letters, f_Machine_letters, fd_Machine_letters, p_Machine_letters, G_Machine_letters, b_Machine_letters⟩ := D_Machine_letters
  refine F.ok sc_want_text spV_len (fun cdv A outer s H vs Q E hr h => ?_)
  refine ⟨_, (pss_one (ps_if (PW.pt (pw_or (pt_not (pt_val (pe_call G_is_text (hr.mono (show 1 ≤ 2 by decide)) rfl m_is_text k_is_text b_is_text .nil pass0 (pa_cons (pv 1) pa_nil)))) (pw_or1 (pt_not (pt_val (pe_callB (cr_all rfl) rfl B.n_all (by decide +kernel) (pa_cons (pe_lc (own := [("letter", 2)]) (g := gName 2) rfl sc_want_text.nd (pi_U (pv 1)) (blkOk_by (own := [("letter", 2)]) (N := ["machine", "text", "letter"]) (sc := defScope st_want_text) (by decide +kernel)) (fun _ _ _ _ _ => (pg_name (i := 2) sc_want_text.nd rfl (Or.inl rfl))) (fun _ _ _ _ _ => pts_nil) (fun _ _ _ _ _ => (pe_cmpR ((op_inU (ru5 hr)) : OpR _ _ (rInU K)) (pv 2) (pe_prop (pv 0) T_Machine.cl p_Machine_letters G_Machine_letters (hr.mono (show 2 ≤ 2 by decide)) b_Machine_letters .nil pass0 rfl) rfl))) pa_nil))))))) (pss_one ps_never) pss_nil)), ?_⟩
  exact VSt.fn (N := ["machine", "text", "letter"]) (μ' := [.o 0, .o 0, .o 0]) (mb := mb_want_text cM)
    (VSt.ite (VTp.x (VTp.or (VTp.not (VTp.of (VE.h (n := 0) (VE.call (VA.cons mo_Z (VP.var0 rfl) VA.nil))))) (VTp.not (VTp.of (VE.h (n := 0) (VE.ar (arp_all (K := K)) (VA.cons mo_H (VE.h (n := 1) (VE.lc (vs := [2]) (VIp.any (K := K) (VP.var0 rfl)) (VG.name rfl) (WG.name (by decide)) VTp.yes (VE.bin mo_H (opp_in (K := K)) VP.varH (VE.h (n := 0) (VE.prop (VP.var0 rfl)))))) VA.nil))))))) VSt.never VSt.next) h
abbrev st_Machine_led : Stmt := inClass (top 33) 6
theorem sc_Machine_led : FnScope ["self", "place", "text", "found", "letter"] ["self", "place", "text"] (defScope st_Machine_led) := ⟨rfl, rfl, rfl, by decide +kernel, rfl, by decide +kernel, by decide +kernel⟩
theorem ok_Machine_led {f : Addr} {fd : FuncData} {cM : Addr} (F : Fun K "led" "Machine.led" st_Machine_led f fd) (B : Bn mg) (T_Machine : TC_Machine K cM) :
    FnOk P w K mg base CX0 1 f fd ["self", "place", "text"] (spV 1 (m_Machine_led cM)) := by
  refine F.ok sc_Machine_led spV_len (fun cdv A outer s H vs Q E hr h => ?_)
  refine ⟨_, (pss_cons (ps_set (i := 3) sc_Machine_led.nd rfl (Or.inl rfl) (pe_lst (pa_cons (pv 1) pa_nil)))
    (pss_cons (ps_for PassesOwn.never rfl (pi_U (pv 2)) (pg_name (i := 4) sc_Machine_led.nd rfl (Or.inl rfl)) (pss_one (ps_expr (pe_bm PySem.F.plainAttrs_list PySem.F.slot_list_append PySem.F.type_list_append mt_append (pv 3) (pa_cons (pe_ix ix_seq (pe_ix ix_seq (pe_fld (pv 0) rfl) (pe_ix ix_seq (pv 3) (pe_un un_neg pe_int) (fun _ _ => rfl)) (fun _ _ => rfl)) (pe_bm PySem.F.plainAttrs_str PySem.F.slot_str_index PySem.F.type_str_index mt_indexT (pe_fld (pv 0) rfl) (pa_cons (pv 4) pa_nil)) (fun _ _ => rfl)) pa_nil)))))
    (pss_one (ps_ret (pv 3))))), ?_⟩
  exact VSt.fn (N := ["self", "place", "text", "found", "letter"]) (μ' := [.o 0, .o 0, .o 0, .o 1, .o 0]) (mb := mb_Machine_led cM)
    (VSt.seq (μ1 := [.o 0, .o 0, .o 0, .o 1, .o 0]) (VSt.set (i := 3) (VE.x (VE.lst (VA.cons mo_Z (VP.var0 rfl) VA.nil))))
    (VSt.seq (μ1 := [.o 0, .o 0, .o 0, .o 1, .o 0]) (VSt.for (VIp.x (VIp.any (K := K) (VP.var0 rfl))) (VG.name rfl) (VSt.drop (n := 0) (VX.append (VE.x (VE.bin mo_1 (opp_ix (K := K)) (VE.one (n := 0) (VE.bin mo_1 (opp_ix (K := K)) (VE.one (n := 0) (VE.fld (VP.z1 (VP.var0 rfl)) T_Machine.cl T_Machine.n_own_rows)) (VE.one (n := 0) (VE.ixNeg (K := K) (VP.var1 rfl))))) (VE.one (n := 0) (VE.mt (K := K) mo_H ty_indexS mtp_indexS (VE.h (n := 0) (VE.fld (VP.z1 (VP.var0 rfl)) T_Machine.cl T_Machine.n_own_letters)) (VA.cons mo_H VP.varH VA.nil))))) rfl)))
    (VSt.retV rfl))) h
abbrev st_Machine_goes : Stmt := inClass (top 33) 8
theorem sc_Machine_goes : FnScope ["self", "place", "text"] ["self", "place", "text"] (defScope st_Machine_goes) := ⟨rfl, rfl, rfl, by decide +kernel, rfl, by decide +kernel, by decide +kernel⟩
theorem ok_Machine_goes {f : Addr} {fd : FuncData} {cM : Addr} (F : Fun K "goes" "Machine.goes" st_Machine_goes f fd) (B : Bn mg) (T_Machine : TC_Machine K cM) (D_want_place : Df P w K mg base 4 "want_place" ["machine", "value"] (spV 0 (m_want_place cM))) (D_want_text : Df P w K mg base 3 "want_text" ["machine", "text"] (spV 0 (m_want_text cM))) (D_Machine_led : Dm P w K mg base cM 1 "led" ["self", "place", "text"] (spV 1 (m_Machine_led cM))) :
    FnOk P w K mg base CX0 5 f fd ["self", "place", "text"] (spV 0 (m_Machine_goes cM)) := by
  obtain ⟨f_want_place, fd_want_place, G_want_place, m_want_place, k_want_place, b_want_place⟩ := D_want_place
  obtain ⟨f_want_text, fd_want_text, G_want_text, m_want_text, k_want_text, b_want_text⟩ := D_want_text
  obtain ⟨f_Machine_led, fd_Machine_led, G_Machine_led, M_Machine_led, b_Machine_led⟩ := D_Machine_led
  refine F.ok sc_Machine_goes spV_len (fun cdv A outer s H vs Q E hr h => ?_)
  refine ⟨_, (pss_cons (ps_expr (pe_call G_want_place (hr.mono (show 4 ≤ 4 by decide)) rfl m_want_place k_want_place b_want_place .nil pass0 (pa_cons (pv 0) (pa_cons (pv 1) pa_nil))))
    (pss_cons (ps_expr (pe_call G_want_text (hr.mono (show 3 ≤ 4 by decide)) rfl m_want_text k_want_text b_want_text .nil pass0 (pa_cons (pv 0) (pa_cons (pv 2) pa_nil))))
    (pss_one (ps_ret (pe_ix ix_seq (pe_meth (pv 0) T_Machine.cl M_Machine_led G_Machine_led (hr.mono (show 1 ≤ 4 by decide)) b_Machine_led .nil pass0 (pa_cons (pv 1) (pa_cons (pv 2) pa_nil))) (pe_un un_neg pe_int) (fun _ _ => rfl)))))), ?_⟩
  exact VSt.fn (N := ["self", "place", "text"]) (μ' := [.o 0, .o 0, .o 0]) (mb := mb_Machine_goes cM)
    (VSt.seq (μ1 := [.o 0, .o 0, .o 0]) (VSt.drop (n := 0) (VE.x (VE.call (VA.cons mo_Z (VP.var0 rfl) (VA.cons mo_Z (VP.var0 rfl) VA.nil)))))
    (VSt.seq (μ1 := [.o 0, .o 0, .o 0]) (VSt.drop (n := 0) (VE.x (VE.call (VA.cons mo_Z (VP.var0 rfl) (VA.cons mo_Z (VP.var0 rfl) VA.nil)))))
    (VSt.ret (VE.x (VE.ixNeg (K := K) (VE.one (n := 1) (VE.meth (VP.var0 rfl) (VA.cons mo_Z (VP.var0 rfl) (VA.cons mo_Z (VP.var0 rfl) VA.nil))))))))) h
abbrev st_Machine_first_text : Stmt := inClass (top 33) 9
theorem sc_Machine_first_text : FnScope ["self", "place", "texts", "places", "at", "letter", "goal"] ["self", "place"] (defScope st_Machine_first_text) := ⟨rfl, rfl, rfl, by decide +kernel, rfl, by decide +kernel, by decide +kernel⟩
theorem ok_Machine_first_text {f : Addr} {fd : FuncData} {cM : Addr} (F : Fun K "first_text" "Machine.first_text" st_Machine_first_text f fd) (B : Bn mg) (T_Machine : TC_Machine K cM) (D_want_place : Df P w K mg base 4 "want_place" ["machine", "value"] (spV 0 (m_want_place cM))) :
    FnOk P w K mg base CX0 5 f fd ["self", "place"] (spV 0 (m_Machine_first_text cM)) := by
  obtain ⟨f_want_place, fd_want_place, G_want_place, m_want_place, k_want_place, b_want_place⟩ := D_want_place
  refine F.ok sc_Machine_first_text spV_len (fun cdv A outer s H vs Q E hr h => ?_)
  refine ⟨_, (pss_cons (ps_expr (pe_call G_want_place (hr.mono (show 4 ≤ 4 by decide)) rfl m_want_place k_want_place b_want_place .nil pass0 (pa_cons (pv 0) (pa_cons (pv 1) pa_nil))))
    (pss_cons (ps_par3 (i := 2) (j := 3) (l := 4) rfl sc_Machine_first_text.nd rfl rfl rfl (by decide) (by decide) (by decide) rfl rfl rfl (pa_cons (pe_lst (pa_cons pe_str pa_nil)) (pa_cons (pe_lst (pa_cons pe_int pa_nil)) (pa_cons pe_int pa_nil))) rfl)
    (pss_cons (ps_while PassesOwn.never (pt_cmpR (op_neU (ru hr)) (pe_ix ix_seq (pv 3) (pv 4) (fun _ _ => rfl)) (pv 1) (nomark _)) (pss_cons (ps_for PassesOwn.never rfl (pi_zipU (K := K) rfl B.n_zip (pa_cons (pe_fld (pv 0) rfl) (pa_cons (pe_ix ix_seq (pe_fld (pv 0) rfl) (pe_ix ix_seq (pv 3) (pv 4) (fun _ _ => rfl)) (fun _ _ => rfl)) pa_nil)) rfl) (pg_tup rfl (pgs_cons (pg_name (i := 5) sc_Machine_first_text.nd rfl (Or.inl rfl)) (pgs_cons (pg_name (i := 6) sc_Machine_first_text.nd rfl (Or.inl rfl)) pgs_nil))) (pss_one (ps_if (pt_cmpR (op_notInU (ru5 hr)) (pv 6) (pv 3) rfl) (pss_cons (ps_expr (pe_bm PySem.F.plainAttrs_list PySem.F.slot_list_append PySem.F.type_list_append mt_append (pv 2) (pa_cons (pe_op op_addU (pe_ix ix_seq (pv 2) (pv 4) (fun _ _ => rfl)) (pv 5)) pa_nil)))
    (pss_one (ps_expr (pe_bm PySem.F.plainAttrs_list PySem.F.slot_list_append PySem.F.type_list_append mt_append (pv 3) (pa_cons (pv 6) pa_nil))))) pss_nil)))
    (pss_one (ps_aug (i := 4) sc_Machine_first_text.nd rfl (Or.inl rfl) pe_int ip_add))))
    (pss_one (ps_ret (pe_ix ix_seq (pv 2) (pv 4) (fun _ _ => rfl))))))), ?_⟩
  exact VSt.fn (N := ["self", "place", "texts", "places", "at", "letter", "goal"]) (μ' := [.o 0, .o 0, .o 1, .o 1, .o 0, .o 0, .o 0]) (mb := mb_Machine_first_text cM)
    (VSt.seq (μ1 := [.o 0, .o 0, .o 0, .o 0, .o 0, .o 0, .o 0]) (VSt.drop (n := 0) (VE.x (VE.call (VA.cons mo_Z (VP.var0 rfl) (VA.cons mo_Z (VP.var0 rfl) VA.nil)))))
    (VSt.seq (μ1 := [.o 0, .o 0, .o 1, .o 1, .o 0, .o 0, .o 0]) (VSt.par3 (i := 2) (j := 3) (l := 4) (VE.x (VE.lst (VA.cons mo_Z (VE.z (n := 0) (VE.cT (a := []))) VA.nil))) (VE.x (VE.lst (VA.cons mo_Z (VE.z (n := 0) VE.cI) VA.nil))) (VE.x VE.cI))
    (VSt.seq (μ1 := [.o 0, .o 0, .o 1, .o 1, .o 0, .o 0, .o 0]) (VSt.while (VTp.x (VTp.of (VE.h (n := 0) (VE.bin mo_H (opp_ne (K := K)) (VE.h (n := 0) (VE.bin mo_1 (opp_ix (K := K)) (VP.var1 rfl) (VP.z1 (VP.var0 rfl)))) VP.varH)))) (VSt.seq (μ1 := [.o 0, .o 0, .o 1, .o 1, .o 0, .o 0, .o 0]) (VSt.for (VIp.x (VIp.zipU (K := K) (VA.cons mo_Z (VE.z (n := 0) (VE.fld (VP.z1 (VP.var0 rfl)) T_Machine.cl T_Machine.n_own_letters)) (VA.cons mo_Z (VE.z (n := 0) (VE.bin mo_1 (opp_ix (K := K)) (VE.one (n := 0) (VE.fld (VP.z1 (VP.var0 rfl)) T_Machine.cl T_Machine.n_own_rows)) (VE.one (n := 0) (VE.bin mo_1 (opp_ix (K := K)) (VP.var1 rfl) (VP.z1 (VP.var0 rfl)))))) VA.nil)))) (VG.tup (K := K) (VGs.cons (VG.name rfl) (VGs.cons (VG.name rfl) VGs.nil))) (VSt.ite (VTp.x (VTp.of (VE.h (n := 0) (VE.bin mo_H (opp_notIn (K := K)) VP.varH VP.varH)))) (VSt.seq (μ1 := [.o 0, .o 0, .o 1, .o 1, .o 0, .o 0, .o 0]) (VSt.drop (n := 0) (VX.append (VE.x (VE.sh (n := 1) (VE.bin mo_1 (opp_add (K := K)) (VE.one (n := 0) (VE.bin mo_1 (opp_ix (K := K)) (VP.var1 rfl) (VP.z1 (VP.var0 rfl)))) (VP.z1 (VP.var0 rfl))))) rfl))
    (VSt.drop (n := 0) (VX.append (VE.x (VE.var rfl)) rfl))) VSt.next))
    (VSt.aug (VE.h (n := 0) VE.cI))))
    (VSt.ret (VE.x (VE.bin mo_1 (opp_ix (K := K)) (VP.var1 rfl) (VP.z1 (VP.var0 rfl)))))))) h
abbrev st_Machine_numbered : Stmt := inClass (top 33) 11
theorem sc_Machine_numbered : FnScope ["self"] ["self"] (defScope st_Machine_numbered) := ⟨rfl, rfl, rfl, by decide +kernel, rfl, by decide +kernel, by decide +kernel⟩
theorem ok_Machine_numbered {f : Addr} {fd : FuncData} {cM : Addr} (F : Fun K "numbered" "Machine.numbered" st_Machine_numbered f fd) (B : Bn mg) (T_Machine : TC_Machine K cM) (D_Machine___init__ : Di P w K mg base cM 4 ["self", "letters", "rows"] (spP 3 0 (m_Machine___init__ cM))) (mk_Machine : mg "Machine" = some (.ref cM)) (D_rows_from : Df P w K mg base 2 "rows_from" ["rows", "start"] (spV 0 (m_rows_from cM))) :
    FnOk P w K mg base CX0 6 f fd ["self"] (spV 0 (m_Machine_numbered cM)) := by
  obtain ⟨f_Machine___init__, fd_Machine___init__, MK_Machine, G_Machine___init__, b_Machine___init__⟩ := D_Machine___init__
  have m_Machine := mk_Machine
  obtain ⟨f_rows_from, fd_rows_from, G_rows_from, m_rows_from, k_rows_from, b_rows_from⟩ := D_rows_from
  refine F.ok sc_Machine_numbered spV_len (fun cdv A outer s H vs Q E hr h => ?_)
  refine ⟨_, (pss_one (ps_ret (pe_make MK_Machine G_Machine___init__ (hr.mono (show 5 ≤ 5 by decide)) rfl m_Machine b_Machine___init__ .nil pass0 (pa_cons (pe_fld (pv 0) rfl) (pa_cons (pe_call G_rows_from (hr.mono (show 2 ≤ 5 by decide)) rfl m_rows_from k_rows_from b_rows_from .nil pass0 (pa_cons (pe_fld (pv 0) rfl) (pa_cons pe_int pa_nil))) pa_nil))))), ?_⟩
  exact VSt.fn (N := ["self"]) (μ' := [.o 0]) (mb := mb_Machine_numbered cM)
    (VSt.ret (VE.x (VE.sh (n := 3) (VE.make (VA.cons mo_Z (VE.z (n := 0) (VE.fld (VP.z1 (VP.var0 rfl)) T_Machine.cl T_Machine.n_own_letters)) (VA.cons mo_Z (VE.z (n := 0) (VE.call (VA.cons mo_Z (VE.z (n := 0) (VE.fld (VP.z1 (VP.var0 rfl)) T_Machine.cl T_Machine.n_own_rows)) (VA.cons mo_Z (VE.z (n := 0) VE.cI) VA.nil)))) VA.nil)))))) h
abbrev st_Machine_at : Stmt := inClass (top 33) 12
theorem sc_Machine_at : FnScope ["self", "place"] ["self", "place"] (defScope st_Machine_at) := ⟨rfl, rfl, rfl, by decide +kernel, rfl, by decide +kernel, by decide +kernel⟩
theorem ok_Machine_at {f : Addr} {fd : FuncData} {cM : Addr} (F : Fun K "at" "Machine.at" st_Machine_at f fd) (B : Bn mg) (T_Machine : TC_Machine K cM) (D_want_place : Df P w K mg base 4 "want_place" ["machine", "value"] (spV 0 (m_want_place cM))) (D_Machine___init__ : Di P w K mg base cM 4 ["self", "letters", "rows"] (spP 3 0 (m_Machine___init__ cM))) (mk_Machine : mg "Machine" = some (.ref cM)) (D_rows_from : Df P w K mg base 2 "rows_from" ["rows", "start"] (spV 0 (m_rows_from cM))) :
    FnOk P w K mg base CX0 6 f fd ["self", "place"] (spV 0 (m_Machine_at cM)) := by
  obtain ⟨f_want_place, fd_want_place, G_want_place, m_want_place, k_want_place, b_want_place⟩ := D_want_place
  obtain ⟨f_Machine___init__, fd_Machine___init__, MK_Machine, G_Machine___init__, b_Machine___init__⟩ := D_Machine___init__
  have m_Machine := mk_Machine
  obtain ⟨f_rows_from, fd_rows_from, G_rows_from, m_rows_from, k_rows_from, b_rows_from⟩ := D_rows_from
  refine F.ok sc_Machine_at spV_len (fun cdv A outer s H vs Q E hr h => ?_)
  refine ⟨_, (pss_cons (ps_expr (pe_call G_want_place (hr.mono (show 4 ≤ 5 by decide)) rfl m_want_place k_want_place b_want_place .nil pass0 (pa_cons (pv 0) (pa_cons (pv 1) pa_nil))))
    (pss_one (ps_ret (pe_make MK_Machine G_Machine___init__ (hr.mono (show 5 ≤ 5 by decide)) rfl m_Machine b_Machine___init__ .nil pass0 (pa_cons (pe_fld (pv 0) rfl) (pa_cons (pe_call G_rows_from (hr.mono (show 2 ≤ 5 by decide)) rfl m_rows_from k_rows_from b_rows_from .nil pass0 (pa_cons (pe_fld (pv 0) rfl) (pa_cons (pv 1) pa_nil))) pa_nil)))))), ?_⟩
  exact VSt.fn (N := ["self", "place"]) (μ' := [.o 0, .o 0]) (mb := mb_Machine_at cM)
    (VSt.seq (μ1 := [.o 0, .o 0]) (VSt.drop (n := 0) (VE.x (VE.call (VA.cons mo_Z (VP.var0 rfl) (VA.cons mo_Z (VP.var0 rfl) VA.nil)))))
    (VSt.ret (VE.x (VE.sh (n := 3) (VE.make (VA.cons mo_Z (VE.z (n := 0) (VE.fld (VP.z1 (VP.var0 rfl)) T_Machine.cl T_Machine.n_own_letters)) (VA.cons mo_Z (VE.z (n := 0) (VE.call (VA.cons mo_Z (VE.z (n := 0) (VE.fld (VP.z1 (VP.var0 rfl)) T_Machine.cl T_Machine.n_own_rows)) (VA.cons mo_Z (VP.var0 rfl) VA.nil)))) VA.nil))))))) h
abbrev st_Machine___eq__ : Stmt := inClass (top 33) 16
theorem sc_Machine___eq__ : FnScope ["self", "other"] ["self", "other"] (defScope st_Machine___eq__) := ⟨rfl, rfl, rfl, by decide +kernel, rfl, by decide +kernel, by decide +kernel⟩
theorem ok_Machine___eq__ {f : Addr} {fd : FuncData} {cM : Addr} (F : Fun K "__eq__" "Machine.__eq__" st_Machine___eq__ f fd) (B : Bn mg) (T_Machine : TC_Machine K cM) (I_Machine : IsC K cM) (m_Machine : mg "Machine" = some (.ref cM)) :
    FnOk P w K mg base CX0 1 f fd ["self", "other"] (spV 0 (m_Machine___eq__ cM)) := by
  refine F.ok sc_Machine___eq__ spV_len (fun cdv A outer s H vs Q E hr h => ?_)
  refine ⟨_, (pss_one (ps_ret (pe_and (pe_callB call_isi rfl B.n_isinstance (by decide +kernel) (pa_cons (pv 1) (pa_cons (pe_glob (v := .ref cM) rfl m_Machine rfl) pa_nil))) (pe_and (pe_cmpR (op_eqU (ru hr)) (pe_fld (pv 0) rfl) (pe_fld (pv 1) rfl) (nomark _)) (pe_one (pe_cmpR (op_eqU (ru hr)) (pe_fld (pv 0) rfl) (pe_fld (pv 1) rfl) (nomark _))))))), ?_⟩
  exact VSt.fn (N := ["self", "other"]) (μ' := [.o 0, .o 0]) (mb := mb_Machine___eq__ cM)
    (VSt.ret (VE.x (VE.and (VE.h (n := 0) (VE.isiC (K := K) I_Machine VP.varH)) (VE.and (VE.h (n := 0) (VE.bin mo_H (opp_eq (K := K)) (VE.h (n := 0) (VE.fld (VP.z1 (VP.var0 rfl)) T_Machine.cl T_Machine.n_own_letters)) (VE.h (n := 0) (VE.fld (VP.z1 (VP.var0 rfl)) T_Machine.cl T_Machine.n_own_letters)))) (VE.bin mo_H (opp_eq (K := K)) (VE.h (n := 0) (VE.fld (VP.z1 (VP.var0 rfl)) T_Machine.cl T_Machine.n_own_rows)) (VE.h (n := 0) (VE.fld (VP.z1 (VP.var0 rfl)) T_Machine.cl T_Machine.n_own_rows))))))) h
abbrev st_Machine___repr__ : Stmt := inClass (top 33) 17
theorem sc_Machine___repr__ : FnScope ["self"] ["self"] (defScope st_Machine___repr__) := ⟨rfl, rfl, rfl, by decide +kernel, rfl, by decide +kernel, by decide +kernel⟩
theorem ok_Machine___repr__ {f : Addr} {fd : FuncData} {cM : Addr} (F : Fun K "__repr__" "Machine.__repr__" st_Machine___repr__ f fd) (B : Bn mg) (T_Machine : TC_Machine K cM) :
    GOk P w K mg base 1 f fd ["self"] (spV 0 (m_Machine___repr__ cM)) := by
  refine fun_okG F sc_Machine___repr__ spV_len (fun cdv A outer s H vs Q hgd hr h => ?_)
  refine ⟨_, (pss_one (ps_ret (pe_joined (PJ.cons pe_str (PJ.cons (pe_fmtR (pe_fld (pv 0) rfl)) (PJ.cons pe_str (PJ.cons (pe_fmtRD hgd hr (pe_fld (pv 0) rfl)) (PJ.cons pe_str PJ.nil)))))))), ?_⟩
  exact VSt.fn (N := ["self"]) (μ' := [.o 0]) (mb := mb_Machine___repr__ cM)
    (VSt.ret (VE.x (VE.joined (VJ.cons (VE.h (n := 0) (VE.cT (a := [77, 97, 99, 104, 105, 110, 101, 40]))) (VJ.cons (VE.h (n := 0) (VE.fmtR (VE.h (n := 0) (VE.fld (VP.z1 (VP.var0 rfl)) T_Machine.cl T_Machine.n_own_letters)))) (VJ.cons (VE.h (n := 0) (VE.cT (a := [44, 32]))) (VJ.cons (VE.h (n := 0) (VE.fmtRD (K := K) (VE.h (n := 0) (VE.fld (VP.z1 (VP.var0 rfl)) T_Machine.cl T_Machine.n_own_rows)))) (VJ.cons (VE.h (n := 0) (VE.cT (a := [41]))) VJ.nil)))))))) h
abbrev st__law_draw : Stmt := top 39
theorem sc__law_draw : FnScope ["_law_pot_here", "_law_many", "_law_digit"] ["_law_pot_here", "_law_many"] (defScope st__law_draw) := ⟨rfl, rfl, rfl, by decide +kernel, rfl, by decide +kernel, by decide +kernel⟩
theorem ok__law_draw {f : Addr} {fd : FuncData} {cM : Addr} (F : Fun K "_law_draw" "_law_draw" st__law_draw f fd) (B : Bn mg)  :
    GOk P w K mg base 1 f fd ["_law_pot_here", "_law_many"] (spP 1 0 (m__law_draw cM)) := by
  refine fun_okG F sc__law_draw spP_len (fun cdv A outer s H vs Q hgd hr h => ?_)
  refine ⟨_, (pss_cons (ps_if (pt_cmpR op_gt (pe_ix ix_seq (pv 0) pe_int (fun _ _ => rfl)) pe_int (nomark _)) (pss_cons (ps_asg (pe_callB call_divmod rfl B.n_divmod (by decide +kernel) (pa_cons (pe_ix ix_seq (pv 0) pe_int (fun _ _ => rfl)) (pa_cons (pv 1) pa_nil))) (pg_tup rfl (pgs_cons (pg_sub (pv 0) pe_int set_list) (pgs_cons (pg_name (i := 2) sc__law_draw.nd rfl (Or.inl rfl)) pgs_nil))))
    (pss_one (ps_ret (pv 2)))) pss_nil)
    (pss_cons (ps_asg (pe_op op_mod (pe_callTy call_int1 rfl B.n_int (by decide +kernel) (pa_cons (pe_op op_addU (pe_op op_mulU (pe_ix ix_seq (pv 0) pe_int (fun _ _ => rfl)) pe_int) pe_int) pa_nil)) pe_int) (pg_sub (pv 0) pe_int set_list))
    (pss_one (ps_ret (pe_op op_mod (pe_callTy call_int1 rfl B.n_int (by decide +kernel) (pa_cons (pe_op op_fdiv (pe_op op_mod (pe_callTy call_int1 rfl B.n_int (by decide +kernel) (pa_cons (pe_op op_mulU (pe_ix ix_seq (pv 0) pe_int (fun _ _ => rfl)) (pe_ix ix_seq (pv 0) pe_int (fun _ _ => rfl))) pa_nil)) pe_int) pe_int) pa_nil)) (pv 1)))))), ?_⟩
  exact VSt.fnP (N := ["_law_pot_here", "_law_many", "_law_digit"]) (μ' := fun p => [.pot p 1, .o 0, .o 0]) (mb := mb__law_draw cM) (fun p =>
    (VSt.seq (μ1 := [.pot p 1, .o 0, .o 0]) (VSt.ite (VTp.x (VTp.of (VE.h (n := 0) (VE.bin mo_H opp_gt (VE.h (n := 0) (VE.bin mo_1 (opp_ix (K := K)) (VP.varP rfl) (VE.one (n := 0) VE.cI))) (VE.h (n := 0) VE.cI))))) (VSt.seq (μ1 := [.pot p 1, .o 0, .o 0]) (VSt.unpSt (K := K) (VE.x (VE.ar arp_divmod (VA.cons mo_H (VE.h (n := 0) (VE.bin mo_1 (opp_ix (K := K)) (VP.varP rfl) (VE.one (n := 0) VE.cI))) (VA.cons mo_H VP.varH VA.nil)))) rfl rfl)
    (VSt.retP (VE.x (VE.var rfl)) rfl)) VSt.next)
    (VSt.seq (μ1 := [.pot p 1, .o 0, .o 0]) (VSt.setIx (VE.x (VE.bin mo_H opp_mod (VE.h (n := 0) (VE.ar arp_int (VA.cons mo_H (VE.h (n := 1) (VE.bin mo_1 (opp_add (K := K)) (VE.one (n := 1) (VE.bin mo_1 opp_mul (VE.one (n := 0) (VE.bin mo_1 (opp_ix (K := K)) (VP.varP rfl) (VE.one (n := 0) VE.cI))) (VE.one (n := 0) VE.cI))) (VE.one (n := 0) VE.cI))) VA.nil))) (VE.h (n := 0) VE.cI))) (VE.h (n := 0) VE.cI) rfl)
    (VSt.retP (VE.x (VE.bin mo_H opp_mod (VE.h (n := 0) (VE.ar arp_int (VA.cons mo_H (VE.h (n := 0) (VE.bin mo_H opp_div (VE.h (n := 0) (VE.bin mo_H opp_mod (VE.h (n := 0) (VE.ar arp_int (VA.cons mo_H (VE.h (n := 1) (VE.bin mo_1 opp_mul (VE.one (n := 0) (VE.bin mo_1 (opp_ix (K := K)) (VP.varP rfl) (VE.one (n := 0) VE.cI))) (VE.one (n := 0) (VE.bin mo_1 (opp_ix (K := K)) (VP.varP rfl) (VE.one (n := 0) VE.cI))))) VA.nil))) (VE.h (n := 0) VE.cI))) (VE.h (n := 0) VE.cI))) VA.nil))) VP.varH)) rfl)))) (by decide) (fun p => rfl) h
abbrev st__law_pick : Stmt := top 40
theorem sc__law_pick : FnScope ["_law_pot_here", "_law_some"] ["_law_pot_here", "_law_some"] (defScope st__law_pick) := ⟨rfl, rfl, rfl, by decide +kernel, rfl, by decide +kernel, by decide +kernel⟩
theorem ok__law_pick {f : Addr} {fd : FuncData} {cM : Addr} (F : Fun K "_law_pick" "_law_pick" st__law_pick f fd) (B : Bn mg) (D__law_draw : Dg P w K mg base 1 "_law_draw" ["_law_pot_here", "_law_many"] (spP 1 0 (m__law_draw cM))) :
    GOk P w K mg base 2 f fd ["_law_pot_here", "_law_some"] (spP 1 0 (m__law_pick cM)) := by
  obtain ⟨f__law_draw, fd__law_draw, G__law_draw, m__law_draw, k__law_draw, b__law_draw⟩ := D__law_draw
  refine fun_okG F sc__law_pick spP_len (fun cdv A outer s H vs Q hgd hr h => ?_)
  refine ⟨_, (pss_one (ps_ret (pe_ix ix_seq (pv 1) (pe_callG G__law_draw hgd (hr.mono (show 1 ≤ 1 by decide)) rfl m__law_draw k__law_draw b__law_draw (pa_cons (pv 0) (pa_cons (pe_callB call_lenU rfl B.n_len PySem.boot_len (pa_cons (pv 1) pa_nil)) pa_nil))) (fun _ _ => rfl)))), ?_⟩
  exact VSt.fnP (N := ["_law_pot_here", "_law_some"]) (μ' := fun p => [.pot p 1, .o 0]) (mb := mb__law_pick cM) (fun p =>
    (VSt.retP (VX.bin (OpP.z (opp_ix (K := K))) (VE.x (VE.var rfl)) (VX.callP rfl (VA.x (VA.cons mo_Z (VE.z (n := 0) (VE.ar (arp_len (K := K)) (VA.cons mo_H VP.varH VA.nil))) VA.nil)))) rfl)) (by decide) (fun p => rfl) h
abbrev st__law_met : Stmt := top 41
theorem sc__law_met : FnScope ["_law_rows_here", "_law_start", "_law_found", "_law_at", "_law_k", "_law_goal"] ["_law_rows_here", "_law_start"] (defScope st__law_met) := ⟨rfl, rfl, rfl, by decide +kernel, rfl, by decide +kernel, by decide +kernel⟩
theorem ok__law_met {f : Addr} {fd : FuncData} {cM : Addr} (F : Fun K "_law_met" "_law_met" st__law_met f fd) (B : Bn mg)  :
    GOk P w K mg base 1 f fd ["_law_rows_here", "_law_start"] (spV 0 (m__law_met cM)) := by
  refine fun_okG F sc__law_met spV_len (fun cdv A outer s H vs Q hgd hr h => ?_)
  refine ⟨_, (pss_cons (ps_asg (pe_tup (pa_cons (pe_lst (pa_cons (pv 1) pa_nil)) (pa_cons pe_int pa_nil))) (pg_tup rfl (pgs_cons (pg_name (i := 2) sc__law_met.nd rfl (Or.inr rfl)) (pgs_cons (pg_name (i := 3) sc__law_met.nd rfl (Or.inr rfl)) pgs_nil))))
    (pss_cons (ps_while PassesOwn.never (PW.pt (pw_and (pt_cmpR op_ltU (pv 3) (pe_callB call_lenU rfl B.n_len PySem.boot_len (pa_cons (pv 2) pa_nil)) (nomark _)) (pw_and1 (pt_cmpR op_ltU (pv 3) pe_int (nomark _))))) (pss_cons (ps_set (i := 2) sc__law_met.nd rfl (Or.inr rfl) (pe_op op_addU (pv 2) (pe_lc (own := [("_law_k", 4), ("_law_goal", 5)]) (g := gTup K 2 (gCons (gName 4) (gCons (gName 5) gNil))) rfl sc__law_met.nd (pi_enumS rfl B.n_enumerate (pa_cons (pe_ix ix_seq (pv 0) (pe_ix ix_seq (pv 2) (pv 3) (fun _ _ => rfl)) (fun _ _ => rfl)) pa_nil)) (blkOk_by (own := [("_law_k", 4), ("_law_goal", 5)]) (N := ["_law_rows_here", "_law_start", "_law_found", "_law_at", "_law_k", "_law_goal"]) (sc := defScope st__law_met) (by decide +kernel)) (fun _ _ _ _ _ => (pg_tup rfl (pgs_cons (pg_name (i := 4) sc__law_met.nd rfl (Or.inl rfl)) (pgs_cons (pg_name (i := 5) sc__law_met.nd rfl (Or.inl rfl)) pgs_nil)))) (fun _ _ _ _ _ => (pts_one (pt_cmpR ((op_notInU (ru5 hr)) : OpR _ _ (rNotInU K)) (pv 5) (pe_op (op_addU : OpR _ _ (rAddU K)) (pv 2) (pe_slice (sl_U : SlR _ (rSlU K)) (pe_ix (ix_seq : IxR _ (rIx K)) (pv 0) (pe_ix (ix_seq : IxR _ (rIx K)) (pv 2) (pv 3) (fun _ _ => rfl)) (fun _ _ => rfl)) po_none (po_some (pv 4)))) rfl))) (fun _ _ _ _ _ => (pv 5)))))
    (pss_one (ps_set (i := 3) sc__law_met.nd rfl (Or.inr rfl) (pe_op op_addU (pv 3) pe_int)))))
    (pss_one (ps_ret (pv 2))))), ?_⟩
  exact VSt.fn (N := ["_law_rows_here", "_law_start", "_law_found", "_law_at", "_law_k", "_law_goal"]) (μ' := [.o 0, .o 0, .o 0, .o 0, .o 0, .o 0]) (mb := mb__law_met cM)
    (VSt.seq (μ1 := [.o 0, .o 0, .o 0, .o 0, .o 0, .o 0]) (VSt.parT (K := K) (i := 2) (j := 3) (VE.x (VE.sh (n := 1) (VE.lst (VA.cons mo_Z (VP.var0 rfl) VA.nil)))) (VE.x VE.cI))
    (VSt.seq (μ1 := [.o 0, .o 0, .o 0, .o 0, .o 0, .o 0]) (VSt.while (VTp.x (VTp.and (VTp.of (VE.h (n := 0) (VE.bin mo_H opp_lt VP.varH (VE.h (n := 0) (VE.ar (arp_len (K := K)) (VA.cons mo_H VP.varH VA.nil)))))) (VTp.of (VE.h (n := 0) (VE.bin mo_H opp_lt VP.varH (VE.h (n := 0) VE.cI)))))) (VSt.seq (μ1 := [.o 0, .o 0, .o 0, .o 0, .o 0, .o 0]) (VSt.set (i := 2) (VE.x (VE.sh (n := 1) (VE.bin mo_1 (opp_add (K := K)) (VP.z1 (VP.var0 rfl)) (VE.one (n := 1) (VE.lc (vs := [4, 5]) (VIp.enum (K := K) (VA.cons mo_Z (VE.z (n := 0) (VE.bin mo_1 (opp_ix (K := K)) (VP.z1 (VP.var0 rfl)) (VE.one (n := 0) (VE.bin mo_1 (opp_ix (K := K)) (VP.z1 (VP.var0 rfl)) (VP.z1 (VP.var0 rfl)))))) VA.nil)) (VG.tup (K := K) (VGs.cons (VG.name rfl) (VGs.cons (VG.name rfl) VGs.nil))) (WG.tup (WGs.cons (by decide) (WGs.cons (by decide) WGs.nil))) (VTp.of (VE.h (n := 0) (VE.bin mo_H (opp_notIn (K := K)) VP.varH (VE.h (n := 1) (VE.bin mo_1 (opp_add (K := K)) (VP.z1 (VP.var0 rfl)) (VE.one (n := 1) (VE.sl (K := K) (VE.one (n := 0) (VE.bin mo_1 (opp_ix (K := K)) (VP.z1 (VP.var0 rfl)) (VE.one (n := 0) (VE.bin mo_1 (opp_ix (K := K)) (VP.z1 (VP.var0 rfl)) (VP.z1 (VP.var0 rfl)))))) VO.none (VO.some VP.varH)))))))) (VE.var rfl)))))))
    (VSt.set (i := 3) (VE.x (VE.sh (n := 1) (VE.bin mo_1 (opp_add (K := K)) (VP.z1 (VP.var0 rfl)) (VE.one (n := 0) VE.cI)))))))
    (VSt.ret (VE.x (VE.var rfl))))) h
abbrev st__law_called : Stmt := top 42
theorem sc__law_called : FnScope ["_law_rows_here", "_law_places", "_law_place", "_law_goal"] ["_law_rows_here", "_law_places"] (defScope st__law_called) := ⟨rfl, rfl, rfl, by decide +kernel, rfl, by decide +kernel, by decide +kernel⟩
theorem ok__law_called {f : Addr} {fd : FuncData} {cM : Addr} (F : Fun K "_law_called" "_law_called" st__law_called f fd) (B : Bn mg)  :
    GOk P w K mg base 1 f fd ["_law_rows_here", "_law_places"] (spV 0 (m__law_called cM)) := by
  refine fun_okG F sc__law_called spV_len (fun cdv A outer s H vs Q hgd hr h => ?_)
  refine ⟨_, (pss_one (ps_ret (pe_lc (own := [("_law_place", 2)]) (g := gName 2) rfl sc__law_called.nd (pi_U (pv 1)) (blkOk_by (own := [("_law_place", 2)]) (N := ["_law_rows_here", "_law_places", "_law_place", "_law_goal"]) (sc := defScope st__law_called) (by decide +kernel)) (fun _ _ _ _ _ => (pg_name (i := 2) sc__law_called.nd rfl (Or.inl rfl))) (fun _ _ _ _ _ => pts_nil) (fun _ _ _ _ _ => (pe_lc (own := [("_law_goal", 3)]) (g := gName 3) rfl sc__law_called.nd (pi_UK (K := K) (pe_ix (ix_seq : IxR _ (rIx K)) (pv 0) (pv 2) (fun _ _ => rfl)) rfl) (blkOk_by (own := [("_law_goal", 3)]) (N := ["_law_rows_here", "_law_places", "_law_place", "_law_goal"]) (by kernel_rfl)) (fun _ _ _ _ _ => (pg_name (i := 3) sc__law_called.nd rfl (Or.inl rfl))) (fun _ _ _ _ _ => pts_nil) (fun _ _ _ _ _ => (PE.K (K := K) (t := fun K_ => tBM K_ _ _ _ _) (pe_bm PySem.F.plainAttrs_list PySem.F.slot_list_index PySem.F.type_list_index ((mt_indexU (ru5 hr)) : MtR _ _ (rIndexU K)) (pv 1) (pa_cons (pv 3) pa_nil)) rfl))))))), ?_⟩
  exact VSt.fn (N := ["_law_rows_here", "_law_places", "_law_place", "_law_goal"]) (μ' := [.o 0, .o 0, .o 0, .o 0]) (mb := mb__law_called cM)
    (VSt.ret (VE.x (VE.sh (n := 1) (VE.lc (vs := [2]) (VIp.any (K := K) (VP.var0 rfl)) (VG.name rfl) (WG.name (by decide)) VTp.yes (VE.sh (n := 1) (VE.lc (vs := [3]) (VIp.any (K := K) (VE.z (n := 0) (VE.bin mo_1 (opp_ix (K := K)) (VP.z1 (VP.var0 rfl)) (VP.z1 (VP.var0 rfl))))) (VG.name rfl) (WG.name (by decide)) VTp.yes (VE.mt (K := K) mo_H ty_indexL mtp_indexL VP.varH (VA.cons mo_H VP.varH VA.nil)))))))) h
abbrev st__law_rows : Stmt := top 43
theorem sc__law_rows : FnScope ["_law_pot_here", "_law_size", "_law_most", "_law_many", "_law_rows_here", "_law_left", "_law_places", "_law_place", "_law_k"] ["_law_pot_here", "_law_size", "_law_most"] (defScope st__law_rows) := ⟨rfl, rfl, rfl, by decide +kernel, rfl, by decide +kernel, by decide +kernel⟩
theorem ok__law_rows {f : Addr} {fd : FuncData} {cM : Addr} (F : Fun K "_law_rows" "_law_rows" st__law_rows f fd) (B : Bn mg) (D__law_draw : Dg P w K mg base 1 "_law_draw" ["_law_pot_here", "_law_many"] (spP 1 0 (m__law_draw cM))) (D__law_called : Dg P w K mg base 1 "_law_called" ["_law_rows_here", "_law_places"] (spV 0 (m__law_called cM))) (D__law_met : Dg P w K mg base 1 "_law_met" ["_law_rows_here", "_law_start"] (spV 0 (m__law_met cM))) :
    GOk P w K mg base 2 f fd ["_law_pot_here", "_law_size", "_law_most"] (spP 1 0 (m__law_rows cM)) := by
  obtain ⟨f__law_draw, fd__law_draw, G__law_draw, m__law_draw, k__law_draw, b__law_draw⟩ := D__law_draw
  obtain ⟨f__law_called, fd__law_called, G__law_called, m__law_called, k__law_called, b__law_called⟩ := D__law_called
  obtain ⟨f__law_met, fd__law_met, G__law_met, m__law_met, k__law_met, b__law_met⟩ := D__law_met
  refine fun_okG F sc__law_rows spP_len (fun cdv A outer s H vs Q hgd hr h => ?_)
  refine ⟨_, (pss_cons (ps_set (i := 3) sc__law_rows.nd rfl (Or.inr rfl) (pe_op op_addU pe_int (pe_callG G__law_draw hgd (hr.mono (show 1 ≤ 1 by decide)) rfl m__law_draw k__law_draw b__law_draw (pa_cons (pv 0) (pa_cons (pv 2) pa_nil)))))
    (pss_cons (ps_setLc (i := 4) (own := [("_law_place", 7)]) (g := gName 7) rfl sc__law_rows.nd rfl rfl (sw_true rfl rfl rfl (by decide +kernel)) (pi_range1 rfl B.n_range (pa_cons (pv 3) pa_nil)) (blkOk_by (own := [("_law_place", 7)]) (N := ["_law_pot_here", "_law_size", "_law_most", "_law_many", "_law_rows_here", "_law_left", "_law_places", "_law_place", "_law_k"]) (sc := defScope st__law_rows) (by decide +kernel)) (fun _ _ _ _ _ => (pg_name (i := 7) sc__law_rows.nd rfl (Or.inl rfl))) (fun _ _ _ _ _ => pts_nil) (fun _ _ _ _ _ => (pe_lc (own := [("_law_k", 8)]) (g := gName 8) rfl sc__law_rows.nd (pi_range1 rfl B.n_range (pa_cons (pv 1) pa_nil)) (blkOk_by (own := [("_law_k", 8)]) (N := ["_law_pot_here", "_law_size", "_law_most", "_law_many", "_law_rows_here", "_law_left", "_law_places", "_law_place", "_law_k"]) (by kernel_rfl)) (fun _ _ _ _ _ => (pg_name (i := 8) sc__law_rows.nd rfl (Or.inl rfl))) (fun _ _ _ _ _ => pts_nil) (fun _ _ _ _ _ => (pe_callG G__law_draw hgd (hr.mono (show 1 ≤ 1 by decide)) rfl m__law_draw k__law_draw b__law_draw (pa_cons (pv 0) (pa_cons (pv 3) pa_nil)))))))
    (pss_cons (ps_set (i := 4) sc__law_rows.nd rfl (Or.inl rfl) (pe_callG G__law_called hgd (hr.mono (show 1 ≤ 1 by decide)) rfl m__law_called k__law_called b__law_called (pa_cons (pv 4) (pa_cons (pe_callG G__law_met hgd (hr.mono (show 1 ≤ 1 by decide)) rfl m__law_met k__law_met b__law_met (pa_cons (pv 4) (pa_cons pe_int pa_nil))) pa_nil))))
    (pss_cons (ps_par (i := 5) (j := 6) rfl sc__law_rows.nd rfl rfl (by decide) rfl rfl (pa_cons (pe_listRg rfl rfl B.n_list (prg_2 rfl B.n_range pe_int (pe_callB call_lenU rfl B.n_len PySem.boot_len (pa_cons (pv 4) pa_nil)))) (pa_cons (pe_lst (pa_cons pe_int pa_nil)) pa_nil)) rfl)
    (pss_cons (ps_while PassesOwn.never (pt_cmpR (op_neU (ru hr)) (pv 5) (pe_lst pa_nil) (nomark _)) (pss_one (ps_expr (pe_bm PySem.F.plainAttrs_list PySem.F.slot_list_append PySem.F.type_list_append mt_append (pv 6) (pa_cons (pe_bm PySem.F.plainAttrs_list PySem.F.slot_list_pop PySem.F.type_list_pop mt_popAt (pv 5) (pa_cons (pe_callG G__law_draw hgd (hr.mono (show 1 ≤ 1 by decide)) rfl m__law_draw k__law_draw b__law_draw (pa_cons (pv 0) (pa_cons (pe_callB call_lenU rfl B.n_len PySem.boot_len (pa_cons (pv 5) pa_nil)) pa_nil))) pa_nil)) pa_nil)))))
    (pss_one (ps_ret (pe_callG G__law_called hgd (hr.mono (show 1 ≤ 1 by decide)) rfl m__law_called k__law_called b__law_called (pa_cons (pv 4) (pa_cons (pv 6) pa_nil)))))))))), ?_⟩
  exact VSt.fnP (N := ["_law_pot_here", "_law_size", "_law_most", "_law_many", "_law_rows_here", "_law_left", "_law_places", "_law_place", "_law_k"]) (μ' := fun p => [.pot p 1, .o 0, .o 0, .o 0, .o 0, .o 1, .o 0, .o 0, .o 0]) (mb := mb__law_rows cM) (fun p =>
    (VSt.seq (μ1 := [.pot p 1, .o 0, .o 0, .o 0, .o 0, .o 0, .o 0, .o 0, .o 0]) (VSt.set (i := 3) (VX.sh (n := 1) (VX.bin (OpP.z (opp_add (K := K))) (VE.x VE.cI) (VX.callP rfl (VA.x (VA.cons mo_Z (VP.var0 rfl) VA.nil))))))
    (VSt.seq (μ1 := [.pot p 1, .o 0, .o 0, .o 0, .o 0, .o 0, .o 0, .o 0, .o 0]) (VSt.set (i := 4) (VX.sh (n := 1) (VX.lc (vs := [7]) (VIp.x (VIp.range1 (VA.cons mo_H VP.varH VA.nil))) (VG.name rfl) (WG.name (by decide)) VT.yes (VX.sh (n := 1) (VX.lc (vs := [8]) (VIp.x (VIp.range1 (VA.cons mo_H VP.varH VA.nil))) (VG.name rfl) (WG.name (by decide)) VT.yes (VX.callP rfl (VA.x (VA.cons mo_Z (VP.var0 rfl) VA.nil))))))))
    (VSt.seq (μ1 := [.pot p 1, .o 0, .o 0, .o 0, .o 0, .o 0, .o 0, .o 0, .o 0]) (VSt.set (i := 4) (VE.x (VE.call (VA.cons mo_Z (VP.var0 rfl) (VA.cons mo_Z (VE.z (n := 0) (VE.call (VA.cons mo_Z (VP.var0 rfl) (VA.cons mo_Z (VE.z (n := 0) VE.cI) VA.nil)))) VA.nil)))))
    (VSt.seq (μ1 := [.pot p 1, .o 0, .o 0, .o 0, .o 0, .o 1, .o 1, .o 0, .o 0]) (VSt.par (i := 5) (j := 6) (VE.x (VE.listRg2 (VE.h (n := 0) VE.cI) (VE.h (n := 0) (VE.ar (arp_len (K := K)) (VA.cons mo_H VP.varH VA.nil))))) (VE.x (VE.lst (VA.cons mo_Z (VE.z (n := 0) VE.cI) VA.nil))))
    (VSt.seq (μ1 := [.pot p 1, .o 0, .o 0, .o 0, .o 0, .o 1, .o 1, .o 0, .o 0]) (VSt.while (VTp.x (VTp.of (VE.h (n := 0) (VE.bin mo_H (opp_ne (K := K)) VP.varH (VE.h (n := 1) (VE.lst VA.nil)))))) (VSt.drop (n := 0) (VX.append (VX.popAt (VX.callP rfl (VA.x (VA.cons mo_Z (VE.z (n := 0) (VE.ar (arp_len (K := K)) (VA.cons mo_H VP.varH VA.nil))) VA.nil))) rfl) rfl)))
    (VSt.shA 6 ((VSt.retP (VE.x (VE.call (VA.cons mo_Z (VP.var0 rfl) (VA.cons mo_Z (VP.var0 rfl) VA.nil)))) rfl))))))))) (by decide) (fun p => rfl) h
abbrev st__law_letters : Stmt := top 44
theorem sc__law_letters : FnScope ["_law_pot_here"] ["_law_pot_here"] (defScope st__law_letters) := ⟨rfl, rfl, rfl, by decide +kernel, rfl, by decide +kernel, by decide +kernel⟩
theorem ok__law_letters {f : Addr} {fd : FuncData} {cM : Addr} (F : Fun K "_law_letters" "_law_letters" st__law_letters f fd) (B : Bn mg) (D__law_pick : Dg P w K mg base 2 "_law_pick" ["_law_pot_here", "_law_some"] (spP 1 0 (m__law_pick cM))) :
    GOk P w K mg base 3 f fd ["_law_pot_here"] (spP 1 0 (m__law_letters cM)) := by
  obtain ⟨f__law_pick, fd__law_pick, G__law_pick, m__law_pick, k__law_pick, b__law_pick⟩ := D__law_pick
  refine fun_okG F sc__law_letters spP_len (fun cdv A outer s H vs Q hgd hr h => ?_)
  refine ⟨_, (pss_one (ps_ret (pe_callG G__law_pick hgd (hr.mono (show 2 ≤ 2 by decide)) rfl m__law_pick k__law_pick b__law_pick (pa_cons (pv 0) (pa_cons (pe_lst (pa_cons pe_str (pa_cons pe_str (pa_cons pe_str (pa_cons pe_str (pa_cons pe_str (pa_cons pe_str (pa_cons pe_str (pa_cons pe_str (pa_cons pe_str (pa_cons pe_str (pa_cons pe_str pa_nil)))))))))))) pa_nil))))), ?_⟩
  exact VSt.fnP (N := ["_law_pot_here"]) (μ' := fun p => [.pot p 1]) (mb := mb__law_letters cM) (fun p =>
    (VSt.retP (VX.callP rfl (VA.x (VA.cons mo_Z (VE.z (n := 1) (VE.lst (VA.cons mo_Z (VE.z (n := 0) (VE.cT (a := [97]))) (VA.cons mo_Z (VE.z (n := 0) (VE.cT (a := [122]))) (VA.cons mo_Z (VE.z (n := 0) (VE.cT (a := [97, 98]))) (VA.cons mo_Z (VE.z (n := 0) (VE.cT (a := [97, 98]))) (VA.cons mo_Z (VE.z (n := 0) (VE.cT (a := [98, 120]))) (VA.cons mo_Z (VE.z (n := 0) (VE.cT (a := [97, 98, 99]))) (VA.cons mo_Z (VE.z (n := 0) (VE.cT (a := [107, 121, 122]))) (VA.cons mo_Z (VE.z (n := 0) (VE.cT (a := [103, 109, 114]))) (VA.cons mo_Z (VE.z (n := 0) (VE.cT (a := [104, 106, 119]))) (VA.cons mo_Z (VE.z (n := 0) (VE.cT (a := [108, 110, 112]))) (VA.cons mo_Z (VE.z (n := 0) (VE.cT (a := [111, 118]))) VA.nil))))))))))))) VA.nil))) rfl)) (by decide) (fun p => rfl) h
abbrev st__law_goes : Stmt := top 45
theorem sc__law_goes : FnScope ["_law_letters_here", "_law_rows_here", "_law_place", "_law_text", "_law_sign"] ["_law_letters_here", "_law_rows_here", "_law_place", "_law_text"] (defScope st__law_goes) := ⟨rfl, rfl, rfl, by decide +kernel, rfl, by decide +kernel, by decide +kernel⟩
theorem ok__law_goes {f : Addr} {fd : FuncData} {cM : Addr} (F : Fun K "_law_goes" "_law_goes" st__law_goes f fd) (B : Bn mg)  :
    GOk P w K mg base 1 f fd ["_law_letters_here", "_law_rows_here", "_law_place", "_law_text"] (spV 0 (m__law_goes cM)) := by
  refine fun_okG F sc__law_goes spV_len (fun cdv A outer s H vs Q hgd hr h => ?_)
  refine ⟨_, (pss_cons (ps_for PassesOwn.never rfl (pi_U (pv 3)) (pg_name (i := 4) sc__law_goes.nd rfl (Or.inl rfl)) (pss_one (ps_set (i := 2) sc__law_goes.nd rfl (Or.inl rfl) (pe_ix ix_seq (pe_ix ix_seq (pv 1) (pv 2) (fun _ _ => rfl)) (pe_bm PySem.F.plainAttrs_str PySem.F.slot_str_index PySem.F.type_str_index mt_indexT (pv 0) (pa_cons (pv 4) pa_nil)) (fun _ _ => rfl)))))
    (pss_one (ps_ret (pv 2)))), ?_⟩
  exact VSt.fn (N := ["_law_letters_here", "_law_rows_here", "_law_place", "_law_text", "_law_sign"]) (μ' := [.o 0, .o 0, .o 0, .o 0, .o 0]) (mb := mb__law_goes cM)
    (VSt.seq (μ1 := [.o 0, .o 0, .o 0, .o 0, .o 0]) (VSt.for (VIp.x (VIp.any (K := K) (VP.var0 rfl))) (VG.name rfl) (VSt.set (i := 2) (VE.x (VE.bin mo_1 (opp_ix (K := K)) (VE.one (n := 0) (VE.bin mo_1 (opp_ix (K := K)) (VP.z1 (VP.var0 rfl)) (VP.z1 (VP.var0 rfl)))) (VE.one (n := 0) (VE.mt (K := K) mo_H ty_indexS mtp_indexS VP.varH (VA.cons mo_H VP.varH VA.nil)))))))
    (VSt.ret (VE.x (VE.var rfl)))) h
abbrev st__law_firsts : Stmt := top 46
theorem sc__law_firsts : FnScope ["_law_letters_here", "_law_rows_here", "_law_found", "_law_texts_here", "_law_size", "_law_longer", "_law_text", "_law_place", "_law_sign"] ["_law_letters_here", "_law_rows_here"] (defScope st__law_firsts) := ⟨rfl, rfl, rfl, by decide +kernel, rfl, by decide +kernel, by decide +kernel⟩
theorem ok__law_firsts {f : Addr} {fd : FuncData} {cM : Addr} (F : Fun K "_law_firsts" "_law_firsts" st__law_firsts f fd) (B : Bn mg) (D__law_goes : Dg P w K mg base 1 "_law_goes" ["_law_letters_here", "_law_rows_here", "_law_place", "_law_text"] (spV 0 (m__law_goes cM))) :
    GOk P w K mg base 2 f fd ["_law_letters_here", "_law_rows_here"] (spV 0 (m__law_firsts cM)) := by
  obtain ⟨f__law_goes, fd__law_goes, G__law_goes, m__law_goes, k__law_goes, b__law_goes⟩ := D__law_goes
  refine fun_okG F sc__law_firsts spV_len (fun cdv A outer s H vs Q hgd hr h => ?_)
  refine ⟨_, (pss_cons (ps_par (i := 2) (j := 3) rfl sc__law_firsts.nd rfl rfl (by decide) rfl rfl (pa_cons (pe_disp (pps_cons pe_int pe_str pps_nil) rfl rfl (by decide) (by decide)) (pa_cons (pe_lst (pa_cons pe_str pa_nil)) pa_nil)) rfl)
    (pss_cons (ps_for PassesOwn.never rfl (pi_range1 rfl B.n_range (pa_cons (pe_callB call_lenU rfl B.n_len PySem.boot_len (pa_cons (pv 1) pa_nil)) pa_nil)) (pg_name (i := 4) sc__law_firsts.nd rfl (Or.inl rfl)) (pss_cons (ps_set (i := 5) sc__law_firsts.nd rfl (Or.inl rfl) (pe_lst pa_nil))
    (pss_cons (ps_for PassesOwn.never rfl (pi_U (pv 3)) (pg_name (i := 6) sc__law_firsts.nd rfl (Or.inr rfl)) (pss_one (ps_expr (pe_bm PySem.F.plainAttrs_list PySem.F.slot_list_extend PySem.F.type_list_extend mt_extend (pv 5) (pa_cons (pe_lc (own := [("_law_sign", 8)]) (g := gName 8) rfl sc__law_firsts.nd (pi_U (pv 0)) (blkOk_by (own := [("_law_sign", 8)]) (N := ["_law_letters_here", "_law_rows_here", "_law_found", "_law_texts_here", "_law_size", "_law_longer", "_law_text", "_law_place", "_law_sign"]) (sc := defScope st__law_firsts) (by decide +kernel)) (fun _ _ _ _ _ => (pg_name (i := 8) sc__law_firsts.nd rfl (Or.inl rfl))) (fun _ _ _ _ _ => pts_nil) (fun _ _ _ _ _ => (pe_op (op_addU : OpR _ _ (rAddU K)) (pv 6) (pv 8)))) pa_nil)))))
    (pss_cons (ps_set (i := 3) sc__law_firsts.nd rfl (Or.inl rfl) (pe_lst pa_nil))
    (pss_one (ps_for PassesOwn.never rfl (pi_U (pv 5)) (pg_name (i := 6) sc__law_firsts.nd rfl (Or.inr rfl)) (pss_cons (ps_set (i := 7) sc__law_firsts.nd rfl (Or.inl rfl) (pe_callG G__law_goes hgd (hr.mono (show 1 ≤ 1 by decide)) rfl m__law_goes k__law_goes b__law_goes (pa_cons (pv 0) (pa_cons (pv 1) (pa_cons pe_int (pa_cons (pv 6) pa_nil))))))
    (pss_one (ps_if (pt_cmp (pc_dnotin (ru1 hr) (pv 7) (pv 2))) (pss_cons (ps_dput (ru1 hr) (pv 2) (pv 7) (pv 6) rfl)
    (pss_one (ps_expr (pe_bm PySem.F.plainAttrs_list PySem.F.slot_list_append PySem.F.type_list_append mt_append (pv 3) (pa_cons (pv 6) pa_nil))))) pss_nil)))))))))
    (pss_one (ps_ret (pv 2))))), ?_⟩
  exact VSt.fn (N := ["_law_letters_here", "_law_rows_here", "_law_found", "_law_texts_here", "_law_size", "_law_longer", "_law_text", "_law_place", "_law_sign"]) (μ' := [.o 0, .o 0, .o 0, .o 1, .o 0, .o 0, .o 0, .o 0, .o 0]) (mb := mb__law_firsts cM)
    (VSt.seq (μ1 := [.o 0, .o 0, .o 1, .o 1, .o 0, .o 0, .o 0, .o 0, .o 0]) (VSt.par (i := 2) (j := 3) (VE.x (VE.disp1 (VE.h (n := 0) VE.cI) (VE.z (n := 0) (VE.cT (a := []))))) (VE.x (VE.lst (VA.cons mo_Z (VE.z (n := 0) (VE.cT (a := []))) VA.nil))))
    (VSt.seq (μ1 := [.o 0, .o 0, .o 1, .o 1, .o 0, .o 0, .o 0, .o 0, .o 0]) (VSt.for (VIp.x (VIp.range1 (VA.cons mo_H (VE.h (n := 0) (VE.ar (arp_len (K := K)) (VA.cons mo_H VP.varH VA.nil))) VA.nil))) (VG.name rfl) (VSt.seq (μ1 := [.o 0, .o 0, .o 1, .o 1, .o 0, .o 1, .o 0, .o 0, .o 0]) (VSt.set (i := 5) (VE.x (VE.lst VA.nil)))
    (VSt.seq (μ1 := [.o 0, .o 0, .o 1, .o 0, .o 0, .o 1, .o 0, .o 0, .o 0]) (VSt.shA 3 ((VSt.for (VIp.x (VIp.any (K := K) (VP.var0 rfl))) (VG.name rfl) (VSt.drop (n := 0) (VX.extend (VE.x (VE.sh (n := 1) (VE.lc (vs := [8]) (VIp.any (K := K) (VP.var0 rfl)) (VG.name rfl) (WG.name (by decide)) VTp.yes (VE.sh (n := 1) (VE.bin mo_1 (opp_add (K := K)) (VP.z1 (VP.var0 rfl)) (VP.z1 (VP.var0 rfl))))))) rfl)))))
    (VSt.seq (μ1 := [.o 0, .o 0, .o 1, .o 1, .o 0, .o 1, .o 0, .o 0, .o 0]) (VSt.set (i := 3) (VE.x (VE.lst VA.nil)))
    (VSt.shA 5 ((VSt.for (VIp.x (VIp.any (K := K) (VP.var0 rfl))) (VG.name rfl) (VSt.seq (μ1 := [.o 0, .o 0, .o 1, .o 1, .o 0, .o 0, .o 0, .o 0, .o 0]) (VSt.set (i := 7) (VE.x (VE.call (VA.cons mo_Z (VP.var0 rfl) (VA.cons mo_Z (VP.var0 rfl) (VA.cons mo_Z (VE.z (n := 0) VE.cI) (VA.cons mo_Z (VP.var0 rfl) VA.nil)))))))
    (VSt.ite (VTp.x (VTp.of (VE.h (n := 0) (VE.dnotin (VP.z1 (VP.var0 rfl)) (VP.var1 rfl))))) (VSt.seq (μ1 := [.o 0, .o 0, .o 1, .o 1, .o 0, .o 0, .o 0, .o 0, .o 0]) (VSt.dput (VE.x (VE.var rfl)) VP.varH rfl)
    (VSt.drop (n := 0) (VX.append (VE.x (VE.var rfl)) rfl))) VSt.next)))))))))
    (VSt.shA 2 ((VSt.ret (VE.x (VE.var rfl))))))) h
abbrev st__law_texts : Stmt := top 47
theorem sc__law_texts : FnScope ["_law_letters_here", "_law_most", "_law_found", "_law_last", "_law_size", "_law_longer", "_law_text", "_law_sign"] ["_law_letters_here", "_law_most"] (defScope st__law_texts) := ⟨rfl, rfl, rfl, by decide +kernel, rfl, by decide +kernel, by decide +kernel⟩
theorem ok__law_texts {f : Addr} {fd : FuncData} {cM : Addr} (F : Fun K "_law_texts" "_law_texts" st__law_texts f fd) (B : Bn mg)  :
    GOk P w K mg base 1 f fd ["_law_letters_here", "_law_most"] (spV 0 (m__law_texts cM)) := by
  refine fun_okG F sc__law_texts spV_len (fun cdv A outer s H vs Q hgd hr h => ?_)
  refine ⟨_, (pss_cons (ps_par (i := 2) (j := 3) rfl sc__law_texts.nd rfl rfl (by decide) rfl rfl (pa_cons (pe_lst (pa_cons pe_str pa_nil)) (pa_cons (pe_lst (pa_cons pe_str pa_nil)) pa_nil)) rfl)
    (pss_cons (ps_for PassesOwn.never rfl (pi_range1 rfl B.n_range (pa_cons (pv 1) pa_nil)) (pg_name (i := 4) sc__law_texts.nd rfl (Or.inl rfl)) (pss_cons (ps_set (i := 5) sc__law_texts.nd rfl (Or.inl rfl) (pe_lst pa_nil))
    (pss_cons (ps_for PassesOwn.never rfl (pi_U (pv 3)) (pg_name (i := 6) sc__law_texts.nd rfl (Or.inr rfl)) (pss_one (ps_expr (pe_bm PySem.F.plainAttrs_list PySem.F.slot_list_extend PySem.F.type_list_extend mt_extend (pv 5) (pa_cons (pe_lc (own := [("_law_sign", 7)]) (g := gName 7) rfl sc__law_texts.nd (pi_U (pv 0)) (blkOk_by (own := [("_law_sign", 7)]) (N := ["_law_letters_here", "_law_most", "_law_found", "_law_last", "_law_size", "_law_longer", "_law_text", "_law_sign"]) (sc := defScope st__law_texts) (by decide +kernel)) (fun _ _ _ _ _ => (pg_name (i := 7) sc__law_texts.nd rfl (Or.inl rfl))) (fun _ _ _ _ _ => pts_nil) (fun _ _ _ _ _ => (pe_op (op_addU : OpR _ _ (rAddU K)) (pv 6) (pv 7)))) pa_nil)))))
    (pss_cons (ps_set (i := 3) sc__law_texts.nd rfl (Or.inl rfl) (pv 5))
    (pss_one (ps_set (i := 2) sc__law_texts.nd rfl (Or.inl rfl) (pe_op op_addU (pv 2) (pv 3))))))))
    (pss_one (ps_ret (pv 2))))), ?_⟩
  exact VSt.fn (N := ["_law_letters_here", "_law_most", "_law_found", "_law_last", "_law_size", "_law_longer", "_law_text", "_law_sign"]) (μ' := [.o 0, .o 0, .o 0, .o 0, .o 0, .o 0, .o 0, .o 0]) (mb := mb__law_texts cM)
    (VSt.seq (μ1 := [.o 0, .o 0, .o 0, .o 0, .o 0, .o 0, .o 0, .o 0]) (VSt.par (i := 2) (j := 3) (VE.x (VE.sh (n := 1) (VE.lst (VA.cons mo_Z (VE.z (n := 0) (VE.cT (a := []))) VA.nil)))) (VE.x (VE.sh (n := 1) (VE.lst (VA.cons mo_Z (VE.z (n := 0) (VE.cT (a := []))) VA.nil)))))
    (VSt.seq (μ1 := [.o 0, .o 0, .o 0, .o 0, .o 0, .o 0, .o 0, .o 0]) (VSt.for (VIp.x (VIp.range1 (VA.cons mo_H VP.varH VA.nil))) (VG.name rfl) (VSt.seq (μ1 := [.o 0, .o 0, .o 0, .o 0, .o 0, .o 1, .o 0, .o 0]) (VSt.set (i := 5) (VE.x (VE.lst VA.nil)))
    (VSt.seq (μ1 := [.o 0, .o 0, .o 0, .o 0, .o 0, .o 1, .o 0, .o 0]) (VSt.for (VIp.x (VIp.any (K := K) (VP.var0 rfl))) (VG.name rfl) (VSt.drop (n := 0) (VX.extend (VE.x (VE.sh (n := 1) (VE.lc (vs := [7]) (VIp.any (K := K) (VP.var0 rfl)) (VG.name rfl) (WG.name (by decide)) VTp.yes (VE.sh (n := 1) (VE.bin mo_1 (opp_add (K := K)) (VP.z1 (VP.var0 rfl)) (VP.z1 (VP.var0 rfl))))))) rfl)))
    (VSt.seq (μ1 := [.o 0, .o 0, .o 0, .o 0, .o 0, .o 0, .o 0, .o 0]) (VSt.shA 5 ((VSt.set (i := 3) (VE.x (VE.var rfl)))))
    (VSt.set (i := 2) (VE.x (VE.sh (n := 1) (VE.bin mo_1 (opp_add (K := K)) (VP.z1 (VP.var0 rfl)) (VP.z1 (VP.var0 rfl))))))))))
    (VSt.ret (VE.x (VE.var rfl))))) h
abbrev st__law_texts_right : Stmt := top 48
theorem sc__law_texts_right : FnScope ["_law_one", "_law_letters_here", "_law_rows_here", "_law_firsts_here", "_law_place", "_law_told", "_law_places", "_law_every", "_law_text"] ["_law_one", "_law_letters_here", "_law_rows_here"] (defScope st__law_texts_right) := ⟨rfl, rfl, rfl, by decide +kernel, rfl, by decide +kernel, by decide +kernel⟩
theorem ok__law_texts_right {f : Addr} {fd : FuncData} {cM : Addr} (F : Fun K "_law_texts_right" "_law_texts_right" st__law_texts_right f fd) (B : Bn mg) (T_Machine : TC_Machine K cM) (D__law_firsts : Dg P w K mg base 2 "_law_firsts" ["_law_letters_here", "_law_rows_here"] (spV 0 (m__law_firsts cM))) (D_Machine_first_text : Dm P w K mg base cM 5 "first_text" ["self", "place"] (spV 0 (m_Machine_first_text cM))) (D_Machine_first_text_place : Dmk P w K mg base cM 5 "first_text" ["self", "place"] ["place"] pmI (spV 0 (m_Machine_first_text cM))) (D_Machine_goes : Dm P w K mg base cM 5 "goes" ["self", "place", "text"] (spV 0 (m_Machine_goes cM))) (D__law_texts : Dg P w K mg base 1 "_law_texts" ["_law_letters_here", "_law_most"] (spV 0 (m__law_texts cM))) (D__law_goes : Dg P w K mg base 1 "_law_goes" ["_law_letters_here", "_law_rows_here", "_law_place", "_law_text"] (spV 0 (m__law_goes cM))) :
    GOk P w K mg base 6 f fd ["_law_one", "_law_letters_here", "_law_rows_here"] (spV 0 (m__law_texts_right cM)) := by
  obtain ⟨f__law_firsts, fd__law_firsts, G__law_firsts, m__law_firsts, k__law_firsts, b__law_firsts⟩ := D__law_firsts
  obtain ⟨f_Machine_first_text, fd_Machine_first_text, G_Machine_first_text, M_Machine_first_text, b_Machine_first_text⟩ := D_Machine_first_text
  obtain ⟨f_Machine_first_text_place, fd_Machine_first_text_place, G_Machine_first_text_place, M_Machine_first_text_place, kb_Machine_first_text_place⟩ := D_Machine_first_text_place
  obtain ⟨f_Machine_goes, fd_Machine_goes, G_Machine_goes, M_Machine_goes, b_Machine_goes⟩ := D_Machine_goes
  obtain ⟨f__law_texts, fd__law_texts, G__law_texts, m__law_texts, k__law_texts, b__law_texts⟩ := D__law_texts
  obtain ⟨f__law_goes, fd__law_goes, G__law_goes, m__law_goes, k__law_goes, b__law_goes⟩ := D__law_goes
  refine fun_okG F sc__law_texts_right spV_len (fun cdv A outer s H vs Q hgd hr h => ?_)
  refine ⟨_, (pss_cons (ps_set (i := 3) sc__law_texts_right.nd rfl (Or.inl rfl) (pe_callG G__law_firsts hgd (hr.mono (show 2 ≤ 5 by decide)) rfl m__law_firsts k__law_firsts b__law_firsts (pa_cons (pv 1) (pa_cons (pv 2) pa_nil))))
    (pss_cons (ps_for PassesOwn.never rfl (pi_range1 rfl B.n_range (pa_cons (pe_callB call_lenU rfl B.n_len PySem.boot_len (pa_cons (pv 2) pa_nil)) pa_nil)) (pg_name (i := 4) sc__law_texts_right.nd rfl (Or.inl rfl)) (pss_cons (ps_set (i := 5) sc__law_texts_right.nd rfl (Or.inl rfl) (pe_meth (pv 0) T_Machine.cl M_Machine_first_text G_Machine_first_text (hr.mono (show 5 ≤ 5 by decide)) b_Machine_first_text .nil pass0 (pa_cons (pv 4) pa_nil)))
    (pss_one (ps_if (PW.pt (pw_or (pt_cmpR (op_neU (ru hr)) (pv 5) (pe_dget (ru1 hr) (pv 3) (pv 4) (fun _ _ => rfl)) (nomark _)) (pw_or (pt_cmpR (op_neU (ru hr)) (pe_methKw (pv 0) T_Machine.cl M_Machine_first_text_place G_Machine_first_text_place (hr.mono (show 5 ≤ 5 by decide)) kb_Machine_first_text_place pass0 (pk_cons (pv 4) pk_nil)) (pv 5) (nomark _)) (pw_or1 (pt_cmpR (op_neU (ru hr)) (pe_meth (pv 0) T_Machine.cl M_Machine_goes G_Machine_goes (hr.mono (show 5 ≤ 5 by decide)) b_Machine_goes .nil pass0 (pa_cons pe_int (pa_cons (pv 5) pa_nil))) (pv 4) (nomark _)))))) (pss_one (ps_ret pe_bl)) pss_nil))))
    (pss_cons (ps_set (i := 6) sc__law_texts_right.nd rfl (Or.inr rfl) (pe_lc (own := [("_law_text", 8)]) (g := gName 8) rfl sc__law_texts_right.nd (pi_U (pe_callG G__law_texts hgd (hr.mono (show 1 ≤ 5 by decide)) rfl m__law_texts k__law_texts b__law_texts (pa_cons (pv 1) (pa_cons pe_int pa_nil)))) (blkOk_by (own := [("_law_text", 8)]) (N := ["_law_one", "_law_letters_here", "_law_rows_here", "_law_firsts_here", "_law_place", "_law_told", "_law_places", "_law_every", "_law_text"]) (sc := defScope st__law_texts_right) (by decide +kernel)) (fun _ _ _ _ _ => (pg_name (i := 8) sc__law_texts_right.nd rfl (Or.inl rfl))) (fun _ _ _ _ _ => pts_nil) (fun _ _ _ _ _ => (pe_callG G__law_goes hgd (hr.mono (show 1 ≤ 5 by decide)) rfl m__law_goes k__law_goes b__law_goes (pa_cons (pv 1) (pa_cons (pv 2) (pa_cons pe_int (pa_cons (pv 8) pa_nil))))))))
    (pss_cons (ps_set (i := 7) sc__law_texts_right.nd rfl (Or.inr rfl) (pe_callG G__law_texts hgd (hr.mono (show 1 ≤ 5 by decide)) rfl m__law_texts k__law_texts b__law_texts (pa_cons (pv 1) (pa_cons pe_int pa_nil))))
    (pss_one (ps_ret (pe_callB (cr_all rfl) rfl B.n_all (by decide +kernel) (pa_cons (pe_lc (own := [("_law_place", 4)]) (g := gName 4) rfl sc__law_texts_right.nd (pi_U (pe_callB (cr_sortI rfl) rfl B.n_sorted (by decide +kernel) (pa_cons (pe_callTy (call_setI rfl) rfl B.n_set (by decide +kernel) (pa_cons (pv 6) pa_nil)) pa_nil))) (blkOk_by (own := [("_law_place", 4)]) (N := ["_law_one", "_law_letters_here", "_law_rows_here", "_law_firsts_here", "_law_place", "_law_told", "_law_places", "_law_every", "_law_text"]) (sc := defScope st__law_texts_right) (by decide +kernel)) (fun _ _ _ _ _ => (pg_name (i := 4) sc__law_texts_right.nd rfl (Or.inl rfl))) (fun _ _ _ _ _ => pts_nil) (fun _ _ _ _ _ => (pe_cmpR ((op_eqU (ru hr)) : OpR _ _ (rEqU K)) (pe_meth (pv 0) T_Machine.cl M_Machine_first_text G_Machine_first_text (hr.mono (show 5 ≤ 5 by decide)) b_Machine_first_text .nil pass0 (pa_cons (pv 4) pa_nil)) (pe_ix (ix_seq : IxR _ (rIx K)) (pv 7) (PE.K (K := K) (t := fun K_ => tBM K_ _ _ _ _) (pe_bm PySem.F.plainAttrs_list PySem.F.slot_list_index PySem.F.type_list_index ((mt_indexU (ru5 hr)) : MtR _ _ (rIndexU K)) (pv 6) (pa_cons (pv 4) pa_nil)) rfl) (fun _ _ => rfl)) (nomark _)))) pa_nil)))))))), ?_⟩
  exact VSt.fn (N := ["_law_one", "_law_letters_here", "_law_rows_here", "_law_firsts_here", "_law_place", "_law_told", "_law_places", "_law_every", "_law_text"]) (μ' := [.o 0, .o 0, .o 0, .o 0, .o 0, .o 0, .o 0, .o 0, .o 0]) (mb := mb__law_texts_right cM)
    (VSt.seq (μ1 := [.o 0, .o 0, .o 0, .o 0, .o 0, .o 0, .o 0, .o 0, .o 0]) (VSt.set (i := 3) (VE.x (VE.call (VA.cons mo_Z (VP.var0 rfl) (VA.cons mo_Z (VP.var0 rfl) VA.nil)))))
    (VSt.seq (μ1 := [.o 0, .o 0, .o 0, .o 0, .o 0, .o 0, .o 0, .o 0, .o 0]) (VSt.for (VIp.x (VIp.range1 (VA.cons mo_H (VE.h (n := 0) (VE.ar (arp_len (K := K)) (VA.cons mo_H VP.varH VA.nil))) VA.nil))) (VG.name rfl) (VSt.seq (μ1 := [.o 0, .o 0, .o 0, .o 0, .o 0, .o 0, .o 0, .o 0, .o 0]) (VSt.set (i := 5) (VE.x (VE.meth (VP.var0 rfl) (VA.cons mo_Z (VP.var0 rfl) VA.nil))))
    (VSt.ite (VTp.x (VTp.or (VTp.of (VE.h (n := 0) (VE.bin mo_H (opp_ne (K := K)) VP.varH (VE.h (n := 0) (VE.dget (VP.z1 (VP.var0 rfl)) (VP.z1 (VP.var0 rfl))))))) (VTp.or (VTp.of (VE.h (n := 0) (VE.bin mo_H (opp_ne (K := K)) (VE.h (n := 0) (VE.methK pm_I (VP.var0 rfl) (VA.cons mo_Z (VP.var0 rfl) VA.nil))) VP.varH))) (VTp.of (VE.h (n := 0) (VE.bin mo_H (opp_ne (K := K)) (VE.h (n := 0) (VE.meth (VP.var0 rfl) (VA.cons mo_Z (VE.z (n := 0) VE.cI) (VA.cons mo_Z (VP.var0 rfl) VA.nil)))) VP.varH)))))) (VSt.ret (VE.x VE.cB)) VSt.next)))
    (VSt.seq (μ1 := [.o 0, .o 0, .o 0, .o 0, .o 0, .o 0, .o 0, .o 0, .o 0]) (VSt.set (i := 6) (VE.x (VE.sh (n := 1) (VE.lc (vs := [8]) (VIp.any (K := K) (VE.z (n := 0) (VE.call (VA.cons mo_Z (VP.var0 rfl) (VA.cons mo_Z (VE.z (n := 0) VE.cI) VA.nil))))) (VG.name rfl) (WG.name (by decide)) VTp.yes (VE.call (VA.cons mo_Z (VP.var0 rfl) (VA.cons mo_Z (VP.var0 rfl) (VA.cons mo_Z (VE.z (n := 0) VE.cI) (VA.cons mo_Z (VP.var0 rfl) VA.nil)))))))))
    (VSt.seq (μ1 := [.o 0, .o 0, .o 0, .o 0, .o 0, .o 0, .o 0, .o 0, .o 0]) (VSt.set (i := 7) (VE.x (VE.call (VA.cons mo_Z (VP.var0 rfl) (VA.cons mo_Z (VE.z (n := 0) VE.cI) VA.nil)))))
    (VSt.ret (VE.x (VE.ar (arp_all (K := K)) (VA.cons mo_H (VE.h (n := 1) (VE.lc (vs := [4]) (VIp.any (K := K) (VE.z (n := 1) (VE.sortSet (K := K) (w := w) VP.varH))) (VG.name rfl) (WG.name (by decide)) VTp.yes (VE.bin mo_H (opp_eq (K := K)) (VE.h (n := 0) (VE.meth (VP.var0 rfl) (VA.cons mo_Z (VP.var0 rfl) VA.nil))) (VE.h (n := 0) (VE.bin mo_1 (opp_ix (K := K)) (VP.z1 (VP.var0 rfl)) (VE.one (n := 0) (VE.mt (K := K) mo_H ty_indexL mtp_indexL VP.varH (VA.cons mo_H VP.varH VA.nil)))))))) VA.nil)))))))) h
abbrev st__law_numbered_right : Stmt := top 49
theorem sc__law_numbered_right : FnScope ["_law_pot_here", "_law_one", "_law_letters_here", "_law_rows_here", "_law_due", "_law_told", "_law_left", "_law_places"] ["_law_pot_here", "_law_one", "_law_letters_here", "_law_rows_here"] (defScope st__law_numbered_right) := ⟨rfl, rfl, rfl, by decide +kernel, rfl, by decide +kernel, by decide +kernel⟩
theorem ok__law_numbered_right {f : Addr} {fd : FuncData} {cM : Addr} (F : Fun K "_law_numbered_right" "_law_numbered_right" st__law_numbered_right f fd) (B : Bn mg) (T_Machine : TC_Machine K cM) (D__law_called : Dg P w K mg base 1 "_law_called" ["_law_rows_here", "_law_places"] (spV 0 (m__law_called cM))) (D__law_met : Dg P w K mg base 1 "_law_met" ["_law_rows_here", "_law_start"] (spV 0 (m__law_met cM))) (D_Machine_numbered : Dm P w K mg base cM 6 "numbered" ["self"] (spV 0 (m_Machine_numbered cM))) (D_Machine___repr__ : Dog P w K mg base cM 1 "__repr__" ["self"] (spV 0 (m_Machine___repr__ cM))) (D_Machine___eq__ : Do P w K mg base cM 1 "__eq__" ["self", "other"] (spV 0 (m_Machine___eq__ cM))) (D__law_draw : Dg P w K mg base 1 "_law_draw" ["_law_pot_here", "_law_many"] (spP 1 0 (m__law_draw cM))) (D_Machine___init__ : Di P w K mg base cM 4 ["self", "letters", "rows"] (spP 3 0 (m_Machine___init__ cM))) (mk_Machine : mg "Machine" = some (.ref cM)) :
    GOk P w K mg base 7 f fd ["_law_pot_here", "_law_one", "_law_letters_here", "_law_rows_here"] (spP 1 0 (m__law_numbered_right cM)) := by
  obtain ⟨f__law_called, fd__law_called, G__law_called, m__law_called, k__law_called, b__law_called⟩ := D__law_called
  obtain ⟨f__law_met, fd__law_met, G__law_met, m__law_met, k__law_met, b__law_met⟩ := D__law_met
  obtain ⟨f_Machine_numbered, fd_Machine_numbered, G_Machine_numbered, M_Machine_numbered, b_Machine_numbered⟩ := D_Machine_numbered
  obtain ⟨f_Machine___repr__, fd_Machine___repr__, G_Machine___repr__, s_Machine___repr__, i_Machine___repr__, b_Machine___repr__⟩ := D_Machine___repr__
  obtain ⟨f_Machine___eq__, fd_Machine___eq__, G_Machine___eq__, s_Machine___eq__, i_Machine___eq__, b_Machine___eq__⟩ := D_Machine___eq__
  obtain ⟨f__law_draw, fd__law_draw, G__law_draw, m__law_draw, k__law_draw, b__law_draw⟩ := D__law_draw
  obtain ⟨f_Machine___init__, fd_Machine___init__, MK_Machine, G_Machine___init__, b_Machine___init__⟩ := D_Machine___init__
  have m_Machine := mk_Machine
  refine fun_okG F sc__law_numbered_right spP_len (fun cdv A outer s H vs Q hgd hr h => ?_)
  refine ⟨_, (pss_cons (ps_set (i := 4) sc__law_numbered_right.nd rfl (Or.inl rfl) (pe_callG G__law_called hgd (hr.mono (show 1 ≤ 6 by decide)) rfl m__law_called k__law_called b__law_called (pa_cons (pv 3) (pa_cons (pe_callG G__law_met hgd (hr.mono (show 1 ≤ 6 by decide)) rfl m__law_met k__law_met b__law_met (pa_cons (pv 3) (pa_cons pe_int pa_nil))) pa_nil))))
    (pss_cons (ps_set (i := 5) sc__law_numbered_right.nd rfl (Or.inl rfl) (pe_meth0 (pv 1) T_Machine.cl M_Machine_numbered G_Machine_numbered (hr.mono (show 6 ≤ 6 by decide)) b_Machine_numbered .nil pass0))
    (pss_cons (ps_if (PW.pt (pw_or (pt_cmpR (op_neU (ru hr)) (pe_callB (call_reprOwnG (C := cM) G_Machine___repr__ hgd (hr.mono (show 2 ≤ 6 by decide)) b_Machine___repr__ s_Machine___repr__ i_Machine___repr__) rfl B.n_repr (by decide +kernel) (pa_cons (pv 5) pa_nil)) (pe_op op_addU (pe_op op_addU (pe_op op_addU (pe_op op_addU pe_str (pe_callB (call_reprA hgd hr) rfl B.n_repr (by decide +kernel) (pa_cons (pv 2) pa_nil))) pe_str) (pe_callB (call_reprA hgd hr) rfl B.n_repr (by decide +kernel) (pa_cons (pv 4) pa_nil))) pe_str) (nomark _)) (pw_or1 (pt_cmpR (op_neOwnX (C := cM) G_Machine___eq__ (hr.mono (show 2 ≤ 6 by decide)) b_Machine___eq__ pass0 s_Machine___eq__ i_Machine___eq__ T_Machine.sNe T_Machine.sOb) (pe_meth0 (pv 5) T_Machine.cl M_Machine_numbered G_Machine_numbered (hr.mono (show 6 ≤ 6 by decide)) b_Machine_numbered .nil pass0) (pv 5) (nomark _))))) (pss_one (ps_ret pe_bl)) pss_nil)
    (pss_cons (ps_par (i := 6) (j := 7) rfl sc__law_numbered_right.nd rfl rfl (by decide) rfl rfl (pa_cons (pe_listRg rfl rfl B.n_list (prg_2 rfl B.n_range pe_int (pe_callB call_lenU rfl B.n_len PySem.boot_len (pa_cons (pv 3) pa_nil)))) (pa_cons (pe_lst (pa_cons pe_int pa_nil)) pa_nil)) rfl)
    (pss_cons (ps_while PassesOwn.never (pt_cmpR (op_neU (ru hr)) (pv 6) (pe_lst pa_nil) (nomark _)) (pss_one (ps_expr (pe_bm PySem.F.plainAttrs_list PySem.F.slot_list_append PySem.F.type_list_append mt_append (pv 7) (pa_cons (pe_bm PySem.F.plainAttrs_list PySem.F.slot_list_pop PySem.F.type_list_pop mt_popAt (pv 6) (pa_cons (pe_callG G__law_draw hgd (hr.mono (show 1 ≤ 6 by decide)) rfl m__law_draw k__law_draw b__law_draw (pa_cons (pv 0) (pa_cons (pe_callB call_lenU rfl B.n_len PySem.boot_len (pa_cons (pv 6) pa_nil)) pa_nil))) pa_nil)) pa_nil)))))
    (pss_one (ps_ret (pe_and (pe_cmpR (op_eqOwnX (C := cM) G_Machine___eq__ (hr.mono (show 1 ≤ 6 by decide)) b_Machine___eq__ pass0 s_Machine___eq__ i_Machine___eq__) (pe_meth0 (pe_make MK_Machine G_Machine___init__ (hr.mono (show 5 ≤ 6 by decide)) rfl m_Machine b_Machine___init__ .nil pass0 (pa_cons (pv 2) (pa_cons (pe_callG G__law_called hgd (hr.mono (show 1 ≤ 6 by decide)) rfl m__law_called k__law_called b__law_called (pa_cons (pv 3) (pa_cons (pv 7) pa_nil))) pa_nil))) T_Machine.cl M_Machine_numbered G_Machine_numbered (hr.mono (show 6 ≤ 6 by decide)) b_Machine_numbered .nil pass0) (pv 5) (nomark _)) (pe_one (pe_cmpR (op_eqU (ru hr)) (pe_cmpR (op_eqOwnX (C := cM) G_Machine___eq__ (hr.mono (show 1 ≤ 6 by decide)) b_Machine___eq__ pass0 s_Machine___eq__ i_Machine___eq__) (pv 1) (pv 5) (nomark _)) (pe_cmpR (op_eqU (ru hr)) (pv 3) (pv 4) (nomark _)) (nomark _))))))))))), ?_⟩
  exact VSt.fnP (N := ["_law_pot_here", "_law_one", "_law_letters_here", "_law_rows_here", "_law_due", "_law_told", "_law_left", "_law_places"]) (μ' := fun p => [.pot p 1, .o 0, .o 0, .o 0, .o 0, .o 0, .o 1, .o 0]) (mb := mb__law_numbered_right cM) (fun p =>
    (VSt.seq (μ1 := [.pot p 1, .o 0, .o 0, .o 0, .o 0, .o 0, .o 0, .o 0]) (VSt.set (i := 4) (VE.x (VE.call (VA.cons mo_Z (VP.var0 rfl) (VA.cons mo_Z (VE.z (n := 0) (VE.call (VA.cons mo_Z (VP.var0 rfl) (VA.cons mo_Z (VE.z (n := 0) VE.cI) VA.nil)))) VA.nil)))))
    (VSt.seq (μ1 := [.pot p 1, .o 0, .o 0, .o 0, .o 0, .o 0, .o 0, .o 0]) (VSt.set (i := 5) (VE.x (VE.meth (VP.var0 rfl) VA.nil)))
    (VSt.seq (μ1 := [.pot p 1, .o 0, .o 0, .o 0, .o 0, .o 0, .o 0, .o 0]) (VSt.ite (VTp.x (VTp.or (VTp.of (VE.h (n := 0) (VE.bin mo_H (opp_ne (K := K)) (VE.h (n := 0) (VE.reprOwn (VP.var0 rfl))) (VE.h (n := 1) (VE.bin mo_1 (opp_add (K := K)) (VE.one (n := 1) (VE.bin mo_1 (opp_add (K := K)) (VE.one (n := 1) (VE.bin mo_1 (opp_add (K := K)) (VE.one (n := 1) (VE.bin mo_1 (opp_add (K := K)) (VE.one (n := 0) (VE.cT (a := [77, 97, 99, 104, 105, 110, 101, 40]))) (VE.one (n := 0) (VE.ar (arp_repr (K := K)) (VA.cons mo_H VP.varH VA.nil))))) (VE.one (n := 0) (VE.cT (a := [44, 32]))))) (VE.one (n := 0) (VE.ar (arp_repr (K := K)) (VA.cons mo_H VP.varH VA.nil))))) (VE.one (n := 0) (VE.cT (a := [41])))))))) (VTp.of (VE.h (n := 0) (VE.bin mo_Z (opp_ownNe (K := K) T_Machine.nf) (VE.z (n := 0) (VE.meth (VP.var0 rfl) VA.nil)) (VP.var0 rfl)))))) (VSt.retP (VE.x VE.cB) rfl) VSt.next)
    (VSt.seq (μ1 := [.pot p 1, .o 0, .o 0, .o 0, .o 0, .o 0, .o 1, .o 1]) (VSt.par (i := 6) (j := 7) (VE.x (VE.listRg2 (VE.h (n := 0) VE.cI) (VE.h (n := 0) (VE.ar (arp_len (K := K)) (VA.cons mo_H VP.varH VA.nil))))) (VE.x (VE.lst (VA.cons mo_Z (VE.z (n := 0) VE.cI) VA.nil))))
    (VSt.seq (μ1 := [.pot p 1, .o 0, .o 0, .o 0, .o 0, .o 0, .o 1, .o 1]) (VSt.while (VTp.x (VTp.of (VE.h (n := 0) (VE.bin mo_H (opp_ne (K := K)) VP.varH (VE.h (n := 1) (VE.lst VA.nil)))))) (VSt.drop (n := 0) (VX.append (VX.popAt (VX.callP rfl (VA.x (VA.cons mo_Z (VE.z (n := 0) (VE.ar (arp_len (K := K)) (VA.cons mo_H VP.varH VA.nil))) VA.nil))) rfl) rfl)))
    (VSt.shA 7 ((VSt.retP (VE.x (VE.and (VE.h (n := 0) (VE.bin mo_Z (opp_ownEq (K := K) T_Machine.nf) (VE.z (n := 0) (VE.meth (VE.z (n := 3) (VE.make (VA.cons mo_Z (VP.var0 rfl) (VA.cons mo_Z (VE.z (n := 0) (VE.call (VA.cons mo_Z (VP.var0 rfl) (VA.cons mo_Z (VP.var0 rfl) VA.nil)))) VA.nil)))) VA.nil)) (VP.var0 rfl))) (VE.bin mo_H (opp_eq (K := K)) (VE.h (n := 0) (VE.bin mo_Z (opp_ownEq (K := K) T_Machine.nf) (VP.var0 rfl) (VP.var0 rfl))) (VE.h (n := 0) (VE.bin mo_H (opp_eq (K := K)) VP.varH VP.varH))))) rfl))))))))) (by decide) (fun p => rfl) h
abbrev st__law_at_right : Stmt := top 50
theorem sc__law_at_right : FnScope ["_law_pot_here", "_law_one", "_law_letters_here", "_law_rows_here", "_law_place", "_law_places", "_law_due", "_law_told", "_law_text", "_law_turn"] ["_law_pot_here", "_law_one", "_law_letters_here", "_law_rows_here"] (defScope st__law_at_right) := ⟨rfl, rfl, rfl, by decide +kernel, rfl, by decide +kernel, by decide +kernel⟩
theorem ok__law_at_right {f : Addr} {fd : FuncData} {cM : Addr} (F : Fun K "_law_at_right" "_law_at_right" st__law_at_right f fd) (B : Bn mg) (T_Machine : TC_Machine K cM) (D__law_met : Dg P w K mg base 1 "_law_met" ["_law_rows_here", "_law_start"] (spV 0 (m__law_met cM))) (D__law_called : Dg P w K mg base 1 "_law_called" ["_law_rows_here", "_law_places"] (spV 0 (m__law_called cM))) (D_Machine_at : Dm P w K mg base cM 6 "at" ["self", "place"] (spV 0 (m_Machine_at cM))) (D_Machine_at_place : Dmk P w K mg base cM 6 "at" ["self", "place"] ["place"] pmI (spV 0 (m_Machine_at cM))) (D_Machine___repr__ : Dog P w K mg base cM 1 "__repr__" ["self"] (spV 0 (m_Machine___repr__ cM))) (D_Machine_numbered : Dm P w K mg base cM 6 "numbered" ["self"] (spV 0 (m_Machine_numbered cM))) (D_Machine___eq__ : Do P w K mg base cM 1 "__eq__" ["self", "other"] (spV 0 (m_Machine___eq__ cM))) (D__law_draw : Dg P w K mg base 1 "_law_draw" ["_law_pot_here", "_law_many"] (spP 1 0 (m__law_draw cM))) (D__law_pick : Dg P w K mg base 2 "_law_pick" ["_law_pot_here", "_law_some"] (spP 1 0 (m__law_pick cM))) (D_Machine_goes : Dm P w K mg base cM 5 "goes" ["self", "place", "text"] (spV 0 (m_Machine_goes cM))) :
    GOk P w K mg base 7 f fd ["_law_pot_here", "_law_one", "_law_letters_here", "_law_rows_here"] (spP 1 0 (m__law_at_right cM)) := by
  obtain ⟨f__law_met, fd__law_met, G__law_met, m__law_met, k__law_met, b__law_met⟩ := D__law_met
  obtain ⟨f__law_called, fd__law_called, G__law_called, m__law_called, k__law_called, b__law_called⟩ := D__law_called
  obtain ⟨f_Machine_at, fd_Machine_at, G_Machine_at, M_Machine_at, b_Machine_at⟩ := D_Machine_at
  obtain ⟨f_Machine_at_place, fd_Machine_at_place, G_Machine_at_place, M_Machine_at_place, kb_Machine_at_place⟩ := D_Machine_at_place
  obtain ⟨f_Machine___repr__, fd_Machine___repr__, G_Machine___repr__, s_Machine___repr__, i_Machine___repr__, b_Machine___repr__⟩ := D_Machine___repr__
  obtain ⟨f_Machine_numbered, fd_Machine_numbered, G_Machine_numbered, M_Machine_numbered, b_Machine_numbered⟩ := D_Machine_numbered
  obtain ⟨f_Machine___eq__, fd_Machine___eq__, G_Machine___eq__, s_Machine___eq__, i_Machine___eq__, b_Machine___eq__⟩ := D_Machine___eq__
  obtain ⟨f__law_draw, fd__law_draw, G__law_draw, m__law_draw, k__law_draw, b__law_draw⟩ := D__law_draw
  obtain ⟨f__law_pick, fd__law_pick, G__law_pick, m__law_pick, k__law_pick, b__law_pick⟩ := D__law_pick
  obtain ⟨f_Machine_goes, fd_Machine_goes, G_Machine_goes, M_Machine_goes, b_Machine_goes⟩ := D_Machine_goes
  refine fun_okG F sc__law_at_right spP_len (fun cdv A outer s H vs Q hgd hr h => ?_)
  refine ⟨_, (pss_cons (ps_for PassesOwn.never rfl (pi_range1 rfl B.n_range (pa_cons (pe_callB call_lenU rfl B.n_len PySem.boot_len (pa_cons (pv 3) pa_nil)) pa_nil)) (pg_name (i := 4) sc__law_at_right.nd rfl (Or.inl rfl)) (pss_cons (ps_set (i := 5) sc__law_at_right.nd rfl (Or.inl rfl) (pe_callG G__law_met hgd (hr.mono (show 1 ≤ 6 by decide)) rfl m__law_met k__law_met b__law_met (pa_cons (pv 3) (pa_cons (pv 4) pa_nil))))
    (pss_cons (ps_set (i := 6) sc__law_at_right.nd rfl (Or.inl rfl) (pe_callG G__law_called hgd (hr.mono (show 1 ≤ 6 by decide)) rfl m__law_called k__law_called b__law_called (pa_cons (pv 3) (pa_cons (pv 5) pa_nil))))
    (pss_cons (ps_for PassesOwn.never rfl (pi_U (pe_lst (pa_cons (pe_meth (pv 1) T_Machine.cl M_Machine_at G_Machine_at (hr.mono (show 6 ≤ 6 by decide)) b_Machine_at .nil pass0 (pa_cons (pv 4) pa_nil)) (pa_cons (pe_methKw (pv 1) T_Machine.cl M_Machine_at_place G_Machine_at_place (hr.mono (show 6 ≤ 6 by decide)) kb_Machine_at_place pass0 (pk_cons (pv 4) pk_nil)) pa_nil)))) (pg_name (i := 7) sc__law_at_right.nd rfl (Or.inl rfl)) (pss_one (ps_if (PW.pt (pw_or (pt_cmpR (op_neU (ru hr)) (pe_callB (call_reprOwnG (C := cM) G_Machine___repr__ hgd (hr.mono (show 2 ≤ 6 by decide)) b_Machine___repr__ s_Machine___repr__ i_Machine___repr__) rfl B.n_repr (by decide +kernel) (pa_cons (pv 7) pa_nil)) (pe_op op_addU (pe_op op_addU (pe_op op_addU (pe_op op_addU pe_str (pe_callB (call_reprA hgd hr) rfl B.n_repr (by decide +kernel) (pa_cons (pv 2) pa_nil))) pe_str) (pe_callB (call_reprA hgd hr) rfl B.n_repr (by decide +kernel) (pa_cons (pv 6) pa_nil))) pe_str) (nomark _)) (pw_or1 (pt_cmpR (op_neOwnX (C := cM) G_Machine___eq__ (hr.mono (show 2 ≤ 6 by decide)) b_Machine___eq__ pass0 s_Machine___eq__ i_Machine___eq__ T_Machine.sNe T_Machine.sOb) (pe_meth0 (pv 7) T_Machine.cl M_Machine_numbered G_Machine_numbered (hr.mono (show 6 ≤ 6 by decide)) b_Machine_numbered .nil pass0) (pv 7) (nomark _))))) (pss_one (ps_ret pe_bl)) pss_nil)))
    (pss_cons (ps_set (i := 8) sc__law_at_right.nd rfl (Or.inl rfl) (pe_joinT pe_str (pe_lc (own := [("_law_turn", 9)]) (g := gName 9) rfl sc__law_at_right.nd (pi_range1 rfl B.n_range (pa_cons (pe_callG G__law_draw hgd (hr.mono (show 1 ≤ 6 by decide)) rfl m__law_draw k__law_draw b__law_draw (pa_cons (pv 0) (pa_cons pe_int pa_nil))) pa_nil)) (blkOk_by (own := [("_law_turn", 9)]) (N := ["_law_pot_here", "_law_one", "_law_letters_here", "_law_rows_here", "_law_place", "_law_places", "_law_due", "_law_told", "_law_text", "_law_turn"]) (sc := defScope st__law_at_right) (by decide +kernel)) (fun _ _ _ _ _ => (pg_name (i := 9) sc__law_at_right.nd rfl (Or.inl rfl))) (fun _ _ _ _ _ => pts_nil) (fun _ _ _ _ _ => (pe_callG G__law_pick hgd (hr.mono (show 2 ≤ 6 by decide)) rfl m__law_pick k__law_pick b__law_pick (pa_cons (pv 0) (pa_cons (pv 2) pa_nil)))))))
    (pss_one (ps_if (pt_cmpR (op_neU (ru hr)) (pe_ix ix_seq (pv 5) (pe_meth (pe_meth (pv 1) T_Machine.cl M_Machine_at G_Machine_at (hr.mono (show 6 ≤ 6 by decide)) b_Machine_at .nil pass0 (pa_cons (pv 4) pa_nil)) T_Machine.cl M_Machine_goes G_Machine_goes (hr.mono (show 5 ≤ 6 by decide)) b_Machine_goes .nil pass0 (pa_cons pe_int (pa_cons (pv 8) pa_nil))) (fun _ _ => rfl)) (pe_meth (pv 1) T_Machine.cl M_Machine_goes G_Machine_goes (hr.mono (show 5 ≤ 6 by decide)) b_Machine_goes .nil pass0 (pa_cons (pv 4) (pa_cons (pv 8) pa_nil))) (nomark _)) (pss_one (ps_ret pe_bl)) pss_nil)))))))
    (pss_one (ps_ret (pe_cmpR (op_eqOwnX (C := cM) G_Machine___eq__ (hr.mono (show 1 ≤ 6 by decide)) b_Machine___eq__ pass0 s_Machine___eq__ i_Machine___eq__) (pe_meth (pv 1) T_Machine.cl M_Machine_at G_Machine_at (hr.mono (show 6 ≤ 6 by decide)) b_Machine_at .nil pass0 (pa_cons pe_int pa_nil)) (pe_meth0 (pv 1) T_Machine.cl M_Machine_numbered G_Machine_numbered (hr.mono (show 6 ≤ 6 by decide)) b_Machine_numbered .nil pass0) (nomark _))))), ?_⟩
  exact VSt.fnP (N := ["_law_pot_here", "_law_one", "_law_letters_here", "_law_rows_here", "_law_place", "_law_places", "_law_due", "_law_told", "_law_text", "_law_turn"]) (μ' := fun p => [.pot p 1, .o 0, .o 0, .o 0, .o 0, .o 0, .o 0, .o 0, .o 0, .o 0]) (mb := mb__law_at_right cM) (fun p =>
    (VSt.seq (μ1 := [.pot p 1, .o 0, .o 0, .o 0, .o 0, .o 0, .o 0, .o 0, .o 0, .o 0]) (VSt.for (VIp.x (VIp.range1 (VA.cons mo_H (VE.h (n := 0) (VE.ar (arp_len (K := K)) (VA.cons mo_H VP.varH VA.nil))) VA.nil))) (VG.name rfl) (VSt.seq (μ1 := [.pot p 1, .o 0, .o 0, .o 0, .o 0, .o 0, .o 0, .o 0, .o 0, .o 0]) (VSt.set (i := 5) (VE.x (VE.call (VA.cons mo_Z (VP.var0 rfl) (VA.cons mo_Z (VP.var0 rfl) VA.nil)))))
    (VSt.seq (μ1 := [.pot p 1, .o 0, .o 0, .o 0, .o 0, .o 0, .o 0, .o 0, .o 0, .o 0]) (VSt.set (i := 6) (VE.x (VE.call (VA.cons mo_Z (VP.var0 rfl) (VA.cons mo_Z (VP.var0 rfl) VA.nil)))))
    (VSt.seq (μ1 := [.pot p 1, .o 0, .o 0, .o 0, .o 0, .o 0, .o 0, .o 0, .o 0, .o 0]) (VSt.for (VIp.x (VIp.any (K := K) (VE.z (n := 1) (VE.lst (VA.cons mo_Z (VE.z (n := 0) (VE.meth (VP.var0 rfl) (VA.cons mo_Z (VP.var0 rfl) VA.nil))) (VA.cons mo_Z (VE.z (n := 0) (VE.methK pm_I (VP.var0 rfl) (VA.cons mo_Z (VP.var0 rfl) VA.nil))) VA.nil)))))) (VG.name rfl) (VSt.ite (VTp.x (VTp.or (VTp.of (VE.h (n := 0) (VE.bin mo_H (opp_ne (K := K)) (VE.h (n := 0) (VE.reprOwn (VP.var0 rfl))) (VE.h (n := 1) (VE.bin mo_1 (opp_add (K := K)) (VE.one (n := 1) (VE.bin mo_1 (opp_add (K := K)) (VE.one (n := 1) (VE.bin mo_1 (opp_add (K := K)) (VE.one (n := 1) (VE.bin mo_1 (opp_add (K := K)) (VE.one (n := 0) (VE.cT (a := [77, 97, 99, 104, 105, 110, 101, 40]))) (VE.one (n := 0) (VE.ar (arp_repr (K := K)) (VA.cons mo_H VP.varH VA.nil))))) (VE.one (n := 0) (VE.cT (a := [44, 32]))))) (VE.one (n := 0) (VE.ar (arp_repr (K := K)) (VA.cons mo_H VP.varH VA.nil))))) (VE.one (n := 0) (VE.cT (a := [41])))))))) (VTp.of (VE.h (n := 0) (VE.bin mo_Z (opp_ownNe (K := K) T_Machine.nf) (VE.z (n := 0) (VE.meth (VP.var0 rfl) VA.nil)) (VP.var0 rfl)))))) (VSt.retP (VE.x VE.cB) rfl) VSt.next))
    (VSt.seq (μ1 := [.pot p 1, .o 0, .o 0, .o 0, .o 0, .o 0, .o 0, .o 0, .o 0, .o 0]) (VSt.set (i := 8) (VX.join (K := K) (VX.sh (n := 1) (VX.lc (vs := [9]) (VI.range1 (VAX.cons (VX.callP rfl (VA.x (VA.cons mo_Z (VE.z (n := 0) VE.cI) VA.nil))) VAX.nil)) (VG.name rfl) (WG.name (by decide)) VT.yes (VX.callP rfl (VA.x (VA.cons mo_Z (VP.var0 rfl) VA.nil)))))))
    (VSt.ite (VTp.x (VTp.of (VE.h (n := 0) (VE.bin mo_H (opp_ne (K := K)) (VE.h (n := 0) (VE.bin mo_1 (opp_ix (K := K)) (VP.z1 (VP.var0 rfl)) (VE.one (n := 0) (VE.meth (VE.z (n := 0) (VE.meth (VP.var0 rfl) (VA.cons mo_Z (VP.var0 rfl) VA.nil))) (VA.cons mo_Z (VE.z (n := 0) VE.cI) (VA.cons mo_Z (VP.var0 rfl) VA.nil)))))) (VE.h (n := 0) (VE.meth (VP.var0 rfl) (VA.cons mo_Z (VP.var0 rfl) (VA.cons mo_Z (VP.var0 rfl) VA.nil)))))))) (VSt.retP (VE.x VE.cB) rfl) VSt.next))))))
    (VSt.retP (VE.x (VE.bin mo_Z (opp_ownEq (K := K) T_Machine.nf) (VE.z (n := 0) (VE.meth (VP.var0 rfl) (VA.cons mo_Z (VE.z (n := 0) VE.cI) VA.nil))) (VE.z (n := 0) (VE.meth (VP.var0 rfl) VA.nil)))) rfl))) (by decide) (fun p => rfl) h
abbrev st__law_come_right : Stmt := top 51
theorem sc__law_come_right : FnScope ["_law_pot_here", "_law_letters_here", "_law_many", "_law_rows_here", "_law_kept", "_law_due", "_law_told", "_law_place", "_law_k"] ["_law_pot_here", "_law_letters_here"] (defScope st__law_come_right) := ⟨rfl, rfl, rfl, by decide +kernel, rfl, by decide +kernel, by decide +kernel⟩
theorem ok__law_come_right {f : Addr} {fd : FuncData} {cM : Addr} (F : Fun K "_law_come_right" "_law_come_right" st__law_come_right f fd) (B : Bn mg) (T_Machine : TC_Machine K cM) (D__law_draw : Dg P w K mg base 1 "_law_draw" ["_law_pot_here", "_law_many"] (spP 1 0 (m__law_draw cM))) (D__law_called : Dg P w K mg base 1 "_law_called" ["_law_rows_here", "_law_places"] (spV 0 (m__law_called cM))) (D__law_met : Dg P w K mg base 1 "_law_met" ["_law_rows_here", "_law_start"] (spV 0 (m__law_met cM))) (D_Machine_come_to : Ds P w K mg base cM 6 "Machine" "come_to" ["letters", "rows"] (spV 0 (m_Machine_come_to cM))) (D_Machine_come_to_rows_letters : Dsk P w K mg base cM 6 "Machine" "come_to" ["letters", "rows"] ["rows", "letters"] pm2 (spV 0 (m_Machine_come_to cM))) (D_Machine___repr__ : Dog P w K mg base cM 1 "__repr__" ["self"] (spV 0 (m_Machine___repr__ cM))) (D_Machine___init__ : Di P w K mg base cM 4 ["self", "letters", "rows"] (spP 3 0 (m_Machine___init__ cM))) (mk_Machine : mg "Machine" = some (.ref cM)) (D_Machine___eq__ : Do P w K mg base cM 1 "__eq__" ["self", "other"] (spV 0 (m_Machine___eq__ cM))) :
    GOk P w K mg base 7 f fd ["_law_pot_here", "_law_letters_here"] (spP 1 0 (m__law_come_right cM)) := by
  obtain ⟨f__law_draw, fd__law_draw, G__law_draw, m__law_draw, k__law_draw, b__law_draw⟩ := D__law_draw
  obtain ⟨f__law_called, fd__law_called, G__law_called, m__law_called, k__law_called, b__law_called⟩ := D__law_called
  obtain ⟨f__law_met, fd__law_met, G__law_met, m__law_met, k__law_met, b__law_met⟩ := D__law_met
  obtain ⟨p_Machine_come_to, f_Machine_come_to, fd_Machine_come_to, mg_Machine_come_to, S_Machine_come_to, G_Machine_come_to, b_Machine_come_to⟩ := D_Machine_come_to
  obtain ⟨p_Machine_come_to_rows_letters, f_Machine_come_to_rows_letters, fd_Machine_come_to_rows_letters, mg_Machine_come_to_rows_letters, S_Machine_come_to_rows_letters, G_Machine_come_to_rows_letters, kb_Machine_come_to_rows_letters⟩ := D_Machine_come_to_rows_letters
  obtain ⟨f_Machine___repr__, fd_Machine___repr__, G_Machine___repr__, s_Machine___repr__, i_Machine___repr__, b_Machine___repr__⟩ := D_Machine___repr__
  obtain ⟨f_Machine___init__, fd_Machine___init__, MK_Machine, G_Machine___init__, b_Machine___init__⟩ := D_Machine___init__
  have m_Machine := mk_Machine
  obtain ⟨f_Machine___eq__, fd_Machine___eq__, G_Machine___eq__, s_Machine___eq__, i_Machine___eq__, b_Machine___eq__⟩ := D_Machine___eq__
  refine fun_okG F sc__law_come_right spP_len (fun cdv A outer s H vs Q hgd hr h => ?_)
  refine ⟨_, (pss_cons (ps_set (i := 2) sc__law_come_right.nd rfl (Or.inr rfl) (pe_op op_addU pe_int (pe_callG G__law_draw hgd (hr.mono (show 1 ≤ 6 by decide)) rfl m__law_draw k__law_draw b__law_draw (pa_cons (pv 0) (pa_cons pe_int pa_nil)))))
    (pss_cons (ps_setLc (i := 3) (own := [("_law_place", 7)]) (g := gName 7) rfl sc__law_come_right.nd rfl rfl (sw_true rfl rfl rfl (by decide +kernel)) (pi_range1 rfl B.n_range (pa_cons (pv 2) pa_nil)) (blkOk_by (own := [("_law_place", 7)]) (N := ["_law_pot_here", "_law_letters_here", "_law_many", "_law_rows_here", "_law_kept", "_law_due", "_law_told", "_law_place", "_law_k"]) (sc := defScope st__law_come_right) (by decide +kernel)) (fun _ _ _ _ _ => (pg_name (i := 7) sc__law_come_right.nd rfl (Or.inl rfl))) (fun _ _ _ _ _ => pts_nil) (fun _ _ _ _ _ => (pe_lc (own := [("_law_k", 8)]) (g := gName 8) rfl sc__law_come_right.nd (pi_range1 rfl B.n_range (pa_cons (pe_callB (call_lenU : CallR _ _ (rLenU K)) rfl B.n_len PySem.boot_len (pa_cons (pv 1) pa_nil)) pa_nil)) (blkOk_by (own := [("_law_k", 8)]) (N := ["_law_pot_here", "_law_letters_here", "_law_many", "_law_rows_here", "_law_kept", "_law_due", "_law_told", "_law_place", "_law_k"]) (by kernel_rfl)) (fun _ _ _ _ _ => (pg_name (i := 8) sc__law_come_right.nd rfl (Or.inl rfl))) (fun _ _ _ _ _ => pts_nil) (fun _ _ _ _ _ => (pe_callG G__law_draw hgd (hr.mono (show 1 ≤ 6 by decide)) rfl m__law_draw k__law_draw b__law_draw (pa_cons (pv 0) (pa_cons (pv 2) pa_nil)))))))
    (pss_cons (ps_par (i := 4) (j := 5) rfl sc__law_come_right.nd rfl rfl (by decide) rfl rfl (pa_cons (pe_callB (call_reprA hgd hr) rfl B.n_repr (by decide +kernel) (pa_cons (pv 3) pa_nil)) (pa_cons (pe_callG G__law_called hgd (hr.mono (show 1 ≤ 6 by decide)) rfl m__law_called k__law_called b__law_called (pa_cons (pv 3) (pa_cons (pe_callG G__law_met hgd (hr.mono (show 1 ≤ 6 by decide)) rfl m__law_met k__law_met b__law_met (pa_cons (pv 3) (pa_cons pe_int pa_nil))) pa_nil))) pa_nil)) rfl)
    (pss_cons (ps_for PassesOwn.never rfl (pi_U (pe_lst (pa_cons (pe_smeth (pe_glob (v := .ref cM) rfl mg_Machine_come_to rfl) S_Machine_come_to G_Machine_come_to (hr.mono (show 6 ≤ 6 by decide)) b_Machine_come_to .nil pass0 (pa_cons (pv 1) (pa_cons (pv 3) pa_nil))) (pa_cons (pe_smethKw (pe_glob (v := .ref cM) rfl mg_Machine_come_to_rows_letters rfl) S_Machine_come_to_rows_letters G_Machine_come_to_rows_letters (hr.mono (show 6 ≤ 6 by decide)) kb_Machine_come_to_rows_letters pass0 (pk_cons (pe_callTy call_tuple_of rfl B.n_tuple (by decide +kernel) (pa_cons (pv 3) pa_nil)) (pk_cons (pv 1) pk_nil))) pa_nil)))) (pg_name (i := 6) sc__law_come_right.nd rfl (Or.inl rfl)) (pss_one (ps_if (PW.pt (pw_or (pt_cmpR (op_neU (ru hr)) (pe_callB (call_reprOwnG (C := cM) G_Machine___repr__ hgd (hr.mono (show 2 ≤ 6 by decide)) b_Machine___repr__ s_Machine___repr__ i_Machine___repr__) rfl B.n_repr (by decide +kernel) (pa_cons (pv 6) pa_nil)) (pe_op op_addU (pe_op op_addU (pe_op op_addU (pe_op op_addU pe_str (pe_callB (call_reprA hgd hr) rfl B.n_repr (by decide +kernel) (pa_cons (pv 1) pa_nil))) pe_str) (pe_callB (call_reprA hgd hr) rfl B.n_repr (by decide +kernel) (pa_cons (pv 5) pa_nil))) pe_str) (nomark _)) (pw_or1 (pt_cmpR (op_neOwnX (C := cM) G_Machine___eq__ (hr.mono (show 2 ≤ 6 by decide)) b_Machine___eq__ pass0 s_Machine___eq__ i_Machine___eq__ T_Machine.sNe T_Machine.sOb) (pv 6) (pe_make MK_Machine G_Machine___init__ (hr.mono (show 5 ≤ 6 by decide)) rfl m_Machine b_Machine___init__ .nil pass0 (pa_cons (pv 1) (pa_cons (pv 5) pa_nil))) (nomark _))))) (pss_one (ps_ret pe_bl)) pss_nil)))
    (pss_one (ps_ret (pe_cmpR (op_eqU (ru hr)) (pe_callB (call_reprA hgd hr) rfl B.n_repr (by decide +kernel) (pa_cons (pv 3) pa_nil)) (pv 4) (nomark _)))))))), ?_⟩
  exact VSt.fnP (N := ["_law_pot_here", "_law_letters_here", "_law_many", "_law_rows_here", "_law_kept", "_law_due", "_law_told", "_law_place", "_law_k"]) (μ' := fun p => [.pot p 1, .o 0, .o 0, .o 0, .o 0, .o 0, .o 0, .o 0, .o 0]) (mb := mb__law_come_right cM) (fun p =>
    (VSt.seq (μ1 := [.pot p 1, .o 0, .o 0, .o 0, .o 0, .o 0, .o 0, .o 0, .o 0]) (VSt.set (i := 2) (VX.sh (n := 1) (VX.bin (OpP.z (opp_add (K := K))) (VE.x VE.cI) (VX.callP rfl (VA.x (VA.cons mo_Z (VE.z (n := 0) VE.cI) VA.nil))))))
    (VSt.seq (μ1 := [.pot p 1, .o 0, .o 0, .o 0, .o 0, .o 0, .o 0, .o 0, .o 0]) (VSt.set (i := 3) (VX.sh (n := 1) (VX.lc (vs := [7]) (VIp.x (VIp.range1 (VA.cons mo_H VP.varH VA.nil))) (VG.name rfl) (WG.name (by decide)) VT.yes (VX.sh (n := 1) (VX.lc (vs := [8]) (VIp.x (VIp.range1 (VA.cons mo_H (VE.h (n := 0) (VE.ar (arp_len (K := K)) (VA.cons mo_H VP.varH VA.nil))) VA.nil))) (VG.name rfl) (WG.name (by decide)) VT.yes (VX.callP rfl (VA.x (VA.cons mo_Z (VP.var0 rfl) VA.nil))))))))
    (VSt.seq (μ1 := [.pot p 1, .o 0, .o 0, .o 0, .o 0, .o 0, .o 0, .o 0, .o 0]) (VSt.par (i := 4) (j := 5) (VE.x (VE.ar (arp_repr (K := K)) (VA.cons mo_H VP.varH VA.nil))) (VE.x (VE.call (VA.cons mo_Z (VP.var0 rfl) (VA.cons mo_Z (VE.z (n := 0) (VE.call (VA.cons mo_Z (VP.var0 rfl) (VA.cons mo_Z (VE.z (n := 0) VE.cI) VA.nil)))) VA.nil)))))
    (VSt.seq (μ1 := [.pot p 1, .o 0, .o 0, .o 0, .o 0, .o 0, .o 0, .o 0, .o 0]) (VSt.for (VIp.x (VIp.any (K := K) (VE.z (n := 1) (VE.lst (VA.cons mo_Z (VE.z (n := 0) (VE.smeth (VA.cons mo_Z (VP.var0 rfl) (VA.cons mo_Z (VP.var0 rfl) VA.nil)))) (VA.cons mo_Z (VE.z (n := 0) (VE.smethK pm_2 (VA.cons mo_Z (VE.z (n := 0) (VE.ar (arp_tuple (K := K)) (VA.cons mo_1 (VP.z1 (VP.var0 rfl)) VA.nil))) (VA.cons mo_Z (VP.var0 rfl) VA.nil)))) VA.nil)))))) (VG.name rfl) (VSt.ite (VTp.x (VTp.or (VTp.of (VE.h (n := 0) (VE.bin mo_H (opp_ne (K := K)) (VE.h (n := 0) (VE.reprOwn (VP.var0 rfl))) (VE.h (n := 1) (VE.bin mo_1 (opp_add (K := K)) (VE.one (n := 1) (VE.bin mo_1 (opp_add (K := K)) (VE.one (n := 1) (VE.bin mo_1 (opp_add (K := K)) (VE.one (n := 1) (VE.bin mo_1 (opp_add (K := K)) (VE.one (n := 0) (VE.cT (a := [77, 97, 99, 104, 105, 110, 101, 40]))) (VE.one (n := 0) (VE.ar (arp_repr (K := K)) (VA.cons mo_H VP.varH VA.nil))))) (VE.one (n := 0) (VE.cT (a := [44, 32]))))) (VE.one (n := 0) (VE.ar (arp_repr (K := K)) (VA.cons mo_H VP.varH VA.nil))))) (VE.one (n := 0) (VE.cT (a := [41])))))))) (VTp.of (VE.h (n := 0) (VE.bin mo_Z (opp_ownNe (K := K) T_Machine.nf) (VP.var0 rfl) (VE.z (n := 3) (VE.make (VA.cons mo_Z (VP.var0 rfl) (VA.cons mo_Z (VP.var0 rfl) VA.nil))))))))) (VSt.retP (VE.x VE.cB) rfl) VSt.next))
    (VSt.retP (VE.x (VE.bin mo_H (opp_eq (K := K)) (VE.h (n := 0) (VE.ar (arp_repr (K := K)) (VA.cons mo_H VP.varH VA.nil))) VP.varH)) rfl)))))) (by decide) (fun p => rfl) h
abbrev st__law_long_right : Stmt := top 52
theorem sc__law_long_right : FnScope ["_law_pot_here", "_law_letters_here", "_law_many", "_law_rows_here", "_law_one", "_law_place", "_law_met_here"] ["_law_pot_here", "_law_letters_here"] (defScope st__law_long_right) := ⟨rfl, rfl, rfl, by decide +kernel, rfl, by decide +kernel, by decide +kernel⟩
theorem ok__law_long_right {f : Addr} {fd : FuncData} {cM : Addr} (F : Fun K "_law_long_right" "_law_long_right" st__law_long_right f fd) (B : Bn mg) (T_Machine : TC_Machine K cM) (D__law_draw : Dg P w K mg base 1 "_law_draw" ["_law_pot_here", "_law_many"] (spP 1 0 (m__law_draw cM))) (D_Machine___init__ : Di P w K mg base cM 4 ["self", "letters", "rows"] (spP 3 0 (m_Machine___init__ cM))) (mk_Machine : mg "Machine" = some (.ref cM)) (D_Machine_first_text : Dm P w K mg base cM 5 "first_text" ["self", "place"] (spV 0 (m_Machine_first_text cM))) (D__law_met : Dg P w K mg base 1 "_law_met" ["_law_rows_here", "_law_start"] (spV 0 (m__law_met cM))) (D_Machine_at : Dm P w K mg base cM 6 "at" ["self", "place"] (spV 0 (m_Machine_at cM))) (D_Machine_rows : Dm P w K mg base cM 1 "rows" ["self"] (spV 2 (m_Machine_rows cM))) (D__law_called : Dg P w K mg base 1 "_law_called" ["_law_rows_here", "_law_places"] (spV 0 (m__law_called cM))) (D_Machine_numbered : Dm P w K mg base cM 6 "numbered" ["self"] (spV 0 (m_Machine_numbered cM))) (D_Machine___eq__ : Do P w K mg base cM 1 "__eq__" ["self", "other"] (spV 0 (m_Machine___eq__ cM))) (D_Machine___len__ : Do P w K mg base cM 1 "__len__" ["self"] (spV 0 (m_Machine___len__ cM))) :
    GOk P w K mg base 7 f fd ["_law_pot_here", "_law_letters_here"] (spP 1 0 (m__law_long_right cM)) := by
  obtain ⟨f__law_draw, fd__law_draw, G__law_draw, m__law_draw, k__law_draw, b__law_draw⟩ := D__law_draw
  obtain ⟨f_Machine___init__, fd_Machine___init__, MK_Machine, G_Machine___init__, b_Machine___init__⟩ := D_Machine___init__
  have m_Machine := mk_Machine
  obtain ⟨f_Machine_first_text, fd_Machine_first_text, G_Machine_first_text, M_Machine_first_text, b_Machine_first_text⟩ := D_Machine_first_text
  obtain ⟨f__law_met, fd__law_met, G__law_met, m__law_met, k__law_met, b__law_met⟩ := D__law_met
  obtain ⟨f_Machine_at, fd_Machine_at, G_Machine_at, M_Machine_at, b_Machine_at⟩ := D_Machine_at
  obtain ⟨f_Machine_rows, fd_Machine_rows, G_Machine_rows, M_Machine_rows, b_Machine_rows⟩ := D_Machine_rows
  obtain ⟨f__law_called, fd__law_called, G__law_called, m__law_called, k__law_called, b__law_called⟩ := D__law_called
  obtain ⟨f_Machine_numbered, fd_Machine_numbered, G_Machine_numbered, M_Machine_numbered, b_Machine_numbered⟩ := D_Machine_numbered
  obtain ⟨f_Machine___eq__, fd_Machine___eq__, G_Machine___eq__, s_Machine___eq__, i_Machine___eq__, b_Machine___eq__⟩ := D_Machine___eq__
  obtain ⟨f_Machine___len__, fd_Machine___len__, G_Machine___len__, s_Machine___len__, i_Machine___len__, b_Machine___len__⟩ := D_Machine___len__
  refine fun_okG F sc__law_long_right spP_len (fun cdv A outer s H vs Q hgd hr h => ?_)
  refine ⟨_, (pss_cons (ps_set (i := 2) sc__law_long_right.nd rfl (Or.inr rfl) (pe_op op_addU pe_int (pe_callG G__law_draw hgd (hr.mono (show 1 ≤ 6 by decide)) rfl m__law_draw k__law_draw b__law_draw (pa_cons (pv 0) (pa_cons pe_int pa_nil)))))
    (pss_cons (ps_setLc (i := 3) (own := [("_law_place", 5)]) (g := gName 5) rfl sc__law_long_right.nd rfl rfl (sw_true rfl rfl rfl (by decide +kernel)) (pi_range1 rfl B.n_range (pa_cons (pv 2) pa_nil)) (blkOk_by (own := [("_law_place", 5)]) (N := ["_law_pot_here", "_law_letters_here", "_law_many", "_law_rows_here", "_law_one", "_law_place", "_law_met_here"]) (sc := defScope st__law_long_right) (by decide +kernel)) (fun _ _ _ _ _ => (pg_name (i := 5) sc__law_long_right.nd rfl (Or.inl rfl))) (fun _ _ _ _ _ => pts_nil) (fun _ _ _ _ _ => (pe_op (op_addU : OpR _ _ (rAddU K)) (pe_lst (pa_cons (pe_callB (call_min2 rfl) rfl B.n_min (by decide +kernel) (pa_cons (pe_op (op_addU : OpR _ _ (rAddU K)) (pv 5) pe_int) (pa_cons (pe_op op_sub (pv 2) pe_int) pa_nil))) pa_nil)) (pe_op op_mulU (pe_lst (pa_cons (pe_callG G__law_draw hgd (hr.mono (show 1 ≤ 6 by decide)) rfl m__law_draw k__law_draw b__law_draw (pa_cons (pv 0) (pa_cons (pe_op (op_addU : OpR _ _ (rAddU K)) (pv 5) pe_int) pa_nil))) pa_nil)) (pe_op op_sub (pe_callB (call_lenU : CallR _ _ (rLenU K)) rfl B.n_len PySem.boot_len (pa_cons (pv 1) pa_nil)) pe_int)))))
    (pss_cons (ps_par (i := 4) (j := 5) rfl sc__law_long_right.nd rfl rfl (by decide) rfl rfl (pa_cons (pe_make MK_Machine G_Machine___init__ (hr.mono (show 5 ≤ 6 by decide)) rfl m_Machine b_Machine___init__ .nil pass0 (pa_cons (pv 1) (pa_cons (pv 3) pa_nil))) (pa_cons (pe_callG G__law_draw hgd (hr.mono (show 1 ≤ 6 by decide)) rfl m__law_draw k__law_draw b__law_draw (pa_cons (pv 0) (pa_cons (pv 2) pa_nil))) pa_nil)) rfl)
    (pss_cons (ps_if (PW.pt (pw_or (pt_cmpR (op_neU (ru hr)) (pe_meth (pv 4) T_Machine.cl M_Machine_first_text G_Machine_first_text (hr.mono (show 5 ≤ 6 by decide)) b_Machine_first_text .nil pass0 (pa_cons (pe_op op_sub (pv 2) pe_int) pa_nil)) (pe_op op_mulU (pe_ix ix_seq (pv 1) pe_int (fun _ _ => rfl)) (pe_op op_sub (pv 2) pe_int)) (nomark _)) (pw_or1 (pt_cmpR (op_neU (ru hr)) (pe_meth (pv 4) T_Machine.cl M_Machine_first_text G_Machine_first_text (hr.mono (show 5 ≤ 6 by decide)) b_Machine_first_text .nil pass0 (pa_cons (pv 5) pa_nil)) (pe_op op_mulU (pe_ix ix_seq (pv 1) pe_int (fun _ _ => rfl)) (pv 5)) (nomark _))))) (pss_one (ps_ret pe_bl)) pss_nil)
    (pss_cons (ps_set (i := 6) sc__law_long_right.nd rfl (Or.inl rfl) (pe_callG G__law_met hgd (hr.mono (show 1 ≤ 6 by decide)) rfl m__law_met k__law_met b__law_met (pa_cons (pv 3) (pa_cons (pv 5) pa_nil))))
    (pss_one (ps_ret (pe_and (pe_cmpR (op_eqU (ru hr)) (pe_callB (call_reprA hgd hr) rfl B.n_repr (by decide +kernel) (pa_cons (pe_meth0 (pe_meth (pv 4) T_Machine.cl M_Machine_at G_Machine_at (hr.mono (show 6 ≤ 6 by decide)) b_Machine_at .nil pass0 (pa_cons (pv 5) pa_nil)) T_Machine.cl M_Machine_rows G_Machine_rows (hr.mono (show 1 ≤ 6 by decide)) b_Machine_rows .nil pass0) pa_nil)) (pe_callB (call_reprA hgd hr) rfl B.n_repr (by decide +kernel) (pa_cons (pe_callG G__law_called hgd (hr.mono (show 1 ≤ 6 by decide)) rfl m__law_called k__law_called b__law_called (pa_cons (pv 3) (pa_cons (pv 6) pa_nil))) pa_nil)) (nomark _)) (pe_and (pe_cmpR (op_eqOwnX (C := cM) G_Machine___eq__ (hr.mono (show 1 ≤ 6 by decide)) b_Machine___eq__ pass0 s_Machine___eq__ i_Machine___eq__) (pe_meth0 (pv 4) T_Machine.cl M_Machine_numbered G_Machine_numbered (hr.mono (show 6 ≤ 6 by decide)) b_Machine_numbered .nil pass0) (pv 4) (nomark _)) (pe_one (pe_cmpR (op_eqU (ru hr)) (pe_callB (call_lenOwn (C := cM) G_Machine___len__ (hr.mono (show 2 ≤ 6 by decide)) b_Machine___len__ pass0 s_Machine___len__ i_Machine___len__) rfl B.n_len PySem.boot_len (pa_cons (pv 4) pa_nil)) (pv 2) (nomark _)))))))))))), ?_⟩
  exact VSt.fnP (N := ["_law_pot_here", "_law_letters_here", "_law_many", "_law_rows_here", "_law_one", "_law_place", "_law_met_here"]) (μ' := fun p => [.pot p 1, .o 0, .o 0, .o 0, .o 0, .o 0, .o 0]) (mb := mb__law_long_right cM) (fun p =>
    (VSt.seq (μ1 := [.pot p 1, .o 0, .o 0, .o 0, .o 0, .o 0, .o 0]) (VSt.set (i := 2) (VX.sh (n := 1) (VX.bin (OpP.z (opp_add (K := K))) (VE.x VE.cI) (VX.callP rfl (VA.x (VA.cons mo_Z (VE.z (n := 0) VE.cI) VA.nil))))))
    (VSt.seq (μ1 := [.pot p 1, .o 0, .o 0, .o 0, .o 0, .o 0, .o 0]) (VSt.set (i := 3) (VX.sh (n := 1) (VX.lc (vs := [5]) (VIp.x (VIp.range1 (VA.cons mo_H VP.varH VA.nil))) (VG.name rfl) (WG.name (by decide)) VT.yes (VX.sh (n := 1) (VX.bin (OpP.z (opp_add (K := K))) (VE.x (VE.sh (n := 1) (VE.lst (VA.cons mo_Z (VE.z (n := 0) (VE.ar arp_min (VA.cons mo_H (VE.h (n := 1) (VE.bin mo_1 (opp_add (K := K)) (VP.z1 (VP.var0 rfl)) (VE.one (n := 0) VE.cI))) (VA.cons mo_H (VE.h (n := 0) (VE.bin mo_H opp_sub VP.varH (VE.h (n := 0) VE.cI))) VA.nil)))) VA.nil)))) (VX.sh (n := 1) (VX.bin (OpP.z opp_mul) (VX.sh (n := 1) (VX.lst (VAX.cons (VX.callP rfl (VA.x (VA.cons mo_Z (VE.z (n := 1) (VE.bin mo_1 (opp_add (K := K)) (VP.z1 (VP.var0 rfl)) (VE.one (n := 0) VE.cI))) VA.nil))) VAX.nil))) (VE.x (VE.bin mo_H opp_sub (VE.h (n := 0) (VE.ar (arp_len (K := K)) (VA.cons mo_H VP.varH VA.nil))) (VE.h (n := 0) VE.cI))))))))))
    (VSt.seq (μ1 := [.pot p 1, .o 0, .o 0, .o 0, .o 0, .o 0, .o 0]) (VSt.par (i := 4) (j := 5) (VE.x (VE.sh (n := 3) (VE.make (VA.cons mo_Z (VP.var0 rfl) (VA.cons mo_Z (VP.var0 rfl) VA.nil))))) (VX.callP rfl (VA.x (VA.cons mo_Z (VP.var0 rfl) VA.nil))))
    (VSt.seq (μ1 := [.pot p 1, .o 0, .o 0, .o 0, .o 0, .o 0, .o 0]) (VSt.ite (VTp.x (VTp.or (VTp.of (VE.h (n := 0) (VE.bin mo_H (opp_ne (K := K)) (VE.h (n := 0) (VE.meth (VP.var0 rfl) (VA.cons mo_Z (VE.z (n := 0) (VE.bin mo_H opp_sub VP.varH (VE.h (n := 0) VE.cI))) VA.nil))) (VE.h (n := 1) (VE.bin mo_1 opp_mul (VE.one (n := 0) (VE.bin mo_1 (opp_ix (K := K)) (VP.z1 (VP.var0 rfl)) (VE.one (n := 0) VE.cI))) (VE.one (n := 0) (VE.bin mo_H opp_sub VP.varH (VE.h (n := 0) VE.cI)))))))) (VTp.of (VE.h (n := 0) (VE.bin mo_H (opp_ne (K := K)) (VE.h (n := 0) (VE.meth (VP.var0 rfl) (VA.cons mo_Z (VP.var0 rfl) VA.nil))) (VE.h (n := 1) (VE.bin mo_1 opp_mul (VE.one (n := 0) (VE.bin mo_1 (opp_ix (K := K)) (VP.z1 (VP.var0 rfl)) (VE.one (n := 0) VE.cI))) (VP.z1 (VP.var0 rfl))))))))) (VSt.retP (VE.x VE.cB) rfl) VSt.next)
    (VSt.seq (μ1 := [.pot p 1, .o 0, .o 0, .o 0, .o 0, .o 0, .o 0]) (VSt.set (i := 6) (VE.x (VE.call (VA.cons mo_Z (VP.var0 rfl) (VA.cons mo_Z (VP.var0 rfl) VA.nil)))))
    (VSt.retP (VE.x (VE.and (VE.h (n := 0) (VE.bin mo_H (opp_eq (K := K)) (VE.h (n := 0) (VE.ar (arp_repr (K := K)) (VA.cons mo_H (VE.h (n := 2) (VE.meth (VE.z (n := 0) (VE.meth (VP.var0 rfl) (VA.cons mo_Z (VP.var0 rfl) VA.nil))) VA.nil)) VA.nil))) (VE.h (n := 0) (VE.ar (arp_repr (K := K)) (VA.cons mo_H (VE.h (n := 0) (VE.call (VA.cons mo_Z (VP.var0 rfl) (VA.cons mo_Z (VP.var0 rfl) VA.nil)))) VA.nil))))) (VE.and (VE.h (n := 0) (VE.bin mo_Z (opp_ownEq (K := K) T_Machine.nf) (VE.z (n := 0) (VE.meth (VP.var0 rfl) VA.nil)) (VP.var0 rfl))) (VE.bin mo_H (opp_eq (K := K)) (VE.h (n := 0) (VE.lenOwn (VP.var0 rfl))) VP.varH)))) rfl))))))) (by decide) (fun p => rfl) h
abbrev st__law_right : Stmt := top 53
theorem sc__law_right : FnScope ["_law_pot_here", "_law_letters_here", "_law_rows_here", "_law_one"] ["_law_pot_here"] (defScope st__law_right) := ⟨rfl, rfl, rfl, by decide +kernel, rfl, by decide +kernel, by decide +kernel⟩
theorem ok__law_right {f : Addr} {fd : FuncData} {cM : Addr} (F : Fun K "_law_right" "_law_right" st__law_right f fd) (B : Bn mg) (T_Machine : TC_Machine K cM) (D__law_letters : Dg P w K mg base 3 "_law_letters" ["_law_pot_here"] (spP 1 0 (m__law_letters cM))) (D__law_rows : Dg P w K mg base 2 "_law_rows" ["_law_pot_here", "_law_size", "_law_most"] (spP 1 0 (m__law_rows cM))) (D_Machine___init__ : Di P w K mg base cM 4 ["self", "letters", "rows"] (spP 3 0 (m_Machine___init__ cM))) (mk_Machine : mg "Machine" = some (.ref cM)) (D__law_texts_right : Dg P w K mg base 6 "_law_texts_right" ["_law_one", "_law_letters_here", "_law_rows_here"] (spV 0 (m__law_texts_right cM))) (D__law_numbered_right : Dg P w K mg base 7 "_law_numbered_right" ["_law_pot_here", "_law_one", "_law_letters_here", "_law_rows_here"] (spP 1 0 (m__law_numbered_right cM))) (D__law_at_right : Dg P w K mg base 7 "_law_at_right" ["_law_pot_here", "_law_one", "_law_letters_here", "_law_rows_here"] (spP 1 0 (m__law_at_right cM))) (D__law_come_right : Dg P w K mg base 7 "_law_come_right" ["_law_pot_here", "_law_letters_here"] (spP 1 0 (m__law_come_right cM))) (D__law_long_right : Dg P w K mg base 7 "_law_long_right" ["_law_pot_here", "_law_letters_here"] (spP 1 0 (m__law_long_right cM))) (D_Machine___eq__ : Do P w K mg base cM 1 "__eq__" ["self", "other"] (spV 0 (m_Machine___eq__ cM))) (D_Machine_rows : Dm P w K mg base cM 1 "rows" ["self"] (spV 2 (m_Machine_rows cM))) :
    GOk P w K mg base 8 f fd ["_law_pot_here"] (spP 1 0 (m__law_right cM)) := by
  obtain ⟨f__law_letters, fd__law_letters, G__law_letters, m__law_letters, k__law_letters, b__law_letters⟩ := D__law_letters
  obtain ⟨f__law_rows, fd__law_rows, G__law_rows, m__law_rows, k__law_rows, b__law_rows⟩ := D__law_rows
  obtain ⟨f_Machine___init__, fd_Machine___init__, MK_Machine, G_Machine___init__, b_Machine___init__⟩ := D_Machine___init__
  have m_Machine := mk_Machine
  obtain ⟨f__law_texts_right, fd__law_texts_right, G__law_texts_right, m__law_texts_right, k__law_texts_right, b__law_texts_right⟩ := D__law_texts_right
  obtain ⟨f__law_numbered_right, fd__law_numbered_right, G__law_numbered_right, m__law_numbered_right, k__law_numbered_right, b__law_numbered_right⟩ := D__law_numbered_right
  obtain ⟨f__law_at_right, fd__law_at_right, G__law_at_right, m__law_at_right, k__law_at_right, b__law_at_right⟩ := D__law_at_right
  obtain ⟨f__law_come_right, fd__law_come_right, G__law_come_right, m__law_come_right, k__law_come_right, b__law_come_right⟩ := D__law_come_right
  obtain ⟨f__law_long_right, fd__law_long_right, G__law_long_right, m__law_long_right, k__law_long_right, b__law_long_right⟩ := D__law_long_right
  obtain ⟨f_Machine___eq__, fd_Machine___eq__, G_Machine___eq__, s_Machine___eq__, i_Machine___eq__, b_Machine___eq__⟩ := D_Machine___eq__
  obtain ⟨f_Machine_rows, fd_Machine_rows, G_Machine_rows, M_Machine_rows, b_Machine_rows⟩ := D_Machine_rows
  refine fun_okG F sc__law_right spP_len (fun cdv A outer s H vs Q hgd hr h => ?_)
  refine ⟨_, (pss_cons (ps_set (i := 1) sc__law_right.nd rfl (Or.inl rfl) (pe_callG G__law_letters hgd (hr.mono (show 3 ≤ 7 by decide)) rfl m__law_letters k__law_letters b__law_letters (pa_cons (pv 0) pa_nil)))
    (pss_cons (ps_set (i := 2) sc__law_right.nd rfl (Or.inl rfl) (pe_callG G__law_rows hgd (hr.mono (show 2 ≤ 7 by decide)) rfl m__law_rows k__law_rows b__law_rows (pa_cons (pv 0) (pa_cons (pe_callB call_lenU rfl B.n_len PySem.boot_len (pa_cons (pv 1) pa_nil)) (pa_cons pe_int pa_nil)))))
    (pss_cons (ps_set (i := 3) sc__law_right.nd rfl (Or.inl rfl) (pe_make MK_Machine G_Machine___init__ (hr.mono (show 5 ≤ 7 by decide)) rfl m_Machine b_Machine___init__ .nil pass0 (pa_cons (pv 1) (pa_cons (pv 2) pa_nil))))
    (pss_cons (ps_if (PW.pt (pw_or (pt_not (pt_val (pe_callG G__law_texts_right hgd (hr.mono (show 6 ≤ 7 by decide)) rfl m__law_texts_right k__law_texts_right b__law_texts_right (pa_cons (pv 3) (pa_cons (pv 1) (pa_cons (pv 2) pa_nil)))))) (pw_or1 (pt_not (pt_val (pe_callG G__law_numbered_right hgd (hr.mono (show 7 ≤ 7 by decide)) rfl m__law_numbered_right k__law_numbered_right b__law_numbered_right (pa_cons (pv 0) (pa_cons (pv 3) (pa_cons (pv 1) (pa_cons (pv 2) pa_nil)))))))))) (pss_one (ps_ret pe_bl)) pss_nil)
    (pss_cons (ps_if (PW.pt (pw_or (pt_not (pt_val (pe_callG G__law_at_right hgd (hr.mono (show 7 ≤ 7 by decide)) rfl m__law_at_right k__law_at_right b__law_at_right (pa_cons (pv 0) (pa_cons (pv 3) (pa_cons (pv 1) (pa_cons (pv 2) pa_nil))))))) (pw_or1 (pt_not (pt_val (pe_callG G__law_come_right hgd (hr.mono (show 7 ≤ 7 by decide)) rfl m__law_come_right k__law_come_right b__law_come_right (pa_cons (pv 0) (pa_cons (pv 1) pa_nil)))))))) (pss_one (ps_ret pe_bl)) pss_nil)
    (pss_one (ps_ret (pe_and (pe_callG G__law_long_right hgd (hr.mono (show 7 ≤ 7 by decide)) rfl m__law_long_right k__law_long_right b__law_long_right (pa_cons (pv 0) (pa_cons (pv 1) pa_nil))) (pe_and (pe_cmpR (op_eqOwnX (C := cM) G_Machine___eq__ (hr.mono (show 1 ≤ 7 by decide)) b_Machine___eq__ pass0 s_Machine___eq__ i_Machine___eq__) (pv 3) (pe_make MK_Machine G_Machine___init__ (hr.mono (show 5 ≤ 7 by decide)) rfl m_Machine b_Machine___init__ .nil pass0 (pa_cons (pv 1) (pa_cons (pv 2) pa_nil))) (nomark _)) (pe_one (pe_cmpR (op_eqU (ru hr)) (pe_callB (call_reprA hgd hr) rfl B.n_repr (by decide +kernel) (pa_cons (pe_meth0 (pv 3) T_Machine.cl M_Machine_rows G_Machine_rows (hr.mono (show 1 ≤ 7 by decide)) b_Machine_rows .nil pass0) pa_nil)) (pe_callB (call_reprA hgd hr) rfl B.n_repr (by decide +kernel) (pa_cons (pv 2) pa_nil)) (nomark _)))))))))))), ?_⟩
  exact VSt.fnP (N := ["_law_pot_here", "_law_letters_here", "_law_rows_here", "_law_one"]) (μ' := fun p => [.pot p 1, .o 0, .o 0, .o 0]) (mb := mb__law_right cM) (fun p =>
    (VSt.seq (μ1 := [.pot p 1, .o 0, .o 0, .o 0]) (VSt.set (i := 1) (VX.callP rfl (VA.x VA.nil)))
    (VSt.seq (μ1 := [.pot p 1, .o 0, .o 0, .o 0]) (VSt.set (i := 2) (VX.callP rfl (VA.x (VA.cons mo_Z (VE.z (n := 0) (VE.ar (arp_len (K := K)) (VA.cons mo_H VP.varH VA.nil))) (VA.cons mo_Z (VE.z (n := 0) VE.cI) VA.nil)))))
    (VSt.seq (μ1 := [.pot p 1, .o 0, .o 0, .o 0]) (VSt.set (i := 3) (VE.x (VE.sh (n := 3) (VE.make (VA.cons mo_Z (VP.var0 rfl) (VA.cons mo_Z (VP.var0 rfl) VA.nil))))))
    (VSt.seq (μ1 := [.pot p 1, .o 0, .o 0, .o 0]) (VSt.ite (VT.or (VTp.x (VTp.not (VTp.of (VE.h (n := 0) (VE.call (VA.cons mo_Z (VP.var0 rfl) (VA.cons mo_Z (VP.var0 rfl) (VA.cons mo_Z (VP.var0 rfl) VA.nil)))))))) (VT.not (VT.of (VX.callP rfl (VA.x (VA.cons mo_Z (VP.var0 rfl) (VA.cons mo_Z (VP.var0 rfl) (VA.cons mo_Z (VP.var0 rfl) VA.nil)))))))) (VSt.retP (VE.x VE.cB) rfl) VSt.next)
    (VSt.seq (μ1 := [.pot p 1, .o 0, .o 0, .o 0]) (VSt.ite (VT.or (VT.not (VT.of (VX.callP rfl (VA.x (VA.cons mo_Z (VP.var0 rfl) (VA.cons mo_Z (VP.var0 rfl) (VA.cons mo_Z (VP.var0 rfl) VA.nil))))))) (VT.not (VT.of (VX.callP rfl (VA.x (VA.cons mo_Z (VP.var0 rfl) VA.nil)))))) (VSt.retP (VE.x VE.cB) rfl) VSt.next)
    (VSt.retP (VX.and (VX.callP rfl (VA.x (VA.cons mo_Z (VP.var0 rfl) VA.nil))) (VX.and (VE.x (VE.bin mo_Z (opp_ownEq (K := K) T_Machine.nf) (VP.var0 rfl) (VE.z (n := 3) (VE.make (VA.cons mo_Z (VP.var0 rfl) (VA.cons mo_Z (VP.var0 rfl) VA.nil)))))) (VE.x (VE.bin mo_H (opp_eq (K := K)) (VE.h (n := 0) (VE.ar (arp_repr (K := K)) (VA.cons mo_H (VE.h (n := 2) (VE.meth (VP.var0 rfl) VA.nil)) VA.nil))) (VE.h (n := 0) (VE.ar (arp_repr (K := K)) (VA.cons mo_H VP.varH VA.nil))))))) rfl))))))) (by decide) (fun p => rfl) h
end
end LW
end
section
set_option maxRecDepth 100000
set_option maxHeartbeats 4000000
/-! reckoning with mirrors -/
namespace VS
open PySem L2 RX Evl
section
variable {ds : DS} {a b c : Mr} {n i j : Nat} {d x y : D}
@[simp] theorem e_seq (a b : Ms) (ds : DS) : mSeq a b ds = (a ds).bind fun f => match f with
  | .nx d => b d
  | .rt d ds => some (.rt d ds) := id rfl
@[simp] theorem e_next (ds : DS) : mNext ds = some (.nx ds) := id rfl
@[simp] theorem e_set (i : Nat) (m : DS → Option (D × DS)) (ds : DS) : mSet i m ds = (m ds).map fun x => .nx (x.2.set i (some x.1)) := id rfl
@[simp] theorem e_drop (m : DS → Option (D × DS)) (ds : DS) : mDrop m ds = (m ds).map fun x => .nx x.2 := id rfl
@[simp] theorem e_ret (m : DS → Option (D × DS)) (ds : DS) : mRet m ds = (m ds).map fun x => .rt x.1 x.2 := id rfl
@[simp] theorem e_if (c : DS → Option (Bool × DS)) (a b : Ms) (ds : DS) : mIf c a b ds = (c ds).bind fun x => if x.1 = true then a x.2 else b x.2 := id rfl
@[simp] theorem e_never (ds : DS) : mNever ds = none := id rfl
@[simp] theorem e_lft (m : Mr) (ds : DS) : lft m ds = (m ds).map fun d => (d, ds) := id rfl
@[simp] theorem e_liftA (m : DS → Option (List D)) (ds : DS) : liftA m ds = (m ds).map fun d => (d, ds) := id rfl
@[simp] theorem e_liftT (m : DS → Option Bool) (ds : DS) : liftT m ds = (m ds).map fun d => (d, ds) := id rfl
@[simp] theorem e_var0 (x : Option D) (ds : DS) : mVar 0 (x :: ds) = x := by cases x <;> rfl
@[simp] theorem e_varS (i : Nat) (x : Option D) (ds : DS) : mVar (i + 1) (x :: ds) = mVar i ds := id rfl
@[simp] theorem e_c (d : D) (ds : DS) : mC d ds = some d := id rfl
@[simp] theorem e_bin (f : D → D → Option D) (a b : Mr) (ds : DS) : mBin f a b ds = (a ds).bind fun x => (b ds).bind fun y => f x y := id rfl
@[simp] theorem e_binX (f : D → D → Option D) (a b : DS → Option (D × DS)) (ds : DS) : mBinX f a b ds = (a ds).bind fun x => (b x.2).bind fun y => (f x.1 y.1).map fun d => (d, y.2) := id rfl
@[simp] theorem e_un (f : D → Option D) (a : Mr) (ds : DS) : mUn f a ds = (a ds).bind f := id rfl
@[simp] theorem e_unX (f : D → Option D) (a : DS → Option (D × DS)) (ds : DS) : mUnX f a ds = (a ds).bind fun x => (f x.1).map fun d => (d, x.2) := id rfl
@[simp] theorem e_ar (f : List D → Option D) (a : DS → Option (List D)) (ds : DS) : mAr f a ds = (a ds).bind f := id rfl
@[simp] theorem e_arX (f : List D → Option D) (a : DS → Option (List D × DS)) (ds : DS) : mArX f a ds = (a ds).bind fun x => (f x.1).map fun d => (d, x.2) := id rfl
@[simp] theorem e_nil (ds : DS) : mNil ds = some [] := id rfl
@[simp] theorem e_cons (a : Mr) (r : DS → Option (List D)) (ds : DS) : mCons a r ds = (a ds).bind fun x => (r ds).map fun xs => x :: xs := id rfl
@[simp] theorem e_nilX (ds : DS) : mNilX ds = some ([], ds) := id rfl
@[simp] theorem e_consX (a : DS → Option (D × DS)) (r : DS → Option (List D × DS)) (ds : DS) : mConsX a r ds = (a ds).bind fun x => (r x.2).map fun xs => (x.1 :: xs.1, xs.2) := id rfl
@[simp] theorem e_lst (m : DS → Option (List D)) (ds : DS) : mLst m ds = (m ds).map .lst := id rfl
@[simp] theorem e_tup (m : DS → Option (List D)) (ds : DS) : mTup m ds = (m ds).map .tup := id rfl
@[simp] theorem e_lstX (m : DS → Option (List D × DS)) (ds : DS) : mLstX m ds = (m ds).map fun x => (.lst x.1, x.2) := id rfl
@[simp] theorem e_tupX (m : DS → Option (List D × DS)) (ds : DS) : mTupX m ds = (m ds).map fun x => (.tup x.1, x.2) := id rfl
@[simp] theorem e_mT (m : Mr) (ds : DS) : mT m ds = (m ds).bind D.isB := id rfl
@[simp] theorem e_mTX (m : DS → Option (D × DS)) (ds : DS) : mTX m ds = (m ds).bind fun x => (x.1.isB).map fun b => (b, x.2) := id rfl
@[simp] theorem e_notT (m : DS → Option Bool) (ds : DS) : mNotT m ds = (m ds).map (!·) := id rfl
@[simp] theorem e_andT (a b : DS → Option Bool) (ds : DS) : mAndT a b ds = (a ds).bind fun x => if x = true then b ds else some false := id rfl
@[simp] theorem e_orT (a b : DS → Option Bool) (ds : DS) : mOrT a b ds = (a ds).bind fun x => if x = true then some true else b ds := id rfl
@[simp] theorem e_notTX (m : DS → Option (Bool × DS)) (ds : DS) : mNotTX m ds = (m ds).map fun x => (!x.1, x.2) := id rfl
@[simp] theorem e_andTX (a b : DS → Option (Bool × DS)) (ds : DS) : mAndTX a b ds = (a ds).bind fun x => if x.1 = true then b x.2 else some (false, x.2) := id rfl
@[simp] theorem e_orTX (a b : DS → Option (Bool × DS)) (ds : DS) : mOrTX a b ds = (a ds).bind fun x => if x.1 = true then some (true, x.2) else b x.2 := id rfl
@[simp] theorem e_and (a b : Mr) (ds : DS) : mAnd a b ds = (a ds).bind fun x => x.isB.bind fun c => if c = true then b ds else some (.bl false) := id rfl
@[simp] theorem e_or (a b : Mr) (ds : DS) : mOr a b ds = (a ds).bind fun x => x.isB.bind fun c => if c = true then some (.bl true) else b ds := id rfl
@[simp] theorem e_not (a : Mr) (ds : DS) : mNot a ds = (a ds).bind fun x => x.isB.map fun c => .bl (!c) := id rfl
@[simp] theorem e_ite (c : DS → Option Bool) (a b : Mr) (ds : DS) : mIte c a b ds = (c ds).bind fun x => if x = true then a ds else b ds := id rfl
@[simp] theorem e_andX (a b : DS → Option (D × DS)) (ds : DS) : mAndX a b ds = (a ds).bind fun x => x.1.isB.bind fun c => if c = true then b x.2 else some (.bl false, x.2) := id rfl
@[simp] theorem e_orX (a b : DS → Option (D × DS)) (ds : DS) : mOrX a b ds = (a ds).bind fun x => x.1.isB.bind fun c => if c = true then some (.bl true, x.2) else b x.2 := id rfl
@[simp] theorem e_notX (a : DS → Option (D × DS)) (ds : DS) : mNotX a ds = (a ds).bind fun x => x.1.isB.map fun c => (.bl (!c), x.2) := id rfl
@[simp] theorem e_isB (b : Bool) : (D.bl b).isB = some b := id rfl
@[simp] theorem e_isI (i : Int) : (D.int i).isI = some i := id rfl
@[simp] theorem e_for (mi : DS → Option (List D × DS)) (tg : D → DS → Option DS) (mb : Ms) (ds : DS) : mFor mi tg mb ds = (mi ds).bind fun x => loopD tg mb x.1 x.2 := id rfl
@[simp] theorem e_gN (i : Nat) (d : D) (ds : DS) : gN i d ds = some (ds.set i (some d)) := id rfl
@[simp] theorem e_gT2 (b : List D → DS → Option DS) (x y : D) (ds : DS) : gT 2 b (.tup [x, y]) ds = b [x, y] ds := id rfl
@[simp] theorem e_gsC (a : D → DS → Option DS) (b : List D → DS → Option DS) (x : D) (xs : List D) (ds : DS) : gsC a b (x :: xs) ds = (a x ds).bind fun d => b xs d := id rfl
@[simp] theorem e_gsN (ds : DS) : gsN [] ds = some ds := id rfl
@[simp] theorem e_wipe0 (ds : DS) : wipeD ds [] = ds := id rfl
@[simp] theorem e_wipeS (ds : DS) (v : Nat) (vs : List Nat) : wipeD ds (v :: vs) = (wipeD ds vs).set v none := id rfl
@[simp] theorem e_unwipe0 (d0 ds : DS) : unwipeD d0 ds [] = ds := id rfl
@[simp] theorem e_unwipeS (d0 ds : DS) (v : Nat) (vs : List Nat) : unwipeD d0 ds (v :: vs) = (unwipeD d0 ds vs).set v (d0[v]?).join := id rfl
@[simp] theorem e_lc (mi : DS → Option (List D)) (tg : D → DS → Option DS) (mt : DS → Option Bool) (me : Mr) (vs : List Nat) (ds : DS) : mLc mi tg mt me vs ds = (mi ds).bind fun xs => if xs.length ≤ lim then (lcGo (lcF tg mt me (wipeD ds vs)) xs).map .lst else none := id rfl
@[simp] theorem e_lcX (mi : DS → Option (List D × DS)) (tg : D → DS → Option DS) (mt : DS → Option (Bool × DS)) (me : DS → Option (D × DS)) (vs : List Nat) (ds : DS) : mLcX mi tg mt me vs ds = (mi ds).bind fun x => if x.1.length ≤ lim then (lcGoX tg mt me vs x.1 (wipeD x.2 vs)).map fun r => (.lst r.1, unwipeD x.2 r.2 vs) else none := id rfl
@[simp] theorem e_items (m : Mr) (ds : DS) : mItems m ds = (m ds).bind dItems := id rfl
@[simp] theorem e_itL (xs : List D) : dItems (.lst xs) = some xs := id rfl
@[simp] theorem e_itT (xs : List D) : dItems (.tup xs) = some xs := id rfl
@[simp] theorem e_itS (a : Tx) : dItems (.str a) = some (a.map fun c => .str [c]) := id rfl
theorem e_range (m : DS → Option (List D)) (ds : DS) : mRange m ds = (m ds).bind fun xs => match xs with
  | [.int j] => if -(2 ^ 62) ≤ j ∧ j < 2 ^ 62 then some (rgD 0 j.toNat) else none
  | [.int i, .int j] => if -(2 ^ 62) ≤ i ∧ i < 2 ^ 62 ∧ -(2 ^ 62) ≤ j ∧ j < 2 ^ 62 then some (rgD i (j - i).toNat) else none
  | _ => none := rfl
/-- range of what is given -/
@[irreducible] def rgF (xs : List D) : Option (List D) := mRange (fun _ => some xs) []
@[simp] theorem e_range' (m : DS → Option (List D)) (ds : DS) : mRange m ds = (m ds).bind rgF := by
  unfold mRange
  congr 1
  funext xs
  unfold rgF mRange
  rw [Option.bind_some]
theorem rgF_nat {n : Nat} (h : n ≤ 1000000000) : rgF [.int (n : Int)] = some ((List.range n).map fun i : Nat => D.int (i : Int)) := by
  have h1 : rgD 0 n = (List.range n).map fun i : Nat => D.int (i : Int) := by
    unfold rgD
    exact List.map_congr_left fun i _ => by show D.int (0 + (i : Int)) = D.int i; rw [Int.zero_add]
  have h2 : -(2 ^ 62) ≤ (n : Int) ∧ (n : Int) < 2 ^ 62 := by omega
  unfold rgF mRange
  rw [Option.bind_some, ← h1]
  exact if_pos h2
@[simp] theorem e_rangeX (m : DS → Option (List D × DS)) (ds : DS) : mRangeX m ds = (m ds).bind fun x => (rgF x.1).map fun xs => (xs, x.2) := by
  unfold mRangeX
  congr 1
  funext x
  rw [e_range', Option.bind_some]
@[simp] theorem e_enum (m : DS → Option (List D)) (ds : DS) : mEnum m ds = (m ds).bind fun xs => match xs with
  | [.lst ys] => some (enD ys)
  | [.tup ys] => some (enD ys)
  | _ => none := id rfl
@[simp] theorem e_zipT (m : DS → Option (List D)) (ds : DS) : mZipT m ds = (m ds).bind fun xs => match xs with
  | [.str a, .str b] => some (zpT a b)
  | _ => none := id rfl
@[simp] theorem e_sl0 (xs : List D) (ds : DS) : sl 0 (some (.lst xs) :: ds) = some xs := id rfl
@[simp] theorem e_slS (i : Nat) (x : Option D) (ds : DS) : sl (i + 1) (x :: ds) = sl i ds := id rfl
@[simp] theorem e_append (i : Nat) (me : DS → Option (D × DS)) (ds : DS) : mAppend i me ds = (sl i ds).bind fun _ => (me ds).bind fun y => (sl i y.2).bind fun xs => if xs.length < lim then some (.non, y.2.set i (some (.lst (xs ++ [y.1])))) else none := id rfl
@[simp] theorem e_ls (i : Nat) (f : List D → List D) (ds : DS) : mLs i f ds = (sl i ds).map fun xs => (.non, ds.set i (some (.lst (f xs)))) := id rfl
@[simp] theorem e_callP (i : Nat) (m : List D → Option (D × D)) (mr : DS → Option (List D × DS)) (ds : DS) : mCallP i m mr ds = (sl i ds).bind fun _ => (mr ds).bind fun x => (sl i x.2).bind fun c => (m (.lst c :: x.1)).map fun r => (r.1, x.2.set i (some r.2)) := id rfl
@[simp] theorem e_setIx (i : Nat) (mj : Mr) (me : DS → Option (D × DS)) (ds : DS) : mSetIx i mj me ds = (me ds).bind fun y => (mj y.2).bind fun j => match j with
  | .int z => (sl i y.2).bind fun xs => if 0 ≤ z ∧ z.toNat < xs.length then some (.nx (y.2.set i (some (.lst (xs.set z.toNat y.1))))) else none
  | _ => none := id rfl
@[simp] theorem e_unpSt (i j : Nat) (c : Int) (m : DS → Option (D × DS)) (ds : DS) : mUnpSt i j c m ds = (m ds).bind fun x => unpF i j c x.1 x.2 := id rfl
@[simp] theorem e_unpF (i j : Nat) (c : Int) (p q : D) (d1 : DS) : unpF i j c (.tup [p, q]) d1 = (sl i d1).bind fun xs => if 0 ≤ c ∧ c.toNat < xs.length then some (.nx ((d1.set i (some (.lst (xs.set c.toNat p)))).set j (some q))) else none := id rfl
@[simp] theorem e_par (i j : Nat) (a b : DS → Option (D × DS)) (ds : DS) : mPar i j a b ds = (a ds).bind fun x => (b x.2).map fun y => .nx ((y.2.set i (some x.1)).set j (some y.1)) := id rfl
@[simp] theorem e_set2 (i : Nat) (ma mb : Mr) (me : DS → Option (D × DS)) (ds : DS) : mSet2 i ma mb me ds = (me ds).bind fun y => (ma y.2).bind fun a => (mb y.2).bind fun b => a.isI.bind fun a => b.isI.bind fun b => (sl i y.2).bind fun xs => set2F i y.1 y.2 a b xs := id rfl
@[simp] theorem e_chain (f g : D → D → Option D) (a b c : Mr) (ds : DS) : mChain f g a b c ds = (a ds).bind fun x => (b ds).bind fun y => (f x y).bind fun z => z.isB.bind fun k => if k = true then (c ds).bind fun w => g y w else some (.bl false) := id rfl
@[simp] theorem e_mt (f : D → List D → Option D) (a : Mr) (mr : DS → Option (List D)) (ds : DS) : mMt f a mr ds = (a ds).bind fun o => (mr ds).bind fun xs => f o xs := id rfl
@[simp] theorem e_meth (C : Addr) (f : Str) (m : List D → Option D) (a : Mr) (mr : DS → Option (List D)) (ds : DS) : mMeth C f m a mr ds = (a ds).bind fun o => if o.isIns C f = true then (mr ds).bind fun xs => m (o :: xs) else none := id rfl
@[simp] theorem e_methX (C : Addr) (f : Str) (m : List D → Option D) (a : Mr) (mr : DS → Option (List D × DS)) (ds : DS) : mMethX C f m a mr ds = (a ds).bind fun o => if o.isIns C f = true then (mr ds).bind fun x => (m (o :: x.1)).map fun d => (d, x.2) else none := id rfl
@[simp] theorem e_methK (C : Addr) (f : Str) (m : List D → Option D) (gD : List D → List D → List D) (a : Mr) (mr : DS → Option (List D)) (ds : DS) : mMethK C f m gD a mr ds = (a ds).bind fun o => if o.isIns C f = true then (mr ds).bind fun xs => m (gD [o] xs) else none := id rfl
@[simp] theorem e_prop (C : Addr) (m : List D → Option D) (a : Mr) (ds : DS) : mProp C m a ds = (a ds).bind fun o => if o.isC C = true then m [o] else none := id rfl
@[simp] theorem e_fld (C : Addr) (f : Str) (a : Mr) (ds : DS) : mFld C f a ds = (a ds).bind fun o => if o.isC C = true then o.fld f else none := id rfl
@[simp] theorem e_isC (C : Addr) (fs : List (Str × D)) : (D.ins C fs).isC C = true := by show decide (C = C) = true; simp
@[simp] theorem e_fldI (C : Addr) (f : Str) (fs : List (Str × D)) : (D.ins C fs).fld f = fs.lookup f := id rfl
@[simp] theorem e_make (C : Addr) (m : List D → Option (D × D)) (mr : DS → Option (List D)) (ds : DS) : mMake C m mr ds = (mr ds).bind fun xs => (m (.ins C [] :: xs)).bind fun r => match r.1 with
  | .non => some r.2
  | _ => none := id rfl
@[simp] theorem e_makeX (C : Addr) (m : List D → Option (D × D)) (mr : DS → Option (List D × DS)) (ds : DS) : mMakeX C m mr ds = (mr ds).bind fun x => (m (.ins C [] :: x.1)).bind fun r => match r.1 with
  | .non => some (r.2, x.2)
  | _ => none := id rfl
@[simp] theorem e_flat (n : Nat) (m : Mr) (ds : DS) : mFlat n m ds = (m ds).bind fun d => if flatN n d = true then some d else none := id rfl
@[simp] theorem e_scal (a : Mr) (ds : DS) : mScal a ds = (a ds).bind fun d => if d.scal = true then some d else none := id rfl
@[simp] theorem e_sI (i : Int) : (D.int i).scal = true := id rfl
@[simp] theorem e_sS (a : Tx) : (D.str a).scal = true := id rfl
@[simp] theorem e_sB (b : Bool) : (D.bl b).scal = true := id rfl
@[simp] theorem e_sN : D.non.scal = true := id rfl
@[simp] theorem e_addI (i j : Int) : dAdd (.int i) (.int j) = some (.int (i + j)) := id rfl
@[simp] theorem e_subI (i j : Int) : dSub (.int i) (.int j) = some (.int (i - j)) := id rfl
@[simp] theorem e_addL (a b : List D) : dAdd (.lst a) (.lst b) = if a.length + b.length ≤ sizeLine then some (.lst (a ++ b)) else none := id rfl
@[simp] theorem e_addT (a b : List D) : dAdd (.tup a) (.tup b) = if a.length + b.length ≤ sizeLine then some (.tup (a ++ b)) else none := id rfl
@[simp] theorem e_addS (a b : Tx) : dAdd (.str a) (.str b) = if a.length + b.length ≤ sizeLine then some (.str (a ++ b)) else none := id rfl
@[simp] theorem e_mod (i j : Int) : dMod (.int i) (.int j) = if 0 < j then some (.int (i % j)) else none := id rfl
@[simp] theorem e_div (i j : Int) : dDiv (.int i) (.int j) = if 0 < j ∧ j < 1073741824 then some (.int (i / j)) else none := id rfl
theorem e_mulI (i j : Int) : dMul (.int i) (.int j) = if -(2 ^ 64) < j ∧ j < 2 ^ 64 then some (.int (i * j)) else if -(2 ^ 64) < i ∧ i < 2 ^ 64 then some (.int (i * j)) else none := id rfl
@[simp] theorem e_mulL (a : List D) (k : Int) : dMul (.lst a) (.int k) = if 0 ≤ k ∧ k ≤ 1000000 ∧ a.length * k.toNat ≤ sizeLine then some (.lst (List.replicate k.toNat a).flatten) else none := id rfl
@[simp] theorem e_mulS (a : Tx) (k : Int) : dMul (.str a) (.int k) = if 0 ≤ k ∧ k ≤ 1000000 ∧ a.length * k.toNat ≤ 16777216 then some (.str (repT a k.toNat)) else none := id rfl
@[simp] theorem e_ltI (i j : Int) : dLt (.int i) (.int j) = some (.bl (decide (i < j))) := id rfl
@[simp] theorem e_ltS (a b : Tx) : dLt (.str a) (.str b) = some (.bl (decide (a < b))) := id rfl
@[simp] theorem e_leI (i j : Int) : dLe (.int i) (.int j) = some (.bl (decide (i ≤ j))) := id rfl
@[simp] theorem e_gtI (i j : Int) : dGt (.int i) (.int j) = some (.bl (decide (j < i))) := id rfl
@[simp] theorem e_geI (i j : Int) : dGe (.int i) (.int j) = some (.bl (decide (j ≤ i))) := id rfl
@[simp] theorem e_ixL (xs : List D) (i : Int) : dIx (.lst xs) (.int i) = atI xs i := id rfl
@[simp] theorem e_ixT (xs : List D) (i : Int) : dIx (.tup xs) (.int i) = atI xs i := id rfl
@[simp] theorem e_lenL (xs : List D) : dLen [.lst xs] = some (.int xs.length) := id rfl
@[simp] theorem e_lenT (xs : List D) : dLen [.tup xs] = some (.int xs.length) := id rfl
@[simp] theorem e_lenS (a : Tx) : dLen [.str a] = if a.length ≤ sizeLine then some (.int a.length) else none := id rfl
@[simp] theorem e_d1 (f : D → Option D) (x : D) : d1 f [x] = f x := id rfl
@[simp] theorem e_d2 (f : D → D → Option D) (x y : D) : d2 f [x, y] = f x y := id rfl
@[simp] theorem e_int (i : Int) : dInt (.int i) = some (.int i) := id rfl
@[simp] theorem e_divmod (i j : Int) : dDivmod (.int i) (.int j) = if 0 < j ∧ j < 1073741824 then some (.tup [.int (i / j), .int (i % j)]) else none := id rfl
@[simp] theorem e_listL (xs : List D) : dList (.lst xs) = some (.lst xs) := id rfl
@[simp] theorem e_listT (xs : List D) : dList (.tup xs) = some (.lst xs) := id rfl
@[simp] theorem e_tupL (xs : List D) : dTuple (.lst xs) = some (.tup xs) := id rfl
@[simp] theorem e_tupT (xs : List D) : dTuple (.tup xs) = some (.tup xs) := id rfl
@[simp] theorem e_nat {α : Type} (xs : List α) (i : Nat) : atI xs (i : Int) = xs[i]? := by
  unfold atI ixN
  rw [if_pos (by omega)]
  by_cases h : (i : Int) < (xs.length : Int)
  · rw [if_pos h]; rfl
  · rw [if_neg h, List.getElem?_eq_none (by omega)]; rfl
@[simp] theorem e_zero {α : Type} (xs : List α) : atI xs 0 = xs[0]? := e_nat xs 0
@[simp] theorem e_one {α : Type} (xs : List α) : atI xs 1 = xs[1]? := e_nat xs 1
theorem e_neg1 {α : Type} (xs : List α) (x : α) : atI (xs ++ [x]) (-1) = some x := atI_last xs x
end
/-! loops -/
theorem lcGo_map {f : D → Option (Option D)} {g : D → D} : ∀ {xs : List D}, (∀ x ∈ xs, f x = some (some (g x))) → lcGo f xs = some (xs.map g)
  | [], _ => rfl
  | x :: xs, h => by
    show (f x).bind _ = _
    rw [h x List.mem_cons_self, Option.bind_some, lcGo_map (xs := xs) fun y hy => h y (List.mem_cons_of_mem _ hy)]
    rfl
/-- over data of one kind -/
theorem lcGo_mapF {α : Type} {F : α → D} {f : D → Option (Option D)} {g : α → D} : ∀ {xs : List α}, (∀ x ∈ xs, f (F x) = some (some (g x))) → lcGo f (xs.map F) = some (xs.map g)
  | [], _ => rfl
  | x :: xs, h => by
    show (f (F x)).bind _ = _
    rw [h x List.mem_cons_self, Option.bind_some]
    have := lcGo_mapF (xs := xs) (F := F) (f := f) (g := g) fun y hy => h y (List.mem_cons_of_mem _ hy)
    rw [this]
    rfl
theorem lcGo_filterF {α : Type} {F : α → D} {f : D → Option (Option D)} {p : α → Bool} {g : α → D} : ∀ {xs : List α}, (∀ x ∈ xs, f (F x) = some (if p x = true then some (g x) else none)) → lcGo f (xs.map F) = some ((xs.filter p).map g)
  | [], _ => rfl
  | x :: xs, h => by
    show (f (F x)).bind _ = _
    rw [h x List.mem_cons_self, Option.bind_some]
    have := lcGo_filterF (xs := xs) (F := F) (f := f) (p := p) (g := g) fun y hy => h y (List.mem_cons_of_mem _ hy)
    rw [this, List.filter_cons]
    by_cases c : p x = true
    · rw [if_pos c, if_pos c]; rfl
    · rw [if_neg c, if_neg c]; rfl
/-- a for: what holds behind each turn -/
theorem loopD_inv {α : Type} {F : α → D} {tg : D → DS → Option DS} {mb : Ms} (I : List α → DS → Prop) : ∀ (xs : List α) (pre : List α) (ds : DS), I pre ds →
    (∀ p x q ds, pre ++ xs = p ++ x :: q → I p ds → ∃ d1 d2, tg (F x) ds = some d1 ∧ mb d1 = some (.nx d2) ∧ I (p ++ [x]) d2) → ∃ ds', loopD tg mb (xs.map F) ds = some (.nx ds') ∧ I (pre ++ xs) ds'
  | [], pre, ds, h, _ => ⟨ds, rfl, by rw [List.append_nil]; exact h⟩
  | x :: xs, pre, ds, h, k => by
    obtain ⟨d1, d2, e1, e2, h2⟩ := k pre x xs ds rfl h
    obtain ⟨ds', e3, h3⟩ := loopD_inv (F := F) (tg := tg) (mb := mb) I xs (pre ++ [x]) d2 h2 fun p y q ds e hp => k p y q ds (by rw [← e, List.append_assoc]; rfl) hp
    refine ⟨ds', ?_, by rw [List.append_assoc] at h3; exact h3⟩
    show (tg (F x) ds).bind _ = _
    rw [e1, Option.bind_some, e2, Option.bind_some]
    exact e3
theorem loopD_all {α : Type} {F : α → D} {tg : D → DS → Option DS} {mb : Ms} (I : List α → DS → Prop) {xs : List α} {ds : DS} (h : I [] ds)
    (k : ∀ p x q ds, xs = p ++ x :: q → I p ds → ∃ d1 d2, tg (F x) ds = some d1 ∧ mb d1 = some (.nx d2) ∧ I (p ++ [x]) d2) : ∃ ds', loopD tg mb (xs.map F) ds = some (.nx ds') ∧ I xs ds' := loopD_inv I xs [] ds h k
/-- a while, by what holds and a measure -/
theorem loopW_inv {mc : DS → Option (Bool × DS)} {mb : Ms} (I : DS → Prop) (μ : DS → Nat) (R : DS → Prop) (k : ∀ ds, I ds → (∃ d1 d2, mc ds = some (true, d1) ∧ mb d1 = some (.nx d2) ∧ I d2 ∧ μ d2 < μ ds) ∨ (∃ d1, mc ds = some (false, d1) ∧ R d1)) : ∀ (n : Nat) (ds : DS), μ ds < n → I ds → ∃ ds', loopW mc mb n ds = some (.nx ds') ∧ R ds'
  | 0, _, h, _ => absurd h (Nat.not_lt_zero _)
  | n + 1, ds, h, hi => by
    rcases k ds hi with ⟨d1, d2, e1, e2, h2, h3⟩ | ⟨d1, e1, h2⟩
    · obtain ⟨ds', e3, h4⟩ := loopW_inv I μ R k n d2 (by omega) h2
      refine ⟨ds', ?_, h4⟩
      show (mc ds).bind _ = _
      rw [e1, Option.bind_some, if_pos rfl]
      show (mb d1).bind _ = _
      rw [e2, Option.bind_some]
      exact e3
    · refine ⟨d1, ?_, h2⟩
      show (mc ds).bind _ = _
      rw [e1, Option.bind_some, if_neg Bool.false_ne_true]
theorem while_inv {mc : DS → Option (Bool × DS)} {mb : Ms} (I : DS → Prop) (μ : DS → Nat) (R : DS → Prop) {ds : DS} (hi : I ds) (hm : μ ds < 1000000000)
    (k : ∀ ds, I ds → (∃ d1 d2, mc ds = some (true, d1) ∧ mb d1 = some (.nx d2) ∧ I d2 ∧ μ d2 < μ ds) ∨ (∃ d1, mc ds = some (false, d1) ∧ R d1)) : ∃ ds', mWhile mc mb ds = some (.nx ds') ∧ R ds' := by
  obtain ⟨ds', e, h⟩ := loopW_inv I μ R k (μ ds + 1) ds (Nat.lt_succ_self _) hi
  exact ⟨ds', loopW_mono e (fuel_ge (by omega)), h⟩
/-- a comprehension that draws -/
theorem lcGoX_inv {α : Type} {F : α → D} {tg : D → DS → Option DS} {mt : DS → Option (Bool × DS)} {me : DS → Option (D × DS)} {vs : List Nat} (I : DS → Prop) (R : D → Prop) : ∀ (xs : List α) (ds : DS), I ds →
    (∀ x ∈ xs, ∀ ds, I ds → ∃ d1 d2 y d3, tg (F x) ds = some d1 ∧ mt d1 = some (true, d2) ∧ me d2 = some (y, d3) ∧ R y ∧ I (wipeD d3 vs)) → ∃ ys ds', lcGoX tg mt me vs (xs.map F) ds = some (ys, ds') ∧ I ds' ∧ ys.length = xs.length ∧ ∀ y ∈ ys, R y
  | [], ds, h, _ => ⟨[], ds, rfl, h, rfl, fun y hy => nomatch hy⟩
  | x :: xs, ds, h, k => by
    obtain ⟨d1, d2, y, d3, e1, e2, e3, hR, hI⟩ := k x List.mem_cons_self ds h
    obtain ⟨ys, ds', e4, h4, h5, h6⟩ := lcGoX_inv (F := F) (tg := tg) (mt := mt) (me := me) (vs := vs) I R xs _ hI fun z hz => k z (List.mem_cons_of_mem _ hz)
    refine ⟨y :: ys, ds', ?_, h4, by rw [List.length_cons, List.length_cons, h5], fun z hz => ?_⟩
    · show (tg (F x) ds).bind _ = _
      rw [e1, Option.bind_some, e2, Option.bind_some, if_pos rfl]
      show (me d2).bind _ = _
      rw [e3, Option.bind_some]
      show (lcGoX tg mt me vs (xs.map F) (wipeD d3 vs)).map _ = _
      rw [e4]
      rfl
    · rcases List.mem_cons.mp hz with rfl | hz
      · exact hR
      · exact h6 z hz
end VS
end
section
set_option maxRecDepth 100000
set_option maxHeartbeats 4000000
namespace LW
open PySem L2 RX VS Evl
abbrev st__law_pot : Stmt := top 38
theorem sc__law_pot : FnScope ["_law_script", "_law_k", "_law_start"] ["_law_script", "_law_k"] (defScope st__law_pot) := ⟨rfl, rfl, rfl, by decide +kernel, rfl, by decide +kernel, by decide +kernel⟩
abbrev st_law : Stmt := top 54
theorem sc_law : FnScope ["_law_script", "_law_k"] ["_law_script"] (defScope st_law) := ⟨rfl, rfl, rfl, by decide +kernel, rfl, by decide +kernel, by decide +kernel⟩
theorem bl_t {p : Prop} [Decidable p] (h : p) : V.bl (decide p) = V.bl true := by rw [decide_eq_true h]
theorem bl_f {p : Prop} [Decidable p] (h : ¬ p) : V.bl (decide p) = V.bl false := by rw [decide_eq_false h]
theorem turn_yes {σ : L2.St} {H : Hp} {A B : Hp → Prop} (h : A H) : tYes σ H (fun b H3 => if b = true then A H3 else B H3) := by
  show (if true = true then A H else B H)
  rw [if_pos rfl]
  exact h
theorem kit_no {K : PySem.W.Frag} {C : Addr} {T : String} (hm : PySem.W.mroIn K C (.type "object") = some true) (ht : PySem.W.typeIn K (.ref C) = some (.type "type")) (hs : PySem.W.subIn K (.type T) (.ref C) = some false) : PySem.W.kitOne K (.type T) (.ref C) = some false := by
  have hc : (PySem.W.clsIn K C).isSome = true := by
    unfold PySem.W.mroIn at hm
    obtain ⟨cd, e, _⟩ := Option.bind_eq_some_iff.mp hm
    rw [e]
    rfl
  have he : ((Value.type T == Value.ref C) = true) = False := eq_false fun h => by
    have := eq_of_beq h
    cases this
  unfold PySem.W.kitOne
  rw [if_neg (fun h => he.mp h)]
  show (if ((PySem.W.clsIn K C).isSome && PySem.W.typeIn K (.ref C) == some (.type "type")) = true then PySem.W.subIn K (.type T) (.ref C) else none) = _
  rw [hc, ht, hs, if_pos (by simp)]
/-- a pot stands at p -/
def PotAt (H : Hp) (p : Addr) : Prop := ∃ x y : Int, H p = some (.lst [.int x, .int y]) ∧ 0 ≤ y ∧ y < 4294967296
/-- the pot at p may have turned, all else is as it was -/
structure Mv (p : Addr) (H H' : Hp) : Prop where
  pot : PotAt H' p
  kp : ∀ a o, a ≠ p → H a = some o → H' a = some o
theorem Mv.refl {p : Addr} {H : Hp} (h : PotAt H p) : Mv p H H := ⟨h, fun _ _ _ e => e⟩
theorem Mv.trans {p : Addr} {H H1 H2 : Hp} (a : Mv p H H1) (b : Mv p H1 H2) : Mv p H H2 := ⟨b.pot, fun c o n e => b.kp c o n (a.kp c o n e)⟩
theorem Mv.ex {p : Addr} {H H1 H2 : Hp} (a : Mv p H H1) (b : Ex H1 H2) : Mv p H H2 := ⟨let ⟨x, y, h, r⟩ := a.pot; ⟨x, y, b _ _ h, r⟩, fun c o n e => b c o (a.kp c o n e)⟩
theorem Mv.new {p : Addr} {H H1 : Hp} {q : Addr} {o : HO} (a : Mv p H H1) (h : H1 q = none) : Mv p H (upd H1 q o) := a.ex (Ex.new h)
theorem PotAt.ne {H : Hp} {p a : Addr} (h : PotAt H p) (n : H a = none) : a ≠ p := by
  rintro rfl
  obtain ⟨x, y, e, _⟩ := h
  rw [n] at e
  cases e
/-- what is new there was new here -/
theorem Mv.fresh {p : Addr} {H H1 : Hp} (a : Mv p H H1) {q : Addr} (h : H1 q = none) : H q = none := by
  cases e : H q with
  | none => rfl
  | some o =>
    rw [a.kp q o (a.pot.ne h) e] at h
    cases h
theorem PotAt.no {H : Hp} {p a : Addr} (h : PotAt H p) {o : HO} (e : H a = some o) (n : ∀ x y, o ≠ .lst [.int x, .int y]) : a ≠ p := by
  rintro rfl
  obtain ⟨x, y, e', _⟩ := h
  rw [e'] at e
  cases e
  exact n x y rfl
def spPot (K : PySem.W.Frag) : Sp := fun vs H Q _ => ∃ (a : Addr) (k : Int) (ns : List Int), vs = [.ref a, .int k] ∧ 0 ≤ k ∧ SqL K H a (ns.map V.int) ∧ ∀ p H', H p = none → Ex H H' → PotAt H' p → Q (.ref p) H'
def spFar : Sp := fun vs H Q _ => ∃ (p : Addr), vs = [.ref p] ∧ PotAt H p ∧ ∀ H', Mv p H H' → Q (.bl true) H'
def spLaw (K : PySem.W.Frag) : Sp := fun vs H Q _ => ∃ (a : Addr) (ns : List Int), vs = [.ref a] ∧ SqL K H a (ns.map V.int) ∧ ns.length ≤ 63 ∧ ∀ H', Q (.bl true) H'
section
variable {P : Program} {w : World} {K : PySem.W.Frag} {mg : Str → Option Value} {base : Heap}
theorem ok_pot {f : Addr} {fd : FuncData} (F : Fun K "_law_pot" "_law_pot" st__law_pot f fd) (T : Bn mg) : FnOk P w K mg base CX0 1 f fd ["_law_script", "_law_k"] (spPot K) := by
  refine F.ok sc__law_pot (fun vs H Q E h => ?_) (fun cdv A outer s H vs Q E hr h => ?_)
  · obtain ⟨a, k, ns, rfl, _⟩ := h
    rfl
  · obtain ⟨a, k, ns, rfl, hk, hS, go⟩ := h
    refine ⟨_, (pss_cons (ps_set (i := 2) sc__law_pot.nd rfl (Or.inl rfl) (pe_op op_add (pe_op op_mul pe_int (pv 1)) pe_int))
      (pss_cons (ps_if (pt_cmpR op_lt (pv 1) (pe_callB call_len_seq rfl T.n_len PySem.boot_len (pa_cons (pv 0) pa_nil)) (nomark _)) (pss_one (ps_set (i := 2) sc__law_pot.nd rfl (Or.inl rfl) (pe_callB call_abs rfl T.n_abs (by decide +kernel) (pa_cons (pe_ix ix_list (pv 0) (pv 1) (fun _ _ => rfl)) pa_nil)))) pss_nil)
      (pss_one (ps_ret (pe_lst (pa_cons (pe_callB (call_max2 rfl) rfl T.n_max (by decide +kernel) (pa_cons pe_int (pa_cons (pe_op op_sub (pv 2) (pe_op op_pow pe_int pe_int)) pa_nil))) (pa_cons (pe_op op_add (pe_op op_mod (pe_callTy call_int1 rfl T.n_int (by decide +kernel) (pa_cons (pe_op op_add (pe_op op_add (pe_op op_mul (pe_op op_mod (pe_callTy call_int1 rfl T.n_int (by decide +kernel) (pa_cons (pv 2) pa_nil)) pe_int) pe_int) (pe_op op_mul pe_int (pv 1))) pe_int) pa_nil)) pe_int) pe_int) pa_nil))))))), ?_⟩
    refine ⟨_, rfl, _, _, rfl, rfl, .inl ⟨by decide, by decide⟩, _, _, rfl, rfl, ?_⟩
    by_cases hlt : k < ((ns.map V.int).length : Int)
    case' pos =>
      have hl : k.toNat < ns.length := by rw [List.length_map] at hlt; omega
      refine ⟨_, rfl, _, rfl, a, _, rfl, .inl hS, _, _, rfl, rfl, true, bl_t hlt, iteT ?_⟩
      refine ⟨_, rfl, _, rfl, a, _, k, .int (ns[k.toNat]'hl), rfl, rfl, hS, at_of (j := k.toNat) (by omega) (by rw [List.getElem?_map, List.getElem?_eq_getElem hl]; rfl), _, rfl, ?_⟩
    case' neg => refine ⟨_, rfl, _, rfl, a, _, rfl, .inl hS, _, _, rfl, rfl, false, bl_f hlt, iteF ?_⟩
    all_goals
      refine ⟨_, rfl, _, _, rfl, rfl, ⟨by decide, by decide, by decide⟩, _, _, rfl, rfl, _, _, rfl, ?_⟩
      refine ⟨_, rfl, .inl ⟨_, rfl, _, _, rfl, rfl, by show (0 : Int) < (_ : Int); decide, _, _, rfl, rfl, .inr ⟨by decide, by decide⟩, _, rfl, _, _, rfl, rfl, .inl ⟨by decide, by decide⟩, _, _, rfl, rfl, _, _, rfl, rfl, .inl ⟨_, rfl, _, _, rfl, rfl, by show (0 : Int) < (_ : Int); decide, _, _, rfl, rfl, by show 2 ≤ sizeLine; decide, fun p hp => ?_⟩⟩⟩
      refine go p _ hp (Ex.new hp) ⟨_, _, upd_same, ?_, ?_⟩
      · exact Int.add_nonneg (Int.emod_nonneg _ (by decide)) (by decide)
      · exact Int.lt_of_lt_of_le (Int.add_lt_add_right (Int.emod_lt_of_pos _ (by decide)) _) (by decide)
/-- a def that draws and says yes, whatever the pot -/
theorem far_of {k : Nat} {f : Addr} {fd : FuncData} {q : Str} {m : List D → Option (D × D)} (hm : ∀ x y : Int, 0 ≤ y → y < 4294967296 → ∃ x' y' : Int, m [.lst [.int x, .int y]] = some (.bl true, .lst [.int x', .int y']) ∧ 0 ≤ y' ∧ y' < 4294967296) (G : GOk P w K mg base k f fd [q] (spP 1 0 m)) : GOk P w K mg base k f fd [q] spFar := by
  refine ⟨fun vs H Q E h => ?_, fun A outer s H args us vs Q hg hr e0 hb r h => G.run A outer s H args us vs Q hg hr e0 hb r ?_⟩
  · obtain ⟨p, rfl, _⟩ := h
    rfl
  · obtain ⟨p, rfl, ⟨x, y, hp, h1, h2⟩, k⟩ := h
    obtain ⟨x', y', e, k1, k2⟩ := hm x y h1 h2
    have i0 : ∀ i : Int, Own (fun _ => none) H 0 (.int i) (.int i) [] := fun i => ⟨.int i, rfl⟩
    have ow : Own (fun _ => none) H 1 (.lst [.int x, .int y]) (.ref p) [p] := ⟨p, [.int x, .int y], [], rfl, hp, L3.cons (i0 x) (L3.cons (i0 y) .nil), rfl⟩
    refine ⟨fun _ => none, p, [], .lst [.int x, .int y], [], _, _, rfl, (fun a o q => nomatch q), rfl, ow, .nil, e, fun v H' Z' st => ?_⟩
    have hv : v = .bl true := by
      obtain ⟨u, bs, q1, q2⟩ := st.get (i := 0) rfl
      cases q1
      obtain ⟨q3, _⟩ := q2
      cases q3
      rfl
    subst hv
    refine k H' ⟨?_, fun a o hn ha => st.exU a o (by rw [dl_ne hn]; exact ha)⟩
    obtain ⟨u, bs, q1, q2⟩ := st.get (i := 1) rfl
    obtain ⟨rfl, a, vs, cs, q3, q4, q5, _⟩ := q2
    cases q3
    refine ⟨x', y', ?_, k1, k2⟩
    rw [q4]
    cases q5 with
    | cons z1 q5 =>
      cases q5 with
      | cons z2 q5 =>
        cases q5
        obtain ⟨z1, _⟩ := z1
        obtain ⟨z2, _⟩ := z2
        cases z1
        cases z2
        rfl
theorem ok_law {f : Addr} {fd : FuncData} {kr : Nat} (h1 : 1 ≤ kr) (F : Fun K "law" "law" st_law f fd) (T : Bn mg) (D1 : Dg P w K mg base kr "_law_right" ["_law_pot_here"] spFar) (D2 : Df P w K mg base 1 "_law_pot" ["_law_script", "_law_k"] (spPot K)) : GOk P w K mg base (kr + 1) f fd ["_law_script"] (spLaw K) := by
  obtain ⟨f1, fd1, G__law_right, m__law_right, k__law_right, b__law_right⟩ := D1
  obtain ⟨f2, fd2, G__law_pot, m__law_pot, k__law_pot, b__law_pot⟩ := D2
  refine fun_okG F sc_law (fun vs H Q E h => ?_) (fun cdv A outer s H vs Q hgd hr h => ?_)
  · obtain ⟨a, ns, rfl, _⟩ := h
    rfl
  · obtain ⟨a, ns, rfl, ha, hl, k⟩ := h
    have hr__law_right := hr
    have hr__law_pot := hr.mono h1
    refine ⟨_, (pss_one (ps_ret (pe_callB (cr_all rfl) rfl T.n_all (by decide +kernel) (pa_cons (pe_lc (own := [("_law_k", 1)]) (g := gName 1) rfl sc_law.nd (pi_range1 rfl T.n_range (pa_cons (pe_callB (call_max2 rfl) rfl T.n_max (by decide +kernel) (pa_cons pe_int (pa_cons (pe_callB (call_min2 rfl) rfl T.n_min (by decide +kernel) (pa_cons pe_int (pa_cons (pe_callB call_len_seq rfl T.n_len PySem.boot_len (pa_cons (pv 0) pa_nil)) pa_nil))) pa_nil))) pa_nil)) (blkOk_by (own := [("_law_k", 1)]) (N := ["_law_script", "_law_k"]) (sc := defScope st_law) (by decide +kernel)) (fun _ _ _ _ _ => (pg_name (i := 1) sc_law.nd rfl (Or.inl rfl))) (fun _ _ _ _ _ => pts_nil) (fun _ _ _ _ _ => (pe_callG G__law_right hgd hr__law_right rfl m__law_right k__law_right b__law_right (pa_cons (pe_call G__law_pot hr__law_pot rfl m__law_pot k__law_pot b__law_pot .nil pass0 (pa_cons (pv 0) (pa_cons (pv 1) pa_nil))) pa_nil)))) pa_nil)))), ?_⟩
    have hlen : (ns.map V.int).length = ns.length := List.length_map ..
    refine ⟨_, rfl, a, _, rfl, .inl ha, _, _, rfl, _, _, rfl, ?_⟩
    obtain ⟨m, hm⟩ : ∃ m : Int, m = (if (if ((ns.map V.int).length : Int) < 4 then ((ns.map V.int).length : Int) else 4) > 1 then (if ((ns.map V.int).length : Int) < 4 then ((ns.map V.int).length : Int) else 4) else 1) := ⟨_, rfl⟩
    have m1 : 0 ≤ m ∧ m ≤ 4 := by
      rw [hm]
      split <;> split <;> omega
    refine ⟨m, congrArg (fun z => [V.int z]) hm.symm, by omega, by omega, fun D hD => lc_range (lo := 0) (n := m.toNat) (fun i H' => Ex H H' ∧ i ≤ 4 ∧ H' D = some (.lst (List.replicate i (.bl true)))) ⟨Ex.new hD, Nat.zero_le _, upd_same⟩ ?_ ?_⟩
    · rintro i H' hi ⟨ex, h4, hD'⟩
      refine ⟨rfl, turn_yes ?_⟩
      refine ⟨_, rfl, _, rfl, a, (0 : Int) + (i : Int), ns, rfl, by omega, ex_l ex ha, fun p H2 hp e2 pot => ?_⟩
      refine ⟨p, rfl, pot, fun H3 m3 => ?_⟩
      have e3 : Ex H' H3 := fun b o e => m3.kp b o (ne_of_none e hp) (e2 b o e)
      refine ⟨_, e3 _ _ hD', by rw [List.length_replicate]; exact sz_lt (by omega), (ex.trans e3).mut hD, by omega, ?_⟩
      rw [upd_same, List.replicate_succ']
    · rintro H' ⟨ex, h4, hD'⟩
      refine ⟨D, List.replicate _ true, rfl, by rw [List.map_replicate]; exact SqL.of hD', ?_⟩
      have e : (List.replicate m.toNat true).all id = true := by simp
      rw [e]
      exact k _
end
end LW
end
section
set_option maxRecDepth 100000
set_option maxHeartbeats 4000000
/-! plain: machines' rows; data that is compared and shown -/
namespace VS
open PySem L2 RX Evl
/-- letters of a machine -/
structure LOk (a : Tx) : Prop where
  lets : ∀ c ∈ a, 97 ≤ c ∧ c ≤ 122
  pos : 0 < a.length
  le3 : a.length ≤ 3
  up : a.Pairwise (· < ·)
/-- rows that may be -/
structure ROk (m : Nat) (rows : List (List Nat)) : Prop where
  pos : 0 < rows.length
  le : rows.length ≤ 120
  len : ∀ r ∈ rows, r.length = m
  goal : ∀ r ∈ rows, ∀ g ∈ r, g < rows.length
/-- those of a row that are not there yet, behind those that are -/
def addAll (found row : List Nat) : List Nat := row.foldl (fun f g => if g ∈ f then f else f ++ [g]) found
/-- the places that are met, in the order in which they are come to -/
def goM (rows : List (List Nat)) : Nat → Nat → List Nat → List Nat
  | 0, _, found => found
  | k + 1, i, found => if i < found.length then goM rows k (i + 1) (addAll found (rows.getD (found.getD i 0) [])) else found
def metL (rows : List (List Nat)) (s : Nat) : List Nat := goM rows rows.length 0 [s]
theorem addAll_snoc (f row : List Nat) (g : Nat) : addAll f (row ++ [g]) = if g ∈ addAll f row then addAll f row else addAll f row ++ [g] := by
  unfold addAll
  rw [List.foldl_append]
  rfl
theorem addAll_mem (g : Nat) : ∀ (row f : List Nat), g ∈ addAll f row ↔ g ∈ f ∨ g ∈ row
  | [], f => by simp [addAll]
  | x :: row, f => by
    show g ∈ addAll (if x ∈ f then f else f ++ [x]) row ↔ _
    rw [addAll_mem g row, List.mem_cons]
    split
    · rename_i h
      exact ⟨fun z => z.elim .inl fun z => .inr (.inr z), fun z => z.elim .inl fun z => z.elim (fun e => .inl (e ▸ h)) .inr⟩
    · rw [List.mem_append, List.mem_singleton, or_assoc]
theorem addAll_nodup : ∀ (row f : List Nat), f.Nodup → (addAll f row).Nodup
  | [], f, h => h
  | x :: row, f, h => by
    show (addAll (if x ∈ f then f else f ++ [x]) row).Nodup
    apply addAll_nodup row
    split
    · exact h
    · rename_i hx
      rw [List.nodup_append]
      exact ⟨h, by simp, fun a ha b hb => by rw [List.mem_singleton.mp hb]; exact fun e => hx (e ▸ ha)⟩
theorem nodup_le : ∀ (n : Nat) (l : List Nat), l.Nodup → (∀ x ∈ l, x < n) → l.length ≤ n
  | 0, l, _, h => by
    cases l with
    | nil => exact Nat.le_refl _
    | cons x l => exact absurd (h x List.mem_cons_self) (Nat.not_lt_zero _)
  | n + 1, l, hn, h => by
    by_cases hm : n ∈ l
    · have h1 := nodup_le n (l.erase n) (hn.erase n) fun x hx => by
        have h2 := hn.mem_erase_iff.mp hx
        have := h x h2.2
        have := h2.1
        omega
      rw [List.length_erase_of_mem hm] at h1
      omega
    · have := nodup_le n l hn fun x hx => by
        have h1 := h x hx
        have : x ≠ n := fun e => hm (e ▸ hx)
        omega
      omega
def posOf : Tx → Nat → Nat
  | [], _ => 0
  | x :: a, c => if x = c then 0 else posOf a c + 1
theorem pos_at (c : Nat) : ∀ (a : Tx), c ∈ a → a[posOf a c]? = some c ∧ ∀ j, j < posOf a c → a[j]? ≠ some c
  | [], h => nomatch h
  | x :: a, h => by
    show (x :: a)[if x = c then 0 else posOf a c + 1]? = some c ∧ ∀ j, j < (if x = c then 0 else posOf a c + 1) → (x :: a)[j]? ≠ some c
    by_cases e : x = c
    · rw [if_pos e]
      exact ⟨by rw [e]; rfl, fun j hj => absurd hj (Nat.not_lt_zero _)⟩
    · rw [if_neg e]
      have hm : c ∈ a := (List.mem_cons.mp h).resolve_left fun z => e z.symm
      obtain ⟨h1, h2⟩ := pos_at c a hm
      refine ⟨by rw [List.getElem?_cons_succ]; exact h1, fun j hj => ?_⟩
      cases j with
      | zero => rw [List.getElem?_cons_zero]; intro z; exact e (Option.some.inj z)
      | succ j => rw [List.getElem?_cons_succ]; exact h2 j (by omega)
/-- one step -/
def goalOf (a : Tx) (rows : List (List Nat)) (p c : Nat) : Nat := (rows.getD p []).getD (posOf a c) 0
/-- where a walk ends -/
def endL (a : Tx) (rows : List (List Nat)) (p : Nat) (t : Tx) : Nat := t.foldl (goalOf a rows) p
/-- the places of a walk -/
def ledL (a : Tx) (rows : List (List Nat)) (p : Nat) : Tx → List Nat
  | [] => [p]
  | c :: t => p :: ledL a rows (goalOf a rows p c) t
theorem ledL_end (a : Tx) (rows : List (List Nat)) : ∀ (t : Tx) (p : Nat), ∃ xs, ledL a rows p t = xs ++ [endL a rows p t] ∧ xs.length = t.length
  | [], p => ⟨[], rfl, rfl⟩
  | c :: t, p => by
    obtain ⟨xs, e, hl⟩ := ledL_end a rows t (goalOf a rows p c)
    exact ⟨p :: xs, by show p :: ledL a rows (goalOf a rows p c) t = _; rw [e]; rfl, by rw [List.length_cons, List.length_cons, hl]⟩
theorem ledL_snoc (a : Tx) (rows : List (List Nat)) (c : Nat) : ∀ (t : Tx) (p : Nat), ledL a rows p (t ++ [c]) = ledL a rows p t ++ [goalOf a rows (endL a rows p t) c]
  | [], p => rfl
  | x :: t, p => by
    show p :: ledL a rows (goalOf a rows p x) (t ++ [c]) = p :: ledL a rows (goalOf a rows p x) t ++ _
    rw [ledL_snoc a rows c t]
    rfl
theorem goal_lt {a : Tx} {rows : List (List Nat)} {p c : Nat} (ok : ROk a.length rows) (hp : p < rows.length) (hc : c ∈ a) : ∃ row, rows[p]? = some row ∧ row[posOf a c]? = some (goalOf a rows p c) ∧ goalOf a rows p c < rows.length := by
  have hr : rows[p]? = some rows[p] := List.getElem?_eq_getElem hp
  have hm : rows[p] ∈ rows := List.getElem_mem hp
  have hj : posOf a c < rows[p].length := by rw [ok.len _ hm]; exact (List.getElem?_eq_some_iff.mp (pos_at c a hc).1).1
  have hg : rows[p][posOf a c]? = some rows[p][posOf a c] := List.getElem?_eq_getElem hj
  have e : goalOf a rows p c = rows[p][posOf a c] := by
    unfold goalOf
    rw [List.getD_eq_getElem?_getD, List.getD_eq_getElem?_getD, hr]
    show (rows[p][posOf a c]?).getD 0 = _
    rw [hg]
    rfl
  exact ⟨_, hr, by rw [hg, e], by rw [e]; exact ok.goal _ hm _ (List.getElem_mem hj)⟩
theorem end_lt {a : Tx} {rows : List (List Nat)} (ok : ROk a.length rows) : ∀ (t : Tx) (p : Nat), p < rows.length → (∀ c ∈ t, c ∈ a) → endL a rows p t < rows.length
  | [], p, hp, _ => hp
  | c :: t, p, hp, h => by
    obtain ⟨_, _, _, hg⟩ := goal_lt ok hp (h c List.mem_cons_self)
    exact end_lt ok t _ hg fun x hx => h x (List.mem_cons_of_mem _ hx)
inductive Reach (rows : List (List Nat)) (s : Nat) : Nat → Prop
  | here : Reach rows s s
  | step {p g : Nat} : Reach rows s p → g ∈ rows.getD p [] → Reach rows s g
theorem addAll_app : ∀ (row f : List Nat), ∃ c, addAll f row = f ++ c
  | [], f => ⟨[], by simp [addAll]⟩
  | x :: row, f => by
    show ∃ c, addAll (if x ∈ f then f else f ++ [x]) row = f ++ c
    split
    · exact addAll_app row f
    · obtain ⟨c, h⟩ := addAll_app row (f ++ [x])
      exact ⟨[x] ++ c, by rw [h, List.append_assoc]⟩
structure Shut (rows : List (List Nat)) (s : Nat) (R : List Nat) : Prop where
  hd : R[0]? = some s
  nd : R.Nodup
  lt : ∀ x ∈ R, x < rows.length
  cl : ∀ x ∈ R, ∀ g ∈ rows.getD x [], g ∈ R
  rc : ∀ x ∈ R, Reach rows s x
theorem goM_shut {rows : List (List Nat)} {s : Nat} (hg : ∀ r ∈ rows, ∀ g ∈ r, g < rows.length) : ∀ (k i : Nat) (found : List Nat), k + i = rows.length → found[0]? = some s → found.Nodup → (∀ x ∈ found, x < rows.length) →
    (∀ j, j < i → ∀ x, found[j]? = some x → ∀ g ∈ rows.getD x [], g ∈ found) → (∀ x ∈ found, Reach rows s x) → Shut rows s (goM rows k i found)
  | 0, i, found, hk, h0, nd, lt, cl, rc => by
    show Shut rows s found
    refine ⟨h0, nd, lt, fun x hx => ?_, rc⟩
    obtain ⟨j, hj, rfl⟩ := List.mem_iff_getElem.mp hx
    have := nodup_le _ _ nd lt
    exact cl j (by omega) _ (List.getElem?_eq_getElem hj)
  | k + 1, i, found, hk, h0, nd, lt, cl, rc => by
    show Shut rows s (if i < found.length then goM rows k (i + 1) (addAll found (rows.getD (found.getD i 0) [])) else found)
    split
    · rename_i hi
      obtain ⟨x, hx⟩ : ∃ x, found[i]? = some x := ⟨_, List.getElem?_eq_getElem hi⟩
      have hxm := List.mem_of_getElem? hx
      have e1 : found.getD i 0 = x := by rw [List.getD_eq_getElem?_getD, hx]; rfl
      rw [e1]
      have hrow : rows.getD x [] ∈ rows := by
        rw [List.getD_eq_getElem?_getD, List.getElem?_eq_getElem (lt x hxm)]
        exact List.getElem_mem _
      obtain ⟨c, hc⟩ := addAll_app (rows.getD x []) found
      have mem := fun y => addAll_mem y (rows.getD x []) found
      have pre : ∀ j y, j < found.length → (addAll found (rows.getD x []))[j]? = some y → found[j]? = some y := fun j y hj h => by
        rw [hc, List.getElem?_append_left hj] at h
        exact h
      refine goM_shut hg k (i + 1) _ (by omega) ?_ (addAll_nodup _ _ nd) (fun y hy => ((mem y).mp hy).elim (lt y) (hg _ hrow y)) (fun j hj y hy g hgm => ?_) (fun y hy => ((mem y).mp hy).elim (rc y) fun z => .step (rc x hxm) z)
      · rw [hc, List.getElem?_append_left (by omega)]
        exact h0
      · have hy' := pre j y (by omega) hy
        by_cases hji : j = i
        · subst hji
          rw [hx] at hy'
          cases hy'
          exact (mem g).mpr (.inr hgm)
        · exact (mem g).mpr (.inl (cl j (by omega) y hy' g hgm))
    · rename_i hi
      refine ⟨h0, nd, lt, fun x hx => ?_, rc⟩
      obtain ⟨j, hj, rfl⟩ := List.mem_iff_getElem.mp hx
      exact cl j (by omega) _ (List.getElem?_eq_getElem hj)
theorem metL_shut {m : Nat} {rows : List (List Nat)} (ok : ROk m rows) {s : Nat} (hs : s < rows.length) : Shut rows s (metL rows s) :=
  goM_shut ok.goal rows.length 0 [s] rfl rfl (by simp) (fun x hx => by rw [List.mem_singleton.mp hx]; exact hs) (fun j hj => absurd hj (Nat.not_lt_zero _)) fun x hx => by rw [List.mem_singleton.mp hx]; exact .here
theorem Shut.all {rows : List (List Nat)} {s : Nat} {R : List Nat} (h : Shut rows s R) {p : Nat} (r : Reach rows s p) : p ∈ R := by
  induction r with
  | here => exact List.mem_of_getElem? h.hd
  | step _ hg ih => exact h.cl _ ih _ hg
/-- rows with the places called by their number in places -/
def calledL (rows : List (List Nat)) (places : List Nat) : List (List Nat) := places.map fun p => (rows.getD p []).map fun g => posOf places g
theorem pos_lt {a : List Nat} {c : Nat} (h : c ∈ a) : posOf a c < a.length := (List.getElem?_eq_some_iff.mp (pos_at c a h).1).1
theorem called_len (rows : List (List Nat)) (places : List Nat) : (calledL rows places).length = places.length := by
  unfold calledL
  rw [List.length_map]
theorem called_get {rows : List (List Nat)} {places : List Nat} {i p : Nat} (h : places[i]? = some p) : (calledL rows places).getD i [] = (rows.getD p []).map fun g => posOf places g := by
  unfold calledL
  rw [List.getD_eq_getElem?_getD, List.getElem?_map, h]
  rfl
theorem called_ok {m : Nat} {rows : List (List Nat)} {places : List Nat} (ok : ROk m rows) (sh : Shut rows 0 places) : ROk m (calledL rows places) := by
  have hl := called_len rows places
  have h0 := (List.getElem?_eq_some_iff.mp sh.hd).1
  have h1 := nodup_le _ _ sh.nd sh.lt
  have o1 := ok.le
  have row : ∀ r ∈ calledL rows places, ∃ p ∈ places, rows.getD p [] ∈ rows ∧ r = (rows.getD p []).map fun g => posOf places g := fun r hr => by
    obtain ⟨p, hp, rfl⟩ := List.mem_map.mp hr
    refine ⟨p, hp, ?_, rfl⟩
    rw [List.getD_eq_getElem?_getD, List.getElem?_eq_getElem (sh.lt p hp)]
    exact List.getElem_mem _
  refine ⟨by omega, by omega, fun r hr => ?_, fun r hr g hg => ?_⟩
  · obtain ⟨p, hp, hm, rfl⟩ := row r hr
    rw [List.length_map]
    exact ok.len _ hm
  · obtain ⟨p, hp, hm, rfl⟩ := row r hr
    obtain ⟨g0, hg0, rfl⟩ := List.mem_map.mp hg
    rw [hl]
    exact pos_lt (sh.cl p hp g0 hg0)
theorem called_reach {rows : List (List Nat)} {places : List Nat} (sh : Shut rows 0 places) {p : Nat} (r : Reach rows 0 p) : ∃ i, places[i]? = some p ∧ Reach (calledL rows places) 0 i := by
  induction r with
  | here => exact ⟨0, sh.hd, .here⟩
  | @step p g r hg ih =>
    obtain ⟨i, hi, ri⟩ := ih
    have hp := List.mem_of_getElem? hi
    have hgm := sh.cl p hp g hg
    refine ⟨posOf places g, (pos_at g places hgm).1, .step ri ?_⟩
    rw [called_get hi]
    exact List.mem_map_of_mem hg
theorem called_all {m : Nat} {rows : List (List Nat)} {places : List Nat} (ok : ROk m rows) (sh : Shut rows 0 places) {i : Nat} (hi : i < places.length) : Reach (calledL rows places) 0 i := by
  obtain ⟨j, hj, rj⟩ := called_reach sh (sh.rc _ (List.getElem_mem hi))
  obtain ⟨hj1, hj2⟩ := List.getElem?_eq_some_iff.mp hj
  have e : j = i := (List.getElem?_inj hj1 sh.nd).mp (by rw [hj, List.getElem?_eq_getElem hi])
  rw [← e]
  exact rj
mutual
/-- leaves that are small -/
def D.lf : D → Bool
  | .non => true
  | .bl _ => true
  | .int i => decide (i.natAbs < 10 ^ 12)
  | .str a => a.all fun c => decide (c < 0x110000)
  | .lst xs => lfs xs
  | .tup xs => lfs xs
  | .dic _ => false
  | .ins _ _ => false
def lfs : List D → Bool
  | [] => true
  | x :: xs => D.lf x && lfs xs
end
mutual
def D.dep : D → Nat
  | .lst xs => deps xs + 1
  | .tup xs => deps xs + 1
  | _ => 0
def deps : List D → Nat
  | [] => 0
  | x :: xs => max (D.dep x) (deps xs)
end
mutual
def D.blk : D → Nat
  | .str a => a.length
  | .lst xs => blks xs
  | .tup xs => blks xs
  | _ => 0
def blks : List D → Nat
  | [] => 0
  | x :: xs => D.blk x + 1 + blks xs
end
structure PdOk (p : PyData) (d b : Nat) : Prop where
  lay : p.canLay0 = true
  sh : p.showable = true
  hd : p.hasDict = false
  dp : p.depth = d
  ls : p.leavesShort 13 = true
  bk : p.bulk = b
structure PdsOk (p : List PyData) (d b : Nat) : Prop where
  lay : PyData.canLayAll0 p = true
  sh : PyData.showableAll p = true
  hd : PyData.hasDictAll p = false
  dp : PyData.depthAll p = d
  ls : PyData.leavesShortAll 13 p = true
  bk : PyData.bulkAll p = b
theorem int_sh {i : Int} (h : i.natAbs < 10 ^ 12) : (PyData.int i).showable = true := by
  have hl : i.natAbs.log2 < 1920 := by
    by_cases h0 : i.natAbs = 0
    · rw [h0]; decide
    · have := (Nat.log2_lt (k := 40) h0).mpr (Nat.lt_of_lt_of_le h (by decide))
      omega
  show decide (_ < 1920) = true
  rw [decide_eq_true_eq]
  exact hl
mutual
theorem lf_pd : ∀ (d : D), d.lf = true → ∃ p, d.pd = some p ∧ PdOk p d.dep d.blk
  | .non, _ => ⟨_, rfl, rfl, rfl, rfl, rfl, rfl, rfl⟩
  | .bl b, _ => ⟨_, rfl, rfl, rfl, rfl, rfl, rfl, rfl⟩
  | .int i, h => by
    have h : i.natAbs < 10 ^ 12 := by simpa [D.lf] using h
    exact ⟨_, rfl, rfl, int_sh h, rfl, rfl, by show decide (_ ≤ 13) = true; rw [decide_eq_true_eq]; exact PyData.shown_int_le h, rfl⟩
  | .str a, h => by
    have h : (a.all fun c => decide (c < 0x110000)) = true := h
    refine ⟨_, rfl, ?_, rfl, rfl, rfl, ?_, ?_⟩
    · show (a.toArray.all fun c => decide (c < 0x110000)) = true
      rw [List.all_toArray]
      exact h
    · show ((stx a).cps.toList.all fun c => decide (c < 16 ^ 8)) = true
      rw [stx_list, List.all_eq_true] at *
      intro x hx
      have := h x hx
      rw [decide_eq_true_eq] at *
      omega
    · exact stx_len a
  | .lst xs, h => by
    obtain ⟨ps, e, k⟩ := lfs_pd xs h
    exact ⟨.list ps, by simp only [D.pd, e, Option.map_some], k.lay, k.sh, k.hd, by show PyData.depthAll ps + 1 = _; rw [k.dp]; rfl, k.ls, k.bk⟩
  | .tup xs, h => by
    obtain ⟨ps, e, k⟩ := lfs_pd xs h
    exact ⟨.tuple ps, by simp only [D.pd, e, Option.map_some], k.lay, k.sh, k.hd, by show PyData.depthAll ps + 1 = _; rw [k.dp]; rfl, k.ls, k.bk⟩
  | .dic _, h => by cases h
  | .ins _ _, h => by cases h
theorem lfs_pd : ∀ (xs : List D), lfs xs = true → ∃ ps, pds xs = some ps ∧ PdsOk ps (deps xs) (blks xs)
  | [], _ => ⟨[], rfl, rfl, rfl, rfl, rfl, rfl, rfl⟩
  | x :: xs, h => by
    have h : (D.lf x && lfs xs) = true := h
    rw [Bool.and_eq_true] at h
    obtain ⟨p, e1, k1⟩ := lf_pd x h.1
    obtain ⟨ps, e2, k2⟩ := lfs_pd xs h.2
    refine ⟨p :: ps, by simp only [pds, e1, e2, Option.bind_some, Option.map_some], ?_, ?_, ?_, ?_, ?_, ?_⟩
    · show (p.canLay0 && PyData.canLayAll0 ps) = true
      rw [k1.lay, k2.lay]; rfl
    · show (p.showable && PyData.showableAll ps) = true
      rw [k1.sh, k2.sh]; rfl
    · show (p.hasDict || PyData.hasDictAll ps) = false
      rw [k1.hd, k2.hd]; rfl
    · show max p.depth (PyData.depthAll ps) = _
      rw [k1.dp, k2.dp]; rfl
    · show (p.leavesShort 13 && PyData.leavesShortAll 13 ps) = true
      rw [k1.ls, k2.ls]; rfl
    · show p.bulk + 1 + PyData.bulkAll ps = _
      rw [k1.bk, k2.bk]; rfl
end
theorem ok_of {d : D} (h : d.lf = true) (k : d.dep ≤ 64) : d.ok = true := by
  obtain ⟨p, e, q⟩ := lf_pd d h
  unfold D.ok
  rw [e]
  show (p.canLay0 && decide (p.depth ≤ 64)) = true
  rw [q.lay, q.dp, decide_eq_true k]
  rfl
theorem repr_of {d : D} (h : d.lf = true) (k : d.dep ≤ 20) (b : d.blk ≤ 6000) : ∃ t : Tx, dRepr d = some (.str t) ∧ t.length ≤ 15 * d.blk + 13 := by
  obtain ⟨p, e, q⟩ := lf_pd d h
  have hl := PyData.shown_le_bulk 13 (by decide) p q.ls
  rw [q.bk] at hl
  refine ⟨p.shown.cps.toList, ?_, by rw [Array.length_toList]; exact hl⟩
  unfold dRepr shw
  rw [e, Option.bind_some, if_pos ⟨q.sh, q.hd, by rw [q.dp]; exact k, Nat.le_trans hl (by unfold sizeLine; omega)⟩]
  rfl
mutual
theorem eqb_self : ∀ (d : D), d.lf = true → d.eqb d = true
  | .non, _ => by simp [D.eqb]
  | .bl b, _ => by simp [D.eqb]
  | .int i, _ => by simp [D.eqb]
  | .str a, _ => by simp [D.eqb]
  | .lst xs, h => by simp only [D.eqb]; exact eqbs_self xs h
  | .tup xs, h => by simp only [D.eqb]; exact eqbs_self xs h
  | .dic _, h => by cases h
  | .ins _ _, h => by cases h
theorem eqbs_self : ∀ (xs : List D), lfs xs = true → eqbs xs xs = true
  | [], _ => rfl
  | x :: xs, h => by
    have h : (D.lf x && lfs xs) = true := h
    rw [Bool.and_eq_true] at h
    show (x.eqb x && eqbs xs xs) = true
    rw [eqb_self x h.1, eqbs_self xs h.2]
    rfl
end
theorem dEq_self {d : D} (h : d.lf = true) (k : d.dep ≤ 64) : dEq d d = some (.bl true) := by
  have := ok_of h k
  have e : (d.ok && d.ok) = true := by rw [this]; rfl
  have e2 := eqb_self d h
  cases d with
  | str a => show some (D.bl (decide (a = a))) = _; simp
  | dic _ => cases h
  | ins _ _ => cases h
  | _ => exact (if_pos (e := (none : Option D)) e).trans (by rw [e2])
theorem dNe_self {d : D} (h : d.lf = true) (k : d.dep ≤ 64) : dNe d d = some (.bl false) := by
  unfold dNe
  rw [dEq_self h k]
  rfl
@[simp] theorem dEq_S (a b : Tx) : dEq (.str a) (.str b) = some (.bl (decide (a = b))) := id rfl
@[simp] theorem dNe_S (a b : Tx) : dNe (.str a) (.str b) = some (.bl (!decide (a = b))) := id rfl
@[simp] theorem dEq_I (a b : Int) : dEq (.int a) (.int b) = some (.bl (decide (a = b))) := by
  show some (D.bl (D.eqb _ _)) = _
  simp only [D.eqb]
  rfl
@[simp] theorem dNe_I (a b : Int) : dNe (.int a) (.int b) = some (.bl (!decide (a = b))) := by
  unfold dNe
  rw [dEq_I]
  rfl
/-! rows as data -/
abbrev iD (g : Nat) : D := .int (g : Int)
abbrev iL (r : List Nat) : D := .lst (r.map iD)
abbrev rL (rows : List (List Nat)) : D := .lst (rows.map iL)
abbrev iT (r : List Nat) : D := .tup (r.map iD)
abbrev rT (rows : List (List Nat)) : D := .tup (rows.map iT)
theorem lfs_iff : ∀ {xs : List D}, lfs xs = true ↔ ∀ x ∈ xs, x.lf = true
  | [] => by simp [lfs]
  | x :: xs => by
    show (D.lf x && lfs xs) = true ↔ _
    rw [Bool.and_eq_true, lfs_iff (xs := xs)]
    simp
theorem deps_le {n : Nat} : ∀ {xs : List D}, (∀ x ∈ xs, x.dep ≤ n) → deps xs ≤ n
  | [], _ => Nat.zero_le _
  | x :: xs, h => by
    show max x.dep (deps xs) ≤ n
    have := h x List.mem_cons_self
    have := deps_le fun y hy => h y (List.mem_cons_of_mem x hy)
    omega
theorem blks_le {n : Nat} : ∀ {xs : List D}, (∀ x ∈ xs, x.blk ≤ n) → blks xs ≤ xs.length * (n + 1)
  | [], _ => Nat.zero_le _
  | x :: xs, h => by
    show x.blk + 1 + blks xs ≤ (xs.length + 1) * (n + 1)
    have := h x List.mem_cons_self
    have := blks_le fun y hy => h y (List.mem_cons_of_mem x hy)
    rw [Nat.add_mul]
    omega
theorem iL_lf {r : List Nat} (h : ∀ g ∈ r, g < 10 ^ 12) : (iL r).lf = true := lfs_iff.mpr fun x hx => by
  obtain ⟨g, hg, rfl⟩ := List.mem_map.mp hx
  show decide _ = true
  rw [decide_eq_true_eq]
  exact h g hg
theorem iL_dep (r : List Nat) : (iL r).dep ≤ 1 := Nat.succ_le_succ (deps_le fun x hx => by
  obtain ⟨g, hg, rfl⟩ := List.mem_map.mp hx
  exact Nat.le_refl 0)
theorem iL_blk (r : List Nat) : (iL r).blk ≤ r.length := by
  have := blks_le (n := 0) (xs := r.map iD) fun x hx => by
    obtain ⟨g, hg, rfl⟩ := List.mem_map.mp hx
    exact Nat.le_refl 0
  rw [List.length_map] at this
  show blks _ ≤ _
  omega
theorem rL_lf {rows : List (List Nat)} (h : ∀ r ∈ rows, ∀ g ∈ r, g < 10 ^ 12) : (rL rows).lf = true := lfs_iff.mpr fun x hx => by
  obtain ⟨r, hr, rfl⟩ := List.mem_map.mp hx
  exact iL_lf (h r hr)
theorem rL_dep (rows : List (List Nat)) : (rL rows).dep ≤ 2 := Nat.succ_le_succ (deps_le fun x hx => by
  obtain ⟨r, hr, rfl⟩ := List.mem_map.mp hx
  exact iL_dep r)
theorem rL_blk {m : Nat} {rows : List (List Nat)} (h : ∀ r ∈ rows, r.length ≤ m) : (rL rows).blk ≤ rows.length * (m + 1) := by
  have := blks_le (n := m) (xs := rows.map iL) fun x hx => by
    obtain ⟨r, hr, rfl⟩ := List.mem_map.mp hx
    exact Nat.le_trans (iL_blk r) (h r hr)
  rw [List.length_map] at this
  exact this
theorem iD_eqb (a b : Nat) : (iD a).eqb (iD b) = decide (a = b) := by
  unfold iD
  simp only [D.eqb]
  rw [Bool.eq_iff_iff]
  simp
  omega
theorem iL_eqbs : ∀ a b : List Nat, eqbs (a.map iD) (b.map iD) = decide (a = b)
  | [], [] => rfl
  | [], _ :: _ => rfl
  | _ :: _, [] => rfl
  | x :: xs, y :: ys => by
    show ((iD x).eqb (iD y) && eqbs (xs.map iD) (ys.map iD)) = _
    rw [iD_eqb, iL_eqbs xs ys, Bool.eq_iff_iff]
    simp
theorem iL_eqb (a b : List Nat) : (iL a).eqb (iL b) = decide (a = b) := by
  unfold iL
  simp only [D.eqb]
  exact iL_eqbs a b
theorem rL_eqbs : ∀ a b : List (List Nat), eqbs (a.map iL) (b.map iL) = decide (a = b)
  | [], [] => rfl
  | [], _ :: _ => rfl
  | _ :: _, [] => rfl
  | x :: xs, y :: ys => by
    show ((iL x).eqb (iL y) && eqbs (xs.map iL) (ys.map iL)) = _
    rw [iL_eqb, rL_eqbs xs ys, Bool.eq_iff_iff]
    simp
theorem rL_eqb (a b : List (List Nat)) : (rL a).eqb (rL b) = decide (a = b) := by
  unfold rL
  simp only [D.eqb]
  exact rL_eqbs a b
/-- what may be compared, without a bound on its size -/
theorem ok_iL (r : List Nat) : (iL r).ok = true := by
  have h : ∀ r : List Nat, ∃ ps, pds (r.map iD) = some ps ∧ PyData.canLayAll0 ps = true ∧ PyData.depthAll ps = 0 := fun r => by
    induction r with
    | nil => exact ⟨[], rfl, rfl, rfl⟩
    | cons g r ih =>
      obtain ⟨ps, e, h1, h2⟩ := ih
      refine ⟨.int g :: ps, ?_, h1, ?_⟩
      · show (D.pd (iD g)).bind _ = _
        rw [show D.pd (iD g) = some (.int g) from rfl, Option.bind_some, e]
        rfl
      · show max 0 (PyData.depthAll ps) = 0
        rw [h2]
        rfl
  obtain ⟨ps, e, h1, h2⟩ := h r
  unfold D.ok iL
  simp only [D.pd, e, Option.map_some]
  show (PyData.canLayAll0 ps && decide (PyData.depthAll ps + 1 ≤ 64)) = true
  rw [h1, h2]
  rfl
@[simp] theorem dEq_iL (a b : List Nat) : dEq (iL a) (iL b) = some (.bl (decide (a = b))) := by
  show (if (iL a).ok && (iL b).ok then some (D.bl ((iL a).eqb (iL b))) else none) = _
  rw [ok_iL, ok_iL, if_pos (show (true && true) = true from rfl), iL_eqb]
@[simp] theorem dNe_iL (a b : List Nat) : dNe (iL a) (iL b) = some (.bl (!decide (a = b))) := by
  unfold dNe
  rw [dEq_iL]
  rfl
theorem dEq_rL {a b : List (List Nat)} (h1 : ∀ r ∈ a, ∀ g ∈ r, g < 10 ^ 12) (h2 : ∀ r ∈ b, ∀ g ∈ r, g < 10 ^ 12) : dEq (rL a) (rL b) = some (.bl (decide (a = b))) := by
  show (if (rL a).ok && (rL b).ok then some (D.bl ((rL a).eqb (rL b))) else none) = _
  have d1 := rL_dep a
  have d2 := rL_dep b
  rw [ok_of (rL_lf h1) (by omega), ok_of (rL_lf h2) (by omega), if_pos (show (true && true) = true from rfl), rL_eqb]
theorem inB_iD (g : Nat) (r : List Nat) : inB (iD g) (r.map iD) = decide (g ∈ r) := by
  induction r with
  | nil => rfl
  | cons x l ih =>
    show ((iD x).eqb (iD g) || inB (iD g) (l.map iD)) = _
    rw [ih, iD_eqb, Bool.eq_iff_iff, Bool.or_eq_true, decide_eq_true_eq, decide_eq_true_eq, decide_eq_true_eq, List.mem_cons]
    constructor
    · rintro (h | h)
      · exact .inl h.symm
      · exact .inr h
    · rintro (h | h)
      · exact .inl h.symm
      · exact .inr h
theorem scal_iD (r : List Nat) : (r.map iD).all D.scal = true := by
  rw [List.all_eq_true]
  intro x hx
  obtain ⟨g, _, rfl⟩ := List.mem_map.mp hx
  rfl
@[simp] theorem dIn_iL (g : Nat) (r : List Nat) : dIn (iD g) (iL r) = some (.bl (decide (g ∈ r))) := by
  show (if ((iD g).scal && (r.map iD).all D.scal) = true then some (D.bl (inB (iD g) (r.map iD))) else _) = _
  rw [scal_iD, if_pos (show ((iD g).scal && true) = true from rfl), inB_iD]
@[simp] theorem dNotIn_iL (g : Nat) (r : List Nat) : dNotIn (iD g) (iL r) = some (.bl (!decide (g ∈ r))) := by
  unfold dNotIn
  rw [dIn_iL]
  rfl
theorem ixOf_iD (g : Nat) : ∀ (r : List Nat), g ∈ r → ixOf (iD g) (r.map iD) = some (posOf r g)
  | [], h => nomatch h
  | x :: r, h => by
    show (if (iD x).eqb (iD g) = true then some 0 else (ixOf (iD g) (r.map iD)).map (· + 1)) = some (if x = g then 0 else posOf r g + 1)
    rw [iD_eqb]
    by_cases e : x = g
    · rw [if_pos (decide_eq_true e), if_pos e]
    · rw [if_neg (by simpa using e), if_neg e, ixOf_iD g r ((List.mem_cons.mp h).resolve_left fun z => e z.symm)]
      rfl
theorem dIndex_iL {g : Nat} {r : List Nat} (h : g ∈ r) : dIndexL (iL r) [iD g] = some (iD (posOf r g)) := by
  show (if ((iD g).scal && (r.map iD).all D.scal) = true then (ixOf (iD g) (r.map iD)).map fun j : Nat => D.int (j : Int) else _) = _
  rw [scal_iD, if_pos (show ((iD g).scal && true) = true from rfl), ixOf_iD g r h]
  rfl
theorem idxOf_pos (c : Nat) : ∀ (a : Tx), c ∈ a → a.idxOf c = posOf a c
  | [], h => nomatch h
  | x :: a, h => by
    show (x :: a).idxOf c = (if x = c then 0 else posOf a c + 1)
    rw [List.idxOf_cons]
    by_cases e : x = c
    · rw [if_pos e, e]; simp
    · rw [if_neg e, idxOf_pos c a ((List.mem_cons.mp h).resolve_left fun z => e z.symm)]
      rw [show (x == c) = false from beq_eq_false_iff_ne.mpr e]
      rfl
theorem dIndex_S {c : Nat} {a : Tx} (h : c ∈ a) : dIndexS (.str a) [.str [c]] = some (iD (posOf a c)) := by
  show (if c ∈ a then some (D.int (a.idxOf c : Nat)) else none) = _
  rw [if_pos h, idxOf_pos c a h]
@[simp] theorem dIn_S (c : Nat) (a : Tx) : dIn (.str [c]) (.str a) = some (.bl (decide (c ∈ a))) := id rfl
@[simp] theorem dNotIn_S (c : Nat) (a : Tx) : dNotIn (.str [c]) (.str a) = some (.bl (!decide (c ∈ a))) := id rfl
theorem allB_map {α : Type} (f : α → Bool) : ∀ (xs : List α), allB (xs.map fun x => D.bl (f x)) = some (xs.map f)
  | [] => rfl
  | x :: xs => by
    show (some (f x)).bind _ = _
    rw [Option.bind_some, allB_map f xs]
    rfl
theorem dAll_map {α : Type} (f : α → Bool) (xs : List α) : dAll (.lst (xs.map fun x => D.bl (f x))) = some (.bl (xs.all f)) := by
  show (allB _).map _ = _
  rw [allB_map, Option.map_some]
  congr 2
  rw [List.all_map]
  rfl
theorem dAny_map {α : Type} (f : α → Bool) (xs : List α) : dAny (.lst (xs.map fun x => D.bl (f x))) = some (.bl (xs.any f)) := by
  show (allB _).map _ = _
  rw [allB_map, Option.map_some]
  congr 2
  rw [List.any_map]
  rfl
theorem rg_map (n : Nat) : rgD 0 n = (List.range n).map iD := by
  unfold rgD
  exact List.map_congr_left fun i _ => by show D.int (0 + (i : Int)) = D.int i; rw [Int.zero_add]
/-- a while, by what holds at an index that falls -/
theorem loopW_ix {mc : DS → Option (Bool × DS)} {mb : Ms} (I : Nat → DS → Prop) (R : DS → Prop) (k : ∀ n ds, I n ds → (∃ d1 d2 n', mc ds = some (true, d1) ∧ mb d1 = some (.nx d2) ∧ I n' d2 ∧ n' < n) ∨ (∃ d1, mc ds = some (false, d1) ∧ R d1)) : ∀ (m n : Nat) (ds : DS), n < m → I n ds → ∃ ds', loopW mc mb m ds = some (.nx ds') ∧ R ds'
  | 0, _, _, h, _ => absurd h (Nat.not_lt_zero _)
  | m + 1, n, ds, h, hi => by
    rcases k n ds hi with ⟨d1, d2, n', e1, e2, h2, h3⟩ | ⟨d1, e1, h2⟩
    · obtain ⟨ds', e3, h4⟩ := loopW_ix I R k m n' d2 (by omega) h2
      refine ⟨ds', ?_, h4⟩
      show (mc ds).bind _ = _
      rw [e1, Option.bind_some, if_pos rfl]
      show (mb d1).bind _ = _
      rw [e2, Option.bind_some]
      exact e3
    · refine ⟨d1, ?_, h2⟩
      show (mc ds).bind _ = _
      rw [e1, Option.bind_some, if_neg Bool.false_ne_true]
theorem while_ix {mc : DS → Option (Bool × DS)} {mb : Ms} (I : Nat → DS → Prop) (R : DS → Prop) {n : Nat} {ds : DS} (hi : I n ds) (hm : n < 1000000000)
    (k : ∀ n ds, I n ds → (∃ d1 d2 n', mc ds = some (true, d1) ∧ mb d1 = some (.nx d2) ∧ I n' d2 ∧ n' < n) ∨ (∃ d1, mc ds = some (false, d1) ∧ R d1)) : ∃ ds', mWhile mc mb ds = some (.nx ds') ∧ R ds' := by
  obtain ⟨ds', e, h⟩ := loopW_ix I R k (n + 1) n ds (Nat.lt_succ_self _) hi
  exact ⟨ds', loopW_mono e (fuel_ge (by omega)), h⟩
theorem enD_map {α : Type} (F : α → D) (xs : List α) : enD (xs.map F) = xs.zipIdx.map fun p => .tup [iD p.2, F p.1] := by
  unfold enD
  rw [List.length_map, List.zipIdx_eq_zip_range', List.range_eq_range']
  generalize 0 = s
  induction xs generalizing s with
  | nil => rfl
  | cons x xs ih =>
    show D.tup [.int (s : Int), F x] :: _ = _
    rw [ih (s + 1)]
    rfl
theorem getD_of {α : Type} {xs : List α} {i : Nat} {x d : α} (h : xs[i]? = some x) : xs.getD i d = x := by rw [List.getD_eq_getElem?_getD, h]; rfl
@[simp] theorem e_yes (m : Mr) (ds : DS) : mYes m ds = (m ds).bind fun d => d.isI.map some := id rfl
@[simp] theorem e_no (ds : DS) : mNo ds = some none := id rfl
@[simp] theorem e_sl (ma : Mr) (ml mh : DS → Option (Option Int)) (ds : DS) : mSl ma ml mh ds = (ma ds).bind fun x => (ml ds).bind fun l => (mh ds).bind fun h => dSl l h x := id rfl
@[simp] theorem e_slS' (lo hi : Option Int) (a : Tx) : dSl lo hi (.str a) = if a.length ≤ sizeLine then some (.str (cutT a lo hi)) else none := id rfl
@[simp] theorem e_slL (lo hi : Option Int) (xs : List D) : dSl lo hi (.lst xs) = some (.lst (cutD xs lo hi)) := id rfl
theorem cutD_take (xs : List D) (k : Nat) : cutD xs none (some (k : Int)) = xs.take k := by
  unfold cutD
  rw [HT.sIx_none, HT.sIx_nat, List.drop_zero, Nat.sub_zero]
  by_cases h : k ≤ xs.length
  · rw [Nat.min_eq_left h]
  · rw [Nat.min_eq_right (by omega), List.take_length, List.take_of_length_le (by omega)]
@[simp] theorem e_ixc (i : Int) (a : Mr) (ds : DS) : mIxC i a ds = (a ds).bind fun x => dIx x (.int i) := id rfl
@[simp] theorem e_lenOwn (C : Addr) (m : List D → Option D) (a : Mr) (ds : DS) : mLenOwn C m a ds = (a ds).bind fun o => if o.isC C = true then (m [o]).bind fun r => r.isI.bind fun k => if 0 ≤ k ∧ k ≤ 1000000 then some (.int k) else none else none := id rfl
@[simp] theorem e_setF (C : Addr) (i : Nat) (f : Str) (me : DS → Option (D × DS)) (ds : DS) : mSetF C i f me ds = (me ds).bind fun y => (si C i y.2).bind fun fs => if (fs.lookup f).isNone = true ∧ fs.length < 100 then some (.nx (y.2.set i (some (.ins C (fs ++ [(f, y.1)]))))) else none := id rfl
@[simp] theorem e_si0 (C : Addr) (fs : List (Str × D)) (ds : DS) : si C 0 (some (.ins C fs) :: ds) = some fs := by
  show (if C = C then some fs else none) = _
  rw [if_pos rfl]
@[simp] theorem e_jn (ds : DS) : mJn ds = some [] := id rfl
@[simp] theorem e_jc (a : Mr) (r : DS → Option (List Tx)) (ds : DS) : mJc a r ds = (a ds).bind fun x => (r ds).bind fun xs => match x with
  | .str t => some (t :: xs)
  | _ => none := id rfl
@[simp] theorem e_joined (m : DS → Option (List Tx)) (ds : DS) : mJoined m ds = (m ds).bind fun xs => if xs.flatten.length ≤ sizeLine then some (.str xs.flatten) else none := id rfl
@[simp] theorem e_reprOwn (C : Addr) (m : List D → Option D) (a : Mr) (ds : DS) : mReprOwn C m a ds = (a ds).bind fun o => if o.isC C = true then (m [o]).bind fun r => match r with
  | .str t => some (.str t)
  | _ => none else none := id rfl
@[simp] theorem e_rgList2 (a b : Mr) (ds : DS) : mRgList2 a b ds = (a ds).bind fun x => (b ds).bind fun y => x.isI.bind fun i => y.isI.bind fun j => if okRg i j = true then some (.lst (rgD i (j - i).toNat)) else none := id rfl
@[simp] theorem e_popAt (i : Nat) (me : DS → Option (D × DS)) (ds : DS) : mPopAt i me ds = (sl i ds).bind fun _ => (me ds).bind fun j => match j.1 with
  | .int z => (sl i j.2).bind fun xs => if 0 ≤ z ∧ xs.length ≤ lim then (xs[z.toNat]?).map fun y => (y, j.2.set i (some (.lst (xs.eraseIdx z.toNat)))) else none
  | _ => none := id rfl
@[simp] theorem e_clearT (m : DS → Option (D × DS)) (ds : DS) : mClearT m ds = (m ds).bind fun x => if x.1.isL = true then some (.non, x.2) else none := id rfl
@[simp] theorem e_isL (xs : List D) : (D.lst xs).isL = true := id rfl
@[simp] theorem e_makeK (C : Addr) (m : List D → Option (D × D)) (gD : List D → List D → List D) (mr : DS → Option (List D)) (ds : DS) : mMakeK C m gD mr ds = (mr ds).bind fun xs => match gD [.ins C []] xs with
  | [] => none
  | x :: ys => (m (.ins C [] :: ys)).bind fun r => match r.1 with
    | .non => some r.2
    | _ => none := id rfl
@[simp] theorem e_pmI {α : Type} (us ws : List α) : pmI us ws = us ++ ws := id rfl
@[simp] theorem sing_lt (x y : Nat) : ([x] : Tx) < [y] ↔ x < y := by
  constructor
  · intro h
    cases h with
    | rel h => exact h
    | cons h => cases h
  · exact fun h => .rel h
theorem mul_ok {i j : Int} (h1 : -(2 ^ 64) < j) (h2 : j < 2 ^ 64) : dMul (.int i) (.int j) = some (.int (i * j)) := by
  rw [e_mulI, if_pos ⟨h1, h2⟩]
end VS
end
section
set_option maxRecDepth 100000
set_option maxHeartbeats 4000000
/-! the package's defs reckoned -/
namespace LW
open PySem L2 RX VS Evl
/-- a tuple of lists -/
abbrev rM (rows : List (List Nat)) : D := .tup (rows.map iL)
def mach (cM : Addr) (a : Tx) (rows : List (List Nat)) : D := .ins cM [("own_letters", .str a), ("own_rows", rL rows)]
section
variable (cM : Addr)
theorem v_is_integer (i : Int) : m_is_integer cM [.int i] = some (.bl true) := rfl
theorem v_is_count (g : Nat) : m_is_count cM [iD g] = some (.bl true) := by
  simp -implicitDefEqProofs [m_is_count, mb_is_count, fnM, v_is_integer]
theorem v_is_list (xs : List D) : m_is_list cM [.lst xs] = some (.bl true) := rfl
theorem v_is_tuple (xs : List D) : m_is_list cM [.tup xs] = some (.bl true) := rfl
theorem v_is_text (a : Tx) (h : ∀ c ∈ a, 97 ≤ c ∧ c ≤ 122) (hl : a.length ≤ 1000) : m_is_text cM [.str a] = some (.bl true) := by
  have e : lcGo (lcF (gN 1) (fun _ => some true) (mBin dIn (mVar 1) (mC (.str [97, 98, 99, 100, 101, 102, 103, 104, 105, 106, 107, 108, 109, 110, 111, 112, 113, 114, 115, 116, 117, 118, 119, 120, 121, 122]))) [some (.str a), none]) (a.map fun c => .str [c]) = some (a.map fun _ => D.bl true) :=
    lcGo_mapF fun c hc => by
      have := h c hc
      have : c ∈ [97, 98, 99, 100, 101, 102, 103, 104, 105, 106, 107, 108, 109, 110, 111, 112, 113, 114, 115, 116, 117, 118, 119, 120, 121, 122] := by
        simp; omega
      simp only [lcF, e_gN, List.set, Option.bind_some, if_true, e_bin, e_varS, e_var0, e_c, dIn_S, decide_eq_true this, Option.map_some]
  have k : VS.isi [] "str" (.str a) = some (.bl true) := rfl
  have hl : a.length ≤ lim := by unfold lim; omega
  simp -implicitDefEqProofs [m_is_text, mb_is_text, fnM, k, hl, e, dAll_map (f := fun _ => true)]
theorem v_are_letters {a : Tx} (h : LOk a) : m_are_letters cM [.str a] = some (.bl true) := by
  have h1 := v_is_text cM a h.lets (by have := h.le3; omega)
  obtain ⟨_, h2, h3, h4⟩ := h
  match a, h1, h2, h3, h4 with
  | [], _, h2, _, _ => exact absurd h2 (Nat.lt_irrefl 0)
  | [x], h1, _, _, _ =>
    simp -implicitDefEqProofs [m_are_letters, mb_are_letters, fnM, h1, sizeLine, cutT, HT.sIx, zpT, lim, lcGo, dAll, allB]
  | [x, y], h1, _, _, h4 =>
    have h5 : x < y := by simpa using h4
    simp -implicitDefEqProofs [m_are_letters, mb_are_letters, fnM, h1, sizeLine, cutT, HT.sIx, zpT, lim, lcGo, lcF, dAll, allB, h5]
  | [x, y, z], h1, _, _, h4 =>
    have h5 : (x < y ∧ x < z) ∧ y < z := by simpa using h4
    simp -implicitDefEqProofs [m_are_letters, mb_are_letters, fnM, h1, sizeLine, cutT, HT.sIx, zpT, lim, lcGo, lcF, dAll, allB, h5]
  | _ :: _ :: _ :: _ :: r, _, _, h3, _ => simp at h3
theorem v_is_row {x : D} {r : List Nat} {n : Nat} (hx : x = iL r ∨ x = iT r) (hl : r.length ≤ 1000) (h : ∀ g ∈ r, g < n) : m_is_row cM [x, iD r.length, iD n] = some (.bl true) := by
  have e : ∀ x, lcGo (lcF (gN 3) (fun _ => some true) (mAnd (mAr (m_is_integer cM) (mCons (mVar 3) mNil)) (mChain dLe dLt (mC (.int 0)) (mVar 3) (mVar 2))) [some x, some (iD r.length), some (iD n), none]) (r.map iD) = some (r.map fun _ => D.bl true) := fun x =>
    lcGo_mapF fun g hg => by
      have := h g hg
      simp -implicitDefEqProofs [lcF, v_is_integer, this]
  have hl : r.length ≤ lim := by unfold lim; omega
  rcases hx with rfl | rfl
  · simp -implicitDefEqProofs [m_is_row, mb_is_row, fnM, v_is_list, e, hl, dAll_map (f := fun _ => true)]
  · simp -implicitDefEqProofs [m_is_row, mb_is_row, fnM, v_is_tuple, e, hl, dAll_map (f := fun _ => true)]
theorem v_want_rows {x : D} {a : Tx} {rows : List (List Nat)} (hx : x = rL rows ∨ x = rT rows ∨ x = rM rows) (la : LOk a) (ok : ROk a.length rows) : m_want_rows cM [.str a, x] = some .non := by
  have key : ∀ (F : List Nat → D) (x : D), (∀ r, F r = iL r ∨ F r = iT r) → dLen [x] = some (iD rows.length) → ∃ u v, loopD (gT 2 (gsC (gN 2) (gsC (gN 3) gsN))) (mIf (liftT (mNotT (mT (mAr (m_is_row cM) (mCons (mVar 3) (mCons (mAr dLen (mCons (mVar 0) mNil)) (mCons (mAr dLen (mCons (mVar 1) mNil)) mNil))))))) mNever mNext) (enD (rows.map F)) [some (.str a), some x, none, none] = some (.nx [some (.str a), some x, u, v]) := fun F x hF hlen => by
    rw [enD_map]
    obtain ⟨ds', e, u, v, rfl⟩ := loopD_all (α := List Nat × Nat) (F := fun p => D.tup [iD p.2, F p.1]) (tg := gT 2 (gsC (gN 2) (gsC (gN 3) gsN))) (mb := mIf (liftT (mNotT (mT (mAr (m_is_row cM) (mCons (mVar 3) (mCons (mAr dLen (mCons (mVar 0) mNil)) (mCons (mAr dLen (mCons (mVar 1) mNil)) mNil))))))) mNever mNext) (fun _ ds => ∃ u v, ds = [some (.str a), some x, u, v]) (xs := rows.zipIdx) (ds := [some (.str a), some x, none, none]) ⟨_, _, rfl⟩ (by
      rintro p ⟨r, i⟩ q ds hp ⟨u, v, rfl⟩
      have hm : r ∈ rows := by
        have : (r, i) ∈ rows.zipIdx := by rw [hp]; simp
        exact List.fst_mem_of_mem_zipIdx this
      have hle := la.le3
      have e1 := v_is_row cM (x := F r) (r := r) (n := rows.length) (hF r) (by rw [ok.len r hm]; omega) (ok.goal r hm)
      rw [ok.len r hm] at e1
      refine ⟨_, [some (.str a), some x, some (iD i), some (F r)], rfl, ?_, _, _, rfl⟩
      have : a.length ≤ sizeLine := by unfold sizeLine; omega
      simp [this, hlen, e1])
    exact ⟨u, v, e⟩
  have o1 := ok.pos
  have o2 := ok.le
  have e1 := v_are_letters cM la
  rcases hx with rfl | rfl | rfl
  · obtain ⟨u, v, e⟩ := key iL (rL rows) (fun r => .inl rfl) (by simp)
    have n1 : rows ≠ [] := fun e => by rw [e] at o1; exact absurd o1 (Nat.lt_irrefl 0)
    have n2 : ¬ ((120 : Int) < (rows.length : Int)) := by omega
    simp -implicitDefEqProofs [m_want_rows, mb_want_rows, fnM, e1, v_is_list, e, n1, n2]
  · obtain ⟨u, v, e⟩ := key iT (rT rows) (fun r => .inr rfl) (by simp)
    have n1 : rows ≠ [] := fun e => by rw [e] at o1; exact absurd o1 (Nat.lt_irrefl 0)
    have n2 : ¬ ((120 : Int) < (rows.length : Int)) := by omega
    simp -implicitDefEqProofs [m_want_rows, mb_want_rows, fnM, e1, v_is_tuple, e, n1, n2]
  · obtain ⟨u, v, e⟩ := key iL (rM rows) (fun r => .inl rfl) (by simp)
    have n1 : rows ≠ [] := fun e => by rw [e] at o1; exact absurd o1 (Nat.lt_irrefl 0)
    have n2 : ¬ ((120 : Int) < (rows.length : Int)) := by omega
    simp -implicitDefEqProofs [m_want_rows, mb_want_rows, fnM, e1, v_is_tuple, e, n1, n2]
theorem v_met_from {x : D} {m s : Nat} {rows : List (List Nat)} (hx : x = rL rows ∨ x = rT rows ∨ x = rM rows) (ok : ROk m rows) (hs : s < rows.length) (hm : m ≤ 3) : m_met_from cM [x, iD s] = some (iL (metL rows s)) := by
  have key : ∀ (F : List Nat → D) (x : D), (∀ r, dItems (F r) = some (r.map iD)) → (∀ i : Nat, dIx x (iD i) = (rows.map F)[i]?) → ∃ i v, mWhile (liftT (mT (mBin dLt (mVar 3) (mAr dLen (mCons (mVar 2) mNil))))) (mSeq (mFor (liftA (mItems (mBin dIx (mVar 0) (mBin dIx (mVar 2) (mVar 3))))) (gN 4) (mIf (liftT (mT (mBin dNotIn (mVar 4) (mVar 2)))) (mDrop (mAppend 2 (lft (mVar 4)))) mNext))
      (mSet 3 (lft (mBin dAdd (mVar 3) (mC (.int 1)))))) [some x, some (iD s), some (.lst [iD s]), some (.int 0), none] = some (.nx [some x, some (iD s), some (iL (metL rows s)), i, v]) := fun F x hF hix => by
    obtain ⟨ds', e, i, v, rfl⟩ := while_ix (mc := liftT (mT (mBin dLt (mVar 3) (mAr dLen (mCons (mVar 2) mNil))))) (mb := mSeq (mFor (liftA (mItems (mBin dIx (mVar 0) (mBin dIx (mVar 2) (mVar 3))))) (gN 4) (mIf (liftT (mT (mBin dNotIn (mVar 4) (mVar 2)))) (mDrop (mAppend 2 (lft (mVar 4)))) mNext))
      (mSet 3 (lft (mBin dAdd (mVar 3) (mC (.int 1))))))
      (fun n ds => ∃ (i : Nat) (found : List Nat) (v : Option D), n = rows.length - i ∧ i ≤ rows.length ∧ ds = [some x, some (iD s), some (iL found), some (iD i), v] ∧ goM rows (rows.length - i) i found = metL rows s ∧ found.Nodup ∧ ∀ y ∈ found, y < rows.length)
      (fun ds => ∃ i v, ds = [some x, some (iD s), some (iL (metL rows s)), i, v]) (n := rows.length) (ds := [some x, some (iD s), some (iL [s]), some (.int 0), none])
      ⟨0, [s], none, rfl, Nat.zero_le _, rfl, rfl, by simp, by simpa using hs⟩ (by have := ok.le; omega) (by
        rintro n ds ⟨i, found, v, rfl, hi, rfl, hgo, nd, lt⟩
        have hfl := nodup_le _ _ nd lt
        have hle := ok.le
        by_cases hif : i < found.length
        · obtain ⟨p, hp⟩ : ∃ p, found[i]? = some p := ⟨_, List.getElem?_eq_getElem hif⟩
          have hpn : p < rows.length := lt p (List.mem_of_getElem? hp)
          obtain ⟨row, hrow⟩ : ∃ row, rows[p]? = some row := ⟨_, List.getElem?_eq_getElem hpn⟩
          have hrb : ∀ y ∈ row, y < rows.length := ok.goal row (List.mem_of_getElem? hrow)
          obtain ⟨ds', e, w, rfl⟩ := loopD_all (α := Nat) (F := iD) (tg := gN 4) (mb := mIf (liftT (mT (mBin dNotIn (mVar 4) (mVar 2)))) (mDrop (mAppend 2 (lft (mVar 4)))) mNext)
            (fun q ds => ∃ w, ds = [some x, some (iD s), some (iL (addAll found q)), some (iD i), w]) (xs := row) (ds := [some x, some (iD s), some (iL found), some (iD i), v]) ⟨v, rfl⟩ (by
              rintro q g q2 ds hq ⟨w, rfl⟩
              have nd2 := addAll_nodup q found nd
              have lt2 : ∀ y ∈ addAll found q, y < rows.length := fun y hy => ((addAll_mem y _ _).mp hy).elim (lt y) fun z => hrb y (by rw [hq]; simp [z])
              have hl2 := nodup_le _ _ nd2 lt2
              have hlim : (addAll found q).length < lim := by unfold lim; omega
              rw [addAll_snoc]
              by_cases hg : g ∈ addAll found q
              · rw [if_pos hg]
                exact ⟨_, [some x, some (iD s), some (iL (addAll found q)), some (iD i), some (iD g)], rfl, by simp [hg], _, rfl⟩
              · rw [if_neg hg]
                exact ⟨_, [some x, some (iD s), some (iL (addAll found q ++ [g])), some (iD i), some (iD g)], rfl, by simp [hg, hlim], _, rfl⟩)
          have hgo2 : goM rows (rows.length - (i + 1)) (i + 1) (addAll found row) = metL rows s := by
            rw [← hgo, show rows.length - i = (rows.length - (i + 1)) + 1 by omega]
            show _ = if i < found.length then goM rows (rows.length - (i + 1)) (i + 1) (addAll found (rows.getD (found.getD i 0) [])) else found
            rw [if_pos hif, getD_of hp, getD_of hrow]
          refine .inl ⟨[some x, some (iD s), some (iL found), some (iD i), v], [some x, some (iD s), some (iL (addAll found row)), some (iD (i + 1)), w], rows.length - (i + 1), ?_, ?_, ⟨i + 1, addAll found row, w, rfl, by omega, rfl, hgo2, addAll_nodup _ _ nd, fun y hy => ((addAll_mem y _ _).mp hy).elim (lt y) (hrb y)⟩, by omega⟩
          · simp [hif]
          · simp [hp, hix, hrow, hF, e]
        · refine .inr ⟨[some x, some (iD s), some (iL found), some (iD i), v], by simp [hif], some (iD i), v, ?_⟩
          rw [← hgo]
          cases hk : rows.length - i with
          | zero => rfl
          | succ k => show _ = [_, _, some (iL (if i < found.length then _ else found)), _, _]; rw [if_neg hif])
    exact ⟨i, v, e⟩
  rcases hx with rfl | rfl | rfl
  · obtain ⟨i, v, e⟩ := key iL (rL rows) (fun r => rfl) (fun i => by simp)
    simp -implicitDefEqProofs [m_met_from, mb_met_from, fnM, e]
  · obtain ⟨i, v, e⟩ := key iT (rT rows) (fun r => rfl) (fun i => by simp)
    simp -implicitDefEqProofs [m_met_from, mb_met_from, fnM, e]
  · obtain ⟨i, v, e⟩ := key iL (rM rows) (fun r => rfl) (fun i => by simp)
    simp -implicitDefEqProofs [m_met_from, mb_met_from, fnM, e]
/-- all places are come to -/
def RAll (rows : List (List Nat)) : Prop := ∀ i, i < rows.length → i ∈ metL rows 0
theorem v_init {x : D} {a : Tx} {rows : List (List Nat)} (hx : x = rL rows ∨ x = rT rows ∨ x = rM rows) (la : LOk a) (ok : ROk a.length rows) (al : RAll rows) : m_Machine___init__ cM [.ins cM [], .str a, x] = some (.non, mach cM a rows) := by
  have o1 := ok.pos
  have o2 := ok.le
  have e1 := v_want_rows cM hx la ok
  have e2 := v_met_from cM hx ok o1 la.le3
  have e2 : m_met_from cM [x, .int 0] = some (iL (metL rows 0)) := e2
  have key : ∀ x, ∃ v, loopD (gN 4) (mIf (liftT (mT (mBin dNotIn (mVar 4) (mVar 3)))) mNever mNext) ((List.range rows.length).map iD) [some (.ins cM []), some (.str a), some x, some (iL (metL rows 0)), none, none] = some (.nx [some (.ins cM []), some (.str a), some x, some (iL (metL rows 0)), v, none]) := fun x => by
    obtain ⟨ds', e, v, rfl⟩ := loopD_all (α := Nat) (F := iD) (tg := gN 4) (mb := mIf (liftT (mT (mBin dNotIn (mVar 4) (mVar 3)))) mNever mNext) (fun _ ds => ∃ v, ds = [some (.ins cM []), some (.str a), some x, some (iL (metL rows 0)), v, none]) (xs := List.range rows.length) (ds := [some (.ins cM []), some (.str a), some x, some (iL (metL rows 0)), none, none]) ⟨_, rfl⟩ (by
      rintro p i q ds hp ⟨v, rfl⟩
      have hi : i < rows.length := List.mem_range.mp (by rw [hp]; simp)
      exact ⟨_, [some (.ins cM []), some (.str a), some x, some (iL (metL rows 0)), some (iD i), none], rfl, by simp [al i hi], _, rfl⟩)
    exact ⟨v, e⟩
  have hlim : rows.length ≤ lim := by unfold lim; omega
  have hr := rgF_nat (n := rows.length) (by omega)
  have lk : ∀ d : D, List.lookup (Str.ofString "own_rows") [(Str.ofString "own_letters", d)] = none := fun _ => rfl
  obtain ⟨v, e3⟩ := key x
  have e4 : ∀ F : List Nat → D, (∀ r, dList (F r) = some (iL r)) → ∀ x v w y, lcGo (lcF (gN 5) (fun _ => some true) (mAr (d1 dList) (mCons (mVar 5) mNil)) [w, some (.str a), x, y, v, none]) (rows.map F) = some (rows.map iL) := fun F hF x v w y =>
    lcGo_mapF fun r _ => by simp -implicitDefEqProofs [lcF, hF]
  rcases hx with rfl | rfl | rfl
  · simp -implicitDefEqProofs [m_Machine___init__, mb_Machine___init__, VS.fnP, e1, e2, hr, e3, hlim, e4 iL (fun _ => rfl), lk, mach]
  · simp -implicitDefEqProofs [m_Machine___init__, mb_Machine___init__, VS.fnP, e1, e2, hr, e3, hlim, e4 iT (fun _ => rfl), lk, mach]
  · simp -implicitDefEqProofs [m_Machine___init__, mb_Machine___init__, VS.fnP, e1, e2, hr, e3, hlim, e4 iL (fun _ => rfl), lk, mach]
@[simp] theorem mach_isC (a : Tx) (rows : List (List Nat)) : (mach cM a rows).isC cM = true := e_isC cM _
@[simp] theorem mach_ty (a : Tx) (rows : List (List Nat)) : tyN (mach cM a rows) = none := rfl
@[simp] theorem mach_l (a : Tx) (rows : List (List Nat)) : (mach cM a rows).fld (Str.ofString "own_letters") = some (.str a) := rfl
@[simp] theorem mach_r (a : Tx) (rows : List (List Nat)) : (mach cM a rows).fld (Str.ofString "own_rows") = some (rL rows) := rfl
theorem mach_m {f : Str} (a : Tx) (rows : List (List Nat)) (h1 : (f == Str.ofString "own_letters") = false) (h2 : (f == Str.ofString "own_rows") = false) : (mach cM a rows).isIns cM f = true := by
  show (decide (cM = cM) && (List.lookup f [_, _]).isNone) = true
  rw [decide_eq_true rfl, Bool.true_and]
  show (match f == Str.ofString "own_letters" with | true => some _ | false => match f == Str.ofString "own_rows" with | true => some _ | false => none).isNone = true
  rw [h1, h2]
  rfl
@[simp] theorem mach_rows (a : Tx) (rows : List (List Nat)) : (mach cM a rows).isIns cM (Str.ofString "rows") = true := mach_m cM a rows rfl rfl
@[simp] theorem mach_led (a : Tx) (rows : List (List Nat)) : (mach cM a rows).isIns cM (Str.ofString "led") = true := mach_m cM a rows rfl rfl
@[simp] theorem mach_walk (a : Tx) (rows : List (List Nat)) : (mach cM a rows).isIns cM (Str.ofString "walk") = true := mach_m cM a rows rfl rfl
@[simp] theorem mach_goal (a : Tx) (rows : List (List Nat)) : (mach cM a rows).isIns cM (Str.ofString "goal") = true := mach_m cM a rows rfl rfl
@[simp] theorem mach_goes (a : Tx) (rows : List (List Nat)) : (mach cM a rows).isIns cM (Str.ofString "goes") = true := mach_m cM a rows rfl rfl
theorem v_letters (a : Tx) (rows : List (List Nat)) : m_Machine_letters cM [mach cM a rows] = some (.str a) := by
  simp -implicitDefEqProofs [m_Machine_letters, mb_Machine_letters, fnM]
theorem v_len (a : Tx) (rows : List (List Nat)) : m_Machine___len__ cM [mach cM a rows] = some (iD rows.length) := by
  simp -implicitDefEqProofs [m_Machine___len__, mb_Machine___len__, fnM]
theorem v_rows {a : Tx} {rows : List (List Nat)} (h : rows.length ≤ 120) : m_Machine_rows cM [mach cM a rows] = some (rL rows) := by
  have hlim : rows.length ≤ lim := by unfold lim; omega
  have e4 : ∀ w, lcGo (lcF (gN 1) (fun _ => some true) (mAr (d1 dList) (mCons (mVar 1) mNil)) [w, none]) (rows.map iL) = some (rows.map iL) := fun w =>
    lcGo_mapF fun r _ => by simp -implicitDefEqProofs [lcF]
  simp -implicitDefEqProofs [m_Machine_rows, mb_Machine_rows, fnM, hlim, e4]
theorem v_is_place {a : Tx} {rows : List (List Nat)} {p : Nat} (h : rows.length ≤ 120) : m_is_place_of cM [mach cM a rows, iD p] = some (.bl (decide (p < rows.length))) := by
  have h1 : (rows.length : Int) ≤ 1000000 := by omega
  simp -implicitDefEqProofs [m_is_place_of, mb_is_place_of, fnM, v_is_count, v_len, h1]
theorem v_want_place {a : Tx} {rows : List (List Nat)} {p : Nat} (h : rows.length ≤ 120) (hp : p < rows.length) : m_want_place cM [mach cM a rows, iD p] = some .non := by
  simp -implicitDefEqProofs [m_want_place, mb_want_place, fnM, v_is_place cM h, hp]
theorem v_want_letter {a : Tx} {rows : List (List Nat)} {c : Nat} (hc : c ∈ a) : m_want_letter cM [mach cM a rows, .str [c]] = some .non := by
  have k : ∀ a, VS.isi [] "str" (.str a) = some (.bl true) := fun _ => rfl
  have h2 : (1 : Nat) ≤ sizeLine := by decide
  simp -implicitDefEqProofs [m_want_letter, mb_want_letter, fnM, k, v_letters, hc, h2]
theorem v_want_text {a t : Tx} {rows : List (List Nat)} (la : LOk a) (ht : ∀ c ∈ t, c ∈ a) (hl : t.length ≤ 1000) : m_want_text cM [mach cM a rows, .str t] = some .non := by
  have e1 := v_is_text cM t (fun c hc => la.lets c (ht c hc)) hl
  have hlim : t.length ≤ lim := by unfold lim; omega
  have e4 : lcGo (lcF (gN 2) (fun _ => some true) (mBin dIn (mVar 2) (mProp cM (m_Machine_letters cM) (mVar 0))) [some (mach cM a rows), some (.str t), none]) (t.map fun c => .str [c]) = some (t.map fun _ => D.bl true) :=
    lcGo_mapF fun c hc => by simp -implicitDefEqProofs [lcF, v_letters, ht c hc]
  simp -implicitDefEqProofs [m_want_text, mb_want_text, fnM, e1, hlim, e4, dAll_map (f := fun _ => true)]
theorem v_led {a t : Tx} {rows : List (List Nat)} {p : Nat} (ok : ROk a.length rows) (hp : p < rows.length) (ht : ∀ c ∈ t, c ∈ a) (hl : t.length ≤ 1000) : m_Machine_led cM [mach cM a rows, iD p, .str t] = some (iL (ledL a rows p t)) := by
  have key : ∃ v, loopD (gN 4) (mDrop (mAppend 3 (lft (mBin dIx (mBin dIx (mFld cM "own_rows" (mVar 0)) (mIxC (-1) (mVar 3))) (mMt dIndexS (mFld cM "own_letters" (mVar 0)) (mCons (mVar 4) mNil)))))) (t.map fun c => .str [c]) [some (mach cM a rows), some (iD p), some (.str t), some (.lst [iD p]), none] = some (.nx [some (mach cM a rows), some (iD p), some (.str t), some (iL (ledL a rows p t)), v]) := by
    obtain ⟨ds', e, v, rfl⟩ := loopD_all (α := Nat) (F := fun c => D.str [c]) (tg := gN 4) (mb := mDrop (mAppend 3 (lft (mBin dIx (mBin dIx (mFld cM "own_rows" (mVar 0)) (mIxC (-1) (mVar 3))) (mMt dIndexS (mFld cM "own_letters" (mVar 0)) (mCons (mVar 4) mNil)))))) (fun q ds => ∃ v, ds = [some (mach cM a rows), some (iD p), some (.str t), some (iL (ledL a rows p q)), v]) (xs := t) (ds := [some (mach cM a rows), some (iD p), some (.str t), some (.lst [iD p]), none]) ⟨_, rfl⟩ (by
      rintro q c q2 ds hq ⟨v, rfl⟩
      refine ⟨_, [some (mach cM a rows), some (iD p), some (.str t), some (iL (ledL a rows p (q ++ [c]))), some (.str [c])], rfl, ?_, _, rfl⟩
      have hql : q.length ≤ t.length := by rw [hq, List.length_append]; omega
      have hqa : ∀ c ∈ q, c ∈ a := fun c hc => ht c (by rw [hq]; simp [hc])
      have hca : c ∈ a := ht c (by rw [hq]; simp)
      obtain ⟨xs, hxs, hxl⟩ := ledL_end a rows q p
      obtain ⟨row, h1, h2, h3⟩ := goal_lt ok (end_lt ok q p hp hqa) hca
      have hlim : (ledL a rows p q).length < lim := by rw [hxs, List.length_append, hxl]; unfold lim; simp; omega
      have h4 : atI ((ledL a rows p q).map iD) (-1) = some (iD (endL a rows p q)) := by rw [hxs, List.map_append]; exact atI_last _ _
      rw [ledL_snoc]
      simp -implicitDefEqProofs [h4, dIndex_S hca, h1, h2, hlim])
    exact ⟨v, e⟩
  obtain ⟨v, e⟩ := key
  simp -implicitDefEqProofs [m_Machine_led, mb_Machine_led, fnM, e]
theorem v_goes {a t : Tx} {rows : List (List Nat)} {p : Nat} (la : LOk a) (ok : ROk a.length rows) (hp : p < rows.length) (ht : ∀ c ∈ t, c ∈ a) (hl : t.length ≤ 1000) : m_Machine_goes cM [mach cM a rows, iD p, .str t] = some (iD (endL a rows p t)) := by
  obtain ⟨xs, hxs, hxl⟩ := ledL_end a rows t p
  have h4 : atI ((ledL a rows p t).map iD) (-1) = some (iD (endL a rows p t)) := by rw [hxs, List.map_append]; exact atI_last _ _
  simp -implicitDefEqProofs [m_Machine_goes, mb_Machine_goes, fnM, v_want_text cM la ht hl, v_want_place cM ok.le hp, v_led cM ok hp ht hl, h4]
theorem v_eq {a b : Tx} {r1 r2 : List (List Nat)} {m n : Nat} (h1 : ROk m r1) (h2 : ROk n r2) : m_Machine___eq__ cM [mach cM a r1, mach cM b r2] = some (.bl (decide (a = b) && decide (r1 = r2))) := by
  have k : VS.isiC cM (mach cM b r2) = some (.bl true) := if_pos rfl
  have e := dEq_rL (a := r1) (b := r2) (fun r hr g hg => by have := h1.goal r hr g hg; have := h1.le; omega) (fun r hr g hg => by have := h2.goal r hr g hg; have := h2.le; omega)
  by_cases c : a = b
  · subst c
    simp -implicitDefEqProofs [m_Machine___eq__, mb_Machine___eq__, fnM, k, e]
  · simp -implicitDefEqProofs [m_Machine___eq__, mb_Machine___eq__, fnM, k, e, c]
theorem v_eq_no (x : D) {y : D} {s : String} (h : tyN y = some s) : m_Machine___eq__ cM [x, y] = some (.bl false) := by
  have k : VS.isiC cM y = some (.bl false) := by
    cases y with
    | ins _ _ => cases h
    | _ => rfl
  simp -implicitDefEqProofs [m_Machine___eq__, mb_Machine___eq__, fnM, k]
theorem LOk.rep {a : Tx} (la : LOk a) : ∃ t : Tx, dRepr (.str a) = some (.str t) ∧ t.length ≤ 100 := by
  have h3 := la.le3
  obtain ⟨t, h1, h2⟩ := repr_of (d := .str a) (by
    show (a.all fun c => decide (c < 0x110000)) = true
    rw [List.all_eq_true]
    intro c hc
    rw [decide_eq_true_eq]
    exact Nat.lt_of_le_of_lt (la.lets c hc).2 (by decide)) (Nat.zero_le _) (by show a.length ≤ 6000; omega)
  have : (D.str a).blk = a.length := rfl
  exact ⟨t, h1, by omega⟩
theorem ROk.rep {m : Nat} {rows : List (List Nat)} (ok : ROk m rows) (hm : m ≤ 3) : ∃ t : Tx, dRepr (rL rows) = some (.str t) ∧ t.length ≤ 8000 := by
  have o1 := ok.le
  have d1 := rL_dep rows
  have d2 := rL_blk (m := 3) (rows := rows) fun r hr => by rw [ok.len r hr]; exact hm
  obtain ⟨t, h1, h2⟩ := repr_of (d := rL rows) (rL_lf fun r hr g hg => by have := ok.goal r hr g hg; omega) (by omega) (by omega)
  exact ⟨t, h1, by omega⟩
theorem v_repr {a t1 t2 : Tx} {rows : List (List Nat)} (h1 : dRepr (.str a) = some (.str t1)) (h2 : dRepr (rL rows) = some (.str t2)) (l1 : t1.length ≤ 100) (l2 : t2.length ≤ 8000) : m_Machine___repr__ cM [mach cM a rows] = some (.str ([77, 97, 99, 104, 105, 110, 101, 40] ++ t1 ++ [44, 32] ++ t2 ++ [41])) := by
  have hl : 8 + (t1.length + (2 + (t2.length + 1))) ≤ sizeLine := by unfold sizeLine; omega
  simp -implicitDefEqProofs [m_Machine___repr__, mb_Machine___repr__, fnM, h1, h2, hl]
end
end LW
end
section
set_option maxRecDepth 100000
set_option maxHeartbeats 4000000
/-! what is wanted of a mirror's run -/
namespace VS
open PySem L2 RX Evl
def Wp {α : Type} (x : Option α) (Q : α → Prop) : Prop := ∃ a, x = some a ∧ Q a
section
variable {α β : Type} {x y : Option α} {Q P : α → Prop}
@[simp] theorem wp_some (a : α) (Q : α → Prop) : Wp (some a) Q ↔ Q a := ⟨fun ⟨b, e, q⟩ => by cases e; exact q, fun q => ⟨a, rfl, q⟩⟩
@[simp] theorem wp_none (Q : α → Prop) : Wp none Q ↔ False := ⟨fun ⟨b, e, q⟩ => (nomatch e), fun q => False.elim q⟩
@[simp] theorem wp_bind (x : Option β) (f : β → Option α) (Q : α → Prop) : Wp (x.bind f) Q ↔ Wp x fun a => Wp (f a) Q := by
  cases x with
  | none => simp [Wp]
  | some a => simp [Wp]
@[simp] theorem wp_map (x : Option β) (f : β → α) (Q : α → Prop) : Wp (x.map f) Q ↔ Wp x fun a => Q (f a) := by
  cases x with
  | none => simp [Wp]
  | some a => simp [Wp]
@[simp] theorem wp_ite (c : Prop) [Decidable c] (x y : Option α) (Q : α → Prop) : Wp (if c then x else y) Q ↔ if c then Wp x Q else Wp y Q := by split <;> rfl
theorem Wp.mono (h : Wp x P) (k : ∀ a, P a → Q a) : Wp x Q := let ⟨a, e, p⟩ := h; ⟨a, e, k a p⟩
theorem Wp.of {a : α} (e : x = some a) (q : Q a) : Wp x Q := ⟨a, e, q⟩
theorem Wp.eq {a : α} (h : Wp x fun b => b = a) : x = some a := by obtain ⟨b, e, rfl⟩ := h; exact e
theorem wp_eq {a : α} : Wp x (fun b => b = a) ↔ x = some a := ⟨Wp.eq, fun e => ⟨a, e, rfl⟩⟩
end
/-- the end of a def's body -/
def Fl.fin (Q : D → Prop) : Fl → Prop
  | .rt d _ => Q d
  | .nx _ => Q .non
def Fl.finP (Q : D × D → Prop) : Fl → Prop
  | .rt d ds => Wp (mVar 0 ds) fun p => Q (d, p)
  | .nx ds => Wp (mVar 0 ds) fun p => Q (.non, p)
@[simp] theorem fin_rt (Q : D → Prop) (d : D) (ds : DS) : Fl.fin Q (.rt d ds) ↔ Q d := Iff.rfl
@[simp] theorem fin_nx (Q : D → Prop) (ds : DS) : Fl.fin Q (.nx ds) ↔ Q .non := Iff.rfl
@[simp] theorem finP_rt (Q : D × D → Prop) (d : D) (ds : DS) : Fl.finP Q (.rt d ds) ↔ Wp (mVar 0 ds) fun p => Q (d, p) := Iff.rfl
@[simp] theorem finP_nx (Q : D × D → Prop) (ds : DS) : Fl.finP Q (.nx ds) ↔ Wp (mVar 0 ds) fun p => Q (.non, p) := Iff.rfl
@[simp] theorem wp_fnM (N k : Nat) (mb : Ms) (xs : List D) (Q : D → Prop) : Wp (fnM N k mb xs) Q ↔ xs.length = k ∧ Wp (mb (xs.map some ++ List.replicate (N - k) none)) (Fl.fin Q) := by
  unfold fnM
  by_cases h : xs.length = k
  · rw [if_pos h]
    cases e : mb (xs.map some ++ List.replicate (N - k) none) with
    | none => simp
    | some f => cases f <;> simp [h, Fl.fin]
  · rw [if_neg h]; simp [h]
@[simp] theorem wp_fnP (N k : Nat) (mb : Ms) (xs : List D) (Q : D × D → Prop) : Wp (VS.fnP N k mb xs) Q ↔ xs.length = k ∧ Wp (mb (xs.map some ++ List.replicate (N - k) none)) (Fl.finP Q) := by
  unfold VS.fnP
  by_cases h : xs.length = k
  · rw [if_pos h]
    cases e : mb (xs.map some ++ List.replicate (N - k) none) with
    | none => simp
    | some f => cases f <;> simp [h, Fl.finP]
  · rw [if_neg h]; simp [h]
/-- one turn of a loop -/
def Fl.turn (I : DS → Prop) (Q : Fl → Prop) : Fl → Prop
  | .rt d ds => Q (.rt d ds)
  | .nx ds => I ds
@[simp] theorem turn_rt (I : DS → Prop) (Q : Fl → Prop) (d : D) (ds : DS) : Fl.turn I Q (.rt d ds) ↔ Q (.rt d ds) := Iff.rfl
@[simp] theorem turn_nx (I : DS → Prop) (Q : Fl → Prop) (ds : DS) : Fl.turn I Q (.nx ds) ↔ I ds := Iff.rfl
/-- a for over data of one kind: what holds behind the items done -/
theorem wp_loop {α : Type} {F : α → D} {tg : D → DS → Option DS} {mb : Ms} {Q : Fl → Prop} (I : List α → DS → Prop) {l : List α} {ds : DS} (h : I [] ds)
    (k : ∀ p x q ds, l = p ++ x :: q → I p ds → Wp (tg (F x) ds) fun d1 => Wp (mb d1) (Fl.turn (I (p ++ [x])) Q)) (hq : ∀ ds, I l ds → Q (.nx ds)) : Wp (loopD tg mb (l.map F) ds) Q := by
  have go : ∀ (q p : List α) (ds : DS), l = p ++ q → I p ds → Wp (loopD tg mb (q.map F) ds) Q := by
    intro q
    induction q with
    | nil => intro p ds e hp; rw [List.append_nil] at e; subst e; exact (wp_some _ _).mpr (hq ds hp)
    | cons x q ih =>
      intro p ds e hp
      obtain ⟨d1, e1, d2, e2, h2⟩ := k p x q ds e hp
      show Wp ((tg (F x) ds).bind fun d1 => (mb d1).bind _) Q
      rw [e1, Option.bind_some, e2, Option.bind_some]
      cases d2 with
      | rt d ds => exact (wp_some _ _).mpr h2
      | nx ds => exact ih (p ++ [x]) ds (by rw [e, List.append_assoc]; rfl) h2
  exact go l [] ds rfl h
/-- the same by one fact for all turns -/
theorem wp_each {α : Type} {F : α → D} {tg : D → DS → Option DS} {mb : Ms} {Q : Fl → Prop} (I : DS → Prop) {l : List α} {ds : DS} (h : I ds)
    (k : ∀ x ∈ l, ∀ ds, I ds → Wp (tg (F x) ds) fun d1 => Wp (mb d1) (Fl.turn I Q)) (hq : ∀ ds, I ds → Q (.nx ds)) : Wp (loopD tg mb (l.map F) ds) Q :=
  wp_loop (fun _ => I) h (fun p x q ds e hp => k x (by rw [e]; simp) ds hp) hq
/-- a while -/
theorem wp_while {mc : DS → Option (Bool × DS)} {mb : Ms} {Q : Fl → Prop} (I : Nat → DS → Prop) {n : Nat} {ds : DS} (h : I n ds) (hn : n < 1000000000)
    (k : ∀ n ds, I n ds → Wp (mc ds) fun r => if r.1 = true then Wp (mb r.2) (Fl.turn (fun ds => ∃ n', n' < n ∧ I n' ds) Q) else Q (.nx r.2)) : Wp (mWhile mc mb ds) Q := by
  have go : ∀ (n : Nat) (ds : DS), I n ds → Wp (loopW mc mb (n + 1) ds) Q := by
    intro n
    induction n using Nat.strongRecOn with
    | ind n ih =>
      intro ds hi
      obtain ⟨⟨b, d1⟩, e1, h1⟩ := k n ds hi
      show Wp ((mc ds).bind _) Q
      rw [e1, Option.bind_some]
      cases b with
      | false => exact (wp_some _ _).mpr (by simpa using h1)
      | true =>
        simp only [if_true] at h1 ⊢
        obtain ⟨d2, e2, h2⟩ := h1
        rw [e2, Option.bind_some]
        cases d2 with
        | rt d ds => exact (wp_some _ _).mpr h2
        | nx ds =>
          obtain ⟨n', hlt, hi'⟩ := h2
          obtain ⟨fl, e3, q⟩ := ih n' hlt ds hi'
          exact ⟨fl, loopW_mono e3 (by omega), q⟩
  obtain ⟨fl, e, q⟩ := go n ds h
  exact ⟨fl, loopW_mono e (fuel_ge (by omega)), q⟩
@[simp] theorem e_lcF (tg : D → DS → Option DS) (mt : DS → Option Bool) (me : Mr) (ds : DS) (x : D) : lcF tg mt me ds x = (tg x ds).bind fun d1 => (mt d1).bind fun b => if b = true then (me d1).map some else some none := id rfl
theorem wp_lcG {α : Type} {F : α → D} {f : D → Option (Option D)} {Q : List D → Prop} (g : α → Option D) {l : List α} (h : ∀ x ∈ l, Wp (f (F x)) fun r => r = g x) (q : Q (l.filterMap g)) : Wp (lcGo f (l.map F)) Q := by
  have : ∀ l : List α, (∀ x ∈ l, Wp (f (F x)) fun r => r = g x) → lcGo f (l.map F) = some (l.filterMap g) := by
    intro l
    induction l with
    | nil => intro _; rfl
    | cons x l ih =>
      intro h
      show (f (F x)).bind _ = _
      rw [(h x List.mem_cons_self).eq, Option.bind_some, ih fun y hy => h y (List.mem_cons_of_mem _ hy), List.filterMap_cons]
      cases g x <;> rfl
  exact Wp.of (this l h) q
theorem wp_lcM {α : Type} {F : α → D} {f : D → Option (Option D)} {Q : List D → Prop} (g : α → D) {l : List α} (h : ∀ x ∈ l, Wp (f (F x)) fun r => r = some (g x)) (q : Q (l.map g)) : Wp (lcGo f (l.map F)) Q :=
  wp_lcG (fun x => some (g x)) h (by rw [List.filterMap_eq_map']; exact q)
theorem wp_lcC {α : Type} {F : α → D} {f : D → Option (Option D)} {Q : List D → Prop} (c : α → Bool) (g : α → D) {l : List α} (h : ∀ x ∈ l, Wp (f (F x)) fun r => r = if c x = true then some (g x) else none) (q : Q ((l.filter c).map g)) : Wp (lcGo f (l.map F)) Q := by
  refine wp_lcG (fun x => if c x = true then some (g x) else none) h ?_
  have : l.filterMap (fun x => if c x = true then some (g x) else none) = (l.filter c).map g := by
    clear h q
    induction l with
    | nil => rfl
    | cons x l ih => rw [List.filterMap_cons, List.filter_cons]; split <;> simp_all
  rw [this]; exact q
/-- a comprehension that draws -/
theorem wp_lcX {α : Type} {F : α → D} {tg : D → DS → Option DS} {mt : DS → Option (Bool × DS)} {me : DS → Option (D × DS)} {vs : List Nat} {Q : List D × DS → Prop} (I : List α → List D → DS → Prop) {l : List α} {ds : DS} (h : I [] [] ds)
    (k : ∀ p x q ys ds, l = p ++ x :: q → I p ys ds → Wp (tg (F x) ds) fun d1 => Wp (mt d1) fun b => if b.1 = true then Wp (me b.2) fun z => I (p ++ [x]) (ys ++ [z.1]) (wipeD z.2 vs) else I (p ++ [x]) ys (wipeD b.2 vs)) (hq : ∀ ys ds, I l ys ds → Q (ys, ds)) : Wp (lcGoX tg mt me vs (l.map F) ds) Q := by
  have go : ∀ (q p : List α) (ys : List D) (ds : DS), l = p ++ q → I p ys ds → Wp (lcGoX tg mt me vs (q.map F) ds) fun r => Q (ys ++ r.1, r.2) := by
    intro q
    induction q with
    | nil => intro p ys ds e hp; rw [List.append_nil] at e; subst e; exact (wp_some _ _).mpr (by rw [List.append_nil]; exact hq ys ds hp)
    | cons x q ih =>
      intro p ys ds e hp
      obtain ⟨d1, e1, ⟨b, d2⟩, e2, h2⟩ := k p x q ys ds e hp
      show Wp ((tg (F x) ds).bind _) _
      rw [e1, Option.bind_some, e2, Option.bind_some]
      cases b with
      | false => exact ih (p ++ [x]) ys _ (by rw [e, List.append_assoc]; rfl) (by simpa using h2)
      | true =>
        simp only [if_true] at h2 ⊢
        obtain ⟨⟨z, d3⟩, e3, h3⟩ := h2
        rw [e3, Option.bind_some, wp_map]
        refine (ih (p ++ [x]) (ys ++ [z]) _ (by rw [e, List.append_assoc]; rfl) h3).mono fun r hr => ?_
        rw [List.append_assoc] at hr
        exact hr
  exact (go l [] [] ds rfl h).mono fun r hr => hr
/-- ints that a range may be of -/
@[irreducible] def okR (j : Int) : Prop := -(2 ^ 62) ≤ j ∧ j < 2 ^ 62
theorem okR_of {j : Int} (h1 : -1000000000 ≤ j) (h2 : j ≤ 1000000000) : okR j := by unfold okR; omega
@[simp] theorem wp_rg1 (j : Int) (Q : List D → Prop) : Wp (rgF [.int j]) Q ↔ okR j ∧ Q ((List.range j.toNat).map iD) := by
  unfold rgF mRange okR
  rw [Option.bind_some]
  have h1 : ∀ n : Nat, rgD 0 n = (List.range n).map iD := fun n => rg_map n
  show Wp (if -(2 ^ 62) ≤ j ∧ j < 2 ^ 62 then some (rgD 0 j.toNat) else none) Q ↔ _
  rw [h1, wp_ite, wp_some, wp_none]
  split
  · rename_i h; simp only [h, true_and, and_self]
  · rename_i h; simp only [h, false_and]
@[simp] theorem wp_rg2 (i j : Int) (Q : List D → Prop) : Wp (rgF [.int i, .int j]) Q ↔ (okR i ∧ okR j) ∧ Q ((List.range (j - i).toNat).map fun k : Nat => D.int (i + k)) := by
  unfold rgF mRange okR
  rw [Option.bind_some]
  show Wp (if -(2 ^ 62) ≤ i ∧ i < 2 ^ 62 ∧ -(2 ^ 62) ≤ j ∧ j < 2 ^ 62 then some (rgD i (j - i).toNat) else none) Q ↔ _
  rw [wp_ite, wp_some, wp_none]
  show (if -(2 ^ 62) ≤ i ∧ i < 2 ^ 62 ∧ -(2 ^ 62) ≤ j ∧ j < 2 ^ 62 then Q ((List.range (j - i).toNat).map fun k : Nat => D.int (i + k)) else False) ↔ _
  split
  · rename_i h; simp only [h, true_and, and_self]
  · rename_i h
    constructor
    · exact fun z => False.elim z
    · rintro ⟨⟨⟨h1, h2⟩, h3, h4⟩, _⟩; exact absurd ⟨h1, h2, h3, h4⟩ h
/-! further mirrors, opened -/
@[simp] theorem e_par3 (i j l : Nat) (a b c : DS → Option (D × DS)) (ds : DS) : mPar3 i j l a b c ds = (a ds).bind fun x => (b x.2).bind fun y => (c y.2).map fun z => .nx (((z.2.set i (some x.1)).set j (some y.1)).set l (some z.1)) := id rfl
@[simp] theorem e_zip (m : DS → Option (List D)) (ds : DS) : mZip m ds = (m ds).bind zipF := id rfl
@[simp] theorem e_zipSL (a : Tx) (ys : List D) : zipF [.str a, .lst ys] = some (zpD (a.map fun c => .str [c]) ys) := id rfl
@[simp] theorem e_zipLL (xs ys : List D) : zipF [.lst xs, .lst ys] = some (zpD xs ys) := id rfl
@[simp] theorem e_arK (m : List D → Option D) (gD : List D → List D → List D) (mr : DS → Option (List D)) (ds : DS) : mArK m gD mr ds = (mr ds).bind fun xs => m (gD [] xs) := id rfl
def augF (i : Nat) (ds : DS) : D → D → Option Fl
  | .int p, .int q => some (.nx (ds.set i (some (.int (p + q)))))
  | _, _ => none
@[simp] theorem e_aug (i : Nat) (a : Mr) (ds : DS) : mAug i a ds = (mVar i ds).bind fun x => (a ds).bind fun y => augF i ds x y := id rfl
@[simp] theorem e_augI (i : Nat) (ds : DS) (p q : Int) : augF i ds (.int p) (.int q) = some (.nx (ds.set i (some (.int (p + q))))) := id rfl
def extF (i : Nat) (y : D) (ds : DS) : Option (D × DS) := match y with
  | .lst ys => (sl i ds).bind fun xs => if xs.length + ys.length ≤ sizeLine then some (.non, ds.set i (some (.lst (xs ++ ys)))) else none
  | _ => none
@[simp] theorem e_extend (i : Nat) (me : DS → Option (D × DS)) (ds : DS) : mExtend i me ds = (sl i ds).bind fun _ => (me ds).bind fun y => extF i y.1 y.2 := id rfl
@[simp] theorem e_extL (i : Nat) (ys : List D) (ds : DS) : extF i (.lst ys) ds = (sl i ds).bind fun xs => if xs.length + ys.length ≤ sizeLine then some (.non, ds.set i (some (.lst (xs ++ ys)))) else none := id rfl
@[simp] theorem e_put (i : Nat) (mj : Mr) (me : DS → Option (D × DS)) (ds : DS) : mPut i mj me ds = (me ds).bind fun y => (mj y.2).bind fun j => (dKey j).bind fun k => (sd i y.2).bind fun kd => if kd.length < sizeLine then some (.nx (y.2.set i (some (.dic (putD kd k y.1))))) else none := id rfl
@[simp] theorem e_disp1 (mk mv : Mr) (ds : DS) : mDisp1 mk mv ds = (mk ds).bind fun x => (dKey x).bind fun k => (mv ds).map fun y => .dic [(k, y)] := id rfl
@[simp] theorem e_sd0 (kd : List (Key × D)) (ds : DS) : sd 0 (some (.dic kd) :: ds) = some kd := id rfl
@[simp] theorem e_sdS (i : Nat) (x : Option D) (ds : DS) : sd (i + 1) (x :: ds) = sd i ds := id rfl
@[simp] theorem e_dget (kd : List (Key × D)) (y : D) : dDGet (.dic kd) y = (dKey y).bind fun k => valD kd k := id rfl
@[simp] theorem e_din (kd : List (Key × D)) (y : D) : dDIn y (.dic kd) = (dKey y).map fun k => .bl (valD kd k).isSome := id rfl
@[simp] theorem e_dnotin (kd : List (Key × D)) (y : D) : dDNotIn y (.dic kd) = (dKey y).map fun k => .bl (!(valD kd k).isSome) := id rfl
@[simp] theorem e_dkI (i : Int) : dKey (.int i) = some (.inl i) := id rfl
@[simp] theorem e_dkS (a : Tx) : dKey (.str a) = some (.inr (stx a)) := id rfl
/-- a dict by counts -/
def kvs {α : Type} (F : α → Nat) (G : α → D) (L : List α) : List (Key × D) := L.map fun x => (.inl (F x : Int), G x)
theorem kvs_len {α : Type} (F : α → Nat) (G : α → D) (L : List α) : (kvs F G L).length = L.length := by unfold kvs; rw [List.length_map]
theorem kvs_val {α : Type} (F : α → Nat) (G : α → D) (g : Nat) : ∀ (L : List α), valD (kvs F G L) (.inl (g : Int)) = (L.find? fun x => decide (F x = g)).map G
  | [] => rfl
  | x :: L => by
    have ih := kvs_val F G g L
    unfold valD at ih ⊢
    show (List.find? _ ((Sum.inl (F x : Int), G x) :: kvs F G L)).map _ = _
    rw [List.find?_cons, List.find?_cons]
    have : (decide ((Sum.inl (F x : Int) : Key) = .inl (g : Int))) = decide (F x = g) := by
      apply decide_eq_decide.mpr
      constructor
      · intro e; injection e with e; omega
      · intro e; rw [e]
    show (match decide ((Sum.inl (F x : Int) : Key) = .inl (g : Int)) with | true => _ | false => _ : Option (Key × D)).map _ = _
    rw [this]
    cases decide (F x = g) with
    | true => rfl
    | false => exact ih
theorem kvs_some {α : Type} (F : α → Nat) (G : α → D) (g : Nat) (L : List α) : (valD (kvs F G L) (.inl (g : Int))).isSome = decide (g ∈ L.map F) := by
  rw [kvs_val, Option.isSome_map, Bool.eq_iff_iff, List.find?_isSome, decide_eq_true_iff, List.mem_map]
  simp
theorem kvs_none {α : Type} (F : α → Nat) (G : α → D) (g : Nat) (L : List α) : valD (kvs F G L) (.inl (g : Int)) = none ↔ g ∉ L.map F := by
  have h := kvs_some F G g L
  cases e : valD (kvs F G L) (.inl (g : Int)) with
  | none => rw [e] at h; simpa using h.symm
  | some d => rw [e] at h; simpa using h.symm
theorem kvs_put {α : Type} (F : α → Nat) (G : α → D) (x : α) {L : List α} (h : F x ∉ L.map F) : putD (kvs F G L) (.inl (F x : Int)) (G x) = kvs F G (L ++ [x]) := by
  unfold putD
  rw [if_neg]
  · unfold kvs; rw [List.map_append]; rfl
  · intro z
    obtain ⟨y, hy, e⟩ := List.any_eq_true.mp z
    obtain ⟨u, hu, rfl⟩ := List.mem_map.mp hy
    have e := of_decide_eq_true e
    injection e with e
    exact h (List.mem_map.mpr ⟨u, hu, by omega⟩)
/-- different counts, rising -/
def srtN (l : List Nat) : List Nat := (srtI (l.map fun g : Nat => (g : Int))).map Int.toNat
theorem srtN_cast (l : List Nat) : (srtN l).map (fun g : Nat => (g : Int)) = srtI (l.map fun g : Nat => (g : Int)) := by
  unfold srtN
  rw [List.map_map]
  conv => rhs; rw [← List.map_id (srtI (l.map fun g : Nat => (g : Int)))]
  refine List.map_congr_left fun x hx => ?_
  rw [srtI_mem] at hx
  obtain ⟨g, hg, rfl⟩ := List.mem_map.mp hx
  simp
theorem srtN_mem (l : List Nat) (g : Nat) : g ∈ srtN l ↔ g ∈ l := by
  have h := srtI_mem (g : Int) (l.map fun g : Nat => (g : Int))
  rw [← srtN_cast] at h
  have key : ∀ r : List Nat, (g : Int) ∈ r.map (fun g : Nat => (g : Int)) ↔ g ∈ r := fun r => by
    rw [List.mem_map]
    exact ⟨fun ⟨x, hx, e⟩ => by rw [show g = x by omega]; exact hx, fun hx => ⟨g, hx, rfl⟩⟩
  rw [key, key] at h
  exact h
theorem srtN_up (l : List Nat) : (srtN l).Pairwise (· < ·) := by
  have h := srtI_sorted (l.map fun g : Nat => (g : Int))
  rw [← srtN_cast, List.pairwise_map] at h
  exact h.imp fun {a b} q => by omega
theorem upN_uniq {a b : List Nat} (ha : a.Pairwise (· < ·)) (hb : b.Pairwise (· < ·)) (h : ∀ k, k ∈ a ↔ k ∈ b) : a = b := by
  have key : ∀ r : List Nat, ∀ k : Int, k ∈ r.map (fun g : Nat => (g : Int)) ↔ ∃ g ∈ r, (g : Int) = k := fun r k => List.mem_map
  have := sorted_uniq (a := a.map fun g : Nat => (g : Int)) (b := b.map fun g : Nat => (g : Int)) (by rw [List.pairwise_map]; exact ha.imp fun {a b} q => by omega) (by rw [List.pairwise_map]; exact hb.imp fun {a b} q => by omega) fun k => by
    rw [key, key]
    exact ⟨fun ⟨g, hg, e⟩ => ⟨g, (h g).mp hg, e⟩, fun ⟨g, hg, e⟩ => ⟨g, (h g).mpr hg, e⟩⟩
  have e2 := congrArg (List.map Int.toNat) this
  rw [List.map_map, List.map_map] at e2
  simpa [Function.comp_def] using e2
theorem e_sortSet (l : List Nat) (h : l.length ≤ 4000) : dSortSet (iL l) = some (iL (srtN l)) := by
  show (intsD (l.map iD)).bind _ = _
  have e : l.map iD = (l.map fun g : Nat => (g : Int)).map D.int := by rw [List.map_map]; rfl
  rw [e, intsD_map, Option.bind_some, if_pos (by rw [List.length_map]; exact h), ← srtN_cast, List.map_map]
  rfl
@[simp] theorem e_inOwn (g : Bool → Bool) (C : Addr) (m : List D → Option D) (y x : D) : dInOwn g C m y x = if x.isC C = true then (m [x, y]).bind fun d => d.isB.map fun b => .bl (g b) else none := id rfl
@[simp] theorem e_own (g : Bool → Bool) (C : Addr) (m : List D → Option D) (x y : D) : dOwn g C m x y = if (x.isC C && ((tyN y).isSome || y.isC C)) = true then (m [x, y]).bind fun d => d.isB.map fun b => .bl (g b) else none := id rfl
def popF (i : Nat) (z : D) (ds : DS) : Option (D × DS) := match z with
  | .int z => (sl i ds).bind fun xs => if 0 ≤ z ∧ xs.length ≤ lim then (xs[z.toNat]?).map fun y => (y, ds.set i (some (.lst (xs.eraseIdx z.toNat)))) else none
  | _ => none
theorem e_popAt' (i : Nat) (me : DS → Option (D × DS)) (ds : DS) : mPopAt i me ds = (sl i ds).bind fun _ => (me ds).bind fun j => popF i j.1 j.2 := id rfl
@[simp] theorem e_popI (i : Nat) (z : Int) (ds : DS) : popF i (.int z) ds = (sl i ds).bind fun xs => if 0 ≤ z ∧ xs.length ≤ lim then (xs[z.toNat]?).map fun y => (y, ds.set i (some (.lst (xs.eraseIdx z.toNat)))) else none := id rfl
theorem okRg_of {i j : Int} (h1 : -1000000 ≤ i) (h2 : i ≤ 1000000) (h3 : -1000000 ≤ j) (h4 : j ≤ 1000000) : okRg i j = true := by
  unfold okRg
  rw [decide_eq_true_eq]
  omega
theorem rgD_nat (i n : Nat) : rgD (i : Int) n = (List.range' i n).map iD := by
  unfold rgD
  rw [List.range'_eq_map_range, List.map_map]
  exact List.map_congr_left fun k _ => by show D.int ((i : Int) + (k : Int)) = D.int ((i + k : Nat) : Int); rw [Int.natCast_add]
theorem rgD_one (n : Nat) : rgD 1 ((n : Int) - 1).toNat = (List.range' 1 (n - 1)).map iD := by
  rw [show ((n : Int) - 1).toNat = n - 1 by omega]
  exact rgD_nat 1 (n - 1)
@[simp] theorem dEq_B (a b : Bool) : dEq (.bl a) (.bl b) = some (.bl (decide (a = b))) := by cases a <;> cases b <;> rfl
@[simp] theorem dNe_B (a b : Bool) : dNe (.bl a) (.bl b) = some (.bl (!decide (a = b))) := by cases a <;> cases b <;> rfl
theorem dEq_rows {m n : Nat} {r1 r2 : List (List Nat)} (h1 : ROk m r1) (h2 : ROk n r2) : dEq (rL r1) (rL r2) = some (.bl (decide (r1 = r2))) :=
  dEq_rL (fun r hr g hg => by have := h1.goal r hr g hg; have := h1.le; omega) (fun r hr g hg => by have := h2.goal r hr g hg; have := h2.le; omega)
/-- ints that may be multiplied -/
@[irreducible] def okM (i j : Int) : Prop := (-(2 ^ 64) < j ∧ j < 2 ^ 64) ∨ (-(2 ^ 64) < i ∧ i < 2 ^ 64)
theorem okM_r {i j : Int} (h1 : -1000000000000 ≤ j) (h2 : j ≤ 1000000000000) : okM i j := by unfold okM; omega
theorem okM_l {i j : Int} (h1 : -1000000000000 ≤ i) (h2 : i ≤ 1000000000000) : okM i j := by unfold okM; omega
@[simp] theorem wp_mulI (i j : Int) (Q : D → Prop) : Wp (dMul (.int i) (.int j)) Q ↔ okM i j ∧ Q (.int (i * j)) := by
  unfold okM
  rw [e_mulI]
  split
  · rename_i h; simp only [h, wp_some, true_and, and_self, true_or]
  · split
    · rename_i h1 h; simp only [h, wp_some, true_and, and_self, or_true]
    · rename_i h1 h; simp only [wp_none, h1, h, or_self, false_and]
theorem ex_nat {z m : Int} (h0 : 0 ≤ z) (h1 : z < m) : ∃ k : Nat, D.int z = iD k ∧ (k : Int) < m := ⟨z.toNat, by rw [iD, Int.toNat_of_nonneg h0], by rw [Int.toNat_of_nonneg h0]; exact h1⟩
end VS
end
section
set_option maxRecDepth 100000
set_option maxHeartbeats 4000000
/-! the law's defs reckoned: what is drawn -/
namespace LW
open PySem L2 RX VS Evl
abbrev pot (x y : Int) : D := .lst [.int x, .int y]
theorem draw_end {x y z : Int} {m : Nat} (m1 : 0 < m) (z0 : 0 ≤ z) (z1 : z < 2147483629) : okM y 48271 ∧ okM z z ∧ ∃ (d : Nat) (x' y' : Int), (z * z % 2147483549 / 13 % m = d ∧ x = x' ∧ z = y') ∧ d < m ∧ 0 ≤ y' ∧ y' < 4294967296 := by
  have c2 : (0 : Int) < m := by omega
  have w0 := Int.emod_nonneg (z * z % 2147483549 / 13) (show (m : Int) ≠ 0 by omega)
  have w1 := Int.emod_lt_of_pos (z * z % 2147483549 / 13) c2
  exact ⟨okM_r (by omega) (by omega), okM_r (by omega) (by omega), (z * z % 2147483549 / 13 % m).toNat, x, z, ⟨by omega, rfl, rfl⟩, by omega, z0, by omega⟩
section
variable (cM : Addr)
theorem v_draw {x y : Int} {m : Nat} (h1 : 0 ≤ y) (h2 : y < 4294967296) (m1 : 0 < m) (m2 : m < 1000000) : ∃ (d : Nat) (x' y' : Int), m__law_draw cM [pot x y, iD m] = some (iD d, pot x' y') ∧ d < m ∧ 0 ≤ y' ∧ y' < 4294967296 := by
  have c1 : (m : Int) < 1073741824 := by omega
  have c2 : (0 : Int) < m := by omega
  suffices h : Wp (m__law_draw cM [pot x y, iD m]) (fun r => ∃ (d : Nat) (x' y' : Int), r = (iD d, pot x' y') ∧ d < m ∧ 0 ≤ y' ∧ y' < 4294967296) by
    obtain ⟨r, e, d, x', y', rfl, h⟩ := h
    exact ⟨d, x', y', e, h⟩
  by_cases hx : 0 < x
  · have h0 := Int.emod_nonneg x (show (m : Int) ≠ 0 by omega)
    have h3 := Int.emod_lt_of_pos x c2
    simp -implicitDefEqProofs [m__law_draw, mb__law_draw, hx, c1, c2, m1]
    exact ⟨(x % m).toNat, x / m, y, ⟨by omega, rfl, rfl⟩, by omega, h1, h2⟩
  · simp -implicitDefEqProofs [m__law_draw, mb__law_draw, hx, c1, c2, m1]
    exact draw_end m1 (Int.emod_nonneg _ (by decide)) (Int.emod_lt_of_pos _ (by decide))
theorem atI_get {α : Type} {xs : List α} {i : Nat} {x : α} (h : xs[i]? = some x) : atI xs (i : Int) = some x := by rw [e_nat, h]
theorem v_pick {x y : Int} {xs : List D} (h1 : 0 ≤ y) (h2 : y < 4294967296) (m1 : 0 < xs.length) (m2 : xs.length < 1000000) : ∃ (z : D) (x' y' : Int), m__law_pick cM [pot x y, .lst xs] = some (z, pot x' y') ∧ z ∈ xs ∧ 0 ≤ y' ∧ y' < 4294967296 := by
  obtain ⟨d, x', y', e, hd, k1, k2⟩ := v_draw cM (x := x) h1 h2 m1 m2
  refine ⟨xs[d], x', y', ?_, List.getElem_mem hd, k1, k2⟩
  simp -implicitDefEqProofs [m__law_pick, mb__law_pick, VS.fnP, e, hd]
theorem v_pickS {x y : Int} {a : Tx} (h1 : 0 ≤ y) (h2 : y < 4294967296) (m1 : 0 < a.length) (m2 : a.length < 1000) : ∃ (c : Nat) (x' y' : Int), m__law_pick cM [pot x y, .str a] = some (.str [c], pot x' y') ∧ c ∈ a ∧ 0 ≤ y' ∧ y' < 4294967296 := by
  obtain ⟨d, x', y', e, hd, k1, k2⟩ := v_draw cM (x := x) h1 h2 m1 (by omega)
  refine ⟨a[d], x', y', ?_, List.getElem_mem hd, k1, k2⟩
  have hl : a.length ≤ sizeLine := by unfold sizeLine; omega
  have hx : dIx (.str a) (iD d) = some (.str [a[d]]) := by
    show (if a.length ≤ sizeLine then (atI a (d : Int)).map fun c => D.str [c] else none) = _
    rw [if_pos hl, atI_get (List.getElem?_eq_getElem hd)]
    rfl
  simp -implicitDefEqProofs [m__law_pick, mb__law_pick, VS.fnP, e, hl, hx]
theorem v_some_letters {x y : Int} (h1 : 0 ≤ y) (h2 : y < 4294967296) : ∃ (a : Tx) (x' y' : Int), m__law_letters cM [pot x y] = some (.str a, pot x' y') ∧ LOk a ∧ a ≠ [100, 101, 102].take a.length ∧ 0 ≤ y' ∧ y' < 4294967296 := by
  obtain ⟨z, x', y', e, hz, k1, k2⟩ := v_pick cM (x := x) (xs := [.str [97], .str [122], .str [97, 98], .str [97, 98], .str [98, 120], .str [97, 98, 99], .str [107, 121, 122], .str [103, 109, 114], .str [104, 106, 119], .str [108, 110, 112], .str [111, 118]]) h1 h2 (by decide) (by decide)
  have : ∃ a, z = .str a ∧ LOk a ∧ a ≠ [100, 101, 102].take a.length := by
    simp only [List.mem_cons, List.not_mem_nil, or_false] at hz
    rcases hz with rfl | rfl | rfl | rfl | rfl | rfl | rfl | rfl | rfl | rfl | rfl <;> exact ⟨_, rfl, ⟨by decide, by decide, by decide, by decide⟩, by decide⟩
  obtain ⟨a, rfl, la, na⟩ := this
  refine ⟨a, x', y', ?_, la, na, k1, k2⟩
  simp -implicitDefEqProofs [m__law_letters, mb__law_letters, VS.fnP, e]
theorem allT_of {a : Tx} : ∀ {ys : List D}, (∀ y ∈ ys, ∃ c ∈ a, y = .str [c]) → ∃ t : Tx, allT ys = some (t.map fun c => [c]) ∧ t.length = ys.length ∧ ∀ c ∈ t, c ∈ a
  | [], _ => ⟨[], rfl, rfl, fun c h => nomatch h⟩
  | y :: ys, h => by
    obtain ⟨c, hc, rfl⟩ := h y List.mem_cons_self
    obtain ⟨t, e, hl, ht⟩ := allT_of (ys := ys) fun z hz => h z (List.mem_cons_of_mem _ hz)
    refine ⟨c :: t, ?_, by rw [List.length_cons, List.length_cons, hl], fun d hd => ?_⟩
    · show (allT ys).map _ = _
      rw [e]
      rfl
    · rcases List.mem_cons.mp hd with rfl | hd
      · exact hc
      · exact ht d hd
theorem flat_one (t : Tx) : (t.map fun c => [c]).flatten = t := by
  induction t with
  | nil => rfl
  | cons c t ih => rw [List.map_cons, List.flatten_cons, ih]; rfl
/-- those of a row that are new -/
theorem addAll_newG (found : List Nat) : ∀ (row pre : List Nat), addAll found (pre ++ row) = addAll found pre ++ ((row.zipIdx pre.length).filter fun p => !decide (p.1 ∈ found ++ (pre ++ row).take p.2)).map Prod.fst
  | [], pre => by simp
  | g :: row, pre => by
    have h := addAll_newG found row (pre ++ [g])
    have e0 : pre ++ [g] ++ row = pre ++ g :: row := by rw [List.append_assoc]; rfl
    rw [e0, addAll_snoc, List.length_append, List.length_singleton] at h
    rw [h, List.zipIdx_cons, List.filter_cons]
    have e1 : (pre ++ g :: row).take pre.length = pre := List.take_left
    show _ = addAll found pre ++ List.map _ (if (!decide (g ∈ found ++ (pre ++ g :: row).take pre.length)) = true then _ else _)
    rw [e1]
    by_cases c : g ∈ addAll found pre
    · have c2 := (addAll_mem g pre found).mp c
      rw [if_pos c, if_neg (by simp [c2])]
    · have c2 := fun z => c ((addAll_mem g pre found).mpr z)
      rw [if_neg c, if_pos (by simp [not_or.mp c2]), List.map_cons, List.append_assoc]
      rfl
theorem addAll_new (found row : List Nat) : addAll found row = found ++ (row.zipIdx.filter fun p => !decide (p.1 ∈ found ++ row.take p.2)).map Prod.fst := addAll_newG found row []
theorem v_law_met {m s : Nat} {rows : List (List Nat)} (ok : ROk m rows) (hs : s < rows.length) (hm : m ≤ 3) : m__law_met cM [rL rows, iD s] = some (iL (metL rows s)) := by
  obtain ⟨ds', e, i, v, rfl⟩ := while_ix (mc := liftT (mAndT (mT (mBin dLt (mVar 3) (mAr dLen (mCons (mVar 2) mNil)))) (mT (mBin dLt (mVar 3) (mC (.int 200)))))) (mb := mSeq (mSet 2 (lft (mBin dAdd (mVar 2) (mLc (mEnum (mCons (mBin dIx (mVar 0) (mBin dIx (mVar 2) (mVar 3))) mNil)) (gT 2 (gsC (gN 4) (gsC (gN 5) gsN))) (mT (mBin dNotIn (mVar 5) (mBin dAdd (mVar 2) (mSl (mBin dIx (mVar 0) (mBin dIx (mVar 2) (mVar 3))) mNo (mYes (mVar 4)))))) (mVar 5) [4, 5]))))
    (mSet 3 (lft (mBin dAdd (mVar 3) (mC (.int 1))))))
      (fun n ds => ∃ (i : Nat) (found : List Nat), n = rows.length - i ∧ i ≤ rows.length ∧ ds = [some (rL rows), some (iD s), some (iL found), some (iD i), none, none] ∧ goM rows (rows.length - i) i found = metL rows s ∧ found.Nodup ∧ ∀ y ∈ found, y < rows.length)
      (fun ds => ∃ i v, ds = [some (rL rows), some (iD s), some (iL (metL rows s)), i, none, v]) (n := rows.length) (ds := [some (rL rows), some (iD s), some (.lst [iD s]), some (.int 0), none, none])
      ⟨0, [s], rfl, Nat.zero_le _, rfl, rfl, by simp, by simpa using hs⟩ (by have := ok.le; omega) (by
        rintro n ds ⟨i, found, rfl, hi, rfl, hgo, nd, lt⟩
        have hfl := nodup_le _ _ nd lt
        have hle := ok.le
        by_cases hif : i < found.length
        · obtain ⟨p, hp⟩ : ∃ p, found[i]? = some p := ⟨_, List.getElem?_eq_getElem hif⟩
          have hpn : p < rows.length := lt p (List.mem_of_getElem? hp)
          obtain ⟨row, hrow⟩ : ∃ row, rows[p]? = some row := ⟨_, List.getElem?_eq_getElem hpn⟩
          have hrm := List.mem_of_getElem? hrow
          have hrb : ∀ y ∈ row, y < rows.length := ok.goal row hrm
          have hrl := ok.len row hrm
          have hgo2 : goM rows (rows.length - (i + 1)) (i + 1) (addAll found row) = metL rows s := by
            rw [← hgo, show rows.length - i = (rows.length - (i + 1)) + 1 by omega]
            show _ = if i < found.length then goM rows (rows.length - (i + 1)) (i + 1) (addAll found (rows.getD (found.getD i 0) [])) else found
            rw [if_pos hif, getD_of hp, getD_of hrow]
          have e : lcGo (lcF (gT 2 (gsC (gN 4) (gsC (gN 5) gsN))) (mT (mBin dNotIn (mVar 5) (mBin dAdd (mVar 2) (mSl (mBin dIx (mVar 0) (mBin dIx (mVar 2) (mVar 3))) mNo (mYes (mVar 4)))))) (mVar 5) [some (rL rows), some (iD s), some (iL found), some (iD i), none, none]) (row.zipIdx.map fun p => .tup [iD p.2, iD p.1]) = some ((row.zipIdx.filter fun p => !decide (p.1 ∈ found ++ row.take p.2)).map fun p => iD p.1) :=
            lcGo_filterF fun q hq => by
              have hq2 := List.snd_lt_of_mem_zipIdx hq
              have hsz : found.length + (row.take q.2).length ≤ sizeLine := by rw [List.length_take]; unfold sizeLine; omega
              have e1 : dNotIn (iD q.1) (.lst (found.map iD ++ (row.take q.2).map iD)) = some (.bl (!decide (q.1 ∈ found ++ row.take q.2))) := by
                rw [← List.map_append]
                exact dNotIn_iL q.1 (found ++ row.take q.2)
              have e2 : cutD (row.map iD) none (some (q.2 : Int)) = (row.take q.2).map iD := by rw [cutD_take, List.map_take]
              have hsz' : found.length + min q.2 row.length ≤ sizeLine := by rw [← List.length_take]; exact hsz
              simp -implicitDefEqProofs only [lcF, e_gT2, e_gsC, e_gN, e_gsN, Option.bind_some, List.set, e_mT, e_bin, e_varS, e_var0, e_ixL, e_nat, List.getElem?_map, hp, hrow, Option.map_some, e_sl, e_no, e_yes, e_isI, e_slL, e2, e_addL, List.length_map, List.length_take, hsz', if_true, e1, e_isB]
              by_cases h : q.1 ∈ found ++ row.take q.2
              · simp -implicitDefEqProofs [h]
              · simp -implicitDefEqProofs [h]
          have en : enD (row.map iD) = row.zipIdx.map fun p => .tup [iD p.2, iD p.1] := enD_map iD row
          have hlim : row.length ≤ lim := by unfold lim; omega
          have hadd : (addAll found row).length ≤ rows.length := nodup_le _ _ (addAll_nodup _ _ nd) (fun y hy => ((addAll_mem y _ _).mp hy).elim (lt y) (hrb y))
          have hnew := addAll_new found row
          have hsz : found.length + ((row.zipIdx.filter fun p => !decide (p.1 ∈ found ++ row.take p.2)).map fun p => iD p.1).length ≤ sizeLine := by
            rw [hnew, List.length_append, List.length_map] at hadd
            rw [List.length_map]
            unfold sizeLine
            omega
          have hD : D.lst (found.map iD ++ (row.zipIdx.filter fun p => !decide (p.1 ∈ found ++ row.take p.2)).map fun p => iD p.1) = iL (addAll found row) := by
            rw [hnew, iL, List.map_append, List.map_map]
            rfl
          refine .inl ⟨[some (rL rows), some (iD s), some (iL found), some (iD i), none, none], [some (rL rows), some (iD s), some (iL (addAll found row)), some (iD (i + 1)), none, none], rows.length - (i + 1), ?_, ?_, ⟨i + 1, addAll found row, rfl, by omega, rfl, hgo2, addAll_nodup _ _ nd, fun y hy => ((addAll_mem y _ _).mp hy).elim (lt y) (hrb y)⟩, by omega⟩
          · have : (i : Int) < 200 := by omega
            simp -implicitDefEqProofs [hif, this]
          · rw [← hD]
            simp -implicitDefEqProofs only [e_seq, e_set, e_lft, e_bin, e_varS, e_var0, e_lc, e_enum, e_cons, e_nil, e_ixL, e_nat, List.getElem?_map, hp, hrow, Option.map_some, Option.bind_some, en, e_wipeS, e_wipe0, List.set, List.length_map, List.length_zipIdx, hlim, if_true, e, e_addL, e_c, e_addI]
            rw [if_pos (by rw [List.length_map] at hsz; exact hsz)]
            rfl
        · refine .inr ⟨[some (rL rows), some (iD s), some (iL found), some (iD i), none, none], by simp [hif], some (iD i), none, ?_⟩
          rw [← hgo]
          cases hk : rows.length - i with
          | zero => rfl
          | succ k => show _ = [_, _, some (iL (if i < found.length then _ else found)), _, _, _]; rw [if_neg hif])
  simp -implicitDefEqProofs [m__law_met, mb__law_met, fnM, e]
theorem v_called {rows : List (List Nat)} {places : List Nat} (hp : ∀ p ∈ places, ∃ row, rows[p]? = some row ∧ row.length ≤ 1000 ∧ ∀ g ∈ row, g ∈ places) (hl : places.length ≤ 1000) : m__law_called cM [rL rows, iL places] = some (rL (calledL rows places)) := by
  have hlim : places.length ≤ lim := by unfold lim; omega
  have e : lcGo (lcF (gN 2) (fun _ => some true) (mLc (mItems (mBin dIx (mVar 0) (mVar 2))) (gN 3) (fun _ => some true) (mMt dIndexL (mVar 1) (mCons (mVar 3) mNil)) [3]) [some (rL rows), some (iL places), none, none]) (places.map iD) = some (places.map fun p => iL ((rows.getD p []).map fun g => posOf places g)) :=
    lcGo_mapF fun p hpm => by
      obtain ⟨row, h1, h2, h3⟩ := hp p hpm
      have hlr : row.length ≤ lim := by unfold lim; omega
      have e2 : lcGo (lcF (gN 3) (fun _ => some true) (mMt dIndexL (mVar 1) (mCons (mVar 3) mNil)) [some (rL rows), some (iL places), some (iD p), none]) (row.map iD) = some (row.map fun g => iD (posOf places g)) :=
        lcGo_mapF fun g hg => by simp -implicitDefEqProofs [lcF, dIndex_iL (h3 g hg)]
      simp -implicitDefEqProofs [lcF, h1, hlr, e2]
  have e3 : places.map (fun p => iL ((rows.getD p []).map fun g => posOf places g)) = (calledL rows places).map iL := by
    unfold calledL
    rw [List.map_map]
    rfl
  rw [e3] at e
  simp -implicitDefEqProofs [m__law_called, mb__law_called, fnM, hlim, e]
theorem shut_row {m : Nat} {rows : List (List Nat)} {s : Nat} {R : List Nat} (ok : ROk m rows) (hm : m ≤ 3) (sh : Shut rows s R) : ∀ p ∈ R, ∃ row, rows[p]? = some row ∧ row.length ≤ 1000 ∧ ∀ g ∈ row, g ∈ R := fun p hp => by
  have hp' := sh.lt p hp
  have hr : rows[p]? = some rows[p] := List.getElem?_eq_getElem hp'
  refine ⟨rows[p], hr, by rw [ok.len _ (List.getElem_mem _)]; omega, fun g hg => sh.cl p hp g (by rw [getD_of hr]; exact hg)⟩
theorem RAll.of {m : Nat} {rows : List (List Nat)} {R : List Nat} (ok : ROk m rows) (sh : Shut rows 0 R) : RAll (calledL rows R) := fun i hi => by
  have ok2 := called_ok ok sh
  rw [called_len] at hi
  exact (metL_shut ok2 ok2.pos).all (called_all ok sh hi)
theorem erase_map {α β : Type} (f : α → β) : ∀ (l : List α) (j : Nat), (l.map f).eraseIdx j = (l.eraseIdx j).map f
  | [], _ => rfl
  | _ :: _, 0 => rfl
  | x :: l, j + 1 => by
    show f x :: (l.map f).eraseIdx j = f x :: (l.eraseIdx j).map f
    rw [erase_map f l j]
theorem mem_erase_iff {l : List Nat} {d : Nat} (hd : d < l.length) (nd : l.Nodup) (x : Nat) : x ∈ l.eraseIdx d ↔ x ∈ l ∧ x ≠ l[d] := by
  rw [List.mem_eraseIdx_iff_getElem]
  constructor
  · rintro ⟨i, h1, h2, rfl⟩
    refine ⟨List.getElem_mem _, fun e => h2 ?_⟩
    exact (List.getElem_inj nd).mp e
  · rintro ⟨h1, h2⟩
    obtain ⟨i, hi, rfl⟩ := List.mem_iff_getElem.mp h1
    exact ⟨i, hi, fun e => h2 (by subst e; rfl), rfl⟩
theorem v_law_rows {x y : Int} {m mo : Nat} (u1 : 0 < mo) (u2 : mo ≤ 100) (m1 : 0 < m) (m3 : m ≤ 3) (h1 : 0 ≤ y) (h2 : y < 4294967296) : ∃ (rows : List (List Nat)) (x' y' : Int), m__law_rows cM [pot x y, iD m, iD mo] = some (rL rows, pot x' y') ∧ ROk m rows ∧ RAll rows ∧ rows.length ≤ mo ∧ 0 ≤ y' ∧ y' < 4294967296 := by
  obtain ⟨d, x1, y1, e1, hd, k1, k2⟩ := v_draw cM (x := x) (m := mo) h1 h2 (by omega) (by omega)
  have n1 : (1 + (d : Int)) = ((d + 1 : Nat) : Int) := by omega
  obtain ⟨rowsD, ds', e2, ⟨x2, y2, rfl, q1, q2⟩, hl, hR⟩ := lcGoX_inv (α := Nat) (F := iD) (tg := gN 7) (mt := fun ds => some (true, ds)) (me := mLcX (liftA (mRange (mCons (mVar 1) mNil))) (gN 8) (fun ds => some (true, ds)) (mCallP 0 (m__law_draw cM) (liftA (mCons (mVar 3) mNil))) [8]) (vs := [7]) (fun ds => ∃ x y, ds = [some (pot x y), some (iD m), some (iD mo), some (iD (d + 1)), none, none, none, none, none] ∧ 0 ≤ y ∧ y < 4294967296) (fun z => ∃ r : List Nat, z = iL r ∧ r.length = m ∧ ∀ g ∈ r, g < d + 1) (List.range (d + 1)) [some (pot x1 y1), some (iD m), some (iD mo), some (iD (d + 1)), none, none, none, none, none] ⟨x1, y1, rfl, k1, k2⟩ (by
    rintro i hi ds ⟨x2, y2, rfl, g1, g2⟩
    obtain ⟨ys, ds', e3, ⟨x3, y3, rfl, p1, p2⟩, hl, hR⟩ := lcGoX_inv (α := Nat) (F := iD) (tg := gN 8) (mt := fun ds => some (true, ds)) (me := mCallP 0 (m__law_draw cM) (liftA (mCons (mVar 3) mNil))) (vs := [8]) (fun ds => ∃ x y, ds = [some (pot x y), some (iD m), some (iD mo), some (iD (d + 1)), none, none, none, some (iD i), none] ∧ 0 ≤ y ∧ y < 4294967296) (fun z => ∃ g : Nat, z = iD g ∧ g < d + 1) (List.range m) [some (pot x2 y2), some (iD m), some (iD mo), some (iD (d + 1)), none, none, none, some (iD i), none] ⟨x2, y2, rfl, g1, g2⟩ (by
      rintro j hj ds ⟨x3, y3, rfl, g1, g2⟩
      obtain ⟨g, x4, y4, e4, hg, p1, p2⟩ := v_draw cM (x := x3) (m := d + 1) g1 g2 (by omega) (by omega)
      refine ⟨_, _, iD g, [some (pot x4 y4), some (iD m), some (iD mo), some (iD (d + 1)), none, none, none, some (iD i), some (iD j)], rfl, rfl, ?_, ⟨g, rfl, hg⟩, x4, y4, rfl, p1, p2⟩
      simp -implicitDefEqProofs only [e_gN, List.set, e_callP, e_sl0, Option.bind_some, e_liftA, e_cons, e_nil, e_varS, e_var0, Option.map_some, e4])
    rw [List.length_range] at hl
    obtain ⟨r, rfl, hr⟩ : ∃ r : List Nat, ys = r.map iD ∧ ∀ g ∈ r, g < d + 1 := by
      clear e3 hl
      induction ys with
      | nil => exact ⟨[], rfl, fun g h => nomatch h⟩
      | cons z ys ih =>
        obtain ⟨g, rfl, hg⟩ := hR z List.mem_cons_self
        obtain ⟨r, rfl, hr⟩ := ih fun z hz => hR z (List.mem_cons_of_mem _ hz)
        exact ⟨g :: r, rfl, fun z hz => (List.mem_cons.mp hz).elim (fun e => e ▸ hg) (hr z)⟩
    rw [List.length_map] at hl
    refine ⟨_, _, iL r, [some (pot x3 y3), some (iD m), some (iD mo), some (iD (d + 1)), none, none, none, some (iD i), none], rfl, rfl, ?_, ⟨r, rfl, hl, hr⟩, x3, y3, rfl, p1, p2⟩
    have hlim : m ≤ lim := by unfold lim; omega
    simp -implicitDefEqProofs only [e_gN, List.set, e_lcX, e_liftA, e_range', e_cons, e_nil, e_varS, e_var0, Option.bind_some, Option.map_some, rgF_nat (n := m) (by omega), List.length_map, List.length_range, hlim, if_true, e_wipeS, e_wipe0, e3, e_unwipeS, e_unwipe0]
    rfl)
  rw [List.length_range] at hl
  obtain ⟨rows0, rfl, hr0⟩ : ∃ rs : List (List Nat), rowsD = rs.map iL ∧ ∀ r ∈ rs, r.length = m ∧ ∀ g ∈ r, g < d + 1 := by
    clear e2 hl
    induction rowsD with
    | nil => exact ⟨[], rfl, fun g h => nomatch h⟩
    | cons z ys ih =>
      obtain ⟨g, rfl, hg⟩ := hR z List.mem_cons_self
      obtain ⟨r, rfl, hr⟩ := ih fun z hz => hR z (List.mem_cons_of_mem _ hz)
      exact ⟨g :: r, rfl, fun z hz => (List.mem_cons.mp hz).elim (fun e => e ▸ hg) (hr z)⟩
  rw [List.length_map] at hl
  have ok0 : ROk m rows0 := ⟨by omega, by omega, fun r hr => (hr0 r hr).1, fun r hr g hg => by rw [hl]; exact (hr0 r hr).2 g hg⟩
  have e4 : m__law_met cM [rL rows0, .int 0] = some (iL (metL rows0 0)) := v_law_met cM ok0 ok0.pos m3
  have sh0 := metL_shut ok0 ok0.pos
  have ml0 := nodup_le _ _ sh0.nd sh0.lt
  have e5 := v_called cM (shut_row ok0 m3 sh0) (by omega)
  have ok1 := called_ok ok0 sh0
  have hl1 : (calledL rows0 (metL rows0 0)).length ≤ mo := by rw [called_len]; omega
  have rc1 : ∀ i, i < (calledL rows0 (metL rows0 0)).length → Reach (calledL rows0 (metL rows0 0)) 0 i := fun i hi => called_all ok0 sh0 (by rw [called_len] at hi; exact hi)
  generalize calledL rows0 (metL rows0 0) = rows1 at e5 ok1 hl1 rc1
  have o1 := ok1.pos
  obtain ⟨ds', e6, x3, y3, order, rfl, p1, p2, nd, hd0, hmem⟩ := while_ix (mc := liftT (mT (mBin dNe (mVar 5) (mLst mNil)))) (mb := mDrop (mAppend 6 (mPopAt 5 (mCallP 0 (m__law_draw cM) (liftA (mCons (mAr dLen (mCons (mVar 5) mNil)) mNil))))))
    (fun n ds => ∃ (x y : Int) (rest order : List Nat), n = rest.length ∧ ds = [some (pot x y), some (iD m), some (iD mo), some (iD (d + 1)), some (rL rows1), some (iL rest), some (iL order), none, none] ∧ 0 ≤ y ∧ y < 4294967296 ∧ rest.Nodup ∧ order.Nodup ∧ order[0]? = some 0 ∧ (∀ i, i < rows1.length ↔ i ∈ rest ∨ i ∈ order) ∧ ∀ i ∈ rest, i ∉ order)
    (fun ds => ∃ (x y : Int) (order : List Nat), ds = [some (pot x y), some (iD m), some (iD mo), some (iD (d + 1)), some (rL rows1), some (iL []), some (iL order), none, none] ∧ 0 ≤ y ∧ y < 4294967296 ∧ order.Nodup ∧ order[0]? = some 0 ∧ ∀ i, i < rows1.length ↔ i ∈ order)
    (n := rows1.length - 1) (ds := [some (pot x2 y2), some (iD m), some (iD mo), some (iD (d + 1)), some (rL rows1), some (iL (List.range' 1 (rows1.length - 1))), some (.lst [.int 0]), none, none])
    ⟨x2, y2, _, [0], by rw [List.length_range'], rfl, q1, q2, List.nodup_range', by simp, rfl, fun i => by rw [List.mem_range'_1]; simp; omega, fun i hi => by rw [List.mem_range'_1] at hi; simp; omega⟩ (by omega) (by
      rintro n ds ⟨x3, y3, rest, order, rfl, rfl, g1, g2, nr, no, h0, hm, hdj⟩
      have ol : order.length ≤ rows1.length := nodup_le _ _ no fun i hi => (hm i).mpr (.inr hi)
      have rl : rest.length ≤ rows1.length := nodup_le _ _ nr fun i hi => (hm i).mpr (.inl hi)
      have ene : dNe (iL rest) (.lst []) = some (.bl (!decide (rest = []))) := dNe_iL rest []
      by_cases hr : rest = []
      · refine .inr ⟨[some (pot x3 y3), some (iD m), some (iD mo), some (iD (d + 1)), some (rL rows1), some (iL rest), some (iL order), none, none], ?_, x3, y3, order, by rw [hr], g1, g2, no, h0, fun i => by rw [hm i, hr]; simp⟩
        simp -implicitDefEqProofs only [e_liftT, e_mT, e_bin, e_varS, e_var0, Option.bind_some, e_lst, e_nil, Option.map_some, ene, e_isB]
        simp [hr]
      · have hrl : 0 < rest.length := List.length_pos_iff.mpr hr
        obtain ⟨j, x4, y4, e4, hj, p1, p2⟩ := v_draw cM (x := x3) (m := rest.length) g1 g2 hrl (by omega)
        have hjm : rest[j] ∈ rest := List.getElem_mem hj
        refine .inl ⟨[some (pot x3 y3), some (iD m), some (iD mo), some (iD (d + 1)), some (rL rows1), some (iL rest), some (iL order), none, none], [some (pot x4 y4), some (iD m), some (iD mo), some (iD (d + 1)), some (rL rows1), some (iL (rest.eraseIdx j)), some (iL (order ++ [rest[j]])), none, none], rest.length - 1, ?_, ?_, ⟨x4, y4, rest.eraseIdx j, order ++ [rest[j]], by rw [List.length_eraseIdx, if_pos hj], rfl, p1, p2, nr.sublist (List.eraseIdx_sublist ..), ?_, ?_, fun i => ?_, fun i hi => ?_⟩, by omega⟩
        · simp -implicitDefEqProofs only [e_liftT, e_mT, e_bin, e_varS, e_var0, Option.bind_some, e_lst, e_nil, Option.map_some, ene, e_isB]
          simp [hr]
        · have hlim : order.length < lim := by unfold lim; omega
          have hlim2 : rest.length ≤ lim := by unfold lim; omega
          have hz : (0 : Int) ≤ (j : Int) := Int.natCast_nonneg j
          have hg : rest[j]? = some rest[j] := List.getElem?_eq_getElem hj
          simp -implicitDefEqProofs only [e_drop, e_append, e_popAt, e_callP, e_slS, e_sl0, Option.bind_some, e_liftA, e_cons, e_nil, e_ar, e_varS, e_var0, e_lenL, List.length_map, Option.map_some, e4, List.set, hz, hlim2, and_self, if_true, Int.toNat_natCast, List.getElem?_map, hg, hlim]
          rw [erase_map, iL, iL, List.map_append]
          rfl
        · rw [List.nodup_append]
          refine ⟨no, by simp, fun a ha b hb => ?_⟩
          rw [List.mem_singleton.mp hb]
          exact fun e => hdj _ hjm (e ▸ ha)
        · rw [List.getElem?_append_left (List.getElem?_eq_some_iff.mp h0).1]
          exact h0
        · rw [hm i, mem_erase_iff hj nr, List.mem_append, List.mem_singleton]
          constructor
          · rintro (h | h)
            · by_cases c : i = rest[j]
              · exact .inr (.inr c)
              · exact .inl ⟨h, c⟩
            · exact .inr (.inl h)
          · rintro (h | h | h)
            · exact .inl h.1
            · exact .inr h
            · exact .inl (h ▸ hjm)
        · rw [mem_erase_iff hj nr] at hi
          rw [List.mem_append, List.mem_singleton]
          rintro (h | h)
          · exact hdj i hi.1 h
          · exact hi.2 h)
  have sh : Shut rows1 0 order := ⟨hd0, nd, fun i hi => (hmem i).mpr hi, fun i hi g hg => (hmem g).mp (by
    have hi2 := (hmem i).mpr hi
    rw [getD_of (List.getElem?_eq_getElem hi2)] at hg
    exact ok1.goal _ (List.getElem_mem _) g hg), fun i hi => rc1 i ((hmem i).mpr hi)⟩
  have ol : order.length ≤ rows1.length := nodup_le _ _ nd fun i hi => (hmem i).mpr hi
  have e7 := v_called cM (shut_row ok1 m3 sh) (by omega)
  refine ⟨calledL rows1 order, x3, y3, ?_, called_ok ok1 sh, RAll.of ok1 sh, by rw [called_len]; omega, p1, p2⟩
  have hlim : d + 1 ≤ lim := by unfold lim; omega
  have hrg : okRg 1 (rows1.length : Int) = true := by
    unfold okRg
    rw [decide_eq_true_eq]
    omega
  have hrd : D.lst (rgD 1 ((rows1.length : Int) - 1).toNat) = iL (List.range' 1 (rows1.length - 1)) := by
    unfold rgD iL
    have : ((rows1.length : Int) - 1).toNat = rows1.length - 1 := by omega
    rw [this, List.range'_eq_map_range, List.map_map]
    exact congrArg D.lst <| List.map_congr_left fun i _ => by show D.int (1 + (i : Int)) = D.int ((1 + i : Nat) : Int); rw [Int.natCast_add]; rfl
  simp -implicitDefEqProofs only [m__law_rows, mb__law_rows, VS.fnP, List.length_cons, List.length_nil, Nat.zero_add, Nat.reduceAdd, if_true, List.map_cons, List.map_nil, Nat.reduceSub, List.replicate, List.cons_append, List.nil_append, e_seq, e_set, e_binX, e_lft, e_c, Option.map_some, Option.bind_some, e_callP, e_sl0, e_liftA, e_cons, e_nil, e_varS, e_var0, e1, List.set, e_addI, n1, e_lcX, e_range', rgF_nat (n := d + 1) (by omega), List.length_map, List.length_range, hlim, e_wipeS, e_wipe0, e2, e_unwipeS, e_unwipe0, e_ar, e4, e5, e_par, e_rgList2, e_lenL, e_isI, hrg, hrd, e_lst, e6, e_ret, e7, List.getElem?_cons_succ, List.getElem?_cons_zero, Option.join_some]
/-- a pot that may be drawn from -/
def PY (y : Int) : Prop := 0 ≤ y ∧ y < 4294967296
theorem w_draw {x y m : Int} {Q : D × D → Prop} (hy : PY y) (m1 : 0 < m) (m2 : m < 1000000) (k : ∀ (d : Nat) (x' y' : Int), (d : Int) < m → PY y' → Q (iD d, pot x' y')) : Wp (m__law_draw cM [pot x y, .int m]) Q := by
  obtain ⟨d, x', y', e, hd, p1, p2⟩ := v_draw cM (x := x) (m := m.toNat) hy.1 hy.2 (by omega) (by omega)
  rw [show iD m.toNat = D.int m by rw [iD, Int.toNat_of_nonneg (by omega)]] at e
  exact Wp.of e (k d x' y' (by omega) ⟨p1, p2⟩)
theorem w_pick {x y : Int} {xs : List D} {Q : D × D → Prop} (hy : PY y) (m1 : 0 < xs.length) (m2 : xs.length < 1000000) (k : ∀ (z : D) (x' y' : Int), z ∈ xs → PY y' → Q (z, pot x' y')) : Wp (m__law_pick cM [pot x y, .lst xs]) Q := by
  obtain ⟨z, x', y', e, hz, p1, p2⟩ := v_pick cM (x := x) (xs := xs) hy.1 hy.2 m1 m2
  exact Wp.of e (k z x' y' hz ⟨p1, p2⟩)
theorem w_pickS {x y : Int} {a : Tx} {Q : D × D → Prop} (hy : PY y) (m1 : 0 < a.length) (m2 : a.length < 1000) (k : ∀ (c : Nat) (x' y' : Int), c ∈ a → PY y' → Q (.str [c], pot x' y')) : Wp (m__law_pick cM [pot x y, .str a]) Q := by
  obtain ⟨c, x', y', e, hc, p1, p2⟩ := v_pickS cM (x := x) (a := a) hy.1 hy.2 m1 m2
  exact Wp.of e (k c x' y' hc ⟨p1, p2⟩)
theorem join_one {t : Tx} (h : t.length ≤ 1000000) : dJoin (.lst (t.map fun c => D.str [c])) = some (.str t) := by
  have e : allT (t.map fun c => D.str [c]) = some (t.map fun c => [c]) := by
    induction t with
    | nil => rfl
    | cons c t ih =>
      rw [List.map_cons, allT, ih (by rw [List.length_cons] at h; omega)]
      rfl
  show (allT _).bind _ = _
  rw [e, Option.bind_some, flat_one, if_pos (by omega)]
theorem says_of {m : List D → Option (D × D)} {x y : Int} (h : Wp (m [pot x y]) fun r => r.1 = .bl true ∧ ∃ x' y', r.2 = pot x' y' ∧ PY y') : ∃ x' y' : Int, m [.lst [.int x, .int y]] = some (.bl true, .lst [.int x', .int y']) ∧ 0 ≤ y' ∧ y' < 4294967296 := by
  obtain ⟨⟨d, p⟩, e, h1, x', y', h2, h3⟩ := h
  cases h1
  cases h2
  exact ⟨x', y', e, h3⟩
end
end LW
end
section
set_option maxRecDepth 100000
set_option maxHeartbeats 4000000
/-! plain: the least text to each place; places numbered anew -/
namespace VS
open PySem L2 RX Evl
/-- the number of a text: by length, then by letters -/
def num (t : Tx) : Nat := t.foldl (fun n c => n * 1000 + (c + 1)) 0
theorem num_snoc (t : Tx) (c : Nat) : num (t ++ [c]) = num t * 1000 + (c + 1) := by
  unfold num; rw [List.foldl_append]; rfl
theorem num_pos (t : Tx) (c : Nat) : 0 < num (t ++ [c]) := by rw [num_snoc]; omega
theorem snoc_ind {P : Tx → Prop} (h0 : P []) (h1 : ∀ t c, P t → P (t ++ [c])) (t : Tx) : P t := by
  have : ∀ r : Tx, P r.reverse := fun r => by
    induction r with
    | nil => exact h0
    | cons c r ih => rw [List.reverse_cons]; exact h1 _ _ ih
  have h := this t.reverse
  rwa [List.reverse_reverse] at h
theorem num_inj : ∀ (t u : Tx), (∀ c ∈ t, c < 999) → (∀ c ∈ u, c < 999) → num t = num u → t = u := by
  intro t
  induction t using snoc_ind with
  | h0 =>
    intro u _ _ h
    induction u using snoc_ind with
    | h0 => rfl
    | h1 u c _ => have := num_pos u c; rw [← h] at this; exact absurd this (Nat.lt_irrefl 0)
  | h1 t c ih =>
    intro u ht hu h
    induction u using snoc_ind with
    | h0 => have := num_pos t c; rw [h] at this; exact absurd this (Nat.lt_irrefl 0)
    | h1 u d _ =>
      rw [num_snoc, num_snoc] at h
      have hc := ht c (by simp)
      have hd := hu d (by simp)
      have e1 : c = d := by omega
      have e2 : num t = num u := by omega
      rw [ih u (fun x hx => ht x (by simp [hx])) (fun x hx => hu x (by simp [hx])) e2, e1]
theorem num_lt {t u : Tx} {c d : Nat} (h : num t < num u) (hc : c < 999) : num (t ++ [c]) < num (u ++ [d]) := by
  rw [num_snoc, num_snoc]; omega
theorem num_le {t u : Tx} (h : num t ≤ num u) (c : Nat) : num (t ++ [c]) ≤ num (u ++ [c]) := by
  rw [num_snoc, num_snoc]; omega
abbrev TP := List (Tx × Nat)
/-- one more, if its place is new -/
def add1 (L : TP) (x : Tx × Nat) : TP := if x.2 ∈ L.map Prod.snd then L else L ++ [x]
/-- what the letters tell behind a text -/
def kids (a : Tx) (rows : List (List Nat)) (x : Tx × Nat) : TP := a.map fun c => (x.1 ++ [c], goalOf a rows x.2 c)
def expd (a : Tx) (rows : List (List Nat)) (L : TP) (x : Tx × Nat) : TP := (kids a rows x).foldl add1 L
def bfs (a : Tx) (rows : List (List Nat)) : Nat → TP
  | 0 => [([], 0)]
  | k + 1 => match (bfs a rows k)[k]? with
    | some x => expd a rows (bfs a rows k) x
    | none => bfs a rows k
theorem add1_app (L : TP) (x : Tx × Nat) : ∃ r, add1 L x = L ++ r := by
  unfold add1; split
  · exact ⟨[], by simp⟩
  · exact ⟨[x], rfl⟩
theorem foldA_app (xs : TP) : ∀ (L : TP), ∃ r, xs.foldl add1 L = L ++ r := by
  induction xs with
  | nil => exact fun L => ⟨[], by simp⟩
  | cons x xs ih =>
    intro L
    obtain ⟨r1, h1⟩ := add1_app L x
    obtain ⟨r2, h2⟩ := ih (add1 L x)
    exact ⟨r1 ++ r2, by rw [List.foldl_cons, h2, h1, List.append_assoc]⟩
theorem foldA_len (xs : TP) : ∀ (L : TP), (xs.foldl add1 L).length ≤ L.length + xs.length := by
  induction xs with
  | nil => exact fun L => Nat.le_refl _
  | cons x xs ih =>
    intro L
    have h := ih (add1 L x)
    have h2 : (add1 L x).length ≤ L.length + 1 := by unfold add1; split <;> simp
    rw [List.foldl_cons, List.length_cons]
    omega
theorem bfs_app (a : Tx) (rows : List (List Nat)) (k : Nat) : ∃ r, bfs a rows (k + 1) = bfs a rows k ++ r := by
  rw [bfs]
  split
  · exact foldA_app _ _
  · exact ⟨[], by simp⟩
theorem bfs_app' (a : Tx) (rows : List (List Nat)) (k j : Nat) : ∃ r, bfs a rows (k + j) = bfs a rows k ++ r := by
  induction j with
  | zero => exact ⟨[], by simp⟩
  | succ j ih =>
    obtain ⟨r, h⟩ := ih
    obtain ⟨s, hs⟩ := bfs_app a rows (k + j)
    exact ⟨r ++ s, by rw [← Nat.add_assoc, hs, h, List.append_assoc]⟩
theorem bfs_get {a : Tx} {rows : List (List Nat)} {k j i : Nat} (h : i < (bfs a rows k).length) : (bfs a rows (k + j))[i]? = (bfs a rows k)[i]? := by
  obtain ⟨r, e⟩ := bfs_app' a rows k j
  rw [e, List.getElem?_append_left h]
/-- what is known of the texts that were found, the first k gone on with -/
structure BI (a : Tx) (rows : List (List Nat)) (k : Nat) (L : TP) : Prop where
  hd : L[0]? = some ([], 0)
  nd : (L.map Prod.snd).Nodup
  lt : ∀ x ∈ L, x.2 < rows.length
  ov : ∀ x ∈ L, (∀ c ∈ x.1, c ∈ a) ∧ endL a rows 0 x.1 = x.2
  up : L.Pairwise fun x y => num x.1 < num y.1
  cl : ∀ (i : Nat) (x : Tx × Nat), i < k → L[i]? = some x → ∀ c ∈ a, ∃ y ∈ L, y.2 = goalOf a rows x.2 c ∧ num y.1 ≤ num (x.1 ++ [c])
  fr : ∀ y ∈ L, y.1 = [] ∨ ∃ i x c, i < k ∧ L[i]? = some x ∧ c ∈ a ∧ y.1 = x.1 ++ [c]
  ln : ∀ (i : Nat) (x : Tx × Nat), L[i]? = some x → x.1.length ≤ i
theorem end_snoc (a : Tx) (rows : List (List Nat)) (p : Nat) (t : Tx) (c : Nat) : endL a rows p (t ++ [c]) = goalOf a rows (endL a rows p t) c := by
  unfold endL; rw [List.foldl_append]; rfl
theorem up_lt {L : TP} (h : L.Pairwise fun x y => num x.1 < num y.1) {i j : Nat} {x y : Tx × Nat} (hi : L[i]? = some x) (hj : L[j]? = some y) (hij : i < j) : num x.1 < num y.1 := by
  obtain ⟨h1, e1⟩ := List.getElem?_eq_some_iff.mp hi
  obtain ⟨h2, e2⟩ := List.getElem?_eq_some_iff.mp hj
  have := List.pairwise_iff_getElem.mp h i j h1 h2 hij
  rw [e1, e2] at this
  exact this
/-- within the going on with x = L[k] -/
structure BJ (a : Tx) (rows : List (List Nat)) (k : Nat) (x : Tx × Nat) (pre : List Nat) (L : TP) : Prop where
  hd : L[0]? = some ([], 0)
  at_ : L[k]? = some x
  nd : (L.map Prod.snd).Nodup
  lt : ∀ x ∈ L, x.2 < rows.length
  ov : ∀ x ∈ L, (∀ c ∈ x.1, c ∈ a) ∧ endL a rows 0 x.1 = x.2
  up : L.Pairwise fun x y => num x.1 < num y.1
  cl : ∀ (i : Nat) (x : Tx × Nat), i < k → L[i]? = some x → ∀ c ∈ a, ∃ y ∈ L, y.2 = goalOf a rows x.2 c ∧ num y.1 ≤ num (x.1 ++ [c])
  cx : ∀ c ∈ pre, ∃ y ∈ L, y.2 = goalOf a rows x.2 c ∧ num y.1 ≤ num (x.1 ++ [c])
  fr : ∀ y ∈ L, y.1 = [] ∨ (∃ i x c, i < k ∧ L[i]? = some x ∧ c ∈ a ∧ y.1 = x.1 ++ [c]) ∨ ∃ c ∈ pre, y.1 = x.1 ++ [c]
  ln : ∀ (i : Nat) (x : Tx × Nat), L[i]? = some x → x.1.length ≤ i
theorem bj_step {a : Tx} {rows : List (List Nat)} {k : Nat} {x : Tx × Nat} {pre : List Nat} {L : TP} {c : Nat} (la : LOk a) (ok : ROk a.length rows) (h : BJ a rows k x pre L) (hc : c ∈ a) (hp : ∀ d ∈ pre, d < c) (hpa : ∀ d ∈ pre, d ∈ a) :
    BJ a rows k x (pre ++ [c]) (add1 L (x.1 ++ [c], goalOf a rows x.2 c)) := by
  have hk := (List.getElem?_eq_some_iff.mp h.at_).1
  have hxm : x ∈ L := List.mem_of_getElem? h.at_
  have ltc : ∀ d ∈ a, d < 999 := fun d hd => by have := la.lets d hd; omega
  -- all that were found are less
  have less : ∀ y ∈ L, num y.1 < num (x.1 ++ [c]) := fun y hy => by
    rcases h.fr y hy with e | ⟨i, z, d, hi, hz, hd, e⟩ | ⟨d, hd, e⟩
    · rw [e]; exact num_pos _ _
    · rw [e]; exact num_lt (up_lt h.up hz h.at_ hi) (ltc d hd)
    · rw [e, num_snoc, num_snoc]; have := hp d hd; omega
  unfold add1
  split
  · rename_i hm
    obtain ⟨y, hy, hy2⟩ := List.mem_map.mp hm
    refine ⟨h.hd, h.at_, h.nd, h.lt, h.ov, h.up, h.cl, fun d hd => ?_, fun z hz => ?_, h.ln⟩
    · rcases List.mem_append.mp hd with q | q
      · exact h.cx d q
      · rw [List.mem_singleton.mp q]
        exact ⟨y, hy, hy2, Nat.le_of_lt (less y hy)⟩
    · rcases h.fr z hz with q | q | ⟨d, hd, q⟩
      · exact .inl q
      · exact .inr (.inl q)
      · exact .inr (.inr ⟨d, by simp [hd], q⟩)
  · rename_i hm
    have g1 : ∀ i z, L[i]? = some z → (L ++ [(x.1 ++ [c], goalOf a rows x.2 c)])[i]? = some z := fun i z hz => by
      rw [List.getElem?_append_left (List.getElem?_eq_some_iff.mp hz).1]; exact hz
    obtain ⟨_, _, _, hgl⟩ := goal_lt ok (h.lt x hxm) hc
    refine ⟨g1 _ _ h.hd, g1 _ _ h.at_, ?_, fun y hy => ?_, fun y hy => ?_, ?_, fun i z hi hz d hd => ?_, fun d hd => ?_, fun y hy => ?_, fun i z hz => ?_⟩
    · rw [List.map_append, List.nodup_append]
      refine ⟨h.nd, by simp, fun p hp q hq => ?_⟩
      rw [List.map_cons, List.map_nil, List.mem_singleton] at hq
      subst hq
      exact fun e => hm (e ▸ hp)
    · rcases List.mem_append.mp hy with q | q
      · exact h.lt y q
      · rw [List.mem_singleton.mp q]; exact hgl
    · rcases List.mem_append.mp hy with q | q
      · exact h.ov y q
      · rw [List.mem_singleton.mp q]
        obtain ⟨o1, o2⟩ := h.ov x hxm
        refine ⟨fun d hd => ?_, ?_⟩
        · rcases List.mem_append.mp hd with q | q
          · exact o1 d q
          · rw [List.mem_singleton.mp q]; exact hc
        · show endL a rows 0 (x.1 ++ [c]) = goalOf a rows x.2 c
          rw [end_snoc, o2]
    · rw [List.pairwise_append]
      refine ⟨h.up, by simp, fun y hy z hz => ?_⟩
      rw [List.mem_singleton.mp hz]
      exact less y hy
    · have hz' : L[i]? = some z := by
        rw [List.getElem?_append_left (by omega)] at hz; exact hz
      obtain ⟨y, hy, q⟩ := h.cl i z hi hz' d hd
      exact ⟨y, by simp [hy], q⟩
    · rcases List.mem_append.mp hd with q | q
      · obtain ⟨y, hy, q⟩ := h.cx d q
        exact ⟨y, by simp [hy], q⟩
      · rw [List.mem_singleton.mp q]
        exact ⟨(x.1 ++ [c], goalOf a rows x.2 c), by simp, rfl, Nat.le_refl _⟩
    · rcases List.mem_append.mp hy with q | q
      · rcases h.fr y q with q | ⟨i, z, d, hi, hz, q⟩ | ⟨d, hd, q⟩
        · exact .inl q
        · exact .inr (.inl ⟨i, z, d, hi, g1 _ _ hz, q⟩)
        · exact .inr (.inr ⟨d, by simp [hd], q⟩)
      · rw [List.mem_singleton.mp q]
        exact .inr (.inr ⟨c, by simp, rfl⟩)
    · by_cases hi : i < L.length
      · rw [List.getElem?_append_left hi] at hz
        exact h.ln i z hz
      · have hi2 := (List.getElem?_eq_some_iff.mp hz).1
        rw [List.length_append, List.length_singleton] at hi2
        have e : i = L.length := by omega
        rw [e, List.getElem?_append_right (Nat.le_refl _), Nat.sub_self] at hz
        cases hz
        have := h.ln k x h.at_
        rw [List.length_append, List.length_singleton]
        omega
theorem bj_all {a : Tx} {rows : List (List Nat)} {k : Nat} {x : Tx × Nat} (la : LOk a) (ok : ROk a.length rows) : ∀ (post pre : List Nat) (L : TP), pre ++ post = a → BJ a rows k x pre L →
    BJ a rows k x a ((post.map fun c => (x.1 ++ [c], goalOf a rows x.2 c)).foldl add1 L)
  | [], pre, L, e, h => by rw [List.append_nil] at e; subst e; exact h
  | c :: post, pre, L, e, h => by
    have up := la.up
    rw [← e, List.pairwise_append] at up
    have h2 := bj_step la ok h (c := c) (by rw [← e]; simp) (fun d hd => up.2.2 d hd c (by simp)) (fun d hd => by rw [← e]; simp [hd])
    exact bj_all la ok post (pre ++ [c]) _ (by rw [← e, List.append_assoc]; rfl) h2
theorem bfs_inv {a : Tx} {rows : List (List Nat)} (la : LOk a) (ok : ROk a.length rows) : ∀ k, BI a rows k (bfs a rows k)
  | 0 => by
    refine ⟨rfl, by simp [bfs], fun x hx => ?_, fun x hx => ?_, by simp [bfs], fun i x hi => absurd hi (Nat.not_lt_zero _), fun y hy => ?_, fun i x hx => ?_⟩
    · have : x = ([], 0) := by simpa [bfs] using hx
      rw [this]; exact ok.pos
    · have : x = ([], 0) := by simpa [bfs] using hx
      rw [this]; exact ⟨fun c hc => (nomatch hc), rfl⟩
    · have : y = ([], 0) := by simpa [bfs] using hy
      exact .inl (by rw [this])
    · have h1 := List.mem_of_getElem? hx
      have : x = ([], 0) := by simpa [bfs] using h1
      rw [this]; exact Nat.zero_le _
  | k + 1 => by
    have h := bfs_inv la ok k
    rw [bfs]
    split
    · rename_i x hx
      have j : BJ a rows k x [] (bfs a rows k) := ⟨h.hd, hx, h.nd, h.lt, h.ov, h.up, h.cl, fun c hc => (nomatch hc), fun y hy => (h.fr y hy).elim .inl fun q => .inr (.inl q), h.ln⟩
      have j2 := bj_all la ok a [] _ rfl j
      refine ⟨j2.hd, j2.nd, j2.lt, j2.ov, j2.up, fun i z hi hz c hc => ?_, fun y hy => ?_, j2.ln⟩
      · by_cases e : i = k
        · subst e
          have := j2.at_
          unfold expd kids at hz
          rw [this] at hz
          cases hz
          exact j2.cx c hc
        · exact j2.cl i z (by omega) hz c hc
      · rcases j2.fr y hy with q | ⟨i, z, c, hi, hz, q⟩ | ⟨c, hc, q⟩
        · exact .inl q
        · exact .inr ⟨i, z, c, by omega, hz, q⟩
        · exact .inr ⟨k, x, c, by omega, j2.at_, hc, q⟩
    · rename_i hx
      have hl := List.getElem?_eq_none_iff.mp hx
      refine ⟨h.hd, h.nd, h.lt, h.ov, h.up, fun i z hi hz c hc => ?_, fun y hy => ?_, h.ln⟩
      · exact h.cl i z (by have := (List.getElem?_eq_some_iff.mp hz).1; omega) hz c hc
      · rcases h.fr y hy with q | ⟨i, z, c, hi, q⟩
        · exact .inl q
        · exact .inr ⟨i, z, c, by omega, q⟩
theorem bfs_len {a : Tx} {rows : List (List Nat)} (la : LOk a) (ok : ROk a.length rows) (k : Nat) : (bfs a rows k).length ≤ rows.length := by
  have h := bfs_inv la ok k
  have := nodup_le rows.length _ h.nd (fun p hp => by obtain ⟨x, hx, rfl⟩ := List.mem_map.mp hp; exact h.lt x hx)
  rwa [List.length_map] at this
/-- all of them -/
def bfsA (a : Tx) (rows : List (List Nat)) : TP := bfs a rows rows.length
theorem bfs_stop {a : Tx} {rows : List (List Nat)} {k : Nat} (h : (bfs a rows k).length ≤ k) : ∀ j, bfs a rows (k + j) = bfs a rows k
  | 0 => rfl
  | j + 1 => by
    rw [← Nat.add_assoc, bfs, bfs_stop h j, List.getElem?_eq_none (by omega)]
theorem bfs_whole {a : Tx} {rows : List (List Nat)} (la : LOk a) (ok : ROk a.length rows) {k : Nat} (h : (bfs a rows k).length ≤ k) : bfs a rows k = bfsA a rows := by
  unfold bfsA
  by_cases hk : k ≤ rows.length
  · obtain ⟨j, e⟩ := Nat.exists_eq_add_of_le hk
    rw [e, bfs_stop h j]
  · obtain ⟨j, rfl⟩ := Nat.exists_eq_add_of_le (Nat.le_of_lt (Nat.lt_of_not_le hk))
    exact bfs_stop (bfs_len la ok _) j
theorem bfs_at {a : Tx} {rows : List (List Nat)} (la : LOk a) (ok : ROk a.length rows) {i : Nat} {x : Tx × Nat} (h : (bfsA a rows)[i]? = some x) : ∀ k, k ≤ i → k < (bfs a rows k).length ∧ (bfs a rows k)[k]? = (bfsA a rows)[k]? := fun k hk => by
  have hl := (List.getElem?_eq_some_iff.mp h).1
  have h1 : k < (bfs a rows k).length := by
    by_cases q : (bfs a rows k).length ≤ k
    · rw [← bfs_whole la ok q] at hl; omega
    · omega
  refine ⟨h1, ?_⟩
  have h2 := bfs_len la ok rows.length
  unfold bfsA at hl ⊢
  obtain ⟨j, hj⟩ := Nat.exists_eq_add_of_le (show k ≤ rows.length by omega)
  rw [hj, bfs_get h1]
/-- each text has one of them that leads where it does and is no greater -/
theorem bfs_least {a : Tx} {rows : List (List Nat)} (la : LOk a) (ok : ROk a.length rows) (u : Tx) : (∀ c ∈ u, c ∈ a) → ∃ x ∈ bfsA a rows, x.2 = endL a rows 0 u ∧ num x.1 ≤ num u := by
  have h := bfs_inv la ok rows.length
  induction u using snoc_ind with
  | h0 => exact fun _ => ⟨_, List.mem_of_getElem? h.hd, rfl, Nat.le_refl _⟩
  | h1 u c ih =>
    intro hu
    obtain ⟨x, hx, e1, e2⟩ := ih fun d hd => hu d (by simp [hd])
    obtain ⟨i, hi, hix⟩ := List.mem_iff_getElem.mp hx
    have hl := bfs_len la ok rows.length
    obtain ⟨y, hy, e3, e4⟩ := h.cl i x (by unfold bfsA at hi; omega) (by rw [← hix]; exact List.getElem?_eq_getElem hi) c (hu c (by simp))
    exact ⟨y, hy, by rw [e3, end_snoc, e1], Nat.le_trans e4 (num_le e2 c)⟩
theorem bfs_one {a : Tx} {rows : List (List Nat)} (la : LOk a) (ok : ROk a.length rows) {x y : Tx × Nat} (hx : x ∈ bfsA a rows) (hy : y ∈ bfsA a rows) (e : x.2 = y.2) : x = y := by
  have h := bfs_inv la ok rows.length
  obtain ⟨i, hi, rfl⟩ := List.mem_iff_getElem.mp hx
  obtain ⟨j, hj, rfl⟩ := List.mem_iff_getElem.mp hy
  have : i = j := (List.getElem_inj (h₀ := by rw [List.length_map]; exact hi) (h₁ := by rw [List.length_map]; exact hj) h.nd).mp (by rw [List.getElem_map, List.getElem_map]; exact e)
  subst this
  rfl
/-- the least text to a place -/
structure Least (a : Tx) (rows : List (List Nat)) (p : Nat) (t : Tx) : Prop where
  ov : ∀ c ∈ t, c ∈ a
  at_ : endL a rows 0 t = p
  le : ∀ u : Tx, (∀ c ∈ u, c ∈ a) → endL a rows 0 u = p → num t ≤ num u
  ln : t.length ≤ rows.length
theorem least_of {a : Tx} {rows : List (List Nat)} (la : LOk a) (ok : ROk a.length rows) {x : Tx × Nat} (hx : x ∈ bfsA a rows) : Least a rows x.2 x.1 := by
  have h := bfs_inv la ok rows.length
  refine ⟨(h.ov x hx).1, (h.ov x hx).2, fun u hu e => ?_, ?_⟩
  · obtain ⟨y, hy, e1, e2⟩ := bfs_least la ok u hu
    rw [bfs_one la ok hx hy (by rw [e1, e])]
    exact e2
  · obtain ⟨i, hi, hix⟩ := List.mem_iff_getElem.mp hx
    have h1 := h.ln i x (by rw [← hix]; exact List.getElem?_eq_getElem hi)
    have := bfs_len la ok rows.length
    unfold bfsA at hi
    omega
theorem reach_text {a : Tx} {rows : List (List Nat)} (la : LOk a) (ok : ROk a.length rows) {p : Nat} (r : Reach rows 0 p) : p < rows.length ∧ ∃ u : Tx, (∀ c ∈ u, c ∈ a) ∧ endL a rows 0 u = p := by
  induction r with
  | here => exact ⟨ok.pos, [], fun c hc => (nomatch hc), rfl⟩
  | @step p g _ hg ih =>
    obtain ⟨hp, u, h1, h2⟩ := ih
    have hrow : rows.getD p [] ∈ rows := by
      rw [List.getD_eq_getElem?_getD, List.getElem?_eq_getElem hp]
      exact List.getElem_mem _
    refine ⟨ok.goal _ hrow _ hg, ?_⟩
    obtain ⟨j, hj, e⟩ := List.mem_iff_getElem.mp hg
    have hja : j < a.length := by rw [ok.len _ hrow] at hj; exact hj
    refine ⟨u ++ [a[j]], fun c hc => ?_, ?_⟩
    · rcases List.mem_append.mp hc with q | q
      · exact h1 c q
      · rw [List.mem_singleton.mp q]; exact List.getElem_mem _
    · rw [end_snoc, h2]
      unfold goalOf
      have ep : posOf a a[j] = j := by
        obtain ⟨q1, q2⟩ := pos_at a[j] a (List.getElem_mem _)
        have nd : a.Nodup := la.up.imp fun {x y} h => by omega
        exact (List.getElem?_inj (List.getElem?_eq_some_iff.mp q1).1 nd).mp (by rw [q1, List.getElem?_eq_getElem hja])
      rw [ep, List.getD_eq_getElem?_getD, List.getElem?_eq_getElem hj]
      exact e
theorem bfs_place {a : Tx} {rows : List (List Nat)} (la : LOk a) (ok : ROk a.length rows) {p : Nat} (r : Reach rows 0 p) : ∃ (i : Nat) (t : Tx), (bfsA a rows)[i]? = some (t, p) := by
  obtain ⟨_, u, h1, h2⟩ := reach_text la ok r
  obtain ⟨x, hx, e1, _⟩ := bfs_least la ok u h1
  obtain ⟨i, hi, hix⟩ := List.mem_iff_getElem.mp hx
  refine ⟨i, x.1, ?_⟩
  rw [List.getElem?_eq_getElem hi, hix, ← h2, ← e1]
end VS
end
section
set_option maxRecDepth 100000
set_option maxHeartbeats 4000000
/-! plain: all texts by length, then by letters; level by level; places numbered anew; long rows -/
namespace VS
open PySem L2 RX Evl
def lngr (a : Tx) (E : List Tx) : List Tx := E.flatMap fun t => a.map fun c => t ++ [c]
def lvl (a : Tx) : Nat → List Tx
  | 0 => [[]]
  | n + 1 => lngr a (lvl a n)
def upTo (a : Tx) : Nat → List Tx
  | 0 => [[]]
  | n + 1 => upTo a n ++ lvl a (n + 1)
theorem lvl_over {a : Tx} : ∀ {n : Nat} {t : Tx}, t ∈ lvl a n → (∀ c ∈ t, c ∈ a) ∧ t.length = n
  | 0, t, h => by
    rw [show t = [] by simpa [lvl] using h]
    exact ⟨fun c hc => (nomatch hc), rfl⟩
  | n + 1, t, h => by
    obtain ⟨u, hu, h⟩ := List.mem_flatMap.mp h
    obtain ⟨c, hc, rfl⟩ := List.mem_map.mp h
    obtain ⟨h1, h2⟩ := lvl_over hu
    refine ⟨fun d hd => ?_, by rw [List.length_append, h2]; rfl⟩
    rcases List.mem_append.mp hd with q | q
    · exact h1 d q
    · rw [List.mem_singleton.mp q]; exact hc
theorem lvl_all {a : Tx} : ∀ (t : Tx), (∀ c ∈ t, c ∈ a) → t ∈ lvl a t.length := by
  intro t
  induction t using snoc_ind with
  | h0 => intro _; simp [lvl]
  | h1 t c ih =>
    intro h
    rw [List.length_append, List.length_singleton]
    exact List.mem_flatMap.mpr ⟨t, ih fun d hd => h d (by simp [hd]), List.mem_map.mpr ⟨c, h c (by simp), rfl⟩⟩
theorem lngr_up {a : Tx} (la : LOk a) : ∀ {E : List Tx}, E.Pairwise (fun t u => num t < num u) → (lngr a E).Pairwise fun t u => num t < num u
  | [], _ => .nil
  | t :: E, h => by
    obtain ⟨h1, h2⟩ := List.pairwise_cons.mp h
    show (a.map (fun c => t ++ [c]) ++ lngr a E).Pairwise _
    rw [List.pairwise_append]
    refine ⟨?_, lngr_up la h2, fun x hx y hy => ?_⟩
    · rw [List.pairwise_map]
      exact la.up.imp fun {c d} h => by rw [num_snoc, num_snoc]; omega
    · obtain ⟨c, hc, rfl⟩ := List.mem_map.mp hx
      obtain ⟨u, hu, hy⟩ := List.mem_flatMap.mp hy
      obtain ⟨d, hd, rfl⟩ := List.mem_map.mp hy
      exact num_lt (h1 u hu) (by have := la.lets c hc; omega)
theorem lvl_up {a : Tx} (la : LOk a) : ∀ n, (lvl a n).Pairwise fun t u => num t < num u
  | 0 => by simp [lvl]
  | n + 1 => lngr_up la (lvl_up la n)
theorem lvl_less {a : Tx} (la : LOk a) : ∀ n, ∀ t ∈ lvl a n, ∀ u ∈ lvl a (n + 1), num t < num u
  | 0, t, ht, u, hu => by
    rw [show t = [] by simpa [lvl] using ht]
    obtain ⟨v, hv, h⟩ := List.mem_flatMap.mp hu
    obtain ⟨c, hc, rfl⟩ := List.mem_map.mp h
    exact num_pos _ _
  | n + 1, t, ht, u, hu => by
    obtain ⟨v, hv, h⟩ := List.mem_flatMap.mp ht
    obtain ⟨c, hc, rfl⟩ := List.mem_map.mp h
    obtain ⟨w, hw, h⟩ := List.mem_flatMap.mp hu
    obtain ⟨d, hd, rfl⟩ := List.mem_map.mp h
    exact num_lt (lvl_less la n v hv w hw) (by have := la.lets c hc; omega)
theorem upTo_last {a : Tx} (la : LOk a) : ∀ n, ∀ t ∈ upTo a n, ∀ u ∈ lvl a (n + 1), num t < num u
  | 0, t, ht, u, hu => lvl_less la 0 t ht u hu
  | n + 1, t, ht, u, hu => by
    rcases List.mem_append.mp ht with q | q
    · obtain ⟨v, hv, h⟩ := List.mem_flatMap.mp hu
      obtain ⟨c, hc, rfl⟩ := List.mem_map.mp h
      have := upTo_last la n t q v hv
      rw [num_snoc]; omega
    · exact lvl_less la (n + 1) t q u hu
theorem upTo_up {a : Tx} (la : LOk a) : ∀ n, (upTo a n).Pairwise fun t u => num t < num u
  | 0 => by simp [upTo]
  | n + 1 => by
    rw [upTo, List.pairwise_append]
    exact ⟨upTo_up la n, lvl_up la (n + 1), upTo_last la n⟩
theorem upTo_over {a : Tx} : ∀ {n : Nat} {t : Tx}, t ∈ upTo a n → (∀ c ∈ t, c ∈ a) ∧ t.length ≤ n
  | 0, t, h => by
    rw [show t = [] by simpa [upTo] using h]
    exact ⟨fun c hc => (nomatch hc), Nat.le_refl _⟩
  | n + 1, t, h => by
    rcases List.mem_append.mp h with q | q
    · obtain ⟨h1, h2⟩ := upTo_over q
      exact ⟨h1, by omega⟩
    · obtain ⟨h1, h2⟩ := lvl_over q
      exact ⟨h1, by omega⟩
theorem upTo_lvl {a : Tx} {k : Nat} {t : Tx} (h : t ∈ lvl a k) : ∀ {n : Nat}, k ≤ n → t ∈ upTo a n
  | 0, hk => by
    obtain rfl : k = 0 := by omega
    exact h
  | n + 1, hk => by
    rw [upTo, List.mem_append]
    by_cases e : k = n + 1
    · subst e; exact .inr h
    · exact .inl (upTo_lvl h (by omega))
theorem lngr_len (a : Tx) : ∀ E : List Tx, (lngr a E).length = E.length * a.length
  | [] => by simp [lngr]
  | t :: E => by
    show (a.map (fun c => t ++ [c]) ++ lngr a E).length = _
    rw [List.length_append, List.length_map, lngr_len a E, List.length_cons, Nat.succ_mul, Nat.add_comm]
theorem lvl_len {a : Tx} (h : a.length ≤ 3) : ∀ n, (lvl a n).length ≤ 3 ^ n
  | 0 => by simp [lvl]
  | n + 1 => by
    rw [lvl, lngr_len, Nat.pow_succ]
    exact Nat.mul_le_mul (lvl_len h n) h
theorem upTo_len {a : Tx} (h : a.length ≤ 3) : ∀ n, n ≤ 4 → (upTo a n).length ≤ 121 := by
  have l1 := lvl_len h 1
  have l2 := lvl_len h 2
  have l3 := lvl_len h 3
  have l4 := lvl_len h 4
  intro n hn
  have : n = 0 ∨ n = 1 ∨ n = 2 ∨ n = 3 ∨ n = 4 := by omega
  rcases this with rfl | rfl | rfl | rfl | rfl <;> simp only [upTo, List.length_append, List.length_cons, List.length_nil, Nat.zero_add, Nat.reduceAdd] <;> omega
/-- the first of all texts that leads to a place is the least one -/
theorem first_least {a : Tx} {rows : List (List Nat)} (la : LOk a) {p n : Nat} {t : Tx} (h : Least a rows p t) (hp : p ∈ (upTo a n).map (endL a rows 0)) : (upTo a n)[posOf ((upTo a n).map (endL a rows 0)) p]? = some t := by
  obtain ⟨h1, h2⟩ := pos_at p _ hp
  rw [List.getElem?_map] at h1
  obtain ⟨u, hu, e⟩ := Option.map_eq_some_iff.mp h1
  have hum := List.mem_of_getElem? hu
  obtain ⟨o1, o2⟩ := upTo_over hum
  have le := h.le u o1 e
  -- t is among them
  have ht : t ∈ upTo a n := by
    by_cases q : t.length ≤ n
    · exact upTo_lvl (lvl_all t h.ov) q
    · have k1 := upTo_last la n u hum
      -- the first n + 1 letters of t
      have : ∀ m, n + 1 ≤ m → ∀ v : Tx, v ∈ lvl a m → num u < num v := fun m hm => by
        induction m with
        | zero => omega
        | succ m ih =>
          intro v hv
          by_cases e : m + 1 = n + 1
          · cases e; exact k1 v hv
          · obtain ⟨w, hw, h⟩ := List.mem_flatMap.mp hv
            obtain ⟨c, hc, rfl⟩ := List.mem_map.mp h
            have := ih (by omega) w hw
            rw [num_snoc]; omega
      have := this t.length (by omega) t (lvl_all t h.ov)
      omega
  obtain ⟨i, hi, e2⟩ := List.mem_iff_getElem.mp ht
  have hi' : (upTo a n)[i]? = some t := by rw [List.getElem?_eq_getElem hi, e2]
  have hij : ¬ i < posOf ((upTo a n).map (endL a rows 0)) p := fun q => h2 i q (by rw [List.getElem?_map, hi', Option.map_some, h.at_])
  have ltc : ∀ (v : Tx), (∀ c ∈ v, c ∈ a) → ∀ c ∈ v, c < 999 := fun v hv c hc => by have := la.lets c (hv c hc); omega
  by_cases q : posOf ((upTo a n).map (endL a rows 0)) p = i
  · rw [q]; exact hi'
  · have hul := (List.getElem?_eq_some_iff.mp hu)
    have := List.pairwise_iff_getElem.mp (upTo_up la n) _ i hul.1 hi (by omega)
    rw [hul.2, e2] at this
    omega
/-! level by level -/
theorem bfs_fold {a : Tx} {rows : List (List Nat)} : ∀ (S : TP) (k : Nat) (L : TP), L = bfs a rows k → (∀ j x, S[j]? = some x → L[k + j]? = some x) → S.foldl (expd a rows) L = bfs a rows (k + S.length)
  | [], k, L, e, _ => e
  | x :: S, k, L, e, h => by
    have h0 := h 0 x rfl
    have e1 : expd a rows L x = bfs a rows (k + 1) := by
      rw [bfs, ← e]
      rw [Nat.add_zero] at h0
      rw [h0]
    rw [List.foldl_cons, List.length_cons, bfs_fold S (k + 1) _ e1 fun j y hy => ?_]
    · rw [show k + 1 + S.length = k + (S.length + 1) by omega]
    · have := h (j + 1) y (by rw [List.getElem?_cons_succ]; exact hy)
      rw [e1, show k + 1 + j = k + (j + 1) by omega, bfs_get (j := 1) (by rw [← e]; exact (List.getElem?_eq_some_iff.mp this).1), ← e]
      exact this
theorem fold_kids (a : Tx) (rows : List (List Nat)) : ∀ (S L : TP), (S.flatMap (kids a rows)).foldl add1 L = S.foldl (expd a rows) L
  | [], L => rfl
  | x :: S, L => by
    rw [List.flatMap_cons, List.foldl_append, List.foldl_cons, fold_kids a rows S]
    rfl
/-- the longer texts with their places -/
theorem kids_pairs {a : Tx} {rows : List (List Nat)} : ∀ (S : TP), (∀ x ∈ S, endL a rows 0 x.1 = x.2) → (lngr a (S.map Prod.fst)).map (fun t => (t, endL a rows 0 t)) = S.flatMap (kids a rows)
  | [], _ => rfl
  | x :: S, h => by
    rw [List.map_cons, List.flatMap_cons]
    show (a.map (fun c => x.1 ++ [c]) ++ lngr a (S.map Prod.fst)).map _ = _
    rw [List.map_append, kids_pairs S fun y hy => h y (List.mem_cons_of_mem _ hy), List.map_map]
    congr 1
    unfold kids
    refine List.map_congr_left fun c hc => ?_
    show (x.1 ++ [c], endL a rows 0 (x.1 ++ [c])) = _
    rw [end_snoc, h x List.mem_cons_self]
/-- where the level begins -/
def lv0 (a : Tx) (rows : List (List Nat)) : Nat → Nat
  | 0 => 0
  | j + 1 => (bfs a rows (lv0 a rows j)).length
def segm (a : Tx) (rows : List (List Nat)) (j : Nat) : TP := (bfs a rows (lv0 a rows j)).drop (lv0 a rows j)
theorem lv0_le (a : Tx) (rows : List (List Nat)) : ∀ j, lv0 a rows j ≤ (bfs a rows (lv0 a rows j)).length
  | 0 => Nat.zero_le _
  | j + 1 => by
    have h := lv0_le a rows j
    obtain ⟨k, hk⟩ := Nat.exists_eq_add_of_le h
    obtain ⟨r, hr⟩ := bfs_app' a rows (lv0 a rows j) k
    show (bfs a rows (lv0 a rows j)).length ≤ (bfs a rows (bfs a rows (lv0 a rows j)).length).length
    rw [← hk] at hr
    rw [hr, List.length_append]
    omega
theorem segm_fold (a : Tx) (rows : List (List Nat)) (j : Nat) : (segm a rows j).foldl (expd a rows) (bfs a rows (lv0 a rows j)) = bfs a rows (lv0 a rows (j + 1)) := by
  rw [bfs_fold (segm a rows j) (lv0 a rows j) _ rfl fun i x hx => by unfold segm at hx; rw [List.getElem?_drop] at hx; exact hx]
  have := lv0_le a rows j
  unfold segm
  rw [List.length_drop, show lv0 a rows j + ((bfs a rows (lv0 a rows j)).length - lv0 a rows j) = (bfs a rows (lv0 a rows j)).length by omega]
  rfl
theorem segm_next (a : Tx) (rows : List (List Nat)) (j : Nat) : ∃ r, bfs a rows (lv0 a rows (j + 1)) = bfs a rows (lv0 a rows j) ++ r ∧ segm a rows (j + 1) = r := by
  have h := lv0_le a rows j
  obtain ⟨k, hk⟩ := Nat.exists_eq_add_of_le h
  obtain ⟨r, hr⟩ := bfs_app' a rows (lv0 a rows j) k
  rw [← hk] at hr
  refine ⟨r, hr, ?_⟩
  unfold segm
  show (bfs a rows (bfs a rows (lv0 a rows j)).length).drop (bfs a rows (lv0 a rows j)).length = r
  rw [hr, List.drop_left]
theorem lv0_grow (a : Tx) (rows : List (List Nat)) : ∀ j, (bfs a rows (lv0 a rows j)).length ≤ lv0 a rows j ∨ j ≤ lv0 a rows j
  | 0 => .inr (Nat.zero_le _)
  | j + 1 => by
    have h0 := lv0_le a rows j
    rcases lv0_grow a rows j with h | h
    · left
      have e : lv0 a rows (j + 1) = lv0 a rows j := by
        show (bfs a rows (lv0 a rows j)).length = _
        omega
      rw [e]; exact h
    · by_cases q : (bfs a rows (lv0 a rows j)).length ≤ lv0 a rows j
      · left
        have e : lv0 a rows (j + 1) = lv0 a rows j := by
          show (bfs a rows (lv0 a rows j)).length = _
          omega
        rw [e]; exact q
      · right
        show j + 1 ≤ (bfs a rows (lv0 a rows j)).length
        omega
theorem lv0_whole {a : Tx} {rows : List (List Nat)} (la : LOk a) (ok : ROk a.length rows) : bfs a rows (lv0 a rows rows.length) = bfsA a rows := by
  rcases lv0_grow a rows rows.length with h | h
  · exact bfs_whole la ok h
  · exact bfs_whole la ok (Nat.le_trans (bfs_len la ok _) h)
/-! places numbered anew -/
structure Shut2 (rows : List (List Nat)) (R : List Nat) : Prop where
  nd : R.Nodup
  cl : ∀ x ∈ R, ∀ g ∈ rows.getD x [], g ∈ R
theorem Shut.two {rows : List (List Nat)} {s : Nat} {R : List Nat} (h : Shut rows s R) : Shut2 rows R := ⟨h.nd, h.cl⟩
theorem pos_get {pl : List Nat} (nd : pl.Nodup) {i x : Nat} (h : pl[i]? = some x) : posOf pl x = i := by
  obtain ⟨q1, _⟩ := pos_at x pl (List.mem_of_getElem? h)
  exact (List.getElem?_inj (List.getElem?_eq_some_iff.mp q1).1 nd).mp (by rw [q1, h])
theorem pos_inj {pl : List Nat} {x y : Nat} (hx : x ∈ pl) (hy : y ∈ pl) (e : posOf pl x = posOf pl y) : x = y := by
  have h1 := (pos_at x pl hx).1
  have h2 := (pos_at y pl hy).1
  rw [e, h2] at h1
  exact (Option.some.inj h1).symm
theorem addAll_map {f : Nat → Nat} : ∀ (row found : List Nat), (∀ x ∈ row, ∀ y ∈ found ++ row, f x = f y → x = y) → addAll (found.map f) (row.map f) = (addAll found row).map f
  | [], found, _ => rfl
  | g :: row, found, h => by
    show addAll (if f g ∈ found.map f then found.map f else found.map f ++ [f g]) (row.map f) = (addAll (if g ∈ found then found else found ++ [g]) row).map f
    have e : f g ∈ found.map f ↔ g ∈ found := by
      constructor
      · intro q
        obtain ⟨y, hy, e⟩ := List.mem_map.mp q
        rw [h g List.mem_cons_self y (by simp [hy]) e.symm]
        exact hy
      · exact fun q => List.mem_map_of_mem q
    by_cases q : g ∈ found
    · rw [if_pos q, if_pos (e.mpr q)]
      exact addAll_map row found fun x hx y hy => h x (List.mem_cons_of_mem _ hx) y (by
        rcases List.mem_append.mp hy with z | z
        · exact List.mem_append_left _ z
        · exact List.mem_append_right _ (List.mem_cons_of_mem _ z))
    · rw [if_neg q, if_neg fun z => q (e.mp z)]
      have e2 : found.map f ++ [f g] = (found ++ [g]).map f := by rw [List.map_append]; rfl
      rw [e2]
      exact addAll_map row (found ++ [g]) fun x hx y hy => h x (List.mem_cons_of_mem _ hx) y (by
        rw [List.append_assoc] at hy
        exact hy)
theorem goM_map {rows : List (List Nat)} {pl : List Nat} (sh : Shut2 rows pl) : ∀ (k i : Nat) (found : List Nat), (∀ x ∈ found, x ∈ pl) → goM (calledL rows pl) k i (found.map (posOf pl)) = (goM rows k i found).map (posOf pl)
  | 0, _, _, _ => rfl
  | k + 1, i, found, h => by
    rw [goM, goM, List.length_map]
    split
    · rename_i hi
      obtain ⟨x, hx⟩ : ∃ x, found[i]? = some x := ⟨_, List.getElem?_eq_getElem hi⟩
      have hxm := h x (List.mem_of_getElem? hx)
      have e1 : (found.map (posOf pl)).getD i 0 = posOf pl x := by rw [List.getD_eq_getElem?_getD, List.getElem?_map, hx]; rfl
      have e2 : found.getD i 0 = x := by rw [List.getD_eq_getElem?_getD, hx]; rfl
      rw [e1, e2, called_get (pos_at x pl hxm).1, addAll_map _ _ fun u hu v hv e => ?_]
      · exact goM_map sh k (i + 1) _ fun y hy => ((addAll_mem y _ _).mp hy).elim (h y) (sh.cl x hxm y)
      · refine pos_inj (sh.cl x hxm u hu) ?_ e
        rcases List.mem_append.mp hv with z | z
        · exact h v z
        · exact sh.cl x hxm v z
    · rfl
theorem goM_more {rows : List (List Nat)} {n : Nat} (hg : ∀ x, x < n → ∀ g ∈ rows.getD x [], g < n) : ∀ (k i : Nat) (found : List Nat), found.Nodup → (∀ x ∈ found, x < n) → n ≤ k + i → goM rows (k + 1) i found = goM rows k i found
  | 0, i, found, nd, lt, h => by
    have := nodup_le n found nd lt
    show (if i < found.length then goM rows 0 (i + 1) (addAll found (rows.getD (found.getD i 0) [])) else found) = found
    rw [if_neg (by omega)]
  | k + 1, i, found, nd, lt, h => by
    show (if i < found.length then goM rows (k + 1) (i + 1) (addAll found (rows.getD (found.getD i 0) [])) else found) = if i < found.length then goM rows k (i + 1) (addAll found (rows.getD (found.getD i 0) [])) else found
    split
    · rename_i hi
      have hm : found.getD i 0 ∈ found := by rw [List.getD_eq_getElem?_getD, List.getElem?_eq_getElem hi]; exact List.getElem_mem _
      exact goM_more hg k (i + 1) _ (addAll_nodup _ _ nd) (fun x hx => ((addAll_mem x _ _).mp hx).elim (lt x) fun z => hg _ (lt _ hm) x z) (by omega)
    · rfl
theorem goM_fuel {rows : List (List Nat)} {n : Nat} (hg : ∀ x, x < n → ∀ g ∈ rows.getD x [], g < n) {s : Nat} (hs : s < n) : ∀ j, goM rows (n + j) 0 [s] = goM rows n 0 [s]
  | 0 => rfl
  | j + 1 => by rw [← Nat.add_assoc, goM_more hg (n + j) 0 [s] (by simp) (by simpa using hs) (by omega), goM_fuel hg hs j]
theorem row_lt {m : Nat} {rows : List (List Nat)} (ok : ROk m rows) : ∀ x, x < rows.length → ∀ g ∈ rows.getD x [], g < rows.length := fun x hx g hg => by
  refine ok.goal _ ?_ g hg
  rw [List.getD_eq_getElem?_getD, List.getElem?_eq_getElem hx]
  exact List.getElem_mem _
/-- met places of rows called otherwise -/
theorem met_called {m : Nat} {rows : List (List Nat)} {pl : List Nat} (ok : ROk m rows) (sh : Shut2 rows pl) (lt : ∀ x ∈ pl, x < rows.length) {s : Nat} (hs : s ∈ pl) : metL (calledL rows pl) (posOf pl s) = (metL rows s).map (posOf pl) := by
  have h1 := goM_map sh rows.length 0 [s] (by simpa using hs)
  have hl : pl.length ≤ rows.length := nodup_le _ _ sh.nd lt
  obtain ⟨j, hj⟩ := Nat.exists_eq_add_of_le hl
  unfold metL
  rw [called_len, ← h1]
  show _ = goM (calledL rows pl) rows.length 0 [posOf pl s]
  rw [hj, goM_fuel (n := pl.length) (fun x hx g hg => ?_) (pos_lt hs)]
  have hx' : pl[x]? = some pl[x] := List.getElem?_eq_getElem hx
  rw [called_get hx'] at hg
  obtain ⟨g0, h0, rfl⟩ := List.mem_map.mp hg
  exact pos_lt (sh.cl _ (List.getElem_mem hx) _ h0)
theorem pos_map {f : Nat → Nat} : ∀ (R : List Nat) (g : Nat), (∀ x ∈ R, f x = f g → x = g) → posOf (R.map f) (f g) = posOf R g
  | [], _, _ => rfl
  | x :: R, g, h => by
    show (if f x = f g then 0 else posOf (R.map f) (f g) + 1) = if x = g then 0 else posOf R g + 1
    by_cases e : x = g
    · rw [if_pos e, if_pos (by rw [e])]
    · rw [if_neg e, if_neg fun q => e (h x List.mem_cons_self q), pos_map R g fun y hy => h y (List.mem_cons_of_mem _ hy)]
/-- called twice -/
theorem called_called {rows : List (List Nat)} {pl R : List Nat} (sub : ∀ x ∈ R, x ∈ pl) (cl : ∀ x ∈ R, ∀ g ∈ rows.getD x [], g ∈ R) : calledL (calledL rows pl) (R.map (posOf pl)) = calledL rows R := by
  conv => lhs; unfold calledL
  conv => rhs; unfold calledL
  rw [List.map_map]
  refine List.map_congr_left fun p hp => ?_
  show ((calledL rows pl).getD (posOf pl p) []).map _ = _
  rw [called_get (pos_at p pl (sub p hp)).1, List.map_map]
  refine List.map_congr_left fun g hg => ?_
  exact pos_map R g fun x hx e => pos_inj (sub x hx) (sub g (cl p hp g hg)) e
/-- numbered: whatever they are called, and again -/
theorem numbered_called {m : Nat} {rows : List (List Nat)} {pl : List Nat} (ok : ROk m rows) (sh : Shut2 rows pl) (lt : ∀ x ∈ pl, x < rows.length) {s : Nat} (hs : s ∈ pl) : calledL (calledL rows pl) (metL (calledL rows pl) (posOf pl s)) = calledL rows (metL rows s) := by
  have h := metL_shut ok (lt s hs)
  rw [met_called ok sh lt hs]
  refine called_called (fun x hx => ?_) h.cl
  have r := h.rc x hx
  clear hx
  induction r with
  | here => exact hs
  | step _ hg ih => exact sh.cl _ ih _ hg
theorem goal_called {a : Tx} {rows : List (List Nat)} {pl : List Nat} (ok : ROk a.length rows) (lt : ∀ x ∈ pl, x < rows.length) {p c : Nat} (hp : p ∈ pl) (hc : c ∈ a) : goalOf a (calledL rows pl) (posOf pl p) c = posOf pl (goalOf a rows p c) := by
  obtain ⟨row, h1, h2, h3⟩ := goal_lt ok (lt p hp) hc
  unfold goalOf at h2 ⊢
  rw [called_get (pos_at p pl hp).1]
  rw [getD_of h1] at h2 ⊢
  rw [List.getD_eq_getElem?_getD, List.getElem?_map, h2]
  rfl
theorem end_called {a : Tx} {rows : List (List Nat)} {pl : List Nat} (ok : ROk a.length rows) (sh : Shut2 rows pl) (lt : ∀ x ∈ pl, x < rows.length) : ∀ (t : Tx) (p : Nat), p ∈ pl → (∀ c ∈ t, c ∈ a) → endL a rows p t ∈ pl ∧ endL a (calledL rows pl) (posOf pl p) t = posOf pl (endL a rows p t)
  | [], p, hp, _ => ⟨hp, rfl⟩
  | c :: t, p, hp, h => by
    obtain ⟨row, h1, h2, h3⟩ := goal_lt ok (lt p hp) (h c List.mem_cons_self)
    have hg : goalOf a rows p c ∈ pl := sh.cl p hp _ (by rw [getD_of h1]; exact List.mem_of_getElem? h2)
    obtain ⟨q1, q2⟩ := end_called ok sh lt t _ hg fun x hx => h x (List.mem_cons_of_mem _ hx)
    refine ⟨q1, ?_⟩
    show endL a (calledL rows pl) (goalOf a (calledL rows pl) (posOf pl p) c) t = _
    rw [goal_called ok lt hp (h c List.mem_cons_self), q2]
    rfl
/-! one place behind the other -/
structure LongR (m : Nat) (rows : List (List Nat)) : Prop where
  pos : 0 < m
  row : ∀ p, p < rows.length → ∃ d, d ≤ p ∧ rows[p]? = some (min (p + 1) (rows.length - 1) :: List.replicate (m - 1) d)
theorem LongR.ok {m : Nat} {rows : List (List Nat)} (h : LongR m rows) (h1 : 0 < rows.length) (h2 : rows.length ≤ 120) : ROk m rows := by
  have hm := h.pos
  refine ⟨h1, h2, fun r hr => ?_, fun r hr g hg => ?_⟩
  · obtain ⟨p, hp, rfl⟩ := List.mem_iff_getElem.mp hr
    obtain ⟨d, hd, e⟩ := h.row p hp
    rw [List.getElem?_eq_getElem hp] at e
    rw [Option.some.inj e, List.length_cons, List.length_replicate]
    omega
  · obtain ⟨p, hp, rfl⟩ := List.mem_iff_getElem.mp hr
    obtain ⟨d, hd, e⟩ := h.row p hp
    rw [List.getElem?_eq_getElem hp] at e
    rw [Option.some.inj e] at hg
    rcases List.mem_cons.mp hg with q | q
    · rw [q]; omega
    · rw [List.eq_of_mem_replicate q]; omega
theorem addAll_old : ∀ (row found : List Nat), (∀ g ∈ row, g ∈ found) → addAll found row = found
  | [], _, _ => rfl
  | g :: row, found, h => by
    show addAll (if g ∈ found then found else found ++ [g]) row = found
    rw [if_pos (h g List.mem_cons_self)]
    exact addAll_old row found fun x hx => h x (List.mem_cons_of_mem _ hx)
theorem LongR.go {m : Nat} {rows : List (List Nat)} (h : LongR m rows) : ∀ (k i : Nat), i + k = rows.length → i < rows.length → goM rows k i (List.range (i + 1)) = List.range rows.length
  | 0, i, hk, hi => by omega
  | k + 1, i, hk, hi => by
    rw [goM, List.length_range, if_pos (by omega)]
    have e0 : (List.range (i + 1)).getD i 0 = i := by rw [List.getD_eq_getElem?_getD, List.getElem?_range (by omega)]; rfl
    obtain ⟨d, hd, e⟩ := h.row i hi
    rw [e0, getD_of e]
    by_cases q : i + 1 < rows.length
    · have e1 : min (i + 1) (rows.length - 1) = i + 1 := by omega
      rw [e1]
      have e2 : addAll (List.range (i + 1)) ((i + 1) :: List.replicate (m - 1) d) = List.range (i + 1 + 1) := by
        show addAll (if i + 1 ∈ List.range (i + 1) then List.range (i + 1) else List.range (i + 1) ++ [i + 1]) _ = _
        rw [if_neg (by simp), ← List.range_succ]
        exact addAll_old _ _ fun g hg => by
          rw [List.eq_of_mem_replicate hg, List.mem_range]; omega
      rw [e2]
      exact h.go k (i + 1) (by omega) q
    · have e1 : min (i + 1) (rows.length - 1) = i := by omega
      rw [e1, addAll_old _ _ fun g hg => by
        rcases List.mem_cons.mp hg with z | z
        · rw [z, List.mem_range]; omega
        · rw [List.eq_of_mem_replicate z, List.mem_range]; omega]
      obtain rfl : k = 0 := by omega
      show List.range (i + 1) = _
      rw [show rows.length = i + 1 by omega]
theorem LongR.met {m : Nat} {rows : List (List Nat)} (h : LongR m rows) (h1 : 0 < rows.length) : metL rows 0 = List.range rows.length := h.go rows.length 0 (by omega) h1
theorem pos_range {n g : Nat} (h : g < n) : posOf (List.range n) g = g := pos_get List.nodup_range (List.getElem?_range h)
theorem called_range {m : Nat} {rows : List (List Nat)} (ok : ROk m rows) : calledL rows (List.range rows.length) = rows := by
  refine List.ext_getElem? fun i => ?_
  unfold calledL
  rw [List.getElem?_map]
  by_cases hi : i < rows.length
  · rw [List.getElem?_range hi, Option.map_some, List.getElem?_eq_getElem hi, getD_of (List.getElem?_eq_getElem hi)]
    congr 1
    conv => rhs; rw [← List.map_id rows[i]]
    exact List.map_congr_left fun g hg => pos_range (ok.goal _ (List.getElem_mem hi) g hg)
  · rw [List.getElem?_eq_none (by rw [List.length_range]; omega), List.getElem?_eq_none (by omega)]
    rfl
theorem LongR.step {a : Tx} {rows : List (List Nat)} (h : LongR a.length rows) {p c : Nat} (hp : p < rows.length) (hc : c ∈ a) : goalOf a rows p c ≤ p + 1 := by
  obtain ⟨d, hd, e⟩ := h.row p hp
  unfold goalOf
  rw [getD_of e]
  cases posOf a c with
  | zero => show min (p + 1) (rows.length - 1) ≤ _; omega
  | succ j =>
    rw [List.getD_eq_getElem?_getD, List.getElem?_cons_succ]
    by_cases q : j < a.length - 1
    · rw [List.getElem?_replicate, if_pos q]; show d ≤ _; omega
    · rw [List.getElem?_replicate, if_neg q]; exact Nat.zero_le _
theorem LongR.far {a : Tx} {rows : List (List Nat)} (h : LongR a.length rows) (ok : ROk a.length rows) (u : Tx) : (∀ c ∈ u, c ∈ a) → endL a rows 0 u ≤ u.length := by
  induction u using snoc_ind with
  | h0 => exact fun _ => Nat.le_refl _
  | h1 u c ih =>
    intro hu
    have h0 := ih fun d hd => hu d (by simp [hd])
    rw [end_snoc, List.length_append, List.length_singleton]
    have := h.step (end_lt ok u 0 ok.pos fun d hd => hu d (by simp [hd])) (hu c (by simp))
    omega
theorem LongR.near {a : Tx} {rows : List (List Nat)} (h : LongR a.length rows) {c : Nat} {r : Tx} (ha : a = c :: r) : ∀ p, p < rows.length → endL a rows 0 (List.replicate p c) = p
  | 0, _ => rfl
  | p + 1, hp => by
    rw [List.replicate_succ', end_snoc, h.near ha p (by omega)]
    obtain ⟨d, hd, e⟩ := h.row p (by omega)
    unfold goalOf
    rw [getD_of e, ha]
    show (min (p + 1) (rows.length - 1) :: _).getD (if c = c then 0 else posOf r c + 1) 0 = _
    rw [if_pos rfl]
    show min (p + 1) (rows.length - 1) = _
    omega
theorem num_repl {c : Nat} (t : Tx) : (∀ d ∈ t, c ≤ d) → ∀ p, p ≤ t.length → num (List.replicate p c) ≤ num t := by
  induction t using snoc_ind with
  | h0 =>
    intro _ p hp
    obtain rfl : p = 0 := by simpa using hp
    exact Nat.le_refl _
  | h1 t d ih =>
    intro h p hp
    cases p with
    | zero => exact Nat.zero_le _
    | succ p =>
      have h1 := ih (fun x hx => h x (by simp [hx])) p (by rw [List.length_append, List.length_singleton] at hp; omega)
      have h2 := h d (by simp)
      rw [List.replicate_succ', num_snoc, num_snoc]
      omega
theorem LongR.first {a : Tx} {rows : List (List Nat)} (la : LOk a) (ok : ROk a.length rows) (h : LongR a.length rows) {c : Nat} {r : Tx} (ha : a = c :: r) {p : Nat} (hp : p < rows.length) {t : Tx} (l : Least a rows p t) : t = List.replicate p c := by
  have hc : c ∈ a := by rw [ha]; exact List.mem_cons_self
  have hge : ∀ d ∈ a, c ≤ d := fun d hd => by
    have up := la.up
    rw [ha] at up hd
    rcases List.mem_cons.mp hd with q | q
    · rw [q]; exact Nat.le_refl _
    · exact Nat.le_of_lt ((List.pairwise_cons.mp up).1 d q)
  have h1 := l.le (List.replicate p c) (fun d hd => by rw [List.eq_of_mem_replicate hd]; exact hc) (h.near ha p hp)
  have h2 := h.far ok t l.ov
  rw [l.at_] at h2
  have h3 := num_repl (c := c) t (fun d hd => hge d (l.ov d hd)) p h2
  exact num_inj _ _ (fun d hd => by have := la.lets d (l.ov d hd); omega) (fun d hd => by rw [List.eq_of_mem_replicate hd]; have := la.lets c hc; omega) (Nat.le_antisymm h1 h3)
theorem row_goals {a : Tx} {rows : List (List Nat)} {i : Nat} (la : LOk a) (ok : ROk a.length rows) (hi : i < rows.length) : rows[i]? = some (a.map fun c => goalOf a rows i c) := by
  have hr : rows[i]? = some rows[i] := List.getElem?_eq_getElem hi
  have hl := ok.len _ (List.getElem_mem hi)
  have nd : a.Nodup := la.up.imp fun h e => by omega
  rw [hr]
  congr 1
  apply List.ext_getElem
  · rw [List.length_map, hl]
  · intro j h1 h2
    rw [List.length_map] at h2
    have hp := (pos_at a[j] a (List.getElem_mem h2)).1
    have e : posOf a a[j] = j := by
      obtain ⟨h3, h4⟩ := List.getElem?_eq_some_iff.mp hp
      exact (List.getElem_inj nd).mp h4
    have e2 : goalOf a rows i a[j] = rows[i][j] := by
      unfold goalOf
      rw [getD_of hr, e, List.getD_eq_getElem?_getD, List.getElem?_eq_getElem h1]
      rfl
    rw [List.getElem_map]
    exact e2.symm
theorem erase_mapB {α β : Type} (f : α → β) : ∀ (l : List α) (j : Nat), (l.map f).eraseIdx j = (l.eraseIdx j).map f
  | [], _ => rfl
  | _ :: _, 0 => rfl
  | x :: l, j + 1 => by
    show f x :: (l.map f).eraseIdx j = f x :: (l.eraseIdx j).map f
    rw [erase_mapB f l j]
theorem mem_erase_iffB {l : List Nat} {d : Nat} (hd : d < l.length) (nd : l.Nodup) (x : Nat) : x ∈ l.eraseIdx d ↔ x ∈ l ∧ x ≠ l[d] := by
  rw [List.mem_eraseIdx_iff_getElem]
  constructor
  · rintro ⟨i, h1, h2, rfl⟩
    refine ⟨List.getElem_mem _, fun e => h2 ?_⟩
    exact (List.getElem_inj nd).mp e
  · rintro ⟨h1, h2⟩
    obtain ⟨i, hi, rfl⟩ := List.mem_iff_getElem.mp h1
    exact ⟨i, hi, fun e => h2 (by subst e; rfl), rfl⟩
/-- what is left, and the sequence so far -/
structure Shuf (n : Nat) (rest order : List Nat) : Prop where
  nr : rest.Nodup
  no : order.Nodup
  h0 : order[0]? = some 0
  mem : ∀ i, i < n ↔ i ∈ rest ∨ i ∈ order
  dj : ∀ i ∈ rest, i ∉ order
theorem Shuf.start {n : Nat} (h : 0 < n) : Shuf n (List.range' 1 (n - 1)) [0] := ⟨List.nodup_range', by simp, rfl, fun i => by rw [List.mem_range'_1]; simp; omega, fun i hi => by rw [List.mem_range'_1] at hi; simp; omega⟩
theorem Shuf.next {n : Nat} {rest order : List Nat} (h : Shuf n rest order) {j : Nat} (hj : j < rest.length) : Shuf n (rest.eraseIdx j) (order ++ [rest[j]]) := by
  have hjm : rest[j] ∈ rest := List.getElem_mem hj
  refine ⟨h.nr.sublist (List.eraseIdx_sublist ..), ?_, ?_, fun i => ?_, fun i hi => ?_⟩
  · rw [List.nodup_append]
    refine ⟨h.no, by simp, fun a ha b hb => ?_⟩
    rw [List.mem_singleton.mp hb]
    exact fun e => h.dj _ hjm (e ▸ ha)
  · rw [List.getElem?_append_left (List.getElem?_eq_some_iff.mp h.h0).1]
    exact h.h0
  · rw [h.mem i, mem_erase_iffB hj h.nr, List.mem_append, List.mem_singleton]
    constructor
    · rintro (q | q)
      · by_cases c : i = rest[j]
        · exact .inr (.inr c)
        · exact .inl ⟨q, c⟩
      · exact .inr (.inl q)
    · rintro (q | q | q)
      · exact .inl q.1
      · exact .inr q
      · exact .inl (q ▸ hjm)
  · rw [mem_erase_iffB hj h.nr] at hi
    rw [List.mem_append, List.mem_singleton]
    rintro (q | q)
    · exact h.dj i hi.1 q
    · exact hi.2 q
theorem Shuf.ol {n : Nat} {rest order : List Nat} (h : Shuf n rest order) : order.length ≤ n := nodup_le _ _ h.no fun i hi => (h.mem i).mpr (.inr hi)
theorem Shuf.rl {n : Nat} {rest order : List Nat} (h : Shuf n rest order) : rest.length ≤ n := nodup_le _ _ h.nr fun i hi => (h.mem i).mpr (.inl hi)
theorem Shuf.shut {m : Nat} {rows : List (List Nat)} {order : List Nat} (ok : ROk m rows) (al : ∀ i, i < rows.length → i ∈ metL rows 0) (h : Shuf rows.length [] order) : Shut rows 0 order := by
  have hm : ∀ i, i < rows.length ↔ i ∈ order := fun i => by rw [h.mem i]; simp
  exact ⟨h.h0, h.no, fun i hi => (hm i).mpr hi, fun i hi g hg => (hm g).mp (row_lt ok i ((hm i).mpr hi) g hg), fun i hi => (metL_shut ok ok.pos).rc i (al i ((hm i).mpr hi))⟩
/-! begun at any place -/
theorem called_okS {m s : Nat} {rows : List (List Nat)} {R : List Nat} (ok : ROk m rows) (sh : Shut rows s R) : ROk m (calledL rows R) := by
  have hl := called_len rows R
  have h0 := (List.getElem?_eq_some_iff.mp sh.hd).1
  have h1 := nodup_le _ _ sh.nd sh.lt
  have o1 := ok.le
  have row : ∀ r ∈ calledL rows R, ∃ p ∈ R, rows.getD p [] ∈ rows ∧ r = (rows.getD p []).map fun g => posOf R g := fun r hr => by
    obtain ⟨p, hp, rfl⟩ := List.mem_map.mp hr
    refine ⟨p, hp, ?_, rfl⟩
    rw [List.getD_eq_getElem?_getD, List.getElem?_eq_getElem (sh.lt p hp)]
    exact List.getElem_mem _
  refine ⟨by omega, by omega, fun r hr => ?_, fun r hr g hg => ?_⟩
  · obtain ⟨p, hp, hm, rfl⟩ := row r hr
    rw [List.length_map]
    exact ok.len _ hm
  · obtain ⟨p, hp, hm, rfl⟩ := row r hr
    obtain ⟨g0, hg0, rfl⟩ := List.mem_map.mp hg
    rw [hl]
    exact pos_lt (sh.cl p hp g0 hg0)
theorem shut_pos {rows : List (List Nat)} {s : Nat} {R : List Nat} (sh : Shut rows s R) : posOf R s = 0 := pos_get sh.nd sh.hd
theorem called_allS {m s : Nat} {rows : List (List Nat)} {R : List Nat} (ok : ROk m rows) (sh : Shut rows s R) : ∀ i, i < (calledL rows R).length → i ∈ metL (calledL rows R) 0 := fun i hi => by
  rw [called_len] at hi
  have hs : s ∈ R := List.mem_of_getElem? sh.hd
  have e := met_called ok sh.two sh.lt hs
  rw [shut_pos sh] at e
  rw [e, List.mem_map]
  refine ⟨R[i], (metL_shut ok (sh.lt s hs)).all (sh.rc _ (List.getElem_mem hi)), pos_get sh.nd (List.getElem?_eq_getElem hi)⟩
end VS
end
section
set_option maxRecDepth 100000
set_option maxHeartbeats 4000000
/-! the package's numbering and first texts reckoned -/
namespace LW
open PySem L2 RX VS Evl
section
variable (cM : Addr)
theorem lim_of {n : Nat} (h : n ≤ 10000000) : n ≤ lim := h
theorem lim_of' {n : Nat} (h : n < 10000000) : n < lim := h
@[simp] theorem mach_ft (a : Tx) (rows : List (List Nat)) : (mach cM a rows).isIns cM (Str.ofString "first_text") = true := mach_m cM a rows rfl rfl
@[simp] theorem mach_nu (a : Tx) (rows : List (List Nat)) : (mach cM a rows).isIns cM (Str.ofString "numbered") = true := mach_m cM a rows rfl rfl
@[simp] theorem mach_at (a : Tx) (rows : List (List Nat)) : (mach cM a rows).isIns cM (Str.ofString "at") = true := mach_m cM a rows rfl rfl
theorem v_rows_from {x : D} {m s : Nat} {rows : List (List Nat)} (hx : x = rL rows ∨ x = rT rows ∨ x = rM rows) (ok : ROk m rows) (hs : s < rows.length) (hm : m ≤ 3) : m_rows_from cM [x, iD s] = some (rL (calledL rows (metL rows s))) := by
  have sh := metL_shut ok hs
  have hl := nodup_le _ _ sh.nd sh.lt
  have o1 := ok.le
  have e1 := v_met_from cM hx ok hs hm
  have key : ∀ (F : List Nat → D) (x : D), (∀ r, dItems (F r) = some (r.map iD)) → (∀ i : Nat, dIx x (iD i) = (rows.map F)[i]?) → ∀ u, lcGo (lcF (gN 3) (fun _ => some true) (mLc (mItems (mBin dIx (mVar 0) (mVar 3))) (gN 4) (fun _ => some true) (mMt dIndexL (mVar 2) (mCons (mVar 4) mNil)) [4]) [some x, u, some (iL (metL rows s)), none, none]) ((metL rows s).map iD) = some ((calledL rows (metL rows s)).map iL) := fun F x hF hix u => by
    refine Wp.eq (wp_lcM (fun p => iL ((rows.getD p []).map fun g => posOf (metL rows s) g)) (fun p hp => ?_) ?_)
    · obtain ⟨row, h1, h2, h3⟩ := shut_row ok hm sh p hp
      simp -implicitDefEqProofs [hix, h1, hF, lim_of (show row.length ≤ 10000000 by omega)]
      refine wp_lcM (fun g => iD (posOf (metL rows s) g)) (fun g hg => ?_) (by simp)
      simp -implicitDefEqProofs [dIndex_iL (h3 g hg)]
    · unfold calledL; rw [List.map_map]; rfl
  have hlim := lim_of (show (metL rows s).length ≤ 10000000 by omega)
  rcases hx with rfl | rfl | rfl
  · refine Wp.eq ?_
    simp -implicitDefEqProofs [m_rows_from, mb_rows_from, e1, hlim, key iL (rL rows) (fun r => rfl) (fun i => by simp)]
  · refine Wp.eq ?_
    simp -implicitDefEqProofs [m_rows_from, mb_rows_from, e1, hlim, key iT (rT rows) (fun r => rfl) (fun i => by simp)]
  · refine Wp.eq ?_
    simp -implicitDefEqProofs [m_rows_from, mb_rows_from, e1, hlim, key iL (rM rows) (fun r => rfl) (fun i => by simp)]
theorem v_come_to {x : D} {a : Tx} {rows : List (List Nat)} (hx : x = rL rows ∨ x = rT rows ∨ x = rM rows) (la : LOk a) (ok : ROk a.length rows) : m_Machine_come_to cM [.str a, x] = some (mach cM a (calledL rows (metL rows 0))) := by
  have sh := metL_shut ok ok.pos
  have e0 : m_rows_from cM [x, .int 0] = some (rL (calledL rows (metL rows 0))) := v_rows_from cM hx ok ok.pos la.le3
  refine Wp.eq ?_
  simp -implicitDefEqProofs [m_Machine_come_to, mb_Machine_come_to, v_want_rows cM hx la ok, e0, v_init cM (.inl rfl) la (called_okS ok sh) (called_allS ok sh)]
theorem v_numbered {a : Tx} {rows : List (List Nat)} (la : LOk a) (ok : ROk a.length rows) : m_Machine_numbered cM [mach cM a rows] = some (mach cM a (calledL rows (metL rows 0))) := by
  have sh := metL_shut ok ok.pos
  have e0 : m_rows_from cM [rL rows, .int 0] = some (rL (calledL rows (metL rows 0))) := v_rows_from cM (.inl rfl) ok ok.pos la.le3
  refine Wp.eq ?_
  simp -implicitDefEqProofs [m_Machine_numbered, mb_Machine_numbered, e0, v_init cM (.inl rfl) la (called_okS ok sh) (called_allS ok sh)]
theorem v_at {a : Tx} {rows : List (List Nat)} {s : Nat} (la : LOk a) (ok : ROk a.length rows) (hs : s < rows.length) : m_Machine_at cM [mach cM a rows, iD s] = some (mach cM a (calledL rows (metL rows s))) := by
  have sh := metL_shut ok hs
  have e0 := v_rows_from cM (.inl rfl) ok hs la.le3
  refine Wp.eq ?_
  simp -implicitDefEqProofs [m_Machine_at, mb_Machine_at, v_want_place cM ok.le hs, e0, v_init cM (.inl rfl) la (called_okS ok sh) (called_allS ok sh)]
def plT (L : TP) : List Nat := L.map Prod.snd
def txT (L : TP) : List Tx := L.map Prod.fst
abbrev sL (ts : List Tx) : D := .lst (ts.map D.str)
@[simp] theorem zpD_map {α : Type} (F G : α → D) (l : List α) : zpD (l.map F) (l.map G) = l.map fun x => .tup [F x, G x] := by
  unfold zpD
  induction l with
  | nil => rfl
  | cons x l ih => rw [List.map_cons, List.map_cons, List.zipWith_cons_cons, ih]; rfl
theorem plT_get {L : TP} {i : Nat} {x : Tx × Nat} (h : L[i]? = some x) : (plT L)[i]? = some x.2 := by unfold plT; rw [List.getElem?_map, h]; rfl
theorem txT_get {L : TP} {i : Nat} {x : Tx × Nat} (h : L[i]? = some x) : (txT L)[i]? = some x.1 := by unfold txT; rw [List.getElem?_map, h]; rfl
theorem plT_len (L : TP) : (plT L).length = L.length := by unfold plT; rw [List.length_map]
theorem txT_len (L : TP) : (txT L).length = L.length := by unfold txT; rw [List.length_map]
theorem add1_pl (L : TP) (x : Tx × Nat) : plT (add1 L x) = if x.2 ∈ plT L then plT L else plT L ++ [x.2] := by
  unfold add1 plT; split <;> simp
theorem add1_tx (L : TP) (x : Tx × Nat) : txT (add1 L x) = if x.2 ∈ plT L then txT L else txT L ++ [x.1] := by
  unfold add1 plT txT; split <;> simp
theorem v_first_text {a : Tx} {rows : List (List Nat)} {p : Nat} (la : LOk a) (ok : ROk a.length rows) (r : Reach rows 0 p) : Wp (m_Machine_first_text cM [mach cM a rows, iD p]) fun d => ∃ t, d = .str t ∧ Least a rows p t ∧ (t, p) ∈ bfsA a rows := by
  obtain ⟨i, t, hi⟩ := bfs_place la ok r
  have hm := List.mem_of_getElem? hi
  have hp := (bfs_inv la ok rows.length).lt _ hm
  have o1 := ok.le
  have o2 := la.le3
  simp -implicitDefEqProofs [m_Machine_first_text, mb_Machine_first_text, v_want_place cM ok.le hp]
  refine wp_while (fun n ds => ∃ k u v, n = i - k ∧ k ≤ i ∧ ds = [some (mach cM a rows), some (iD p), some (sL (txT (bfs a rows k))), some (iL (plT (bfs a rows k))), some (iD k), u, v]) (n := i) ⟨0, none, none, rfl, Nat.zero_le _, rfl⟩ (by have := bfs_len la ok rows.length; have := (List.getElem?_eq_some_iff.mp hi).1; unfold bfsA at this; omega) ?_
  rintro n ds ⟨k, u, v, rfl, hk, rfl⟩
  obtain ⟨h1, h2⟩ := bfs_at la ok hi k hk
  have bi := bfs_inv la ok k
  have bl := bfs_len la ok k
  obtain ⟨x, hx⟩ : ∃ x, (bfs a rows k)[k]? = some x := ⟨_, List.getElem?_eq_getElem h1⟩
  have hxl := bi.lt x (List.mem_of_getElem? hx)
  rw [hx] at h2
  simp -implicitDefEqProofs [plT_get hx, txT_get hx, row_goals la ok hxl]
  by_cases c : x.2 = p
  · subst c
    simp -implicitDefEqProofs
    have hxm := List.mem_of_getElem? h2.symm
    exact ⟨least_of la ok hxm, hxm⟩
  · have hne : k ≠ i := fun e => c (by subst e; rw [hi] at h2; cases h2; rfl)
    have c' : ¬ ((x.2 : Int) = (p : Int)) := by omega
    simp -implicitDefEqProofs only [c', if_false, zpD_map]
    let Lq : Tx → TP := fun q => (q.map fun c => (x.1 ++ [c], goalOf a rows x.2 c)).foldl add1 (bfs a rows k)
    refine wp_loop (fun q ds => ∃ u v, ds = [some (mach cM a rows), some (iD p), some (sL (txT (Lq q))), some (iL (plT (Lq q))), some (iD k), u, v]) ⟨u, v, rfl⟩ ?_ ?_
    · rintro q c q2 ds hq ⟨u, v, rfl⟩
      have hLq : Lq (q ++ [c]) = add1 (Lq q) (x.1 ++ [c], goalOf a rows x.2 c) := by
        show ((q ++ [c]).map _).foldl add1 _ = _
        rw [List.map_append, List.foldl_append]; rfl
      obtain ⟨r, hr⟩ := foldA_app (q.map fun c => (x.1 ++ [c], goalOf a rows x.2 c)) (bfs a rows k)
      have hr : Lq q = bfs a rows k ++ r := hr
      have hLk : (Lq q)[k]? = some x := by rw [hr, List.getElem?_append_left h1]; exact hx
      have hLl : (Lq q).length ≤ 1000 := by
        have := foldA_len (q.map fun c => (x.1 ++ [c], goalOf a rows x.2 c)) (bfs a rows k)
        rw [List.length_map] at this
        have hqa : q.length ≤ a.length := by rw [hq, List.length_append]; omega
        have h3 : (Lq q).length ≤ (bfs a rows k).length + q.length := this
        omega
      have hln := (bfs_inv la ok k).ln k x hx
      rw [hLq, add1_pl, add1_tx]
      simp -implicitDefEqProofs [txT_get hLk]
      split
      · exact ⟨rfl, rfl⟩
      · rw [plT_len, txT_len]
        refine ⟨by unfold sizeLine; omega, lim_of' (by omega), lim_of' (by omega), by simp, by simp⟩
    · rintro ds ⟨u, v, rfl⟩
      have hLa : Lq a = bfs a rows (k + 1) := by
        rw [bfs, hx]; rfl
      rw [hLa]
      simp -implicitDefEqProofs
      exact ⟨i - (k + 1), by omega, k + 1, rfl, by omega, rfl, rfl, by omega⟩
end
end LW
end
section
set_option maxRecDepth 100000
set_option maxHeartbeats 4000000
/-! k17's own defs reckoned: texts -/
namespace LW
open PySem L2 RX VS Evl
section
variable (cM : Addr)
theorem v_law_goes {a t : Tx} {rows : List (List Nat)} {p : Nat} (ok : ROk a.length rows) (hp : p < rows.length) (ht : ∀ c ∈ t, c ∈ a) : m__law_goes cM [.str a, rL rows, iD p, .str t] = some (iD (endL a rows p t)) := by
  refine Wp.eq ?_
  simp -implicitDefEqProofs [m__law_goes, mb__law_goes]
  refine wp_loop (fun q ds => ∃ v, ds = [some (.str a), some (rL rows), some (iD (endL a rows p q)), some (.str t), v]) ⟨none, rfl⟩ ?_ ?_
  · rintro q c q2 ds hq ⟨v, rfl⟩
    have hca : c ∈ a := ht c (by rw [hq]; simp)
    obtain ⟨row, h1, h2, h3⟩ := goal_lt ok (end_lt ok q p hp fun d hd => ht d (by rw [hq]; simp [hd])) hca
    rw [end_snoc]
    simp -implicitDefEqProofs [h1, dIndex_S hca, h2]
  · rintro ds ⟨v, rfl⟩
    simp -implicitDefEqProofs
theorem lngr_snoc (a : Tx) (p : List Tx) (x : Tx) : lngr a (p ++ [x]) = lngr a p ++ a.map fun c => x ++ [c] := by
  unfold lngr; rw [List.flatMap_append]; simp
theorem v_law_texts {a : Tx} (la : LOk a) : m__law_texts cM [.str a, .int 4] = some (sL (upTo a 4)) := by
  have o2 := la.le3
  refine Wp.eq ?_
  simp -implicitDefEqProofs [m__law_texts, mb__law_texts]
  refine ⟨okR_of (by decide) (by decide), ?_⟩
  refine wp_loop (fun q ds => ∃ u v w z, ds = [some (.str a), some (.int 4), some (sL (upTo a q.length)), some (sL (lvl a q.length)), u, v, w, z]) ⟨none, none, none, none, rfl⟩ ?_ ?_
  · rintro q j q2 ds hq ⟨u, v, w, z, rfl⟩
    have hql : q.length < 4 := by have := congrArg List.length hq; simp at this; omega
    have hn : ∀ n, n ≤ 4 → (lvl a n).length ≤ 81 := fun n hn => Nat.le_trans (lvl_len o2 n) (Nat.le_trans (Nat.pow_le_pow_right (by decide) hn) (by decide))
    have h1 := hn q.length (by omega)
    have h2 := hn (q.length + 1) (by omega)
    have h3 := upTo_len o2 q.length (by omega)
    rw [List.length_append, List.length_singleton]
    simp -implicitDefEqProofs
    refine wp_loop (fun p ds => ∃ w z, ds = [some (.str a), some (.int 4), some (sL (upTo a q.length)), some (sL (lvl a q.length)), some (iD j), some (sL (lngr a p)), w, z]) ⟨w, z, rfl⟩ ?_ ?_
    · rintro p x p2 ds hp ⟨w, z, rfl⟩
      have hx : x ∈ lvl a q.length := by rw [hp]; simp
      have hxl := (lvl_over hx).2
      have hpl : (lngr a p).length ≤ 243 := by
        have := congrArg List.length hp
        rw [List.length_append] at this
        rw [lngr_len]
        exact Nat.le_trans (Nat.mul_le_mul (show p.length ≤ 81 by omega) o2) (by decide)
      rw [lngr_snoc]
      simp -implicitDefEqProofs
      refine ⟨lim_of (by omega), ?_⟩
      refine wp_lcM (fun c => .str (x ++ [c])) (fun c hc => ?_) ?_
      · simp -implicitDefEqProofs
        unfold sizeLine; omega
      · simp -implicitDefEqProofs
        unfold sizeLine; omega
    · rintro ds ⟨w, z, rfl⟩
      simp -implicitDefEqProofs
      refine ⟨?_, ?_, ?_⟩
      · have : (lngr a (lvl a q.length)).length ≤ 81 := h2
        unfold sizeLine; omega
      · rw [VS.upTo, lvl, List.map_append]
      · rfl
  · rintro ds ⟨u, v, w, z, rfl⟩
    simp -implicitDefEqProofs
abbrev txD (L : TP) : D := .dic (kvs (fun x : Tx × Nat => x.2) (fun x => .str x.1) L)
theorem v_firsts {a : Tx} {rows : List (List Nat)} (la : LOk a) (ok : ROk a.length rows) : m__law_firsts cM [.str a, rL rows] = some (txD (bfsA a rows)) := by
  have o1 := ok.le
  have o2 := la.le3
  refine Wp.eq ?_
  simp -implicitDefEqProofs [m__law_firsts, mb__law_firsts]
  refine ⟨okR_of (by omega) (by omega), ?_⟩
  refine wp_loop (fun q ds => ∃ u v w z e, ds = [some (.str a), some (rL rows), some (txD (bfs a rows (lv0 a rows q.length))), some (sL (txT (segm a rows q.length))), u, v, w, z, e]) ⟨none, none, none, none, none, rfl⟩ ?_ ?_
  · rintro q j q2 ds hq ⟨u, v, w, z, e, rfl⟩
    have bi := bfs_inv la ok (lv0 a rows q.length)
    have bl := bfs_len la ok (lv0 a rows q.length)
    have sl : (segm a rows q.length).length ≤ 120 := by unfold segm; rw [List.length_drop]; omega
    have so : ∀ x ∈ segm a rows q.length, (∀ c ∈ x.1, c ∈ a) ∧ endL a rows 0 x.1 = x.2 ∧ x.1.length ≤ 120 := fun x hx => by
      have hx := List.mem_of_mem_drop hx
      obtain ⟨h1, h2⟩ := bi.ov x hx
      obtain ⟨i, hi, he⟩ := List.mem_iff_getElem.mp hx
      have := bi.ln i x (by rw [← he]; exact List.getElem?_eq_getElem hi)
      exact ⟨h1, h2, by omega⟩
    rw [List.length_append, List.length_singleton]
    simp -implicitDefEqProofs
    refine wp_loop (fun p ds => ∃ w z e, ds = [some (.str a), some (rL rows), some (txD (bfs a rows (lv0 a rows q.length))), some (sL (txT (segm a rows q.length))), some (iD j), some (sL (lngr a p)), w, z, e]) ⟨w, z, e, rfl⟩ ?_ ?_
    · rintro p x p2 ds hp ⟨w, z, e, rfl⟩
      have hx : x ∈ txT (segm a rows q.length) := by rw [hp]; simp
      obtain ⟨y, hy, rfl⟩ := List.mem_map.mp hx
      have hxl := (so y hy).2.2
      have hpl : (lngr a p).length ≤ 400 := by
        have := congrArg List.length hp
        rw [List.length_append, txT_len] at this
        rw [lngr_len]
        exact Nat.le_trans (Nat.mul_le_mul (show p.length ≤ 120 by omega) o2) (by decide)
      rw [lngr_snoc]
      simp -implicitDefEqProofs
      refine ⟨lim_of (by omega), ?_⟩
      refine wp_lcM (fun c => .str (y.1 ++ [c])) (fun c hc => ?_) ?_
      · simp -implicitDefEqProofs
        unfold sizeLine; omega
      · simp -implicitDefEqProofs
        unfold sizeLine; omega
    · rintro ds ⟨w, z, e, rfl⟩
      simp -implicitDefEqProofs
      -- the longer texts, with their places
      have hk := kids_pairs (a := a) (rows := rows) (segm a rows q.length) fun x hx => (so x hx).2.1
      have hk : (lngr a (txT (segm a rows q.length))).map (fun t => (t, endL a rows 0 t)) = (segm a rows q.length).flatMap (kids a rows) := hk
      obtain ⟨r, hr1, hr2⟩ := segm_next a rows q.length
      have ho : ∀ t ∈ lngr a (txT (segm a rows q.length)), ∀ c ∈ t, c ∈ a := fun t ht => by
        obtain ⟨u, hu, ht⟩ := List.mem_flatMap.mp ht
        obtain ⟨c, hc, rfl⟩ := List.mem_map.mp ht
        obtain ⟨y, hy, rfl⟩ := List.mem_map.mp hu
        intro d hd
        rcases List.mem_append.mp hd with z | z
        · exact (so y hy).1 d z
        · rw [List.mem_singleton.mp z]; exact hc
      have hll : (lngr a (txT (segm a rows q.length))).length ≤ 400 := by
        rw [lngr_len, txT_len]
        exact Nat.le_trans (Nat.mul_le_mul sl o2) (by decide)
      refine wp_loop (fun p ds => ∃ (s : TP) (w z : Option D), (p.map fun t => (t, endL a rows 0 t)).foldl add1 (bfs a rows (lv0 a rows q.length)) = bfs a rows (lv0 a rows q.length) ++ s ∧ s.length ≤ p.length ∧ ds = [some (.str a), some (rL rows), some (txD (bfs a rows (lv0 a rows q.length) ++ s)), some (sL (txT s)), some (iD j), some (sL (lngr a (txT (segm a rows q.length)))), w, z, e]) ⟨[], w, z, by simp, Nat.le_refl _, by simp [txT]⟩ ?_ ?_
      · rintro p t p2 ds hp ⟨s, w, z, hs, hsl, rfl⟩
        have ht : t ∈ lngr a (txT (segm a rows q.length)) := by rw [hp]; simp
        have hpl : p.length < 400 := by
          have := congrArg List.length hp
          rw [List.length_append, List.length_cons] at this
          omega
        have eg : m__law_goes cM [.str a, rL rows, .int 0, .str t] = some (iD (endL a rows 0 t)) := v_law_goes cM ok ok.pos (ho t ht)
        simp -implicitDefEqProofs [eg, kvs_some, kvs_len]
        by_cases hm : endL a rows 0 t ∈ (bfs a rows (lv0 a rows q.length) ++ s).map Prod.snd
        · rw [if_neg (fun z => (kvs_none _ _ _ _).mp z hm)]
          refine ⟨s, ?_, by omega, rfl, rfl⟩
          rw [hs]; unfold add1; rw [if_pos hm]
        · rw [if_pos ((kvs_none _ _ _ _).mpr hm)]
          refine ⟨by unfold sizeLine; omega, by rw [txT_len]; exact lim_of' (by omega), s ++ [(t, endL a rows 0 t)], ?_, by simp; omega, ?_, by simp [txT]⟩
          · rw [hs]; unfold add1; rw [if_neg hm, List.append_assoc]
          · have := kvs_put (fun x : Tx × Nat => x.2) (fun x => .str x.1) (t, endL a rows 0 t) hm
            rw [List.append_assoc] at this
            exact this
      · rintro ds ⟨s, w, z, hs, hsl, rfl⟩
        rw [hk, fold_kids, segm_fold, hr1] at hs
        have e1 := List.append_cancel_left hs
        subst e1
        simp -implicitDefEqProofs [hr1, hr2]
  · rintro ds ⟨u, v, w, z, e, rfl⟩
    simp -implicitDefEqProofs [lv0_whole la ok]
theorem find_one {a : Tx} {rows : List (List Nat)} (la : LOk a) (ok : ROk a.length rows) {t : Tx} {p : Nat} (h : (t, p) ∈ bfsA a rows) : (bfsA a rows).find? (fun x => decide (x.2 = p)) = some (t, p) := by
  cases e : (bfsA a rows).find? (fun x => decide (x.2 = p)) with
  | none => have := List.find?_eq_none.mp e _ h; simp at this
  | some x =>
    have h1 := List.mem_of_find?_eq_some e
    have h2 := List.find?_some e
    rw [bfs_one la ok h1 h (by simpa using h2)]
theorem v_texts_right {a : Tx} {rows : List (List Nat)} (la : LOk a) (ok : ROk a.length rows) (al : RAll rows) : m__law_texts_right cM [mach cM a rows, .str a, rL rows] = some (.bl true) := by
  have o1 := ok.le
  have o2 := la.le3
  have sh := metL_shut ok ok.pos
  have key : ∀ p, p < rows.length → ∃ t, m_Machine_first_text cM [mach cM a rows, iD p] = some (.str t) ∧ Least a rows p t ∧ (t, p) ∈ bfsA a rows := fun p hp => by
    obtain ⟨_, e, t, rfl, h⟩ := v_first_text cM la ok (sh.rc p (al p hp))
    exact ⟨t, e, h⟩
  have ul := upTo_len o2 4 (by decide)
  refine Wp.eq ?_
  simp -implicitDefEqProofs [m__law_texts_right, mb__law_texts_right, v_firsts cM la ok]
  refine ⟨okR_of (by omega) (by omega), ?_⟩
  refine wp_each (fun ds => ∃ u v, ds = [some (mach cM a rows), some (.str a), some (rL rows), some (txD (bfsA a rows)), u, v, none, none, none]) ⟨none, none, rfl⟩ ?_ ?_
  · rintro p hp ds ⟨u, v, rfl⟩
    have hp := List.mem_range.mp hp
    obtain ⟨t, e, l, hm⟩ := key p hp
    have tl := l.ln
    have eg : m_Machine_goes cM [mach cM a rows, .int 0, .str t] = some (iD (endL a rows 0 t)) := v_goes cM la ok ok.pos l.ov (by omega)
    simp -implicitDefEqProofs [e, kvs_val, find_one la ok hm, pmI, eg, l.at_]
  · rintro ds ⟨u, v, rfl⟩
    simp -implicitDefEqProofs [v_law_texts cM la]
    refine ⟨lim_of (by omega), ?_⟩
    refine wp_lcM (fun t => iD (endL a rows 0 t)) (fun t ht => ?_) ?_
    · have eg : m__law_goes cM [.str a, rL rows, .int 0, .str t] = some (iD (endL a rows 0 t)) := v_law_goes cM ok ok.pos (upTo_over ht).1
      simp -implicitDefEqProofs [eg]
    · have hpl : D.lst ((VS.upTo a 4).map fun t => iD (endL a rows 0 t)) = iL ((VS.upTo a 4).map (endL a rows 0)) := by rw [iL, List.map_map]; rfl
      have hps := e_sortSet ((VS.upTo a 4).map (endL a rows 0)) (by rw [List.length_map]; omega)
      simp -implicitDefEqProofs only [hpl, hps]
      simp -implicitDefEqProofs
      have hlt : ∀ p ∈ (VS.upTo a 4).map (endL a rows 0), p < rows.length := fun p hp => by
        obtain ⟨t, ht, rfl⟩ := List.mem_map.mp hp
        exact end_lt ok t 0 ok.pos (upTo_over ht).1
      have hsl := nodup_le rows.length _ ((srtN_up ((VS.upTo a 4).map (endL a rows 0))).imp fun {x y} h => Nat.ne_of_lt h) fun p hp => hlt p ((srtN_mem _ _).mp hp)
      refine ⟨lim_of (by omega), ?_⟩
      refine wp_lcM (fun _ => .bl true) (fun p hp => ?_) ?_
      · have hp := (srtN_mem _ _).mp hp
        obtain ⟨t, e, l, hm⟩ := key p (hlt p hp)
        simp -implicitDefEqProofs [e, dIndex_iL hp, first_least la l hp]
      · rw [dAll_map (f := fun _ => true)]; simp
end
end LW
end
section
set_option maxRecDepth 100000
set_option maxHeartbeats 4000000
/-! k17's own defs reckoned: numbering -/
namespace LW
open PySem L2 RX VS Evl
section
variable (cM : Addr)
theorem mk_eq {a b : Tx} {r1 r2 : List (List Nat)} {m n : Nat} (h1 : ROk m r1) (h2 : ROk n r2) (g : Bool → Bool) : dOwn g cM (m_Machine___eq__ cM) (mach cM a r1) (mach cM b r2) = some (.bl (g (decide (a = b) && decide (r1 = r2)))) := by
  simp -implicitDefEqProofs [v_eq cM h1 h2]
/-- a machine shown: as the law tells it -/
theorem shown {a : Tx} {rows : List (List Nat)} (la : LOk a) (ok : ROk a.length rows) : ∃ t1 t2 : Tx, dRepr (.str a) = some (.str t1) ∧ dRepr (rL rows) = some (.str t2) ∧ t1.length ≤ 100 ∧ t2.length ≤ 8000 ∧ m_Machine___repr__ cM [mach cM a rows] = some (.str ([77, 97, 99, 104, 105, 110, 101, 40] ++ t1 ++ [44, 32] ++ t2 ++ [41])) := by
  obtain ⟨t1, h1, l1⟩ := LOk.rep la
  obtain ⟨t2, h2, l2⟩ := ROk.rep ok la.le3
  exact ⟨t1, t2, h1, h2, l1, l2, v_repr cM h1 h2 l1 l2⟩
theorem num_again {m s : Nat} {rows : List (List Nat)} (ok : ROk m rows) (hs : s < rows.length) : calledL (calledL rows (metL rows s)) (metL (calledL rows (metL rows s)) 0) = calledL rows (metL rows s) := by
  have sh := metL_shut ok hs
  have h := numbered_called ok sh.two sh.lt (List.mem_of_getElem? sh.hd)
  rwa [shut_pos sh] at h
theorem v_numbered_right {x y : Int} {a : Tx} {rows : List (List Nat)} (la : LOk a) (ok : ROk a.length rows) (al : RAll rows) (hy : PY y) : Wp (m__law_numbered_right cM [pot x y, mach cM a rows, .str a, rL rows]) fun r => r.1 = .bl true ∧ ∃ x' y', r.2 = pot x' y' ∧ PY y' := by
  have o1 := ok.le
  have sh := metL_shut ok ok.pos
  have ml := nodup_le _ _ sh.nd sh.lt
  have ok1 := called_okS ok sh
  have e1 : m__law_met cM [rL rows, .int 0] = some (iL (metL rows 0)) := v_law_met cM ok ok.pos la.le3
  have e2 := v_called cM (shut_row ok la.le3 sh) (show (metL rows 0).length ≤ 1000 by omega)
  obtain ⟨t1, t2, r1, r2, l1, l2, r3⟩ := shown cM la ok1
  have hl : 8 + (t1.length + (2 + (t2.length + 1))) ≤ sizeLine := by unfold sizeLine; omega
  have ll : 8 + t1.length ≤ sizeLine ∧ 8 + t1.length + 2 ≤ sizeLine ∧ 8 + t1.length + 2 + t2.length ≤ sizeLine ∧ 8 + t1.length + 2 + t2.length + 1 ≤ sizeLine := by unfold sizeLine; omega
  simp -implicitDefEqProofs [m__law_numbered_right, mb__law_numbered_right, e1, e2, v_numbered cM la ok, r1, r2, r3, v_numbered cM la ok1, num_again ok ok.pos, v_eq cM ok1 ok1, show ∀ n, rgD 1 n = (List.range' 1 n).map iD from fun n => rgD_nat 1 n]
  refine ⟨by unfold sizeLine; omega, by unfold sizeLine; omega, by unfold sizeLine; omega, by unfold sizeLine; omega, okRg_of (by decide) (by decide) (by omega) (by omega), ?_⟩
  refine wp_while (fun n ds => ∃ (x y : Int) (rest order : List Nat), n = rest.length ∧ PY y ∧ Shuf rows.length rest order ∧ ds = [some (pot x y), some (mach cM a rows), some (.str a), some (rL rows), some (rL (calledL rows (metL rows 0))), some (mach cM a (calledL rows (metL rows 0))), some (iL rest), some (iL order)]) (n := rows.length - 1) ⟨x, y, _, [0], by rw [List.length_range'], hy, Shuf.start ok.pos, rfl⟩ (by omega) ?_
  rintro n ds ⟨x, y, rest, order, rfl, hy, sf, rfl⟩
  have rl := sf.rl
  have ol := sf.ol
  have ene : dNe (iL rest) (.lst []) = some (.bl (!decide (rest = []))) := dNe_iL rest []
  simp -implicitDefEqProofs [ene]
  by_cases hr : rest = []
  · subst hr
    have sh2 := sf.shut ok al
    have e3 := v_called cM (shut_row ok la.le3 sh2) (show order.length ≤ 1000 by omega)
    have ok2 := called_okS ok sh2
    have en := numbered_called ok sh2.two sh2.lt (List.mem_of_getElem? sh2.hd)
    rw [shut_pos sh2] at en
    simp -implicitDefEqProofs [e3, v_init cM (.inl rfl) la ok2 (called_allS ok sh2), v_numbered cM la ok2, en, v_eq cM ok1 ok1, v_eq cM ok ok1, dEq_rows ok ok1]
    exact ⟨x, y, ⟨rfl, rfl⟩, hy⟩
  · have hrl : 0 < rest.length := List.length_pos_iff.mpr hr
    simp -implicitDefEqProofs [hr]
    refine w_draw cM hy (by omega) (by omega) fun j x4 y4 hj py => ?_
    have hj : j < rest.length := by omega
    simp -implicitDefEqProofs [hj]
    refine ⟨lim_of (by omega), lim_of' (by omega), rest.length - 1, by omega, x4, y4, rest.eraseIdx j, by rw [List.length_eraseIdx, if_pos hj], py, order ++ [rest[j]], sf.next hj, ⟨rfl, rfl⟩, erase_mapB _ _ _, by simp⟩
theorem v_at_right {x y : Int} {a : Tx} {rows : List (List Nat)} (la : LOk a) (ok : ROk a.length rows) (hy : PY y) : Wp (m__law_at_right cM [pot x y, mach cM a rows, .str a, rL rows]) fun r => r.1 = .bl true ∧ ∃ x' y', r.2 = pot x' y' ∧ PY y' := by
  have o1 := ok.le
  have o2 := la.pos
  have o3 := la.le3
  simp -implicitDefEqProofs [m__law_at_right, mb__law_at_right]
  refine ⟨okR_of (by omega) (by omega), ?_⟩
  refine wp_each (fun ds => ∃ (x y : Int) (u v w z t : Option D), PY y ∧ ds = [some (pot x y), some (mach cM a rows), some (.str a), some (rL rows), u, v, w, z, t, none]) ⟨x, y, none, none, none, none, none, hy, rfl⟩ ?_ ?_
  · rintro s hs ds ⟨x, y, u, v, w, z, t, hy, rfl⟩
    have hs := List.mem_range.mp hs
    have sh := metL_shut ok hs
    have ml := nodup_le _ _ sh.nd sh.lt
    have ok1 := called_okS ok sh
    have e1 := v_law_met cM ok hs la.le3
    have e2 := v_called cM (shut_row ok la.le3 sh) (show (metL rows s).length ≤ 1000 by omega)
    obtain ⟨t1, t2, r1, r2, l1, l2, r3⟩ := shown cM la ok1
    simp -implicitDefEqProofs [e1, e2, v_at cM la ok hs]
    refine wp_each (F := id) (l := [mach cM a (calledL rows (metL rows s)), mach cM a (calledL rows (metL rows s))]) (fun ds => ∃ z, ds = [some (pot x y), some (mach cM a rows), some (.str a), some (rL rows), some (iD s), some (iL (metL rows s)), some (rL (calledL rows (metL rows s))), z, t, none]) ⟨z, rfl⟩ ?_ ?_
    · rintro d hd ds ⟨z, rfl⟩
      obtain rfl : d = mach cM a (calledL rows (metL rows s)) := by simpa using hd
      simp -implicitDefEqProofs [r1, r2, r3, v_numbered cM la ok1, num_again ok hs, v_eq cM ok1 ok1]
      refine ⟨by unfold sizeLine; omega, by unfold sizeLine; omega, by unfold sizeLine; omega, by unfold sizeLine; omega⟩
    · rintro ds ⟨z, rfl⟩
      simp -implicitDefEqProofs
      refine w_draw cM hy (by decide) (by decide) fun n x y hn hy => ?_
      simp -implicitDefEqProofs
      refine ⟨okR_of (by omega) (by omega), lim_of (by omega), ?_⟩
      refine wp_lcX (fun p ys ds => ∃ (tt : Tx), ys = tt.map (fun c => D.str [c]) ∧ tt.length = p.length ∧ (∀ c ∈ tt, c ∈ a) ∧ ∃ (x y : Int), PY y ∧ ds = [some (pot x y), some (mach cM a rows), some (.str a), some (rL rows), some (iD s), some (iL (metL rows s)), some (rL (calledL rows (metL rows s))), z, t, none]) ⟨[], rfl, rfl, fun c hc => (nomatch hc), x, y, hy, rfl⟩ ?_ ?_
      · rintro p i q ys ds hp ⟨tt, rfl, htl, hta, x, y, hy, rfl⟩
        simp -implicitDefEqProofs
        refine w_pickS cM hy o2 (by omega) fun c x y hc hy => ?_
        refine ⟨tt ++ [c], by simp, by simp [htl], fun d hd => ?_, x, y, hy, rfl⟩
        rcases List.mem_append.mp hd with q | q
        · exact hta d q
        · rw [List.mem_singleton.mp q]; exact hc
      · rintro ys ds ⟨tt, rfl, htl, hta, x, y, hy, rfl⟩
        rw [List.length_range] at htl
        have hs0 : s ∈ metL rows s := List.mem_of_getElem? sh.hd
        obtain ⟨q1, q2⟩ := end_called ok sh.two sh.lt tt s hs0 hta
        rw [shut_pos sh] at q2
        have g1 : m_Machine_goes cM [mach cM a (calledL rows (metL rows s)), .int 0, .str tt] = some (iD (posOf (metL rows s) (endL a rows s tt))) := by
          rw [← q2]; exact v_goes cM la ok1 ok1.pos hta (by omega)
        have g2 := v_goes cM la ok hs hta (by omega)
        simp -implicitDefEqProofs [join_one (show tt.length ≤ 1000000 by omega), v_at cM la ok hs, g1, g2, (pos_at _ _ q1).1]
        exact hy
  · rintro ds ⟨x, y, u, v, w, z, t, hy, rfl⟩
    have ea : m_Machine_at cM [mach cM a rows, .int 0] = some (mach cM a (calledL rows (metL rows 0))) := v_at cM la ok ok.pos
    have ok1 := called_okS ok (metL_shut ok ok.pos)
    simp -implicitDefEqProofs [ea, v_numbered cM la ok, v_eq cM ok1 ok1]
    exact ⟨x, y, ⟨rfl, rfl⟩, hy⟩
end
end LW
end
section
set_option maxRecDepth 100000
set_option maxHeartbeats 4000000
/-! k17's own defs reckoned: rows drawn, long rows, the whole -/
namespace LW
open PySem L2 RX VS Evl
section
variable (cM : Addr)
theorem range_at {n i : Nat} {p q : List Nat} (h : List.range n = p ++ i :: q) : i = p.length ∧ i < n := by
  have h1 : (List.range n)[p.length]? = some i := by rw [h, List.getElem?_append_right (Nat.le_refl _), Nat.sub_self]; rfl
  obtain ⟨h2, h3⟩ := List.getElem?_eq_some_iff.mp h1
  rw [List.getElem_range] at h3
  rw [List.length_range] at h2
  omega
theorem repT_one (c : Nat) : ∀ n : Nat, repT [c] n = List.replicate n c
  | 0 => rfl
  | n + 1 => by
    have := repT_one c n
    unfold repT at this ⊢
    rw [List.replicate_succ, List.flatten_cons, this, List.replicate_succ]
    rfl
theorem min_nat (i j : Nat) : dMin (.int i) (.int j) = some (iD (min i j)) := by
  show some (D.int (if (j : Int) < i then j else i)) = _
  have : (if (j : Int) < (i : Int) then (j : Int) else i) = ((min i j : Nat) : Int) := by split <;> omega
  rw [this]
theorem v_come_right {x y : Int} {a : Tx} (la : LOk a) (hy : PY y) : Wp (m__law_come_right cM [pot x y, .str a]) fun r => r.1 = .bl true ∧ ∃ x' y', r.2 = pot x' y' ∧ PY y' := by
  have o3 := la.le3
  have als : a.length ≤ sizeLine := by unfold sizeLine; omega
  simp -implicitDefEqProofs [m__law_come_right, mb__law_come_right]
  refine w_draw cM hy (by decide) (by decide) fun n x y hn hy => ?_
  simp -implicitDefEqProofs
  have n1 : (1 + (n : Int)) = ((n + 1 : Nat) : Int) := by omega
  rw [n1, Int.toNat_natCast]
  refine ⟨okR_of (by omega) (by omega), by unfold lim; omega, ?_⟩
  refine wp_lcX (fun p ys ds => ∃ rs : List (List Nat), ys = rs.map iL ∧ rs.length = p.length ∧ (∀ r ∈ rs, r.length = a.length ∧ ∀ g ∈ r, g < n + 1) ∧ ∃ x y, PY y ∧ ds = [some (pot x y), some (.str a), some (iD (n + 1)), none, none, none, none, none, none]) ⟨[], rfl, rfl, fun c hc => (nomatch hc), x, y, hy, rfl⟩ ?_ ?_
  · rintro p i q ys ds hp ⟨rs, rfl, hrl, hra, x, y, hy, rfl⟩
    simp -implicitDefEqProofs [als]
    refine ⟨okR_of (by omega) (by omega), lim_of (by omega), ?_⟩
    refine wp_lcX (fun p ys ds => ∃ r : List Nat, ys = r.map iD ∧ r.length = p.length ∧ (∀ g ∈ r, g < n + 1) ∧ ∃ x y, PY y ∧ ds = [some (pot x y), some (.str a), some (iD (n + 1)), none, none, none, none, some (iD i), none]) ⟨[], rfl, rfl, fun c hc => (nomatch hc), x, y, hy, rfl⟩ ?_ ?_
    · rintro p j q ys ds hp ⟨r, rfl, hrl, hra, x, y, hy, rfl⟩
      simp -implicitDefEqProofs
      refine w_draw cM hy (by omega) (by omega) fun g x y hg hy => ?_
      refine ⟨r ++ [g], by simp, by simp [hrl], fun d hd => ?_, x, y, hy, rfl⟩
      rcases List.mem_append.mp hd with q | q
      · exact hra d q
      · rw [List.mem_singleton.mp q]; omega
    · rintro ys ds ⟨r, rfl, hrl2, hra2, x, y, hy, rfl⟩
      rw [List.length_range] at hrl2
      simp -implicitDefEqProofs
      refine ⟨rs ++ [r], by simp, by simp [hrl], fun d hd => ?_, hy⟩
      rcases List.mem_append.mp hd with q | q
      · exact hra d q
      · rw [List.mem_singleton.mp q]; exact ⟨hrl2, hra2⟩
  · rintro ys ds ⟨rs, rfl, hrl, hra, x, y, hy, rfl⟩
    rw [List.length_range] at hrl
    have ok : ROk a.length rs := ⟨by omega, by omega, fun r hr => (hra r hr).1, fun r hr g hg => by rw [hrl]; exact (hra r hr).2 g hg⟩
    have sh := metL_shut ok ok.pos
    have ml := nodup_le _ _ sh.nd sh.lt
    have o1 := ok.le
    have ok1 := called_okS ok sh
    have e1 : m__law_met cM [rL rs, .int 0] = some (iL (metL rs 0)) := v_law_met cM ok ok.pos la.le3
    have e2 := v_called cM (shut_row ok la.le3 sh) (show (metL rs 0).length ≤ 1000 by omega)
    obtain ⟨tr, r0, l0⟩ := ROk.rep ok la.le3
    obtain ⟨t1, t2, r1, r2, l1, l2, r3⟩ := shown cM la ok1
    simp -implicitDefEqProofs [r0, e1, e2, v_come_to cM (.inl rfl) la ok, v_come_to cM (.inr (.inr rfl)) la ok, pm2]
    refine wp_each (F := id) (l := [mach cM a (calledL rs (metL rs 0)), mach cM a (calledL rs (metL rs 0))]) (fun ds => ∃ z, ds = [some (pot x y), some (.str a), some (iD (n + 1)), some (rL rs), some (.str tr), some (rL (calledL rs (metL rs 0))), z, none, none]) ⟨_, rfl⟩ ?_ ?_
    · rintro d hd ds ⟨z, rfl⟩
      obtain rfl : d = mach cM a (calledL rs (metL rs 0)) := by simpa using hd
      simp -implicitDefEqProofs [r1, r2, r3, v_init cM (.inl rfl) la ok1 (called_allS ok sh), v_eq cM ok1 ok1]
      refine ⟨by unfold sizeLine; omega, by unfold sizeLine; omega, by unfold sizeLine; omega, by unfold sizeLine; omega⟩
    · rintro ds ⟨z, rfl⟩
      simp -implicitDefEqProofs [r0]
      exact ⟨x, y, ⟨rfl, rfl⟩, hy⟩
theorem v_long_right {x y : Int} {a : Tx} (la : LOk a) (hy : PY y) : Wp (m__law_long_right cM [pot x y, .str a]) fun r => r.1 = .bl true ∧ ∃ x' y', r.2 = pot x' y' ∧ PY y' := by
  have o2 := la.pos
  have o3 := la.le3
  have als : a.length ≤ sizeLine := by unfold sizeLine; omega
  simp -implicitDefEqProofs [m__law_long_right, mb__law_long_right]
  refine w_draw cM hy (by decide) (by decide) fun n x y hn hy => ?_
  simp -implicitDefEqProofs
  have n1 : (60 + (n : Int)) = ((n + 60 : Nat) : Int) := by omega
  rw [n1, Int.toNat_natCast]
  refine ⟨okR_of (by omega) (by omega), by unfold lim; omega, ?_⟩
  refine wp_lcX (fun p ys ds => ∃ rs : List (List Nat), ys = rs.map iL ∧ rs.length = p.length ∧ (∀ i, i < rs.length → ∃ d, d ≤ i ∧ rs[i]? = some (min (i + 1) (n + 60 - 1) :: List.replicate (a.length - 1) d)) ∧ ∃ x y, PY y ∧ ds = [some (pot x y), some (.str a), some (iD (n + 60)), none, none, none, none]) ⟨[], rfl, rfl, fun i hi => absurd hi (Nat.not_lt_zero _), x, y, hy, rfl⟩ ?_ ?_
  · rintro p i q ys ds hp ⟨rs, rfl, hrl, hra, x, y, hy, rfl⟩
    have hi : i = p.length ∧ i < n + 60 := range_at hp
    have mn : dMin (.int ((i : Int) + 1)) (.int ((n : Int) + 60 - 1)) = some (iD (min (i + 1) (n + 60 - 1))) := by
      rw [show (i : Int) + 1 = ((i + 1 : Nat) : Int) by omega, show (n : Int) + 60 - 1 = ((n + 60 - 1 : Nat) : Int) by omega]
      exact min_nat _ _
    simp -implicitDefEqProofs [als, mn]
    refine w_draw cM hy (by omega) (by omega) fun g x y hg hy => ?_
    refine ⟨⟨by omega, by omega, by omega⟩, by omega, rs ++ [min (i + 1) (n + 60 - 1) :: List.replicate (a.length - 1) g], by simp, by simp [hrl], fun j hj => ?_, x, y, hy, rfl⟩
    by_cases hj2 : j < rs.length
    · obtain ⟨d, h1, h2⟩ := hra j hj2
      exact ⟨d, h1, by rw [List.getElem?_append_left hj2, h2]; simp⟩
    · rw [List.length_append, List.length_singleton] at hj
      have e : j = rs.length := by omega
      refine ⟨g, by omega, ?_⟩
      rw [e, List.getElem?_append_right (Nat.le_refl _), Nat.sub_self, hrl, ← hi.1]
      simp
  · rintro ys ds ⟨rs, rfl, hrl, hra, x, y, hy, rfl⟩
    rw [List.length_range] at hrl
    have lg : LongR a.length rs := ⟨o2, fun p hp => by rw [hrl]; exact hra p hp⟩
    have ok := lg.ok (by omega) (by omega)
    have met0 := lg.met (by omega)
    have al : RAll rs := fun i hi => by rw [met0, List.mem_range]; exact hi
    simp -implicitDefEqProofs [v_init cM (.inl rfl) la ok al]
    refine w_draw cM hy (by omega) (by omega) fun s x y hs hy => ?_
    have hs : s < rs.length := by omega
    obtain ⟨c, ar, har⟩ : ∃ c ar, a = c :: ar := by
      cases a with
      | nil => exact absurd o2 (Nat.lt_irrefl 0)
      | cons c ar => exact ⟨c, ar, rfl⟩
    have ft : ∀ p, p < rs.length → m_Machine_first_text cM [mach cM a rs, iD p] = some (.str (List.replicate p c)) := fun p hp => by
      obtain ⟨_, e, t, rfl, l, _⟩ := v_first_text cM la ok ((metL_shut ok ok.pos).rc p (al p hp))
      rw [e, lg.first la ok har hp l]
    have f1 := ft (n + 60 - 1) (by omega)
    have f2 := ft s hs
    have sh := metL_shut ok hs
    have ml := nodup_le _ _ sh.nd sh.lt
    have ok1 := called_okS ok sh
    have e1 := v_law_met cM ok hs la.le3
    have e2 := v_called cM (shut_row ok la.le3 sh) (show (metL rs s).length ≤ 1000 by omega)
    have e3 : calledL rs (metL rs 0) = rs := by rw [met0]; exact called_range ok
    obtain ⟨tr, r0, l0⟩ := ROk.rep ok1 la.le3
    have ix0 : dIx (.str a) (.int 0) = some (.str [c]) := by
      show (if a.length ≤ sizeLine then (atI a 0).map fun c => D.str [c] else none) = _
      rw [if_pos als, har, e_zero]
      rfl
    have f1 : m_Machine_first_text cM [mach cM a rs, .int ((n : Int) + 60 - 1)] = some (.str (List.replicate (n + 60 - 1) c)) := by
      rw [← f1, show (n : Int) + 60 - 1 = ((n + 60 - 1 : Nat) : Int) by omega]
    simp -implicitDefEqProofs [f1, f2, ix0, repT_one, e1, e2, v_at cM la ok hs, v_rows cM ok1.le, r0, v_numbered cM la ok, e3, v_eq cM ok ok, v_len]
    exact ⟨⟨by omega, by omega, by omega⟩, by omega, ⟨by omega, by omega⟩, by omega, by omega, x, y, ⟨rfl, rfl⟩, hy⟩
theorem v_right {x y : Int} (hy : PY y) : Wp (m__law_right cM [pot x y]) fun r => r.1 = .bl true ∧ ∃ x' y', r.2 = pot x' y' ∧ PY y' := by
  simp -implicitDefEqProofs [m__law_right, mb__law_right]
  obtain ⟨a, x, y, e1, la, _, p1, p2⟩ := v_some_letters cM (x := x) hy.1 hy.2
  have hy : PY y := ⟨p1, p2⟩
  have o2 := la.pos
  have o3 := la.le3
  have als : a.length ≤ sizeLine := by unfold sizeLine; omega
  obtain ⟨rows, x, y, e2, ok, al, rl, p1, p2⟩ := v_law_rows cM (x := x) (mo := 7) (by decide) (by decide) o2 o3 hy.1 hy.2
  have e2 : m__law_rows cM [pot _ _, .int a.length, .int 7] = some (rL rows, pot x y) := e2
  have hy : PY y := ⟨p1, p2⟩
  have ei := v_init cM (.inl rfl) la ok al
  simp -implicitDefEqProofs [e1, als, e2, ei, v_texts_right cM la ok al]
  refine (v_numbered_right cM la ok al hy).mono ?_
  rintro ⟨d, p⟩ ⟨rfl, x, y, rfl, hy⟩
  simp -implicitDefEqProofs
  refine (v_at_right cM la ok hy).mono ?_
  rintro ⟨d, p⟩ ⟨rfl, x, y, rfl, hy⟩
  simp -implicitDefEqProofs
  refine (v_come_right cM la hy).mono ?_
  rintro ⟨d, p⟩ ⟨rfl, x, y, rfl, hy⟩
  simp -implicitDefEqProofs
  refine (v_long_right cM la hy).mono ?_
  rintro ⟨d, p⟩ ⟨rfl, x, y, rfl, hy⟩
  obtain ⟨tr, r0, l0⟩ := ROk.rep ok la.le3
  simp -implicitDefEqProofs [ei, v_eq cM ok ok, v_rows cM ok.le, r0]
  exact ⟨x, y, ⟨rfl, rfl⟩, hy⟩
end
end LW
end
section
open PySem PySem.W PyProof.Rows
set_option maxRecDepth 100000 in
set_option maxHeartbeats 0 in
open_top hdL for PySem.Challenge.rw_ringdepth_k17_whole_first_texts_and_numb
end
section
set_option maxRecDepth 100000
set_option maxHeartbeats 4000000
namespace LW
open PySem L2 RX VS Evl
theorem all_mk {l : PySem.W.OpenLaw} {w : World} {K : PySem.W.Frag} {h : Heap} {mg : Str → Option Value} {fa cM f_is_integer f_is_count f_is_list f_is_text f_are_letters f_is_row f_want_rows f_met_from f_rows_from f_Machine___init__ f_Machine_come_to p_Machine_come_to f_Machine_letters p_Machine_letters f_Machine_rows f_Machine___len__ f_is_place_of f_want_place f_want_letter f_want_text f_Machine_led f_Machine_goes f_Machine_first_text f_Machine_numbered f_Machine_at f_Machine___eq__ f_Machine___repr__ f__law_draw f__law_pick f__law_met f__law_called f__law_rows f__law_letters f__law_goes f__law_firsts f__law_texts f__law_texts_right f__law_numbered_right f__law_at_right f__law_come_right f__law_long_right f__law_right f__law_pot f_law : Addr} (X : K.In h) (G : h.Ns mainGlobals mg) (hfa : mg "law" = some (.ref fa))
    {od_is_integer an_is_integer od_is_count an_is_count od_is_list an_is_list od_is_text an_is_text od_are_letters an_are_letters od_is_row an_is_row od_want_rows an_want_rows od_met_from an_met_from od_rows_from an_rows_from od_Machine___init__ an_Machine___init__ od_Machine_come_to an_Machine_come_to od_Machine_letters an_Machine_letters od_Machine_rows an_Machine_rows od_Machine___len__ an_Machine___len__ od_is_place_of an_is_place_of od_want_place an_want_place od_want_letter an_want_letter od_want_text an_want_text od_Machine_led an_Machine_led od_Machine_goes an_Machine_goes od_Machine_first_text an_Machine_first_text od_Machine_numbered an_Machine_numbered od_Machine_at an_Machine_at od_Machine___eq__ an_Machine___eq__ od_Machine___repr__ an_Machine___repr__ od__law_draw an__law_draw od__law_pick an__law_pick od__law_met an__law_met od__law_called an__law_called od__law_rows an__law_rows od__law_letters an__law_letters od__law_goes an__law_goes od__law_firsts an__law_firsts od__law_texts an__law_texts od__law_texts_right an__law_texts_right od__law_numbered_right an__law_numbered_right od__law_at_right an__law_at_right od__law_come_right an__law_come_right od__law_long_right an__law_long_right od__law_right an__law_right od__law_pot an__law_pot od_law an_law : Option Addr} {sl_is_integer sl_is_count sl_is_list sl_is_text sl_are_letters sl_is_row sl_want_rows sl_met_from sl_rows_from sl_Machine___init__ sl_Machine_come_to sl_Machine_letters sl_Machine_rows sl_Machine___len__ sl_is_place_of sl_want_place sl_want_letter sl_want_text sl_Machine_led sl_Machine_goes sl_Machine_first_text sl_Machine_numbered sl_Machine_at sl_Machine___eq__ sl_Machine___repr__ sl__law_draw sl__law_pick sl__law_met sl__law_called sl__law_rows sl__law_letters sl__law_goes sl__law_firsts sl__law_texts sl__law_texts_right sl__law_numbered_right sl__law_at_right sl__law_come_right sl__law_long_right sl__law_right sl__law_pot sl_law : Array (Option Value)} {cv_SMALL cv_MOST_LETTERS vv_Machine_MOST_PLACES oc_is_integer kV_is_integer dc_is_integer pm_is_integer cd_is_integer ct_is_integer oc_is_count kV_is_count dc_is_count pm_is_count cd_is_count ct_is_count oc_is_list kV_is_list dc_is_list pm_is_list cd_is_list ct_is_list oc_is_text kV_is_text dc_is_text pm_is_text cd_is_text ct_is_text oc_are_letters kV_are_letters dc_are_letters pm_are_letters cd_are_letters ct_are_letters oc_is_row kV_is_row dc_is_row pm_is_row cd_is_row ct_is_row oc_want_rows kV_want_rows dc_want_rows pm_want_rows cd_want_rows ct_want_rows oc_met_from kV_met_from dc_met_from pm_met_from cd_met_from ct_met_from oc_rows_from kV_rows_from dc_rows_from pm_rows_from cd_rows_from ct_rows_from oc_Machine___init__ kV_Machine___init__ dc_Machine___init__ pm_Machine___init__ cd_Machine___init__ ct_Machine___init__ oc_Machine_come_to kV_Machine_come_to dc_Machine_come_to pm_Machine_come_to cd_Machine_come_to ct_Machine_come_to oc_Machine_letters kV_Machine_letters dc_Machine_letters pm_Machine_letters cd_Machine_letters ct_Machine_letters oc_Machine_rows kV_Machine_rows dc_Machine_rows pm_Machine_rows cd_Machine_rows ct_Machine_rows oc_Machine___len__ kV_Machine___len__ dc_Machine___len__ pm_Machine___len__ cd_Machine___len__ ct_Machine___len__ oc_is_place_of kV_is_place_of dc_is_place_of pm_is_place_of cd_is_place_of ct_is_place_of oc_want_place kV_want_place dc_want_place pm_want_place cd_want_place ct_want_place oc_want_letter kV_want_letter dc_want_letter pm_want_letter cd_want_letter ct_want_letter oc_want_text kV_want_text dc_want_text pm_want_text cd_want_text ct_want_text oc_Machine_led kV_Machine_led dc_Machine_led pm_Machine_led cd_Machine_led ct_Machine_led oc_Machine_goes kV_Machine_goes dc_Machine_goes pm_Machine_goes cd_Machine_goes ct_Machine_goes oc_Machine_first_text kV_Machine_first_text dc_Machine_first_text pm_Machine_first_text cd_Machine_first_text ct_Machine_first_text oc_Machine_numbered kV_Machine_numbered dc_Machine_numbered pm_Machine_numbered cd_Machine_numbered ct_Machine_numbered oc_Machine_at kV_Machine_at dc_Machine_at pm_Machine_at cd_Machine_at ct_Machine_at oc_Machine___eq__ kV_Machine___eq__ dc_Machine___eq__ pm_Machine___eq__ cd_Machine___eq__ ct_Machine___eq__ oc_Machine___repr__ kV_Machine___repr__ dc_Machine___repr__ pm_Machine___repr__ cd_Machine___repr__ ct_Machine___repr__ oc__law_draw kV__law_draw dc__law_draw pm__law_draw cd__law_draw ct__law_draw oc__law_pick kV__law_pick dc__law_pick pm__law_pick cd__law_pick ct__law_pick oc__law_met kV__law_met dc__law_met pm__law_met cd__law_met ct__law_met oc__law_called kV__law_called dc__law_called pm__law_called cd__law_called ct__law_called oc__law_rows kV__law_rows dc__law_rows pm__law_rows cd__law_rows ct__law_rows oc__law_letters kV__law_letters dc__law_letters pm__law_letters cd__law_letters ct__law_letters oc__law_goes kV__law_goes dc__law_goes pm__law_goes cd__law_goes ct__law_goes oc__law_firsts kV__law_firsts dc__law_firsts pm__law_firsts cd__law_firsts ct__law_firsts oc__law_texts kV__law_texts dc__law_texts pm__law_texts cd__law_texts ct__law_texts oc__law_texts_right kV__law_texts_right dc__law_texts_right pm__law_texts_right cd__law_texts_right ct__law_texts_right oc__law_numbered_right kV__law_numbered_right dc__law_numbered_right pm__law_numbered_right cd__law_numbered_right ct__law_numbered_right oc__law_at_right kV__law_at_right dc__law_at_right pm__law_at_right cd__law_at_right ct__law_at_right oc__law_come_right kV__law_come_right dc__law_come_right pm__law_come_right cd__law_come_right ct__law_come_right oc__law_long_right kV__law_long_right dc__law_long_right pm__law_long_right cd__law_long_right ct__law_long_right oc__law_right kV__law_right dc__law_right pm__law_right cd__law_right ct__law_right oc__law_pot kV__law_pot dc__law_pot pm__law_pot cd__law_pot ct__law_pot oc_law kV_law dc_law pm_law cd_law ct_law : Value}
    (aC_Machine : PySem.W.nsIn K mainGlobals "Machine" = some (some (.ref cM)))
    (pg_Machine : PySem.W.plainGet K cM Str.empty = true)
    (hd_Machine : PySem.W.hasDictIn K cM = true)
    (po_Machine : PySem.W.plainOver K cM = true)
    (sa_Machine : PySem.W.findIn K (.ref cM) "__setattr__" = some (some (.builtin "object.__setattr__")))
    (mk_Machine : PySem.W.makesIn K cM = true)
    (kc_Machine : PySem.W.keepIn K (.ref cM) = true)
    (na_Machine_own_letters : PySem.W.findIn K (.ref cM) "own_letters" = some none)
    (na_Machine_own_rows : PySem.W.findIn K (.ref cM) "own_rows" = some none)
    (sNe_Machine : PySem.W.findIn K (.ref cM) "__ne__" = some (some (.builtin "object.__ne__")))
    (sOb_Machine : PySem.W.subIn K (.ref cM) (.type "object") = some true)
    (ha_Machine : PySem.W.findIn K (.ref cM) "__class__" = some (some (.builtin "object.__class__")))
    (hm_Machine : PySem.W.mroIn K cM (.type "object") = some true)
    (sub_Machine_NoneType : PySem.W.subIn K (.type "NoneType") (.ref cM) = some false)
    (sub_Machine_bool : PySem.W.subIn K (.type "bool") (.ref cM) = some false)
    (sub_Machine_int : PySem.W.subIn K (.type "int") (.ref cM) = some false)
    (sub_Machine_str : PySem.W.subIn K (.type "str") (.ref cM) = some false)
    (sub_Machine_list : PySem.W.subIn K (.type "list") (.ref cM) = some false)
    (sub_Machine_tuple : PySem.W.subIn K (.type "tuple") (.ref cM) = some false)
    (sub_Machine_dict : PySem.W.subIn K (.type "dict") (.ref cM) = some false)
    (ty_Machine : PySem.W.typeIn K (.ref cM) = some (.type "type"))
    (nf_Machine_own : PySem.W.notFirst K cM (.ref cM) = true)
    (nf_Machine_NoneType : PySem.W.notFirst K cM (.type "NoneType") = true)
    (nf_Machine_bool : PySem.W.notFirst K cM (.type "bool") = true)
    (nf_Machine_int : PySem.W.notFirst K cM (.type "int") = true)
    (nf_Machine_str : PySem.W.notFirst K cM (.type "str") = true)
    (nf_Machine_list : PySem.W.notFirst K cM (.type "list") = true)
    (nf_Machine_tuple : PySem.W.notFirst K cM (.type "tuple") = true)
    (nf_Machine_dict : PySem.W.notFirst K cM (.type "dict") = true)
    (hn : PySem.W.specialIn K (.builtin "object.__class__") "__get__" = some (some (.builtin "getset_descriptor.__get__")))
    (htk : PySem.W.takesIn K (.builtin "object.__class__") = some true)
    (ac_SMALL : PySem.W.nsIn K mainGlobals "SMALL" = some (some cv_SMALL))
    (ec_SMALL : ∃ t, cv_SMALL = .str (stx [97, 98, 99, 100, 101, 102, 103, 104, 105, 106, 107, 108, 109, 110, 111, 112, 113, 114, 115, 116, 117, 118, 119, 120, 121, 122]) t)
    (ac_MOST_LETTERS : PySem.W.nsIn K mainGlobals "MOST_LETTERS" = some (some cv_MOST_LETTERS))
    (ec_MOST_LETTERS : ∃ t, cv_MOST_LETTERS = .int 3 t)
    (rd_Machine_MOST_PLACES : PySem.W.readsIn K cM (.type "type") = true)
    (ga_Machine_MOST_PLACES : PySem.W.specialIn K (.ref cM) "__getattribute__" = some (some (.builtin "type.__getattribute__")))
    (av_Machine_MOST_PLACES : PySem.W.findCls K (.ref cM) (.type "type") "MOST_PLACES" = some (.val vv_Machine_MOST_PLACES))
    (ev_Machine_MOST_PLACES : ∃ t, vv_Machine_MOST_PLACES = .int 120 t)
    (a_is_integer : PySem.W.nsIn K mainGlobals "is_integer" = some (some (.ref f_is_integer)))
    (l_is_integer : K.lookup f_is_integer = some ⟨oc_is_integer, od_is_integer, .func (PySem.W.fnOf "is_integer" "is_integer" (defArgs st_is_integer) (defBody st_is_integer) (defScope st_is_integer) .none kV_is_integer dc_is_integer pm_is_integer an_is_integer cd_is_integer ct_is_integer), sl_is_integer⟩)
    (c_is_integer : PySem.W.codeIn K cd_is_integer "is_integer" = true)
    (k_is_integer : PySem.W.keepIn K (.ref f_is_integer) = true)
    (a_is_count : PySem.W.nsIn K mainGlobals "is_count" = some (some (.ref f_is_count)))
    (l_is_count : K.lookup f_is_count = some ⟨oc_is_count, od_is_count, .func (PySem.W.fnOf "is_count" "is_count" (defArgs st_is_count) (defBody st_is_count) (defScope st_is_count) .none kV_is_count dc_is_count pm_is_count an_is_count cd_is_count ct_is_count), sl_is_count⟩)
    (c_is_count : PySem.W.codeIn K cd_is_count "is_count" = true)
    (k_is_count : PySem.W.keepIn K (.ref f_is_count) = true)
    (a_is_list : PySem.W.nsIn K mainGlobals "is_list" = some (some (.ref f_is_list)))
    (l_is_list : K.lookup f_is_list = some ⟨oc_is_list, od_is_list, .func (PySem.W.fnOf "is_list" "is_list" (defArgs st_is_list) (defBody st_is_list) (defScope st_is_list) .none kV_is_list dc_is_list pm_is_list an_is_list cd_is_list ct_is_list), sl_is_list⟩)
    (c_is_list : PySem.W.codeIn K cd_is_list "is_list" = true)
    (k_is_list : PySem.W.keepIn K (.ref f_is_list) = true)
    (a_is_text : PySem.W.nsIn K mainGlobals "is_text" = some (some (.ref f_is_text)))
    (l_is_text : K.lookup f_is_text = some ⟨oc_is_text, od_is_text, .func (PySem.W.fnOf "is_text" "is_text" (defArgs st_is_text) (defBody st_is_text) (defScope st_is_text) .none kV_is_text dc_is_text pm_is_text an_is_text cd_is_text ct_is_text), sl_is_text⟩)
    (c_is_text : PySem.W.codeIn K cd_is_text "is_text" = true)
    (k_is_text : PySem.W.keepIn K (.ref f_is_text) = true)
    (a_are_letters : PySem.W.nsIn K mainGlobals "are_letters" = some (some (.ref f_are_letters)))
    (l_are_letters : K.lookup f_are_letters = some ⟨oc_are_letters, od_are_letters, .func (PySem.W.fnOf "are_letters" "are_letters" (defArgs st_are_letters) (defBody st_are_letters) (defScope st_are_letters) .none kV_are_letters dc_are_letters pm_are_letters an_are_letters cd_are_letters ct_are_letters), sl_are_letters⟩)
    (c_are_letters : PySem.W.codeIn K cd_are_letters "are_letters" = true)
    (k_are_letters : PySem.W.keepIn K (.ref f_are_letters) = true)
    (a_is_row : PySem.W.nsIn K mainGlobals "is_row" = some (some (.ref f_is_row)))
    (l_is_row : K.lookup f_is_row = some ⟨oc_is_row, od_is_row, .func (PySem.W.fnOf "is_row" "is_row" (defArgs st_is_row) (defBody st_is_row) (defScope st_is_row) .none kV_is_row dc_is_row pm_is_row an_is_row cd_is_row ct_is_row), sl_is_row⟩)
    (c_is_row : PySem.W.codeIn K cd_is_row "is_row" = true)
    (k_is_row : PySem.W.keepIn K (.ref f_is_row) = true)
    (a_want_rows : PySem.W.nsIn K mainGlobals "want_rows" = some (some (.ref f_want_rows)))
    (l_want_rows : K.lookup f_want_rows = some ⟨oc_want_rows, od_want_rows, .func (PySem.W.fnOf "want_rows" "want_rows" (defArgs st_want_rows) (defBody st_want_rows) (defScope st_want_rows) .none kV_want_rows dc_want_rows pm_want_rows an_want_rows cd_want_rows ct_want_rows), sl_want_rows⟩)
    (c_want_rows : PySem.W.codeIn K cd_want_rows "want_rows" = true)
    (k_want_rows : PySem.W.keepIn K (.ref f_want_rows) = true)
    (a_met_from : PySem.W.nsIn K mainGlobals "met_from" = some (some (.ref f_met_from)))
    (l_met_from : K.lookup f_met_from = some ⟨oc_met_from, od_met_from, .func (PySem.W.fnOf "met_from" "met_from" (defArgs st_met_from) (defBody st_met_from) (defScope st_met_from) .none kV_met_from dc_met_from pm_met_from an_met_from cd_met_from ct_met_from), sl_met_from⟩)
    (c_met_from : PySem.W.codeIn K cd_met_from "met_from" = true)
    (k_met_from : PySem.W.keepIn K (.ref f_met_from) = true)
    (a_rows_from : PySem.W.nsIn K mainGlobals "rows_from" = some (some (.ref f_rows_from)))
    (l_rows_from : K.lookup f_rows_from = some ⟨oc_rows_from, od_rows_from, .func (PySem.W.fnOf "rows_from" "rows_from" (defArgs st_rows_from) (defBody st_rows_from) (defScope st_rows_from) .none kV_rows_from dc_rows_from pm_rows_from an_rows_from cd_rows_from ct_rows_from), sl_rows_from⟩)
    (c_rows_from : PySem.W.codeIn K cd_rows_from "rows_from" = true)
    (k_rows_from : PySem.W.keepIn K (.ref f_rows_from) = true)
    (a_Machine___init__ : PySem.W.findIn K (.ref cM) "__init__" = some (some (.ref f_Machine___init__)))
    (i_Machine___init__ : PySem.W.isFn K (.ref f_Machine___init__) = true)
    (l_Machine___init__ : K.lookup f_Machine___init__ = some ⟨oc_Machine___init__, od_Machine___init__, .func (PySem.W.fnOf "__init__" "Machine.__init__" (defArgs st_Machine___init__) (defBody st_Machine___init__) (defScope st_Machine___init__) .none kV_Machine___init__ dc_Machine___init__ pm_Machine___init__ an_Machine___init__ cd_Machine___init__ ct_Machine___init__), sl_Machine___init__⟩)
    (c_Machine___init__ : PySem.W.codeIn K cd_Machine___init__ "Machine.__init__" = true)
    (k_Machine___init__ : PySem.W.keepIn K (.ref f_Machine___init__) = true)
    (a_Machine_come_to : PySem.W.findCls K (.ref cM) (.type "type") "come_to" = some (.get (.builtin "staticmethod.__get__") (.ref p_Machine_come_to) .none (.ref cM)))
    (rd_Machine_come_to : PySem.W.readsIn K cM (.type "type") = true)
    (ga_Machine_come_to : PySem.W.specialIn K (.ref cM) "__getattribute__" = some (some (.builtin "type.__getattribute__")))
    (r_Machine_come_to : ∃ rest, PySem.W.recIn K p_Machine_come_to "staticmethod" = some (.ref f_Machine_come_to :: rest))
    (l_Machine_come_to : K.lookup f_Machine_come_to = some ⟨oc_Machine_come_to, od_Machine_come_to, .func (PySem.W.fnOf "come_to" "Machine.come_to" (defArgs st_Machine_come_to) (defBody st_Machine_come_to) (defScope st_Machine_come_to) .none kV_Machine_come_to dc_Machine_come_to pm_Machine_come_to an_Machine_come_to cd_Machine_come_to ct_Machine_come_to), sl_Machine_come_to⟩)
    (c_Machine_come_to : PySem.W.codeIn K cd_Machine_come_to "Machine.come_to" = true)
    (k_Machine_come_to : PySem.W.keepIn K (.ref f_Machine_come_to) = true)
    (a_Machine_letters : PySem.W.findIn K (.ref cM) "letters" = some (some (.ref p_Machine_letters)))
    (g_Machine_letters : PySem.W.specialIn K (.ref p_Machine_letters) "__get__" = some (some (.builtin "property.__get__")))
    (t_Machine_letters : PySem.W.takesIn K (.ref p_Machine_letters) = some true)
    (r_Machine_letters : ∃ rest, PySem.W.recIn K p_Machine_letters "property" = some (.ref f_Machine_letters :: rest))
    (l_Machine_letters : K.lookup f_Machine_letters = some ⟨oc_Machine_letters, od_Machine_letters, .func (PySem.W.fnOf "letters" "Machine.letters" (defArgs st_Machine_letters) (defBody st_Machine_letters) (defScope st_Machine_letters) .none kV_Machine_letters dc_Machine_letters pm_Machine_letters an_Machine_letters cd_Machine_letters ct_Machine_letters), sl_Machine_letters⟩)
    (c_Machine_letters : PySem.W.codeIn K cd_Machine_letters "Machine.letters" = true)
    (k_Machine_letters : PySem.W.keepIn K (.ref f_Machine_letters) = true)
    (a_Machine_rows : PySem.W.findIn K (.ref cM) "rows" = some (some (.ref f_Machine_rows)))
    (i_Machine_rows : PySem.W.isFn K (.ref f_Machine_rows) = true)
    (l_Machine_rows : K.lookup f_Machine_rows = some ⟨oc_Machine_rows, od_Machine_rows, .func (PySem.W.fnOf "rows" "Machine.rows" (defArgs st_Machine_rows) (defBody st_Machine_rows) (defScope st_Machine_rows) .none kV_Machine_rows dc_Machine_rows pm_Machine_rows an_Machine_rows cd_Machine_rows ct_Machine_rows), sl_Machine_rows⟩)
    (c_Machine_rows : PySem.W.codeIn K cd_Machine_rows "Machine.rows" = true)
    (k_Machine_rows : PySem.W.keepIn K (.ref f_Machine_rows) = true)
    (a_Machine___len__ : PySem.W.findIn K (.ref cM) "__len__" = some (some (.ref f_Machine___len__)))
    (i_Machine___len__ : PySem.W.isFn K (.ref f_Machine___len__) = true)
    (l_Machine___len__ : K.lookup f_Machine___len__ = some ⟨oc_Machine___len__, od_Machine___len__, .func (PySem.W.fnOf "__len__" "Machine.__len__" (defArgs st_Machine___len__) (defBody st_Machine___len__) (defScope st_Machine___len__) .none kV_Machine___len__ dc_Machine___len__ pm_Machine___len__ an_Machine___len__ cd_Machine___len__ ct_Machine___len__), sl_Machine___len__⟩)
    (c_Machine___len__ : PySem.W.codeIn K cd_Machine___len__ "Machine.__len__" = true)
    (k_Machine___len__ : PySem.W.keepIn K (.ref f_Machine___len__) = true)
    (a_is_place_of : PySem.W.nsIn K mainGlobals "is_place_of" = some (some (.ref f_is_place_of)))
    (l_is_place_of : K.lookup f_is_place_of = some ⟨oc_is_place_of, od_is_place_of, .func (PySem.W.fnOf "is_place_of" "is_place_of" (defArgs st_is_place_of) (defBody st_is_place_of) (defScope st_is_place_of) .none kV_is_place_of dc_is_place_of pm_is_place_of an_is_place_of cd_is_place_of ct_is_place_of), sl_is_place_of⟩)
    (c_is_place_of : PySem.W.codeIn K cd_is_place_of "is_place_of" = true)
    (k_is_place_of : PySem.W.keepIn K (.ref f_is_place_of) = true)
    (a_want_place : PySem.W.nsIn K mainGlobals "want_place" = some (some (.ref f_want_place)))
    (l_want_place : K.lookup f_want_place = some ⟨oc_want_place, od_want_place, .func (PySem.W.fnOf "want_place" "want_place" (defArgs st_want_place) (defBody st_want_place) (defScope st_want_place) .none kV_want_place dc_want_place pm_want_place an_want_place cd_want_place ct_want_place), sl_want_place⟩)
    (c_want_place : PySem.W.codeIn K cd_want_place "want_place" = true)
    (k_want_place : PySem.W.keepIn K (.ref f_want_place) = true)
    (a_want_letter : PySem.W.nsIn K mainGlobals "want_letter" = some (some (.ref f_want_letter)))
    (l_want_letter : K.lookup f_want_letter = some ⟨oc_want_letter, od_want_letter, .func (PySem.W.fnOf "want_letter" "want_letter" (defArgs st_want_letter) (defBody st_want_letter) (defScope st_want_letter) .none kV_want_letter dc_want_letter pm_want_letter an_want_letter cd_want_letter ct_want_letter), sl_want_letter⟩)
    (c_want_letter : PySem.W.codeIn K cd_want_letter "want_letter" = true)
    (k_want_letter : PySem.W.keepIn K (.ref f_want_letter) = true)
    (a_want_text : PySem.W.nsIn K mainGlobals "want_text" = some (some (.ref f_want_text)))
    (l_want_text : K.lookup f_want_text = some ⟨oc_want_text, od_want_text, .func (PySem.W.fnOf "want_text" "want_text" (defArgs st_want_text) (defBody st_want_text) (defScope st_want_text) .none kV_want_text dc_want_text pm_want_text an_want_text cd_want_text ct_want_text), sl_want_text⟩)
    (c_want_text : PySem.W.codeIn K cd_want_text "want_text" = true)
    (k_want_text : PySem.W.keepIn K (.ref f_want_text) = true)
    (a_Machine_led : PySem.W.findIn K (.ref cM) "led" = some (some (.ref f_Machine_led)))
    (i_Machine_led : PySem.W.isFn K (.ref f_Machine_led) = true)
    (l_Machine_led : K.lookup f_Machine_led = some ⟨oc_Machine_led, od_Machine_led, .func (PySem.W.fnOf "led" "Machine.led" (defArgs st_Machine_led) (defBody st_Machine_led) (defScope st_Machine_led) .none kV_Machine_led dc_Machine_led pm_Machine_led an_Machine_led cd_Machine_led ct_Machine_led), sl_Machine_led⟩)
    (c_Machine_led : PySem.W.codeIn K cd_Machine_led "Machine.led" = true)
    (k_Machine_led : PySem.W.keepIn K (.ref f_Machine_led) = true)
    (a_Machine_goes : PySem.W.findIn K (.ref cM) "goes" = some (some (.ref f_Machine_goes)))
    (i_Machine_goes : PySem.W.isFn K (.ref f_Machine_goes) = true)
    (l_Machine_goes : K.lookup f_Machine_goes = some ⟨oc_Machine_goes, od_Machine_goes, .func (PySem.W.fnOf "goes" "Machine.goes" (defArgs st_Machine_goes) (defBody st_Machine_goes) (defScope st_Machine_goes) .none kV_Machine_goes dc_Machine_goes pm_Machine_goes an_Machine_goes cd_Machine_goes ct_Machine_goes), sl_Machine_goes⟩)
    (c_Machine_goes : PySem.W.codeIn K cd_Machine_goes "Machine.goes" = true)
    (k_Machine_goes : PySem.W.keepIn K (.ref f_Machine_goes) = true)
    (a_Machine_first_text : PySem.W.findIn K (.ref cM) "first_text" = some (some (.ref f_Machine_first_text)))
    (i_Machine_first_text : PySem.W.isFn K (.ref f_Machine_first_text) = true)
    (l_Machine_first_text : K.lookup f_Machine_first_text = some ⟨oc_Machine_first_text, od_Machine_first_text, .func (PySem.W.fnOf "first_text" "Machine.first_text" (defArgs st_Machine_first_text) (defBody st_Machine_first_text) (defScope st_Machine_first_text) .none kV_Machine_first_text dc_Machine_first_text pm_Machine_first_text an_Machine_first_text cd_Machine_first_text ct_Machine_first_text), sl_Machine_first_text⟩)
    (c_Machine_first_text : PySem.W.codeIn K cd_Machine_first_text "Machine.first_text" = true)
    (k_Machine_first_text : PySem.W.keepIn K (.ref f_Machine_first_text) = true)
    (a_Machine_numbered : PySem.W.findIn K (.ref cM) "numbered" = some (some (.ref f_Machine_numbered)))
    (i_Machine_numbered : PySem.W.isFn K (.ref f_Machine_numbered) = true)
    (l_Machine_numbered : K.lookup f_Machine_numbered = some ⟨oc_Machine_numbered, od_Machine_numbered, .func (PySem.W.fnOf "numbered" "Machine.numbered" (defArgs st_Machine_numbered) (defBody st_Machine_numbered) (defScope st_Machine_numbered) .none kV_Machine_numbered dc_Machine_numbered pm_Machine_numbered an_Machine_numbered cd_Machine_numbered ct_Machine_numbered), sl_Machine_numbered⟩)
    (c_Machine_numbered : PySem.W.codeIn K cd_Machine_numbered "Machine.numbered" = true)
    (k_Machine_numbered : PySem.W.keepIn K (.ref f_Machine_numbered) = true)
    (a_Machine_at : PySem.W.findIn K (.ref cM) "at" = some (some (.ref f_Machine_at)))
    (i_Machine_at : PySem.W.isFn K (.ref f_Machine_at) = true)
    (l_Machine_at : K.lookup f_Machine_at = some ⟨oc_Machine_at, od_Machine_at, .func (PySem.W.fnOf "at" "Machine.at" (defArgs st_Machine_at) (defBody st_Machine_at) (defScope st_Machine_at) .none kV_Machine_at dc_Machine_at pm_Machine_at an_Machine_at cd_Machine_at ct_Machine_at), sl_Machine_at⟩)
    (c_Machine_at : PySem.W.codeIn K cd_Machine_at "Machine.at" = true)
    (k_Machine_at : PySem.W.keepIn K (.ref f_Machine_at) = true)
    (a_Machine___eq__ : PySem.W.findIn K (.ref cM) "__eq__" = some (some (.ref f_Machine___eq__)))
    (i_Machine___eq__ : PySem.W.isFn K (.ref f_Machine___eq__) = true)
    (l_Machine___eq__ : K.lookup f_Machine___eq__ = some ⟨oc_Machine___eq__, od_Machine___eq__, .func (PySem.W.fnOf "__eq__" "Machine.__eq__" (defArgs st_Machine___eq__) (defBody st_Machine___eq__) (defScope st_Machine___eq__) .none kV_Machine___eq__ dc_Machine___eq__ pm_Machine___eq__ an_Machine___eq__ cd_Machine___eq__ ct_Machine___eq__), sl_Machine___eq__⟩)
    (c_Machine___eq__ : PySem.W.codeIn K cd_Machine___eq__ "Machine.__eq__" = true)
    (k_Machine___eq__ : PySem.W.keepIn K (.ref f_Machine___eq__) = true)
    (a_Machine___repr__ : PySem.W.findIn K (.ref cM) "__repr__" = some (some (.ref f_Machine___repr__)))
    (i_Machine___repr__ : PySem.W.isFn K (.ref f_Machine___repr__) = true)
    (l_Machine___repr__ : K.lookup f_Machine___repr__ = some ⟨oc_Machine___repr__, od_Machine___repr__, .func (PySem.W.fnOf "__repr__" "Machine.__repr__" (defArgs st_Machine___repr__) (defBody st_Machine___repr__) (defScope st_Machine___repr__) .none kV_Machine___repr__ dc_Machine___repr__ pm_Machine___repr__ an_Machine___repr__ cd_Machine___repr__ ct_Machine___repr__), sl_Machine___repr__⟩)
    (c_Machine___repr__ : PySem.W.codeIn K cd_Machine___repr__ "Machine.__repr__" = true)
    (k_Machine___repr__ : PySem.W.keepIn K (.ref f_Machine___repr__) = true)
    (a__law_draw : PySem.W.nsIn K mainGlobals "_law_draw" = some (some (.ref f__law_draw)))
    (l__law_draw : K.lookup f__law_draw = some ⟨oc__law_draw, od__law_draw, .func (PySem.W.fnOf "_law_draw" "_law_draw" (defArgs st__law_draw) (defBody st__law_draw) (defScope st__law_draw) .none kV__law_draw dc__law_draw pm__law_draw an__law_draw cd__law_draw ct__law_draw), sl__law_draw⟩)
    (c__law_draw : PySem.W.codeIn K cd__law_draw "_law_draw" = true)
    (k__law_draw : PySem.W.keepIn K (.ref f__law_draw) = true)
    (a__law_pick : PySem.W.nsIn K mainGlobals "_law_pick" = some (some (.ref f__law_pick)))
    (l__law_pick : K.lookup f__law_pick = some ⟨oc__law_pick, od__law_pick, .func (PySem.W.fnOf "_law_pick" "_law_pick" (defArgs st__law_pick) (defBody st__law_pick) (defScope st__law_pick) .none kV__law_pick dc__law_pick pm__law_pick an__law_pick cd__law_pick ct__law_pick), sl__law_pick⟩)
    (c__law_pick : PySem.W.codeIn K cd__law_pick "_law_pick" = true)
    (k__law_pick : PySem.W.keepIn K (.ref f__law_pick) = true)
    (a__law_met : PySem.W.nsIn K mainGlobals "_law_met" = some (some (.ref f__law_met)))
    (l__law_met : K.lookup f__law_met = some ⟨oc__law_met, od__law_met, .func (PySem.W.fnOf "_law_met" "_law_met" (defArgs st__law_met) (defBody st__law_met) (defScope st__law_met) .none kV__law_met dc__law_met pm__law_met an__law_met cd__law_met ct__law_met), sl__law_met⟩)
    (c__law_met : PySem.W.codeIn K cd__law_met "_law_met" = true)
    (k__law_met : PySem.W.keepIn K (.ref f__law_met) = true)
    (a__law_called : PySem.W.nsIn K mainGlobals "_law_called" = some (some (.ref f__law_called)))
    (l__law_called : K.lookup f__law_called = some ⟨oc__law_called, od__law_called, .func (PySem.W.fnOf "_law_called" "_law_called" (defArgs st__law_called) (defBody st__law_called) (defScope st__law_called) .none kV__law_called dc__law_called pm__law_called an__law_called cd__law_called ct__law_called), sl__law_called⟩)
    (c__law_called : PySem.W.codeIn K cd__law_called "_law_called" = true)
    (k__law_called : PySem.W.keepIn K (.ref f__law_called) = true)
    (a__law_rows : PySem.W.nsIn K mainGlobals "_law_rows" = some (some (.ref f__law_rows)))
    (l__law_rows : K.lookup f__law_rows = some ⟨oc__law_rows, od__law_rows, .func (PySem.W.fnOf "_law_rows" "_law_rows" (defArgs st__law_rows) (defBody st__law_rows) (defScope st__law_rows) .none kV__law_rows dc__law_rows pm__law_rows an__law_rows cd__law_rows ct__law_rows), sl__law_rows⟩)
    (c__law_rows : PySem.W.codeIn K cd__law_rows "_law_rows" = true)
    (k__law_rows : PySem.W.keepIn K (.ref f__law_rows) = true)
    (a__law_letters : PySem.W.nsIn K mainGlobals "_law_letters" = some (some (.ref f__law_letters)))
    (l__law_letters : K.lookup f__law_letters = some ⟨oc__law_letters, od__law_letters, .func (PySem.W.fnOf "_law_letters" "_law_letters" (defArgs st__law_letters) (defBody st__law_letters) (defScope st__law_letters) .none kV__law_letters dc__law_letters pm__law_letters an__law_letters cd__law_letters ct__law_letters), sl__law_letters⟩)
    (c__law_letters : PySem.W.codeIn K cd__law_letters "_law_letters" = true)
    (k__law_letters : PySem.W.keepIn K (.ref f__law_letters) = true)
    (a__law_goes : PySem.W.nsIn K mainGlobals "_law_goes" = some (some (.ref f__law_goes)))
    (l__law_goes : K.lookup f__law_goes = some ⟨oc__law_goes, od__law_goes, .func (PySem.W.fnOf "_law_goes" "_law_goes" (defArgs st__law_goes) (defBody st__law_goes) (defScope st__law_goes) .none kV__law_goes dc__law_goes pm__law_goes an__law_goes cd__law_goes ct__law_goes), sl__law_goes⟩)
    (c__law_goes : PySem.W.codeIn K cd__law_goes "_law_goes" = true)
    (k__law_goes : PySem.W.keepIn K (.ref f__law_goes) = true)
    (a__law_firsts : PySem.W.nsIn K mainGlobals "_law_firsts" = some (some (.ref f__law_firsts)))
    (l__law_firsts : K.lookup f__law_firsts = some ⟨oc__law_firsts, od__law_firsts, .func (PySem.W.fnOf "_law_firsts" "_law_firsts" (defArgs st__law_firsts) (defBody st__law_firsts) (defScope st__law_firsts) .none kV__law_firsts dc__law_firsts pm__law_firsts an__law_firsts cd__law_firsts ct__law_firsts), sl__law_firsts⟩)
    (c__law_firsts : PySem.W.codeIn K cd__law_firsts "_law_firsts" = true)
    (k__law_firsts : PySem.W.keepIn K (.ref f__law_firsts) = true)
    (a__law_texts : PySem.W.nsIn K mainGlobals "_law_texts" = some (some (.ref f__law_texts)))
    (l__law_texts : K.lookup f__law_texts = some ⟨oc__law_texts, od__law_texts, .func (PySem.W.fnOf "_law_texts" "_law_texts" (defArgs st__law_texts) (defBody st__law_texts) (defScope st__law_texts) .none kV__law_texts dc__law_texts pm__law_texts an__law_texts cd__law_texts ct__law_texts), sl__law_texts⟩)
    (c__law_texts : PySem.W.codeIn K cd__law_texts "_law_texts" = true)
    (k__law_texts : PySem.W.keepIn K (.ref f__law_texts) = true)
    (a__law_texts_right : PySem.W.nsIn K mainGlobals "_law_texts_right" = some (some (.ref f__law_texts_right)))
    (l__law_texts_right : K.lookup f__law_texts_right = some ⟨oc__law_texts_right, od__law_texts_right, .func (PySem.W.fnOf "_law_texts_right" "_law_texts_right" (defArgs st__law_texts_right) (defBody st__law_texts_right) (defScope st__law_texts_right) .none kV__law_texts_right dc__law_texts_right pm__law_texts_right an__law_texts_right cd__law_texts_right ct__law_texts_right), sl__law_texts_right⟩)
    (c__law_texts_right : PySem.W.codeIn K cd__law_texts_right "_law_texts_right" = true)
    (k__law_texts_right : PySem.W.keepIn K (.ref f__law_texts_right) = true)
    (a__law_numbered_right : PySem.W.nsIn K mainGlobals "_law_numbered_right" = some (some (.ref f__law_numbered_right)))
    (l__law_numbered_right : K.lookup f__law_numbered_right = some ⟨oc__law_numbered_right, od__law_numbered_right, .func (PySem.W.fnOf "_law_numbered_right" "_law_numbered_right" (defArgs st__law_numbered_right) (defBody st__law_numbered_right) (defScope st__law_numbered_right) .none kV__law_numbered_right dc__law_numbered_right pm__law_numbered_right an__law_numbered_right cd__law_numbered_right ct__law_numbered_right), sl__law_numbered_right⟩)
    (c__law_numbered_right : PySem.W.codeIn K cd__law_numbered_right "_law_numbered_right" = true)
    (k__law_numbered_right : PySem.W.keepIn K (.ref f__law_numbered_right) = true)
    (a__law_at_right : PySem.W.nsIn K mainGlobals "_law_at_right" = some (some (.ref f__law_at_right)))
    (l__law_at_right : K.lookup f__law_at_right = some ⟨oc__law_at_right, od__law_at_right, .func (PySem.W.fnOf "_law_at_right" "_law_at_right" (defArgs st__law_at_right) (defBody st__law_at_right) (defScope st__law_at_right) .none kV__law_at_right dc__law_at_right pm__law_at_right an__law_at_right cd__law_at_right ct__law_at_right), sl__law_at_right⟩)
    (c__law_at_right : PySem.W.codeIn K cd__law_at_right "_law_at_right" = true)
    (k__law_at_right : PySem.W.keepIn K (.ref f__law_at_right) = true)
    (a__law_come_right : PySem.W.nsIn K mainGlobals "_law_come_right" = some (some (.ref f__law_come_right)))
    (l__law_come_right : K.lookup f__law_come_right = some ⟨oc__law_come_right, od__law_come_right, .func (PySem.W.fnOf "_law_come_right" "_law_come_right" (defArgs st__law_come_right) (defBody st__law_come_right) (defScope st__law_come_right) .none kV__law_come_right dc__law_come_right pm__law_come_right an__law_come_right cd__law_come_right ct__law_come_right), sl__law_come_right⟩)
    (c__law_come_right : PySem.W.codeIn K cd__law_come_right "_law_come_right" = true)
    (k__law_come_right : PySem.W.keepIn K (.ref f__law_come_right) = true)
    (a__law_long_right : PySem.W.nsIn K mainGlobals "_law_long_right" = some (some (.ref f__law_long_right)))
    (l__law_long_right : K.lookup f__law_long_right = some ⟨oc__law_long_right, od__law_long_right, .func (PySem.W.fnOf "_law_long_right" "_law_long_right" (defArgs st__law_long_right) (defBody st__law_long_right) (defScope st__law_long_right) .none kV__law_long_right dc__law_long_right pm__law_long_right an__law_long_right cd__law_long_right ct__law_long_right), sl__law_long_right⟩)
    (c__law_long_right : PySem.W.codeIn K cd__law_long_right "_law_long_right" = true)
    (k__law_long_right : PySem.W.keepIn K (.ref f__law_long_right) = true)
    (a__law_right : PySem.W.nsIn K mainGlobals "_law_right" = some (some (.ref f__law_right)))
    (l__law_right : K.lookup f__law_right = some ⟨oc__law_right, od__law_right, .func (PySem.W.fnOf "_law_right" "_law_right" (defArgs st__law_right) (defBody st__law_right) (defScope st__law_right) .none kV__law_right dc__law_right pm__law_right an__law_right cd__law_right ct__law_right), sl__law_right⟩)
    (c__law_right : PySem.W.codeIn K cd__law_right "_law_right" = true)
    (k__law_right : PySem.W.keepIn K (.ref f__law_right) = true)
    (a__law_pot : PySem.W.nsIn K mainGlobals "_law_pot" = some (some (.ref f__law_pot)))
    (l__law_pot : K.lookup f__law_pot = some ⟨oc__law_pot, od__law_pot, .func (PySem.W.fnOf "_law_pot" "_law_pot" (defArgs st__law_pot) (defBody st__law_pot) (defScope st__law_pot) .none kV__law_pot dc__law_pot pm__law_pot an__law_pot cd__law_pot ct__law_pot), sl__law_pot⟩)
    (c__law_pot : PySem.W.codeIn K cd__law_pot "_law_pot" = true)
    (k__law_pot : PySem.W.keepIn K (.ref f__law_pot) = true)
    (a_law : PySem.W.nsIn K mainGlobals "law" = some (some (.ref f_law)))
    (l_law : K.lookup f_law = some ⟨oc_law, od_law, .func (PySem.W.fnOf "law" "law" (defArgs st_law) (defBody st_law) (defScope st_law) .none kV_law dc_law pm_law an_law cd_law ct_law), sl_law⟩)
    (c_law : PySem.W.codeIn K cd_law "law" = true)
    (k_law : PySem.W.keepIn K (.ref f_law) = true)
    (z_len : PySem.W.nsIn K mainGlobals "len" = some none)
    (z_int : PySem.W.nsIn K mainGlobals "int" = some none)
    (z_str : PySem.W.nsIn K mainGlobals "str" = some none)
    (z_bool : PySem.W.nsIn K mainGlobals "bool" = some none)
    (z_isinstance : PySem.W.nsIn K mainGlobals "isinstance" = some none)
    (z_all : PySem.W.nsIn K mainGlobals "all" = some none)
    (z_any : PySem.W.nsIn K mainGlobals "any" = some none)
    (z_range : PySem.W.nsIn K mainGlobals "range" = some none)
    (z_max : PySem.W.nsIn K mainGlobals "max" = some none)
    (z_min : PySem.W.nsIn K mainGlobals "min" = some none)
    (z_abs : PySem.W.nsIn K mainGlobals "abs" = some none)
    (z_divmod : PySem.W.nsIn K mainGlobals "divmod" = some none)
    (z_repr : PySem.W.nsIn K mainGlobals "repr" = some none)
    (z_list : PySem.W.nsIn K mainGlobals "list" = some none)
    (z_tuple : PySem.W.nsIn K mainGlobals "tuple" = some none)
    (z_zip : PySem.W.nsIn K mainGlobals "zip" = some none)
    (z_enumerate : PySem.W.nsIn K mainGlobals "enumerate" = some none)
    (z_sorted : PySem.W.nsIn K mainGlobals "sorted" = some none)
    (z_set : PySem.W.nsIn K mainGlobals "set" = some none)
    (z_dict : PySem.W.nsIn K mainGlobals "dict" = some none)
    (z_sum : PySem.W.nsIn K mainGlobals "sum" = some none)
    : ∃ fd : FuncData, (∀ (s : Shared) (v : Value), BindsTo s fd ⟨[v], []⟩ [("_law_script", v)]) ∧ ∀ base : Heap, K.In base → base.Ns mainGlobals mg → GOk l.prog w K mg base 9 fa fd ["_law_script"] (spLaw K) := by
  have e := hfa.symm.trans (PySem.W.mg_of X G a_law)
  cases e
  have F_is_integer := fun_mk (st := st_is_integer) l_is_integer c_is_integer k_is_integer
  have b_is_integer := F_is_integer.binds (ps := ["value"]) fun _ _ _ _ _ _ us hl => match us, hl with | [_], _ => rfl
  have m_is_integer := PySem.W.mg_of X G a_is_integer
  have F_is_count := fun_mk (st := st_is_count) l_is_count c_is_count k_is_count
  have b_is_count := F_is_count.binds (ps := ["value"]) fun _ _ _ _ _ _ us hl => match us, hl with | [_], _ => rfl
  have m_is_count := PySem.W.mg_of X G a_is_count
  have F_is_list := fun_mk (st := st_is_list) l_is_list c_is_list k_is_list
  have b_is_list := F_is_list.binds (ps := ["value"]) fun _ _ _ _ _ _ us hl => match us, hl with | [_], _ => rfl
  have m_is_list := PySem.W.mg_of X G a_is_list
  have F_is_text := fun_mk (st := st_is_text) l_is_text c_is_text k_is_text
  have b_is_text := F_is_text.binds (ps := ["value"]) fun _ _ _ _ _ _ us hl => match us, hl with | [_], _ => rfl
  have m_is_text := PySem.W.mg_of X G a_is_text
  have F_are_letters := fun_mk (st := st_are_letters) l_are_letters c_are_letters k_are_letters
  have b_are_letters := F_are_letters.binds (ps := ["value"]) fun _ _ _ _ _ _ us hl => match us, hl with | [_], _ => rfl
  have m_are_letters := PySem.W.mg_of X G a_are_letters
  have F_is_row := fun_mk (st := st_is_row) l_is_row c_is_row k_is_row
  have b_is_row := F_is_row.binds (ps := ["value", "size", "many"]) fun _ _ _ _ _ _ us hl => match us, hl with | [_, _, _], _ => rfl
  have m_is_row := PySem.W.mg_of X G a_is_row
  have F_want_rows := fun_mk (st := st_want_rows) l_want_rows c_want_rows k_want_rows
  have b_want_rows := F_want_rows.binds (ps := ["letters", "rows"]) fun _ _ _ _ _ _ us hl => match us, hl with | [_, _], _ => rfl
  have m_want_rows := PySem.W.mg_of X G a_want_rows
  have F_met_from := fun_mk (st := st_met_from) l_met_from c_met_from k_met_from
  have b_met_from := F_met_from.binds (ps := ["rows", "start"]) fun _ _ _ _ _ _ us hl => match us, hl with | [_, _], _ => rfl
  have m_met_from := PySem.W.mg_of X G a_met_from
  have F_rows_from := fun_mk (st := st_rows_from) l_rows_from c_rows_from k_rows_from
  have b_rows_from := F_rows_from.binds (ps := ["rows", "start"]) fun _ _ _ _ _ _ us hl => match us, hl with | [_, _], _ => rfl
  have m_rows_from := PySem.W.mg_of X G a_rows_from
  have F_Machine___init__ := fun_mk (st := st_Machine___init__) l_Machine___init__ c_Machine___init__ k_Machine___init__
  have b_Machine___init__ := F_Machine___init__.binds (ps := ["self", "letters", "rows"]) fun _ _ _ _ _ _ us hl => match us, hl with | [_, _, _], _ => rfl
  have F_Machine_come_to := fun_mk (st := st_Machine_come_to) l_Machine_come_to c_Machine_come_to k_Machine_come_to
  have b_Machine_come_to := F_Machine_come_to.binds (ps := ["letters", "rows"]) fun _ _ _ _ _ _ us hl => match us, hl with | [_, _], _ => rfl
  have F_Machine_letters := fun_mk (st := st_Machine_letters) l_Machine_letters c_Machine_letters k_Machine_letters
  have b_Machine_letters := F_Machine_letters.binds (ps := ["self"]) fun _ _ _ _ _ _ us hl => match us, hl with | [_], _ => rfl
  have F_Machine_rows := fun_mk (st := st_Machine_rows) l_Machine_rows c_Machine_rows k_Machine_rows
  have b_Machine_rows := F_Machine_rows.binds (ps := ["self"]) fun _ _ _ _ _ _ us hl => match us, hl with | [_], _ => rfl
  have F_Machine___len__ := fun_mk (st := st_Machine___len__) l_Machine___len__ c_Machine___len__ k_Machine___len__
  have b_Machine___len__ := F_Machine___len__.binds (ps := ["self"]) fun _ _ _ _ _ _ us hl => match us, hl with | [_], _ => rfl
  have F_is_place_of := fun_mk (st := st_is_place_of) l_is_place_of c_is_place_of k_is_place_of
  have b_is_place_of := F_is_place_of.binds (ps := ["machine", "value"]) fun _ _ _ _ _ _ us hl => match us, hl with | [_, _], _ => rfl
  have m_is_place_of := PySem.W.mg_of X G a_is_place_of
  have F_want_place := fun_mk (st := st_want_place) l_want_place c_want_place k_want_place
  have b_want_place := F_want_place.binds (ps := ["machine", "value"]) fun _ _ _ _ _ _ us hl => match us, hl with | [_, _], _ => rfl
  have m_want_place := PySem.W.mg_of X G a_want_place
  have F_want_letter := fun_mk (st := st_want_letter) l_want_letter c_want_letter k_want_letter
  have b_want_letter := F_want_letter.binds (ps := ["machine", "letter"]) fun _ _ _ _ _ _ us hl => match us, hl with | [_, _], _ => rfl
  have m_want_letter := PySem.W.mg_of X G a_want_letter
  have F_want_text := fun_mk (st := st_want_text) l_want_text c_want_text k_want_text
  have b_want_text := F_want_text.binds (ps := ["machine", "text"]) fun _ _ _ _ _ _ us hl => match us, hl with | [_, _], _ => rfl
  have m_want_text := PySem.W.mg_of X G a_want_text
  have F_Machine_led := fun_mk (st := st_Machine_led) l_Machine_led c_Machine_led k_Machine_led
  have b_Machine_led := F_Machine_led.binds (ps := ["self", "place", "text"]) fun _ _ _ _ _ _ us hl => match us, hl with | [_, _, _], _ => rfl
  have F_Machine_goes := fun_mk (st := st_Machine_goes) l_Machine_goes c_Machine_goes k_Machine_goes
  have b_Machine_goes := F_Machine_goes.binds (ps := ["self", "place", "text"]) fun _ _ _ _ _ _ us hl => match us, hl with | [_, _, _], _ => rfl
  have F_Machine_first_text := fun_mk (st := st_Machine_first_text) l_Machine_first_text c_Machine_first_text k_Machine_first_text
  have b_Machine_first_text := F_Machine_first_text.binds (ps := ["self", "place"]) fun _ _ _ _ _ _ us hl => match us, hl with | [_, _], _ => rfl
  have F_Machine_numbered := fun_mk (st := st_Machine_numbered) l_Machine_numbered c_Machine_numbered k_Machine_numbered
  have b_Machine_numbered := F_Machine_numbered.binds (ps := ["self"]) fun _ _ _ _ _ _ us hl => match us, hl with | [_], _ => rfl
  have F_Machine_at := fun_mk (st := st_Machine_at) l_Machine_at c_Machine_at k_Machine_at
  have b_Machine_at := F_Machine_at.binds (ps := ["self", "place"]) fun _ _ _ _ _ _ us hl => match us, hl with | [_, _], _ => rfl
  have F_Machine___eq__ := fun_mk (st := st_Machine___eq__) l_Machine___eq__ c_Machine___eq__ k_Machine___eq__
  have b_Machine___eq__ := F_Machine___eq__.binds (ps := ["self", "other"]) fun _ _ _ _ _ _ us hl => match us, hl with | [_, _], _ => rfl
  have F_Machine___repr__ := fun_mk (st := st_Machine___repr__) l_Machine___repr__ c_Machine___repr__ k_Machine___repr__
  have b_Machine___repr__ := F_Machine___repr__.binds (ps := ["self"]) fun _ _ _ _ _ _ us hl => match us, hl with | [_], _ => rfl
  have F__law_draw := fun_mk (st := st__law_draw) l__law_draw c__law_draw k__law_draw
  have b__law_draw := F__law_draw.binds (ps := ["_law_pot_here", "_law_many"]) fun _ _ _ _ _ _ us hl => match us, hl with | [_, _], _ => rfl
  have m__law_draw := PySem.W.mg_of X G a__law_draw
  have F__law_pick := fun_mk (st := st__law_pick) l__law_pick c__law_pick k__law_pick
  have b__law_pick := F__law_pick.binds (ps := ["_law_pot_here", "_law_some"]) fun _ _ _ _ _ _ us hl => match us, hl with | [_, _], _ => rfl
  have m__law_pick := PySem.W.mg_of X G a__law_pick
  have F__law_met := fun_mk (st := st__law_met) l__law_met c__law_met k__law_met
  have b__law_met := F__law_met.binds (ps := ["_law_rows_here", "_law_start"]) fun _ _ _ _ _ _ us hl => match us, hl with | [_, _], _ => rfl
  have m__law_met := PySem.W.mg_of X G a__law_met
  have F__law_called := fun_mk (st := st__law_called) l__law_called c__law_called k__law_called
  have b__law_called := F__law_called.binds (ps := ["_law_rows_here", "_law_places"]) fun _ _ _ _ _ _ us hl => match us, hl with | [_, _], _ => rfl
  have m__law_called := PySem.W.mg_of X G a__law_called
  have F__law_rows := fun_mk (st := st__law_rows) l__law_rows c__law_rows k__law_rows
  have b__law_rows := F__law_rows.binds (ps := ["_law_pot_here", "_law_size", "_law_most"]) fun _ _ _ _ _ _ us hl => match us, hl with | [_, _, _], _ => rfl
  have m__law_rows := PySem.W.mg_of X G a__law_rows
  have F__law_letters := fun_mk (st := st__law_letters) l__law_letters c__law_letters k__law_letters
  have b__law_letters := F__law_letters.binds (ps := ["_law_pot_here"]) fun _ _ _ _ _ _ us hl => match us, hl with | [_], _ => rfl
  have m__law_letters := PySem.W.mg_of X G a__law_letters
  have F__law_goes := fun_mk (st := st__law_goes) l__law_goes c__law_goes k__law_goes
  have b__law_goes := F__law_goes.binds (ps := ["_law_letters_here", "_law_rows_here", "_law_place", "_law_text"]) fun _ _ _ _ _ _ us hl => match us, hl with | [_, _, _, _], _ => rfl
  have m__law_goes := PySem.W.mg_of X G a__law_goes
  have F__law_firsts := fun_mk (st := st__law_firsts) l__law_firsts c__law_firsts k__law_firsts
  have b__law_firsts := F__law_firsts.binds (ps := ["_law_letters_here", "_law_rows_here"]) fun _ _ _ _ _ _ us hl => match us, hl with | [_, _], _ => rfl
  have m__law_firsts := PySem.W.mg_of X G a__law_firsts
  have F__law_texts := fun_mk (st := st__law_texts) l__law_texts c__law_texts k__law_texts
  have b__law_texts := F__law_texts.binds (ps := ["_law_letters_here", "_law_most"]) fun _ _ _ _ _ _ us hl => match us, hl with | [_, _], _ => rfl
  have m__law_texts := PySem.W.mg_of X G a__law_texts
  have F__law_texts_right := fun_mk (st := st__law_texts_right) l__law_texts_right c__law_texts_right k__law_texts_right
  have b__law_texts_right := F__law_texts_right.binds (ps := ["_law_one", "_law_letters_here", "_law_rows_here"]) fun _ _ _ _ _ _ us hl => match us, hl with | [_, _, _], _ => rfl
  have m__law_texts_right := PySem.W.mg_of X G a__law_texts_right
  have F__law_numbered_right := fun_mk (st := st__law_numbered_right) l__law_numbered_right c__law_numbered_right k__law_numbered_right
  have b__law_numbered_right := F__law_numbered_right.binds (ps := ["_law_pot_here", "_law_one", "_law_letters_here", "_law_rows_here"]) fun _ _ _ _ _ _ us hl => match us, hl with | [_, _, _, _], _ => rfl
  have m__law_numbered_right := PySem.W.mg_of X G a__law_numbered_right
  have F__law_at_right := fun_mk (st := st__law_at_right) l__law_at_right c__law_at_right k__law_at_right
  have b__law_at_right := F__law_at_right.binds (ps := ["_law_pot_here", "_law_one", "_law_letters_here", "_law_rows_here"]) fun _ _ _ _ _ _ us hl => match us, hl with | [_, _, _, _], _ => rfl
  have m__law_at_right := PySem.W.mg_of X G a__law_at_right
  have F__law_come_right := fun_mk (st := st__law_come_right) l__law_come_right c__law_come_right k__law_come_right
  have b__law_come_right := F__law_come_right.binds (ps := ["_law_pot_here", "_law_letters_here"]) fun _ _ _ _ _ _ us hl => match us, hl with | [_, _], _ => rfl
  have m__law_come_right := PySem.W.mg_of X G a__law_come_right
  have F__law_long_right := fun_mk (st := st__law_long_right) l__law_long_right c__law_long_right k__law_long_right
  have b__law_long_right := F__law_long_right.binds (ps := ["_law_pot_here", "_law_letters_here"]) fun _ _ _ _ _ _ us hl => match us, hl with | [_, _], _ => rfl
  have m__law_long_right := PySem.W.mg_of X G a__law_long_right
  have F__law_right := fun_mk (st := st__law_right) l__law_right c__law_right k__law_right
  have b__law_right := F__law_right.binds (ps := ["_law_pot_here"]) fun _ _ _ _ _ _ us hl => match us, hl with | [_], _ => rfl
  have m__law_right := PySem.W.mg_of X G a__law_right
  have F__law_pot := fun_mk (st := st__law_pot) l__law_pot c__law_pot k__law_pot
  have b__law_pot := F__law_pot.binds (ps := ["_law_script", "_law_k"]) fun _ _ _ _ _ _ us hl => match us, hl with | [_, _], _ => rfl
  have m__law_pot := PySem.W.mg_of X G a__law_pot
  have F_law := fun_mk (st := st_law) l_law c_law k_law
  have b_law := F_law.binds (ps := ["_law_script"]) fun _ _ _ _ _ _ us hl => match us, hl with | [_], _ => rfl
  have m_law := PySem.W.mg_of X G a_law
  have mC_Machine := PySem.W.mg_of X G aC_Machine
  have kit_Machine_NoneType := kit_no hm_Machine ty_Machine sub_Machine_NoneType
  have kit_Machine_bool := kit_no hm_Machine ty_Machine sub_Machine_bool
  have kit_Machine_int := kit_no hm_Machine ty_Machine sub_Machine_int
  have kit_Machine_str := kit_no hm_Machine ty_Machine sub_Machine_str
  have kit_Machine_list := kit_no hm_Machine ty_Machine sub_Machine_list
  have kit_Machine_tuple := kit_no hm_Machine ty_Machine sub_Machine_tuple
  have kit_Machine_dict := kit_no hm_Machine ty_Machine sub_Machine_dict
  have I_Machine : IsC K cM := { cl := ⟨pg_Machine, hd_Machine, po_Machine, sa_Machine⟩, ha := ha_Machine, hn := hn, htk := htk, hm := hm_Machine, one := if_pos (beq_self_eq_true _), none_ := kit_Machine_NoneType, bool_ := kit_Machine_bool, int_ := kit_Machine_int, str_ := kit_Machine_str, list_ := kit_Machine_list, tup_ := kit_Machine_tuple, dict_ := kit_Machine_dict }
  have N_Machine : NF K cM := { toIsC := I_Machine, nfOwn := nf_Machine_own, nfNone := nf_Machine_NoneType, nfBool := nf_Machine_bool, nfInt := nf_Machine_int, nfStr := nf_Machine_str, nfList := nf_Machine_list, nfTup := nf_Machine_tuple, nfDict := nf_Machine_dict }
  have T_Machine : TC_Machine K cM := { cl := ⟨pg_Machine, hd_Machine, po_Machine, sa_Machine⟩, n_own_letters := na_Machine_own_letters, n_own_rows := na_Machine_own_rows, sNe := sNe_Machine, sOb := sOb_Machine, nf := N_Machine }
  have N := fun {n : Str} (e : PySem.W.nsIn K mainGlobals n = some none) => PySem.W.mg_none_of X G e
  have B : Bn mg := { n_len := N z_len, n_int := N z_int, n_str := N z_str, n_bool := N z_bool, n_isinstance := N z_isinstance, n_all := N z_all, n_any := N z_any, n_range := N z_range, n_max := N z_max, n_min := N z_min, n_abs := N z_abs, n_divmod := N z_divmod, n_repr := N z_repr, n_list := N z_list, n_tuple := N z_tuple, n_zip := N z_zip, n_enumerate := N z_enumerate, n_sorted := N z_sorted, n_set := N z_set, n_dict := N z_dict, n_sum := N z_sum }
  obtain ⟨tc_SMALL, rfl⟩ := ec_SMALL
  have c_SMALL : ∃ t, mg "SMALL" = some (.str (stx [97, 98, 99, 100, 101, 102, 103, 104, 105, 106, 107, 108, 109, 110, 111, 112, 113, 114, 115, 116, 117, 118, 119, 120, 121, 122]) t) := ⟨tc_SMALL, PySem.W.mg_of X G ac_SMALL⟩
  obtain ⟨tc_MOST_LETTERS, rfl⟩ := ec_MOST_LETTERS
  have c_MOST_LETTERS : ∃ t, mg "MOST_LETTERS" = some (.int 3 t) := ⟨tc_MOST_LETTERS, PySem.W.mg_of X G ac_MOST_LETTERS⟩
  obtain ⟨tv_Machine_MOST_PLACES, rfl⟩ := ev_Machine_MOST_PLACES
  have V_Machine_MOST_PLACES : mg "Machine" = some (.ref cM) ∧ ∃ mc u, ClX.CRead K cM mc ∧ ClX.CVal K cM mc "MOST_PLACES" (.int 120) u := ⟨mC_Machine, .type "type", _, ⟨rd_Machine_MOST_PLACES, ga_Machine_MOST_PLACES⟩, ⟨av_Machine_MOST_PLACES, ⟨tv_Machine_MOST_PLACES, rfl⟩⟩⟩
  refine ⟨PySem.W.fnOf "law" "law" (defArgs st_law) (defBody st_law) (defScope st_law) .none kV_law dc_law pm_law an_law cd_law ct_law, fun s v => .of_eq rfl, fun base _ _ => ?_⟩
  have g_ok_is_integer := ok_is_integer (P := l.prog) (w := w) (base := base) (cM := cM) F_is_integer B
  have g_ok_is_count := ok_is_count (P := l.prog) (w := w) (base := base) (cM := cM) F_is_count B ⟨_, _, g_ok_is_integer, m_is_integer, k_is_integer, b_is_integer⟩
  have g_ok_is_list := ok_is_list (P := l.prog) (w := w) (base := base) (cM := cM) F_is_list B
  have g_ok_is_text := ok_is_text (P := l.prog) (w := w) (base := base) (cM := cM) F_is_text B c_SMALL
  have g_ok_are_letters := ok_are_letters (P := l.prog) (w := w) (base := base) (cM := cM) F_are_letters B ⟨_, _, g_ok_is_text, m_is_text, k_is_text, b_is_text⟩ c_MOST_LETTERS
  have g_ok_is_row := ok_is_row (P := l.prog) (w := w) (base := base) (cM := cM) F_is_row B ⟨_, _, g_ok_is_list, m_is_list, k_is_list, b_is_list⟩ ⟨_, _, g_ok_is_integer, m_is_integer, k_is_integer, b_is_integer⟩
  have g_ok_want_rows := ok_want_rows (P := l.prog) (w := w) (base := base) (cM := cM) F_want_rows B ⟨_, _, g_ok_are_letters, m_are_letters, k_are_letters, b_are_letters⟩ ⟨_, _, g_ok_is_list, m_is_list, k_is_list, b_is_list⟩ ⟨_, _, g_ok_is_row, m_is_row, k_is_row, b_is_row⟩ V_Machine_MOST_PLACES
  have g_ok_met_from := ok_met_from (P := l.prog) (w := w) (base := base) (cM := cM) F_met_from B
  have g_ok_rows_from := ok_rows_from (P := l.prog) (w := w) (base := base) (cM := cM) F_rows_from B ⟨_, _, g_ok_met_from, m_met_from, k_met_from, b_met_from⟩
  have g_ok_Machine___init__ := ok_Machine___init__ (P := l.prog) (w := w) (base := base) (cM := cM) F_Machine___init__ B T_Machine ⟨_, _, g_ok_want_rows, m_want_rows, k_want_rows, b_want_rows⟩ ⟨_, _, g_ok_met_from, m_met_from, k_met_from, b_met_from⟩
  have g_ok_Machine_come_to := ok_Machine_come_to (P := l.prog) (w := w) (base := base) (cM := cM) F_Machine_come_to B ⟨_, _, g_ok_want_rows, m_want_rows, k_want_rows, b_want_rows⟩ ⟨_, _, ⟨mk_Machine, a_Machine___init__, i_Machine___init__, kc_Machine⟩, g_ok_Machine___init__, b_Machine___init__⟩ mC_Machine ⟨_, _, g_ok_rows_from, m_rows_from, k_rows_from, b_rows_from⟩
  have g_ok_Machine_letters := ok_Machine_letters (P := l.prog) (w := w) (base := base) (cM := cM) F_Machine_letters B T_Machine
  have g_ok_Machine_rows := ok_Machine_rows (P := l.prog) (w := w) (base := base) (cM := cM) F_Machine_rows B T_Machine
  have g_ok_Machine___len__ := ok_Machine___len__ (P := l.prog) (w := w) (base := base) (cM := cM) F_Machine___len__ B T_Machine
  have g_ok_is_place_of := ok_is_place_of (P := l.prog) (w := w) (base := base) (cM := cM) F_is_place_of B T_Machine ⟨_, _, g_ok_is_count, m_is_count, k_is_count, b_is_count⟩ ⟨_, _, g_ok_Machine___len__, a_Machine___len__, i_Machine___len__, b_Machine___len__⟩
  have g_ok_want_place := ok_want_place (P := l.prog) (w := w) (base := base) (cM := cM) F_want_place B ⟨_, _, g_ok_is_place_of, m_is_place_of, k_is_place_of, b_is_place_of⟩
  have g_ok_want_letter := ok_want_letter (P := l.prog) (w := w) (base := base) (cM := cM) F_want_letter B T_Machine ⟨p_Machine_letters, _, _, ⟨a_Machine_letters, g_Machine_letters, t_Machine_letters, r_Machine_letters⟩, g_ok_Machine_letters, b_Machine_letters⟩
  have g_ok_want_text := ok_want_text (P := l.prog) (w := w) (base := base) (cM := cM) F_want_text B T_Machine ⟨_, _, g_ok_is_text, m_is_text, k_is_text, b_is_text⟩ ⟨p_Machine_letters, _, _, ⟨a_Machine_letters, g_Machine_letters, t_Machine_letters, r_Machine_letters⟩, g_ok_Machine_letters, b_Machine_letters⟩
  have g_ok_Machine_led := ok_Machine_led (P := l.prog) (w := w) (base := base) (cM := cM) F_Machine_led B T_Machine
  have g_ok_Machine_goes := ok_Machine_goes (P := l.prog) (w := w) (base := base) (cM := cM) F_Machine_goes B T_Machine ⟨_, _, g_ok_want_place, m_want_place, k_want_place, b_want_place⟩ ⟨_, _, g_ok_want_text, m_want_text, k_want_text, b_want_text⟩ ⟨_, _, g_ok_Machine_led, ⟨a_Machine_led, i_Machine_led, k_Machine_led⟩, b_Machine_led⟩
  have g_ok_Machine_first_text := ok_Machine_first_text (P := l.prog) (w := w) (base := base) (cM := cM) F_Machine_first_text B T_Machine ⟨_, _, g_ok_want_place, m_want_place, k_want_place, b_want_place⟩
  have g_ok_Machine_numbered := ok_Machine_numbered (P := l.prog) (w := w) (base := base) (cM := cM) F_Machine_numbered B T_Machine ⟨_, _, ⟨mk_Machine, a_Machine___init__, i_Machine___init__, kc_Machine⟩, g_ok_Machine___init__, b_Machine___init__⟩ mC_Machine ⟨_, _, g_ok_rows_from, m_rows_from, k_rows_from, b_rows_from⟩
  have g_ok_Machine_at := ok_Machine_at (P := l.prog) (w := w) (base := base) (cM := cM) F_Machine_at B T_Machine ⟨_, _, g_ok_want_place, m_want_place, k_want_place, b_want_place⟩ ⟨_, _, ⟨mk_Machine, a_Machine___init__, i_Machine___init__, kc_Machine⟩, g_ok_Machine___init__, b_Machine___init__⟩ mC_Machine ⟨_, _, g_ok_rows_from, m_rows_from, k_rows_from, b_rows_from⟩
  have g_ok_Machine___eq__ := ok_Machine___eq__ (P := l.prog) (w := w) (base := base) (cM := cM) F_Machine___eq__ B T_Machine I_Machine mC_Machine
  have g_ok_Machine___repr__ := ok_Machine___repr__ (P := l.prog) (w := w) (base := base) (cM := cM) F_Machine___repr__ B T_Machine
  have g_ok__law_draw := ok__law_draw (P := l.prog) (w := w) (base := base) (cM := cM) F__law_draw B
  have g_ok__law_pick := ok__law_pick (P := l.prog) (w := w) (base := base) (cM := cM) F__law_pick B ⟨_, _, g_ok__law_draw, m__law_draw, k__law_draw, b__law_draw⟩
  have g_ok__law_met := ok__law_met (P := l.prog) (w := w) (base := base) (cM := cM) F__law_met B
  have g_ok__law_called := ok__law_called (P := l.prog) (w := w) (base := base) (cM := cM) F__law_called B
  have g_ok__law_rows := ok__law_rows (P := l.prog) (w := w) (base := base) (cM := cM) F__law_rows B ⟨_, _, g_ok__law_draw, m__law_draw, k__law_draw, b__law_draw⟩ ⟨_, _, g_ok__law_called, m__law_called, k__law_called, b__law_called⟩ ⟨_, _, g_ok__law_met, m__law_met, k__law_met, b__law_met⟩
  have g_ok__law_letters := ok__law_letters (P := l.prog) (w := w) (base := base) (cM := cM) F__law_letters B ⟨_, _, g_ok__law_pick, m__law_pick, k__law_pick, b__law_pick⟩
  have g_ok__law_goes := ok__law_goes (P := l.prog) (w := w) (base := base) (cM := cM) F__law_goes B
  have g_ok__law_firsts := ok__law_firsts (P := l.prog) (w := w) (base := base) (cM := cM) F__law_firsts B ⟨_, _, g_ok__law_goes, m__law_goes, k__law_goes, b__law_goes⟩
  have g_ok__law_texts := ok__law_texts (P := l.prog) (w := w) (base := base) (cM := cM) F__law_texts B
  have g_ok__law_texts_right := ok__law_texts_right (P := l.prog) (w := w) (base := base) (cM := cM) F__law_texts_right B T_Machine ⟨_, _, g_ok__law_firsts, m__law_firsts, k__law_firsts, b__law_firsts⟩ ⟨_, _, g_ok_Machine_first_text, ⟨a_Machine_first_text, i_Machine_first_text, k_Machine_first_text⟩, b_Machine_first_text⟩ ⟨_, _, g_ok_Machine_first_text, ⟨a_Machine_first_text, i_Machine_first_text, k_Machine_first_text⟩, (kb_I F_Machine_first_text fun _ _ _ _ _ _ _ _ => rfl)⟩ ⟨_, _, g_ok_Machine_goes, ⟨a_Machine_goes, i_Machine_goes, k_Machine_goes⟩, b_Machine_goes⟩ ⟨_, _, g_ok__law_texts, m__law_texts, k__law_texts, b__law_texts⟩ ⟨_, _, g_ok__law_goes, m__law_goes, k__law_goes, b__law_goes⟩
  have g_ok__law_numbered_right := ok__law_numbered_right (P := l.prog) (w := w) (base := base) (cM := cM) F__law_numbered_right B T_Machine ⟨_, _, g_ok__law_called, m__law_called, k__law_called, b__law_called⟩ ⟨_, _, g_ok__law_met, m__law_met, k__law_met, b__law_met⟩ ⟨_, _, g_ok_Machine_numbered, ⟨a_Machine_numbered, i_Machine_numbered, k_Machine_numbered⟩, b_Machine_numbered⟩ ⟨_, _, g_ok_Machine___repr__, a_Machine___repr__, i_Machine___repr__, b_Machine___repr__⟩ ⟨_, _, g_ok_Machine___eq__, a_Machine___eq__, i_Machine___eq__, b_Machine___eq__⟩ ⟨_, _, g_ok__law_draw, m__law_draw, k__law_draw, b__law_draw⟩ ⟨_, _, ⟨mk_Machine, a_Machine___init__, i_Machine___init__, kc_Machine⟩, g_ok_Machine___init__, b_Machine___init__⟩ mC_Machine
  have g_ok__law_at_right := ok__law_at_right (P := l.prog) (w := w) (base := base) (cM := cM) F__law_at_right B T_Machine ⟨_, _, g_ok__law_met, m__law_met, k__law_met, b__law_met⟩ ⟨_, _, g_ok__law_called, m__law_called, k__law_called, b__law_called⟩ ⟨_, _, g_ok_Machine_at, ⟨a_Machine_at, i_Machine_at, k_Machine_at⟩, b_Machine_at⟩ ⟨_, _, g_ok_Machine_at, ⟨a_Machine_at, i_Machine_at, k_Machine_at⟩, (kb_I F_Machine_at fun _ _ _ _ _ _ _ _ => rfl)⟩ ⟨_, _, g_ok_Machine___repr__, a_Machine___repr__, i_Machine___repr__, b_Machine___repr__⟩ ⟨_, _, g_ok_Machine_numbered, ⟨a_Machine_numbered, i_Machine_numbered, k_Machine_numbered⟩, b_Machine_numbered⟩ ⟨_, _, g_ok_Machine___eq__, a_Machine___eq__, i_Machine___eq__, b_Machine___eq__⟩ ⟨_, _, g_ok__law_draw, m__law_draw, k__law_draw, b__law_draw⟩ ⟨_, _, g_ok__law_pick, m__law_pick, k__law_pick, b__law_pick⟩ ⟨_, _, g_ok_Machine_goes, ⟨a_Machine_goes, i_Machine_goes, k_Machine_goes⟩, b_Machine_goes⟩
  have g_ok__law_come_right := ok__law_come_right (P := l.prog) (w := w) (base := base) (cM := cM) F__law_come_right B T_Machine ⟨_, _, g_ok__law_draw, m__law_draw, k__law_draw, b__law_draw⟩ ⟨_, _, g_ok__law_called, m__law_called, k__law_called, b__law_called⟩ ⟨_, _, g_ok__law_met, m__law_met, k__law_met, b__law_met⟩ ⟨p_Machine_come_to, _, _, mC_Machine, ⟨rd_Machine_come_to, ga_Machine_come_to, a_Machine_come_to, r_Machine_come_to, k_Machine_come_to⟩, g_ok_Machine_come_to, b_Machine_come_to⟩ ⟨p_Machine_come_to, _, _, mC_Machine, ⟨rd_Machine_come_to, ga_Machine_come_to, a_Machine_come_to, r_Machine_come_to, k_Machine_come_to⟩, g_ok_Machine_come_to, (kb_02 F_Machine_come_to fun _ _ _ _ _ _ _ _ => rfl)⟩ ⟨_, _, g_ok_Machine___repr__, a_Machine___repr__, i_Machine___repr__, b_Machine___repr__⟩ ⟨_, _, ⟨mk_Machine, a_Machine___init__, i_Machine___init__, kc_Machine⟩, g_ok_Machine___init__, b_Machine___init__⟩ mC_Machine ⟨_, _, g_ok_Machine___eq__, a_Machine___eq__, i_Machine___eq__, b_Machine___eq__⟩
  have g_ok__law_long_right := ok__law_long_right (P := l.prog) (w := w) (base := base) (cM := cM) F__law_long_right B T_Machine ⟨_, _, g_ok__law_draw, m__law_draw, k__law_draw, b__law_draw⟩ ⟨_, _, ⟨mk_Machine, a_Machine___init__, i_Machine___init__, kc_Machine⟩, g_ok_Machine___init__, b_Machine___init__⟩ mC_Machine ⟨_, _, g_ok_Machine_first_text, ⟨a_Machine_first_text, i_Machine_first_text, k_Machine_first_text⟩, b_Machine_first_text⟩ ⟨_, _, g_ok__law_met, m__law_met, k__law_met, b__law_met⟩ ⟨_, _, g_ok_Machine_at, ⟨a_Machine_at, i_Machine_at, k_Machine_at⟩, b_Machine_at⟩ ⟨_, _, g_ok_Machine_rows, ⟨a_Machine_rows, i_Machine_rows, k_Machine_rows⟩, b_Machine_rows⟩ ⟨_, _, g_ok__law_called, m__law_called, k__law_called, b__law_called⟩ ⟨_, _, g_ok_Machine_numbered, ⟨a_Machine_numbered, i_Machine_numbered, k_Machine_numbered⟩, b_Machine_numbered⟩ ⟨_, _, g_ok_Machine___eq__, a_Machine___eq__, i_Machine___eq__, b_Machine___eq__⟩ ⟨_, _, g_ok_Machine___len__, a_Machine___len__, i_Machine___len__, b_Machine___len__⟩
  have g_ok__law_right := ok__law_right (P := l.prog) (w := w) (base := base) (cM := cM) F__law_right B T_Machine ⟨_, _, g_ok__law_letters, m__law_letters, k__law_letters, b__law_letters⟩ ⟨_, _, g_ok__law_rows, m__law_rows, k__law_rows, b__law_rows⟩ ⟨_, _, ⟨mk_Machine, a_Machine___init__, i_Machine___init__, kc_Machine⟩, g_ok_Machine___init__, b_Machine___init__⟩ mC_Machine ⟨_, _, g_ok__law_texts_right, m__law_texts_right, k__law_texts_right, b__law_texts_right⟩ ⟨_, _, g_ok__law_numbered_right, m__law_numbered_right, k__law_numbered_right, b__law_numbered_right⟩ ⟨_, _, g_ok__law_at_right, m__law_at_right, k__law_at_right, b__law_at_right⟩ ⟨_, _, g_ok__law_come_right, m__law_come_right, k__law_come_right, b__law_come_right⟩ ⟨_, _, g_ok__law_long_right, m__law_long_right, k__law_long_right, b__law_long_right⟩ ⟨_, _, g_ok_Machine___eq__, a_Machine___eq__, i_Machine___eq__, b_Machine___eq__⟩ ⟨_, _, g_ok_Machine_rows, ⟨a_Machine_rows, i_Machine_rows, k_Machine_rows⟩, b_Machine_rows⟩
  have d_right : Dg l.prog w K mg base 8 "_law_right" ["_law_pot_here"] spFar := ⟨_, _, far_of (fun x y h1 h2 => says_of (v_right cM ⟨h1, h2⟩)) g_ok__law_right, m__law_right, k__law_right, b__law_right⟩
  have d_pot : Df l.prog w K mg base 1 "_law_pot" ["_law_script", "_law_k"] (spPot K) := ⟨_, _, ok_pot F__law_pot B, m__law_pot, k__law_pot, b__law_pot⟩
  exact ok_law (by decide) F_law B d_right d_pot
end LW
open PySem PySem.W PyProof.Rows
set_option maxRecDepth 100000 in
set_option maxHeartbeats 0 in
theorem PySem.Challenge.cw_ringdepth_k17_whole_first_texts_and_numb_holds : PySem.Challenge.rw_ringdepth_k17_whole_first_texts_and_numb.Holds := by
  refine hdL ?_
  k_fill
  refine RX.walk_G (n := 63) (k := 9) (x := "_law_script") (sp := LW.spLaw) rfl (by decide) rfl ⟨rfl, by decide, by decide⟩ (fun w h Y => PySem.W.kIn_of Y) ?F (fun K H a ns hl hO hS => ⟨a, ns, rfl, hS, hl, fun _ => rfl⟩)
  case F =>
    intro w mg fa h KX G hmg
    refine' LW.all_mk KX G hmg ?aC_Machine ?pg_Machine ?hd_Machine ?po_Machine ?sa_Machine ?mk_Machine ?kc_Machine ?na_Machine_own_letters ?na_Machine_own_rows ?sNe_Machine ?sOb_Machine ?ha_Machine ?hm_Machine ?sub_Machine_NoneType ?sub_Machine_bool ?sub_Machine_int ?sub_Machine_str ?sub_Machine_list ?sub_Machine_tuple ?sub_Machine_dict ?ty_Machine ?nf_Machine_own ?nf_Machine_NoneType ?nf_Machine_bool ?nf_Machine_int ?nf_Machine_str ?nf_Machine_list ?nf_Machine_tuple ?nf_Machine_dict ?hn ?htk ?ac_SMALL ?ec_SMALL ?ac_MOST_LETTERS ?ec_MOST_LETTERS ?rd_Machine_MOST_PLACES ?ga_Machine_MOST_PLACES ?av_Machine_MOST_PLACES ?ev_Machine_MOST_PLACES ?a_is_integer ?l_is_integer ?c_is_integer ?k_is_integer ?a_is_count ?l_is_count ?c_is_count ?k_is_count ?a_is_list ?l_is_list ?c_is_list ?k_is_list ?a_is_text ?l_is_text ?c_is_text ?k_is_text ?a_are_letters ?l_are_letters ?c_are_letters ?k_are_letters ?a_is_row ?l_is_row ?c_is_row ?k_is_row ?a_want_rows ?l_want_rows ?c_want_rows ?k_want_rows ?a_met_from ?l_met_from ?c_met_from ?k_met_from ?a_rows_from ?l_rows_from ?c_rows_from ?k_rows_from ?a_Machine___init__ ?i_Machine___init__ ?l_Machine___init__ ?c_Machine___init__ ?k_Machine___init__ ?a_Machine_come_to ?rd_Machine_come_to ?ga_Machine_come_to ?r_Machine_come_to ?l_Machine_come_to ?c_Machine_come_to ?k_Machine_come_to ?a_Machine_letters ?g_Machine_letters ?t_Machine_letters ?r_Machine_letters ?l_Machine_letters ?c_Machine_letters ?k_Machine_letters ?a_Machine_rows ?i_Machine_rows ?l_Machine_rows ?c_Machine_rows ?k_Machine_rows ?a_Machine___len__ ?i_Machine___len__ ?l_Machine___len__ ?c_Machine___len__ ?k_Machine___len__ ?a_is_place_of ?l_is_place_of ?c_is_place_of ?k_is_place_of ?a_want_place ?l_want_place ?c_want_place ?k_want_place ?a_want_letter ?l_want_letter ?c_want_letter ?k_want_letter ?a_want_text ?l_want_text ?c_want_text ?k_want_text ?a_Machine_led ?i_Machine_led ?l_Machine_led ?c_Machine_led ?k_Machine_led ?a_Machine_goes ?i_Machine_goes ?l_Machine_goes ?c_Machine_goes ?k_Machine_goes ?a_Machine_first_text ?i_Machine_first_text ?l_Machine_first_text ?c_Machine_first_text ?k_Machine_first_text ?a_Machine_numbered ?i_Machine_numbered ?l_Machine_numbered ?c_Machine_numbered ?k_Machine_numbered ?a_Machine_at ?i_Machine_at ?l_Machine_at ?c_Machine_at ?k_Machine_at ?a_Machine___eq__ ?i_Machine___eq__ ?l_Machine___eq__ ?c_Machine___eq__ ?k_Machine___eq__ ?a_Machine___repr__ ?i_Machine___repr__ ?l_Machine___repr__ ?c_Machine___repr__ ?k_Machine___repr__ ?a__law_draw ?l__law_draw ?c__law_draw ?k__law_draw ?a__law_pick ?l__law_pick ?c__law_pick ?k__law_pick ?a__law_met ?l__law_met ?c__law_met ?k__law_met ?a__law_called ?l__law_called ?c__law_called ?k__law_called ?a__law_rows ?l__law_rows ?c__law_rows ?k__law_rows ?a__law_letters ?l__law_letters ?c__law_letters ?k__law_letters ?a__law_goes ?l__law_goes ?c__law_goes ?k__law_goes ?a__law_firsts ?l__law_firsts ?c__law_firsts ?k__law_firsts ?a__law_texts ?l__law_texts ?c__law_texts ?k__law_texts ?a__law_texts_right ?l__law_texts_right ?c__law_texts_right ?k__law_texts_right ?a__law_numbered_right ?l__law_numbered_right ?c__law_numbered_right ?k__law_numbered_right ?a__law_at_right ?l__law_at_right ?c__law_at_right ?k__law_at_right ?a__law_come_right ?l__law_come_right ?c__law_come_right ?k__law_come_right ?a__law_long_right ?l__law_long_right ?c__law_long_right ?k__law_long_right ?a__law_right ?l__law_right ?c__law_right ?k__law_right ?a__law_pot ?l__law_pot ?c__law_pot ?k__law_pot ?a_law ?l_law ?c_law ?k_law ?z_len ?z_int ?z_str ?z_bool ?z_isinstance ?z_all ?z_any ?z_range ?z_max ?z_min ?z_abs ?z_divmod ?z_repr ?z_list ?z_tuple ?z_zip ?z_enumerate ?z_sorted ?z_set ?z_dict ?z_sum
    (case aC_Machine => k_is)
    (case pg_Machine => k_is)
    (case hd_Machine => k_is)
    (case po_Machine => k_is)
    (case sa_Machine => k_is)
    (case mk_Machine => k_is)
    (case kc_Machine => k_is)
    (case na_Machine_own_letters => k_is)
    (case na_Machine_own_rows => k_is)
    (case sNe_Machine => k_is)
    (case sOb_Machine => k_is)
    (case ha_Machine => k_is)
    (case hm_Machine => k_is)
    (case sub_Machine_NoneType => k_is)
    (case sub_Machine_bool => k_is)
    (case sub_Machine_int => k_is)
    (case sub_Machine_str => k_is)
    (case sub_Machine_list => k_is)
    (case sub_Machine_tuple => k_is)
    (case sub_Machine_dict => k_is)
    (case ty_Machine => k_is)
    (case nf_Machine_own => k_is)
    (case nf_Machine_NoneType => k_is)
    (case nf_Machine_bool => k_is)
    (case nf_Machine_int => k_is)
    (case nf_Machine_str => k_is)
    (case nf_Machine_list => k_is)
    (case nf_Machine_tuple => k_is)
    (case nf_Machine_dict => k_is)
    (case hn => k_is)
    (case htk => k_is)
    (case ac_SMALL => k_is)
    (case ec_SMALL => exact ⟨_, rfl⟩)
    (case ac_MOST_LETTERS => k_is)
    (case ec_MOST_LETTERS => exact ⟨_, rfl⟩)
    (case rd_Machine_MOST_PLACES => k_is)
    (case ga_Machine_MOST_PLACES => k_is)
    (case av_Machine_MOST_PLACES => k_is)
    (case ev_Machine_MOST_PLACES => exact ⟨_, rfl⟩)
    (case a_is_integer => k_is)
    (case l_is_integer => k_is)
    (case c_is_integer => k_is)
    (case k_is_integer => k_is)
    (case a_is_count => k_is)
    (case l_is_count => k_is)
    (case c_is_count => k_is)
    (case k_is_count => k_is)
    (case a_is_list => k_is)
    (case l_is_list => k_is)
    (case c_is_list => k_is)
    (case k_is_list => k_is)
    (case a_is_text => k_is)
    (case l_is_text => k_is)
    (case c_is_text => k_is)
    (case k_is_text => k_is)
    (case a_are_letters => k_is)
    (case l_are_letters => k_is)
    (case c_are_letters => k_is)
    (case k_are_letters => k_is)
    (case a_is_row => k_is)
    (case l_is_row => k_is)
    (case c_is_row => k_is)
    (case k_is_row => k_is)
    (case a_want_rows => k_is)
    (case l_want_rows => k_is)
    (case c_want_rows => k_is)
    (case k_want_rows => k_is)
    (case a_met_from => k_is)
    (case l_met_from => k_is)
    (case c_met_from => k_is)
    (case k_met_from => k_is)
    (case a_rows_from => k_is)
    (case l_rows_from => k_is)
    (case c_rows_from => k_is)
    (case k_rows_from => k_is)
    (case a_Machine___init__ => k_is)
    (case i_Machine___init__ => k_is)
    (case l_Machine___init__ => k_is)
    (case c_Machine___init__ => k_is)
    (case k_Machine___init__ => k_is)
    (case a_Machine_come_to => k_is)
    (case rd_Machine_come_to => k_is)
    (case ga_Machine_come_to => k_is)
    (case r_Machine_come_to => exact ⟨_, by k_is⟩)
    (case l_Machine_come_to => k_is)
    (case c_Machine_come_to => k_is)
    (case k_Machine_come_to => k_is)
    (case a_Machine_letters => k_is)
    (case g_Machine_letters => k_is)
    (case t_Machine_letters => k_is)
    (case r_Machine_letters => exact ⟨_, by k_is⟩)
    (case l_Machine_letters => k_is)
    (case c_Machine_letters => k_is)
    (case k_Machine_letters => k_is)
    (case a_Machine_rows => k_is)
    (case i_Machine_rows => k_is)
    (case l_Machine_rows => k_is)
    (case c_Machine_rows => k_is)
    (case k_Machine_rows => k_is)
    (case a_Machine___len__ => k_is)
    (case i_Machine___len__ => k_is)
    (case l_Machine___len__ => k_is)
    (case c_Machine___len__ => k_is)
    (case k_Machine___len__ => k_is)
    (case a_is_place_of => k_is)
    (case l_is_place_of => k_is)
    (case c_is_place_of => k_is)
    (case k_is_place_of => k_is)
    (case a_want_place => k_is)
    (case l_want_place => k_is)
    (case c_want_place => k_is)
    (case k_want_place => k_is)
    (case a_want_letter => k_is)
    (case l_want_letter => k_is)
    (case c_want_letter => k_is)
    (case k_want_letter => k_is)
    (case a_want_text => k_is)
    (case l_want_text => k_is)
    (case c_want_text => k_is)
    (case k_want_text => k_is)
    (case a_Machine_led => k_is)
    (case i_Machine_led => k_is)
    (case l_Machine_led => k_is)
    (case c_Machine_led => k_is)
    (case k_Machine_led => k_is)
    (case a_Machine_goes => k_is)
    (case i_Machine_goes => k_is)
    (case l_Machine_goes => k_is)
    (case c_Machine_goes => k_is)
    (case k_Machine_goes => k_is)
    (case a_Machine_first_text => k_is)
    (case i_Machine_first_text => k_is)
    (case l_Machine_first_text => k_is)
    (case c_Machine_first_text => k_is)
    (case k_Machine_first_text => k_is)
    (case a_Machine_numbered => k_is)
    (case i_Machine_numbered => k_is)
    (case l_Machine_numbered => k_is)
    (case c_Machine_numbered => k_is)
    (case k_Machine_numbered => k_is)
    (case a_Machine_at => k_is)
    (case i_Machine_at => k_is)
    (case l_Machine_at => k_is)
    (case c_Machine_at => k_is)
    (case k_Machine_at => k_is)
    (case a_Machine___eq__ => k_is)
    (case i_Machine___eq__ => k_is)
    (case l_Machine___eq__ => k_is)
    (case c_Machine___eq__ => k_is)
    (case k_Machine___eq__ => k_is)
    (case a_Machine___repr__ => k_is)
    (case i_Machine___repr__ => k_is)
    (case l_Machine___repr__ => k_is)
    (case c_Machine___repr__ => k_is)
    (case k_Machine___repr__ => k_is)
    (case a__law_draw => k_is)
    (case l__law_draw => k_is)
    (case c__law_draw => k_is)
    (case k__law_draw => k_is)
    (case a__law_pick => k_is)
    (case l__law_pick => k_is)
    (case c__law_pick => k_is)
    (case k__law_pick => k_is)
    (case a__law_met => k_is)
    (case l__law_met => k_is)
    (case c__law_met => k_is)
    (case k__law_met => k_is)
    (case a__law_called => k_is)
    (case l__law_called => k_is)
    (case c__law_called => k_is)
    (case k__law_called => k_is)
    (case a__law_rows => k_is)
    (case l__law_rows => k_is)
    (case c__law_rows => k_is)
    (case k__law_rows => k_is)
    (case a__law_letters => k_is)
    (case l__law_letters => k_is)
    (case c__law_letters => k_is)
    (case k__law_letters => k_is)
    (case a__law_goes => k_is)
    (case l__law_goes => k_is)
    (case c__law_goes => k_is)
    (case k__law_goes => k_is)
    (case a__law_firsts => k_is)
    (case l__law_firsts => k_is)
    (case c__law_firsts => k_is)
    (case k__law_firsts => k_is)
    (case a__law_texts => k_is)
    (case l__law_texts => k_is)
    (case c__law_texts => k_is)
    (case k__law_texts => k_is)
    (case a__law_texts_right => k_is)
    (case l__law_texts_right => k_is)
    (case c__law_texts_right => k_is)
    (case k__law_texts_right => k_is)
    (case a__law_numbered_right => k_is)
    (case l__law_numbered_right => k_is)
    (case c__law_numbered_right => k_is)
    (case k__law_numbered_right => k_is)
    (case a__law_at_right => k_is)
    (case l__law_at_right => k_is)
    (case c__law_at_right => k_is)
    (case k__law_at_right => k_is)
    (case a__law_come_right => k_is)
    (case l__law_come_right => k_is)
    (case c__law_come_right => k_is)
    (case k__law_come_right => k_is)
    (case a__law_long_right => k_is)
    (case l__law_long_right => k_is)
    (case c__law_long_right => k_is)
    (case k__law_long_right => k_is)
    (case a__law_right => k_is)
    (case l__law_right => k_is)
    (case c__law_right => k_is)
    (case k__law_right => k_is)
    (case a__law_pot => k_is)
    (case l__law_pot => k_is)
    (case c__law_pot => k_is)
    (case k__law_pot => k_is)
    (case a_law => k_is)
    (case l_law => k_is)
    (case c_law => k_is)
    (case k_law => k_is)
    (case z_len => k_is)
    (case z_int => k_is)
    (case z_str => k_is)
    (case z_bool => k_is)
    (case z_isinstance => k_is)
    (case z_all => k_is)
    (case z_any => k_is)
    (case z_range => k_is)
    (case z_max => k_is)
    (case z_min => k_is)
    (case z_abs => k_is)
    (case z_divmod => k_is)
    (case z_repr => k_is)
    (case z_list => k_is)
    (case z_tuple => k_is)
    (case z_zip => k_is)
    (case z_enumerate => k_is)
    (case z_sorted => k_is)
    (case z_set => k_is)
    (case z_dict => k_is)
    (case z_sum => k_is)
end
