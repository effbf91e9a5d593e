import PyProof.Rows.All
import Wide.All
import OpenK.AllK
import Wide.FinOn
import HandS.ForMost
import HandS.ForExc
import HandS.Wide
import HandS.WideBits
import HandS.Flow
import HandS.Style
import HandS.Conv
import HandS.IsInst
import HandS.Defaults
import HandS.StrMore
import HandS.Codes
import HandS.Star
import HandS.Walk
import HandS.Property
import HandS.ClsMeth
import HandS.NoneIn
import HandS.TupAny
import HandS.WrittenGet
import HandS.OwnEq
import KE.KStateDown
import KE.KDictKeyed
import KE.KDictLaw
import KE.GoesEnum
import KE.KUnpackStar
import KE.KOpsOwn
import HandS.SlotsOwn
import HandS.HeadHook3
import HandS.Head0
import HandS.Head1
import HandS.Head2
import HandS.HeadEnd
import HandS.HeadHook1
import HandS.HeadHook2
import PySem.Challenge.RW_ownbranch_k66_breaks_far_on
set_option Elab.async false
set_option linter.all false
set_option maxRecDepth 100000
set_option maxHeartbeats 4000000
namespace OB
open PySem PySem.Spec PyProof.Rows L2
section
variable {X : Cx}
/-! ### operators whatever the operands are -/
abbrev rAddS : R2 := fun x y H Q => ∃ i j, x = .str i ∧ y = .str j ∧ i.length + j.length ≤ sizeLine ∧ Q (.str (i ++ j)) H
abbrev rAddI : R2 := rI0 fun i j => .int (i + j)
abbrev rAddA (K : PySem.W.Frag) : R2 := fun x y H Q => rAddI x y H Q ∨ (rAddS x y H Q ∨ (rCat x y H Q ∨ rCatA K x y H Q))
theorem op_addA : OpR X (binaryOp .Add) (rAddA X.K) := OpR.or op_add (OpR.or op_add_str (OpR.or op_cat op_catA))
/-- a text again and again -/
def repS (z : Str) (n : Nat) : Str := ⟨(List.replicate n z.cps.toList).flatten.toArray⟩
theorem foldl_arr : ∀ (n : Nat) (a acc : Array Nat), ((List.replicate n a).foldl (· ++ ·) acc).toList = acc.toList ++ (List.replicate n a.toList).flatten
  | 0, _, acc => by simp
  | n + 1, a, acc => by
    rw [List.replicate_succ, List.foldl_cons, foldl_arr n, List.replicate_succ]
    simp
theorem mul_rep (z : Str) (n : Nat) : Txt.mul z (n : Int) = repS z n := by
  have ext : ∀ a b : Str, a.cps.toList = b.cps.toList → a = b := by
    intro a b h
    cases a; cases b
    congr 1
    exact Array.toList_inj.mp h
  unfold Txt.mul
  split
  · have : n = 0 := by omega
    subst this
    rfl
  · split
    · rename_i h1 h2
      rw [Bool.or_eq_true] at h2
      rcases h2 with h2 | h2
      · have h3 : n = 1 := by have := eq_of_beq h2; omega
        subst h3
        refine ext _ _ ?_
        unfold repS
        simp
      · have h3 : z.length = 0 := eq_of_beq h2
        refine ext _ _ ?_
        unfold repS
        have h4 : z.cps.toList = [] := List.length_eq_zero_iff.mp h3
        rw [h4]
        have : ∀ m : Nat, (List.replicate m ([] : List Nat)).flatten = [] := fun m => by
          induction m with
          | zero => rfl
          | succ m ih => rw [List.replicate_succ, List.flatten_cons, ih]; rfl
        rw [this]
    · refine ext _ _ ?_
      unfold repS
      show (List.foldl (· ++ ·) #[] (List.replicate ((n : Int)).toNat z.cps)).toList = _
      rw [foldl_arr]
      simp
abbrev rMulS : R2 := fun x y H Q => ∃ z, ∃ n : Nat, x = .str z ∧ y = .int n ∧ n ≤ 16777216 ∧ z.length * n ≤ 16777216 ∧ Q (.str (repS z n)) H
theorem op_mulS : OpR X (binaryOp .Mult) rMulS := by
  intro pins s σ H x y v u Q I rx ry h
  obtain ⟨z, n, rfl, rfl, hn, hz, q⟩ := h
  obtain ⟨t, rfl⟩ := rx
  obtain ⟨t', rfl⟩ := ry
  refine SB.mul ⟨?_, ?_, ?_⟩ fun t2 k => ?_
  · rw [decide_eq_false (show ¬ ((n : Int) < -(2 ^ 63 : Int)) by omega), decide_eq_false (show ¬ ((n : Int) ≥ 2 ^ 63) by omega)]
    rfl
  · intro h1 _ h3
    have h4 : ((z.length * n : Nat) : Int) ≤ ((16777216 : Nat) : Int) := Int.ofNat_le.mpr hz
    rw [Int.natCast_mul] at h4
    have h7 : ((16777216 : Nat) : Int) ≤ 2 ^ 63 - 1 := by decide
    have h5 : (2 ^ 63 - 1 : Int) / n < (z.length : Int) := h3
    have h6 : (2 ^ 63 - 1 : Int) < (z.length : Int) * n := by
      have := (Int.ediv_lt_iff_lt_mul (show (0 : Int) < n by omega)).mp h5
      exact this
    exact absurd (Int.lt_of_lt_of_le h6 (Int.le_trans h4 h7)) (Int.lt_irrefl _)
  · intro _ _
    show decide (z.length * ((n : Int)).toNat > sizeLine) = false
    refine decide_eq_false ?_
    rw [Int.toNat_natCast, show sizeLine = 16777216 from by decide]
    omega
  · rw [mul_rep]
    exact ⟨.str (repS z n), H, I.tok _, ⟨_, rfl⟩, q⟩
abbrev rMulA : R2 := fun x y H Q => rI CMul (fun i j => .int (i * j)) x y H Q ∨ (rI CMulW (fun i j => .int (i * j)) x y H Q ∨ (rRep x y H Q ∨ rMulS x y H Q))
theorem op_mulA : OpR X (binaryOp .Mult) rMulA := OpR.or op_mul (OpR.or op_mulW (OpR.or op_rep op_mulS))
abbrev rEqA (K : PySem.W.Frag) : R2 := fun x y H Q => rEq x y H Q ∨ rEqD K x y H Q
abbrev rNeA (K : PySem.W.Frag) : R2 := fun x y H Q => rNe x y H Q ∨ rNeD K x y H Q
theorem op_eqA (hu : X.A.units + 64 < cLine) : OpR X (compareOp .Eq) (rEqA X.K) := OpR.or op_eq (op_eqD hu)
theorem op_neA (hu : X.A.units + 64 < cLine) : OpR X (compareOp .NotEq) (rNeA X.K) := OpR.or op_ne (op_neD hu)
abbrev rInS : R2 := fun x y H Q => ∃ (c : Nat) (z : Str), x = .str ⟨#[c]⟩ ∧ y = .str z ∧ Q (.bl (decide (c ∈ z.cps.toList))) H
abbrev rNotInS : R2 := fun x y H Q => ∃ (c : Nat) (z : Str), x = .str ⟨#[c]⟩ ∧ y = .str z ∧ Q (.bl (!decide (c ∈ z.cps.toList))) H
abbrev rInA (K : PySem.W.Frag) : R2 := fun x y H Q => rInS x y H Q ∨ rIn K false x y H Q
abbrev rNotInA (K : PySem.W.Frag) : R2 := fun x y H Q => rNotInS x y H Q ∨ rIn K true x y H Q
theorem op_inA : OpR X (compareOp .In) (rInA X.K) := OpR.or op_in_sign op_in_seq
theorem op_notinA : OpR X (compareOp .NotIn) (rNotInA X.K) := OpR.or op_notIn_sign op_notIn_seq
/-! ### len -/
abbrev rLenSq (K : PySem.W.Frag) : List V → Hp → VK → Prop := fun xs H Q => ∃ p ys, xs = [.ref p] ∧ (SqL K H p ys ∨ SqT K H p ys) ∧ Q (.int ys.length) H
abbrev rLenStr : List V → Hp → VK → Prop := fun xs H Q => ∃ z, xs = [.str z] ∧ z.length ≤ sizeLine ∧ Q (.int z.length) H
abbrev rLenA (K : PySem.W.Frag) : List V → Hp → VK → Prop := fun xs H Q => rLenSq K xs H Q ∨ rLenStr xs H Q
theorem CallR.or {f : Value} {r r' : List V → Hp → VK → Prop} (h : CallR X f r) (h' : CallR X f r') : CallR X f (fun xs H Q => r xs H Q ∨ r' xs H Q) := by
  intro pins s σ H xs us Q I r hq
  rcases hq with q | q
  · exact h pins s σ H xs us Q I r q
  · exact h' pins s σ H xs us Q I r q
theorem call_lenA : CallR X (.builtin "len") (rLenA X.K) := CallR.or call_len_seq call_len_str
def rAbs : List V → Hp → VK → Prop := fun xs H Q => ∃ i, xs = [.int i] ∧ Q (.int (if i < 0 then -i else i)) H
theorem call_absA : CallR X (.builtin "abs") rAbs := call_abs
def rMax2 : List V → Hp → VK → Prop := fun xs H Q => ∃ i j, xs = [.int i, .int j] ∧ Q (.int (if j > i then j else i)) H
theorem call_maxA (hc : X.calm = true) : CallR X (.builtin "max") rMax2 := call_max2 hc
def rMin2 : List V → Hp → VK → Prop := fun xs H Q => ∃ i j, xs = [.int i, .int j] ∧ Q (.int (if j < i then j else i)) H
theorem call_minA (hc : X.calm = true) : CallR X (.builtin "min") rMin2 := call_min2 hc
def rDivmod : List V → Hp → VK → Prop := fun xs H Q => ∃ i j, xs = [.int i, .int j] ∧ CDivP i j ∧ ∀ p, H p = none → Q (.ref p) (upd H p (.tup [.int (i / j), .int (i % j)]))
theorem call_divmodA : CallR X (.builtin "divmod") rDivmod := call_divmodW
def rListS : List V → Hp → VK → Prop := fun xs H Q => ∃ z : Str, xs = [.str z] ∧ z.length ≤ sizeLine ∧ ∀ l, H l = none → Q (.ref l) (upd H l (.lst (z.cps.toList.map fun c => V.str ⟨#[c]⟩)))
theorem call_listS (hc : X.calm = true) : CallR X (.type "list") rListS := by
  intro pins s σ H xs us Q I r h
  obtain ⟨z, rfl, hz, q⟩ := h
  obtain ⟨u, rfl, rx⟩ := vals1 r
  obtain ⟨t, rfl⟩ := rx
  refine call_list_str (I.ok.hd hc) z t (fun h' tk acc' c' hk hS hacc => ?_) hz
  refine ⟨.ref s.heap.objs.size, _, I.laid (t' := tk) hk (Nat.le_refl _) (show ObjOk X.prog X.w _ h' _ (.lst (z.cps.toList.map fun c => V.str ⟨#[c]⟩)) from ⟨?_, acc'.toList, c', ?_, ?_⟩), rfl, q _ (I.hok.fresh (Nat.le_refl _))⟩
  · rw [List.length_map]; exact hz
  · refine vals_of_at (by rw [List.length_map, Array.length_toList, Array.length_toList, hacc.1]) fun j x w h1 h2 => ?_
    obtain ⟨c, u, hc1, rfl⟩ := hacc.2 j w (by rw [← Array.getElem?_toList]; exact h2)
    rw [List.getElem?_map, Array.getElem?_toList, hc1] at h1
    cases h1
    exact ⟨_, rfl⟩
  · rw [Array.toArray_toList]; exact hS
def rListQ (K : PySem.W.Frag) : List V → Hp → VK → Prop := fun xs H Q => ∃ p ys, xs = [.ref p] ∧ (SqL K H p ys ∨ SqT K H p ys) ∧ ∀ l, H l = none → Q (.ref l) (upd H l (.lst ys))
def rListOf (K : PySem.W.Frag) : List V → Hp → VK → Prop := fun xs H Q => rListQ K xs H Q ∨ rListS xs H Q
theorem call_listA (hc : X.calm = true) : CallR X (.type "list") (rListOf X.K) := CallR.or call_list_of (call_listS hc)
def rTupleOf (K : PySem.W.Frag) : List V → Hp → VK → Prop := fun xs H Q => ∃ p ys, xs = [.ref p] ∧ ((SqL K H p ys ∧ ∀ l, H l = none → Q (.ref l) (upd H l (.tup ys))) ∨ (SqT K H p ys ∧ Q (.ref p) H))
theorem call_tupleA : CallR X (.type "tuple") (rTupleOf X.K) := call_tuple_of
/-! ### subscripts, slices -/
theorem ix_A : IxR X (rIx X.K) := ix_seq

theorem SlR.or {r r' : V → Option Int → Option Int → Hp → VK → Prop} (h : SlR X r) (h' : SlR X r') : SlR X (fun x lo hi H Q => r x lo hi H Q ∨ r' x lo hi H Q) := by
  unfold SlR at h h' ⊢
  intro pins s σ H x lo hi v
  intros
  rename_i q
  rcases q with q | q
  · apply h <;> assumption
  · apply h' <;> assumption
abbrev rSlAny (K : PySem.W.Frag) : V → Option Int → Option Int → Hp → VK → Prop := fun x lo hi H Q => rSlL K x lo hi H Q ∨ (rSlT K x lo hi H Q ∨ rSlS x lo hi H Q)
theorem sl_A : SlR X (rSlAny X.K) := SlR.or sl_list (SlR.or sl_tup sl_str)
/-! ### what is walked -/
abbrev iAny (K : PySem.W.Frag) (te : TE) : TI := fun σ H R => iList K te σ H R ∨ (iTup K te σ H R ∨ iStr te σ H R)
theorem PI.or {tg iter : Expr} {w1 w2 : TI} (h : PI X tg iter w1) (h' : PI X tg iter w2) : PI X tg iter (fun σ H R => w1 σ H R ∨ w2 σ H R) := by
  refine ⟨fun pins s σ H R I q => ?_⟩
  rcases q with q | q
  · exact h.run pins s σ H R I q
  · exact h'.run pins s σ H R I q
theorem pi_A {tg e : Expr} {te : TE} (he : PE X e te) : PI X tg e (iAny X.K te) := PI.or (pi_list he) (PI.or (pi_tup he) (pi_str he))
/-! ### the module's constants -/
theorem pe_ki {x : Str} {i : Int} {pos : Pos} (hg : Gl X x) (hm : ∃ t, X.mg x = some (.int i t)) (hd : (x == ("__debug__" : Str)) = false := by decide) : PE X (.Name x pos) (tC (.int i)) :=
  let ⟨t, e⟩ := hm
  pe_glob hg e ⟨t, rfl⟩ hd
theorem pe_ks {x z : Str} {pos : Pos} (hg : Gl X x) (hm : ∃ t, X.mg x = some (.str z t)) (hd : (x == ("__debug__" : Str)) = false := by decide) : PE X (.Name x pos) (tC (.str z)) :=
  let ⟨t, e⟩ := hm
  pe_glob hg e ⟨t, rfl⟩ hd
end
/-! ### readings, one step at a time (the goal's head is the reading's head; what is left comes last) -/
section
variable {K : PySem.W.Frag} {σ : L2.St} {H : Hp} {Q : VK} {D : Ends} {t u : TS} {te ta tb : TE} {tt : TT} {g : TG}
theorem r_seq (h : t { D with nx := u D } σ H) : tSeq t u D σ H := h
theorem r_asg (h : te σ H fun x H1 => g x σ H1 D.nx) : tAsg te g D σ H := h
theorem r_gname {i : Nat} {v : V} {Q : L2.St → Hp → Prop} (h : Q (σ.set i (some v)) H) : gName i v σ H Q := h
theorem r_ret (h : te σ H D.rt) : tRet te D σ H := h
theorem r_retN (h : D.rt .non H) : tRetN D σ H := h
theorem r_next (h : D.nx σ H) : tNext D σ H := h
theorem r_drop (h : te σ H fun _ H1 => D.nx σ H1) : tDrop te D σ H := h
theorem r_if (h : tt σ H fun b H1 => if b = true then t D σ H1 else u D σ H1) : tIfS tt t u D σ H := h
theorem r_var {i : Nat} {v : V} (e : σ[i]? = some (some v)) (h : Q v H) : tVar i σ H Q := ⟨v, e, h⟩
theorem r_c {v : V} (h : Q v H) : tC v σ H Q := h
theorem r_op {r : R2} (h : ta σ H fun x H1 => tb σ H1 fun y H2 => r x y H2 Q) : tOp r ta tb σ H Q := h
theorem r_test {Q : Bool → Hp → Prop} (h : te σ H fun x H' => ∃ k, x = .bl k ∧ Q k H') : tTest te σ H Q := h
theorem r_tb {Q : Bool → Hp → Prop} (h : te σ H fun x H' => ∃ k, x = .bl k ∧ Q k H') : tB te σ H Q := h
theorem r_bl {F : Bool → Prop} {b : Bool} (h : F b) : ∃ k, V.bl b = .bl k ∧ F k := ⟨b, rfl, h⟩
theorem r_and {t1 t2 : TT} {Q : Bool → Hp → Prop} (h : t1 σ H fun c H1 => if c = true then t2 σ H1 Q else Q false H1) : tAnd t1 t2 σ H Q := h
theorem r_or {t1 t2 : TT} {Q : Bool → Hp → Prop} (h : t1 σ H fun c H1 => if c = true then Q true H1 else t2 σ H1 Q) : tOr t1 t2 σ H Q := h
theorem r_not {t1 : TT} {Q : Bool → Hp → Prop} (h : t1 σ H fun c H1 => Q (!c) H1) : tNot t1 σ H Q := h
theorem r_andV (h : ta σ H fun x H1 => ∃ c, x = .bl c ∧ if c = true then tb σ H1 Q else Q (.bl false) H1) : tAndV ta tb σ H Q := h
theorem r_orV (h : ta σ H fun x H1 => ∃ c, x = .bl c ∧ if c = true then Q (.bl true) H1 else tb σ H1 Q) : tOrV ta tb σ H Q := h
theorem r_notV (h : ta σ H fun x H1 => ∃ c, x = .bl c ∧ Q (.bl (!c)) H1) : tNotV ta σ H Q := h
theorem r_ifE (h : tt σ H fun c H1 => if c = true then ta σ H1 Q else tb σ H1 Q) : tIf tt ta tb σ H Q := h
theorem r_nil {Q : List V → Hp → Prop} (h : Q [] H) : tNil σ H Q := h
theorem r_cons {tr : TA} {Q : List V → Hp → Prop} (h : ta σ H fun x H1 => tr σ H1 fun xs H2 => Q (x :: xs) H2) : tCons ta tr σ H Q := h
theorem r_tup {t : TA} (h : t σ H fun xs H1 => xs.length ≤ sizeLine ∧ ∀ p, H1 p = none → Q (.ref p) (upd H1 p (.tup xs))) : tTup t σ H Q := h
theorem r_lst {t : TA} (h : t σ H fun xs H1 => xs.length ≤ sizeLine ∧ ∀ p, H1 p = none → Q (.ref p) (upd H1 p (.lst xs))) : tLst t σ H Q := h
theorem sz1 {n : Nat} (h : n ≤ 1000000) : n ≤ sizeLine := Nat.le_trans h (by decide)
theorem r_new {xs : List V} {F : Hp → Addr → Prop} (hn : xs.length ≤ 1000000) (h : ∀ p, H p = none → F H p) : xs.length ≤ sizeLine ∧ ∀ p, H p = none → F H p := ⟨sz1 hn, h⟩
theorem r_cb {r : List V → Hp → VK → Prop} {t : TA} (h : t σ H fun vs H1 => r vs H1 Q) : tCB r t σ H Q := h
theorem r_call {sp : Sp} {dvs : List V} {E : XK} {t : TA} (h : t σ H fun vs H1 => sp (vs ++ dvs) H1 Q E) : tCall sp dvs E t σ H Q := h
theorem r_sub {o i : TE} {t : TSet} {v : V} {Q : L2.St → Hp → Prop} (h : o σ H fun x H1 => i σ H1 fun y H2 => t x y v H2 fun H3 => Q σ H3) : gSub o i t v σ H Q := h
/-! operators -/
theorem r_addI {i j : Int} (h : Q (.int (i + j)) H) : rAddA K (.int i) (.int j) H Q := .inl ⟨i, j, rfl, rfl, h⟩
theorem r_addS {i j : Str} (z : i.length + j.length ≤ sizeLine) (h : Q (.str (i ++ j)) H) : rAddA K (.str i) (.str j) H Q := .inr (.inl ⟨i, j, rfl, rfl, z, h⟩)
theorem r_addT {a b : Addr} {xs ys : List V} (ha : SqT K H a xs) (hb : SqT K H b ys) (z : xs.length + ys.length ≤ sizeLine) (h0 : xs = [] → Q (.ref b) H) (h1 : xs ≠ [] → ys = [] → Q (.ref a) H) (h2 : xs ≠ [] → ys ≠ [] → ∀ p, H p = none → Q (.ref p) (upd H p (.tup (xs ++ ys)))) : rAddA K (.ref a) (.ref b) H Q :=
  .inr (.inr (.inr ⟨a, b, xs, ys, rfl, rfl, ha, hb, z, h0, h1, h2⟩))
theorem r_addL {l b : Addr} {xs zs : List V} (h1 : H l = some (.lst xs)) (h2 : H b = some (.lst zs)) (z : xs.length + zs.length ≤ sizeLine) (h : ∀ p, H p = none → Q (.ref p) (upd H p (.lst (xs ++ zs)))) : rAddA K (.ref l) (.ref b) H Q := .inr (.inr (.inl ⟨l, b, xs, zs, rfl, rfl, h1, h2, z, h⟩))
theorem r_I0 {f : Int → Int → V} {i j : Int} (h : Q (f i j) H) : rI0 f (.int i) (.int j) H Q := ⟨i, j, rfl, rfl, h⟩
theorem r_I {C : Int → Int → Prop} {f : Int → Int → V} {i j : Int} (c : C i j) (h : Q (f i j) H) : rI C f (.int i) (.int j) H Q := ⟨i, j, rfl, rfl, c, h⟩
theorem r_mulW {i j : Int} (c : CMulW i j) (h : Q (.int (i * j)) H) : rMulA (.int i) (.int j) H Q := .inr (.inl ⟨i, j, rfl, rfl, c, h⟩)
theorem r_mulL {i j : Int} (c : -(2 ^ 64) < i ∧ i < 2 ^ 64) (h : Q (.int (i * j)) H) : rMulA (.int i) (.int j) H Q := .inl ⟨i, j, rfl, rfl, .inl c, h⟩
theorem r_mulR {i j : Int} (c : -(2 ^ 64) < j ∧ j < 2 ^ 64) (h : Q (.int (i * j)) H) : rMulA (.int i) (.int j) H Q := .inl ⟨i, j, rfl, rfl, .inr c, h⟩
theorem r_mod {f : Int → Int → V} {i j : Int} (c : 0 < j) (h : Q (f i j) H) : rI (fun _ j => 0 < j) f (.int i) (.int j) H Q := ⟨i, j, rfl, rfl, c, h⟩
theorem r_div {f : Int → Int → V} {i j : Int} (c : 0 < j ∧ j.natAbs < 2 ^ 300) (h : Q (f i j) H) : rI CDivW f (.int i) (.int j) H Q := ⟨i, j, rfl, rfl, wide_div c.1 c.2 (by decide) (by decide), h⟩
theorem r_pow {f : Int → Int → V} {i j : Int} (c : 0 ≤ j ∧ j ≤ 1000000 ∧ i.natAbs < 2 ^ 64) (h : Q (f i j) H) : rI CPow f (.int i) (.int j) H Q := ⟨i, j, rfl, rfl, c, h⟩
theorem r_eqI {i j : Int} (h : Q (.bl (decide (i = j))) H) : rEqA K (.int i) (.int j) H Q := .inl ⟨rfl, by rw [show decide (V.int i = V.int j) = decide (i = j) from decide_eq_decide.mpr ⟨fun e => V.int.inj e, fun e => congrArg _ e⟩]; exact h⟩
theorem r_eqS {i j : Str} (h : Q (.bl (decide (i = j))) H) : rEqA K (.str i) (.str j) H Q := .inl ⟨rfl, by rw [show decide (V.str i = V.str j) = decide (i = j) from decide_eq_decide.mpr ⟨fun e => V.str.inj e, fun e => congrArg _ e⟩]; exact h⟩
theorem r_neI {i j : Int} (h : Q (.bl (!decide (i = j))) H) : rNeA K (.int i) (.int j) H Q := .inl ⟨rfl, by rw [show decide (V.int i = V.int j) = decide (i = j) from decide_eq_decide.mpr ⟨fun e => V.int.inj e, fun e => congrArg _ e⟩]; exact h⟩
theorem r_neS {i j : Str} (h : Q (.bl (!decide (i = j))) H) : rNeA K (.str i) (.str j) H Q := .inl ⟨rfl, by rw [show decide (V.str i = V.str j) = decide (i = j) from decide_eq_decide.mpr ⟨fun e => V.str.inj e, fun e => congrArg _ e⟩]; exact h⟩
theorem r_inS {c : Nat} {z : Str} (h : Q (.bl (decide (c ∈ z.cps.toList))) H) : rInA K (.str ⟨#[c]⟩) (.str z) H Q := .inl ⟨c, z, rfl, rfl, h⟩
theorem r_lenSq {p : Addr} {ys : List V} (s : SqL K H p ys ∨ SqT K H p ys) (h : Q (.int ys.length) H) : rLenA K [.ref p] H Q := .inl ⟨p, ys, rfl, s, h⟩
theorem r_lenS {z : Str} (s : z.length ≤ sizeLine) (h : Q (.int z.length) H) : rLenA K [.str z] H Q := .inr ⟨z, rfl, s, h⟩
theorem r_ixL {p : Addr} {xs : List V} {i : Int} {v : V} (s : SqL K H p xs) (e : atI xs i = some v) (h : Q v H) : rIx K (.ref p) (.int i) H Q := .inl ⟨p, xs, i, v, rfl, rfl, s, e, h⟩
theorem r_ixT {p : Addr} {xs : List V} {i : Int} {v : V} (s : SqT K H p xs) (e : atI xs i = some v) (h : Q v H) : rIx K (.ref p) (.int i) H Q := .inr (.inl ⟨p, xs, i, v, rfl, rfl, s, e, h⟩)
theorem r_ixS {z : Str} {i : Int} {c : Nat} (s : z.length ≤ sizeLine) (e : atI z.cps.toList i = some c) (h : Q (.str ⟨#[c]⟩) H) : rIx K (.str z) (.int i) H Q := .inr (.inr ⟨z, i, c, rfl, rfl, s, e, h⟩)
theorem r_setL {p : Addr} {xs : List V} {k : Int} {j : Nat} {v : V} {Q : Hp → Prop} (s : H p = some (.lst xs)) (e : ixN xs.length k = some j) (h : Q (upd H p (.lst (xs.set j v)))) : rSetL (.ref p) (.int k) v H Q := ⟨p, xs, k, j, rfl, rfl, s, e, h⟩
theorem r_abs {i : Int} (h : Q (.int (if i < 0 then -i else i)) H) : rAbs [.int i] H Q := ⟨i, rfl, h⟩
theorem r_max {i j : Int} (h : Q (.int (if j > i then j else i)) H) : rMax2 [.int i, .int j] H Q := ⟨i, j, rfl, h⟩
theorem r_min {i j : Int} (h : Q (.int (if j < i then j else i)) H) : rMin2 [.int i, .int j] H Q := ⟨i, j, rfl, h⟩
theorem r_all {a : Addr} {bs : List Bool} (s : SqL K H a (bs.map V.bl)) (h : Q (.bl (bs.all id)) H) : rAll K [.ref a] H Q := ⟨a, bs, rfl, s, h⟩
theorem r_any {a : Addr} {bs : List Bool} (s : SqL K H a (bs.map V.bl)) (h : Q (.bl (bs.any id)) H) : rAny K [.ref a] H Q := ⟨a, bs, rfl, s, h⟩
theorem r_sum {a : Addr} {ns : List Int} (s : SqL K H a (ns.map V.int)) (h : Q (.int ns.sum) H) : rSum K [.ref a] H Q := ⟨a, ns, rfl, s, h⟩
theorem r_tupL {p : Addr} {ys : List V} (s : SqL K H p ys) (h : ∀ l, H l = none → Q (.ref l) (upd H l (.tup ys))) : rTupleOf K [.ref p] H Q := ⟨p, ys, rfl, .inl ⟨s, h⟩⟩
theorem r_listof {p : Addr} {ys : List V} (s : SqL K H p ys ∨ SqT K H p ys) (h : ∀ l, H l = none → Q (.ref l) (upd H l (.lst ys))) : rListOf K [.ref p] H Q := .inl ⟨p, ys, rfl, s, h⟩
theorem r_liststr {z : Str} (hz : z.length ≤ sizeLine) (h : ∀ l, H l = none → Q (.ref l) (upd H l (.lst (z.cps.toList.map fun c => V.str ⟨#[c]⟩)))) : rListOf K [.str z] H Q := .inr ⟨z, rfl, hz, h⟩
theorem r_mulS {z : Str} {n : Nat} (hn : n ≤ 16777216) (hz : z.length * n ≤ 16777216) (h : Q (.str (repS z n)) H) : rMulA (.str z) (.int n) H Q := .inr (.inr (.inr ⟨z, n, rfl, rfl, hn, hz, h⟩))
theorem r_ite {p A B : Prop} [Decidable p] (h1 : p → A) (h2 : ¬ p → B) : if decide p = true then A else B := by
  by_cases h : p
  · rw [decide_eq_true h]; exact iteT (h1 h)
  · rw [decide_eq_false h]; exact iteF (h2 h)
theorem r_iteN {p A B : Prop} [Decidable p] (h1 : p → B) (h2 : ¬ p → A) : if (!decide p) = true then A else B := by
  by_cases h : p
  · rw [decide_eq_true h]; exact iteF (h1 h)
  · rw [decide_eq_false h]; exact iteT (h2 h)
theorem r_iteb {b : Bool} {A B : Prop} (h1 : b = true → A) (h2 : b = false → B) : if b = true then A else B := by
  cases b with
  | true => exact iteT (h1 rfl)
  | false => exact iteF (h2 rfl)
theorem r_iteY {p A B : Prop} [Decidable p] (c : p) (h1 : A) : if decide p = true then A else B := by
  rw [decide_eq_true c]; exact iteT h1
theorem r_iteO {p A B : Prop} [Decidable p] (c : ¬ p) (h1 : B) : if decide p = true then A else B := by
  rw [decide_eq_false c]; exact iteF h1
theorem look_new {H : Hp} {p q : Addr} {o u : HO} (hq : H q = none) (h : H p = some o) : upd H q u p = some o := by
  rw [upd_ne (ne_of_none h hq)]
  exact h
theorem look_mut {H : Hp} {p q : Addr} {o u v : HO} (hq : H q = some v) (h : H p = some o) (d : o ≠ v) : upd H q u p = some o := by
  rw [upd_ne (ne_of h hq d)]
  exact h
end
end OB

namespace OB
open PySem PySem.Spec PyProof.Rows L2
/-- the def at f keeps the promise, its last arguments dvs by default -/
def Prom (P : Program) (w : World) (K : PySem.W.Frag) (mg : Str → Option Value) (base : Heap) (CX : CXT) (k : Nat) (f : Addr) (ps : List Str) (dvs : List V) (sp : Sp) : Prop :=
  (∃ fd ds, FnOk P w K mg base CX k f fd ps sp ∧ Binds K fd ps ds ∧ Vals dvs ds) ∧ PySem.W.keepIn K (.ref f) = true
section
variable {P : Program} {w : World} {K : PySem.W.Frag} {mg : Str → Option Value} {base : Heap} {k : Nat} {f : Addr} {ps N : List Str} {sp : Sp} {x qual : Str} {params : Arguments} {body : List Stmt} {scope : Scope} {fd : FuncData} {dvs kws}
theorem prom0 (F : FunD K x qual params body scope dvs kws f fd) (S : FnScope N ps scope) (b : Binds K fd ps []) (len : ∀ vs H Q E, sp vs H Q E → vs.length = ps.length)
    (hbody : ∀ (cdv : Value) (A : Around) (outer : List Env) (s : Shared) (H : Hp) (vs : List V) (Q : VK) (E : XK), Room k (A.deeper (envOfC qual scope s.heap.objs.size f cdv)) → sp vs H Q E →
      ∃ t, PSs (cxOf CX0 P w K mg base N qual scope f cdv A outer s H E).nox body t ∧ t { nx := fun _ H' => Q .non H', rt := Q } (start N vs) H) : Prom P w K mg base CX0 (k + 1) f ps [] sp :=
  ⟨⟨fd, [], F.ok S len (fun cdv A outer s H vs Q E hr h => let ⟨t, h1, h2⟩ := hbody cdv A outer s H vs Q E hr h; ⟨t, h1.nox, h2⟩), b, .nil⟩, F.kp⟩
theorem promX (F : FunD K x qual params body scope dvs kws f fd) (S : FnScope N ps scope) (b : Binds K fd ps []) (len : ∀ vs H Q E, sp vs H Q E → vs.length = ps.length)
    (hbody : ∀ (cdv : Value) (A : Around) (outer : List Env) (s : Shared) (H : Hp) (vs : List V) (Q : VK) (E : XK), Room k (A.deeper (envOfC qual scope s.heap.objs.size f cdv)) → sp vs H Q E →
      ∃ t, PSs (cxOf (L2.CX P w) P w K mg base N qual scope f cdv A outer s H E) body t ∧ t { nx := fun _ H' => Q .non H', rt := Q } (start N vs) H) : Prom P w K mg base (L2.CX P w) (k + 1) f ps [] sp :=
  ⟨⟨fd, [], F.ok S len hbody, b, .nil⟩, F.kp⟩
theorem Prom.mono {CX : CXT} {j : Nat} (h : Prom P w K mg base CX j f ps dvs sp) (hj : j ≤ k) : Prom P w K mg base CX k f ps dvs sp :=
  let ⟨⟨fd, ds, F, b, v⟩, kp⟩ := h
  ⟨⟨fd, ds, F.mono hj, b, v⟩, kp⟩
end
section
variable {X : Cx} {CX : CXT} {k : Nat} {f C : Addr} {ps : List Str} {sp : Sp} {dvs : List V} {E : XK} {x m : Str} {p pos apos : Pos} {e o : Expr} {es : List Expr} {ta : TE} {t : TA}
theorem pe_callP (G : Prom X.prog X.w X.K X.mg X.base CX k f ps dvs sp) (hr : Room k X.A) (hm : X.mg x = some (.ref f)) (hx : Passes CX X E)
    (ha : PA X (e :: es) t) (hg : Gl X x := by rfl) (hdb : (x == ("__debug__" : Str)) = false := by decide) (he : starEach (e :: es) X.env = (false, eval e X.env) :: starEach es X.env := by rfl) (hpl : (backTo pos (starEach es X.env)).any (·.1) = false := by rfl) :
    PE X (.Call (.Name x p) (e :: es) [] pos) (tCall sp dvs E t) :=
  let ⟨⟨fd, ds, F, b, v⟩, kp⟩ := G
  pe_call F hr hg hm kp b v hx ha hdb he hpl
theorem pe_callP0 (G : Prom X.prog X.w X.K X.mg X.base CX k f ps dvs sp) (hr : Room k X.A) (hm : X.mg x = some (.ref f)) (hx : Passes CX X E)
    (hg : Gl X x := by rfl) (hdb : (x == ("__debug__" : Str)) = false := by decide) : PE X (.Call (.Name x p) [] [] pos) (tCall sp dvs E tNil) :=
  let ⟨⟨fd, ds, F, b, v⟩, kp⟩ := G
  pe_call0 F hr hg hm kp b v hx hdb
theorem pe_methP {pl : Sem Bool} (he : PE X o ta) (c : Cls X.K C) (hm : Meth X.K C m f) (G : Prom X.prog X.w X.K X.mg X.base CX k f ps dvs sp) (hr : Room k X.A) (hx : Passes CX X E) (ha : PA X (e :: es) t)
    (hst : starEach (e :: es) X.env = (false, eval e X.env) :: starEach es X.env := by rfl) (hpl : (backTo pos (starEach es X.env)).any (·.1) = false := by rfl)
    (ht : eval (.Call (.Attribute o m apos) (e :: es) [] pos) X.env = (do
      let ov ← eval o X.env
      standAt apos.atName
      let (f, first) ← holding [ov] (getMethod ov m pl)
      callWith pos f first (backTo pos (starEach (e :: es) X.env)) (backToKw pos (keywordEach [] X.env))) := by rfl) :
    PE X (.Call (.Attribute o m apos) (e :: es) [] pos) (tMeth C m sp dvs E ta t) :=
  let ⟨⟨fd, ds, F, b, v⟩, kp⟩ := G
  pe_meth he c hm F hr b v hx ha hst hpl ht
theorem pe_methP0 {pl : Sem Bool} (he : PE X o ta) (c : Cls X.K C) (hm : Meth X.K C m f) (G : Prom X.prog X.w X.K X.mg X.base CX k f ps dvs sp) (hr : Room k X.A) (hx : Passes CX X E)
    (ht : eval (.Call (.Attribute o m apos) [] [] pos) X.env = (do
      let ov ← eval o X.env
      standAt apos.atName
      let (f, first) ← holding [ov] (getMethod ov m pl)
      callWith pos f first (backTo pos (starEach [] X.env)) (backToKw pos (keywordEach [] X.env))) := by rfl) :
    PE X (.Call (.Attribute o m apos) [] [] pos) (tMeth C m sp dvs E ta tNil) :=
  let ⟨⟨fd, ds, F, b, v⟩, kp⟩ := G
  pe_meth0 he c hm F hr b v hx ht
theorem pe_makeP (M : Mk X.K C f) (G : Prom X.prog X.w X.K X.mg X.base CX k f ps dvs sp) (hr : Room (k + 1) X.A) (hm : X.mg x = some (.ref C)) (hx : Passes CX X E)
    (ha : PA X (e :: es) t) (hg : Gl X x := by rfl) (hdb : (x == ("__debug__" : Str)) = false := by decide) (he : starEach (e :: es) X.env = (false, eval e X.env) :: starEach es X.env := by rfl) (hpl : (backTo pos (starEach es X.env)).any (·.1) = false := by rfl) :
    PE X (.Call (.Name x p) (e :: es) [] pos) (tMake C sp dvs E t) :=
  let ⟨⟨fd, ds, F, b, v⟩, kp⟩ := G
  pe_make M F hr hg hm b v hx ha hdb he hpl
theorem pe_makeP0 (M : Mk X.K C f) (G : Prom X.prog X.w X.K X.mg X.base CX k f ps dvs sp) (hr : Room (k + 1) X.A) (hm : X.mg x = some (.ref C)) (hx : Passes CX X E)
    (hg : Gl X x := by rfl) (hdb : (x == ("__debug__" : Str)) = false := by decide) : PE X (.Call (.Name x p) [] [] pos) (tMake C sp dvs E tNil) :=
  let ⟨⟨fd, ds, F, b, v⟩, kp⟩ := G
  pe_make0 M F hr hg hm b v hx hdb
end
end OB

namespace OB
open PySem PySem.Spec PyProof.Rows L2
/-! ### data on the heap: Dp (the layer's), kept by growth -/
section
variable {K : PySem.W.Frag} {H H' : Hp}
theorem Same.sql (e : Same H H') {a : Addr} {xs : List V} (h : SqL K H a xs) : SqL K H' a xs := e.seq h
theorem Same.sqt (e : Same H H') {a : Addr} {xs : List V} (h : SqT K H a xs) : SqT K H' a xs := by
  rcases h with (h | ⟨o, h⟩) | h
  · exact .inl (.inl (e _ _ h))
  · exact .inl (.inr ⟨o, e _ _ h⟩)
  · exact .inr h
mutual
theorem dp_same (e : Same H H') : ∀ {v : V} {d : PyData}, Dp K H v d → Dp K H' v d
  | _, _, .non => .non
  | _, _, .bl b => .bl b
  | _, _, .int i => .int i
  | _, _, .str x => .str x
  | _, _, .lst h a => .lst (Same.sql e h) (dpAll_same e a)
  | _, _, .tup h a => .tup (Same.sqt e h) (dpAll_same e a)
theorem dpAll_same (e : Same H H') : ∀ {vs : List V} {ds : List PyData}, DpAll K H vs ds → DpAll K H' vs ds
  | _, _, .nil => .nil
  | _, _, .cons h t => .cons (dp_same e h) (dpAll_same e t)
end
theorem DpAll.length : ∀ {vs : List V} {ds : List PyData}, DpAll K H vs ds → vs.length = ds.length
  | _, _, .nil => rfl
  | _, _, .cons _ t => congrArg (· + 1) (DpAll.length t)
theorem DpAll.get : ∀ {vs : List V} {ds : List PyData} {i : Nat} {v : V}, DpAll K H vs ds → vs[i]? = some v → ∃ d, ds[i]? = some d ∧ Dp K H v d
  | _, _, _, _, .nil, h => by simp at h
  | _, _, 0, _, .cons h _, e => by
    simp at e
    subst e
    exact ⟨_, rfl, h⟩
  | _, _, i + 1, v, .cons _ t, e => by
    obtain ⟨d, h1, h2⟩ := DpAll.get (i := i) (v := v) t (by simpa using e)
    exact ⟨d, by simpa using h1, h2⟩
theorem DpAll.get2 : ∀ {vs : List V} {ds : List PyData} {i : Nat} {d : PyData}, DpAll K H vs ds → ds[i]? = some d → ∃ v, vs[i]? = some v ∧ Dp K H v d
  | _, _, _, _, .nil, h => by simp at h
  | _, _, 0, _, .cons h _, e => by
    simp at e
    subst e
    exact ⟨_, rfl, h⟩
  | _, _, i + 1, v, .cons _ t, e => by
    obtain ⟨d, h1, h2⟩ := DpAll.get2 (i := i) (d := v) t (by simpa using e)
    exact ⟨d, by simpa using h1, h2⟩
theorem DpAll.append : ∀ {vs ws : List V} {ds es : List PyData}, DpAll K H vs ds → DpAll K H ws es → DpAll K H (vs ++ ws) (ds ++ es)
  | _, _, _, _, .nil, h => h
  | _, _, _, _, .cons h t, h2 => .cons h (DpAll.append t h2)
theorem DpAll.take : ∀ {vs : List V} {ds : List PyData} (n : Nat), DpAll K H vs ds → DpAll K H (vs.take n) (ds.take n)
  | _, _, 0, _ => by simpa using .nil
  | _, _, _ + 1, .nil => .nil
  | _, _, n + 1, .cons h t => .cons h (DpAll.take n t)
theorem Same.new {p : Addr} {o : HO} (h : H p = none) : Same H (upd H p o) := fun b u e => by
  rw [upd_ne (ne_of_none e h)]
  exact e
/-- beyond what stood at the start -/
theorem Same.mut {H0 : Hp} {p : Addr} {o : HO} (e : Same H0 H) (h : H0 p = none) : Same H0 (upd H p o) := fun b u q => by
  rw [upd_ne (ne_of_none q h)]
  exact e _ _ q
end
/-! ### isinstance of data -/
def tyD : PyData → String
  | .none => "NoneType"
  | .bool _ => "bool"
  | .int _ => "int"
  | .str _ => "str"
  | .list _ => "list"
  | .tuple _ => "tuple"
  | .dict _ => "dict"
def isInt : PyData → Bool
  | .int _ => true
  | .bool _ => true
  | _ => false
def isBool : PyData → Bool
  | .bool _ => true
  | _ => false
def isStr : PyData → Bool
  | .str _ => true
  | _ => false
def isTup : PyData → Bool
  | .tuple _ => true
  | _ => false
def isLst : PyData → Bool
  | .list _ => true
  | _ => false
section
variable {K : PySem.W.Frag} {H : Hp} {v : V} {d : PyData} {Q : VK}
theorem Dp.ty (h : Dp K H v d) : ∃ n, TyX K H v (.type n) ∧ n = tyD d := by
  cases h with
  | non => exact ⟨_, .base .non, rfl⟩
  | bl b => exact ⟨_, .base (.bl b), rfl⟩
  | int i => exact ⟨_, .base (.int i), rfl⟩
  | str x => exact ⟨_, .base (.str x), rfl⟩
  | lst h _ =>
    rcases h with (h | ⟨o, h⟩) | ⟨o, its, n, h, c, _⟩
    · exact ⟨_, .base (.lst h), rfl⟩
    · exact ⟨_, .base (.frz h), rfl⟩
    · exact ⟨_, .kList h c, rfl⟩
  | tup h _ =>
    rcases h with (h | ⟨o, h⟩) | ⟨o, its, n, h, c, _⟩
    · exact ⟨_, .base (.tup h), rfl⟩
    · exact ⟨_, .fTuple h, rfl⟩
    · exact ⟨_, .kTuple h c, rfl⟩
theorem Dp.nodict {kvs : List (PyData × PyData)} (h : Dp K H v (.dict kvs)) : False := by cases h
theorem r_isi {n T : String} {b : Bool} (t : TyX K H v (.type n)) (e : kitB n T = some b) (h : Q (.bl b) H) : rIsi K [v, .ty T] H Q := ⟨v, .ty T, .type n, .type T, b, rfl, .ty T, t, kit_ty e, h⟩
theorem isi_of (T : String) (f : PyData → Bool) (hk : ∀ d : PyData, kitB (tyD d) T = some (f d)) (h : Dp K H v d) (q : Q (.bl (f d)) H) : rIsi K [v, .ty T] H Q := by
  obtain ⟨n, t, e⟩ := Dp.ty h
  refine r_isi t ?_ q
  rw [e]
  exact hk d
theorem r_isiInt (h : Dp K H v d) (q : Q (.bl (isInt d)) H) : rIsi K [v, .ty "int"] H Q := isi_of "int" isInt (fun d => by cases d <;> (first | rfl | decide +kernel)) h q
theorem r_isiBool (h : Dp K H v d) (q : Q (.bl (isBool d)) H) : rIsi K [v, .ty "bool"] H Q := isi_of "bool" isBool (fun d => by cases d <;> (first | rfl | decide +kernel)) h q
theorem r_isiStr (h : Dp K H v d) (q : Q (.bl (isStr d)) H) : rIsi K [v, .ty "str"] H Q := isi_of "str" isStr (fun d => by cases d <;> (first | rfl | decide +kernel)) h q
theorem r_isiTup (h : Dp K H v d) (q : Q (.bl (isTup d)) H) : rIsi K [v, .ty "tuple"] H Q := isi_of "tuple" isTup (fun d => by cases d <;> (first | rfl | decide +kernel)) h q
theorem r_isiLst (h : Dp K H v d) (q : Q (.bl (isLst d)) H) : rIsi K [v, .ty "list"] H Q := isi_of "list" isLst (fun d => by cases d <;> (first | rfl | decide +kernel)) h q
end
/-! ### a written table with text keys -/
theorem absV_rel {u : Value} {v : V} (h : absV u = some v) : RelV v u := by
  cases u <;> simp only [absV, Option.some.injEq, reduceCtorEq] at h <;> subst h <;> first | rfl | exact ⟨_, rfl⟩
def entL (e : DictEntry) : Option Str × Option V := ((match e.key with
  | .str x _ => some x
  | _ => none), absV e.val)
def tabB (K : PySem.W.Frag) (a : Addr) (l : List (Str × V)) : Bool := match K.lookup a with
  | some ⟨_, _, .dict es _, _⟩ => decide (es.toList.map entL = l.map fun q => (some q.1, some q.2))
  | _ => false
structure KTab (K : PySem.W.Frag) (w : World) (a : Addr) (l : List (Str × V)) : Prop where
  dic : ∃ es n, KDict K w a es n
  at_ : ∀ z : Str, ∃ r, PySem.W.nsIn K a z = some r ∧ RelO (l.lookup z) r
theorem find_tab (z : Str) : ∀ {es : List DictEntry} {l : List (Str × V)}, es.map entL = l.map (fun q => (some q.1, some q.2)) →
    (match es.find? (·.key.isStr z) with
      | some e => RelO (l.lookup z) (some e.val)
      | none => l.lookup z = none) ∧ es.any (·.refKey) = false
  | [], [], _ => ⟨rfl, rfl⟩
  | [], _ :: _, h => by cases h
  | _ :: _, [], h => by cases h
  | e :: es, (k, v) :: l, h => by
    rw [List.map_cons, List.map_cons] at h
    injection h with h1 h2
    obtain ⟨q1, q2⟩ := find_tab z h2
    injection h1 with h3 h4
    obtain ⟨hs, ek, ev⟩ := e
    have h5 : ∃ t, ek = Value.str k t := by
      cases ek <;> simp only [entL] at h3 <;> first | cases h3 | skip
      exact ⟨_, rfl⟩
    obtain ⟨t, rfl⟩ := h5
    refine ⟨?_, ?_⟩
    · rw [List.find?_cons, List.lookup_cons]
      by_cases hk : z = k
      · subst hk
        have e1 : (Value.str z t).isStr z = true := by simp [Value.isStr]
        simp only [e1, beq_self_eq_true]
        exact absV_rel h4
      · have e1 : (Value.str k t).isStr z = false := by
          simp only [Value.isStr]
          exact beq_eq_false_iff_ne.mpr fun q => hk q.symm
        have e2 : (z == k) = false := beq_eq_false_iff_ne.mpr hk
        simp only [e1, e2]
        exact q1
    · rw [List.any_cons, q2]
      rfl
theorem ktab_of {K : PySem.W.Frag} {w : World} {a : Addr} {l : List (Str × V)} (d : ∃ es n, KDict K w a es n) (h : tabB K a l = true) : KTab K w a l := by
  refine ⟨d, fun z => ?_⟩
  obtain ⟨es, n, D⟩ := d
  unfold tabB at h
  rw [D.at_] at h
  have h2 := of_decide_eq_true h
  obtain ⟨q1, q2⟩ := find_tab z h2
  unfold PySem.W.nsIn
  rw [D.at_]
  show ∃ r, (match es.toList.find? (·.key.isStr z) with
      | some e => some (some e.val)
      | none => if es.toList.any (·.refKey) then none else some none) = some r ∧ RelO (l.lookup z) r
  cases hf : es.toList.find? (·.key.isStr z) with
  | some e =>
    rw [hf] at q1
    exact ⟨_, rfl, q1⟩
  | none =>
    rw [hf] at q1
    rw [q2]
    refine ⟨none, rfl, ?_⟩
    have q3 : l.lookup z = none := q1
    rw [q3]
    trivial
section
variable {X : Cx} {a : Addr} {l : List (Str × V)}
def rInKT (neg : Bool) (a : Addr) (l : List (Str × V)) : R2 := fun x y H Q => ∃ z, x = .str z ∧ y = .ref a ∧ Q (.bl (if neg then !(l.lookup z).isSome else (l.lookup z).isSome)) H
def rIxKT (a : Addr) (l : List (Str × V)) : R2 := fun x y H Q => ∃ z v, x = .ref a ∧ y = .str z ∧ l.lookup z = some v ∧ Q v H
theorem relO_some {o : Option V} {r : Option Value} (h : RelO o r) : r.isSome = o.isSome := by
  cases o <;> cases r <;> first | rfl | cases h
theorem op_inKT (T : KTab X.K X.w a l) : OpR X (compareOp .In) (rInKT false a l) := by
  intro pins s σ H x y v u Q I rx ry h
  obtain ⟨z, rfl, rfl, q⟩ := h
  obtain ⟨es, n, D⟩ := T.dic
  obtain ⟨r, e, ro⟩ := T.at_ z
  refine op_in_kd D pins s σ H _ _ v u Q I rx ry ⟨z, r, rfl, rfl, e, ?_⟩
  rw [relO_some ro]
  exact q
theorem op_notInKT (T : KTab X.K X.w a l) : OpR X (compareOp .NotIn) (rInKT true a l) := by
  intro pins s σ H x y v u Q I rx ry h
  obtain ⟨z, rfl, rfl, q⟩ := h
  obtain ⟨es, n, D⟩ := T.dic
  obtain ⟨r, e, ro⟩ := T.at_ z
  refine op_notIn_kd D pins s σ H _ _ v u Q I rx ry ⟨z, r, rfl, rfl, e, ?_⟩
  rw [relO_some ro]
  exact q
theorem ix_KT (T : KTab X.K X.w a l) : IxR X (rIxKT a l) := by
  intro value slice pins s σ H x y v u Q I rx ry h hs
  obtain ⟨z, r, rfl, rfl, e, q⟩ := h
  obtain ⟨es, n, D⟩ := T.dic
  obtain ⟨o, e2, ro⟩ := T.at_ z
  rw [e] at ro
  cases o with
  | none => cases ro
  | some u0 => exact ix_kdict value slice pins s σ H _ _ v u Q I rx ry ⟨a, z, r, rfl, rfl, ⟨es, n, u0, D.at_, D.lit, e2, ro⟩, q⟩ hs
end
end OB

namespace OB
open PySem PySem.Spec PyProof.Rows L2
/-! ### what evaluates to what, the heap growing only -/
def EvS (te : TE) (σ : L2.St) (H : Hp) (v : V) : Prop := ∀ H1, Same H H1 → ∀ Q : VK, (∀ H2, Same H1 H2 → Q v H2) → te σ H1 Q
def EvST (tt : TT) (σ : L2.St) (H : Hp) (b : Bool) : Prop := ∀ H1, Same H H1 → ∀ Q : Bool → Hp → Prop, (∀ H2, Same H1 H2 → Q b H2) → tt σ H1 Q
def EvG (g : TG) (v : V) (σ : L2.St) (H : Hp) (σ' : L2.St) : Prop := ∀ H1, Same H H1 → ∀ Q : L2.St → Hp → Prop, Q σ' H1 → g v σ H1 Q
section
variable {K : PySem.W.Frag} {σ : L2.St} {H : Hp} {a : Addr} {xs : List V} {g : TG} {tt : TT} {te : TE} {vs : List Nat} {σ' : V → L2.St} {keep : V → Bool} {f : V → V} {R : Addr → Hp → Prop}
theorem take_snoc {α : Type} {l : List α} {i : Nat} {x : α} (h : l[i]? = some x) : l.take (i + 1) = l.take i ++ [x] := by
  rw [List.take_add_one, h]
  rfl
theorem fm_take {i : Nat} {x : V} (h : xs[i]? = some x) : ((xs.take (i + 1)).filter keep).map f = ((xs.take i).filter keep).map f ++ (if keep x = true then [f x] else []) := by
  rw [take_snoc h, List.filter_append, List.map_append]
  congr 1
  cases hk : keep x <;> simp [hk]
theorem fm_len (n : Nat) : (((xs.take n).filter keep).map f).length ≤ xs.length := by
  rw [List.length_map]
  exact Nat.le_trans (List.length_filter_le ..) (by rw [List.length_take]; omega)
/-- the turn of a comprehension whose element only grows the heap -/
theorem lc_turn {D : Addr} (hD : H D = none) (hn : xs.length ≤ 1000000) (hg : ∀ x ∈ xs, EvG g x (wipe σ vs) H (σ' x)) (hw : ∀ x ∈ xs, wipe (σ' x) vs = wipe σ vs) (ht : ∀ x ∈ xs, EvST tt (σ' x) H (keep x)) (he : ∀ x ∈ xs, keep x = true → EvS te (σ' x) H (f x))
    {i : Nat} {x : V} {H1 : Hp} (hx : xs[i]? = some x) (h1 : Same H H1) (h2 : H1 D = some (.lst (((xs.take i).filter keep).map f))) :
    g x (wipe σ vs) H1 fun σ2 H2 => wipe σ2 vs = wipe σ vs ∧ tt σ2 H2 fun b H3 =>
      if b = true then te σ2 H3 fun y H4 => ∃ acc, H4 D = some (.lst acc) ∧ acc.length < sizeLine ∧ (Same H (upd H4 D (.lst (acc ++ [y]))) ∧ (upd H4 D (.lst (acc ++ [y]))) D = some (.lst (((xs.take (i + 1)).filter keep).map f)))
      else (Same H H3 ∧ H3 D = some (.lst (((xs.take (i + 1)).filter keep).map f))) := by
  have hm : x ∈ xs := List.mem_of_getElem? hx
  refine hg x hm H1 h1 _ ⟨hw x hm, ?_⟩
  refine ht x hm H1 h1 _ fun H2 s2 => ?_
  have e := fm_take (keep := keep) (f := f) hx
  cases hk : keep x with
  | true =>
    rw [hk] at e
    refine iteT (he x hm hk H2 (h1.trans s2) _ fun H3 s3 => ?_)
    refine ⟨_, s3 _ _ (s2 _ _ h2), Nat.lt_of_le_of_lt (Nat.le_trans (fm_len i) hn) (by decide), Same.mut ((h1.trans s2).trans s3) hD, ?_⟩
    rw [upd_same, e]
    rfl
  | false =>
    rw [hk] at e
    refine iteF ⟨h1.trans s2, ?_⟩
    rw [e]
    simpa using s2 _ _ h2
theorem lc_pureT (hS : SqT K H a xs) (hn : xs.length ≤ 1000000) (hg : ∀ x ∈ xs, EvG g x (wipe σ vs) H (σ' x)) (hw : ∀ x ∈ xs, wipe (σ' x) vs = wipe σ vs) (ht : ∀ x ∈ xs, EvST tt (σ' x) H (keep x)) (he : ∀ x ∈ xs, keep x = true → EvS te (σ' x) H (f x))
    (q : ∀ D H', H D = none → Same H H' → H' D = some (.lst ((xs.filter keep).map f)) → R D H') :
    ∀ D, H D = none → ∃ W : Nat → Nat → Hp → Prop, (∃ m, W 0 m (upd H D (.lst []))) ∧ ∀ i m H, W i m H →
      ((Itt K a).stop i H ∧ R D H) ∨ ((Itt K a).go i H ∧ ∃ Nx : Hp → Prop, (∀ H', Nx H' → ∃ m', m' < m ∧ W (i + 1) m' H') ∧ ∀ x H', (Itt K a).yld i H x H' → g x (wipe σ vs) H' fun σ2 H2 => wipe σ2 vs = wipe σ vs ∧ tt σ2 H2 fun b H3 =>
        if b = true then te σ2 H3 fun y H4 => ∃ acc, H4 D = some (.lst acc) ∧ acc.length < sizeLine ∧ Nx (upd H4 D (.lst (acc ++ [y]))) else Nx H3) := fun D hD =>
  lc_tup (K := K) (a := a) (xs := xs) (fun i H' => Same H H' ∧ H' D = some (.lst (((xs.take i).filter keep).map f))) ⟨Same.new hD, by rw [upd_same]; rfl⟩ (fun i H' _ p => Same.sqt p.1 hS)
    (fun i x H' hx p => lc_turn hD hn hg hw ht he hx p.1 p.2) (fun H' p => q D H' hD p.1 (by rw [p.2, List.take_length]))
theorem lc_pureL (hS : SqL K H a xs) (hn : xs.length ≤ 1000000) (hg : ∀ x ∈ xs, EvG g x (wipe σ vs) H (σ' x)) (hw : ∀ x ∈ xs, wipe (σ' x) vs = wipe σ vs) (ht : ∀ x ∈ xs, EvST tt (σ' x) H (keep x)) (he : ∀ x ∈ xs, keep x = true → EvS te (σ' x) H (f x))
    (q : ∀ D H', H D = none → Same H H' → H' D = some (.lst ((xs.filter keep).map f)) → R D H') :
    ∀ D, H D = none → ∃ W : Nat → Nat → Hp → Prop, (∃ m, W 0 m (upd H D (.lst []))) ∧ ∀ i m H, W i m H →
      ((Itl K a).stop i H ∧ R D H) ∨ ((Itl K a).go i H ∧ ∃ Nx : Hp → Prop, (∀ H', Nx H' → ∃ m', m' < m ∧ W (i + 1) m' H') ∧ ∀ x H', (Itl K a).yld i H x H' → g x (wipe σ vs) H' fun σ2 H2 => wipe σ2 vs = wipe σ vs ∧ tt σ2 H2 fun b H3 =>
        if b = true then te σ2 H3 fun y H4 => ∃ acc, H4 D = some (.lst acc) ∧ acc.length < sizeLine ∧ Nx (upd H4 D (.lst (acc ++ [y]))) else Nx H3) := fun D hD =>
  lc_list (K := K) (a := a) (xs := xs) (fun i H' => Same H H' ∧ H' D = some (.lst (((xs.take i).filter keep).map f))) ⟨Same.new hD, by rw [upd_same]; rfl⟩ (fun i H' _ p => Same.sql p.1 hS)
    (fun i x H' hx p => lc_turn hD hn hg hw ht he hx p.1 p.2) (fun H' p => q D H' hD p.1 (by rw [p.2, List.take_length]))
/-- over a text: its signs as texts -/
def signs (z : Str) : List V := z.cps.toList.map fun c => V.str ⟨#[c]⟩
theorem signs_get {z : Str} {i : Nat} {c : Nat} (h : z.cps[i]? = some c) : (signs z)[i]? = some (.str ⟨#[c]⟩) := by
  unfold signs
  rw [List.getElem?_map, Array.getElem?_toList, h]
  rfl
theorem signs_len (z : Str) : (signs z).length = z.length := by
  unfold signs
  rw [List.length_map]
  rfl
theorem lc_pureS {z : Str} (hn : z.length ≤ 1000000) (hg : ∀ x ∈ signs z, EvG g x (wipe σ vs) H (σ' x)) (hw : ∀ x ∈ signs z, wipe (σ' x) vs = wipe σ vs) (ht : ∀ x ∈ signs z, EvST tt (σ' x) H (keep x)) (he : ∀ x ∈ signs z, keep x = true → EvS te (σ' x) H (f x))
    (q : ∀ D H', H D = none → Same H H' → H' D = some (.lst (((signs z).filter keep).map f)) → R D H') :
    ∀ D, H D = none → ∃ W : Nat → Nat → Hp → Prop, (∃ m, W 0 m (upd H D (.lst []))) ∧ ∀ i m H, W i m H →
      ((Its z).stop i H ∧ R D H) ∨ ((Its z).go i H ∧ ∃ Nx : Hp → Prop, (∀ H', Nx H' → ∃ m', m' < m ∧ W (i + 1) m' H') ∧ ∀ x H', (Its z).yld i H x H' → g x (wipe σ vs) H' fun σ2 H2 => wipe σ2 vs = wipe σ vs ∧ tt σ2 H2 fun b H3 =>
        if b = true then te σ2 H3 fun y H4 => ∃ acc, H4 D = some (.lst acc) ∧ acc.length < sizeLine ∧ Nx (upd H4 D (.lst (acc ++ [y]))) else Nx H3) := fun D hD =>
  lc_it walk_str (fun i H' => Same H H' ∧ H' D = some (.lst ((((signs z).take i).filter keep).map f))) ⟨Same.new hD, by rw [upd_same]; rfl⟩ (fun i H' _ _ => trivial)
    (fun i x H1 H' _ p hx => by
      obtain ⟨rfl, c, hc, rfl⟩ := hx
      exact lc_turn hD (by rw [signs_len]; exact hn) hg hw ht he (signs_get hc) p.1 p.2)
    (fun H' p => q D H' hD p.1 (by
      have h2 := p.2
      rw [show z.cps.size = (signs z).length from (signs_len z).symm, List.take_length] at h2
      exact h2))
/-! ready-made parts -/
theorem evg_name {i : Nat} {x : V} {σ0 : L2.St} : EvG (gName i) x σ0 H (σ0.set i (some x)) := fun _ _ _ q => q
theorem evst_yes {σ0 : L2.St} : EvST tYes σ0 H true := fun H1 _ _ q => q H1 (Same.refl H1)
theorem evs_var {i : Nat} {v : V} {σ0 : L2.St} (h : σ0[i]? = some (some v)) : EvS (tVar i) σ0 H v := fun H1 _ _ q => ⟨v, h, q H1 (Same.refl H1)⟩
end
/-! the same over a list of things that stand for the values -/
section
variable {K : PySem.W.Frag} {σ : L2.St} {H : Hp} {a : Addr} {α : Type} {ps : List α} {v : α → V} {g : TG} {tt : TT} {te : TE} {vs : List Nat} {σ' : α → L2.St} {keep : α → Bool} {f : α → V} {R : Addr → Hp → Prop}
theorem fmp_take {i : Nat} {x : α} (h : ps[i]? = some x) : ((ps.take (i + 1)).filter keep).map f = ((ps.take i).filter keep).map f ++ (if keep x = true then [f x] else []) := by
  rw [take_snoc h, List.filter_append, List.map_append]
  congr 1
  cases hk : keep x <;> simp [hk]
theorem fmp_len (n : Nat) : (((ps.take n).filter keep).map f).length ≤ ps.length := by
  rw [List.length_map]
  exact Nat.le_trans (List.length_filter_le ..) (by rw [List.length_take]; omega)
theorem lcp_turn {D : Addr} (hD : H D = none) (hn : ps.length ≤ 1000000) (hg : ∀ x ∈ ps, EvG g (v x) (wipe σ vs) H (σ' x)) (hw : ∀ x ∈ ps, wipe (σ' x) vs = wipe σ vs) (ht : ∀ x ∈ ps, EvST tt (σ' x) H (keep x)) (he : ∀ x ∈ ps, keep x = true → EvS te (σ' x) H (f x))
    {i : Nat} {x : α} {H1 : Hp} (hx : ps[i]? = some x) (h1 : Same H H1) (h2 : H1 D = some (.lst (((ps.take i).filter keep).map f))) :
    g (v x) (wipe σ vs) H1 fun σ2 H2 => wipe σ2 vs = wipe σ vs ∧ tt σ2 H2 fun b H3 =>
      if b = true then te σ2 H3 fun y H4 => ∃ acc, H4 D = some (.lst acc) ∧ acc.length < sizeLine ∧ (Same H (upd H4 D (.lst (acc ++ [y]))) ∧ (upd H4 D (.lst (acc ++ [y]))) D = some (.lst (((ps.take (i + 1)).filter keep).map f)))
      else (Same H H3 ∧ H3 D = some (.lst (((ps.take (i + 1)).filter keep).map f))) := by
  have hm : x ∈ ps := List.mem_of_getElem? hx
  refine hg x hm H1 h1 _ ⟨hw x hm, ?_⟩
  refine ht x hm H1 h1 _ fun H2 s2 => ?_
  have e := fmp_take (keep := keep) (f := f) hx
  cases hk : keep x with
  | true =>
    rw [hk] at e
    refine iteT (he x hm hk H2 (h1.trans s2) _ fun H3 s3 => ?_)
    refine ⟨_, s3 _ _ (s2 _ _ h2), Nat.lt_of_le_of_lt (Nat.le_trans (fmp_len i) hn) (by decide), Same.mut ((h1.trans s2).trans s3) hD, ?_⟩
    rw [upd_same, e]
    rfl
  | false =>
    rw [hk] at e
    refine iteF ⟨h1.trans s2, ?_⟩
    rw [e]
    simpa using s2 _ _ h2
theorem map_get {i : Nat} {y : V} (h : (ps.map v)[i]? = some y) : ∃ x, ps[i]? = some x ∧ v x = y := by
  rw [List.getElem?_map] at h
  cases hp : ps[i]? with
  | none => rw [hp] at h; cases h
  | some x => rw [hp] at h; exact ⟨x, rfl, Option.some.inj h⟩
theorem lc_pT (hS : SqT K H a (ps.map v)) (hn : ps.length ≤ 1000000) (hg : ∀ x ∈ ps, EvG g (v x) (wipe σ vs) H (σ' x)) (hw : ∀ x ∈ ps, wipe (σ' x) vs = wipe σ vs) (ht : ∀ x ∈ ps, EvST tt (σ' x) H (keep x)) (he : ∀ x ∈ ps, keep x = true → EvS te (σ' x) H (f x))
    (q : ∀ D H', H D = none → Same H H' → H' D = some (.lst ((ps.filter keep).map f)) → R D H') :
    ∀ D, H D = none → ∃ W : Nat → Nat → Hp → Prop, (∃ m, W 0 m (upd H D (.lst []))) ∧ ∀ i m H, W i m H →
      ((Itt K a).stop i H ∧ R D H) ∨ ((Itt K a).go i H ∧ ∃ Nx : Hp → Prop, (∀ H', Nx H' → ∃ m', m' < m ∧ W (i + 1) m' H') ∧ ∀ x H', (Itt K a).yld i H x H' → g x (wipe σ vs) H' fun σ2 H2 => wipe σ2 vs = wipe σ vs ∧ tt σ2 H2 fun b H3 =>
        if b = true then te σ2 H3 fun y H4 => ∃ acc, H4 D = some (.lst acc) ∧ acc.length < sizeLine ∧ Nx (upd H4 D (.lst (acc ++ [y]))) else Nx H3) := fun D hD =>
  lc_tup (K := K) (a := a) (xs := ps.map v) (fun i H' => Same H H' ∧ H' D = some (.lst (((ps.take i).filter keep).map f))) ⟨Same.new hD, by rw [upd_same]; rfl⟩ (fun i H' _ p => Same.sqt p.1 hS)
    (fun i y H' hy p => by
      obtain ⟨x, hx, rfl⟩ := map_get hy
      exact lcp_turn hD hn hg hw ht he hx p.1 p.2) (fun H' p => q D H' hD p.1 (by
      have h2 := p.2
      rw [List.length_map, List.take_length] at h2
      exact h2))
theorem lc_pL (hS : SqL K H a (ps.map v)) (hn : ps.length ≤ 1000000) (hg : ∀ x ∈ ps, EvG g (v x) (wipe σ vs) H (σ' x)) (hw : ∀ x ∈ ps, wipe (σ' x) vs = wipe σ vs) (ht : ∀ x ∈ ps, EvST tt (σ' x) H (keep x)) (he : ∀ x ∈ ps, keep x = true → EvS te (σ' x) H (f x))
    (q : ∀ D H', H D = none → Same H H' → H' D = some (.lst ((ps.filter keep).map f)) → R D H') :
    ∀ D, H D = none → ∃ W : Nat → Nat → Hp → Prop, (∃ m, W 0 m (upd H D (.lst []))) ∧ ∀ i m H, W i m H →
      ((Itl K a).stop i H ∧ R D H) ∨ ((Itl K a).go i H ∧ ∃ Nx : Hp → Prop, (∀ H', Nx H' → ∃ m', m' < m ∧ W (i + 1) m' H') ∧ ∀ x H', (Itl K a).yld i H x H' → g x (wipe σ vs) H' fun σ2 H2 => wipe σ2 vs = wipe σ vs ∧ tt σ2 H2 fun b H3 =>
        if b = true then te σ2 H3 fun y H4 => ∃ acc, H4 D = some (.lst acc) ∧ acc.length < sizeLine ∧ Nx (upd H4 D (.lst (acc ++ [y]))) else Nx H3) := fun D hD =>
  lc_list (K := K) (a := a) (xs := ps.map v) (fun i H' => Same H H' ∧ H' D = some (.lst (((ps.take i).filter keep).map f))) ⟨Same.new hD, by rw [upd_same]; rfl⟩ (fun i H' _ p => Same.sql p.1 hS)
    (fun i y H' hy p => by
      obtain ⟨x, hx, rfl⟩ := map_get hy
      exact lcp_turn hD hn hg hw ht he hx p.1 p.2) (fun H' p => q D H' hD p.1 (by
      have h2 := p.2
      rw [List.length_map, List.take_length] at h2
      exact h2))
/-- values with what they stand for -/
theorem DpAll.zip : ∀ {vs : List V} {ds : List PyData}, DpAll K H vs ds → ∃ qs : List (V × PyData), vs = qs.map (·.1) ∧ ds = qs.map (·.2) ∧ ∀ q ∈ qs, Dp K H q.1 q.2
  | _, _, .nil => ⟨[], rfl, rfl, fun _ h => by cases h⟩
  | _, _, .cons (v := v) (d := d) h t => by
    obtain ⟨qs, h1, h2, h3⟩ := DpAll.zip t
    refine ⟨(v, d) :: qs, by rw [h1]; rfl, by rw [h2]; rfl, fun q hq => ?_⟩
    rcases List.mem_cons.mp hq with z | z
    · rw [z]; exact h
    · exact h3 q z
end
end OB

namespace OB
open PySem PySem.Spec PyProof.Rows L2
/-! ### enumerate(v), enumerate(v, k) of a tuple or a text -/
set_option maxHeartbeats 4000000 in
theorem meets_enumerate_newB1 {v : Value} {o : Obj} {H : Heap → Prop} (B : Begins v o H) :
    Meets (Builtin.«enumerate.__new__» ⟨[.type "enumerate", v], []⟩) (fun _ R s => H s.heap ∧
      R (.ok (.ret (.ref (s.heap.push o).objs.size))) { s with heap := (s.heap.push o).push { cls := .type "enumerate", data := .fields #[.none, .bool false, .ref s.heap.objs.size, rawInt 0, .none, .none] } }) :=
  .of_wp fun prog w A R s h => by
    obtain ⟨hp, g, d, tk, os⟩ := s; obtain ⟨h1, h⟩ := h
    have hsub := sub_enumerate
    have q1 : ∀ {A' : Around} {E : Value → Shared → Prop} {Q : Value → Shared → Prop}, Q (.ref hp.objs.size) ⟨hp.push o, g, d, tk, os⟩ → wpAny (model prog w) A' (pyIter v) Q E ⟨hp, g, d, tk, os⟩ :=
      fun q => B.iter prog w _ _ ⟨hp, g, d, tk, os⟩ _ h1 q
    wp_walk using q1
    refine wpAny_stack_any fun st => wpAny_pure ?_
    split
    · rename_i c _ _ _ _ _
      cases (c == Value.type "enumerate")
      · wp_walk using q1
        exact ⟨_, rfl, h⟩
      · wp_walk using q1
        exact ⟨_, rfl, h⟩
    · wp_walk using q1
      exact ⟨_, rfl, h⟩
section
variable {prog : Program} {w : World} {A : Around} {E : Value → Shared → Prop} {s : Shared}
theorem enum_begins1 {v : Value} {o : Obj} {H : Heap → Prop} {Q : Value → Shared → Prop} (B : Begins v o H) (h1 : H s.heap)
    (h : ∀ h', IsEnum h' (s.heap.objs.size + 1) s.heap.objs.size 0 .none → h'.get? s.heap.objs.size = some o → h'.objs.size = s.heap.objs.size + 2 →
      (∀ b o, s.heap.get? b = some o → h'.get? b = some o) → Q (.ref (s.heap.objs.size + 1)) { s with heap := h' }) :
    wpAny (model prog w) A (call (.type "enumerate") [v]) Q E s := by
  refine callType_new F.called_enumerate (by decide) (F.typeCall_enumerate_1 _) (F.newCall_enumerate_1 _) (fun obj => F.args_object_init_2 obj _) F.entry_enumerate_new
    (meets_enumerate_newB1 B) ⟨h1, ?_⟩
  have hz : (s.heap.push o).objs.size = s.heap.objs.size + 1 := Heap.size_push ..
  show _ ∧ _
  rw [hz]
  have he : IsEnum ((s.heap.push o).push { cls := .type "enumerate", data := .fields #[.none, .bool false, .ref s.heap.objs.size, rawInt 0, .none, .none] }) (s.heap.objs.size + 1) s.heap.objs.size 0 .none := by
    have := Heap.get?_push_size (s.heap.push o) (o := { cls := .type "enumerate", data := .fields #[.none, .bool false, .ref s.heap.objs.size, rawInt 0, .none, .none] }) rfl
    rw [hz] at this; exact this
  refine ⟨⟨_, he, rfl⟩, h _ he (Heap.get?_push_of_some _ (Heap.get?_push_size _ B.free)) (by rw [Heap.size_push, hz]) fun b o x => Heap.get?_push_of_some _ (Heap.get?_push_of_some _ x)⟩
end
/-- pairs (k + i, the i-th of xs), the tuple at a -/
def ItEn (K : PySem.W.Frag) (k : Int) (a : Addr) : It :=
  ⟨fun i H => ∃ (xs : List V) (x : V), SqT K H a xs ∧ xs[i]? = some x, fun i H v H' => ∃ T x, v = .ref T ∧ H T = none ∧ H' = upd H T (.tup [.int (k + ((i : Nat) : Int)), x]) ∧ ∀ xs, SqT K H a xs → xs[i]? = some x, fun i H => ∃ xs : List V, SqT K H a xs ∧ xs.length ≤ i⟩
theorem turn_enT {P : Program} {w : World} {K : PySem.W.Frag} {elts : List Expr} {kk : Nat} {tpos : Pos} (k : Int) (a e it : Addr) :
    Turn P w K (.Tuple elts kk tpos) (ItEn K k a) [e, it] e (fun i h => (∃ old, IsEnum h e it (k + ((i : Nat) : Int)) old) ∧ h.IsTupleIter it a i ∧ e ≠ it ∧ a ≠ it ∧ a ≠ e) where
  mem := by simp
  obj := fun i h st b hb => by
    obtain ⟨⟨old, he⟩, ⟨o, ho, hc, hd⟩, _⟩ := st
    have e' : b = e ∨ b = it := by simpa using hb
    rcases e' with z | z
    · rw [z]; exact ⟨_, he, fun v q => nomatch q⟩
    · rw [z]; exact ⟨o, ho, fun v q => by rw [hd] at q; cases q⟩
  keep := fun i h h' st kp => let ⟨⟨old, he⟩, hi, hne⟩ := st; ⟨⟨old, kp e (by simp) _ he⟩, hi.at fun o q => kp it (by simp) o q, hne⟩
  item := by
    intro X hP hw hK hc i pins s σ H E I hf st hg
    subst hP hw hK
    obtain ⟨⟨old, he⟩, hit, hne, hai, hae⟩ := st
    obtain ⟨xs, x, hq, hx⟩ := hg
    obtain ⟨its, rv, p, hz⟩ := I.tuple hq
    have hh : X.A.in1.handled = none := I.ok.hd hc
    have hl := rv.length
    have hi : i < its.toArray.size := by
      have := (List.getElem?_eq_some_iff.mp hx).1
      simp
      omega
    have hel : e < s.heap.objs.size := Heap.lt_size he
    have hil : it < s.heap.objs.size := by obtain ⟨_, q, _⟩ := hit; exact Heap.lt_size q
    refine wpAny_pyNext_enum_itemC (Draws.tuple hh it a hai its.toArray) he ⟨hit, p⟩ hi hne (by simp [hne, Ne.symm hae]) fun u h' tk hu ho hst' hT hsz hk => ?_
    obtain ⟨u2, hu2, ru⟩ := rv.get hx
    have eu : u2 = u := by
      have z : its[i]? = some u := by simpa using hu
      rw [hu2] at z
      exact Option.some.inj z
    subst eu
    refine ⟨_, rfl, wpAny_letOwnedTupleGo_enum (s := { s with heap := h', toks := tk + 1 }) ho fun h'' he' sb => ?_⟩
    have hT2 : h''.get? s.heap.objs.size = some { cls := .type "tuple", data := .seq #[.int (k + (i : Int)) tk, u2] } := (sb.2 _ (Nat.ne_of_gt hel)).trans hT
    have new : ObjOk X.prog X.w (upd H s.heap.objs.size (.tup [.int (k + ((i : Nat) : Int)), x])) h'' s.heap.objs.size (.tup [.int (k + ((i : Nat) : Int)), x]) :=
      ⟨by show 2 ≤ sizeLine; decide, [.int (k + (i : Int)) tk, u2], .cons ⟨_, rfl⟩ (.cons ru .nil), ⟨_, hT2, rfl, _, rfl⟩⟩
    have I1 : Inv X pins σ (upd H s.heap.objs.size (.tup [.int (k + ((i : Nat) : Int)), x])) { s with heap := h'', toks := tk + 1 } :=
      I.turnedNew (ch := [e, it]) (fun b ob hb q => (sb.2 b (fun z => hb (by simp [z]))).trans (hk b ob (fun z => hb (by simp [z])) (fun z => hb (by simp [z])) q)) hf (Nat.le_refl _) new
    refine ⟨.ref s.heap.objs.size, _, I1, rfl, ⟨_, x, rfl, I.hok.fresh (Nat.le_refl _), rfl, fun ys hy => by rw [I.tuple_inj hy hq]; exact hx⟩, ⟨⟨u2, ?_⟩, hst'.1.at fun o q => (sb.2 it (Ne.symm hne)).trans q, hne, hai, hae⟩, fun b hb => ?_⟩
    · have e1 : k + ((i + 1 : Nat) : Int) = k + (i : Int) + 1 := by omega
      rw [e1]; exact he'
    · have hb' : b < s.heap.objs.size := by
        have e' : b = e ∨ b = it := by simpa using hb
        rcases e' with z | z
        · rw [z]; exact hel
        · rw [z]; exact hil
      rw [upd_ne (Nat.ne_of_lt hb')]
      exact (hf b hb).1
  done := by
    intro X hP hw hK hc i pins s σ H E I hf st hg
    subst hP hw hK
    obtain ⟨⟨old, he⟩, hit, hne, hai, hae⟩ := st
    obtain ⟨xs, hq, hx⟩ := hg
    obtain ⟨its, rv, p, hz⟩ := I.tuple hq
    obtain ⟨f0, f1, f2, f3, f4, f5⟩ := hf it (by simp)
    have hl := rv.length
    have hh : X.A.in1.handled = none := I.ok.hd hc
    refine wpAny_pyNext_enum_endD (it := it) (fp := [it, a]) (n := 0) (P := fun _ _ => True) (St := fun _ h => h.IsTupleIter it a i ∧ h.IsTuple a its.toArray)
      ⟨fun _ _ st => let ⟨o, ho, _⟩ := st.1; ⟨o, ho⟩, fun _ _ _ st hk => ⟨st.1.at fun o e => hk it (by simp) o e, st.2.at fun o e => hk a (by simp) o e⟩, fun j s Q E hj => absurd hj (Nat.not_lt_zero _),
        fun s Q E st hE => wpAny_nextOf_tuple_end hh st.1 st.2 (by simp; omega) hE⟩ he ⟨hit, p⟩
      fun h' eb => ⟨rfl, I.turned (t' := s.toks) (fun b o hb q => eb b o hb q) f0 f1 f3 f4 f5⟩
  self := fun A i s Q E st h => let ⟨⟨_, he⟩, _⟩ := st; wpAny_pyIter_enum he h
theorem Inv.tupNe {X : Cx} {pins : List (Addr × Obj)} {σ : L2.St} {H : Hp} {s : Shared} {a : Addr} {xs : List V} (I : L2.Inv X pins σ H s) (h : SqT X.K H a xs) : a < s.heap.objs.size := by
  obtain ⟨its, rv, p, hz⟩ := I.tuple h
  exact p.lt
def iEnT (K : PySem.W.Frag) (ta : TA) : TI := fun σ H R => ta σ H fun vs H1 => ∃ a xs, vs = [.ref a] ∧ SqT K H1 a xs ∧ R (ItEn K 0 a) H1
def iEnT2 (K : PySem.W.Frag) (ta : TA) : TI := fun σ H R => ta σ H fun vs H1 => ∃ a xs k, vs = [.ref a, .int k] ∧ -(2 ^ 63) ≤ k ∧ k < 2 ^ 63 ∧ SqT K H1 a xs ∧ R (ItEn K k a) H1
theorem pi_enT {X : Cx} {e : Expr} {ta : TA} {p pos tpos : Pos} {elts : List Expr} {kk : Nat} (hg : Gl X "enumerate") (hm : X.mg "enumerate" = none) (ha : PA X [e] ta) (hs : starEach [e] X.env = [(false, eval e X.env)] := by rfl) :
    PI X (.Tuple elts kk tpos) (.Call (.Name "enumerate" p) [e] [] pos) (iEnT X.K ta) := by
  refine ⟨fun pins s σ H R I h => ?_⟩
  refine Call_ (ld_blt I hg hm boot_enumerate (PyProof.Rows.callWith_type1 (thn (ha.run pos pins s σ H _ I h) fun us s1 ⟨vs, H1, I1, r1, q1⟩ => ?_) hs rfl))
  obtain ⟨a, xs, ex, hq, q⟩ := q1
  subst ex
  cases r1 with
  | cons r rr =>
    cases rr
    cases r
    obtain ⟨its, rv, p', hz⟩ := I1.tuple hq
    have hlt := p'.lt
    refine enum_begins1 (begins_tuple a its.toArray) p' fun h' he ho hsz hk => wpAny_pyIter_enum he ?_
    have I2 : L2.Inv X pins σ H1 { s1 with heap := h' } := I1.kept (t' := s1.toks) hk
    refine ⟨s1.heap.objs.size + 1, [s1.heap.objs.size + 1, s1.heap.objs.size], _, _, H1, rfl, I2, turn_enT 0 a (s1.heap.objs.size + 1) s1.heap.objs.size, ⟨⟨.none, by simpa using he⟩, ⟨_, ho, rfl, rfl⟩, Nat.succ_ne_self _, Nat.ne_of_lt hlt, Nat.ne_of_lt (Nat.lt_succ_of_lt hlt)⟩, fun b hb => ?_, q⟩
    have e' : b = s1.heap.objs.size + 1 ∨ b = s1.heap.objs.size := by simpa using hb
    have hle : s1.heap.objs.size ≤ b := by
      rcases e' with z | z
      · rw [z]; exact Nat.le_add_right _ _
      · rw [z]; exact Nat.le_refl _
    exact I1.fpOk hle (I1.hok.fresh hle)
theorem pi_enT2 {X : Cx} {e e2 : Expr} {ta : TA} {p pos tpos : Pos} {elts : List Expr} {kk : Nat} (hg : Gl X "enumerate") (hm : X.mg "enumerate" = none) (ha : PA X [e, e2] ta) (hs : starEach [e, e2] X.env = (false, eval e X.env) :: starEach [e2] X.env := by rfl)
    (hpl : (backTo pos (starEach [e2] X.env)).any (·.1) = false := by rfl) :
    PI X (.Tuple elts kk tpos) (.Call (.Name "enumerate" p) [e, e2] [] pos) (iEnT2 X.K ta) := by
  refine ⟨fun pins s σ H R I h => ?_⟩
  refine Call_ (ld_blt I hg hm boot_enumerate (PyProof.Rows.callWith_type1 (thn (ha.run pos pins s σ H _ I h) fun us s1 ⟨vs, H1, I1, r1, q1⟩ => ?_) hs hpl))
  obtain ⟨a, xs, k, ex, hk0, hk1, hq, q⟩ := q1
  subst ex
  cases r1 with
  | cons r rr =>
    cases r
    cases rr with
    | cons r2 rr =>
    cases rr
    obtain ⟨t, rfl⟩ := r2
    obtain ⟨its, rv, p', hz⟩ := I1.tuple hq
    have hlt := p'.lt
    refine enum_begins (begins_tuple a its.toArray) p' hk0 hk1 fun h' he ho hsz hk => wpAny_pyIter_enum he ?_
    have I2 : L2.Inv X pins σ H1 { s1 with heap := h' } := I1.kept (t' := s1.toks) hk
    refine ⟨s1.heap.objs.size + 1, [s1.heap.objs.size + 1, s1.heap.objs.size], _, _, H1, rfl, I2, turn_enT k a (s1.heap.objs.size + 1) s1.heap.objs.size, ⟨⟨.none, by simpa using he⟩, ⟨_, ho, rfl, rfl⟩, Nat.succ_ne_self _, Nat.ne_of_lt hlt, Nat.ne_of_lt (Nat.lt_succ_of_lt hlt)⟩, fun b hb => ?_, q⟩
    have e' : b = s1.heap.objs.size + 1 ∨ b = s1.heap.objs.size := by simpa using hb
    have hle : s1.heap.objs.size ≤ b := by
      rcases e' with z | z
      · rw [z]; exact Nat.le_add_right _ _
      · rw [z]; exact Nat.le_refl _
    exact I1.fpOk hle (I1.hok.fresh hle)
/-- the loop over it -/
theorem for_enT {K : PySem.W.Frag} {a : Addr} {k : Int} {xs : List V} {g : TG} {tb : TS} {D : Ends} {σ : L2.St} {H : Hp} (Pv : Nat → L2.St → Hp → Prop) (h0 : Pv 0 σ H) (hl : ∀ i σ H, i ≤ xs.length → Pv i σ H → SqT K H a xs)
    (hs : ∀ i x σ H T, xs[i]? = some x → Pv i σ H → H T = none → g (.ref T) σ (upd H T (.tup [.int (k + (i : Int)), x])) fun σ2 H2 => tb { D with nx := Pv (i + 1), ct := Pv (i + 1), bk := D.nx } σ2 H2) (hd : ∀ σ H, Pv xs.length σ H → D.nx σ H) :
    ∃ W : Nat → Nat → L2.St → Hp → Prop, (∃ m, W 0 m σ H) ∧ ∀ i m σ H, W i m σ H →
      ((ItEn K k a).stop i H ∧ D.nx σ H) ∨ ((ItEn K k a).go i H ∧ ∃ N : L2.St → Hp → Prop, (∀ σ' H', N σ' H' → ∃ m', m' < m ∧ W (i + 1) m' σ' H') ∧ ∀ x H', (ItEn K k a).yld i H x H' → g x σ H' fun σ2 H2 => tb { D with nx := N, ct := N, bk := D.nx } σ2 H2) := by
  refine ⟨fun i m σ H => m = xs.length - i ∧ i ≤ xs.length ∧ Pv i σ H, ⟨xs.length, by simp, Nat.zero_le _, h0⟩, ?_⟩
  rintro i m σ H ⟨rfl, hi, p⟩
  have q := hl i σ H hi p
  by_cases hlt : i < xs.length
  · refine .inr ⟨⟨xs, xs[i], q, by simp [hlt]⟩, Pv (i + 1), fun σ' H' p' => ⟨xs.length - (i + 1), by omega, rfl, hlt, p'⟩, fun x H' y => ?_⟩
    obtain ⟨T, z, rfl, hT, rfl, hz⟩ := y
    exact hs i z _ _ T (hz xs q) p hT
  · have e : i = xs.length := by omega
    subst e
    exact .inl ⟨⟨xs, q, Nat.le_refl _⟩, hd σ H p⟩
end OB

namespace OB
open PySem PySem.Spec PyProof.Rows L2
/-! ### a, *b = t and *a, b = t, t a tuple: the starred name gets a new list -/
section
open PySem.W PySem.Calls
variable {prog : Program} {w : World} {A : Around} {E : Value → Shared → Prop} {s : Shared} {env : Env} {elts : List Expr} {k : Nat} {pos : Pos}
theorem starT {l : Addr} {items : Array Value} {n i : Nat} {first mids lasts : List Value} {Q : List Value → Shared → Prop} (hl : IsTup s.heap l items) (hh : A.handled = none) (hi : i < n) (hn : n ≤ items.size + 1) (hz : items.size ≤ 16384)
    (h1 : items.toList.take i = first) (h2 : (items.toList.drop i).take (items.size + 1 - n) = mids) (h3 : (items.toList.drop i).drop (items.size + 1 - n) = lasts)
    (h : ∀ (h₂ : Heap) (tk : Nat), (∀ b o, s.heap.get? b = some o → h₂.get? b = some o) → Q (first ++ [.ref h₂.objs.size] ++ lasts) { s with heap := h₂.push { cls := .type "list", data := .seq mids.toArray }, toks := tk }) : wpAny (model prog w) A (unpackItems (.ref l) n (some i)) Q E s := by
  subst h1 h2 h3
  have hlt : l ≠ s.heap.objs.size := by obtain ⟨o, ho, _⟩ := hl; exact Nat.ne_of_lt (Heap.lt_size ho)
  have hll : l < s.heap.objs.size := by obtain ⟨o, ho, _⟩ := hl; exact Heap.lt_size ho
  unfold unpackItems
  refine wpAny_bind ?_
  unfold notIterableAtAll
  refine wpAny_bind (wpAny_specialOf hl.typeIs slot_tuple_iter.lookup ?_)
  refine wpAny_pure ?_
  simp only [Bool.false_eq_true, if_false]
  refine wpAny_bind (wpAny_holding (iter_tuple hl ?_))
  refine wpAny_bind (wpAny_holding (draw_tuple hlt i 0 _ _ ⟨_, Heap.get?_push_size _ rfl, rfl, rfl⟩ (hl.push _) (by omega) fun h₁ hit₁ hs₁ => ?_))
  have hl₁ : IsTup h₁ l items := (hl.push _).extBut hs₁.extBut hlt
  rw [Nat.zero_add] at hit₁
  have hit₁' := hit₁
  obtain ⟨oi, hoi, _⟩ := hit₁'
  have hl₁' := hl₁
  obtain ⟨ol, hol, _⟩ := hl₁'
  rw [List.drop_zero]
  have hfl : (items.toList.take i).length = i := by rw [List.length_take, Array.length_toList]; omega
  rw [if_neg (show ¬ ((items.toList.take i).length < i) by rw [hfl]; omega)]
  refine wpAny_bind (wpAny_holding (kun_collect (s := { s with heap := h₁ }) (T := "tuple_iterator") (.inr (.inr (.inr rfl))) (Walks.tuple (A := A.in1) hh s.heap.objs.size l hlt items) (fun j u st => st.1.typeIs) (k := i) (by omega) ⟨hit₁, hl₁⟩ (Heap.lt_size hoi) (Heap.lt_size hol) (fun h₂ tk hk => ?_) (by rw [sizeLine_eq]; omega)))
  have hrl : (items.toList.drop i).length = items.size - i := by rw [List.length_drop, Array.length_toList]
  have hmid : (items.toList.drop i).length - (n - 1 - i) = items.size + 1 - n := by rw [hrl]; omega
  show wpAny _ _ (if (items.toList.drop i).length < n - 1 - i then _ else _) _ _ _
  rw [if_neg (by rw [hrl]; omega)]
  show wpAny _ _ (newList ((items.toList.drop i).take ((items.toList.drop i).length - (n - 1 - i))) >>= fun d => pure (items.toList.take i ++ [d] ++ (items.toList.drop i).drop ((items.toList.drop i).length - (n - 1 - i)))) _ _ _
  rw [hmid]
  have he : Heap.ExtBut s.heap.objs.size s.heap h₂ := fun b o hb e => hk b o hb (hs₁.extBut b o hb (Heap.get?_push_of_some _ e))
  refine wpAny_bind ?_
  unfold newList
  exact wpAny_newObj_type (wpAny_pure (h _ tk (fun b o e => he b o (Nat.ne_of_lt (Heap.lt_size e)) e))) (by
    show (List.take _ _).toArray.size ≤ sizeLine
    simp only [List.size_toArray, List.length_take]
    rw [sizeLine_eq]
    omega)
theorem assign_starT {l : Addr} {items : Array Value} {n i : Nat} {Q : Unit → Shared → Prop} (hl : IsTup s.heap l items) (hh : A.handled = none) (hlen : (assignEach elts env).length = n) (hstar : (assignEach elts env).findIdx? (·.1) = some i)
    (hi : i < n) (hn : n ≤ items.size + 1) (hz : items.size ≤ 16384)
    (h : ∀ (h₂ : Heap) (tk : Nat), (∀ b o, s.heap.get? b = some o → h₂.get? b = some o) → wpAny (model prog w) A (assignInOrder ((assignEach elts env).map (·.2)) (items.toList.take i ++ [.ref h₂.objs.size] ++ (items.toList.drop i).drop (items.size + 1 - n))) Q E
      { s with heap := h₂.push { cls := .type "list", data := .seq ((items.toList.drop i).take (items.size + 1 - n)).toArray }, toks := tk }) :
    wpAny (model prog w) A (assign (.Tuple elts k pos) env (.ref l)) Q E s := by
  rw [assign_Tuple]
  refine wpAny_bind (wpAny_standAt ?_)
  unfold unpack
  rw [hlen, hstar]
  exact wpAny_bind (wpAny_holding (starT hl hh hi hn hz rfl rfl rfl h))
end
/-- n targets, the i-th starred -/
def gStar (K : PySem.W.Frag) (n i : Nat) (t : TGs) : TG := fun v σ H Q => ∃ a xs, v = .ref a ∧ SqT K H a xs ∧ n ≤ xs.length + 1 ∧ xs.length ≤ 16384 ∧
  ∀ D, H D = none → t (xs.take i ++ [.ref D] ++ (xs.drop i).drop (xs.length + 1 - n)) σ (upd H D (.lst ((xs.drop i).take (xs.length + 1 - n)))) Q
section
variable {X : Cx} {pos : Pos}
theorem pg_star {es : List Expr} {k : Nat} {t : TGs} {n i : Nat} (hc : X.calm = true) (h : PGs X es t)
    (hn : (assignEach es X.env).length = n := by rfl) (hst : (assignEach es X.env).findIdx? (·.1) = some i := by rfl) (hi : i < n := by decide) : PG X (.Tuple es k pos) (gStar X.K n i t) := by
  refine ⟨fun pins s σ H v u Q I r hw => ?_⟩
  obtain ⟨a, xs, e1, hq, hl, hz, hw⟩ := hw
  subst e1
  cases r
  obtain ⟨its, rv, ht, _⟩ := I.tuple hq
  have hlen := rv.length
  refine assign_starT ht (I.ok.hd hc) hn hst hi (by simp; omega) (by simp; omega) fun h₂ tk hk => ?_
  have I1 : L2.Inv X pins σ H { s with heap := h₂, toks := tk } := I.kept hk
  have hD : H h₂.objs.size = none := I1.hok.fresh (Nat.le_refl _)
  have I2 : L2.Inv X pins σ (upd H h₂.objs.size (.lst ((xs.drop i).take (xs.length + 1 - n)))) { s with heap := h₂.push { cls := .type "list", data := .seq ((its.toArray.toList.drop i).take (its.toArray.size + 1 - n)).toArray }, toks := tk } := by
    refine I1.laid (t' := tk) (fun b o e => Heap.get?_push_of_some _ e) (Nat.le_refl _) ⟨?_, (its.drop i).take (xs.length + 1 - n), 0, Vals.take _ (Vals.drop _ rv), ?_⟩
    · rw [List.length_take]
      exact Nat.le_trans (Nat.min_le_right _ _) (Nat.le_trans (by rw [List.length_drop]; omega) (sz1 (show 16384 ≤ 1000000 by decide)))
    · rw [Heap.get?_push_size _ rfl]
      simp [hlen]
  refine h.run pins _ σ _ _ _ Q I2 ?_ (hw _ hD)
  have e3 : its.toArray.size = xs.length := by simp [hlen]
  rw [e3]
  exact ((Vals.take i rv).append (show Vals [V.ref h₂.objs.size] [Value.ref h₂.objs.size] from .cons rfl .nil)).append (Vals.drop _ (Vals.drop _ rv))
theorem pgs_star {x : Str} {p1 p2 : Pos} {es : List Expr} {t : TG} {u : TGs} (h1 : PG X (.Name x p1) t) (h2 : PGs X es u)
    (hs : (assignEach (.Starred (.Name x p1) p2 :: es) X.env).map (·.2) = assign (.Name x p1) X.env :: (assignEach es X.env).map (·.2) := by rfl) : PGs X (.Starred (.Name x p1) p2 :: es) (gCons t u) := by
  refine ⟨fun pins s σ H vs us Q I r h => ?_⟩
  obtain ⟨v, vr, e1, h⟩ := h
  subst e1
  cases r with
  | cons r rr =>
    rw [hs]
    have hx := h1.run pins s σ H v _ _ I r h
    exact assignInOrder_cons (thn hx fun _ s1 ⟨σ1, H1, I1, q1⟩ => h2.run pins s1 σ1 H1 vr _ Q I1 rr q1)
end
end OB

namespace OB
open PySem PySem.Spec PyProof.Rows L2
/-! ### dicts whose keys are tuples, nested: of ints, bools, texts, None -/
abbrev NKey := PySem.NestedKey
mutual
/-- the value is such a key -/
inductive NK (H : Hp) : V → NKey → Prop
  | non : NK H .non .none
  | bl (b : Bool) : NK H (.bl b) (.num (if b = true then 1 else 0))
  | int (i : Int) : NK H (.int i) (.num i)
  | str (x : Str) : NK H (.str x) (.text x)
  | tup {a : Addr} {xs : List V} {ks : List NKey} : H a = some (.tup xs) → NKs H xs ks → NK H (.ref a) (.tup ks)
inductive NKs (H : Hp) : List V → List NKey → Prop
  | nil : NKs H [] []
  | cons {v : V} {vs : List V} {k : NKey} {ks : List NKey} : NK H v k → NKs H vs ks → NKs H (v :: vs) (k :: ks)
end
mutual
theorem NK.keep {H H' : Hp} (e : ∀ a xs, H a = some (.tup xs) → H' a = some (.tup xs)) : ∀ {v : V} {k : NKey}, NK H v k → NK H' v k
  | _, _, .non => .non
  | _, _, .bl b => .bl b
  | _, _, .int i => .int i
  | _, _, .str x => .str x
  | _, _, .tup h t => .tup (e _ _ h) (NKs.keep e t)
theorem NKs.keep {H H' : Hp} (e : ∀ a xs, H a = some (.tup xs) → H' a = some (.tup xs)) : ∀ {vs : List V} {ks : List NKey}, NKs H vs ks → NKs H' vs ks
  | _, _, .nil => .nil
  | _, _, .cons h t => .cons (NK.keep e h) (NKs.keep e t)
end
theorem NK.same {H H' : Hp} {v : V} {k : NKey} (e : Same H H') (h : NK H v k) : NK H' v k := h.keep fun a xs q => e a _ q
section
variable {X : Cx} {pins : List (Addr × Obj)} {σ : L2.St} {H : Hp} {s : Shared}
mutual
theorem NK.is (I : L2.Inv X pins σ H s) : ∀ {v : V} {k : NKey} {u : Value}, NK H v k → RelV v u → NestedIs s.heap k u
  | _, _, _, .non, r => by cases r; exact .none
  | _, _, _, .bl b, r => by cases r; exact .bool rfl
  | _, _, _, .int i, r => by obtain ⟨t, rfl⟩ := r; exact .int i t
  | _, _, _, .str x, r => by obtain ⟨t, rfl⟩ := r; exact .text x t
  | _, _, _, .tup (a := a) h t, r => by
    cases r
    obtain ⟨_, its, rv, o, h1, h2, n, h3⟩ := (show ObjOk X.prog X.w H s.heap a (.tup _) from I.hok a _ h)
    exact .tup h1 h2 h3 (NKs.is I t (by simpa using rv))
theorem NKs.is (I : L2.Inv X pins σ H s) : ∀ {vs : List V} {ks : List NKey} {us : List Value}, NKs H vs ks → Vals vs us → NestedAll s.heap ks us
  | _, _, _, .nil, r => by cases r; exact .nil
  | _, _, _, .cons h t, r => by
    cases r with
    | cons r1 r2 => exact .cons (NK.is I h r1) (NKs.is I t r2)
end
end
/-- an entry: key, the key's tuple, value -/
abbrev NE := NKey × Addr × V
def relNE (p : NE) (q : NKey × Addr × Value) : Prop := p.1 = q.1 ∧ p.2.1 = q.2.1 ∧ RelV p.2.2 q.2.2
def phiD (P : Program) (w : World) (d : Addr) (xs : List NE) (h : Heap) : Prop := (d == sysModules) = false ∧ ∃ us : List (NKey × Addr × Value), Paired relNE xs us ∧
  ∃ o es ep, h.get? d = some o ∧ o.ExactDict ∧ o.data = .dict es ep ∧ es.toList = us.map (entryOfKey (nestedKind P w)) ∧ (us.map (·.1)).Nodup
def ndAt (kvs : List (NKey × V)) (k : NKey) : Option V := (kvs.find? fun p => decide (p.1 = k)).map (·.2)
def ndPut (kvs : List (NKey × V)) (k : NKey) (v : V) : List (NKey × V) := if (ndAt kvs k).isSome = true then kvs.map fun p => if p.1 = k then (p.1, v) else p else kvs ++ [(k, v)]
def neV (xs : List NE) : List (NKey × V) := xs.map fun x => (x.1, x.2.2)
/-- at d stands such a dict with these keys and values, in the order of insertion -/
def ND (P : Program) (w : World) (H : Hp) (d : Addr) (kvs : List (NKey × V)) : Prop := kvs.length ≤ sizeLine ∧
  ∃ xs : List NE, H d = some (.ext (phiD P w d xs)) ∧ neV xs = kvs ∧ ∀ x ∈ xs, NK H (.ref x.2.1) x.1 ∧ x.1.depth ≤ 8
theorem phiD_stays {P : Program} {w : World} {d : Addr} {xs : List NE} : ∀ h1 h2 : Heap, phiD P w d xs h1 → (∀ o, h1.get? d = some o → h2.get? d = some o) → phiD P w d xs h2 :=
  fun _ _ ⟨hm, us, p, o, es, ep, e, r⟩ k => ⟨hm, us, p, o, es, ep, k o e, r⟩
theorem ND.same {P : Program} {w : World} {H H' : Hp} {d : Addr} {kvs : List (NKey × V)} (e : Same H H') (h : ND P w H d kvs) : ND P w H' d kvs :=
  let ⟨hz, xs, h1, h2, h3⟩ := h
  ⟨hz, xs, e _ _ h1, h2, fun x hx => ⟨(h3 x hx).1.same e, (h3 x hx).2⟩⟩
/-- another object has changed -/
theorem ND.other {P : Program} {w : World} {H : Hp} {d b : Addr} {o u : HO} {kvs : List (NKey × V)} (h : ND P w H d kvs) (hb : H b = some u) (hu : ∀ ys, u ≠ .tup ys) (ne : d ≠ b) : ND P w (upd H b o) d kvs :=
  let ⟨hz, xs, h1, h2, h3⟩ := h
  ⟨hz, xs, by rw [upd_ne ne]; exact h1, h2, fun x hx => ⟨(h3 x hx).1.keep fun a ys q => by
    rw [upd_ne (ne_of q hb fun z => hu ys z.symm)]
    exact q, (h3 x hx).2⟩⟩
/-- all but d stays as it was -/
def SameBut (d : Addr) (H H' : Hp) : Prop := ∀ b, b ≠ d → H' b = H b
section
variable {X : Cx} {pins : List (Addr × Obj)} {σ : L2.St} {H : Hp} {s : Shared} {d : Addr} {kvs : List (NKey × V)}
theorem paired_keys : ∀ {xs : List NE} {us : List (NKey × Addr × Value)}, Paired relNE xs us → xs.map (·.1) = us.map (·.1)
  | _, _, .nil => rfl
  | _, _, .cons h t => by rw [List.map_cons, List.map_cons, h.1, paired_keys t]
theorem paired_at : ∀ {xs : List NE} {us : List (NKey × Addr × Value)} (k : NKey), Paired relNE xs us → (match ndAt (neV xs) k with
    | some v => ∃ p, atKey us k = some p ∧ RelV v p.2
    | none => atKey us k = none)
  | _, _, k, .nil => rfl
  | x :: xs, u :: us, k, .cons h t => by
    have ih := paired_at k t
    obtain ⟨h1, h2, h3⟩ := h
    by_cases hk : x.1 = k
    · have e1 : ndAt (neV (x :: xs)) k = some x.2.2 := by simp [ndAt, neV, hk]
      have e2 : atKey (u :: us) k = some u.2 := by simp [atKey, ← h1, hk]
      rw [e1]
      exact ⟨u.2, e2, h3⟩
    · have e1 : ndAt (neV (x :: xs)) k = ndAt (neV xs) k := by simp [ndAt, neV, hk]
      have e2 : atKey (u :: us) k = atKey us k := by simp [atKey, ← h1, hk]
      rw [e1, e2]
      exact ih
theorem paired_mem : ∀ {xs : List NE} {us : List (NKey × Addr × Value)} {u : NKey × Addr × Value}, Paired relNE xs us → u ∈ us → ∃ x ∈ xs, relNE x u
  | _, _, _, .nil, h => by cases h
  | x :: _, w :: _, u, .cons r t, h => by
    rcases List.mem_cons.mp h with z | z
    · exact ⟨x, List.mem_cons_self, by rw [z]; exact r⟩
    · obtain ⟨y, hy, q⟩ := paired_mem t z
      exact ⟨y, List.mem_cons_of_mem _ hy, q⟩
theorem ND.dict (I : L2.Inv X pins σ H s) (h : ND X.prog X.w H d kvs) : ∃ xs us, neV xs = kvs ∧ H d = some (.ext (phiD X.prog X.w d xs)) ∧ Paired relNE xs us ∧ s.heap.DictOfH (nestedKind X.prog X.w) d us ∧ (d == sysModules) = false ∧ us.length ≤ sizeLine ∧
    ∀ x ∈ xs, NK H (.ref x.2.1) x.1 ∧ x.1.depth ≤ 8 := by
  obtain ⟨hz, xs, h1, h2, h3⟩ := h
  obtain ⟨⟨hm, us, p, o, es, ep, e1, e2, e3, e4, e5⟩, _, _⟩ := I.hok d _ h1
  refine ⟨xs, us, h2, h1, p, ⟨o, es, ep, e1, e2, e3, e4, fun u hu => ?_, e5⟩, hm, ?_, h3⟩
  · obtain ⟨x, hx, r⟩ : ∃ x ∈ xs, relNE x u := by
      exact paired_mem p hu
    obtain ⟨r1, r2, r3⟩ := r
    obtain ⟨n1, n2⟩ := h3 x hx
    rw [← r1, ← r2]
    exact ⟨NK.is I n1 rfl, n2⟩
  · have := Paired.length p
    rw [← h2] at hz
    simp only [neV, List.length_map] at hz
    omega
theorem nd_new {P : Program} {w : World} {h : Heap} {H : Hp} (hb : sysModules < h.objs.size) : ObjOk P w H (h.push { cls := .type "dict", data := .dict #[] }) h.objs.size (.ext (phiD P w h.objs.size [])) := by
  have hg := Heap.get?_push_size h (o := { cls := .type "dict", data := .dict #[] }) rfl
  refine ⟨⟨beq_eq_false_iff_ne.mpr (Nat.ne_of_gt hb), [], .nil, _, #[], 0, hg, ⟨rfl, rfl, rfl⟩, rfl, rfl, List.nodup_nil⟩, ⟨_, hg⟩, phiD_stays⟩
/-- {} -/
def tDNewN (P : Program) (w : World) : TE := fun _ H Q => ∀ d H', H d = none → Same H H' → ND P w H' d [] → (∀ b, b ≠ d → H' b = H b) → Q (.ref d) H'
theorem pe_dnewN {pos : Pos} : PE X (.Dict [] [] pos) (tDNewN X.prog X.w) := ⟨fun pins s σ H Q I h => by
  have hf : H s.heap.objs.size = none := I.hok.fresh (Nat.le_refl _)
  exact wpAny_Dict_empty ⟨.ref s.heap.objs.size, _, I.laid (a := s.heap.objs.size) (o := .ext (phiD X.prog X.w s.heap.objs.size [])) (t' := s.toks) (fun _ _ q => Heap.get?_push_of_some _ q) (Nat.le_refl _) (nd_new I.big), rfl,
    h _ _ hf (Same.new hf) ⟨Nat.zero_le _, [], upd_same, rfl, fun x hx => by cases hx⟩ fun b hb => upd_ne hb⟩⟩
def rInN (P : Program) (w : World) (neg : Bool) : R2 := fun x y H Q => ∃ d kvs k a, x = .ref a ∧ y = .ref d ∧ ND P w H d kvs ∧ NK H (.ref a) k ∧ k.depth ≤ 8 ∧ Q (.bl (if neg then !(ndAt kvs k).isSome else (ndAt kvs k).isSome)) H
def rIxN (P : Program) (w : World) : R2 := fun x y H Q => ∃ d kvs k a v, x = .ref d ∧ y = .ref a ∧ ND P w H d kvs ∧ NK H (.ref a) k ∧ k.depth ≤ 8 ∧ ndAt kvs k = some v ∧ Q v H
def rSetN (P : Program) (w : World) : TSet := fun o i v H Q => ∃ d kvs k a, o = .ref d ∧ i = .ref a ∧ ND P w H d kvs ∧ NK H (.ref a) k ∧ k.depth ≤ 8 ∧ kvs.length < sizeLine ∧
  ∀ H', SameBut d H H' → (∀ u, H d = some u → ∀ ys, u ≠ .tup ys) → ND P w H' d (ndPut kvs k v) → Q H'
theorem room8 {A : Around} (hu : A.units + 64 < cLine) {P : Program} {w : World} : (nestedKind P w).room A.in1 := by
  show A.units + 1 + 8 < cLine
  omega
theorem at_isSome {xs : List NE} {us : List (NKey × Addr × Value)} {k : NKey} (p : Paired relNE xs us) : (atKey us k).isSome = (ndAt (neV xs) k).isSome := by
  have h := paired_at k p
  cases e : ndAt (neV xs) k with
  | some v =>
    rw [e] at h
    obtain ⟨q, h1, _⟩ := h
    rw [h1]
    rfl
  | none =>
    rw [e] at h
    have h1 : atKey us k = none := h
    rw [h1]
    rfl
theorem op_inN (hu : X.A.units + 64 < cLine) : OpR X (compareOp .In) (rInN X.prog X.w false) := by
  intro pins s σ H x y v u Q I rx ry h
  obtain ⟨d, kvs, k, a, rfl, rfl, nd, nk, dp, q⟩ := h
  cases rx
  cases ry
  obtain ⟨xs, us, e1, e2, p, hd, hm, hz, _⟩ := nd.dict I
  refine wpAny_in_heap (room8 hu) (show (nestedKind X.prog X.w).is s.heap k a from ⟨NK.is I nk rfl, dp⟩) hm hd ?_
  rw [at_isSome p, e1]
  exact ⟨.bl _, H, I.tok _, rfl, q⟩
theorem op_notInN (hu : X.A.units + 64 < cLine) : OpR X (compareOp .NotIn) (rInN X.prog X.w true) := by
  intro pins s σ H x y v u Q I rx ry h
  obtain ⟨d, kvs, k, a, rfl, rfl, nd, nk, dp, q⟩ := h
  cases rx
  cases ry
  obtain ⟨xs, us, e1, e2, p, hd, hm, hz, _⟩ := nd.dict I
  refine notIn_keyed (knd := nestedKind X.prog X.w) (kvs := pairsH us) (room8 hu) (show (nestedKind X.prog X.w).is s.heap k a from ⟨NK.is I nk rfl, dp⟩) hm ⟨us, hd, rfl⟩ ?_
  rw [valueAt_pairsH, Option.isSome_map, at_isSome p, e1]
  exact ⟨.bl _, H, I.tok _, rfl, q⟩
theorem nd_type (I : L2.Inv X pins σ H s) (h : ND X.prog X.w H d kvs) : s.TypeIs (.ref d) "dict" := by
  obtain ⟨xs, us, e1, e2, p, hd, _⟩ := h.dict I
  exact hd.typeIs
theorem ix_N (hu : X.A.units + 64 < cLine) : IxR X (rIxN X.prog X.w) := by
  intro value slice pins s σ H x y v u Q I rx ry h hs
  obtain ⟨d, kvs, k, a, r, rfl, rfl, nd, nk, dp, e, q⟩ := h
  cases rx
  cases ry
  obtain ⟨xs, us, e1, e2, p, hd, hm, hz, _⟩ := nd.dict I
  have h2 := paired_at k p
  rw [e1, e] at h2
  obtain ⟨z, h3, h4⟩ := h2
  refine tail_any hd.typeIs PySem.F.slot_dict_getitem.lookup ?_ hs
  exact wpAny_getItem_heap (room8 hu) (show (nestedKind X.prog X.w).is s.heap k a from ⟨NK.is I nk rfl, dp⟩) hd h3 ⟨r, H, I.tok _, h4, q⟩
theorem paired_map (k : NKey) {v : V} {u : Value} (r : RelV v u) : ∀ {xs : List NE} {us : List (NKey × Addr × Value)}, Paired relNE xs us → Paired relNE (xs.map fun x => if x.1 = k then (x.1, x.2.1, v) else x) (us.map (putAt k u))
  | _, _, .nil => .nil
  | x :: xs, w :: us, .cons h t => by
    obtain ⟨h1, h2, h3⟩ := h
    refine .cons ?_ (paired_map k r t)
    unfold putAt
    show relNE (if x.1 = k then (x.1, x.2.1, v) else x) _
    by_cases hk : x.1 = k
    · rw [if_pos hk, if_pos (h1 ▸ hk)]
      exact ⟨h1, h2, r⟩
    · rw [if_neg hk, if_neg (h1 ▸ hk)]
      exact ⟨h1, h2, h3⟩
theorem neV_map (k : NKey) (v : V) (xs : List NE) : neV (xs.map fun x => if x.1 = k then (x.1, x.2.1, v) else x) = (neV xs).map fun p => if p.1 = k then (p.1, v) else p := by
  unfold neV
  rw [List.map_map, List.map_map]
  refine List.map_congr_left fun x _ => ?_
  by_cases hk : x.1 = k <;> simp [hk]
theorem set_N (hu : X.A.units + 64 < cLine) : PSet X (rSetN X.prog X.w) := by
  intro pins s σ H o i v ov iv u Q I ro ri rv h
  obtain ⟨d, kvs, k, a, rfl, rfl, nd, nk, dp, hl, q⟩ := h
  cases ro
  cases ri
  obtain ⟨xs, us, e1, e2, p, hd, hm, hz, h3⟩ := nd.dict I
  have hk : (nestedKind X.prog X.w).is s.heap k a := ⟨NK.is I nk rfl, dp⟩
  refine wpAny_setItem_heap (hsz := hz) (room8 hu) hk hd fun h' hm' hs => ?_
  -- the entries behind the store
  obtain ⟨ys, py, ey, ny⟩ : ∃ ys, Paired relNE ys (storedH us k a u) ∧ neV ys = ndPut kvs k v ∧ ∀ y ∈ ys, NK H (.ref y.2.1) y.1 ∧ y.1.depth ≤ 8 := by
    unfold storedH ndPut
    rw [at_isSome p, e1]
    cases hs : (ndAt kvs k).isSome with
    | true =>
      refine ⟨_, paired_map k rv p, by rw [if_pos rfl, neV_map, e1], fun y hy => ?_⟩
      obtain ⟨x, hx, rfl⟩ := List.mem_map.mp hy
      by_cases hk : x.1 = k
      · rw [if_pos hk]
        exact h3 x hx
      · rw [if_neg hk]
        exact h3 x hx
    | false =>
      rw [if_neg Bool.false_ne_true, if_neg Bool.false_ne_true]
      refine ⟨xs ++ [(k, a, v)], ?_, by rw [neV, List.map_append]; show neV xs ++ _ = _; rw [e1]; rfl, fun y hy => ?_⟩
      · have happ : ∀ {l1 : List NE} {l2 : List (NKey × Addr × Value)}, Paired relNE l1 l2 → Paired relNE (l1 ++ [(k, a, v)]) (l2 ++ [(k, a, u)]) := fun {l1 l2} pp => by
          induction pp with
          | nil => exact .cons ⟨rfl, rfl, rv⟩ .nil
          | cons r t ih => exact .cons r ih
        exact happ p
      · rcases List.mem_append.mp hy with z | z
        · exact h3 y z
        · rw [List.mem_singleton.mp z]
          exact ⟨nk, dp⟩
  obtain ⟨o', es, ep, g1, g2, g3, g4, g5, g6⟩ := hm'
  have nd2 : ∀ u, H d = some u → ∀ zs, u ≠ .tup zs := fun u hu zs z => by
    rw [e2] at hu
    rw [← Option.some.inj hu] at z
    cases z
  have tups : ∀ b zs, H b = some (.tup zs) → (upd H d (.ext (phiD X.prog X.w d ys))) b = some (.tup zs) := fun b zs hb => by
    rw [upd_ne (ne_of hb e2 fun z => by cases z)]
    exact hb
  have J : L2.Inv X pins σ (upd H d (.ext (phiD X.prog X.w d ys))) { s with heap := h', toks := s.toks + (nestedKind X.prog X.w).draws k } := by
    refine I.write (e := d) (by rw [e2]; trivial) (.inl rfl) (fun b ob hb e => (hs.2 b hb).trans e) ⟨_, g1⟩ ⟨⟨hm, _, py, o', es, ep, g1, g2, g3, g4, g6⟩, ⟨_, g1⟩, phiD_stays⟩
  refine ⟨_, J, q _ (fun b hb => upd_ne hb) nd2 ⟨?_, ys, upd_same, ey, fun y hy => ⟨(ny y hy).1.keep tups, (ny y hy).2⟩⟩⟩
  rw [← ey]
  have hlen : (neV ys).length = (storedH us k a u).length := by
    rw [neV, List.length_map]
    exact Paired.length py
  rw [hlen]
  have hul : us.length = kvs.length := by
    rw [← e1, neV, List.length_map]
    exact (Paired.length p).symm
  unfold storedH
  split
  · rw [List.length_map, hul]
    exact Nat.le_of_lt hl
  · rw [List.length_append, List.length_singleton, hul]
    exact hl
end
/-! what a look finds -/
theorem ndAt_put_same (kvs : List (NKey × V)) (k : NKey) (v : V) : ndAt (ndPut kvs k v) k = some v := by
  unfold ndPut
  cases h : (ndAt kvs k).isSome with
  | false =>
    rw [if_neg Bool.false_ne_true]
    have h2 : ndAt kvs k = none := by simpa using h
    unfold ndAt at h2 ⊢
    rw [List.find?_append]
    have h3 : (kvs.find? fun p => decide (p.1 = k)) = none := by simpa using h2
    rw [h3]
    simp
  | true =>
    rw [if_pos rfl]
    unfold ndAt at h ⊢
    induction kvs with
    | nil => simp at h
    | cons p r ih =>
      by_cases hk : p.1 = k
      · simp [hk]
      · simp only [List.map_cons, List.find?_cons, hk, decide_false, if_false]
        refine ih ?_
        simpa [List.find?_cons, hk] using h
theorem ndAt_put_other (kvs : List (NKey × V)) (k k' : NKey) (v : V) (hne : k' ≠ k) : ndAt (ndPut kvs k v) k' = ndAt kvs k' := by
  have hmap : ∀ l : List (NKey × V), ndAt (l.map fun p => if p.1 = k then (p.1, v) else p) k' = ndAt l k' := fun l => by
    unfold ndAt
    induction l with
    | nil => rfl
    | cons p r ih =>
      by_cases hk : p.1 = k
      · have h1 : ¬ p.1 = k' := fun e => hne (e.symm.trans hk)
        have h2 : ¬ k = k' := fun e => hne e.symm
        simpa [List.map_cons, List.find?_cons, hk, h1, h2] using ih
      · by_cases hk' : p.1 = k'
        · have h3 : ¬ k' = k := fun e => hne e
          simp [List.map_cons, List.find?_cons, hk', h3]
        · simpa [List.map_cons, List.find?_cons, hk, hk'] using ih
  unfold ndPut
  cases h : (ndAt kvs k).isSome with
  | true =>
    rw [if_pos rfl]
    exact hmap kvs
  | false =>
    rw [if_neg Bool.false_ne_true]
    unfold ndAt
    rw [List.find?_append]
    cases kvs.find? fun p => decide (p.1 = k') with
    | some p => rfl
    | none =>
      have h2 : ¬ k = k' := fun e => hne e.symm
      simp [h2]
theorem ndPut_len (kvs : List (NKey × V)) (k : NKey) (v : V) : (ndPut kvs k v).length ≤ kvs.length + 1 := by
  unfold ndPut
  split
  · rw [List.length_map]; omega
  · rw [List.length_append]; simp
end OB

namespace OB
open PySem PySem.Spec PyProof.Rows L2
section
variable {X : Cx}
abbrev rInB (P : Program) (w : World) (K : PySem.W.Frag) : R2 := fun x y H Q => rInA K x y H Q ∨ rInN P w false x y H Q
abbrev rNotInB (P : Program) (w : World) (K : PySem.W.Frag) : R2 := fun x y H Q => rNotInA K x y H Q ∨ rInN P w true x y H Q
theorem op_inB (hu : X.A.units + 64 < cLine) : OpR X (compareOp .In) (rInB X.prog X.w X.K) := OpR.or op_inA (op_inN hu)
theorem op_notInB (hu : X.A.units + 64 < cLine) : OpR X (compareOp .NotIn) (rNotInB X.prog X.w X.K) := OpR.or op_notinA (op_notInN hu)
abbrev rIxB (P : Program) (w : World) (K : PySem.W.Frag) : R2 := fun x y H Q => rIx K x y H Q ∨ rIxN P w x y H Q
theorem ix_B (hu : X.A.units + 64 < cLine) : IxR X (rIxB X.prog X.w X.K) := IxR.or ix_seq (ix_N hu)
abbrev rSetB (P : Program) (w : World) : TSet := fun o i v H Q => rSetL o i v H Q ∨ rSetN P w o i v H Q
theorem set_B (hu : X.A.units + 64 < cLine) : PSet X (rSetB X.prog X.w) := by
  intro pins s σ H o i v ov iv u Q I ro ri rv h
  rcases h with h | h
  · exact set_list pins s σ H o i v ov iv u Q I ro ri rv h
  · exact set_N hu pins s σ H o i v ov iv u Q I ro ri rv h
end
section
variable {P : Program} {w : World} {K : PySem.W.Frag} {σ : L2.St} {H : Hp} {Q : VK}
theorem r_inS2 {c : Nat} {z : Str} (h : Q (.bl (decide (c ∈ z.cps.toList))) H) : rInB P w K (.str ⟨#[c]⟩) (.str z) H Q := .inl (r_inS h)
theorem r_notInS2 {c : Nat} {z : Str} (h : Q (.bl (!decide (c ∈ z.cps.toList))) H) : rNotInB P w K (.str ⟨#[c]⟩) (.str z) H Q := .inl (.inl ⟨c, z, rfl, rfl, h⟩)
theorem r_inSq {p : Addr} {xs : List V} {x : V} (s : SqL K H p xs ∨ SqT K H p xs) (hx : flatV x = true) (hxs : xs.all flatV = true) (h : Q (.bl (inV x xs)) H) : rInB P w K x (.ref p) H Q := .inl (.inr ⟨p, xs, rfl, s, hx, hxs, h⟩)
theorem r_inD {d a : Addr} {kvs : List (NKey × V)} {k : NKey} (nd : ND P w H d kvs) (nk : NK H (.ref a) k) (dp : k.depth ≤ 8) (h : Q (.bl (ndAt kvs k).isSome) H) : rInB P w K (.ref a) (.ref d) H Q := .inr ⟨d, kvs, k, a, rfl, rfl, nd, nk, dp, h⟩
theorem r_notInD {d a : Addr} {kvs : List (NKey × V)} {k : NKey} (nd : ND P w H d kvs) (nk : NK H (.ref a) k) (dp : k.depth ≤ 8) (h : Q (.bl (!(ndAt kvs k).isSome)) H) : rNotInB P w K (.ref a) (.ref d) H Q := .inr ⟨d, kvs, k, a, rfl, rfl, nd, nk, dp, h⟩
theorem r_ixL2 {p : Addr} {xs : List V} {i : Int} {v : V} (s : SqL K H p xs) (e : atI xs i = some v) (h : Q v H) : rIxB P w K (.ref p) (.int i) H Q := .inl (r_ixL s e h)
theorem r_ixT2 {p : Addr} {xs : List V} {i : Int} {v : V} (s : SqT K H p xs) (e : atI xs i = some v) (h : Q v H) : rIxB P w K (.ref p) (.int i) H Q := .inl (r_ixT s e h)
theorem r_ixS2 {z : Str} {i : Int} {c : Nat} (s : z.length ≤ sizeLine) (e : atI z.cps.toList i = some c) (h : Q (.str ⟨#[c]⟩) H) : rIxB P w K (.str z) (.int i) H Q := .inl (r_ixS s e h)
theorem r_ixD2 {d a : Addr} {kvs : List (NKey × V)} {k : NKey} {v : V} (nd : ND P w H d kvs) (nk : NK H (.ref a) k) (dp : k.depth ≤ 8) (e : ndAt kvs k = some v) (h : Q v H) : rIxB P w K (.ref d) (.ref a) H Q := .inr ⟨d, kvs, k, a, v, rfl, rfl, nd, nk, dp, e, h⟩
theorem r_setL2 {p : Addr} {xs : List V} {k : Int} {j : Nat} {v : V} {Q : Hp → Prop} (s : H p = some (.lst xs)) (e : ixN xs.length k = some j) (h : Q (upd H p (.lst (xs.set j v)))) : rSetB P w (.ref p) (.int k) v H Q := .inl (r_setL s e h)
theorem r_setD2 {d a : Addr} {kvs : List (NKey × V)} {k : NKey} {v : V} {Q : Hp → Prop} (nd : ND P w H d kvs) (nk : NK H (.ref a) k) (dp : k.depth ≤ 8) (hl : kvs.length < sizeLine)
    (h : ∀ H', SameBut d H H' → (∀ u, H d = some u → ∀ ys, u ≠ .tup ys) → ND P w H' d (ndPut kvs k v) → Q H') : rSetB P w (.ref d) (.ref a) v H Q := .inr ⟨d, kvs, k, a, rfl, rfl, nd, nk, dp, hl, h⟩
def rIsN : R2 := fun x y H Q => y = .non ∧ Q (.bl (decide (x = .non))) H
def rNotN : R2 := fun x y H Q => y = .non ∧ Q (.bl (!decide (x = .non))) H
theorem op_isNA {X : Cx} : OpR X (compareOp .Is) rIsN := op_isN
theorem op_notNA {X : Cx} : OpR X (compareOp .IsNot) rNotN := op_notN
theorem r_isNA {x : V} (h : Q (.bl (decide (x = .non))) H) : rIsN x .non H Q := ⟨rfl, h⟩
theorem r_notNA {x : V} (h : Q (.bl (!decide (x = .non))) H) : rNotN x .non H Q := ⟨rfl, h⟩
theorem r_kt {neg : Bool} {a : Addr} {l : List (Str × V)} {z : Str} (h : Q (.bl (if neg then !(l.lookup z).isSome else (l.lookup z).isSome)) H) : rInKT neg a l (.str z) (.ref a) H Q := ⟨z, rfl, rfl, h⟩
theorem r_ixkt {a : Addr} {l : List (Str × V)} {z : Str} {v : V} (e : l.lookup z = some v) (h : Q v H) : rIxKT a l (.ref a) (.str z) H Q := ⟨z, v, rfl, rfl, e, h⟩
/-! chains, fields -/
theorem r_chain {r r' : R2} {ta tb tc : TE} (h : ta σ H fun x H1 => tb σ H1 fun y H2 => r x y H2 fun z H3 => ∃ k, z = .bl k ∧ (if k = true then tc σ H3 fun w' H4 => r' y w' H4 Q else Q (.bl false) H3)) : tChain r r' ta tb tc σ H Q := h
theorem r_gtup {n : Nat} {t : TGs} {a : Addr} {xs : List V} {Q : L2.St → Hp → Prop} (s : SqT K H a xs) (e : xs.length = n) (h : t xs σ H Q) : gTup K n t (.ref a) σ H Q := ⟨a, xs, rfl, s, e, h⟩
theorem r_gcons {t : TG} {u : TGs} {v : V} {r : List V} {Q : L2.St → Hp → Prop} (h : t v σ H fun σ' H' => u r σ' H' Q) : gCons t u (v :: r) σ H Q := ⟨v, r, rfl, h⟩
theorem r_gnil {Q : L2.St → Hp → Prop} (h : Q σ H) : gNil [] σ H Q := ⟨rfl, h⟩
theorem r_gstar {n i : Nat} {t : TGs} {a : Addr} {xs : List V} {Q : L2.St → Hp → Prop} (s : SqT K H a xs) (e : n ≤ xs.length + 1) (z : xs.length ≤ 16384)
    (h : ∀ D, H D = none → t (xs.take i ++ [.ref D] ++ (xs.drop i).drop (xs.length + 1 - n)) σ (upd H D (.lst ((xs.drop i).take (xs.length + 1 - n)))) Q) : gStar K n i t (.ref a) σ H Q := ⟨a, xs, rfl, s, e, z, h⟩
theorem r_fld {te : TE} {f : Str} (h : te σ H fun x H1 => ∃ a C dx fs v, x = .ref a ∧ H1 a = some (.ins C dx fs) ∧ Cls K C ∧ NoAttr K C f ∧ fs.lookup f = some v ∧ Q v H1) : tFld K te f σ H Q := h
theorem r_fldAt {f : Str} {a C dx : Addr} {fs : List (Str × V)} {v : V} (e : H a = some (.ins C dx fs)) (c : Cls K C) (n : NoAttr K C f) (l : fs.lookup f = some v) (h : Q v H) :
    ∃ a' C dx fs v, V.ref a = .ref a' ∧ H a' = some (.ins C dx fs) ∧ Cls K C ∧ NoAttr K C f ∧ fs.lookup f = some v ∧ Q v H := ⟨a, C, dx, fs, v, rfl, e, c, n, l, h⟩
theorem r_sfld {ta tv : TE} {f : Str} {D : Ends} (h : tv σ H fun y H1 => ta σ H1 fun x H2 => ∃ a C dx fs, x = .ref a ∧ H2 a = some (.ins C dx fs) ∧ Cls K C ∧ NoAttr K C f ∧ fs.length < 1000 ∧ D.nx σ (upd H2 a (.ins C dx (putF f y fs)))) : sFld K ta tv f D σ H := h
theorem r_sfldAt {f : Str} {a C dx : Addr} {fs : List (Str × V)} {y : V} {F : Hp → Prop} (e : H a = some (.ins C dx fs)) (c : Cls K C) (n : NoAttr K C f) (l : fs.length < 1000) (h : F (upd H a (.ins C dx (putF f y fs)))) :
    ∃ a' C dx fs, V.ref a = .ref a' ∧ H a' = some (.ins C dx fs) ∧ Cls K C ∧ NoAttr K C f ∧ fs.length < 1000 ∧ F (upd H a' (.ins C dx (putF f y fs))) := ⟨a, C, dx, fs, rfl, e, c, n, l, h⟩
theorem r_meth {C : Addr} {m : Str} {sp : Sp} {dvs : List V} {E : XK} {ta : TE} {t : TA} (h : ta σ H fun x H1 => ∃ a dx fs, x = .ref a ∧ H1 a = some (.ins C dx fs) ∧ fs.lookup m = none ∧ t σ H1 fun vs H2 => sp (x :: (vs ++ dvs)) H2 Q E) : tMeth C m sp dvs E ta t σ H Q := h
theorem r_make {C : Addr} {sp : Sp} {dvs : List V} {E : XK} {t : TA} (h : t σ H fun vs H1 => ∀ x dx, H1 x = none → H1 dx = none → dx ≠ x → sp (.ref x :: (vs ++ dvs)) (upd (upd H1 dx (.own x)) x (.ins C dx [])) (fun v H2 => v = .non ∧ Q (.ref x) H2) E) : tMake C sp dvs E t σ H Q := h
theorem r_bm {T : String} {r : V → List V → Hp → VK → Prop} {to : TE} {t : TA} (h : to σ H fun x H1 => tyV K T x H1 ∧ t σ H1 fun xs H2 => r x xs H2 Q) : tBM K T r to t σ H Q := h
theorem r_bm0 {T : String} {r : V → List V → Hp → VK → Prop} {to : TE} (h : to σ H fun x H1 => tyV K T x H1 ∧ r x [] H1 Q) : tBM0 K T r to σ H Q := h
theorem r_tyL {a : Addr} {xs : List V} {R : Prop} (s : SqL K H a xs) (h : R) : tyV K "list" (.ref a) H ∧ R := ⟨.inl ⟨rfl, _, s⟩, h⟩
theorem r_append {l : Addr} {xs : List V} {y : V} (s : H l = some (.lst xs)) (z : xs.length < sizeLine) (h : Q .non (upd H l (.lst (xs ++ [y])))) : rAppend (.ref l) [y] H Q := ⟨l, xs, y, rfl, rfl, s, z, h⟩
theorem r_ifT {b : Bool} {A B : Prop} (h : b = true) (hA : A) : if b = true then A else B := by rw [h]; exact iteT hA
theorem r_ifF {b : Bool} {A B : Prop} (h : b = false) (hB : B) : if b = true then A else B := by rw [h]; exact iteF hB
theorem r_bl2 {F : Bool → Prop} {b c : Bool} (e : b = c) (h : F c) : ∃ k, V.bl b = .bl k ∧ F k := ⟨b, rfl, by rw [e]; exact h⟩
theorem q_bl {Q : VK} {b c : Bool} (e : b = c) (h : Q (.bl c) H) : Q (.bl b) H := by rw [e]; exact h
end
end OB

namespace OB
open PySem PySem.Spec PyProof.Rows L2
/-! ### the rules with the written part, the program and the world as letters -/
section
variable {X : Cx} {P : Program} {w : World} {K : PySem.W.Frag}
theorem oAdd (hK : X.K = K := by rfl) : OpR X (binaryOp .Add) (rAddA K) := by subst hK; exact op_addA
theorem oEq (hu : X.A.units + 64 < cLine) (hK : X.K = K := by rfl) : OpR X (compareOp .Eq) (rEqA K) := by subst hK; exact op_eqA hu
theorem oNe (hu : X.A.units + 64 < cLine) (hK : X.K = K := by rfl) : OpR X (compareOp .NotEq) (rNeA K) := by subst hK; exact op_neA hu
theorem oIn (hu : X.A.units + 64 < cLine) (hP : X.prog = P := by rfl) (hw : X.w = w := by rfl) (hK : X.K = K := by rfl) : OpR X (compareOp .In) (rInB P w K) := by subst hP hw hK; exact op_inB hu
theorem oNotIn (hu : X.A.units + 64 < cLine) (hP : X.prog = P := by rfl) (hw : X.w = w := by rfl) (hK : X.K = K := by rfl) : OpR X (compareOp .NotIn) (rNotInB P w K) := by subst hP hw hK; exact op_notInB hu
theorem oInT {a : Addr} {l : List (Str × V)} (T : KTab K w a l) (hw : X.w = w := by rfl) (hK : X.K = K := by rfl) : OpR X (compareOp .In) (rInKT false a l) := by subst hw hK; exact op_inKT T
theorem oNotInT {a : Addr} {l : List (Str × V)} (T : KTab K w a l) (hw : X.w = w := by rfl) (hK : X.K = K := by rfl) : OpR X (compareOp .NotIn) (rInKT true a l) := by subst hw hK; exact op_notInKT T
theorem iIx (hu : X.A.units + 64 < cLine) (hP : X.prog = P := by rfl) (hw : X.w = w := by rfl) (hK : X.K = K := by rfl) : IxR X (rIxB P w K) := by subst hP hw hK; exact ix_B hu
theorem iIxT {a : Addr} {l : List (Str × V)} (T : KTab K w a l) (hw : X.w = w := by rfl) (hK : X.K = K := by rfl) : IxR X (rIxKT a l) := by subst hw hK; exact ix_KT T
theorem iSet (hu : X.A.units + 64 < cLine) (hP : X.prog = P := by rfl) (hw : X.w = w := by rfl) : PSet X (rSetB P w) := by subst hP hw; exact set_B hu
theorem iSl (hK : X.K = K := by rfl) : SlR X (rSlAny K) := by subst hK; exact sl_A
theorem cLen (hK : X.K = K := by rfl) : CallR X (.builtin "len") (rLenA K) := by subst hK; exact call_lenA
theorem cIsi (hK : X.K = K := by rfl) : CallR X (.builtin "isinstance") (rIsi K) := by subst hK; exact call_isi
theorem cAll (hc : X.calm = true) (hK : X.K = K := by rfl) : CallR X (.builtin "all") (rAll K) := by subst hK; exact cr_all hc
theorem cAny (hc : X.calm = true) (hK : X.K = K := by rfl) : CallR X (.builtin "any") (rAny K) := by subst hK; exact cr_any hc
theorem cSum (hc : X.calm = true) (hK : X.K = K := by rfl) : CallR X (.builtin "sum") (rSum K) := by subst hK; exact cr_sum hc
theorem cList (hc : X.calm = true) (hK : X.K = K := by rfl) : CallR X (.type "list") (rListOf K) := by subst hK; exact call_listA hc
theorem cTuple (hK : X.K = K := by rfl) : CallR X (.type "tuple") (rTupleOf K) := by subst hK; exact call_tupleA
theorem piA {tg e : Expr} {te : TE} (he : PE X e te) (hK : X.K = K := by rfl) : PI X tg e (iAny K te) := by subst hK; exact pi_A he
theorem piEnT {e : Expr} {ta : TA} {p pos tpos : Pos} {elts : List Expr} {kk : Nat} (hm : X.mg "enumerate" = none) (ha : PA X [e] ta) (hg : Gl X "enumerate" := by rfl) (hs : starEach [e] X.env = [(false, eval e X.env)] := by rfl) (hK : X.K = K := by rfl) :
    PI X (.Tuple elts kk tpos) (.Call (.Name "enumerate" p) [e] [] pos) (iEnT K ta) := by subst hK; exact pi_enT hg hm ha hs
theorem piEnT2 {e e2 : Expr} {ta : TA} {p pos tpos : Pos} {elts : List Expr} {kk : Nat} (hm : X.mg "enumerate" = none) (ha : PA X [e, e2] ta) (hg : Gl X "enumerate" := by rfl) (hs : starEach [e, e2] X.env = (false, eval e X.env) :: starEach [e2] X.env := by rfl)
    (hpl : (backTo pos (starEach [e2] X.env)).any (·.1) = false := by rfl) (hK : X.K = K := by rfl) :
    PI X (.Tuple elts kk tpos) (.Call (.Name "enumerate" p) [e, e2] [] pos) (iEnT2 K ta) := by subst hK; exact pi_enT2 hg hm ha hs hpl
theorem piEnL {e : Expr} {ta : TA} {p pos tpos : Pos} {elts : List Expr} {kk : Nat} (hm : X.mg "enumerate" = none) (ha : PA X [e] ta) (hg : Gl X "enumerate" := by rfl) (hs : starEach [e] X.env = [(false, eval e X.env)] := by rfl) (hK : X.K = K := by rfl) :
    PI X (.Tuple elts kk tpos) (.Call (.Name "enumerate" p) [e] [] pos) (iEnum K ta) := by subst hK; exact pi_enum hg hm ha hs
theorem gTupA {es : List Expr} {k : Nat} {pos : Pos} {t : TGs} {n : Nat} (hc : X.calm = true) (h : PGs X es t)
    (hn : (assignEach es X.env).length = n := by rfl) (hst : (assignEach es X.env).findIdx? (·.1) = none := by rfl) (hK : X.K = K := by rfl) : PG X (.Tuple es k pos) (gTup K n t) := by subst hK; exact pg_tup hc h hn hst
theorem gStarA {es : List Expr} {k : Nat} {pos : Pos} {t : TGs} {n i : Nat} (hc : X.calm = true) (h : PGs X es t)
    (hn : (assignEach es X.env).length = n := by rfl) (hst : (assignEach es X.env).findIdx? (·.1) = some i := by rfl) (hi : i < n := by decide) (hK : X.K = K := by rfl) : PG X (.Tuple es k pos) (gStar K n i t) := by subst hK; exact pg_star hc h hn hst hi
theorem eFld {e : Expr} {f : Str} {pos : Pos} {ta : TE} (he : PE X e ta) (hb : attributeBase e f X.env (eval e X.env) = eval e X.env := by rfl) (hK : X.K = K := by rfl) : PE X (.Attribute e f pos) (tFld K ta f) := by subst hK; exact pe_fld he hb
theorem sFldA {o value : Expr} {f : Str} {pos pos' : Pos} {ta tv : TE} (ha : PE X o ta) (hv : PE X value tv) (hs : swapsWith value (some (.Attribute o f pos')) pos.line X.env = pure false := by rfl) (hK : X.K = K := by rfl) :
    PS X (.Assign [.Attribute o f pos'] value pos) (sFld K ta tv f) := by subst hK; exact ps_fld ha hv hs
theorem sFldAugA {o value : Expr} {f : Str} {op : Operator} {rd : V → V → Hp → VK → Prop} {pos tpos : Pos} {ta tv : TE} (ha : PE X o ta) (hv : PE X value tv) (hop : InOp X op rd) (hK : X.K = K := by rfl) :
    PS X (.AugAssign (.Attribute o f tpos) op value pos) (sFldAug K ta tv rd f) := by subst hK; exact ps_fldaug ha hv hop
theorem ps_parA {i j : Nat} {x y : Str} {a b : Expr} {ta : TA} {px py pt pos : Pos} {kt k2 : Nat} {pt2 : Pos} (hc : X.calm = true) (hN : X.N.Nodup) (ha : PA X [a, b] ta) (hi : X.N[i]? = some x := by rfl) (hj : X.N[j]? = some y := by rfl) (hij : i ≠ j := by decide)
    (hx : List.lookup x X.env.scope.names = some NameKind.local := by rfl) (hy : List.lookup y X.env.scope.names = some NameKind.local := by rfl)
    (sw : swappedStores [Expr.Tuple [Expr.Name x px, Expr.Name y py] kt pt] (Expr.Tuple [a, b] k2 pt2) X.env = pure (some [x, y]) := by rfl)
    (sw2 : swapsWithSole [Expr.Tuple [Expr.Name x px, Expr.Name y py] kt pt] (Expr.Tuple [a, b] k2 pt2) pos.line X.env = pure false := by rfl) :
    PS X (Stmt.Assign [Expr.Tuple [Expr.Name x px, Expr.Name y py] kt pt] (Expr.Tuple [a, b] k2 pt2) pos) (tPar i j ta) := ps_par hc hN hi hj hij hx hy ha sw sw2
theorem ps_par3A {i j l : Nat} {x y z : Str} {a b c : Expr} {ta : TA} {px py pz pt pos : Pos} {kt k2 : Nat} {pt2 : Pos} (hc : X.calm = true) (hN : X.N.Nodup) (ha : PA X [a, b, c] ta) (hi : X.N[i]? = some x := by rfl) (hj : X.N[j]? = some y := by rfl) (hl : X.N[l]? = some z := by rfl) (hij : i ≠ j := by decide) (hil : i ≠ l := by decide) (hjl : j ≠ l := by decide)
    (hx : List.lookup x X.env.scope.names = some NameKind.local := by rfl) (hy : List.lookup y X.env.scope.names = some NameKind.local := by rfl) (hz : List.lookup z X.env.scope.names = some NameKind.local := by rfl)
    (sw : swappedStores [Expr.Tuple [Expr.Name x px, Expr.Name y py, Expr.Name z pz] kt pt] (Expr.Tuple [a, b, c] k2 pt2) X.env = pure (some [x, y, z]) := by rfl)
    (sw2 : swapsWithSole [Expr.Tuple [Expr.Name x px, Expr.Name y py, Expr.Name z pz] kt pt] (Expr.Tuple [a, b, c] k2 pt2) pos.line X.env = pure false := by rfl) :
    PS X (Stmt.Assign [Expr.Tuple [Expr.Name x px, Expr.Name y py, Expr.Name z pz] kt pt] (Expr.Tuple [a, b, c] k2 pt2) pos) (tPar3 i j l ta) := ps_par3 hc hN hi hj hl hij hil hjl hx hy hz ha sw sw2
theorem paStar {e : Expr} {es : List Expr} {p : Pos} {te : TE} {t : TA} (he : PE X e te) (hr : PA X es t) (hs : starEach (.Starred e p :: es) X.env = (true, eval e X.env) :: starEach es X.env := by rfl) (hK : X.K = K := by rfl) : PA X (.Starred e p :: es) (StX.tStar K te t) := by subst hK; exact StX.pa_star he hr hs
theorem eNewN {pos : Pos} (hP : X.prog = P := by rfl) (hw : X.w = w := by rfl) : PE X (.Dict [] [] pos) (tDNewN P w) := by subst hP hw; exact pe_dnewN
def rBm (K : PySem.W.Frag) (T : String) (r : V → List V → Hp → VK → Prop) (to : TE) (t : TA) : TE := tBM K T r to t
theorem eBm {T : String} {name : String} {o e : Expr} {es : List Expr} {apos cpos : Pos} {r : V → List V → Hp → VK → Prop} {to : TE} {t : TA} (h : PE X (.Call (.Attribute o name apos) (e :: es) [] cpos) (tBM X.K T r to t)) (hK : X.K = K := by rfl) :
    PE X (.Call (.Attribute o name apos) (e :: es) [] cpos) (tBM K T r to t) := by subst hK; exact h
theorem eBm0 {T : String} {name : String} {o : Expr} {apos cpos : Pos} {r : V → List V → Hp → VK → Prop} {to : TE} (h : PE X (.Call (.Attribute o name apos) [] [] cpos) (tBM0 X.K T r to)) (hK : X.K = K := by rfl) :
    PE X (.Call (.Attribute o name apos) [] [] cpos) (tBM0 K T r to) := by subst hK; exact h
/-- sep.join(xs) -/
def rJoin (K : PySem.W.Frag) : V → List V → Hp → VK → Prop := fun x xs H Q => ∃ a p, ∃ ys : List Str, x = .str a ∧ xs = [.ref p] ∧ (SqL K H p (ys.map V.str) ∨ SqT K H p (ys.map V.str)) ∧
  (ys.map (·.length)).sum + ys.length * a.length ≤ 16777216 ∧ Q (.str (Txt.join a ys)) H
theorem eJoin {o e : Expr} {apos pos : Pos} {to te : TE} (ho : PE X o to) (he : PE X e te) (hs : starEach [e] X.env = [(false, eval e X.env)] := by rfl) (hbase : attributeBase o "join" X.env (eval o X.env) = eval o X.env := by rfl) (hline : (apos.endLine == pos.line) = true := by rfl) (hK : X.K = K := by rfl) :
    PE X (.Call (.Attribute o "join" apos) [e] [] pos) (tM1 (rJoin K) to te) := by subst hK; exact pe_join ho he hs hbase hline
end
section
variable {K : PySem.W.Frag} {σ : L2.St} {H : Hp} {Q : VK}
theorem r_m1 {r : V → List V → Hp → VK → Prop} {to te : TE} (h : to σ H fun x H1 => (∃ a, x = .str a) ∧ te σ H1 fun y H2 => r x [y] H2 Q) : tM1 r to te σ H Q := h
theorem r_isstr {z : Str} {R : Prop} (h : R) : (∃ a, V.str z = .str a) ∧ R := ⟨⟨z, rfl⟩, h⟩
theorem r_join {a : Str} {p : Addr} {ys : List Str} (s : SqL K H p (ys.map V.str) ∨ SqT K H p (ys.map V.str)) (z : (ys.map (·.length)).sum + ys.length * a.length ≤ 16777216) (h : Q (.str (Txt.join a ys)) H) : rJoin K (.str a) [.ref p] H Q := ⟨a, p, ys, rfl, rfl, s, z, h⟩
theorem r_iany_t {te : TE} {R : It → Hp → Prop} (h : te σ H fun x H1 => ∃ a, x = .ref a ∧ (∃ xs, SqT K H1 a xs) ∧ R (Itt K a) H1) : iAny K te σ H R := .inr (.inl h)
theorem r_iany_l {te : TE} {R : It → Hp → Prop} (h : te σ H fun x H1 => ∃ a, x = .ref a ∧ (∃ xs, SqL K H1 a xs) ∧ R (Itl K a) H1) : iAny K te σ H R := .inl h
theorem r_iany_s {te : TE} {R : It → Hp → Prop} (h : te σ H fun v H1 => ∃ x, v = .str x ∧ R (Its x) H1) : iAny K te σ H R := .inr (.inr h)
theorem r_lc {wi : TI} {g : TG} {tt : TT} {te : TE} {vs : List Nat} (h : wi σ H fun J H1 => ∀ D, H1 D = none → ∃ W : Nat → Nat → Hp → Prop, (∃ m, W 0 m (upd H1 D (.lst []))) ∧ ∀ i m H, W i m H →
  (J.stop i H ∧ Q (.ref D) H) ∨ (J.go i H ∧ ∃ Nx : Hp → Prop, (∀ H', Nx H' → ∃ m', m' < m ∧ W (i + 1) m' H') ∧ ∀ x H', J.yld i H x H' → g x (wipe σ vs) H' fun σ2 H2 => wipe σ2 vs = wipe σ vs ∧ tt σ2 H2 fun b H3 =>
    if b = true then te σ2 H3 fun y H4 => ∃ acc, H4 D = some (.lst acc) ∧ acc.length < sizeLine ∧ Nx (upd H4 D (.lst (acc ++ [y]))) else Nx H3)) : tLc wi g tt te vs σ H Q := h
end
end OB

namespace OB
open PySem PySem.Spec PyProof.Rows L2
/-! ### own operators of instances -/
section
variable {X : Cx} {CX : CXT} {n : Nat} {C g : Addr} {sp : Sp} {E : XK}
theorem cmpBk {P : Value → Shared → Prop} {z : V} {v : Value} {s' : Shared} (r : RelV z v) (h : P v s') : PySem.W.CmpBack P v s' := by
  cases v <;> first | exact h | skip
  cases z <;> first | (cases (show Value.notImplemented = _ from r)) | (obtain ⟨_, r⟩ := r; cases r)
def rOwnB (C : Addr) (sp : Sp) (E : XK) : R2 := fun x y H Q => ∃ a dx fs b dy gs, x = .ref a ∧ y = .ref b ∧ H a = some (.ins C dx fs) ∧ H b = some (.ins C dy gs) ∧ sp [x, y] H Q E
/-- x op y, both instances of the class at C -/
theorem op_binOwn {op : Operator} (hc : PySem.W.selfFirst X.K C = true) (hs : PySem.W.findIn X.K (.ref C) (PySem.dunder op.info.2) = some (some (.ref g))) (hf : PySem.W.isFn X.K (.ref g) = true) (F : FnR X.prog X.w X.K X.mg X.base CX n g sp)
    (hr : Room n X.A) (hx : Passes CX X E) : OpR X (binaryOp op) (rOwnB C sp E) := by
  intro pins s σ H x y v u Q I rx ry h
  obtain ⟨a, dx, fs, b, dy, gs, rfl, rfl, ha, hb, q⟩ := h
  cases (show v = Value.ref a from rx)
  cases (show u = Value.ref b from ry)
  obtain ⟨mA, O, _⟩ := ins_get I.hok ha
  obtain ⟨mB, O', _⟩ := ins_get I.hok hb
  obtain ⟨od, J, _⟩ := O.look
  obtain ⟨od', J', _⟩ := O'.look
  obtain ⟨m, hF⟩ := I.fr
  refine PySem.W.binop_K (op := op) hF I.ok.mod.kin J J'.type hc hs hf ?_
  refine wpAny_mono (wpAny_call (run_fnR (us := [.ref a, .ref b]) (vs := [.ref a, .ref b]) F hr hx I (.cons rfl (.cons rfl .nil)) q)) (fun w s' z => ?_) fun _ _ x => x
  obtain ⟨z', H', I', rz, qz⟩ := z
  exact cmpBk rz ⟨z', H', I', rz, qz⟩
/-- x == y, both instances of the class at C -/
theorem op_cmpOwn {op : CmpOp} (hop : ∀ a b, compareOp op a b = richCompare op a b) (hn : PySem.W.notFirst X.K C (.ref C) = true) (hs : PySem.W.findIn X.K (.ref C) (cmpInfo op).2.1 = some (some (.ref g))) (hf : PySem.W.isFn X.K (.ref g) = true) (F : FnR X.prog X.w X.K X.mg X.base CX n g sp)
    (hr : Room n X.A) (hx : Passes CX X E) : OpR X (compareOp op) (rOwnB C sp E) := by
  intro pins s σ H x y v u Q I rx ry h
  obtain ⟨a, dx, fs, b, dy, gs, rfl, rfl, ha, hb, q⟩ := h
  cases (show v = Value.ref a from rx)
  cases (show u = Value.ref b from ry)
  obtain ⟨mA, O, _⟩ := ins_get I.hok ha
  obtain ⟨mB, O', _⟩ := ins_get I.hok hb
  obtain ⟨od, J, _⟩ := O.look
  obtain ⟨od', J', _⟩ := O'.look
  obtain ⟨m, hF⟩ := I.fr
  rw [hop]
  refine PySem.W.cmp_K (op := op) (tb := .ref C) hr.units0 hF I.ok.mod.kin J J'.type hn hs hf ?_
  refine wpAny_mono (wpAny_call (run_fnR (us := [.ref a, .ref b]) (vs := [.ref a, .ref b]) F hr hx I (.cons rfl (.cons rfl .nil)) q)) (fun w s' z => ?_) fun _ _ x => x
  obtain ⟨z', H', I', rz, qz⟩ := z
  exact cmpBk rz ⟨z', H', I', rz, qz⟩
end
end OB

namespace OB
open PySem PySem.Spec PyProof.Rows L2
/-! ### own operators: facts of the class, an int at the right, != by an own == -/
structure OwnB (K : PySem.W.Frag) (C : Addr) (nm : String) (g : Addr) : Prop where
  sf : PySem.W.selfFirst K C = true
  at_ : PySem.W.findIn K (.ref C) (PySem.dunder nm) = some (some (.ref g))
  fn : PySem.W.isFn K (.ref g) = true
structure OwnI (K : PySem.W.Frag) (C : Addr) (nm : String) (g : Addr) : Prop where
  own : OwnB K C nm g
  nr : PySem.W.findIn K (.ref C) (PySem.dunderR nm) = some none
  il : ∃ fo, PySem.W.findIn K (.type "int") (PySem.dunder nm) = some fo
  ir : ∃ ro, PySem.W.findIn K (.type "int") (PySem.dunderR nm) = some ro
  sub : PySem.W.subIn K (.type "int") (.ref C) = some false
structure OwnE (K : PySem.W.Frag) (C : Addr) (g : Addr) : Prop where
  nf : PySem.W.notFirst K C (.ref C) = true
  eq : PySem.W.findIn K (.ref C) "__eq__" = some (some (.ref g))
  fn : PySem.W.isFn K (.ref g) = true
  ne : PySem.W.findIn K (.ref C) "__ne__" = some (some (.builtin "object.__ne__"))
  mr : PySem.W.mroIn K C (.type "object") = some true
def rOwnI (C : Addr) (sp : Sp) (E : XK) : R2 := fun x y H Q => ∃ a dx fs i, x = .ref a ∧ y = .int i ∧ H a = some (.ins C dx fs) ∧ sp [x, y] H Q E
def rOwnN (C : Addr) (sp : Sp) (E : XK) : R2 := fun x y H Q => ∃ a dx fs b dy gs, x = .ref a ∧ y = .ref b ∧ H a = some (.ins C dx fs) ∧ H b = some (.ins C dy gs) ∧ sp [x, y] H (fun v H' => ∃ c, v = .bl c ∧ Q (.bl (!c)) H') E
section
variable {M : Model} {prog : Program} {w : World} {A : Around} {E : Value → Shared → Prop} {s : Shared} {K : PySem.W.Frag} {x C f : Addr} {ox : Obj} {od : Option Obj} {b : Value}
theorem ifBound_ne {args : List Value} {Q : Option Value → Shared → Prop} (X : K.In s.heap) (I : PySem.W.InstAt s.heap x ox C od) (hs : PySem.W.findIn K (.ref C) "__ne__" = some (some (.builtin "object.__ne__")))
    (h : wpAny M A (call (.builtin "object.__ne__") (.ref x :: args)) (fun v => Q (some v)) E s) : wpAny M A (callSpecialIfBound? (.ref x) "__ne__" args) Q E s := by
  have done : wpAny M A (call (.builtin "object.__ne__") ([.ref x] ++ args) >>= fun v => pure (some v)) Q E s := wpAny_bind (wpAny_mono h (fun _ _ z => wpAny_pure z) fun _ _ z => z)
  simp only [callSpecialIfBound?, bindSpecialIfBound?]
  refine wpAny_holding (wpAny_bind (wpAny_bind (wpAny_bind (I.type.here ((PySem.W.looks_findIn X hs).here (wpAny_bind (wpAny_askSetting (wpAny_ite ?_))))))))
  split
  · exact wpAny_bind (wpAny_of_eq (F.cmp_object.ne.bind _) (wpAny_pure (by exact done)))
  · exact wpAny_tryCatch (wpAny_bind (wpAny_of_eq (F.cmp_object.ne.bind _) (wpAny_pure (by exact done))))
theorem entry_ne {Q : Fin → Shared → Prop} (hu : A.units < cLine) (X : K.In s.heap) (I : PySem.W.InstAt s.heap x ox C od) (hs : PySem.W.findIn K (.ref C) "__eq__" = some (some (.ref f))) (hf : PySem.W.isFn K (.ref f) = true)
    (h : wpAny M A (call (.ref f) [.ref x, b]) (fun v s' => ∃ c, v = .bool c ∧ Q (.done (.ret (.bool (!c)))) s') E s) : wpAny M A (Builtin.«object.__ne__» ⟨[.ref x, b], []⟩) Q E s := by
  unfold Builtin.«object.__ne__»
  refine wpAny_bind (m := slotArgs "__ne__" 1 _) (wpAny_pure ?_)
  refine wpAny_bind (m := cRoomFor _ _) (wpAny_cRoomFor hu ?_)
  refine wpAny_bind (m := callSpecialIfBound? (.ref x) (Str.ofString "__eq__") _) (PySem.W.ifBound_K X I hs hf (wpAny_mono h (fun r s' hq => ?_) fun _ _ y => y))
  obtain ⟨c, rfl, q⟩ := hq
  exact wpAny_bind (wpAny_truthy_bool (wpAny_pure q))
theorem ne_own {tb : Value} {Q : Value → Shared → Prop} (hu : A.units + 64 < cLine) (X : K.In s.heap) (I : PySem.W.InstAt s.heap x ox C od) (hb : PySem.W.Looks (model prog w) s.heap (typeOf b) tb) (o : OwnE K C f) (ht : tb = .ref C)
    (h : wpAny (model prog w) A.in1 (call (.ref f) [.ref x, b]) (fun v s' => ∃ c, v = .bool c ∧ Q (.bool (!c)) s') E s) : wpAny (model prog w) A (richCompare .NotEq (.ref x) b) Q E s := by
  subst ht
  have hu0 : A.units < cLine := by omega
  have one : wpAny (model prog w) A (tryCompare (.ref x) "__ne__" b) (fun r s' => ∃ v, r = some v ∧ Q v s') E s := by
    unfold tryCompare
    refine wpAny_bind (ifBound_ne X I o.ne (wpAny_call (codeAny_call_builtin F.cmp_object.ne.plain F.cmpEntry_ne (PySem.W.check_slot F.cmpKind_ne F.cmpSplit_ne (I.type.andThen (PySem.W.looks_mroIn X o.mr)) (F.cmpArgs_ne _ _) ?_))))
    refine entry_ne (by show A.units + 1 < cLine; omega) X I o.eq o.fn (wpAny_mono h (fun v s' z => ?_) fun _ _ y => y)
    obtain ⟨c, rfl, q⟩ := z
    exact ⟨c, rfl, wpAny_pure ⟨_, rfl, q⟩⟩
  unfold richCompare
  simp only [oneThing_ref]
  refine wpAny_holding (wpAny_bind (wpAny_cRoomFor hu0 ?_))
  refine wpAny_bind (I.type.here (wpAny_bind (hb.here ?_)))
  rw [if_neg (by simp)]
  refine wpAny_bind (wpAny_pure ?_)
  simp only [Bool.false_eq_true, if_false]
  refine wpAny_bind (wpAny_mono one (fun r s' z => ?_) fun _ _ e => e)
  obtain ⟨v, rfl, hq⟩ := z
  exact wpAny_pure hq
end
section
variable {X : Cx} {CX : CXT} {n : Nat} {C g : Addr} {sp : Sp} {E : XK} {K : PySem.W.Frag} {k : Nat} {ps : List Str}
theorem Prom.fnR {P : Program} {w : World} {mg : Str → Option Value} {base : Heap} (G : Prom P w K mg base CX k g ps [] sp) : FnR P w K mg base CX k g sp := by
  obtain ⟨⟨fd, ds, F, b, v⟩, kp⟩ := G
  exact (F.raw b v).imp fun vs H Q E h => by rwa [List.append_nil]
theorem op_ownB {op : Operator} (o : OwnB X.K C op.info.2 g) (G : Prom X.prog X.w X.K X.mg X.base CX n g ps [] sp) (hr : Room n X.A) (hx : Passes CX X E) : OpR X (binaryOp op) (rOwnB C sp E) := op_binOwn o.sf o.at_ o.fn G.fnR hr hx
theorem op_ownI {op : Operator} (o : OwnI X.K C op.info.2 g) (G : Prom X.prog X.w X.K X.mg X.base CX n g ps [] sp) (hr : Room n X.A) (hx : Passes CX X E) : OpR X (binaryOp op) (rOwnI C sp E) := by
  intro pins s σ H x y v u Q I rx ry h
  obtain ⟨a, dx, fs, i, rfl, rfl, ha, q⟩ := h
  cases (show v = Value.ref a from rx)
  obtain ⟨t, rfl⟩ := (show ∃ t, u = Value.int i t from ry)
  obtain ⟨mA, O, _⟩ := ins_get I.hok ha
  obtain ⟨od, J, _⟩ := O.look
  obtain ⟨m, hF⟩ := I.fr
  obtain ⟨fo, hfo⟩ := o.il
  obtain ⟨ro, hro⟩ := o.ir
  refine PySem.W.ksp_binT (T := "int") (op := op) hF I.ok.mod.kin J rfl o.own.sf o.own.at_ o.own.fn o.nr (.inl rfl) hfo hro o.sub ?_
  refine wpAny_mono (wpAny_call (run_fnR (us := [.ref a, .int i t]) (vs := [.ref a, .int i]) G.fnR hr hx I (.cons rfl (.cons ⟨t, rfl⟩ .nil)) q)) (fun w s' z => ?_) fun _ _ x => x
  obtain ⟨z', H', I', rz, qz⟩ := z
  exact cmpBk rz ⟨z', H', I', rz, qz⟩
theorem op_ownEq (o : OwnE X.K C g) (G : Prom X.prog X.w X.K X.mg X.base CX n g ps [] sp) (hr : Room n X.A) (hx : Passes CX X E) : OpR X (compareOp .Eq) (rOwnB C sp E) := op_cmpOwn (fun _ _ => rfl) o.nf o.eq o.fn G.fnR hr hx
theorem op_ownNe (o : OwnE X.K C g) (G : Prom X.prog X.w X.K X.mg X.base CX n g ps [] sp) (hr : Room (n + 1) X.A) (hx : Passes CX X E) : OpR X (compareOp .NotEq) (rOwnN C sp E) := by
  intro pins s σ H x y v u Q I rx ry h
  obtain ⟨a, dx, fs, b, dy, gs, rfl, rfl, ha, hb, q⟩ := h
  cases (show v = Value.ref a from rx)
  cases (show u = Value.ref b from ry)
  obtain ⟨mA, O, _⟩ := ins_get I.hok ha
  obtain ⟨mB, O', _⟩ := ins_get I.hok hb
  obtain ⟨od, J, _⟩ := O.look
  obtain ⟨od', J', _⟩ := O'.look
  refine ne_own hr.units I.kIn J J'.type o rfl ?_
  refine wpAny_call (codeAny_mono (SlX.run_at (us := [.ref a, .ref b]) (ws := [.ref a, .ref b]) G.fnR hr.in1 I.env0.in1 hx I (.cons rfl (.cons rfl .nil)) q) fun r s' z => ?_)
  cases r with
  | error e => exact z
  | ok fl =>
    cases fl with
    | ret v =>
      obtain ⟨z', H', I', rz, c, rfl, qz⟩ := z
      cases (show v = Value.bool c from rz)
      exact ⟨c, rfl, .bl (!c), H', I', rfl, qz⟩
    | next => exact z
    | brk => exact z
    | cont => exact z
/-! ### a property, a classmethod, a class in a variable -/
theorem pe_propP {f : Str} {dvs : List V} {e : Expr} {ta : TE} {pos : Pos} (he : PE X e ta) (c : Cls X.K C) (hp : ∃ p, PropOf X.K C f p g) (G : Prom X.prog X.w X.K X.mg X.base CX k g ps dvs sp) (hr : Room (k + 1) X.A) (hx : Passes CX X.nox E)
    (hab : attributeBase e f X.env (eval e X.env) = eval e X.env := by rfl) : PE X (.Attribute e f pos) (tProp C sp dvs E ta) :=
  let ⟨⟨fd, ds, F, b, v⟩, kp⟩ := G
  let ⟨p, hp⟩ := hp
  pe_prop he c hp F hr b v hx hab
theorem pe_cmethP {o e : Expr} {es : List Expr} {m : Str} {pos apos : Pos} {ta : TE} {t : TA} {pl : Sem Bool} (he : PE X o ta) (c : ∃ p mc, ClX.CRead X.K C mc ∧ ClX.CMet X.K C mc m p g) (G : Prom X.prog X.w X.K X.mg X.base CX k g ps [] sp) (hr : Room k X.A) (hx : Passes CX X E) (ha : PA X (e :: es) t)
    (hst : starEach (e :: es) X.env = (false, eval e X.env) :: starEach es X.env := by rfl) (hpl : (backTo pos (starEach es X.env)).any (·.1) = false := by rfl)
    (ht : eval (.Call (.Attribute o m apos) (e :: es) [] pos) X.env = (do
      let ov ← eval o X.env
      standAt apos.atName
      let (f, first) ← holding [ov] (getMethod ov m pl)
      callWith pos f first (backTo pos (starEach (e :: es) X.env)) (backToKw pos (keywordEach [] X.env))) := by rfl) :
    PE X (.Call (.Attribute o m apos) (e :: es) [] pos) (ClX.tCMeth C sp E ta t) :=
  let ⟨p, mc, r, c⟩ := c
  ClX.pe_cmeth he r c G.fnR hr hx ha hst hpl ht
def tMakeV (C : Addr) (sp : Sp) (dvs : List V) (E : XK) (tf : TE) (t : TA) : TE := fun σ H Q => tf σ H fun v H1 => v = .ref C ∧ tMake C sp dvs E t σ H1 Q
theorem pe_makeV {x : Str} {dvs : List V} {e : Expr} {es : List Expr} {tf : TE} {t : TA} {p pos : Pos} (hf : PE X (.Name x p) tf) (M : Mk X.K C g) (G : Prom X.prog X.w X.K X.mg X.base CX k g ps dvs sp) (hr : Room (k + 1) X.A) (hx : Passes CX X E)
    (ha : PA X (e :: es) t) (he : starEach (e :: es) X.env = (false, eval e X.env) :: starEach es X.env := by rfl) (hpl : (backTo pos (starEach es X.env)).any (·.1) = false := by rfl) :
    PE X (.Call (.Name x p) (e :: es) [] pos) (tMakeV C sp dvs E tf t) := by
  obtain ⟨⟨fd, ds, F, b, v⟩, kp⟩ := G
  refine ⟨fun pins s σ H Q I h => ?_⟩
  refine wpAny_Call_Name_kw (thn (hf.run pins s σ H _ I h) fun u s0 ⟨w, H0, I0, r0, ew, q0⟩ => ?_)
  subst ew
  obtain rfl : u = Value.ref C := r0
  exact PySem.W.callWith_K (h₀ := X.base) I0.ok.mod.kin M.kp (thn (ha.run pos pins s0 σ H0 _ I0 q0) fun us s1 ⟨vs, H1, I1, r, q⟩ => ⟨I1.kIn, run_make M F hr b v hx I1 r q⟩) he hpl
end
/-! ### isinstance of own classes -/
structure InsTy (K : PySem.W.Frag) (C : Addr) : Prop where
  ha : PySem.W.findIn K (.ref C) "__class__" = some (some (.builtin "object.__class__"))
  hn : PySem.W.specialIn K (.builtin "object.__class__") "__get__" = some (some (.builtin "getset_descriptor.__get__"))
  htk : PySem.W.takesIn K (.builtin "object.__class__") = some true
  hm : PySem.W.mroIn K C (.type "object") = some true
def isiTys : List String := ["list", "tuple", "str", "int", "bool", "NoneType", "dict"]
/-- a built-in thing is no instance of the class at C -/
def NoIns (K : PySem.W.Frag) (C : Addr) : Prop := ∀ t ∈ isiTys, PySem.W.kitOne K (.type t) (.ref C) = some false
section
variable {K : PySem.W.Frag} {H : Hp} {Q : VK} {v : V} {a C D dx : Addr} {fs : List (Str × V)} {b : Bool}
theorem r_isiOwn (h : H a = some (.ins C dx fs)) (c : Cls K C) (t : InsTy K C) (e : PySem.W.kitOne K (.ref C) (.ref D) = some b) (q : Q (.bl b) H) : rIsi K [.ref a, .ref D] H Q :=
  ⟨.ref a, .ref D, .ref C, .ref D, b, rfl, .own D, .base (.ins h c t.ha t.hn t.htk t.hm), e, q⟩
theorem r_isiNo {n : String} (t : TyX K H v (.type n)) (hn : n ∈ isiTys) (e : NoIns K D) (q : Q (.bl false) H) : rIsi K [v, .ref D] H Q :=
  ⟨v, .ref D, .type n, .ref D, false, rfl, .own D, t, e n hn, q⟩
end
end OB

namespace OB
open PySem PySem.Spec PyProof.Rows L2
/-! ### where a decorated def's function stands; facts of the head as Bools -/
def recA (K : PySem.W.Frag) (p : Addr) (kind : String) : Addr := match PySem.W.recIn K p kind with
  | some (.ref g :: _) => g
  | _ => 0
def isRec (K : PySem.W.Frag) (p : Addr) (kind : String) : Bool := match PySem.W.recIn K p kind with
  | some (.ref _ :: _) => true
  | _ => false
theorem isRec_ok {K : PySem.W.Frag} {p : Addr} {kind : String} (h : isRec K p kind = true) : ∃ r, PySem.W.recIn K p kind = some (.ref (recA K p kind) :: r) := by
  unfold isRec at h
  unfold recA
  cases e : PySem.W.recIn K p kind with
  | none => rw [e] at h; cases h
  | some l =>
    rw [e] at h
    cases l with
    | nil => cases h
    | cons v r => cases v <;> first | exact ⟨r, rfl⟩ | cases h
def gAd (K : PySem.W.Frag) (C m : Str) (kind : String) : Addr := recA K (He.ma K (He.ga K C) m) kind
def propB (K : PySem.W.Frag) (C f : Str) : Bool := He.eqO (PySem.W.findIn K (.ref (He.ga K C)) f) (some (some (.ref (He.ma K (He.ga K C) f)))) && (He.eqO (PySem.W.specialIn K (.ref (He.ma K (He.ga K C) f)) "__get__") (some (some (.builtin "property.__get__"))) &&
  (decide (PySem.W.takesIn K (.ref (He.ma K (He.ga K C) f)) = some true) && isRec K (He.ma K (He.ga K C) f) "property"))
theorem propB_ok {K : PySem.W.Frag} {C f : Str} (h : propB K C f = true) : ∃ p, PropOf K (He.ga K C) f p (gAd K C f "property") := by
  obtain ⟨h1, h⟩ := He.ba h
  obtain ⟨h2, h⟩ := He.ba h
  obtain ⟨h3, h4⟩ := He.ba h
  exact ⟨_, He.eqO_ok h1, He.eqO_ok h2, of_decide_eq_true h3, isRec_ok h4⟩
def cmfB (K : PySem.W.Frag) (C p : Addr) (m : Str) : Bool := match PySem.W.findCls K (.ref C) (.type "type") m with
  | some (.get g a o t) => decide (g = .builtin "classmethod.__get__" ∧ a = .ref p ∧ o = .none ∧ t = .ref C)
  | _ => false
theorem cmfB_ok {K : PySem.W.Frag} {C p : Addr} {m : Str} (h : cmfB K C p m = true) : PySem.W.findCls K (.ref C) (.type "type") m = some (.get (.builtin "classmethod.__get__") (.ref p) .none (.ref C)) := by
  unfold cmfB at h
  cases e : PySem.W.findCls K (.ref C) (.type "type") m with
  | none => rw [e] at h; cases h
  | some r =>
    rw [e] at h
    cases r with
    | val v => cases h
    | get g a o t =>
      obtain ⟨h1, h2, h3, h4⟩ := of_decide_eq_true (show decide (g = .builtin "classmethod.__get__" ∧ a = .ref p ∧ o = .none ∧ t = .ref C) = true from h)
      rw [h1, h2, h3, h4]
def cmB (K : PySem.W.Frag) (C m : Str) : Bool := PySem.W.readsIn K (He.ga K C) (.type "type") && (He.eqO (PySem.W.specialIn K (.ref (He.ga K C)) "__getattribute__") (some (some (.builtin "type.__getattribute__"))) &&
  (cmfB K (He.ga K C) (He.ma K (He.ga K C) m) m && (isRec K (He.ma K (He.ga K C) m) "classmethod" && PySem.W.fnIn K (gAd K C m "classmethod"))))
theorem cmB_ok {K : PySem.W.Frag} {C m : Str} (h : cmB K C m = true) : ∃ p mc, ClX.CRead K (He.ga K C) mc ∧ ClX.CMet K (He.ga K C) mc m p (gAd K C m "classmethod") := by
  obtain ⟨h1, h⟩ := He.ba h
  obtain ⟨h2, h⟩ := He.ba h
  obtain ⟨h3, h⟩ := He.ba h
  obtain ⟨h4, h5⟩ := He.ba h
  exact ⟨_, _, ⟨h1, He.eqO_ok h2⟩, cmfB_ok h3, isRec_ok h4, h5⟩
def ownBB (K : PySem.W.Frag) (C : Str) (nm : String) (m : Str) : Bool := PySem.W.selfFirst K (He.ga K C) && (decide (PySem.dunder nm = m) && (He.eqO (PySem.W.findIn K (.ref (He.ga K C)) m) (some (some (.ref (He.ma K (He.ga K C) m)))) && PySem.W.isFn K (.ref (He.ma K (He.ga K C) m))))
theorem ownBB_ok {K : PySem.W.Frag} {C m : Str} {nm : String} (h : ownBB K C nm m = true) : OwnB K (He.ga K C) nm (He.ma K (He.ga K C) m) := by
  obtain ⟨h1, h⟩ := He.ba h
  obtain ⟨h2, h⟩ := He.ba h
  obtain ⟨h3, h4⟩ := He.ba h
  have h2 := of_decide_eq_true h2
  subst h2
  exact ⟨h1, He.eqO_ok h3, h4⟩
def ownIB (K : PySem.W.Frag) (C : Str) (nm : String) (m : Str) : Bool := ownBB K C nm m && (He.eqO (PySem.W.findIn K (.ref (He.ga K C)) (PySem.dunderR nm)) (some none) && ((PySem.W.findIn K (.type "int") (PySem.dunder nm)).isSome && ((PySem.W.findIn K (.type "int") (PySem.dunderR nm)).isSome && decide (PySem.W.subIn K (.type "int") (.ref (He.ga K C)) = some false))))
theorem ownIB_ok {K : PySem.W.Frag} {C m : Str} {nm : String} (h : ownIB K C nm m = true) : OwnI K (He.ga K C) nm (He.ma K (He.ga K C) m) := by
  obtain ⟨h1, h⟩ := He.ba h
  obtain ⟨h2, h⟩ := He.ba h
  obtain ⟨h3, h⟩ := He.ba h
  obtain ⟨h4, h5⟩ := He.ba h
  exact ⟨ownBB_ok h1, He.eqO_ok h2, Option.isSome_iff_exists.mp h3, Option.isSome_iff_exists.mp h4, of_decide_eq_true h5⟩
def ownEB (K : PySem.W.Frag) (C : Str) : Bool := PySem.W.notFirst K (He.ga K C) (.ref (He.ga K C)) && (He.eqO (PySem.W.findIn K (.ref (He.ga K C)) "__eq__") (some (some (.ref (He.ma K (He.ga K C) "__eq__")))) && (PySem.W.isFn K (.ref (He.ma K (He.ga K C) "__eq__")) &&
  (He.eqO (PySem.W.findIn K (.ref (He.ga K C)) "__ne__") (some (some (.builtin "object.__ne__"))) && decide (PySem.W.mroIn K (He.ga K C) (.type "object") = some true))))
theorem ownEB_ok {K : PySem.W.Frag} {C : Str} (h : ownEB K C = true) : OwnE K (He.ga K C) (He.ma K (He.ga K C) "__eq__") := by
  obtain ⟨h1, h⟩ := He.ba h
  obtain ⟨h2, h⟩ := He.ba h
  obtain ⟨h3, h⟩ := He.ba h
  obtain ⟨h4, h5⟩ := He.ba h
  exact ⟨h1, He.eqO_ok h2, h3, He.eqO_ok h4, of_decide_eq_true h5⟩
def insB (K : PySem.W.Frag) (C : Str) : Bool := He.eqO (PySem.W.findIn K (.ref (He.ga K C)) "__class__") (some (some (.builtin "object.__class__"))) && (He.eqO (PySem.W.specialIn K (.builtin "object.__class__") "__get__") (some (some (.builtin "getset_descriptor.__get__"))) &&
  (decide (PySem.W.takesIn K (.builtin "object.__class__") = some true) && decide (PySem.W.mroIn K (He.ga K C) (.type "object") = some true)))
theorem insB_ok {K : PySem.W.Frag} {C : Str} (h : insB K C = true) : InsTy K (He.ga K C) := by
  obtain ⟨h1, h⟩ := He.ba h
  obtain ⟨h2, h⟩ := He.ba h
  obtain ⟨h3, h4⟩ := He.ba h
  exact ⟨He.eqO_ok h1, He.eqO_ok h2, of_decide_eq_true h3, of_decide_eq_true h4⟩
def noInsB (K : PySem.W.Frag) (C : Str) : Bool := isiTys.all fun t => decide (PySem.W.kitOne K (.type t) (.ref (He.ga K C)) = some false)
theorem noInsB_ok {K : PySem.W.Frag} {C : Str} (h : noInsB K C = true) : NoIns K (He.ga K C) := fun t ht => of_decide_eq_true (List.all_eq_true.mp h t ht)
def kitB2 (K : PySem.W.Frag) (C D : Str) (b : Bool) : Bool := decide (PySem.W.kitOne K (.ref (He.ga K C)) (.ref (He.ga K D)) = some b)
theorem kitB2_ok {K : PySem.W.Frag} {C D : Str} {b : Bool} (h : kitB2 K C D b = true) : PySem.W.kitOne K (.ref (He.ga K C)) (.ref (He.ga K D)) = some b := of_decide_eq_true h
/-! ### defs at any address -/
structure DefO where
  adr : PySem.W.Frag → Addr
  name : Str
  qual : Str
  params : Arguments
  body : List Stmt
  scope : Scope
  dfl : List V := []
  kwd : List (Str × V) := []
abbrev FnO : Type := Option (Str × Str × Arguments × FuncBody × Scope × Addr × List (Str × Addr) × Addr)
def fnO (K : PySem.W.Frag) (a : Addr) : FnO := match K.lookup a with
  | some ⟨_, _, .func g, _⟩ => some (g.name, g.qualname, g.params, g.body, g.scope, g.globals, g.closure, g.builtins)
  | _ => none
def DefO.val (d : DefO) : FnO := some (d.name, d.qual, d.params, .stmts d.body, d.scope, mainGlobals, [], builtinsNs)
/-- a tuple of the written part has these values -/
def valsO (K : PySem.W.Frag) (T : Addr) (vs : List V) : Bool := match K.lookup T with
  | some ⟨_, _, .seq its _, _⟩ => He.relAll vs its.toList
  | _ => false
theorem valsO_ok {K : PySem.W.Frag} {T : Addr} {vs : List V} (h : valsO K T vs = true) : ∃ (o : Obj) (its : List Value) (n : Nat), K.lookup T = some o ∧ o.data = .seq its.toArray n ∧ Vals vs its := by
  unfold valsO at h
  cases e : K.lookup T with
  | none => rw [e] at h; cases h
  | some o =>
    rw [e] at h
    obtain ⟨c, d, dt, sl⟩ := o
    cases dt with
    | seq its n => exact ⟨_, its.toList, n, rfl, by simp, He.relAll_ok (show He.relAll vs its.toList = true from h)⟩
    | _ => cases h
def dflO (K : PySem.W.Frag) (dV : Value) : List V → Bool
  | [] => decide (dV = .none)
  | v :: vs => (match dV with
    | .ref T => valsO K T (v :: vs)
    | _ => false)
theorem dflO_ok {K : PySem.W.Frag} {dV : Value} : ∀ {dvs : List V}, dflO K dV dvs = true → DflV K dV dvs
  | [], h => .inl ⟨rfl, of_decide_eq_true h⟩
  | v :: vs, h => by
    cases dV with
    | ref T =>
      obtain ⟨o, its, n, h1, h2, h3⟩ := valsO_ok (show valsO K T (v :: vs) = true from h)
      exact .inr ⟨List.cons_ne_nil _ _, T, o, its, n, rfl, h1, h2, h3⟩
    | _ => cases h
def fnB (K : PySem.W.Frag) (a : Addr) (q : Str) (dvs : List V) (kws : List (Str × V)) : Bool := match K.lookup a with
  | some ⟨_, _, .func g, _⟩ => PySem.W.codeIn K g.code q && (dflO K g.defaults dvs && He.kwdB K g.kwdefaults kws)
  | _ => false
def DefO.ok (K : PySem.W.Frag) (d : DefO) : Bool := PySem.W.keepIn K (.ref (d.adr K)) && fnB K (d.adr K) d.qual d.dfl d.kwd
theorem DefO.funD {K : PySem.W.Frag} {d : DefO} (e : fnO K (d.adr K) = d.val) (c : d.ok K = true) : ∃ fd, FunD K d.name d.qual d.params d.body d.scope d.dfl d.kwd (d.adr K) fd := by
  obtain ⟨kp, c⟩ := He.ba c
  unfold fnO at e
  unfold fnB at c
  cases q : K.lookup (d.adr K) with
  | none => rw [q] at c; cases c
  | some o =>
    obtain ⟨oc, od, dt, osl⟩ := o
    rw [q] at c e
    cases dt with
    | func g =>
      obtain ⟨c1, c⟩ := He.ba (show (PySem.W.codeIn K g.code d.qual && (dflO K g.defaults d.dfl && He.kwdB K g.kwdefaults d.kwd)) = true from c)
      obtain ⟨c2, c3⟩ := He.ba c
      obtain ⟨n1, n2, n3, n4, n5, n6, n7, n8, n9, n10, n11, n12, n13, n14, n15⟩ := g
      have e := Option.some.inj (show (some (n1, n2, n3, n4, n5, n6, n7, n15) : FnO) = some (d.name, d.qual, d.params, .stmts d.body, d.scope, mainGlobals, [], builtinsNs) from e)
      simp only [Prod.mk.injEq] at e
      obtain ⟨e1, e2, e3, e4, e5, e6, e7, e8⟩ := e
      subst e1 e2 e3 e4 e5 e6 e7 e8
      exact ⟨_, ⟨oc, od, n8, n9, n10, n11, n12, n13, n14, osl, rfl, q, c1, dflO_ok c2, He.kwdB_ok c3⟩, kp⟩
    | _ => cases c
/-! ### what is looked at: each step from what the one before has found -/
def refsX (o : Obj) : List Addr := (match o.dict with
  | some d => [d]
  | none => []) ++ match o.data with
  | .seq its _ => its.toList.flatMap He.refV
  | .dict es _ => es.toList.flatMap fun e => He.refV e.val
  | .func fd => He.refV fd.code ++ (He.refV fd.defaults ++ He.refV fd.kwdefaults)
  | .cls cd => [cd.ns]
  | .fields vs => vs.toList.flatMap He.refV
  | _ => []
def nextX (g : Addr → Option Obj) (as : List Addr) : List Addr := as.flatMap fun a => match g a with
  | some o => refsX o
  | none => []
def asX (g : Addr → Option Obj) : Nat → List Addr → List Addr
  | 0, as => as
  | n + 1, as => as ++ asX g n (nextX g as)
/-! ### the Hook -/
abbrev AlO : Type := Bool × (List FnO × List (Option (List (Option (Str × Int)))))
def obsO (bs : List (PySem.W.Frag → Bool)) (fn : List DefO) (ts : List He.Tab) (K : PySem.W.Frag) : AlO := ((bs.all fun b => b K) && fn.all fun d => d.ok K, fn.map (fun d => fnO K (d.adr K)), ts.map fun t => He.dicW K (t.1 K))
def valO (fn : List DefO) (ts : List He.Tab) (w : World) : AlO := (true, fn.map DefO.val, ts.map fun t => some (He.keysIn w.params t.2))
def SaysO (bs : List (PySem.W.Frag → Bool)) (fn : List DefO) (ts : List He.Tab) (w : World) (K : PySem.W.Frag) : Prop := obsO bs fn ts K = valO fn ts w
def obsOG (n : Nat) (bs : List (PySem.W.Frag → Bool)) (fn : List DefO) (ts : List He.Tab) (g : Addr → Option Obj) : AlO := obsO bs fn ts (He.frG g (cStatics :: asX g n [mainGlobals]))
def hookO (n : Nat) (bs : List (PySem.W.Frag → Bool)) (fn : List DefO) (ts : List He.Tab) : PySem.W.Hook where
  α := AlO
  obs := fun s => obsOG n bs fn ts s.heap.get?
  val := fun w => valO fn ts w
  says := fun w h => ∃ K : PySem.W.Frag, K.In h ∧ SaysO bs fn ts w K
  of := fun _ _ e => ⟨_, He.frG_in, e⟩
  keeps := fun _ _ _ ⟨K, hK, c⟩ k => ⟨K, PySem.W.Frag.In.keeps hK k, c⟩
theorem obsOG_eq {n : Nat} {bs : List (PySem.W.Frag → Bool)} {fn : List DefO} {ts : List He.Tab} {g : Addr → Option Obj} {s : Shared} (h : ∀ a, g a = s.heap.get? a) : obsOG n bs fn ts g = (hookO n bs fn ts).obs s := by
  have e : g = s.heap.get? := funext h
  rw [e]
  rfl
section
variable {bs : List (PySem.W.Frag → Bool)} {fn : List DefO} {ts : List He.Tab} {w : World} {K : PySem.W.Frag}
theorem SaysO.b (c : SaysO bs fn ts w K) (i : Nat) {b : PySem.W.Frag → Bool} (h : bs[i]? = some b := by rfl) : b K = true := by
  have c1 := (He.ba (show ((bs.all fun b => b K) && fn.all fun d => d.ok K) = true from congrArg (fun z : AlO => z.1) c)).1
  exact List.all_eq_true.mp c1 b (List.mem_of_getElem? h)
theorem SaysO.d (c : SaysO bs fn ts w K) (i : Nat) {d : DefO} (h : fn[i]? = some d := by rfl) : ∃ fd, FunD K d.name d.qual d.params d.body d.scope d.dfl d.kwd (d.adr K) fd := by
  have c2 := (He.ba (show ((bs.all fun b => b K) && fn.all fun d => d.ok K) = true from congrArg (fun z : AlO => z.1) c)).2
  have e : fn.map (fun d => fnO K (d.adr K)) = fn.map DefO.val := congrArg (fun z : AlO => z.2.1) c
  have e2 : (fn.map fun d => fnO K (d.adr K))[i]? = (fn.map DefO.val)[i]? := by rw [e]
  rw [List.getElem?_map, List.getElem?_map, h] at e2
  exact DefO.funD (Option.some.inj e2) (List.all_eq_true.mp c2 d (List.mem_of_getElem? h))
theorem SaysO.t (c : SaysO bs fn ts w K) (i : Nat) {t : He.Tab} (h : ts[i]? = some t := by rfl) : ∃ es n, KDict K w (t.1 K) es n := by
  have e : ts.map (fun t => He.dicW K (t.1 K)) = ts.map fun t => some (He.keysIn w.params t.2) := congrArg (fun z : AlO => z.2.2) c
  have e2 : (ts.map fun t => He.dicW K (t.1 K))[i]? = (ts.map fun t => some (He.keysIn w.params t.2))[i]? := by rw [e]
  rw [List.getElem?_map, List.getElem?_map, h] at e2
  exact He.dicW_ok (Option.some.inj e2)
end
end OB

namespace OB
open PySem PySem.Spec PyProof.Rows L2
def topS (i : Nat) : Stmt := PySem.Challenge.pw_ownbranch_k66_breaks_far_on.main.body.getD i (.Pass ⟨0, 0, 0, 0⟩)
abbrev a_is_integer (K : PySem.W.Frag) : Addr := He.fAd K ("is_integer", none)
abbrev a_is_item (K : PySem.W.Frag) : Addr := He.fAd K ("is_item", none)
abbrev a_is_text (K : PySem.W.Frag) : Addr := He.fAd K ("is_text", none)
abbrev a_is_selection (K : PySem.W.Frag) : Addr := He.fAd K ("is_selection", none)
abbrev a_is_edit (K : PySem.W.Frag) : Addr := He.fAd K ("is_edit", none)
abbrev a_count_words (K : PySem.W.Frag) : Addr := He.fAd K ("count_words", none)
abbrev a_may_follow (K : PySem.W.Frag) : Addr := He.fAd K ("may_follow", none)
abbrev a_are_edits (K : PySem.W.Frag) : Addr := He.fAd K ("are_edits", none)
abbrev a_is_rule (K : PySem.W.Frag) : Addr := He.fAd K ("is_rule", none)
abbrev a_is_loop (K : PySem.W.Frag) : Addr := He.fAd K ("is_loop", none)
abbrev a_is_program (K : PySem.W.Frag) : Addr := He.fAd K ("is_program", none)
abbrev a_check_program (K : PySem.W.Frag) : Addr := He.fAd K ("check_program", none)
abbrev a_fitting_rule (K : PySem.W.Frag) : Addr := He.fAd K ("fitting_rule", none)
abbrev a_apply_edit (K : PySem.W.Frag) : Addr := He.fAd K ("apply_edit", none)
abbrev a_Pass_init (K : PySem.W.Frag) : Addr := He.fAd K ("Pass", some "__init__")
abbrev a_Pass_carry_out (K : PySem.W.Frag) : Addr := He.fAd K ("Pass", some "carry_out")
abbrev a_is_pair (K : PySem.W.Frag) : Addr := He.fAd K ("is_pair", none)
abbrev a_root (K : PySem.W.Frag) : Addr := He.fAd K ("root", none)
abbrev a_tidy (K : PySem.W.Frag) : Addr := He.fAd K ("tidy", none)
abbrev a_stretch (K : PySem.W.Frag) : Addr := He.fAd K ("stretch", none)
abbrev a_cut (K : PySem.W.Frag) : Addr := He.fAd K ("cut", none)
abbrev a_same_items (K : PySem.W.Frag) : Addr := He.fAd K ("same_items", none)
abbrev a_Runs_init (K : PySem.W.Frag) : Addr := He.fAd K ("Runs", some "__init__")
abbrev a_Repeats_init (K : PySem.W.Frag) : Addr := He.fAd K ("Repeats", some "__init__")
abbrev a_Repeats_once (K : PySem.W.Frag) : Addr := gAd K "Repeats" "once" "classmethod"
abbrev a_Repeats_length (K : PySem.W.Frag) : Addr := gAd K "Repeats" "length" "property"
abbrev a_Repeats_iter (K : PySem.W.Frag) : Addr := He.fAd K ("Repeats", some "__iter__")
abbrev a_Repeats_getitem (K : PySem.W.Frag) : Addr := He.fAd K ("Repeats", some "__getitem__")
abbrev a_Repeats_part (K : PySem.W.Frag) : Addr := He.fAd K ("Repeats", some "part")
abbrev a_Repeats_to_text (K : PySem.W.Frag) : Addr := He.fAd K ("Repeats", some "to_text")
abbrev a_Repeats_contains (K : PySem.W.Frag) : Addr := He.fAd K ("Repeats", some "__contains__")
abbrev a_Repeats_add (K : PySem.W.Frag) : Addr := He.fAd K ("Repeats", some "__add__")
abbrev a_Repeats_mul (K : PySem.W.Frag) : Addr := He.fAd K ("Repeats", some "__mul__")
abbrev a_Repeats_eq (K : PySem.W.Frag) : Addr := He.fAd K ("Repeats", some "__eq__")
abbrev a_Repeats_bool (K : PySem.W.Frag) : Addr := He.fAd K ("Repeats", some "__bool__")
abbrev a_Repeats_repr (K : PySem.W.Frag) : Addr := He.fAd K ("Repeats", some "__repr__")
abbrev a_Result_init (K : PySem.W.Frag) : Addr := He.fAd K ("Result", some "__init__")
abbrev a_Result_text (K : PySem.W.Frag) : Addr := gAd K "Result" "text" "property"
abbrev a_Result_passes (K : PySem.W.Frag) : Addr := gAd K "Result" "passes" "property"
abbrev a_Result_ways (K : PySem.W.Frag) : Addr := gAd K "Result" "ways" "property"
abbrev a_Result_eq (K : PySem.W.Frag) : Addr := He.fAd K ("Result", some "__eq__")
abbrev a_Result_repr (K : PySem.W.Frag) : Addr := He.fAd K ("Result", some "__repr__")
abbrev a_Stay_init (K : PySem.W.Frag) : Addr := He.fAd K ("Stay", some "__init__")
abbrev a_Stay_key (K : PySem.W.Frag) : Addr := He.fAd K ("Stay", some "key")
abbrev a_Track_init (K : PySem.W.Frag) : Addr := He.fAd K ("Track", some "__init__")
abbrev a_Track_write (K : PySem.W.Frag) : Addr := He.fAd K ("Track", some "write")
abbrev a_Track_write_round (K : PySem.W.Frag) : Addr := He.fAd K ("Track", some "write_round")
abbrev a_one_pass (K : PySem.W.Frag) : Addr := He.fAd K ("one_pass", none)
abbrev a_make_passes (K : PySem.W.Frag) : Addr := He.fAd K ("make_passes", none)
abbrev a_joined_parts (K : PySem.W.Frag) : Addr := He.fAd K ("joined_parts", none)
abbrev a_Feeder_init (K : PySem.W.Frag) : Addr := He.fAd K ("Feeder", some "__init__")
abbrev a_Feeder_feed (K : PySem.W.Frag) : Addr := He.fAd K ("Feeder", some "feed")
abbrev a_Feeder_feed_text (K : PySem.W.Frag) : Addr := He.fAd K ("Feeder", some "feed_text")
abbrev a_Feeder_feed_row (K : PySem.W.Frag) : Addr := He.fAd K ("Feeder", some "feed_row")
abbrev a_Feeder_finish (K : PySem.W.Frag) : Addr := He.fAd K ("Feeder", some "finish")
abbrev a_run_loop_far (K : PySem.W.Frag) : Addr := He.fAd K ("run_loop_far", none)
abbrev a_run_far (K : PySem.W.Frag) : Addr := He.fAd K ("run_far", none)
abbrev a__law_bag (K : PySem.W.Frag) : Addr := He.fAd K ("_law_bag", none)
abbrev a__law_take (K : PySem.W.Frag) : Addr := He.fAd K ("_law_take", none)
abbrev a__law_text (K : PySem.W.Frag) : Addr := He.fAd K ("_law_text", none)
abbrev a__law_pairs (K : PySem.W.Frag) : Addr := He.fAd K ("_law_pairs", none)
abbrev a__law_plain (K : PySem.W.Frag) : Addr := He.fAd K ("_law_plain", none)
abbrev a__law_loop (K : PySem.W.Frag) : Addr := He.fAd K ("_law_loop", none)
abbrev a_law (K : PySem.W.Frag) : Addr := He.fAd K ("law", none)
abbrev s_is_integer : Stmt := topS 18
abbrev n_is_integer : List Str := ["thing", "least", "most"]
abbrev p_is_integer : List Str := ["thing", "least", "most"]
theorem sc_is_integer : FnScope n_is_integer p_is_integer (defScope s_is_integer) := ⟨rfl, rfl, rfl, by decide +kernel, rfl, by decide +kernel, by decide +kernel⟩
abbrev D_is_integer (K : PySem.W.Frag) (fd : FuncData) : Prop := FunD K "is_integer" "is_integer" (defArgs s_is_integer) (defBody s_is_integer) (defScope s_is_integer) [] [] (a_is_integer K) fd
theorem bn_is_integer {K : PySem.W.Frag} {fd : FuncData} (F : D_is_integer K fd) : Binds K fd p_is_integer [] := F.bindsN fun _ _ _ _ _ _ us hl => match us, hl with | [_, _, _], _ => rfl
abbrev s_is_item : Stmt := topS 19
abbrev n_is_item : List Str := ["thing"]
abbrev p_is_item : List Str := ["thing"]
theorem sc_is_item : FnScope n_is_item p_is_item (defScope s_is_item) := ⟨rfl, rfl, rfl, by decide +kernel, rfl, by decide +kernel, by decide +kernel⟩
abbrev D_is_item (K : PySem.W.Frag) (fd : FuncData) : Prop := FunD K "is_item" "is_item" (defArgs s_is_item) (defBody s_is_item) (defScope s_is_item) [] [] (a_is_item K) fd
theorem bn_is_item {K : PySem.W.Frag} {fd : FuncData} (F : D_is_item K fd) : Binds K fd p_is_item [] := F.bindsN fun _ _ _ _ _ _ us hl => match us, hl with | [_], _ => rfl
abbrev s_is_text : Stmt := topS 20
abbrev n_is_text : List Str := ["thing", "letter"]
abbrev p_is_text : List Str := ["thing"]
theorem sc_is_text : FnScope n_is_text p_is_text (defScope s_is_text) := ⟨rfl, rfl, rfl, by decide +kernel, rfl, by decide +kernel, by decide +kernel⟩
abbrev D_is_text (K : PySem.W.Frag) (fd : FuncData) : Prop := FunD K "is_text" "is_text" (defArgs s_is_text) (defBody s_is_text) (defScope s_is_text) [] [] (a_is_text K) fd
theorem bn_is_text {K : PySem.W.Frag} {fd : FuncData} (F : D_is_text K fd) : Binds K fd p_is_text [] := F.bindsN fun _ _ _ _ _ _ us hl => match us, hl with | [_], _ => rfl
abbrev s_is_selection : Stmt := topS 21
abbrev n_is_selection : List Str := ["thing", "allowed", "one"]
abbrev p_is_selection : List Str := ["thing", "allowed"]
theorem sc_is_selection : FnScope n_is_selection p_is_selection (defScope s_is_selection) := ⟨rfl, rfl, rfl, by decide +kernel, rfl, by decide +kernel, by decide +kernel⟩
abbrev D_is_selection (K : PySem.W.Frag) (fd : FuncData) : Prop := FunD K "is_selection" "is_selection" (defArgs s_is_selection) (defBody s_is_selection) (defScope s_is_selection) [] [] (a_is_selection K) fd
theorem bn_is_selection {K : PySem.W.Frag} {fd : FuncData} (F : D_is_selection K fd) : Binds K fd p_is_selection [] := F.bindsN fun _ _ _ _ _ _ us hl => match us, hl with | [_, _], _ => rfl
abbrev s_is_edit : Stmt := topS 22
abbrev n_is_edit : List Str := ["thing", "kind"]
abbrev p_is_edit : List Str := ["thing"]
theorem sc_is_edit : FnScope n_is_edit p_is_edit (defScope s_is_edit) := ⟨rfl, rfl, rfl, by decide +kernel, rfl, by decide +kernel, by decide +kernel⟩
abbrev D_is_edit (K : PySem.W.Frag) (fd : FuncData) : Prop := FunD K "is_edit" "is_edit" (defArgs s_is_edit) (defBody s_is_edit) (defScope s_is_edit) [] [] (a_is_edit K) fd
theorem bn_is_edit {K : PySem.W.Frag} {fd : FuncData} (F : D_is_edit K fd) : Binds K fd p_is_edit [] := F.bindsN fun _ _ _ _ _ _ us hl => match us, hl with | [_], _ => rfl
abbrev s_count_words : Stmt := topS 23
abbrev n_count_words : List Str := ["edits", "words", "edit"]
abbrev p_count_words : List Str := ["edits", "words"]
theorem sc_count_words : FnScope n_count_words p_count_words (defScope s_count_words) := ⟨rfl, rfl, rfl, by decide +kernel, rfl, by decide +kernel, by decide +kernel⟩
abbrev D_count_words (K : PySem.W.Frag) (fd : FuncData) : Prop := FunD K "count_words" "count_words" (defArgs s_count_words) (defBody s_count_words) (defScope s_count_words) [] [] (a_count_words K) fd
abbrev s_may_follow : Stmt := topS 24
abbrev n_may_follow : List Str := ["edits", "edit", "together"]
abbrev p_may_follow : List Str := ["edits", "edit"]
theorem sc_may_follow : FnScope n_may_follow p_may_follow (defScope s_may_follow) := ⟨rfl, rfl, rfl, by decide +kernel, rfl, by decide +kernel, by decide +kernel⟩
abbrev D_may_follow (K : PySem.W.Frag) (fd : FuncData) : Prop := FunD K "may_follow" "may_follow" (defArgs s_may_follow) (defBody s_may_follow) (defScope s_may_follow) [] [] (a_may_follow K) fd
theorem bn_may_follow {K : PySem.W.Frag} {fd : FuncData} (F : D_may_follow K fd) : Binds K fd p_may_follow [] := F.bindsN fun _ _ _ _ _ _ us hl => match us, hl with | [_, _], _ => rfl
abbrev s_are_edits : Stmt := topS 25
abbrev n_are_edits : List Str := ["thing", "place", "edit"]
abbrev p_are_edits : List Str := ["thing"]
theorem sc_are_edits : FnScope n_are_edits p_are_edits (defScope s_are_edits) := ⟨rfl, rfl, rfl, by decide +kernel, rfl, by decide +kernel, by decide +kernel⟩
abbrev D_are_edits (K : PySem.W.Frag) (fd : FuncData) : Prop := FunD K "are_edits" "are_edits" (defArgs s_are_edits) (defBody s_are_edits) (defScope s_are_edits) [] [] (a_are_edits K) fd
theorem bn_are_edits {K : PySem.W.Frag} {fd : FuncData} (F : D_are_edits K fd) : Binds K fd p_are_edits [] := F.bindsN fun _ _ _ _ _ _ us hl => match us, hl with | [_], _ => rfl
abbrev s_is_rule : Stmt := topS 26
abbrev n_is_rule : List Str := ["thing", "mark", "items", "following", "edits"]
abbrev p_is_rule : List Str := ["thing"]
theorem sc_is_rule : FnScope n_is_rule p_is_rule (defScope s_is_rule) := ⟨rfl, rfl, rfl, by decide +kernel, rfl, by decide +kernel, by decide +kernel⟩
abbrev D_is_rule (K : PySem.W.Frag) (fd : FuncData) : Prop := FunD K "is_rule" "is_rule" (defArgs s_is_rule) (defBody s_is_rule) (defScope s_is_rule) [] [] (a_is_rule K) fd
theorem bn_is_rule {K : PySem.W.Frag} {fd : FuncData} (F : D_is_rule K fd) : Binds K fd p_is_rule [] := F.bindsN fun _ _ _ _ _ _ us hl => match us, hl with | [_], _ => rfl
abbrev s_is_loop : Stmt := topS 27
abbrev n_is_loop : List Str := ["thing", "rules", "ends", "rule", "end"]
abbrev p_is_loop : List Str := ["thing"]
theorem sc_is_loop : FnScope n_is_loop p_is_loop (defScope s_is_loop) := ⟨rfl, rfl, rfl, by decide +kernel, rfl, by decide +kernel, by decide +kernel⟩
abbrev D_is_loop (K : PySem.W.Frag) (fd : FuncData) : Prop := FunD K "is_loop" "is_loop" (defArgs s_is_loop) (defBody s_is_loop) (defScope s_is_loop) [] [] (a_is_loop K) fd
theorem bn_is_loop {K : PySem.W.Frag} {fd : FuncData} (F : D_is_loop K fd) : Binds K fd p_is_loop [] := F.bindsN fun _ _ _ _ _ _ us hl => match us, hl with | [_], _ => rfl
abbrev s_is_program : Stmt := topS 28
abbrev n_is_program : List Str := ["thing", "loop"]
abbrev p_is_program : List Str := ["thing"]
theorem sc_is_program : FnScope n_is_program p_is_program (defScope s_is_program) := ⟨rfl, rfl, rfl, by decide +kernel, rfl, by decide +kernel, by decide +kernel⟩
abbrev D_is_program (K : PySem.W.Frag) (fd : FuncData) : Prop := FunD K "is_program" "is_program" (defArgs s_is_program) (defBody s_is_program) (defScope s_is_program) [] [] (a_is_program K) fd
theorem bn_is_program {K : PySem.W.Frag} {fd : FuncData} (F : D_is_program K fd) : Binds K fd p_is_program [] := F.bindsN fun _ _ _ _ _ _ us hl => match us, hl with | [_], _ => rfl
abbrev s_check_program : Stmt := topS 29
abbrev n_check_program : List Str := ["thing"]
abbrev p_check_program : List Str := ["thing"]
theorem sc_check_program : FnScope n_check_program p_check_program (defScope s_check_program) := ⟨rfl, rfl, rfl, by decide +kernel, rfl, by decide +kernel, by decide +kernel⟩
abbrev D_check_program (K : PySem.W.Frag) (fd : FuncData) : Prop := FunD K "check_program" "check_program" (defArgs s_check_program) (defBody s_check_program) (defScope s_check_program) [] [] (a_check_program K) fd
theorem bn_check_program {K : PySem.W.Frag} {fd : FuncData} (F : D_check_program K fd) : Binds K fd p_check_program [] := F.bindsN fun _ _ _ _ _ _ us hl => match us, hl with | [_], _ => rfl
abbrev s_fitting_rule : Stmt := topS 30
abbrev n_fitting_rule : List Str := ["rules", "mark", "item", "following", "place", "wanted", "items", "next_items", "edits"]
abbrev p_fitting_rule : List Str := ["rules", "mark", "item", "following"]
theorem sc_fitting_rule : FnScope n_fitting_rule p_fitting_rule (defScope s_fitting_rule) := ⟨rfl, rfl, rfl, by decide +kernel, rfl, by decide +kernel, by decide +kernel⟩
abbrev D_fitting_rule (K : PySem.W.Frag) (fd : FuncData) : Prop := FunD K "fitting_rule" "fitting_rule" (defArgs s_fitting_rule) (defBody s_fitting_rule) (defScope s_fitting_rule) [] [] (a_fitting_rule K) fd
theorem bn_fitting_rule {K : PySem.W.Frag} {fd : FuncData} (F : D_fitting_rule K fd) : Binds K fd p_fitting_rule [] := F.bindsN fun _ _ _ _ _ _ us hl => match us, hl with | [_, _, _, _], _ => rfl
abbrev s_apply_edit : Stmt := topS 31
abbrev n_apply_edit : List Str := ["edit", "items", "index", "word", "rest"]
abbrev p_apply_edit : List Str := ["edit", "items", "index"]
theorem sc_apply_edit : FnScope n_apply_edit p_apply_edit (defScope s_apply_edit) := ⟨rfl, rfl, rfl, by decide +kernel, rfl, by decide +kernel, by decide +kernel⟩
abbrev D_apply_edit (K : PySem.W.Frag) (fd : FuncData) : Prop := FunD K "apply_edit" "apply_edit" (defArgs s_apply_edit) (defBody s_apply_edit) (defScope s_apply_edit) [] [] (a_apply_edit K) fd
theorem bn_apply_edit {K : PySem.W.Frag} {fd : FuncData} (F : D_apply_edit K fd) : Binds K fd p_apply_edit [] := F.bindsN fun _ _ _ _ _ _ us hl => match us, hl with | [_, _, _], _ => rfl
abbrev s_Pass_init : Stmt := inClass (topS 32) 0
abbrev n_Pass_init : List Str := ["self", "loop", "items", "index", "mark", "rules", "ends", "following"]
abbrev p_Pass_init : List Str := ["self", "loop", "items", "index", "mark"]
theorem sc_Pass_init : FnScope n_Pass_init p_Pass_init (defScope s_Pass_init) := ⟨rfl, rfl, rfl, by decide +kernel, rfl, by decide +kernel, by decide +kernel⟩
abbrev D_Pass_init (K : PySem.W.Frag) (fd : FuncData) : Prop := FunD K "__init__" "Pass.__init__" (defArgs s_Pass_init) (defBody s_Pass_init) (defScope s_Pass_init) [] [] (a_Pass_init K) fd
theorem bn_Pass_init {K : PySem.W.Frag} {fd : FuncData} (F : D_Pass_init K fd) : Binds K fd p_Pass_init [] := F.bindsN fun _ _ _ _ _ _ us hl => match us, hl with | [_, _, _, _, _], _ => rfl
abbrev s_Pass_carry_out : Stmt := inClass (topS 32) 1
abbrev n_Pass_carry_out : List Str := ["self", "edits", "items", "index", "edit"]
abbrev p_Pass_carry_out : List Str := ["self", "edits", "items", "index"]
theorem sc_Pass_carry_out : FnScope n_Pass_carry_out p_Pass_carry_out (defScope s_Pass_carry_out) := ⟨rfl, rfl, rfl, by decide +kernel, rfl, by decide +kernel, by decide +kernel⟩
abbrev D_Pass_carry_out (K : PySem.W.Frag) (fd : FuncData) : Prop := FunD K "carry_out" "Pass.carry_out" (defArgs s_Pass_carry_out) (defBody s_Pass_carry_out) (defScope s_Pass_carry_out) [] [] (a_Pass_carry_out K) fd
theorem bn_Pass_carry_out {K : PySem.W.Frag} {fd : FuncData} (F : D_Pass_carry_out K fd) : Binds K fd p_Pass_carry_out [] := F.bindsN fun _ _ _ _ _ _ us hl => match us, hl with | [_, _, _, _], _ => rfl
abbrev s_is_pair : Stmt := topS 38
abbrev n_is_pair : List Str := ["thing", "part", "times"]
abbrev p_is_pair : List Str := ["thing"]
theorem sc_is_pair : FnScope n_is_pair p_is_pair (defScope s_is_pair) := ⟨rfl, rfl, rfl, by decide +kernel, rfl, by decide +kernel, by decide +kernel⟩
abbrev D_is_pair (K : PySem.W.Frag) (fd : FuncData) : Prop := FunD K "is_pair" "is_pair" (defArgs s_is_pair) (defBody s_is_pair) (defScope s_is_pair) [] [] (a_is_pair K) fd
theorem bn_is_pair {K : PySem.W.Frag} {fd : FuncData} (F : D_is_pair K fd) : Binds K fd p_is_pair [] := F.bindsN fun _ _ _ _ _ _ us hl => match us, hl with | [_], _ => rfl
abbrev s_root : Stmt := topS 39
abbrev n_root : List Str := ["part"]
abbrev p_root : List Str := ["part"]
theorem sc_root : FnScope n_root p_root (defScope s_root) := ⟨rfl, rfl, rfl, by decide +kernel, rfl, by decide +kernel, by decide +kernel⟩
abbrev D_root (K : PySem.W.Frag) (fd : FuncData) : Prop := FunD K "root" "root" (defArgs s_root) (defBody s_root) (defScope s_root) [] [] (a_root K) fd
theorem bn_root {K : PySem.W.Frag} {fd : FuncData} (F : D_root K fd) : Binds K fd p_root [] := F.bindsN fun _ _ _ _ _ _ us hl => match us, hl with | [_], _ => rfl
abbrev s_tidy : Stmt := topS 40
abbrev n_tidy : List Str := ["pairs", "found", "part", "times", "short", "many"]
abbrev p_tidy : List Str := ["pairs"]
theorem sc_tidy : FnScope n_tidy p_tidy (defScope s_tidy) := ⟨rfl, rfl, rfl, by decide +kernel, rfl, by decide +kernel, by decide +kernel⟩
abbrev D_tidy (K : PySem.W.Frag) (fd : FuncData) : Prop := FunD K "tidy" "tidy" (defArgs s_tidy) (defBody s_tidy) (defScope s_tidy) [] [] (a_tidy K) fd
theorem bn_tidy {K : PySem.W.Frag} {fd : FuncData} (F : D_tidy K fd) : Binds K fd p_tidy [] := F.bindsN fun _ _ _ _ _ _ us hl => match us, hl with | [_], _ => rfl
abbrev s_stretch : Stmt := topS 41
abbrev n_stretch : List Str := ["part", "first", "many", "offset", "copies"]
abbrev p_stretch : List Str := ["part", "first", "many"]
theorem sc_stretch : FnScope n_stretch p_stretch (defScope s_stretch) := ⟨rfl, rfl, rfl, by decide +kernel, rfl, by decide +kernel, by decide +kernel⟩
abbrev D_stretch (K : PySem.W.Frag) (fd : FuncData) : Prop := FunD K "stretch" "stretch" (defArgs s_stretch) (defBody s_stretch) (defScope s_stretch) [] [] (a_stretch K) fd
theorem bn_stretch {K : PySem.W.Frag} {fd : FuncData} (F : D_stretch K fd) : Binds K fd p_stretch [] := F.bindsN fun _ _ _ _ _ _ us hl => match us, hl with | [_, _, _], _ => rfl
abbrev s_cut : Stmt := topS 42
abbrev n_cut : List Str := ["part", "begin", "end", "first", "offset", "last", "rest"]
abbrev p_cut : List Str := ["part", "begin", "end"]
theorem sc_cut : FnScope n_cut p_cut (defScope s_cut) := ⟨rfl, rfl, rfl, by decide +kernel, rfl, by decide +kernel, by decide +kernel⟩
abbrev D_cut (K : PySem.W.Frag) (fd : FuncData) : Prop := FunD K "cut" "cut" (defArgs s_cut) (defBody s_cut) (defScope s_cut) [] [] (a_cut K) fd
theorem bn_cut {K : PySem.W.Frag} {fd : FuncData} (F : D_cut K fd) : Binds K fd p_cut [] := F.bindsN fun _ _ _ _ _ _ us hl => match us, hl with | [_, _, _], _ => rfl
abbrev s_same_items : Stmt := topS 43
abbrev n_same_items : List Str := ["one", "other", "place", "other_place", "used", "other_used", "part", "times", "other_part", "other_times", "many", "looked_at"]
abbrev p_same_items : List Str := ["one", "other"]
theorem sc_same_items : FnScope n_same_items p_same_items (defScope s_same_items) := ⟨rfl, rfl, rfl, by decide +kernel, rfl, by decide +kernel, by decide +kernel⟩
abbrev D_same_items (K : PySem.W.Frag) (fd : FuncData) : Prop := FunD K "same_items" "same_items" (defArgs s_same_items) (defBody s_same_items) (defScope s_same_items) [] [] (a_same_items K) fd
theorem bn_same_items {K : PySem.W.Frag} {fd : FuncData} (F : D_same_items K fd) : Binds K fd p_same_items [] := F.bindsN fun _ _ _ _ _ _ us hl => match us, hl with | [_, _], _ => rfl
abbrev s_Runs_init : Stmt := inClass (topS 44) 0
abbrev n_Runs_init : List Str := ["self", "pairs"]
abbrev p_Runs_init : List Str := ["self", "pairs"]
theorem sc_Runs_init : FnScope n_Runs_init p_Runs_init (defScope s_Runs_init) := ⟨rfl, rfl, rfl, by decide +kernel, rfl, by decide +kernel, by decide +kernel⟩
abbrev D_Runs_init (K : PySem.W.Frag) (fd : FuncData) : Prop := FunD K "__init__" "Runs.__init__" (defArgs s_Runs_init) (defBody s_Runs_init) (defScope s_Runs_init) [] [] (a_Runs_init K) fd
theorem bn_Runs_init {K : PySem.W.Frag} {fd : FuncData} (F : D_Runs_init K fd) : Binds K fd p_Runs_init [] := F.bindsN fun _ _ _ _ _ _ us hl => match us, hl with | [_, _], _ => rfl
abbrev s_Repeats_init : Stmt := inClass (topS 45) 0
abbrev n_Repeats_init : List Str := ["self", "pairs", "pair"]
abbrev p_Repeats_init : List Str := ["self", "pairs"]
theorem sc_Repeats_init : FnScope n_Repeats_init p_Repeats_init (defScope s_Repeats_init) := ⟨rfl, rfl, rfl, by decide +kernel, rfl, by decide +kernel, by decide +kernel⟩
abbrev D_Repeats_init (K : PySem.W.Frag) (fd : FuncData) : Prop := FunD K "__init__" "Repeats.__init__" (defArgs s_Repeats_init) (defBody s_Repeats_init) (defScope s_Repeats_init) [] [] (a_Repeats_init K) fd
theorem bn_Repeats_init {K : PySem.W.Frag} {fd : FuncData} (F : D_Repeats_init K fd) : Binds K fd p_Repeats_init [] := F.bindsN fun _ _ _ _ _ _ us hl => match us, hl with | [_, _], _ => rfl
abbrev s_Repeats_once : Stmt := inClass (topS 45) 1
abbrev n_Repeats_once : List Str := ["cls", "text"]
abbrev p_Repeats_once : List Str := ["cls", "text"]
theorem sc_Repeats_once : FnScope n_Repeats_once p_Repeats_once (defScope s_Repeats_once) := ⟨rfl, rfl, rfl, by decide +kernel, rfl, by decide +kernel, by decide +kernel⟩
abbrev D_Repeats_once (K : PySem.W.Frag) (fd : FuncData) : Prop := FunD K "once" "Repeats.once" (defArgs s_Repeats_once) (defBody s_Repeats_once) (defScope s_Repeats_once) [] [] (a_Repeats_once K) fd
theorem bn_Repeats_once {K : PySem.W.Frag} {fd : FuncData} (F : D_Repeats_once K fd) : Binds K fd p_Repeats_once [] := F.bindsN fun _ _ _ _ _ _ us hl => match us, hl with | [_, _], _ => rfl
abbrev s_Repeats_length : Stmt := inClass (topS 45) 2
abbrev n_Repeats_length : List Str := ["self", "part", "times"]
abbrev p_Repeats_length : List Str := ["self"]
theorem sc_Repeats_length : FnScope n_Repeats_length p_Repeats_length (defScope s_Repeats_length) := ⟨rfl, rfl, rfl, by decide +kernel, rfl, by decide +kernel, by decide +kernel⟩
abbrev D_Repeats_length (K : PySem.W.Frag) (fd : FuncData) : Prop := FunD K "length" "Repeats.length" (defArgs s_Repeats_length) (defBody s_Repeats_length) (defScope s_Repeats_length) [] [] (a_Repeats_length K) fd
theorem bn_Repeats_length {K : PySem.W.Frag} {fd : FuncData} (F : D_Repeats_length K fd) : Binds K fd p_Repeats_length [] := F.bindsN fun _ _ _ _ _ _ us hl => match us, hl with | [_], _ => rfl
abbrev s_Repeats_iter : Stmt := inClass (topS 45) 3
abbrev n_Repeats_iter : List Str := ["self"]
abbrev p_Repeats_iter : List Str := ["self"]
theorem sc_Repeats_iter : FnScope n_Repeats_iter p_Repeats_iter (defScope s_Repeats_iter) := ⟨rfl, rfl, rfl, by decide +kernel, rfl, by decide +kernel, by decide +kernel⟩
abbrev D_Repeats_iter (K : PySem.W.Frag) (fd : FuncData) : Prop := FunD K "__iter__" "Repeats.__iter__" (defArgs s_Repeats_iter) (defBody s_Repeats_iter) (defScope s_Repeats_iter) [] [] (a_Repeats_iter K) fd
theorem bn_Repeats_iter {K : PySem.W.Frag} {fd : FuncData} (F : D_Repeats_iter K fd) : Binds K fd p_Repeats_iter [] := F.bindsN fun _ _ _ _ _ _ us hl => match us, hl with | [_], _ => rfl
abbrev s_Repeats_getitem : Stmt := inClass (topS 45) 4
abbrev n_Repeats_getitem : List Str := ["self", "index", "begin", "part", "times"]
abbrev p_Repeats_getitem : List Str := ["self", "index"]
theorem sc_Repeats_getitem : FnScope n_Repeats_getitem p_Repeats_getitem (defScope s_Repeats_getitem) := ⟨rfl, rfl, rfl, by decide +kernel, rfl, by decide +kernel, by decide +kernel⟩
abbrev D_Repeats_getitem (K : PySem.W.Frag) (fd : FuncData) : Prop := FunD K "__getitem__" "Repeats.__getitem__" (defArgs s_Repeats_getitem) (defBody s_Repeats_getitem) (defScope s_Repeats_getitem) [] [] (a_Repeats_getitem K) fd
theorem bn_Repeats_getitem {K : PySem.W.Frag} {fd : FuncData} (F : D_Repeats_getitem K fd) : Binds K fd p_Repeats_getitem [] := F.bindsN fun _ _ _ _ _ _ us hl => match us, hl with | [_, _], _ => rfl
abbrev s_Repeats_part : Stmt := inClass (topS 45) 5
abbrev n_Repeats_part : List Str := ["self", "begin", "end", "found", "before", "part", "times", "size"]
abbrev p_Repeats_part : List Str := ["self", "begin", "end"]
theorem sc_Repeats_part : FnScope n_Repeats_part p_Repeats_part (defScope s_Repeats_part) := ⟨rfl, rfl, rfl, by decide +kernel, rfl, by decide +kernel, by decide +kernel⟩
abbrev D_Repeats_part (K : PySem.W.Frag) (fd : FuncData) : Prop := FunD K "part" "Repeats.part" (defArgs s_Repeats_part) (defBody s_Repeats_part) (defScope s_Repeats_part) [] [] (a_Repeats_part K) fd
theorem bn_Repeats_part {K : PySem.W.Frag} {fd : FuncData} (F : D_Repeats_part K fd) : Binds K fd p_Repeats_part [] := F.bindsN fun _ _ _ _ _ _ us hl => match us, hl with | [_, _, _], _ => rfl
abbrev s_Repeats_to_text : Stmt := inClass (topS 45) 6
abbrev n_Repeats_to_text : List Str := ["self", "part", "times"]
abbrev p_Repeats_to_text : List Str := ["self"]
theorem sc_Repeats_to_text : FnScope n_Repeats_to_text p_Repeats_to_text (defScope s_Repeats_to_text) := ⟨rfl, rfl, rfl, by decide +kernel, rfl, by decide +kernel, by decide +kernel⟩
abbrev D_Repeats_to_text (K : PySem.W.Frag) (fd : FuncData) : Prop := FunD K "to_text" "Repeats.to_text" (defArgs s_Repeats_to_text) (defBody s_Repeats_to_text) (defScope s_Repeats_to_text) [] [] (a_Repeats_to_text K) fd
theorem bn_Repeats_to_text {K : PySem.W.Frag} {fd : FuncData} (F : D_Repeats_to_text K fd) : Binds K fd p_Repeats_to_text [] := F.bindsN fun _ _ _ _ _ _ us hl => match us, hl with | [_], _ => rfl
abbrev s_Repeats_contains : Stmt := inClass (topS 45) 8
abbrev n_Repeats_contains : List Str := ["self", "item", "part", "times"]
abbrev p_Repeats_contains : List Str := ["self", "item"]
theorem sc_Repeats_contains : FnScope n_Repeats_contains p_Repeats_contains (defScope s_Repeats_contains) := ⟨rfl, rfl, rfl, by decide +kernel, rfl, by decide +kernel, by decide +kernel⟩
abbrev D_Repeats_contains (K : PySem.W.Frag) (fd : FuncData) : Prop := FunD K "__contains__" "Repeats.__contains__" (defArgs s_Repeats_contains) (defBody s_Repeats_contains) (defScope s_Repeats_contains) [] [] (a_Repeats_contains K) fd
theorem bn_Repeats_contains {K : PySem.W.Frag} {fd : FuncData} (F : D_Repeats_contains K fd) : Binds K fd p_Repeats_contains [] := F.bindsN fun _ _ _ _ _ _ us hl => match us, hl with | [_, _], _ => rfl
abbrev s_Repeats_add : Stmt := inClass (topS 45) 9
abbrev n_Repeats_add : List Str := ["self", "other"]
abbrev p_Repeats_add : List Str := ["self", "other"]
theorem sc_Repeats_add : FnScope n_Repeats_add p_Repeats_add (defScope s_Repeats_add) := ⟨rfl, rfl, rfl, by decide +kernel, rfl, by decide +kernel, by decide +kernel⟩
abbrev D_Repeats_add (K : PySem.W.Frag) (fd : FuncData) : Prop := FunD K "__add__" "Repeats.__add__" (defArgs s_Repeats_add) (defBody s_Repeats_add) (defScope s_Repeats_add) [] [] (a_Repeats_add K) fd
theorem bn_Repeats_add {K : PySem.W.Frag} {fd : FuncData} (F : D_Repeats_add K fd) : Binds K fd p_Repeats_add [] := F.bindsN fun _ _ _ _ _ _ us hl => match us, hl with | [_, _], _ => rfl
abbrev s_Repeats_mul : Stmt := inClass (topS 45) 10
abbrev n_Repeats_mul : List Str := ["self", "times"]
abbrev p_Repeats_mul : List Str := ["self", "times"]
theorem sc_Repeats_mul : FnScope n_Repeats_mul p_Repeats_mul (defScope s_Repeats_mul) := ⟨rfl, rfl, rfl, by decide +kernel, rfl, by decide +kernel, by decide +kernel⟩
abbrev D_Repeats_mul (K : PySem.W.Frag) (fd : FuncData) : Prop := FunD K "__mul__" "Repeats.__mul__" (defArgs s_Repeats_mul) (defBody s_Repeats_mul) (defScope s_Repeats_mul) [] [] (a_Repeats_mul K) fd
theorem bn_Repeats_mul {K : PySem.W.Frag} {fd : FuncData} (F : D_Repeats_mul K fd) : Binds K fd p_Repeats_mul [] := F.bindsN fun _ _ _ _ _ _ us hl => match us, hl with | [_, _], _ => rfl
abbrev s_Repeats_eq : Stmt := inClass (topS 45) 11
abbrev n_Repeats_eq : List Str := ["self", "other"]
abbrev p_Repeats_eq : List Str := ["self", "other"]
theorem sc_Repeats_eq : FnScope n_Repeats_eq p_Repeats_eq (defScope s_Repeats_eq) := ⟨rfl, rfl, rfl, by decide +kernel, rfl, by decide +kernel, by decide +kernel⟩
abbrev D_Repeats_eq (K : PySem.W.Frag) (fd : FuncData) : Prop := FunD K "__eq__" "Repeats.__eq__" (defArgs s_Repeats_eq) (defBody s_Repeats_eq) (defScope s_Repeats_eq) [] [] (a_Repeats_eq K) fd
theorem bn_Repeats_eq {K : PySem.W.Frag} {fd : FuncData} (F : D_Repeats_eq K fd) : Binds K fd p_Repeats_eq [] := F.bindsN fun _ _ _ _ _ _ us hl => match us, hl with | [_, _], _ => rfl
abbrev s_Repeats_bool : Stmt := inClass (topS 45) 12
abbrev n_Repeats_bool : List Str := ["self"]
abbrev p_Repeats_bool : List Str := ["self"]
theorem sc_Repeats_bool : FnScope n_Repeats_bool p_Repeats_bool (defScope s_Repeats_bool) := ⟨rfl, rfl, rfl, by decide +kernel, rfl, by decide +kernel, by decide +kernel⟩
abbrev D_Repeats_bool (K : PySem.W.Frag) (fd : FuncData) : Prop := FunD K "__bool__" "Repeats.__bool__" (defArgs s_Repeats_bool) (defBody s_Repeats_bool) (defScope s_Repeats_bool) [] [] (a_Repeats_bool K) fd
theorem bn_Repeats_bool {K : PySem.W.Frag} {fd : FuncData} (F : D_Repeats_bool K fd) : Binds K fd p_Repeats_bool [] := F.bindsN fun _ _ _ _ _ _ us hl => match us, hl with | [_], _ => rfl
abbrev s_Repeats_repr : Stmt := inClass (topS 45) 13
abbrev n_Repeats_repr : List Str := ["self"]
abbrev p_Repeats_repr : List Str := ["self"]
theorem sc_Repeats_repr : FnScope n_Repeats_repr p_Repeats_repr (defScope s_Repeats_repr) := ⟨rfl, rfl, rfl, by decide +kernel, rfl, by decide +kernel, by decide +kernel⟩
abbrev D_Repeats_repr (K : PySem.W.Frag) (fd : FuncData) : Prop := FunD K "__repr__" "Repeats.__repr__" (defArgs s_Repeats_repr) (defBody s_Repeats_repr) (defScope s_Repeats_repr) [] [] (a_Repeats_repr K) fd
theorem bn_Repeats_repr {K : PySem.W.Frag} {fd : FuncData} (F : D_Repeats_repr K fd) : Binds K fd p_Repeats_repr [] := F.bindsN fun _ _ _ _ _ _ us hl => match us, hl with | [_], _ => rfl
abbrev s_Result_init : Stmt := inClass (topS 49) 0
abbrev n_Result_init : List Str := ["self", "text", "passes", "ways"]
abbrev p_Result_init : List Str := ["self", "text", "passes", "ways"]
theorem sc_Result_init : FnScope n_Result_init p_Result_init (defScope s_Result_init) := ⟨rfl, rfl, rfl, by decide +kernel, rfl, by decide +kernel, by decide +kernel⟩
abbrev D_Result_init (K : PySem.W.Frag) (fd : FuncData) : Prop := FunD K "__init__" "Result.__init__" (defArgs s_Result_init) (defBody s_Result_init) (defScope s_Result_init) [] [] (a_Result_init K) fd
theorem bn_Result_init {K : PySem.W.Frag} {fd : FuncData} (F : D_Result_init K fd) : Binds K fd p_Result_init [] := F.bindsN fun _ _ _ _ _ _ us hl => match us, hl with | [_, _, _, _], _ => rfl
abbrev s_Result_text : Stmt := inClass (topS 49) 1
abbrev n_Result_text : List Str := ["self"]
abbrev p_Result_text : List Str := ["self"]
theorem sc_Result_text : FnScope n_Result_text p_Result_text (defScope s_Result_text) := ⟨rfl, rfl, rfl, by decide +kernel, rfl, by decide +kernel, by decide +kernel⟩
abbrev D_Result_text (K : PySem.W.Frag) (fd : FuncData) : Prop := FunD K "text" "Result.text" (defArgs s_Result_text) (defBody s_Result_text) (defScope s_Result_text) [] [] (a_Result_text K) fd
theorem bn_Result_text {K : PySem.W.Frag} {fd : FuncData} (F : D_Result_text K fd) : Binds K fd p_Result_text [] := F.bindsN fun _ _ _ _ _ _ us hl => match us, hl with | [_], _ => rfl
abbrev s_Result_passes : Stmt := inClass (topS 49) 2
abbrev n_Result_passes : List Str := ["self"]
abbrev p_Result_passes : List Str := ["self"]
theorem sc_Result_passes : FnScope n_Result_passes p_Result_passes (defScope s_Result_passes) := ⟨rfl, rfl, rfl, by decide +kernel, rfl, by decide +kernel, by decide +kernel⟩
abbrev D_Result_passes (K : PySem.W.Frag) (fd : FuncData) : Prop := FunD K "passes" "Result.passes" (defArgs s_Result_passes) (defBody s_Result_passes) (defScope s_Result_passes) [] [] (a_Result_passes K) fd
theorem bn_Result_passes {K : PySem.W.Frag} {fd : FuncData} (F : D_Result_passes K fd) : Binds K fd p_Result_passes [] := F.bindsN fun _ _ _ _ _ _ us hl => match us, hl with | [_], _ => rfl
abbrev s_Result_ways : Stmt := inClass (topS 49) 3
abbrev n_Result_ways : List Str := ["self"]
abbrev p_Result_ways : List Str := ["self"]
theorem sc_Result_ways : FnScope n_Result_ways p_Result_ways (defScope s_Result_ways) := ⟨rfl, rfl, rfl, by decide +kernel, rfl, by decide +kernel, by decide +kernel⟩
abbrev D_Result_ways (K : PySem.W.Frag) (fd : FuncData) : Prop := FunD K "ways" "Result.ways" (defArgs s_Result_ways) (defBody s_Result_ways) (defScope s_Result_ways) [] [] (a_Result_ways K) fd
theorem bn_Result_ways {K : PySem.W.Frag} {fd : FuncData} (F : D_Result_ways K fd) : Binds K fd p_Result_ways [] := F.bindsN fun _ _ _ _ _ _ us hl => match us, hl with | [_], _ => rfl
abbrev s_Result_eq : Stmt := inClass (topS 49) 4
abbrev n_Result_eq : List Str := ["self", "other"]
abbrev p_Result_eq : List Str := ["self", "other"]
theorem sc_Result_eq : FnScope n_Result_eq p_Result_eq (defScope s_Result_eq) := ⟨rfl, rfl, rfl, by decide +kernel, rfl, by decide +kernel, by decide +kernel⟩
abbrev D_Result_eq (K : PySem.W.Frag) (fd : FuncData) : Prop := FunD K "__eq__" "Result.__eq__" (defArgs s_Result_eq) (defBody s_Result_eq) (defScope s_Result_eq) [] [] (a_Result_eq K) fd
theorem bn_Result_eq {K : PySem.W.Frag} {fd : FuncData} (F : D_Result_eq K fd) : Binds K fd p_Result_eq [] := F.bindsN fun _ _ _ _ _ _ us hl => match us, hl with | [_, _], _ => rfl
abbrev s_Result_repr : Stmt := inClass (topS 49) 5
abbrev n_Result_repr : List Str := ["self", "many"]
abbrev p_Result_repr : List Str := ["self"]
theorem sc_Result_repr : FnScope n_Result_repr p_Result_repr (defScope s_Result_repr) := ⟨rfl, rfl, rfl, by decide +kernel, rfl, by decide +kernel, by decide +kernel⟩
abbrev D_Result_repr (K : PySem.W.Frag) (fd : FuncData) : Prop := FunD K "__repr__" "Result.__repr__" (defArgs s_Result_repr) (defBody s_Result_repr) (defScope s_Result_repr) [] [] (a_Result_repr K) fd
theorem bn_Result_repr {K : PySem.W.Frag} {fd : FuncData} (F : D_Result_repr K fd) : Binds K fd p_Result_repr [] := F.bindsN fun _ _ _ _ _ _ us hl => match us, hl with | [_], _ => rfl
abbrev s_Stay_init : Stmt := inClass (topS 52) 0
abbrev n_Stay_init : List Str := ["self", "mark", "held", "is_broken"]
abbrev p_Stay_init : List Str := ["self", "mark", "held", "is_broken"]
theorem sc_Stay_init : FnScope n_Stay_init p_Stay_init (defScope s_Stay_init) := ⟨rfl, rfl, rfl, by decide +kernel, rfl, by decide +kernel, by decide +kernel⟩
abbrev D_Stay_init (K : PySem.W.Frag) (fd : FuncData) : Prop := FunD K "__init__" "Stay.__init__" (defArgs s_Stay_init) (defBody s_Stay_init) (defScope s_Stay_init) [V.bl false] [] (a_Stay_init K) fd
theorem bd1_Stay_init {K : PySem.W.Frag} {fd : FuncData} (F : D_Stay_init K fd) : ∃ ds, Vals ([V.bl false] : List V) ds ∧ Binds K fd p_Stay_init ds := F.binds1 3 0 (by simp) rfl fun _ _ _ _ _ _ _ us its hu hi => match us, its, hu, hi with | [_, _, _], [_], _, _ => ⟨_, rfl, rfl⟩
theorem bd0_Stay_init {K : PySem.W.Frag} {fd : FuncData} (F : D_Stay_init K fd) : ∃ ds, Vals ([] : List V) ds ∧ Binds K fd p_Stay_init ds := F.binds1 4 1 (by simp) rfl fun _ _ _ _ _ _ _ us its hu hi => match us, its, hu, hi with | [_, _, _, _], [_], _, _ => ⟨_, rfl, rfl⟩
abbrev s_Stay_key : Stmt := inClass (topS 52) 1
abbrev n_Stay_key : List Str := ["self"]
abbrev p_Stay_key : List Str := ["self"]
theorem sc_Stay_key : FnScope n_Stay_key p_Stay_key (defScope s_Stay_key) := ⟨rfl, rfl, rfl, by decide +kernel, rfl, by decide +kernel, by decide +kernel⟩
abbrev D_Stay_key (K : PySem.W.Frag) (fd : FuncData) : Prop := FunD K "key" "Stay.key" (defArgs s_Stay_key) (defBody s_Stay_key) (defScope s_Stay_key) [] [] (a_Stay_key K) fd
theorem bn_Stay_key {K : PySem.W.Frag} {fd : FuncData} (F : D_Stay_key K fd) : Binds K fd p_Stay_key [] := F.bindsN fun _ _ _ _ _ _ us hl => match us, hl with | [_], _ => rfl
abbrev s_Track_init : Stmt := inClass (topS 53) 0
abbrev n_Track_init : List Str := ["self"]
abbrev p_Track_init : List Str := ["self"]
theorem sc_Track_init : FnScope n_Track_init p_Track_init (defScope s_Track_init) := ⟨rfl, rfl, rfl, by decide +kernel, rfl, by decide +kernel, by decide +kernel⟩
abbrev D_Track_init (K : PySem.W.Frag) (fd : FuncData) : Prop := FunD K "__init__" "Track.__init__" (defArgs s_Track_init) (defBody s_Track_init) (defScope s_Track_init) [] [] (a_Track_init K) fd
theorem bn_Track_init {K : PySem.W.Frag} {fd : FuncData} (F : D_Track_init K fd) : Binds K fd p_Track_init [] := F.bindsN fun _ _ _ _ _ _ us hl => match us, hl with | [_], _ => rfl
abbrev s_Track_write : Stmt := inClass (topS 53) 1
abbrev n_Track_write : List Str := ["self", "part", "made", "times"]
abbrev p_Track_write : List Str := ["self", "part", "made", "times"]
theorem sc_Track_write : FnScope n_Track_write p_Track_write (defScope s_Track_write) := ⟨rfl, rfl, rfl, by decide +kernel, rfl, by decide +kernel, by decide +kernel⟩
abbrev D_Track_write (K : PySem.W.Frag) (fd : FuncData) : Prop := FunD K "write" "Track.write" (defArgs s_Track_write) (defBody s_Track_write) (defScope s_Track_write) [V.int 1] [] (a_Track_write K) fd
theorem bd1_Track_write {K : PySem.W.Frag} {fd : FuncData} (F : D_Track_write K fd) : ∃ ds, Vals ([V.int 1] : List V) ds ∧ Binds K fd p_Track_write ds := F.binds1 3 0 (by simp) rfl fun _ _ _ _ _ _ _ us its hu hi => match us, its, hu, hi with | [_, _, _], [_], _, _ => ⟨_, rfl, rfl⟩
theorem bd0_Track_write {K : PySem.W.Frag} {fd : FuncData} (F : D_Track_write K fd) : ∃ ds, Vals ([] : List V) ds ∧ Binds K fd p_Track_write ds := F.binds1 4 1 (by simp) rfl fun _ _ _ _ _ _ _ us its hu hi => match us, its, hu, hi with | [_, _, _, _], [_], _, _ => ⟨_, rfl, rfl⟩
abbrev s_Track_write_round : Stmt := inClass (topS 53) 2
abbrev n_Track_write_round : List Str := ["self", "parts", "first", "many", "round_parts", "rounds", "left", "made_each", "part", "made"]
abbrev p_Track_write_round : List Str := ["self", "parts", "first", "many"]
theorem sc_Track_write_round : FnScope n_Track_write_round p_Track_write_round (defScope s_Track_write_round) := ⟨rfl, rfl, rfl, by decide +kernel, rfl, by decide +kernel, by decide +kernel⟩
abbrev D_Track_write_round (K : PySem.W.Frag) (fd : FuncData) : Prop := FunD K "write_round" "Track.write_round" (defArgs s_Track_write_round) (defBody s_Track_write_round) (defScope s_Track_write_round) [] [] (a_Track_write_round K) fd
theorem bn_Track_write_round {K : PySem.W.Frag} {fd : FuncData} (F : D_Track_write_round K fd) : Binds K fd p_Track_write_round [] := F.bindsN fun _ _ _ _ _ _ us hl => match us, hl with | [_, _, _, _], _ => rfl
abbrev s_one_pass : Stmt := topS 54
abbrev n_one_pass : List Str := ["loop", "stay", "items", "step"]
abbrev p_one_pass : List Str := ["loop", "stay"]
theorem sc_one_pass : FnScope n_one_pass p_one_pass (defScope s_one_pass) := ⟨rfl, rfl, rfl, by decide +kernel, rfl, by decide +kernel, by decide +kernel⟩
abbrev D_one_pass (K : PySem.W.Frag) (fd : FuncData) : Prop := FunD K "one_pass" "one_pass" (defArgs s_one_pass) (defBody s_one_pass) (defScope s_one_pass) [] [] (a_one_pass K) fd
theorem bn_one_pass {K : PySem.W.Frag} {fd : FuncData} (F : D_one_pass K fd) : Binds K fd p_one_pass [] := F.bindsN fun _ _ _ _ _ _ us hl => match us, hl with | [_, _], _ => rfl
abbrev s_make_passes : Stmt := topS 55
abbrev n_make_passes : List Str := ["loop", "stay", "least", "most", "track", "parts", "stays", "places", "place", "at", "part"]
abbrev p_make_passes : List Str := ["loop", "stay", "least", "most", "track"]
theorem sc_make_passes : FnScope n_make_passes p_make_passes (defScope s_make_passes) := ⟨rfl, rfl, rfl, by decide +kernel, rfl, by decide +kernel, by decide +kernel⟩
abbrev D_make_passes (K : PySem.W.Frag) (fd : FuncData) : Prop := FunD K "make_passes" "make_passes" (defArgs s_make_passes) (defBody s_make_passes) (defScope s_make_passes) [] [] (a_make_passes K) fd
theorem bn_make_passes {K : PySem.W.Frag} {fd : FuncData} (F : D_make_passes K fd) : Binds K fd p_make_passes [] := F.bindsN fun _ _ _ _ _ _ us hl => match us, hl with | [_, _, _, _, _], _ => rfl
abbrev s_joined_parts : Stmt := topS 56
abbrev n_joined_parts : List Str := ["pairs", "pair"]
abbrev p_joined_parts : List Str := ["pairs"]
theorem sc_joined_parts : FnScope n_joined_parts p_joined_parts (defScope s_joined_parts) := ⟨rfl, rfl, rfl, by decide +kernel, rfl, by decide +kernel, by decide +kernel⟩
abbrev D_joined_parts (K : PySem.W.Frag) (fd : FuncData) : Prop := FunD K "joined_parts" "joined_parts" (defArgs s_joined_parts) (defBody s_joined_parts) (defScope s_joined_parts) [] [] (a_joined_parts K) fd
theorem bn_joined_parts {K : PySem.W.Frag} {fd : FuncData} (F : D_joined_parts K fd) : Binds K fd p_joined_parts [] := F.bindsN fun _ _ _ _ _ _ us hl => match us, hl with | [_], _ => rfl
abbrev s_Feeder_init : Stmt := inClass (topS 57) 0
abbrev n_Feeder_init : List Str := ["self", "loop"]
abbrev p_Feeder_init : List Str := ["self", "loop"]
theorem sc_Feeder_init : FnScope n_Feeder_init p_Feeder_init (defScope s_Feeder_init) := ⟨rfl, rfl, rfl, by decide +kernel, rfl, by decide +kernel, by decide +kernel⟩
abbrev D_Feeder_init (K : PySem.W.Frag) (fd : FuncData) : Prop := FunD K "__init__" "Feeder.__init__" (defArgs s_Feeder_init) (defBody s_Feeder_init) (defScope s_Feeder_init) [] [] (a_Feeder_init K) fd
theorem bn_Feeder_init {K : PySem.W.Frag} {fd : FuncData} (F : D_Feeder_init K fd) : Binds K fd p_Feeder_init [] := F.bindsN fun _ _ _ _ _ _ us hl => match us, hl with | [_, _], _ => rfl
abbrev s_Feeder_feed : Stmt := inClass (topS 57) 1
abbrev n_Feeder_feed : List Str := ["self", "stay", "item", "key", "track", "after"]
abbrev p_Feeder_feed : List Str := ["self", "stay", "item"]
theorem sc_Feeder_feed : FnScope n_Feeder_feed p_Feeder_feed (defScope s_Feeder_feed) := ⟨rfl, rfl, rfl, by decide +kernel, rfl, by decide +kernel, by decide +kernel⟩
abbrev D_Feeder_feed (K : PySem.W.Frag) (fd : FuncData) : Prop := FunD K "feed" "Feeder.feed" (defArgs s_Feeder_feed) (defBody s_Feeder_feed) (defScope s_Feeder_feed) [] [] (a_Feeder_feed K) fd
theorem bn_Feeder_feed {K : PySem.W.Frag} {fd : FuncData} (F : D_Feeder_feed K fd) : Binds K fd p_Feeder_feed [] := F.bindsN fun _ _ _ _ _ _ us hl => match us, hl with | [_, _, _], _ => rfl
abbrev s_Feeder_feed_text : Stmt := inClass (topS 57) 2
abbrev n_Feeder_feed_text : List Str := ["self", "stay", "text", "written", "made", "item", "found", "part", "more"]
abbrev p_Feeder_feed_text : List Str := ["self", "stay", "text"]
theorem sc_Feeder_feed_text : FnScope n_Feeder_feed_text p_Feeder_feed_text (defScope s_Feeder_feed_text) := ⟨rfl, rfl, rfl, by decide +kernel, rfl, by decide +kernel, by decide +kernel⟩
abbrev D_Feeder_feed_text (K : PySem.W.Frag) (fd : FuncData) : Prop := FunD K "feed_text" "Feeder.feed_text" (defArgs s_Feeder_feed_text) (defBody s_Feeder_feed_text) (defScope s_Feeder_feed_text) [] [] (a_Feeder_feed_text K) fd
theorem bn_Feeder_feed_text {K : PySem.W.Frag} {fd : FuncData} (F : D_Feeder_feed_text K fd) : Binds K fd p_Feeder_feed_text [] := F.bindsN fun _ _ _ _ _ _ us hl => match us, hl with | [_, _, _], _ => rfl
abbrev s_Feeder_feed_row : Stmt := inClass (topS 57) 3
abbrev n_Feeder_feed_row : List Str := ["self", "stay", "text", "times", "track", "parts", "stays", "places", "at", "found", "part", "made"]
abbrev p_Feeder_feed_row : List Str := ["self", "stay", "text", "times", "track"]
theorem sc_Feeder_feed_row : FnScope n_Feeder_feed_row p_Feeder_feed_row (defScope s_Feeder_feed_row) := ⟨rfl, rfl, rfl, by decide +kernel, rfl, by decide +kernel, by decide +kernel⟩
abbrev D_Feeder_feed_row (K : PySem.W.Frag) (fd : FuncData) : Prop := FunD K "feed_row" "Feeder.feed_row" (defArgs s_Feeder_feed_row) (defBody s_Feeder_feed_row) (defScope s_Feeder_feed_row) [] [] (a_Feeder_feed_row K) fd
theorem bn_Feeder_feed_row {K : PySem.W.Frag} {fd : FuncData} (F : D_Feeder_feed_row K fd) : Binds K fd p_Feeder_feed_row [] := F.bindsN fun _ _ _ _ _ _ us hl => match us, hl with | [_, _, _, _, _], _ => rfl
abbrev s_Feeder_finish : Stmt := inClass (topS 57) 4
abbrev n_Feeder_finish : List Str := ["self", "stay", "track"]
abbrev p_Feeder_finish : List Str := ["self", "stay", "track"]
theorem sc_Feeder_finish : FnScope n_Feeder_finish p_Feeder_finish (defScope s_Feeder_finish) := ⟨rfl, rfl, rfl, by decide +kernel, rfl, by decide +kernel, by decide +kernel⟩
abbrev D_Feeder_finish (K : PySem.W.Frag) (fd : FuncData) : Prop := FunD K "finish" "Feeder.finish" (defArgs s_Feeder_finish) (defBody s_Feeder_finish) (defScope s_Feeder_finish) [] [] (a_Feeder_finish K) fd
theorem bn_Feeder_finish {K : PySem.W.Frag} {fd : FuncData} (F : D_Feeder_finish K fd) : Binds K fd p_Feeder_finish [] := F.bindsN fun _ _ _ _ _ _ us hl => match us, hl with | [_, _, _], _ => rfl
abbrev s_run_loop_far : Stmt := topS 58
abbrev n_run_loop_far : List Str := ["loop", "repeats", "mark", "track", "feeder", "stay", "text", "times"]
abbrev p_run_loop_far : List Str := ["loop", "repeats", "mark", "track"]
theorem sc_run_loop_far : FnScope n_run_loop_far p_run_loop_far (defScope s_run_loop_far) := ⟨rfl, rfl, rfl, by decide +kernel, rfl, by decide +kernel, by decide +kernel⟩
abbrev D_run_loop_far (K : PySem.W.Frag) (fd : FuncData) : Prop := FunD K "run_loop_far" "run_loop_far" (defArgs s_run_loop_far) (defBody s_run_loop_far) (defScope s_run_loop_far) [] [] (a_run_loop_far K) fd
theorem bn_run_loop_far {K : PySem.W.Frag} {fd : FuncData} (F : D_run_loop_far K fd) : Binds K fd p_run_loop_far [] := F.bindsN fun _ _ _ _ _ _ us hl => match us, hl with | [_, _, _, _], _ => rfl
abbrev s_run_far : Stmt := topS 59
abbrev n_run_far : List Str := ["program", "repeats", "passes", "ways", "number", "loop", "track", "way"]
abbrev p_run_far : List Str := ["program", "repeats"]
theorem sc_run_far : FnScope n_run_far p_run_far (defScope s_run_far) := ⟨rfl, rfl, rfl, by decide +kernel, rfl, by decide +kernel, by decide +kernel⟩
abbrev D_run_far (K : PySem.W.Frag) (fd : FuncData) : Prop := FunD K "run_far" "run_far" (defArgs s_run_far) (defBody s_run_far) (defScope s_run_far) [] [] (a_run_far K) fd
theorem bn_run_far {K : PySem.W.Frag} {fd : FuncData} (F : D_run_far K fd) : Binds K fd p_run_far [] := F.bindsN fun _ _ _ _ _ _ us hl => match us, hl with | [_, _], _ => rfl
abbrev s__law_bag : Stmt := topS 61
abbrev n__law_bag : List Str := ["_law_script", "_law_at", "_law_cell", "_law_great"]
abbrev p__law_bag : List Str := ["_law_script", "_law_at"]
theorem sc__law_bag : FnScope n__law_bag p__law_bag (defScope s__law_bag) := ⟨rfl, rfl, rfl, by decide +kernel, rfl, by decide +kernel, by decide +kernel⟩
abbrev D__law_bag (K : PySem.W.Frag) (fd : FuncData) : Prop := FunD K "_law_bag" "_law_bag" (defArgs s__law_bag) (defBody s__law_bag) (defScope s__law_bag) [] [] (a__law_bag K) fd
theorem bn__law_bag {K : PySem.W.Frag} {fd : FuncData} (F : D__law_bag K fd) : Binds K fd p__law_bag [] := F.bindsN fun _ _ _ _ _ _ us hl => match us, hl with | [_, _], _ => rfl
abbrev s__law_take : Stmt := topS 62
abbrev n__law_take : List Str := ["_law_bag_here", "_law_many", "_law_digit"]
abbrev p__law_take : List Str := ["_law_bag_here", "_law_many"]
theorem sc__law_take : FnScope n__law_take p__law_take (defScope s__law_take) := ⟨rfl, rfl, rfl, by decide +kernel, rfl, by decide +kernel, by decide +kernel⟩
abbrev D__law_take (K : PySem.W.Frag) (fd : FuncData) : Prop := FunD K "_law_take" "_law_take" (defArgs s__law_take) (defBody s__law_take) (defScope s__law_take) [] [] (a__law_take K) fd
theorem bn__law_take {K : PySem.W.Frag} {fd : FuncData} (F : D__law_take K fd) : Binds K fd p__law_take [] := F.bindsN fun _ _ _ _ _ _ us hl => match us, hl with | [_, _], _ => rfl
abbrev s__law_text : Stmt := topS 63
abbrev n__law_text : List Str := ["_law_bag_here", "_law_most", "_law_turn"]
abbrev p__law_text : List Str := ["_law_bag_here", "_law_most"]
theorem sc__law_text : FnScope n__law_text p__law_text (defScope s__law_text) := ⟨rfl, rfl, rfl, by decide +kernel, rfl, by decide +kernel, by decide +kernel⟩
abbrev D__law_text (K : PySem.W.Frag) (fd : FuncData) : Prop := FunD K "_law_text" "_law_text" (defArgs s__law_text) (defBody s__law_text) (defScope s__law_text) [] [] (a__law_text K) fd
theorem bn__law_text {K : PySem.W.Frag} {fd : FuncData} (F : D__law_text K fd) : Binds K fd p__law_text [] := F.bindsN fun _ _ _ _ _ _ us hl => match us, hl with | [_, _], _ => rfl
abbrev s__law_pairs : Stmt := topS 64
abbrev n__law_pairs : List Str := ["_law_bag_here", "_law_most", "_law_times", "_law_turn"]
abbrev p__law_pairs : List Str := ["_law_bag_here", "_law_most", "_law_times"]
theorem sc__law_pairs : FnScope n__law_pairs p__law_pairs (defScope s__law_pairs) := ⟨rfl, rfl, rfl, by decide +kernel, rfl, by decide +kernel, by decide +kernel⟩
abbrev D__law_pairs (K : PySem.W.Frag) (fd : FuncData) : Prop := FunD K "_law_pairs" "_law_pairs" (defArgs s__law_pairs) (defBody s__law_pairs) (defScope s__law_pairs) [] [] (a__law_pairs K) fd
theorem bn__law_pairs {K : PySem.W.Frag} {fd : FuncData} (F : D__law_pairs K fd) : Binds K fd p__law_pairs [] := F.bindsN fun _ _ _ _ _ _ us hl => match us, hl with | [_, _, _], _ => rfl
abbrev s__law_plain : Stmt := topS 65
abbrev n__law_plain : List Str := ["_law_pairs_here", "_law_some", "_law_times"]
abbrev p__law_plain : List Str := ["_law_pairs_here"]
theorem sc__law_plain : FnScope n__law_plain p__law_plain (defScope s__law_plain) := ⟨rfl, rfl, rfl, by decide +kernel, rfl, by decide +kernel, by decide +kernel⟩
abbrev D__law_plain (K : PySem.W.Frag) (fd : FuncData) : Prop := FunD K "_law_plain" "_law_plain" (defArgs s__law_plain) (defBody s__law_plain) (defScope s__law_plain) [] [] (a__law_plain K) fd
theorem bn__law_plain {K : PySem.W.Frag} {fd : FuncData} (F : D__law_plain K fd) : Binds K fd p__law_plain [] := F.bindsN fun _ _ _ _ _ _ us hl => match us, hl with | [_], _ => rfl
abbrev s__law_loop : Stmt := topS 66
abbrev n__law_loop : List Str := ["_law_bag_here", "_law_doubled", "_law_edit", "_law_edits", "_law_ends", "_law_rules"]
abbrev p__law_loop : List Str := ["_law_bag_here"]
theorem sc__law_loop : FnScope n__law_loop p__law_loop (defScope s__law_loop) := ⟨rfl, rfl, rfl, by decide +kernel, rfl, by decide +kernel, by decide +kernel⟩
abbrev D__law_loop (K : PySem.W.Frag) (fd : FuncData) : Prop := FunD K "_law_loop" "_law_loop" (defArgs s__law_loop) (defBody s__law_loop) (defScope s__law_loop) [] [] (a__law_loop K) fd
theorem bn__law_loop {K : PySem.W.Frag} {fd : FuncData} (F : D__law_loop K fd) : Binds K fd p__law_loop [] := F.bindsN fun _ _ _ _ _ _ us hl => match us, hl with | [_], _ => rfl
abbrev s_law : Stmt := topS 67
abbrev n_law : List Str := ["_law_script", "_law_k", "_law_bag_here", "_law_turn", "_law_loop_here", "_law_made", "_law_shut", "_law_many", "_law_more", "_law_behind", "_law_home", "_law_told", "_law_left"]
abbrev p_law : List Str := ["_law_script"]
theorem sc_law : FnScope n_law p_law (defScope s_law) := ⟨rfl, rfl, rfl, by decide +kernel, rfl, by decide +kernel, by decide +kernel⟩
abbrev D_law (K : PySem.W.Frag) (fd : FuncData) : Prop := FunD K "law" "law" (defArgs s_law) (defBody s_law) (defScope s_law) [] [] (a_law K) fd
theorem bn_law {K : PySem.W.Frag} {fd : FuncData} (F : D_law K fd) : Binds K fd p_law [] := F.bindsN fun _ _ _ _ _ _ us hl => match us, hl with | [_], _ => rfl
def kt_EDIT_KINDS : List (Str × V) := [("put", V.str "item"), ("drop", V.non), ("drop_next", V.non), ("before", V.str "item"), ("after", V.str "item"), ("mark", V.str "mark"), ("break", V.non)]
structure Txt (w : World) (K : PySem.W.Frag) (mg : Str → Option Value) : Prop where
  z_len : mg "len" = none
  z_abs : mg "abs" = none
  z_all : mg "all" = none
  z_any : mg "any" = none
  z_isinstance : mg "isinstance" = none
  z_sum : mg "sum" = none
  z_max : mg "max" = none
  z_min : mg "min" = none
  z_divmod : mg "divmod" = none
  z_int : mg "int" = none
  z_str : mg "str" = none
  z_bool : mg "bool" = none
  z_tuple : mg "tuple" = none
  z_list : mg "list" = none
  z_range : mg "range" = none
  z_enumerate : mg "enumerate" = none
  c_ITEMS : ∃ t, mg "ITEMS" = some (.str "abcd" t)
  c_END : ∃ t, mg "END" = some (.str "$" t)
  c_MOST_RULES : ∃ t, mg "MOST_RULES" = some (.int 12 t)
  c_MOST_LOOPS : ∃ t, mg "MOST_LOOPS" = some (.int 5 t)
  c_MOST_EDITS : ∃ t, mg "MOST_EDITS" = some (.int 4 t)
  c_MOST_DELETIONS : ∃ t, mg "MOST_DELETIONS" = some (.int 2 t)
  c_MARKS : ∃ t, mg "MARKS" = some (.int 4 t)
  c_LONGEST_END : ∃ t, mg "LONGEST_END" = some (.int 4 t)
  g_EDIT_KINDS : mg "EDIT_KINDS" = some (.ref (He.ga K "EDIT_KINDS"))
  t_EDIT_KINDS : KTab K w (He.ga K "EDIT_KINDS") kt_EDIT_KINDS
  c_MOST_PAIRS : ∃ t, mg "MOST_PAIRS" = some (.int 50 t)
  c_LONGEST_PART : ∃ t, mg "LONGEST_PART" = some (.int 20 t)
  c_LONGEST_TEXT : ∃ t, mg "LONGEST_TEXT" = some (.int 2000 t)
  c_MOST_TIMES : ∃ t, mg "MOST_TIMES" = some (.int (10 ^ 60) t)
  c_END_WAY : ∃ t, mg "END_WAY" = some (.str "end" t)
  c_BREAK_WAY : ∃ t, mg "BREAK_WAY" = some (.str "break" t)
  c_REACH : ∃ t, mg "REACH" = some (.int 3 t)
  g_is_integer : mg "is_integer" = some (.ref (He.ga K "is_integer"))
  g_is_item : mg "is_item" = some (.ref (He.ga K "is_item"))
  g_is_text : mg "is_text" = some (.ref (He.ga K "is_text"))
  g_is_selection : mg "is_selection" = some (.ref (He.ga K "is_selection"))
  g_is_edit : mg "is_edit" = some (.ref (He.ga K "is_edit"))
  g_count_words : mg "count_words" = some (.ref (He.ga K "count_words"))
  g_may_follow : mg "may_follow" = some (.ref (He.ga K "may_follow"))
  g_are_edits : mg "are_edits" = some (.ref (He.ga K "are_edits"))
  g_is_rule : mg "is_rule" = some (.ref (He.ga K "is_rule"))
  g_is_loop : mg "is_loop" = some (.ref (He.ga K "is_loop"))
  g_is_program : mg "is_program" = some (.ref (He.ga K "is_program"))
  g_check_program : mg "check_program" = some (.ref (He.ga K "check_program"))
  g_fitting_rule : mg "fitting_rule" = some (.ref (He.ga K "fitting_rule"))
  g_apply_edit : mg "apply_edit" = some (.ref (He.ga K "apply_edit"))
  g_is_pair : mg "is_pair" = some (.ref (He.ga K "is_pair"))
  g_root : mg "root" = some (.ref (He.ga K "root"))
  g_tidy : mg "tidy" = some (.ref (He.ga K "tidy"))
  g_stretch : mg "stretch" = some (.ref (He.ga K "stretch"))
  g_cut : mg "cut" = some (.ref (He.ga K "cut"))
  g_same_items : mg "same_items" = some (.ref (He.ga K "same_items"))
  g_one_pass : mg "one_pass" = some (.ref (He.ga K "one_pass"))
  g_make_passes : mg "make_passes" = some (.ref (He.ga K "make_passes"))
  g_joined_parts : mg "joined_parts" = some (.ref (He.ga K "joined_parts"))
  g_run_loop_far : mg "run_loop_far" = some (.ref (He.ga K "run_loop_far"))
  g_run_far : mg "run_far" = some (.ref (He.ga K "run_far"))
  g__law_bag : mg "_law_bag" = some (.ref (He.ga K "_law_bag"))
  g__law_take : mg "_law_take" = some (.ref (He.ga K "_law_take"))
  g__law_text : mg "_law_text" = some (.ref (He.ga K "_law_text"))
  g__law_pairs : mg "_law_pairs" = some (.ref (He.ga K "_law_pairs"))
  g__law_plain : mg "_law_plain" = some (.ref (He.ga K "_law_plain"))
  g__law_loop : mg "_law_loop" = some (.ref (He.ga K "_law_loop"))
  g_law : mg "law" = some (.ref (He.ga K "law"))
  g_BranchError : mg "BranchError" = some (.ref (He.ga K "BranchError"))
  g_BadLoop : mg "BadLoop" = some (.ref (He.ga K "BadLoop"))
  g_BadList : mg "BadList" = some (.ref (He.ga K "BadList"))
  g_TooLong : mg "TooLong" = some (.ref (He.ga K "TooLong"))
  g_Endless : mg "Endless" = some (.ref (He.ga K "Endless"))
  g_NoIndex : mg "NoIndex" = some (.ref (He.ga K "NoIndex"))
  g_Pass : mg "Pass" = some (.ref (He.ga K "Pass"))
  cl_Pass : Cls K (He.ga K "Pass")
  na_Pass_item : NoAttr K (He.ga K "Pass") "item"
  na_Pass_rule : NoAttr K (He.ga K "Pass") "rule"
  na_Pass_mark : NoAttr K (He.ga K "Pass") "mark"
  na_Pass_is_broken : NoAttr K (He.ga K "Pass") "is_broken"
  in_Pass : InsTy K (He.ga K "Pass")
  ki_Pass_Repeats : PySem.W.kitOne K (.ref (He.ga K "Pass")) (.ref (He.ga K "Repeats")) = some false
  ki_Pass_Result : PySem.W.kitOne K (.ref (He.ga K "Pass")) (.ref (He.ga K "Result")) = some false
  ki_Pass_Runs : PySem.W.kitOne K (.ref (He.ga K "Pass")) (.ref (He.ga K "Runs")) = some false
  mk_Pass : Mk K (He.ga K "Pass") (a_Pass_init K)
  mt_Pass_carry_out : Meth K (He.ga K "Pass") "carry_out" (a_Pass_carry_out K)
  g_Runs : mg "Runs" = some (.ref (He.ga K "Runs"))
  cl_Runs : Cls K (He.ga K "Runs")
  na_Runs_tidied : NoAttr K (He.ga K "Runs") "tidied"
  in_Runs : InsTy K (He.ga K "Runs")
  no_Runs : NoIns K (He.ga K "Runs")
  ki_Runs_Repeats : PySem.W.kitOne K (.ref (He.ga K "Runs")) (.ref (He.ga K "Repeats")) = some false
  ki_Runs_Result : PySem.W.kitOne K (.ref (He.ga K "Runs")) (.ref (He.ga K "Result")) = some false
  ki_Runs_Runs : PySem.W.kitOne K (.ref (He.ga K "Runs")) (.ref (He.ga K "Runs")) = some true
  mk_Runs : Mk K (He.ga K "Runs") (a_Runs_init K)
  g_Repeats : mg "Repeats" = some (.ref (He.ga K "Repeats"))
  cl_Repeats : Cls K (He.ga K "Repeats")
  na_Repeats_runs : NoAttr K (He.ga K "Repeats") "runs"
  in_Repeats : InsTy K (He.ga K "Repeats")
  no_Repeats : NoIns K (He.ga K "Repeats")
  ki_Repeats_Repeats : PySem.W.kitOne K (.ref (He.ga K "Repeats")) (.ref (He.ga K "Repeats")) = some true
  ki_Repeats_Result : PySem.W.kitOne K (.ref (He.ga K "Repeats")) (.ref (He.ga K "Result")) = some false
  ki_Repeats_Runs : PySem.W.kitOne K (.ref (He.ga K "Repeats")) (.ref (He.ga K "Runs")) = some false
  mk_Repeats : Mk K (He.ga K "Repeats") (a_Repeats_init K)
  cm_Repeats_once : ∃ p mc, ClX.CRead K (He.ga K "Repeats") mc ∧ ClX.CMet K (He.ga K "Repeats") mc "once" p (a_Repeats_once K)
  pr_Repeats_length : ∃ p, PropOf K (He.ga K "Repeats") "length" p (a_Repeats_length K)
  mt_Repeats_iter : Meth K (He.ga K "Repeats") "__iter__" (a_Repeats_iter K)
  mt_Repeats_getitem : Meth K (He.ga K "Repeats") "__getitem__" (a_Repeats_getitem K)
  mt_Repeats_part : Meth K (He.ga K "Repeats") "part" (a_Repeats_part K)
  mt_Repeats_to_text : Meth K (He.ga K "Repeats") "to_text" (a_Repeats_to_text K)
  mt_Repeats_contains : Meth K (He.ga K "Repeats") "__contains__" (a_Repeats_contains K)
  mt_Repeats_add : Meth K (He.ga K "Repeats") "__add__" (a_Repeats_add K)
  ob_Repeats_add : OwnB K (He.ga K "Repeats") "add" (a_Repeats_add K)
  mt_Repeats_mul : Meth K (He.ga K "Repeats") "__mul__" (a_Repeats_mul K)
  oi_Repeats_mul : OwnI K (He.ga K "Repeats") "mul" (a_Repeats_mul K)
  mt_Repeats_eq : Meth K (He.ga K "Repeats") "__eq__" (a_Repeats_eq K)
  oe_Repeats : OwnE K (He.ga K "Repeats") (a_Repeats_eq K)
  mt_Repeats_bool : Meth K (He.ga K "Repeats") "__bool__" (a_Repeats_bool K)
  mt_Repeats_repr : Meth K (He.ga K "Repeats") "__repr__" (a_Repeats_repr K)
  g_Result : mg "Result" = some (.ref (He.ga K "Result"))
  cl_Result : Cls K (He.ga K "Result")
  na_Result_remains : NoAttr K (He.ga K "Result") "remains"
  na_Result_made : NoAttr K (He.ga K "Result") "made"
  na_Result_ended : NoAttr K (He.ga K "Result") "ended"
  in_Result : InsTy K (He.ga K "Result")
  no_Result : NoIns K (He.ga K "Result")
  ki_Result_Repeats : PySem.W.kitOne K (.ref (He.ga K "Result")) (.ref (He.ga K "Repeats")) = some false
  ki_Result_Result : PySem.W.kitOne K (.ref (He.ga K "Result")) (.ref (He.ga K "Result")) = some true
  ki_Result_Runs : PySem.W.kitOne K (.ref (He.ga K "Result")) (.ref (He.ga K "Runs")) = some false
  mk_Result : Mk K (He.ga K "Result") (a_Result_init K)
  pr_Result_text : ∃ p, PropOf K (He.ga K "Result") "text" p (a_Result_text K)
  pr_Result_passes : ∃ p, PropOf K (He.ga K "Result") "passes" p (a_Result_passes K)
  pr_Result_ways : ∃ p, PropOf K (He.ga K "Result") "ways" p (a_Result_ways K)
  mt_Result_eq : Meth K (He.ga K "Result") "__eq__" (a_Result_eq K)
  oe_Result : OwnE K (He.ga K "Result") (a_Result_eq K)
  mt_Result_repr : Meth K (He.ga K "Result") "__repr__" (a_Result_repr K)
  g_Stay : mg "Stay" = some (.ref (He.ga K "Stay"))
  cl_Stay : Cls K (He.ga K "Stay")
  na_Stay_mark : NoAttr K (He.ga K "Stay") "mark"
  na_Stay_held : NoAttr K (He.ga K "Stay") "held"
  na_Stay_is_broken : NoAttr K (He.ga K "Stay") "is_broken"
  in_Stay : InsTy K (He.ga K "Stay")
  ki_Stay_Repeats : PySem.W.kitOne K (.ref (He.ga K "Stay")) (.ref (He.ga K "Repeats")) = some false
  ki_Stay_Result : PySem.W.kitOne K (.ref (He.ga K "Stay")) (.ref (He.ga K "Result")) = some false
  ki_Stay_Runs : PySem.W.kitOne K (.ref (He.ga K "Stay")) (.ref (He.ga K "Runs")) = some false
  mk_Stay : Mk K (He.ga K "Stay") (a_Stay_init K)
  mt_Stay_key : Meth K (He.ga K "Stay") "key" (a_Stay_key K)
  g_Track : mg "Track" = some (.ref (He.ga K "Track"))
  cl_Track : Cls K (He.ga K "Track")
  na_Track_pairs : NoAttr K (He.ga K "Track") "pairs"
  na_Track_made : NoAttr K (He.ga K "Track") "made"
  in_Track : InsTy K (He.ga K "Track")
  ki_Track_Repeats : PySem.W.kitOne K (.ref (He.ga K "Track")) (.ref (He.ga K "Repeats")) = some false
  ki_Track_Result : PySem.W.kitOne K (.ref (He.ga K "Track")) (.ref (He.ga K "Result")) = some false
  ki_Track_Runs : PySem.W.kitOne K (.ref (He.ga K "Track")) (.ref (He.ga K "Runs")) = some false
  mk_Track : Mk K (He.ga K "Track") (a_Track_init K)
  mt_Track_write : Meth K (He.ga K "Track") "write" (a_Track_write K)
  mt_Track_write_round : Meth K (He.ga K "Track") "write_round" (a_Track_write_round K)
  g_Feeder : mg "Feeder" = some (.ref (He.ga K "Feeder"))
  cl_Feeder : Cls K (He.ga K "Feeder")
  na_Feeder_loop : NoAttr K (He.ga K "Feeder") "loop"
  na_Feeder_known : NoAttr K (He.ga K "Feeder") "known"
  in_Feeder : InsTy K (He.ga K "Feeder")
  ki_Feeder_Repeats : PySem.W.kitOne K (.ref (He.ga K "Feeder")) (.ref (He.ga K "Repeats")) = some false
  ki_Feeder_Result : PySem.W.kitOne K (.ref (He.ga K "Feeder")) (.ref (He.ga K "Result")) = some false
  ki_Feeder_Runs : PySem.W.kitOne K (.ref (He.ga K "Feeder")) (.ref (He.ga K "Runs")) = some false
  mk_Feeder : Mk K (He.ga K "Feeder") (a_Feeder_init K)
  mt_Feeder_feed : Meth K (He.ga K "Feeder") "feed" (a_Feeder_feed K)
  mt_Feeder_feed_text : Meth K (He.ga K "Feeder") "feed_text" (a_Feeder_feed_text K)
  mt_Feeder_feed_row : Meth K (He.ga K "Feeder") "feed_row" (a_Feeder_feed_row K)
  mt_Feeder_finish : Meth K (He.ga K "Feeder") "finish" (a_Feeder_finish K)
  d_is_integer : ∃ fd, D_is_integer K fd
  d_is_item : ∃ fd, D_is_item K fd
  d_is_text : ∃ fd, D_is_text K fd
  d_is_selection : ∃ fd, D_is_selection K fd
  d_is_edit : ∃ fd, D_is_edit K fd
  d_count_words : ∃ fd, D_count_words K fd
  d_may_follow : ∃ fd, D_may_follow K fd
  d_are_edits : ∃ fd, D_are_edits K fd
  d_is_rule : ∃ fd, D_is_rule K fd
  d_is_loop : ∃ fd, D_is_loop K fd
  d_is_program : ∃ fd, D_is_program K fd
  d_check_program : ∃ fd, D_check_program K fd
  d_fitting_rule : ∃ fd, D_fitting_rule K fd
  d_apply_edit : ∃ fd, D_apply_edit K fd
  d_Pass_init : ∃ fd, D_Pass_init K fd
  d_Pass_carry_out : ∃ fd, D_Pass_carry_out K fd
  d_is_pair : ∃ fd, D_is_pair K fd
  d_root : ∃ fd, D_root K fd
  d_tidy : ∃ fd, D_tidy K fd
  d_stretch : ∃ fd, D_stretch K fd
  d_cut : ∃ fd, D_cut K fd
  d_same_items : ∃ fd, D_same_items K fd
  d_Runs_init : ∃ fd, D_Runs_init K fd
  d_Repeats_init : ∃ fd, D_Repeats_init K fd
  d_Repeats_once : ∃ fd, D_Repeats_once K fd
  d_Repeats_length : ∃ fd, D_Repeats_length K fd
  d_Repeats_iter : ∃ fd, D_Repeats_iter K fd
  d_Repeats_getitem : ∃ fd, D_Repeats_getitem K fd
  d_Repeats_part : ∃ fd, D_Repeats_part K fd
  d_Repeats_to_text : ∃ fd, D_Repeats_to_text K fd
  d_Repeats_contains : ∃ fd, D_Repeats_contains K fd
  d_Repeats_add : ∃ fd, D_Repeats_add K fd
  d_Repeats_mul : ∃ fd, D_Repeats_mul K fd
  d_Repeats_eq : ∃ fd, D_Repeats_eq K fd
  d_Repeats_bool : ∃ fd, D_Repeats_bool K fd
  d_Repeats_repr : ∃ fd, D_Repeats_repr K fd
  d_Result_init : ∃ fd, D_Result_init K fd
  d_Result_text : ∃ fd, D_Result_text K fd
  d_Result_passes : ∃ fd, D_Result_passes K fd
  d_Result_ways : ∃ fd, D_Result_ways K fd
  d_Result_eq : ∃ fd, D_Result_eq K fd
  d_Result_repr : ∃ fd, D_Result_repr K fd
  d_Stay_init : ∃ fd, D_Stay_init K fd
  d_Stay_key : ∃ fd, D_Stay_key K fd
  d_Track_init : ∃ fd, D_Track_init K fd
  d_Track_write : ∃ fd, D_Track_write K fd
  d_Track_write_round : ∃ fd, D_Track_write_round K fd
  d_one_pass : ∃ fd, D_one_pass K fd
  d_make_passes : ∃ fd, D_make_passes K fd
  d_joined_parts : ∃ fd, D_joined_parts K fd
  d_Feeder_init : ∃ fd, D_Feeder_init K fd
  d_Feeder_feed : ∃ fd, D_Feeder_feed K fd
  d_Feeder_feed_text : ∃ fd, D_Feeder_feed_text K fd
  d_Feeder_feed_row : ∃ fd, D_Feeder_feed_row K fd
  d_Feeder_finish : ∃ fd, D_Feeder_finish K fd
  d_run_loop_far : ∃ fd, D_run_loop_far K fd
  d_run_far : ∃ fd, D_run_far K fd
  d__law_bag : ∃ fd, D__law_bag K fd
  d__law_take : ∃ fd, D__law_take K fd
  d__law_text : ∃ fd, D__law_text K fd
  d__law_pairs : ∃ fd, D__law_pairs K fd
  d__law_plain : ∃ fd, D__law_plain K fd
  d__law_loop : ∃ fd, D__law_loop K fd
  d_law : ∃ fd, D_law K fd
end OB

namespace OB
open PySem PySem.Spec PyProof.Rows L2
def hbs0 : List (PySem.W.Frag → Bool) := [fun K => (He.Fa.free "len").ok K,
  fun K => (He.Fa.free "abs").ok K,
  fun K => (He.Fa.free "all").ok K,
  fun K => (He.Fa.free "any").ok K,
  fun K => (He.Fa.free "isinstance").ok K,
  fun K => (He.Fa.free "sum").ok K,
  fun K => (He.Fa.free "max").ok K,
  fun K => (He.Fa.free "min").ok K,
  fun K => (He.Fa.free "divmod").ok K,
  fun K => (He.Fa.free "int").ok K,
  fun K => (He.Fa.free "str").ok K,
  fun K => (He.Fa.free "bool").ok K,
  fun K => (He.Fa.free "tuple").ok K,
  fun K => (He.Fa.free "list").ok K,
  fun K => (He.Fa.free "range").ok K,
  fun K => (He.Fa.free "enumerate").ok K,
  fun K => (He.Fa.str "ITEMS" "abcd").ok K,
  fun K => (He.Fa.str "END" "$").ok K,
  fun K => (He.Fa.int "MOST_RULES" 12).ok K,
  fun K => (He.Fa.int "MOST_LOOPS" 5).ok K,
  fun K => (He.Fa.int "MOST_EDITS" 4).ok K,
  fun K => (He.Fa.int "MOST_DELETIONS" 2).ok K,
  fun K => (He.Fa.int "MARKS" 4).ok K,
  fun K => (He.Fa.int "LONGEST_END" 4).ok K,
  fun K => (He.Fa.glo "EDIT_KINDS").ok K]
def hbs1 : List (PySem.W.Frag → Bool) := [fun K => tabB K (He.ga K "EDIT_KINDS") kt_EDIT_KINDS,
  fun K => (He.Fa.int "MOST_PAIRS" 50).ok K,
  fun K => (He.Fa.int "LONGEST_PART" 20).ok K,
  fun K => (He.Fa.int "LONGEST_TEXT" 2000).ok K,
  fun K => (He.Fa.int "MOST_TIMES" (10 ^ 60)).ok K,
  fun K => (He.Fa.str "END_WAY" "end").ok K,
  fun K => (He.Fa.str "BREAK_WAY" "break").ok K,
  fun K => (He.Fa.int "REACH" 3).ok K,
  fun K => (He.Fa.glo "is_integer").ok K,
  fun K => (He.Fa.glo "is_item").ok K,
  fun K => (He.Fa.glo "is_text").ok K,
  fun K => (He.Fa.glo "is_selection").ok K,
  fun K => (He.Fa.glo "is_edit").ok K,
  fun K => (He.Fa.glo "count_words").ok K,
  fun K => (He.Fa.glo "may_follow").ok K,
  fun K => (He.Fa.glo "are_edits").ok K,
  fun K => (He.Fa.glo "is_rule").ok K,
  fun K => (He.Fa.glo "is_loop").ok K,
  fun K => (He.Fa.glo "is_program").ok K,
  fun K => (He.Fa.glo "check_program").ok K,
  fun K => (He.Fa.glo "fitting_rule").ok K,
  fun K => (He.Fa.glo "apply_edit").ok K,
  fun K => (He.Fa.glo "is_pair").ok K,
  fun K => (He.Fa.glo "root").ok K,
  fun K => (He.Fa.glo "tidy").ok K]
def hbs2 : List (PySem.W.Frag → Bool) := [fun K => (He.Fa.glo "stretch").ok K,
  fun K => (He.Fa.glo "cut").ok K,
  fun K => (He.Fa.glo "same_items").ok K,
  fun K => (He.Fa.glo "one_pass").ok K,
  fun K => (He.Fa.glo "make_passes").ok K,
  fun K => (He.Fa.glo "joined_parts").ok K,
  fun K => (He.Fa.glo "run_loop_far").ok K,
  fun K => (He.Fa.glo "run_far").ok K,
  fun K => (He.Fa.glo "_law_bag").ok K,
  fun K => (He.Fa.glo "_law_take").ok K,
  fun K => (He.Fa.glo "_law_text").ok K,
  fun K => (He.Fa.glo "_law_pairs").ok K,
  fun K => (He.Fa.glo "_law_plain").ok K,
  fun K => (He.Fa.glo "_law_loop").ok K,
  fun K => (He.Fa.glo "law").ok K,
  fun K => (He.Fa.glo "BranchError").ok K,
  fun K => (He.Fa.glo "BadLoop").ok K,
  fun K => (He.Fa.glo "BadList").ok K,
  fun K => (He.Fa.glo "TooLong").ok K,
  fun K => (He.Fa.glo "Endless").ok K,
  fun K => (He.Fa.glo "NoIndex").ok K,
  fun K => (He.Fa.glo "Pass").ok K,
  fun K => (He.Fa.cls "Pass").ok K,
  fun K => (He.Fa.noat "Pass" "item").ok K,
  fun K => (He.Fa.noat "Pass" "rule").ok K]
def hbs3 : List (PySem.W.Frag → Bool) := [fun K => (He.Fa.noat "Pass" "mark").ok K,
  fun K => (He.Fa.noat "Pass" "is_broken").ok K,
  fun K => insB K "Pass",
  fun K => kitB2 K "Pass" "Repeats" false,
  fun K => kitB2 K "Pass" "Result" false,
  fun K => kitB2 K "Pass" "Runs" false,
  fun K => (He.Fa.mkr "Pass").ok K,
  fun K => (He.Fa.meth "Pass" "carry_out").ok K,
  fun K => (He.Fa.glo "Runs").ok K,
  fun K => (He.Fa.cls "Runs").ok K,
  fun K => (He.Fa.noat "Runs" "tidied").ok K,
  fun K => insB K "Runs",
  fun K => noInsB K "Runs",
  fun K => kitB2 K "Runs" "Repeats" false,
  fun K => kitB2 K "Runs" "Result" false,
  fun K => kitB2 K "Runs" "Runs" true,
  fun K => (He.Fa.mkr "Runs").ok K,
  fun K => (He.Fa.glo "Repeats").ok K,
  fun K => (He.Fa.cls "Repeats").ok K,
  fun K => (He.Fa.noat "Repeats" "runs").ok K,
  fun K => insB K "Repeats",
  fun K => noInsB K "Repeats",
  fun K => kitB2 K "Repeats" "Repeats" true,
  fun K => kitB2 K "Repeats" "Result" false,
  fun K => kitB2 K "Repeats" "Runs" false]
def hbs4 : List (PySem.W.Frag → Bool) := [fun K => (He.Fa.mkr "Repeats").ok K,
  fun K => cmB K "Repeats" "once",
  fun K => propB K "Repeats" "length",
  fun K => (He.Fa.meth "Repeats" "__iter__").ok K,
  fun K => (He.Fa.meth "Repeats" "__getitem__").ok K,
  fun K => (He.Fa.meth "Repeats" "part").ok K,
  fun K => (He.Fa.meth "Repeats" "to_text").ok K,
  fun K => (He.Fa.meth "Repeats" "__contains__").ok K,
  fun K => (He.Fa.meth "Repeats" "__add__").ok K,
  fun K => ownBB K "Repeats" "add" "__add__",
  fun K => (He.Fa.meth "Repeats" "__mul__").ok K,
  fun K => ownIB K "Repeats" "mul" "__mul__",
  fun K => (He.Fa.meth "Repeats" "__eq__").ok K,
  fun K => ownEB K "Repeats",
  fun K => (He.Fa.meth "Repeats" "__bool__").ok K,
  fun K => (He.Fa.meth "Repeats" "__repr__").ok K,
  fun K => (He.Fa.glo "Result").ok K,
  fun K => (He.Fa.cls "Result").ok K,
  fun K => (He.Fa.noat "Result" "remains").ok K,
  fun K => (He.Fa.noat "Result" "made").ok K,
  fun K => (He.Fa.noat "Result" "ended").ok K,
  fun K => insB K "Result",
  fun K => noInsB K "Result",
  fun K => kitB2 K "Result" "Repeats" false,
  fun K => kitB2 K "Result" "Result" true]
def hbs5 : List (PySem.W.Frag → Bool) := [fun K => kitB2 K "Result" "Runs" false,
  fun K => (He.Fa.mkr "Result").ok K,
  fun K => propB K "Result" "text",
  fun K => propB K "Result" "passes",
  fun K => propB K "Result" "ways",
  fun K => (He.Fa.meth "Result" "__eq__").ok K,
  fun K => ownEB K "Result",
  fun K => (He.Fa.meth "Result" "__repr__").ok K,
  fun K => (He.Fa.glo "Stay").ok K,
  fun K => (He.Fa.cls "Stay").ok K,
  fun K => (He.Fa.noat "Stay" "mark").ok K,
  fun K => (He.Fa.noat "Stay" "held").ok K,
  fun K => (He.Fa.noat "Stay" "is_broken").ok K,
  fun K => insB K "Stay",
  fun K => kitB2 K "Stay" "Repeats" false,
  fun K => kitB2 K "Stay" "Result" false,
  fun K => kitB2 K "Stay" "Runs" false,
  fun K => (He.Fa.mkr "Stay").ok K,
  fun K => (He.Fa.meth "Stay" "key").ok K,
  fun K => (He.Fa.glo "Track").ok K,
  fun K => (He.Fa.cls "Track").ok K,
  fun K => (He.Fa.noat "Track" "pairs").ok K,
  fun K => (He.Fa.noat "Track" "made").ok K,
  fun K => insB K "Track",
  fun K => kitB2 K "Track" "Repeats" false]
def hbs6 : List (PySem.W.Frag → Bool) := [fun K => kitB2 K "Track" "Result" false,
  fun K => kitB2 K "Track" "Runs" false,
  fun K => (He.Fa.mkr "Track").ok K,
  fun K => (He.Fa.meth "Track" "write").ok K,
  fun K => (He.Fa.meth "Track" "write_round").ok K,
  fun K => (He.Fa.glo "Feeder").ok K,
  fun K => (He.Fa.cls "Feeder").ok K,
  fun K => (He.Fa.noat "Feeder" "loop").ok K,
  fun K => (He.Fa.noat "Feeder" "known").ok K,
  fun K => insB K "Feeder",
  fun K => kitB2 K "Feeder" "Repeats" false,
  fun K => kitB2 K "Feeder" "Result" false,
  fun K => kitB2 K "Feeder" "Runs" false,
  fun K => (He.Fa.mkr "Feeder").ok K,
  fun K => (He.Fa.meth "Feeder" "feed").ok K,
  fun K => (He.Fa.meth "Feeder" "feed_text").ok K,
  fun K => (He.Fa.meth "Feeder" "feed_row").ok K,
  fun K => (He.Fa.meth "Feeder" "finish").ok K]
def bsA : List (PySem.W.Frag → Bool) := hbs0 ++ (hbs1 ++ (hbs2 ++ (hbs3 ++ (hbs4 ++ (hbs5 ++ (hbs6
))))))
def do_is_integer : DefO := ⟨a_is_integer, "is_integer", "is_integer", defArgs s_is_integer, defBody s_is_integer, defScope s_is_integer, [], []⟩
def do_is_item : DefO := ⟨a_is_item, "is_item", "is_item", defArgs s_is_item, defBody s_is_item, defScope s_is_item, [], []⟩
def do_is_text : DefO := ⟨a_is_text, "is_text", "is_text", defArgs s_is_text, defBody s_is_text, defScope s_is_text, [], []⟩
def do_is_selection : DefO := ⟨a_is_selection, "is_selection", "is_selection", defArgs s_is_selection, defBody s_is_selection, defScope s_is_selection, [], []⟩
def do_is_edit : DefO := ⟨a_is_edit, "is_edit", "is_edit", defArgs s_is_edit, defBody s_is_edit, defScope s_is_edit, [], []⟩
def do_count_words : DefO := ⟨a_count_words, "count_words", "count_words", defArgs s_count_words, defBody s_count_words, defScope s_count_words, [], []⟩
def do_may_follow : DefO := ⟨a_may_follow, "may_follow", "may_follow", defArgs s_may_follow, defBody s_may_follow, defScope s_may_follow, [], []⟩
def do_are_edits : DefO := ⟨a_are_edits, "are_edits", "are_edits", defArgs s_are_edits, defBody s_are_edits, defScope s_are_edits, [], []⟩
def do_is_rule : DefO := ⟨a_is_rule, "is_rule", "is_rule", defArgs s_is_rule, defBody s_is_rule, defScope s_is_rule, [], []⟩
def do_is_loop : DefO := ⟨a_is_loop, "is_loop", "is_loop", defArgs s_is_loop, defBody s_is_loop, defScope s_is_loop, [], []⟩
def do_is_program : DefO := ⟨a_is_program, "is_program", "is_program", defArgs s_is_program, defBody s_is_program, defScope s_is_program, [], []⟩
def do_check_program : DefO := ⟨a_check_program, "check_program", "check_program", defArgs s_check_program, defBody s_check_program, defScope s_check_program, [], []⟩
def do_fitting_rule : DefO := ⟨a_fitting_rule, "fitting_rule", "fitting_rule", defArgs s_fitting_rule, defBody s_fitting_rule, defScope s_fitting_rule, [], []⟩
def do_apply_edit : DefO := ⟨a_apply_edit, "apply_edit", "apply_edit", defArgs s_apply_edit, defBody s_apply_edit, defScope s_apply_edit, [], []⟩
def do_Pass_init : DefO := ⟨a_Pass_init, "__init__", "Pass.__init__", defArgs s_Pass_init, defBody s_Pass_init, defScope s_Pass_init, [], []⟩
def do_Pass_carry_out : DefO := ⟨a_Pass_carry_out, "carry_out", "Pass.carry_out", defArgs s_Pass_carry_out, defBody s_Pass_carry_out, defScope s_Pass_carry_out, [], []⟩
def do_is_pair : DefO := ⟨a_is_pair, "is_pair", "is_pair", defArgs s_is_pair, defBody s_is_pair, defScope s_is_pair, [], []⟩
def do_root : DefO := ⟨a_root, "root", "root", defArgs s_root, defBody s_root, defScope s_root, [], []⟩
def do_tidy : DefO := ⟨a_tidy, "tidy", "tidy", defArgs s_tidy, defBody s_tidy, defScope s_tidy, [], []⟩
def do_stretch : DefO := ⟨a_stretch, "stretch", "stretch", defArgs s_stretch, defBody s_stretch, defScope s_stretch, [], []⟩
def do_cut : DefO := ⟨a_cut, "cut", "cut", defArgs s_cut, defBody s_cut, defScope s_cut, [], []⟩
def do_same_items : DefO := ⟨a_same_items, "same_items", "same_items", defArgs s_same_items, defBody s_same_items, defScope s_same_items, [], []⟩
def do_Runs_init : DefO := ⟨a_Runs_init, "__init__", "Runs.__init__", defArgs s_Runs_init, defBody s_Runs_init, defScope s_Runs_init, [], []⟩
def do_Repeats_init : DefO := ⟨a_Repeats_init, "__init__", "Repeats.__init__", defArgs s_Repeats_init, defBody s_Repeats_init, defScope s_Repeats_init, [], []⟩
def do_Repeats_once : DefO := ⟨a_Repeats_once, "once", "Repeats.once", defArgs s_Repeats_once, defBody s_Repeats_once, defScope s_Repeats_once, [], []⟩
def do_Repeats_length : DefO := ⟨a_Repeats_length, "length", "Repeats.length", defArgs s_Repeats_length, defBody s_Repeats_length, defScope s_Repeats_length, [], []⟩
def do_Repeats_iter : DefO := ⟨a_Repeats_iter, "__iter__", "Repeats.__iter__", defArgs s_Repeats_iter, defBody s_Repeats_iter, defScope s_Repeats_iter, [], []⟩
def do_Repeats_getitem : DefO := ⟨a_Repeats_getitem, "__getitem__", "Repeats.__getitem__", defArgs s_Repeats_getitem, defBody s_Repeats_getitem, defScope s_Repeats_getitem, [], []⟩
def do_Repeats_part : DefO := ⟨a_Repeats_part, "part", "Repeats.part", defArgs s_Repeats_part, defBody s_Repeats_part, defScope s_Repeats_part, [], []⟩
def do_Repeats_to_text : DefO := ⟨a_Repeats_to_text, "to_text", "Repeats.to_text", defArgs s_Repeats_to_text, defBody s_Repeats_to_text, defScope s_Repeats_to_text, [], []⟩
def do_Repeats_contains : DefO := ⟨a_Repeats_contains, "__contains__", "Repeats.__contains__", defArgs s_Repeats_contains, defBody s_Repeats_contains, defScope s_Repeats_contains, [], []⟩
def do_Repeats_add : DefO := ⟨a_Repeats_add, "__add__", "Repeats.__add__", defArgs s_Repeats_add, defBody s_Repeats_add, defScope s_Repeats_add, [], []⟩
def do_Repeats_mul : DefO := ⟨a_Repeats_mul, "__mul__", "Repeats.__mul__", defArgs s_Repeats_mul, defBody s_Repeats_mul, defScope s_Repeats_mul, [], []⟩
def do_Repeats_eq : DefO := ⟨a_Repeats_eq, "__eq__", "Repeats.__eq__", defArgs s_Repeats_eq, defBody s_Repeats_eq, defScope s_Repeats_eq, [], []⟩
def do_Repeats_bool : DefO := ⟨a_Repeats_bool, "__bool__", "Repeats.__bool__", defArgs s_Repeats_bool, defBody s_Repeats_bool, defScope s_Repeats_bool, [], []⟩
def do_Repeats_repr : DefO := ⟨a_Repeats_repr, "__repr__", "Repeats.__repr__", defArgs s_Repeats_repr, defBody s_Repeats_repr, defScope s_Repeats_repr, [], []⟩
def do_Result_init : DefO := ⟨a_Result_init, "__init__", "Result.__init__", defArgs s_Result_init, defBody s_Result_init, defScope s_Result_init, [], []⟩
def do_Result_text : DefO := ⟨a_Result_text, "text", "Result.text", defArgs s_Result_text, defBody s_Result_text, defScope s_Result_text, [], []⟩
def do_Result_passes : DefO := ⟨a_Result_passes, "passes", "Result.passes", defArgs s_Result_passes, defBody s_Result_passes, defScope s_Result_passes, [], []⟩
def do_Result_ways : DefO := ⟨a_Result_ways, "ways", "Result.ways", defArgs s_Result_ways, defBody s_Result_ways, defScope s_Result_ways, [], []⟩
def do_Result_eq : DefO := ⟨a_Result_eq, "__eq__", "Result.__eq__", defArgs s_Result_eq, defBody s_Result_eq, defScope s_Result_eq, [], []⟩
def do_Result_repr : DefO := ⟨a_Result_repr, "__repr__", "Result.__repr__", defArgs s_Result_repr, defBody s_Result_repr, defScope s_Result_repr, [], []⟩
def do_Stay_init : DefO := ⟨a_Stay_init, "__init__", "Stay.__init__", defArgs s_Stay_init, defBody s_Stay_init, defScope s_Stay_init, [V.bl false], []⟩
def do_Stay_key : DefO := ⟨a_Stay_key, "key", "Stay.key", defArgs s_Stay_key, defBody s_Stay_key, defScope s_Stay_key, [], []⟩
def do_Track_init : DefO := ⟨a_Track_init, "__init__", "Track.__init__", defArgs s_Track_init, defBody s_Track_init, defScope s_Track_init, [], []⟩
def do_Track_write : DefO := ⟨a_Track_write, "write", "Track.write", defArgs s_Track_write, defBody s_Track_write, defScope s_Track_write, [V.int 1], []⟩
def do_Track_write_round : DefO := ⟨a_Track_write_round, "write_round", "Track.write_round", defArgs s_Track_write_round, defBody s_Track_write_round, defScope s_Track_write_round, [], []⟩
def do_one_pass : DefO := ⟨a_one_pass, "one_pass", "one_pass", defArgs s_one_pass, defBody s_one_pass, defScope s_one_pass, [], []⟩
def do_make_passes : DefO := ⟨a_make_passes, "make_passes", "make_passes", defArgs s_make_passes, defBody s_make_passes, defScope s_make_passes, [], []⟩
def do_joined_parts : DefO := ⟨a_joined_parts, "joined_parts", "joined_parts", defArgs s_joined_parts, defBody s_joined_parts, defScope s_joined_parts, [], []⟩
def do_Feeder_init : DefO := ⟨a_Feeder_init, "__init__", "Feeder.__init__", defArgs s_Feeder_init, defBody s_Feeder_init, defScope s_Feeder_init, [], []⟩
def do_Feeder_feed : DefO := ⟨a_Feeder_feed, "feed", "Feeder.feed", defArgs s_Feeder_feed, defBody s_Feeder_feed, defScope s_Feeder_feed, [], []⟩
def do_Feeder_feed_text : DefO := ⟨a_Feeder_feed_text, "feed_text", "Feeder.feed_text", defArgs s_Feeder_feed_text, defBody s_Feeder_feed_text, defScope s_Feeder_feed_text, [], []⟩
def do_Feeder_feed_row : DefO := ⟨a_Feeder_feed_row, "feed_row", "Feeder.feed_row", defArgs s_Feeder_feed_row, defBody s_Feeder_feed_row, defScope s_Feeder_feed_row, [], []⟩
def do_Feeder_finish : DefO := ⟨a_Feeder_finish, "finish", "Feeder.finish", defArgs s_Feeder_finish, defBody s_Feeder_finish, defScope s_Feeder_finish, [], []⟩
def do_run_loop_far : DefO := ⟨a_run_loop_far, "run_loop_far", "run_loop_far", defArgs s_run_loop_far, defBody s_run_loop_far, defScope s_run_loop_far, [], []⟩
def do_run_far : DefO := ⟨a_run_far, "run_far", "run_far", defArgs s_run_far, defBody s_run_far, defScope s_run_far, [], []⟩
def do__law_bag : DefO := ⟨a__law_bag, "_law_bag", "_law_bag", defArgs s__law_bag, defBody s__law_bag, defScope s__law_bag, [], []⟩
def do__law_take : DefO := ⟨a__law_take, "_law_take", "_law_take", defArgs s__law_take, defBody s__law_take, defScope s__law_take, [], []⟩
def do__law_text : DefO := ⟨a__law_text, "_law_text", "_law_text", defArgs s__law_text, defBody s__law_text, defScope s__law_text, [], []⟩
def do__law_pairs : DefO := ⟨a__law_pairs, "_law_pairs", "_law_pairs", defArgs s__law_pairs, defBody s__law_pairs, defScope s__law_pairs, [], []⟩
def do__law_plain : DefO := ⟨a__law_plain, "_law_plain", "_law_plain", defArgs s__law_plain, defBody s__law_plain, defScope s__law_plain, [], []⟩
def do__law_loop : DefO := ⟨a__law_loop, "_law_loop", "_law_loop", defArgs s__law_loop, defBody s__law_loop, defScope s__law_loop, [], []⟩
def do_law : DefO := ⟨a_law, "law", "law", defArgs s_law, defBody s_law, defScope s_law, [], []⟩
def hfn0 : List DefO := [do_is_integer, do_is_item, do_is_text, do_is_selection, do_is_edit, do_count_words, do_may_follow, do_are_edits, do_is_rule, do_is_loop, do_is_program, do_check_program, do_fitting_rule, do_apply_edit, do_Pass_init, do_Pass_carry_out, do_is_pair, do_root, do_tidy, do_stretch, do_cut, do_same_items, do_Runs_init, do_Repeats_init, do_Repeats_once]
def hfn1 : List DefO := [do_Repeats_length, do_Repeats_iter, do_Repeats_getitem, do_Repeats_part, do_Repeats_to_text, do_Repeats_contains, do_Repeats_add, do_Repeats_mul, do_Repeats_eq, do_Repeats_bool, do_Repeats_repr, do_Result_init, do_Result_text, do_Result_passes, do_Result_ways, do_Result_eq, do_Result_repr, do_Stay_init, do_Stay_key, do_Track_init, do_Track_write, do_Track_write_round, do_one_pass, do_make_passes, do_joined_parts]
def hfn2 : List DefO := [do_Feeder_init, do_Feeder_feed, do_Feeder_feed_text, do_Feeder_feed_row, do_Feeder_finish, do_run_loop_far, do_run_far, do__law_bag, do__law_take, do__law_text, do__law_pairs, do__law_plain, do__law_loop, do_law]
def fnA : List DefO := hfn0 ++ (hfn1 ++ (hfn2
))
def tsA : List He.Tab := [(fun K => He.ga K "EDIT_KINDS", ["put", "drop", "drop_next", "before", "after", "mark", "break"])]
def hls0 : List Str := ["_wall", "BranchError", "BadLoop", "BadList", "TooLong", "Endless", "NoIndex", "ITEMS", "END", "MOST_RULES", "MOST_LOOPS", "MOST_EDITS", "MOST_DELETIONS", "MARKS", "LONGEST_END", "EDIT_KINDS", "is_integer", "is_item", "is_text", "is_selection", "is_edit", "count_words", "may_follow", "are_edits", "is_rule", "is_loop", "is_program", "check_program", "fitting_rule", "apply_edit"]
def hls1 : List Str := ["Pass", "MOST_PAIRS", "LONGEST_PART", "LONGEST_TEXT", "MOST_TIMES", "is_pair", "root", "tidy", "stretch", "cut", "same_items", "Runs", "Repeats", "END_WAY", "BREAK_WAY", "Result", "REACH", "Stay", "Track", "one_pass", "make_passes", "joined_parts", "Feeder", "run_loop_far", "run_far", "_law_bag", "_law_take", "_law_text", "_law_pairs", "_law_plain"]
def hls2 : List Str := ["_law_loop"]
def lsA : List Str := hls0 ++ (hls1 ++ (hls2
))
abbrev hR : PySem.W.OpenRow := PySem.W.OpenLaw.row PySem.Challenge.rw_ownbranch_k66_breaks_far_on
abbrev hK : PySem.W.Hook := hookO 5 bsA fnA tsA
def hOb (s : PySem.W.SharedT) : AlO := obsOG 5 bsA fnA tsA (HandSHeadRun.getT s)
theorem hOb_eq (s : PySem.W.SharedT) : hOb s = hK.obs s.abs := obsOG_eq (HandSHeadRun.getT_eq s)
open PySem.W PySem.Calls in
theorem hRunF (w : World) : HandSHeadRun.RunEq hR (PySem.W.view hR.prog [67]) hK hOb 60000 lsA (w.withFollow "special-get-raises" false) := by
  intro os
  kernel_rfl
open PySem.W PySem.Calls in
theorem hRunT (w : World) : HandSHeadRun.RunEq hR (PySem.W.view hR.prog [67]) hK hOb 60000 lsA (w.withFollow "special-get-raises" true) := by
  intro os
  kernel_rfl
theorem hRun (w : World) : HandSHeadRun.RunEq hR (PySem.W.view hR.prog [67]) hK hOb 60000 lsA w := PySem.W.byRow2 "special-get-raises" (P := fun w => HandSHeadRun.RunEq hR (PySem.W.view hR.prog [67]) hK hOb 60000 lsA w) hRunF hRunT w
end OB

namespace OB
open PySem
/-! ### the mirror of ownbranch.loops over data -/
abbrev tl (z : Str) : List Nat := z.cps.toList
def lts : List Nat := [97, 98, 99, 100]
def ltsE : List Nat := [97, 98, 99, 100, 36]
theorem abcd_tl : tl ("abcd" : Str) = lts := by decide +kernel
theorem abcdE_tl : tl (("abcd" : Str) ++ ("$" : Str)) = ltsE := by decide +kernel
def isInteger (d : PyData) (lo hi : Int) : Bool := match d with
  | .int i => decide (lo ≤ i) && decide (i ≤ hi)
  | _ => false
def isItem : PyData → Bool
  | .str z => match tl z with
    | [c] => decide (c ∈ lts)
    | _ => false
  | _ => false
def isText : PyData → Bool
  | .str z => (tl z).all fun c => decide (c ∈ lts)
  | _ => false
def isSel (d : PyData) (al : List Nat) : Bool := match d with
  | .str z => !decide (tl z = []) && decide (tl z = al.filter fun c => decide (c ∈ tl z))
  | _ => false
/-- the head word of an edit -/
def headW : PyData → Str
  | .tuple (.str w :: _) => w
  | _ => ""
def isEdit (kt : List (Str × L2.V)) : PyData → Bool
  | .tuple (.str w :: r) => match kt.lookup w with
    | none => false
    | some k => if k = .non then decide (r.length = 0) else match r with
      | [x] => if k = .str "item" then isItem x else isInteger x 0 3
      | _ => false
  | _ => false
def countW (ws of : List Str) : Nat := (ws.filter fun x => decide (x ∈ of)).length
def mayFollow (ws : List Str) (w : Str) : Bool :=
  if 4 < ws.length + 1 ∨ 0 < countW ws ["break"] then false
  else if 1 < countW (ws ++ [w]) ["before", "after"] then false
  else decide (countW (ws ++ [w]) ["drop", "drop_next"] ≤ 2)
def areEditsL (kt : List (Str × L2.V)) : List PyData → List PyData → Bool
  | _, [] => true
  | done, e :: r => (isEdit kt e && mayFollow (done.map headW) (headW e)) && areEditsL kt (done ++ [e]) r
def areEdits (kt : List (Str × L2.V)) : PyData → Bool
  | .tuple es => areEditsL kt [] es
  | _ => false
def isMark : PyData → Bool
  | .none => true
  | d => isInteger d 0 3
def isRule (kt : List (Str × L2.V)) : PyData → Bool
  | .tuple [m, i, f, e] => isMark m && (isSel i lts && (isSel f ltsE && areEdits kt e))
  | _ => false
def isEnd : PyData → Bool
  | .str z => isText (.str z) && decide (z.length ≤ 4)
  | _ => false
def isLoop (kt : List (Str × L2.V)) : PyData → Bool
  | .tuple [.tuple rs, .tuple es] => (decide (rs.length ≤ 12) && rs.all (isRule kt)) && (decide (es.length = 4) && es.all isEnd)
  | _ => false
def isProgram (kt : List (Str × L2.V)) : PyData → Bool
  | .tuple ls => decide (ls.length ≤ 5) && ls.all (isLoop kt)
  | _ => false
/-! sizes: every text and sequence within has at most 100000 items -/
mutual
def smD : PyData → Bool
  | .str z => decide (z.length ≤ 100000)
  | .list ds => decide (ds.length ≤ 10000) && smAll ds
  | .tuple ds => decide (ds.length ≤ 10000) && smAll ds
  | _ => true
def smAll : List PyData → Bool
  | [] => true
  | d :: ds => smD d && smAll ds
end
theorem smAll_mem : ∀ {ds : List PyData} {d : PyData}, smAll ds = true → d ∈ ds → smD d = true
  | [], _, _, h => by cases h
  | e :: es, d, h, hm => by
    rw [smAll, Bool.and_eq_true] at h
    rcases List.mem_cons.mp hm with z | z
    · rw [z]; exact h.1
    · exact smAll_mem h.2 z
theorem smAll_of : ∀ {ds : List PyData}, (∀ d ∈ ds, smD d = true) → smAll ds = true
  | [], _ => rfl
  | e :: es, h => by
    rw [smAll, Bool.and_eq_true]
    exact ⟨h e List.mem_cons_self, smAll_of fun d hd => h d (List.mem_cons_of_mem _ hd)⟩
theorem smT {ds : List PyData} (h : smD (.tuple ds) = true) : ds.length ≤ 10000 ∧ ∀ d ∈ ds, smD d = true := by
  rw [smD, Bool.and_eq_true, decide_eq_true_eq] at h
  exact ⟨h.1, fun d hd => smAll_mem h.2 hd⟩
theorem smS {z : Str} (h : smD (.str z) = true) : z.length ≤ 100000 := by
  rw [smD, decide_eq_true_eq] at h
  exact h
end OB

namespace OB
open PySem PySem.Spec PyProof.Rows L2
/-! ### defs with *rest: the promise, plain calls of them -/
def PromR (P : Program) (w : World) (K : PySem.W.Frag) (mg : Str → Option Value) (base : Heap) (CX : CXT) (k : Nat) (f : Addr) (sp : Sp) : Prop :=
  FnR P w K mg base CX k f sp ∧ PySem.W.keepIn K (.ref f) = true
section
variable {X : Cx} {CX : CXT} {k : Nat} {f C : Addr} {ps : List Str} {sp : Sp} {dvs : List V} {E : XK} {x m : Str} {p pos apos : Pos} {e o : Expr} {es : List Expr} {ta : TE} {t : TA}
theorem pe_callR (G : PromR X.prog X.w X.K X.mg X.base CX k f sp) (hr : Room k X.A) (hm : X.mg x = some (.ref f)) (hx : Passes CX X E)
    (ha : PA X (e :: es) t) (hg : Gl X x := by rfl) (hdb : (x == ("__debug__" : Str)) = false := by decide) (he : starEach (e :: es) X.env = (false, eval e X.env) :: starEach es X.env := by rfl) (hpl : (backTo pos (starEach es X.env)).any (·.1) = false := by rfl) :
    PE X (.Call (.Name x p) (e :: es) [] pos) (tCall sp [] E t) :=
  { run := fun pins s σ H Q I h =>
      wpAny_Call_Name_kw
        (ld_glob I hg hm
          (PySem.W.callWith_K I.ok.mod.kin G.2
            (thn (ha.run pos pins s σ H (fun vs H1 => sp (vs ++ []) H1 Q E) I h) fun us s1 x =>
              match x with
              | Exists.intro vs (Exists.intro H1 ⟨I1, ⟨r, q⟩⟩) => ⟨Inv.kIn I1, wpAny_call (run_fnR G.1 hr hx I1 r (List.append_nil vs ▸ q))⟩)
            he hpl)
          hdb) }
end
theorem pe_gref {X : Cx} {x : Str} {a : Addr} {pos : Pos} (hg : Gl X x) (hm : X.mg x = some (.ref a)) (hd : (x == ("__debug__" : Str)) = false := by decide) : PE X (.Name x pos) (tC (.ref a)) := pe_glob hg hm rfl hd
theorem atI0 {x : V} {xs : List V} : atI (x :: xs) 0 = some x := atI_nat (j := 0) rfl
theorem atI1 {x y : V} {xs : List V} : atI (x :: y :: xs) 1 = some y := atI_nat (j := 1) rfl
theorem atI2 {x y z : V} {xs : List V} : atI (x :: y :: z :: xs) 2 = some z := atI_nat (j := 2) rfl
theorem atI3 {x y z u : V} {xs : List V} : atI (x :: y :: z :: u :: xs) 3 = some u := atI_nat (j := 3) rfl
theorem prom0D {P : Program} {w : World} {K : PySem.W.Frag} {mg : Str → Option Value} {base : Heap} {k : Nat} {f : Addr} {ps N : List Str} {sp : Sp} {x qual : Str} {params : Arguments} {body : List Stmt} {scope : Scope} {fd : FuncData} {dvs : List V} {kws : List (Str × V)}
    (F : FunD K x qual params body scope dvs kws f fd) (S : FnScope N ps scope) (len : ∀ vs H Q E, sp vs H Q E → vs.length = ps.length)
    (hbody : ∀ (cdv : Value) (A : Around) (outer : List Env) (s : Shared) (H : Hp) (vs : List V) (Q : VK) (E : XK), Room k (A.deeper (envOfC qual scope s.heap.objs.size f cdv)) → sp vs H Q E →
      ∃ t, PSs (cxOf CX0 P w K mg base N qual scope f cdv A outer s H E).nox body t ∧ t { nx := fun _ H' => Q .non H', rt := Q } (start N vs) H) :
    ∀ {dv : List V}, (∃ ds, Vals dv ds ∧ L2.Binds K fd ps ds) → Prom P w K mg base CX0 (k + 1) f ps dv sp := fun ⟨ds, v, b⟩ =>
  ⟨⟨fd, ds, F.ok S len (fun cdv A outer s H vs Q E hr h => let ⟨t, h1, h2⟩ := hbody cdv A outer s H vs Q E hr h; ⟨t, h1.nox, h2⟩), b, v⟩, F.kp⟩
theorem cxup0 : StX.CXUp CX0 := fun _ _ _ _ _ _ _ _ _ _ _ h => h
section
variable {P : Program} {w : World} {K : PySem.W.Frag} {mg : Str → Option Value} {base : Heap} {k : Nat} {f : Addr} {ps N : List Str} {sp : Sp} {x qual pv : Str} {params : Arguments} {body : List Stmt} {scope : Scope} {fd : FuncData} {dvs : List V} {kws : List (Str × V)}
theorem prom0R (F : FunD K x qual params body scope [] [] f fd) (S : FnScope N (ps ++ [pv]) scope)
    (b : ∀ kV doc pm an cdv ct, ∀ us rest : List Value, us.length = ps.length → bindArgs (PySem.W.fnOf x qual params body scope .none kV doc pm an cdv ct) { pos := us ++ rest } = (do let t ← newTuple rest; pure (ps.zip us ++ [(pv, t)])))
    (hbody : ∀ (cdv : Value) (A : Around) (outer : List Env) (s : Shared) (H : Hp) (vs : List V) (Q : VK) (E : XK), Room k (A.deeper (envOfC qual scope s.heap.objs.size f cdv)) → sp vs H Q E →
      ∃ t, PSs (cxOf CX0 P w K mg base N qual scope f cdv A outer s H E).nox body t ∧ t { nx := fun _ H' => Q .non H', rt := Q } (start N vs) H) :
    PromR P w K mg base CX0 (k + 1) f fun vs H Q E => ∃ ws rest, vs = ws ++ rest ∧ ws.length = ps.length ∧ rest.length ≤ sizeLine ∧ ∀ p, H p = none → sp (ws ++ [.ref p]) (upd H p (.tup rest)) Q E := by
  obtain ⟨⟨oc, od, dV, kV, doc, pm, an, cdv, ct, osl, rfl, lk, cd, d1, d2⟩, kp⟩ := F
  obtain ⟨_, rfl⟩ | ⟨hn, _⟩ := d1
  · exact ⟨StX.fn_star lk cd S cxup0 (b _ _ _ _ _ _) fun A outer s H vs Q E hr h => let ⟨t, h1, h2⟩ := hbody cdv A outer s H vs Q E hr h; ⟨t, h1.nox, h2⟩, kp⟩
  · exact absurd rfl hn
end
/-! ### more readings -/
section
variable {K : PySem.W.Frag} {σ : L2.St} {H : Hp} {Q : VK} {D : Ends} {te ta tb : TE}
theorem r_sl {r : V → Option Int → Option Int → Hp → VK → Prop} {a b : TO} (h : te σ H fun x H1 => a σ H1 fun l H2 => b σ H2 fun u H3 => r x l u H3 Q) : tSl r te a b σ H Q := h
theorem r_part {Q : Option Int → Hp → Prop} (h : te σ H fun x H1 => ∃ i, x = .int i ∧ Q (some i) H1) : tPart te σ H Q := h
theorem r_nopart {Q : Option Int → Hp → Prop} (h : Q none H) : tNoPart σ H Q := h
theorem r_int {F : Int → Prop} {j : Int} (h : F j) : ∃ i, V.int j = .int i ∧ F i := ⟨j, rfl, h⟩
theorem r_slT {a : Addr} {xs : List V} {lo hi : Option Int} (s : SqT K H a xs) (nw : ¬(HT.sIx xs.length 0 lo = 0 ∧ HT.sIx xs.length xs.length hi = xs.length)) (h : ∀ p, H p = none → Q (.ref p) (upd H p (.tup (cutV xs lo hi)))) : rSlAny K (.ref a) lo hi H Q := .inr (.inl ⟨a, xs, rfl, s, nw, h⟩)
theorem r_slL {a : Addr} {xs : List V} {lo hi : Option Int} (s : SqL K H a xs) (h : ∀ p, H p = none → Q (.ref p) (upd H p (.lst (cutV xs lo hi)))) : rSlAny K (.ref a) lo hi H Q := .inl ⟨a, xs, rfl, s, h⟩
theorem r_slS {z : Str} {lo hi : Option Int} (s : z.length ≤ sizeLine) (h : Q (.str (cutS z lo hi)) H) : rSlAny K (.str z) lo hi H Q := .inr (.inr ⟨z, rfl, s, h⟩)
theorem r_star {t : TA} {Q : List V → Hp → Prop} (h : te σ H fun x H1 => ∃ p xs, x = .ref p ∧ (SqT K H1 p xs ∨ SqL K H1 p xs) ∧ t σ H1 fun ys H2 => Q (xs ++ ys) H2) : StX.tStar K te t σ H Q := h
theorem r_starAt {p : Addr} {xs : List V} {F : List V → Prop} (s : SqT K H p xs ∨ SqL K H p xs) (h : F xs) : ∃ q ys, V.ref p = .ref q ∧ (SqT K H q ys ∨ SqL K H q ys) ∧ F ys := ⟨p, xs, rfl, s, h⟩
theorem r_aug {i : Nat} {ti : TIp} {x : V} (e : σ[i]? = some (some x)) (h : te σ H fun y H1 => ti x y H1 fun z H2 => D.nx (σ.set i (some z)) H2) : tAug i te ti D σ H := ⟨x, e, h⟩
theorem r_delL (h : ta σ H fun x H1 => tb σ H1 fun y H2 => ∃ l xs i k, x = .ref l ∧ y = .int i ∧ H2 l = some (.lst xs) ∧ -2 ^ 63 ≤ i ∧ i < 2 ^ 63 ∧ seqIndex? i xs.length = some k ∧ D.nx σ (upd H2 l (.lst (xs.eraseIdx k)))) : tDelL ta tb D σ H := h
theorem r_par {i j : Nat} {ta : TA} (h : ta σ H fun vs H1 => ∃ v w, vs = [v, w] ∧ D.nx ((σ.set i (some v)).set j (some w)) H1) : tPar i j ta D σ H := h
theorem r_parAt {F : V → V → Prop} {v w : V} (h : F v w) : ∃ a b, [v, w] = [a, b] ∧ F a b := ⟨v, w, rfl, h⟩
theorem r_par3 {i j l : Nat} {ta : TA} (h : ta σ H fun vs H1 => ∃ u v w, vs = [u, v, w] ∧ D.nx (((σ.set i (some u)).set j (some v)).set l (some w)) H1) : tPar3 i j l ta D σ H := h
theorem r_parAt3 {F : V → V → V → Prop} {u v w : V} (h : F u v w) : ∃ a b c, [u, v, w] = [a, b, c] ∧ F a b c := ⟨u, v, w, rfl, h⟩
theorem r_fldaug {rd : V → V → Hp → VK → Prop} {f : Str} (h : ta σ H fun x H1 => ∃ a C dx fs v, x = .ref a ∧ H1 a = some (.ins C dx fs) ∧ Cls K C ∧ NoAttr K C f ∧ fs.lookup f = some v ∧ te σ H1 fun y H2 => rd v y H2 fun z H3 => ∃ dx' fs', H3 a = some (.ins C dx' fs') ∧ fs'.length < 1000 ∧ D.nx σ (upd H3 a (.ins C dx' (putF f z fs')))) : sFldAug K ta te rd f D σ H := h
theorem r_fldaugAt {f : Str} {a C dx : Addr} {fs : List (Str × V)} {v : V} {F : Addr → Addr → List (Str × V) → V → Prop} (e : H a = some (.ins C dx fs)) (c : Cls K C) (n : NoAttr K C f) (l : fs.lookup f = some v) (h : F a C fs v) :
    ∃ a' C dx fs v, V.ref a = .ref a' ∧ H a' = some (.ins C dx fs) ∧ Cls K C ∧ NoAttr K C f ∧ fs.lookup f = some v ∧ F a' C fs v := ⟨a, C, dx, fs, v, rfl, e, c, n, l, h⟩
theorem r_methAt {C a dx : Addr} {m : Str} {fs : List (Str × V)} {F : Prop} (e : H a = some (.ins C dx fs)) (l : fs.lookup m = none) (h : F) : ∃ a' dx fs, V.ref a = .ref a' ∧ H a' = some (.ins C dx fs) ∧ fs.lookup m = none ∧ F := ⟨a, dx, fs, rfl, e, l, h⟩
theorem r_brk (h : D.bk σ H) : tBreak D σ H := h
end
/-! ### joined texts -/
theorem glued_foldl : ∀ (ys : List Str) (acc : Array Nat), (ys.foldl (fun acc p => acc ++ ((⟨#[]⟩ : Str).cps) ++ p.cps) acc).toList = acc.toList ++ (ys.map fun z => z.cps.toList).flatten
  | [], acc => by simp
  | y :: ys, acc => by
    rw [List.foldl_cons, glued_foldl ys]
    simp
theorem join_tl (ys : List Str) : (Txt.join "" ys).cps.toList = (ys.map fun z => z.cps.toList).flatten := by
  have e : ("" : Str) = ⟨#[]⟩ := by decide +kernel
  rw [e]
  cases ys with
  | nil => rfl
  | cons y r =>
    show (List.foldl (fun acc p => acc ++ ((⟨#[]⟩ : Str).cps) ++ p.cps) y.cps r).toList = _
    rw [glued_foldl]
    rfl
theorem str_ext {a b : Str} (h : a.cps.toList = b.cps.toList) : a = b := by
  cases a; cases b
  congr 1
  exact Array.toList_inj.mp h
/-! ### slices -/
theorem ixNone (n d : Nat) : HT.sIx n d none = d := rfl
theorem ixSome (n d k : Nat) : HT.sIx n d (some (k : Int)) = min k n := by
  unfold HT.sIx
  show (if (k : Int) < 0 then _ else _) = _
  rw [if_neg (by omega)]
  rfl
theorem cutV_to {xs : List V} {i : Nat} : cutV xs none (some (i : Int)) = xs.take i := by
  unfold cutV
  rw [ixNone, ixSome, List.drop_zero, Nat.sub_zero]
  by_cases h : i ≤ xs.length
  · rw [Nat.min_eq_left h]
  · rw [Nat.min_eq_right (by omega), List.take_length, List.take_of_length_le (by omega)]
theorem cutV_from {xs : List V} {i : Nat} : cutV xs (some (i : Int)) none = xs.drop i := by
  unfold cutV
  rw [ixNone, ixSome]
  by_cases h : i ≤ xs.length
  · rw [Nat.min_eq_left h, List.take_of_length_le (by rw [List.length_drop]; omega)]
  · rw [Nat.min_eq_right (by omega), Nat.sub_self, List.take_zero, List.drop_of_length_le (by omega)]
theorem cutS_tl {z : Str} {lo hi : Option Int} : (cutS z lo hi).cps.toList = (z.cps.toList.drop (HT.sIx z.length 0 lo)).take (HT.sIx z.length z.length hi - HT.sIx z.length 0 lo) := rfl
theorem cutS_to {z : Str} {i : Nat} : (cutS z none (some (i : Int))).cps.toList = z.cps.toList.take i := by
  have hz : z.length = z.cps.toList.length := rfl
  rw [cutS_tl, ixNone, ixSome, List.drop_zero, Nat.sub_zero]
  by_cases h : i ≤ z.length
  · rw [Nat.min_eq_left h]
  · rw [Nat.min_eq_right (by omega), hz, List.take_length, List.take_of_length_le (by omega)]
theorem cutS_from {z : Str} {i : Nat} : (cutS z (some (i : Int)) none).cps.toList = z.cps.toList.drop i := by
  have hz : z.length = z.cps.toList.length := rfl
  rw [cutS_tl, ixNone, ixSome]
  by_cases h : i ≤ z.length
  · rw [Nat.min_eq_left h, List.take_of_length_le (by rw [List.length_drop]; omega)]
  · rw [Nat.min_eq_right (by omega), Nat.sub_self, List.take_zero, List.drop_of_length_le (by omega)]
theorem cutS_mid {z : Str} {i j : Nat} (hj : j ≤ z.length) (hij : i ≤ j) : (cutS z (some (i : Int)) (some (j : Int))).cps.toList = (z.cps.toList.drop i).take (j - i) := by
  rw [cutS_tl, ixSome, ixSome, Nat.min_eq_left hj, Nat.min_eq_left (by omega)]
/-! ### loops -/
def ForP (J : It) (g : TG) (tb : TS) (D : Ends) (σ : L2.St) (H1 : Hp) : Prop := ∃ W : Nat → Nat → L2.St → Hp → Prop, (∃ m, W 0 m σ H1) ∧ ∀ i m σ H, W i m σ H →
  (J.stop i H ∧ D.nx σ H) ∨ (J.go i H ∧ ∃ N : L2.St → Hp → Prop, (∀ σ' H', N σ' H' → ∃ m', m' < m ∧ W (i + 1) m' σ' H') ∧ ∀ x H', J.yld i H x H' → g x σ H' fun σ2 H2 => tb { nx := N, rt := D.rt, bk := D.nx, ct := N } σ2 H2)
section
variable {K : PySem.W.Frag} {σ : L2.St} {H : Hp} {D : Ends} {te : TE} {ta : TA} {g : TG} {tb : TS} {wi : TI} {R : It → Hp → Prop} {a : Addr} {xs : List V}
theorem r_for (h : wi σ H fun J H1 => ForP J g tb D σ H1) : tFor wi g tb D σ H := h
theorem r_ienT (h : ta σ H fun vs H1 => ∃ a xs, vs = [.ref a] ∧ SqT K H1 a xs ∧ R (ItEn K 0 a) H1) : iEnT K ta σ H R := h
theorem r_forEn (hS : SqT K H a xs) (Pv : Nat → L2.St → Hp → Prop) (h0 : Pv 0 σ H) (hl : ∀ i σ H, i ≤ xs.length → Pv i σ H → SqT K H a xs)
    (hs : ∀ i x σ H T, xs[i]? = some x → Pv i σ H → H T = none → g (.ref T) σ (upd H T (.tup [.int (i : Int), x])) fun σ2 H2 => tb { nx := Pv (i + 1), rt := D.rt, bk := D.nx, ct := Pv (i + 1) } σ2 H2) (hd : ∀ σ H, Pv xs.length σ H → D.nx σ H) :
    ∃ a' xs', [V.ref a] = [V.ref a'] ∧ SqT K H a' xs' ∧ ForP (ItEn K 0 a') g tb D σ H := ⟨a, xs, rfl, hS, for_enT Pv h0 hl (fun i x σ H T h1 h2 h3 => by rw [Int.zero_add]; exact hs i x σ H T h1 h2 h3) hd⟩
theorem r_forT (hS : SqT K H a xs) (Pv : Nat → L2.St → Hp → Prop) (h0 : Pv 0 σ H) (hl : ∀ i σ H, i ≤ xs.length → Pv i σ H → SqT K H a xs)
    (hs : ∀ i x σ H, xs[i]? = some x → Pv i σ H → g x σ H fun σ2 H2 => tb { nx := Pv (i + 1), rt := D.rt, bk := D.nx, ct := Pv (i + 1) } σ2 H2) (hd : ∀ σ H, Pv xs.length σ H → D.nx σ H) :
    ∃ a', V.ref a = V.ref a' ∧ (∃ xs, SqT K H a' xs) ∧ ForP (Itt K a') g tb D σ H := ⟨a, rfl, ⟨xs, hS⟩, for_tup Pv h0 hl hs hd⟩
theorem r_forL (hS : SqL K H a xs) (Pv : Nat → L2.St → Hp → Prop) (h0 : Pv 0 σ H) (hl : ∀ i σ H, i ≤ xs.length → Pv i σ H → SqL K H a xs)
    (hs : ∀ i x σ H, xs[i]? = some x → Pv i σ H → g x σ H fun σ2 H2 => tb { nx := Pv (i + 1), rt := D.rt, bk := D.nx, ct := Pv (i + 1) } σ2 H2) (hd : ∀ σ H, Pv xs.length σ H → D.nx σ H) :
    ∃ a', V.ref a = V.ref a' ∧ (∃ xs, SqL K H a' xs) ∧ ForP (Itl K a') g tb D σ H := ⟨a, rfl, ⟨xs, hS⟩, for_list Pv h0 hl hs hd⟩
end
/-! ### divmod of a great by a small -/
theorem divP {i j : Int} (h : 0 < j) (hj : j.natAbs < 2 ^ 300) : CDivP i j := by
  refine ⟨h, ?_⟩
  have h2 : j.natAbs.log2 < 300 := PySem.Flt.log2_lt_of (by decide) hj
  have h3 : ¬ ((if j == 0 then 0 else j.natAbs.log2 / 30 + 1) > 300) := by
    split <;> omega
  unfold Builtin.divisionGoesByPylong
  simp only [h3, decide_false, Bool.false_and]
theorem r_divmod {H : Hp} {Q : VK} {i j : Int} (h : 0 < j) (hj : j.natAbs < 2 ^ 300) (q : ∀ p, H p = none → Q (.ref p) (upd H p (.tup [.int (i / j), .int (i % j)]))) : rDivmod [.int i, .int j] H Q := ⟨i, j, rfl, divP h hj, q⟩
end OB

namespace OB
open PySem PySem.Spec PyProof.Rows L2
local macro_rules | `(tactic| walk_at "hp") => `(tactic| first
  | assumption | exact upd_same | (refine look_new ?_ ?_ <;> walk_at "hp") | ((refine' look_mut (v := ?lv) ?lq ?lp ?ld); (case lq => walk_at "hp"); (case lp => walk_at "hp"); (case ld => (intro z; cases z))))
local macro_rules | `(tactic| walk_at "rd") => `(tactic| (first
  | (with_reducible first
  | refine r_seq ?_ | refine r_asg ?_ | refine r_gname ?_ | refine r_ret ?_ | refine r_retN ?_ | refine r_next ?_ | refine r_drop ?_ | refine r_if ?_
  | refine r_c ?_ | refine r_op ?_ | refine r_test ?_ | refine r_tb ?_ | refine r_bl ?_ | refine r_and ?_ | refine r_or ?_ | refine r_not ?_
  | refine r_andV ?_ | refine r_orV ?_ | refine r_notV ?_ | refine r_ifE ?_ | refine r_nil ?_ | refine r_cons ?_ | refine r_tup ?_ | refine r_lst ?_ | refine r_cb ?_ | refine r_call ?_ | refine r_sub ?_
  | refine r_addI ?_ | refine r_I0 ?_ | refine r_eqI ?_ | refine r_neI ?_ | refine r_eqS ?_ | refine r_neS ?_ | refine r_inS ?_ | refine r_inS2 ?_ | refine r_notInS2 ?_ | refine r_isNA ?_ | refine r_m1 ?_ | refine r_isstr ?_ | refine r_lc ?_ | refine r_notNA ?_ | refine r_kt ?_ | refine r_chain ?_ | refine r_gcons ?_ | refine r_gnil ?_ | refine r_fld ?_ | refine r_sfld ?_ | refine r_meth ?_ | refine r_sl ?_ | refine r_part ?_ | refine r_nopart ?_ | refine r_int ?_ | refine r_star ?_ | refine r_delL ?_ | refine r_par ?_ | refine r_parAt ?_ | refine r_par3 ?_ | refine r_parAt3 ?_ | refine r_fldaug ?_ | refine r_brk ?_ | refine r_for ?_ | refine r_ienT ?_ | refine r_make ?_ | refine r_bm ?_ | refine r_bm0 ?_ | refine iteT ?_ | refine iteF ?_)
  | ((with_reducible refine' r_var ?he ?_); (case he => rfl))
  | (with_reducible first | refine r_abs ?_ | refine r_max ?_ | refine r_min ?_)
  | ((with_reducible refine' r_lenSq ?hs ?_); (case hs => first | exact .inl (by assumption) | exact .inr (by assumption) | exact .inl (SqL.of (by walk_at "hp")) | exact .inr (SqT.of (by walk_at "hp"))))
  | ((with_reducible refine' r_mulR ?hc ?_); (case hc => decide))
  | ((with_reducible refine' r_mulL ?hc ?_); (case hc => decide))
  | ((with_reducible refine' r_mod ?hc ?_); (case hc => first | decide | assumption | omega))
  | ((with_reducible refine' r_div ?hc ?_); (case hc => first | decide | assumption | (constructor <;> first | assumption | omega)))
  | ((with_reducible refine' r_pow ?hc ?_); (case hc => first | decide | (refine ⟨by decide, by decide, by omega⟩)))
  | ((with_reducible refine' r_ixL2 ?hs ?he ?_); (case hs => exact SqL.of (by walk_at "hp")); (case he => first | rfl | exact atI0 | exact atI1 | exact atI2 | exact atI3))
  | ((with_reducible refine' r_ixT2 ?hs ?he ?_); (case hs => first | assumption | exact SqT.of (by walk_at "hp")); (case he => first | rfl | exact atI0 | exact atI1 | exact atI2 | exact atI3))
  | ((with_reducible refine' r_setL2 ?hs ?he ?_); (case hs => walk_at "hp"); (case he => rfl))
  | ((with_reducible refine' r_gtup ?hs ?he ?_); (case hs => first | assumption | exact SqT.of (by walk_at "hp")); (case he => rfl))
  | ((with_reducible refine' r_fldAt ?hs ?hc ?hn ?hl ?_); (case hs => walk_at "hp"); (case hc => walk_at "cl"); (case hn => walk_at "cl"); (case hl => rfl))
  | ((with_reducible refine' r_sfldAt ?hs ?hc ?hn ?hl ?_); (case hs => walk_at "hp"); (case hc => walk_at "cl"); (case hn => walk_at "cl"); (case hl => exact Nat.le_of_ble_eq_true rfl))
  | ((with_reducible refine' r_aug ?he ?_); (case he => rfl))
  | ((with_reducible refine' r_starAt ?hs ?_); (case hs => first | exact .inl (by assumption) | exact .inr (by assumption) | exact .inl (SqT.of (by walk_at "hp")) | exact .inr (SqL.of (by walk_at "hp"))))
  | ((with_reducible refine' r_fldaugAt ?hs ?hc ?hn ?hl ?_); (case hs => walk_at "hp"); (case hc => walk_at "cl"); (case hn => walk_at "cl"); (case hl => rfl))
  | ((with_reducible refine' r_methAt ?hs ?hl ?_); (case hs => walk_at "hp"); (case hl => rfl))
  | ((with_reducible refine' r_tyL ?hs ?_); (case hs => first | assumption | exact SqL.of (by walk_at "hp")))
  | ((with_reducible refine' r_ifT ?h ?_); (case h => rfl))
  | ((with_reducible refine' r_ifF ?h ?_); (case h => rfl))
  | ((with_reducible first | refine' r_isiInt ?hd ?_ | refine' r_isiBool ?hd ?_ | refine' r_isiStr ?hd ?_ | refine' r_isiTup ?hd ?_ | refine' r_isiLst ?hd ?_); (case hd => assumption))
  ))

/-- the bag's list -/
def BagL (g s c : Int) : List V := [.int g, .int s, .int c]
structure BagOk (g s c : Int) : Prop where
  g0 : 0 ≤ g
  s0 : 0 ≤ s
  s1 : s < 2147483648
  c0 : 0 ≤ c
def spTake : Sp := fun vs H Q _ => ∃ (a : Addr) (m g s c : Int), vs = [.ref a, .int m] ∧ 0 < m ∧ m.natAbs < 2 ^ 300 ∧ BagOk g s c ∧ H a = some (.lst (BagL g s c)) ∧
  ∀ d g' s' c', 0 ≤ d → d < m → BagOk g' s' c' → Q (.int d) (upd H a (.lst (BagL g' s' c')))
def spBag (K : PySem.W.Frag) : Sp := fun vs H Q _ => ∃ (a : Addr) (i : Nat) (ns : List Int), vs = [.ref a, .int i] ∧ i < 1000 ∧ SqL K H a (ns.map V.int) ∧
  ∀ p g s c, H p = none → BagOk g s c → Q (.ref p) (upd H p (.lst (BagL g s c)))
section
variable {P : Program} {w : World} {K : PySem.W.Frag} {mg : Str → Option Value} {base : Heap}
theorem ok_take (T : Txt w K mg) : Prom P w K mg base CX0 1 (a__law_take K) p__law_take [] spTake := by
  obtain ⟨fd, F⟩ := T.d__law_take
  have sc := sc__law_take
  refine prom0 F sc (bn__law_take F) (fun vs H Q E h => ?_) (fun cdv A outer s H vs Q E hr h => ?_)
  · obtain ⟨a, m, g, s, c, rfl, _⟩ := h
    rfl
  · obtain ⟨a, m, g, s, c, rfl, hm, hm2, B, ha, k⟩ := h
    refine ⟨_, (pss_cons (ps_if (pt_cmpR op_gt (pe_ix (iIx (P := P) (w := w) (K := K) hr.units) (pv 0) pe_int (fun _ _ => rfl)) pe_int (nomark _)) (pss_cons (ps_set (i := 2) sc.nd rfl (by first | exact Or.inl rfl | exact Or.inr rfl) (pe_op op_mod (pe_ix (iIx (P := P) (w := w) (K := K) hr.units) (pv 0) pe_int (fun _ _ => rfl)) (pv 1)))
      (pss_cons (ps_asg (pe_op op_fdivW (pe_ix (iIx (P := P) (w := w) (K := K) hr.units) (pv 0) pe_int (fun _ _ => rfl)) (pv 1)) (pg_sub (pv 0) pe_int (iSet (P := P) (w := w) hr.units)))
      (pss_one (ps_ret (pv 2))))) pss_nil)
      (pss_cons (ps_asg (pe_op (oAdd (K := K)) (pe_ix (iIx (P := P) (w := w) (K := K) hr.units) (pv 0) pe_int (fun _ _ => rfl)) pe_int) (pg_sub (pv 0) pe_int (iSet (P := P) (w := w) hr.units)))
      (pss_cons (ps_asg (pe_op op_mod (pe_op (oAdd (K := K)) (pe_op (oAdd (K := K)) (pe_op op_mulA (pe_ix (iIx (P := P) (w := w) (K := K) hr.units) (pv 0) pe_int (fun _ _ => rfl)) pe_int) (pe_op op_mulA pe_int (pe_ix (iIx (P := P) (w := w) (K := K) hr.units) (pv 0) pe_int (fun _ _ => rfl)))) pe_int) pe_int) (pg_sub (pv 0) pe_int (iSet (P := P) (w := w) hr.units)))
      (pss_one (ps_ret (pe_op op_mod (pe_op op_mod (pe_op op_pow (pe_op op_fdivW (pe_ix (iIx (P := P) (w := w) (K := K) hr.units) (pv 0) pe_int (fun _ _ => rfl)) pe_int) pe_int) pe_int) (pv 1))))))), ?_⟩
    repeat walk_at "rd"
    refine r_ite (fun c1 => ?_) (fun c1 => ?_)
    · repeat walk_at "rd"
      exact k _ _ _ _ (Int.emod_nonneg _ (by omega)) (Int.emod_lt_of_pos _ hm) ⟨Int.ediv_nonneg B.g0 (by omega), B.s0, B.s1, B.c0⟩
    · have hs := B.s0
      have hs1 := B.s1
      repeat walk_at "rd"
      rw [upd_upd]
      exact k _ _ _ _ (Int.emod_nonneg _ (by omega)) (Int.emod_lt_of_pos _ hm) ⟨B.g0, Int.emod_nonneg _ (by omega), by omega, by have := B.c0; omega⟩
theorem ok_bag (T : Txt w K mg) : Prom P w K mg base CX0 1 (a__law_bag K) p__law_bag [] (spBag K) := by
  obtain ⟨fd, F⟩ := T.d__law_bag
  have sc := sc__law_bag
  refine prom0 F sc (bn__law_bag F) (fun vs H Q E h => ?_) (fun cdv A outer s H vs Q E hr h => ?_)
  · obtain ⟨a, i, ns, rfl, _⟩ := h
    rfl
  · obtain ⟨a, i, ns, rfl, hi, hS, k⟩ := h
    refine ⟨_, (pss_cons (ps_set (i := 2) sc.nd rfl (by first | exact Or.inl rfl | exact Or.inr rfl) (pe_ifExp (pt_cmpR op_lt (pv 1) (pe_callB (cLen (K := K)) (by rfl) T.z_len (by decide +kernel) (pa_cons (pv 0) pa_nil)) (nomark _)) (pe_ix (iIx (P := P) (w := w) (K := K) hr.units) (pv 0) (pv 1) (fun _ _ => rfl)) pe_int))
      (pss_cons (ps_set (i := 3) sc.nd rfl (by first | exact Or.inl rfl | exact Or.inr rfl) (pe_ifExp (pt_cmpR op_ge (pe_callB call_absA (by rfl) T.z_abs (by decide +kernel) (pa_cons (pv 2) pa_nil)) (pe_op op_pow pe_int pe_int) (nomark _)) (pe_callB call_absA (by rfl) T.z_abs (by decide +kernel) (pa_cons (pv 2) pa_nil)) pe_int))
      (pss_one (ps_ret (pe_lst (pa_cons (pv 3) (pa_cons (pe_op (oAdd (K := K)) (pe_op op_mod (pe_op (oAdd (K := K)) (pe_op (oAdd (K := K)) (pe_op op_mulA (pe_op op_mod (pv 2) pe_int) pe_int) (pe_op op_mulA pe_int (pv 1))) pe_int) pe_int) pe_int) (pa_cons pe_int pa_nil)))))))), ?_⟩
    repeat walk_at "rd"
    rw [List.length_map]
    have fin : ∀ z : Int, ∀ g : Int, 0 ≤ g → ∀ p, H p = none → Q (.ref p) (upd H p (.lst [.int g, .int ((z % 2147483647 * 69621 + 104723 * (i : Int) + 31) % 2147483629 + 1), .int 0])) := fun z g hg p hp =>
      k p g _ 0 hp ⟨hg, by omega, by omega, by omega⟩
    refine r_ite (fun c1 => ?_) (fun c1 => ?_)
    · obtain ⟨z, hz⟩ : ∃ z, ns[i]? = some z := ⟨ns[i]'(by omega), List.getElem?_eq_getElem _⟩
      have hx : atI (ns.map V.int) (i : Int) = some (.int z) := atI_nat (by rw [List.getElem?_map, hz]; rfl)
      refine r_var rfl ?_
      repeat walk_at "rd"
      refine r_ixL2 hS hx ?_
      repeat walk_at "rd"
      refine r_ite (fun c2 => ?_) (fun c2 => ?_)
      · repeat walk_at "rd"
        exact ⟨sz1 (Nat.le_of_ble_eq_true rfl), fun p hp => fin z _ (by omega) p hp⟩
      · repeat walk_at "rd"
        exact ⟨sz1 (Nat.le_of_ble_eq_true rfl), fun p hp => fin z _ (by omega) p hp⟩
    · repeat walk_at "rd"
      exact ⟨sz1 (Nat.le_of_ble_eq_true rfl), fun p hp => fin 0 _ (by omega) p hp⟩
end
end OB

namespace OB
open PySem PySem.Spec PyProof.Rows L2
local macro_rules | `(tactic| walk_at "hp") => `(tactic| first
  | assumption | exact upd_same | (refine look_new ?_ ?_ <;> walk_at "hp") | ((refine' look_mut (v := ?lv) ?lq ?lp ?ld); (case lq => walk_at "hp"); (case lp => walk_at "hp"); (case ld => (intro z; cases z))))
local macro_rules | `(tactic| walk_at "rd") => `(tactic| (first
  | (with_reducible first
  | refine r_seq ?_ | refine r_asg ?_ | refine r_gname ?_ | refine r_ret ?_ | refine r_retN ?_ | refine r_next ?_ | refine r_drop ?_ | refine r_if ?_
  | refine r_c ?_ | refine r_op ?_ | refine r_test ?_ | refine r_tb ?_ | refine r_bl ?_ | refine r_and ?_ | refine r_or ?_ | refine r_not ?_
  | refine r_andV ?_ | refine r_orV ?_ | refine r_notV ?_ | refine r_ifE ?_ | refine r_nil ?_ | refine r_cons ?_ | refine r_tup ?_ | refine r_lst ?_ | refine r_cb ?_ | refine r_call ?_ | refine r_sub ?_
  | refine r_addI ?_ | refine r_I0 ?_ | refine r_eqI ?_ | refine r_neI ?_ | refine r_eqS ?_ | refine r_neS ?_ | refine r_inS ?_ | refine r_inS2 ?_ | refine r_notInS2 ?_ | refine r_isNA ?_ | refine r_m1 ?_ | refine r_isstr ?_ | refine r_lc ?_ | refine r_notNA ?_ | refine r_kt ?_ | refine r_chain ?_ | refine r_gcons ?_ | refine r_gnil ?_ | refine r_fld ?_ | refine r_sfld ?_ | refine r_meth ?_ | refine r_sl ?_ | refine r_part ?_ | refine r_nopart ?_ | refine r_int ?_ | refine r_star ?_ | refine r_delL ?_ | refine r_par ?_ | refine r_parAt ?_ | refine r_par3 ?_ | refine r_parAt3 ?_ | refine r_fldaug ?_ | refine r_brk ?_ | refine r_for ?_ | refine r_ienT ?_ | refine r_make ?_ | refine r_bm ?_ | refine r_bm0 ?_ | refine iteT ?_ | refine iteF ?_)
  | ((with_reducible refine' r_var ?he ?_); (case he => rfl))
  | (with_reducible first | refine r_abs ?_ | refine r_max ?_ | refine r_min ?_)
  | ((with_reducible refine' r_lenSq ?hs ?_); (case hs => first | exact .inl (by assumption) | exact .inr (by assumption) | exact .inl (SqL.of (by walk_at "hp")) | exact .inr (SqT.of (by walk_at "hp"))))
  | ((with_reducible refine' r_mulR ?hc ?_); (case hc => decide))
  | ((with_reducible refine' r_mulL ?hc ?_); (case hc => decide))
  | ((with_reducible refine' r_mod ?hc ?_); (case hc => first | decide | assumption | omega))
  | ((with_reducible refine' r_div ?hc ?_); (case hc => first | decide | assumption | (constructor <;> first | assumption | omega)))
  | ((with_reducible refine' r_pow ?hc ?_); (case hc => first | decide | (refine ⟨by decide, by decide, by omega⟩)))
  | ((with_reducible refine' r_ixL2 ?hs ?he ?_); (case hs => exact SqL.of (by walk_at "hp")); (case he => first | rfl | exact atI0 | exact atI1 | exact atI2 | exact atI3))
  | ((with_reducible refine' r_ixT2 ?hs ?he ?_); (case hs => first | assumption | exact SqT.of (by walk_at "hp")); (case he => first | rfl | exact atI0 | exact atI1 | exact atI2 | exact atI3))
  | ((with_reducible refine' r_setL2 ?hs ?he ?_); (case hs => walk_at "hp"); (case he => rfl))
  | ((with_reducible refine' r_gtup ?hs ?he ?_); (case hs => first | assumption | exact SqT.of (by walk_at "hp")); (case he => rfl))
  | ((with_reducible refine' r_fldAt ?hs ?hc ?hn ?hl ?_); (case hs => walk_at "hp"); (case hc => walk_at "cl"); (case hn => walk_at "cl"); (case hl => rfl))
  | ((with_reducible refine' r_sfldAt ?hs ?hc ?hn ?hl ?_); (case hs => walk_at "hp"); (case hc => walk_at "cl"); (case hn => walk_at "cl"); (case hl => exact Nat.le_of_ble_eq_true rfl))
  | ((with_reducible refine' r_aug ?he ?_); (case he => rfl))
  | ((with_reducible refine' r_starAt ?hs ?_); (case hs => first | exact .inl (by assumption) | exact .inr (by assumption) | exact .inl (SqT.of (by walk_at "hp")) | exact .inr (SqL.of (by walk_at "hp"))))
  | ((with_reducible refine' r_fldaugAt ?hs ?hc ?hn ?hl ?_); (case hs => walk_at "hp"); (case hc => walk_at "cl"); (case hn => walk_at "cl"); (case hl => rfl))
  | ((with_reducible refine' r_methAt ?hs ?hl ?_); (case hs => walk_at "hp"); (case hl => rfl))
  | ((with_reducible refine' r_tyL ?hs ?_); (case hs => first | assumption | exact SqL.of (by walk_at "hp")))
  | ((with_reducible refine' r_ifT ?h ?_); (case h => rfl))
  | ((with_reducible refine' r_ifF ?h ?_); (case h => rfl))
  | ((with_reducible first | refine' r_isiInt ?hd ?_ | refine' r_isiBool ?hd ?_ | refine' r_isiStr ?hd ?_ | refine' r_isiTup ?hd ?_ | refine' r_isiLst ?hd ?_); (case hd => assumption))
  ))

local macro_rules | `(tactic| walk_at "cl") => `(tactic| fail)
def spInteger (K : PySem.W.Frag) : Sp := fun vs H Q _ => ∃ v d lo hi, vs = [v, .int lo, .int hi] ∧ Dp K H v d ∧ Q (.bl (isInteger d lo hi)) H
def spItem (K : PySem.W.Frag) : Sp := fun vs H Q _ => ∃ v d, vs = [v] ∧ Dp K H v d ∧ smD d = true ∧ Q (.bl (isItem d)) H
/-- a test that only grows the heap -/
def spTest (K : PySem.W.Frag) (f : PyData → Bool) : Sp := fun vs H Q _ => ∃ v d, vs = [v] ∧ Dp K H v d ∧ smD d = true ∧ ∀ H', Same H H' → Q (.bl (f d)) H'
def spSel (K : PySem.W.Frag) : Sp := fun vs H Q _ => ∃ v d z, vs = [v, .str z] ∧ Dp K H v d ∧ smD d = true ∧ z.length ≤ 100 ∧ ∀ H', Same H H' → Q (.bl (isSel d (tl z))) H'
section
variable {P : Program} {w : World} {K : PySem.W.Frag} {mg : Str → Option Value} {base : Heap}
theorem ok_is_integer (T : Txt w K mg) : Prom P w K mg base CX0 1 (a_is_integer K) p_is_integer [] (spInteger K) := by
  obtain ⟨fd, F⟩ := T.d_is_integer
  have sc := sc_is_integer
  refine prom0 F sc (bn_is_integer F) (fun vs H Q E h => ?_) (fun cdv A outer s H vs Q E hr h => ?_)
  · obtain ⟨v, d, lo, hi, rfl, _⟩ := h
    rfl
  · obtain ⟨v, d, lo, hi, rfl, hd, k⟩ := h
    refine ⟨_, (pss_one (ps_ret (pe_and (pe_callB (cIsi (K := K)) (by rfl) T.z_isinstance (by decide +kernel) (pa_cons (pv 0) (pa_cons (pe_bltn (v := .ty "int") rfl T.z_int (by decide +kernel) rfl) pa_nil))) (pe_and (pe_not (pe_callB (cIsi (K := K)) (by rfl) T.z_isinstance (by decide +kernel) (pa_cons (pv 0) (pa_cons (pe_bltn (v := .ty "bool") rfl T.z_bool (by decide +kernel) rfl) pa_nil)))) (pe_one (pe_chain op_le op_le (pv 1) (pv 0) (pv 2))))))), ?_⟩
    repeat walk_at "rd"
    have hd2 := hd
    cases hd with
    | int i =>
      repeat walk_at "rd"
      refine r_ite (fun c => ?_) (fun c => ?_)
      · repeat walk_at "rd"
        exact q_bl (by simp [isInteger, c]) k
      · repeat walk_at "rd"
        exact q_bl (by simp [isInteger, c]) k
    | _ =>
      repeat walk_at "rd"
      exact k
theorem ok_is_item (T : Txt w K mg) : Prom P w K mg base CX0 1 (a_is_item K) p_is_item [] (spItem K) := by
  obtain ⟨fd, F⟩ := T.d_is_item
  have sc := sc_is_item
  refine prom0 F sc (bn_is_item F) (fun vs H Q E h => ?_) (fun cdv A outer s H vs Q E hr h => ?_)
  · obtain ⟨v, d, rfl, _⟩ := h
    rfl
  · obtain ⟨v, d, rfl, hd, hs, k⟩ := h
    refine ⟨_, (pss_one (ps_ret (pe_and (pe_callB (cIsi (K := K)) (by rfl) T.z_isinstance (by decide +kernel) (pa_cons (pv 0) (pa_cons (pe_bltn (v := .ty "str") rfl T.z_str (by decide +kernel) rfl) pa_nil))) (pe_and (pe_cmpR (oEq (K := K) hr.units) (pe_callB (cLen (K := K)) (by rfl) T.z_len (by decide +kernel) (pa_cons (pv 0) pa_nil)) pe_int (nomark _)) (pe_one (pe_cmpR (oIn (P := P) (w := w) (K := K) hr.units) (pv 0) (pe_ks rfl T.c_ITEMS) rfl)))))), ?_⟩
    repeat walk_at "rd"
    have hd2 := hd
    cases hd with
    | str z =>
      have hz : z.length ≤ sizeLine := sz1 (Nat.le_trans (smS hs) (by decide))
      repeat walk_at "rd"
      refine r_lenS hz ?_
      repeat walk_at "rd"
      refine r_ite (fun c => ?_) (fun c => ?_)
      · obtain ⟨x, hx⟩ : ∃ x, z = ⟨#[x]⟩ := by
          obtain ⟨⟨l⟩⟩ := z
          have h1 : l.length = 1 := by
            have : ((l.length : Nat) : Int) = 1 := c
            omega
          match l, h1 with
          | [x], _ => exact ⟨x, rfl⟩
        subst hx
        repeat walk_at "rd"
        rw [show (Str.ofString "abcd").cps.toList = lts from abcd_tl]
        exact k
      · repeat walk_at "rd"
        refine q_bl ?_ k
        rcases h : tl z with _ | ⟨x, _ | ⟨y, r⟩⟩
        · simp [isItem, h]
        · exfalso
          apply c
          have h1 : z.length = 1 := by
            have : (tl z).length = 1 := by rw [h]; rfl
            simpa [Str.length] using this
          rw [h1]
          rfl
        · simp [isItem, h]
    | _ =>
      repeat walk_at "rd"
      exact k
theorem ok_is_text (T : Txt w K mg) : Prom P w K mg base CX0 1 (a_is_text K) p_is_text [] (spTest K isText) := by
  obtain ⟨fd, F⟩ := T.d_is_text
  have sc := sc_is_text
  refine prom0 F sc (bn_is_text F) (fun vs H Q E h => ?_) (fun cdv A outer s H vs Q E hr h => ?_)
  · obtain ⟨v, d, rfl, _⟩ := h
    rfl
  · obtain ⟨v, d, rfl, hd, hs, k⟩ := h
    refine ⟨_, (pss_one (ps_ret (pe_and (pe_callB (cIsi (K := K)) (by rfl) T.z_isinstance (by decide +kernel) (pa_cons (pv 0) (pa_cons (pe_bltn (v := .ty "str") rfl T.z_str (by decide +kernel) rfl) pa_nil))) (pe_one (pe_callB (cAll (K := K) rfl) (by rfl) T.z_all (by decide +kernel) (pa_cons (pe_lc (own := [("letter", 1)]) rfl sc.nd (piA (K := K) (pv 0)) (blkOk_by (N := n_is_text) (sc := defScope s_is_text) (by decide +kernel)) (fun _ _ _ _ _ => (pg_name (i := 1) sc.nd rfl (by first | exact Or.inl rfl | exact Or.inr rfl))) (fun _ _ _ _ _ => pts_nil) (fun _ _ _ _ _ => (pe_cmpR (oIn (P := P) (w := w) (K := K) hr.units) (pv 1) (pe_ks rfl T.c_ITEMS) rfl))) pa_nil)))))), ?_⟩
    repeat walk_at "rd"
    have hd2 := hd
    cases hd with
    | str z =>
      have hz := smS hs
      repeat walk_at "rd"
      refine r_iany_s ?_
      repeat walk_at "rd"
      refine ⟨z, rfl, ?_⟩
      refine lc_pureS (σ' := fun x => [some (.str z), some x]) (keep := fun _ => true) (f := fun x => .bl (match x with
        | .str y => (tl y).all fun c => decide (c ∈ lts)
        | _ => false)) (Nat.le_trans hz (by decide)) (fun x _ => fun _ _ _ q => q) (fun x _ => rfl) (fun x _ => evst_yes) (fun x hx _ => ?_) (fun D H' _ s1 hD => ?_)
      · intro H1 e1 Q1 q1
        obtain ⟨c, hc, rfl⟩ := List.mem_map.mp hx
        repeat walk_at "rd"
        rw [show (Str.ofString "abcd").cps.toList = lts from abcd_tl]
        refine q_bl ?_ (q1 _ (Same.refl _))
        simp [tl]
      · rw [List.filter_eq_self.mpr (fun _ _ => rfl)] at hD
        repeat walk_at "rd"
        refine r_all (bs := (tl z).map fun c => decide (c ∈ lts)) (SqL.of ?_) ?_
        · rw [hD]
          congr 2
          unfold signs
          rw [List.map_map, List.map_map]
          refine List.map_congr_left fun c _ => ?_
          simp [tl]
        · refine q_bl ?_ (k H' s1)
          unfold isText
          rw [List.all_map]
          rfl
    | _ =>
      repeat walk_at "rd"
      exact k _ (Same.refl _)
end
end OB

namespace OB
open PySem PySem.Spec PyProof.Rows L2
local macro_rules | `(tactic| walk_at "hp") => `(tactic| first
  | assumption | exact upd_same | (refine look_new ?_ ?_ <;> walk_at "hp") | ((refine' look_mut (v := ?lv) ?lq ?lp ?ld); (case lq => walk_at "hp"); (case lp => walk_at "hp"); (case ld => (intro z; cases z))))
local macro_rules | `(tactic| walk_at "rd") => `(tactic| (first
  | (with_reducible first
  | refine r_seq ?_ | refine r_asg ?_ | refine r_gname ?_ | refine r_ret ?_ | refine r_retN ?_ | refine r_next ?_ | refine r_drop ?_ | refine r_if ?_
  | refine r_c ?_ | refine r_op ?_ | refine r_test ?_ | refine r_tb ?_ | refine r_bl ?_ | refine r_and ?_ | refine r_or ?_ | refine r_not ?_
  | refine r_andV ?_ | refine r_orV ?_ | refine r_notV ?_ | refine r_ifE ?_ | refine r_nil ?_ | refine r_cons ?_ | refine r_tup ?_ | refine r_lst ?_ | refine r_cb ?_ | refine r_call ?_ | refine r_sub ?_
  | refine r_addI ?_ | refine r_I0 ?_ | refine r_eqI ?_ | refine r_neI ?_ | refine r_eqS ?_ | refine r_neS ?_ | refine r_inS ?_ | refine r_inS2 ?_ | refine r_notInS2 ?_ | refine r_isNA ?_ | refine r_m1 ?_ | refine r_isstr ?_ | refine r_lc ?_ | refine r_notNA ?_ | refine r_kt ?_ | refine r_chain ?_ | refine r_gcons ?_ | refine r_gnil ?_ | refine r_fld ?_ | refine r_sfld ?_ | refine r_meth ?_ | refine r_sl ?_ | refine r_part ?_ | refine r_nopart ?_ | refine r_int ?_ | refine r_star ?_ | refine r_delL ?_ | refine r_par ?_ | refine r_parAt ?_ | refine r_par3 ?_ | refine r_parAt3 ?_ | refine r_fldaug ?_ | refine r_brk ?_ | refine r_for ?_ | refine r_ienT ?_ | refine r_make ?_ | refine r_bm ?_ | refine r_bm0 ?_ | refine iteT ?_ | refine iteF ?_)
  | ((with_reducible refine' r_var ?he ?_); (case he => rfl))
  | (with_reducible first | refine r_abs ?_ | refine r_max ?_ | refine r_min ?_)
  | ((with_reducible refine' r_lenSq ?hs ?_); (case hs => first | exact .inl (by assumption) | exact .inr (by assumption) | exact .inl (SqL.of (by walk_at "hp")) | exact .inr (SqT.of (by walk_at "hp"))))
  | ((with_reducible refine' r_mulR ?hc ?_); (case hc => decide))
  | ((with_reducible refine' r_mulL ?hc ?_); (case hc => decide))
  | ((with_reducible refine' r_mod ?hc ?_); (case hc => first | decide | assumption | omega))
  | ((with_reducible refine' r_div ?hc ?_); (case hc => first | decide | assumption | (constructor <;> first | assumption | omega)))
  | ((with_reducible refine' r_pow ?hc ?_); (case hc => first | decide | (refine ⟨by decide, by decide, by omega⟩)))
  | ((with_reducible refine' r_ixL2 ?hs ?he ?_); (case hs => exact SqL.of (by walk_at "hp")); (case he => first | rfl | exact atI0 | exact atI1 | exact atI2 | exact atI3))
  | ((with_reducible refine' r_ixT2 ?hs ?he ?_); (case hs => first | assumption | exact SqT.of (by walk_at "hp")); (case he => first | rfl | exact atI0 | exact atI1 | exact atI2 | exact atI3))
  | ((with_reducible refine' r_setL2 ?hs ?he ?_); (case hs => walk_at "hp"); (case he => rfl))
  | ((with_reducible refine' r_gtup ?hs ?he ?_); (case hs => first | assumption | exact SqT.of (by walk_at "hp")); (case he => rfl))
  | ((with_reducible refine' r_fldAt ?hs ?hc ?hn ?hl ?_); (case hs => walk_at "hp"); (case hc => walk_at "cl"); (case hn => walk_at "cl"); (case hl => rfl))
  | ((with_reducible refine' r_sfldAt ?hs ?hc ?hn ?hl ?_); (case hs => walk_at "hp"); (case hc => walk_at "cl"); (case hn => walk_at "cl"); (case hl => exact Nat.le_of_ble_eq_true rfl))
  | ((with_reducible refine' r_aug ?he ?_); (case he => rfl))
  | ((with_reducible refine' r_starAt ?hs ?_); (case hs => first | exact .inl (by assumption) | exact .inr (by assumption) | exact .inl (SqT.of (by walk_at "hp")) | exact .inr (SqL.of (by walk_at "hp"))))
  | ((with_reducible refine' r_fldaugAt ?hs ?hc ?hn ?hl ?_); (case hs => walk_at "hp"); (case hc => walk_at "cl"); (case hn => walk_at "cl"); (case hl => rfl))
  | ((with_reducible refine' r_methAt ?hs ?hl ?_); (case hs => walk_at "hp"); (case hl => rfl))
  | ((with_reducible refine' r_tyL ?hs ?_); (case hs => first | assumption | exact SqL.of (by walk_at "hp")))
  | ((with_reducible refine' r_ifT ?h ?_); (case h => rfl))
  | ((with_reducible refine' r_ifF ?h ?_); (case h => rfl))
  | ((with_reducible first | refine' r_isiInt ?hd ?_ | refine' r_isiBool ?hd ?_ | refine' r_isiStr ?hd ?_ | refine' r_isiTup ?hd ?_ | refine' r_isiLst ?hd ?_); (case hd => assumption))
  ))

local macro_rules | `(tactic| walk_at "cl") => `(tactic| fail)
/-- signs of a text as texts -/
def signS (l : List Nat) : List Str := l.map fun c => ⟨#[c]⟩
theorem signs_S (z : Str) : signs z = (signS (tl z)).map V.str := by
  unfold signs signS
  rw [List.map_map]
  rfl
theorem signS_fl (l : List Nat) : ((signS l).map fun z : Str => z.cps.toList).flatten = l := by
  induction l with
  | nil => rfl
  | cons c r ih =>
    show [c] ++ _ = _
    exact congrArg (c :: ·) ih
theorem signS_len (l : List Nat) : ((signS l).map (·.length)).sum = l.length := by
  induction l with
  | nil => rfl
  | cons c r ih =>
    show 1 + _ = _
    have e := congrArg (1 + ·) ih
    rw [List.length_cons, Nat.add_comm r.length]
    exact e
def inSign (y : Str) : V → Bool
  | .str ⟨#[c]⟩ => decide (c ∈ tl y)
  | _ => false
theorem filter_signs (y z : Str) : ((signs z).filter (inSign y)).map id = (signS ((tl z).filter fun c => decide (c ∈ tl y))).map V.str := by
  rw [List.map_id]
  unfold signs signS
  rw [List.map_map, List.filter_map]
  rfl
section
variable {P : Program} {w : World} {K : PySem.W.Frag} {mg : Str → Option Value} {base : Heap}
theorem ok_is_selection (T : Txt w K mg) : Prom P w K mg base CX0 1 (a_is_selection K) p_is_selection [] (spSel K) := by
  obtain ⟨fd, F⟩ := T.d_is_selection
  have sc := sc_is_selection
  refine prom0 F sc (bn_is_selection F) (fun vs H Q E h => ?_) (fun cdv A outer s H vs Q E hr h => ?_)
  · obtain ⟨v, d, z, rfl, _⟩ := h
    rfl
  · obtain ⟨v, d, z, rfl, hd, hs, hz, k⟩ := h
    refine ⟨_, (pss_one (ps_ret (pe_and (pe_callB (cIsi (K := K)) (by rfl) T.z_isinstance (by decide +kernel) (pa_cons (pv 0) (pa_cons (pe_bltn (v := .ty "str") rfl T.z_str (by decide +kernel) rfl) pa_nil))) (pe_and (pe_cmpR (oNe (K := K) hr.units) (pv 0) pe_str (nomark _)) (pe_one (pe_cmpR (oEq (K := K) hr.units) (pv 0) (eJoin (K := K) pe_str (pe_lc (own := [("one", 2)]) rfl sc.nd (piA (K := K) (pv 1)) (blkOk_by (N := n_is_selection) (sc := defScope s_is_selection) (by decide +kernel)) (fun _ _ _ _ _ => (pg_name (i := 2) sc.nd rfl (by first | exact Or.inl rfl | exact Or.inr rfl))) (fun _ _ _ _ _ => (pts_one (pt_cmpR (oIn (P := P) (w := w) (K := K) hr.units) (pv 2) (pv 0) rfl))) (fun _ _ _ _ _ => (pv 2)))) (nomark _))))))), ?_⟩
    repeat walk_at "rd"
    have hd2 := hd
    cases hd with
    | str y =>
      have hy := smS hs
      repeat walk_at "rd"
      refine r_iteN (fun c => ?_) (fun c => ?_)
      · refine q_bl ?_ (k _ (Same.refl _))
        rw [c]
        simp [isSel, show tl ("" : Str) = [] by decide +kernel]
      · repeat walk_at "rd"
        refine r_iany_s ?_
        repeat walk_at "rd"
        refine ⟨z, rfl, ?_⟩
        refine lc_pureS (σ' := fun x => [some (.str y), some (.str z), some x]) (keep := inSign y) (f := id) (Nat.le_trans hz (by decide)) (fun x _ => fun _ _ _ q => q) (fun x _ => rfl) (fun x hx => ?_) (fun x hx _ => ?_) (fun D H' _ s1 hD => ?_)
        · intro H1 e1 Q1 q1
          obtain ⟨c, hc, rfl⟩ := List.mem_map.mp hx
          repeat walk_at "rd"
          exact q1 _ (Same.refl _)
        · exact evs_var rfl
        · rw [filter_signs] at hD
          refine r_join (.inl (SqL.of hD)) ?_ ?_
          · rw [signS_len]
            have h1 : ((tl z).filter fun c => decide (c ∈ tl y)).length ≤ 100 := Nat.le_trans (List.length_filter_le ..) hz
            rw [show (Str.ofString "").length = 0 from by decide +kernel]
            omega
          · repeat walk_at "rd"
            refine q_bl ?_ (k _ s1)
            have hne : tl y ≠ [] := fun q => c (str_ext (by rw [show (("" : Str)).cps.toList = [] by decide +kernel]; exact q))
            have hj : tl (Txt.join (Str.ofString "") (signS ((tl z).filter fun c => decide (c ∈ tl y)))) = (tl z).filter fun c => decide (c ∈ tl y) := by
              show (Txt.join "" _).cps.toList = _
              rw [join_tl, signS_fl]
            unfold isSel
            simp only [hne, decide_false, Bool.not_false, Bool.true_and]
            refine decide_eq_decide.mpr ⟨fun q => ?_, fun q => str_ext ?_⟩
            · rw [← hj, ← q]
            · show tl y = tl _
              rw [hj]
              exact q
    | _ =>
      repeat walk_at "rd"
      exact k _ (Same.refl _)
theorem lookup_mem {l : List (Str × V)} {z : Str} {v : V} (h : l.lookup z = some v) : (z, v) ∈ l := by
  induction l with
  | nil => cases h
  | cons p r ih =>
    obtain ⟨a, b⟩ := p
    rw [List.lookup_cons] at h
    cases hk : (z == a) with
    | true =>
      rw [hk] at h
      rw [eq_of_beq hk]
      injection h with h
      rw [h]
      exact List.mem_cons_self
    | false =>
      rw [hk] at h
      exact List.mem_cons_of_mem _ (ih h)
theorem edit_kinds {z : Str} {v : V} (h : kt_EDIT_KINDS.lookup z = some v) : v = .non ∨ v = .str "item" ∨ v = .str "mark" := by
  have h2 := lookup_mem h
  simp only [kt_EDIT_KINDS, List.mem_cons, Prod.mk.injEq, List.not_mem_nil, or_false] at h2
  rcases h2 with h2 | h2 | h2 | h2 | h2 | h2 | h2 <;> simp [h2.2]
def spEdit (K : PySem.W.Frag) : Sp := spTest K (isEdit kt_EDIT_KINDS)
theorem ok_is_edit (T : Txt w K mg) : Prom P w K mg base CX0 2 (a_is_edit K) p_is_edit [] (spEdit K) := by
  obtain ⟨fd, F⟩ := T.d_is_edit
  have sc := sc_is_edit
  have G_is_item := ok_is_item (P := P) (base := base) T
  have G_is_integer := ok_is_integer (P := P) (base := base) T
  refine prom0 F sc (bn_is_edit F) (fun vs H Q E h => ?_) (fun cdv A outer s H vs Q E hr h => ?_)
  · obtain ⟨v, d, rfl, _⟩ := h
    rfl
  · obtain ⟨v, d, rfl, hd, hs, k⟩ := h
    have k0 : ∀ {b : Bool}, b = isEdit kt_EDIT_KINDS d → Q (.bl b) H := fun e => q_bl e (k _ (Same.refl _))
    refine ⟨_, (pss_cons (ps_if (PW.pt (pw_or (pt_not (pt_val (pe_callB (cIsi (K := K)) (by rfl) T.z_isinstance (by decide +kernel) (pa_cons (pv 0) (pa_cons (pe_bltn (v := .ty "tuple") rfl T.z_tuple (by decide +kernel) rfl) pa_nil))))) (pw_or (pt_cmpR (oEq (K := K) hr.units) (pe_callB (cLen (K := K)) (by rfl) T.z_len (by decide +kernel) (pa_cons (pv 0) pa_nil)) pe_int (nomark _)) (pw_or (pt_not (pt_val (pe_callB (cIsi (K := K)) (by rfl) T.z_isinstance (by decide +kernel) (pa_cons (pe_ix (iIx (P := P) (w := w) (K := K) hr.units) (pv 0) pe_int (fun _ _ => rfl)) (pa_cons (pe_bltn (v := .ty "str") rfl T.z_str (by decide +kernel) rfl) pa_nil))))) (pw_or1 (pt_cmpR (oNotInT T.t_EDIT_KINDS) (pe_ix (iIx (P := P) (w := w) (K := K) hr.units) (pv 0) pe_int (fun _ _ => rfl)) (pe_gref rfl T.g_EDIT_KINDS) rfl)))))) (pss_one (ps_ret pe_bl)) pss_nil)
      (pss_cons (ps_set (i := 1) sc.nd rfl (by first | exact Or.inl rfl | exact Or.inr rfl) (pe_ix (iIxT T.t_EDIT_KINDS) (pe_gref rfl T.g_EDIT_KINDS) (pe_ix (iIx (P := P) (w := w) (K := K) hr.units) (pv 0) pe_int (fun _ _ => rfl)) (fun _ _ => rfl)))
      (pss_cons (ps_if (pt_cmpR op_isNA (pv 1) pe_non (nomark _)) (pss_one (ps_ret (pe_cmpR (oEq (K := K) hr.units) (pe_callB (cLen (K := K)) (by rfl) T.z_len (by decide +kernel) (pa_cons (pv 0) pa_nil)) pe_int (nomark _)))) pss_nil)
      (pss_cons (ps_if (pt_cmpR (oNe (K := K) hr.units) (pe_callB (cLen (K := K)) (by rfl) T.z_len (by decide +kernel) (pa_cons (pv 0) pa_nil)) pe_int (nomark _)) (pss_one (ps_ret pe_bl)) pss_nil)
      (pss_one (ps_ret (pe_ifExp (pt_cmpR (oEq (K := K) hr.units) (pv 1) pe_str (nomark _)) (pe_callP G_is_item (hr.mono (by decide)) T.g_is_item pass0 (pa_cons (pe_ix (iIx (P := P) (w := w) (K := K) hr.units) (pv 0) pe_int (fun _ _ => rfl)) pa_nil)) (pe_callP G_is_integer (hr.mono (by decide)) T.g_is_integer pass0 (pa_cons (pe_ix (iIx (P := P) (w := w) (K := K) hr.units) (pv 0) pe_int (fun _ _ => rfl)) (pa_cons pe_int (pa_cons (pe_op op_sub (pe_ki rfl T.c_MARKS) pe_int) pa_nil))))))))))), ?_⟩
    repeat walk_at "rd"
    have hd2 := hd
    cases hd with
    | tup hS hA =>
      rename_i a xs ds
      obtain ⟨hl, hm⟩ := smT hs
      repeat walk_at "rd"
      refine r_ite (fun c => ?_) (fun c => ?_)
      · repeat walk_at "rd"
        refine k0 ?_
        cases hA with
        | nil => rfl
        | cons _ _ => exact absurd c (by simp; omega)
      · cases hA with
        | nil => exact absurd rfl c
        | cons h1 h2 =>
          rename_i x1 xs1 d1 ds1
          repeat walk_at "rd"
          have h1' := h1
          cases h1 with
          | str z =>
            repeat walk_at "rd"
            cases hk : (kt_EDIT_KINDS.lookup z) with
            | none =>
              repeat walk_at "rd"
              refine k0 ?_
              simp [isEdit, hk]
            | some kd =>
              repeat walk_at "rd"
              refine r_ixkt hk ?_
              repeat walk_at "rd"
              have hlen := DpAll.length h2
              refine r_ite (fun c2 => ?_) (fun c2 => ?_)
              · repeat walk_at "rd"
                refine k0 ?_
                simp only [isEdit, hk, c2, if_true]
                refine decide_eq_decide.mpr ?_
                rw [List.length_cons]
                omega
              · repeat walk_at "rd"
                refine r_iteN (fun c3 => ?_) (fun c3 => ?_)
                · have h3 : xs1.length = 1 := by
                    simp at c3
                    omega
                  cases h2 with
                  | nil => cases h3
                  | cons h4 h5 =>
                    cases h5 with
                    | cons _ _ => simp at h3
                    | nil =>
                      rename_i x2 d2
                      have hs2 : smD d2 = true := hm _ (by simp)
                      repeat walk_at "rd"
                      rcases edit_kinds hk with rfl | rfl | rfl
                      · exact absurd rfl c2
                      · repeat walk_at "rd"
                        refine ⟨_, _, rfl, h4, hs2, k0 ?_⟩
                        simp [isEdit, hk, show (V.str (Str.ofString "item") = V.str "item") from rfl]
                      · repeat walk_at "rd"
                        refine ⟨_, _, _, _, rfl, h4, k0 ?_⟩
                        simp [isEdit, hk, show ¬ (V.str (Str.ofString "mark") = V.str (Str.ofString "item")) from by decide +kernel]
                · repeat walk_at "rd"
                  refine k0 ?_
                  simp only [isEdit, hk, c2, if_false]
                  cases h2 with
                  | nil => rfl
                  | cons _ h5 => cases h5 with
                    | nil => exact absurd rfl c3
                    | cons _ _ => rfl
          | _ =>
            repeat walk_at "rd"
            exact k0 rfl
    | _ =>
      repeat walk_at "rd"
      exact k0 rfl
end
end OB

namespace OB
open PySem PySem.Spec PyProof.Rows L2
local macro_rules | `(tactic| walk_at "hp") => `(tactic| first
  | assumption | exact upd_same | (refine look_new ?_ ?_ <;> walk_at "hp") | ((refine' look_mut (v := ?lv) ?lq ?lp ?ld); (case lq => walk_at "hp"); (case lp => walk_at "hp"); (case ld => (intro z; cases z))))
local macro_rules | `(tactic| walk_at "rd") => `(tactic| (first
  | (with_reducible first
  | refine r_seq ?_ | refine r_asg ?_ | refine r_gname ?_ | refine r_ret ?_ | refine r_retN ?_ | refine r_next ?_ | refine r_drop ?_ | refine r_if ?_
  | refine r_c ?_ | refine r_op ?_ | refine r_test ?_ | refine r_tb ?_ | refine r_bl ?_ | refine r_and ?_ | refine r_or ?_ | refine r_not ?_
  | refine r_andV ?_ | refine r_orV ?_ | refine r_notV ?_ | refine r_ifE ?_ | refine r_nil ?_ | refine r_cons ?_ | refine r_tup ?_ | refine r_lst ?_ | refine r_cb ?_ | refine r_call ?_ | refine r_sub ?_
  | refine r_addI ?_ | refine r_I0 ?_ | refine r_eqI ?_ | refine r_neI ?_ | refine r_eqS ?_ | refine r_neS ?_ | refine r_inS ?_ | refine r_inS2 ?_ | refine r_notInS2 ?_ | refine r_isNA ?_ | refine r_m1 ?_ | refine r_isstr ?_ | refine r_lc ?_ | refine r_notNA ?_ | refine r_kt ?_ | refine r_chain ?_ | refine r_gcons ?_ | refine r_gnil ?_ | refine r_fld ?_ | refine r_sfld ?_ | refine r_meth ?_ | refine r_sl ?_ | refine r_part ?_ | refine r_nopart ?_ | refine r_int ?_ | refine r_star ?_ | refine r_delL ?_ | refine r_par ?_ | refine r_parAt ?_ | refine r_par3 ?_ | refine r_parAt3 ?_ | refine r_fldaug ?_ | refine r_brk ?_ | refine r_for ?_ | refine r_ienT ?_ | refine r_make ?_ | refine r_bm ?_ | refine r_bm0 ?_ | refine iteT ?_ | refine iteF ?_)
  | ((with_reducible refine' r_var ?he ?_); (case he => rfl))
  | (with_reducible first | refine r_abs ?_ | refine r_max ?_ | refine r_min ?_)
  | ((with_reducible refine' r_lenSq ?hs ?_); (case hs => first | exact .inl (by assumption) | exact .inr (by assumption) | exact .inl (SqL.of (by walk_at "hp")) | exact .inr (SqT.of (by walk_at "hp"))))
  | ((with_reducible refine' r_mulR ?hc ?_); (case hc => decide))
  | ((with_reducible refine' r_mulL ?hc ?_); (case hc => decide))
  | ((with_reducible refine' r_mod ?hc ?_); (case hc => first | decide | assumption | omega))
  | ((with_reducible refine' r_div ?hc ?_); (case hc => first | decide | assumption | (constructor <;> first | assumption | omega)))
  | ((with_reducible refine' r_pow ?hc ?_); (case hc => first | decide | (refine ⟨by decide, by decide, by omega⟩)))
  | ((with_reducible refine' r_ixL2 ?hs ?he ?_); (case hs => exact SqL.of (by walk_at "hp")); (case he => first | rfl | exact atI0 | exact atI1 | exact atI2 | exact atI3))
  | ((with_reducible refine' r_ixT2 ?hs ?he ?_); (case hs => first | assumption | exact SqT.of (by walk_at "hp")); (case he => first | rfl | exact atI0 | exact atI1 | exact atI2 | exact atI3))
  | ((with_reducible refine' r_setL2 ?hs ?he ?_); (case hs => walk_at "hp"); (case he => rfl))
  | ((with_reducible refine' r_gtup ?hs ?he ?_); (case hs => first | assumption | exact SqT.of (by walk_at "hp")); (case he => rfl))
  | ((with_reducible refine' r_fldAt ?hs ?hc ?hn ?hl ?_); (case hs => walk_at "hp"); (case hc => walk_at "cl"); (case hn => walk_at "cl"); (case hl => rfl))
  | ((with_reducible refine' r_sfldAt ?hs ?hc ?hn ?hl ?_); (case hs => walk_at "hp"); (case hc => walk_at "cl"); (case hn => walk_at "cl"); (case hl => exact Nat.le_of_ble_eq_true rfl))
  | ((with_reducible refine' r_aug ?he ?_); (case he => rfl))
  | ((with_reducible refine' r_starAt ?hs ?_); (case hs => first | exact .inl (by assumption) | exact .inr (by assumption) | exact .inl (SqT.of (by walk_at "hp")) | exact .inr (SqL.of (by walk_at "hp"))))
  | ((with_reducible refine' r_fldaugAt ?hs ?hc ?hn ?hl ?_); (case hs => walk_at "hp"); (case hc => walk_at "cl"); (case hn => walk_at "cl"); (case hl => rfl))
  | ((with_reducible refine' r_methAt ?hs ?hl ?_); (case hs => walk_at "hp"); (case hl => rfl))
  | ((with_reducible refine' r_tyL ?hs ?_); (case hs => first | assumption | exact SqL.of (by walk_at "hp")))
  | ((with_reducible refine' r_ifT ?h ?_); (case h => rfl))
  | ((with_reducible refine' r_ifF ?h ?_); (case h => rfl))
  | ((with_reducible first | refine' r_isiInt ?hd ?_ | refine' r_isiBool ?hd ?_ | refine' r_isiStr ?hd ?_ | refine' r_isiTup ?hd ?_ | refine' r_isiLst ?hd ?_); (case hd => assumption))
  ))

local macro_rules | `(tactic| walk_at "cl") => `(tactic| fail)
def Hd (K : PySem.W.Frag) (H : Hp) (v : V) (w : Str) : Prop := ∃ b r, v = .ref b ∧ SqT K H b (.str w :: r)
theorem Hd.same {K : PySem.W.Frag} {H H' : Hp} {v : V} {w : Str} (h : Hd K H v w) (e : Same H H') : Hd K H' v w :=
  let ⟨b, r, h1, h2⟩ := h
  ⟨b, r, h1, Same.sqt e h2⟩
theorem Dp.hd {K : PySem.W.Frag} {H : Hp} {v : V} {w : Str} {r : List PyData} (h : Dp K H v (.tuple (.str w :: r))) : Hd K H v w := by
  cases h with
  | tup h1 h2 => cases h2 with
    | cons h3 h4 => cases h3 with
      | str => exact ⟨_, _, rfl, h1⟩
theorem isEdit_head {kt : List (Str × V)} {d : PyData} (h : isEdit kt d = true) : ∃ r, d = .tuple (.str (headW d) :: r) := by
  unfold isEdit at h
  split at h
  · exact ⟨_, rfl⟩
  · cases h
theorem inV_str (w : Str) (zs : List Str) : inV (.str w) (zs.map V.str) = decide (w ∈ zs) := by
  unfold inV
  rw [List.any_map]
  induction zs with
  | nil => rfl
  | cons z r ih =>
    rw [List.any_cons, ih]
    show ((z == w) || decide (w ∈ r)) = decide (w ∈ z :: r)
    by_cases h : w = z
    · subst h; simp
    · have h2 : (z == w) = false := beq_eq_false_iff_ne.mpr (Ne.symm h)
      simp [h2, h]
def spCountB (K : PySem.W.Frag) : Sp := fun vs H Q _ => ∃ a p, ∃ qs : List (V × Str), ∃ zs : List Str, vs = [.ref a, .ref p] ∧ SqT K H a (qs.map (·.1)) ∧ qs.length ≤ 10000 ∧ (∀ q ∈ qs, Hd K H q.1 q.2) ∧ SqT K H p (zs.map V.str) ∧
  ∀ H', Same H H' → Q (.int (countW (qs.map (·.2)) zs)) H'
def spCount (K : PySem.W.Frag) : Sp := fun vs H Q E => ∃ ws rest, vs = ws ++ rest ∧ ws.length = ["edits"].length ∧ rest.length ≤ sizeLine ∧ ∀ p, H p = none → spCountB K (ws ++ [.ref p]) (upd H p (.tup rest)) Q E
section
variable {P : Program} {w : World} {K : PySem.W.Frag} {mg : Str → Option Value} {base : Heap}
theorem ok_count_words (T : Txt w K mg) : PromR P w K mg base CX0 1 (a_count_words K) (spCount K) := by
  obtain ⟨fd, F⟩ := T.d_count_words
  have sc := sc_count_words
  refine prom0R (ps := ["edits"]) (pv := "words") F sc (fun _ _ _ _ _ _ us rest hl => ?_) (fun cdv A outer s H vs Q E hr h => ?_)
  · match us, hl, rest with
    | [_], _, [] => rfl
    | [_], _, _ :: _ => rfl
  · obtain ⟨a, p, qs, zs, rfl, hS, hn, hq, hz, k⟩ := h
    refine ⟨_, (pss_one (ps_ret (pe_callB (cLen (K := K)) (by rfl) T.z_len (by decide +kernel) (pa_cons (pe_lc (own := [("edit", 2)]) rfl sc.nd (piA (K := K) (pv 0)) (blkOk_by (N := n_count_words) (sc := defScope s_count_words) (by decide +kernel)) (fun _ _ _ _ _ => (pg_name (i := 2) sc.nd rfl (by first | exact Or.inl rfl | exact Or.inr rfl))) (fun _ _ _ _ _ => (pts_one (pt_cmpR (oIn (P := P) (w := w) (K := K) hr.units) (pe_ix (iIx (P := P) (w := w) (K := K) hr.units) (pv 2) pe_int (fun _ _ => rfl)) (pv 1) rfl))) (fun _ _ _ _ _ => (pv 2))) pa_nil)))), ?_⟩
    repeat walk_at "rd"
    refine r_iany_t ?_
    repeat walk_at "rd"
    refine ⟨a, rfl, ⟨_, hS⟩, ?_⟩
    refine lc_pT (v := (·.1)) (σ' := fun q => [some (.ref a), some (.ref p), some q.1]) (keep := fun q : V × Str => decide (q.2 ∈ zs)) (f := (·.1)) hS (Nat.le_trans hn (by decide)) (fun x _ => fun _ _ _ q => by exact q) (fun x _ => rfl) (fun x hx => ?_) (fun x hx _ => evs_var rfl) (fun D H' _ s1 hD => ?_)
    · obtain ⟨b, r, hv, hb⟩ := hq x hx
      intro H1 e1 Q1 q1
      have hb1 := Same.sqt e1 hb
      have hz1 := Same.sqt e1 hz
      obtain ⟨xv, xw⟩ := x
      subst hv
      repeat walk_at "rd"
      refine r_inSq (.inr hz1) rfl ?_ ?_
      · rw [List.all_map]
        exact List.all_eq_true.mpr fun _ _ => rfl
      · rw [inV_str]
        repeat walk_at "rd"
        exact q1 _ (Same.refl _)
    · repeat walk_at "rd"
      refine Eq.mpr ?_ (k H' s1)
      congr 3
      rw [List.length_map]
      unfold countW
      rw [List.filter_map, List.length_map]
      rfl
def spFollow (K : PySem.W.Frag) : Sp := fun vs H Q _ => ∃ a v c, ∃ qs : List (V × Str), vs = [.ref a, v] ∧ SqT K H a (qs.map (·.1)) ∧ qs.length ≤ 9999 ∧ (∀ q ∈ qs, Hd K H q.1 q.2) ∧ Hd K H v c ∧
  ∀ H', Same H H' → Q (.bl (mayFollow (qs.map (·.2)) c)) H'
theorem ok_may_follow (T : Txt w K mg) : Prom P w K mg base CX0 2 (a_may_follow K) p_may_follow [] (spFollow K) := by
  obtain ⟨fd, F⟩ := T.d_may_follow
  have sc := sc_may_follow
  have G_count_words := ok_count_words (P := P) (base := base) T
  refine prom0 F sc (bn_may_follow F) (fun vs H Q E h => ?_) (fun cdv A outer s H vs Q E hr h => ?_)
  · obtain ⟨a, v, c, qs, rfl, _⟩ := h
    rfl
  · obtain ⟨a, v, c, qs, rfl, hS, hn, hq, hv, k⟩ := h
    refine ⟨_, (pss_cons (ps_set (i := 2) sc.nd rfl (by first | exact Or.inl rfl | exact Or.inr rfl) (pe_tup (paStar (K := K) (pv 0) (pa_cons (pv 1) pa_nil))))
      (pss_cons (ps_if (PW.pt (pw_or (pt_cmpR op_gt (pe_callB (cLen (K := K)) (by rfl) T.z_len (by decide +kernel) (pa_cons (pv 2) pa_nil)) (pe_ki rfl T.c_MOST_EDITS) (nomark _)) (pw_or1 (pt_cmpR op_gt (pe_callR G_count_words (hr.mono (by decide)) T.g_count_words pass0 (pa_cons (pv 0) (pa_cons pe_str pa_nil))) pe_int (nomark _))))) (pss_one (ps_ret pe_bl)) pss_nil)
      (pss_cons (ps_if (pt_cmpR op_gt (pe_callR G_count_words (hr.mono (by decide)) T.g_count_words pass0 (pa_cons (pv 2) (pa_cons pe_str (pa_cons pe_str pa_nil)))) pe_int (nomark _)) (pss_one (ps_ret pe_bl)) pss_nil)
      (pss_one (ps_ret (pe_cmpR op_le (pe_callR G_count_words (hr.mono (by decide)) T.g_count_words pass0 (pa_cons (pv 2) (pa_cons pe_str (pa_cons pe_str pa_nil)))) (pe_ki rfl T.c_MOST_DELETIONS) (nomark _))))))), ?_⟩
    repeat walk_at "rd"
    refine ⟨sz1 (by simp; omega), fun T1 hT => ?_⟩
    have s1 : Same H (upd H T1 (.tup (qs.map (·.1) ++ [v]))) := Same.new hT
    have hS2 : SqT K (upd H T1 (.tup (qs.map (·.1) ++ [v]))) T1 ((qs ++ [(v, c)]).map (·.1)) := SqT.of (by rw [upd_same]; simp)
    have hq2 : ∀ q ∈ qs ++ [(v, c)], Hd K (upd H T1 (.tup (qs.map (·.1) ++ [v]))) q.1 q.2 := by
      intro q hq3
      rcases List.mem_append.mp hq3 with z | z
      · exact (hq q z).same s1
      · rw [List.mem_singleton] at z
        rw [z]
        exact hv.same s1
    have kf : ∀ {H' : Hp} {b : Bool}, Same H H' → b = mayFollow (qs.map (·.2)) c → Q (.bl b) H' := fun s e => q_bl e (k _ s)
    generalize upd H T1 (.tup (qs.map (·.1) ++ [v])) = H1 at *
    have cnt : ∀ (X : Addr) (ps : List (V × Str)) (zs : List Str) {H2 : Hp} {F : VK} {E' : XK} {ws : List V}, Same H1 H2 → SqT K H1 X (ps.map (·.1)) → ps.length ≤ 10000 → (∀ q ∈ ps, Hd K H1 q.1 q.2) → zs.length ≤ 100 → ws = .ref X :: zs.map V.str →
        (∀ H', Same H1 H' → F (.int (countW (ps.map (·.2)) zs)) H') → spCount K ws H2 F E' := by
      intro X ps zs H2 F E' ws e1 e2 e3 e4 e5 e8 e6
      refine ⟨[.ref X], zs.map V.str, e8, rfl, by rw [List.length_map]; exact Nat.le_trans e5 (by decide), fun p hp => ?_⟩
      have e7 : Same H1 (upd H2 p (.tup (zs.map V.str))) := e1.trans (Same.new hp)
      exact ⟨X, p, ps, zs, rfl, Same.sqt e7 e2, e3, fun q h => (e4 q h).same e7, SqT.of (by rw [upd_same]), fun H' h => e6 H' (e7.trans h)⟩
    have hS1 := Same.sqt s1 hS
    have hq1 : ∀ q ∈ qs, Hd K H1 q.1 q.2 := fun q h => (hq q h).same s1
    have hl2 : (qs ++ [(v, c)]).length ≤ 10000 := by rw [List.length_append]; show _ + 1 ≤ _; omega
    have hm2 : (qs ++ [(v, c)]).map (·.2) = qs.map (·.2) ++ [c] := by rw [List.map_append]; rfl
    repeat walk_at "rd"
    have hlen : ((List.map (fun x => x.fst) (qs ++ [(v, c)])).length : Int) = ((qs.map (·.2)).length + 1 : Nat) := by simp
    rw [hlen]
    refine r_ite (fun c1 => ?_) (fun c1 => ?_)
    · repeat walk_at "rd"
      refine kf s1 ?_
      unfold mayFollow
      rw [if_pos (Or.inl (by omega))]
    · repeat walk_at "rd"
      refine cnt a qs ["break"] (Same.refl _) hS1 (by omega) hq1 (by decide) rfl fun H2 s2 => ?_
      repeat walk_at "rd"
      refine r_ite (fun c2 => ?_) (fun c2 => ?_)
      · repeat walk_at "rd"
        refine kf (s1.trans s2) ?_
        unfold mayFollow
        rw [if_pos (Or.inr (by omega))]
      · have c3 : ¬ (4 < (qs.map (·.2)).length + 1 ∨ 0 < countW (qs.map (·.2)) ["break"]) := by omega
        repeat walk_at "rd"
        refine cnt T1 (qs ++ [(v, c)]) ["before", "after"] s2 hS2 hl2 hq2 (by decide) rfl fun H3 s3 => ?_
        repeat walk_at "rd"
        rw [hm2]
        refine r_ite (fun c4 => ?_) (fun c4 => ?_)
        · repeat walk_at "rd"
          refine kf (s1.trans s3) ?_
          unfold mayFollow
          rw [if_neg c3, if_pos (by omega)]
        · repeat walk_at "rd"
          refine cnt T1 (qs ++ [(v, c)]) ["drop", "drop_next"] s3 hS2 hl2 hq2 (by decide) rfl fun H4 s4 => ?_
          repeat walk_at "rd"
          refine kf (s1.trans s4) ?_
          unfold mayFollow
          rw [if_neg c3, if_neg (by omega), hm2]
          exact decide_eq_decide.mpr (by omega)
def spEdits (K : PySem.W.Frag) : Sp := spTest K (areEdits kt_EDIT_KINDS)
theorem ok_are_edits (T : Txt w K mg) : Prom P w K mg base CX0 3 (a_are_edits K) p_are_edits [] (spEdits K) := by
  obtain ⟨fd, F⟩ := T.d_are_edits
  have sc := sc_are_edits
  have G_is_edit := ok_is_edit (P := P) (base := base) T
  have G_may_follow := ok_may_follow (P := P) (base := base) T
  refine prom0 F sc (bn_are_edits F) (fun vs H Q E h => ?_) (fun cdv A outer s H vs Q E hr h => ?_)
  · obtain ⟨v, d, rfl, _⟩ := h
    rfl
  · obtain ⟨v, d, rfl, hd, hs, k⟩ := h
    refine ⟨_, (pss_cons (ps_if (pt_not (pt_val (pe_callB (cIsi (K := K)) (by rfl) T.z_isinstance (by decide +kernel) (pa_cons (pv 0) (pa_cons (pe_bltn (v := .ty "tuple") rfl T.z_tuple (by decide +kernel) rfl) pa_nil))))) (pss_one (ps_ret pe_bl)) pss_nil)
      (pss_cons (ps_for PassesOwn.never rfl (piEnT (K := K) T.z_enumerate (pa_cons (pv 0) pa_nil)) (gTupA (K := K) (n := 2) rfl (pgs_cons (pg_name (i := 1) sc.nd rfl (by first | exact Or.inl rfl | exact Or.inr rfl)) (pgs_cons (pg_name (i := 2) sc.nd rfl (by first | exact Or.inl rfl | exact Or.inr rfl)) pgs_nil))) (pss_one (ps_if (PW.pt (pw_or (pt_not (pt_val (pe_callP G_is_edit (hr.mono (by decide)) T.g_is_edit pass0 (pa_cons (pv 2) pa_nil)))) (pw_or1 (pt_not (pt_val (pe_callP G_may_follow (hr.mono (by decide)) T.g_may_follow pass0 (pa_cons (pe_slice (iSl (K := K)) (pv 0) po_none (po_some (pv 1))) (pa_cons (pv 2) pa_nil)))))))) (pss_one (ps_ret pe_bl)) pss_nil)))
      (pss_one (ps_ret pe_bl)))), ?_⟩
    repeat walk_at "rd"
    have hd2 := hd
    cases hd with
    | tup hS hA =>
      rename_i a xs ds
      obtain ⟨hl, hm⟩ := smT hs
      repeat walk_at "rd"
      refine r_forEn hS (fun i σ H' => Same H H' ∧ (∃ p e, σ = [some (.ref a), p, e]) ∧ areEditsL kt_EDIT_KINDS [] ds = areEditsL kt_EDIT_KINDS (ds.take i) (ds.drop i) ∧ ∀ d ∈ ds.take i, isEdit kt_EDIT_KINDS d = true) ⟨Same.refl H, ⟨_, _, rfl⟩, rfl, fun d hd => by cases hd⟩ (fun i σ H' _ p => Same.sqt p.1 hS) (fun i x σ H' T1 hx p hT => ?_) (fun σ H' p => ?_)
      · obtain ⟨s1, ⟨p1, e1, rfl⟩, he, hpre⟩ := p
        obtain ⟨d, hd1, hd3⟩ := DpAll.get hA hx
        have hi : i < ds.length := (List.getElem?_eq_some_iff.mp hd1).1
        have hlx := DpAll.length hA
        have hdm : d ∈ ds := List.mem_of_getElem? hd1
        have s2 : Same H (upd H' T1 (.tup [.int (i : Int), x])) := s1.trans (Same.new hT)
        have hdrop : ds.drop i = d :: ds.drop (i + 1) := by
          rw [List.drop_eq_getElem_cons hi, (List.getElem?_eq_some_iff.mp hd1).2]
        have fin : ∀ {H2 : Hp}, Same H H2 → (isEdit kt_EDIT_KINDS d && mayFollow ((ds.take i).map headW) (headW d)) = false → Q (.bl false) H2 := fun e6 e7 => q_bl (by
          show false = areEditsL kt_EDIT_KINDS [] ds
          rw [he, hdrop, areEditsL, e7]
          rfl) (k _ e6)
        have hTa : SqT K (upd H' T1 (.tup [.int (i : Int), x])) T1 [.int (i : Int), x] := SqT.of (by rw [upd_same])
        generalize upd H' T1 (.tup [.int (i : Int), x]) = H1 at *
        repeat walk_at "rd"
        refine ⟨_, _, rfl, dp_same s2 hd3, hm d hdm, fun H2 s3 => ?_⟩
        repeat walk_at "rd"
        cases hb : isEdit kt_EDIT_KINDS d with
        | false =>
          repeat walk_at "rd"
          exact fin (s2.trans s3) (by rw [hb]; rfl)
        | true =>
          have hS3 := Same.sqt (s2.trans s3) hS
          repeat walk_at "rd"
          refine r_slT hS3 ?_ fun T2 hT2 => ?_
          · rw [ixNone, ixSome]
            omega
          · rw [cutV_to]
            have s4 : Same H (upd H2 T2 (.tup (xs.take i))) := (s2.trans s3).trans (Same.new hT2)
            obtain ⟨qs, e8, e9, e10⟩ := DpAll.zip (DpAll.take i hA)
            have hS4 : SqT K (upd H2 T2 (.tup (xs.take i))) T2 (qs.map (·.1)) := SqT.of (by rw [upd_same, e8])
            generalize upd H2 T2 (.tup (xs.take i)) = H4 at *
            repeat walk_at "rd"
            have hq : ∀ q ∈ qs, Hd K H4 q.1 (headW q.2) := by
              intro q hq
              have h1 : q.2 ∈ ds.take i := by rw [e9]; exact List.mem_map_of_mem hq
              obtain ⟨r, h2⟩ := isEdit_head (hpre _ h1)
              have h3 := dp_same s4 (e10 q hq)
              rw [h2] at h3
              exact Dp.hd h3
            have hv : Hd K H4 x (headW d) := by
              obtain ⟨r, h2⟩ := isEdit_head hb
              have h3 := dp_same s4 hd3
              rw [h2] at h3
              exact Dp.hd h3
            have e11 : (qs.map fun q => (q.1, headW q.2)).map (·.2) = (ds.take i).map headW := by
              rw [e9, List.map_map, List.map_map]
              rfl
            refine ⟨T2, x, headW d, qs.map fun q => (q.1, headW q.2), rfl, by rw [List.map_map]; exact hS4, ?_, ?_, hv, fun H5 s5 => ?_⟩
            · rw [List.length_map]
              have : qs.length = (ds.take i).length := by rw [e9, List.length_map]
              rw [this, List.length_take]
              omega
            · intro q hq2
              obtain ⟨q0, h1, rfl⟩ := List.mem_map.mp hq2
              exact hq q0 h1
            · rw [e11]
              repeat walk_at "rd"
              cases hc : mayFollow ((ds.take i).map headW) (headW d) with
              | false =>
                repeat walk_at "rd"
                exact fin (s4.trans s5) (by rw [hb, hc]; rfl)
              | true =>
                repeat walk_at "rd"
                refine ⟨s4.trans s5, ⟨_, _, rfl⟩, ?_, ?_⟩
                · rw [he, hdrop, areEditsL, hb, hc]
                  rw [take_snoc hd1]
                  rfl
                · intro d2 h2
                  rw [take_snoc hd1] at h2
                  rcases List.mem_append.mp h2 with h3 | h3
                  · exact hpre d2 h3
                  · rw [List.mem_singleton] at h3
                    rw [h3]
                    exact hb
      · obtain ⟨s1, ⟨p1, e1, rfl⟩, he, hpre⟩ := p
        repeat walk_at "rd"
        refine q_bl ?_ (k _ s1)
        show true = areEditsL kt_EDIT_KINDS [] ds
        rw [he, DpAll.length hA, List.drop_length]
        rfl
    | _ =>
      repeat walk_at "rd"
      exact k _ (Same.refl _)
end
end OB

namespace OB
open PySem PySem.Spec PyProof.Rows L2
local macro_rules | `(tactic| walk_at "hp") => `(tactic| first
  | assumption | exact upd_same | (refine look_new ?_ ?_ <;> walk_at "hp") | ((refine' look_mut (v := ?lv) ?lq ?lp ?ld); (case lq => walk_at "hp"); (case lp => walk_at "hp"); (case ld => (intro z; cases z))))
local macro_rules | `(tactic| walk_at "rd") => `(tactic| (first
  | (with_reducible first
  | refine r_seq ?_ | refine r_asg ?_ | refine r_gname ?_ | refine r_ret ?_ | refine r_retN ?_ | refine r_next ?_ | refine r_drop ?_ | refine r_if ?_
  | refine r_c ?_ | refine r_op ?_ | refine r_test ?_ | refine r_tb ?_ | refine r_bl ?_ | refine r_and ?_ | refine r_or ?_ | refine r_not ?_
  | refine r_andV ?_ | refine r_orV ?_ | refine r_notV ?_ | refine r_ifE ?_ | refine r_nil ?_ | refine r_cons ?_ | refine r_tup ?_ | refine r_lst ?_ | refine r_cb ?_ | refine r_call ?_ | refine r_sub ?_
  | refine r_addI ?_ | refine r_I0 ?_ | refine r_eqI ?_ | refine r_neI ?_ | refine r_eqS ?_ | refine r_neS ?_ | refine r_inS ?_ | refine r_inS2 ?_ | refine r_notInS2 ?_ | refine r_isNA ?_ | refine r_m1 ?_ | refine r_isstr ?_ | refine r_lc ?_ | refine r_notNA ?_ | refine r_kt ?_ | refine r_chain ?_ | refine r_gcons ?_ | refine r_gnil ?_ | refine r_fld ?_ | refine r_sfld ?_ | refine r_meth ?_ | refine r_sl ?_ | refine r_part ?_ | refine r_nopart ?_ | refine r_int ?_ | refine r_star ?_ | refine r_delL ?_ | refine r_par ?_ | refine r_parAt ?_ | refine r_par3 ?_ | refine r_parAt3 ?_ | refine r_fldaug ?_ | refine r_brk ?_ | refine r_for ?_ | refine r_ienT ?_ | refine r_make ?_ | refine r_bm ?_ | refine r_bm0 ?_ | refine iteT ?_ | refine iteF ?_)
  | ((with_reducible refine' r_var ?he ?_); (case he => rfl))
  | (with_reducible first | refine r_abs ?_ | refine r_max ?_ | refine r_min ?_)
  | ((with_reducible refine' r_lenSq ?hs ?_); (case hs => first | exact .inl (by assumption) | exact .inr (by assumption) | exact .inl (SqL.of (by walk_at "hp")) | exact .inr (SqT.of (by walk_at "hp"))))
  | ((with_reducible refine' r_mulR ?hc ?_); (case hc => decide))
  | ((with_reducible refine' r_mulL ?hc ?_); (case hc => decide))
  | ((with_reducible refine' r_mod ?hc ?_); (case hc => first | decide | assumption | omega))
  | ((with_reducible refine' r_div ?hc ?_); (case hc => first | decide | assumption | (constructor <;> first | assumption | omega)))
  | ((with_reducible refine' r_pow ?hc ?_); (case hc => first | decide | (refine ⟨by decide, by decide, by omega⟩)))
  | ((with_reducible refine' r_ixL2 ?hs ?he ?_); (case hs => exact SqL.of (by walk_at "hp")); (case he => first | rfl | exact atI0 | exact atI1 | exact atI2 | exact atI3))
  | ((with_reducible refine' r_ixT2 ?hs ?he ?_); (case hs => first | assumption | exact SqT.of (by walk_at "hp")); (case he => first | rfl | exact atI0 | exact atI1 | exact atI2 | exact atI3))
  | ((with_reducible refine' r_setL2 ?hs ?he ?_); (case hs => walk_at "hp"); (case he => rfl))
  | ((with_reducible refine' r_gtup ?hs ?he ?_); (case hs => first | assumption | exact SqT.of (by walk_at "hp")); (case he => rfl))
  | ((with_reducible refine' r_fldAt ?hs ?hc ?hn ?hl ?_); (case hs => walk_at "hp"); (case hc => walk_at "cl"); (case hn => walk_at "cl"); (case hl => rfl))
  | ((with_reducible refine' r_sfldAt ?hs ?hc ?hn ?hl ?_); (case hs => walk_at "hp"); (case hc => walk_at "cl"); (case hn => walk_at "cl"); (case hl => exact Nat.le_of_ble_eq_true rfl))
  | ((with_reducible refine' r_aug ?he ?_); (case he => rfl))
  | ((with_reducible refine' r_starAt ?hs ?_); (case hs => first | exact .inl (by assumption) | exact .inr (by assumption) | exact .inl (SqT.of (by walk_at "hp")) | exact .inr (SqL.of (by walk_at "hp"))))
  | ((with_reducible refine' r_fldaugAt ?hs ?hc ?hn ?hl ?_); (case hs => walk_at "hp"); (case hc => walk_at "cl"); (case hn => walk_at "cl"); (case hl => rfl))
  | ((with_reducible refine' r_methAt ?hs ?hl ?_); (case hs => walk_at "hp"); (case hl => rfl))
  | ((with_reducible refine' r_tyL ?hs ?_); (case hs => first | assumption | exact SqL.of (by walk_at "hp")))
  | ((with_reducible refine' r_ifT ?h ?_); (case h => rfl))
  | ((with_reducible refine' r_ifF ?h ?_); (case h => rfl))
  | ((with_reducible first | refine' r_isiInt ?hd ?_ | refine' r_isiBool ?hd ?_ | refine' r_isiStr ?hd ?_ | refine' r_isiTup ?hd ?_ | refine' r_isiLst ?hd ?_); (case hd => assumption))
  ))

local macro_rules | `(tactic| walk_at "cl") => `(tactic| fail)
def spRule (K : PySem.W.Frag) : Sp := spTest K (isRule kt_EDIT_KINDS)
def spLoop (K : PySem.W.Frag) : Sp := spTest K (isLoop kt_EDIT_KINDS)
def spProgram (K : PySem.W.Frag) : Sp := spTest K (isProgram kt_EDIT_KINDS)
theorem isLoop_len {kt : List (Str × V)} {ds : List PyData} (h : ds.length ≠ 2) : isLoop kt (.tuple ds) = false := by
  unfold isLoop
  split
  · rename_i heq
    injection heq with heq
    subst heq
    exact absurd rfl h
  · rfl
section
variable {P : Program} {w : World} {K : PySem.W.Frag} {mg : Str → Option Value} {base : Heap}
theorem ok_is_rule (T : Txt w K mg) : Prom P w K mg base CX0 4 (a_is_rule K) p_is_rule [] (spRule K) := by
  obtain ⟨fd, F⟩ := T.d_is_rule
  have sc := sc_is_rule
  have G_is_integer := ok_is_integer (P := P) (base := base) T
  have G_is_selection := ok_is_selection (P := P) (base := base) T
  have G_are_edits := ok_are_edits (P := P) (base := base) T
  refine prom0 F sc (bn_is_rule F) (fun vs H Q E h => ?_) (fun cdv A outer s H vs Q E hr h => ?_)
  · obtain ⟨v, d, rfl, _⟩ := h
    rfl
  · obtain ⟨v, d, rfl, hd, hs, k⟩ := h
    refine ⟨_, (pss_cons (ps_if (PW.pt (pw_or (pt_not (pt_val (pe_callB (cIsi (K := K)) (by rfl) T.z_isinstance (by decide +kernel) (pa_cons (pv 0) (pa_cons (pe_bltn (v := .ty "tuple") rfl T.z_tuple (by decide +kernel) rfl) pa_nil))))) (pw_or1 (pt_cmpR (oNe (K := K) hr.units) (pe_callB (cLen (K := K)) (by rfl) T.z_len (by decide +kernel) (pa_cons (pv 0) pa_nil)) pe_int (nomark _))))) (pss_one (ps_ret pe_bl)) pss_nil)
      (pss_cons (ps_asg (pv 0) (gTupA (K := K) (n := 4) rfl (pgs_cons (pg_name (i := 1) sc.nd rfl (by first | exact Or.inl rfl | exact Or.inr rfl)) (pgs_cons (pg_name (i := 2) sc.nd rfl (by first | exact Or.inl rfl | exact Or.inr rfl)) (pgs_cons (pg_name (i := 3) sc.nd rfl (by first | exact Or.inl rfl | exact Or.inr rfl)) (pgs_cons (pg_name (i := 4) sc.nd rfl (by first | exact Or.inl rfl | exact Or.inr rfl)) pgs_nil))))))
      (pss_cons (ps_if (PW.pt (pw_and (pt_cmpR op_notNA (pv 1) pe_non (nomark _)) (pw_and1 (pt_not (pt_val (pe_callP G_is_integer (hr.mono (by decide)) T.g_is_integer pass0 (pa_cons (pv 1) (pa_cons pe_int (pa_cons (pe_op op_sub (pe_ki rfl T.c_MARKS) pe_int) pa_nil))))))))) (pss_one (ps_ret pe_bl)) pss_nil)
      (pss_one (ps_ret (pe_and (pe_callP G_is_selection (hr.mono (by decide)) T.g_is_selection pass0 (pa_cons (pv 2) (pa_cons (pe_ks rfl T.c_ITEMS) pa_nil))) (pe_and (pe_callP G_is_selection (hr.mono (by decide)) T.g_is_selection pass0 (pa_cons (pv 3) (pa_cons (pe_op (oAdd (K := K)) (pe_ks rfl T.c_ITEMS) (pe_ks rfl T.c_END)) pa_nil))) (pe_one (pe_callP G_are_edits (hr.mono (by decide)) T.g_are_edits pass0 (pa_cons (pv 4) pa_nil)))))))))), ?_⟩
    repeat walk_at "rd"
    have hd2 := hd
    have k0 : ∀ {b : Bool}, b = isRule kt_EDIT_KINDS d → Q (.bl b) H := fun e => q_bl e (k _ (Same.refl _))
    cases hd with
    | tup hS hA =>
      rename_i a xs ds
      obtain ⟨hl, hm⟩ := smT hs
      repeat walk_at "rd"
      have hlen := DpAll.length hA
      refine r_iteN (fun c => ?_) (fun c => ?_)
      · have c4 : ds.length = 4 := by omega
        match ds, c4 with
        | [dm, di, df, de], _ =>
          cases hA with
          | cons h1 hA => cases hA with
            | cons h2 hA => cases hA with
              | cons h3 hA => cases hA with
                | cons h4 hA => cases hA with
                  | nil =>
                    rename_i m i f e
                    repeat walk_at "rd"
                    have sel : isMark dm = true → ∀ {σ : L2.St}, σ[3]? = some (some f) → σ[4]? = some (some e) → spSel K ([i, .str "abcd"] ++ []) H (fun x H1 => ∃ c, x = .bl c ∧ if c = true then tAndV (tCall (spSel K) [] E0 (tCons (tVar 3) (tCons (tOp (rAddA K) (tC (V.str "abcd")) (tC (V.str "$"))) tNil))) (tCall (spEdits K) [] E0 (tCons (tVar 4) tNil)) σ H1 Q else Q (.bl false) H1) E0 := by
                      intro em σ e3 e4
                      refine ⟨_, _, _, rfl, h2, hm _ (by simp), by decide +kernel, fun H1 s1 => ?_⟩
                      rw [abcd_tl]
                      repeat walk_at "rd"
                      refine r_iteb (fun c1 => ?_) (fun c1 => ?_)
                      · refine r_andV (r_call (r_cons (r_var e3 ?_)))
                        repeat walk_at "rd"
                        refine r_addS (by decide +kernel) ?_
                        repeat walk_at "rd"
                        refine ⟨_, _, _, rfl, dp_same s1 h3, hm _ (by simp), by decide +kernel, fun H2 s2 => ?_⟩
                        rw [abcdE_tl]
                        repeat walk_at "rd"
                        refine r_iteb (fun c2 => ?_) (fun c2 => ?_)
                        · refine r_call (r_cons (r_var e4 ?_))
                          repeat walk_at "rd"
                          refine ⟨_, _, rfl, dp_same (s1.trans s2) h4, hm _ (by simp), fun H3 s3 => ?_⟩
                          refine q_bl ?_ (k _ ((s1.trans s2).trans s3))
                          simp [isRule, em, c1, c2]
                        · refine q_bl ?_ (k _ (s1.trans s2))
                          simp [isRule, em, c1, c2]
                      · refine q_bl ?_ (k _ s1)
                        simp [isRule, em, c1]
                    have hint : ∀ {F : VK} {E' : XK}, F (.bl (isInteger dm 0 3)) H → spInteger K [m, .int 0, .int 3] H F E' := fun q => ⟨_, _, _, _, rfl, h1, q⟩
                    have h1' := h1
                    cases h1 with
                    | non =>
                      repeat walk_at "rd"
                      exact sel rfl rfl rfl
                    | int j =>
                      repeat walk_at "rd"
                      refine hint ?_
                      repeat walk_at "rd"
                      refine r_iteb (fun c5 => ?_) (fun c5 => ?_)
                      · repeat walk_at "rd"
                        refine k0 ?_
                        have c6 := Bool.not_eq_true' _ ▸ c5
                        simp [isRule, isMark, c6]
                      · repeat walk_at "rd"
                        have c6 : isInteger (.int j) 0 3 = true := by simpa using c5
                        exact sel c6 rfl rfl
                    | _ =>
                      repeat walk_at "rd"
                      refine hint ?_
                      repeat walk_at "rd"
                      exact k0 rfl
      · repeat walk_at "rd"
        refine k0 ?_
        match ds, hlen with
        | [], _ => rfl
        | [_], _ => rfl
        | [_, _], _ => rfl
        | [_, _, _], _ => rfl
        | [_, _, _, _], h => exact absurd (by rw [h]; rfl) c
        | _ :: _ :: _ :: _ :: _ :: _, _ => rfl
    | _ =>
      repeat walk_at "rd"
      exact k0 rfl
def spLoopT (K : PySem.W.Frag) : Sp := spTest K (isLoop kt_EDIT_KINDS)
theorem ok_is_loop (T : Txt w K mg) : Prom P w K mg base CX0 5 (a_is_loop K) p_is_loop [] (spLoopT K) := by
  obtain ⟨fd, F⟩ := T.d_is_loop
  have sc := sc_is_loop
  have G_is_text := ok_is_text (P := P) (base := base) T
  have G_is_rule := ok_is_rule (P := P) (base := base) T
  refine prom0 F sc (bn_is_loop F) (fun vs H Q E h => ?_) (fun cdv A outer s H vs Q E hr h => ?_)
  · obtain ⟨v, d, rfl, _⟩ := h
    rfl
  · obtain ⟨v, d, rfl, hd, hs, k⟩ := h
    refine ⟨_, (pss_cons (ps_if (PW.pt (pw_or (pt_not (pt_val (pe_callB (cIsi (K := K)) (by rfl) T.z_isinstance (by decide +kernel) (pa_cons (pv 0) (pa_cons (pe_bltn (v := .ty "tuple") rfl T.z_tuple (by decide +kernel) rfl) pa_nil))))) (pw_or1 (pt_cmpR (oNe (K := K) hr.units) (pe_callB (cLen (K := K)) (by rfl) T.z_len (by decide +kernel) (pa_cons (pv 0) pa_nil)) pe_int (nomark _))))) (pss_one (ps_ret pe_bl)) pss_nil)
      (pss_cons (ps_asg (pv 0) (gTupA (K := K) (n := 2) rfl (pgs_cons (pg_name (i := 1) sc.nd rfl (by first | exact Or.inl rfl | exact Or.inr rfl)) (pgs_cons (pg_name (i := 2) sc.nd rfl (by first | exact Or.inl rfl | exact Or.inr rfl)) pgs_nil))))
      (pss_cons (ps_if (PW.pt (pw_or (pt_not (pt_val (pe_callB (cIsi (K := K)) (by rfl) T.z_isinstance (by decide +kernel) (pa_cons (pv 1) (pa_cons (pe_bltn (v := .ty "tuple") rfl T.z_tuple (by decide +kernel) rfl) pa_nil))))) (pw_or (pt_cmpR op_gt (pe_callB (cLen (K := K)) (by rfl) T.z_len (by decide +kernel) (pa_cons (pv 1) pa_nil)) (pe_ki rfl T.c_MOST_RULES) (nomark _)) (pw_or1 (pt_not (pt_val (pe_callB (cAll (K := K) rfl) (by rfl) T.z_all (by decide +kernel) (pa_cons (pe_lc (own := [("rule", 3)]) rfl sc.nd (piA (K := K) (pv 1)) (blkOk_by (N := n_is_loop) (sc := defScope s_is_loop) (by decide +kernel)) (fun _ _ _ _ _ => (pg_name (i := 3) sc.nd rfl (by first | exact Or.inl rfl | exact Or.inr rfl))) (fun _ _ _ _ _ => pts_nil) (fun _ _ _ _ _ => (pe_callP G_is_rule (hr.mono (by decide)) T.g_is_rule pass0 (pa_cons (pv 3) pa_nil)))) pa_nil)))))))) (pss_one (ps_ret pe_bl)) pss_nil)
      (pss_cons (ps_if (PW.pt (pw_or (pt_not (pt_val (pe_callB (cIsi (K := K)) (by rfl) T.z_isinstance (by decide +kernel) (pa_cons (pv 2) (pa_cons (pe_bltn (v := .ty "tuple") rfl T.z_tuple (by decide +kernel) rfl) pa_nil))))) (pw_or1 (pt_cmpR (oNe (K := K) hr.units) (pe_callB (cLen (K := K)) (by rfl) T.z_len (by decide +kernel) (pa_cons (pv 2) pa_nil)) (pe_ki rfl T.c_MARKS) (nomark _))))) (pss_one (ps_ret pe_bl)) pss_nil)
      (pss_one (ps_ret (pe_callB (cAll (K := K) rfl) (by rfl) T.z_all (by decide +kernel) (pa_cons (pe_lc (own := [("end", 4)]) rfl sc.nd (piA (K := K) (pv 2)) (blkOk_by (N := n_is_loop) (sc := defScope s_is_loop) (by decide +kernel)) (fun _ _ _ _ _ => (pg_name (i := 4) sc.nd rfl (by first | exact Or.inl rfl | exact Or.inr rfl))) (fun _ _ _ _ _ => pts_nil) (fun _ _ _ _ _ => (pe_and (pe_callP G_is_text (hr.mono (by decide)) T.g_is_text pass0 (pa_cons (pv 4) pa_nil)) (pe_one (pe_cmpR op_le (pe_callB (cLen (K := K)) (by rfl) T.z_len (by decide +kernel) (pa_cons (pv 4) pa_nil)) (pe_ki rfl T.c_LONGEST_END) (nomark _)))))) pa_nil)))))))), ?_⟩
    repeat walk_at "rd"
    have hd2 := hd
    have k0 : ∀ {b : Bool} {H' : Hp}, Same H H' → b = isLoop kt_EDIT_KINDS d → Q (.bl b) H' := fun s e => q_bl e (k _ s)
    cases hd with
    | tup hS hA =>
      rename_i a xs ds
      obtain ⟨hl, hm⟩ := smT hs
      repeat walk_at "rd"
      have hlen := DpAll.length hA
      refine r_iteN (fun c => ?_) (fun c => ?_)
      · have c4 : ds.length = 2 := by omega
        match ds, c4 with
        | [dr, de], hx2 =>
          cases hA with
          | cons h1 hA => cases hA with
            | cons h2 hA => cases hA with
              | nil =>
                rename_i r e
                repeat walk_at "rd"
                have h1' := h1
                cases h1 with
                | tup hS1 hA1 =>
                  rename_i a1 xs1 ds1
                  obtain ⟨hl1, hm1⟩ := smT (hm _ List.mem_cons_self)
                  have hlen1 := DpAll.length hA1
                  repeat walk_at "rd"
                  refine r_ite (fun c1 => ?_) (fun c1 => ?_)
                  · repeat walk_at "rd"
                    refine k0 (Same.refl _) ?_
                    have c2 : ¬ ds1.length ≤ 12 := by omega
                    cases de <;> simp [isLoop, c2]
                  · have hr12 : decide (ds1.length ≤ 12) = true := decide_eq_true (by omega)
                    obtain ⟨qs, e1, e2, e3⟩ := DpAll.zip hA1
                    have hq1 : qs.length = ds1.length := by rw [e2, List.length_map]
                    repeat walk_at "rd"
                    refine r_iany_t ?_
                    repeat walk_at "rd"
                    refine ⟨_, rfl, ⟨_, hS1⟩, ?_⟩
                    rw [e1] at hS1
                    refine lc_pT (v := (·.1)) (σ' := fun q => [some (.ref a), some (.ref a1), some e, some q.1, none]) (keep := fun _ => true) (f := fun q : V × PyData => .bl (isRule kt_EDIT_KINDS q.2)) hS1 (by omega) (fun x _ => fun _ _ _ q => by exact q) (fun x _ => rfl) (fun x _ => evst_yes) (fun x hx _ => ?_) (fun D H1 _ s1 hD => ?_)
                    · intro H1 e4 Q1 q1
                      repeat walk_at "rd"
                      exact ⟨_, _, rfl, dp_same e4 (e3 x hx), hm1 _ (by rw [e2]; exact List.mem_map_of_mem hx), fun H2 s2 => q1 H2 s2⟩
                    · rw [List.filter_eq_self.mpr (fun _ _ => rfl)] at hD
                      repeat walk_at "rd"
                      refine r_all (bs := qs.map fun q => isRule kt_EDIT_KINDS q.2) (SqL.of (by rw [hD, List.map_map]; rfl)) ?_
                      have e5 : (qs.map fun q => isRule kt_EDIT_KINDS q.2).all id = ds1.all (isRule kt_EDIT_KINDS) := by
                        rw [e2, List.all_map, List.all_map]
                        rfl
                      rw [e5]
                      repeat walk_at "rd"
                      refine r_iteb (fun c5 => ?_) (fun c5 => ?_)
                      · repeat walk_at "rd"
                        refine k0 s1 ?_
                        have c6 : ds1.all (isRule kt_EDIT_KINDS) = false := by simpa using c5
                        cases de <;> simp only [isLoop, hr12, c6, Bool.and_false, Bool.false_and, Bool.and_self]
                      · have c6 : ds1.all (isRule kt_EDIT_KINDS) = true := by simpa using c5
                        repeat walk_at "rd"
                        have h2' := dp_same s1 h2
                        have hsm2 := hm de (by simp)
                        have h2'' := h2'
                        cases h2' with
                        | tup hS2 hA2 =>
                          rename_i a2 xs2 ds2
                          obtain ⟨hl2, hm2⟩ := smT hsm2
                          have hlen2 := DpAll.length hA2
                          repeat walk_at "rd"
                          refine r_iteN (fun c7 => ?_) (fun c7 => ?_)
                          · have h4 : decide (ds2.length = 4) = true := decide_eq_true (by omega)
                            obtain ⟨ps, f1, f2, f3⟩ := DpAll.zip hA2
                            have hp1 : ps.length = ds2.length := by rw [f2, List.length_map]
                            repeat walk_at "rd"
                            refine r_iany_t ?_
                            repeat walk_at "rd"
                            refine ⟨_, rfl, ⟨_, hS2⟩, ?_⟩
                            rw [f1] at hS2
                            refine lc_pT (v := (·.1)) (σ' := fun q => [some (.ref a), some (.ref a1), some (.ref a2), none, some q.1]) (keep := fun _ => true) (f := fun q : V × PyData => .bl (isEnd q.2)) hS2 (by omega) (fun x _ => fun _ _ _ q => by exact q) (fun x _ => rfl) (fun x _ => evst_yes) (fun x hx _ => ?_) (fun D2 H2 _ s2 hD2 => ?_)
                            · intro H2 e4 Q1 q1
                              repeat walk_at "rd"
                              have hx3 := dp_same e4 (f3 x hx)
                              have hx4 : smD x.2 = true := hm2 _ (by rw [f2]; exact List.mem_map_of_mem hx)
                              obtain ⟨xv, xd⟩ := x
                              refine ⟨_, _, rfl, hx3, hx4, fun H3 s3 => ?_⟩
                              have hx3' := hx3
                              cases hx3 with
                              | str z =>
                                repeat walk_at "rd"
                                refine r_iteb (fun c8 => ?_) (fun c8 => ?_)
                                · repeat walk_at "rd"
                                  refine r_lenS (sz1 (Nat.le_trans (smS hx4) (by decide))) ?_
                                  repeat walk_at "rd"
                                  refine q_bl ?_ (q1 _ s3)
                                  simp [isEnd, c8]
                                  omega
                                · refine q_bl ?_ (q1 _ s3)
                                  simp [isEnd, c8]
                              | _ =>
                                repeat walk_at "rd"
                                exact q1 _ s3
                            · rw [List.filter_eq_self.mpr (fun _ _ => rfl)] at hD2
                              repeat walk_at "rd"
                              refine r_all (bs := ps.map fun q => isEnd q.2) (SqL.of (by rw [hD2, List.map_map]; rfl)) ?_
                              have e6 : (ps.map fun q => isEnd q.2).all id = ds2.all isEnd := by
                                rw [f2, List.all_map, List.all_map]
                                rfl
                              rw [e6]
                              refine k0 (s1.trans s2) ?_
                              simp only [isLoop, hr12, c6, h4, Bool.true_and]
                          · repeat walk_at "rd"
                            refine k0 s1 ?_
                            have h4 : decide (ds2.length = 4) = false := decide_eq_false (by omega)
                            simp only [isLoop, h4, Bool.false_and, Bool.and_false]
                        | _ =>
                          repeat walk_at "rd"
                          exact k0 s1 rfl
                | _ =>
                  repeat walk_at "rd"
                  exact k0 (Same.refl _) rfl
      · repeat walk_at "rd"
        refine k0 (Same.refl _) (isLoop_len fun h => c ?_).symm
        rw [hlen, h]
        rfl
    | _ =>
      repeat walk_at "rd"
      exact k0 (Same.refl _) rfl
def spProg (K : PySem.W.Frag) : Sp := spTest K (isProgram kt_EDIT_KINDS)
theorem ok_is_program (T : Txt w K mg) : Prom P w K mg base CX0 6 (a_is_program K) p_is_program [] (spProg K) := by
  obtain ⟨fd, F⟩ := T.d_is_program
  have sc := sc_is_program
  have G_is_loop := ok_is_loop (P := P) (base := base) T
  refine prom0 F sc (bn_is_program F) (fun vs H Q E h => ?_) (fun cdv A outer s H vs Q E hr h => ?_)
  · obtain ⟨v, d, rfl, _⟩ := h
    rfl
  · obtain ⟨v, d, rfl, hd, hs, k⟩ := h
    refine ⟨_, (pss_one (ps_ret (pe_and (pe_callB (cIsi (K := K)) (by rfl) T.z_isinstance (by decide +kernel) (pa_cons (pv 0) (pa_cons (pe_bltn (v := .ty "tuple") rfl T.z_tuple (by decide +kernel) rfl) pa_nil))) (pe_and (pe_cmpR op_le (pe_callB (cLen (K := K)) (by rfl) T.z_len (by decide +kernel) (pa_cons (pv 0) pa_nil)) (pe_ki rfl T.c_MOST_LOOPS) (nomark _)) (pe_one (pe_callB (cAll (K := K) rfl) (by rfl) T.z_all (by decide +kernel) (pa_cons (pe_lc (own := [("loop", 1)]) rfl sc.nd (piA (K := K) (pv 0)) (blkOk_by (N := n_is_program) (sc := defScope s_is_program) (by decide +kernel)) (fun _ _ _ _ _ => (pg_name (i := 1) sc.nd rfl (by first | exact Or.inl rfl | exact Or.inr rfl))) (fun _ _ _ _ _ => pts_nil) (fun _ _ _ _ _ => (pe_callP G_is_loop (hr.mono (by decide)) T.g_is_loop pass0 (pa_cons (pv 1) pa_nil)))) pa_nil))))))), ?_⟩
    repeat walk_at "rd"
    have hd2 := hd
    have k0 : ∀ {b : Bool} {H' : Hp}, Same H H' → b = isProgram kt_EDIT_KINDS d → Q (.bl b) H' := fun s e => q_bl e (k _ s)
    cases hd with
    | tup hS hA =>
      rename_i a xs ds
      obtain ⟨hl, hm⟩ := smT hs
      repeat walk_at "rd"
      have hlen := DpAll.length hA
      refine r_ite (fun c => ?_) (fun c => ?_)
      · have h5 : decide (ds.length ≤ 5) = true := decide_eq_true (by omega)
        obtain ⟨qs, e1, e2, e3⟩ := DpAll.zip hA
        have hq1 : qs.length = ds.length := by rw [e2, List.length_map]
        repeat walk_at "rd"
        refine r_iany_t ?_
        repeat walk_at "rd"
        refine ⟨_, rfl, ⟨_, hS⟩, ?_⟩
        rw [e1] at hS
        refine lc_pT (v := (·.1)) (σ' := fun q => [some (.ref a), some q.1]) (keep := fun _ => true) (f := fun q : V × PyData => .bl (isLoop kt_EDIT_KINDS q.2)) hS (by omega) (fun x _ => fun _ _ _ q => by exact q) (fun x _ => rfl) (fun x _ => evst_yes) (fun x hx _ => ?_) (fun D H1 _ s1 hD => ?_)
        · intro H1 e4 Q1 q1
          repeat walk_at "rd"
          exact ⟨_, _, rfl, dp_same e4 (e3 x hx), hm _ (by rw [e2]; exact List.mem_map_of_mem hx), fun H2 s2 => q1 H2 s2⟩
        · rw [List.filter_eq_self.mpr (fun _ _ => rfl)] at hD
          repeat walk_at "rd"
          refine r_all (bs := qs.map fun q => isLoop kt_EDIT_KINDS q.2) (SqL.of (by rw [hD, List.map_map]; rfl)) ?_
          refine k0 s1 ?_
          show _ = (decide (ds.length ≤ 5) && ds.all (isLoop kt_EDIT_KINDS))
          rw [h5, e2, List.all_map, List.all_map]
          rfl
      · refine k0 (Same.refl _) ?_
        show false = (decide (ds.length ≤ 5) && ds.all (isLoop kt_EDIT_KINDS))
        rw [show decide (ds.length ≤ 5) = false from decide_eq_false (by omega)]
        rfl
    | _ =>
      repeat walk_at "rd"
      exact k0 (Same.refl _) rfl
/-- a program that is one -/
def spCheckOk (K : PySem.W.Frag) : Sp := fun vs H Q _ => ∃ v d, vs = [v] ∧ Dp K H v d ∧ smD d = true ∧ isProgram kt_EDIT_KINDS d = true ∧ ∀ H', Same H H' → Q .non H'
theorem ok_check_program (T : Txt w K mg) : Prom P w K mg base CX0 7 (a_check_program K) p_check_program [] (spCheckOk K) := by
  obtain ⟨fd, F⟩ := T.d_check_program
  have sc := sc_check_program
  have G_is_program := ok_is_program (P := P) (base := base) T
  refine prom0 F sc (bn_check_program F) (fun vs H Q E h => ?_) (fun cdv A outer s H vs Q E hr h => ?_)
  · obtain ⟨v, d, rfl, _⟩ := h
    rfl
  · obtain ⟨v, d, rfl, hd, hs, hp, k⟩ := h
    refine ⟨_, (pss_one (ps_if (pt_not (pt_val (pe_callP G_is_program (hr.mono (by decide)) T.g_is_program pass0 (pa_cons (pv 0) pa_nil)))) (pss_one ps_never) pss_nil)), ?_⟩
    repeat walk_at "rd"
    refine ⟨_, _, rfl, hd, hs, fun H1 s1 => ?_⟩
    rw [hp]
    repeat walk_at "rd"
    exact k _ s1
end
end OB

namespace OB
open PySem
/-! ### loops as plain things, one pass -/
inductive Edit where
  | put (c : Nat)
  | drop
  | dropN
  | before (c : Nat)
  | after (c : Nat)
  | mark (m : Nat)
  | brk
  deriving DecidableEq, Repr
structure Rule where
  mrk : Option Nat
  its : List Nat
  fol : List Nat
  eds : List Edit
  deriving DecidableEq, Repr, Inhabited
structure Loop where
  rules : List Rule
  ends : List (List Nat)
  deriving DecidableEq, Repr, Inhabited
def mkS (l : List Nat) : Str := ⟨l.toArray⟩
theorem tl_mkS (l : List Nat) : tl (mkS l) = l := rfl
theorem mkS_tl (z : Str) : mkS (tl z) = z := by
  obtain ⟨⟨l⟩⟩ := z
  rfl
theorem mkS_len (l : List Nat) : (mkS l).length = l.length := rfl
theorem mkS_inj {a b : List Nat} (h : mkS a = mkS b) : a = b := by
  have := congrArg tl h
  exact this
def edD : Edit → PyData
  | .put c => .tuple [.str "put", .str (mkS [c])]
  | .drop => .tuple [.str "drop"]
  | .dropN => .tuple [.str "drop_next"]
  | .before c => .tuple [.str "before", .str (mkS [c])]
  | .after c => .tuple [.str "after", .str (mkS [c])]
  | .mark m => .tuple [.str "mark", .int m]
  | .brk => .tuple [.str "break"]
def mkD : Option Nat → PyData
  | none => .none
  | some m => .int m
def ruleD (r : Rule) : PyData := .tuple [mkD r.mrk, .str (mkS r.its), .str (mkS r.fol), .tuple (r.eds.map edD)]
def endD (e : List Nat) : PyData := .str (mkS e)
def loopD (L : Loop) : PyData := .tuple [.tuple (L.rules.map ruleD), .tuple (L.ends.map endD)]
def progD (ls : List Loop) : PyData := .tuple (ls.map loopD)
def fitsR (m it fo : Nat) (r : Rule) : Bool := (match r.mrk with
  | none => true
  | some k => decide (k = m)) && (decide (it ∈ r.its) && decide (fo ∈ r.fol))
def fit (rs : List Rule) (m it fo : Nat) : Option Nat := rs.findIdx? (fitsR m it fo)
def applyE (e : Edit) (l : List Nat) (i : Nat) : List Nat := match e with
  | .before c => l.take i ++ [c] ++ l.drop i
  | .after c => l.take (i + 1) ++ [c] ++ l.drop (i + 1)
  | .put c => if i < l.length then l.set i c else l
  | .drop => if i < l.length then l.eraseIdx i else l
  | .dropN => if i + 1 < l.length then l.eraseIdx (i + 1) else l
  | _ => l
def carry : List Edit → Nat → List Nat × Nat × Bool → List Nat × Nat × Bool
  | [], _, s => s
  | e :: r, i, (l, m, b) => carry r i (match e with
    | .mark k => (l, k, b)
    | .brk => (l, m, true)
    | e => (applyE e l i, m, b))
def carry1 (e : Edit) (i : Nat) (s : List Nat × Nat × Bool) : List Nat × Nat × Bool := match e with
    | .mark k => (s.1, k, s.2.2)
    | .brk => (s.1, s.2.1, true)
    | e => (applyE e s.1 i, s.2.1, s.2.2)
theorem carry_cons (e : Edit) (r : List Edit) (i : Nat) (s : List Nat × Nat × Bool) : carry (e :: r) i s = carry r i (carry1 e i s) := by
  obtain ⟨l, m, b⟩ := s
  cases e <;> rfl
theorem carry_app (a b : List Edit) (i : Nat) (s : List Nat × Nat × Bool) : carry (a ++ b) i s = carry b i (carry a i s) := by
  induction a generalizing s with
  | nil => rfl
  | cons e r ih => rw [List.cons_append, carry_cons, carry_cons, ih]
theorem applyE_len (e : Edit) (l : List Nat) (i : Nat) : (applyE e l i).length ≤ l.length + 1 := by
  cases e <;> simp only [applyE]
  · split
    · simp
    · omega
  · split
    · rw [List.length_eraseIdx]; split <;> omega
    · omega
  · split
    · rw [List.length_eraseIdx]; split <;> omega
    · omega
  · simp only [List.length_append, List.length_take, List.length_drop, List.length_singleton]; omega
  · simp only [List.length_append, List.length_take, List.length_drop, List.length_singleton]; omega
  · omega
  · omega
theorem carry1_len (e : Edit) (i : Nat) (s : List Nat × Nat × Bool) : (carry1 e i s).1.length ≤ s.1.length + 1 := by
  obtain ⟨l, m, b⟩ := s
  cases e with
  | mark k => exact Nat.le_succ _
  | brk => exact Nat.le_succ _
  | put c => exact applyE_len (.put c) l i
  | drop => exact applyE_len .drop l i
  | dropN => exact applyE_len .dropN l i
  | before c => exact applyE_len (.before c) l i
  | after c => exact applyE_len (.after c) l i
theorem carry_len (es : List Edit) (i : Nat) (s : List Nat × Nat × Bool) : (carry es i s).1.length ≤ s.1.length + es.length := by
  induction es generalizing s with
  | nil => exact Nat.le_refl _
  | cons e r ih =>
    rw [carry_cons]
    have h1 := ih (carry1 e i s)
    have h2 := carry1_len e i s
    rw [List.length_cons]
    omega
/-- the rule that fits at an index -/
def ruleAt (L : Loop) (l : List Nat) (i m : Nat) : Option Nat := fit L.rules m (l.getD i 0) (if i + 1 < l.length then l.getD (i + 1) 0 else 36)
def edsOf (L : Loop) : Option Nat → List Edit
  | none => []
  | some k => (L.rules.getD k default).eds
/-- one pass: the items, the mark, whether the loop breaks -/
def passAt (L : Loop) (l : List Nat) (i m : Nat) : List Nat × Nat × Bool := carry (edsOf L (ruleAt L l i m)) i (l, m, false)
theorem fit_lt {rs : List Rule} {m it fo k : Nat} (h : fit rs m it fo = some k) : k < rs.length := by
  unfold fit at h
  rw [List.findIdx?_eq_some_iff_getElem] at h
  obtain ⟨h, _⟩ := h
  exact h
end OB

namespace OB
open PySem PySem.Spec PyProof.Rows L2
/-! ### what changes: nothing but the objects ps, and no object that never changes -/
def protL : List (List Str) := [["mark", "held", "is_broken"], ["runs"], ["remains", "made", "ended"], ["tidied"], ["loop", "place", "marked", "standing"]]
def Prot : HO → Bool
  | .tup _ => true
  | .frz _ (.tup _) => true
  | .ins _ _ fs => decide (fs.map (·.1) ∈ protL)
  | _ => false
structure Chg (ps : List Addr) (H H' : Hp) : Prop where
  out : ∀ b u, H b = some u → b ∈ ps ∨ H' b = some u
  prot : ∀ b u, Prot u = true → H b = some u → H' b = some u
section
variable {K : PySem.W.Frag} {ps qs : List Addr} {H H1 H2 H' : Hp}
theorem Chg.of_same (h : Same H H') : Chg ps H H' := ⟨fun b u e => .inr (h b u e), fun b _ _ e => h b _ e⟩
theorem Chg.refl : Chg ps H H := Chg.of_same (Same.refl H)
theorem Chg.trans (a : Chg ps H H1) (b : Chg ps H1 H2) : Chg ps H H2 :=
  ⟨fun c u e => (a.out c u e).elim .inl fun e1 => b.out c u e1, fun c u p e => b.prot c u p (a.prot c u p e)⟩
theorem Chg.mono (h : Chg ps H H') (hs : ∀ x ∈ ps, x ∈ qs) : Chg qs H H' := ⟨fun b u e => (h.out b u e).elim (fun z => .inl (hs b z)) .inr, h.prot⟩
theorem Chg.upd {p : Addr} {u v : HO} (h : H p = some u) (hp : p ∈ ps) (n : Prot u = false := by rfl) : Chg ps H (upd H p v) := by
  refine ⟨fun b x e => ?_, fun b x q e => ?_⟩
  · by_cases hb : b = p
    · rw [hb]; exact .inl hp
    · rw [upd_ne hb]; exact .inr e
  · have hb : b ≠ p := fun z => by
      rw [z, h] at e
      rw [Option.some.inj e, q] at n
      cases n
    rw [upd_ne hb]
    exact e
theorem Chg.new {p : Addr} {v : HO} (h : H p = none) : Chg ps H (L2.upd H p v) := Chg.of_same (Same.new h)
/-- what stands at an address beyond the start may change freely -/
theorem Chg.mut {H0 : Hp} {p : Addr} {v : HO} (a : Chg ps H0 H) (h : H0 p = none) : Chg ps H0 (L2.upd H p v) := by
  refine ⟨fun b x e => ?_, fun b x q e => ?_⟩
  · rw [upd_ne (ne_of_none e h)]; exact a.out b x e
  · rw [upd_ne (ne_of_none e h)]; exact a.prot b x q e
/-- what a callee changes that is new for the caller's start -/
theorem Chg.less {H0 : Hp} {p : Addr} (a : Chg ps H0 H) (b : Chg (p :: ps) H H') (h : H0 p = none) : Chg ps H0 H' := ⟨fun c u e => (a.out c u e).elim .inl fun e1 => (b.out c u e1).elim (fun z => by
  rcases List.mem_cons.mp z with q | q
  · rw [q, h] at e; cases e
  · exact .inl q) .inr, fun c u q e => b.prot c u q (a.prot c u q e)⟩
theorem Chg.atN {b : Addr} {u : HO} (a : Chg ps H H') (hb : H b = some u) (n : b ∉ ps) : H' b = some u := (a.out b u hb).resolve_left n
theorem Chg.at1 {p b : Addr} {u o : HO} (a : Chg [p] H H') (hb : H b = some u) (hp : H p = some o) (n : u ≠ o) : H' b = some u := (a.out b u hb).resolve_left fun z => by
  rw [List.mem_singleton] at z
  exact ne_of hb hp n z
theorem Chg.at0 {b : Addr} {u : HO} (a : Chg [] H H') (hb : H b = some u) : H' b = some u := (a.out b u hb).resolve_left (by simp)
theorem Chg.same (a : Chg [] H H') : Same H H' := fun _ _ e => a.at0 e
theorem Chg.at2 {p q b : Addr} {u o o2 : HO} (a : Chg [p, q] H H') (hb : H b = some u) (hp : H p = some o) (hq : H q = some o2) (n : u ≠ o) (n2 : u ≠ o2) : H' b = some u := (a.out b u hb).resolve_left fun z => by
  rcases List.mem_cons.mp z with z | z
  · exact ne_of hb hp n z
  · rw [List.mem_singleton] at z
    exact ne_of hb hq n2 z
theorem Chg.sqt (a : Chg ps H H') {p : Addr} {xs : List V} (h : SqT K H p xs) : SqT K H' p xs := by
  rcases h with (h | ⟨o, h⟩) | h
  · exact .inl (.inl (a.prot _ _ rfl h))
  · exact .inl (.inr ⟨o, a.prot _ _ rfl h⟩)
  · exact .inr h
end
/-! ### data of tuples -/
mutual
def tupD : PyData → Bool
  | .list _ => false
  | .dict _ => false
  | .tuple ds => tupAll ds
  | _ => true
def tupAll : List PyData → Bool
  | [] => true
  | d :: ds => tupD d && tupAll ds
end
section
variable {K : PySem.W.Frag} {ps : List Addr} {H H' : Hp}
mutual
theorem dp_chg (e : Chg ps H H') : ∀ {v : V} {d : PyData}, tupD d = true → Dp K H v d → Dp K H' v d
  | _, _, _, .non => .non
  | _, _, _, .bl b => .bl b
  | _, _, _, .int i => .int i
  | _, _, _, .str x => .str x
  | _, _, t, .lst h a => by rw [tupD] at t; cases t
  | _, _, t, .tup h a => .tup (Chg.sqt e h) (dpAll_chg e (by rw [tupD] at t; exact t) a)
theorem dpAll_chg (e : Chg ps H H') : ∀ {vs : List V} {ds : List PyData}, tupAll ds = true → DpAll K H vs ds → DpAll K H' vs ds
  | _, _, _, .nil => .nil
  | _, _, t, .cons h r => by
    rw [tupAll, Bool.and_eq_true] at t
    exact .cons (dp_chg e t.1 h) (dpAll_chg e t.2 r)
end
end
theorem tupAll_map {α : Type} {f : α → PyData} (h : ∀ a, tupD (f a) = true) : ∀ l : List α, tupAll (l.map f) = true
  | [] => rfl
  | a :: l => by rw [List.map_cons, tupAll, h a, tupAll_map h l]; rfl
theorem tup_ed (e : Edit) : tupD (edD e) = true := by cases e <;> rfl
theorem tup_rule (r : Rule) : tupD (ruleD r) = true := by
  have h := tupAll_map tup_ed r.eds
  unfold ruleD
  cases r.mrk <;> simp [tupD, tupAll, mkD, h]
theorem tup_loop (L : Loop) : tupD (loopD L) = true := by
  have h := tupAll_map tup_rule L.rules
  have h2 := tupAll_map (f := endD) (fun _ => rfl) L.ends
  unfold loopD
  simp [tupD, tupAll, h, h2]
end OB

namespace OB
open PySem PySem.Spec PyProof.Rows L2
local macro_rules | `(tactic| walk_at "hp") => `(tactic| first
  | assumption | exact upd_same | (refine look_new ?_ ?_ <;> walk_at "hp") | ((refine' look_mut (v := ?lv) ?lq ?lp ?ld); (case lq => walk_at "hp"); (case lp => walk_at "hp"); (case ld => (intro z; cases z))))
local macro_rules | `(tactic| walk_at "rd") => `(tactic| (first
  | (with_reducible first
  | refine r_seq ?_ | refine r_asg ?_ | refine r_gname ?_ | refine r_ret ?_ | refine r_retN ?_ | refine r_next ?_ | refine r_drop ?_ | refine r_if ?_
  | refine r_c ?_ | refine r_op ?_ | refine r_test ?_ | refine r_tb ?_ | refine r_bl ?_ | refine r_and ?_ | refine r_or ?_ | refine r_not ?_
  | refine r_andV ?_ | refine r_orV ?_ | refine r_notV ?_ | refine r_ifE ?_ | refine r_nil ?_ | refine r_cons ?_ | refine r_tup ?_ | refine r_lst ?_ | refine r_cb ?_ | refine r_call ?_ | refine r_sub ?_
  | refine r_addI ?_ | refine r_I0 ?_ | refine r_eqI ?_ | refine r_neI ?_ | refine r_eqS ?_ | refine r_neS ?_ | refine r_inS ?_ | refine r_inS2 ?_ | refine r_notInS2 ?_ | refine r_isNA ?_ | refine r_m1 ?_ | refine r_isstr ?_ | refine r_lc ?_ | refine r_notNA ?_ | refine r_kt ?_ | refine r_chain ?_ | refine r_gcons ?_ | refine r_gnil ?_ | refine r_fld ?_ | refine r_sfld ?_ | refine r_meth ?_ | refine r_sl ?_ | refine r_part ?_ | refine r_nopart ?_ | refine r_int ?_ | refine r_star ?_ | refine r_delL ?_ | refine r_par ?_ | refine r_parAt ?_ | refine r_par3 ?_ | refine r_parAt3 ?_ | refine r_fldaug ?_ | refine r_brk ?_ | refine r_for ?_ | refine r_ienT ?_ | refine r_make ?_ | refine r_bm ?_ | refine r_bm0 ?_ | refine iteT ?_ | refine iteF ?_)
  | ((with_reducible refine' r_var ?he ?_); (case he => rfl))
  | (with_reducible first | refine r_abs ?_ | refine r_max ?_ | refine r_min ?_)
  | ((with_reducible refine' r_lenSq ?hs ?_); (case hs => first | exact .inl (by assumption) | exact .inr (by assumption) | exact .inl (SqL.of (by walk_at "hp")) | exact .inr (SqT.of (by walk_at "hp"))))
  | ((with_reducible refine' r_mulR ?hc ?_); (case hc => decide))
  | ((with_reducible refine' r_mulL ?hc ?_); (case hc => decide))
  | ((with_reducible refine' r_mod ?hc ?_); (case hc => first | decide | assumption | omega))
  | ((with_reducible refine' r_div ?hc ?_); (case hc => first | decide | assumption | (constructor <;> first | assumption | omega)))
  | ((with_reducible refine' r_pow ?hc ?_); (case hc => first | decide | (refine ⟨by decide, by decide, by omega⟩)))
  | ((with_reducible refine' r_ixL2 ?hs ?he ?_); (case hs => exact SqL.of (by walk_at "hp")); (case he => first | rfl | exact atI0 | exact atI1 | exact atI2 | exact atI3))
  | ((with_reducible refine' r_ixT2 ?hs ?he ?_); (case hs => first | assumption | exact SqT.of (by walk_at "hp")); (case he => first | rfl | exact atI0 | exact atI1 | exact atI2 | exact atI3))
  | ((with_reducible refine' r_setL2 ?hs ?he ?_); (case hs => walk_at "hp"); (case he => rfl))
  | ((with_reducible refine' r_gtup ?hs ?he ?_); (case hs => first | assumption | exact SqT.of (by walk_at "hp")); (case he => rfl))
  | ((with_reducible refine' r_fldAt ?hs ?hc ?hn ?hl ?_); (case hs => walk_at "hp"); (case hc => walk_at "cl"); (case hn => walk_at "cl"); (case hl => rfl))
  | ((with_reducible refine' r_sfldAt ?hs ?hc ?hn ?hl ?_); (case hs => walk_at "hp"); (case hc => walk_at "cl"); (case hn => walk_at "cl"); (case hl => exact Nat.le_of_ble_eq_true rfl))
  | ((with_reducible refine' r_aug ?he ?_); (case he => rfl))
  | ((with_reducible refine' r_starAt ?hs ?_); (case hs => first | exact .inl (by assumption) | exact .inr (by assumption) | exact .inl (SqT.of (by walk_at "hp")) | exact .inr (SqL.of (by walk_at "hp"))))
  | ((with_reducible refine' r_fldaugAt ?hs ?hc ?hn ?hl ?_); (case hs => walk_at "hp"); (case hc => walk_at "cl"); (case hn => walk_at "cl"); (case hl => rfl))
  | ((with_reducible refine' r_methAt ?hs ?hl ?_); (case hs => walk_at "hp"); (case hl => rfl))
  | ((with_reducible refine' r_tyL ?hs ?_); (case hs => first | assumption | exact SqL.of (by walk_at "hp")))
  | ((with_reducible refine' r_ifT ?h ?_); (case h => rfl))
  | ((with_reducible refine' r_ifF ?h ?_); (case h => rfl))
  | ((with_reducible first | refine' r_isiInt ?hd ?_ | refine' r_isiBool ?hd ?_ | refine' r_isiStr ?hd ?_ | refine' r_isiTup ?hd ?_ | refine' r_isiLst ?hd ?_); (case hd => assumption))
  ))

section
variable {P : Program} {w : World} {K : PySem.W.Frag} {mg : Str → Option Value} {base : Heap}
/-! ### fitting_rule -/
def optV : Option Nat → V
  | none => .non
  | some k => .int k
def spFit (K : PySem.W.Frag) : Sp := fun vs H Q _ => ∃ v, ∃ rs : List Rule, ∃ m it fo : Nat, vs = [v, .int m, .str ⟨#[it]⟩, .str ⟨#[fo]⟩] ∧ Dp K H v (.tuple (rs.map ruleD)) ∧ rs.length ≤ 100 ∧
  ∀ H', Same H H' → Q (optV (fit rs m it fo)) H'
theorem inV_mark (o : Option Nat) (m : Nat) : inV (match o with | none => V.non | some k => .int k) [.non, .int m] = (match o with | none => true | some k => decide (k = m)) := by
  cases o with
  | none => rfl
  | some k =>
    show (false || (((m : Int) == (k : Int)) || false)) = decide (k = m)
    rw [Bool.false_or, Bool.or_false]
    by_cases h : k = m
    · subst h; simp
    · rw [decide_eq_false h]
      exact beq_eq_false_iff_ne.mpr (by omega)
theorem ok_fitting_rule (T : Txt w K mg) : Prom P w K mg base CX0 1 (a_fitting_rule K) p_fitting_rule [] (spFit K) := by
  obtain ⟨fd, F⟩ := T.d_fitting_rule
  have sc := sc_fitting_rule
  refine prom0 F sc (bn_fitting_rule F) (fun vs H Q E h => ?_) (fun cdv A outer s H vs Q E hr h => ?_)
  · obtain ⟨v, rs, m, it, fo, rfl, _⟩ := h
    rfl
  · obtain ⟨v, rs, m, it, fo, rfl, hd, hn, k⟩ := h
    refine ⟨_, (pss_cons (ps_for PassesOwn.never rfl (piEnT (K := K) T.z_enumerate (pa_cons (pv 0) pa_nil)) (gTupA (K := K) (n := 2) rfl (pgs_cons (pg_name (i := 4) sc.nd rfl (by first | exact Or.inl rfl | exact Or.inr rfl)) (pgs_cons (gTupA (K := K) (n := 4) rfl (pgs_cons (pg_name (i := 5) sc.nd rfl (by first | exact Or.inl rfl | exact Or.inr rfl)) (pgs_cons (pg_name (i := 6) sc.nd rfl (by first | exact Or.inl rfl | exact Or.inr rfl)) (pgs_cons (pg_name (i := 7) sc.nd rfl (by first | exact Or.inl rfl | exact Or.inr rfl)) (pgs_cons (pg_name (i := 8) sc.nd rfl (by first | exact Or.inl rfl | exact Or.inr rfl)) pgs_nil))))) pgs_nil))) (pss_one (ps_if (PW.pt (pw_and (pt_cmpR (oIn (P := P) (w := w) (K := K) hr.units) (pv 5) (pe_tup (pa_cons pe_non (pa_cons (pv 1) pa_nil))) rfl) (pw_and (pt_cmpR (oIn (P := P) (w := w) (K := K) hr.units) (pv 2) (pv 6) rfl) (pw_and1 (pt_cmpR (oIn (P := P) (w := w) (K := K) hr.units) (pv 3) (pv 7) rfl))))) (pss_one (ps_ret (pv 4))) pss_nil)))
      (pss_one (ps_ret pe_non))), ?_⟩
    cases hd with
    | tup hS hA =>
      rename_i a xs
      have hlx : xs.length = rs.length := by rw [DpAll.length hA, List.length_map]
      repeat walk_at "rd"
      refine r_forEn hS (fun i σ H' => Same H H' ∧ (∃ p q r s t, σ = [some (.ref a), some (.int m), some (.str ⟨#[it]⟩), some (.str ⟨#[fo]⟩), p, q, r, s, t]) ∧ (fit rs m it fo = (fit (rs.drop i) m it fo).map (· + i))) ⟨Same.refl H, ⟨_, _, _, _, _, rfl⟩, by simp⟩ (fun i σ H' _ p => Same.sqt p.1 hS) (fun i x σ H' T1 hx p hT => ?_) (fun σ H' p => ?_)
      · obtain ⟨s1, ⟨p1, p2, p3, p4, p5, rfl⟩, hf⟩ := p
        obtain ⟨d, hd1, hd3⟩ := DpAll.get hA hx
        rw [List.getElem?_map] at hd1
        obtain ⟨r, hr1, rfl⟩ := Option.map_eq_some_iff.mp hd1
        have hi : i < rs.length := (List.getElem?_eq_some_iff.mp hr1).1
        have hdrop : rs.drop i = r :: rs.drop (i + 1) := by
          rw [List.drop_eq_getElem_cons hi, (List.getElem?_eq_some_iff.mp hr1).2]
        have s2 : Same H (upd H' T1 (.tup [.int (i : Int), x])) := s1.trans (Same.new hT)
        have hTa : SqT K (upd H' T1 (.tup [.int (i : Int), x])) T1 [.int (i : Int), x] := SqT.of (by rw [upd_same])
        have hd4 := dp_same s2 hd3
        have fitc : fit (r :: rs.drop (i + 1)) m it fo = if fitsR m it fo r = true then some 0 else (fit (rs.drop (i + 1)) m it fo).map (· + 1) := by
          unfold fit
          rw [List.findIdx?_cons]
        have yes : ∀ {H2 : Hp}, Same H H2 → fitsR m it fo r = true → Q (.int (i : Int)) H2 := fun e6 e7 => by
          have := k _ e6
          rw [hf, hdrop, fitc, e7] at this
          simpa [optV] using this
        have no : fitsR m it fo r = false → fit rs m it fo = (fit (rs.drop (i + 1)) m it fo).map (· + (i + 1)) := fun e7 => by
          rw [hf, hdrop, fitc, e7]
          simp only [Bool.false_eq_true, if_false, Option.map_map]
          congr 1
          funext z
          show z + 1 + i = z + (i + 1)
          omega
        generalize upd H' T1 (.tup [.int (i : Int), x]) = H1 at *
        cases hd4 with
        | tup hS5 hA5 =>
          rename_i b ys
          cases hA5 with
          | cons g1 hA5 => cases hA5 with
            | cons g2 hA5 => cases hA5 with
              | cons g3 hA5 => cases hA5 with
                | cons g4 hA5 => cases hA5 with
                  | nil =>
                    cases g2
                    cases g3
                    rename_i vm ve
                    have hvm : vm = (match r.mrk with | none => V.non | some k => .int k) := by
                      cases hq : r.mrk <;> (rw [hq] at g1; cases g1; rfl)
                    have hfl : flatV vm = true := by
                      rw [hvm]
                      cases r.mrk <;> rfl
                    repeat walk_at "rd"
                    refine ⟨sz1 (by simp), fun T2 hT2 => ?_⟩
                    have s3 : Same H (upd H1 T2 (.tup [.non, .int (m : Int)])) := s2.trans (Same.new hT2)
                    have hT2a : SqT K (upd H1 T2 (.tup [.non, .int (m : Int)])) T2 [.non, .int (m : Int)] := SqT.of (by rw [upd_same])
                    generalize upd H1 T2 (.tup [.non, .int (m : Int)]) = H2 at *
                    repeat walk_at "rd"
                    refine r_inSq (.inr hT2a) hfl rfl ?_
                    rw [hvm, inV_mark]
                    have ef : fitsR m it fo r = ((match r.mrk with | none => true | some k => decide (k = m)) && (decide (it ∈ r.its) && decide (fo ∈ r.fol))) := rfl
                    generalize (match r.mrk with | none => true | some k => decide (k = m)) = bm at ef
                    repeat walk_at "rd"
                    refine r_iteb (fun c1 => ?_) (fun c1 => ?_)
                    · repeat walk_at "rd"
                      rw [show (mkS r.its).cps.toList = r.its from rfl]
                      refine r_ite (fun c2 => ?_) (fun c2 => ?_)
                      · repeat walk_at "rd"
                        rw [show (mkS r.fol).cps.toList = r.fol from rfl]
                        refine r_ite (fun c3 => ?_) (fun c3 => ?_)
                        · repeat walk_at "rd"
                          exact yes s3 (by rw [ef, c1, decide_eq_true c2, decide_eq_true c3]; rfl)
                        · repeat walk_at "rd"
                          exact ⟨s3, ⟨_, _, _, _, _, rfl⟩, no (by rw [ef, decide_eq_false c3]; simp)⟩
                      · repeat walk_at "rd"
                        exact ⟨s3, ⟨_, _, _, _, _, rfl⟩, no (by rw [ef, decide_eq_false c2]; simp)⟩
                    · repeat walk_at "rd"
                      exact ⟨s3, ⟨_, _, _, _, _, rfl⟩, no (by rw [ef, c1]; simp)⟩
      · obtain ⟨s1, ⟨p1, p2, p3, p4, p5, rfl⟩, hf⟩ := p
        repeat walk_at "rd"
        have := k _ s1
        rw [hf, hlx, List.drop_length] at this
        exact this
/-! ### apply_edit -/
abbrev cv (c : Nat) : V := .str ⟨#[c]⟩
def isMB : Edit → Bool
  | .mark _ => true
  | .brk => true
  | _ => false
def spApply (K : PySem.W.Frag) : Sp := fun vs H Q _ => ∃ v l, ∃ e : Edit, ∃ its : List Nat, ∃ i : Nat, vs = [v, .ref l, .int i] ∧ Dp K H v (edD e) ∧ isMB e = false ∧ H l = some (.lst (its.map cv)) ∧ its.length ≤ 900000 ∧ i ≤ 900000 ∧
  ∀ H', Chg [l] H H' → H' l = some (.lst ((applyE e its i).map cv)) → Q .non H'
theorem seqIx {i n : Nat} (h : i < n) : seqIndex? (i : Int) n = some i := by
  unfold seqIndex?
  have h1 : ¬ ((i : Int) < 0) := by omega
  simp only [h1, if_false]
  rw [decide_eq_true (show (0 : Int) ≤ (i : Int) by omega), decide_eq_true (show (i : Int) < (n : Int) by omega)]
  rfl
theorem ixNat {i n : Nat} (h : i < n) : ixN n (i : Int) = some i := by
  have h2 := atI_nat (xs := List.range n) (j := i) (v := i) (by rw [List.getElem?_range h])
  unfold atI at h2
  rw [List.length_range] at h2
  cases hq : ixN n (i : Int) with
  | none => rw [hq] at h2; cases h2
  | some j =>
    rw [hq] at h2
    have h3 : (List.range n)[j]? = some i := h2
    have h4 : j < n := by
      have := (List.getElem?_eq_some_iff.mp h3).1
      rwa [List.length_range] at this
    rw [List.getElem?_range h4] at h3
    rw [Option.some.inj h3]
theorem eraseIdx_map {α β : Type} (f : α → β) : ∀ (l : List α) (i : Nat), (l.map f).eraseIdx i = (l.eraseIdx i).map f
  | [], _ => rfl
  | _ :: _, 0 => rfl
  | a :: l, i + 1 => by
    rw [List.map_cons, List.eraseIdx_cons_succ, List.eraseIdx_cons_succ, List.map_cons, eraseIdx_map f l i]
theorem r_gstar1 {t : TGs} {a : Addr} {x : V} {r : List V} {σ : L2.St} {H : Hp} {Q : L2.St → Hp → Prop} (s : SqT K H a (x :: r)) (z : r.length ≤ 16000) (h : ∀ D, H D = none → t [x, .ref D] σ (upd H D (.lst r)) Q) : gStar K 2 1 t (.ref a) σ H Q := by
  refine r_gstar s (by simp) (by simp; omega) fun D hD => ?_
  have := h D hD
  simpa using this
theorem ok_apply_edit (T : Txt w K mg) : Prom P w K mg base CX0 1 (a_apply_edit K) p_apply_edit [] (spApply K) := by
  obtain ⟨fd, F⟩ := T.d_apply_edit
  have sc := sc_apply_edit
  refine prom0 F sc (bn_apply_edit F) (fun vs H Q E h => ?_) (fun cdv A outer s H vs Q E hr h => ?_)
  · obtain ⟨v, l, e, its, i, rfl, _⟩ := h
    rfl
  · obtain ⟨v, l, e, its, i, rfl, hd, hm, hl, hn, hi, k⟩ := h
    refine ⟨_, (pss_cons (ps_asg (pv 0) (gStarA (K := K) (n := 2) (i := 1) rfl (pgs_cons (pg_name (i := 3) sc.nd rfl (by first | exact Or.inl rfl | exact Or.inr rfl)) (pgs_star (pg_name (i := 4) sc.nd rfl (by first | exact Or.inl rfl | exact Or.inr rfl)) pgs_nil))))
      (pss_one (ps_if (pt_cmpR (oEq (K := K) hr.units) (pv 3) pe_str (nomark _)) (pss_one (ps_expr (eBm (K := K) (pe_bm PySem.F.plainAttrs_list PySem.F.slot_list_insert PySem.F.type_list_insert mt_insert (pv 1) (pa_cons (pv 2) (pa_cons (pe_ix (iIx (P := P) (w := w) (K := K) hr.units) (pv 4) pe_int (fun _ _ => rfl)) pa_nil)))))) (pss_one (ps_if (pt_cmpR (oEq (K := K) hr.units) (pv 3) pe_str (nomark _)) (pss_one (ps_expr (eBm (K := K) (pe_bm PySem.F.plainAttrs_list PySem.F.slot_list_insert PySem.F.type_list_insert mt_insert (pv 1) (pa_cons (pe_op (oAdd (K := K)) (pv 2) pe_int) (pa_cons (pe_ix (iIx (P := P) (w := w) (K := K) hr.units) (pv 4) pe_int (fun _ _ => rfl)) pa_nil)))))) (pss_one (ps_if (PW.pt (pw_and (pt_cmpR (oEq (K := K) hr.units) (pv 3) pe_str (nomark _)) (pw_and1 (pt_cmpR op_lt (pv 2) (pe_callB (cLen (K := K)) (by rfl) T.z_len (by decide +kernel) (pa_cons (pv 1) pa_nil)) (nomark _))))) (pss_one (ps_asg (pe_ix (iIx (P := P) (w := w) (K := K) hr.units) (pv 4) pe_int (fun _ _ => rfl)) (pg_sub (pv 1) (pv 2) (iSet (P := P) (w := w) hr.units)))) (pss_one (ps_if (PW.pt (pw_and (pt_cmpR (oEq (K := K) hr.units) (pv 3) pe_str (nomark _)) (pw_and1 (pt_cmpR op_lt (pv 2) (pe_callB (cLen (K := K)) (by rfl) T.z_len (by decide +kernel) (pa_cons (pv 1) pa_nil)) (nomark _))))) (pss_one (ps_delL (pv 1) (pv 2))) (pss_one (ps_if (PW.pt (pw_and (pt_cmpR (oEq (K := K) hr.units) (pv 3) pe_str (nomark _)) (pw_and1 (pt_cmpR op_lt (pe_op (oAdd (K := K)) (pv 2) pe_int) (pe_callB (cLen (K := K)) (by rfl) T.z_len (by decide +kernel) (pa_cons (pv 1) pa_nil)) (nomark _))))) (pss_one (ps_delL (pv 1) (pe_op (oAdd (K := K)) (pv 2) pe_int))) pss_nil))))))))))), ?_⟩
    have ins : ∀ {c : Nat} {j : Nat} {H1 : Hp}, Same H H1 → (its.take j ++ [c] ++ its.drop j = applyE e its i) → j ≤ 1000000 → ∃ l' xs i' y, V.ref l = .ref l' ∧ [V.int (j : Int), cv c] = [.int i', y] ∧ H1 l' = some (.lst xs) ∧ xs.length < sizeLine ∧ 0 ≤ i' ∧ i' < 2 ^ 63 ∧ Q .non (upd H1 l' (.lst (xs.take i'.toNat ++ [y] ++ xs.drop i'.toNat))) := by
      intro c j H1 s1 he hj
      refine ⟨l, _, _, _, rfl, rfl, s1 _ _ hl, ?_, by omega, by omega, k _ ((Chg.of_same s1).trans (Chg.upd (s1 _ _ hl) (by simp))) ?_⟩
      · rw [List.length_map]
        exact Nat.lt_of_le_of_lt hn (by decide)
      · rw [upd_same, ← he]
        simp [List.map_take, List.map_drop]
    have hlen : (its.map cv).length = its.length := List.length_map ..
    have hx : ∃ a xs, v = .ref a ∧ SqT K H a xs ∧ DpAll K H xs (match edD e with | .tuple ds => ds | _ => []) := by
      revert hd
      cases e <;> (intro hd; cases hd with | tup h1 h2 => exact ⟨_, _, rfl, h1, h2⟩)
    obtain ⟨a, xs, rfl, hS, hA⟩ := hx
    cases e with
    | mark m => cases hm
    | brk => cases hm
    | before c =>
      cases hA with
      | cons g1 hA => cases hA with
        | cons g2 hA => cases hA with
          | nil =>
            cases g1
            cases g2
            repeat walk_at "rd"
            refine r_gstar1 hS (Nat.le_of_ble_eq_true rfl) fun D hD => ?_
            repeat walk_at "rd"
            exact ins (Same.new hD) rfl (by omega)
    | after c =>
      cases hA with
      | cons g1 hA => cases hA with
        | cons g2 hA => cases hA with
          | nil =>
            cases g1
            cases g2
            repeat walk_at "rd"
            refine r_gstar1 hS (Nat.le_of_ble_eq_true rfl) fun D hD => ?_
            repeat walk_at "rd"
            exact ins (j := i + 1) (Same.new hD) rfl (by omega)
    | put c =>
      cases hA with
      | cons g1 hA => cases hA with
        | cons g2 hA => cases hA with
          | nil =>
            cases g1
            cases g2
            repeat walk_at "rd"
            refine r_gstar1 hS (Nat.le_of_ble_eq_true rfl) fun D hD => ?_
            repeat walk_at "rd"
            rw [hlen]
            refine r_ite (fun c1 => ?_) (fun c1 => ?_)
            · repeat walk_at "rd"
              have hi2 : i < its.length := by omega
              refine r_setL2 (xs := its.map cv) (j := i) (look_new hD hl) (by rw [hlen]; exact ixNat hi2) ?_
              repeat walk_at "rd"
              refine k _ ((Chg.new hD).trans (Chg.upd (look_new hD hl) (by simp))) ?_
              rw [upd_same]
              simp only [applyE]
              rw [if_pos (by omega), List.map_set]
              rfl
            · repeat walk_at "rd"
              refine k _ (Chg.new hD) ?_
              rw [upd_ne (ne_of_none hl hD)]
              simp only [applyE]
              rw [if_neg (by omega)]
              exact hl
    | drop =>
      cases hA with
      | cons g1 hA => cases hA with
        | nil =>
            cases g1
            repeat walk_at "rd"
            refine r_gstar1 hS (Nat.le_of_ble_eq_true rfl) fun D hD => ?_
            repeat walk_at "rd"
            rw [hlen]
            refine r_ite (fun c1 => ?_) (fun c1 => ?_)
            · repeat walk_at "rd"
              refine ⟨l, _, _, i, rfl, rfl, look_new hD hl, by omega, by omega, by rw [hlen]; exact seqIx (i := i) (by omega), ?_⟩
              repeat walk_at "rd"
              refine k _ ((Chg.new hD).trans (Chg.upd (look_new hD hl) (by simp))) ?_
              rw [upd_same]
              simp only [applyE]
              rw [if_pos (by omega), eraseIdx_map]
            · repeat walk_at "rd"
              refine k _ (Chg.new hD) ?_
              rw [upd_ne (ne_of_none hl hD)]
              simp only [applyE]
              rw [if_neg (by omega)]
              exact hl
    | dropN =>
      cases hA with
      | cons g1 hA => cases hA with
        | nil =>
            cases g1
            repeat walk_at "rd"
            refine r_gstar1 hS (Nat.le_of_ble_eq_true rfl) fun D hD => ?_
            repeat walk_at "rd"
            rw [hlen]
            refine r_ite (fun c1 => ?_) (fun c1 => ?_)
            · repeat walk_at "rd"
              refine ⟨l, _, _, i + 1, rfl, rfl, look_new hD hl, by omega, by omega, by rw [hlen]; exact seqIx (i := i + 1) (by omega), ?_⟩
              repeat walk_at "rd"
              refine k _ ((Chg.new hD).trans (Chg.upd (look_new hD hl) (by simp))) ?_
              rw [upd_same]
              simp only [applyE]
              rw [if_pos (by omega), eraseIdx_map]
            · repeat walk_at "rd"
              refine k _ (Chg.new hD) ?_
              rw [upd_ne (ne_of_none hl hD)]
              simp only [applyE]
              rw [if_neg (by omega)]
              exact hl
end
end OB

namespace OB
open PySem PySem.Spec PyProof.Rows L2
local macro_rules | `(tactic| walk_at "hp") => `(tactic| first
  | assumption | exact upd_same | (refine look_new ?_ ?_ <;> walk_at "hp") | ((refine' look_mut (v := ?lv) ?lq ?lp ?ld); (case lq => walk_at "hp"); (case lp => walk_at "hp"); (case ld => (intro z; cases z))))
local macro_rules | `(tactic| walk_at "rd") => `(tactic| (first
  | (with_reducible first
  | refine r_seq ?_ | refine r_asg ?_ | refine r_gname ?_ | refine r_ret ?_ | refine r_retN ?_ | refine r_next ?_ | refine r_drop ?_ | refine r_if ?_
  | refine r_c ?_ | refine r_op ?_ | refine r_test ?_ | refine r_tb ?_ | refine r_bl ?_ | refine r_and ?_ | refine r_or ?_ | refine r_not ?_
  | refine r_andV ?_ | refine r_orV ?_ | refine r_notV ?_ | refine r_ifE ?_ | refine r_nil ?_ | refine r_cons ?_ | refine r_tup ?_ | refine r_lst ?_ | refine r_cb ?_ | refine r_call ?_ | refine r_sub ?_
  | refine r_addI ?_ | refine r_I0 ?_ | refine r_eqI ?_ | refine r_neI ?_ | refine r_eqS ?_ | refine r_neS ?_ | refine r_inS ?_ | refine r_inS2 ?_ | refine r_notInS2 ?_ | refine r_isNA ?_ | refine r_m1 ?_ | refine r_isstr ?_ | refine r_lc ?_ | refine r_notNA ?_ | refine r_kt ?_ | refine r_chain ?_ | refine r_gcons ?_ | refine r_gnil ?_ | refine r_fld ?_ | refine r_sfld ?_ | refine r_meth ?_ | refine r_sl ?_ | refine r_part ?_ | refine r_nopart ?_ | refine r_int ?_ | refine r_star ?_ | refine r_delL ?_ | refine r_par ?_ | refine r_parAt ?_ | refine r_par3 ?_ | refine r_parAt3 ?_ | refine r_fldaug ?_ | refine r_brk ?_ | refine r_for ?_ | refine r_ienT ?_ | refine r_make ?_ | refine r_bm ?_ | refine r_bm0 ?_ | refine iteT ?_ | refine iteF ?_)
  | ((with_reducible refine' r_var ?he ?_); (case he => rfl))
  | (with_reducible first | refine r_abs ?_ | refine r_max ?_ | refine r_min ?_)
  | ((with_reducible refine' r_lenSq ?hs ?_); (case hs => first | exact .inl (by assumption) | exact .inr (by assumption) | exact .inl (SqL.of (by walk_at "hp")) | exact .inr (SqT.of (by walk_at "hp"))))
  | ((with_reducible refine' r_mulR ?hc ?_); (case hc => decide))
  | ((with_reducible refine' r_mulL ?hc ?_); (case hc => decide))
  | ((with_reducible refine' r_mod ?hc ?_); (case hc => first | decide | assumption | omega))
  | ((with_reducible refine' r_div ?hc ?_); (case hc => first | decide | assumption | (constructor <;> first | assumption | omega)))
  | ((with_reducible refine' r_pow ?hc ?_); (case hc => first | decide | (refine ⟨by decide, by decide, by omega⟩)))
  | ((with_reducible refine' r_ixL2 ?hs ?he ?_); (case hs => exact SqL.of (by walk_at "hp")); (case he => first | rfl | exact atI0 | exact atI1 | exact atI2 | exact atI3))
  | ((with_reducible refine' r_ixT2 ?hs ?he ?_); (case hs => first | assumption | exact SqT.of (by walk_at "hp")); (case he => first | rfl | exact atI0 | exact atI1 | exact atI2 | exact atI3))
  | ((with_reducible refine' r_setL2 ?hs ?he ?_); (case hs => walk_at "hp"); (case he => rfl))
  | ((with_reducible refine' r_gtup ?hs ?he ?_); (case hs => first | assumption | exact SqT.of (by walk_at "hp")); (case he => rfl))
  | ((with_reducible refine' r_fldAt ?hs ?hc ?hn ?hl ?_); (case hs => walk_at "hp"); (case hc => walk_at "cl"); (case hn => walk_at "cl"); (case hl => rfl))
  | ((with_reducible refine' r_sfldAt ?hs ?hc ?hn ?hl ?_); (case hs => walk_at "hp"); (case hc => walk_at "cl"); (case hn => walk_at "cl"); (case hl => exact Nat.le_of_ble_eq_true rfl))
  | ((with_reducible refine' r_aug ?he ?_); (case he => rfl))
  | ((with_reducible refine' r_starAt ?hs ?_); (case hs => first | exact .inl (by assumption) | exact .inr (by assumption) | exact .inl (SqT.of (by walk_at "hp")) | exact .inr (SqL.of (by walk_at "hp"))))
  | ((with_reducible refine' r_fldaugAt ?hs ?hc ?hn ?hl ?_); (case hs => walk_at "hp"); (case hc => walk_at "cl"); (case hn => walk_at "cl"); (case hl => rfl))
  | ((with_reducible refine' r_methAt ?hs ?hl ?_); (case hs => walk_at "hp"); (case hl => rfl))
  | ((with_reducible refine' r_tyL ?hs ?_); (case hs => first | assumption | exact SqL.of (by walk_at "hp")))
  | ((with_reducible refine' r_ifT ?h ?_); (case h => rfl))
  | ((with_reducible refine' r_ifF ?h ?_); (case h => rfl))
  | ((with_reducible first | refine' r_isiInt ?hd ?_ | refine' r_isiBool ?hd ?_ | refine' r_isiStr ?hd ?_ | refine' r_isiTup ?hd ?_ | refine' r_isiLst ?hd ?_); (case hd => assumption))
  ))

local macro_rules | `(tactic| walk_at "cl") => `(tactic| assumption)
abbrev PassC (K : PySem.W.Frag) : Addr := He.ga K "Pass"
def passF1 (it : V) : List (Str × V) := [("item", it)]
def passFs (it ru : V) (m : Nat) (b : Bool) : List (Str × V) := [("item", it), ("rule", ru), ("mark", .int m), ("is_broken", .bl b)]
def spCarry (K : PySem.W.Frag) : Sp := fun vs H Q _ => ∃ self l dx, ∃ v it ru : V, ∃ es : List Edit, ∃ its : List Nat, ∃ i m : Nat, ∃ b : Bool, vs = [.ref self, v, .ref l, .int i] ∧ Dp K H v (.tuple (es.map edD)) ∧ es.length ≤ 1000 ∧
  H self = some (.ins (PassC K) dx (passFs it ru m b)) ∧ H l = some (.lst (its.map cv)) ∧ its.length ≤ 800000 ∧ i ≤ 800000 ∧
  ∀ H', Chg [self, l] H H' → H' self = some (.ins (PassC K) dx (passFs it ru (carry es i (its, m, b)).2.1 (carry es i (its, m, b)).2.2)) → H' l = some (.lst ((carry es i (its, m, b)).1.map cv)) → Q .non H'
section
variable {P : Program} {w : World} {K : PySem.W.Frag} {mg : Str → Option Value} {base : Heap}
theorem DpAll.getE {H : Hp} {xs : List V} {α : Type} {f : α → PyData} {l : List α} (h : DpAll K H xs (l.map f)) {i : Nat} {x : V} (hx : xs[i]? = some x) : ∃ e, l[i]? = some e ∧ Dp K H x (f e) := by
  obtain ⟨d, h1, h2⟩ := DpAll.get h hx
  rw [List.getElem?_map] at h1
  obtain ⟨e, h3, rfl⟩ := Option.map_eq_some_iff.mp h1
  exact ⟨e, h3, h2⟩
theorem ok_carry_out (T : Txt w K mg) : Prom P w K mg base CX0 2 (a_Pass_carry_out K) p_Pass_carry_out [] (spCarry K) := by
  obtain ⟨fd, F⟩ := T.d_Pass_carry_out
  have sc := sc_Pass_carry_out
  have G_apply_edit := ok_apply_edit (P := P) (base := base) T
  have c1 := T.cl_Pass
  have c2 := T.na_Pass_mark
  have c3 := T.na_Pass_is_broken
  refine prom0 F sc (bn_Pass_carry_out F) (fun vs H Q E h => ?_) (fun cdv A outer s H vs Q E hr h => ?_)
  · obtain ⟨self, l, dx, v, it, ru, es, its, i, m, b, rfl, _⟩ := h
    rfl
  · obtain ⟨self, l, dx, v, it, ru, es, its, j, m, b, rfl, hd, he, hself, hl, hn, hj, k⟩ := h
    refine ⟨_, (pss_one (ps_for PassesOwn.never rfl (piA (K := K) (pv 1)) (pg_name (i := 4) sc.nd rfl (by first | exact Or.inl rfl | exact Or.inr rfl)) (pss_one (ps_if (pt_cmpR (oEq (K := K) hr.units) (pe_ix (iIx (P := P) (w := w) (K := K) hr.units) (pv 4) pe_int (fun _ _ => rfl)) pe_str (nomark _)) (pss_one (sFldA (K := K) (pv 0) (pe_ix (iIx (P := P) (w := w) (K := K) hr.units) (pv 4) pe_int (fun _ _ => rfl)))) (pss_one (ps_if (pt_cmpR (oEq (K := K) hr.units) (pe_ix (iIx (P := P) (w := w) (K := K) hr.units) (pv 4) pe_int (fun _ _ => rfl)) pe_str (nomark _)) (pss_one (sFldA (K := K) (pv 0) pe_bl)) (pss_one (ps_expr (pe_callP G_apply_edit (hr.mono (by decide)) T.g_apply_edit pass0 (pa_cons (pv 4) (pa_cons (pv 2) (pa_cons (pv 3) pa_nil)))))))))))), ?_⟩
    cases hd with
    | tup hS hA =>
      rename_i a xs
      have hlx : xs.length = es.length := by rw [DpAll.length hA, List.length_map]
      repeat walk_at "rd"
      refine r_iany_t ?_
      repeat walk_at "rd"
      refine r_forT hS (fun i σ H' => Chg [self, l] H H' ∧ (∃ p, σ = [some (.ref self), some (.ref a), some (.ref l), some (.int j), p]) ∧ ∃ t, t = carry (es.take i) j (its, m, b) ∧ H' self = some (.ins (PassC K) dx (passFs it ru t.2.1 t.2.2)) ∧ H' l = some (.lst (t.1.map cv)))
        ⟨Chg.refl, ⟨_, rfl⟩, _, rfl, hself, hl⟩ (fun i σ H' _ p => Chg.sqt p.1 hS) (fun i x σ H' hx p => ?_) (fun σ H' p => ?_)
      · obtain ⟨s1, ⟨p1, rfl⟩, t, ht, h1, h2⟩ := p
        obtain ⟨e, he1, he2⟩ := DpAll.getE hA hx
        have he3 := dp_chg s1 (tup_ed e) he2
        have hnext : carry (es.take (i + 1)) j (its, m, b) = carry1 e j t := by
          rw [take_snoc he1, carry_app, ← ht, carry_cons]
          rfl
        have hlt : t.1.length ≤ 810000 := by
          rw [ht]
          have := carry_len (es.take i) j (its, m, b)
          rw [List.length_take] at this
          simp only at this
          omega
        have app : isMB e = false → ∀ {F : VK} {E' : XK}, (∀ H2, (Chg [self, l] H H2 ∧ (∃ p, [some (V.ref self), some (.ref a), some (.ref l), some (.int (j : Int)), some x] = [some (V.ref self), some (.ref a), some (.ref l), some (.int j), p]) ∧ ∃ t, t = carry (es.take (i + 1)) j (its, m, b) ∧ H2 self = some (.ins (PassC K) dx (passFs it ru t.2.1 t.2.2)) ∧ H2 l = some (.lst (t.1.map cv))) → F .non H2) → spApply K ([x, .ref l, .int j] ++ []) H' F E' := by
          intro hm F E' hF
          refine ⟨_, _, e, t.1, j, rfl, he3, hm, h2, by omega, by omega, fun H2 g1 g2 => hF H2 ⟨s1.trans (g1.mono (by simp)), ⟨_, rfl⟩, _, rfl, ?_, ?_⟩⟩
          · rw [hnext, g1.at1 h1 h2 (fun q => by cases q)]
            cases e <;> first | rfl | cases hm
          · rw [hnext, g2]
            cases e <;> first | rfl | cases hm
        cases e with
        | mark q =>
          have he4 := he3
          cases he3 with
          | tup hS3 hA3 => cases hA3 with
            | cons g1 hA3 => cases hA3 with
              | cons g2 hA3 => cases hA3 with
                | nil =>
                  cases g1
                  cases g2
                  repeat walk_at "rd"
                  refine ⟨s1.trans (Chg.upd h1 (by simp)), ⟨_, rfl⟩, _, rfl, ?_, ?_⟩
                  · rw [upd_same, hnext]
                    rfl
                  · rw [upd_ne (ne_of h2 h1 (fun q => by cases q)), hnext]
                    exact h2
        | brk =>
          have he4 := he3
          cases he3 with
          | tup hS3 hA3 => cases hA3 with
            | cons g1 hA3 => cases hA3 with
              | nil =>
                  cases g1
                  repeat walk_at "rd"
                  refine ⟨s1.trans (Chg.upd h1 (by simp)), ⟨_, rfl⟩, _, rfl, ?_, ?_⟩
                  · rw [upd_same, hnext]
                    rfl
                  · rw [upd_ne (ne_of h2 h1 (fun q => by cases q)), hnext]
                    exact h2
        | put c =>
          have he4 := he3
          cases he3 with
          | tup hS3 hA3 => cases hA3 with
            | cons g1 hA3 =>
              cases g1
              repeat walk_at "rd"
              exact app rfl fun H2 z => z
        | drop =>
          have he4 := he3
          cases he3 with
          | tup hS3 hA3 => cases hA3 with
            | cons g1 hA3 =>
              cases g1
              repeat walk_at "rd"
              exact app rfl fun H2 z => z
        | dropN =>
          have he4 := he3
          cases he3 with
          | tup hS3 hA3 => cases hA3 with
            | cons g1 hA3 =>
              cases g1
              repeat walk_at "rd"
              exact app rfl fun H2 z => z
        | before c =>
          have he4 := he3
          cases he3 with
          | tup hS3 hA3 => cases hA3 with
            | cons g1 hA3 =>
              cases g1
              repeat walk_at "rd"
              exact app rfl fun H2 z => z
        | after c =>
          have he4 := he3
          cases he3 with
          | tup hS3 hA3 => cases hA3 with
            | cons g1 hA3 =>
              cases g1
              repeat walk_at "rd"
              exact app rfl fun H2 z => z
      · obtain ⟨s1, ⟨p1, rfl⟩, t, ht, h1, h2⟩ := p
        rw [hlx, List.take_length] at ht
        subst ht
        exact k _ s1 h1 h2
/-! ### a pass -/
def spPass (K : PySem.W.Frag) : Sp := fun vs H Q _ => ∃ self l dx, ∃ v : V, ∃ L : Loop, ∃ its : List Nat, ∃ i m : Nat, vs = [.ref self, v, .ref l, .int i, .int m] ∧ Dp K H v (loopD L) ∧ L.rules.length ≤ 100 ∧ (∀ r ∈ L.rules, r.eds.length ≤ 1000) ∧
  H self = some (.ins (PassC K) dx []) ∧ H l = some (.lst (its.map cv)) ∧ its.length ≤ 800000 ∧ i < its.length ∧
  ∀ H', Chg [self, l] H H' → H' self = some (.ins (PassC K) dx (passFs (cv (its.getD i 0)) (optV (ruleAt L its i m)) (passAt L its i m).2.1 (passAt L its i m).2.2)) → H' l = some (.lst ((passAt L its i m).1.map cv)) → Q .non H'
theorem ok_Pass (T : Txt w K mg) : Prom P w K mg base CX0 3 (a_Pass_init K) p_Pass_init [] (spPass K) := by
  obtain ⟨fd, F⟩ := T.d_Pass_init
  have sc := sc_Pass_init
  have G_fitting_rule := ok_fitting_rule (P := P) (base := base) T
  have G_Pass_carry_out := ok_carry_out (P := P) (base := base) T
  have c1 := T.cl_Pass
  have c2 := T.na_Pass_mark
  have c3 := T.na_Pass_is_broken
  have c4 := T.na_Pass_item
  have c5 := T.na_Pass_rule
  refine prom0 F sc (bn_Pass_init F) (fun vs H Q E h => ?_) (fun cdv A outer s H vs Q E hr h => ?_)
  · obtain ⟨self, l, dx, v, L, its, i, m, rfl, _⟩ := h
    rfl
  · obtain ⟨self, l, dx, v, L, its, i, m, rfl, hd, hrl, hel, hself, hl, hn, hi, k⟩ := h
    refine ⟨_, (pss_cons (ps_asg (pv 1) (gTupA (K := K) (n := 2) rfl (pgs_cons (pg_name (i := 5) sc.nd rfl (by first | exact Or.inl rfl | exact Or.inr rfl)) (pgs_cons (pg_name (i := 6) sc.nd rfl (by first | exact Or.inl rfl | exact Or.inr rfl)) pgs_nil))))
      (pss_cons (sFldA (K := K) (pv 0) (pe_ix (iIx (P := P) (w := w) (K := K) hr.units) (pv 2) (pv 3) (fun _ _ => rfl)))
      (pss_cons (ps_set (i := 7) sc.nd rfl (by first | exact Or.inl rfl | exact Or.inr rfl) (pe_ifExp (pt_cmpR op_lt (pe_op (oAdd (K := K)) (pv 3) pe_int) (pe_callB (cLen (K := K)) (by rfl) T.z_len (by decide +kernel) (pa_cons (pv 2) pa_nil)) (nomark _)) (pe_ix (iIx (P := P) (w := w) (K := K) hr.units) (pv 2) (pe_op (oAdd (K := K)) (pv 3) pe_int) (fun _ _ => rfl)) (pe_ks rfl T.c_END)))
      (pss_cons (sFldA (K := K) (pv 0) (pe_callP G_fitting_rule (hr.mono (by decide)) T.g_fitting_rule pass0 (pa_cons (pv 5) (pa_cons (pv 4) (pa_cons (eFld (K := K) (pv 0)) (pa_cons (pv 7) pa_nil))))))
      (pss_cons (sFldA (K := K) (pv 0) (pv 4))
      (pss_cons (sFldA (K := K) (pv 0) pe_bl)
      (pss_one (ps_if (pt_cmpR op_notNA (eFld (K := K) (pv 0)) pe_non (nomark _)) (pss_one (ps_expr (pe_methP (pv 0) T.cl_Pass T.mt_Pass_carry_out G_Pass_carry_out (hr.mono (by decide)) pass0 (pa_cons (pe_ix (iIx (P := P) (w := w) (K := K) hr.units) (pe_ix (iIx (P := P) (w := w) (K := K) hr.units) (pv 5) (eFld (K := K) (pv 0)) (fun _ _ => rfl)) pe_int (fun _ _ => rfl)) (pa_cons (pv 2) (pa_cons (pv 3) pa_nil)))))) pss_nil)))))))), ?_⟩
    have hd0 := hd
    cases hd with
    | tup hS hA => cases hA with
      | cons g1 hA => cases hA with
        | cons g2 hA => cases hA with
          | nil =>
            rename_i a vr ve
            have hlen : (its.map cv).length = its.length := List.length_map ..
            have hgi : its[i]? = some (its.getD i 0) := by
              rw [List.getD_eq_getElem?_getD, List.getElem?_eq_getElem hi]
              rfl
            repeat walk_at "rd"
            refine r_ixL2 (SqL.of hl) (atI_nat (by rw [List.getElem?_map, hgi]; rfl)) ?_
            repeat walk_at "rd"
            have hs1 : Chg [self, l] H (upd H self (.ins (PassC K) dx (passF1 (cv (its.getD i 0))))) := Chg.upd hself (by simp)
            have hl1 : (upd H self (.ins (PassC K) dx (passF1 (cv (its.getD i 0))))) l = some (.lst (its.map cv)) := look_mut hself hl (fun z => by cases z)
            have hse1 : (upd H self (.ins (PassC K) dx (passF1 (cv (its.getD i 0))))) self = some (.ins (PassC K) dx (passF1 (cv (its.getD i 0)))) := upd_same
            have hd1 := dp_chg hs1 (tup_loop L) hd0
            rw [hlen, show (putF "item" (cv (its.getD i 0)) []) = passF1 (cv (its.getD i 0)) from rfl]
            generalize upd H self (.ins (PassC K) dx (passF1 (cv (its.getD i 0)))) = H1 at *
            have hgr : Dp K H1 vr (.tuple (L.rules.map ruleD)) := dp_chg hs1 (tupAll_map tup_rule _) g1
            refine r_ite (fun c => ?_) (fun c => ?_)
            · have hgi2 : its[i + 1]? = some (its.getD (i + 1) 0) := by
                rw [List.getD_eq_getElem?_getD, List.getElem?_eq_getElem (by omega)]
                rfl
              repeat walk_at "rd"
              refine r_ixL2 (SqL.of hl1) (atI_nat (j := i + 1) (by rw [List.getElem?_map, hgi2]; rfl)) ?_
              repeat walk_at "rd"
              refine ⟨vr, L.rules, m, its.getD i 0, its.getD (i + 1) 0, rfl, hgr, hrl, fun H2 s2 => ?_⟩
              have hfo : fit L.rules m (its.getD i 0) (its.getD (i + 1) 0) = ruleAt L its i m := by
                unfold ruleAt
                rw [if_pos (by omega)]
              rw [hfo]
              cases hk : ruleAt L its i m with
              | none =>
                have hse2 := s2 _ _ hse1
                have hl2 := s2 _ _ hl1
                repeat walk_at "rd"
                refine k _ (hs1.trans ((Chg.of_same s2).trans ((Chg.upd hse2 (by simp)).trans ((Chg.upd upd_same (by simp)).trans (Chg.upd upd_same (by simp)))))) ?_ ?_
                · rw [upd_same, hk]
                  unfold passAt
                  rw [hk]
                  rfl
                · unfold passAt
                  rw [hk]
                  exact look_mut upd_same (look_mut upd_same (look_mut hse2 hl2 (fun z => by cases z)) (fun z => by cases z)) (fun z => by cases z)
              | some kx =>
                have hse2 := s2 _ _ hse1
                have hl2 := s2 _ _ hl1
                have hkx : kx < L.rules.length := fit_lt hk
                repeat walk_at "rd"
                rw [upd_upd, upd_upd, show putF "is_broken" (V.bl false) (putF "mark" (V.int (m : Int)) (putF "rule" (optV (some kx)) (passF1 (cv (its.getD i 0))))) = passFs (cv (its.getD i 0)) (optV (some kx)) m false from rfl]
                have h3 : (upd H2 self (.ins (PassC K) dx (passFs (cv (its.getD i 0)) (optV (some kx)) m false))) self = some (.ins (PassC K) dx (passFs (cv (its.getD i 0)) (optV (some kx)) m false)) := upd_same
                have s3 : Chg [self, l] H (upd H2 self (.ins (PassC K) dx (passFs (cv (its.getD i 0)) (optV (some kx)) m false))) := hs1.trans ((Chg.of_same s2).trans (Chg.upd hse2 (by simp)))
                have hl3 : (upd H2 self (.ins (PassC K) dx (passFs (cv (its.getD i 0)) (optV (some kx)) m false))) l = some (.lst (its.map cv)) := look_mut hse2 hl2 (fun z => by cases z)
                have hg3 := dp_chg s3 (d := .tuple (L.rules.map ruleD)) (tupAll_map tup_rule L.rules) g1
                generalize upd H2 self (.ins (PassC K) dx (passFs (cv (its.getD i 0)) (optV (some kx)) m false)) = H3 at *
                cases hg3 with
                | tup hS3 hA3 =>
                  rename_i a1 xs1
                  have hr1 : L.rules[kx]? = some (L.rules.getD kx default) := by
                    rw [List.getD_eq_getElem?_getD, List.getElem?_eq_getElem hkx]
                    rfl
                  obtain ⟨x, hx1, hx2⟩ := DpAll.get2 (i := kx) (d := ruleD (L.rules.getD kx default)) hA3 (by rw [List.getElem?_map, hr1]; rfl)
                  repeat walk_at "rd"
                  refine r_ixT2 hS3 (atI_nat hx1) ?_
                  have hx3 := hx2
                  cases hx2 with
                  | tup hS4 hA4 => cases hA4 with
                    | cons q1 hA4 => cases hA4 with
                      | cons q2 hA4 => cases hA4 with
                        | cons q3 hA4 => cases hA4 with
                          | cons q4 hA4 => cases hA4 with
                            | nil =>
                              repeat walk_at "rd"
                              refine ⟨self, l, dx, _, cv (its.getD i 0), optV (some kx), (L.rules.getD kx default).eds, its, i, m, false, rfl, q4, hel _ (List.mem_of_getElem? hr1), h3, hl3, hn, by omega, fun H4 s4 h4 h5 => ?_⟩
                              refine k H4 (s3.trans s4) ?_ ?_
                              · rw [h4, hk]
                                unfold passAt
                                rw [hk]
                                rfl
                              · rw [h5]
                                unfold passAt
                                rw [hk]
                                rfl
            · repeat walk_at "rd"
              refine ⟨vr, L.rules, m, its.getD i 0, 36, rfl, hgr, hrl, fun H2 s2 => ?_⟩
              have hfo : fit L.rules m (its.getD i 0) 36 = ruleAt L its i m := by
                unfold ruleAt
                rw [if_neg (by omega)]
              rw [hfo]
              cases hk : ruleAt L its i m with
              | none =>
                have hse2 := s2 _ _ hse1
                have hl2 := s2 _ _ hl1
                repeat walk_at "rd"
                refine k _ (hs1.trans ((Chg.of_same s2).trans ((Chg.upd hse2 (by simp)).trans ((Chg.upd upd_same (by simp)).trans (Chg.upd upd_same (by simp)))))) ?_ ?_
                · rw [upd_same, hk]
                  unfold passAt
                  rw [hk]
                  rfl
                · unfold passAt
                  rw [hk]
                  exact look_mut upd_same (look_mut upd_same (look_mut hse2 hl2 (fun z => by cases z)) (fun z => by cases z)) (fun z => by cases z)
              | some kx =>
                have hse2 := s2 _ _ hse1
                have hl2 := s2 _ _ hl1
                have hkx : kx < L.rules.length := fit_lt hk
                repeat walk_at "rd"
                rw [upd_upd, upd_upd, show putF "is_broken" (V.bl false) (putF "mark" (V.int (m : Int)) (putF "rule" (optV (some kx)) (passF1 (cv (its.getD i 0))))) = passFs (cv (its.getD i 0)) (optV (some kx)) m false from rfl]
                have h3 : (upd H2 self (.ins (PassC K) dx (passFs (cv (its.getD i 0)) (optV (some kx)) m false))) self = some (.ins (PassC K) dx (passFs (cv (its.getD i 0)) (optV (some kx)) m false)) := upd_same
                have s3 : Chg [self, l] H (upd H2 self (.ins (PassC K) dx (passFs (cv (its.getD i 0)) (optV (some kx)) m false))) := hs1.trans ((Chg.of_same s2).trans (Chg.upd hse2 (by simp)))
                have hl3 : (upd H2 self (.ins (PassC K) dx (passFs (cv (its.getD i 0)) (optV (some kx)) m false))) l = some (.lst (its.map cv)) := look_mut hse2 hl2 (fun z => by cases z)
                have hg3 := dp_chg s3 (d := .tuple (L.rules.map ruleD)) (tupAll_map tup_rule L.rules) g1
                generalize upd H2 self (.ins (PassC K) dx (passFs (cv (its.getD i 0)) (optV (some kx)) m false)) = H3 at *
                cases hg3 with
                | tup hS3 hA3 =>
                  rename_i a1 xs1
                  have hr1 : L.rules[kx]? = some (L.rules.getD kx default) := by
                    rw [List.getD_eq_getElem?_getD, List.getElem?_eq_getElem hkx]
                    rfl
                  obtain ⟨x, hx1, hx2⟩ := DpAll.get2 (i := kx) (d := ruleD (L.rules.getD kx default)) hA3 (by rw [List.getElem?_map, hr1]; rfl)
                  repeat walk_at "rd"
                  refine r_ixT2 hS3 (atI_nat hx1) ?_
                  have hx3 := hx2
                  cases hx2 with
                  | tup hS4 hA4 => cases hA4 with
                    | cons q1 hA4 => cases hA4 with
                      | cons q2 hA4 => cases hA4 with
                        | cons q3 hA4 => cases hA4 with
                          | cons q4 hA4 => cases hA4 with
                            | nil =>
                              repeat walk_at "rd"
                              refine ⟨self, l, dx, _, cv (its.getD i 0), optV (some kx), (L.rules.getD kx default).eds, its, i, m, false, rfl, q4, hel _ (List.mem_of_getElem? hr1), h3, hl3, hn, by omega, fun H4 s4 h4 h5 => ?_⟩
                              refine k H4 (s3.trans s4) ?_ ?_
                              · rw [h4, hk]
                                unfold passAt
                                rw [hk]
                                rfl
                              · rw [h5]
                                unfold passAt
                                rw [hk]
                                rfl
end
end OB

namespace OB
open PySem
/-! ### far runs: the standing, a pass at the first held item, passes one after another -/
structure Stay where
  mark : Nat
  held : List Nat
  brk : Bool
  deriving DecidableEq, Repr, Inhabited
def stayOf (p : List Nat × Nat × Bool) : Stay := if p.2.2 then ⟨p.2.1, [], true⟩ else ⟨p.2.1, p.1.drop 1, false⟩
def partOf (p : List Nat × Nat × Bool) : List Nat := if p.2.2 then p.1 else p.1.take 1
def onePass (L : Loop) (st : Stay) : List Nat × Stay := (partOf (passAt L st.held 0 st.mark), stayOf (passAt L st.held 0 st.mark))
def itS (L : Loop) (st : Stay) : Nat → Stay
  | 0 => st
  | n + 1 => (onePass L (itS L st n)).2
def outAt (L : Loop) (st : Stay) (n : Nat) : List Nat := (onePass L (itS L st n)).1
def outs (L : Loop) (st : Stay) (n : Nat) : List Nat := ((List.range n).map (outAt L st)).flatten
def live (least : Nat) (st : Stay) : Bool := decide (least ≤ st.held.length) && !st.brk
/-- passes until there are fewer than so many items held, or the loop breaks -/
structure Runs (L : Loop) (least : Nat) (st : Stay) (o : List Nat) (n : Nat) (st' : Stay) : Prop where
  lv : ∀ i, i < n → live least (itS L st i) = true
  en : live least st' = false
  at_ : st' = itS L st n
  out : o = outs L st n
def Endl (L : Loop) (least : Nat) (st : Stay) : Prop := ∀ i, live least (itS L st i) = true
theorem itS_succ (L : Loop) (st : Stay) : ∀ n, itS L st (n + 1) = itS L (onePass L st).2 n
  | 0 => rfl
  | n + 1 => by rw [itS, itS_succ L st n]; rfl
theorem itS_add (L : Loop) (st : Stay) (m : Nat) : ∀ n, itS L st (m + n) = itS L (itS L st m) n
  | 0 => rfl
  | n + 1 => by rw [← Nat.add_assoc, itS, itS_add L st m n]; rfl
theorem outs_succ (L : Loop) (st : Stay) (n : Nat) : outs L st (n + 1) = outs L st n ++ outAt L st n := by
  unfold outs
  rw [List.range_succ, List.map_append, List.flatten_append]
  simp
theorem outs_add (L : Loop) (st : Stay) (m : Nat) : ∀ n, outs L st (m + n) = outs L st m ++ outs L (itS L st m) n
  | 0 => by simp [outs]
  | n + 1 => by
    rw [← Nat.add_assoc, outs_succ, outs_add L st m n, outs_succ, List.append_assoc]
    congr 2
    unfold outAt
    rw [itS_add]
/-- repeated pairs and the list that they stand for -/
def den (ps : List (List Nat × Nat)) : List Nat := (ps.map fun p => (List.replicate p.2 p.1).flatten).flatten
theorem den_app (a b : List (List Nat × Nat)) : den (a ++ b) = den a ++ den b := by
  unfold den
  rw [List.map_append, List.flatten_append]
theorem den_one (p : List Nat) (k : Nat) : den [(p, k)] = (List.replicate k p).flatten := by
  simp [den]
theorem den_nil : den [] = [] := rfl
end OB

namespace OB
open PySem PySem.Spec PyProof.Rows L2
local macro_rules | `(tactic| walk_at "hp") => `(tactic| first
  | assumption | exact upd_same | (refine look_new ?_ ?_ <;> walk_at "hp") | ((refine' look_mut (v := ?lv) ?lq ?lp ?ld); (case lq => walk_at "hp"); (case lp => walk_at "hp"); (case ld => (intro z; cases z))))
local macro_rules | `(tactic| walk_at "rd") => `(tactic| (first
  | (with_reducible first
  | refine r_seq ?_ | refine r_asg ?_ | refine r_gname ?_ | refine r_ret ?_ | refine r_retN ?_ | refine r_next ?_ | refine r_drop ?_ | refine r_if ?_
  | refine r_c ?_ | refine r_op ?_ | refine r_test ?_ | refine r_tb ?_ | refine r_bl ?_ | refine r_and ?_ | refine r_or ?_ | refine r_not ?_
  | refine r_andV ?_ | refine r_orV ?_ | refine r_notV ?_ | refine r_ifE ?_ | refine r_nil ?_ | refine r_cons ?_ | refine r_tup ?_ | refine r_lst ?_ | refine r_cb ?_ | refine r_call ?_ | refine r_sub ?_
  | refine r_addI ?_ | refine r_I0 ?_ | refine r_eqI ?_ | refine r_neI ?_ | refine r_eqS ?_ | refine r_neS ?_ | refine r_inS ?_ | refine r_inS2 ?_ | refine r_notInS2 ?_ | refine r_isNA ?_ | refine r_m1 ?_ | refine r_isstr ?_ | refine r_lc ?_ | refine r_notNA ?_ | refine r_kt ?_ | refine r_chain ?_ | refine r_gcons ?_ | refine r_gnil ?_ | refine r_fld ?_ | refine r_sfld ?_ | refine r_meth ?_ | refine r_sl ?_ | refine r_part ?_ | refine r_nopart ?_ | refine r_int ?_ | refine r_star ?_ | refine r_delL ?_ | refine r_par ?_ | refine r_parAt ?_ | refine r_par3 ?_ | refine r_parAt3 ?_ | refine r_fldaug ?_ | refine r_brk ?_ | refine r_for ?_ | refine r_ienT ?_ | refine r_make ?_ | refine r_bm ?_ | refine r_bm0 ?_ | refine iteT ?_ | refine iteF ?_)
  | ((with_reducible refine' r_var ?he ?_); (case he => rfl))
  | (with_reducible first | refine r_abs ?_ | refine r_max ?_ | refine r_min ?_)
  | ((with_reducible refine' r_lenSq ?hs ?_); (case hs => first | exact .inl (by assumption) | exact .inr (by assumption) | exact .inl (SqL.of (by walk_at "hp")) | exact .inr (SqT.of (by walk_at "hp"))))
  | ((with_reducible refine' r_mulR ?hc ?_); (case hc => decide))
  | ((with_reducible refine' r_mulL ?hc ?_); (case hc => decide))
  | ((with_reducible refine' r_mod ?hc ?_); (case hc => first | decide | assumption | omega))
  | ((with_reducible refine' r_div ?hc ?_); (case hc => first | decide | assumption | (constructor <;> first | assumption | omega)))
  | ((with_reducible refine' r_pow ?hc ?_); (case hc => first | decide | (refine ⟨by decide, by decide, by omega⟩)))
  | ((with_reducible refine' r_ixL2 ?hs ?he ?_); (case hs => exact SqL.of (by walk_at "hp")); (case he => first | rfl | exact atI0 | exact atI1 | exact atI2 | exact atI3))
  | ((with_reducible refine' r_ixT2 ?hs ?he ?_); (case hs => first | assumption | exact SqT.of (by walk_at "hp")); (case he => first | rfl | exact atI0 | exact atI1 | exact atI2 | exact atI3))
  | ((with_reducible refine' r_setL2 ?hs ?he ?_); (case hs => walk_at "hp"); (case he => rfl))
  | ((with_reducible refine' r_gtup ?hs ?he ?_); (case hs => first | assumption | exact SqT.of (by walk_at "hp")); (case he => rfl))
  | ((with_reducible refine' r_fldAt ?hs ?hc ?hn ?hl ?_); (case hs => walk_at "hp"); (case hc => walk_at "cl"); (case hn => walk_at "cl"); (case hl => rfl))
  | ((with_reducible refine' r_sfldAt ?hs ?hc ?hn ?hl ?_); (case hs => walk_at "hp"); (case hc => walk_at "cl"); (case hn => walk_at "cl"); (case hl => exact Nat.le_of_ble_eq_true rfl))
  | ((with_reducible refine' r_aug ?he ?_); (case he => rfl))
  | ((with_reducible refine' r_starAt ?hs ?_); (case hs => first | exact .inl (by assumption) | exact .inr (by assumption) | exact .inl (SqT.of (by walk_at "hp")) | exact .inr (SqL.of (by walk_at "hp"))))
  | ((with_reducible refine' r_fldaugAt ?hs ?hc ?hn ?hl ?_); (case hs => walk_at "hp"); (case hc => walk_at "cl"); (case hn => walk_at "cl"); (case hl => rfl))
  | ((with_reducible refine' r_methAt ?hs ?hl ?_); (case hs => walk_at "hp"); (case hl => rfl))
  | ((with_reducible refine' r_tyL ?hs ?_); (case hs => first | assumption | exact SqL.of (by walk_at "hp")))
  | ((with_reducible refine' r_ifT ?h ?_); (case h => rfl))
  | ((with_reducible refine' r_ifF ?h ?_); (case h => rfl))
  | ((with_reducible first | refine' r_isiInt ?hd ?_ | refine' r_isiBool ?hd ?_ | refine' r_isiStr ?hd ?_ | refine' r_isiTup ?hd ?_ | refine' r_isiLst ?hd ?_); (case hd => assumption))
  ))

local macro_rules | `(tactic| walk_at "cl") => `(tactic| assumption)
abbrev StayC (K : PySem.W.Frag) : Addr := He.ga K "Stay"
abbrev TrackC (K : PySem.W.Frag) : Addr := He.ga K "Track"
def stayFs (st : Stay) : List (Str × V) := [("mark", .int st.mark), ("held", .str (mkS st.held)), ("is_broken", .bl st.brk)]
def IsStay (K : PySem.W.Frag) (H : Hp) (v : V) (st : Stay) : Prop := ∃ a dx, v = .ref a ∧ H a = some (.ins (StayC K) dx (stayFs st))
theorem IsStay.chg {K : PySem.W.Frag} {ps : List Addr} {H H' : Hp} {v : V} {st : Stay} (h : IsStay K H v st) (c : Chg ps H H') : IsStay K H' v st :=
  let ⟨a, dx, e, h1⟩ := h
  ⟨a, dx, e, c.prot _ _ rfl h1⟩
def spStay (K : PySem.W.Frag) : Sp := fun vs H Q _ => ∃ self dx, ∃ m : Nat, ∃ z : Str, ∃ b : Bool, vs = [.ref self, .int m, .str z, .bl b] ∧ H self = some (.ins (StayC K) dx []) ∧
  Q .non (upd H self (.ins (StayC K) dx (stayFs ⟨m, tl z, b⟩)))
def nkStay (st : Stay) : NKey := .tup [.num st.mark, .text (mkS st.held), .num (if st.brk = true then 1 else 0)]
theorem nkStay_inj {a b : Stay} (h : nkStay a = nkStay b) : a = b := by
  unfold nkStay at h
  injection h with h
  injection h with h1 h
  injection h with h2 h
  injection h with h3 _
  injection h1 with h1
  injection h2 with h2
  injection h3 with h3
  obtain ⟨m, l, k⟩ := a
  obtain ⟨m', l', k'⟩ := b
  have e1 : m = m' := by
    have := h1
    simp at this
    omega
  have e2 : l = l' := mkS_inj h2
  have e3 : k = k' := by
    cases k <;> cases k' <;> first | rfl | (simp at h3)
  rw [e1, e2, e3]
def spKey (K : PySem.W.Frag) : Sp := fun vs H Q _ => ∃ v st, vs = [v] ∧ IsStay K H v st ∧ ∀ a H', Same H H' → NK H' (.ref a) (nkStay st) → Q (.ref a) H'
section
variable {P : Program} {w : World} {K : PySem.W.Frag} {mg : Str → Option Value} {base : Heap}
theorem ok_Stay (T : Txt w K mg) {dv : List V} (hb : ∀ {fd}, D_Stay_init K fd → ∃ ds, Vals dv ds ∧ L2.Binds K fd p_Stay_init ds) : Prom P w K mg base CX0 1 (a_Stay_init K) p_Stay_init dv (spStay K) := by
  obtain ⟨fd, F⟩ := T.d_Stay_init
  have sc := sc_Stay_init
  have c1 := T.cl_Stay
  have c2 := T.na_Stay_mark
  have c3 := T.na_Stay_held
  have c4 := T.na_Stay_is_broken
  refine prom0D F sc (fun vs H Q E h => ?_) (fun cdv A outer s H vs Q E hr h => ?_) (hb F)
  · obtain ⟨self, dx, m, z, b, rfl, _⟩ := h
    rfl
  · obtain ⟨self, dx, m, z, b, rfl, hself, k⟩ := h
    refine ⟨_, (pss_cons (sFldA (K := K) (pv 0) (pv 1))
      (pss_cons (sFldA (K := K) (pv 0) (pv 2))
      (pss_one (sFldA (K := K) (pv 0) (pv 3))))), ?_⟩
    repeat walk_at "rd"
    rw [upd_upd, upd_upd]
    have e : stayFs ⟨m, tl z, b⟩ = putF "is_broken" (V.bl b) (putF "held" (V.str z) (putF "mark" (V.int m) [])) := by
      unfold stayFs
      rw [mkS_tl]
      rfl
    rw [e] at k
    exact k
theorem ok_Stay3 (T : Txt w K mg) : Prom P w K mg base CX0 1 (a_Stay_init K) p_Stay_init [] (spStay K) := ok_Stay T bd0_Stay_init
theorem ok_Stay2 (T : Txt w K mg) : Prom P w K mg base CX0 1 (a_Stay_init K) p_Stay_init [.bl false] (spStay K) := ok_Stay T bd1_Stay_init
theorem ok_key (T : Txt w K mg) : Prom P w K mg base CX0 1 (a_Stay_key K) p_Stay_key [] (spKey K) := by
  obtain ⟨fd, F⟩ := T.d_Stay_key
  have sc := sc_Stay_key
  have c1 := T.cl_Stay
  have c2 := T.na_Stay_mark
  have c3 := T.na_Stay_held
  have c4 := T.na_Stay_is_broken
  refine prom0 F sc (bn_Stay_key F) (fun vs H Q E h => ?_) (fun cdv A outer s H vs Q E hr h => ?_)
  · obtain ⟨v, st, rfl, _⟩ := h
    rfl
  · obtain ⟨v, st, rfl, ⟨a, dx, rfl, hself⟩, k⟩ := h
    refine ⟨_, (pss_one (ps_ret (pe_tup (pa_cons (eFld (K := K) (pv 0)) (pa_cons (eFld (K := K) (pv 0)) (pa_cons (eFld (K := K) (pv 0)) pa_nil)))))), ?_⟩
    repeat walk_at "rd"
    refine ⟨Nat.le_of_ble_eq_true rfl, fun p hp => ?_⟩
    refine k p _ (Same.new hp) ?_
    exact .tup upd_same (.cons (.int _) (.cons (.str _) (.cons (.bl _) .nil)))
end
end OB

namespace OB
open PySem PySem.Spec PyProof.Rows L2
local macro_rules | `(tactic| walk_at "hp") => `(tactic| first
  | assumption | exact upd_same | (refine look_new ?_ ?_ <;> walk_at "hp") | ((refine' look_mut (v := ?lv) ?lq ?lp ?ld); (case lq => walk_at "hp"); (case lp => walk_at "hp"); (case ld => (intro z; cases z))))
local macro_rules | `(tactic| walk_at "rd") => `(tactic| (first
  | (with_reducible first
  | refine r_seq ?_ | refine r_asg ?_ | refine r_gname ?_ | refine r_ret ?_ | refine r_retN ?_ | refine r_next ?_ | refine r_drop ?_ | refine r_if ?_
  | refine r_c ?_ | refine r_op ?_ | refine r_test ?_ | refine r_tb ?_ | refine r_bl ?_ | refine r_and ?_ | refine r_or ?_ | refine r_not ?_
  | refine r_andV ?_ | refine r_orV ?_ | refine r_notV ?_ | refine r_ifE ?_ | refine r_nil ?_ | refine r_cons ?_ | refine r_tup ?_ | refine r_lst ?_ | refine r_cb ?_ | refine r_call ?_ | refine r_sub ?_
  | refine r_addI ?_ | refine r_I0 ?_ | refine r_eqI ?_ | refine r_neI ?_ | refine r_eqS ?_ | refine r_neS ?_ | refine r_inS ?_ | refine r_inS2 ?_ | refine r_notInS2 ?_ | refine r_isNA ?_ | refine r_m1 ?_ | refine r_isstr ?_ | refine r_lc ?_ | refine r_notNA ?_ | refine r_kt ?_ | refine r_chain ?_ | refine r_gcons ?_ | refine r_gnil ?_ | refine r_fld ?_ | refine r_sfld ?_ | refine r_meth ?_ | refine r_sl ?_ | refine r_part ?_ | refine r_nopart ?_ | refine r_int ?_ | refine r_star ?_ | refine r_delL ?_ | refine r_par ?_ | refine r_parAt ?_ | refine r_par3 ?_ | refine r_parAt3 ?_ | refine r_fldaug ?_ | refine r_brk ?_ | refine r_for ?_ | refine r_ienT ?_ | refine r_make ?_ | refine r_bm ?_ | refine r_bm0 ?_ | refine iteT ?_ | refine iteF ?_)
  | ((with_reducible refine' r_var ?he ?_); (case he => rfl))
  | (with_reducible first | refine r_abs ?_ | refine r_max ?_ | refine r_min ?_)
  | ((with_reducible refine' r_lenSq ?hs ?_); (case hs => first | exact .inl (by assumption) | exact .inr (by assumption) | exact .inl (SqL.of (by walk_at "hp")) | exact .inr (SqT.of (by walk_at "hp"))))
  | ((with_reducible refine' r_mulR ?hc ?_); (case hc => decide))
  | ((with_reducible refine' r_mulL ?hc ?_); (case hc => decide))
  | ((with_reducible refine' r_mod ?hc ?_); (case hc => first | decide | assumption | omega))
  | ((with_reducible refine' r_div ?hc ?_); (case hc => first | decide | assumption | (constructor <;> first | assumption | omega)))
  | ((with_reducible refine' r_pow ?hc ?_); (case hc => first | decide | (refine ⟨by decide, by decide, by omega⟩)))
  | ((with_reducible refine' r_ixL2 ?hs ?he ?_); (case hs => exact SqL.of (by walk_at "hp")); (case he => first | rfl | exact atI0 | exact atI1 | exact atI2 | exact atI3))
  | ((with_reducible refine' r_ixT2 ?hs ?he ?_); (case hs => first | assumption | exact SqT.of (by walk_at "hp")); (case he => first | rfl | exact atI0 | exact atI1 | exact atI2 | exact atI3))
  | ((with_reducible refine' r_setL2 ?hs ?he ?_); (case hs => walk_at "hp"); (case he => rfl))
  | ((with_reducible refine' r_gtup ?hs ?he ?_); (case hs => first | assumption | exact SqT.of (by walk_at "hp")); (case he => rfl))
  | ((with_reducible refine' r_fldAt ?hs ?hc ?hn ?hl ?_); (case hs => walk_at "hp"); (case hc => walk_at "cl"); (case hn => walk_at "cl"); (case hl => rfl))
  | ((with_reducible refine' r_sfldAt ?hs ?hc ?hn ?hl ?_); (case hs => walk_at "hp"); (case hc => walk_at "cl"); (case hn => walk_at "cl"); (case hl => exact Nat.le_of_ble_eq_true rfl))
  | ((with_reducible refine' r_aug ?he ?_); (case he => rfl))
  | ((with_reducible refine' r_starAt ?hs ?_); (case hs => first | exact .inl (by assumption) | exact .inr (by assumption) | exact .inl (SqT.of (by walk_at "hp")) | exact .inr (SqL.of (by walk_at "hp"))))
  | ((with_reducible refine' r_fldaugAt ?hs ?hc ?hn ?hl ?_); (case hs => walk_at "hp"); (case hc => walk_at "cl"); (case hn => walk_at "cl"); (case hl => rfl))
  | ((with_reducible refine' r_methAt ?hs ?hl ?_); (case hs => walk_at "hp"); (case hl => rfl))
  | ((with_reducible refine' r_tyL ?hs ?_); (case hs => first | assumption | exact SqL.of (by walk_at "hp")))
  | ((with_reducible refine' r_ifT ?h ?_); (case h => rfl))
  | ((with_reducible refine' r_ifF ?h ?_); (case h => rfl))
  | ((with_reducible first | refine' r_isiInt ?hd ?_ | refine' r_isiBool ?hd ?_ | refine' r_isiStr ?hd ?_ | refine' r_isiTup ?hd ?_ | refine' r_isiLst ?hd ?_); (case hd => assumption))
  ))

local macro_rules | `(tactic| walk_at "cl") => `(tactic| assumption)
inductive All2 {α : Type} (R : V → α → Prop) : List V → List α → Prop
  | nil : All2 R [] []
  | cons {v : V} {a : α} {vs : List V} {as : List α} : R v a → All2 R vs as → All2 R (v :: vs) (a :: as)
namespace All2
variable {α : Type} {R S : V → α → Prop}
theorem length : ∀ {vs : List V} {as : List α}, All2 R vs as → vs.length = as.length
  | _, _, .nil => rfl
  | _, _, .cons _ t => congrArg (· + 1) (length t)
theorem mono (h : ∀ v a, R v a → S v a) : ∀ {vs : List V} {as : List α}, All2 R vs as → All2 S vs as
  | _, _, .nil => .nil
  | _, _, .cons a t => .cons (h _ _ a) (mono h t)
theorem app : ∀ {vs ws : List V} {as bs : List α}, All2 R vs as → All2 R ws bs → All2 R (vs ++ ws) (as ++ bs)
  | _, _, _, _, .nil, h => h
  | _, _, _, _, .cons a t, h => .cons a (app t h)
theorem snoc {vs : List V} {as : List α} {v : V} {a : α} (h : All2 R vs as) (r : R v a) : All2 R (vs ++ [v]) (as ++ [a]) := app h (.cons r .nil)
theorem get : ∀ {vs : List V} {as : List α} {i : Nat} {v : V}, All2 R vs as → vs[i]? = some v → ∃ a, as[i]? = some a ∧ R v a
  | _, _, _, _, .nil, h => by simp at h
  | _, _, 0, _, .cons h _, e => by
    simp at e
    subst e
    exact ⟨_, rfl, h⟩
  | _, _, i + 1, v, .cons _ t, e => by
    obtain ⟨d, h1, h2⟩ := get (i := i) (v := v) t (by simpa using e)
    exact ⟨d, by simpa using h1, h2⟩
theorem get2 : ∀ {vs : List V} {as : List α} {i : Nat} {a : α}, All2 R vs as → as[i]? = some a → ∃ v, vs[i]? = some v ∧ R v a
  | _, _, _, _, .nil, h => by simp at h
  | _, _, 0, _, .cons h _, e => by
    simp at e
    subst e
    exact ⟨_, rfl, h⟩
  | _, _, i + 1, v, .cons _ t, e => by
    obtain ⟨d, h1, h2⟩ := get2 (i := i) (a := v) t (by simpa using e)
    exact ⟨d, by simpa using h1, h2⟩
theorem drop : ∀ {vs : List V} {as : List α} (n : Nat), All2 R vs as → All2 R (vs.drop n) (as.drop n)
  | _, _, 0, h => h
  | _, _, _ + 1, .nil => .nil
  | _, _, n + 1, .cons _ t => drop n t
theorem take : ∀ {vs : List V} {as : List α} (n : Nat), All2 R vs as → All2 R (vs.take n) (as.take n)
  | _, _, 0, _ => .nil
  | _, _, _ + 1, .nil => .nil
  | _, _, n + 1, .cons h t => .cons h (take n t)
theorem zip : ∀ {vs : List V} {as : List α}, All2 R vs as → ∃ qs : List (V × α), vs = qs.map (·.1) ∧ as = qs.map (·.2) ∧ ∀ q ∈ qs, R q.1 q.2
  | _, _, .nil => ⟨[], rfl, rfl, fun _ h => by cases h⟩
  | _, _, .cons (v := v) (a := a) h t => by
    obtain ⟨qs, h1, h2, h3⟩ := zip t
    refine ⟨(v, a) :: qs, by rw [h1]; rfl, by rw [h2]; rfl, fun q hq => ?_⟩
    rcases List.mem_cons.mp hq with z | z
    · rw [z]; exact h
    · exact h3 q z
end All2
def IsPair (K : PySem.W.Frag) (H : Hp) (v : V) (p : List Nat × Nat) : Prop := ∃ a, v = .ref a ∧ SqT K H a [.str (mkS p.1), .int p.2]
theorem IsPair.chg {K : PySem.W.Frag} {ps : List Addr} {H H' : Hp} {v : V} {p : List Nat × Nat} (h : IsPair K H v p) (c : Chg ps H H') : IsPair K H' v p :=
  let ⟨a, e, h1⟩ := h
  ⟨a, e, c.sqt h1⟩
def trackFs (pl : Addr) (n : Nat) : List (Str × V) := [("pairs", .ref pl), ("made", .int n)]
def TrackAt (K : PySem.W.Frag) (H : Hp) (a pl : Addr) (ps : List (List Nat × Nat)) (n : Nat) : Prop := ∃ dx xs, H a = some (.ins (TrackC K) dx (trackFs pl n)) ∧ H pl = some (.lst xs) ∧ All2 (IsPair K H) xs ps
theorem TrackAt.chg {K : PySem.W.Frag} {qs : List Addr} {H H' : Hp} {a pl : Addr} {ps : List (List Nat × Nat)} {n : Nat} (h : TrackAt K H a pl ps n) (c : Chg qs H H') (h1 : a ∉ qs) (h2 : pl ∉ qs) : TrackAt K H' a pl ps n :=
  let ⟨dx, xs, e1, e2, e3⟩ := h
  ⟨dx, xs, c.atN e1 h1, c.atN e2 h2, e3.mono fun _ _ q => q.chg c⟩
def spTrack (K : PySem.W.Frag) : Sp := fun vs H Q _ => ∃ self dx, vs = [.ref self] ∧ H self = some (.ins (TrackC K) dx []) ∧
  ∀ H' pl, H pl = none → Chg [self] H H' → TrackAt K H' self pl [] 0 → Q .non H'
def spWrite (K : PySem.W.Frag) : Sp := fun vs H Q _ => ∃ self pl, ∃ z : Str, ∃ m k n : Nat, ∃ ps, vs = [.ref self, .str z, .int m, .int k] ∧ TrackAt K H self pl ps n ∧ ps.length ≤ 1000000 ∧ m < 2 ^ 60 ∧
  ∀ H', Chg [self, pl] H H' → TrackAt K H' self pl (ps ++ [(tl z, k)]) (n + m * k) → Q .non H'
section
variable {P : Program} {w : World} {K : PySem.W.Frag} {mg : Str → Option Value} {base : Heap}
theorem ok_Track (T : Txt w K mg) : Prom P w K mg base CX0 1 (a_Track_init K) p_Track_init [] (spTrack K) := by
  obtain ⟨fd, F⟩ := T.d_Track_init
  have sc := sc_Track_init
  have c1 := T.cl_Track
  have c2 := T.na_Track_pairs
  have c3 := T.na_Track_made
  refine prom0 F sc (bn_Track_init F) (fun vs H Q E h => ?_) (fun cdv A outer s H vs Q E hr h => ?_)
  · obtain ⟨self, dx, rfl, _⟩ := h
    rfl
  · obtain ⟨self, dx, rfl, hself, k⟩ := h
    refine ⟨_, (pss_cons (sFldA (K := K) (pv 0) (pe_lst pa_nil))
      (pss_one (sFldA (K := K) (pv 0) pe_int))), ?_⟩
    repeat walk_at "rd"
    refine ⟨Nat.le_of_ble_eq_true rfl, fun p hp => ?_⟩
    repeat walk_at "rd"
    have e1 := look_new (u := .lst []) hp hself
    refine k _ p hp ((Chg.new hp).trans ((Chg.upd e1 (by simp)).trans (Chg.upd upd_same (by simp)))) ⟨dx, [], upd_same, ?_, .nil⟩
    exact look_mut upd_same (look_mut e1 upd_same (fun z => by cases z)) (fun z => by cases z)
theorem ok_write (T : Txt w K mg) {dv : List V} (hb : ∀ {fd}, D_Track_write K fd → ∃ ds, Vals dv ds ∧ L2.Binds K fd p_Track_write ds) : Prom P w K mg base CX0 1 (a_Track_write K) p_Track_write dv (spWrite K) := by
  obtain ⟨fd, F⟩ := T.d_Track_write
  have sc := sc_Track_write
  have c1 := T.cl_Track
  have c2 := T.na_Track_pairs
  have c3 := T.na_Track_made
  refine prom0D F sc (fun vs H Q E h => ?_) (fun cdv A outer s H vs Q E hr h => ?_) (hb F)
  · obtain ⟨self, pl, z, m, j, n, ps, rfl, _⟩ := h
    rfl
  · obtain ⟨self, pl, z, m, j, n, ps, rfl, ⟨dx, xs, hself, hpl, hps⟩, hl, hm, k⟩ := h
    refine ⟨_, (pss_cons (ps_expr (eBm (K := K) (pe_bm PySem.F.plainAttrs_list PySem.F.slot_list_append PySem.F.type_list_append mt_append (eFld (K := K) (pv 0)) (pa_cons (pe_tup (pa_cons (pv 1) (pa_cons (pv 3) pa_nil))) pa_nil))))
      (pss_one (sFldAugA (K := K) (pv 0) (pe_op op_mulA (pv 2) (pv 3)) in_add))), ?_⟩
    repeat walk_at "rd"
    refine ⟨Nat.le_of_ble_eq_true rfl, fun p hp => ?_⟩
    have hpl1 := look_new (u := .tup [.str z, .int j]) hp hpl
    have hse1 := look_new (u := .tup [.str z, .int j]) hp hself
    repeat walk_at "rd"
    refine r_append hpl1 ?_ ?_
    · have := hps.length
      exact Nat.lt_of_le_of_lt (by omega : xs.length ≤ 1000000) (by decide)
    · repeat walk_at "rd"
      refine r_mulL ⟨by omega, by omega⟩ ?_
      refine ⟨_, _, rfl, rfl, dx, _, look_mut hpl1 hse1 (fun z => by cases z), Nat.le_of_ble_eq_true rfl, ?_⟩
      have hse2 := look_mut (v := .lst xs) (u := .lst (xs ++ [.ref p])) hpl1 hse1 (fun z => by cases z)
      have cc : Chg [self, pl] H (upd (upd (upd H p (.tup [.str z, .int j])) pl (.lst (xs ++ [.ref p]))) self (.ins (TrackC K) dx (putF "made" (.int ((n : Int) + (m : Int) * (j : Int))) (trackFs pl n)))) := (Chg.new hp).trans ((Chg.upd hpl1 (by simp)).trans (Chg.upd hse2 (by simp)))
      refine k _ cc ⟨dx, _, upd_same.trans ?_, look_mut hse2 upd_same (fun z => by cases z), ?_⟩
      · show some (HO.ins (TrackC K) dx [("pairs", .ref pl), ("made", .int ((n : Int) + (m : Int) * (j : Int)))]) = some (HO.ins (TrackC K) dx [("pairs", .ref pl), ("made", .int ((n + m * j : Nat) : Int))])
        rw [Int.natCast_add, Int.natCast_mul]
      · refine (hps.mono fun _ _ q => q.chg cc).snoc ⟨p, rfl, SqT.of ?_⟩
        rw [mkS_tl]
        have hp1 : (upd H p (.tup [.str z, .int j])) p = some (.tup [.str z, .int j]) := upd_same
        exact look_mut hse2 (look_mut hpl1 hp1 (fun z => by cases z)) (fun z => by cases z)
theorem ok_write3 (T : Txt w K mg) : Prom P w K mg base CX0 1 (a_Track_write K) p_Track_write [] (spWrite K) := ok_write T bd0_Track_write
theorem ok_write2 (T : Txt w K mg) : Prom P w K mg base CX0 1 (a_Track_write K) p_Track_write [.int 1] (spWrite K) := ok_write T bd1_Track_write
/-! ### one_pass -/
theorem mk_new {H : Hp} {C x dx : Addr} (hx : H x = none) (hdx : H dx = none) (hne : dx ≠ x) : Same H (upd (upd H dx (.own x)) x (.ins C dx [])) ∧ (upd (upd H dx (.own x)) x (.ins C dx [])) x = some (.ins C dx []) :=
  ⟨(Same.new hdx).trans (Same.new (by rw [upd_ne hne.symm]; exact hx)), upd_same⟩
theorem Chg.drop {ps : List Addr} {H H' : Hp} {p : Addr} (a : Chg (p :: ps) H H') (h : H p = none) : Chg ps H H' := ⟨fun b u e => (a.out b u e).elim (fun z => by
  rcases List.mem_cons.mp z with q | q
  · rw [q, h] at e; cases e
  · exact .inl q) .inr, a.prot⟩
structure OkL (L : Loop) : Prop where
  rules : L.rules.length ≤ 100
  eds : ∀ r ∈ L.rules, r.eds.length ≤ 100
theorem join_signs (l : List Nat) : Txt.join "" (signS l) = mkS l := str_ext (by rw [join_tl, signS_fl]; rfl)
theorem signS_cv (l : List Nat) : (signS l).map V.str = l.map cv := by
  unfold signS
  rw [List.map_map]
  rfl
theorem r_joinS {H : Hp} {Q : VK} {p : Addr} {l : List Nat} (s : SqL K H p (l.map cv)) (z : l.length ≤ 16000000) (h : Q (.str (mkS l)) H) : rJoin K (.str "") [.ref p] H Q := by
  refine r_join (ys := signS l) (.inl (by rw [signS_cv]; exact s)) ?_ (by rw [join_signs]; exact h)
  rw [signS_len]
  rw [show (("" : Str)).length = 0 from by decide +kernel]
  omega
theorem passAt_len {L : Loop} (ok : OkL L) (l : List Nat) (i m : Nat) : (passAt L l i m).1.length ≤ l.length + 100 := by
  unfold passAt
  have h := carry_len (edsOf L (ruleAt L l i m)) i (l, m, false)
  have h2 : (edsOf L (ruleAt L l i m)).length ≤ 100 := by
    cases hk : ruleAt L l i m with
    | none => exact Nat.zero_le _
    | some k =>
      have hlt : k < L.rules.length := fit_lt hk
      have e : L.rules.getD k default = L.rules[k] := by
        rw [List.getD_eq_getElem?_getD, List.getElem?_eq_getElem hlt]
        rfl
      show (L.rules.getD k default).eds.length ≤ 100
      rw [e]
      exact ok.eds _ (List.getElem_mem hlt)
  simp only at h
  omega
def spOne (K : PySem.W.Frag) : Sp := fun vs H Q _ => ∃ lv sv L st, vs = [lv, sv] ∧ Dp K H lv (loopD L) ∧ OkL L ∧ IsStay K H sv st ∧ 0 < st.held.length ∧ st.held.length ≤ 10000 ∧
  ∀ H' t sv', Same H H' → SqT K H' t [.str (mkS (onePass L st).1), sv'] → IsStay K H' sv' (onePass L st).2 → Q (.ref t) H'
theorem ok_one_pass (T : Txt w K mg) : Prom P w K mg base CX0 5 (a_one_pass K) p_one_pass [] (spOne K) := by
  obtain ⟨fd, F⟩ := T.d_one_pass
  have sc := sc_one_pass
  have c1 := T.cl_Pass
  have c2 := T.na_Pass_mark
  have c3 := T.na_Pass_is_broken
  have c4 := T.cl_Stay
  have c5 := T.na_Stay_held
  have c6 := T.na_Stay_mark
  have G_Pass_init := ok_Pass (P := P) (base := base) T
  have G_Stay_init := ok_Stay3 (P := P) (base := base) T
  have G_Stay_init_d1 := ok_Stay2 (P := P) (base := base) T
  refine prom0 F sc (bn_one_pass F) (fun vs H Q E h => ?_) (fun cdv A outer s H vs Q E hr h => ?_)
  · obtain ⟨lv, sv, L, st, rfl, _⟩ := h
    rfl
  · obtain ⟨lv, sv, L, st, rfl, hd, ok, ⟨a, dx, rfl, hst⟩, h0, hn, k⟩ := h
    refine ⟨_, (pss_cons (ps_set (i := 2) sc.nd rfl (by first | exact Or.inl rfl | exact Or.inr rfl) (pe_callTy (cList (K := K) rfl) (by rfl) T.z_list (by decide +kernel) (pa_cons (eFld (K := K) (pv 1)) pa_nil)))
      (pss_cons (ps_set (i := 3) sc.nd rfl (by first | exact Or.inl rfl | exact Or.inr rfl) (pe_makeP T.mk_Pass G_Pass_init (hr.mono (by decide)) T.g_Pass pass0 (pa_cons (pv 0) (pa_cons (pv 2) (pa_cons pe_int (pa_cons (eFld (K := K) (pv 1)) pa_nil))))))
      (pss_cons (ps_if (pt_val (eFld (K := K) (pv 3))) (pss_one (ps_ret (pe_tup (pa_cons (eJoin (K := K) pe_str (pv 2)) (pa_cons (pe_makeP T.mk_Stay G_Stay_init (hr.mono (by decide)) T.g_Stay pass0 (pa_cons (eFld (K := K) (pv 3)) (pa_cons pe_str (pa_cons pe_bl pa_nil)))) pa_nil))))) pss_nil)
      (pss_one (ps_ret (pe_tup (pa_cons (eJoin (K := K) pe_str (pe_slice (iSl (K := K)) (pv 2) po_none (po_some pe_int))) (pa_cons (pe_makeP T.mk_Stay G_Stay_init_d1 (hr.mono (by decide)) T.g_Stay pass0 (pa_cons (eFld (K := K) (pv 3)) (pa_cons (eJoin (K := K) pe_str (pe_slice (iSl (K := K)) (pv 2) (po_some pe_int) po_none)) pa_nil))) pa_nil)))))))), ?_⟩
    repeat walk_at "rd"
    refine r_liststr (by rw [mkS_len]; exact Nat.le_trans hn (by decide)) fun l hl => ?_
    repeat walk_at "rd"
    have hl1 : (upd H l (.lst (st.held.map cv))) l = some (.lst (st.held.map cv)) := upd_same
    have s1 : Same H (upd H l (.lst (st.held.map cv))) := Same.new hl
    show ∀ x dx, (upd H l (.lst (st.held.map cv))) x = none → _
    rw [show (List.map (fun c => V.str ⟨#[c]⟩) (mkS st.held).cps.toList) = st.held.map cv from rfl]
    generalize upd H l (.lst (st.held.map cv)) = H1 at *
    intro x dxp hx hdx hne
    obtain ⟨s2, hx2⟩ := mk_new (C := He.ga K "Pass") hx hdx hne
    generalize upd (upd H1 dxp (.own x)) x (.ins (He.ga K "Pass") dxp []) = H2 at *
    have s12 := s1.trans s2
    refine ⟨x, l, dxp, lv, L, st.held, 0, st.mark, rfl, dp_same s12 hd, ok.rules, fun r h => Nat.le_trans (ok.eds r h) (by decide), hx2, s2 _ _ hl1, by omega, h0, fun H4 g4 hx4 hl4 => ⟨rfl, ?_⟩⟩
    have hxn : H x = none := by
      cases hq : H x with
      | none => rfl
      | some u => rw [s1 _ _ hq] at hx; cases hx
    have s4 : Same H H4 := ((Chg.less (p := x) (Chg.of_same s12) g4 hxn).drop hl).same
    have hlen := passAt_len ok st.held 0 st.mark
    repeat walk_at "rd"
    have fin : ∀ {H5 : Hp} {t sv' : Addr} {dx5 : Addr}, Same H4 H5 → H5 t = some (.tup [.str (mkS (onePass L st).1), .ref sv']) → H5 sv' = some (.ins (StayC K) dx5 (stayFs (onePass L st).2)) → Q (.ref t) H5 := fun e1 e2 e3 =>
      k _ _ _ (s4.trans e1) (SqT.of e2) ⟨_, _, rfl, e3⟩
    refine r_iteb (fun cb => ?_) (fun cb => ?_)
    · have eo : onePass L st = ((passAt L st.held 0 st.mark).1, ⟨(passAt L st.held 0 st.mark).2.1, [], true⟩) := by
        unfold onePass partOf stayOf
        rw [cb]
        rfl
      rw [eo] at fin
      repeat walk_at "rd"
      refine r_joinS (SqL.of hl4) (by omega) ?_
      repeat walk_at "rd"
      intro x5 dx5 hx5 hdx5 hne5
      obtain ⟨s5, hx6⟩ := mk_new (C := He.ga K "Stay") hx5 hdx5 hne5
      generalize upd (upd H4 dx5 (.own x5)) x5 (.ins (He.ga K "Stay") dx5 []) = H5 at *
      refine ⟨x5, dx5, _, "", true, rfl, hx6, rfl, ?_⟩
      have s6 : Same H4 (upd H5 x5 (.ins (StayC K) dx5 (stayFs ⟨(passAt L st.held 0 st.mark).2.1, tl "", true⟩))) := Same.mut s5 hx5
      have h6 : (upd H5 x5 (.ins (StayC K) dx5 (stayFs ⟨(passAt L st.held 0 st.mark).2.1, tl "", true⟩))) x5 = some (.ins (StayC K) dx5 (stayFs ⟨(passAt L st.held 0 st.mark).2.1, tl "", true⟩)) := upd_same
      rw [show tl ("" : Str) = [] from by decide +kernel] at *
      generalize upd H5 x5 (.ins (StayC K) dx5 (stayFs ⟨(passAt L st.held 0 st.mark).2.1, [], true⟩)) = H6 at *
      repeat walk_at "rd"
      exact ⟨Nat.le_of_ble_eq_true rfl, fun t ht => fin (s6.trans (Same.new ht)) upd_same (look_new ht h6)⟩
    · have eo : onePass L st = ((passAt L st.held 0 st.mark).1.take 1, ⟨(passAt L st.held 0 st.mark).2.1, (passAt L st.held 0 st.mark).1.drop 1, false⟩) := by
        unfold onePass partOf stayOf
        rw [cb]
        rfl
      rw [eo] at fin
      repeat walk_at "rd"
      refine r_slL (SqL.of hl4) fun l2 hl2 => ?_
      rw [show cutV ((passAt L st.held 0 st.mark).1.map cv) none (some 1) = ((passAt L st.held 0 st.mark).1.take 1).map cv from by rw [List.map_take]; exact cutV_to (i := 1)]
      have s5 : Same H4 (upd H4 l2 (.lst (((passAt L st.held 0 st.mark).1.take 1).map cv))) := Same.new hl2
      have h5 : (upd H4 l2 (.lst (((passAt L st.held 0 st.mark).1.take 1).map cv))) l2 = some (.lst (((passAt L st.held 0 st.mark).1.take 1).map cv)) := upd_same
      have hl5 := s5 _ _ hl4
      have hx5 := s5 _ _ hx4
      generalize upd H4 l2 (.lst (((passAt L st.held 0 st.mark).1.take 1).map cv)) = H5 at *
      repeat walk_at "rd"
      refine r_joinS (SqL.of h5) (by rw [List.length_take]; omega) ?_
      repeat walk_at "rd"
      refine r_slL (SqL.of hl5) fun l3 hl3 => ?_
      rw [show cutV ((passAt L st.held 0 st.mark).1.map cv) (some 1) none = ((passAt L st.held 0 st.mark).1.drop 1).map cv from by rw [List.map_drop]; exact cutV_from (i := 1)]
      have s6 : Same H4 (upd H5 l3 (.lst (((passAt L st.held 0 st.mark).1.drop 1).map cv))) := s5.trans (Same.new hl3)
      have h6 : (upd H5 l3 (.lst (((passAt L st.held 0 st.mark).1.drop 1).map cv))) l3 = some (.lst (((passAt L st.held 0 st.mark).1.drop 1).map cv)) := upd_same
      have hx6 := look_new (u := .lst (((passAt L st.held 0 st.mark).1.drop 1).map cv)) hl3 hx5
      generalize upd H5 l3 (.lst (((passAt L st.held 0 st.mark).1.drop 1).map cv)) = H6 at *
      repeat walk_at "rd"
      refine r_joinS (SqL.of h6) (by rw [List.length_drop]; omega) ?_
      repeat walk_at "rd"
      intro x5 dx5 hx5 hdx5 hne5
      obtain ⟨s7, hx7⟩ := mk_new (C := He.ga K "Stay") hx5 hdx5 hne5
      generalize upd (upd H6 dx5 (.own x5)) x5 (.ins (He.ga K "Stay") dx5 []) = H7 at *
      refine ⟨x5, dx5, _, mkS ((passAt L st.held 0 st.mark).1.drop 1), false, rfl, hx7, rfl, ?_⟩
      rw [tl_mkS]
      have s8 : Same H4 (upd H7 x5 (.ins (StayC K) dx5 (stayFs ⟨(passAt L st.held 0 st.mark).2.1, (passAt L st.held 0 st.mark).1.drop 1, false⟩))) := s6.trans (Same.mut s7 hx5)
      have h8 : (upd H7 x5 (.ins (StayC K) dx5 (stayFs ⟨(passAt L st.held 0 st.mark).2.1, (passAt L st.held 0 st.mark).1.drop 1, false⟩))) x5 = some (.ins (StayC K) dx5 (stayFs ⟨(passAt L st.held 0 st.mark).2.1, (passAt L st.held 0 st.mark).1.drop 1, false⟩)) := upd_same
      generalize upd H7 x5 (.ins (StayC K) dx5 (stayFs ⟨(passAt L st.held 0 st.mark).2.1, (passAt L st.held 0 st.mark).1.drop 1, false⟩)) = H8 at *
      repeat walk_at "rd"
      exact ⟨Nat.le_of_ble_eq_true rfl, fun t ht => fin (s8.trans (Same.new ht)) upd_same (look_new ht h8)⟩
end
end OB

namespace OB
open PySem PySem.Spec PyProof.Rows L2
local macro_rules | `(tactic| walk_at "hp") => `(tactic| first
  | assumption | exact upd_same | (refine look_new ?_ ?_ <;> walk_at "hp") | ((refine' look_mut (v := ?lv) ?lq ?lp ?ld); (case lq => walk_at "hp"); (case lp => walk_at "hp"); (case ld => (intro z; cases z))))
local macro_rules | `(tactic| walk_at "rd") => `(tactic| (first
  | (with_reducible first
  | refine r_seq ?_ | refine r_asg ?_ | refine r_gname ?_ | refine r_ret ?_ | refine r_retN ?_ | refine r_next ?_ | refine r_drop ?_ | refine r_if ?_
  | refine r_c ?_ | refine r_op ?_ | refine r_test ?_ | refine r_tb ?_ | refine r_bl ?_ | refine r_and ?_ | refine r_or ?_ | refine r_not ?_
  | refine r_andV ?_ | refine r_orV ?_ | refine r_notV ?_ | refine r_ifE ?_ | refine r_nil ?_ | refine r_cons ?_ | refine r_tup ?_ | refine r_lst ?_ | refine r_cb ?_ | refine r_call ?_ | refine r_sub ?_
  | refine r_addI ?_ | refine r_I0 ?_ | refine r_eqI ?_ | refine r_neI ?_ | refine r_eqS ?_ | refine r_neS ?_ | refine r_inS ?_ | refine r_inS2 ?_ | refine r_notInS2 ?_ | refine r_isNA ?_ | refine r_m1 ?_ | refine r_isstr ?_ | refine r_lc ?_ | refine r_notNA ?_ | refine r_kt ?_ | refine r_chain ?_ | refine r_gcons ?_ | refine r_gnil ?_ | refine r_fld ?_ | refine r_sfld ?_ | refine r_meth ?_ | refine r_sl ?_ | refine r_part ?_ | refine r_nopart ?_ | refine r_int ?_ | refine r_star ?_ | refine r_delL ?_ | refine r_par ?_ | refine r_parAt ?_ | refine r_par3 ?_ | refine r_parAt3 ?_ | refine r_fldaug ?_ | refine r_brk ?_ | refine r_for ?_ | refine r_ienT ?_ | refine r_make ?_ | refine r_bm ?_ | refine r_bm0 ?_ | refine iteT ?_ | refine iteF ?_)
  | ((with_reducible refine' r_var ?he ?_); (case he => rfl))
  | (with_reducible first | refine r_abs ?_ | refine r_max ?_ | refine r_min ?_)
  | ((with_reducible refine' r_lenSq ?hs ?_); (case hs => first | exact .inl (by assumption) | exact .inr (by assumption) | exact .inl (SqL.of (by walk_at "hp")) | exact .inr (SqT.of (by walk_at "hp"))))
  | ((with_reducible refine' r_mulR ?hc ?_); (case hc => decide))
  | ((with_reducible refine' r_mulL ?hc ?_); (case hc => decide))
  | ((with_reducible refine' r_mod ?hc ?_); (case hc => first | decide | assumption | omega))
  | ((with_reducible refine' r_div ?hc ?_); (case hc => first | decide | assumption | (constructor <;> first | assumption | omega)))
  | ((with_reducible refine' r_pow ?hc ?_); (case hc => first | decide | (refine ⟨by decide, by decide, by omega⟩)))
  | ((with_reducible refine' r_ixL2 ?hs ?he ?_); (case hs => exact SqL.of (by walk_at "hp")); (case he => first | rfl | exact atI0 | exact atI1 | exact atI2 | exact atI3))
  | ((with_reducible refine' r_ixT2 ?hs ?he ?_); (case hs => first | assumption | exact SqT.of (by walk_at "hp")); (case he => first | rfl | exact atI0 | exact atI1 | exact atI2 | exact atI3))
  | ((with_reducible refine' r_setL2 ?hs ?he ?_); (case hs => walk_at "hp"); (case he => rfl))
  | ((with_reducible refine' r_gtup ?hs ?he ?_); (case hs => first | assumption | exact SqT.of (by walk_at "hp")); (case he => rfl))
  | ((with_reducible refine' r_fldAt ?hs ?hc ?hn ?hl ?_); (case hs => walk_at "hp"); (case hc => walk_at "cl"); (case hn => walk_at "cl"); (case hl => rfl))
  | ((with_reducible refine' r_sfldAt ?hs ?hc ?hn ?hl ?_); (case hs => walk_at "hp"); (case hc => walk_at "cl"); (case hn => walk_at "cl"); (case hl => exact Nat.le_of_ble_eq_true rfl))
  | ((with_reducible refine' r_aug ?he ?_); (case he => rfl))
  | ((with_reducible refine' r_starAt ?hs ?_); (case hs => first | exact .inl (by assumption) | exact .inr (by assumption) | exact .inl (SqT.of (by walk_at "hp")) | exact .inr (SqL.of (by walk_at "hp"))))
  | ((with_reducible refine' r_fldaugAt ?hs ?hc ?hn ?hl ?_); (case hs => walk_at "hp"); (case hc => walk_at "cl"); (case hn => walk_at "cl"); (case hl => rfl))
  | ((with_reducible refine' r_methAt ?hs ?hl ?_); (case hs => walk_at "hp"); (case hl => rfl))
  | ((with_reducible refine' r_tyL ?hs ?_); (case hs => first | assumption | exact SqL.of (by walk_at "hp")))
  | ((with_reducible refine' r_ifT ?h ?_); (case h => rfl))
  | ((with_reducible refine' r_ifF ?h ?_); (case h => rfl))
  | ((with_reducible first | refine' r_isiInt ?hd ?_ | refine' r_isiBool ?hd ?_ | refine' r_isiStr ?hd ?_ | refine' r_isiTup ?hd ?_ | refine' r_isiLst ?hd ?_); (case hd => assumption))
  ))

local macro_rules | `(tactic| walk_at "cl") => `(tactic| assumption)
def flat (qs : List (List Nat × Nat)) : List Nat := (qs.map (·.1)).flatten
def sumM (qs : List (List Nat × Nat)) : Nat := (qs.map (·.2)).sum
def ones (qs : List (List Nat × Nat)) : List (List Nat × Nat) := qs.map fun q => (q.1, 1)
theorem den_ones (qs : List (List Nat × Nat)) : den (ones qs) = flat qs := by
  unfold den ones flat
  rw [List.map_map]
  congr 1
  refine List.map_congr_left fun q _ => ?_
  simp
def spRound (K : PySem.W.Frag) : Sp := fun vs H Q _ => ∃ self pl pa, ∃ f m n : Nat, ∃ ps qs xs, vs = [.ref self, .ref pa, .int f, .int m] ∧ TrackAt K H self pl ps n ∧ H pa = some (.lst xs) ∧ All2 (IsPair K H) xs qs ∧
  f < qs.length ∧ ps.length + qs.length ≤ 900000 ∧ (flat qs).length ≤ 16000000 ∧ sumM qs < 2 ^ 60 ∧
  ∀ H', Chg [self, pl] H H' → TrackAt K H' self pl (ps ++ [(flat (qs.drop f), m / (qs.drop f).length)] ++ ones ((qs.drop f).take (m % (qs.drop f).length))) (n + sumM (qs.drop f) * (m / (qs.drop f).length) + sumM ((qs.drop f).take (m % (qs.drop f).length))) →
    Q (.int (f + m % (qs.drop f).length : Nat)) H'
section
variable {P : Program} {w : World} {K : PySem.W.Frag} {mg : Str → Option Value} {base : Heap}
theorem pair_in {H : Hp} {xs : List V} {qs : List (List Nat × Nat)} (h : All2 (IsPair K H) xs qs) : ∃ rs : List (V × (List Nat × Nat)), xs = rs.map (·.1) ∧ qs = rs.map (·.2) ∧ ∀ q ∈ rs, IsPair K H q.1 q.2 := h.zip
theorem flat_len_drop (qs : List (List Nat × Nat)) (n : Nat) : (flat (qs.drop n)).length ≤ (flat qs).length := by
  have : flat qs = flat (qs.take n) ++ flat (qs.drop n) := by
    unfold flat
    rw [← List.flatten_append, ← List.map_append, List.take_append_drop]
  rw [this, List.length_append]
  omega
theorem sumM_split (qs : List (List Nat × Nat)) (n : Nat) : sumM qs = sumM (qs.take n) + sumM (qs.drop n) := by
  unfold sumM
  rw [← List.sum_append, ← List.map_append, List.take_append_drop]
theorem r_joinM {H : Hp} {Q : VK} {p : Addr} {ls : List (List Nat)} (s : SqL K H p (ls.map fun l => V.str (mkS l))) (z : ls.flatten.length ≤ 16000000) (h : Q (.str (mkS ls.flatten)) H) : rJoin K (.str "") [.ref p] H Q := by
  have e1 : ls.map (fun l => V.str (mkS l)) = (ls.map mkS).map V.str := by
    rw [List.map_map]
    rfl
  have e2 : ((ls.map mkS).map fun z : Str => z.cps.toList).flatten = ls.flatten := by
    rw [List.map_map]
    congr 1
    exact (List.map_congr_left (fun _ _ => rfl)).trans (List.map_id _)
  have e3 : ∀ ls : List (List Nat), ((ls.map mkS).map (·.length)).sum = ls.flatten.length := by
    intro ls
    induction ls with
    | nil => rfl
    | cons a r ih =>
      rw [List.flatten_cons, List.length_append, ← ih]
      rfl
  refine r_join (ys := ls.map mkS) (.inl (by rw [← e1]; exact s)) ?_ ?_
  · rw [e3, show (("" : Str)).length = 0 from by decide +kernel]
    omega
  · have e4 : Txt.join "" (ls.map mkS) = mkS ls.flatten := str_ext (by rw [join_tl, e2]; rfl)
    rw [e4]
    exact h
theorem sum_cast : ∀ ns : List Nat, (ns.map fun k : Nat => (k : Int)).sum = ((ns.sum : Nat) : Int)
  | [] => rfl
  | a :: r => by rw [List.map_cons, List.sum_cons, List.sum_cons, sum_cast r, Int.natCast_add]
theorem r_sumN {H : Hp} {Q : VK} {p : Addr} {ns : List Nat} (s : SqL K H p (ns.map fun k : Nat => V.int (k : Int))) (h : Q (.int (ns.sum : Nat)) H) : rSum K [.ref p] H Q := by
  refine r_sum (ns := ns.map fun k : Nat => (k : Int)) (by rw [List.map_map]; exact s) ?_
  rw [sum_cast]
  exact h
theorem evg_pair {H : Hp} {v : V} {p : List Nat × Nat} {i j : Nat} {σ : L2.St} (h : IsPair K H v p) : EvG (gTup K 2 (gCons (gName i) (gCons (gName j) gNil))) v σ H ((σ.set i (some (.str (mkS p.1)))).set j (some (.int p.2))) := by
  intro H1 s Q q
  obtain ⟨a, rfl, h1⟩ := h
  exact r_gtup (Same.sqt s h1) rfl (r_gcons (r_gname (r_gcons (r_gname (r_gnil q)))))
theorem le_sum {q : List Nat × Nat} : ∀ {R : List (List Nat × Nat)}, q ∈ R → q.2 ≤ sumM R
  | a :: r, h => by
    show _ ≤ a.2 + sumM r
    rcases List.mem_cons.mp h with z | z
    · rw [z]; omega
    · have := le_sum z
      omega
theorem ok_write_round (T : Txt w K mg) : Prom P w K mg base CX0 2 (a_Track_write_round K) p_Track_write_round [] (spRound K) := by
  obtain ⟨fd, F⟩ := T.d_Track_write_round
  have sc := sc_Track_write_round
  have G_Track_write := ok_write3 (P := P) (base := base) T
  have G_Track_write_d1 := ok_write2 (P := P) (base := base) T
  refine prom0 F sc (bn_Track_write_round F) (fun vs H Q E h => ?_) (fun cdv A outer s H vs Q E hr h => ?_)
  · obtain ⟨self, pl, pa, f, m, n, ps, qs, xs, rfl, _⟩ := h
    rfl
  · obtain ⟨self, pl, pa, f, m, n, ps, qs, xs, rfl, ht, hpa, hq, hf, hlen, hfl, hsm, k⟩ := h
    refine ⟨_, (pss_cons (ps_set (i := 4) sc.nd rfl (by first | exact Or.inl rfl | exact Or.inr rfl) (pe_slice (iSl (K := K)) (pv 1) (po_some (pv 2)) po_none))
      (pss_cons (ps_asg (pe_callB call_divmodA (by rfl) T.z_divmod (by decide +kernel) (pa_cons (pv 3) (pa_cons (pe_callB (cLen (K := K)) (by rfl) T.z_len (by decide +kernel) (pa_cons (pv 4) pa_nil)) pa_nil))) (gTupA (K := K) (n := 2) rfl (pgs_cons (pg_name (i := 5) sc.nd rfl (by first | exact Or.inl rfl | exact Or.inr rfl)) (pgs_cons (pg_name (i := 6) sc.nd rfl (by first | exact Or.inl rfl | exact Or.inr rfl)) pgs_nil))))
      (pss_cons (ps_setLc (i := 7) (own := [("part", 8), ("made", 9)]) rfl sc.nd rfl rfl (sw_true rfl rfl rfl (by decide +kernel)) (piA (K := K) (pv 4)) (blkOk_by (N := n_Track_write_round) (sc := defScope s_Track_write_round) (by decide +kernel)) (fun _ _ _ _ _ => (gTupA (K := K) (n := 2) rfl (pgs_cons (pg_name (i := 8) sc.nd rfl (by first | exact Or.inl rfl | exact Or.inr rfl)) (pgs_cons (pg_name (i := 9) sc.nd rfl (by first | exact Or.inl rfl | exact Or.inr rfl)) pgs_nil)))) (fun _ _ _ _ _ => pts_nil) (fun _ _ _ _ _ => (pv 9)))
      (pss_cons (ps_expr (pe_methP (pv 0) T.cl_Track T.mt_Track_write G_Track_write (hr.mono (by decide)) pass0 (pa_cons (eJoin (K := K) pe_str (pe_lc (own := [("part", 8), ("made", 9)]) rfl sc.nd (piA (K := K) (pv 4)) (blkOk_by (N := n_Track_write_round) (sc := defScope s_Track_write_round) (by decide +kernel)) (fun _ _ _ _ _ => (gTupA (K := K) (n := 2) rfl (pgs_cons (pg_name (i := 8) sc.nd rfl (by first | exact Or.inl rfl | exact Or.inr rfl)) (pgs_cons (pg_name (i := 9) sc.nd rfl (by first | exact Or.inl rfl | exact Or.inr rfl)) pgs_nil)))) (fun _ _ _ _ _ => pts_nil) (fun _ _ _ _ _ => (pv 8)))) (pa_cons (pe_callB (cSum (K := K) rfl) (by rfl) T.z_sum (by decide +kernel) (pa_cons (pv 7) pa_nil)) (pa_cons (pv 5) pa_nil)))))
      (pss_cons (ps_for PassesOwn.never rfl (piA (K := K) (pe_slice (iSl (K := K)) (pv 4) po_none (po_some (pv 6)))) (gTupA (K := K) (n := 2) rfl (pgs_cons (pg_name (i := 8) sc.nd rfl (by first | exact Or.inl rfl | exact Or.inr rfl)) (pgs_cons (pg_name (i := 9) sc.nd rfl (by first | exact Or.inl rfl | exact Or.inr rfl)) pgs_nil))) (pss_one (ps_expr (pe_methP (pv 0) T.cl_Track T.mt_Track_write G_Track_write_d1 (hr.mono (by decide)) pass0 (pa_cons (pv 8) (pa_cons (pv 9) pa_nil))))))
      (pss_one (ps_ret (pe_op (oAdd (K := K)) (pv 2) (pv 6))))))))), ?_⟩
    repeat walk_at "rd"
    refine r_slL (SqL.of hpa) fun l hl => ?_
    rw [cutV_from]
    have s1 : Same H (upd H l (.lst (xs.drop f))) := Same.new hl
    have hl1 : (upd H l (.lst (xs.drop f))) l = some (.lst (xs.drop f)) := upd_same
    have hq0 := hq.drop f
    have hls : l ∉ [self, pl] := by
      obtain ⟨_, _, z1, z2, _⟩ := ht
      intro z
      rcases List.mem_cons.mp z with z | z
      · exact ne_of_none z1 hl z.symm
      · rw [List.mem_singleton] at z
        exact ne_of_none z2 hl z.symm
    have hq1 := (hq.drop f).mono fun _ _ q => q.chg (Chg.of_same (ps := []) s1)
    have ht1 := ht.chg (Chg.of_same (ps := []) s1) (by simp) (by simp)
    have hRl : (qs.drop f).length = qs.length - f := List.length_drop ..
    have hfl1 := flat_len_drop qs f
    have hsm1 : sumM (qs.drop f) ≤ sumM qs := by rw [sumM_split qs f]; omega
    generalize upd H l (.lst (xs.drop f)) = H1 at *
    have hR0 : 0 < (qs.drop f).length := by omega
    have hRX := hq1.length
    generalize xs.drop f = X at *
    generalize qs.drop f = R at *
    obtain ⟨rs, e1, e2, e3⟩ := hq1.zip
    have hrs : rs.length = R.length := by rw [e2, List.length_map]
    repeat walk_at "rd"
    refine r_divmod (by omega) (by rw [Int.natAbs_natCast, hRX]; exact Nat.lt_of_le_of_lt (by omega : R.length ≤ 900000) (by decide +kernel)) fun p1 hp1 => ?_
    rw [hRX, ← Int.natCast_ediv, ← Int.natCast_emod]
    have s2 : Same H1 (upd H1 p1 (.tup [.int ((m / R.length : Nat) : Int), .int ((m % R.length : Nat) : Int)])) := Same.new hp1
    have hp2 : (upd H1 p1 (.tup [.int ((m / R.length : Nat) : Int), .int ((m % R.length : Nat) : Int)])) p1 = some (.tup [.int ((m / R.length : Nat) : Int), .int ((m % R.length : Nat) : Int)]) := upd_same
    generalize upd H1 p1 (.tup [.int ((m / R.length : Nat) : Int), .int ((m % R.length : Nat) : Int)]) = H2 at *
    repeat walk_at "rd"
    refine r_iany_l ?_
    repeat walk_at "rd"
    have hl2 := s2 _ _ hl1
    refine ⟨l, rfl, ⟨_, SqL.of hl2⟩, ?_⟩
    rw [e1] at hl2
    refine lc_pL (v := (·.1)) (σ' := fun r => [some (.ref self), some (.ref pa), some (.int f), some (.int m), some (.ref l), some (.int ((m / R.length : Nat) : Int)), some (.int ((m % R.length : Nat) : Int)), none, some (.str (mkS r.2.1)), some (.int r.2.2)]) (keep := fun _ => true) (f := fun r : V × (List Nat × Nat) => .int r.2.2) (SqL.of hl2) (by omega) (fun r hr => evg_pair ((e3 r hr).chg (Chg.of_same (ps := []) s2))) (fun r _ => rfl) (fun r _ => evst_yes) (fun r _ _ => evs_var rfl) (fun D H3 hD s3 hD3 => ?_)
    rw [List.filter_eq_self.mpr (fun _ _ => rfl)] at hD3
    have s13 := s2.trans s3
    have hl3 := s3 _ _ hl2
    repeat walk_at "rd"
    obtain ⟨dxt, xt, hself, hpl, hps⟩ := ht1.chg (Chg.of_same (ps := []) s13) (by simp) (by simp)
    have ht3 : TrackAt K H3 self pl ps n := ⟨dxt, xt, hself, hpl, hps⟩
    refine ⟨self, dxt, _, rfl, hself, rfl, ?_⟩
    repeat walk_at "rd"
    refine r_iany_l ?_
    repeat walk_at "rd"
    refine ⟨l, rfl, ⟨_, SqL.of hl3⟩, ?_⟩
    refine lc_pL (v := (·.1)) (σ' := fun r => [some (.ref self), some (.ref pa), some (.int f), some (.int m), some (.ref l), some (.int ((m / R.length : Nat) : Int)), some (.int ((m % R.length : Nat) : Int)), some (.ref D), some (.str (mkS r.2.1)), some (.int r.2.2)]) (keep := fun _ => true) (f := fun r : V × (List Nat × Nat) => .str (mkS r.2.1)) (SqL.of hl3) (by omega) (fun r hr => evg_pair ((e3 r hr).chg (Chg.of_same (ps := []) s13))) (fun r _ => rfl) (fun r _ => evst_yes) (fun r _ _ => evs_var rfl) (fun D2 H4 hD2 s4 hD4 => ?_)
    rw [List.filter_eq_self.mpr (fun _ _ => rfl)] at hD4
    have ht4 := ht3.chg (Chg.of_same (ps := []) s4) (by simp) (by simp)
    have hl4 := s4 _ _ hl3
    have hD5 := s4 _ _ hD3
    refine r_joinM (ls := R.map (·.1)) (SqL.of (by rw [hD4, e2, List.map_map, List.map_map]; rfl)) (by show (flat R).length ≤ _; omega) ?_
    repeat walk_at "rd"
    refine r_sumN (ns := R.map (·.2)) (SqL.of (by rw [hD5, e2, List.map_map, List.map_map]; rfl)) ?_
    repeat walk_at "rd"
    refine ⟨self, pl, mkS (flat R), sumM R, m / R.length, n, ps, rfl, ht4, by omega, by omega, fun H5 c5 ht5 => ?_⟩
    rw [tl_mkS] at ht5
    have s14 := (s1.trans s13).trans s4
    have c15 : Chg [self, pl] H H5 := (Chg.of_same s14).trans c5
    have hl5 := c5.atN hl4 hls
    generalize hleft : m % R.length = left at *
    repeat walk_at "rd"
    refine r_iany_l ?_
    repeat walk_at "rd"
    refine r_slL (SqL.of hl5) fun l3 hl3 => ?_
    rw [cutV_to, ← e1]
    have h6 : (upd H5 l3 (.lst (X.take left))) l3 = some (.lst (X.take left)) := upd_same
    have hl3s : l3 ∉ [self, pl] := by
      obtain ⟨_, _, z1, z2, _⟩ := ht5
      intro z
      rcases List.mem_cons.mp z with z | z
      · exact ne_of_none z1 hl3 z.symm
      · rw [List.mem_singleton] at z
        exact ne_of_none z2 hl3 z.symm
    refine r_forL (xs := X.take left) (SqL.of h6) (fun i σ H' => Chg [self, pl] H H' ∧ (∃ p q, σ = [some (.ref self), some (.ref pa), some (.int f), some (.int m), some (.ref l), some (.int ((m / R.length : Nat) : Int)), some (.int (left : Int)), some (.ref D), p, q]) ∧
      TrackAt K H' self pl (ps ++ [(flat R, m / R.length)] ++ ones ((R.take left).take i)) (n + sumM R * (m / R.length) + sumM ((R.take left).take i)) ∧ H' l3 = some (.lst (X.take left)))
      ⟨c15.trans (Chg.new hl3), ⟨_, _, rfl⟩, ?_, h6⟩ (fun i σ H' _ p => SqL.of p.2.2.2) (fun i x σ H' hx p => ?_) (fun σ H' p => ?_)
    · have := ht5.chg (Chg.new (ps := []) (v := .lst (X.take left)) hl3) (by simp) (by simp)
      simpa [ones, sumM] using this
    · obtain ⟨g1, ⟨p8, p9, rfl⟩, g2, g3⟩ := p
      obtain ⟨q, hq1, hq2⟩ := (hq0.take left).get hx
      obtain ⟨a, rfl, ha⟩ := hq2.chg g1
      have hRb : (R.take left).length ≤ R.length := by rw [List.length_take]; omega
      have hib : i < (R.take left).length := (List.getElem?_eq_some_iff.mp hq1).1
      have hqm : q.2 ≤ sumM R := by
        have h1 : q ∈ R := List.mem_of_mem_take (List.mem_of_getElem? hq1)
        exact le_sum h1
      repeat walk_at "rd"
      obtain ⟨dx5, x5, z1, z2, z3⟩ := g2
      refine ⟨self, dx5, _, rfl, z1, rfl, ?_⟩
      repeat walk_at "rd"
      refine ⟨self, pl, mkS q.1, q.2, 1, _, _, rfl, ⟨dx5, x5, z1, z2, z3⟩, ?_, by omega, fun H7 c7 ht7 => ?_⟩
      · simp only [List.length_append, ones, List.length_map, List.length_take, List.length_singleton]
        omega
      · rw [tl_mkS] at ht7
        refine ⟨g1.trans c7, ⟨_, _, rfl⟩, ?_, c7.atN g3 hl3s⟩
        have e5 : ones ((R.take left).take (i + 1)) = ones ((R.take left).take i) ++ [(q.1, 1)] := by
          rw [take_snoc hq1]
          unfold ones
          rw [List.map_append]
          rfl
        have e6 : sumM ((R.take left).take (i + 1)) = sumM ((R.take left).take i) + q.2 := by
          rw [take_snoc hq1]
          unfold sumM
          rw [List.map_append, List.sum_append]
          simp
        rw [e5, e6]
        rw [Nat.mul_one] at ht7
        rw [← Nat.add_assoc, ← List.append_assoc]
        exact ht7
    · obtain ⟨g1, ⟨p8, p9, rfl⟩, g2, g3⟩ := p
      repeat walk_at "rd"
      have hXl : (X.take left).length = (R.take left).length := (hq0.take left).length
      rw [hXl, List.take_length] at g2
      have := k H' g1 g2
      rw [Int.natCast_add] at this
      exact this
end
end OB

namespace OB
open PySem PySem.Spec PyProof.Rows L2
local macro_rules | `(tactic| walk_at "hp") => `(tactic| first
  | assumption | exact upd_same | (refine look_new ?_ ?_ <;> walk_at "hp") | ((refine' look_mut (v := ?lv) ?lq ?lp ?ld); (case lq => walk_at "hp"); (case lp => walk_at "hp"); (case ld => (intro z; cases z))))
local macro_rules | `(tactic| walk_at "rd") => `(tactic| (first
  | (with_reducible first
  | refine r_seq ?_ | refine r_asg ?_ | refine r_gname ?_ | refine r_ret ?_ | refine r_retN ?_ | refine r_next ?_ | refine r_drop ?_ | refine r_if ?_
  | refine r_c ?_ | refine r_op ?_ | refine r_test ?_ | refine r_tb ?_ | refine r_bl ?_ | refine r_and ?_ | refine r_or ?_ | refine r_not ?_
  | refine r_andV ?_ | refine r_orV ?_ | refine r_notV ?_ | refine r_ifE ?_ | refine r_nil ?_ | refine r_cons ?_ | refine r_tup ?_ | refine r_lst ?_ | refine r_cb ?_ | refine r_call ?_ | refine r_sub ?_
  | refine r_addI ?_ | refine r_I0 ?_ | refine r_eqI ?_ | refine r_neI ?_ | refine r_eqS ?_ | refine r_neS ?_ | refine r_inS ?_ | refine r_inS2 ?_ | refine r_notInS2 ?_ | refine r_isNA ?_ | refine r_m1 ?_ | refine r_isstr ?_ | refine r_lc ?_ | refine r_notNA ?_ | refine r_kt ?_ | refine r_chain ?_ | refine r_gcons ?_ | refine r_gnil ?_ | refine r_fld ?_ | refine r_sfld ?_ | refine r_meth ?_ | refine r_sl ?_ | refine r_part ?_ | refine r_nopart ?_ | refine r_int ?_ | refine r_star ?_ | refine r_delL ?_ | refine r_par ?_ | refine r_parAt ?_ | refine r_par3 ?_ | refine r_parAt3 ?_ | refine r_fldaug ?_ | refine r_brk ?_ | refine r_for ?_ | refine r_ienT ?_ | refine r_make ?_ | refine r_bm ?_ | refine r_bm0 ?_ | refine iteT ?_ | refine iteF ?_)
  | ((with_reducible refine' r_var ?he ?_); (case he => rfl))
  | (with_reducible first | refine r_abs ?_ | refine r_max ?_ | refine r_min ?_)
  | ((with_reducible refine' r_lenSq ?hs ?_); (case hs => first | exact .inl (by assumption) | exact .inr (by assumption) | exact .inl (SqL.of (by walk_at "hp")) | exact .inr (SqT.of (by walk_at "hp"))))
  | ((with_reducible refine' r_mulR ?hc ?_); (case hc => decide))
  | ((with_reducible refine' r_mulL ?hc ?_); (case hc => decide))
  | ((with_reducible refine' r_mod ?hc ?_); (case hc => first | decide | assumption | omega))
  | ((with_reducible refine' r_div ?hc ?_); (case hc => first | decide | assumption | (constructor <;> first | assumption | omega)))
  | ((with_reducible refine' r_pow ?hc ?_); (case hc => first | decide | (refine ⟨by decide, by decide, by omega⟩)))
  | ((with_reducible refine' r_ixL2 ?hs ?he ?_); (case hs => exact SqL.of (by walk_at "hp")); (case he => first | rfl | exact atI0 | exact atI1 | exact atI2 | exact atI3))
  | ((with_reducible refine' r_ixT2 ?hs ?he ?_); (case hs => first | assumption | exact SqT.of (by walk_at "hp")); (case he => first | rfl | exact atI0 | exact atI1 | exact atI2 | exact atI3))
  | ((with_reducible refine' r_setL2 ?hs ?he ?_); (case hs => walk_at "hp"); (case he => rfl))
  | ((with_reducible refine' r_gtup ?hs ?he ?_); (case hs => first | assumption | exact SqT.of (by walk_at "hp")); (case he => rfl))
  | ((with_reducible refine' r_fldAt ?hs ?hc ?hn ?hl ?_); (case hs => walk_at "hp"); (case hc => walk_at "cl"); (case hn => walk_at "cl"); (case hl => rfl))
  | ((with_reducible refine' r_sfldAt ?hs ?hc ?hn ?hl ?_); (case hs => walk_at "hp"); (case hc => walk_at "cl"); (case hn => walk_at "cl"); (case hl => exact Nat.le_of_ble_eq_true rfl))
  | ((with_reducible refine' r_aug ?he ?_); (case he => rfl))
  | ((with_reducible refine' r_starAt ?hs ?_); (case hs => first | exact .inl (by assumption) | exact .inr (by assumption) | exact .inl (SqT.of (by walk_at "hp")) | exact .inr (SqL.of (by walk_at "hp"))))
  | ((with_reducible refine' r_fldaugAt ?hs ?hc ?hn ?hl ?_); (case hs => walk_at "hp"); (case hc => walk_at "cl"); (case hn => walk_at "cl"); (case hl => rfl))
  | ((with_reducible refine' r_methAt ?hs ?hl ?_); (case hs => walk_at "hp"); (case hl => rfl))
  | ((with_reducible refine' r_tyL ?hs ?_); (case hs => first | assumption | exact SqL.of (by walk_at "hp")))
  | ((with_reducible refine' r_ifT ?h ?_); (case h => rfl))
  | ((with_reducible refine' r_ifF ?h ?_); (case h => rfl))
  | ((with_reducible first | refine' r_isiInt ?hd ?_ | refine' r_isiBool ?hd ?_ | refine' r_isiStr ?hd ?_ | refine' r_isiTup ?hd ?_ | refine' r_isiLst ?hd ?_); (case hd => assumption))
  ))

local macro_rules | `(tactic| walk_at "cl") => `(tactic| assumption)
theorem ND.chg {P : Program} {w : World} {ps : List Addr} {H H' : Hp} {d : Addr} {kvs : List (NKey × V)} (c : Chg ps H H') (hd : d ∉ ps) (h : ND P w H d kvs) : ND P w H' d kvs :=
  let ⟨l, xs, e1, e2, e3⟩ := h
  ⟨l, xs, c.atN e1 hd, e2, fun x hx => ⟨(e3 x hx).1.keep fun a ys q => c.prot a _ rfl q, (e3 x hx).2⟩⟩
theorem ND.ext {P : Program} {w : World} {H : Hp} {d : Addr} {kvs : List (NKey × V)} (h : ND P w H d kvs) : ∃ f, H d = some (.ext f) :=
  let ⟨_, _, e1, _⟩ := h
  ⟨_, e1⟩
theorem Chg.but {ps : List Addr} {H H' : Hp} {d : Addr} {f : Heap → Prop} (s : SameBut d H H') (e : H d = some (.ext f)) (hd : d ∈ ps) : Chg ps H H' := by
  refine ⟨fun b u q => ?_, fun b u p q => ?_⟩
  · by_cases hb : b = d
    · rw [hb]; exact .inl hd
    · rw [s b hb]; exact .inr q
  · have hb : b ≠ d := fun z => by
      rw [z, e] at q
      rw [← Option.some.inj q] at p
      cases p
    rw [s b hb]
    exact q
theorem Chg.butN {ps : List Addr} {H0 H H' : Hp} {d : Addr} (a : Chg ps H0 H) (s : SameBut d H H') (e : H0 d = none) : Chg ps H0 H' := by
  refine ⟨fun b u q => ?_, fun b u p q => ?_⟩
  · rw [s b (ne_of_none q e)]; exact a.out b u q
  · rw [s b (ne_of_none q e)]; exact a.prot b u p q
/-- the parts of the first passes -/
def prefQ (L : Loop) (st : Stay) (n : Nat) : List (List Nat × Nat) := (List.range n).map fun i => (outAt L st i, 1)
theorem prefQ_succ (L : Loop) (st : Stay) (n : Nat) : prefQ L st (n + 1) = prefQ L st n ++ [(outAt L st n, 1)] := by
  unfold prefQ
  rw [List.range_succ, List.map_append]
  rfl
theorem prefQ_len (L : Loop) (st : Stay) (n : Nat) : (prefQ L st n).length = n := by simp [prefQ]
theorem den_prefQ (L : Loop) (st : Stay) (n : Nat) : den (prefQ L st n) = outs L st n := by
  unfold den prefQ outs
  rw [List.map_map]
  congr 1
  refine List.map_congr_left fun i _ => ?_
  simp
theorem flat_prefQ (L : Loop) (st : Stay) (n : Nat) : flat (prefQ L st n) = outs L st n := by
  unfold flat prefQ outs
  rw [List.map_map]
  rfl
def stays (L : Loop) (st : Stay) (n : Nat) : List Stay := (List.range n).map (itS L st)
theorem stays_succ (L : Loop) (st : Stay) (n : Nat) : stays L st (n + 1) = stays L st n ++ [itS L st n] := by
  unfold stays
  rw [List.range_succ, List.map_append]
  rfl
/-- so many different live standings at most -/
def Bnd (L : Loop) (least : Nat) (st : Stay) (B M : Nat) : Prop := (∀ i, (∀ j, j < i → live least (itS L st j) = true) → (∀ j k, j < k → k < i → itS L st j ≠ itS L st k) → i ≤ B) ∧ ∀ i, (∀ j, j < i → live least (itS L st j) = true) → (itS L st i).held.length ≤ M
structure MpI (P : Program) (w : World) (K : PySem.W.Frag) (L : Loop) (st : Stay) (least : Nat) (most : Option Nat) (H : Hp) (tr pl : Addr) (ps : List (List Nat × Nat)) (n : Nat) (pa sa pd : Addr) (i : Nat) (sv : V) (H' : Hp) : Prop where
  le : ∀ m, most = some m → i ≤ m
  chg : Chg [tr, pl] H H'
  stay : IsStay K H' sv (itS L st i)
  trk : TrackAt K H' tr pl (ps ++ prefQ L st i) (n + i)
  parts : ∃ xs, H' pa = some (.lst xs) ∧ All2 (IsPair K H') xs (prefQ L st i)
  stys : ∃ ys, H' sa = some (.lst ys) ∧ All2 (IsStay K H') ys (stays L st i)
  plc : ∃ kvs, ND P w H' pd kvs ∧ kvs.length ≤ i ∧ (∀ j, j < i → ndAt kvs (nkStay (itS L st j)) = some (.int j)) ∧ ∀ s, (ndAt kvs (nkStay s)).isSome = true → ∃ j, j < i ∧ itS L st j = s
  lv : ∀ j, j < i → live least (itS L st j) = true
  ne : ∀ j k, j < k → k < i → itS L st j ≠ itS L st k
structure MpD (H : Hp) (tr pl pa sa pd : Addr) : Prop where
  a : pa ∉ [tr, pl]
  s : sa ∉ [tr, pl]
  d : pd ∉ [tr, pl]
  as_ : pa ≠ sa
  ad : pa ≠ pd
  sd : sa ≠ pd
  na : H pa = none
  ns : H sa = none
  nd : H pd = none
theorem not_in2 {H : Hp} {a b x : Addr} {u v : HO} (h1 : H a = some u) (h2 : H b = some v) (hx : H x = none) : x ∉ [a, b] := fun z => by
  rcases List.mem_cons.mp z with z | z
  · exact ne_of_none h1 hx z.symm
  · rw [List.mem_singleton] at z
    exact ne_of_none h2 hx z.symm
theorem none_of_upd {H : Hp} {a x : Addr} {u : HO} (h : upd H a u x = none) : H x = none ∧ a ≠ x := by
  have hx : a ≠ x := fun z => by rw [z, upd_same] at h; cases h
  rw [upd_ne hx.symm] at h
  exact ⟨h, hx⟩
theorem none_of_same {H H' : Hp} {x : Addr} (s : Same H H') (h : H' x = none) : H x = none := by
  cases hq : H x with
  | none => rfl
  | some u => rw [s _ _ hq] at h; cases h
def spMake (K : PySem.W.Frag) : Sp := fun vs H Q _ => ∃ lv sv tr pl, ∃ L st, ∃ least : Nat, ∃ most : Option Nat, ∃ ps, ∃ n B M : Nat, vs = [lv, sv, .int least, optV most, .ref tr] ∧ Dp K H lv (loopD L) ∧ OkL L ∧ IsStay K H sv st ∧ TrackAt K H tr pl ps n ∧
  1 ≤ least ∧ Bnd L least st B M ∧ B ≤ 1000 ∧ M ≤ 5000 ∧ ps.length ≤ 800000 ∧
  (most = none → Endl L least st → ∀ H', Chg [tr, pl] H H' → Q .non H') ∧
  (∀ H' v n' qs, Chg [tr, pl] H H' → IsStay K H' v (itS L st n') → TrackAt K H' tr pl (ps ++ qs) (n + n') → (∀ i, i < n' → live least (itS L st i) = true) →
    (most = none → live least (itS L st n') = false ∧ qs = prefQ L st n') → (∀ m, most = some m → n' = m ∨ (n' ≤ m ∧ live least (itS L st n') = false)) → den qs = outs L st n' → qs.length ≤ 2 * B + 1 → Q v H')
section
variable {P : Program} {w : World} {K : PySem.W.Frag} {mg : Str → Option Value} {base : Heap}
theorem or_most {σ : L2.St} {H : Hp} {Q : Bool → Hp → Prop} {most : Option Nat} {pa : Addr} {xs : List V} (e3 : σ[3]? = some (some (optV most))) (e5 : σ[5]? = some (some (.ref pa))) (h : H pa = some (.lst xs)) (q : Q (match most with | none => true | some m => decide (xs.length < m)) H) :
    tOr (tTest (tOp rIsN (tVar 3) (tC V.non))) (tTest (tOp (rI0 fun i j => V.bl (decide (i < j))) (tCB (rLenA K) (tCons (tVar 5) tNil)) (tVar 3))) σ H Q := by
  refine r_or (r_test (r_op (r_var e3 ?_)))
  cases most with
  | none =>
    repeat walk_at "rd"
    exact q
  | some m =>
    repeat walk_at "rd"
    refine r_var e5 ?_
    repeat walk_at "rd"
    refine r_var e3 ?_
    show rI0 _ _ (.int (m : Int)) _ _
    repeat walk_at "rd"
    have e : decide ((xs.length : Int) < (m : Int)) = decide (xs.length < m) := decide_eq_decide.mpr (by omega)
    rw [e]
    exact q
theorem cycle {L : Loop} {st : Stay} {i j : Nat} (hj : j < i) (e : itS L st i = itS L st j) (t : Nat) : itS L st (i + t) = itS L st (j + t) := by
  rw [itS_add, itS_add, e]
theorem endl_cycle {L : Loop} {st : Stay} {i j least : Nat} (hj : j < i) (e : itS L st i = itS L st j) (h : ∀ t, t < i → live least (itS L st t) = true) : Endl L least st := by
  intro k
  induction k using Nat.strongRecOn with
  | _ k ih =>
    by_cases hk : k < i
    · exact h k hk
    · have h1 := cycle hj e (k - i)
      rw [show i + (k - i) = k by omega] at h1
      rw [h1]
      exact ih _ (by omega)
theorem prefQ_drop (L : Loop) (st : Stay) (j r : Nat) : (prefQ L st (j + r)).drop j = prefQ L (itS L st j) r := by
  unfold prefQ
  rw [← List.map_drop, List.range_add, List.drop_left' (List.length_range ..), List.map_map]
  refine List.map_congr_left fun t _ => ?_
  show (outAt L st (j + t), 1) = (outAt L (itS L st j) t, 1)
  unfold outAt
  rw [itS_add]
theorem prefQ_take (L : Loop) (st : Stay) {l r : Nat} (h : l ≤ r) : (prefQ L st r).take l = prefQ L st l := by
  unfold prefQ
  rw [← List.map_take, List.take_range, Nat.min_eq_left h]
theorem period {L : Loop} {s : Stay} {r : Nat} (e : itS L s r = s) (q t : Nat) : itS L s (r * q + t) = itS L s t ∧ outs L s (r * q + t) = (List.replicate q (outs L s r)).flatten ++ outs L s t := by
  induction q with
  | zero => simp
  | succ q ih =>
    rw [show r * (q + 1) + t = r + (r * q + t) by rw [Nat.mul_succ]; omega, itS_add, outs_add, e, ih.1, ih.2, List.replicate_succ, List.flatten_cons, List.append_assoc]
    exact ⟨rfl, rfl⟩
theorem round_all {L : Loop} {st : Stay} {i j m : Nat} (hj : j < i) (e : itS L st i = itS L st j) (him : i ≤ m) :
    itS L st m = itS L st (j + (m - i) % ((prefQ L st i).drop j).length) ∧ outs L st m = den (prefQ L st i ++ [(flat ((prefQ L st i).drop j), (m - i) / ((prefQ L st i).drop j).length)] ++ ones (((prefQ L st i).drop j).take ((m - i) % ((prefQ L st i).drop j).length))) := by
  obtain ⟨r, rfl⟩ : ∃ r, i = j + r := ⟨i - j, by omega⟩
  rw [prefQ_drop, prefQ_len]
  have hr : 0 < r := by omega
  have e2 : itS L (itS L st j) r = itS L st j := by rw [← itS_add]; exact e
  have hlt := Nat.mod_lt (m - (j + r)) hr
  have hm : m = (j + r) + (r * ((m - (j + r)) / r) + (m - (j + r)) % r) := by
    have := Nat.div_add_mod (m - (j + r)) r
    omega
  obtain ⟨p1, p2⟩ := period e2 ((m - (j + r)) / r) ((m - (j + r)) % r)
  generalize (m - (j + r)) / r = q at *
  generalize (m - (j + r)) % r = t at *
  subst hm
  constructor
  · rw [itS_add, e, p1, itS_add]
  · rw [outs_add, e, p2, den_app, den_app, den_prefQ, den_one, den_ones, prefQ_take L _ (Nat.le_of_lt hlt), flat_prefQ, flat_prefQ, List.append_assoc]
theorem flatten_len {ls : List (List Nat)} {c : Nat} (h : ∀ l ∈ ls, l.length ≤ c) : ls.flatten.length ≤ c * ls.length := by
  induction ls with
  | nil => simp
  | cons a r ih =>
    rw [List.flatten_cons, List.length_append, List.length_cons, Nat.mul_succ]
    have h1 := h a List.mem_cons_self
    have h2 := ih fun l hl => h l (List.mem_cons_of_mem _ hl)
    omega
theorem outAt_len {L : Loop} (ok : OkL L) (st : Stay) (i : Nat) : (outAt L st i).length ≤ (itS L st i).held.length + 100 := by
  unfold outAt onePass partOf
  have := passAt_len ok (itS L st i).held 0 (itS L st i).mark
  split
  · exact this
  · simp only [List.length_take]
    omega
theorem outs_len {L : Loop} (ok : OkL L) {st : Stay} {i M : Nat} (h : ∀ j, j < i → (itS L st j).held.length ≤ M) : (outs L st i).length ≤ (M + 100) * i := by
  unfold outs
  have := flatten_len (ls := (List.range i).map (outAt L st)) (c := M + 100) fun l hl => by
    obtain ⟨j, hj, rfl⟩ := List.mem_map.mp hl
    have h1 := outAt_len ok st j
    have h2 := h j (List.mem_range.mp hj)
    omega
  rwa [List.length_map, List.length_range] at this
theorem sumM_prefQ (L : Loop) (st : Stay) (n : Nat) : sumM (prefQ L st n) = n := by
  induction n with
  | zero => rfl
  | succ n ih =>
    rw [prefQ_succ]
    unfold sumM at *
    rw [List.map_append, List.sum_append, ih]
    rfl
theorem ok_make_passes (T : Txt w K mg) : Prom P w K mg base CX0 6 (a_make_passes K) p_make_passes [] (spMake K) := by
  obtain ⟨fd, F⟩ := T.d_make_passes
  have sc := sc_make_passes
  have c1 := T.cl_Stay
  have c2 := T.na_Stay_held
  have c3 := T.na_Stay_is_broken
  have G_Stay_key := ok_key (P := P) (base := base) T
  have G_one_pass := ok_one_pass (P := P) (base := base) T
  have G_Track_write_d1 := ok_write2 (P := P) (base := base) T
  have G_Track_write_round := ok_write_round (P := P) (base := base) T
  refine prom0 F sc (bn_make_passes F) (fun vs H Q E h => ?_) (fun cdv A outer s H vs Q E hr h => ?_)
  · obtain ⟨lv, sv, tr, pl, L, st, least, most, ps, n, B, M, rfl, _⟩ := h
    rfl
  · obtain ⟨lv, sv, tr, pl, L, st, least, most, ps, n, B, M, rfl, hd, ok, hst, ht, hle, hB, hB1, hM1, hps, kN, kS⟩ := h
    refine ⟨_, (pss_cons (ps_par3A (i := 5) (j := 6) (l := 7) rfl sc.nd (pa_cons (pe_lst pa_nil) (pa_cons (pe_lst pa_nil) (pa_cons (eNewN (P := P) (w := w)) pa_nil))))
      (pss_cons (ps_while PassesOwn.never (PW.pt (pw_and (pt_cmpR op_ge (pe_callB (cLen (K := K)) (by rfl) T.z_len (by decide +kernel) (pa_cons (eFld (K := K) (pv 1)) pa_nil)) (pv 2) (nomark _)) (pw_and (pt_not (pt_val (eFld (K := K) (pv 1)))) (pw_and1 (PW.pt (pw_or (pt_cmpR op_isNA (pv 3) pe_non (nomark _)) (pw_or1 (pt_cmpR op_lt (pe_callB (cLen (K := K)) (by rfl) T.z_len (by decide +kernel) (pa_cons (pv 5) pa_nil)) (pv 3) (nomark _))))))))) (pss_cons (ps_if (pt_cmpR (oIn (P := P) (w := w) (K := K) hr.units) (pe_methP0 (pv 1) T.cl_Stay T.mt_Stay_key G_Stay_key (hr.mono (by decide)) pass0) (pv 7) rfl) (pss_cons (ps_if (pt_cmpR op_isNA (pv 3) pe_non (nomark _)) (pss_one (ps_ret pe_non)) pss_nil)
      (pss_cons (ps_set (i := 8) sc.nd rfl (by first | exact Or.inl rfl | exact Or.inr rfl) (pe_ix (iIx (P := P) (w := w) (K := K) hr.units) (pv 7) (pe_methP0 (pv 1) T.cl_Stay T.mt_Stay_key G_Stay_key (hr.mono (by decide)) pass0) (fun _ _ => rfl)))
      (pss_cons (ps_set (i := 9) sc.nd rfl (by first | exact Or.inl rfl | exact Or.inr rfl) (pe_methP (pv 4) T.cl_Track T.mt_Track_write_round G_Track_write_round (hr.mono (by decide)) pass0 (pa_cons (pv 5) (pa_cons (pv 8) (pa_cons (pe_op op_sub (pv 3) (pe_callB (cLen (K := K)) (by rfl) T.z_len (by decide +kernel) (pa_cons (pv 5) pa_nil))) pa_nil)))))
      (pss_one (ps_ret (pe_ix (iIx (P := P) (w := w) (K := K) hr.units) (pv 6) (pv 9) (fun _ _ => rfl))))))) pss_nil)
      (pss_cons (ps_asg (pe_callB (cLen (K := K)) (by rfl) T.z_len (by decide +kernel) (pa_cons (pv 5) pa_nil)) (pg_sub (pv 7) (pe_methP0 (pv 1) T.cl_Stay T.mt_Stay_key G_Stay_key (hr.mono (by decide)) pass0) (iSet (P := P) (w := w) hr.units)))
      (pss_cons (ps_expr (eBm (K := K) (pe_bm PySem.F.plainAttrs_list PySem.F.slot_list_append PySem.F.type_list_append mt_append (pv 6) (pa_cons (pv 1) pa_nil))))
      (pss_cons (ps_asg (pe_callP G_one_pass (hr.mono (by decide)) T.g_one_pass pass0 (pa_cons (pv 0) (pa_cons (pv 1) pa_nil))) (gTupA (K := K) (n := 2) rfl (pgs_cons (pg_name (i := 10) sc.nd rfl (by first | exact Or.inl rfl | exact Or.inr rfl)) (pgs_cons (pg_name (i := 1) sc.nd rfl (by first | exact Or.inl rfl | exact Or.inr rfl)) pgs_nil))))
      (pss_cons (ps_expr (eBm (K := K) (pe_bm PySem.F.plainAttrs_list PySem.F.slot_list_append PySem.F.type_list_append mt_append (pv 5) (pa_cons (pe_tup (pa_cons (pv 10) (pa_cons pe_int pa_nil))) pa_nil))))
      (pss_one (ps_expr (pe_methP (pv 4) T.cl_Track T.mt_Track_write G_Track_write_d1 (hr.mono (by decide)) pass0 (pa_cons (pv 10) (pa_cons pe_int pa_nil)))))))))))
      (pss_one (ps_ret (pv 1))))), ?_⟩
    repeat walk_at "rd"
    refine ⟨Nat.zero_le _, fun pa hpa => ?_⟩
    repeat walk_at "rd"
    refine ⟨Nat.zero_le _, fun sa hsa => ?_⟩
    repeat walk_at "rd"
    intro pd H3 hpd s3 nd3 hbut3
    obtain ⟨hsa1, hsa2⟩ := none_of_upd hsa
    obtain ⟨hpd1, hpd2⟩ := none_of_upd hpd
    obtain ⟨hpd3, hpd4⟩ := none_of_upd hpd1
    have D : MpD H tr pl pa sa pd := by
      obtain ⟨_, _, z1, z2, _⟩ := ht
      exact ⟨not_in2 z1 z2 hpa, not_in2 z1 z2 hsa1, not_in2 z1 z2 hpd3, hsa2, hpd4, hpd2, hpa, hsa1, hpd3⟩
    have s03 : Same H H3 := (Same.new hpa).trans ((Same.new hsa).trans s3)
    have I0 : MpI P w K L st least most H tr pl ps n pa sa pd 0 sv H3 := ⟨fun _ _ => Nat.zero_le _, Chg.of_same s03, hst.chg (Chg.of_same (ps := []) s03), by
        have := ht.chg (Chg.of_same (ps := []) s03) (by simp) (by simp)
        simpa [prefQ] using this, ⟨[], s3 _ _ (look_new hsa upd_same), .nil⟩, ⟨[], s3 _ _ upd_same, .nil⟩, ⟨[], nd3, Nat.le_refl _, fun j h => by omega, fun s h => by cases h⟩, fun j h => by omega, fun j k _ h => by omega⟩
    clear s03 hbut3 nd3 s3 hpd hpd1 hpd2 hpd4 hpd3 hsa hsa1 hsa2 hpa
    repeat walk_at "rd"
    refine ⟨fun m σ H' => ∃ i sv', m = B - i ∧ i ≤ B ∧ (∃ p q r, σ = [some lv, some sv', some (.int least), some (optV most), some (.ref tr), some (.ref pa), some (.ref sa), some (.ref pd), p, q, r]) ∧ MpI P w K L st least most H tr pl ps n pa sa pd i sv' H', ⟨B, 0, sv, rfl, Nat.zero_le _, ⟨_, _, _, rfl⟩, I0⟩, ?_⟩
    clear I0
    rintro m σ H1 ⟨i, sv', rfl, hi, ⟨p8, p9, p10, rfl⟩, I⟩
    obtain ⟨a, dxs, rfl, hst1⟩ := I.stay
    have hlenx : ∃ xs, H1 pa = some (.lst xs) ∧ xs.length = i := by
      obtain ⟨xs, h1, h2⟩ := I.parts
      exact ⟨xs, h1, by rw [h2.length, prefQ_len]⟩
    obtain ⟨xs, hxs, hxl⟩ := hlenx
    have hheld : (itS L st i).held.length ≤ 5000 := Nat.le_trans (hB.2 i I.lv) hM1
    have done : (most = none → live least (itS L st i) = false) → (∀ m, most = some m → i = m ∨ (i ≤ m ∧ live least (itS L st i) = false)) → Q (.ref a) H1 := fun h1 h2 =>
      kS H1 (.ref a) i (prefQ L st i) I.chg I.stay I.trk I.lv (fun h => ⟨h1 h, rfl⟩) h2 (den_prefQ ..) (by rw [prefQ_len]; omega)
    have stop : live least (itS L st i) = false → Q (.ref a) H1 := fun h => done (fun _ => h) fun m e => .inr ⟨I.le m e, h⟩
    repeat walk_at "rd"
    refine r_lenS (by rw [mkS_len]; exact Nat.le_trans hheld (by decide)) ?_
    repeat walk_at "rd"
    rw [mkS_len]
    refine r_ite (fun d1 => ?_) (fun d1 => ?_)
    · repeat walk_at "rd"
      cases hb : (itS L st i).brk with
      | true =>
        repeat walk_at "rd"
        exact stop (by unfold live; rw [hb]; simp)
      | false =>
        have hlive : live least (itS L st i) = true := by
          unfold live
          rw [hb, decide_eq_true (by omega : least ≤ (itS L st i).held.length)]
          rfl
        have hlv2 : ∀ j, j < i + 1 → live least (itS L st j) = true := fun j hj => by
          by_cases e : j = i
          · rw [e]; exact hlive
          · exact I.lv j (by omega)
        refine r_ifT rfl ?_
        refine or_most rfl rfl hxs ?_
        refine r_iteb (fun d2 => ?_) (fun d2 => ?_)
        · have hmost : ∀ m, most = some m → i < m := fun m e => by
            rw [e] at d2
            have := of_decide_eq_true d2
            omega
          refine ⟨fun σ' H' => ∃ sv', (∃ p q r, σ' = [some lv, some sv', some (.int least), some (optV most), some (.ref tr), some (.ref pa), some (.ref sa), some (.ref pd), p, q, r]) ∧ MpI P w K L st least most H tr pl ps n pa sa pd (i + 1) sv' H', fun σ' H' ⟨sv2, e1, e2⟩ => ?_, ?_⟩
          · have hlt : i + 1 ≤ B := hB.1 (i + 1) e2.lv e2.ne
            exact ⟨B - (i + 1), by omega, i + 1, sv2, rfl, hlt, e1, e2⟩
          · obtain ⟨kvs, nd1, kl1, kat, khas⟩ := I.plc
            repeat walk_at "rd"
            refine ⟨_, itS L st i, rfl, I.stay, fun ka H2 s2 nk2 => ?_⟩
            have nd2 := nd1.same s2
            repeat walk_at "rd"
            refine r_inD nd2 nk2 (Nat.le_of_ble_eq_true rfl) ?_
            repeat walk_at "rd"
            cases hf : (ndAt kvs (nkStay (itS L st i))).isSome with
            | true =>
              obtain ⟨j, hj, ej⟩ := khas _ hf
              repeat walk_at "rd"
              cases hmo : most with
              | none =>
                repeat walk_at "rd"
                exact kN hmo (endl_cycle hj ej.symm I.lv) H2 (I.chg.trans (Chg.of_same s2))
              | some m =>
                have him := hmost m hmo
                have st2 := I.stay.chg (Chg.of_same (ps := []) s2)
                obtain ⟨a2, dx2, ea2, hst2⟩ := st2
                injection ea2 with ea2
                subst ea2
                rw [show optV (some m) = V.int (m : Int) from rfl]
                repeat walk_at "rd"
                refine ⟨_, itS L st i, rfl, ⟨_, _, rfl, hst2⟩, fun kb H3 s3 nk3 => ?_⟩
                have s13 := s2.trans s3
                have nd3 := nd2.same s3
                obtain ⟨dxt, xt, z1, z2, z3⟩ := I.trk.chg (Chg.of_same (ps := []) s13) (by simp) (by simp)
                have trk3 : TrackAt K H3 tr pl (ps ++ prefQ L st i) (n + i) := ⟨dxt, xt, z1, z2, z3⟩
                refine r_ixD2 nd3 nk3 (Nat.le_of_ble_eq_true rfl) (by rw [← ej]; exact kat j hj) ?_
                have hxs3 := s13 _ _ hxs
                repeat walk_at "rd"
                rw [show ((m : Int) - (xs.length : Int)) = ((m - i : Nat) : Int) from by omega]
                obtain ⟨xs', hp1, hp2⟩ := I.parts
                obtain ⟨ys, hy1, hy2⟩ := I.stys
                refine ⟨tr, pl, pa, j, m - i, n + i, ps ++ prefQ L st i, prefQ L st i, xs', rfl, trk3, s13 _ _ hp1, hp2.mono fun _ _ q => q.chg (Chg.of_same (ps := []) s13), by rw [prefQ_len]; exact hj, ?_, ?_, ?_, fun H4 c4 t4 => ?_⟩
                · rw [List.length_append, prefQ_len]; omega
                · rw [flat_prefQ]
                  have h1 := outs_len ok (st := st) (i := i) (M := 5000) fun j hj => Nat.le_trans (hB.2 j fun t ht => I.lv t (by omega)) hM1
                  have h2 : (5000 + 100) * i ≤ 5100 * 1000 := Nat.mul_le_mul (by decide) (by omega)
                  omega
                · rw [sumM_prefQ]; omega
                · have hat : j + (m - i) % ((prefQ L st i).drop j).length < i := by
                    rw [List.length_drop, prefQ_len]
                    have := Nat.mod_lt (m - i) (show 0 < i - j by omega)
                    omega
                  have hy4 := c4.atN (s13 _ _ hy1) D.s
                  obtain ⟨v, hv1, hv2⟩ := All2.get2 (a := itS L st (j + (m - i) % ((prefQ L st i).drop j).length)) (i := j + (m - i) % ((prefQ L st i).drop j).length) hy2 (by
                    unfold stays
                    rw [List.getElem?_map, List.getElem?_range hat]
                    rfl)
                  repeat walk_at "rd"
                  refine r_ixL2 (SqL.of hy4) (atI_nat hv1) ?_
                  obtain ⟨ra1, ra2⟩ := round_all hj ej.symm (Nat.le_of_lt him)
                  have hend := endl_cycle (least := least) hj ej.symm I.lv
                  have hsum : i + sumM ((prefQ L st i).drop j) * ((m - i) / ((prefQ L st i).drop j).length) + sumM (((prefQ L st i).drop j).take ((m - i) % ((prefQ L st i).drop j).length)) = m := by
                    obtain ⟨r, rfl⟩ : ∃ r, i = j + r := ⟨i - j, by omega⟩
                    have hr : 0 < r := by omega
                    rw [prefQ_drop, prefQ_len, prefQ_take L _ (Nat.le_of_lt (Nat.mod_lt _ hr)), sumM_prefQ, sumM_prefQ]
                    have := Nat.div_add_mod (m - (j + r)) r
                    omega
                  refine kS H4 v m (prefQ L st i ++ [(flat ((prefQ L st i).drop j), (m - i) / ((prefQ L st i).drop j).length)] ++ ones (((prefQ L st i).drop j).take ((m - i) % ((prefQ L st i).drop j).length))) ((I.chg.trans (Chg.of_same s13)).trans c4) (by rw [ra1]; exact (hv2.chg (Chg.of_same (ps := []) s13)).chg c4) ?_ (fun t _ => hend t) (fun e => by rw [hmo] at e; cases e) (fun m2 e => .inl (by rw [hmo] at e; injection e)) ra2.symm ?_
                  · have e1 : n + m = n + i + sumM ((prefQ L st i).drop j) * ((m - i) / ((prefQ L st i).drop j).length) + sumM (((prefQ L st i).drop j).take ((m - i) % ((prefQ L st i).drop j).length)) := by omega
                    rw [e1, ← List.append_assoc, ← List.append_assoc]
                    exact t4
                  · have h1 : ((prefQ L st i).drop j).length ≤ i := by rw [List.length_drop, prefQ_len]; omega
                    simp only [List.length_append, List.length_singleton, prefQ_len, ones, List.length_map, List.length_take]
                    omega
            | false =>
              repeat walk_at "rd"
              have hnot : ∀ j, j < i → itS L st j ≠ itS L st i := fun j hj e => by
                have := kat j hj
                rw [e] at this
                rw [this] at hf
                cases hf
              have st2 := I.stay.chg (Chg.of_same (ps := []) s2)
              obtain ⟨a2, dx2, ea2, hst2⟩ := st2
              injection ea2 with ea2
              subst ea2
              have hxs2 := s2 _ _ hxs
              repeat walk_at "rd"
              refine ⟨_, itS L st i, rfl, ⟨_, _, rfl, hst2⟩, fun kb H3 s3 nk3 => ?_⟩
              have s13 := s2.trans s3
              have nd3 := nd2.same s3
              repeat walk_at "rd"
              refine r_setD2 nd3 nk3 (Nat.le_of_ble_eq_true rfl) (Nat.lt_of_le_of_lt (by omega : kvs.length ≤ 1000) (by decide)) fun H4 b4 _ nd4 => ?_
              obtain ⟨xs', hp1, hp2⟩ := I.parts
              obtain ⟨ys, hy1, hy2⟩ := I.stys
              obtain ⟨ef, hef⟩ := nd3.ext
              have c4 : Chg [tr, pl] H H4 := (I.chg.trans (Chg.of_same s13)).butN b4 D.nd
              have cc4 : Chg [pd] H1 H4 := (Chg.of_same s13).trans (Chg.but b4 hef (by simp))
              have htd : tr ∉ [pd] ∧ pl ∉ [pd] := ⟨fun z => D.d (by rw [List.mem_singleton] at z; simp [z]), fun z => D.d (by rw [List.mem_singleton] at z; simp [z])⟩
              have hts : tr ∉ [sa] ∧ pl ∉ [sa] := ⟨fun z => D.s (by rw [List.mem_singleton] at z; simp [z]), fun z => D.s (by rw [List.mem_singleton] at z; simp [z])⟩
              have hta : tr ∉ [pa] ∧ pl ∉ [pa] := ⟨fun z => D.a (by rw [List.mem_singleton] at z; simp [z]), fun z => D.a (by rw [List.mem_singleton] at z; simp [z])⟩
              have hy4 := cc4.atN hy1 (fun z => D.sd (List.mem_singleton.mp z))
              have hp4 := cc4.atN hp1 (fun z => D.ad (List.mem_singleton.mp z))
              have hst4 := IsStay.chg (I.stay) cc4
              have hyl : ys.length = i := by rw [hy2.length]; simp [stays]
              have hpl4 : xs'.length = i := by rw [hp2.length, prefQ_len]
              have trk4 := I.trk.chg cc4 htd.1 htd.2
              have hy4b := hy2.mono fun _ _ q => q.chg cc4
              have hp4b := hp2.mono fun _ _ q => q.chg cc4
              repeat walk_at "rd"
              refine r_append hy4 (Nat.lt_of_le_of_lt (by omega : ys.length ≤ 1000) (by decide)) ?_
              have c5 : Chg [tr, pl] H (upd H4 sa (.lst (ys ++ [.ref a]))) := c4.mut D.ns
              have cc5 : Chg [sa] H4 (upd H4 sa (.lst (ys ++ [.ref a]))) := Chg.upd hy4 (by simp)
              have hy5 : (upd H4 sa (.lst (ys ++ [.ref a]))) sa = some (.lst (ys ++ [.ref a])) := upd_same
              generalize upd H4 sa (.lst (ys ++ [.ref a])) = H5 at *
              have hp5 := cc5.atN hp4 (fun z => D.as_ (List.mem_singleton.mp z))
              have hst5 := hst4.chg cc5
              have hy5b : All2 (IsStay K H5) (ys ++ [.ref a]) (stays L st (i + 1)) := by
                rw [stays_succ]
                exact (hy4b.mono fun _ _ q => q.chg cc5).snoc hst5
              have hp5b := hp4b.mono fun _ _ q => q.chg cc5
              have nd5 := nd4.chg cc5 (fun z => D.sd (List.mem_singleton.mp z).symm)
              have trk5 := trk4.chg cc5 hts.1 hts.2
              repeat walk_at "rd"
              refine ⟨_, _, L, itS L st i, rfl, dp_chg c5 (tup_loop L) hd, ok, hst5, by omega, by omega, fun H6 t sv2 s6 ht6 hsv6 => ?_⟩
              have hy6 := s6 _ _ hy5
              have hp6 := s6 _ _ hp5
              repeat walk_at "rd"
              refine ⟨Nat.le_of_ble_eq_true rfl, fun q hq => ?_⟩
              have s7 : Same H5 (upd H6 q (.tup [.str (mkS (onePass L (itS L st i)).1), .int 1])) := s6.trans (Same.new hq)
              have hq7 : (upd H6 q (.tup [.str (mkS (onePass L (itS L st i)).1), .int 1])) q = some (.tup [.str (mkS (onePass L (itS L st i)).1), .int 1]) := upd_same
              have hsv7 := hsv6.chg (Chg.new (ps := []) (v := .tup [.str (mkS (onePass L (itS L st i)).1), .int 1]) hq)
              generalize upd H6 q (.tup [.str (mkS (onePass L (itS L st i)).1), .int 1]) = H7 at *
              have hp7 := s7 _ _ hp5
              have hy7 := s7 _ _ hy5
              repeat walk_at "rd"
              refine r_append hp7 (Nat.lt_of_le_of_lt (by omega : xs'.length ≤ 1000) (by decide)) ?_
              have c7 : Chg [tr, pl] H H7 := c5.trans (Chg.of_same s7)
              have c8 : Chg [tr, pl] H (upd H7 pa (.lst (xs' ++ [.ref q]))) := c7.mut D.na
              have cc8 : Chg [pa] H7 (upd H7 pa (.lst (xs' ++ [.ref q]))) := Chg.upd hp7 (by simp)
              have hp8 : (upd H7 pa (.lst (xs' ++ [.ref q]))) pa = some (.lst (xs' ++ [.ref q])) := upd_same
              generalize upd H7 pa (.lst (xs' ++ [.ref q])) = H8 at *
              have cs7 : Chg [pa] H5 H8 := (Chg.of_same s7).trans cc8
              have trk8 := trk5.chg cs7 hta.1 hta.2
              have hp8b : All2 (IsPair K H8) (xs' ++ [.ref q]) (prefQ L st (i + 1)) := by
                rw [prefQ_succ]
                refine (hp5b.mono fun _ _ z => z.chg cs7).snoc ⟨q, rfl, ?_⟩
                exact SqT.of (cc8.prot _ _ rfl hq7)
              have hy8 := cs7.atN hy5 (fun z => D.as_ (List.mem_singleton.mp z).symm)
              obtain ⟨dxt, xt, z1, z2, z3⟩ := trk8
              repeat walk_at "rd"
              refine ⟨tr, pl, mkS (onePass L (itS L st i)).1, 1, 1, n + i, ps ++ prefQ L st i, rfl, ⟨dxt, xt, z1, z2, z3⟩, ?_, by decide, fun H9 c9 t9 => ?_⟩
              · rw [List.length_append, prefQ_len]; omega
              · refine ⟨sv2, ⟨_, _, _, rfl⟩, fun m e => hmost m e, c8.trans c9, (hsv7.chg cc8).chg c9, ?_, ⟨_, c9.atN hp8 D.a, hp8b.mono fun _ _ z => z.chg c9⟩, ⟨_, c9.atN hy8 D.s, hy5b.mono fun _ _ z => (z.chg cs7).chg c9⟩, ⟨_, (nd5.chg cs7 (fun z => D.ad (List.mem_singleton.mp z).symm)).chg c9 D.d, ?_, ?_, ?_⟩, hlv2, ?_⟩
                · rw [tl_mkS] at t9
                  rw [prefQ_succ, ← List.append_assoc]
                  exact t9
                · exact Nat.le_trans (ndPut_len ..) (by omega)
                · intro j hj
                  by_cases e : j = i
                  · rw [e, ndAt_put_same, hxl]
                  · have hj2 : j < i := by omega
                    rw [ndAt_put_other _ _ _ _ (fun z => hnot j hj2 (nkStay_inj z))]
                    exact kat j hj2
                · intro s hs
                  by_cases e : s = itS L st i
                  · exact ⟨i, by omega, e.symm⟩
                  · rw [ndAt_put_other _ _ _ _ (fun z => e (nkStay_inj z))] at hs
                    obtain ⟨j, hj, ej⟩ := khas s hs
                    exact ⟨j, by omega, ej⟩
                · intro j k hjk hk
                  by_cases e : k = i
                  · rw [e]; exact hnot j (by omega)
                  · exact I.ne j k hjk (by omega)
        · have hmi : ∃ m, most = some m ∧ i = m := by
            cases hmo : most with
            | none => rw [hmo] at d2; cases d2
            | some m =>
              rw [hmo] at d2
              have h1 := of_decide_eq_false d2
              have h2 := I.le m hmo
              exact ⟨m, rfl, by omega⟩
          obtain ⟨m, hm1, hm2⟩ := hmi
          repeat walk_at "rd"
          refine done (fun e => ?_) fun m2 e => ?_
          · rw [hm1] at e; cases e
          · rw [hm1] at e
            injection e with e
            exact .inl (by omega)
    · repeat walk_at "rd"
      refine stop ?_
      unfold live
      rw [decide_eq_false (by omega)]
      rfl
end
end OB

namespace OB
open PySem
/-! ### loops as they must be: standings stay small -/
def isIns : Edit → Bool
  | .before _ => true
  | .after _ => true
  | _ => false
def isDel : Edit → Bool
  | .drop => true
  | .dropN => true
  | _ => false
def edOk : Edit → Bool
  | .put c => decide (c ∈ lts)
  | .before c => decide (c ∈ lts)
  | .after c => decide (c ∈ lts)
  | .mark m => decide (m < 4)
  | _ => true
def ruleOk (r : Rule) : Bool := decide (r.eds.length ≤ 4) && (decide ((r.eds.filter isIns).length ≤ 1) && (decide ((r.eds.filter isDel).length ≤ 2) && r.eds.all edOk))
def wfB (L : Loop) : Bool := decide (L.rules.length ≤ 12) && (L.rules.all ruleOk && (decide (L.ends.length = 4) && L.ends.all fun e => decide (e.length ≤ 4) && e.all fun c => decide (c ∈ lts)))
structure WF (L : Loop) : Prop where
  rules : L.rules.length ≤ 12
  rule : ∀ r ∈ L.rules, ruleOk r = true
  ends : L.ends.length = 4
  end_ : ∀ e ∈ L.ends, e.length ≤ 4 ∧ ∀ c ∈ e, c ∈ lts
theorem WF.of {L : Loop} (h : wfB L = true) : WF L := by
  unfold wfB at h
  simp only [Bool.and_eq_true, decide_eq_true_eq, List.all_eq_true] at h
  exact ⟨h.1, h.2.1, h.2.2.1, fun e he => ⟨(h.2.2.2 e he).1, (h.2.2.2 e he).2⟩⟩
theorem ruleOk_eq {r : Rule} (h : ruleOk r = true) : r.eds.length ≤ 4 ∧ (r.eds.filter isIns).length ≤ 1 ∧ (r.eds.filter isDel).length ≤ 2 ∧ ∀ e ∈ r.eds, edOk e = true := by
  unfold ruleOk at h
  simp only [Bool.and_eq_true, decide_eq_true_eq, List.all_eq_true] at h
  exact ⟨h.1, h.2.1, h.2.2.1, h.2.2.2⟩
theorem WF.okL {L : Loop} (h : WF L) : OkL L := ⟨Nat.le_trans h.rules (by decide), fun r hr => Nat.le_trans (ruleOk_eq (h.rule r hr)).1 (by decide)⟩
theorem edsOf_ok {L : Loop} (h : WF L) (o : Option Nat) (ho : ∀ k, o = some k → k < L.rules.length) : (edsOf L o).length ≤ 4 ∧ ((edsOf L o).filter isIns).length ≤ 1 ∧ ((edsOf L o).filter isDel).length ≤ 2 ∧ ∀ e ∈ edsOf L o, edOk e = true := by
  cases o with
  | none => exact ⟨by simp [edsOf], by simp [edsOf], by simp [edsOf], fun e he => by simp [edsOf] at he⟩
  | some k =>
    have hk := ho k rfl
    have e : L.rules.getD k default = L.rules[k] := by
      rw [List.getD_eq_getElem?_getD, List.getElem?_eq_getElem hk]
      rfl
    show (L.rules.getD k default).eds.length ≤ 4 ∧ ((L.rules.getD k default).eds.filter isIns).length ≤ 1 ∧ ((L.rules.getD k default).eds.filter isDel).length ≤ 2 ∧ ∀ e ∈ (L.rules.getD k default).eds, edOk e = true
    rw [e]
    exact ruleOk_eq (h.rule _ (List.getElem_mem hk))
theorem mem_applyE {e : Edit} {l : List Nat} {i c : Nat} (ok : edOk e = true) (hl : ∀ x ∈ l, x ∈ lts) (h : c ∈ applyE e l i) : c ∈ lts := by
  cases e with
  | put d =>
    simp only [applyE] at h
    split at h
    · rcases List.mem_or_eq_of_mem_set h with z | z
      · exact hl c z
      · rw [z]; simpa [edOk] using ok
    · exact hl c h
  | drop =>
    simp only [applyE] at h
    split at h
    · exact hl c (List.mem_of_mem_eraseIdx h)
    · exact hl c h
  | dropN =>
    simp only [applyE] at h
    split at h
    · exact hl c (List.mem_of_mem_eraseIdx h)
    · exact hl c h
  | before d =>
    simp only [applyE, List.mem_append, List.mem_singleton] at h
    rcases h with (h | h) | h
    · exact hl c (List.mem_of_mem_take h)
    · rw [h]; simpa [edOk] using ok
    · exact hl c (List.mem_of_mem_drop h)
  | after d =>
    simp only [applyE, List.mem_append, List.mem_singleton] at h
    rcases h with (h | h) | h
    · exact hl c (List.mem_of_mem_take h)
    · rw [h]; simpa [edOk] using ok
    · exact hl c (List.mem_of_mem_drop h)
  | mark m => exact hl c h
  | brk => exact hl c h
theorem applyE_len2 (e : Edit) (l : List Nat) (i : Nat) : (applyE e l i).length ≤ l.length + if isIns e = true then 1 else 0 := by
  cases e <;> simp only [applyE, isIns, if_true, Bool.false_eq_true, if_false]
  · split
    · simp
    · omega
  · split
    · rw [List.length_eraseIdx]; split <;> omega
    · omega
  · split
    · rw [List.length_eraseIdx]; split <;> omega
    · omega
  · simp only [List.length_append, List.length_take, List.length_drop, List.length_singleton]; omega
  · simp only [List.length_append, List.length_take, List.length_drop, List.length_singleton]; omega
  · omega
  · omega
/-- what edits keep -/
theorem carry_keeps {es : List Edit} (he : ∀ e ∈ es, edOk e = true) : ∀ {i : Nat} {s : List Nat × Nat × Bool}, (∀ x ∈ s.1, x ∈ lts) → s.2.1 < 4 →
    (∀ x ∈ (carry es i s).1, x ∈ lts) ∧ (carry es i s).2.1 < 4 ∧ (carry es i s).1.length ≤ s.1.length + (es.filter isIns).length := by
  induction es with
  | nil => intro i s h1 h2; exact ⟨h1, h2, Nat.le_refl _⟩
  | cons e r ih =>
    intro i s h1 h2
    obtain ⟨l, m, b⟩ := s
    have hr : ∀ e ∈ r, edOk e = true := fun e h => he e (List.mem_cons_of_mem _ h)
    have hk : edOk e = true := he e List.mem_cons_self
    rw [carry_cons]
    have gen : ∀ e' : Edit, e = e' → carry1 e i (l, m, b) = (applyE e l i, m, b) → (∀ x ∈ (carry r i (carry1 e i (l, m, b))).1, x ∈ lts) ∧ (carry r i (carry1 e i (l, m, b))).2.1 < 4 ∧ (carry r i (carry1 e i (l, m, b))).1.length ≤ l.length + ((e :: r).filter isIns).length := by
      intro e' _ h3
      rw [h3]
      obtain ⟨g1, g2, g3⟩ := ih hr (i := i) (s := (applyE e l i, m, b)) (fun x hx => mem_applyE hk h1 hx) h2
      refine ⟨g1, g2, ?_⟩
      have h4 := applyE_len2 e l i
      rw [List.filter_cons]
      simp only at g3
      split at h4
      · rename_i h5
        rw [if_pos h5, List.length_cons]
        omega
      · rename_i h5
        rw [if_neg h5]
        omega
    cases e with
    | mark k =>
      obtain ⟨g1, g2, g3⟩ := ih hr (i := i) (s := (l, k, b)) h1 (by simpa [edOk] using hk)
      exact ⟨g1, g2, g3⟩
    | brk =>
      obtain ⟨g1, g2, g3⟩ := ih hr (i := i) (s := (l, m, true)) h1 h2
      exact ⟨g1, g2, g3⟩
    | put c => exact gen _ rfl rfl
    | drop => exact gen _ rfl rfl
    | dropN => exact gen _ rfl rfl
    | before c => exact gen _ rfl rfl
    | after c => exact gen _ rfl rfl
/-- a standing of the program -/
structure StOk (k : Nat) (st : Stay) : Prop where
  mark : st.mark < 4
  ltr : ∀ c ∈ st.held, c ∈ lts
  len : st.held.length ≤ k
theorem pass_ok {L : Loop} (h : WF L) {l : List Nat} {m : Nat} (i : Nat) (hl : ∀ c ∈ l, c ∈ lts) (hm : m < 4) : (∀ c ∈ (passAt L l i m).1, c ∈ lts) ∧ (passAt L l i m).2.1 < 4 ∧ (passAt L l i m).1.length ≤ l.length + 1 := by
  have he := edsOf_ok h (ruleAt L l i m) fun k hk => fit_lt hk
  obtain ⟨g1, g2, g3⟩ := carry_keeps he.2.2.2 (i := i) (s := (l, m, false)) hl hm
  exact ⟨g1, g2, Nat.le_trans g3 (Nat.add_le_add_left he.2.1 _)⟩
theorem onePass_ok {L : Loop} (h : WF L) {k : Nat} {st : Stay} (s : StOk k st) (h0 : 0 < st.held.length) : StOk k (onePass L st).2 := by
  obtain ⟨g1, g2, g3⟩ := pass_ok h 0 s.ltr s.mark
  have := s.len
  unfold onePass stayOf
  split
  · exact ⟨g2, fun c hc => (by cases hc), Nat.zero_le _⟩
  · refine ⟨g2, fun c hc => g1 c (List.mem_of_mem_drop hc), ?_⟩
    simp only [List.length_drop]
    omega
theorem live_pos {least : Nat} (hl : 1 ≤ least) {st : Stay} (h : live least st = true) : 0 < st.held.length ∧ st.brk = false ∧ least ≤ st.held.length := by
  unfold live at h
  simp only [Bool.and_eq_true, decide_eq_true_eq, Bool.not_eq_true'] at h
  exact ⟨by omega, h.2, h.1⟩
theorem itS_ok {L : Loop} (h : WF L) {k least : Nat} (hl : 1 ≤ least) {st : Stay} (s : StOk k st) : ∀ i, (∀ j, j < i → live least (itS L st j) = true) → StOk k (itS L st i)
  | 0, _ => s
  | i + 1, hj => onePass_ok h (itS_ok h hl s i fun j h2 => hj j (by omega)) (live_pos hl (hj i (by omega))).1
/-! ### so many different standings -/
def wordsN : Nat → List (List Nat)
  | 0 => [[]]
  | n + 1 => (wordsN n).flatMap fun w => lts.map fun c => c :: w
theorem mem_wordsN : ∀ {w : List Nat}, (∀ c ∈ w, c ∈ lts) → w ∈ wordsN w.length
  | [], _ => List.mem_singleton.mpr rfl
  | c :: w, h => List.mem_flatMap.mpr ⟨w, mem_wordsN fun d hd => h d (List.mem_cons_of_mem _ hd), List.mem_map.mpr ⟨c, h c List.mem_cons_self, rfl⟩⟩
def allSt (k : Nat) : List Stay := (List.range (k + 1)).flatMap fun n => (wordsN n).flatMap fun w => (List.range 4).map fun m => ⟨m, w, false⟩
theorem mem_allSt {k : Nat} {st : Stay} (s : StOk k st) (hb : st.brk = false) : st ∈ allSt k := by
  obtain ⟨m, w, b⟩ := st
  subst hb
  refine List.mem_flatMap.mpr ⟨w.length, List.mem_range.mpr (Nat.lt_succ_of_le s.len), List.mem_flatMap.mpr ⟨w, mem_wordsN s.ltr, List.mem_map.mpr ⟨m, List.mem_range.mpr s.mark, rfl⟩⟩⟩
theorem allSt3 : (allSt 3).length = 340 := by decide +kernel
theorem nodup_len {α : Type} [DecidableEq α] : ∀ {l s : List α}, l.Nodup → (∀ x ∈ l, x ∈ s) → l.length ≤ s.length
  | [], _, _, _ => Nat.zero_le _
  | x :: l, s, h, hs => by
    rw [List.nodup_cons] at h
    have h1 : x ∈ s := hs x List.mem_cons_self
    have h2 := nodup_len (l := l) (s := s.erase x) h.2 fun y hy => (List.mem_erase_of_ne (fun e => h.1 (by rw [← e]; exact hy))).mpr (hs y (List.mem_cons_of_mem _ hy))
    rw [List.length_erase_of_mem h1] at h2
    have h3 : 0 < s.length := List.length_pos_of_mem h1
    rw [List.length_cons]
    omega
theorem stays_nodup {L : Loop} {st : Stay} {i : Nat} (h : ∀ j k, j < k → k < i → itS L st j ≠ itS L st k) : (stays L st i).Nodup := by
  unfold stays
  rw [List.nodup_iff_pairwise_ne, List.pairwise_map, List.pairwise_iff_getElem]
  intro a b ha hb hab
  rw [List.getElem_range, List.getElem_range]
  rw [List.length_range] at hb
  exact h a b hab hb
theorem bnd {L : Loop} (h : WF L) {least : Nat} (hl : 1 ≤ least) {st : Stay} (s : StOk 3 st) : Bnd L least st 340 3 := by
  refine ⟨fun i hlv hne => ?_, fun i hlv => (itS_ok h hl s i hlv).len⟩
  have h1 := nodup_len (stays_nodup hne) (s := allSt 3) fun x hx => by
    unfold stays at hx
    obtain ⟨j, hj, rfl⟩ := List.mem_map.mp hx
    have hj2 := List.mem_range.mp hj
    exact mem_allSt (itS_ok h hl s j fun t ht => hlv t (by omega)) (live_pos hl (hlv j hj2)).2.1
  rw [allSt3] at h1
  unfold stays at h1
  rwa [List.length_map, List.length_range] at h1
end OB

namespace OB
open PySem PySem.Spec PyProof.Rows L2
local macro_rules | `(tactic| walk_at "hp") => `(tactic| first
  | assumption | exact upd_same | (refine look_new ?_ ?_ <;> walk_at "hp") | ((refine' look_mut (v := ?lv) ?lq ?lp ?ld); (case lq => walk_at "hp"); (case lp => walk_at "hp"); (case ld => (intro z; cases z))))
local macro_rules | `(tactic| walk_at "rd") => `(tactic| (first
  | (with_reducible first
  | refine r_seq ?_ | refine r_asg ?_ | refine r_gname ?_ | refine r_ret ?_ | refine r_retN ?_ | refine r_next ?_ | refine r_drop ?_ | refine r_if ?_
  | refine r_c ?_ | refine r_op ?_ | refine r_test ?_ | refine r_tb ?_ | refine r_bl ?_ | refine r_and ?_ | refine r_or ?_ | refine r_not ?_
  | refine r_andV ?_ | refine r_orV ?_ | refine r_notV ?_ | refine r_ifE ?_ | refine r_nil ?_ | refine r_cons ?_ | refine r_tup ?_ | refine r_lst ?_ | refine r_cb ?_ | refine r_call ?_ | refine r_sub ?_
  | refine r_addI ?_ | refine r_I0 ?_ | refine r_eqI ?_ | refine r_neI ?_ | refine r_eqS ?_ | refine r_neS ?_ | refine r_inS ?_ | refine r_inS2 ?_ | refine r_notInS2 ?_ | refine r_isNA ?_ | refine r_m1 ?_ | refine r_isstr ?_ | refine r_lc ?_ | refine r_notNA ?_ | refine r_kt ?_ | refine r_chain ?_ | refine r_gcons ?_ | refine r_gnil ?_ | refine r_fld ?_ | refine r_sfld ?_ | refine r_meth ?_ | refine r_sl ?_ | refine r_part ?_ | refine r_nopart ?_ | refine r_int ?_ | refine r_star ?_ | refine r_delL ?_ | refine r_par ?_ | refine r_parAt ?_ | refine r_par3 ?_ | refine r_parAt3 ?_ | refine r_fldaug ?_ | refine r_brk ?_ | refine r_for ?_ | refine r_ienT ?_ | refine r_make ?_ | refine r_bm ?_ | refine r_bm0 ?_ | refine iteT ?_ | refine iteF ?_)
  | ((with_reducible refine' r_var ?he ?_); (case he => rfl))
  | (with_reducible first | refine r_abs ?_ | refine r_max ?_ | refine r_min ?_)
  | ((with_reducible refine' r_lenSq ?hs ?_); (case hs => first | exact .inl (by assumption) | exact .inr (by assumption) | exact .inl (SqL.of (by walk_at "hp")) | exact .inr (SqT.of (by walk_at "hp"))))
  | ((with_reducible refine' r_mulR ?hc ?_); (case hc => decide))
  | ((with_reducible refine' r_mulL ?hc ?_); (case hc => decide))
  | ((with_reducible refine' r_mod ?hc ?_); (case hc => first | decide | assumption | omega))
  | ((with_reducible refine' r_div ?hc ?_); (case hc => first | decide | assumption | (constructor <;> first | assumption | omega)))
  | ((with_reducible refine' r_pow ?hc ?_); (case hc => first | decide | (refine ⟨by decide, by decide, by omega⟩)))
  | ((with_reducible refine' r_ixL2 ?hs ?he ?_); (case hs => exact SqL.of (by walk_at "hp")); (case he => first | rfl | exact atI0 | exact atI1 | exact atI2 | exact atI3))
  | ((with_reducible refine' r_ixT2 ?hs ?he ?_); (case hs => first | assumption | exact SqT.of (by walk_at "hp")); (case he => first | rfl | exact atI0 | exact atI1 | exact atI2 | exact atI3))
  | ((with_reducible refine' r_setL2 ?hs ?he ?_); (case hs => walk_at "hp"); (case he => rfl))
  | ((with_reducible refine' r_gtup ?hs ?he ?_); (case hs => first | assumption | exact SqT.of (by walk_at "hp")); (case he => rfl))
  | ((with_reducible refine' r_fldAt ?hs ?hc ?hn ?hl ?_); (case hs => walk_at "hp"); (case hc => walk_at "cl"); (case hn => walk_at "cl"); (case hl => rfl))
  | ((with_reducible refine' r_sfldAt ?hs ?hc ?hn ?hl ?_); (case hs => walk_at "hp"); (case hc => walk_at "cl"); (case hn => walk_at "cl"); (case hl => exact Nat.le_of_ble_eq_true rfl))
  | ((with_reducible refine' r_aug ?he ?_); (case he => rfl))
  | ((with_reducible refine' r_starAt ?hs ?_); (case hs => first | exact .inl (by assumption) | exact .inr (by assumption) | exact .inl (SqT.of (by walk_at "hp")) | exact .inr (SqL.of (by walk_at "hp"))))
  | ((with_reducible refine' r_fldaugAt ?hs ?hc ?hn ?hl ?_); (case hs => walk_at "hp"); (case hc => walk_at "cl"); (case hn => walk_at "cl"); (case hl => rfl))
  | ((with_reducible refine' r_methAt ?hs ?hl ?_); (case hs => walk_at "hp"); (case hl => rfl))
  | ((with_reducible refine' r_tyL ?hs ?_); (case hs => first | assumption | exact SqL.of (by walk_at "hp")))
  | ((with_reducible refine' r_ifT ?h ?_); (case h => rfl))
  | ((with_reducible refine' r_ifF ?h ?_); (case h => rfl))
  | ((with_reducible first | refine' r_isiInt ?hd ?_ | refine' r_isiBool ?hd ?_ | refine' r_isiStr ?hd ?_ | refine' r_isiTup ?hd ?_ | refine' r_isiLst ?hd ?_); (case hd => assumption))
  ))

local macro_rules | `(tactic| walk_at "cl") => `(tactic| assumption)
abbrev FeederC (K : PySem.W.Frag) : Addr := He.ga K "Feeder"
def feederFs (lv : V) (kd : Addr) : List (Str × V) := [("loop", lv), ("known", .ref kd)]
def nkFeed (st : Stay) (c : Nat) : NKey := .tup [nkStay st, .text (mkS [c])]
theorem nkFeed_inj {a b : Stay} {c d : Nat} (h : nkFeed a c = nkFeed b d) : a = b ∧ c = d := by
  unfold nkFeed at h
  injection h with h
  injection h with h1 h
  injection h with h2 _
  injection h2 with h2
  have h3 := mkS_inj h2
  injection h3 with h3
  exact ⟨nkStay_inj h1, h3⟩
def fedSt (st : Stay) (c : Nat) : Stay := ⟨st.mark, st.held ++ [c], false⟩
def FeedV (K : PySem.W.Frag) (H : Hp) (v : V) (L : Loop) (st : Stay) (c : Nat) : Prop := (v = .non ∧ Endl L 3 (fedSt st c)) ∨ ∃ t o n st' sv', v = .ref t ∧ SqT K H t [.str (mkS o), .int (n : Nat), sv'] ∧ IsStay K H sv' st' ∧ Runs L 3 (fedSt st c) o n st'
theorem FeedV.chg {K : PySem.W.Frag} {ps : List Addr} {H H' : Hp} {v : V} {L : Loop} {st : Stay} {c : Nat} (h : FeedV K H v L st c) (g : Chg ps H H') : FeedV K H' v L st c := by
  rcases h with h | ⟨t, o, n, st', sv', e, h1, h2, h3⟩
  · exact .inl h
  · exact .inr ⟨t, o, n, st', sv', e, g.sqt h1, h2.chg g, h3⟩
structure FeederAt (P : Program) (w : World) (K : PySem.W.Frag) (H : Hp) (f kd : Addr) (lv : V) (L : Loop) (kb : Nat) : Prop where
  obj : ∃ dx, H f = some (.ins (FeederC K) dx (feederFs lv kd))
  dp : Dp K H lv (loopD L)
  kn : ∃ kvs, ND P w H kd kvs ∧ kvs.length ≤ kb ∧ ∀ st c v, ndAt kvs (nkFeed st c) = some v → FeedV K H v L st c
theorem FeederAt.chg {P : Program} {w : World} {K : PySem.W.Frag} {ps : List Addr} {H H' : Hp} {f kd : Addr} {lv : V} {L : Loop} {kb : Nat} (h : FeederAt P w K H f kd lv L kb) (g : Chg ps H H') (h1 : f ∉ ps) (h2 : kd ∉ ps) : FeederAt P w K H' f kd lv L kb :=
  let ⟨dx, e⟩ := h.obj
  let ⟨kvs, a, b, c⟩ := h.kn
  ⟨⟨dx, g.atN e h1⟩, dp_chg g (tup_loop L) h.dp, ⟨kvs, a.chg g h2, b, fun st i v q => (c st i v q).chg g⟩⟩
theorem FeederAt.more {P : Program} {w : World} {K : PySem.W.Frag} {H : Hp} {f kd : Addr} {lv : V} {L : Loop} {kb kb' : Nat} (h : FeederAt P w K H f kd lv L kb) (hk : kb ≤ kb') : FeederAt P w K H f kd lv L kb' :=
  let ⟨kvs, a, b, c⟩ := h.kn
  ⟨h.obj, h.dp, ⟨kvs, a, Nat.le_trans b hk, c⟩⟩
/-- one more item -/
def FedR (L : Loop) (st : Stay) (c : Nat) (o : List Nat) (n : Nat) (st' : Stay) : Prop := (st.brk = true ∧ o = [c] ∧ n = 0 ∧ st' = st) ∨ (st.brk = false ∧ Runs L 3 (fedSt st c) o n st')
def spJoined (K : PySem.W.Frag) : Sp := fun vs H Q _ => ∃ pl xs qs, vs = [.ref pl] ∧ H pl = some (.lst xs) ∧ All2 (IsPair K H) xs qs ∧ qs.length ≤ 1000000 ∧ (flat qs).length ≤ 16000000 ∧ ∀ H', Same H H' → Q (.str (mkS (flat qs))) H'
def spFeederI (P : Program) (w : World) (K : PySem.W.Frag) : Sp := fun vs H Q _ => ∃ self dx lv L, vs = [.ref self, lv] ∧ H self = some (.ins (FeederC K) dx []) ∧ Dp K H lv (loopD L) ∧
  ∀ H' kd, Chg [self] H H' → H kd = none → FeederAt P w K H' self kd lv L 0 → Q .non H'
def spFeed (P : Program) (w : World) (K : PySem.W.Frag) : Sp := fun vs H Q _ => ∃ f sv kd lv L st, ∃ c kb : Nat, vs = [.ref f, sv, .str (mkS [c])] ∧ FeederAt P w K H f kd lv L kb ∧ kb ≤ 1000000 ∧ WF L ∧ IsStay K H sv st ∧ StOk 2 st ∧ c ∈ lts ∧
  (st.brk = false → Endl L 3 (fedSt st c) → ∀ H', Chg [kd] H H' → FeederAt P w K H' f kd lv L (kb + 1) → Q .non H') ∧
  (∀ H' t o n st' sv', FedR L st c o n st' → Chg [kd] H H' → FeederAt P w K H' f kd lv L (kb + 1) → SqT K H' t [.str (mkS o), .int (n : Nat), sv'] → IsStay K H' sv' st' → Q (.ref t) H')
section
variable {P : Program} {w : World} {K : PySem.W.Frag} {mg : Str → Option Value} {base : Heap}
theorem ok_joined_parts (T : Txt w K mg) : Prom P w K mg base CX0 1 (a_joined_parts K) p_joined_parts [] (spJoined K) := by
  obtain ⟨fd, F⟩ := T.d_joined_parts
  have sc := sc_joined_parts
  refine prom0 F sc (bn_joined_parts F) (fun vs H Q E h => ?_) (fun cdv A outer s H vs Q E hr h => ?_)
  · obtain ⟨pl, xs, qs, rfl, _⟩ := h
    rfl
  · obtain ⟨pl, xs, qs, rfl, hpl, hq, hl, hf, k⟩ := h
    refine ⟨_, (pss_one (ps_ret (eJoin (K := K) pe_str (pe_lc (own := [("pair", 1)]) rfl sc.nd (piA (K := K) (pv 0)) (blkOk_by (N := n_joined_parts) (sc := defScope s_joined_parts) (by decide +kernel)) (fun _ _ _ _ _ => (pg_name (i := 1) sc.nd rfl (by first | exact Or.inl rfl | exact Or.inr rfl))) (fun _ _ _ _ _ => pts_nil) (fun _ _ _ _ _ => (pe_ix (iIx (P := P) (w := w) (K := K) hr.units) (pv 1) pe_int (fun _ _ => rfl))))))), ?_⟩
    obtain ⟨rs, e1, e2, e3⟩ := hq.zip
    have hrs : rs.length = qs.length := by rw [e2, List.length_map]
    repeat walk_at "rd"
    refine r_iany_l ?_
    repeat walk_at "rd"
    refine ⟨pl, rfl, ⟨_, SqL.of hpl⟩, ?_⟩
    rw [e1] at hpl
    refine lc_pL (v := (·.1)) (σ' := fun r => [some (.ref pl), some r.1]) (keep := fun _ => true) (f := fun r : V × (List Nat × Nat) => .str (mkS r.2.1)) (SqL.of hpl) (by omega) (fun r _ => fun _ _ _ q => by exact q) (fun r _ => rfl) (fun r _ => evst_yes) (fun r hr _ => ?_) (fun D H1 hD s1 hD1 => ?_)
    · intro H1 g1 Q1 q1
      obtain ⟨a, ea, h1⟩ := (e3 r hr).chg (Chg.of_same (ps := []) g1)
      obtain ⟨rv, rp⟩ := r
      subst ea
      repeat walk_at "rd"
      exact q1 _ (Same.refl _)
    · rw [List.filter_eq_self.mpr (fun _ _ => rfl)] at hD1
      refine r_joinM (ls := qs.map fun q : List Nat × Nat => q.1) (SqL.of (by rw [hD1, e2, List.map_map, List.map_map]; rfl)) hf ?_
      exact k _ s1
theorem ok_Feeder (T : Txt w K mg) : Prom P w K mg base CX0 1 (a_Feeder_init K) p_Feeder_init [] (spFeederI P w K) := by
  obtain ⟨fd, F⟩ := T.d_Feeder_init
  have sc := sc_Feeder_init
  have c1 := T.cl_Feeder
  have c2 := T.na_Feeder_loop
  have c3 := T.na_Feeder_known
  refine prom0 F sc (bn_Feeder_init F) (fun vs H Q E h => ?_) (fun cdv A outer s H vs Q E hr h => ?_)
  · obtain ⟨self, dx, lv, L, rfl, _⟩ := h
    rfl
  · obtain ⟨self, dx, lv, L, rfl, hself, hd, k⟩ := h
    refine ⟨_, (pss_cons (sFldA (K := K) (pv 0) (pv 1))
      (pss_one (sFldA (K := K) (pv 0) (eNewN (P := P) (w := w))))), ?_⟩
    repeat walk_at "rd"
    intro kd H1 hkd s1 nd1 hb1
    have hs0 : (upd H self (.ins (FeederC K) dx (putF "loop" lv []))) self = some (.ins (FeederC K) dx (putF "loop" lv [])) := upd_same
    have g0 : Chg [self] H (upd H self (.ins (FeederC K) dx (putF "loop" lv []))) := Chg.upd hself (by simp)
    have hkd0 : H kd = none ∧ self ≠ kd := none_of_upd hkd
    have hs1 := s1 _ _ hs0
    have g1 := g0.trans (Chg.of_same s1)
    repeat walk_at "rd"
    have g2 : Chg [self] H1 (upd H1 self (.ins (FeederC K) dx (putF "known" (.ref kd) (putF "loop" lv [])))) := Chg.upd hs1 (by simp)
    refine k _ kd (g1.trans g2) hkd0.1 ⟨⟨dx, upd_same⟩, dp_chg (g1.trans g2) (tup_loop L) hd, ⟨[], nd1.chg g2 (fun z => hkd0.2 (List.mem_singleton.mp z).symm), Nat.le_refl _, fun st c v h => by cases h⟩⟩
end
end OB

namespace OB
open PySem PySem.Spec PyProof.Rows L2
local macro_rules | `(tactic| walk_at "hp") => `(tactic| first
  | assumption | exact upd_same | (refine look_new ?_ ?_ <;> walk_at "hp") | ((refine' look_mut (v := ?lv) ?lq ?lp ?ld); (case lq => walk_at "hp"); (case lp => walk_at "hp"); (case ld => (intro z; cases z))))
local macro_rules | `(tactic| walk_at "rd") => `(tactic| (first
  | (with_reducible first
  | refine r_seq ?_ | refine r_asg ?_ | refine r_gname ?_ | refine r_ret ?_ | refine r_retN ?_ | refine r_next ?_ | refine r_drop ?_ | refine r_if ?_
  | refine r_c ?_ | refine r_op ?_ | refine r_test ?_ | refine r_tb ?_ | refine r_bl ?_ | refine r_and ?_ | refine r_or ?_ | refine r_not ?_
  | refine r_andV ?_ | refine r_orV ?_ | refine r_notV ?_ | refine r_ifE ?_ | refine r_nil ?_ | refine r_cons ?_ | refine r_tup ?_ | refine r_lst ?_ | refine r_cb ?_ | refine r_call ?_ | refine r_sub ?_
  | refine r_addI ?_ | refine r_I0 ?_ | refine r_eqI ?_ | refine r_neI ?_ | refine r_eqS ?_ | refine r_neS ?_ | refine r_inS ?_ | refine r_inS2 ?_ | refine r_notInS2 ?_ | refine r_isNA ?_ | refine r_m1 ?_ | refine r_isstr ?_ | refine r_lc ?_ | refine r_notNA ?_ | refine r_kt ?_ | refine r_chain ?_ | refine r_gcons ?_ | refine r_gnil ?_ | refine r_fld ?_ | refine r_sfld ?_ | refine r_meth ?_ | refine r_sl ?_ | refine r_part ?_ | refine r_nopart ?_ | refine r_int ?_ | refine r_star ?_ | refine r_delL ?_ | refine r_par ?_ | refine r_parAt ?_ | refine r_par3 ?_ | refine r_parAt3 ?_ | refine r_fldaug ?_ | refine r_brk ?_ | refine r_for ?_ | refine r_ienT ?_ | refine r_make ?_ | refine r_bm ?_ | refine r_bm0 ?_ | refine iteT ?_ | refine iteF ?_)
  | ((with_reducible refine' r_var ?he ?_); (case he => rfl))
  | (with_reducible first | refine r_abs ?_ | refine r_max ?_ | refine r_min ?_)
  | ((with_reducible refine' r_lenSq ?hs ?_); (case hs => first | exact .inl (by assumption) | exact .inr (by assumption) | exact .inl (SqL.of (by walk_at "hp")) | exact .inr (SqT.of (by walk_at "hp"))))
  | ((with_reducible refine' r_mulR ?hc ?_); (case hc => decide))
  | ((with_reducible refine' r_mulL ?hc ?_); (case hc => decide))
  | ((with_reducible refine' r_mod ?hc ?_); (case hc => first | decide | assumption | omega))
  | ((with_reducible refine' r_div ?hc ?_); (case hc => first | decide | assumption | (constructor <;> first | assumption | omega)))
  | ((with_reducible refine' r_pow ?hc ?_); (case hc => first | decide | (refine ⟨by decide, by decide, by omega⟩)))
  | ((with_reducible refine' r_ixL2 ?hs ?he ?_); (case hs => exact SqL.of (by walk_at "hp")); (case he => first | rfl | exact atI0 | exact atI1 | exact atI2 | exact atI3))
  | ((with_reducible refine' r_ixT2 ?hs ?he ?_); (case hs => first | assumption | exact SqT.of (by walk_at "hp")); (case he => first | rfl | exact atI0 | exact atI1 | exact atI2 | exact atI3))
  | ((with_reducible refine' r_setL2 ?hs ?he ?_); (case hs => walk_at "hp"); (case he => rfl))
  | ((with_reducible refine' r_gtup ?hs ?he ?_); (case hs => first | assumption | exact SqT.of (by walk_at "hp")); (case he => rfl))
  | ((with_reducible refine' r_fldAt ?hs ?hc ?hn ?hl ?_); (case hs => walk_at "hp"); (case hc => walk_at "cl"); (case hn => walk_at "cl"); (case hl => rfl))
  | ((with_reducible refine' r_sfldAt ?hs ?hc ?hn ?hl ?_); (case hs => walk_at "hp"); (case hc => walk_at "cl"); (case hn => walk_at "cl"); (case hl => exact Nat.le_of_ble_eq_true rfl))
  | ((with_reducible refine' r_aug ?he ?_); (case he => rfl))
  | ((with_reducible refine' r_starAt ?hs ?_); (case hs => first | exact .inl (by assumption) | exact .inr (by assumption) | exact .inl (SqT.of (by walk_at "hp")) | exact .inr (SqL.of (by walk_at "hp"))))
  | ((with_reducible refine' r_fldaugAt ?hs ?hc ?hn ?hl ?_); (case hs => walk_at "hp"); (case hc => walk_at "cl"); (case hn => walk_at "cl"); (case hl => rfl))
  | ((with_reducible refine' r_methAt ?hs ?hl ?_); (case hs => walk_at "hp"); (case hl => rfl))
  | ((with_reducible refine' r_tyL ?hs ?_); (case hs => first | assumption | exact SqL.of (by walk_at "hp")))
  | ((with_reducible refine' r_ifT ?h ?_); (case h => rfl))
  | ((with_reducible refine' r_ifF ?h ?_); (case h => rfl))
  | ((with_reducible first | refine' r_isiInt ?hd ?_ | refine' r_isiBool ?hd ?_ | refine' r_isiStr ?hd ?_ | refine' r_isiTup ?hd ?_ | refine' r_isiLst ?hd ?_); (case hd => assumption))
  ))

local macro_rules | `(tactic| walk_at "cl") => `(tactic| assumption)
section
variable {P : Program} {w : World} {K : PySem.W.Frag} {mg : Str → Option Value} {base : Heap}
theorem ok_feed (T : Txt w K mg) : Prom P w K mg base CX0 7 (a_Feeder_feed K) p_Feeder_feed [] (spFeed P w K) := by
  obtain ⟨fd, F⟩ := T.d_Feeder_feed
  have sc := sc_Feeder_feed
  have c1 := T.cl_Feeder
  have c2 := T.na_Feeder_loop
  have c3 := T.na_Feeder_known
  have c4 := T.cl_Stay
  have c5 := T.na_Stay_is_broken
  have c6 := T.na_Stay_held
  have c7 := T.na_Stay_mark
  have c8 := T.cl_Track
  have c9 := T.na_Track_pairs
  have c10 := T.na_Track_made
  have G_Stay_key := ok_key (P := P) (base := base) T
  have G_Track_init := ok_Track (P := P) (base := base) T
  have G_make_passes := ok_make_passes (P := P) (base := base) T
  have G_Stay_init_d1 := ok_Stay2 (P := P) (base := base) T
  have G_joined_parts := ok_joined_parts (P := P) (base := base) T
  refine prom0 F sc (bn_Feeder_feed F) (fun vs H Q E h => ?_) (fun cdv A outer s H vs Q E hr h => ?_)
  · obtain ⟨f, sv, kd, lv, L, st, c, kb, rfl, _⟩ := h
    rfl
  · obtain ⟨f, sv, kd, lv, L, st, c, kb, rfl, hF, hkb, wf, hst, hok, hc, kN, kS⟩ := h
    refine ⟨_, (pss_cons (ps_if (pt_val (eFld (K := K) (pv 1))) (pss_one (ps_ret (pe_tup (pa_cons (pv 2) (pa_cons pe_int (pa_cons (pv 1) pa_nil)))))) pss_nil)
      (pss_cons (ps_set (i := 3) sc.nd rfl (by first | exact Or.inl rfl | exact Or.inr rfl) (pe_tup (pa_cons (pe_methP0 (pv 1) T.cl_Stay T.mt_Stay_key G_Stay_key (hr.mono (by decide)) pass0) (pa_cons (pv 2) pa_nil))))
      (pss_cons (ps_if (pt_cmpR (oNotIn (P := P) (w := w) (K := K) hr.units) (pv 3) (eFld (K := K) (pv 0)) rfl) (pss_cons (ps_set (i := 4) sc.nd rfl (by first | exact Or.inl rfl | exact Or.inr rfl) (pe_makeP0 T.mk_Track G_Track_init (hr.mono (by decide)) T.g_Track pass0))
      (pss_cons (ps_set (i := 5) sc.nd rfl (by first | exact Or.inl rfl | exact Or.inr rfl) (pe_callP G_make_passes (hr.mono (by decide)) T.g_make_passes pass0 (pa_cons (eFld (K := K) (pv 0)) (pa_cons (pe_makeP T.mk_Stay G_Stay_init_d1 (hr.mono (by decide)) T.g_Stay pass0 (pa_cons (eFld (K := K) (pv 1)) (pa_cons (pe_op (oAdd (K := K)) (eFld (K := K) (pv 1)) (pv 2)) pa_nil))) (pa_cons (pe_ki rfl T.c_REACH) (pa_cons pe_non (pa_cons (pv 4) pa_nil)))))))
      (pss_one (ps_asg (pe_ifExp (pt_cmpR op_isNA (pv 5) pe_non (nomark _)) pe_non (pe_tup (pa_cons (pe_callP G_joined_parts (hr.mono (by decide)) T.g_joined_parts pass0 (pa_cons (eFld (K := K) (pv 4)) pa_nil)) (pa_cons (eFld (K := K) (pv 4)) (pa_cons (pv 5) pa_nil))))) (pg_sub (eFld (K := K) (pv 0)) (pv 3) (iSet (P := P) (w := w) hr.units)))))) pss_nil)
      (pss_one (ps_ret (pe_ix (iIx (P := P) (w := w) (K := K) hr.units) (eFld (K := K) (pv 0)) (pv 3) (fun _ _ => rfl))))))), ?_⟩
    obtain ⟨a, dxs, rfl, hst0⟩ := hst
    repeat walk_at "rd"
    refine r_iteb (fun hb => ?_) (fun hb => ?_)
    · repeat walk_at "rd"
      refine ⟨Nat.le_of_ble_eq_true rfl, fun t ht => ?_⟩
      exact kS _ t [c] 0 st _ (.inl ⟨hb, rfl, rfl, rfl⟩) (Chg.new ht) ((hF.chg (Chg.new (ps := []) ht) (by simp) (by simp)).more (by omega)) (SqT.of upd_same) ⟨a, dxs, rfl, look_new ht hst0⟩
    · repeat walk_at "rd"
      refine ⟨_, st, rfl, ⟨a, dxs, rfl, hst0⟩, fun ka H2 s2 nk2 => ?_⟩
      repeat walk_at "rd"
      refine ⟨Nat.le_of_ble_eq_true rfl, fun kt hkt => ?_⟩
      have s3 : Same H (upd H2 kt (.tup [.ref ka, .str (mkS [c])])) := s2.trans (Same.new hkt)
      have nk3 : NK (upd H2 kt (.tup [.ref ka, .str (mkS [c])])) (.ref kt) (nkFeed st c) := .tup upd_same (.cons (nk2.same (Same.new hkt)) (.cons (.str _) .nil))
      generalize upd H2 kt (.tup [.ref ka, .str (mkS [c])]) = H3 at *
      have hF3 := hF.chg (Chg.of_same (ps := []) s3) (by simp) (by simp)
      have hst3 := s3 _ _ hst0
      obtain ⟨⟨dxf, hf3⟩, hdp3, kvs, nd3, kl3, kv3⟩ := hF3
      repeat walk_at "rd"
      refine r_notInD nd3 nk3 (Nat.le_of_ble_eq_true rfl) ?_
      repeat walk_at "rd"
      cases hin : (ndAt kvs (nkFeed st c)).isSome with
      | true =>
        repeat walk_at "rd"
        obtain ⟨v, hv⟩ := Option.isSome_iff_exists.mp hin
        refine r_ixD2 nd3 nk3 (Nat.le_of_ble_eq_true rfl) hv ?_
        have hF3 : FeederAt P w K H3 f kd lv L (kb + 1) := ⟨⟨dxf, hf3⟩, hdp3, kvs, nd3, by omega, kv3⟩
        rcases kv3 st c v hv with ⟨rfl, he⟩ | ⟨t, o, n, st', sv', rfl, h1, h2, h3⟩
        · exact kN hb he H3 (Chg.of_same s3) hF3
        · exact kS H3 t o n st' sv' (.inr ⟨hb, h3⟩) (Chg.of_same s3) hF3 h1 h2
      | false =>
        repeat walk_at "rd"
        intro tr dxt htr hdxt hne
        obtain ⟨s4, htr4⟩ := mk_new (C := He.ga K "Track") htr hdxt hne
        generalize upd (upd H3 dxt (.own tr)) tr (.ins (He.ga K "Track") dxt []) = H4 at *
        refine ⟨tr, dxt, rfl, htr4, fun H5 pl hpl g5 trk5 => ⟨rfl, ?_⟩⟩
        have s5 : Same H3 H5 := (Chg.less (ps := []) (Chg.of_same s4) g5 htr).same
        have hf5 := s5 _ _ hf3
        have hst5 := s5 _ _ hst3
        repeat walk_at "rd"
        refine r_addS (by rw [mkS_len, mkS_len]; have := hok.len; exact sz1 (by simp; omega)) ?_
        repeat walk_at "rd"
        intro x6 dx6 hx6 hdx6 hne6
        obtain ⟨s6, hx6b⟩ := mk_new (C := He.ga K "Stay") hx6 hdx6 hne6
        generalize upd (upd H5 dx6 (.own x6)) x6 (.ins (He.ga K "Stay") dx6 []) = H6 at *
        refine ⟨x6, dx6, st.mark, mkS st.held ++ mkS [c], false, rfl, hx6b, rfl, ?_⟩
        have etl : tl (mkS st.held ++ mkS [c]) = st.held ++ [c] := by
          show (mkS st.held ++ mkS [c]).cps.toList = _
          show ((mkS st.held).cps ++ (mkS [c]).cps).toList = _
          rw [Array.toList_append]
          rfl
        rw [etl]
        have s7 : Same H5 (upd H6 x6 (.ins (StayC K) dx6 (stayFs ⟨st.mark, st.held ++ [c], false⟩))) := Same.mut s6 hx6
        have hx7 : IsStay K (upd H6 x6 (.ins (StayC K) dx6 (stayFs ⟨st.mark, st.held ++ [c], false⟩))) (.ref x6) (fedSt st c) := ⟨x6, dx6, rfl, upd_same⟩
        generalize upd H6 x6 (.ins (StayC K) dx6 (stayFs ⟨st.mark, st.held ++ [c], false⟩)) = H7 at *
        have s37 := s5.trans s7
        have s07 := s3.trans s37
        have htr0 := none_of_same s3 htr
        have hpl0 := none_of_same (s3.trans s4) hpl
        have trk7 := trk5.chg (Chg.of_same (ps := []) s7) (by simp) (by simp)
        have hfn : f ∉ [tr, pl] := fun z => by
          rcases List.mem_cons.mp z with z | z
          · exact ne_of_none hf3 htr z
          · rw [List.mem_singleton] at z
            exact ne_of_none (s4 _ _ hf3) hpl z
        obtain ⟨fx, hfx⟩ := nd3.ext
        have hkn : kd ∉ [tr, pl] := fun z => by
          rcases List.mem_cons.mp z with z | z
          · exact ne_of_none hfx htr z
          · rw [List.mem_singleton] at z
            exact ne_of_none (s4 _ _ hfx) hpl z
        have hok3 : StOk 3 (fedSt st c) := ⟨hok.mark, fun d hd => by
          rcases List.mem_append.mp hd with z | z
          · exact hok.ltr d z
          · rw [List.mem_singleton] at z; rw [z]; exact hc, by show (st.held ++ [c]).length ≤ 3; have := hok.len; simp; omega⟩
        have cc : ∀ {H8 : Hp}, Chg [tr, pl] H7 H8 → Chg [kd] H H8 := fun g8 =>
          (Chg.less (ps := pl :: [kd]) (Chg.of_same s07) (g8.mono (by simp)) htr0).drop hpl0
        repeat walk_at "rd"
        refine ⟨lv, .ref x6, tr, pl, L, fedSt st c, 3, none, [], 0, 340, 3, rfl, dp_same s37 hdp3, wf.okL, hx7, trk7, by decide, bnd wf (by decide) hok3, by decide, by decide, by decide, fun _ he H8 g8 => ?_, fun H8 v n' qs g8 hv8 trk8 hlv hnone _ hden hql => ?_⟩
        · have g38 : Chg [tr, pl] H3 H8 := (Chg.of_same s37).trans g8
          have hf8 := g38.atN hf3 hfn
          have nd8 := nd3.chg g38 hkn
          have nk8 := nk3.keep fun a ys q => g38.prot a _ rfl q
          repeat walk_at "rd"
          refine r_setD2 nd8 nk8 (Nat.le_of_ble_eq_true rfl) (Nat.lt_of_le_of_lt (by omega : kvs.length ≤ 1000000) (by decide)) fun H9 b9 _ nd9 => ?_
          obtain ⟨ef, hef⟩ := nd8.ext
          have g9 : Chg [kd] H8 H9 := Chg.but b9 hef (by simp)
          have hf9 : H9 f = some (.ins (FeederC K) dxf (feederFs lv kd)) := g9.at1 hf8 hef (fun z => by cases z)
          have nk9 := nk8.keep fun a ys q => g9.prot a _ rfl q
          repeat walk_at "rd"
          refine r_ixD2 nd9 nk9 (Nat.le_of_ble_eq_true rfl) (ndAt_put_same ..) ?_
          refine kN hb he H9 ((cc g8).trans g9) ⟨⟨dxf, hf9⟩, dp_chg ((Chg.of_same (ps := [tr, pl, kd]) s37).trans ((g8.mono (by simp)).trans (g9.mono (by simp)))) (tup_loop L) hdp3, _, nd9, Nat.le_trans (ndPut_len ..) (by omega), fun st2 c2 v2 hv2 => ?_⟩
          by_cases e : nkFeed st2 c2 = nkFeed st c
          · obtain ⟨rfl, rfl⟩ := nkFeed_inj e
            rw [ndAt_put_same] at hv2
            injection hv2 with hv2
            exact .inl ⟨hv2.symm, he⟩
          · rw [ndAt_put_other _ _ _ _ e] at hv2
            exact ((kv3 st2 c2 v2 hv2).chg g38).chg g9
        · obtain ⟨hend, rfl⟩ := hnone rfl
          have hruns : Runs L 3 (fedSt st c) (outs L (fedSt st c) n') n' (itS L (fedSt st c) n') := ⟨hlv, hend, rfl, rfl⟩
          have g38 : Chg [tr, pl] H3 H8 := (Chg.of_same s37).trans g8
          have hf8 := g38.atN hf3 hfn
          have nd8 := nd3.chg g38 hkn
          have nk8 := nk3.keep fun a ys q => g38.prot a _ rfl q
          obtain ⟨a8, dx8, rfl, hst8⟩ := hv8
          obtain ⟨dxt8, xt8, z1, z2, z3⟩ := trk8
          repeat walk_at "rd"
          rw [prefQ_len] at hql
          rw [List.nil_append] at z3
          have hfl : (flat (prefQ L (fedSt st c) n')).length ≤ 16000000 := by
            rw [flat_prefQ]
            have h1 := outs_len wf.okL (st := fedSt st c) (i := n') (M := 3) fun j hj => (itS_ok wf (by decide) hok3 j fun t ht => hlv t (by omega)).len
            omega
          refine ⟨pl, xt8, prefQ L (fedSt st c) n', rfl, z2, z3, by rw [prefQ_len]; omega, hfl, fun H9 s9 => ?_⟩
          rw [flat_prefQ]
          have z1' := s9 _ _ z1
          have hst9 := s9 _ _ hst8
          have hf9 := s9 _ _ hf8
          repeat walk_at "rd"
          refine ⟨Nat.le_of_ble_eq_true rfl, fun t ht => ?_⟩
          rw [Nat.zero_add]
          have s10 : Same H8 (upd H9 t (.tup [.str (mkS (outs L (fedSt st c) n')), .int (n' : Int), .ref a8])) := s9.trans (Same.new ht)
          have ht10 : (upd H9 t (.tup [.str (mkS (outs L (fedSt st c) n')), .int (n' : Int), .ref a8])) t = some (.tup [.str (mkS (outs L (fedSt st c) n')), .int (n' : Int), .ref a8]) := upd_same
          generalize upd H9 t (.tup [.str (mkS (outs L (fedSt st c) n')), .int (n' : Int), .ref a8]) = H10 at *
          have nd10 := nd8.same s10
          have nk10 := nk8.same s10
          have hf10 := s10 _ _ hf8
          repeat walk_at "rd"
          refine r_setD2 nd10 nk10 (Nat.le_of_ble_eq_true rfl) (Nat.lt_of_le_of_lt (by omega : kvs.length ≤ 1000000) (by decide)) fun H11 b11 _ nd11 => ?_
          obtain ⟨ef, hef⟩ := nd10.ext
          have g11 : Chg [kd] H10 H11 := Chg.but b11 hef (by simp)
          have hf11 : H11 f = some (.ins (FeederC K) dxf (feederFs lv kd)) := g11.at1 hf10 hef (fun z => by cases z)
          have nk11 := nk10.keep fun a ys q => g11.prot a _ rfl q
          have hv11 : FeedV K H11 (.ref t) L st c := .inr ⟨t, _, n', _, .ref a8, rfl, SqT.of (g11.prot _ _ rfl ht10), ⟨a8, dx8, rfl, g11.prot _ _ rfl (s10 _ _ hst8)⟩, hruns⟩
          repeat walk_at "rd"
          refine r_ixD2 nd11 nk11 (Nat.le_of_ble_eq_true rfl) (ndAt_put_same ..) ?_
          refine kS H11 t _ n' _ (.ref a8) (.inr ⟨hb, hruns⟩) (((cc g8).trans (Chg.of_same s10)).trans g11) ⟨⟨dxf, hf11⟩, dp_chg ((Chg.of_same (ps := [tr, pl, kd]) s37).trans ((g8.mono (by simp)).trans ((Chg.of_same s10).trans (g11.mono (by simp))))) (tup_loop L) hdp3, _, nd11, Nat.le_trans (ndPut_len ..) (by omega), fun st2 c2 v2 hv2 => ?_⟩ (SqT.of (g11.prot _ _ rfl ht10)) ⟨a8, dx8, rfl, g11.prot _ _ rfl (s10 _ _ hst8)⟩
          by_cases e : nkFeed st2 c2 = nkFeed st c
          · obtain ⟨rfl, rfl⟩ := nkFeed_inj e
            rw [ndAt_put_same] at hv2
            injection hv2 with hv2
            rw [← hv2]
            exact hv11
          · rw [ndAt_put_other _ _ _ _ e] at hv2
            exact (((kv3 st2 c2 v2 hv2).chg g38).chg (Chg.of_same (ps := []) s10)).chg g11
end
end OB

namespace OB
open PySem PySem.Spec PyProof.Rows L2
/-! ### feeding, plain -/
theorem runs_le {L : Loop} (h : WF L) {least : Nat} (hl : 1 ≤ least) {st st' : Stay} {o : List Nat} {n : Nat} (s : StOk 3 st) (r : Runs L least st o n st') : n ≤ 340 := by
  refine (bnd h hl s).1 n r.lv fun j k hjk hk e => ?_
  have h1 := endl_cycle hjk e.symm (least := least) (fun t ht => r.lv t (by omega)) n
  rw [← r.at_, r.en] at h1
  cases h1
theorem onePass_brk {L : Loop} {st : Stay} (h : (onePass L st).2.brk = true) : (onePass L st).2.held = [] := by
  unfold onePass stayOf at *
  split
  · rfl
  · rename_i h2
    simp only [h2] at h
    cases h
theorem part_len {L : Loop} (h : WF L) {k : Nat} {st : Stay} (s : StOk k st) : (onePass L st).1.length ≤ if (onePass L st).2.brk = true then k + 1 else 1 := by
  have h1 := (pass_ok h 0 s.ltr s.mark).2.2
  have h2 := s.len
  unfold onePass partOf stayOf
  cases hb : (passAt L st.held 0 st.mark).2.2 with
  | true =>
    simp only [if_true]
    omega
  | false =>
    simp only [Bool.false_eq_true, if_false, List.length_take]
    omega
theorem outs_len1 {L : Loop} (h : WF L) {k least : Nat} (hl : 1 ≤ least) {st : Stay} (s : StOk k st) : ∀ n, (∀ j, j < n → live least (itS L st j) = true) → (outs L st n).length ≤ n + k
  | 0, _ => by simp [outs]
  | n + 1, hlv => by
    have h1 : (outs L st n).length ≤ n := by
      have key : ∀ m, m ≤ n → (outs L st m).length ≤ m := by
        intro m
        induction m with
        | zero => intro _; simp [outs]
        | succ m ih =>
          intro hm
          rw [outs_succ, List.length_append]
          have h2 := ih (by omega)
          have s2 := itS_ok h hl s m fun t ht => hlv t (by omega)
          have h3 := part_len h s2
          have h4 : (onePass L (itS L st m)).2.brk = false := by
            have := hlv (m + 1) (by omega)
            unfold live at this
            rw [Bool.and_eq_true, Bool.not_eq_true'] at this
            exact this.2
          rw [h4] at h3
          simp only [Bool.false_eq_true, if_false] at h3
          have : (outAt L st m).length ≤ 1 := h3
          omega
      exact key n (Nat.le_refl _)
    rw [outs_succ, List.length_append]
    have s2 := itS_ok h hl s n fun t ht => hlv t (by omega)
    have h3 := part_len h s2
    have h4 : (outAt L st n).length ≤ k + 1 := by
      refine Nat.le_trans h3 ?_
      split <;> omega
    omega
theorem fedSt_ok {st : Stay} {c : Nat} (s : StOk 2 st) (hc : c ∈ lts) : StOk 3 (fedSt st c) := ⟨s.mark, fun d hd => by
  rcases List.mem_append.mp hd with z | z
  · exact s.ltr d z
  · rw [List.mem_singleton] at z; rw [z]; exact hc, by show (st.held ++ [c]).length ≤ 3; have := s.len; simp; omega⟩
theorem runs_ok {L : Loop} (h : WF L) {least : Nat} (hl : 1 ≤ least) (hl3 : least ≤ 3) {st st' : Stay} {o : List Nat} {n : Nat} (s : StOk 3 st) (hb : st.brk = false) (r : Runs L least st o n st') : StOk 2 st' ∧ (st'.brk = true → st'.held = []) := by
  have s1 := itS_ok h hl s n r.lv
  have hbh : st'.brk = true → st'.held = [] := by
    rw [r.at_]
    cases n with
    | zero => intro z; rw [show itS L st 0 = st from rfl, hb] at z; cases z
    | succ n => exact onePass_brk
  refine ⟨?_, hbh⟩
  rw [← r.at_] at s1
  refine ⟨s1.mark, s1.ltr, ?_⟩
  have h2 := r.en
  unfold live at h2
  cases hq : st'.brk with
  | true => rw [hbh hq]; exact Nat.zero_le _
  | false =>
    rw [hq] at h2
    simp only [Bool.not_false, Bool.and_true, decide_eq_false_iff_not] at h2
    omega
theorem fedR_ok {L : Loop} (h : WF L) {st st' : Stay} {c n : Nat} {o : List Nat} (s : StOk 2 st) (hc : c ∈ lts) (r : FedR L st c o n st') : StOk 2 st' ∧ n ≤ 340 ∧ o.length ≤ 343 := by
  rcases r with ⟨h1, rfl, rfl, rfl⟩ | ⟨h1, r⟩
  · exact ⟨s, by decide, by simp⟩
  · have s3 := fedSt_ok s hc
    have h2 := runs_le h (by decide) s3 r
    refine ⟨(runs_ok h (by decide) (by decide) s3 rfl r).1, h2, ?_⟩
    have h3 := outs_len1 h (least := 3) (by decide) s3 n r.lv
    rw [r.out]
    omega
inductive FedL (L : Loop) : Stay → List Nat → List Nat → Nat → Stay → Prop
  | nil (st : Stay) : FedL L st [] [] 0 st
  | snoc {st st1 st2 : Stay} {cs : List Nat} {c : Nat} {o o2 : List Nat} {n n2 : Nat} : FedL L st cs o n st1 → FedR L st1 c o2 n2 st2 → FedL L st (cs ++ [c]) (o ++ o2) (n + n2) st2
/-- feeding comes to no end -/
def FedE (L : Loop) (st : Stay) (cs : List Nat) : Prop := ∃ pre c rest o n st1, cs = pre ++ c :: rest ∧ FedL L st pre o n st1 ∧ st1.brk = false ∧ Endl L 3 (fedSt st1 c)
theorem FedL.app {L : Loop} {st st1 st2 : Stay} {cs ds o o2 : List Nat} {n n2 : Nat} (a : FedL L st cs o n st1) (b : FedL L st1 ds o2 n2 st2) : FedL L st (cs ++ ds) (o ++ o2) (n + n2) st2 := by
  induction b with
  | nil => simpa using a
  | snoc _ r ih =>
    rw [← List.append_assoc, ← List.append_assoc, ← Nat.add_assoc]
    exact .snoc ih r
theorem FedE.app {L : Loop} {st st1 : Stay} {cs ds o : List Nat} {n : Nat} (a : FedL L st cs o n st1) (b : FedE L st1 ds) : FedE L st (cs ++ ds) := by
  obtain ⟨pre, c, rest, o2, n2, st2, rfl, h1, h2, h3⟩ := b
  exact ⟨cs ++ pre, c, rest, o ++ o2, n + n2, st2, by simp, a.app h1, h2, h3⟩
theorem FedE.more {L : Loop} {st : Stay} {cs : List Nat} (ds : List Nat) (b : FedE L st cs) : FedE L st (cs ++ ds) := by
  obtain ⟨pre, c, rest, o2, n2, st2, rfl, h1, h2, h3⟩ := b
  exact ⟨pre, c, rest ++ ds, o2, n2, st2, by simp, h1, h2, h3⟩
theorem fedL_ok {L : Loop} (h : WF L) {st st' : Stay} {cs o : List Nat} {n : Nat} (s : StOk 2 st) (hc : ∀ c ∈ cs, c ∈ lts) (r : FedL L st cs o n st') : StOk 2 st' ∧ n ≤ 340 * cs.length ∧ o.length ≤ 343 * cs.length := by
  induction r with
  | nil => exact ⟨s, by simp, by simp⟩
  | snoc _ q ih =>
    obtain ⟨g1, g2, g3⟩ := ih fun c hc2 => hc c (List.mem_append_left _ hc2)
    obtain ⟨g4, g5, g6⟩ := fedR_ok h g1 (hc _ (List.mem_append_right _ (List.mem_singleton.mpr rfl))) q
    refine ⟨g4, ?_, ?_⟩
    · rw [List.length_append, List.length_singleton, Nat.mul_succ]; omega
    · rw [List.length_append, List.length_append, List.length_singleton, Nat.mul_succ]; omega
end OB

namespace OB
open PySem PySem.Spec PyProof.Rows L2
local macro_rules | `(tactic| walk_at "hp") => `(tactic| first
  | assumption | exact upd_same | (refine look_new ?_ ?_ <;> walk_at "hp") | ((refine' look_mut (v := ?lv) ?lq ?lp ?ld); (case lq => walk_at "hp"); (case lp => walk_at "hp"); (case ld => (intro z; cases z))))
local macro_rules | `(tactic| walk_at "rd") => `(tactic| (first
  | (with_reducible first
  | refine r_seq ?_ | refine r_asg ?_ | refine r_gname ?_ | refine r_ret ?_ | refine r_retN ?_ | refine r_next ?_ | refine r_drop ?_ | refine r_if ?_
  | refine r_c ?_ | refine r_op ?_ | refine r_test ?_ | refine r_tb ?_ | refine r_bl ?_ | refine r_and ?_ | refine r_or ?_ | refine r_not ?_
  | refine r_andV ?_ | refine r_orV ?_ | refine r_notV ?_ | refine r_ifE ?_ | refine r_nil ?_ | refine r_cons ?_ | refine r_tup ?_ | refine r_lst ?_ | refine r_cb ?_ | refine r_call ?_ | refine r_sub ?_
  | refine r_addI ?_ | refine r_I0 ?_ | refine r_eqI ?_ | refine r_neI ?_ | refine r_eqS ?_ | refine r_neS ?_ | refine r_inS ?_ | refine r_inS2 ?_ | refine r_notInS2 ?_ | refine r_isNA ?_ | refine r_m1 ?_ | refine r_isstr ?_ | refine r_lc ?_ | refine r_notNA ?_ | refine r_kt ?_ | refine r_chain ?_ | refine r_gcons ?_ | refine r_gnil ?_ | refine r_fld ?_ | refine r_sfld ?_ | refine r_meth ?_ | refine r_sl ?_ | refine r_part ?_ | refine r_nopart ?_ | refine r_int ?_ | refine r_star ?_ | refine r_delL ?_ | refine r_par ?_ | refine r_parAt ?_ | refine r_par3 ?_ | refine r_parAt3 ?_ | refine r_fldaug ?_ | refine r_brk ?_ | refine r_for ?_ | refine r_ienT ?_ | refine r_make ?_ | refine r_bm ?_ | refine r_bm0 ?_ | refine iteT ?_ | refine iteF ?_)
  | ((with_reducible refine' r_var ?he ?_); (case he => rfl))
  | (with_reducible first | refine r_abs ?_ | refine r_max ?_ | refine r_min ?_)
  | ((with_reducible refine' r_lenSq ?hs ?_); (case hs => first | exact .inl (by assumption) | exact .inr (by assumption) | exact .inl (SqL.of (by walk_at "hp")) | exact .inr (SqT.of (by walk_at "hp"))))
  | ((with_reducible refine' r_mulR ?hc ?_); (case hc => decide))
  | ((with_reducible refine' r_mulL ?hc ?_); (case hc => decide))
  | ((with_reducible refine' r_mod ?hc ?_); (case hc => first | decide | assumption | omega))
  | ((with_reducible refine' r_div ?hc ?_); (case hc => first | decide | assumption | (constructor <;> first | assumption | omega)))
  | ((with_reducible refine' r_pow ?hc ?_); (case hc => first | decide | (refine ⟨by decide, by decide, by omega⟩)))
  | ((with_reducible refine' r_ixL2 ?hs ?he ?_); (case hs => exact SqL.of (by walk_at "hp")); (case he => first | rfl | exact atI0 | exact atI1 | exact atI2 | exact atI3))
  | ((with_reducible refine' r_ixT2 ?hs ?he ?_); (case hs => first | assumption | exact SqT.of (by walk_at "hp")); (case he => first | rfl | exact atI0 | exact atI1 | exact atI2 | exact atI3))
  | ((with_reducible refine' r_setL2 ?hs ?he ?_); (case hs => walk_at "hp"); (case he => rfl))
  | ((with_reducible refine' r_gtup ?hs ?he ?_); (case hs => first | assumption | exact SqT.of (by walk_at "hp")); (case he => rfl))
  | ((with_reducible refine' r_fldAt ?hs ?hc ?hn ?hl ?_); (case hs => walk_at "hp"); (case hc => walk_at "cl"); (case hn => walk_at "cl"); (case hl => rfl))
  | ((with_reducible refine' r_sfldAt ?hs ?hc ?hn ?hl ?_); (case hs => walk_at "hp"); (case hc => walk_at "cl"); (case hn => walk_at "cl"); (case hl => exact Nat.le_of_ble_eq_true rfl))
  | ((with_reducible refine' r_aug ?he ?_); (case he => rfl))
  | ((with_reducible refine' r_starAt ?hs ?_); (case hs => first | exact .inl (by assumption) | exact .inr (by assumption) | exact .inl (SqT.of (by walk_at "hp")) | exact .inr (SqL.of (by walk_at "hp"))))
  | ((with_reducible refine' r_fldaugAt ?hs ?hc ?hn ?hl ?_); (case hs => walk_at "hp"); (case hc => walk_at "cl"); (case hn => walk_at "cl"); (case hl => rfl))
  | ((with_reducible refine' r_methAt ?hs ?hl ?_); (case hs => walk_at "hp"); (case hl => rfl))
  | ((with_reducible refine' r_tyL ?hs ?_); (case hs => first | assumption | exact SqL.of (by walk_at "hp")))
  | ((with_reducible refine' r_ifT ?h ?_); (case h => rfl))
  | ((with_reducible refine' r_ifF ?h ?_); (case h => rfl))
  | ((with_reducible first | refine' r_isiInt ?hd ?_ | refine' r_isiBool ?hd ?_ | refine' r_isiStr ?hd ?_ | refine' r_isiTup ?hd ?_ | refine' r_isiLst ?hd ?_); (case hd => assumption))
  ))

local macro_rules | `(tactic| walk_at "cl") => `(tactic| assumption)
def spFeedText (P : Program) (w : World) (K : PySem.W.Frag) : Sp := fun vs H Q _ => ∃ f sv kd lv L st, ∃ z : Str, ∃ kb : Nat, vs = [.ref f, sv, .str z] ∧ FeederAt P w K H f kd lv L kb ∧ kb + z.length ≤ 1000000 ∧ z.length ≤ 40000 ∧ WF L ∧ IsStay K H sv st ∧ StOk 2 st ∧ (∀ c ∈ tl z, c ∈ lts) ∧
  (FedE L st (tl z) → ∀ H', Chg [kd] H H' → FeederAt P w K H' f kd lv L (kb + z.length) → Q .non H') ∧
  (∀ H' t o n st' sv', FedL L st (tl z) o n st' → Chg [kd] H H' → FeederAt P w K H' f kd lv L (kb + z.length) → SqT K H' t [.str (mkS o), .int (n : Nat), sv'] → IsStay K H' sv' st' → Q (.ref t) H')
section
variable {P : Program} {w : World} {K : PySem.W.Frag} {mg : Str → Option Value} {base : Heap}
theorem r_forS {z : Str} {g : TG} {tb : TS} {D : Ends} {σ : L2.St} {H : Hp} (Pv : Nat → L2.St → Hp → Prop) (h0 : Pv 0 σ H)
    (hs : ∀ i c σ H, (tl z)[i]? = some c → Pv i σ H → g (.str (mkS [c])) σ H fun σ2 H2 => tb { nx := Pv (i + 1), rt := D.rt, bk := D.nx, ct := Pv (i + 1) } σ2 H2) (hd : ∀ σ H, Pv z.length σ H → D.nx σ H) :
    ∃ x, V.str z = V.str x ∧ ForP (Its x) g tb D σ H := ⟨z, rfl, for_it walk_str Pv h0 (fun _ _ _ _ _ => trivial) (fun i x σ H H' hi p y => by
      obtain ⟨rfl, c, hc, rfl⟩ := y
      exact hs i c σ _ (by rw [show tl z = z.cps.toList from rfl, Array.getElem?_toList]; exact hc) p) hd⟩
theorem ok_feed_text (T : Txt w K mg) : Prom P w K mg base CX0 8 (a_Feeder_feed_text K) p_Feeder_feed_text [] (spFeedText P w K) := by
  obtain ⟨fd, F⟩ := T.d_Feeder_feed_text
  have sc := sc_Feeder_feed_text
  have c1 := T.cl_Feeder
  have G_Feeder_feed := ok_feed (P := P) (base := base) T
  refine prom0 F sc (bn_Feeder_feed_text F) (fun vs H Q E h => ?_) (fun cdv A outer s H vs Q E hr h => ?_)
  · obtain ⟨f, sv, kd, lv, L, st, z, kb, rfl, _⟩ := h
    rfl
  · obtain ⟨f, sv, kd, lv, L, st, z, kb, rfl, hF, hkb, hz, wf, hst, hok, hc, kN, kS⟩ := h
    refine ⟨_, (pss_cons (ps_parA (i := 3) (j := 4) rfl sc.nd (pa_cons (pe_lst pa_nil) (pa_cons pe_int pa_nil)))
      (pss_cons (ps_for PassesOwn.never rfl (piA (K := K) (pv 2)) (pg_name (i := 5) sc.nd rfl (by first | exact Or.inl rfl | exact Or.inr rfl)) (pss_cons (ps_set (i := 6) sc.nd rfl (by first | exact Or.inl rfl | exact Or.inr rfl) (pe_methP (pv 0) T.cl_Feeder T.mt_Feeder_feed G_Feeder_feed (hr.mono (by decide)) pass0 (pa_cons (pv 1) (pa_cons (pv 5) pa_nil))))
      (pss_cons (ps_if (pt_cmpR op_isNA (pv 6) pe_non (nomark _)) (pss_one (ps_ret pe_non)) pss_nil)
      (pss_cons (ps_asg (pv 6) (gTupA (K := K) (n := 3) rfl (pgs_cons (pg_name (i := 7) sc.nd rfl (by first | exact Or.inl rfl | exact Or.inr rfl)) (pgs_cons (pg_name (i := 8) sc.nd rfl (by first | exact Or.inl rfl | exact Or.inr rfl)) (pgs_cons (pg_name (i := 1) sc.nd rfl (by first | exact Or.inl rfl | exact Or.inr rfl)) pgs_nil)))))
      (pss_cons (ps_expr (eBm (K := K) (pe_bm PySem.F.plainAttrs_list PySem.F.slot_list_append PySem.F.type_list_append mt_append (pv 3) (pa_cons (pv 7) pa_nil))))
      (pss_one (ps_aug (i := 4) sc.nd rfl (by first | exact Or.inl rfl | exact Or.inr rfl) (pv 8) ip_add)))))))
      (pss_one (ps_ret (pe_tup (pa_cons (eJoin (K := K) pe_str (pv 3)) (pa_cons (pv 4) (pa_cons (pv 1) pa_nil)))))))), ?_⟩
    repeat walk_at "rd"
    refine ⟨Nat.zero_le _, fun wl hwl => ?_⟩
    repeat walk_at "rd"
    refine r_iany_s ?_
    repeat walk_at "rd"
    have hwd : wl ∉ [kd] := fun q => by
      rw [List.mem_singleton] at q
      obtain ⟨_, _, ⟨kvs, nd, _⟩⟩ := hF
      obtain ⟨e, he⟩ := nd.ext
      exact ne_of_none he hwl q.symm
    have hwf : f ∉ [wl] := fun q => by
      rw [List.mem_singleton] at q
      obtain ⟨⟨dx, hx⟩, _⟩ := hF
      exact ne_of_none hx hwl q
    have hwk : kd ∉ [wl] := fun q => hwd (by rw [List.mem_singleton] at q; simp [q])
    refine r_forS (fun i σ H' => ∃ o, ∃ n : Nat, ∃ st1 sv1, ∃ ws : List (List Nat), (∃ p q r t, σ = [some (.ref f), some sv1, some (.str z), some (.ref wl), some (.int (n : Nat)), p, q, r, t]) ∧ FedL L st ((tl z).take i) o n st1 ∧ Chg [kd] H H' ∧ FeederAt P w K H' f kd lv L (kb + i) ∧ IsStay K H' sv1 st1 ∧
      H' wl = some (.lst (ws.map fun l => V.str (mkS l))) ∧ ws.flatten = o ∧ ws.length = i ∧ i ≤ z.length) ?_ (fun i c σ H1 hci p => ?_) (fun σ H1 p => ?_)
    · exact ⟨[], 0, st, sv, [], ⟨_, _, _, _, rfl⟩, .nil st, Chg.new hwl, hF.chg (Chg.new (ps := []) hwl) (by simp) (by simp), hst.chg (Chg.new (ps := []) hwl), upd_same, rfl, rfl, Nat.zero_le _⟩
    · obtain ⟨o, n, st1, sv1, ws, ⟨p5, p6, p7, p8, rfl⟩, hl, g1, hF1, hst1, hw1, hwf1, hwl1, hiz⟩ := p
      have hcl : c ∈ lts := hc c (List.mem_of_getElem? hci)
      have hi : i < z.length := (List.getElem?_eq_some_iff.mp hci).1
      have hok1 := (fedL_ok wf hok (fun d hd => hc d (List.mem_of_mem_take hd)) hl).1
      obtain ⟨dxf, hobj⟩ := hF1.obj
      repeat walk_at "rd"
      refine ⟨f, sv1, kd, lv, L, st1, c, kb + i, rfl, hF1, by omega, wf, hst1, hok1, hcl, fun hb he H2 g2 hF2 => ?_, fun H2 t o2 n2 st2 sv2 hr g2 hF2 ht hst2 => ?_⟩
      · repeat walk_at "rd"
        refine kN ⟨(tl z).take i, c, (tl z).drop (i + 1), o, n, st1, ?_, hl, hb, he⟩ H2 (g1.trans g2) (hF2.more (by omega))
        obtain ⟨h1, h2⟩ := List.getElem?_eq_some_iff.mp hci
        rw [← h2, ← List.drop_eq_getElem_cons h1, List.take_append_drop]
      · have hw2 := g2.atN hw1 hwd
        repeat walk_at "rd"
        refine r_append hw2 (by rw [List.length_map]; exact Nat.lt_of_le_of_lt (by omega : ws.length ≤ 40000) (by decide)) ?_
        have g3 : Chg [wl] H2 (upd H2 wl (.lst (ws.map (fun l => V.str (mkS l)) ++ [.str (mkS o2)]))) := Chg.upd hw2 (by simp)
        repeat walk_at "rd"
        refine ⟨_, _, rfl, rfl, ?_⟩
        refine ⟨o ++ o2, n + n2, st2, sv2, ws ++ [o2], ⟨_, _, _, _, by rw [Int.natCast_add]; rfl⟩, ?_, (g1.trans g2).mut hwl, (hF2.chg g3 hwf hwk).more (by omega), hst2.chg g3, by rw [upd_same, List.map_append]; rfl, by rw [List.flatten_append, hwf1]; simp, by rw [List.length_append, hwl1]; rfl, by omega⟩
        rw [take_snoc hci]
        exact .snoc hl hr
    · obtain ⟨o, n, st1, sv1, ws, ⟨p5, p6, p7, p8, rfl⟩, hl, g1, hF1, hst1, hw1, hwf1, hwl1, hiz⟩ := p
      have htk : (tl z).take z.length = tl z := List.take_length
      rw [htk] at hl
      have hlen := (fedL_ok wf hok hc hl).2.2
      have hzl : (tl z).length = z.length := rfl
      repeat walk_at "rd"
      refine r_joinM (ls := ws) (SqL.of hw1) (by rw [hwf1]; omega) ?_
      repeat walk_at "rd"
      refine ⟨Nat.le_of_ble_eq_true rfl, fun t ht => ?_⟩
      rw [hwf1]
      exact kS _ t o n st1 sv1 hl (g1.trans (Chg.new ht)) (hF1.chg (Chg.new (ps := []) ht) (by simp) (by simp)) (SqT.of upd_same) (hst1.chg (Chg.new (ps := []) ht))
end
end OB

namespace OB
open PySem PySem.Spec PyProof.Rows L2
/-! ### copies of a text, fed one after another, plain -/
def rep (k : Nat) (z : List Nat) : List Nat := (List.replicate k z).flatten
theorem rep_zero (z : List Nat) : rep 0 z = [] := rfl
theorem rep_succ (k : Nat) (z : List Nat) : rep (k + 1) z = z ++ rep k z := by
  unfold rep
  rw [List.replicate_succ, List.flatten_cons]
theorem rep_add (a b : Nat) (z : List Nat) : rep (a + b) z = rep a z ++ rep b z := by
  unfold rep
  rw [← List.replicate_append_replicate, List.flatten_append]
theorem rep_one (z : List Nat) : rep 1 z = z := by simp [rep]
theorem rep_snoc (k : Nat) (z : List Nat) : rep (k + 1) z = rep k z ++ z := by rw [rep_add, rep_one]
def qlist (q : Nat → List Nat × Nat) (j r : Nat) : List (List Nat × Nat) := (List.range r).map fun t => q (j + t)
theorem qlist_len (q : Nat → List Nat × Nat) (j r : Nat) : (qlist q j r).length = r := by simp [qlist]
theorem qlist_succ (q : Nat → List Nat × Nat) (j r : Nat) : qlist q j (r + 1) = qlist q j r ++ [q (j + r)] := by
  unfold qlist
  rw [List.range_succ, List.map_append]
  rfl
theorem qlist_drop (q : Nat → List Nat × Nat) (j r : Nat) : (qlist q 0 (j + r)).drop j = qlist q j r := by
  unfold qlist
  rw [← List.map_drop, List.range_add, List.drop_left' (List.length_range ..), List.map_map]
  refine List.map_congr_left fun t _ => ?_
  show q (0 + (j + t)) = q (j + t)
  rw [Nat.zero_add]
theorem qlist_take (q : Nat → List Nat × Nat) (j : Nat) {l r : Nat} (h : l ≤ r) : (qlist q j r).take l = qlist q j l := by
  unfold qlist
  rw [← List.map_take, List.take_range, Nat.min_eq_left h]
theorem qlist_congr {q q' : Nat → List Nat × Nat} {r : Nat} (h : ∀ t, t < r → q t = q' t) : qlist q 0 r = qlist q' 0 r := by
  unfold qlist
  refine List.map_congr_left fun t ht => ?_
  rw [Nat.zero_add]
  exact h t (List.mem_range.mp ht)
theorem flat_app (a b : List (List Nat × Nat)) : flat (a ++ b) = flat a ++ flat b := by
  unfold flat
  rw [List.map_append, List.flatten_append]
theorem sumM_app (a b : List (List Nat × Nat)) : sumM (a ++ b) = sumM a + sumM b := by
  unfold sumM
  rw [List.map_append, List.sum_append]
section
variable {L : Loop} {z : List Nat} {S : Nat → Stay} {q : Nat → List Nat × Nat}
theorem chain {i : Nat} (h : ∀ j, j < i → FedL L (S j) z (q j).1 (q j).2 (S (j + 1))) (j : Nat) : ∀ r, j + r ≤ i → FedL L (S j) (rep r z) (flat (qlist q j r)) (sumM (qlist q j r)) (S (j + r))
  | 0, _ => .nil _
  | r + 1, hr => by
    rw [rep_snoc, qlist_succ, flat_app, sumM_app]
    have h1 := (chain h j r (by omega)).app (h (j + r) (by omega))
    have e1 : flat [q (j + r)] = (q (j + r)).1 := by simp [flat]
    have e2 : sumM [q (j + r)] = (q (j + r)).2 := by simp [sumM]
    rw [e1, e2]
    exact h1
theorem loops {s : Stay} {x o : List Nat} {n : Nat} (h : FedL L s x o n s) : ∀ k, FedL L s (rep k x) (rep k o) (n * k) s
  | 0 => .nil _
  | k + 1 => by
    rw [rep_succ, rep_succ, Nat.mul_succ, Nat.add_comm]
    exact h.app (loops h k)
theorem rep_rep (k r : Nat) (z : List Nat) : rep k (rep r z) = rep (r * k) z := by
  induction k with
  | zero => rfl
  | succ k ih => rw [rep_succ, ih, Nat.mul_succ, Nat.add_comm, rep_add]
/-- the whole row when a standing comes round -/
theorem row_round {i j m : Nat} (h : ∀ t, t < i → FedL L (S t) z (q t).1 (q t).2 (S (t + 1))) (hj : j < i) (e : S i = S j) (him : i ≤ m) :
    FedL L (S 0) (rep m z) (den (ones (qlist q 0 i) ++ [(flat ((qlist q 0 i).drop j), (m - i) / ((qlist q 0 i).drop j).length)] ++ ones (((qlist q 0 i).drop j).take ((m - i) % ((qlist q 0 i).drop j).length))))
      (sumM (qlist q 0 i) + sumM ((qlist q 0 i).drop j) * ((m - i) / ((qlist q 0 i).drop j).length) + sumM (((qlist q 0 i).drop j).take ((m - i) % ((qlist q 0 i).drop j).length))) (S (j + (m - i) % ((qlist q 0 i).drop j).length)) := by
  obtain ⟨r, rfl⟩ : ∃ r, i = j + r := ⟨i - j, by omega⟩
  rw [qlist_drop, qlist_len]
  have hr : 0 < r := by omega
  have hlt := Nat.mod_lt (m - (j + r)) hr
  have hm : m = (j + r) + (r * ((m - (j + r)) / r) + (m - (j + r)) % r) := by
    have := Nat.div_add_mod (m - (j + r)) r
    omega
  generalize (m - (j + r)) / r = k at *
  generalize (m - (j + r)) % r = t at *
  have h1 := chain h 0 (j + r) (by omega)
  rw [Nat.zero_add] at h1
  have h2 := chain h j r (by omega)
  rw [e] at h1 h2
  have h3 := loops h2 k
  have h4 := chain h j t (by omega)
  have h5 := (h1.app h3).app h4
  rw [rep_rep] at h5
  rw [hm, den_app, den_app, den_ones, den_ones, den_one, qlist_take q j (Nat.le_of_lt hlt), rep_add (j + r), rep_add (r * k), ← List.append_assoc (rep (j + r) z)]
  exact h5
end
/-- a standing between two items -/
structure StB (st : Stay) : Prop where
  ok : StOk 2 st
  brk : st.brk = true → st.held = []
theorem fedR_b {L : Loop} (h : WF L) {st st' : Stay} {c n : Nat} {o : List Nat} (s : StB st) (hc : c ∈ lts) (r : FedR L st c o n st') : StB st' := by
  refine ⟨(fedR_ok h s.ok hc r).1, ?_⟩
  rcases r with ⟨_, _, _, rfl⟩ | ⟨_, r⟩
  · exact s.brk
  · exact (runs_ok h (by decide) (by decide) (fedSt_ok s.ok hc) rfl r).2
theorem fedL_b {L : Loop} (h : WF L) {st st' : Stay} {cs o : List Nat} {n : Nat} (s : StB st) (hc : ∀ c ∈ cs, c ∈ lts) (r : FedL L st cs o n st') : StB st' := by
  induction r with
  | nil => exact s
  | snoc _ q ih => exact fedR_b h (ih fun c hc2 => hc c (List.mem_append_left _ hc2)) (hc _ (List.mem_append_right _ (List.mem_singleton.mpr rfl))) q
def allB : List Stay := allSt 2 ++ (List.range 4).map fun m => ⟨m, [], true⟩
theorem allB_len : allB.length = 88 := by decide +kernel
theorem mem_allB {st : Stay} (s : StB st) : st ∈ allB := by
  cases hb : st.brk with
  | false => exact List.mem_append_left _ (mem_allSt s.ok hb)
  | true =>
    refine List.mem_append_right _ (List.mem_map.mpr ⟨st.mark, List.mem_range.mpr s.ok.mark, ?_⟩)
    obtain ⟨m, w, b⟩ := st
    have h1 := s.brk hb
    simp only at h1 hb
    rw [h1, hb]
theorem few {S : Nat → Stay} {i : Nat} (hs : ∀ j, j < i → StB (S j)) (hne : ∀ j k, j < k → k < i → S j ≠ S k) : i ≤ 88 := by
  have h1 := nodup_len (l := (List.range i).map S) (s := allB) (by
    rw [List.nodup_iff_pairwise_ne, List.pairwise_map, List.pairwise_iff_getElem]
    intro a b ha hb hab
    rw [List.getElem_range, List.getElem_range]
    rw [List.length_range] at hb
    exact hne a b hab hb) fun x hx => by
    obtain ⟨j, hj, rfl⟩ := List.mem_map.mp hx
    exact mem_allB (hs j (List.mem_range.mp hj))
  rw [allB_len] at h1
  rwa [List.length_map, List.length_range] at h1
theorem row_endless {L : Loop} {z : List Nat} {S : Nat → Stay} {q : Nat → List Nat × Nat} {i m : Nat} (h : ∀ t, t < i → FedL L (S t) z (q t).1 (q t).2 (S (t + 1))) (him : i < m) (he : FedE L (S i) z) : FedE L (S 0) (rep m z) := by
  have h1 := chain h 0 i (by omega)
  rw [Nat.zero_add] at h1
  have h2 := FedE.app h1 he
  have e : rep m z = (rep i z ++ z) ++ rep (m - i - 1) z := by
    rw [← rep_snoc, ← rep_add]
    congr 1
    omega
  rw [e]
  exact h2.more _
end OB

namespace OB
open PySem PySem.Spec PyProof.Rows L2
local macro_rules | `(tactic| walk_at "hp") => `(tactic| first
  | assumption | exact upd_same | (refine look_new ?_ ?_ <;> walk_at "hp") | ((refine' look_mut (v := ?lv) ?lq ?lp ?ld); (case lq => walk_at "hp"); (case lp => walk_at "hp"); (case ld => (intro z; cases z))))
local macro_rules | `(tactic| walk_at "rd") => `(tactic| (first
  | (with_reducible first
  | refine r_seq ?_ | refine r_asg ?_ | refine r_gname ?_ | refine r_ret ?_ | refine r_retN ?_ | refine r_next ?_ | refine r_drop ?_ | refine r_if ?_
  | refine r_c ?_ | refine r_op ?_ | refine r_test ?_ | refine r_tb ?_ | refine r_bl ?_ | refine r_and ?_ | refine r_or ?_ | refine r_not ?_
  | refine r_andV ?_ | refine r_orV ?_ | refine r_notV ?_ | refine r_ifE ?_ | refine r_nil ?_ | refine r_cons ?_ | refine r_tup ?_ | refine r_lst ?_ | refine r_cb ?_ | refine r_call ?_ | refine r_sub ?_
  | refine r_addI ?_ | refine r_I0 ?_ | refine r_eqI ?_ | refine r_neI ?_ | refine r_eqS ?_ | refine r_neS ?_ | refine r_inS ?_ | refine r_inS2 ?_ | refine r_notInS2 ?_ | refine r_isNA ?_ | refine r_m1 ?_ | refine r_isstr ?_ | refine r_lc ?_ | refine r_notNA ?_ | refine r_kt ?_ | refine r_chain ?_ | refine r_gcons ?_ | refine r_gnil ?_ | refine r_fld ?_ | refine r_sfld ?_ | refine r_meth ?_ | refine r_sl ?_ | refine r_part ?_ | refine r_nopart ?_ | refine r_int ?_ | refine r_star ?_ | refine r_delL ?_ | refine r_par ?_ | refine r_parAt ?_ | refine r_par3 ?_ | refine r_parAt3 ?_ | refine r_fldaug ?_ | refine r_brk ?_ | refine r_for ?_ | refine r_ienT ?_ | refine r_make ?_ | refine r_bm ?_ | refine r_bm0 ?_ | refine iteT ?_ | refine iteF ?_)
  | ((with_reducible refine' r_var ?he ?_); (case he => rfl))
  | (with_reducible first | refine r_abs ?_ | refine r_max ?_ | refine r_min ?_)
  | ((with_reducible refine' r_lenSq ?hs ?_); (case hs => first | exact .inl (by assumption) | exact .inr (by assumption) | exact .inl (SqL.of (by walk_at "hp")) | exact .inr (SqT.of (by walk_at "hp"))))
  | ((with_reducible refine' r_mulR ?hc ?_); (case hc => decide))
  | ((with_reducible refine' r_mulL ?hc ?_); (case hc => decide))
  | ((with_reducible refine' r_mod ?hc ?_); (case hc => first | decide | assumption | omega))
  | ((with_reducible refine' r_div ?hc ?_); (case hc => first | decide | assumption | (constructor <;> first | assumption | omega)))
  | ((with_reducible refine' r_pow ?hc ?_); (case hc => first | decide | (refine ⟨by decide, by decide, by omega⟩)))
  | ((with_reducible refine' r_ixL2 ?hs ?he ?_); (case hs => exact SqL.of (by walk_at "hp")); (case he => first | rfl | exact atI0 | exact atI1 | exact atI2 | exact atI3))
  | ((with_reducible refine' r_ixT2 ?hs ?he ?_); (case hs => first | assumption | exact SqT.of (by walk_at "hp")); (case he => first | rfl | exact atI0 | exact atI1 | exact atI2 | exact atI3))
  | ((with_reducible refine' r_setL2 ?hs ?he ?_); (case hs => walk_at "hp"); (case he => rfl))
  | ((with_reducible refine' r_gtup ?hs ?he ?_); (case hs => first | assumption | exact SqT.of (by walk_at "hp")); (case he => rfl))
  | ((with_reducible refine' r_fldAt ?hs ?hc ?hn ?hl ?_); (case hs => walk_at "hp"); (case hc => walk_at "cl"); (case hn => walk_at "cl"); (case hl => rfl))
  | ((with_reducible refine' r_sfldAt ?hs ?hc ?hn ?hl ?_); (case hs => walk_at "hp"); (case hc => walk_at "cl"); (case hn => walk_at "cl"); (case hl => exact Nat.le_of_ble_eq_true rfl))
  | ((with_reducible refine' r_aug ?he ?_); (case he => rfl))
  | ((with_reducible refine' r_starAt ?hs ?_); (case hs => first | exact .inl (by assumption) | exact .inr (by assumption) | exact .inl (SqT.of (by walk_at "hp")) | exact .inr (SqL.of (by walk_at "hp"))))
  | ((with_reducible refine' r_fldaugAt ?hs ?hc ?hn ?hl ?_); (case hs => walk_at "hp"); (case hc => walk_at "cl"); (case hn => walk_at "cl"); (case hl => rfl))
  | ((with_reducible refine' r_methAt ?hs ?hl ?_); (case hs => walk_at "hp"); (case hl => rfl))
  | ((with_reducible refine' r_tyL ?hs ?_); (case hs => first | assumption | exact SqL.of (by walk_at "hp")))
  | ((with_reducible refine' r_ifT ?h ?_); (case h => rfl))
  | ((with_reducible refine' r_ifF ?h ?_); (case h => rfl))
  | ((with_reducible first | refine' r_isiInt ?hd ?_ | refine' r_isiBool ?hd ?_ | refine' r_isiStr ?hd ?_ | refine' r_isiTup ?hd ?_ | refine' r_isiLst ?hd ?_); (case hd => assumption))
  ))

local macro_rules | `(tactic| walk_at "cl") => `(tactic| assumption)
structure RwI (P : Program) (w : World) (K : PySem.W.Frag) (L : Loop) (z : Str) (times : Nat) (st : Stay) (H : Hp) (f kd : Addr) (lv : V) (kb : Nat) (tr pl : Addr) (ps : List (List Nat × Nat)) (n : Nat) (pa sa pd : Addr) (i : Nat) (S : Nat → Stay) (q : Nat → List Nat × Nat) (sv : V) (H' : Hp) : Prop where
  le : i ≤ times
  s0 : S 0 = st
  chain : ∀ t, t < i → FedL L (S t) (tl z) (q t).1 (q t).2 (S (t + 1))
  b : ∀ t, t ≤ i → StB (S t)
  chg : Chg [kd, tr, pl] H H'
  fd : FeederAt P w K H' f kd lv L (kb + z.length * i)
  stay : IsStay K H' sv (S i)
  trk : TrackAt K H' tr pl (ps ++ ones (qlist q 0 i)) (n + sumM (qlist q 0 i))
  parts : ∃ xs, H' pa = some (.lst xs) ∧ All2 (IsPair K H') xs (qlist q 0 i)
  stys : ∃ ys, H' sa = some (.lst ys) ∧ All2 (IsStay K H') ys ((List.range i).map S)
  plc : ∃ kvs, ND P w H' pd kvs ∧ kvs.length ≤ i ∧ (∀ j, j < i → ndAt kvs (nkStay (S j)) = some (.int j)) ∧ ∀ s, (ndAt kvs (nkStay s)).isSome = true → ∃ j, j < i ∧ S j = s
  ne : ∀ j k, j < k → k < i → S j ≠ S k
structure RwD (H : Hp) (f kd tr pl pa sa pd : Addr) : Prop where
  a : pa ∉ [kd, tr, pl]
  s : sa ∉ [kd, tr, pl]
  d : pd ∉ [kd, tr, pl]
  as_ : pa ≠ sa
  ad : pa ≠ pd
  sd : sa ≠ pd
  na : H pa = none
  ns : H sa = none
  nd : H pd = none
  f1 : f ∉ [tr, pl]
  f2 : f ∉ [kd]
  k : kd ∉ [tr, pl]
  fa : f ≠ pa
  fs : f ≠ sa
  fd : f ≠ pd
theorem not_in3 {H : Hp} {a b c x : Addr} {u v o : HO} (h1 : H a = some u) (h2 : H b = some v) (h3 : H c = some o) (hx : H x = none) : x ∉ [a, b, c] := fun z => by
  rcases List.mem_cons.mp z with z | z
  · exact ne_of_none h1 hx z.symm
  · exact not_in2 h2 h3 hx z
def spFeedRow (P : Program) (w : World) (K : PySem.W.Frag) : Sp := fun vs H Q _ => ∃ f sv kd tr pl lv L st, ∃ z : Str, ∃ times kb : Nat, ∃ ps, ∃ n : Nat, vs = [.ref f, sv, .str z, .int times, .ref tr] ∧ FeederAt P w K H f kd lv L kb ∧ TrackAt K H tr pl ps n ∧
  kb + z.length * 90 ≤ 1000000 ∧ z.length ≤ 500 ∧ ps.length ≤ 700000 ∧ WF L ∧ IsStay K H sv st ∧ StB st ∧ (∀ c ∈ tl z, c ∈ lts) ∧
  (FedE L st (rep times (tl z)) → ∀ H', Chg [kd, tr, pl] H H' → Q .non H') ∧
  (∀ H' v o n' st' qs, FedL L st (rep times (tl z)) o n' st' → StB st' → Chg [kd, tr, pl] H H' → FeederAt P w K H' f kd lv L (kb + z.length * 90) → IsStay K H' v st' → TrackAt K H' tr pl (ps ++ qs) (n + n') → den qs = o → qs.length ≤ 200 → (∀ p ∈ qs, p.1.length ≤ 343 * z.length * 88) → Q v H')
section
variable {P : Program} {w : World} {K : PySem.W.Frag} {mg : Str → Option Value} {base : Heap}
theorem ok_feed_row (T : Txt w K mg) : Prom P w K mg base CX0 9 (a_Feeder_feed_row K) p_Feeder_feed_row [] (spFeedRow P w K) := by
  obtain ⟨fd, F⟩ := T.d_Feeder_feed_row
  have sc := sc_Feeder_feed_row
  have c1 := T.cl_Stay
  have c2 := T.cl_Feeder
  have G_Stay_key := ok_key (P := P) (base := base) T
  have G_Feeder_feed_text := ok_feed_text (P := P) (base := base) T
  have G_Track_write_d1 := ok_write2 (P := P) (base := base) T
  have G_Track_write_round := ok_write_round (P := P) (base := base) T
  refine prom0 F sc (bn_Feeder_feed_row F) (fun vs H Q E h => ?_) (fun cdv A outer s H vs Q E hr h => ?_)
  · obtain ⟨f, sv, kd, tr, pl, lv, L, st, z, times, kb, ps, n, rfl, _⟩ := h
    rfl
  · obtain ⟨f, sv, kd, tr, pl, lv, L, st, z, times, kb, ps, n, rfl, hF, ht, hkb, hz, hps, wf, hst, hok, hc, kN, kS⟩ := h
    refine ⟨_, (pss_cons (ps_par3A (i := 5) (j := 6) (l := 7) rfl sc.nd (pa_cons (pe_lst pa_nil) (pa_cons (pe_lst pa_nil) (pa_cons (eNewN (P := P) (w := w)) pa_nil))))
      (pss_cons (ps_while PassesOwn.never (pt_cmpR op_lt (pe_callB (cLen (K := K)) (by rfl) T.z_len (by decide +kernel) (pa_cons (pv 5) pa_nil)) (pv 3) (nomark _)) (pss_cons (ps_if (pt_cmpR (oIn (P := P) (w := w) (K := K) hr.units) (pe_methP0 (pv 1) T.cl_Stay T.mt_Stay_key G_Stay_key (hr.mono (by decide)) pass0) (pv 7) rfl) (pss_cons (ps_set (i := 8) sc.nd rfl (by first | exact Or.inl rfl | exact Or.inr rfl) (pe_methP (pv 4) T.cl_Track T.mt_Track_write_round G_Track_write_round (hr.mono (by decide)) pass0 (pa_cons (pv 5) (pa_cons (pe_ix (iIx (P := P) (w := w) (K := K) hr.units) (pv 7) (pe_methP0 (pv 1) T.cl_Stay T.mt_Stay_key G_Stay_key (hr.mono (by decide)) pass0) (fun _ _ => rfl)) (pa_cons (pe_op op_sub (pv 3) (pe_callB (cLen (K := K)) (by rfl) T.z_len (by decide +kernel) (pa_cons (pv 5) pa_nil))) pa_nil)))))
      (pss_one (ps_ret (pe_ix (iIx (P := P) (w := w) (K := K) hr.units) (pv 6) (pv 8) (fun _ _ => rfl))))) pss_nil)
      (pss_cons (ps_asg (pe_callB (cLen (K := K)) (by rfl) T.z_len (by decide +kernel) (pa_cons (pv 5) pa_nil)) (pg_sub (pv 7) (pe_methP0 (pv 1) T.cl_Stay T.mt_Stay_key G_Stay_key (hr.mono (by decide)) pass0) (iSet (P := P) (w := w) hr.units)))
      (pss_cons (ps_expr (eBm (K := K) (pe_bm PySem.F.plainAttrs_list PySem.F.slot_list_append PySem.F.type_list_append mt_append (pv 6) (pa_cons (pv 1) pa_nil))))
      (pss_cons (ps_set (i := 9) sc.nd rfl (by first | exact Or.inl rfl | exact Or.inr rfl) (pe_methP (pv 0) T.cl_Feeder T.mt_Feeder_feed_text G_Feeder_feed_text (hr.mono (by decide)) pass0 (pa_cons (pv 1) (pa_cons (pv 2) pa_nil))))
      (pss_cons (ps_if (pt_cmpR op_isNA (pv 9) pe_non (nomark _)) (pss_one (ps_ret pe_non)) pss_nil)
      (pss_cons (ps_asg (pv 9) (gTupA (K := K) (n := 3) rfl (pgs_cons (pg_name (i := 10) sc.nd rfl (by first | exact Or.inl rfl | exact Or.inr rfl)) (pgs_cons (pg_name (i := 11) sc.nd rfl (by first | exact Or.inl rfl | exact Or.inr rfl)) (pgs_cons (pg_name (i := 1) sc.nd rfl (by first | exact Or.inl rfl | exact Or.inr rfl)) pgs_nil)))))
      (pss_cons (ps_expr (eBm (K := K) (pe_bm PySem.F.plainAttrs_list PySem.F.slot_list_append PySem.F.type_list_append mt_append (pv 5) (pa_cons (pe_tup (pa_cons (pv 10) (pa_cons (pv 11) pa_nil))) pa_nil))))
      (pss_one (ps_expr (pe_methP (pv 4) T.cl_Track T.mt_Track_write G_Track_write_d1 (hr.mono (by decide)) pass0 (pa_cons (pv 10) (pa_cons (pv 11) pa_nil)))))))))))))
      (pss_one (ps_ret (pv 1))))), ?_⟩
    repeat walk_at "rd"
    refine ⟨Nat.zero_le _, fun pa hpa => ?_⟩
    repeat walk_at "rd"
    refine ⟨Nat.zero_le _, fun sa hsa => ?_⟩
    repeat walk_at "rd"
    intro pd H3 hpd s3 nd3 hbut3
    obtain ⟨hsa1, hsa2⟩ := none_of_upd hsa
    obtain ⟨hpd1, hpd2⟩ := none_of_upd hpd
    obtain ⟨hpd3, hpd4⟩ := none_of_upd hpd1
    have D : RwD H f kd tr pl pa sa pd := by
      obtain ⟨_, _, z1, z2, _⟩ := ht
      obtain ⟨⟨dxf, hf⟩, _, kvs, nd, _⟩ := hF
      obtain ⟨ef, hef⟩ := nd.ext
      refine ⟨not_in3 hef z1 z2 hpa, not_in3 hef z1 z2 hsa1, not_in3 hef z1 z2 hpd3, hsa2, hpd4, hpd2, hpa, hsa1, hpd3, fun q => ?_, fun q => ?_, fun q => ?_, ne_of_none hf hpa, ne_of_none hf hsa1, ne_of_none hf hpd3⟩
      · rcases List.mem_cons.mp q with q | q
        · refine ne_of hf z1 (fun e => ?_) q
          injection e with _ _ e
          injection e with e _
          injection e with e _
          exact absurd e (by decide +kernel)
        · exact ne_of hf z2 (fun e => by cases e) (List.mem_singleton.mp q)
      · exact ne_of hf hef (fun e => by cases e) (List.mem_singleton.mp q)
      · rcases List.mem_cons.mp q with q | q
        · exact ne_of hef z1 (fun e => by cases e) q
        · exact ne_of hef z2 (fun e => by cases e) (List.mem_singleton.mp q)
    have s03 : Same H H3 := (Same.new hpa).trans ((Same.new hsa).trans s3)
    have I0 : RwI P w K L z times st H f kd lv kb tr pl ps n pa sa pd 0 (fun _ => st) (fun _ => ([], 0)) sv H3 := ⟨Nat.zero_le _, rfl, fun t h => by omega, fun t _ => hok, Chg.of_same s03, (hF.chg (Chg.of_same (ps := []) s03) (by simp) (by simp)).more (by omega), hst.chg (Chg.of_same (ps := []) s03), by
        have := ht.chg (Chg.of_same (ps := []) s03) (by simp) (by simp)
        simpa [qlist, ones, sumM] using this, ⟨[], s3 _ _ (look_new hsa upd_same), .nil⟩, ⟨[], s3 _ _ upd_same, .nil⟩, ⟨[], nd3, Nat.le_refl _, fun j h => by omega, fun s h => by cases h⟩, fun j k _ h => by omega⟩
    clear s03 hbut3 nd3 s3 hpd hpd1 hpd2 hpd4 hpd3 hsa hsa1 hsa2 hpa
    repeat walk_at "rd"
    refine ⟨fun m σ H' => ∃ i S q sv', m = 88 - i ∧ i ≤ 88 ∧ (∃ a b c d, σ = [some (.ref f), some sv', some (.str z), some (.int (times : Nat)), some (.ref tr), some (.ref pa), some (.ref sa), some (.ref pd), a, b, c, d]) ∧ RwI P w K L z times st H f kd lv kb tr pl ps n pa sa pd i S q sv' H', ⟨88, 0, _, _, sv, rfl, Nat.zero_le _, ⟨_, _, _, _, rfl⟩, I0⟩, ?_⟩
    clear I0
    rintro m σ H1 ⟨i, S, q, sv', rfl, hi, ⟨p8, p9, p10, p11, rfl⟩, I⟩
    obtain ⟨a, dxs, rfl, hst1⟩ := I.stay
    have hlenx : ∃ xs, H1 pa = some (.lst xs) ∧ xs.length = i := by
      obtain ⟨xs, h1, h2⟩ := I.parts
      exact ⟨xs, h1, by rw [h2.length, qlist_len]⟩
    obtain ⟨xs, hxs, hxl⟩ := hlenx
    have qb : ∀ t, t < i → (q t).1.length ≤ 343 * z.length ∧ (q t).2 ≤ 340 * z.length := fun t ht => by
      have h1 := fedL_ok wf (I.b t (by omega)).ok hc (I.chain t ht)
      exact ⟨h1.2.2, h1.2.1⟩
    have qbl : ∀ p ∈ qlist q 0 i, p.1.length ≤ 343 * z.length ∧ p.2 ≤ 340 * z.length := fun p hp => by
      obtain ⟨t, ht, rfl⟩ := List.mem_map.mp hp
      rw [Nat.zero_add]
      exact qb t (List.mem_range.mp ht)
    have hflat : (flat (qlist q 0 i)).length ≤ 343 * z.length * 88 := by
      have h1 := flatten_len (ls := (qlist q 0 i).map fun p : List Nat × Nat => p.1) (c := 343 * z.length) fun l hl => by
        obtain ⟨p, hp, rfl⟩ := List.mem_map.mp hl
        exact (qbl p hp).1
      rw [List.length_map, qlist_len] at h1
      exact Nat.le_trans h1 (Nat.mul_le_mul_left _ hi)
    have hsum : sumM (qlist q 0 i) ≤ 340 * z.length * 88 := by
      have h1 : ∀ l : List (List Nat × Nat), (∀ p ∈ l, p.2 ≤ 340 * z.length) → sumM l ≤ 340 * z.length * l.length := by
        intro l
        induction l with
        | nil => intro _; simp [sumM]
        | cons p r ih =>
          intro h
          have h2 := ih fun x hx => h x (List.mem_cons_of_mem _ hx)
          have h3 := h p List.mem_cons_self
          show p.2 + sumM r ≤ _
          rw [List.length_cons, Nat.mul_succ]
          omega
      have h2 := h1 (qlist q 0 i) fun p hp => (qbl p hp).2
      rw [qlist_len] at h2
      exact Nat.le_trans h2 (Nat.mul_le_mul_left _ hi)
    have hbig : 343 * z.length * 88 ≤ 15100000 := by
      have := Nat.mul_le_mul_left 343 hz
      omega
    have hsb : sumM (qlist q 0 i) < 2 ^ 60 := by
      have := Nat.mul_le_mul_left 340 hz
      omega
    repeat walk_at "rd"
    refine r_ite (fun d1 => ?_) (fun d1 => ?_)
    · have hit : i < times := by omega
      refine ⟨fun σ' H' => ∃ S q sv', (∃ a b c d, σ' = [some (.ref f), some sv', some (.str z), some (.int (times : Nat)), some (.ref tr), some (.ref pa), some (.ref sa), some (.ref pd), a, b, c, d]) ∧ RwI P w K L z times st H f kd lv kb tr pl ps n pa sa pd (i + 1) S q sv' H', fun σ' H' ⟨S2, q2, sv2, e1, e2⟩ => ?_, ?_⟩
      · have hlt : i + 1 ≤ 88 := few (fun j hj => e2.b j (by omega)) e2.ne
        exact ⟨88 - (i + 1), by omega, i + 1, S2, q2, sv2, rfl, hlt, e1, e2⟩
      · obtain ⟨kvs, nd1, kl1, kat, khas⟩ := I.plc
        repeat walk_at "rd"
        refine ⟨_, S i, rfl, I.stay, fun ka H2 s2 nk2 => ?_⟩
        have nd2 := nd1.same s2
        repeat walk_at "rd"
        refine r_inD nd2 nk2 (Nat.le_of_ble_eq_true rfl) ?_
        repeat walk_at "rd"
        have st2 := I.stay.chg (Chg.of_same (ps := []) s2)
        obtain ⟨a2, dx2, ea2, hst2⟩ := st2
        injection ea2 with ea2
        subst ea2
        cases hf : (ndAt kvs (nkStay (S i))).isSome with
        | true =>
          obtain ⟨j, hj, ej⟩ := khas _ hf
          obtain ⟨dxt, xt, z1, z2, z3⟩ := I.trk.chg (Chg.of_same (ps := []) s2) (by simp) (by simp)
          repeat walk_at "rd"
          refine ⟨_, S i, rfl, ⟨_, _, rfl, hst2⟩, fun kb2 H3 s3 nk3 => ?_⟩
          have s13 := s2.trans s3
          have nd3 := nd2.same s3
          have trk3 : TrackAt K H3 tr pl (ps ++ ones (qlist q 0 i)) (n + sumM (qlist q 0 i)) := I.trk.chg (Chg.of_same (ps := []) s13) (by simp) (by simp)
          refine r_ixD2 nd3 nk3 (Nat.le_of_ble_eq_true rfl) (by rw [← ej]; exact kat j hj) ?_
          have hxs3 := s13 _ _ hxs
          repeat walk_at "rd"
          rw [show ((times : Int) - (xs.length : Int)) = ((times - i : Nat) : Int) from by omega]
          obtain ⟨xs', hp1, hp2⟩ := I.parts
          obtain ⟨ys, hy1, hy2⟩ := I.stys
          refine ⟨tr, pl, pa, j, times - i, n + sumM (qlist q 0 i), ps ++ ones (qlist q 0 i), qlist q 0 i, xs', rfl, trk3, s13 _ _ hp1, hp2.mono fun _ _ u => u.chg (Chg.of_same (ps := []) s13), by rw [qlist_len]; exact hj, ?_, by omega, hsb, fun H4 c4 t4 => ?_⟩
          · simp only [List.length_append, ones, List.length_map, qlist_len]; omega
          · have hat : j + (times - i) % ((qlist q 0 i).drop j).length < i := by
              rw [List.length_drop, qlist_len]
              have := Nat.mod_lt (times - i) (show 0 < i - j by omega)
              omega
            have c4' : Chg [kd, tr, pl] H3 H4 := c4.mono (by simp)
            have hy4 := c4'.atN (s13 _ _ hy1) D.s
            obtain ⟨v, hv1, hv2⟩ := All2.get2 (a := S (j + (times - i) % ((qlist q 0 i).drop j).length)) (i := j + (times - i) % ((qlist q 0 i).drop j).length) hy2 (by
              rw [List.getElem?_map, List.getElem?_range hat]
              rfl)
            repeat walk_at "rd"
            refine r_ixL2 (SqL.of hy4) (atI_nat hv1) ?_
            have hrow := row_round I.chain hj ej.symm I.le
            rw [I.s0] at hrow
            refine kS H4 v _ _ _ (ones (qlist q 0 i) ++ [(flat ((qlist q 0 i).drop j), (times - i) / ((qlist q 0 i).drop j).length)] ++ ones (((qlist q 0 i).drop j).take ((times - i) % ((qlist q 0 i).drop j).length))) hrow (I.b _ (Nat.le_of_lt hat)) ((I.chg.trans (Chg.of_same s13)).trans c4')
              (((I.fd.chg (Chg.of_same (ps := []) s13) (by simp) (by simp)).chg c4 D.f1 D.k).more (by have := Nat.mul_le_mul_left z.length (show i ≤ 90 by omega); omega)) ((hv2.chg (Chg.of_same (ps := []) s13)).chg c4) ?_ rfl ?_ ?_
            · rw [← List.append_assoc, ← List.append_assoc, ← Nat.add_assoc, ← Nat.add_assoc]
              exact t4
            · have h1 : ((qlist q 0 i).drop j).length ≤ i := by rw [List.length_drop, qlist_len]; omega
              simp only [List.length_append, List.length_singleton, qlist_len, ones, List.length_map, List.length_take]
              omega
            · intro p hp
              rcases List.mem_append.mp hp with hp | hp
              · rcases List.mem_append.mp hp with hp | hp
                · obtain ⟨p0, hp0, rfl⟩ := List.mem_map.mp hp
                  have := (qbl p0 hp0).1
                  show p0.1.length ≤ _
                  omega
                · rw [List.mem_singleton] at hp
                  rw [hp]
                  exact Nat.le_trans (flat_len_drop _ j) hflat
              · obtain ⟨p0, hp0, rfl⟩ := List.mem_map.mp hp
                have := (qbl p0 (List.mem_of_mem_drop (List.mem_of_mem_take hp0))).1
                show p0.1.length ≤ _
                omega
        | false =>
          have hnot : ∀ j, j < i → S j ≠ S i := fun j hj e => by
            have := kat j hj
            rw [e] at this
            rw [this] at hf
            cases hf
          have hxs2 := s2 _ _ hxs
          repeat walk_at "rd"
          refine ⟨_, S i, rfl, ⟨_, _, rfl, hst2⟩, fun kb2 H3 s3 nk3 => ?_⟩
          have s13 := s2.trans s3
          have nd3 := nd2.same s3
          repeat walk_at "rd"
          refine r_setD2 nd3 nk3 (Nat.le_of_ble_eq_true rfl) (Nat.lt_of_le_of_lt (by omega : kvs.length ≤ 1000) (by decide)) fun H4 b4 _ nd4 => ?_
          obtain ⟨xs', hp1, hp2⟩ := I.parts
          obtain ⟨ys, hy1, hy2⟩ := I.stys
          obtain ⟨ef, hef⟩ := nd3.ext
          have c4 : Chg [kd, tr, pl] H H4 := (I.chg.trans (Chg.of_same s13)).butN b4 D.nd
          have cc4 : Chg [pd] H1 H4 := (Chg.of_same s13).trans (Chg.but b4 hef (by simp))
          have n1 : ∀ {x : Addr}, x ∉ [kd, tr, pl] → tr ∉ [x] ∧ pl ∉ [x] ∧ kd ∉ [x] := fun h => ⟨fun u => h (by rw [List.mem_singleton] at u; simp [u]), fun u => h (by rw [List.mem_singleton] at u; simp [u]), fun u => h (by rw [List.mem_singleton] at u; simp [u])⟩
          have hy4 := cc4.atN hy1 (fun u => D.sd (List.mem_singleton.mp u))
          have hp4 := cc4.atN hp1 (fun u => D.ad (List.mem_singleton.mp u))
          have hst4 := IsStay.chg (I.stay) cc4
          have hyl : ys.length = i := by rw [hy2.length]; simp
          have hpl4 : xs'.length = i := by rw [hp2.length, qlist_len]
          have trk4 := I.trk.chg cc4 (n1 D.d).1 (n1 D.d).2.1
          have fd4 := I.fd.chg cc4 (fun u => D.fd (List.mem_singleton.mp u)) (n1 D.d).2.2
          have hy4b := hy2.mono fun _ _ u => u.chg cc4
          have hp4b := hp2.mono fun _ _ u => u.chg cc4
          repeat walk_at "rd"
          refine r_append hy4 (Nat.lt_of_le_of_lt (by omega : ys.length ≤ 1000) (by decide)) ?_
          have c5 : Chg [kd, tr, pl] H (upd H4 sa (.lst (ys ++ [.ref a]))) := c4.mut D.ns
          have cc5 : Chg [sa] H4 (upd H4 sa (.lst (ys ++ [.ref a]))) := Chg.upd hy4 (by simp)
          have hy5 : (upd H4 sa (.lst (ys ++ [.ref a]))) sa = some (.lst (ys ++ [.ref a])) := upd_same
          generalize upd H4 sa (.lst (ys ++ [.ref a])) = H5 at *
          have hp5 := cc5.atN hp4 (fun u => D.as_ (List.mem_singleton.mp u))
          have hst5 := hst4.chg cc5
          have hy5b : All2 (IsStay K H5) (ys ++ [.ref a]) ((List.range (i + 1)).map S) := by
            rw [List.range_succ, List.map_append]
            exact (hy4b.mono fun _ _ u => u.chg cc5).snoc hst5
          have hp5b := hp4b.mono fun _ _ u => u.chg cc5
          have nd5 := nd4.chg cc5 (fun u => D.sd (List.mem_singleton.mp u).symm)
          have trk5 := trk4.chg cc5 (n1 D.s).1 (n1 D.s).2.1
          have fd5 := fd4.chg cc5 (fun u => D.fs (List.mem_singleton.mp u)) (n1 D.s).2.2
          obtain ⟨dxf, hobj⟩ := fd5.obj
          have hzi : z.length * i ≤ z.length * 88 := Nat.mul_le_mul_left _ hi
          repeat walk_at "rd"
          refine ⟨f, .ref a, kd, lv, L, S i, z, kb + z.length * i, rfl, fd5, by omega, by omega, wf, hst5, (I.b i (Nat.le_refl _)).ok, hc, fun he H6 g6 _ => ?_, fun H6 t o2 n2 st6 sv2 hr g6 fd6 ht6 hsv6 => ?_⟩
          · repeat walk_at "rd"
            have hE := row_endless I.chain hit he
            rw [I.s0] at hE
            exact kN hE H6 (c5.trans (g6.mono (by simp)))
          · have hy6 := g6.atN hy5 (fun u => D.s (by rw [List.mem_singleton] at u; simp [u]))
            have hp6 := g6.atN hp5 (fun u => D.a (by rw [List.mem_singleton] at u; simp [u]))
            repeat walk_at "rd"
            refine ⟨Nat.le_of_ble_eq_true rfl, fun x hx => ?_⟩
            have s7 : Same H6 (upd H6 x (.tup [.str (mkS o2), .int (n2 : Int)])) := Same.new hx
            have hx7 : (upd H6 x (.tup [.str (mkS o2), .int (n2 : Int)])) x = some (.tup [.str (mkS o2), .int (n2 : Int)]) := upd_same
            generalize upd H6 x (.tup [.str (mkS o2), .int (n2 : Int)]) = H7 at *
            have g7 : Chg [kd] H5 H7 := g6.trans (Chg.of_same s7)
            have hp7 := s7 _ _ hp6
            have hy7 := s7 _ _ hy6
            repeat walk_at "rd"
            refine r_append hp7 (Nat.lt_of_le_of_lt (by omega : xs'.length ≤ 1000) (by decide)) ?_
            have c7 : Chg [kd, tr, pl] H H7 := c5.trans (g7.mono (by simp))
            have c8 : Chg [kd, tr, pl] H (upd H7 pa (.lst (xs' ++ [.ref x]))) := c7.mut D.na
            have cc8 : Chg [pa] H7 (upd H7 pa (.lst (xs' ++ [.ref x]))) := Chg.upd hp7 (by simp)
            have hp8 : (upd H7 pa (.lst (xs' ++ [.ref x]))) pa = some (.lst (xs' ++ [.ref x])) := upd_same
            generalize upd H7 pa (.lst (xs' ++ [.ref x])) = H8 at *
            have hkt : tr ∉ [kd] ∧ pl ∉ [kd] := ⟨fun u => D.k (by rw [List.mem_singleton] at u; simp [u]), fun u => D.k (by rw [List.mem_singleton] at u; simp [u])⟩
            have trk8 := (trk5.chg g7 hkt.1 hkt.2).chg cc8 (n1 D.a).1 (n1 D.a).2.1
            have fd8 := (fd6.chg (Chg.of_same (ps := []) s7) (by simp) (by simp)).chg cc8 (fun u => D.fa (List.mem_singleton.mp u)) (n1 D.a).2.2
            have hsv8 := (hsv6.chg (Chg.of_same (ps := []) s7)).chg cc8
            have hy8 := cc8.atN hy7 (fun u => D.as_ (List.mem_singleton.mp u).symm)
            have eq1 : qlist (fun t => if t < i then q t else (o2, n2)) 0 (i + 1) = qlist q 0 i ++ [(o2, n2)] := by
              rw [qlist_succ, Nat.zero_add, if_neg (by omega)]
              congr 1
              exact qlist_congr fun t ht => by rw [if_pos ht]
            have eS1 : (List.range (i + 1)).map (fun t => if t ≤ i then S t else st6) = (List.range (i + 1)).map S := List.map_congr_left fun t ht => by
              rw [if_pos (by have := List.mem_range.mp ht; omega)]
            have hp8b : All2 (IsPair K H8) (xs' ++ [.ref x]) (qlist (fun t => if t < i then q t else (o2, n2)) 0 (i + 1)) := by
              rw [eq1]
              refine (hp5b.mono fun _ _ u => (u.chg g7).chg cc8).snoc ⟨x, rfl, ?_⟩
              exact SqT.of (cc8.prot _ _ rfl hx7)
            obtain ⟨dxt, xt, z1, z2, z3⟩ := trk8
            have hr2 := fedL_ok wf (I.b i (Nat.le_refl _)).ok hc hr
            repeat walk_at "rd"
            refine ⟨tr, pl, mkS o2, n2, 1, n + sumM (qlist q 0 i), ps ++ ones (qlist q 0 i), rfl, ⟨dxt, xt, z1, z2, z3⟩, ?_, ?_, fun H9 c9 t9 => ?_⟩
            · simp only [List.length_append, ones, List.length_map, qlist_len]; omega
            · have h1 := hr2.2.1
              have h2 : (tl z).length = z.length := rfl
              omega
            · have c9' : Chg [kd, tr, pl] H8 H9 := c9.mono (by simp)
              refine ⟨fun t => if t ≤ i then S t else st6, fun t => if t < i then q t else (o2, n2), sv2, ⟨_, _, _, _, rfl⟩, hit, by simp only [Nat.zero_le, if_true]; exact I.s0, fun t ht => ?_, fun t ht => ?_, c8.trans c9', ?_, ?_, ?_, ⟨_, c9.atN hp8 (fun u => D.a (List.mem_cons_of_mem _ u)), hp8b.mono fun _ _ u => u.chg c9⟩, ⟨_, c9.atN hy8 (fun u => D.s (List.mem_cons_of_mem _ u)), ?_⟩, ⟨_, ((nd5.chg g7 (fun u => D.d (by rw [List.mem_singleton] at u; simp [u]))).chg cc8 (fun u => D.ad (List.mem_singleton.mp u).symm)).chg c9 (fun u => D.d (List.mem_cons_of_mem _ u)), ?_, ?_, ?_⟩, ?_⟩
              · by_cases e : t = i
                · subst e
                  simp only [Nat.le_refl, if_true, Nat.lt_irrefl, if_false, show ¬ (t + 1 ≤ t) by omega]
                  exact hr
                · have h1 : t < i := by omega
                  simp only [if_pos h1, if_pos (show t ≤ i by omega), if_pos (show t + 1 ≤ i by omega)]
                  exact I.chain t h1
              · show StB (if t ≤ i then S t else st6)
                split
                · exact I.b t (by assumption)
                · exact fedL_b wf (I.b i (Nat.le_refl _)) hc hr
              · refine (fd8.chg c9 D.f1 D.k).more ?_
                rw [Nat.mul_succ]
                omega
              · show IsStay K H9 sv2 (if i + 1 ≤ i then S (i + 1) else st6)
                rw [if_neg (by omega)]
                exact hsv8.chg c9
              · rw [tl_mkS, Nat.mul_one] at t9
                rw [eq1, sumM_app, show sumM [(o2, n2)] = n2 from by simp [sumM], ← Nat.add_assoc]
                have e2 : ones (qlist q 0 i ++ [(o2, n2)]) = ones (qlist q 0 i) ++ [(o2, 1)] := by
                  unfold ones
                  rw [List.map_append]
                  rfl
                rw [e2, ← List.append_assoc]
                exact t9
              · rw [eS1]
                exact hy5b.mono fun _ _ u => ((u.chg g7).chg cc8).chg c9
              · exact Nat.le_trans (ndPut_len ..) (by omega)
              · intro j hj
                show ndAt _ (nkStay (if j ≤ i then S j else st6)) = _
                rw [if_pos (by omega)]
                by_cases e : j = i
                · rw [e, ndAt_put_same, hxl]
                · have hj2 : j < i := by omega
                  rw [ndAt_put_other _ _ _ _ (fun u => hnot j hj2 (nkStay_inj u))]
                  exact kat j hj2
              · intro s hs
                by_cases e : s = S i
                · exact ⟨i, by omega, by show (if i ≤ i then S i else st6) = s; rw [if_pos (Nat.le_refl _)]; exact e.symm⟩
                · rw [ndAt_put_other _ _ _ _ (fun u => e (nkStay_inj u))] at hs
                  obtain ⟨j, hj, ej⟩ := khas s hs
                  exact ⟨j, by omega, by show (if j ≤ i then S j else st6) = s; rw [if_pos (by omega)]; exact ej⟩
              · intro j k hjk hk
                show (if j ≤ i then S j else st6) ≠ (if k ≤ i then S k else st6)
                rw [if_pos (by omega), if_pos (by omega)]
                by_cases e : k = i
                · rw [e]; exact hnot j (by omega)
                · exact I.ne j k hjk (by omega)
    · have hte : i = times := by
        have := I.le
        omega
      repeat walk_at "rd"
      have hch := chain I.chain 0 i (by omega)
      rw [Nat.zero_add, I.s0, hte] at hch
      rw [← hte] at hch
      refine kS H1 (.ref a) _ _ (S i) (ones (qlist q 0 i)) (by rw [← hte]; exact hch) (I.b i (Nat.le_refl _)) I.chg (I.fd.more (by have := Nat.mul_le_mul_left z.length (show i ≤ 90 by omega); omega)) I.stay I.trk (den_ones _) (by simp [ones, qlist_len]; omega) (fun p hp => ?_)
      unfold ones at hp
      obtain ⟨p0, hp0, rfl⟩ := List.mem_map.mp hp
      have := (qbl p0 hp0).1
      show p0.1.length ≤ _
      omega
end
end OB

namespace OB
open PySem PySem.Spec PyProof.Rows L2
local macro_rules | `(tactic| walk_at "hp") => `(tactic| first
  | assumption | exact upd_same | (refine look_new ?_ ?_ <;> walk_at "hp") | ((refine' look_mut (v := ?lv) ?lq ?lp ?ld); (case lq => walk_at "hp"); (case lp => walk_at "hp"); (case ld => (intro z; cases z))))
local macro_rules | `(tactic| walk_at "rd") => `(tactic| (first
  | (with_reducible first
  | refine r_seq ?_ | refine r_asg ?_ | refine r_gname ?_ | refine r_ret ?_ | refine r_retN ?_ | refine r_next ?_ | refine r_drop ?_ | refine r_if ?_
  | refine r_c ?_ | refine r_op ?_ | refine r_test ?_ | refine r_tb ?_ | refine r_bl ?_ | refine r_and ?_ | refine r_or ?_ | refine r_not ?_
  | refine r_andV ?_ | refine r_orV ?_ | refine r_notV ?_ | refine r_ifE ?_ | refine r_nil ?_ | refine r_cons ?_ | refine r_tup ?_ | refine r_lst ?_ | refine r_cb ?_ | refine r_call ?_ | refine r_sub ?_
  | refine r_addI ?_ | refine r_I0 ?_ | refine r_eqI ?_ | refine r_neI ?_ | refine r_eqS ?_ | refine r_neS ?_ | refine r_inS ?_ | refine r_inS2 ?_ | refine r_notInS2 ?_ | refine r_isNA ?_ | refine r_m1 ?_ | refine r_isstr ?_ | refine r_lc ?_ | refine r_notNA ?_ | refine r_kt ?_ | refine r_chain ?_ | refine r_gcons ?_ | refine r_gnil ?_ | refine r_fld ?_ | refine r_sfld ?_ | refine r_meth ?_ | refine r_sl ?_ | refine r_part ?_ | refine r_nopart ?_ | refine r_int ?_ | refine r_star ?_ | refine r_delL ?_ | refine r_par ?_ | refine r_parAt ?_ | refine r_par3 ?_ | refine r_parAt3 ?_ | refine r_fldaug ?_ | refine r_brk ?_ | refine r_for ?_ | refine r_ienT ?_ | refine r_make ?_ | refine r_bm ?_ | refine r_bm0 ?_ | refine iteT ?_ | refine iteF ?_)
  | ((with_reducible refine' r_var ?he ?_); (case he => rfl))
  | (with_reducible first | refine r_abs ?_ | refine r_max ?_ | refine r_min ?_)
  | ((with_reducible refine' r_lenSq ?hs ?_); (case hs => first | exact .inl (by assumption) | exact .inr (by assumption) | exact .inl (SqL.of (by walk_at "hp")) | exact .inr (SqT.of (by walk_at "hp"))))
  | ((with_reducible refine' r_mulR ?hc ?_); (case hc => decide))
  | ((with_reducible refine' r_mulL ?hc ?_); (case hc => decide))
  | ((with_reducible refine' r_mod ?hc ?_); (case hc => first | decide | assumption | omega))
  | ((with_reducible refine' r_div ?hc ?_); (case hc => first | decide | assumption | (constructor <;> first | assumption | omega)))
  | ((with_reducible refine' r_pow ?hc ?_); (case hc => first | decide | (refine ⟨by decide, by decide, by omega⟩)))
  | ((with_reducible refine' r_ixL2 ?hs ?he ?_); (case hs => exact SqL.of (by walk_at "hp")); (case he => first | rfl | exact atI0 | exact atI1 | exact atI2 | exact atI3))
  | ((with_reducible refine' r_ixT2 ?hs ?he ?_); (case hs => first | assumption | exact SqT.of (by walk_at "hp")); (case he => first | rfl | exact atI0 | exact atI1 | exact atI2 | exact atI3))
  | ((with_reducible refine' r_setL2 ?hs ?he ?_); (case hs => walk_at "hp"); (case he => rfl))
  | ((with_reducible refine' r_gtup ?hs ?he ?_); (case hs => first | assumption | exact SqT.of (by walk_at "hp")); (case he => rfl))
  | ((with_reducible refine' r_fldAt ?hs ?hc ?hn ?hl ?_); (case hs => walk_at "hp"); (case hc => walk_at "cl"); (case hn => walk_at "cl"); (case hl => rfl))
  | ((with_reducible refine' r_sfldAt ?hs ?hc ?hn ?hl ?_); (case hs => walk_at "hp"); (case hc => walk_at "cl"); (case hn => walk_at "cl"); (case hl => exact Nat.le_of_ble_eq_true rfl))
  | ((with_reducible refine' r_aug ?he ?_); (case he => rfl))
  | ((with_reducible refine' r_starAt ?hs ?_); (case hs => first | exact .inl (by assumption) | exact .inr (by assumption) | exact .inl (SqT.of (by walk_at "hp")) | exact .inr (SqL.of (by walk_at "hp"))))
  | ((with_reducible refine' r_fldaugAt ?hs ?hc ?hn ?hl ?_); (case hs => walk_at "hp"); (case hc => walk_at "cl"); (case hn => walk_at "cl"); (case hl => rfl))
  | ((with_reducible refine' r_methAt ?hs ?hl ?_); (case hs => walk_at "hp"); (case hl => rfl))
  | ((with_reducible refine' r_tyL ?hs ?_); (case hs => first | assumption | exact SqL.of (by walk_at "hp")))
  | ((with_reducible refine' r_ifT ?h ?_); (case h => rfl))
  | ((with_reducible refine' r_ifF ?h ?_); (case h => rfl))
  | ((with_reducible first | refine' r_isiInt ?hd ?_ | refine' r_isiBool ?hd ?_ | refine' r_isiStr ?hd ?_ | refine' r_isiTup ?hd ?_ | refine' r_isiLst ?hd ?_); (case hd => assumption))
  ))

local macro_rules | `(tactic| walk_at "cl") => `(tactic| assumption)
def endOf (L : Loop) (st : Stay) : List Nat := if st.brk = true then [] else L.ends.getD st.mark []
def wayOf (st : Stay) : Str := if st.brk = true then "break" else "end"
def spFinish (P : Program) (w : World) (K : PySem.W.Frag) : Sp := fun vs H Q _ => ∃ f sv kd tr pl lv L st, ∃ kb : Nat, ∃ ps, ∃ n : Nat, vs = [.ref f, sv, .ref tr] ∧ FeederAt P w K H f kd lv L kb ∧ TrackAt K H tr pl ps n ∧ ps.length ≤ 790000 ∧ WF L ∧ IsStay K H sv st ∧ StB st ∧
  (Endl L 1 st → ∀ H', Chg [tr, pl] H H' → Q .non H') ∧
  (∀ H' o n' st' qs, Runs L 1 st o n' st' → Chg [tr, pl] H H' → TrackAt K H' tr pl (ps ++ qs) (n + n') → den qs = o ++ endOf L st' → qs.length ≤ 1000 → (∀ p ∈ qs, p.1.length ≤ 400) → Q (.str (wayOf st')) H')
section
variable {P : Program} {w : World} {K : PySem.W.Frag} {mg : Str → Option Value} {base : Heap}
theorem ok_finish (T : Txt w K mg) : Prom P w K mg base CX0 7 (a_Feeder_finish K) p_Feeder_finish [] (spFinish P w K) := by
  obtain ⟨fd, F⟩ := T.d_Feeder_finish
  have sc := sc_Feeder_finish
  have c1 := T.cl_Feeder
  have c2 := T.na_Feeder_loop
  have c3 := T.cl_Stay
  have c4 := T.na_Stay_is_broken
  have c5 := T.na_Stay_mark
  have G_make_passes := ok_make_passes (P := P) (base := base) T
  have G_Track_write_d1 := ok_write2 (P := P) (base := base) T
  refine prom0 F sc (bn_Feeder_finish F) (fun vs H Q E h => ?_) (fun cdv A outer s H vs Q E hr h => ?_)
  · obtain ⟨f, sv, kd, tr, pl, lv, L, st, kb, ps, n, rfl, _⟩ := h
    rfl
  · obtain ⟨f, sv, kd, tr, pl, lv, L, st, kb, ps, n, rfl, hF, ht, hps, wf, hst, hb, kN, kS⟩ := h
    refine ⟨_, (pss_cons (ps_set (i := 1) sc.nd rfl (by first | exact Or.inl rfl | exact Or.inr rfl) (pe_callP G_make_passes (hr.mono (by decide)) T.g_make_passes pass0 (pa_cons (eFld (K := K) (pv 0)) (pa_cons (pv 1) (pa_cons pe_int (pa_cons pe_non (pa_cons (pv 2) pa_nil)))))))
      (pss_cons (ps_if (pt_cmpR op_isNA (pv 1) pe_non (nomark _)) (pss_one (ps_ret pe_non)) pss_nil)
      (pss_cons (ps_if (pt_val (eFld (K := K) (pv 1))) (pss_one (ps_ret (pe_ks rfl T.c_BREAK_WAY))) pss_nil)
      (pss_cons (ps_expr (pe_methP (pv 2) T.cl_Track T.mt_Track_write G_Track_write_d1 (hr.mono (by decide)) pass0 (pa_cons (pe_ix (iIx (P := P) (w := w) (K := K) hr.units) (pe_ix (iIx (P := P) (w := w) (K := K) hr.units) (eFld (K := K) (pv 0)) pe_int (fun _ _ => rfl)) (eFld (K := K) (pv 1)) (fun _ _ => rfl)) (pa_cons pe_int pa_nil))))
      (pss_one (ps_ret (pe_ks rfl T.c_END_WAY))))))), ?_⟩
    obtain ⟨⟨dxf, hf⟩, hdp, _⟩ := hF
    have hok3 : StOk 3 st := ⟨hb.ok.mark, hb.ok.ltr, Nat.le_trans hb.ok.len (by decide)⟩
    have hfn : f ∉ [tr, pl] := by
      obtain ⟨_, _, z1, z2, _⟩ := ht
      intro q
      rcases List.mem_cons.mp q with q | q
      · refine ne_of hf z1 (fun e => ?_) q
        injection e with _ _ e
        injection e with e _
        injection e with e _
        exact absurd e (by decide +kernel)
      · exact ne_of hf z2 (fun e => by cases e) (List.mem_singleton.mp q)
    repeat walk_at "rd"
    refine ⟨lv, sv, tr, pl, L, st, 1, none, ps, n, 340, 3, rfl, hdp, wf.okL, hst, ht, by decide, bnd wf (by decide) hok3, by decide, by decide, by omega, fun _ he H1 g1 => ?_, fun H1 v n' qs g1 hv trk hlv hnone _ hden hql => ?_⟩
    · repeat walk_at "rd"
      exact kN he H1 g1
    · obtain ⟨hend, rfl⟩ := hnone rfl
      have hruns : Runs L 1 st (outs L st n') n' (itS L st n') := ⟨hlv, hend, rfl, rfl⟩
      have hf1 := g1.atN hf hfn
      obtain ⟨a, dxs, rfl, hst1⟩ := hv
      rw [prefQ_len] at hql
      have pl1 : ∀ p ∈ prefQ L st n', p.1.length ≤ 103 := fun p hp => by
        obtain ⟨i, hi, rfl⟩ := List.mem_map.mp hp
        have hi2 := List.mem_range.mp hi
        have h1 := outAt_len wf.okL st i
        have h2 := (itS_ok wf (by decide) hok3 i fun t ht => hlv t (by omega)).len
        show (outAt L st i).length ≤ 103
        omega
      repeat walk_at "rd"
      refine r_iteb (fun hbk => ?_) (fun hbk => ?_)
      · repeat walk_at "rd"
        have := kS H1 _ n' _ (prefQ L st n') hruns g1 trk (by rw [den_prefQ]; unfold endOf; rw [if_pos hbk, List.append_nil]) (by rw [prefQ_len]; omega) (fun p hp => by have := pl1 p hp; omega)
        unfold wayOf at this
        rw [if_pos hbk] at this
        exact this
      · have hmark := (itS_ok wf (by decide) hok3 n' hlv).mark
        have hdp1 := dp_chg g1 (tup_loop L) hdp
        cases hdp1 with
        | tup hS hA => cases hA with
          | cons q1 hA => cases hA with
            | cons q2 hA => cases hA with
              | nil =>
                cases q2 with
                | tup hS2 hA2 =>
                  have hei : L.ends[(itS L st n').mark]? = some (L.ends.getD (itS L st n').mark []) := by
                    rw [List.getD_eq_getElem?_getD, List.getElem?_eq_getElem (by rw [wf.ends]; exact hmark)]
                    rfl
                  obtain ⟨ev, hev, hed⟩ := DpAll.get2 (i := (itS L st n').mark) (d := endD (L.ends.getD (itS L st n').mark [])) hA2 (by rw [List.getElem?_map, hei]; rfl)
                  cases hed
                  have hel := (wf.end_ _ (List.mem_of_getElem? hei)).1
                  obtain ⟨dxt, xt, z1, z2, z3⟩ := trk
                  repeat walk_at "rd"
                  refine r_ixT2 hS2 (atI_nat hev) ?_
                  repeat walk_at "rd"
                  refine ⟨tr, pl, mkS (L.ends.getD (itS L st n').mark []), 0, 1, n + n', ps ++ prefQ L st n', rfl, ⟨dxt, xt, z1, z2, z3⟩, by rw [List.length_append, prefQ_len]; omega, by decide, fun H2 g2 t2 => ?_⟩
                  rw [tl_mkS, Nat.zero_mul, Nat.add_zero, List.append_assoc] at t2
                  repeat walk_at "rd"
                  have := kS H2 _ n' _ (prefQ L st n' ++ [(L.ends.getD (itS L st n').mark [], 1)]) hruns (g1.trans g2) t2 (by
                    rw [den_app, den_prefQ, den_one]
                    unfold endOf
                    rw [if_neg (by rw [hbk]; decide)]
                    simp) (by rw [List.length_append, prefQ_len, List.length_singleton]; omega) (fun p hp => by
                    rcases List.mem_append.mp hp with h | h
                    · have := pl1 p h; omega
                    · rw [List.mem_singleton] at h
                      rw [h]
                      show (L.ends.getD (itS L st n').mark []).length ≤ 400
                      omega)
                  unfold wayOf at this
                  rw [if_neg (by rw [hbk]; decide)] at this
                  exact this
end
end OB

namespace OB
open PySem PySem.Spec PyProof.Rows L2
local macro_rules | `(tactic| walk_at "hp") => `(tactic| first
  | assumption | exact upd_same | (refine look_new ?_ ?_ <;> walk_at "hp") | ((refine' look_mut (v := ?lv) ?lq ?lp ?ld); (case lq => walk_at "hp"); (case lp => walk_at "hp"); (case ld => (intro z; cases z))))
local macro_rules | `(tactic| walk_at "rd") => `(tactic| (first
  | (with_reducible first
  | refine r_seq ?_ | refine r_asg ?_ | refine r_gname ?_ | refine r_ret ?_ | refine r_retN ?_ | refine r_next ?_ | refine r_drop ?_ | refine r_if ?_
  | refine r_c ?_ | refine r_op ?_ | refine r_test ?_ | refine r_tb ?_ | refine r_bl ?_ | refine r_and ?_ | refine r_or ?_ | refine r_not ?_
  | refine r_andV ?_ | refine r_orV ?_ | refine r_notV ?_ | refine r_ifE ?_ | refine r_nil ?_ | refine r_cons ?_ | refine r_tup ?_ | refine r_lst ?_ | refine r_cb ?_ | refine r_call ?_ | refine r_sub ?_
  | refine r_addI ?_ | refine r_I0 ?_ | refine r_eqI ?_ | refine r_neI ?_ | refine r_eqS ?_ | refine r_neS ?_ | refine r_inS ?_ | refine r_inS2 ?_ | refine r_notInS2 ?_ | refine r_isNA ?_ | refine r_m1 ?_ | refine r_isstr ?_ | refine r_lc ?_ | refine r_notNA ?_ | refine r_kt ?_ | refine r_chain ?_ | refine r_gcons ?_ | refine r_gnil ?_ | refine r_fld ?_ | refine r_sfld ?_ | refine r_meth ?_ | refine r_sl ?_ | refine r_part ?_ | refine r_nopart ?_ | refine r_int ?_ | refine r_star ?_ | refine r_delL ?_ | refine r_par ?_ | refine r_parAt ?_ | refine r_par3 ?_ | refine r_parAt3 ?_ | refine r_fldaug ?_ | refine r_brk ?_ | refine r_for ?_ | refine r_ienT ?_ | refine r_make ?_ | refine r_bm ?_ | refine r_bm0 ?_ | refine iteT ?_ | refine iteF ?_)
  | ((with_reducible refine' r_var ?he ?_); (case he => rfl))
  | (with_reducible first | refine r_abs ?_ | refine r_max ?_ | refine r_min ?_)
  | ((with_reducible refine' r_lenSq ?hs ?_); (case hs => first | exact .inl (by assumption) | exact .inr (by assumption) | exact .inl (SqL.of (by walk_at "hp")) | exact .inr (SqT.of (by walk_at "hp"))))
  | ((with_reducible refine' r_mulR ?hc ?_); (case hc => decide))
  | ((with_reducible refine' r_mulL ?hc ?_); (case hc => decide))
  | ((with_reducible refine' r_mod ?hc ?_); (case hc => first | decide | assumption | omega))
  | ((with_reducible refine' r_div ?hc ?_); (case hc => first | decide | assumption | (constructor <;> first | assumption | omega)))
  | ((with_reducible refine' r_pow ?hc ?_); (case hc => first | decide | (refine ⟨by decide, by decide, by omega⟩)))
  | ((with_reducible refine' r_ixL2 ?hs ?he ?_); (case hs => exact SqL.of (by walk_at "hp")); (case he => first | rfl | exact atI0 | exact atI1 | exact atI2 | exact atI3))
  | ((with_reducible refine' r_ixT2 ?hs ?he ?_); (case hs => first | assumption | exact SqT.of (by walk_at "hp")); (case he => first | rfl | exact atI0 | exact atI1 | exact atI2 | exact atI3))
  | ((with_reducible refine' r_setL2 ?hs ?he ?_); (case hs => walk_at "hp"); (case he => rfl))
  | ((with_reducible refine' r_gtup ?hs ?he ?_); (case hs => first | assumption | exact SqT.of (by walk_at "hp")); (case he => rfl))
  | ((with_reducible refine' r_fldAt ?hs ?hc ?hn ?hl ?_); (case hs => walk_at "hp"); (case hc => walk_at "cl"); (case hn => walk_at "cl"); (case hl => rfl))
  | ((with_reducible refine' r_sfldAt ?hs ?hc ?hn ?hl ?_); (case hs => walk_at "hp"); (case hc => walk_at "cl"); (case hn => walk_at "cl"); (case hl => exact Nat.le_of_ble_eq_true rfl))
  | ((with_reducible refine' r_aug ?he ?_); (case he => rfl))
  | ((with_reducible refine' r_starAt ?hs ?_); (case hs => first | exact .inl (by assumption) | exact .inr (by assumption) | exact .inl (SqT.of (by walk_at "hp")) | exact .inr (SqL.of (by walk_at "hp"))))
  | ((with_reducible refine' r_fldaugAt ?hs ?hc ?hn ?hl ?_); (case hs => walk_at "hp"); (case hc => walk_at "cl"); (case hn => walk_at "cl"); (case hl => rfl))
  | ((with_reducible refine' r_methAt ?hs ?hl ?_); (case hs => walk_at "hp"); (case hl => rfl))
  | ((with_reducible refine' r_tyL ?hs ?_); (case hs => first | assumption | exact SqL.of (by walk_at "hp")))
  | ((with_reducible refine' r_ifT ?h ?_); (case h => rfl))
  | ((with_reducible refine' r_ifF ?h ?_); (case h => rfl))
  | ((with_reducible first | refine' r_isiInt ?hd ?_ | refine' r_isiBool ?hd ?_ | refine' r_isiStr ?hd ?_ | refine' r_isiTup ?hd ?_ | refine' r_isiLst ?hd ?_); (case hd => assumption))
  ))

local macro_rules | `(tactic| walk_at "cl") => `(tactic| assumption)
abbrev RepC (K : PySem.W.Frag) : Addr := He.ga K "Repeats"
/-- a Repeats with these pairs -/
def RepAt (K : PySem.W.Frag) (H : Hp) (a rl : Addr) (rs : List (List Nat × Nat)) : Prop := ∃ dx xs, H a = some (.ins (RepC K) dx [("runs", .ref rl)]) ∧ H rl = some (.lst xs) ∧ All2 (IsPair K H) xs rs
theorem RepAt.chg {K : PySem.W.Frag} {qs : List Addr} {H H' : Hp} {a rl : Addr} {rs : List (List Nat × Nat)} (h : RepAt K H a rl rs) (c : Chg qs H H') (h2 : rl ∉ qs) : RepAt K H' a rl rs :=
  let ⟨dx, xs, e1, e2, e3⟩ := h
  ⟨dx, xs, c.prot _ _ rfl e1, c.atN e2 h2, e3.mono fun _ _ q => q.chg c⟩
def tsum (rs : List (List Nat × Nat)) : Nat := (rs.map fun p => p.1.length).sum
theorem tsum_snoc (rs : List (List Nat × Nat)) (p : List Nat × Nat) : tsum (rs ++ [p]) = tsum rs + p.1.length := by
  unfold tsum
  rw [List.map_append, List.sum_append]
  simp
theorem tsum_take (rs : List (List Nat × Nat)) (i : Nat) : tsum (rs.take i) ≤ tsum rs := by
  have h : tsum rs = tsum (rs.take i) + tsum (rs.drop i) := by
    unfold tsum
    rw [← List.sum_append, ← List.map_append, List.take_append_drop]
  omega
def spRunLoop (K : PySem.W.Frag) : Sp := fun vs H Q _ => ∃ lv rp rl tr pl L, ∃ rs ps, ∃ m N B : Nat, vs = [lv, .ref rp, .int m, .ref tr] ∧ Dp K H lv (loopD L) ∧ WF L ∧ RepAt K H rp rl rs ∧ rl ≠ pl ∧ m < 4 ∧ TrackAt K H tr pl ps N ∧
  (∀ p ∈ rs, p.1.length ≤ B ∧ ∀ c ∈ p.1, c ∈ lts) ∧ B ≤ 500 ∧ tsum rs * 90 ≤ 900000 ∧ ps.length + rs.length * 200 ≤ 600000 ∧
  (FedE L ⟨m, [], false⟩ (den rs) ∨ (∃ o n st1, FedL L ⟨m, [], false⟩ (den rs) o n st1 ∧ Endl L 1 st1) → ∀ H', Chg [tr, pl] H H' → Q .non H') ∧
  (∀ H' o n st1 o2 n2 st2 qs, FedL L ⟨m, [], false⟩ (den rs) o n st1 → Runs L 1 st1 o2 n2 st2 → Chg [tr, pl] H H' → TrackAt K H' tr pl (ps ++ qs) (N + n + n2) → den qs = o ++ o2 ++ endOf L st2 → qs.length ≤ rs.length * 200 + 1000 → (∀ p ∈ qs, p.1.length ≤ 343 * B * 88 + 400) → Q (.str (wayOf st2)) H')
section
variable {P : Program} {w : World} {K : PySem.W.Frag} {mg : Str → Option Value} {base : Heap}
theorem ok_run_loop_far (T : Txt w K mg) : Prom P w K mg base CX0 10 (a_run_loop_far K) p_run_loop_far [] (spRunLoop K) := by
  obtain ⟨fd, F⟩ := T.d_run_loop_far
  have sc := sc_run_loop_far
  have c1 := T.cl_Feeder
  have c2 := T.cl_Repeats
  have c3 := T.na_Repeats_runs
  have G_Feeder_init := ok_Feeder (P := P) (base := base) T
  have G_Stay_init_d1 := ok_Stay2 (P := P) (base := base) T
  have G_Feeder_feed_row := ok_feed_row (P := P) (base := base) T
  have G_Feeder_finish := ok_finish (P := P) (base := base) T
  refine prom0 F sc (bn_run_loop_far F) (fun vs H Q E h => ?_) (fun cdv A outer s H vs Q E hr h => ?_)
  · obtain ⟨lv, rp, rl, tr, pl, L, rs, ps, m, N, B, rfl, _⟩ := h
    rfl
  · obtain ⟨lv, rp, rl, tr, pl, L, rs, ps, m, N, B, rfl, hd, wf, hrep, hrp, hm, ht, hrs, hB, hts, hlen, kN, kS⟩ := h
    refine ⟨_, (pss_cons (ps_parA (i := 4) (j := 5) rfl sc.nd (pa_cons (pe_makeP T.mk_Feeder G_Feeder_init (hr.mono (by decide)) T.g_Feeder pass0 (pa_cons (pv 0) pa_nil)) (pa_cons (pe_makeP T.mk_Stay G_Stay_init_d1 (hr.mono (by decide)) T.g_Stay pass0 (pa_cons (pv 2) (pa_cons pe_str pa_nil))) pa_nil)))
      (pss_cons (ps_for PassesOwn.never rfl (piA (K := K) (eFld (K := K) (pv 1))) (gTupA (K := K) (n := 2) rfl (pgs_cons (pg_name (i := 6) sc.nd rfl (by first | exact Or.inl rfl | exact Or.inr rfl)) (pgs_cons (pg_name (i := 7) sc.nd rfl (by first | exact Or.inl rfl | exact Or.inr rfl)) pgs_nil))) (pss_cons (ps_set (i := 5) sc.nd rfl (by first | exact Or.inl rfl | exact Or.inr rfl) (pe_methP (pv 4) T.cl_Feeder T.mt_Feeder_feed_row G_Feeder_feed_row (hr.mono (by decide)) pass0 (pa_cons (pv 5) (pa_cons (pv 6) (pa_cons (pv 7) (pa_cons (pv 3) pa_nil))))))
      (pss_one (ps_if (pt_cmpR op_isNA (pv 5) pe_non (nomark _)) (pss_one (ps_ret pe_non)) pss_nil))))
      (pss_one (ps_ret (pe_methP (pv 4) T.cl_Feeder T.mt_Feeder_finish G_Feeder_finish (hr.mono (by decide)) pass0 (pa_cons (pv 5) (pa_cons (pv 3) pa_nil))))))), ?_⟩
    repeat walk_at "rd"
    intro f dxf hf hdxf hnef
    obtain ⟨s1, hf1⟩ := mk_new (C := He.ga K "Feeder") hf hdxf hnef
    generalize upd (upd H dxf (.own f)) f (.ins (He.ga K "Feeder") dxf []) = H1 at *
    refine ⟨f, dxf, lv, L, rfl, hf1, dp_same s1 hd, fun H2 kd g2 hkd fd2 => ⟨rfl, ?_⟩⟩
    have s2 : Same H H2 := (Chg.less (ps := []) (Chg.of_same s1) g2 hf).same
    repeat walk_at "rd"
    intro x dx hx hdx hne
    obtain ⟨s3, hx3⟩ := mk_new (C := He.ga K "Stay") hx hdx hne
    generalize upd (upd H2 dx (.own x)) x (.ins (He.ga K "Stay") dx []) = H3 at *
    refine ⟨x, dx, m, "", false, rfl, hx3, rfl, ?_⟩
    rw [show tl ("" : Str) = [] from by decide +kernel]
    have s4 : Same H2 (upd H3 x (.ins (StayC K) dx (stayFs ⟨m, [], false⟩))) := Same.mut s3 hx
    have hx4 : IsStay K (upd H3 x (.ins (StayC K) dx (stayFs ⟨m, [], false⟩))) (.ref x) ⟨m, [], false⟩ := ⟨x, dx, rfl, upd_same⟩
    generalize upd H3 x (.ins (StayC K) dx (stayFs ⟨m, [], false⟩)) = H4 at *
    have s04 := s2.trans s4
    have fd4 := fd2.chg (Chg.of_same (ps := []) s4) (by simp) (by simp)
    have ht4 := ht.chg (Chg.of_same (ps := []) s04) (by simp) (by simp)
    obtain ⟨dxr, xs, hr1, hr2, hr3⟩ := hrep
    have hr1' := s04 _ _ hr1
    have hr2' := s04 _ _ hr2
    have hkd0 := none_of_same s1 hkd
    have hrl : rl ∉ [kd, tr, pl] := by
      obtain ⟨_, _, z1, z2, _⟩ := ht
      intro q
      rcases List.mem_cons.mp q with q | q
      · exact ne_of_none hr2 hkd0 q
      · rcases List.mem_cons.mp q with q | q
        · exact ne_of hr2 z1 (fun e => by cases e) q
        · exact hrp (List.mem_singleton.mp q)
    have hxl : xs.length = rs.length := hr3.length
    repeat walk_at "rd"
    refine r_iany_l ?_
    repeat walk_at "rd"
    refine r_forL (xs := xs) (SqL.of hr2') (fun i σ H' => ∃ st1 sv1 o, ∃ n : Nat, ∃ qs, (∃ a b, σ = [some lv, some (.ref rp), some (.int (m : Nat)), some (.ref tr), some (.ref f), some sv1, a, b]) ∧ FedL L ⟨m, [], false⟩ (den (rs.take i)) o n st1 ∧ StB st1 ∧ Chg [tr, pl] H H' ∧ FeederAt P w K H' f kd lv L (tsum (rs.take i) * 90) ∧ IsStay K H' sv1 st1 ∧
      TrackAt K H' tr pl (ps ++ qs) (N + n) ∧ den qs = o ∧ qs.length ≤ 200 * i ∧ (∀ p ∈ qs, p.1.length ≤ 343 * B * 88) ∧ H' rl = some (.lst xs) ∧ i ≤ rs.length)
      ⟨⟨m, [], false⟩, .ref x, [], 0, [], ⟨_, _, rfl⟩, .nil _, ⟨⟨hm, fun c h => (by cases h), Nat.zero_le _⟩, fun h => (by cases h)⟩, Chg.of_same s04, fd4.more (by omega), hx4, by simpa using ht4, rfl, Nat.le_refl _, fun p h => (by cases h), hr2', Nat.zero_le _⟩
      (fun i σ H' _ p => ?_) (fun i y σ H5 hy p => ?_) (fun σ H5 p => ?_)
    · obtain ⟨_, _, _, _, _, _, _, _, _, _, _, _, _, _, _, h, _⟩ := p
      exact SqL.of h
    · obtain ⟨st1, sv1, o, n, qs, ⟨a6, a7, rfl⟩, hl, hb1, g5, fd5, hst5, ht5, hden, hql, hqp, hr5, hi5⟩ := p
      obtain ⟨p, hp1, hp2⟩ := hr3.get hy
      have hi : i < rs.length := (List.getElem?_eq_some_iff.mp hp1).1
      have hpm := hrs p (List.mem_of_getElem? hp1)
      obtain ⟨ta, rfl, hta⟩ := hp2.chg g5
      obtain ⟨dxf5, hobj⟩ := fd5.obj
      have htk : tsum (rs.take (i + 1)) = tsum (rs.take i) + p.1.length := by rw [take_snoc hp1, tsum_snoc]
      have htt := tsum_take rs (i + 1)
      have hdn : den (rs.take (i + 1)) = den (rs.take i) ++ rep p.2 p.1 := by
        rw [take_snoc hp1, den_app]
        congr 1
        exact den_one _ _
      repeat walk_at "rd"
      refine ⟨f, sv1, kd, tr, pl, lv, L, st1, mkS p.1, p.2, tsum (rs.take i) * 90, ps ++ qs, N + n, rfl, fd5, ht5, by rw [mkS_len]; omega, by rw [mkS_len]; omega, by rw [List.length_append]; omega, wf, hst5, hb1, hpm.2, fun he H6 g6 => ?_, fun H6 v o2 n2 st2 qs2 hr2 hb2 g6 fd6 hv6 ht6 hden6 hql6 hqp6 => ?_⟩
      · repeat walk_at "rd"
        refine kN (.inl ?_) H6 ((Chg.less (ps := [tr, pl]) g5 g6 hkd0))
        have h1 := (FedE.app hl he).more (den (rs.drop (i + 1)))
        rw [tl_mkS, ← hdn, ← den_app, List.take_append_drop] at h1
        exact h1
      · obtain ⟨a8, dx8, rfl, hst8⟩ := hv6
        repeat walk_at "rd"
        rw [tl_mkS] at hr2
        rw [mkS_len] at fd6 hqp6
        refine ⟨st2, .ref a8, o ++ o2, n + n2, qs ++ qs2, ⟨_, _, rfl⟩, by rw [hdn]; exact hl.app hr2, hb2, Chg.less (ps := [tr, pl]) g5 g6 hkd0, by rw [htk, Nat.add_mul]; exact fd6, ⟨a8, dx8, rfl, hst8⟩, by rw [← List.append_assoc, ← Nat.add_assoc]; exact ht6, by rw [den_app, hden, hden6], by rw [List.length_append]; omega, fun p' hp' => ?_, g6.atN hr5 hrl, hi⟩
        rcases List.mem_append.mp hp' with h | h
        · exact hqp p' h
        · have h1 := hqp6 p' h
          have h2 : 343 * p.1.length * 88 ≤ 343 * B * 88 := Nat.mul_le_mul_right _ (Nat.mul_le_mul_left _ hpm.1)
          omega
    · obtain ⟨st1, sv1, o, n, qs, ⟨a6, a7, rfl⟩, hl, hb1, g5, fd5, hst5, ht5, hden, hql, hqp, hr5, hi5⟩ := p
      rw [hxl, List.take_length] at hl
      obtain ⟨dxf5, hobj⟩ := fd5.obj
      repeat walk_at "rd"
      refine ⟨f, sv1, kd, tr, pl, lv, L, st1, _, ps ++ qs, N + n, rfl, fd5, ht5, by rw [List.length_append]; omega, wf, hst5, hb1, fun he H6 g6 => ?_, fun H6 o2 n2 st2 qs2 hr2 g6 ht6 hden6 hql6 hqp6 => ?_⟩
      · exact kN (.inr ⟨o, n, st1, hl, he⟩) H6 (g5.trans g6)
      · refine kS H6 o n st1 o2 n2 st2 (qs ++ qs2) hl hr2 (g5.trans g6) (by rw [← List.append_assoc]; exact ht6) (by rw [den_app, hden, hden6, List.append_assoc]) (by rw [List.length_append]; omega) fun p' hp' => ?_
        rcases List.mem_append.mp hp' with h | h
        · have := hqp p' h
          omega
        · have := hqp6 p' h
          omega
end
end OB

namespace OB
open PySem PySem.Spec PyProof.Rows L2
local macro_rules | `(tactic| walk_at "hp") => `(tactic| first
  | assumption | exact upd_same | (refine look_new ?_ ?_ <;> walk_at "hp") | ((refine' look_mut (v := ?lv) ?lq ?lp ?ld); (case lq => walk_at "hp"); (case lp => walk_at "hp"); (case ld => (intro z; cases z))))
local macro_rules | `(tactic| walk_at "rd") => `(tactic| (first
  | (with_reducible first
  | refine r_seq ?_ | refine r_asg ?_ | refine r_gname ?_ | refine r_ret ?_ | refine r_retN ?_ | refine r_next ?_ | refine r_drop ?_ | refine r_if ?_
  | refine r_c ?_ | refine r_op ?_ | refine r_test ?_ | refine r_tb ?_ | refine r_bl ?_ | refine r_and ?_ | refine r_or ?_ | refine r_not ?_
  | refine r_andV ?_ | refine r_orV ?_ | refine r_notV ?_ | refine r_ifE ?_ | refine r_nil ?_ | refine r_cons ?_ | refine r_tup ?_ | refine r_lst ?_ | refine r_cb ?_ | refine r_call ?_ | refine r_sub ?_
  | refine r_addI ?_ | refine r_I0 ?_ | refine r_eqI ?_ | refine r_neI ?_ | refine r_eqS ?_ | refine r_neS ?_ | refine r_inS ?_ | refine r_inS2 ?_ | refine r_notInS2 ?_ | refine r_isNA ?_ | refine r_m1 ?_ | refine r_isstr ?_ | refine r_lc ?_ | refine r_notNA ?_ | refine r_kt ?_ | refine r_chain ?_ | refine r_gcons ?_ | refine r_gnil ?_ | refine r_fld ?_ | refine r_sfld ?_ | refine r_meth ?_ | refine r_sl ?_ | refine r_part ?_ | refine r_nopart ?_ | refine r_int ?_ | refine r_star ?_ | refine r_delL ?_ | refine r_par ?_ | refine r_parAt ?_ | refine r_par3 ?_ | refine r_parAt3 ?_ | refine r_fldaug ?_ | refine r_brk ?_ | refine r_for ?_ | refine r_ienT ?_ | refine r_make ?_ | refine r_bm ?_ | refine r_bm0 ?_ | refine iteT ?_ | refine iteF ?_)
  | ((with_reducible refine' r_var ?he ?_); (case he => rfl))
  | (with_reducible first | refine r_abs ?_ | refine r_max ?_ | refine r_min ?_)
  | ((with_reducible refine' r_lenSq ?hs ?_); (case hs => first | exact .inl (by assumption) | exact .inr (by assumption) | exact .inl (SqL.of (by walk_at "hp")) | exact .inr (SqT.of (by walk_at "hp"))))
  | ((with_reducible refine' r_mulR ?hc ?_); (case hc => decide))
  | ((with_reducible refine' r_mulL ?hc ?_); (case hc => decide))
  | ((with_reducible refine' r_mod ?hc ?_); (case hc => first | decide | assumption | omega))
  | ((with_reducible refine' r_div ?hc ?_); (case hc => first | decide | assumption | (constructor <;> first | assumption | omega)))
  | ((with_reducible refine' r_pow ?hc ?_); (case hc => first | decide | (refine ⟨by decide, by decide, by omega⟩)))
  | ((with_reducible refine' r_ixL2 ?hs ?he ?_); (case hs => exact SqL.of (by walk_at "hp")); (case he => first | rfl | exact atI0 | exact atI1 | exact atI2 | exact atI3))
  | ((with_reducible refine' r_ixT2 ?hs ?he ?_); (case hs => first | assumption | exact SqT.of (by walk_at "hp")); (case he => first | rfl | exact atI0 | exact atI1 | exact atI2 | exact atI3))
  | ((with_reducible refine' r_setL2 ?hs ?he ?_); (case hs => walk_at "hp"); (case he => rfl))
  | ((with_reducible refine' r_gtup ?hs ?he ?_); (case hs => first | assumption | exact SqT.of (by walk_at "hp")); (case he => rfl))
  | ((with_reducible refine' r_fldAt ?hs ?hc ?hn ?hl ?_); (case hs => walk_at "hp"); (case hc => walk_at "cl"); (case hn => walk_at "cl"); (case hl => rfl))
  | ((with_reducible refine' r_sfldAt ?hs ?hc ?hn ?hl ?_); (case hs => walk_at "hp"); (case hc => walk_at "cl"); (case hn => walk_at "cl"); (case hl => exact Nat.le_of_ble_eq_true rfl))
  | ((with_reducible refine' r_aug ?he ?_); (case he => rfl))
  | ((with_reducible refine' r_starAt ?hs ?_); (case hs => first | exact .inl (by assumption) | exact .inr (by assumption) | exact .inl (SqT.of (by walk_at "hp")) | exact .inr (SqL.of (by walk_at "hp"))))
  | ((with_reducible refine' r_fldaugAt ?hs ?hc ?hn ?hl ?_); (case hs => walk_at "hp"); (case hc => walk_at "cl"); (case hn => walk_at "cl"); (case hl => rfl))
  | ((with_reducible refine' r_methAt ?hs ?hl ?_); (case hs => walk_at "hp"); (case hl => rfl))
  | ((with_reducible refine' r_tyL ?hs ?_); (case hs => first | assumption | exact SqL.of (by walk_at "hp")))
  | ((with_reducible refine' r_ifT ?h ?_); (case h => rfl))
  | ((with_reducible refine' r_ifF ?h ?_); (case h => rfl))
  | ((with_reducible first | refine' r_isiInt ?hd ?_ | refine' r_isiBool ?hd ?_ | refine' r_isiStr ?hd ?_ | refine' r_isiTup ?hd ?_ | refine' r_isiLst ?hd ?_); (case hd => assumption))
  ))

local macro_rules | `(tactic| walk_at "cl") => `(tactic| assumption)
def spRootT (K : PySem.W.Frag) : Sp := fun vs H Q _ => ∃ z : Str, vs = [.str z] ∧ z.length ≤ 8000000 ∧ 0 < z.length ∧ Q (.str (cutS z none (some (Txt.find3 (z ++ z) z 1)))) H
section
variable {P : Program} {w : World} {K : PySem.W.Frag} {mg : Str → Option Value} {base : Heap}
theorem ok_rootT (T : Txt w K mg) : Prom P w K mg base CX0 1 (a_root K) p_root [] (spRootT K) := by
  obtain ⟨fd, F⟩ := T.d_root
  have sc := sc_root
  refine prom0 F sc (bn_root F) (fun vs H Q E h => ?_) (fun cdv A outer s H vs Q E hr h => ?_)
  · obtain ⟨z, rfl, _⟩ := h
    rfl
  · obtain ⟨z, rfl, hz, h0, k⟩ := h
    refine ⟨_, (pss_one (ps_ret (pe_slice (iSl (K := K)) (pv 0) po_none (po_some (eBm (K := K) (pe_bm PySem.F.plainAttrs_str PySem.F.slot_str_find PySem.F.type_str_find mt_find3 (pe_op (oAdd (K := K)) (pv 0) (pv 0)) (pa_cons (pv 0) (pa_cons pe_int pa_nil)))))))), ?_⟩
    repeat walk_at "rd"
    refine r_addS (by rw [show sizeLine = 16777216 from by decide]; omega) ?_
    refine ⟨rfl, ?_⟩
    repeat walk_at "rd"
    refine ⟨_, _, _, rfl, rfl, ?_⟩
    repeat walk_at "rd"
    refine r_slS (by rw [show sizeLine = 16777216 from by decide]; omega) ?_
    exact k
end
/-! ### the plain law of root -/
def spRoot (K : PySem.W.Frag) : Sp := fun vs H Q _ => ∃ z : Str, vs = [.str z] ∧ z.length ≤ 8000000 ∧ 0 < z.length ∧ ∀ u k, 0 < u.length → u.length ≤ z.length → tl z = (List.replicate k u).flatten → Q (.str (mkS u)) H
def occP (s sub : Str) (hi : Nat) (i : Nat) : Bool := decide (i + sub.length ≤ hi) && Builtin.Str.subAt s sub i
theorem occ_stays (s sub : Str) (hi : Nat) : ∀ (l : List Nat) (st : Array Nat × Nat), 1 ≤ st.fst.size → (forIn l st (StrLaws.occBody s sub hi 1)).run.fst = st.fst
  | [], _, _ => rfl
  | a :: l, st, h => by
    rw [List.forIn_cons]
    unfold StrLaws.occBody
    rw [if_neg (fun c => by have := c.1.1.1; omega)]
    exact occ_stays s sub hi l _ h
theorem occ_first (s sub : Str) (hi : Nat) : ∀ (l : List Nat) (free : Nat), (∀ i ∈ l, free ≤ i) → (forIn l ((#[] : Array Nat), free) (StrLaws.occBody s sub hi 1)).run.fst = (match l.find? (occP s sub hi) with
    | none => #[]
    | some i => #[i])
  | [], _, _ => rfl
  | a :: l, free, hf => by
    rw [List.forIn_cons, List.find?_cons]
    unfold StrLaws.occBody
    have ha : free ≤ a := hf a List.mem_cons_self
    cases hp : occP s sub hi a with
    | true =>
      unfold occP at hp
      rw [Bool.and_eq_true, decide_eq_true_eq] at hp
      rw [if_pos ⟨⟨⟨by simp, ha⟩, hp.1⟩, hp.2⟩]
      exact occ_stays s sub hi l _ (by simp)
    | false =>
      unfold occP at hp
      rw [if_neg (fun c => by rw [c.2, decide_eq_true c.1.2] at hp; cases hp)]
      exact occ_first s sub hi l free fun i hi' => hf i (List.mem_cons_of_mem _ hi')
/-- the first place from 1 on -/
theorem find3_first {x y : Str} {p : Nat} (h1 : 1 ≤ p) (hp : occP x y x.length p = true) (hx : 1 ≤ x.length) (hpx : p ≤ x.length) (hmin : ∀ i, 1 ≤ i → i < p → occP x y x.length i = false) : Txt.find3 x y 1 = (p : Int) := by
  unfold Txt.find3
  rw [show fromIndex x.length 1 = 1 from rfl, StrLaws.occ_eq, occ_first x y x.length _ 1 fun i hi => by
    rw [List.mem_range'_1] at hi
    exact hi.1]
  have h2 : (List.range' 1 (x.length + 1 - 1)).find? (occP x y x.length) = some p := by
    rw [List.find?_eq_some_iff_getElem]
    refine ⟨hp, p - 1, by rw [List.length_range']; omega, ?_, fun j hj => ?_⟩
    · rw [List.getElem_range']; omega
    · rw [List.getElem_range', hmin _ (by omega) (by omega)]
      rfl
  rw [h2]
theorem subAt_list (x y : Str) (i : Nat) : Builtin.Str.subAt x y i = ((x.cps.toList.drop i).take y.length == y.cps.toList) := StrLaws.subAt_eq x y i
theorem rep_len (k : Nat) (u : List Nat) : (rep k u).length = k * u.length := by
  induction k with
  | zero => simp [rep]
  | succ k ih => rw [rep_succ, List.length_append, ih, Nat.succ_mul]; omega
theorem rep_comm {u w : List Nat} (h : u ++ w = w ++ u) : ∀ k, rep k u ++ w = w ++ rep k u
  | 0 => by simp [rep]
  | k + 1 => by rw [rep_succ, List.append_assoc, rep_comm h k, ← List.append_assoc, h, List.append_assoc]
theorem comm_split {u : List Nat} (hu : 0 < u.length) : ∀ (n : Nat) (v : List Nat), v.length ≤ n → u ++ v = v ++ u → ∃ k w, v = rep k u ++ w ∧ w.length < u.length ∧ u ++ w = w ++ u
  | 0, v, hn, h => by
    have : v = [] := List.length_eq_zero_iff.mp (by omega)
    subst this
    exact ⟨0, [], rfl, hu, h⟩
  | n + 1, v, hn, h => by
    by_cases hl : v.length < u.length
    · exact ⟨0, v, rfl, hl, h⟩
    · have h1 : u = v.take u.length := by
        have := congrArg (List.take u.length) h
        rwa [List.take_left' rfl, List.take_append_of_le_length (by omega)] at this
      have h2 : v = u ++ v.drop u.length := by
        rw [← List.take_append_drop u.length v]
        rw [← h1]
        simp
      generalize v.drop u.length = v' at h2
      subst h2
      have h3 : u ++ v' = v' ++ u := by
        rw [List.append_assoc] at h
        exact List.append_cancel_left h
      obtain ⟨k, w, rfl, h4, h5⟩ := comm_split hu n v' (by rw [List.length_append] at hn; omega) h3
      exact ⟨k + 1, w, by rw [rep_succ, List.append_assoc], h4, h5⟩
/-- rotations -/
theorem occ_rot (z : Str) {p : Nat} (hp : p ≤ z.length) : occP (z ++ z) z (z ++ z).length p = decide ((tl z).drop p ++ (tl z).take p = tl z) := by
  have e0 : (z ++ z).cps.toList = tl z ++ tl z := by
    show (z.cps ++ z.cps).toList = _
    rw [Array.toList_append]
  have e1 : (z ++ z).length = z.length + z.length := by
    show (z ++ z).cps.size = _
    rw [← Array.length_toList, e0, List.length_append]
    rfl
  have hz : z.length = (tl z).length := rfl
  unfold occP
  rw [subAt_list, e0, e1, decide_eq_true (by omega), Bool.true_and, List.drop_append_of_le_length (by omega)]
  have e2 : ((tl z).drop p ++ tl z).take z.length = (tl z).drop p ++ (tl z).take p := by
    rw [List.take_append, List.length_drop, List.take_of_length_le (by rw [List.length_drop]; omega)]
    congr 2
    omega
  have e3 : ∀ a b : List Nat, (a == b) = decide (a = b) := fun a b => by
    by_cases h : a = b
    · rw [decide_eq_true h]; exact beq_iff_eq.mpr h
    · rw [decide_eq_false h]; exact beq_eq_false_iff_ne.mpr h
  rw [e2, e3]
theorem least {p : Nat → Bool} : ∀ n, p n = true → ∃ m, m ≤ n ∧ p m = true ∧ ∀ i, i < m → p i = false
  | 0, h => ⟨0, Nat.le_refl _, h, fun i hi => by omega⟩
  | n + 1, h => by
    by_cases hq : ∃ m, m ≤ n ∧ p m = true
    · obtain ⟨m, hm, hp⟩ := hq
      obtain ⟨m2, h1, h2, h3⟩ := least' n m hm hp
      exact ⟨m2, by omega, h2, h3⟩
    · exact ⟨n + 1, Nat.le_refl _, h, fun i hi => by
        cases hi2 : p i with
        | false => rfl
        | true => exact absurd ⟨i, by omega, hi2⟩ hq⟩
where
  least' {p : Nat → Bool} (n m : Nat) (hm : m ≤ n) (hp : p m = true) : ∃ m2, m2 ≤ m ∧ p m2 = true ∧ ∀ i, i < m2 → p i = false := by
    induction m using Nat.strongRecOn with
    | _ m ih =>
      by_cases hq : ∃ i, i < m ∧ p i = true
      · obtain ⟨i, hi, hpi⟩ := hq
        obtain ⟨m2, h1, h2, h3⟩ := ih i hi (by omega) hpi
        exact ⟨m2, by omega, h2, h3⟩
      · exact ⟨m, Nat.le_refl _, hp, fun i hi => by
          cases hi2 : p i with
          | false => rfl
          | true => exact absurd ⟨i, hi, hi2⟩ hq⟩
theorem root_law (z : Str) (h0 : 0 < z.length) : ∃ u k, 0 < u.length ∧ u.length ≤ z.length ∧ tl z = rep k u ∧ cutS z none (some (Txt.find3 (z ++ z) z 1)) = mkS u := by
  have hz : z.length = (tl z).length := rfl
  let q : Nat → Bool := fun i => decide (1 ≤ i) && decide ((tl z).drop i ++ (tl z).take i = tl z)
  have hqn : q z.length = true := by
    show (decide (1 ≤ z.length) && decide ((tl z).drop z.length ++ (tl z).take z.length = tl z)) = true
    rw [decide_eq_true (show 1 ≤ z.length from h0), decide_eq_true (by rw [hz, List.drop_length, List.take_length]; rfl)]
    rfl
  obtain ⟨p, hpn, hp, hmin⟩ := least z.length hqn
  have hp2 : 1 ≤ p ∧ (tl z).drop p ++ (tl z).take p = tl z := by
    have : (decide (1 ≤ p) && decide ((tl z).drop p ++ (tl z).take p = tl z)) = true := hp
    rw [Bool.and_eq_true, decide_eq_true_eq, decide_eq_true_eq] at this
    exact this
  have hlen2 : (z ++ z).length = z.length + z.length := by
    show (z.cps ++ z.cps).size = _
    rw [Array.size_append]
    rfl
  have hf : Txt.find3 (z ++ z) z 1 = (p : Int) := by
    refine find3_first hp2.1 (by rw [occ_rot z hpn, decide_eq_true hp2.2]) (by omega) (by omega) fun i h1 h2 => ?_
    rw [occ_rot z (by omega)]
    have := hmin i h2
    have h3 : (decide (1 ≤ i) && decide ((tl z).drop i ++ (tl z).take i = tl z)) = false := this
    rw [decide_eq_true h1, Bool.true_and] at h3
    exact h3
  rw [hf]
  have hul : ((tl z).take p).length = p := by rw [List.length_take]; omega
  have hcut : cutS z none (some (p : Int)) = mkS ((tl z).take p) := str_ext (by rw [cutS_to]; rfl)
  have hcomm : (tl z).take p ++ (tl z).drop p = (tl z).drop p ++ (tl z).take p := by rw [List.take_append_drop, hp2.2]
  obtain ⟨k, w, h1, h2, h3⟩ := comm_split (u := (tl z).take p) (by omega) _ _ (Nat.le_refl _) hcomm
  have hall : tl z = rep (k + 1) ((tl z).take p) ++ w := by
    rw [rep_succ, List.append_assoc, ← h1, List.take_append_drop]
  refine ⟨(tl z).take p, k + 1, by omega, by omega, ?_, hcut⟩
  have hw0 : w.length = 0 := by
    cases hw : w.length with
    | zero => rfl
    | succ t =>
      exfalso
      have hr := hmin w.length (by omega)
      have h4 : tl z = w ++ rep (k + 1) ((tl z).take p) := hall.trans (rep_comm h3 (k + 1))
      have h5 : (tl z).drop w.length ++ (tl z).take w.length = tl z := by
        have d1 : (tl z).drop w.length = rep (k + 1) ((tl z).take p) := by
          generalize hg : rep (k + 1) ((tl z).take p) = g at *
          rw [h4, List.drop_left' rfl]
        have d2 : (tl z).take w.length = w := by
          generalize hg : rep (k + 1) ((tl z).take p) = g at *
          rw [h4, List.take_left' rfl]
        rw [d1, d2]
        exact hall.symm
      have h6 : (decide (1 ≤ w.length) && decide ((tl z).drop w.length ++ (tl z).take w.length = tl z)) = false := hr
      rw [decide_eq_true h5, decide_eq_true (by omega)] at h6
      cases h6
  rw [List.length_eq_zero_iff.mp hw0, List.append_nil] at hall
  exact hall
theorem ok_root {P : Program} {w : World} {K : PySem.W.Frag} {mg : Str → Option Value} {base : Heap} (T : Txt w K mg) : Prom P w K mg base CX0 1 (a_root K) p_root [] (spRoot K) := by
  obtain ⟨⟨fd, ds, F, b, v⟩, kp⟩ := ok_rootT (P := P) (base := base) T
  have imp : ∀ vs H Q E, spRoot K vs H Q E → spRootT K vs H Q E := fun vs H Q E ⟨z, e, h1, h2, k⟩ => by
    obtain ⟨u, j, g1, g2, g3, g4⟩ := root_law z h2
    exact ⟨z, e, h1, h2, by rw [g4]; exact k u j g1 g2 g3⟩
  exact ⟨⟨fd, ds, ⟨fun vs H Q E h => F.len vs H Q E (imp vs H Q E h), fun A outer s H args us vs Q E h1 h2 h3 h4 h5 => F.run A outer s H args us vs Q E h1 h2 h3 h4 (imp vs H Q E h5)⟩, b, v⟩, kp⟩
end OB

namespace OB
open PySem PySem.Spec PyProof.Rows L2
local macro_rules | `(tactic| walk_at "hp") => `(tactic| first
  | assumption | exact upd_same | (refine look_new ?_ ?_ <;> walk_at "hp") | ((refine' look_mut (v := ?lv) ?lq ?lp ?ld); (case lq => walk_at "hp"); (case lp => walk_at "hp"); (case ld => (intro z; cases z))))
local macro_rules | `(tactic| walk_at "rd") => `(tactic| (first
  | (with_reducible first
  | refine r_seq ?_ | refine r_asg ?_ | refine r_gname ?_ | refine r_ret ?_ | refine r_retN ?_ | refine r_next ?_ | refine r_drop ?_ | refine r_if ?_
  | refine r_c ?_ | refine r_op ?_ | refine r_test ?_ | refine r_tb ?_ | refine r_bl ?_ | refine r_and ?_ | refine r_or ?_ | refine r_not ?_
  | refine r_andV ?_ | refine r_orV ?_ | refine r_notV ?_ | refine r_ifE ?_ | refine r_nil ?_ | refine r_cons ?_ | refine r_tup ?_ | refine r_lst ?_ | refine r_cb ?_ | refine r_call ?_ | refine r_sub ?_
  | refine r_addI ?_ | refine r_I0 ?_ | refine r_eqI ?_ | refine r_neI ?_ | refine r_eqS ?_ | refine r_neS ?_ | refine r_inS ?_ | refine r_inS2 ?_ | refine r_notInS2 ?_ | refine r_isNA ?_ | refine r_m1 ?_ | refine r_isstr ?_ | refine r_lc ?_ | refine r_notNA ?_ | refine r_kt ?_ | refine r_chain ?_ | refine r_gcons ?_ | refine r_gnil ?_ | refine r_fld ?_ | refine r_sfld ?_ | refine r_meth ?_ | refine r_sl ?_ | refine r_part ?_ | refine r_nopart ?_ | refine r_int ?_ | refine r_star ?_ | refine r_delL ?_ | refine r_par ?_ | refine r_parAt ?_ | refine r_par3 ?_ | refine r_parAt3 ?_ | refine r_fldaug ?_ | refine r_brk ?_ | refine r_for ?_ | refine r_ienT ?_ | refine r_make ?_ | refine r_bm ?_ | refine r_bm0 ?_ | refine iteT ?_ | refine iteF ?_)
  | ((with_reducible refine' r_var ?he ?_); (case he => rfl))
  | (with_reducible first | refine r_abs ?_ | refine r_max ?_ | refine r_min ?_)
  | ((with_reducible refine' r_lenSq ?hs ?_); (case hs => first | exact .inl (by assumption) | exact .inr (by assumption) | exact .inl (SqL.of (by walk_at "hp")) | exact .inr (SqT.of (by walk_at "hp"))))
  | ((with_reducible refine' r_mulR ?hc ?_); (case hc => decide))
  | ((with_reducible refine' r_mulL ?hc ?_); (case hc => decide))
  | ((with_reducible refine' r_mod ?hc ?_); (case hc => first | decide | assumption | omega))
  | ((with_reducible refine' r_div ?hc ?_); (case hc => first | decide | assumption | (constructor <;> first | assumption | omega)))
  | ((with_reducible refine' r_pow ?hc ?_); (case hc => first | decide | (refine ⟨by decide, by decide, by omega⟩)))
  | ((with_reducible refine' r_ixL2 ?hs ?he ?_); (case hs => exact SqL.of (by walk_at "hp")); (case he => first | rfl | exact atI0 | exact atI1 | exact atI2 | exact atI3))
  | ((with_reducible refine' r_ixT2 ?hs ?he ?_); (case hs => first | assumption | exact SqT.of (by walk_at "hp")); (case he => first | rfl | exact atI0 | exact atI1 | exact atI2 | exact atI3))
  | ((with_reducible refine' r_setL2 ?hs ?he ?_); (case hs => walk_at "hp"); (case he => rfl))
  | ((with_reducible refine' r_gtup ?hs ?he ?_); (case hs => first | assumption | exact SqT.of (by walk_at "hp")); (case he => rfl))
  | ((with_reducible refine' r_fldAt ?hs ?hc ?hn ?hl ?_); (case hs => walk_at "hp"); (case hc => walk_at "cl"); (case hn => walk_at "cl"); (case hl => rfl))
  | ((with_reducible refine' r_sfldAt ?hs ?hc ?hn ?hl ?_); (case hs => walk_at "hp"); (case hc => walk_at "cl"); (case hn => walk_at "cl"); (case hl => exact Nat.le_of_ble_eq_true rfl))
  | ((with_reducible refine' r_aug ?he ?_); (case he => rfl))
  | ((with_reducible refine' r_starAt ?hs ?_); (case hs => first | exact .inl (by assumption) | exact .inr (by assumption) | exact .inl (SqT.of (by walk_at "hp")) | exact .inr (SqL.of (by walk_at "hp"))))
  | ((with_reducible refine' r_fldaugAt ?hs ?hc ?hn ?hl ?_); (case hs => walk_at "hp"); (case hc => walk_at "cl"); (case hn => walk_at "cl"); (case hl => rfl))
  | ((with_reducible refine' r_methAt ?hs ?hl ?_); (case hs => walk_at "hp"); (case hl => rfl))
  | ((with_reducible refine' r_tyL ?hs ?_); (case hs => first | assumption | exact SqL.of (by walk_at "hp")))
  | ((with_reducible refine' r_ifT ?h ?_); (case h => rfl))
  | ((with_reducible refine' r_ifF ?h ?_); (case h => rfl))
  | ((with_reducible first | refine' r_isiInt ?hd ?_ | refine' r_isiBool ?hd ?_ | refine' r_isiStr ?hd ?_ | refine' r_isiTup ?hd ?_ | refine' r_isiLst ?hd ?_); (case hd => assumption))
  ))

local macro_rules | `(tactic| walk_at "cl") => `(tactic| assumption)
/-- pairs as they stand tidied: no empty text, no times 0 -/
def Tidy (rs : List (List Nat × Nat)) : Prop := ∀ p ∈ rs, 0 < p.1.length ∧ 0 < p.2
def pairD (p : List Nat × Nat) : PyData := .tuple [.str (mkS p.1), .int (p.2 : Nat)]
theorem dp_pairs {K : PySem.W.Frag} {H : Hp} : ∀ {xs : List V} {rs : List (List Nat × Nat)}, All2 (IsPair K H) xs rs → DpAll K H xs (rs.map pairD)
  | _, _, .nil => .nil
  | _, _, .cons ⟨a, e, h⟩ t => .cons (by rw [e]; exact .tup h (.cons (.str _) (.cons (.int _) .nil))) (dp_pairs t)
theorem strOk_lts {l : List Nat} (h : ∀ c ∈ l, c ∈ lts) : PyData.strOk (mkS l) = true := by
  unfold PyData.strOk mkS
  rw [List.all_toArray]
  refine List.all_eq_true.mpr fun c hc => decide_eq_true ?_
  have := h c hc
  simp [lts] at this
  omega
theorem shaped_pairs {rs : List (List Nat × Nat)} (h : ∀ p ∈ rs, ∀ c ∈ p.1, c ∈ lts) : SeqAt.shaped (.list (rs.map pairD)) = true := by
  have key : ∀ rs : List (List Nat × Nat), (∀ p ∈ rs, ∀ c ∈ p.1, c ∈ lts) → PyData.canLayAll0 (rs.map pairD) = true ∧ PyData.depthAll (rs.map pairD) ≤ 1 := by
    intro rs
    induction rs with
    | nil => intro _; exact ⟨rfl, Nat.zero_le _⟩
    | cons p r ih =>
      intro h
      obtain ⟨h1, h2⟩ := ih fun q hq => h q (List.mem_cons_of_mem _ hq)
      have h3 := strOk_lts (h p List.mem_cons_self)
      refine ⟨?_, ?_⟩
      · rw [List.map_cons, PyData.canLayAll0, h1]
        simp [pairD, PyData.canLay0, PyData.canLayAll0, h3]
      · rw [List.map_cons, PyData.depthAll]
        have : PyData.depth (pairD p) ≤ 1 := by simp [pairD, PyData.depth, PyData.depthAll]
        omega
  obtain ⟨h1, h2⟩ := key rs h
  unfold SeqAt.shaped
  rw [PyData.canLay0, h1, PyData.depth, Bool.true_and]
  exact decide_eq_true (by omega)
def spTidy (K : PySem.W.Frag) : Sp := fun vs H Q _ => ∃ a xs rs, ∃ B : Nat, vs = [.ref a] ∧ SqL K H a xs ∧ All2 (IsPair K H) xs rs ∧ rs.length ≤ 100000 ∧ B ≤ 8000000 ∧ (∀ p ∈ rs, p.1.length ≤ B ∧ (0 < p.2 → ∀ c ∈ p.1, c ∈ lts)) ∧
  ∀ H' l ys rs', Same H H' → H' l = some (.lst ys) → H l = none → All2 (IsPair K H') ys rs' → Tidy rs' → den rs' = den rs → rs'.length ≤ rs.length → (∀ p ∈ rs', p.1.length ≤ B ∧ ∀ c ∈ p.1, c ∈ lts) → Q (.ref l) H'
theorem All2.unsnoc {α : Type} {R : V → α → Prop} : ∀ {as : List α} {vs : List V} {a : α}, All2 R vs (as ++ [a]) → ∃ ws v, vs = ws ++ [v] ∧ All2 R ws as ∧ R v a
  | [], _, _, .cons h .nil => ⟨[], _, rfl, .nil, h⟩
  | _ :: _, _, _, .cons h t => let ⟨ws, v, e, h1, h2⟩ := All2.unsnoc t; ⟨_ :: ws, v, by rw [e]; rfl, .cons h h1, h2⟩
theorem atI_last {l : List V} {y : V} : atI (l ++ [y]) (-1) = some y := by
  unfold atI
  have : ixN (l ++ [y]).length (-1) = some l.length := by
    unfold ixN
    simp
    try omega
  rw [this]
  simp
section
variable {P : Program} {w : World} {K : PySem.W.Frag} {mg : Str → Option Value} {base : Heap}
theorem ok_tidy (T : Txt w K mg) : Prom P w K mg base CX0 2 (a_tidy K) p_tidy [] (spTidy K) := by
  obtain ⟨fd, F⟩ := T.d_tidy
  have sc := sc_tidy
  have G_root := ok_root (P := P) (base := base) T
  refine prom0 F sc (bn_tidy F) (fun vs H Q E h => ?_) (fun cdv A outer s H vs Q E hr h => ?_)
  · obtain ⟨a, xs, rs, B, rfl, _⟩ := h
    rfl
  · obtain ⟨a, xs, rs, B, rfl, hS, hq, hl, hB, hlen, k⟩ := h
    refine ⟨_, (pss_cons (ps_set (i := 1) sc.nd rfl (by first | exact Or.inl rfl | exact Or.inr rfl) (pe_lst pa_nil))
      (pss_cons (ps_for PassesOwn.never rfl (piA (K := K) (pv 0)) (gTupA (K := K) (n := 2) rfl (pgs_cons (pg_name (i := 2) sc.nd rfl (by first | exact Or.inl rfl | exact Or.inr rfl)) (pgs_cons (pg_name (i := 3) sc.nd rfl (by first | exact Or.inl rfl | exact Or.inr rfl)) pgs_nil))) (pss_one (ps_if (PW.pt (pw_and (pt_cmpR (oNe (K := K) hr.units) (pv 2) pe_str (nomark _)) (pw_and1 (pt_cmpR op_gt (pv 3) pe_int (nomark _))))) (pss_cons (ps_set (i := 4) sc.nd rfl (by first | exact Or.inl rfl | exact Or.inr rfl) (pe_callP G_root (hr.mono (by decide)) T.g_root pass0 (pa_cons (pv 2) pa_nil)))
      (pss_cons (ps_set (i := 5) sc.nd rfl (by first | exact Or.inl rfl | exact Or.inr rfl) (pe_op op_mulA (pv 3) (pe_op op_fdivW (pe_callB (cLen (K := K)) (by rfl) T.z_len (by decide +kernel) (pa_cons (pv 2) pa_nil)) (pe_callB (cLen (K := K)) (by rfl) T.z_len (by decide +kernel) (pa_cons (pv 4) pa_nil)))))
      (pss_cons (ps_if (PW.pt (pw_and (pt_cmpR (oNe (K := K) hr.units) (pv 1) (pe_lst pa_nil) (nomark _)) (pw_and1 (pt_cmpR (oEq (K := K) hr.units) (pe_ix (iIx (P := P) (w := w) (K := K) hr.units) (pe_ix (iIx (P := P) (w := w) (K := K) hr.units) (pv 1) (pe_un un_neg pe_int) (fun _ _ => rfl)) pe_int (fun _ _ => rfl)) (pv 4) (nomark _))))) (pss_one (ps_set (i := 5) sc.nd rfl (by first | exact Or.inl rfl | exact Or.inr rfl) (pe_op (oAdd (K := K)) (pv 5) (pe_ix (iIx (P := P) (w := w) (K := K) hr.units) (eBm0 (K := K) (pe_bm0 PySem.F.plainAttrs_list PySem.F.slot_list_pop PySem.F.type_list_pop mt_pop (pv 1) )) pe_int (fun _ _ => rfl))))) pss_nil)
      (pss_one (ps_expr (eBm (K := K) (pe_bm PySem.F.plainAttrs_list PySem.F.slot_list_append PySem.F.type_list_append mt_append (pv 1) (pa_cons (pe_tup (pa_cons (pv 4) (pa_cons (pv 5) pa_nil))) pa_nil)))))))) pss_nil)))
      (pss_one (ps_ret (pv 1))))), ?_⟩
    repeat walk_at "rd"
    refine ⟨Nat.zero_le _, fun fl hfl => ?_⟩
    repeat walk_at "rd"
    refine r_iany_l ?_
    repeat walk_at "rd"
    have hS1 := Same.sql (Same.new (o := .lst []) hfl) hS
    refine r_forL (xs := xs) hS1 (fun i σ H' => ∃ ys fs, (∃ p q r t, σ = [some (.ref a), some (.ref fl), p, q, r, t]) ∧ Same H H' ∧ H' fl = some (.lst ys) ∧ All2 (IsPair K H') ys fs ∧ Tidy fs ∧ den fs = den (rs.take i) ∧ fs.length ≤ i ∧ (∀ p ∈ fs, p.1.length ≤ B ∧ ∀ c ∈ p.1, c ∈ lts))
      ⟨[], [], ⟨_, _, _, _, rfl⟩, Same.new hfl, upd_same, .nil, fun p h => (by cases h), rfl, Nat.le_refl _, fun p h => (by cases h)⟩ (fun i σ H' _ p => ?_) (fun i y σ H1 hy p => ?_) (fun σ H1 p => ?_)
    · obtain ⟨_, _, _, s1, _⟩ := p
      exact Same.sql s1 hS
    · obtain ⟨ys, fs, ⟨p2, p3, p4, p5, rfl⟩, s1, h1, h2, h3, h4, h5, h6⟩ := p
      obtain ⟨p, hp1, hp2⟩ := hq.get hy
      obtain ⟨ta, rfl, hta⟩ := hp2.chg (Chg.of_same (ps := []) s1)
      have hpm := hlen p (List.mem_of_getElem? hp1)
      have hi : i < rs.length := (List.getElem?_eq_some_iff.mp hp1).1
      have hdn : den (rs.take (i + 1)) = den (rs.take i) ++ rep p.2 p.1 := by
        rw [take_snoc hp1, den_app]
        congr 1
        exact den_one _ _
      have skip : rep p.2 p.1 = [] → ∀ {x y z u : Option V}, ∃ ys fs, (∃ p q r t, [some (.ref a), some (.ref fl), x, y, z, u] = [some (V.ref a), some (.ref fl), p, q, r, t]) ∧ Same H H1 ∧ H1 fl = some (.lst ys) ∧ All2 (IsPair K H1) ys fs ∧ Tidy fs ∧ den fs = den (rs.take (i + 1)) ∧ fs.length ≤ i + 1 ∧ (∀ p ∈ fs, p.1.length ≤ B ∧ ∀ c ∈ p.1, c ∈ lts) :=
        fun e => ⟨ys, fs, ⟨_, _, _, _, rfl⟩, s1, h1, h2, h3, by rw [hdn, e, List.append_nil]; exact h4, by omega, h6⟩
      repeat walk_at "rd"
      refine r_iteN (fun d1 => ?_) (fun d1 => ?_)
      · repeat walk_at "rd"
        refine skip ?_
        have e : p.1 = [] := mkS_inj (d1.trans (by decide +kernel))
        rw [e]
        unfold rep
        generalize p.2 = k
        induction k with
        | zero => rfl
        | succ k ih => rw [List.replicate_succ, List.flatten_cons, ih]; rfl
      · repeat walk_at "rd"
        refine r_ite (fun d2 => ?_) (fun d2 => ?_)
        · have hp0 : 0 < p.1.length := by
            rcases Nat.eq_zero_or_pos p.1.length with e | e
            · exact absurd (by rw [List.length_eq_zero_iff.mp e]; decide +kernel) d1
            · exact e
          repeat walk_at "rd"
          refine ⟨mkS p.1, rfl, by rw [mkS_len]; omega, by rw [mkS_len]; exact hp0, fun u k hu0 hul hk => ?_⟩
          rw [tl_mkS] at hk
          have hk' : p.1 = rep k u := hk
          have hlk : p.1.length = k * u.length := by rw [hk', rep_len]
          have hun : u.length ≤ B := by rw [mkS_len] at hul; omega
          have hul' : ∀ c ∈ u, c ∈ lts := fun c hc => hpm.2 (by omega) c (by
            have hk0 : 0 < k := by
              rcases Nat.eq_zero_or_pos k with e | e
              · rw [e, Nat.zero_mul] at hlk; omega
              · exact e
            obtain ⟨j, rfl⟩ : ∃ j, k = j + 1 := ⟨k - 1, by omega⟩
            rw [hk', rep_succ]
            exact List.mem_append_left _ hc)
          have hq1 : ((p.1.length : Int) / (u.length : Int)) = (k : Int) := by
            rw [hlk, Int.natCast_mul]
            exact Int.mul_ediv_cancel _ (by omega)
          have hkB : k ≤ p.1.length := by rw [hlk]; exact Nat.le_mul_of_pos_right k hu0
          repeat walk_at "rd"
          refine r_lenS (by rw [mkS_len, show sizeLine = 16777216 from by decide]; omega) ?_
          repeat walk_at "rd"
          refine r_lenS (by rw [mkS_len, show sizeLine = 16777216 from by decide]; omega) ?_
          repeat walk_at "rd"
          rw [mkS_len, mkS_len]
          refine r_div ⟨by omega, by rw [Int.natAbs_natCast]; exact Nat.lt_of_le_of_lt (by omega : u.length ≤ 8000000) (by decide +kernel)⟩ ?_
          rw [hq1]
          refine r_mulR ⟨by omega, by omega⟩ ?_
          rw [← Int.natCast_mul]
          repeat walk_at "rd"
          have hrep : rep (p.2 * k) u = rep p.2 p.1 := by rw [hk', rep_rep, Nat.mul_comm]
          have hm0 : 0 < p.2 * k := by
            have hk0 : 0 < k := by
              rcases Nat.eq_zero_or_pos k with e | e
              · rw [e, Nat.zero_mul] at hlk; omega
              · exact e
            exact Nat.mul_pos (by omega) hk0
          refine ⟨Nat.zero_le _, fun n hn => ?_⟩
          have s2 : Same H1 (upd H1 n (.lst [])) := Same.new hn
          have hn2 : (upd H1 n (.lst [])) n = some (.lst []) := upd_same
          generalize upd H1 n (.lst []) = H2 at *
          have h12 := s2 _ _ h1
          have h22 := h2.mono fun _ _ z => z.chg (Chg.of_same (ps := []) s2)
          have s02 := s1.trans s2
          have fin : ∀ {H3 : Hp} {ys3 : List V} {g : List (List Nat × Nat)} {m : Nat} {t : Addr} {x y z v : Option V}, Same H H3 → H3 fl = some (.lst ys3) → All2 (IsPair K H3) ys3 g → Tidy g → den g ++ rep m u = den (rs.take (i + 1)) → g.length ≤ i → (∀ p ∈ g, p.1.length ≤ B ∧ ∀ c ∈ p.1, c ∈ lts) → 0 < m → H3 t = none →
              ∃ ys fs, (∃ p q r s, [some (V.ref a), some (.ref fl), x, y, z, v] = [some (V.ref a), some (.ref fl), p, q, r, s]) ∧ Same H (upd (upd H3 t (.tup [.str (mkS u), .int (m : Nat)])) fl (.lst (ys3 ++ [.ref t]))) ∧ (upd (upd H3 t (.tup [.str (mkS u), .int (m : Nat)])) fl (.lst (ys3 ++ [.ref t]))) fl = some (.lst ys) ∧ All2 (IsPair K (upd (upd H3 t (.tup [.str (mkS u), .int (m : Nat)])) fl (.lst (ys3 ++ [.ref t])))) ys fs ∧ Tidy fs ∧ den fs = den (rs.take (i + 1)) ∧ fs.length ≤ i + 1 ∧ (∀ p ∈ fs, p.1.length ≤ B ∧ ∀ c ∈ p.1, c ∈ lts) := by
            intro H3 ys3 g m t x y z v e1 e2 e3 e4 e5 e6 e7 e8 e9
            have e2' := look_new (u := .tup [.str (mkS u), .int (m : Nat)]) e9 e2
            have cg : Chg [fl] H3 (upd (upd H3 t (.tup [.str (mkS u), .int (m : Nat)])) fl (.lst (ys3 ++ [.ref t]))) := (Chg.new e9).trans (Chg.upd e2' (by simp))
            have ht : (upd H3 t (.tup [.str (mkS u), .int (m : Nat)])) t = some (.tup [.str (mkS u), .int (m : Nat)]) := upd_same
            refine ⟨_, g ++ [(u, m)], ⟨_, _, _, _, rfl⟩, Same.mut (e1.trans (Same.new e9)) hfl, upd_same, (e3.mono fun _ _ q => q.chg cg).snoc ⟨t, rfl, SqT.of (look_mut e2' ht (fun z => by cases z))⟩, fun q hq => ?_, by rw [den_app, ← e5]; congr 1; exact den_one _ _, by rw [List.length_append, List.length_singleton]; omega, fun q hq => ?_⟩
            · rcases List.mem_append.mp hq with h | h
              · exact e4 q h
              · rw [List.mem_singleton] at h; rw [h]; exact ⟨hu0, e8⟩
            · rcases List.mem_append.mp hq with h | h
              · exact e7 q h
              · rw [List.mem_singleton] at h; rw [h]; exact ⟨hun, hul'⟩
          refine .inr ⟨.list (fs.map pairD), .list [], .lst (SqL.of h12) (dp_pairs h22), .lst (SqL.of hn2) .nil, shaped_pairs fun p hp => (h6 p hp).2, by decide +kernel, ?_⟩
          rcases List.eq_nil_or_concat fs with rfl | ⟨g, q, rfl⟩
          · cases h22
            repeat walk_at "rd"
            refine ⟨Nat.le_of_ble_eq_true rfl, fun t ht => ?_⟩
            repeat walk_at "rd"
            refine r_append (look_new ht h12) (by decide) ?_
            exact fin s02 h12 .nil (fun p h => (by cases h)) (by rw [hdn, ← h4, hrep]) (Nat.zero_le _) (fun p h => (by cases h)) hm0 ht
          · rw [List.concat_eq_append] at *
            obtain ⟨ys0, y0, rfl, hg, hy0⟩ := All2.unsnoc h22
            obtain ⟨tq, rfl, htq⟩ := hy0
            rw [show PyData.eqv (.list ((g ++ [q]).map pairD)) (.list []) = false from by cases g <;> rfl]
            have g3 : Tidy g := fun x hx => h3 x (List.mem_append_left _ hx)
            have g6 : ∀ p ∈ g, p.1.length ≤ B ∧ ∀ c ∈ p.1, c ∈ lts := fun x hx => h6 x (List.mem_append_left _ hx)
            have g5 : g.length + 1 ≤ i := by rw [List.length_append] at h5; exact h5
            rw [den_app] at h4
            repeat walk_at "rd"
            show ∃ i : Int, V.int 1 = .int i ∧ _
            refine ⟨1, rfl, ?_⟩
            refine r_ixL2 (SqL.of h12) atI_last ?_
            repeat walk_at "rd"
            refine r_ite (fun d3 => ?_) (fun d3 => ?_)
            · have hqu : q.1 = u := mkS_inj d3
              repeat walk_at "rd"
              refine ⟨fl, _, .ref tq, rfl, rfl, h12, by simp, ?_⟩
              rw [List.dropLast_concat]
              have cg : Chg [fl] H2 (upd H2 fl (.lst ys0)) := Chg.upd h12 (by simp)
              have s03 : Same H (upd H2 fl (.lst ys0)) := Same.mut s02 hfl
              have h13 : (upd H2 fl (.lst ys0)) fl = some (.lst ys0) := upd_same
              have hg3 := hg.mono fun _ _ z => z.chg cg
              have htq3 := cg.sqt htq
              generalize upd H2 fl (.lst ys0) = H3 at *
              repeat walk_at "rd"
              rw [← Int.natCast_add]
              refine ⟨Nat.le_of_ble_eq_true rfl, fun t ht => ?_⟩
              repeat walk_at "rd"
              refine r_append (look_new ht h13) (by rw [hg.length]; exact Nat.lt_of_le_of_lt (by omega : g.length ≤ 100000) (by decide +kernel)) ?_
              refine fin s03 h13 hg3 g3 ?_ (by omega) g6 (by omega) ht
              have e7 : den [q] = rep q.2 u := by
                rw [← hqu]
                exact den_one _ _
              rw [hdn, ← h4, e7, ← hrep, Nat.add_comm, rep_add, List.append_assoc]
            · repeat walk_at "rd"
              refine ⟨Nat.le_of_ble_eq_true rfl, fun t ht => ?_⟩
              repeat walk_at "rd"
              refine r_append (look_new ht h12) (by rw [List.length_append, hg.length]; exact Nat.lt_of_le_of_lt (by show g.length + 1 ≤ 100000; omega) (by decide +kernel)) ?_
              exact fin s02 h12 h22 h3 (by rw [hdn, den_app, h4, hrep]) (by rw [List.length_append]; exact g5) h6 hm0 ht
        · repeat walk_at "rd"
          refine skip ?_
          rw [show p.2 = 0 by omega]
          rfl
    · obtain ⟨ys, fs, ⟨p2, p3, p4, p5, rfl⟩, s1, h1, h2, h3, h4, h5, h6⟩ := p
      rw [hq.length, List.take_length] at h4
      rw [hq.length] at h5
      repeat walk_at "rd"
      exact k H1 fl ys fs s1 h1 hfl h2 h3 h4 h5 h6
end
end OB

namespace OB
open PySem PySem.Spec PyProof.Rows L2
local macro_rules | `(tactic| walk_at "hp") => `(tactic| first
  | assumption | exact upd_same | (refine look_new ?_ ?_ <;> walk_at "hp") | ((refine' look_mut (v := ?lv) ?lq ?lp ?ld); (case lq => walk_at "hp"); (case lp => walk_at "hp"); (case ld => (intro z; cases z))))
local macro_rules | `(tactic| walk_at "rd") => `(tactic| (first
  | (with_reducible first
  | refine r_seq ?_ | refine r_asg ?_ | refine r_gname ?_ | refine r_ret ?_ | refine r_retN ?_ | refine r_next ?_ | refine r_drop ?_ | refine r_if ?_
  | refine r_c ?_ | refine r_op ?_ | refine r_test ?_ | refine r_tb ?_ | refine r_bl ?_ | refine r_and ?_ | refine r_or ?_ | refine r_not ?_
  | refine r_andV ?_ | refine r_orV ?_ | refine r_notV ?_ | refine r_ifE ?_ | refine r_nil ?_ | refine r_cons ?_ | refine r_tup ?_ | refine r_lst ?_ | refine r_cb ?_ | refine r_call ?_ | refine r_sub ?_
  | refine r_addI ?_ | refine r_I0 ?_ | refine r_eqI ?_ | refine r_neI ?_ | refine r_eqS ?_ | refine r_neS ?_ | refine r_inS ?_ | refine r_inS2 ?_ | refine r_notInS2 ?_ | refine r_isNA ?_ | refine r_m1 ?_ | refine r_isstr ?_ | refine r_lc ?_ | refine r_notNA ?_ | refine r_kt ?_ | refine r_chain ?_ | refine r_gcons ?_ | refine r_gnil ?_ | refine r_fld ?_ | refine r_sfld ?_ | refine r_meth ?_ | refine r_sl ?_ | refine r_part ?_ | refine r_nopart ?_ | refine r_int ?_ | refine r_star ?_ | refine r_delL ?_ | refine r_par ?_ | refine r_parAt ?_ | refine r_par3 ?_ | refine r_parAt3 ?_ | refine r_fldaug ?_ | refine r_brk ?_ | refine r_for ?_ | refine r_ienT ?_ | refine r_make ?_ | refine r_bm ?_ | refine r_bm0 ?_ | refine iteT ?_ | refine iteF ?_)
  | ((with_reducible refine' r_var ?he ?_); (case he => rfl))
  | (with_reducible first | refine r_abs ?_ | refine r_max ?_ | refine r_min ?_)
  | ((with_reducible refine' r_lenSq ?hs ?_); (case hs => first | exact .inl (by assumption) | exact .inr (by assumption) | exact .inl (SqL.of (by walk_at "hp")) | exact .inr (SqT.of (by walk_at "hp"))))
  | ((with_reducible refine' r_mulR ?hc ?_); (case hc => decide))
  | ((with_reducible refine' r_mulL ?hc ?_); (case hc => decide))
  | ((with_reducible refine' r_mod ?hc ?_); (case hc => first | decide | assumption | omega))
  | ((with_reducible refine' r_div ?hc ?_); (case hc => first | decide | assumption | (constructor <;> first | assumption | omega)))
  | ((with_reducible refine' r_pow ?hc ?_); (case hc => first | decide | (refine ⟨by decide, by decide, by omega⟩)))
  | ((with_reducible refine' r_ixL2 ?hs ?he ?_); (case hs => exact SqL.of (by walk_at "hp")); (case he => first | rfl | exact atI0 | exact atI1 | exact atI2 | exact atI3))
  | ((with_reducible refine' r_ixT2 ?hs ?he ?_); (case hs => first | assumption | exact SqT.of (by walk_at "hp")); (case he => first | rfl | exact atI0 | exact atI1 | exact atI2 | exact atI3))
  | ((with_reducible refine' r_setL2 ?hs ?he ?_); (case hs => walk_at "hp"); (case he => rfl))
  | ((with_reducible refine' r_gtup ?hs ?he ?_); (case hs => first | assumption | exact SqT.of (by walk_at "hp")); (case he => rfl))
  | ((with_reducible refine' r_fldAt ?hs ?hc ?hn ?hl ?_); (case hs => walk_at "hp"); (case hc => walk_at "cl"); (case hn => walk_at "cl"); (case hl => rfl))
  | ((with_reducible refine' r_sfldAt ?hs ?hc ?hn ?hl ?_); (case hs => walk_at "hp"); (case hc => walk_at "cl"); (case hn => walk_at "cl"); (case hl => exact Nat.le_of_ble_eq_true rfl))
  | ((with_reducible refine' r_aug ?he ?_); (case he => rfl))
  | ((with_reducible refine' r_starAt ?hs ?_); (case hs => first | exact .inl (by assumption) | exact .inr (by assumption) | exact .inl (SqT.of (by walk_at "hp")) | exact .inr (SqL.of (by walk_at "hp"))))
  | ((with_reducible refine' r_fldaugAt ?hs ?hc ?hn ?hl ?_); (case hs => walk_at "hp"); (case hc => walk_at "cl"); (case hn => walk_at "cl"); (case hl => rfl))
  | ((with_reducible refine' r_methAt ?hs ?hl ?_); (case hs => walk_at "hp"); (case hl => rfl))
  | ((with_reducible refine' r_tyL ?hs ?_); (case hs => first | assumption | exact SqL.of (by walk_at "hp")))
  | ((with_reducible refine' r_ifT ?h ?_); (case h => rfl))
  | ((with_reducible refine' r_ifF ?h ?_); (case h => rfl))
  | ((with_reducible first | refine' r_isiInt ?hd ?_ | refine' r_isiBool ?hd ?_ | refine' r_isiStr ?hd ?_ | refine' r_isiTup ?hd ?_ | refine' r_isiLst ?hd ?_); (case hd => assumption))
  ))

local macro_rules | `(tactic| walk_at "cl") => `(tactic| assumption)
abbrev RunsC (K : PySem.W.Frag) : Addr := He.ga K "Runs"
def spRunsI (K : PySem.W.Frag) : Sp := fun vs H Q _ => ∃ self dx a xs rs, ∃ B : Nat, vs = [.ref self, .ref a] ∧ H self = some (.ins (RunsC K) dx []) ∧ SqL K H a xs ∧ All2 (IsPair K H) xs rs ∧ rs.length ≤ 100000 ∧ B ≤ 8000000 ∧ (∀ p ∈ rs, p.1.length ≤ B ∧ (0 < p.2 → ∀ c ∈ p.1, c ∈ lts)) ∧
  ∀ H' l ys rs', Chg [self] H H' → H' self = some (.ins (RunsC K) dx [("tidied", .ref l)]) → H' l = some (.lst ys) → H l = none → All2 (IsPair K H') ys rs' → Tidy rs' → den rs' = den rs → rs'.length ≤ rs.length → (∀ p ∈ rs', p.1.length ≤ B ∧ ∀ c ∈ p.1, c ∈ lts) → Q .non H'
section
variable {P : Program} {w : World} {K : PySem.W.Frag} {mg : Str → Option Value} {base : Heap}
theorem ok_Runs (T : Txt w K mg) : Prom P w K mg base CX0 3 (a_Runs_init K) p_Runs_init [] (spRunsI K) := by
  obtain ⟨fd, F⟩ := T.d_Runs_init
  have sc := sc_Runs_init
  have c1 := T.cl_Runs
  have c2 := T.na_Runs_tidied
  have G_tidy := ok_tidy (P := P) (base := base) T
  refine prom0 F sc (bn_Runs_init F) (fun vs H Q E h => ?_) (fun cdv A outer s H vs Q E hr h => ?_)
  · obtain ⟨self, dx, a, xs, rs, B, rfl, _⟩ := h
    rfl
  · obtain ⟨self, dx, a, xs, rs, B, rfl, hself, hS, hq, hl, hB, hlen, k⟩ := h
    refine ⟨_, (pss_one (sFldA (K := K) (pv 0) (pe_callP G_tidy (hr.mono (by decide)) T.g_tidy pass0 (pa_cons (pv 1) pa_nil)))), ?_⟩
    repeat walk_at "rd"
    refine ⟨a, xs, rs, B, rfl, hS, hq, hl, hB, hlen, fun H1 l ys rs' s1 h1 h2 h3 h4 h5 h6 h7 => ?_⟩
    have hs1 := s1 _ _ hself
    repeat walk_at "rd"
    have cg : Chg [self] H1 (upd H1 self (.ins (RunsC K) dx [("tidied", .ref l)])) := Chg.upd hs1 (by simp)
    exact k _ l ys rs' ((Chg.of_same s1).trans cg) upd_same (look_mut hs1 h1 (fun z => by cases z)) h2 (h3.mono fun _ _ q => q.chg cg) h4 h5 h6 h7
end
end OB

namespace OB
open PySem PySem.Spec PyProof.Rows L2
local macro_rules | `(tactic| walk_at "hp") => `(tactic| first
  | assumption | exact upd_same | (refine look_new ?_ ?_ <;> walk_at "hp") | ((refine' look_mut (v := ?lv) ?lq ?lp ?ld); (case lq => walk_at "hp"); (case lp => walk_at "hp"); (case ld => (intro z; cases z))))
local macro_rules | `(tactic| walk_at "rd") => `(tactic| (first
  | (with_reducible first
  | refine r_seq ?_ | refine r_asg ?_ | refine r_gname ?_ | refine r_ret ?_ | refine r_retN ?_ | refine r_next ?_ | refine r_drop ?_ | refine r_if ?_
  | refine r_c ?_ | refine r_op ?_ | refine r_test ?_ | refine r_tb ?_ | refine r_bl ?_ | refine r_and ?_ | refine r_or ?_ | refine r_not ?_
  | refine r_andV ?_ | refine r_orV ?_ | refine r_notV ?_ | refine r_ifE ?_ | refine r_nil ?_ | refine r_cons ?_ | refine r_tup ?_ | refine r_lst ?_ | refine r_cb ?_ | refine r_call ?_ | refine r_sub ?_
  | refine r_addI ?_ | refine r_I0 ?_ | refine r_eqI ?_ | refine r_neI ?_ | refine r_eqS ?_ | refine r_neS ?_ | refine r_inS ?_ | refine r_inS2 ?_ | refine r_notInS2 ?_ | refine r_isNA ?_ | refine r_m1 ?_ | refine r_isstr ?_ | refine r_lc ?_ | refine r_notNA ?_ | refine r_kt ?_ | refine r_chain ?_ | refine r_gcons ?_ | refine r_gnil ?_ | refine r_fld ?_ | refine r_sfld ?_ | refine r_meth ?_ | refine r_sl ?_ | refine r_part ?_ | refine r_nopart ?_ | refine r_int ?_ | refine r_star ?_ | refine r_delL ?_ | refine r_par ?_ | refine r_parAt ?_ | refine r_par3 ?_ | refine r_parAt3 ?_ | refine r_fldaug ?_ | refine r_brk ?_ | refine r_for ?_ | refine r_ienT ?_ | refine r_make ?_ | refine r_bm ?_ | refine r_bm0 ?_ | refine iteT ?_ | refine iteF ?_)
  | ((with_reducible refine' r_var ?he ?_); (case he => rfl))
  | (with_reducible first | refine r_abs ?_ | refine r_max ?_ | refine r_min ?_)
  | ((with_reducible refine' r_lenSq ?hs ?_); (case hs => first | exact .inl (by assumption) | exact .inr (by assumption) | exact .inl (SqL.of (by walk_at "hp")) | exact .inr (SqT.of (by walk_at "hp"))))
  | ((with_reducible refine' r_mulR ?hc ?_); (case hc => decide))
  | ((with_reducible refine' r_mulL ?hc ?_); (case hc => decide))
  | ((with_reducible refine' r_mod ?hc ?_); (case hc => first | decide | assumption | omega))
  | ((with_reducible refine' r_div ?hc ?_); (case hc => first | decide | assumption | (constructor <;> first | assumption | omega)))
  | ((with_reducible refine' r_pow ?hc ?_); (case hc => first | decide | (refine ⟨by decide, by decide, by omega⟩)))
  | ((with_reducible refine' r_ixL2 ?hs ?he ?_); (case hs => exact SqL.of (by walk_at "hp")); (case he => first | rfl | exact atI0 | exact atI1 | exact atI2 | exact atI3))
  | ((with_reducible refine' r_ixT2 ?hs ?he ?_); (case hs => first | assumption | exact SqT.of (by walk_at "hp")); (case he => first | rfl | exact atI0 | exact atI1 | exact atI2 | exact atI3))
  | ((with_reducible refine' r_setL2 ?hs ?he ?_); (case hs => walk_at "hp"); (case he => rfl))
  | ((with_reducible refine' r_gtup ?hs ?he ?_); (case hs => first | assumption | exact SqT.of (by walk_at "hp")); (case he => rfl))
  | ((with_reducible refine' r_fldAt ?hs ?hc ?hn ?hl ?_); (case hs => walk_at "hp"); (case hc => walk_at "cl"); (case hn => walk_at "cl"); (case hl => rfl))
  | ((with_reducible refine' r_sfldAt ?hs ?hc ?hn ?hl ?_); (case hs => walk_at "hp"); (case hc => walk_at "cl"); (case hn => walk_at "cl"); (case hl => exact Nat.le_of_ble_eq_true rfl))
  | ((with_reducible refine' r_aug ?he ?_); (case he => rfl))
  | ((with_reducible refine' r_starAt ?hs ?_); (case hs => first | exact .inl (by assumption) | exact .inr (by assumption) | exact .inl (SqT.of (by walk_at "hp")) | exact .inr (SqL.of (by walk_at "hp"))))
  | ((with_reducible refine' r_fldaugAt ?hs ?hc ?hn ?hl ?_); (case hs => walk_at "hp"); (case hc => walk_at "cl"); (case hn => walk_at "cl"); (case hl => rfl))
  | ((with_reducible refine' r_methAt ?hs ?hl ?_); (case hs => walk_at "hp"); (case hl => rfl))
  | ((with_reducible refine' r_tyL ?hs ?_); (case hs => first | assumption | exact SqL.of (by walk_at "hp")))
  | ((with_reducible refine' r_ifT ?h ?_); (case h => rfl))
  | ((with_reducible refine' r_ifF ?h ?_); (case h => rfl))
  | ((with_reducible first | refine' r_isiInt ?hd ?_ | refine' r_isiBool ?hd ?_ | refine' r_isiStr ?hd ?_ | refine' r_isiTup ?hd ?_ | refine' r_isiLst ?hd ?_); (case hd => assumption))
  ))

local macro_rules | `(tactic| walk_at "cl") => `(tactic| assumption)
/-- a pair that is one -/
def spIsPairOk (K : PySem.W.Frag) : Sp := fun vs H Q _ => ∃ v p, vs = [v] ∧ IsPair K H v p ∧ p.1.length ≤ 20 ∧ (∀ c ∈ p.1, c ∈ lts) ∧ p.2 ≤ 10 ^ 60 ∧ ∀ H', Same H H' → Q (.bl true) H'
section
variable {P : Program} {w : World} {K : PySem.W.Frag} {mg : Str → Option Value} {base : Heap}
theorem ok_is_pair (T : Txt w K mg) : Prom P w K mg base CX0 2 (a_is_pair K) p_is_pair [] (spIsPairOk K) := by
  obtain ⟨fd, F⟩ := T.d_is_pair
  have sc := sc_is_pair
  have G_is_text := ok_is_text (P := P) (base := base) T
  have G_is_integer := ok_is_integer (P := P) (base := base) T
  refine prom0 F sc (bn_is_pair F) (fun vs H Q E h => ?_) (fun cdv A outer s H vs Q E hr h => ?_)
  · obtain ⟨v, p, rfl, _⟩ := h
    rfl
  · obtain ⟨v, p, rfl, ⟨a, rfl, hS⟩, hl, hc, ht, k⟩ := h
    refine ⟨_, (pss_cons (ps_if (PW.pt (pw_or (pt_not (pt_val (pe_callB (cIsi (K := K)) (by rfl) T.z_isinstance (by decide +kernel) (pa_cons (pv 0) (pa_cons (pe_bltn (v := .ty "tuple") rfl T.z_tuple (by decide +kernel) rfl) pa_nil))))) (pw_or1 (pt_cmpR (oNe (K := K) hr.units) (pe_callB (cLen (K := K)) (by rfl) T.z_len (by decide +kernel) (pa_cons (pv 0) pa_nil)) pe_int (nomark _))))) (pss_one (ps_ret pe_bl)) pss_nil)
      (pss_cons (ps_asg (pv 0) (gTupA (K := K) (n := 2) rfl (pgs_cons (pg_name (i := 1) sc.nd rfl (by first | exact Or.inl rfl | exact Or.inr rfl)) (pgs_cons (pg_name (i := 2) sc.nd rfl (by first | exact Or.inl rfl | exact Or.inr rfl)) pgs_nil))))
      (pss_one (ps_ret (pe_and (pe_callP G_is_text (hr.mono (by decide)) T.g_is_text pass0 (pa_cons (pv 1) pa_nil)) (pe_and (pe_cmpR op_le (pe_callB (cLen (K := K)) (by rfl) T.z_len (by decide +kernel) (pa_cons (pv 1) pa_nil)) (pe_ki rfl T.c_LONGEST_PART) (nomark _)) (pe_one (pe_callP G_is_integer (hr.mono (by decide)) T.g_is_integer pass0 (pa_cons (pv 2) (pa_cons pe_int (pa_cons (pe_ki rfl T.c_MOST_TIMES) pa_nil))))))))))), ?_⟩
    have hd : Dp K H (.ref a) (pairD p) := .tup hS (.cons (.str _) (.cons (.int _) .nil))
    unfold pairD at hd
    have hsm : smD (.str (mkS p.1)) = true := by
      rw [smD, mkS_len, decide_eq_true_eq]
      omega
    have hit : isText (.str (mkS p.1)) = true := List.all_eq_true.mpr fun c h => decide_eq_true (hc c h)
    repeat walk_at "rd"
    refine ⟨_, _, rfl, .str _, hsm, fun H1 s1 => ?_⟩
    rw [hit]
    repeat walk_at "rd"
    refine r_lenS (by rw [mkS_len]; exact Nat.le_trans hl (by decide)) ?_
    repeat walk_at "rd"
    rw [mkS_len]
    refine r_iteY (by omega) ?_
    repeat walk_at "rd"
    refine ⟨_, _, _, _, rfl, .int _, ?_⟩
    refine q_bl ?_ (k _ s1)
    show (decide ((0 : Int) ≤ (p.2 : Int)) && decide ((p.2 : Int) ≤ _)) = true
    rw [decide_eq_true (by omega), Bool.true_and]
    exact decide_eq_true (by omega)
end
end OB

namespace OB
open PySem
/-! ### a pass at three held items does not see what is behind -/
theorem apply_loc {e : Edit} {l more : List Nat} (h : 1 + (if isDel e = true then 1 else 0) ≤ l.length) : applyE e (l ++ more) 0 = applyE e l 0 ++ more ∧ l.length ≤ (applyE e l 0).length + (if isDel e = true then 1 else 0) := by
  match l, h with
  | a :: r, h =>
    cases e with
    | put c => exact ⟨by simp [applyE], by simp [applyE]⟩
    | drop => exact ⟨by simp [applyE], by simp [applyE, isDel]⟩
    | dropN =>
      match r, h with
      | [], h => simp [isDel] at h
      | b :: r, h => exact ⟨by simp [applyE], by simp [applyE, isDel]⟩
    | before c => exact ⟨by simp [applyE], by simp [applyE, isDel]⟩
    | after c => exact ⟨by simp [applyE], by simp [applyE, isDel]⟩
    | mark k => exact ⟨rfl, by simp [applyE]⟩
    | brk => exact ⟨rfl, by simp [applyE]⟩
  | [], h => simp at h
theorem carry_loc : ∀ {es : List Edit} {l more : List Nat} {m : Nat} {b : Bool}, 1 + (es.filter isDel).length ≤ l.length →
    carry es 0 (l ++ more, m, b) = ((carry es 0 (l, m, b)).1 ++ more, (carry es 0 (l, m, b)).2) ∧ 1 ≤ (carry es 0 (l, m, b)).1.length
  | [], l, more, m, b, h => ⟨rfl, by show 1 ≤ l.length; simpa using h⟩
  | e :: es, l, more, m, b, h => by
    have hd : 1 + ((if isDel e = true then 1 else 0) + (es.filter isDel).length) ≤ l.length := by
      rw [List.filter_cons] at h
      split at h
      · rename_i q
        rw [if_pos q]
        rw [List.length_cons] at h
        omega
      · rename_i q
        rw [if_neg q]
        omega
    obtain ⟨h1, h2⟩ := apply_loc (e := e) (l := l) (more := more) (by omega)
    have h3 : 1 + (es.filter isDel).length ≤ (applyE e l 0).length := by omega
    rw [carry_cons, carry_cons]
    cases e with
    | mark k => exact carry_loc (by simpa [isDel] using hd)
    | brk => exact carry_loc (by simpa [isDel] using hd)
    | put c =>
      show carry es 0 (applyE (.put c) (l ++ more) 0, m, b) = _ ∧ _
      rw [h1]
      exact carry_loc h3
    | drop =>
      show carry es 0 (applyE .drop (l ++ more) 0, m, b) = _ ∧ _
      rw [h1]
      exact carry_loc h3
    | dropN =>
      show carry es 0 (applyE .dropN (l ++ more) 0, m, b) = _ ∧ _
      rw [h1]
      exact carry_loc h3
    | before c =>
      show carry es 0 (applyE (.before c) (l ++ more) 0, m, b) = _ ∧ _
      rw [h1]
      exact carry_loc h3
    | after c =>
      show carry es 0 (applyE (.after c) (l ++ more) 0, m, b) = _ ∧ _
      rw [h1]
      exact carry_loc h3
theorem pass_loc {L : Loop} (h : WF L) {l : List Nat} (more : List Nat) (m : Nat) (hl : 3 ≤ l.length) : passAt L (l ++ more) 0 m = ((passAt L l 0 m).1 ++ more, (passAt L l 0 m).2) ∧ 1 ≤ (passAt L l 0 m).1.length := by
  have e : ruleAt L (l ++ more) 0 m = ruleAt L l 0 m := by
    unfold ruleAt
    match l, hl with
    | a :: b :: r, _ => simp
  have he := edsOf_ok h (ruleAt L l 0 m) fun k hk => fit_lt hk
  unfold passAt
  rw [e]
  exact carry_loc (by omega)
/-- .. nor does what becomes of it -/
theorem onePass_loc {L : Loop} (h : WF L) {st : Stay} (more : List Nat) (hl : live 3 st = true) :
    onePass L ⟨st.mark, st.held ++ more, false⟩ = (if (onePass L st).2.brk = true then ((onePass L st).1 ++ more, (onePass L st).2) else ((onePass L st).1, ⟨(onePass L st).2.mark, (onePass L st).2.held ++ more, false⟩)) := by
  have h3 := (live_pos (by decide) hl).2.2
  obtain ⟨p1, p2⟩ := pass_loc h more st.mark h3
  unfold onePass partOf stayOf
  simp only [p1]
  cases hb : (passAt L st.held 0 st.mark).2.2 with
  | true => simp [hb]
  | false =>
    simp only [hb, Bool.false_eq_true, if_false]
    rw [List.take_append_of_le_length p2, List.drop_append_of_le_length p2]
/-! ### feeding is walking -/
def ext (st : Stay) (more : List Nat) : Stay := ⟨st.mark, st.held ++ more, false⟩
theorem live_ext {st : Stay} {more : List Nat} (h : live 3 st = true) : live 1 (ext st more) = true := by
  have h3 := (live_pos (by decide) h).2.2
  unfold live ext
  rw [decide_eq_true (by rw [List.length_append]; omega)]
  rfl
theorem runs_ext {L : Loop} (h : WF L) {st : Stay} (more : List Nat) (hb : st.brk = false) : ∀ n, (∀ i, i < n → live 3 (itS L st i) = true) →
    ((itS L st n).brk = false → itS L (ext st more) n = ext (itS L st n) more ∧ outs L (ext st more) n = outs L st n) ∧
    ((itS L st n).brk = true → itS L (ext st more) n = itS L st n ∧ outs L (ext st more) n = outs L st n ++ more) ∧ ∀ i, i < n → live 1 (itS L (ext st more) i) = true
  | 0, _ => ⟨fun _ => ⟨rfl, rfl⟩, fun z => (by rw [show itS L st 0 = st from rfl, hb] at z; cases z), fun i hi => (by omega)⟩
  | n + 1, hl => by
    obtain ⟨i1, _, i3⟩ := runs_ext h more hb n fun i hi => hl i (by omega)
    have hln := hl n (by omega)
    obtain ⟨e1, e2⟩ := i1 (live_pos (by decide) hln).2.1
    have hp := onePass_loc h more hln
    have eo : onePass L (ext (itS L st n) more) = onePass L ⟨(itS L st n).mark, (itS L st n).held ++ more, false⟩ := rfl
    have hlive : ∀ i, i < n + 1 → live 1 (itS L (ext st more) i) = true := fun i hi => by
      by_cases e : i = n
      · rw [e, e1]; exact live_ext hln
      · exact i3 i (by omega)
    refine ⟨fun z => ?_, fun z => ?_, hlive⟩
    · have z' : (onePass L (itS L st n)).2.brk = false := z
      rw [z'] at hp
      simp only [Bool.false_eq_true, if_false] at hp
      constructor
      · show (onePass L (itS L (ext st more) n)).2 = _
        rw [e1, eo, hp]
        rfl
      · rw [outs_succ, outs_succ, e2]
        congr 1
        show (onePass L (itS L (ext st more) n)).1 = _
        rw [e1, eo, hp]
        rfl
    · have z' : (onePass L (itS L st n)).2.brk = true := z
      rw [z'] at hp
      simp only [if_true] at hp
      constructor
      · show (onePass L (itS L (ext st more) n)).2 = _
        rw [e1, eo, hp]
        rfl
      · rw [outs_succ, outs_succ, e2, List.append_assoc]
        congr 1
        show (onePass L (itS L (ext st more) n)).1 = _
        rw [e1, eo, hp]
        rfl
theorem fedL_walk {L : Loop} (h : WF L) {m : Nat} {s0 st : Stay} {cs o : List Nat} {n : Nat} (r : FedL L s0 cs o n st) (e0 : s0 = ⟨m, [], false⟩) : ∀ more,
    (∀ i, i < n → live 1 (itS L ⟨m, cs ++ more, false⟩ i) = true) ∧
    (st.brk = false → itS L ⟨m, cs ++ more, false⟩ n = ext st more ∧ outs L ⟨m, cs ++ more, false⟩ n = o) ∧
    (st.brk = true → itS L ⟨m, cs ++ more, false⟩ n = st ∧ outs L ⟨m, cs ++ more, false⟩ n = o ++ more) := by
  induction r with
  | nil =>
    intro more
    rw [e0]
    exact ⟨fun i hi => (by omega), fun _ => ⟨rfl, rfl⟩, fun z => (by cases z)⟩
  | snoc a b ih =>
    rename_i st1 st2 cs1 c o1 o2 n1 n2
    intro more
    obtain ⟨j1, j2, j3⟩ := ih (c :: more)
    rw [List.append_assoc]
    show (∀ i, i < n1 + n2 → live 1 (itS L ⟨m, cs1 ++ (c :: more), false⟩ i) = true) ∧ _
    rcases b with ⟨b1, rfl, rfl, rfl⟩ | ⟨b1, b2⟩
    · refine ⟨j1, fun z => (by rw [b1] at z; cases z), fun z => ?_⟩
      obtain ⟨k1, k2⟩ := j3 b1
      refine ⟨k1, ?_⟩
      show outs L ⟨m, cs1 ++ (c :: more), false⟩ n1 = _
      rw [k2, List.append_assoc]
      rfl
    · obtain ⟨k1, k2⟩ := j2 b1
      have ee : ext st1 (c :: more) = ext (fedSt st1 c) more := by
        unfold ext fedSt
        simp
      obtain ⟨g1, g2, g3⟩ := runs_ext h (st := fedSt st1 c) more rfl n2 b2.lv
      rw [← b2.at_] at g1 g2
      refine ⟨fun i hi => ?_, fun z => ?_, fun z => ?_⟩
      · by_cases hi1 : i < n1
        · exact j1 i hi1
        · rw [show i = n1 + (i - n1) by omega, itS_add, k1, ee]
          exact g3 _ (by omega)
      · obtain ⟨q1, q2⟩ := g1 z
        exact ⟨by show itS L ⟨m, cs1 ++ (c :: more), false⟩ (n1 + n2) = _; rw [itS_add, k1, ee, q1], by show outs L ⟨m, cs1 ++ (c :: more), false⟩ (n1 + n2) = _; rw [outs_add, k1, k2, ee, q2, b2.out]⟩
      · obtain ⟨q1, q2⟩ := g2 z
        exact ⟨by show itS L ⟨m, cs1 ++ (c :: more), false⟩ (n1 + n2) = _; rw [itS_add, k1, ee, q1], by show outs L ⟨m, cs1 ++ (c :: more), false⟩ (n1 + n2) = _; rw [outs_add, k1, k2, ee, q2, b2.out, List.append_assoc]⟩
/-- THE FAR RUN IS THE WALK -/
theorem far_walk {L : Loop} (h : WF L) {m : Nat} {st1 st2 : Stay} {cs o o2 : List Nat} {n n2 : Nat} (r : FedL L ⟨m, [], false⟩ cs o n st1) (q : Runs L 1 st1 o2 n2 st2) : Runs L 1 ⟨m, cs, false⟩ (o ++ o2) (n + n2) st2 := by
  obtain ⟨j1, j2, j3⟩ := fedL_walk h r rfl []
  rw [List.append_nil] at j1 j2 j3
  have key : itS L ⟨m, cs, false⟩ n = st1 ∧ outs L ⟨m, cs, false⟩ n = o := by
    cases hb : st1.brk with
    | false =>
      obtain ⟨k1, k2⟩ := j2 hb
      refine ⟨?_, k2⟩
      rw [k1]
      obtain ⟨a, b, c⟩ := st1
      subst hb
      unfold ext
      simp
    | true =>
      obtain ⟨k1, k2⟩ := j3 hb
      exact ⟨k1, by rw [k2, List.append_nil]⟩
  refine ⟨fun i hi => ?_, q.en, ?_, ?_⟩
  · by_cases e : i < n
    · exact j1 i e
    · rw [show i = n + (i - n) by omega, itS_add, key.1]
      exact q.lv _ (by omega)
  · rw [itS_add, key.1]; exact q.at_
  · rw [outs_add, key.1, key.2, q.out]
theorem runs_unique {L : Loop} {least : Nat} {s st st' : Stay} {o o' : List Nat} {n n' : Nat} (a : Runs L least s o n st) (b : Runs L least s o' n' st') : o = o' ∧ n = n' ∧ st = st' := by
  have e : n = n' := by
    rcases Nat.lt_trichotomy n n' with h | h | h
    · have := b.lv n h
      rw [← a.at_, a.en] at this
      cases this
    · exact h
    · have := a.lv n' h
      rw [← b.at_, b.en] at this
      cases this
  subst e
  exact ⟨a.out.trans b.out.symm, rfl, a.at_.trans b.at_.symm⟩
theorem runs_not_endl {L : Loop} {least : Nat} {s st : Stay} {o : List Nat} {n : Nat} (a : Runs L least s o n st) (e : Endl L least s) : False := by
  have := e n
  rw [← a.at_, a.en] at this
  cases this
/-- endless feeding is an endless walk -/
theorem far_endless {L : Loop} (h : WF L) {m : Nat} {cs : List Nat} (e : FedE L ⟨m, [], false⟩ cs ∨ ∃ o n st1, FedL L ⟨m, [], false⟩ cs o n st1 ∧ Endl L 1 st1) : Endl L 1 ⟨m, cs, false⟩ := by
  rcases e with ⟨pre, c, rest, o, n, st1, rfl, hl, hb, he⟩ | ⟨o, n, st1, hl, he⟩
  · obtain ⟨j1, j2, _⟩ := fedL_walk h hl rfl (c :: rest)
    obtain ⟨k1, _⟩ := j2 hb
    have ee : OB.ext st1 (c :: rest) = OB.ext (fedSt st1 c) rest := by
      unfold OB.ext fedSt
      simp
    intro i
    by_cases hi : i < n
    · exact j1 i hi
    · rw [show i = n + (i - n) by omega, itS_add, k1, ee]
      exact (runs_ext h (st := fedSt st1 c) rest rfl (i - n + 1) fun t _ => he t).2.2 _ (by omega)
  · obtain ⟨j1, j2, j3⟩ := fedL_walk h hl rfl []
    rw [List.append_nil] at j1 j2 j3
    have hb : st1.brk = false := (live_pos (by decide) (he 0)).2.1
    obtain ⟨k1, _⟩ := j2 hb
    have e1 : OB.ext st1 [] = st1 := by
      obtain ⟨a, b, c⟩ := st1
      subst hb
      unfold OB.ext
      simp
    intro i
    by_cases hi : i < n
    · exact j1 i hi
    · rw [show i = n + (i - n) by omega, itS_add, k1, e1]
      exact he _
/-! ### walks put together -/
structure Walk (L : Loop) (st : Stay) (o : List Nat) (n : Nat) (st' : Stay) : Prop where
  lv : ∀ i, i < n → live 1 (itS L st i) = true
  at_ : st' = itS L st n
  out : o = outs L st n
theorem Walk.none (L : Loop) (st : Stay) : Walk L st [] 0 st := ⟨fun i h => (by omega), rfl, rfl⟩
theorem Walk.trans {L : Loop} {s t u : Stay} {o o2 : List Nat} {n n2 : Nat} (a : Walk L s o n t) (b : Walk L t o2 n2 u) : Walk L s (o ++ o2) (n + n2) u := by
  refine ⟨fun i hi => ?_, ?_, ?_⟩
  · by_cases e : i < n
    · exact a.lv i e
    · rw [show i = n + (i - n) by omega, itS_add, ← a.at_]
      exact b.lv _ (by omega)
  · rw [itS_add, ← a.at_]; exact b.at_
  · rw [outs_add, ← a.at_, ← a.out, ← b.out]
theorem Walk.one {L : Loop} {s t : Stay} {o : List Nat} (h : live 1 s = true) (e : onePass L s = (o, t)) : Walk L s o 1 t := by
  refine ⟨fun i hi => ?_, ?_, ?_⟩
  · rw [show i = 0 by omega]; exact h
  · show t = (onePass L s).2
    rw [e]
  · rw [show (1 : Nat) = 0 + 1 from rfl, outs_succ]
    show o = [] ++ (onePass L s).1
    rw [e]
    rfl
theorem Walk.runs {L : Loop} {s t : Stay} {o : List Nat} {n : Nat} (a : Walk L s o n t) (h : live 1 t = false) : Runs L 1 s o n t := ⟨a.lv, h, a.at_, a.out⟩
/-- the same some times -/
theorem Walk.reps {L : Loop} {m : Nat} {x o : List Nat} {n : Nat} (h : ∀ more, (∀ c ∈ more, c ∈ lts) → Walk L ⟨m, x ++ more, false⟩ o n ⟨m, more, false⟩) (hx : ∀ c ∈ x, c ∈ lts) : ∀ (k : Nat) (more : List Nat), (∀ c ∈ more, c ∈ lts) → Walk L ⟨m, rep k x ++ more, false⟩ (rep k o) (n * k) ⟨m, more, false⟩
  | 0, more, _ => Walk.none ..
  | k + 1, more, hm => by
    have hr : ∀ c ∈ rep k x ++ more, c ∈ lts := fun c hc => by
      rcases List.mem_append.mp hc with z | z
      · unfold rep at z
        obtain ⟨l, h1, h2⟩ := List.mem_flatten.mp z
        rw [(List.mem_replicate.mp h1).2] at h2
        exact hx c h2
      · exact hm c z
    rw [rep_succ, rep_succ, Nat.mul_succ, Nat.add_comm (n * k), List.append_assoc]
    exact (h _ hr).trans (Walk.reps h hx k more hm)
end OB

namespace OB
open PySem PySem.Spec PyProof.Rows L2
/-! ### t1 = t2 = t3 = t4 = e -/
section
variable {M : Model} {A : Around} {E : Value → Shared → Prop} {s : Shared} {env : Env}
theorem assign_four {t1 t2 t3 t4 value : Expr} {pos : Pos} {Q : Flow → Shared → Prop}
    (h : wpAny M A (eval value env) (fun v s1 => wpAny M A (assign t1 env v) (fun _ s2 => wpAny M A (assign t2 env v) (fun _ s3 => wpAny M A (assign t3 env v) (fun _ s4 => wpAny M A (assign t4 env v) (fun _ => Q .next) E s4) E s3) E s2) E s1) E s)
    (he : (assignEach [t1, t2, t3, t4] env).map (·.2) = [assign t1 env, assign t2 env, assign t3 env, assign t4 env]) (hw : swappedStores [t1, t2, t3, t4] value env = pure none) :
    wpAny M A (exec (.Assign [t1, t2, t3, t4] value pos) env) Q E s := by
  refine wpAny_Assign_stores (wpAny_mono h (fun v s1 h1 => ?_) fun _ _ x => x) rfl hw
  rw [he]
  exact wpAny_bind (wpAny_holding (wpAny_mono h1 (fun _ s2 h2 => wpAny_bind (wpAny_holding (wpAny_mono h2 (fun _ s3 h3 => wpAny_bind (wpAny_holding h3)) fun _ _ x => x))) fun _ _ x => x))
end
def tAsg4 (te : TE) (g1 g2 g3 g4 : TG) : TS := fun D σ H => te σ H fun x H1 => g1 x σ H1 fun σ1 H2 => g2 x σ1 H2 fun σ2 H3 => g3 x σ2 H3 fun σ3 H4 => g4 x σ3 H4 D.nx
section
variable {X : Cx} {e t1 t2 t3 t4 : Expr} {te : TE} {g1 g2 g3 g4 : TG} {pos : Pos}
theorem ps_asg4 (he : PE X e te) (h1 : PG X t1 g1) (h2 : PG X t2 g2) (h3 : PG X t3 g3) (h4 : PG X t4 g4)
    (ha : (assignEach [t1, t2, t3, t4] X.env).map (·.2) = [assign t1 X.env, assign t2 X.env, assign t3 X.env, assign t4 X.env] := by rfl) (hw : swappedStores [t1, t2, t3, t4] e X.env = pure none := by rfl) :
    PS X (.Assign [t1, t2, t3, t4] e pos) (tAsg4 te g1 g2 g3 g4) := by
  refine ⟨fun pins s σ H D I h => assign_four (thn (he.run pins s σ H _ I h) fun v s1 ⟨x, H1, I1, r1, q1⟩ => ?_) ha hw⟩
  refine thn (h1.run pins s1 σ H1 x v _ I1 r1 q1) fun _ s2 ⟨σ2, H2, I2, q2⟩ => ?_
  refine thn (h2.run pins s2 σ2 H2 x v _ I2 r1 q2) fun _ s3 ⟨σ3, H3, I3, q3⟩ => ?_
  refine thn (h3.run pins s3 σ3 H3 x v _ I3 r1 q3) fun _ s4 ⟨σ4, H4, I4, q4⟩ => ?_
  exact thn (h4.run pins s4 σ4 H4 x v _ I4 r1 q4) fun _ s5 q => q
end
section
variable {σ : L2.St} {H : Hp} {D : Ends} {te : TE} {g1 g2 g3 g4 : TG}
theorem r_asg4 (h : te σ H fun x H1 => g1 x σ H1 fun σ1 H2 => g2 x σ1 H2 fun σ2 H3 => g3 x σ2 H3 fun σ3 H4 => g4 x σ3 H4 D.nx) : tAsg4 te g1 g2 g3 g4 D σ H := h
end
end OB

namespace OB
open PySem PySem.Spec PyProof.Rows L2
local macro_rules | `(tactic| walk_at "hp") => `(tactic| first
  | assumption | exact upd_same | (refine look_new ?_ ?_ <;> walk_at "hp") | ((refine' look_mut (v := ?lv) ?lq ?lp ?ld); (case lq => walk_at "hp"); (case lp => walk_at "hp"); (case ld => (intro z; cases z))))
local macro_rules | `(tactic| walk_at "rd") => `(tactic| (first
  | (with_reducible first
  | refine r_seq ?_ | refine r_asg ?_ | refine r_gname ?_ | refine r_ret ?_ | refine r_retN ?_ | refine r_next ?_ | refine r_drop ?_ | refine r_if ?_
  | refine r_c ?_ | refine r_op ?_ | refine r_test ?_ | refine r_tb ?_ | refine r_bl ?_ | refine r_and ?_ | refine r_or ?_ | refine r_not ?_
  | refine r_andV ?_ | refine r_orV ?_ | refine r_notV ?_ | refine r_ifE ?_ | refine r_nil ?_ | refine r_cons ?_ | refine r_tup ?_ | refine r_lst ?_ | refine r_cb ?_ | refine r_call ?_ | refine r_sub ?_
  | refine r_addI ?_ | refine r_I0 ?_ | refine r_eqI ?_ | refine r_neI ?_ | refine r_eqS ?_ | refine r_neS ?_ | refine r_inS ?_ | refine r_inS2 ?_ | refine r_notInS2 ?_ | refine r_isNA ?_ | refine r_m1 ?_ | refine r_isstr ?_ | refine r_lc ?_ | refine r_notNA ?_ | refine r_kt ?_ | refine r_chain ?_ | refine r_gcons ?_ | refine r_gnil ?_ | refine r_fld ?_ | refine r_sfld ?_ | refine r_meth ?_ | refine r_sl ?_ | refine r_part ?_ | refine r_nopart ?_ | refine r_int ?_ | refine r_star ?_ | refine r_delL ?_ | refine r_par ?_ | refine r_parAt ?_ | refine r_par3 ?_ | refine r_parAt3 ?_ | refine r_fldaug ?_ | refine r_brk ?_ | refine r_for ?_ | refine r_ienT ?_ | refine r_make ?_ | refine r_bm ?_ | refine r_bm0 ?_ | refine iteT ?_ | refine iteF ?_)
  | ((with_reducible refine' r_var ?he ?_); (case he => rfl))
  | (with_reducible first | refine r_abs ?_ | refine r_max ?_ | refine r_min ?_)
  | ((with_reducible refine' r_lenSq ?hs ?_); (case hs => first | exact .inl (by assumption) | exact .inr (by assumption) | exact .inl (SqL.of (by walk_at "hp")) | exact .inr (SqT.of (by walk_at "hp"))))
  | ((with_reducible refine' r_mulR ?hc ?_); (case hc => decide))
  | ((with_reducible refine' r_mulL ?hc ?_); (case hc => decide))
  | ((with_reducible refine' r_mod ?hc ?_); (case hc => first | decide | assumption | omega))
  | ((with_reducible refine' r_div ?hc ?_); (case hc => first | decide | assumption | (constructor <;> first | assumption | omega)))
  | ((with_reducible refine' r_pow ?hc ?_); (case hc => first | decide | (refine ⟨by decide, by decide, by omega⟩)))
  | ((with_reducible refine' r_ixL2 ?hs ?he ?_); (case hs => exact SqL.of (by walk_at "hp")); (case he => first | rfl | exact atI0 | exact atI1 | exact atI2 | exact atI3))
  | ((with_reducible refine' r_ixT2 ?hs ?he ?_); (case hs => first | assumption | exact SqT.of (by walk_at "hp")); (case he => first | rfl | exact atI0 | exact atI1 | exact atI2 | exact atI3))
  | ((with_reducible refine' r_setL2 ?hs ?he ?_); (case hs => walk_at "hp"); (case he => rfl))
  | ((with_reducible refine' r_gtup ?hs ?he ?_); (case hs => first | assumption | exact SqT.of (by walk_at "hp")); (case he => rfl))
  | ((with_reducible refine' r_fldAt ?hs ?hc ?hn ?hl ?_); (case hs => walk_at "hp"); (case hc => walk_at "cl"); (case hn => walk_at "cl"); (case hl => rfl))
  | ((with_reducible refine' r_sfldAt ?hs ?hc ?hn ?hl ?_); (case hs => walk_at "hp"); (case hc => walk_at "cl"); (case hn => walk_at "cl"); (case hl => exact Nat.le_of_ble_eq_true rfl))
  | ((with_reducible refine' r_aug ?he ?_); (case he => rfl))
  | ((with_reducible refine' r_starAt ?hs ?_); (case hs => first | exact .inl (by assumption) | exact .inr (by assumption) | exact .inl (SqT.of (by walk_at "hp")) | exact .inr (SqL.of (by walk_at "hp"))))
  | ((with_reducible refine' r_fldaugAt ?hs ?hc ?hn ?hl ?_); (case hs => walk_at "hp"); (case hc => walk_at "cl"); (case hn => walk_at "cl"); (case hl => rfl))
  | ((with_reducible refine' r_methAt ?hs ?hl ?_); (case hs => walk_at "hp"); (case hl => rfl))
  | ((with_reducible refine' r_tyL ?hs ?_); (case hs => first | assumption | exact SqL.of (by walk_at "hp")))
  | ((with_reducible refine' r_ifT ?h ?_); (case h => rfl))
  | ((with_reducible refine' r_ifF ?h ?_); (case h => rfl))
  | ((with_reducible first | refine' r_isiInt ?hd ?_ | refine' r_isiBool ?hd ?_ | refine' r_isiStr ?hd ?_ | refine' r_isiTup ?hd ?_ | refine' r_isiLst ?hd ?_); (case hd => assumption))
  ))

local macro_rules | `(tactic| walk_at "cl") => `(tactic| assumption)
theorem pairs_dp {K : PySem.W.Frag} {H : Hp} : ∀ {xs : List V} {rs : List (List Nat × Nat)}, DpAll K H xs (rs.map pairD) → All2 (IsPair K H) xs rs
  | [], [], _ => .nil
  | [], _ :: _, h => by cases h
  | _ :: _, [], h => by cases h
  | x :: xs, p :: rs, h => by
    cases h with
    | cons h t =>
      refine .cons ?_ (pairs_dp t)
      cases h with
      | tup hS hA =>
        cases hA with
        | cons h1 t1 =>
          cases h1
          cases t1 with
          | cons h2 t2 =>
            cases h2
            cases t2
            exact ⟨_, rfl, hS⟩
/-- what is known of tidied pairs -/
structure TidyB (B : Nat) (rs : List (List Nat × Nat)) : Prop where
  tidy : Tidy rs
  bnd : ∀ p ∈ rs, p.1.length ≤ B ∧ ∀ c ∈ p.1, c ∈ lts
def spRepR (K : PySem.W.Frag) : Sp := fun vs H Q _ => ∃ self dx r dy l, vs = [.ref self, .ref r] ∧ H self = some (.ins (RepC K) dx []) ∧ H r = some (.ins (RunsC K) dy [("tidied", .ref l)]) ∧ Q .non (upd H self (.ins (RepC K) dx [("runs", .ref l)]))
def spRepL (K : PySem.W.Frag) : Sp := fun vs H Q _ => ∃ self dx v rs, vs = [.ref self, v] ∧ H self = some (.ins (RepC K) dx []) ∧ Dp K H v (.list (rs.map pairD)) ∧ rs.length ≤ 50 ∧ (∀ p ∈ rs, (p.1.length ≤ 20 ∧ ∀ c ∈ p.1, c ∈ lts) ∧ p.2 ≤ 10 ^ 60) ∧
  ∀ H' l rs', Chg [self] H H' → RepAt K H' self l rs' → H l = none → TidyB 20 rs' → den rs' = den rs → rs'.length ≤ rs.length → Q .non H'
section
variable {P : Program} {w : World} {K : PySem.W.Frag} {mg : Str → Option Value} {base : Heap}
theorem ok_RepR (T : Txt w K mg) : Prom P w K mg base CX0 4 (a_Repeats_init K) p_Repeats_init [] (spRepR K) := by
  obtain ⟨fd, F⟩ := T.d_Repeats_init
  have sc := sc_Repeats_init
  have c1 := T.cl_Repeats
  have c2 := T.na_Repeats_runs
  have c3 := T.cl_Runs
  have c4 := T.na_Runs_tidied
  have G_is_pair := ok_is_pair (P := P) (base := base) T
  have G_tidy := ok_tidy (P := P) (base := base) T
  refine prom0 F sc (bn_Repeats_init F) (fun vs H Q E h => ?_) (fun cdv A outer s H vs Q E hr h => ?_)
  · obtain ⟨self, dx, r, dy, l, rfl, _⟩ := h
    rfl
  · obtain ⟨self, dx, r, dy, l, rfl, hself, hrr, k⟩ := h
    refine ⟨_, (pss_cons (ps_if (pt_val (pe_callB (cIsi (K := K)) (by rfl) T.z_isinstance (by decide +kernel) (pa_cons (pv 1) (pa_cons (pe_gref rfl T.g_Runs) pa_nil)))) (pss_cons (sFldA (K := K) (pv 0) (eFld (K := K) (pv 1)))
      (pss_one ps_retN)) pss_nil)
      (pss_cons (ps_if (PW.pt (pw_or (pt_not (pt_val (pe_callB (cIsi (K := K)) (by rfl) T.z_isinstance (by decide +kernel) (pa_cons (pv 1) (pa_cons (pe_bltn (v := .ty "list") rfl T.z_list (by decide +kernel) rfl) pa_nil))))) (pw_or (pt_cmpR op_gt (pe_callB (cLen (K := K)) (by rfl) T.z_len (by decide +kernel) (pa_cons (pv 1) pa_nil)) (pe_ki rfl T.c_MOST_PAIRS) (nomark _)) (pw_or1 (pt_not (pt_val (pe_callB (cAll (K := K) rfl) (by rfl) T.z_all (by decide +kernel) (pa_cons (pe_lc (own := [("pair", 2)]) rfl sc.nd (piA (K := K) (pv 1)) (blkOk_by (N := n_Repeats_init) (sc := defScope s_Repeats_init) (by decide +kernel)) (fun _ _ _ _ _ => (pg_name (i := 2) sc.nd rfl (by first | exact Or.inl rfl | exact Or.inr rfl))) (fun _ _ _ _ _ => pts_nil) (fun _ _ _ _ _ => (pe_callP G_is_pair (hr.mono (by decide)) T.g_is_pair pass0 (pa_cons (pv 2) pa_nil)))) pa_nil)))))))) (pss_one ps_never) pss_nil)
      (pss_one (sFldA (K := K) (pv 0) (pe_callP G_tidy (hr.mono (by decide)) T.g_tidy pass0 (pa_cons (pv 1) pa_nil)))))), ?_⟩
    repeat walk_at "rd"
    refine r_isiOwn hrr c3 T.in_Runs T.ki_Runs_Runs ?_
    repeat walk_at "rd"
    exact k
theorem ok_RepL (T : Txt w K mg) : Prom P w K mg base CX0 4 (a_Repeats_init K) p_Repeats_init [] (spRepL K) := by
  obtain ⟨fd, F⟩ := T.d_Repeats_init
  have sc := sc_Repeats_init
  have c1 := T.cl_Repeats
  have c2 := T.na_Repeats_runs
  have c3 := T.cl_Runs
  have c4 := T.na_Runs_tidied
  have G_is_pair := ok_is_pair (P := P) (base := base) T
  have G_tidy := ok_tidy (P := P) (base := base) T
  refine prom0 F sc (bn_Repeats_init F) (fun vs H Q E h => ?_) (fun cdv A outer s H vs Q E hr h => ?_)
  · obtain ⟨self, dx, v, rs, rfl, _⟩ := h
    rfl
  · obtain ⟨self, dx, v, rs, rfl, hself, hd, hl, hb, k⟩ := h
    refine ⟨_, (pss_cons (ps_if (pt_val (pe_callB (cIsi (K := K)) (by rfl) T.z_isinstance (by decide +kernel) (pa_cons (pv 1) (pa_cons (pe_gref rfl T.g_Runs) pa_nil)))) (pss_cons (sFldA (K := K) (pv 0) (eFld (K := K) (pv 1)))
      (pss_one ps_retN)) pss_nil)
      (pss_cons (ps_if (PW.pt (pw_or (pt_not (pt_val (pe_callB (cIsi (K := K)) (by rfl) T.z_isinstance (by decide +kernel) (pa_cons (pv 1) (pa_cons (pe_bltn (v := .ty "list") rfl T.z_list (by decide +kernel) rfl) pa_nil))))) (pw_or (pt_cmpR op_gt (pe_callB (cLen (K := K)) (by rfl) T.z_len (by decide +kernel) (pa_cons (pv 1) pa_nil)) (pe_ki rfl T.c_MOST_PAIRS) (nomark _)) (pw_or1 (pt_not (pt_val (pe_callB (cAll (K := K) rfl) (by rfl) T.z_all (by decide +kernel) (pa_cons (pe_lc (own := [("pair", 2)]) rfl sc.nd (piA (K := K) (pv 1)) (blkOk_by (N := n_Repeats_init) (sc := defScope s_Repeats_init) (by decide +kernel)) (fun _ _ _ _ _ => (pg_name (i := 2) sc.nd rfl (by first | exact Or.inl rfl | exact Or.inr rfl))) (fun _ _ _ _ _ => pts_nil) (fun _ _ _ _ _ => (pe_callP G_is_pair (hr.mono (by decide)) T.g_is_pair pass0 (pa_cons (pv 2) pa_nil)))) pa_nil)))))))) (pss_one ps_never) pss_nil)
      (pss_one (sFldA (K := K) (pv 0) (pe_callP G_tidy (hr.mono (by decide)) T.g_tidy pass0 (pa_cons (pv 1) pa_nil)))))), ?_⟩
    obtain ⟨tyn, hty, ety⟩ := Dp.ty hd
    have ety : tyn = "list" := ety
    subst ety
    have hd0 := hd
    cases hd0 with
    | lst ha hA =>
    rename_i a xs
    have hq := pairs_dp hA
    have hxl : xs.length = rs.length := hq.length
    repeat walk_at "rd"
    refine r_isiNo hty (by decide) T.no_Runs ?_
    repeat walk_at "rd"
    refine r_iteO (by omega) ?_
    repeat walk_at "rd"
    refine r_iany_l ?_
    repeat walk_at "rd"
    refine ⟨a, rfl, ⟨_, ha⟩, ?_⟩
    obtain ⟨qs, e1, e2, e3⟩ := hq.zip
    have ha2 := ha
    rw [e1] at ha2
    have hqs : qs.length = rs.length := by rw [e2, List.length_map]
    refine lc_pL (v := (·.1)) (σ' := fun q => [some (.ref self), some (.ref a), some q.1]) (keep := fun _ => true) (f := fun q : V × (List Nat × Nat) => .bl true) ha2 (by omega) (fun x _ => fun _ _ _ q => by exact q) (fun x _ => rfl) (fun x _ => evst_yes) (fun x hx _ => ?_) (fun D H1 hD s1 hD1 => ?_)
    · intro H1 g1 Q1 q1
      have hm : x.2 ∈ rs := by rw [e2]; exact List.mem_map_of_mem hx
      have hb1 := hb _ hm
      repeat walk_at "rd"
      exact ⟨_, _, rfl, (e3 x hx).chg (Chg.of_same (ps := []) g1), hb1.1.1, hb1.1.2, hb1.2, fun H2 s2 => q1 H2 s2⟩
    · rw [List.filter_eq_self.mpr (fun _ _ => rfl)] at hD1
      repeat walk_at "rd"
      refine r_all (bs := qs.map fun _ => true) (SqL.of (by rw [hD1, List.map_map]; rfl)) ?_
      rw [show (qs.map fun _ => true).all id = true from by rw [List.all_map]; exact List.all_eq_true.mpr fun _ _ => rfl]
      repeat walk_at "rd"
      refine ⟨a, xs, rs, 20, rfl, Same.sql s1 ha, hq.mono fun _ _ q => q.chg (Chg.of_same (ps := []) s1), by omega, by decide, fun p hp => ⟨(hb p hp).1.1, fun _ => (hb p hp).1.2⟩, fun H2 l ys rs' s2 h1 h2 h3 h4 h5 h6 h7 => ?_⟩
      have s02 := s1.trans s2
      have hs2 := s02 _ _ hself
      repeat walk_at "rd"
      have cg : Chg [self] H2 (upd H2 self (.ins (RepC K) dx [("runs", .ref l)])) := Chg.upd hs2 (by simp)
      exact k _ l rs' ((Chg.of_same s02).trans cg) ⟨dx, ys, upd_same, look_mut hs2 h1 (fun z => by cases z), h3.mono fun _ _ q => q.chg cg⟩ (none_of_same s1 h2) ⟨h4, h7⟩ h5 h6
end
/-! ### Repeats(Runs(..)), read at once -/
section
variable {K : PySem.W.Frag} {σ : L2.St} {H : Hp} {Q : VK} {t : TA} {E E' : XK}
def kRep (K : PySem.W.Frag) (E E' : XK) (Q : VK) : List V → Hp → Prop := fun vs H1 => ∀ x dx, H1 x = none → H1 dx = none → dx ≠ x → spRunsI K (.ref x :: (vs ++ [])) (upd (upd H1 dx (.own x)) x (.ins (RunsC K) dx []))
  (fun v H2 => v = .non ∧ ∀ y dy, H2 y = none → H2 dy = none → dy ≠ y → spRepR K (.ref y :: ([.ref x] ++ [])) (upd (upd H2 dy (.own y)) y (.ins (RepC K) dy [])) (fun v H3 => v = .non ∧ Q (.ref y) H3) E) E'
theorem r_repRuns (h : t σ H (kRep K E E' Q)) : tMake (RepC K) (spRepR K) [] E (tCons (tMake (RunsC K) (spRunsI K) [] E' t) tNil) σ H Q := h
theorem kRep_of {a : Addr} {xs : List V} {rs : List (List Nat × Nat)} {B : Nat} (hS : SqL K H a xs) (hq : All2 (IsPair K H) xs rs) (hl : rs.length ≤ 100000) (hB : B ≤ 8000000) (hb : ∀ p ∈ rs, p.1.length ≤ B ∧ (0 < p.2 → ∀ c ∈ p.1, c ∈ lts))
    (h : ∀ H' p l rs', Same H H' → RepAt K H' p l rs' → H p = none → H l = none → TidyB B rs' → den rs' = den rs → rs'.length ≤ rs.length → Q (.ref p) H') : kRep K E E' Q [.ref a] H := by
  intro x dx hx hdx hne
  obtain ⟨s1, hx1⟩ := mk_new (C := RunsC K) hx hdx hne
  refine ⟨x, dx, a, xs, rs, B, rfl, hx1, Same.sql s1 hS, hq.mono fun _ _ q => q.chg (Chg.of_same (ps := []) s1), hl, hB, hb, fun H2 l ys rs' g2 h1 h2 h3 h4 h5 h6 h7 h8 => ⟨rfl, fun y dy hy hdy hne2 => ?_⟩⟩
  have s2 : Same H H2 := (Chg.less (ps := []) (Chg.of_same s1) g2 hx).same
  obtain ⟨s3, hy3⟩ := mk_new (C := RepC K) hy hdy hne2
  refine ⟨y, dy, x, dx, l, rfl, hy3, s3 _ _ h1, rfl, ?_⟩
  have cg : Chg [y] (upd (upd H2 dy (.own y)) y (.ins (RepC K) dy [])) (upd (upd (upd H2 dy (.own y)) y (.ins (RepC K) dy [])) y (.ins (RepC K) dy [("runs", .ref l)])) := Chg.upd hy3 (by simp)
  have s4 : Same H2 (upd (upd (upd H2 dy (.own y)) y (.ins (RepC K) dy [])) y (.ins (RepC K) dy [("runs", .ref l)])) := Same.mut s3 hy
  exact h _ y l rs' (s2.trans s4) ⟨dy, ys, upd_same, s4 _ _ h2, h4.mono fun _ _ q => q.chg (Chg.of_same (ps := []) s4)⟩ (none_of_same s2 hy) (none_of_same s1 h3) ⟨h5, h8⟩ h6 h7
/-! ### Repeats(list) -/
def kRepL (K : PySem.W.Frag) (E : XK) (Q : VK) : List V → Hp → Prop := fun vs H1 => ∀ x dx, H1 x = none → H1 dx = none → dx ≠ x → spRepL K (.ref x :: (vs ++ [])) (upd (upd H1 dx (.own x)) x (.ins (RepC K) dx [])) (fun v H2 => v = .non ∧ Q (.ref x) H2) E
theorem r_repL (h : t σ H (kRepL K E Q)) : tMake (RepC K) (spRepL K) [] E t σ H Q := h
theorem kRepL_of {v : V} {rs : List (List Nat × Nat)} (hd : Dp K H v (.list (rs.map pairD))) (hl : rs.length ≤ 50) (hb : ∀ p ∈ rs, (p.1.length ≤ 20 ∧ ∀ c ∈ p.1, c ∈ lts) ∧ p.2 ≤ 10 ^ 60)
    (h : ∀ H' p l rs', Same H H' → RepAt K H' p l rs' → H p = none → H l = none → TidyB 20 rs' → den rs' = den rs → rs'.length ≤ rs.length → Q (.ref p) H') : kRepL K E Q [v] H := by
  intro x dx hx hdx hne
  obtain ⟨s1, hx1⟩ := mk_new (C := RepC K) hx hdx hne
  exact ⟨x, dx, v, rs, rfl, hx1, dp_same s1 hd, hl, hb, fun H2 l rs' g2 h1 h2 h3 h4 h5 => ⟨rfl, h H2 x l rs' (Chg.less (ps := []) (Chg.of_same s1) g2 hx).same h1 hx (none_of_same s1 h2) h3 h4 h5⟩⟩
end
end OB

namespace OB
open PySem PySem.Spec PyProof.Rows L2
section
variable {K : PySem.W.Frag} {σ : L2.St} {H : Hp} {Q : VK} {ta tf : TE} {t : TA} {C a dx : Addr} {sp : Sp} {dvs : List V} {E : XK} {fs : List (Str × V)}
theorem r_prop (h : ta σ H fun x H1 => ∃ a dx fs, x = .ref a ∧ H1 a = some (.ins C dx fs) ∧ sp (.ref a :: dvs) H1 Q E) : tProp C sp dvs E ta σ H Q := h
theorem r_propAt {F : Addr → Prop} (e : H a = some (.ins C dx fs)) (h : F a) : ∃ a' dx fs, V.ref a = .ref a' ∧ H a' = some (.ins C dx fs) ∧ F a' := ⟨a, dx, fs, rfl, e, h⟩
theorem r_cmeth (h : ta σ H fun x H1 => x = .ref C ∧ t σ H1 fun vs H2 => sp (.ref C :: vs) H2 Q E) : ClX.tCMeth C sp E ta t σ H Q := h
theorem r_makeV (h : tf σ H fun v H1 => v = .ref C ∧ tMake C sp dvs E t σ H1 Q) : tMakeV C sp dvs E tf t σ H Q := h
end
local macro_rules | `(tactic| walk_at "hp") => `(tactic| first
  | assumption | exact upd_same | (refine look_new ?_ ?_ <;> walk_at "hp") | ((refine' look_mut (v := ?lv) ?lq ?lp ?ld); (case lq => walk_at "hp"); (case lp => walk_at "hp"); (case ld => (intro z; cases z))))
local macro_rules | `(tactic| walk_at "rd") => `(tactic| (first
  | (with_reducible first
  | refine r_seq ?_ | refine r_asg ?_ | refine r_gname ?_ | refine r_ret ?_ | refine r_retN ?_ | refine r_next ?_ | refine r_drop ?_ | refine r_if ?_
  | refine r_c ?_ | refine r_op ?_ | refine r_test ?_ | refine r_tb ?_ | refine r_bl ?_ | refine r_and ?_ | refine r_or ?_ | refine r_not ?_
  | refine r_andV ?_ | refine r_orV ?_ | refine r_notV ?_ | refine r_ifE ?_ | refine r_nil ?_ | refine r_cons ?_ | refine r_tup ?_ | refine r_lst ?_ | refine r_cb ?_ | refine r_call ?_ | refine r_sub ?_
  | refine r_addI ?_ | refine r_I0 ?_ | refine r_eqI ?_ | refine r_neI ?_ | refine r_eqS ?_ | refine r_neS ?_ | refine r_inS ?_ | refine r_inS2 ?_ | refine r_notInS2 ?_ | refine r_isNA ?_ | refine r_m1 ?_ | refine r_isstr ?_ | refine r_lc ?_ | refine r_notNA ?_ | refine r_kt ?_ | refine r_chain ?_ | refine r_gcons ?_ | refine r_gnil ?_ | refine r_fld ?_ | refine r_sfld ?_ | refine r_meth ?_ | refine r_sl ?_ | refine r_part ?_ | refine r_nopart ?_ | refine r_int ?_ | refine r_star ?_ | refine r_delL ?_ | refine r_par ?_ | refine r_parAt ?_ | refine r_par3 ?_ | refine r_parAt3 ?_ | refine r_fldaug ?_ | refine r_brk ?_ | refine r_for ?_ | refine r_ienT ?_ | refine r_make ?_ | refine r_bm ?_ | refine r_bm0 ?_ | refine iteT ?_ | refine iteF ?_)
  | ((with_reducible refine' r_var ?he ?_); (case he => rfl))
  | (with_reducible first | refine r_abs ?_ | refine r_max ?_ | refine r_min ?_)
  | ((with_reducible refine' r_lenSq ?hs ?_); (case hs => first | exact .inl (by assumption) | exact .inr (by assumption) | exact .inl (SqL.of (by walk_at "hp")) | exact .inr (SqT.of (by walk_at "hp"))))
  | ((with_reducible refine' r_mulR ?hc ?_); (case hc => decide))
  | ((with_reducible refine' r_mulL ?hc ?_); (case hc => decide))
  | ((with_reducible refine' r_mod ?hc ?_); (case hc => first | decide | assumption | omega))
  | ((with_reducible refine' r_div ?hc ?_); (case hc => first | decide | assumption | (constructor <;> first | assumption | omega)))
  | ((with_reducible refine' r_pow ?hc ?_); (case hc => first | decide | (refine ⟨by decide, by decide, by omega⟩)))
  | ((with_reducible refine' r_ixL2 ?hs ?he ?_); (case hs => exact SqL.of (by walk_at "hp")); (case he => first | rfl | exact atI0 | exact atI1 | exact atI2 | exact atI3))
  | ((with_reducible refine' r_ixT2 ?hs ?he ?_); (case hs => first | assumption | exact SqT.of (by walk_at "hp")); (case he => first | rfl | exact atI0 | exact atI1 | exact atI2 | exact atI3))
  | ((with_reducible refine' r_setL2 ?hs ?he ?_); (case hs => walk_at "hp"); (case he => rfl))
  | ((with_reducible refine' r_gtup ?hs ?he ?_); (case hs => first | assumption | exact SqT.of (by walk_at "hp")); (case he => rfl))
  | ((with_reducible refine' r_fldAt ?hs ?hc ?hn ?hl ?_); (case hs => walk_at "hp"); (case hc => walk_at "cl"); (case hn => walk_at "cl"); (case hl => rfl))
  | ((with_reducible refine' r_sfldAt ?hs ?hc ?hn ?hl ?_); (case hs => walk_at "hp"); (case hc => walk_at "cl"); (case hn => walk_at "cl"); (case hl => exact Nat.le_of_ble_eq_true rfl))
  | ((with_reducible refine' r_aug ?he ?_); (case he => rfl))
  | ((with_reducible refine' r_starAt ?hs ?_); (case hs => first | exact .inl (by assumption) | exact .inr (by assumption) | exact .inl (SqT.of (by walk_at "hp")) | exact .inr (SqL.of (by walk_at "hp"))))
  | ((with_reducible refine' r_fldaugAt ?hs ?hc ?hn ?hl ?_); (case hs => walk_at "hp"); (case hc => walk_at "cl"); (case hn => walk_at "cl"); (case hl => rfl))
  | ((with_reducible refine' r_methAt ?hs ?hl ?_); (case hs => walk_at "hp"); (case hl => rfl))
  | ((with_reducible refine' r_tyL ?hs ?_); (case hs => first | assumption | exact SqL.of (by walk_at "hp")))
  | ((with_reducible refine' r_ifT ?h ?_); (case h => rfl))
  | ((with_reducible refine' r_ifF ?h ?_); (case h => rfl))
  | ((with_reducible first | refine' r_isiInt ?hd ?_ | refine' r_isiBool ?hd ?_ | refine' r_isiStr ?hd ?_ | refine' r_isiTup ?hd ?_ | refine' r_isiLst ?hd ?_); (case hd => assumption))
  ))

local macro_rules | `(tactic| walk_at "rd") => `(tactic| (first
  | (with_reducible first | refine r_prop ?_ | refine r_cmeth ?_ | refine r_makeV ?_ | refine r_repRuns ?_ | refine r_repL ?_ | refine r_irng1 ?_)
  | ((with_reducible refine' r_propAt ?hs ?_); (case hs => walk_at "hp"))
  ))

local macro_rules | `(tactic| walk_at "cl") => `(tactic| assumption)
/-! ### plain -/
theorem den_len (rs : List (List Nat × Nat)) : (den rs).length = (rs.map fun p => p.1.length * p.2).sum := by
  induction rs with
  | nil => rfl
  | cons p r ih =>
    have e : den (p :: r) = den [p] ++ den r := den_app [p] r
    rw [e, List.length_append, ih, List.map_cons, List.sum_cons]
    congr 1
    show (den [(p.1, p.2)]).length = _
    rw [den_one]
    show (rep p.2 p.1).length = _
    rw [rep_len, Nat.mul_comm]
theorem den_cons (p : List Nat × Nat) (r : List (List Nat × Nat)) : den (p :: r) = rep p.2 p.1 ++ den r := by
  have e : den (p :: r) = den [p] ++ den r := den_app [p] r
  rw [e]
  congr 1
  exact den_one _ _
theorem rep_lts {k : Nat} {u : List Nat} (h : ∀ c ∈ u, c ∈ lts) : ∀ c ∈ rep k u, c ∈ lts := fun c hc => by
  unfold rep at hc
  obtain ⟨l, h1, h2⟩ := List.mem_flatten.mp hc
  rw [(List.mem_replicate.mp h1).2] at h2
  exact h c h2
theorem den_lts {rs : List (List Nat × Nat)} (h : ∀ p ∈ rs, ∀ c ∈ p.1, c ∈ lts) : ∀ c ∈ den rs, c ∈ lts := by
  induction rs with
  | nil => intro c hc; cases hc
  | cons p r ih =>
    intro c hc
    rw [den_cons] at hc
    rcases List.mem_append.mp hc with z | z
    · exact rep_lts (h p List.mem_cons_self) c z
    · exact ih (fun q hq => h q (List.mem_cons_of_mem _ hq)) c z
theorem part_le {rs : List (List Nat × Nat)} {p : List Nat × Nat} (hp : p ∈ rs) : p.1.length * p.2 ≤ (den rs).length := by
  rw [den_len]
  exact List.single_le_sum_nat (List.mem_map_of_mem hp)
where
  List.single_le_sum_nat {l : List Nat} {x : Nat} (h : x ∈ l) : x ≤ l.sum := by
    induction l with
    | nil => cases h
    | cons y l ih =>
      rw [List.sum_cons]
      rcases List.mem_cons.mp h with z | z
      · omega
      · have := ih z; omega
/-- the parts that count, by what all pairs stand for -/
theorem bnd_of {B : Nat} {rs : List (List Nat × Nat)} (h : ∀ p ∈ rs, p.1.length ≤ B) (hl : ∀ c ∈ den rs, c ∈ lts) : ∀ p ∈ rs, p.1.length ≤ B ∧ (0 < p.2 → ∀ c ∈ p.1, c ∈ lts) := by
  induction rs with
  | nil => intro p hp; cases hp
  | cons q r ih =>
    intro p hp
    rw [den_cons] at hl
    rcases List.mem_cons.mp hp with z | z
    · subst z
      refine ⟨h p List.mem_cons_self, fun h0 c hc => hl c (List.mem_append_left _ ?_)⟩
      obtain ⟨j, hj⟩ : ∃ j, p.2 = j + 1 := ⟨p.2 - 1, by omega⟩
      rw [hj, rep_succ]
      exact List.mem_append_left _ hc
    · exact ih (fun q hq => h q (List.mem_cons_of_mem _ hq)) (fun c hc => hl c (List.mem_append_right _ hc)) p z
theorem TidyB.mono {B B' : Nat} {rs : List (List Nat × Nat)} (h : TidyB B rs) (hb : B ≤ B') : TidyB B' rs := ⟨h.tidy, fun p hp => ⟨Nat.le_trans (h.bnd p hp).1 hb, (h.bnd p hp).2⟩⟩
theorem TidyB.ltr {B : Nat} {rs : List (List Nat × Nat)} (h : TidyB B rs) : ∀ c ∈ den rs, c ∈ lts := den_lts fun p hp => (h.bnd p hp).2
theorem RepAt.same {K : PySem.W.Frag} {H H' : Hp} {a rl : Addr} {rs : List (List Nat × Nat)} (h : RepAt K H a rl rs) (s : Same H H') : RepAt K H' a rl rs := h.chg (Chg.of_same (ps := []) s) (by simp)
theorem repS_mk (u : List Nat) (k : Nat) : repS (mkS u) k = mkS (rep k u) := rfl
/-! ### the promises -/
def spOnce (K : PySem.W.Frag) : Sp := fun vs H Q _ => ∃ z : Str, vs = [.ref (RepC K), .str z] ∧ z.length ≤ 100000 ∧ (∀ c ∈ tl z, c ∈ lts) ∧
  ∀ H' p l rs', Same H H' → RepAt K H' p l rs' → H p = none → H l = none → TidyB z.length rs' → den rs' = tl z → rs'.length ≤ 1 → Q (.ref p) H'
def spLength (K : PySem.W.Frag) : Sp := fun vs H Q _ => ∃ a rl rs, ∃ B : Nat, vs = [.ref a] ∧ RepAt K H a rl rs ∧ (∀ p ∈ rs, p.1.length ≤ B) ∧ B ≤ 8000000 ∧ rs.length ≤ 1000000 ∧ ∀ H', Same H H' → Q (.int ((den rs).length : Nat)) H'
def spText (K : PySem.W.Frag) : Sp := fun vs H Q _ => ∃ a rl rs, vs = [.ref a] ∧ RepAt K H a rl rs ∧ Tidy rs ∧ (den rs).length ≤ 2000 ∧ rs.length ≤ 1000000 ∧ ∀ H', Same H H' → Q (.str (mkS (den rs))) H'
def spAdd (K : PySem.W.Frag) : Sp := fun vs H Q _ => ∃ a rl rs b rl2 rs2, ∃ B : Nat, vs = [.ref a, .ref b] ∧ RepAt K H a rl rs ∧ RepAt K H b rl2 rs2 ∧ TidyB B rs ∧ TidyB B rs2 ∧ B ≤ 8000000 ∧ rs.length + rs2.length ≤ 100000 ∧
  ∀ H' p l rs', Same H H' → RepAt K H' p l rs' → H p = none → H l = none → TidyB B rs' → den rs' = den rs ++ den rs2 → rs'.length ≤ rs.length + rs2.length → Q (.ref p) H'
def spMul (K : PySem.W.Frag) : Sp := fun vs H Q _ => ∃ a rl rs, ∃ B n : Nat, vs = [.ref a, .int n] ∧ RepAt K H a rl rs ∧ TidyB B rs ∧ (den rs).length ≤ 2000 ∧ rs.length ≤ 100000 ∧
  ∀ H' p l rs', Same H H' → RepAt K H' p l rs' → H p = none → H l = none → TidyB (den rs).length rs' → den rs' = rep n (den rs) → rs'.length ≤ 1 → Q (.ref p) H'
section
variable {P : Program} {w : World} {K : PySem.W.Frag} {mg : Str → Option Value} {base : Heap}
theorem ok_once (T : Txt w K mg) : Prom P w K mg base CX0 6 (a_Repeats_once K) p_Repeats_once [] (spOnce K) := by
  obtain ⟨fd, F⟩ := T.d_Repeats_once
  have sc := sc_Repeats_once
  have c1 := T.cl_Repeats
  have G_is_text := ok_is_text (P := P) (base := base) T
  have G_Runs_init := ok_Runs (P := P) (base := base) T
  have G_Repeats_init := ok_RepR (P := P) (base := base) T
  refine prom0 F sc (bn_Repeats_once F) (fun vs H Q E h => ?_) (fun cdv A outer s H vs Q E hr h => ?_)
  · obtain ⟨z, rfl, _⟩ := h
    rfl
  · obtain ⟨z, rfl, hz, hc, k⟩ := h
    refine ⟨_, (pss_cons (ps_if (pt_not (pt_val (pe_callP G_is_text (hr.mono (by decide)) T.g_is_text pass0 (pa_cons (pv 1) pa_nil)))) (pss_one ps_never) pss_nil)
      (pss_one (ps_ret (pe_makeV (pv 0) T.mk_Repeats G_Repeats_init (hr.mono (by decide)) pass0 (pa_cons (pe_makeP T.mk_Runs G_Runs_init (hr.mono (by decide)) T.g_Runs pass0 (pa_cons (pe_lst (pa_cons (pe_tup (pa_cons (pv 1) (pa_cons pe_int pa_nil))) pa_nil)) pa_nil)) pa_nil))))), ?_⟩
    have hsm : smD (.str z) = true := by rw [smD, decide_eq_true_eq]; exact hz
    have hit : isText (.str z) = true := List.all_eq_true.mpr fun c h => decide_eq_true (hc c h)
    repeat walk_at "rd"
    refine ⟨_, _, rfl, .str _, hsm, fun H1 s1 => ?_⟩
    rw [hit]
    repeat walk_at "rd"
    refine ⟨rfl, r_repRuns ?_⟩
    repeat walk_at "rd"
    refine ⟨Nat.le_of_ble_eq_true rfl, fun t ht => ?_⟩
    repeat walk_at "rd"
    refine ⟨Nat.le_of_ble_eq_true rfl, fun l hl => ?_⟩
    repeat walk_at "rd"
    have s2 := (Same.new (o := .tup [.str z, .int 1]) ht).trans (Same.new (o := .lst [.ref t]) hl)
    have ht2 := look_new (u := .lst [.ref t]) hl (upd_same (H := H1) (a := t) (o := .tup [.str z, .int 1]))
    refine kRep_of (xs := [.ref t]) (rs := [(tl z, 1)]) (B := z.length) (SqL.of upd_same) (.cons ⟨t, rfl, SqT.of (by rw [mkS_tl]; exact ht2)⟩ .nil) (Nat.le_of_ble_eq_true rfl) (by omega) (fun p hp => ?_) fun H' p l rs' s3 h1 h2 h3 h4 h5 h6 => ?_
    · rw [List.mem_singleton] at hp
      rw [hp]
      exact ⟨Nat.le_refl _, fun _ => hc⟩
    · exact k H' p l rs' ((s1.trans s2).trans s3) h1 (none_of_same (s1.trans s2) h2) (none_of_same (s1.trans s2) h3) h4 (by rw [h5]; show rep 1 (tl z) ++ [] = _; rw [rep_one, List.append_nil]) h6
theorem ok_length (T : Txt w K mg) : Prom P w K mg base CX0 1 (a_Repeats_length K) p_Repeats_length [] (spLength K) := by
  obtain ⟨fd, F⟩ := T.d_Repeats_length
  have sc := sc_Repeats_length
  have c1 := T.cl_Repeats
  have c2 := T.na_Repeats_runs
  refine prom0 F sc (bn_Repeats_length F) (fun vs H Q E h => ?_) (fun cdv A outer s H vs Q E hr h => ?_)
  · obtain ⟨a, rl, rs, B, rfl, _⟩ := h
    rfl
  · obtain ⟨a, rl, rs, B, rfl, ⟨dx, xs, h1, h2, h3⟩, hb, hB, hl, k⟩ := h
    refine ⟨_, (pss_one (ps_ret (pe_callB (cSum (K := K) rfl) (by rfl) T.z_sum (by decide +kernel) (pa_cons (pe_lc (own := [("part", 1), ("times", 2)]) rfl sc.nd (piA (K := K) (eFld (K := K) (pv 0))) (blkOk_by (N := n_Repeats_length) (sc := defScope s_Repeats_length) (by decide +kernel)) (fun _ _ _ _ _ => (gTupA (K := K) (n := 2) rfl (pgs_cons (pg_name (i := 1) sc.nd rfl (by first | exact Or.inl rfl | exact Or.inr rfl)) (pgs_cons (pg_name (i := 2) sc.nd rfl (by first | exact Or.inl rfl | exact Or.inr rfl)) pgs_nil)))) (fun _ _ _ _ _ => pts_nil) (fun _ _ _ _ _ => (pe_op op_mulA (pe_callB (cLen (K := K)) (by rfl) T.z_len (by decide +kernel) (pa_cons (pv 1) pa_nil)) (pv 2)))) pa_nil)))), ?_⟩
    obtain ⟨qs, e1, e2, e3⟩ := h3.zip
    have hqs : qs.length = rs.length := by rw [e2, List.length_map]
    repeat walk_at "rd"
    refine r_iany_l ?_
    repeat walk_at "rd"
    refine ⟨rl, rfl, ⟨_, SqL.of h2⟩, ?_⟩
    rw [e1] at h2
    refine lc_pL (v := (·.1)) (σ' := fun r => [some (.ref a), some (.str (mkS r.2.1)), some (.int r.2.2)]) (keep := fun _ => true) (f := fun r : V × (List Nat × Nat) => .int ((r.2.1.length * r.2.2 : Nat) : Int)) (SqL.of h2) (by omega) (fun r hr => evg_pair (e3 r hr)) (fun r _ => rfl) (fun r _ => evst_yes) (fun r hr _ => ?_) (fun D H1 hD s1 hD1 => ?_)
    · intro H1 g1 Q1 q1
      have hb1 := hb r.2 (by rw [e2]; exact List.mem_map_of_mem hr)
      repeat walk_at "rd"
      refine r_lenS (by rw [mkS_len, show sizeLine = 16777216 from by decide]; omega) ?_
      repeat walk_at "rd"
      rw [mkS_len]
      refine r_mulL ⟨by omega, by omega⟩ ?_
      rw [← Int.natCast_mul]
      exact q1 _ (Same.refl _)
    · rw [List.filter_eq_self.mpr (fun _ _ => rfl)] at hD1
      repeat walk_at "rd"
      refine r_sumN (ns := rs.map fun p => p.1.length * p.2) (SqL.of (by rw [hD1, e2, List.map_map, List.map_map]; rfl)) ?_
      rw [← den_len]
      exact k _ s1
theorem ok_to_text (T : Txt w K mg) : Prom P w K mg base CX0 3 (a_Repeats_to_text K) p_Repeats_to_text [] (spText K) := by
  obtain ⟨fd, F⟩ := T.d_Repeats_to_text
  have sc := sc_Repeats_to_text
  have c1 := T.cl_Repeats
  have c2 := T.na_Repeats_runs
  have G_Repeats_length := ok_length (P := P) (base := base) T
  refine prom0 F sc (bn_Repeats_to_text F) (fun vs H Q E h => ?_) (fun cdv A outer s H vs Q E hr h => ?_)
  · obtain ⟨a, rl, rs, rfl, _⟩ := h
    rfl
  · obtain ⟨a, rl, rs, rfl, hR, ht, hz, hl, k⟩ := h
    refine ⟨_, (pss_cons (ps_if (pt_cmpR op_gt (pe_propP (pv 0) T.cl_Repeats T.pr_Repeats_length G_Repeats_length (hr.mono (by decide)) pass0) (pe_ki rfl T.c_LONGEST_TEXT) (nomark _)) (pss_one ps_never) pss_nil)
      (pss_one (ps_ret (eJoin (K := K) pe_str (pe_lc (own := [("part", 1), ("times", 2)]) rfl sc.nd (piA (K := K) (eFld (K := K) (pv 0))) (blkOk_by (N := n_Repeats_to_text) (sc := defScope s_Repeats_to_text) (by decide +kernel)) (fun _ _ _ _ _ => (gTupA (K := K) (n := 2) rfl (pgs_cons (pg_name (i := 1) sc.nd rfl (by first | exact Or.inl rfl | exact Or.inr rfl)) (pgs_cons (pg_name (i := 2) sc.nd rfl (by first | exact Or.inl rfl | exact Or.inr rfl)) pgs_nil)))) (fun _ _ _ _ _ => pts_nil) (fun _ _ _ _ _ => (pe_op op_mulA (pv 1) (pv 2)))))))), ?_⟩
    have hp1 : ∀ p ∈ rs, p.1.length ≤ 2000 ∧ p.2 ≤ 2000 ∧ p.1.length * p.2 ≤ 2000 := fun p hp => by
      have h1 := part_le hp
      have h2 := ht p hp
      have h3 : p.1.length ≤ p.1.length * p.2 := Nat.le_mul_of_pos_right _ h2.2
      have h4 : p.2 ≤ p.1.length * p.2 := Nat.le_mul_of_pos_left _ h2.1
      omega
    obtain ⟨dx, xs, h1, h2, h3⟩ := id hR
    repeat walk_at "rd"
    refine ⟨a, rl, rs, 2000, rfl, hR, fun p hp => (hp1 p hp).1, by decide, hl, fun H1 s1 => ?_⟩
    repeat walk_at "rd"
    refine r_iteO (by omega) ?_
    have h1' := s1 _ _ h1
    have h2' := s1 _ _ h2
    have h3' := h3.mono fun _ _ q => q.chg (Chg.of_same (ps := []) s1)
    obtain ⟨qs, e1, e2, e3⟩ := h3'.zip
    have hqs : qs.length = rs.length := by rw [e2, List.length_map]
    repeat walk_at "rd"
    refine r_iany_l ?_
    repeat walk_at "rd"
    refine ⟨rl, rfl, ⟨_, SqL.of h2'⟩, ?_⟩
    rw [e1] at h2'
    refine lc_pL (v := (·.1)) (σ' := fun r => [some (.ref a), some (.str (mkS r.2.1)), some (.int r.2.2)]) (keep := fun _ => true) (f := fun r : V × (List Nat × Nat) => .str (mkS (rep r.2.2 r.2.1))) (SqL.of h2') (by omega) (fun r hr => evg_pair (e3 r hr)) (fun r _ => rfl) (fun r _ => evst_yes) (fun r hr _ => ?_) (fun D H2 hD s2 hD1 => ?_)
    · intro H2 g1 Q1 q1
      have hb1 := hp1 r.2 (by rw [e2]; exact List.mem_map_of_mem hr)
      repeat walk_at "rd"
      refine r_mulS (by omega) (by rw [mkS_len]; omega) ?_
      rw [repS_mk]
      exact q1 _ (Same.refl _)
    · rw [List.filter_eq_self.mpr (fun _ _ => rfl)] at hD1
      have hfl : (qs.map fun r : V × (List Nat × Nat) => rep r.2.2 r.2.1).flatten = den rs := by
        rw [e2]
        unfold den
        rw [List.map_map]
        rfl
      refine r_joinM (ls := qs.map fun r : V × (List Nat × Nat) => rep r.2.2 r.2.1) (SqL.of (by rw [hD1, List.map_map]; rfl)) (by rw [hfl]; omega) ?_
      rw [hfl]
      exact k _ (s1.trans s2)
theorem ok_add (T : Txt w K mg) : Prom P w K mg base CX0 6 (a_Repeats_add K) p_Repeats_add [] (spAdd K) := by
  obtain ⟨fd, F⟩ := T.d_Repeats_add
  have sc := sc_Repeats_add
  have c1 := T.cl_Repeats
  have c2 := T.na_Repeats_runs
  have G_Runs_init := ok_Runs (P := P) (base := base) T
  have G_Repeats_init := ok_RepR (P := P) (base := base) T
  refine prom0 F sc (bn_Repeats_add F) (fun vs H Q E h => ?_) (fun cdv A outer s H vs Q E hr h => ?_)
  · obtain ⟨a, rl, rs, b, rl2, rs2, B, rfl, _⟩ := h
    rfl
  · obtain ⟨a, rl, rs, b, rl2, rs2, B, rfl, ⟨dx, xs, h1, h2, h3⟩, ⟨dy, ys, g1, g2, g3⟩, hb, hb2, hB, hl, k⟩ := h
    refine ⟨_, (pss_one (ps_ret (pe_makeP T.mk_Repeats G_Repeats_init (hr.mono (by decide)) T.g_Repeats pass0 (pa_cons (pe_makeP T.mk_Runs G_Runs_init (hr.mono (by decide)) T.g_Runs pass0 (pa_cons (pe_lst (paStar (K := K) (eFld (K := K) (pv 0)) (paStar (K := K) (eFld (K := K) (pv 1)) pa_nil))) pa_nil)) pa_nil)))), ?_⟩
    have hx := h3.length
    have hy := g3.length
    refine r_ret (r_repRuns ?_)
    repeat walk_at "rd"
    refine ⟨by rw [List.length_append, List.append_nil, show sizeLine = 16777216 from by decide]; omega, fun n hn => ?_⟩
    repeat walk_at "rd"
    rw [List.append_nil]
    have s1 := Same.new (o := .lst (xs ++ ys)) hn
    refine kRep_of (xs := xs ++ ys) (rs := rs ++ rs2) (B := B) (SqL.of upd_same) ?_ (by rw [List.length_append]; omega) hB (fun p hp => ?_) fun H' p l rs' s3 h4 h5 h6 h7 h8 h9 => ?_
    · exact (h3.mono fun _ _ q => q.chg (Chg.of_same (ps := []) s1)).app (g3.mono fun _ _ q => q.chg (Chg.of_same (ps := []) s1))
    · rcases List.mem_append.mp hp with z | z
      · exact ⟨(hb.bnd p z).1, fun _ => (hb.bnd p z).2⟩
      · exact ⟨(hb2.bnd p z).1, fun _ => (hb2.bnd p z).2⟩
    · exact k H' p l rs' (s1.trans s3) h4 (none_of_same s1 h5) (none_of_same s1 h6) h7 (by rw [h8, den_app]) (by rw [List.length_append] at h9; exact h9)
theorem ok_mul (T : Txt w K mg) : Prom P w K mg base CX0 6 (a_Repeats_mul K) p_Repeats_mul [] (spMul K) := by
  obtain ⟨fd, F⟩ := T.d_Repeats_mul
  have sc := sc_Repeats_mul
  have c1 := T.cl_Repeats
  have G_Runs_init := ok_Runs (P := P) (base := base) T
  have G_Repeats_init := ok_RepR (P := P) (base := base) T
  have G_Repeats_to_text := ok_to_text (P := P) (base := base) T
  refine prom0 F sc (bn_Repeats_mul F) (fun vs H Q E h => ?_) (fun cdv A outer s H vs Q E hr h => ?_)
  · obtain ⟨a, rl, rs, B, n, rfl, _⟩ := h
    rfl
  · obtain ⟨a, rl, rs, B, n, rfl, hR, hb, hz, hl, k⟩ := h
    refine ⟨_, (pss_one (ps_ret (pe_makeP T.mk_Repeats G_Repeats_init (hr.mono (by decide)) T.g_Repeats pass0 (pa_cons (pe_makeP T.mk_Runs G_Runs_init (hr.mono (by decide)) T.g_Runs pass0 (pa_cons (pe_lst (pa_cons (pe_tup (pa_cons (pe_methP0 (pv 0) T.cl_Repeats T.mt_Repeats_to_text G_Repeats_to_text (hr.mono (by decide)) pass0) (pa_cons (pv 1) pa_nil))) pa_nil)) pa_nil)) pa_nil)))), ?_⟩
    obtain ⟨dx, xs, h1, h2, h3⟩ := id hR
    refine r_ret (r_repRuns ?_)
    repeat walk_at "rd"
    refine ⟨a, rl, rs, rfl, hR, hb.tidy, hz, by omega, fun H1 s1 => ?_⟩
    repeat walk_at "rd"
    refine ⟨Nat.le_of_ble_eq_true rfl, fun t ht => ?_⟩
    repeat walk_at "rd"
    refine ⟨Nat.le_of_ble_eq_true rfl, fun l hl => ?_⟩
    repeat walk_at "rd"
    have s2 := (Same.new (o := .tup [.str (mkS (den rs)), .int n]) ht).trans (Same.new (o := .lst [.ref t]) hl)
    have ht2 := look_new (u := .lst [.ref t]) hl (upd_same (H := H1) (a := t) (o := .tup [.str (mkS (den rs)), .int n]))
    refine kRep_of (xs := [.ref t]) (rs := [(den rs, n)]) (B := (den rs).length) (SqL.of upd_same) (.cons ⟨t, rfl, SqT.of ht2⟩ .nil) (Nat.le_of_ble_eq_true rfl) (by omega) (fun p hp => ?_) fun H' p l rs' s3 h1 h2 h3 h4 h5 h6 => ?_
    · rw [List.mem_singleton] at hp
      rw [hp]
      exact ⟨Nat.le_refl _, fun _ => hb.ltr⟩
    · exact k H' p l rs' ((s1.trans s2).trans s3) h1 (none_of_same (s1.trans s2) h2) (none_of_same (s1.trans s2) h3) h4 (by rw [h5, den_one]; rfl) h6
end
end OB

namespace OB
open PySem PySem.Spec PyProof.Rows L2
local macro_rules | `(tactic| walk_at "hp") => `(tactic| first
  | assumption | exact upd_same | (refine look_new ?_ ?_ <;> walk_at "hp") | ((refine' look_mut (v := ?lv) ?lq ?lp ?ld); (case lq => walk_at "hp"); (case lp => walk_at "hp"); (case ld => (intro z; cases z))))
local macro_rules | `(tactic| walk_at "rd") => `(tactic| (first
  | (with_reducible first
  | refine r_seq ?_ | refine r_asg ?_ | refine r_gname ?_ | refine r_ret ?_ | refine r_retN ?_ | refine r_next ?_ | refine r_drop ?_ | refine r_if ?_
  | refine r_c ?_ | refine r_op ?_ | refine r_test ?_ | refine r_tb ?_ | refine r_bl ?_ | refine r_and ?_ | refine r_or ?_ | refine r_not ?_
  | refine r_andV ?_ | refine r_orV ?_ | refine r_notV ?_ | refine r_ifE ?_ | refine r_nil ?_ | refine r_cons ?_ | refine r_tup ?_ | refine r_lst ?_ | refine r_cb ?_ | refine r_call ?_ | refine r_sub ?_
  | refine r_addI ?_ | refine r_I0 ?_ | refine r_eqI ?_ | refine r_neI ?_ | refine r_eqS ?_ | refine r_neS ?_ | refine r_inS ?_ | refine r_inS2 ?_ | refine r_notInS2 ?_ | refine r_isNA ?_ | refine r_m1 ?_ | refine r_isstr ?_ | refine r_lc ?_ | refine r_notNA ?_ | refine r_kt ?_ | refine r_chain ?_ | refine r_gcons ?_ | refine r_gnil ?_ | refine r_fld ?_ | refine r_sfld ?_ | refine r_meth ?_ | refine r_sl ?_ | refine r_part ?_ | refine r_nopart ?_ | refine r_int ?_ | refine r_star ?_ | refine r_delL ?_ | refine r_par ?_ | refine r_parAt ?_ | refine r_par3 ?_ | refine r_parAt3 ?_ | refine r_fldaug ?_ | refine r_brk ?_ | refine r_for ?_ | refine r_ienT ?_ | refine r_make ?_ | refine r_bm ?_ | refine r_bm0 ?_ | refine iteT ?_ | refine iteF ?_)
  | ((with_reducible refine' r_var ?he ?_); (case he => rfl))
  | (with_reducible first | refine r_abs ?_ | refine r_max ?_ | refine r_min ?_)
  | ((with_reducible refine' r_lenSq ?hs ?_); (case hs => first | exact .inl (by assumption) | exact .inr (by assumption) | exact .inl (SqL.of (by walk_at "hp")) | exact .inr (SqT.of (by walk_at "hp"))))
  | ((with_reducible refine' r_mulR ?hc ?_); (case hc => decide))
  | ((with_reducible refine' r_mulL ?hc ?_); (case hc => decide))
  | ((with_reducible refine' r_mod ?hc ?_); (case hc => first | decide | assumption | omega))
  | ((with_reducible refine' r_div ?hc ?_); (case hc => first | decide | assumption | (constructor <;> first | assumption | omega)))
  | ((with_reducible refine' r_pow ?hc ?_); (case hc => first | decide | (refine ⟨by decide, by decide, by omega⟩)))
  | ((with_reducible refine' r_ixL2 ?hs ?he ?_); (case hs => exact SqL.of (by walk_at "hp")); (case he => first | rfl | exact atI0 | exact atI1 | exact atI2 | exact atI3))
  | ((with_reducible refine' r_ixT2 ?hs ?he ?_); (case hs => first | assumption | exact SqT.of (by walk_at "hp")); (case he => first | rfl | exact atI0 | exact atI1 | exact atI2 | exact atI3))
  | ((with_reducible refine' r_setL2 ?hs ?he ?_); (case hs => walk_at "hp"); (case he => rfl))
  | ((with_reducible refine' r_gtup ?hs ?he ?_); (case hs => first | assumption | exact SqT.of (by walk_at "hp")); (case he => rfl))
  | ((with_reducible refine' r_fldAt ?hs ?hc ?hn ?hl ?_); (case hs => walk_at "hp"); (case hc => walk_at "cl"); (case hn => walk_at "cl"); (case hl => rfl))
  | ((with_reducible refine' r_sfldAt ?hs ?hc ?hn ?hl ?_); (case hs => walk_at "hp"); (case hc => walk_at "cl"); (case hn => walk_at "cl"); (case hl => exact Nat.le_of_ble_eq_true rfl))
  | ((with_reducible refine' r_aug ?he ?_); (case he => rfl))
  | ((with_reducible refine' r_starAt ?hs ?_); (case hs => first | exact .inl (by assumption) | exact .inr (by assumption) | exact .inl (SqT.of (by walk_at "hp")) | exact .inr (SqL.of (by walk_at "hp"))))
  | ((with_reducible refine' r_fldaugAt ?hs ?hc ?hn ?hl ?_); (case hs => walk_at "hp"); (case hc => walk_at "cl"); (case hn => walk_at "cl"); (case hl => rfl))
  | ((with_reducible refine' r_methAt ?hs ?hl ?_); (case hs => walk_at "hp"); (case hl => rfl))
  | ((with_reducible refine' r_tyL ?hs ?_); (case hs => first | assumption | exact SqL.of (by walk_at "hp")))
  | ((with_reducible refine' r_ifT ?h ?_); (case h => rfl))
  | ((with_reducible refine' r_ifF ?h ?_); (case h => rfl))
  | ((with_reducible first | refine' r_isiInt ?hd ?_ | refine' r_isiBool ?hd ?_ | refine' r_isiStr ?hd ?_ | refine' r_isiTup ?hd ?_ | refine' r_isiLst ?hd ?_); (case hd => assumption))
  ))

local macro_rules | `(tactic| walk_at "rd") => `(tactic| (first
  | (with_reducible first | refine r_prop ?_ | refine r_cmeth ?_ | refine r_makeV ?_ | refine r_repRuns ?_ | refine r_repL ?_ | refine r_irng1 ?_)
  | ((with_reducible refine' r_propAt ?hs ?_); (case hs => walk_at "hp"))
  ))

local macro_rules | `(tactic| walk_at "cl") => `(tactic| assumption)
/-! ### stretches -/
theorem rep_take {u : List Nat} {n c d : Nat} (hc : n ≤ c * u.length) (hd : n ≤ d * u.length) : (rep c u).take n = (rep d u).take n := by
  have key : ∀ {c d : Nat}, c ≤ d → n ≤ c * u.length → (rep c u).take n = (rep d u).take n := fun {c d} h h1 => by
    rw [show d = c + (d - c) by omega, rep_add, List.take_append_of_le_length (by rw [rep_len]; exact h1)]
  rcases Nat.le_total c d with h | h
  · exact key h hc
  · exact (key h hd).symm
theorem seg_take {l : List Nat} {o m : Nat} : (l.drop o).take m = (l.take (o + m)).drop o := by
  rw [List.drop_take]
  congr 1
  omega
theorem stretch_eq {u : List Nat} {f m k : Nat} (h0 : 0 < u.length) (h : f + m ≤ u.length * k) : ((rep ((f % u.length + m) / u.length + 1) u).drop (f % u.length)).take m = ((rep k u).drop f).take m := by
  have h1 := Nat.div_add_mod f u.length
  have h2 := Nat.mod_lt f h0
  have hq : f / u.length ≤ k := by
    rcases Nat.lt_or_ge k (f / u.length) with z | z
    · have := Nat.mul_le_mul_left u.length (Nat.succ_le_of_lt z)
      rw [Nat.mul_succ] at this
      omega
    · exact z
  have e1 : (rep k u).drop f = (rep (k - f / u.length) u).drop (f % u.length) := by
    rw [show k = f / u.length + (k - f / u.length) by omega, rep_add, show f / u.length + (k - f / u.length) - f / u.length = k - f / u.length by omega]
    rw [List.drop_append, rep_len, List.drop_eq_nil_of_le (by rw [rep_len, Nat.mul_comm]; omega), List.nil_append]
    congr 1
    rw [Nat.mul_comm]
    omega
  rw [e1, seg_take, seg_take (l := rep (k - f / u.length) u)]
  congr 1
  refine rep_take ?_ ?_
  · have h3 := Nat.div_add_mod (f % u.length + m) u.length
    have h4 := Nat.mod_lt (f % u.length + m) h0
    rw [Nat.add_mul, Nat.mul_comm ((f % u.length + m) / u.length)]
    omega
  · rw [Nat.sub_mul, Nat.mul_comm k, Nat.mul_comm (f / u.length)]
    omega
def spStretch : Sp := fun vs H Q _ => ∃ u, ∃ f m k : Nat, vs = [.str (mkS u), .int f, .int m] ∧ 0 < u.length ∧ u.length ≤ 4000000 ∧ m ≤ 8000000 ∧ f + m ≤ u.length * k ∧ Q (.str (mkS (((rep k u).drop f).take m))) H
/-- where two lists of pairs are looked at -/
def cap (rs : List (List Nat × Nat)) (i : Nat) : Nat := (rs.getD i ([], 0)).1.length * (rs.getD i ([], 0)).2
theorem cap_at {rs : List (List Nat × Nat)} {i : Nat} {p : List Nat × Nat} (h : rs[i]? = some p) : cap rs i = p.1.length * p.2 := by
  unfold cap
  rw [List.getD_eq_getElem?_getD, h]
  rfl
theorem den_step {rs : List (List Nat × Nat)} {i : Nat} {p : List Nat × Nat} (h : rs[i]? = some p) : (den (rs.take (i + 1))).length = (den (rs.take i)).length + cap rs i := by
  rw [take_snoc h, den_app, List.length_append, cap_at h]
  congr 1
  show (den [(p.1, p.2)]).length = _
  rw [den_one]
  show (rep p.2 p.1).length = _
  rw [rep_len, Nat.mul_comm]
theorem den_take_le (rs : List (List Nat × Nat)) (i : Nat) : (den (rs.take i)).length ≤ (den rs).length := by
  have h : den rs = den (rs.take i) ++ den (rs.drop i) := by rw [← den_app, List.take_append_drop]
  rw [h, List.length_append]
  omega
theorem seg_at {rs : List (List Nat × Nat)} {i : Nat} {p : List Nat × Nat} (h : rs[i]? = some p) {f n : Nat} (hn : f + n ≤ p.1.length * p.2) : ((rep p.2 p.1).drop f).take n = ((den rs).drop ((den (rs.take i)).length + f)).take n := by
  have e : den rs = den (rs.take i) ++ (rep p.2 p.1 ++ den (rs.drop (i + 1))) := by
    rw [show rep p.2 p.1 = den [p] from (den_one p.1 p.2).symm, ← List.append_assoc, ← den_app, ← den_app, ← take_snoc h, List.take_append_drop]
  have hr : (rep p.2 p.1).length = p.1.length * p.2 := by rw [rep_len, Nat.mul_comm]
  generalize den rs = D at *
  generalize den (rs.take i) = A at *
  subst e
  have e2 : (A ++ (rep p.2 p.1 ++ den (rs.drop (i + 1)))).drop (A.length + f) = (rep p.2 p.1 ++ den (rs.drop (i + 1))).drop f := by
    rw [List.drop_append (l₁ := A), List.drop_eq_nil_of_le (by omega), List.nil_append, show A.length + f - A.length = f by omega]
  rw [e2, List.drop_append_of_le_length (by omega), List.take_append_of_le_length (by rw [List.length_drop]; omega)]
structure SameJ (rs1 rs2 : List (List Nat × Nat)) (i j u v : Nat) : Prop where
  i1 : i ≤ rs1.length
  j1 : j ≤ rs2.length
  pos : (den (rs1.take i)).length + u = (den (rs2.take j)).length + v
  u1 : u < cap rs1 i ∨ (i = rs1.length ∧ u = 0)
  v1 : v < cap rs2 j ∨ (j = rs2.length ∧ v = 0)
theorem cap_pos {rs : List (List Nat × Nat)} (h : Tidy rs) {i : Nat} (hi : i < rs.length) : 0 < cap rs i := by
  have e : rs[i]? = some rs[i] := List.getElem?_eq_getElem hi
  rw [cap_at e]
  have := h rs[i] (List.getElem_mem hi)
  exact Nat.mul_pos this.1 this.2
theorem cap_start {rs : List (List Nat × Nat)} (h : Tidy rs) {i : Nat} (hi : i ≤ rs.length) : 0 < cap rs i ∨ (i = rs.length ∧ 0 = 0) := by
  by_cases e : i = rs.length
  · exact .inr ⟨e, rfl⟩
  · exact .inl (cap_pos h (by omega))
theorem SameJ.other {rs1 rs2 : List (List Nat × Nat)} {i j u v : Nat} (J : SameJ rs1 rs2 i j u v) (e : (den rs1).length = (den rs2).length) (hi : i < rs1.length) : j < rs2.length ∧ u < cap rs1 i ∧ v < cap rs2 j := by
  have hu : u < cap rs1 i := J.u1.resolve_right fun h => by omega
  have h1 := den_step (List.getElem?_eq_getElem hi)
  have h2 := den_take_le rs1 (i + 1)
  have hp := J.pos
  have hj : j < rs2.length := by
    have := J.j1
    rcases J.v1 with h | h
    · rcases Nat.lt_or_ge j rs2.length with z | z
      · exact z
      · have : cap rs2 j = 0 := by
          unfold cap
          rw [List.getD_eq_getElem?_getD, List.getElem?_eq_none z]
          rfl
        omega
    · rw [h.1, List.take_length] at hp
      omega
  exact ⟨hj, hu, J.v1.resolve_right fun h => by omega⟩
def spSame (K : PySem.W.Frag) : Sp := fun vs H Q _ => ∃ p1 xs1 rs1 p2 xs2 rs2, ∃ B : Nat, vs = [.ref p1, .ref p2] ∧ H p1 = some (.lst xs1) ∧ All2 (IsPair K H) xs1 rs1 ∧ H p2 = some (.lst xs2) ∧ All2 (IsPair K H) xs2 rs2 ∧ TidyB B rs1 ∧ TidyB B rs2 ∧ B ≤ 4000000 ∧
  den rs1 = den rs2 ∧ Q (.bl true) H
def spEqRep (K : PySem.W.Frag) : Sp := fun vs H Q _ => ∃ a rl rs b rl2 rs2, ∃ B : Nat, vs = [.ref a, .ref b] ∧ RepAt K H a rl rs ∧ RepAt K H b rl2 rs2 ∧ TidyB B rs ∧ TidyB B rs2 ∧ B ≤ 4000000 ∧ rs.length ≤ 1000000 ∧ rs2.length ≤ 1000000 ∧ den rs = den rs2 ∧ ∀ H', Same H H' → Q (.bl true) H'
theorem min_nat (a b : Nat) : (if (b : Int) < (a : Int) then (b : Int) else (a : Int)) = ((if b < a then b else a : Nat) : Int) := by
  by_cases h : b < a
  · rw [if_pos h, if_pos (by omega)]
  · rw [if_neg h, if_neg (by omega)]
section
variable {P : Program} {w : World} {K : PySem.W.Frag} {mg : Str → Option Value} {base : Heap}
theorem ok_stretch (T : Txt w K mg) : Prom P w K mg base CX0 1 (a_stretch K) p_stretch [] spStretch := by
  obtain ⟨fd, F⟩ := T.d_stretch
  have sc := sc_stretch
  refine prom0 F sc (bn_stretch F) (fun vs H Q E h => ?_) (fun cdv A outer s H vs Q E hr h => ?_)
  · obtain ⟨u, f, m, k, rfl, _⟩ := h
    rfl
  · obtain ⟨u, f, m, k, rfl, h0, hu, hm, hk, q⟩ := h
    refine ⟨_, (pss_cons (ps_set (i := 3) sc.nd rfl (by first | exact Or.inl rfl | exact Or.inr rfl) (pe_op op_mod (pv 1) (pe_callB (cLen (K := K)) (by rfl) T.z_len (by decide +kernel) (pa_cons (pv 0) pa_nil))))
      (pss_cons (ps_set (i := 4) sc.nd rfl (by first | exact Or.inl rfl | exact Or.inr rfl) (pe_op (oAdd (K := K)) (pe_op op_fdivW (pe_op (oAdd (K := K)) (pv 3) (pv 2)) (pe_callB (cLen (K := K)) (by rfl) T.z_len (by decide +kernel) (pa_cons (pv 0) pa_nil))) pe_int))
      (pss_one (ps_ret (pe_slice (iSl (K := K)) (pe_op op_mulA (pv 0) (pv 4)) (po_some (pv 3)) (po_some (pe_op (oAdd (K := K)) (pv 3) (pv 2)))))))), ?_⟩
    have hs : (mkS u).length ≤ sizeLine := by rw [mkS_len, show sizeLine = 16777216 from by decide]; omega
    repeat walk_at "rd"
    refine r_lenS hs ?_
    repeat walk_at "rd"
    rw [mkS_len]
    refine r_mod (by omega) ?_
    rw [← Int.natCast_emod]
    repeat walk_at "rd"
    refine r_lenS hs ?_
    repeat walk_at "rd"
    rw [mkS_len]
    refine r_div ⟨by omega, by rw [Int.natAbs_natCast]; exact Nat.lt_of_le_of_lt hu (by decide +kernel)⟩ ?_
    rw [← Int.natCast_add, ← Int.natCast_ediv]
    have hl := Nat.mod_lt f h0
    have hc1 : u.length * ((f % u.length + m) / u.length + 1) ≤ 16000000 := by
      have := Nat.div_mul_le_self (f % u.length + m) u.length
      rw [Nat.mul_add, Nat.mul_comm]
      omega
    have hc2 : (f % u.length + m) / u.length + 1 ≤ 16000000 := by
      have := Nat.div_le_self (f % u.length + m) u.length
      omega
    have hc3 : f % u.length + m ≤ ((f % u.length + m) / u.length + 1) * u.length := by
      have h3 := Nat.div_add_mod (f % u.length + m) u.length
      have h4 := Nat.mod_lt (f % u.length + m) h0
      rw [Nat.add_mul, Nat.mul_comm ((f % u.length + m) / u.length)]
      omega
    have hse := stretch_eq h0 hk
    repeat walk_at "rd"
    rw [show (((f % u.length + m) / u.length : Nat) : Int) + 1 = (((f % u.length + m) / u.length + 1 : Nat) : Int) from by omega]
    generalize (f % u.length + m) / u.length + 1 = c at *
    generalize f % u.length = o at *
    refine r_mulS (by omega) (by rw [mkS_len]; omega) ?_
    rw [repS_mk]
    repeat walk_at "rd"
    rw [← Int.natCast_add]
    have hrl : (mkS (rep c u)).length = c * u.length := by rw [mkS_len, rep_len]
    have hcm : c * u.length = u.length * c := Nat.mul_comm ..
    refine r_slS (by rw [hrl, show sizeLine = 16777216 from by decide]; omega) ?_
    rw [show cutS (mkS (rep c u)) (some (o : Int)) (some ((o + m : Nat) : Int)) = mkS (((rep k u).drop f).take m) from str_ext (by
      rw [cutS_mid (by rw [hrl]; exact hc3) (by omega), show o + m - o = m by omega]
      exact hse)]
    exact q
theorem ok_same_items (T : Txt w K mg) : Prom P w K mg base CX0 2 (a_same_items K) p_same_items [] (spSame K) := by
  obtain ⟨fd, F⟩ := T.d_same_items
  have sc := sc_same_items
  have G_stretch := ok_stretch (P := P) (base := base) T
  refine prom0 F sc (bn_same_items F) (fun vs H Q E h => ?_) (fun cdv A outer s H vs Q E hr h => ?_)
  · obtain ⟨p1, xs1, rs1, p2, xs2, rs2, B, rfl, _⟩ := h
    rfl
  · obtain ⟨p1, xs1, rs1, p2, xs2, rs2, B, rfl, h1, hq1, h2, hq2, t1, t2, hB, hd, q⟩ := h
    refine ⟨_, (pss_cons (ps_asg4 pe_int (pg_name (i := 2) sc.nd rfl (by first | exact Or.inl rfl | exact Or.inr rfl)) (pg_name (i := 3) sc.nd rfl (by first | exact Or.inl rfl | exact Or.inr rfl)) (pg_name (i := 4) sc.nd rfl (by first | exact Or.inl rfl | exact Or.inr rfl)) (pg_name (i := 5) sc.nd rfl (by first | exact Or.inl rfl | exact Or.inr rfl)))
      (pss_cons (ps_while PassesOwn.never (pt_cmpR op_lt (pv 2) (pe_callB (cLen (K := K)) (by rfl) T.z_len (by decide +kernel) (pa_cons (pv 0) pa_nil)) (nomark _)) (pss_cons (ps_asg (pe_ix (iIx (P := P) (w := w) (K := K) hr.units) (pv 0) (pv 2) (fun _ _ => rfl)) (gTupA (K := K) (n := 2) rfl (pgs_cons (pg_name (i := 6) sc.nd rfl (by first | exact Or.inl rfl | exact Or.inr rfl)) (pgs_cons (pg_name (i := 7) sc.nd rfl (by first | exact Or.inl rfl | exact Or.inr rfl)) pgs_nil))))
      (pss_cons (ps_asg (pe_ix (iIx (P := P) (w := w) (K := K) hr.units) (pv 1) (pv 3) (fun _ _ => rfl)) (gTupA (K := K) (n := 2) rfl (pgs_cons (pg_name (i := 8) sc.nd rfl (by first | exact Or.inl rfl | exact Or.inr rfl)) (pgs_cons (pg_name (i := 9) sc.nd rfl (by first | exact Or.inl rfl | exact Or.inr rfl)) pgs_nil))))
      (pss_cons (ps_set (i := 10) sc.nd rfl (by first | exact Or.inl rfl | exact Or.inr rfl) (pe_callB (call_minA rfl) (by rfl) T.z_min (by decide +kernel) (pa_cons (pe_op op_sub (pe_op op_mulA (pe_callB (cLen (K := K)) (by rfl) T.z_len (by decide +kernel) (pa_cons (pv 6) pa_nil)) (pv 7)) (pv 4)) (pa_cons (pe_op op_sub (pe_op op_mulA (pe_callB (cLen (K := K)) (by rfl) T.z_len (by decide +kernel) (pa_cons (pv 8) pa_nil)) (pv 9)) (pv 5)) pa_nil))))
      (pss_cons (ps_set (i := 11) sc.nd rfl (by first | exact Or.inl rfl | exact Or.inr rfl) (pe_callB (call_minA rfl) (by rfl) T.z_min (by decide +kernel) (pa_cons (pv 10) (pa_cons (pe_op (oAdd (K := K)) (pe_callB (cLen (K := K)) (by rfl) T.z_len (by decide +kernel) (pa_cons (pv 6) pa_nil)) (pe_callB (cLen (K := K)) (by rfl) T.z_len (by decide +kernel) (pa_cons (pv 8) pa_nil))) pa_nil))))
      (pss_cons (ps_if (pt_cmpR (oNe (K := K) hr.units) (pe_callP G_stretch (hr.mono (by decide)) T.g_stretch pass0 (pa_cons (pv 6) (pa_cons (pv 4) (pa_cons (pv 11) pa_nil)))) (pe_callP G_stretch (hr.mono (by decide)) T.g_stretch pass0 (pa_cons (pv 8) (pa_cons (pv 5) (pa_cons (pv 11) pa_nil)))) (nomark _)) (pss_one (ps_ret pe_bl)) pss_nil)
      (pss_cons (ps_set (i := 4) sc.nd rfl (by first | exact Or.inl rfl | exact Or.inr rfl) (pe_op (oAdd (K := K)) (pv 4) (pv 10)))
      (pss_cons (ps_set (i := 5) sc.nd rfl (by first | exact Or.inl rfl | exact Or.inr rfl) (pe_op (oAdd (K := K)) (pv 5) (pv 10)))
      (pss_cons (ps_if (pt_cmpR (oEq (K := K) hr.units) (pv 4) (pe_op op_mulA (pe_callB (cLen (K := K)) (by rfl) T.z_len (by decide +kernel) (pa_cons (pv 6) pa_nil)) (pv 7)) (nomark _)) (pss_one (ps_parA (i := 2) (j := 4) rfl sc.nd (pa_cons (pe_op (oAdd (K := K)) (pv 2) pe_int) (pa_cons pe_int pa_nil)))) pss_nil)
      (pss_one (ps_if (pt_cmpR (oEq (K := K) hr.units) (pv 5) (pe_op op_mulA (pe_callB (cLen (K := K)) (by rfl) T.z_len (by decide +kernel) (pa_cons (pv 8) pa_nil)) (pv 9)) (nomark _)) (pss_one (ps_parA (i := 3) (j := 5) rfl sc.nd (pa_cons (pe_op (oAdd (K := K)) (pv 3) pe_int) (pa_cons pe_int pa_nil)))) pss_nil)))))))))))
      (pss_one (ps_ret pe_bl)))), ?_⟩
    have hx1 := hq1.length
    have hx2 := hq2.length
    repeat walk_at "rd"
    refine r_asg4 ?_
    repeat walk_at "rd"
    refine ⟨fun m σ H' => ∃ i j u v : Nat, (∃ a b c d e f, σ = [some (.ref p1), some (.ref p2), some (.int i), some (.int j), some (.int u), some (.int v), a, b, c, d, e, f]) ∧ H' = H ∧ SameJ rs1 rs2 i j u v ∧ m = (rs1.length - i) + (rs2.length - j),
      ⟨_, 0, 0, 0, 0, ⟨_, _, _, _, _, _, rfl⟩, rfl, ⟨Nat.zero_le _, Nat.zero_le _, rfl, cap_start t1.tidy (Nat.zero_le _), cap_start t2.tidy (Nat.zero_le _)⟩, rfl⟩, fun m σ H' hw => ?_⟩
    obtain ⟨i, j, u, v, ⟨a6, a7, a8, a9, a10, a11, rfl⟩, rfl, J, rfl⟩ := hw
    repeat walk_at "rd"
    refine r_ite (fun c => ?_) (fun c => ?_)
    · have hi : i < rs1.length := by omega
      obtain ⟨hj, hu, hv⟩ := J.other (by rw [hd]) hi
      obtain ⟨x1, hx1i⟩ : ∃ x, xs1[i]? = some x := ⟨xs1[i]'(by omega), List.getElem?_eq_getElem _⟩
      obtain ⟨x2, hx2j⟩ : ∃ x, xs2[j]? = some x := ⟨xs2[j]'(by omega), List.getElem?_eq_getElem _⟩
      obtain ⟨⟨pu, pk⟩, hp1, ta, rfl, hta⟩ := hq1.get hx1i
      obtain ⟨⟨qu, qk⟩, hp2, tb, rfl, htb⟩ := hq2.get hx2j
      have hb1 := t1.bnd _ (List.mem_of_getElem? hp1)
      have hb2 := t2.bnd _ (List.mem_of_getElem? hp2)
      have hc1 := cap_at hp1
      have hc2 := cap_at hp2
      have hg1 := t1.tidy _ (List.mem_of_getElem? hp1)
      have hg2 := t2.tidy _ (List.mem_of_getElem? hp2)
      have ds1 := den_step hp1
      have ds2 := den_step hp2
      have hpos := J.pos
      simp only at hb1 hb2 hc1 hc2 hg1 hg2 hta htb
      refine ⟨fun σ' H'' => ∃ m', m' < rs1.length - i + (rs2.length - j) ∧ ∃ i j u v : Nat, (∃ a b c d e f, σ' = [some (.ref p1), some (.ref p2), some (.int i), some (.int j), some (.int u), some (.int v), a, b, c, d, e, f]) ∧ H'' = H' ∧ SameJ rs1 rs2 i j u v ∧ m' = (rs1.length - i) + (rs2.length - j), fun _ _ z => z, ?_⟩
      repeat walk_at "rd"
      refine r_ixL2 (SqL.of h1) (atI_nat hx1i) ?_
      repeat walk_at "rd"
      refine r_ixL2 (SqL.of h2) (atI_nat hx2j) ?_
      repeat walk_at "rd"
      refine r_lenS (by rw [mkS_len, show sizeLine = 16777216 from by decide]; omega) ?_
      repeat walk_at "rd"
      rw [mkS_len]
      refine r_mulL ⟨by omega, by omega⟩ ?_
      rw [← Int.natCast_mul, ← hc1]
      repeat walk_at "rd"
      refine r_lenS (by rw [mkS_len, show sizeLine = 16777216 from by decide]; omega) ?_
      repeat walk_at "rd"
      rw [mkS_len]
      refine r_mulL ⟨by omega, by omega⟩ ?_
      rw [← Int.natCast_mul, ← hc2]
      repeat walk_at "rd"
      rw [← Int.natCast_sub (Nat.le_of_lt hu), ← Int.natCast_sub (Nat.le_of_lt hv), min_nat]
      have hmA : (if cap rs2 j - v < cap rs1 i - u then cap rs2 j - v else cap rs1 i - u) ≤ cap rs1 i - u ∧ (if cap rs2 j - v < cap rs1 i - u then cap rs2 j - v else cap rs1 i - u) ≤ cap rs2 j - v ∧ ((if cap rs2 j - v < cap rs1 i - u then cap rs2 j - v else cap rs1 i - u) = cap rs1 i - u ∨ (if cap rs2 j - v < cap rs1 i - u then cap rs2 j - v else cap rs1 i - u) = cap rs2 j - v) := by
        split <;> omega
      generalize (if cap rs2 j - v < cap rs1 i - u then cap rs2 j - v else cap rs1 i - u) = many at *
      obtain ⟨m1, m2, m3⟩ := hmA
      repeat walk_at "rd"
      refine r_lenS (by rw [mkS_len, show sizeLine = 16777216 from by decide]; omega) ?_
      repeat walk_at "rd"
      refine r_lenS (by rw [mkS_len, show sizeLine = 16777216 from by decide]; omega) ?_
      repeat walk_at "rd"
      rw [mkS_len, mkS_len, ← Int.natCast_add, min_nat]
      have hlA : (if pu.length + qu.length < many then pu.length + qu.length else many) ≤ many ∧ (if pu.length + qu.length < many then pu.length + qu.length else many) ≤ 8000000 := by
        split <;> omega
      generalize (if pu.length + qu.length < many then pu.length + qu.length else many) = look at *
      obtain ⟨l1, l2⟩ := hlA
      repeat walk_at "rd"
      refine ⟨pu, u, look, pk, rfl, by omega, by omega, l2, by omega, ?_⟩
      repeat walk_at "rd"
      refine ⟨qu, v, look, qk, rfl, by omega, by omega, l2, by omega, ?_⟩
      repeat walk_at "rd"
      have hs1 := seg_at hp1 (f := u) (n := look) (by show u + look ≤ pu.length * pk; omega)
      have hs2 := seg_at hp2 (f := v) (n := look) (by show v + look ≤ qu.length * qk; omega)
      simp only at hs1 hs2
      rw [hs1, hs2, hd, hpos]
      rw [show (!decide (mkS (((den rs2).drop ((den (rs2.take j)).length + v)).take look) = mkS (((den rs2).drop ((den (rs2.take j)).length + v)).take look))) = false from by simp]
      repeat walk_at "rd"
      refine r_lenS (by rw [mkS_len, show sizeLine = 16777216 from by decide]; omega) ?_
      repeat walk_at "rd"
      rw [mkS_len]
      refine r_mulL ⟨by omega, by omega⟩ ?_
      rw [← Int.natCast_mul, ← hc1]
      repeat walk_at "rd"
      have fin : ∀ {i' j' u' v' : Nat} {Hx : Hp}, Hx = H' → SameJ rs1 rs2 i' j' u' v' → i ≤ i' → j ≤ j' → i + j < i' + j' → i' ≤ rs1.length → j' ≤ rs2.length → ∀ {x6 x7 x8 x9 x10 x11 : Option V}, ∃ m', m' < rs1.length - i + (rs2.length - j) ∧ ∃ i j u v : Nat, (∃ a b c d e f, [some (V.ref p1), some (.ref p2), some (.int i'), some (.int j'), some (.int u'), some (.int v'), x6, x7, x8, x9, x10, x11] = [some (.ref p1), some (.ref p2), some (.int i), some (.int j), some (.int u), some (.int v), a, b, c, d, e, f]) ∧ Hx = H' ∧ SameJ rs1 rs2 i j u v ∧ m' = (rs1.length - i) + (rs2.length - j) :=
        fun h1 h2 h3 h4 h5 h6 h7 => ⟨_, by omega, _, _, _, _, ⟨_, _, _, _, _, _, rfl⟩, h1, h2, rfl⟩
      refine r_ite (fun e1 => ?_) (fun e1 => ?_)
      · have e1 : u + many = cap rs1 i := by omega
        have n1 := cap_start t1.tidy (show i + 1 ≤ rs1.length by omega)
        repeat walk_at "rd"
        refine r_lenS (by rw [mkS_len, show sizeLine = 16777216 from by decide]; omega) ?_
        repeat walk_at "rd"
        rw [mkS_len]
        refine r_mulL ⟨by omega, by omega⟩ ?_
        rw [← Int.natCast_mul, ← hc2]
        repeat walk_at "rd"
        refine r_ite (fun e2 => ?_) (fun e2 => ?_)
        · have e2 : v + many = cap rs2 j := by omega
          have n2 := cap_start t2.tidy (show j + 1 ≤ rs2.length by omega)
          repeat walk_at "rd"
          exact fin (i' := i + 1) (j' := j + 1) (u' := 0) (v' := 0) rfl ⟨by omega, by omega, by omega, n1, n2⟩ (by omega) (by omega) (by omega) (by omega) (by omega)
        · repeat walk_at "rd"
          exact fin (i' := i + 1) (j' := j) (u' := 0) (v' := v + many) rfl ⟨by omega, by omega, by omega, n1, .inl (by omega)⟩ (by omega) (by omega) (by omega) (by omega) (by omega)
      · repeat walk_at "rd"
        refine r_lenS (by rw [mkS_len, show sizeLine = 16777216 from by decide]; omega) ?_
        repeat walk_at "rd"
        rw [mkS_len]
        refine r_mulL ⟨by omega, by omega⟩ ?_
        rw [← Int.natCast_mul, ← hc2]
        repeat walk_at "rd"
        refine r_ite (fun e2 => ?_) (fun e2 => ?_)
        · have e2 : v + many = cap rs2 j := by omega
          have n2 := cap_start t2.tidy (show j + 1 ≤ rs2.length by omega)
          repeat walk_at "rd"
          exact fin (i' := i) (j' := j + 1) (u' := u + many) (v' := 0) rfl ⟨by omega, by omega, by omega, .inl (by omega), n2⟩ (by omega) (by omega) (by omega) (by omega) (by omega)
        · exfalso; omega
    · have hi : i = rs1.length := by have := J.i1; omega
      repeat walk_at "rd"
      exact q
theorem ok_eqRep (T : Txt w K mg) : Prom P w K mg base CX0 3 (a_Repeats_eq K) p_Repeats_eq [] (spEqRep K) := by
  obtain ⟨fd, F⟩ := T.d_Repeats_eq
  have sc := sc_Repeats_eq
  have c1 := T.cl_Repeats
  have c2 := T.na_Repeats_runs
  have G_Repeats_length := ok_length (P := P) (base := base) T
  have G_same_items := ok_same_items (P := P) (base := base) T
  refine prom0 F sc (bn_Repeats_eq F) (fun vs H Q E h => ?_) (fun cdv A outer s H vs Q E hr h => ?_)
  · obtain ⟨a, rl, rs, b, rl2, rs2, B, rfl, _⟩ := h
    rfl
  · obtain ⟨a, rl, rs, b, rl2, rs2, B, rfl, hR, hR2, hb, hb2, hB, hl, hl2, hd, k⟩ := h
    refine ⟨_, (pss_cons (ps_if (PW.pt (pw_or (pt_not (pt_val (pe_callB (cIsi (K := K)) (by rfl) T.z_isinstance (by decide +kernel) (pa_cons (pv 1) (pa_cons (pe_gref rfl T.g_Repeats) pa_nil))))) (pw_or1 (pt_cmpR (oNe (K := K) hr.units) (pe_propP (pv 0) T.cl_Repeats T.pr_Repeats_length G_Repeats_length (hr.mono (by decide)) pass0) (pe_propP (pv 1) T.cl_Repeats T.pr_Repeats_length G_Repeats_length (hr.mono (by decide)) pass0) (nomark _))))) (pss_one (ps_ret pe_bl)) pss_nil)
      (pss_one (ps_ret (pe_callP G_same_items (hr.mono (by decide)) T.g_same_items pass0 (pa_cons (eFld (K := K) (pv 0)) (pa_cons (eFld (K := K) (pv 1)) pa_nil)))))), ?_⟩
    obtain ⟨dx, xs, h1, h2, h3⟩ := id hR
    obtain ⟨dy, ys, g1, g2, g3⟩ := id hR2
    repeat walk_at "rd"
    refine r_isiOwn g1 c1 T.in_Repeats T.ki_Repeats_Repeats ?_
    repeat walk_at "rd"
    refine ⟨a, rl, rs, B, rfl, hR, fun p hp => (hb.bnd p hp).1, by omega, hl, fun H1 s1 => ?_⟩
    have g1' := s1 _ _ g1
    repeat walk_at "rd"
    refine ⟨b, rl2, rs2, B, rfl, hR2.same s1, fun p hp => (hb2.bnd p hp).1, by omega, hl2, fun H2 s2 => ?_⟩
    have s12 := s1.trans s2
    rw [hd]
    repeat walk_at "rd"
    rw [show (!decide (((den rs2).length : Int) = ((den rs2).length : Int))) = false from by simp]
    obtain ⟨dx, xs, h1, h2, h3⟩ := hR.same s12
    obtain ⟨dy, ys, g1, g2, g3⟩ := hR2.same s12
    repeat walk_at "rd"
    exact ⟨rl, xs, rs, rl2, ys, rs2, B, rfl, h2, h3, g2, g3, hb, hb2, hB, hd, k _ s12⟩
end
end OB

namespace OB
open PySem PySem.Spec PyProof.Rows L2
local macro_rules | `(tactic| walk_at "hp") => `(tactic| first
  | assumption | exact upd_same | (refine look_new ?_ ?_ <;> walk_at "hp") | ((refine' look_mut (v := ?lv) ?lq ?lp ?ld); (case lq => walk_at "hp"); (case lp => walk_at "hp"); (case ld => (intro z; cases z))))
local macro_rules | `(tactic| walk_at "rd") => `(tactic| (first
  | (with_reducible first
  | refine r_seq ?_ | refine r_asg ?_ | refine r_gname ?_ | refine r_ret ?_ | refine r_retN ?_ | refine r_next ?_ | refine r_drop ?_ | refine r_if ?_
  | refine r_c ?_ | refine r_op ?_ | refine r_test ?_ | refine r_tb ?_ | refine r_bl ?_ | refine r_and ?_ | refine r_or ?_ | refine r_not ?_
  | refine r_andV ?_ | refine r_orV ?_ | refine r_notV ?_ | refine r_ifE ?_ | refine r_nil ?_ | refine r_cons ?_ | refine r_tup ?_ | refine r_lst ?_ | refine r_cb ?_ | refine r_call ?_ | refine r_sub ?_
  | refine r_addI ?_ | refine r_I0 ?_ | refine r_eqI ?_ | refine r_neI ?_ | refine r_eqS ?_ | refine r_neS ?_ | refine r_inS ?_ | refine r_inS2 ?_ | refine r_notInS2 ?_ | refine r_isNA ?_ | refine r_m1 ?_ | refine r_isstr ?_ | refine r_lc ?_ | refine r_notNA ?_ | refine r_kt ?_ | refine r_chain ?_ | refine r_gcons ?_ | refine r_gnil ?_ | refine r_fld ?_ | refine r_sfld ?_ | refine r_meth ?_ | refine r_sl ?_ | refine r_part ?_ | refine r_nopart ?_ | refine r_int ?_ | refine r_star ?_ | refine r_delL ?_ | refine r_par ?_ | refine r_parAt ?_ | refine r_par3 ?_ | refine r_parAt3 ?_ | refine r_fldaug ?_ | refine r_brk ?_ | refine r_for ?_ | refine r_ienT ?_ | refine r_make ?_ | refine r_bm ?_ | refine r_bm0 ?_ | refine iteT ?_ | refine iteF ?_)
  | ((with_reducible refine' r_var ?he ?_); (case he => rfl))
  | (with_reducible first | refine r_abs ?_ | refine r_max ?_ | refine r_min ?_)
  | ((with_reducible refine' r_lenSq ?hs ?_); (case hs => first | exact .inl (by assumption) | exact .inr (by assumption) | exact .inl (SqL.of (by walk_at "hp")) | exact .inr (SqT.of (by walk_at "hp"))))
  | ((with_reducible refine' r_mulR ?hc ?_); (case hc => decide))
  | ((with_reducible refine' r_mulL ?hc ?_); (case hc => decide))
  | ((with_reducible refine' r_mod ?hc ?_); (case hc => first | decide | assumption | omega))
  | ((with_reducible refine' r_div ?hc ?_); (case hc => first | decide | assumption | (constructor <;> first | assumption | omega)))
  | ((with_reducible refine' r_pow ?hc ?_); (case hc => first | decide | (refine ⟨by decide, by decide, by omega⟩)))
  | ((with_reducible refine' r_ixL2 ?hs ?he ?_); (case hs => exact SqL.of (by walk_at "hp")); (case he => first | rfl | exact atI0 | exact atI1 | exact atI2 | exact atI3))
  | ((with_reducible refine' r_ixT2 ?hs ?he ?_); (case hs => first | assumption | exact SqT.of (by walk_at "hp")); (case he => first | rfl | exact atI0 | exact atI1 | exact atI2 | exact atI3))
  | ((with_reducible refine' r_setL2 ?hs ?he ?_); (case hs => walk_at "hp"); (case he => rfl))
  | ((with_reducible refine' r_gtup ?hs ?he ?_); (case hs => first | assumption | exact SqT.of (by walk_at "hp")); (case he => rfl))
  | ((with_reducible refine' r_fldAt ?hs ?hc ?hn ?hl ?_); (case hs => walk_at "hp"); (case hc => walk_at "cl"); (case hn => walk_at "cl"); (case hl => rfl))
  | ((with_reducible refine' r_sfldAt ?hs ?hc ?hn ?hl ?_); (case hs => walk_at "hp"); (case hc => walk_at "cl"); (case hn => walk_at "cl"); (case hl => exact Nat.le_of_ble_eq_true rfl))
  | ((with_reducible refine' r_aug ?he ?_); (case he => rfl))
  | ((with_reducible refine' r_starAt ?hs ?_); (case hs => first | exact .inl (by assumption) | exact .inr (by assumption) | exact .inl (SqT.of (by walk_at "hp")) | exact .inr (SqL.of (by walk_at "hp"))))
  | ((with_reducible refine' r_fldaugAt ?hs ?hc ?hn ?hl ?_); (case hs => walk_at "hp"); (case hc => walk_at "cl"); (case hn => walk_at "cl"); (case hl => rfl))
  | ((with_reducible refine' r_methAt ?hs ?hl ?_); (case hs => walk_at "hp"); (case hl => rfl))
  | ((with_reducible refine' r_tyL ?hs ?_); (case hs => first | assumption | exact SqL.of (by walk_at "hp")))
  | ((with_reducible refine' r_ifT ?h ?_); (case h => rfl))
  | ((with_reducible refine' r_ifF ?h ?_); (case h => rfl))
  | ((with_reducible first | refine' r_isiInt ?hd ?_ | refine' r_isiBool ?hd ?_ | refine' r_isiStr ?hd ?_ | refine' r_isiTup ?hd ?_ | refine' r_isiLst ?hd ?_); (case hd => assumption))
  ))

local macro_rules | `(tactic| walk_at "rd") => `(tactic| (first
  | (with_reducible first | refine r_prop ?_ | refine r_cmeth ?_ | refine r_makeV ?_ | refine r_repRuns ?_ | refine r_repL ?_ | refine r_irng1 ?_)
  | ((with_reducible refine' r_propAt ?hs ?_); (case hs => walk_at "hp"))
  ))

local macro_rules | `(tactic| walk_at "cl") => `(tactic| assumption)
abbrev ResC (K : PySem.W.Frag) : Addr := He.ga K "Result"
def resFs (a b c : V) : List (Str × V) := [("remains", a), ("made", b), ("ended", c)]
def ResAt (K : PySem.W.Frag) (H : Hp) (p : Addr) (a b c : V) : Prop := ∃ dx, H p = some (.ins (ResC K) dx (resFs a b c))
def spResI (K : PySem.W.Frag) : Sp := fun vs H Q _ => ∃ self dx a b c, vs = [.ref self, a, b, c] ∧ H self = some (.ins (ResC K) dx []) ∧ Q .non (upd H self (.ins (ResC K) dx (resFs a b c)))
def spResG (K : PySem.W.Frag) (f : V → V → V → V) : Sp := fun vs H Q _ => ∃ p a b c, vs = [.ref p] ∧ ResAt K H p a b c ∧ Q (f a b c) H
/-- one loop that ends on the list -/
def spFar1 (K : PySem.W.Frag) : Sp := fun vs H Q _ => ∃ gv L rp rl rs o st', ∃ n : Nat, vs = [gv, .ref rp] ∧ Dp K H gv (progD [L]) ∧ WF L ∧ smD (progD [L]) = true ∧ isProgram kt_EDIT_KINDS (progD [L]) = true ∧ RepAt K H rp rl rs ∧ (∀ p ∈ rs, p.1.length ≤ 20 ∧ ∀ c ∈ p.1, c ∈ lts) ∧
  rs.length ≤ 400 ∧ Runs L 1 ⟨0, den rs, false⟩ o n st' ∧
  ∀ H' res rp' rl' pt wt rs', Same H H' → ResAt K H' res (.ref rp') (.ref pt) (.ref wt) → RepAt K H' rp' rl' rs' → TidyB 604080 rs' → rs'.length ≤ 81000 → den rs' = o ++ endOf L st' → SqT K H' pt [.int (n : Nat)] → SqT K H' wt [.str (wayOf st')] → Q (.ref res) H'
theorem runs_ltr {L : Loop} (wf : WF L) {m : Nat} {l o : List Nat} {n : Nat} {st' : Stay} (hr : Runs L 1 ⟨m, l, false⟩ o n st') (hl : ∀ c ∈ l, c ∈ lts) (hm : m < 4 := by decide) : ∀ c ∈ o ++ endOf L st', c ∈ lts := by
  have s0 : StOk l.length (⟨m, l, false⟩ : Stay) := ⟨hm, hl, Nat.le_refl _⟩
  intro c hc
  rcases List.mem_append.mp hc with z | z
  · rw [hr.out] at z
    unfold outs at z
    obtain ⟨x, hx, hcx⟩ := List.mem_flatten.mp z
    obtain ⟨i, hi, rfl⟩ := List.mem_map.mp hx
    have hi := List.mem_range.mp hi
    have si := itS_ok wf (by decide) s0 i fun j hj => hr.lv j (by omega)
    have hp := (pass_ok wf 0 si.ltr si.mark).1
    unfold outAt onePass partOf at hcx
    split at hcx
    · exact hp c hcx
    · exact hp c (List.mem_of_mem_take hcx)
  · unfold endOf at z
    split at z
    · cases z
    · rw [List.getD_eq_getElem?_getD] at z
      cases e : L.ends[st'.mark]? with
      | none => rw [e] at z; cases z
      | some x =>
        rw [e] at z
        exact (wf.end_ x (List.mem_of_getElem? e)).2 c z
theorem tsum_le {B : Nat} {rs : List (List Nat × Nat)} (h : ∀ p ∈ rs, p.1.length ≤ B) : tsum rs ≤ rs.length * B := by
  induction rs with
  | nil => exact Nat.zero_le _
  | cons p r ih =>
    have h1 := ih fun q hq => h q (List.mem_cons_of_mem _ hq)
    have h2 := h p List.mem_cons_self
    show p.1.length + tsum r ≤ (r.length + 1) * B
    rw [Nat.add_mul]
    omega
section
variable {P : Program} {w : World} {K : PySem.W.Frag} {mg : Str → Option Value} {base : Heap}
theorem ok_Result (T : Txt w K mg) : Prom P w K mg base CX0 1 (a_Result_init K) p_Result_init [] (spResI K) := by
  obtain ⟨fd, F⟩ := T.d_Result_init
  have sc := sc_Result_init
  have c1 := T.cl_Result
  have c2 := T.na_Result_remains
  have c3 := T.na_Result_made
  have c4 := T.na_Result_ended
  refine prom0 F sc (bn_Result_init F) (fun vs H Q E h => ?_) (fun cdv A outer s H vs Q E hr h => ?_)
  · obtain ⟨self, dx, a, b, c, rfl, _⟩ := h
    rfl
  · obtain ⟨self, dx, a, b, c, rfl, hself, k⟩ := h
    refine ⟨_, (pss_cons (sFldA (K := K) (pv 0) (pv 1))
      (pss_cons (sFldA (K := K) (pv 0) (pv 2))
      (pss_one (sFldA (K := K) (pv 0) (pv 3))))), ?_⟩
    repeat walk_at "rd"
    rw [upd_upd, upd_upd]
    exact k
theorem ok_Res_text (T : Txt w K mg) : Prom P w K mg base CX0 1 (a_Result_text K) p_Result_text [] (spResG K fun a _ _ => a) := by
  obtain ⟨fd, F⟩ := T.d_Result_text
  have sc := sc_Result_text
  have c1 := T.cl_Result
  have c2 := T.na_Result_remains
  refine prom0 F sc (bn_Result_text F) (fun vs H Q E h => ?_) (fun cdv A outer s H vs Q E hr h => ?_)
  · obtain ⟨p, a, b, c, rfl, _⟩ := h
    rfl
  · obtain ⟨p, a, b, c, rfl, ⟨dx, hp⟩, k⟩ := h
    refine ⟨_, (pss_one (ps_ret (eFld (K := K) (pv 0)))), ?_⟩
    repeat walk_at "rd"
    exact k
theorem ok_Res_passes (T : Txt w K mg) : Prom P w K mg base CX0 1 (a_Result_passes K) p_Result_passes [] (spResG K fun _ b _ => b) := by
  obtain ⟨fd, F⟩ := T.d_Result_passes
  have sc := sc_Result_passes
  have c1 := T.cl_Result
  have c2 := T.na_Result_made
  refine prom0 F sc (bn_Result_passes F) (fun vs H Q E h => ?_) (fun cdv A outer s H vs Q E hr h => ?_)
  · obtain ⟨p, a, b, c, rfl, _⟩ := h
    rfl
  · obtain ⟨p, a, b, c, rfl, ⟨dx, hp⟩, k⟩ := h
    refine ⟨_, (pss_one (ps_ret (eFld (K := K) (pv 0)))), ?_⟩
    repeat walk_at "rd"
    exact k
theorem ok_Res_ways (T : Txt w K mg) : Prom P w K mg base CX0 1 (a_Result_ways K) p_Result_ways [] (spResG K fun _ _ c => c) := by
  obtain ⟨fd, F⟩ := T.d_Result_ways
  have sc := sc_Result_ways
  have c1 := T.cl_Result
  have c2 := T.na_Result_ended
  refine prom0 F sc (bn_Result_ways F) (fun vs H Q E h => ?_) (fun cdv A outer s H vs Q E hr h => ?_)
  · obtain ⟨p, a, b, c, rfl, _⟩ := h
    rfl
  · obtain ⟨p, a, b, c, rfl, ⟨dx, hp⟩, k⟩ := h
    refine ⟨_, (pss_one (ps_ret (eFld (K := K) (pv 0)))), ?_⟩
    repeat walk_at "rd"
    exact k
theorem ok_run_far1 (T : Txt w K mg) : Prom P w K mg base CX0 11 (a_run_far K) p_run_far [] (spFar1 K) := by
  obtain ⟨fd, F⟩ := T.d_run_far
  have sc := sc_run_far
  have c1 := T.cl_Track
  have c2 := T.na_Track_pairs
  have c3 := T.na_Track_made
  have G_check_program := ok_check_program (P := P) (base := base) T
  have G_Track_init := ok_Track (P := P) (base := base) T
  have G_run_loop_far := ok_run_loop_far (P := P) (base := base) T
  have G_Runs_init := ok_Runs (P := P) (base := base) T
  have G_Repeats_init := ok_RepR (P := P) (base := base) T
  have G_Result_init := ok_Result (P := P) (base := base) T
  refine prom0 F sc (bn_run_far F) (fun vs H Q E h => ?_) (fun cdv A outer s H vs Q E hr h => ?_)
  · obtain ⟨gv, L, rp, rl, rs, o, st', n, rfl, _⟩ := h
    rfl
  · obtain ⟨gv, L, rp, rl, rs, o, st', n, rfl, hd, wf, hsm, hip, hR, hrs, hl, hrun, k⟩ := h
    refine ⟨_, (pss_cons (ps_expr (pe_callP G_check_program (hr.mono (by decide)) T.g_check_program pass0 (pa_cons (pv 0) pa_nil)))
      (pss_cons (ps_parA (i := 2) (j := 3) rfl sc.nd (pa_cons (pe_lst pa_nil) (pa_cons (pe_lst pa_nil) pa_nil)))
      (pss_cons (ps_for PassesOwn.never rfl (piEnT (K := K) T.z_enumerate (pa_cons (pv 0) pa_nil)) (gTupA (K := K) (n := 2) rfl (pgs_cons (pg_name (i := 4) sc.nd rfl (by first | exact Or.inl rfl | exact Or.inr rfl)) (pgs_cons (pg_name (i := 5) sc.nd rfl (by first | exact Or.inl rfl | exact Or.inr rfl)) pgs_nil))) (pss_cons (ps_set (i := 6) sc.nd rfl (by first | exact Or.inl rfl | exact Or.inr rfl) (pe_makeP0 T.mk_Track G_Track_init (hr.mono (by decide)) T.g_Track pass0))
      (pss_cons (ps_set (i := 7) sc.nd rfl (by first | exact Or.inl rfl | exact Or.inr rfl) (pe_callP G_run_loop_far (hr.mono (by decide)) T.g_run_loop_far pass0 (pa_cons (pv 5) (pa_cons (pv 1) (pa_cons pe_int (pa_cons (pv 6) pa_nil))))))
      (pss_cons (ps_if (pt_cmpR op_isNA (pv 7) pe_non (nomark _)) (pss_one ps_never) pss_nil)
      (pss_cons (ps_set (i := 1) sc.nd rfl (by first | exact Or.inl rfl | exact Or.inr rfl) (pe_makeP T.mk_Repeats G_Repeats_init (hr.mono (by decide)) T.g_Repeats pass0 (pa_cons (pe_makeP T.mk_Runs G_Runs_init (hr.mono (by decide)) T.g_Runs pass0 (pa_cons (eFld (K := K) (pv 6)) pa_nil)) pa_nil)))
      (pss_cons (ps_expr (eBm (K := K) (pe_bm PySem.F.plainAttrs_list PySem.F.slot_list_append PySem.F.type_list_append mt_append (pv 2) (pa_cons (eFld (K := K) (pv 6)) pa_nil))))
      (pss_one (ps_expr (eBm (K := K) (pe_bm PySem.F.plainAttrs_list PySem.F.slot_list_append PySem.F.type_list_append mt_append (pv 3) (pa_cons (pv 7) pa_nil)))))))))))
      (pss_one (ps_ret (pe_makeP T.mk_Result G_Result_init (hr.mono (by decide)) T.g_Result pass0 (pa_cons (pv 1) (pa_cons (pe_callTy (cTuple (K := K)) (by rfl) T.z_tuple (by decide +kernel) (pa_cons (pv 2) pa_nil)) (pa_cons (pe_callTy (cTuple (K := K)) (by rfl) T.z_tuple (by decide +kernel) (pa_cons (pv 3) pa_nil)) pa_nil))))))))), ?_⟩
    repeat walk_at "rd"
    refine ⟨_, _, rfl, hd, hsm, hip, fun H1 s1 => ?_⟩
    have hd1 := dp_same s1 hd
    have hR1 := hR.same s1
    cases hd1 with
    | tup hS hA =>
      rename_i a xs
      cases hA with
      | cons hlv hnil =>
        rename_i lv vs
        cases hnil
        repeat walk_at "rd"
        refine ⟨Nat.le_of_ble_eq_true rfl, fun pl hpl => ?_⟩
        repeat walk_at "rd"
        refine ⟨Nat.le_of_ble_eq_true rfl, fun wl hwl => ?_⟩
        repeat walk_at "rd"
        have hplH : H pl = none := none_of_same s1 hpl
        have hwlH := none_of_same s1 ((none_of_upd hwl).1)
        have hne := (none_of_upd hwl).2
        have s3 := s1.trans ((Same.new (o := .lst []) hpl).trans (Same.new (o := .lst []) hwl))
        have hpl3 : (upd (upd H1 pl (.lst [])) wl (.lst [])) pl = some (.lst []) := look_new hwl upd_same
        have hwl3 : (upd (upd H1 pl (.lst [])) wl (.lst [])) wl = some (.lst []) := upd_same
        have s13 : Same H1 (upd (upd H1 pl (.lst [])) wl (.lst [])) := (Same.new (o := .lst []) hpl).trans (Same.new (o := .lst []) hwl)
        have hS3 := Same.sqt s13 hS
        have hlv3 := dp_same s13 hlv
        have hR3 := hR1.same s13
        generalize upd (upd H1 pl (.lst [])) wl (.lst []) = H3 at *
        have hol := runs_ltr wf hrun (den_lts fun p hp => (hrs p hp).2)
        refine r_forEn hS3 (fun i σ H' => (i = 0 ∧ σ = [some (.ref a), some (.ref rp), some (.ref pl), some (.ref wl), none, none, none, none] ∧ H' = H3) ∨
          (i = 1 ∧ ∃ rp' rl' rs' x4 x5 x6 x7, σ = [some (.ref a), some (.ref rp'), some (.ref pl), some (.ref wl), x4, x5, x6, x7] ∧ Same H H' ∧ SqT K H' a [lv] ∧ H' pl = some (.lst [.int (n : Nat)]) ∧ H' wl = some (.lst [.str (wayOf st')]) ∧ RepAt K H' rp' rl' rs' ∧ TidyB 604080 rs' ∧ rs'.length ≤ 81000 ∧ den rs' = o ++ endOf L st'))
          (.inl ⟨rfl, rfl, rfl⟩) (fun i σ H' _ p => ?_) (fun i x σ H' Tt hx p hT => ?_) (fun σ H' p => ?_)
        · rcases p with ⟨_, _, rfl⟩ | ⟨_, _, _, _, _, _, _, _, _, _, h, _⟩
          · exact hS3
          · exact h
        · rcases p with ⟨rfl, rfl, rfl⟩ | ⟨rfl, _⟩
          · cases hx
            repeat walk_at "rd"
            have sT : Same H' (upd H' Tt (.tup [.int ((0 : Nat) : Int), lv])) := Same.new hT
            have s4 := s3.trans sT
            have hpl4 := sT _ _ hpl3
            have hwl4 := sT _ _ hwl3
            have hS4 := Same.sqt sT hS3
            have hlv4 := dp_same sT hlv3
            have hR4 := hR3.same sT
            generalize upd H' Tt (.tup [.int ((0 : Nat) : Int), lv]) = H4 at *
            intro tr dxt htr hdxt hnet
            obtain ⟨s5, htr5⟩ := mk_new (C := He.ga K "Track") htr hdxt hnet
            generalize upd (upd H4 dxt (.own tr)) tr (.ins (He.ga K "Track") dxt []) = H5 at *
            refine ⟨tr, dxt, rfl, htr5, fun H6 pl2 hpl2 g6 ht6 => ⟨rfl, ?_⟩⟩
            have s6 : Same H4 H6 := (Chg.less (ps := []) (Chg.of_same s5) g6 htr).same
            have hR6 := hR4.same s6
            have hpl6 := s6 _ _ hpl4
            have hwl6 := s6 _ _ hwl4
            have htr4 : H4 pl2 = none := none_of_same s5 hpl2
            repeat walk_at "rd"
            obtain ⟨_, _, hr1, hr2, _⟩ := id hR4
            refine ⟨lv, rp, rl, tr, pl2, L, rs, [], 0, 0, 20, rfl, dp_same s6 hlv4, wf, hR6, ne_of_none hr2 htr4, by decide, ht6, hrs, by decide, ?_, by show 0 + rs.length * 200 ≤ 600000; omega, fun he H7 g7 => (runs_not_endl hrun (far_endless wf he)).elim, fun H7 o1 n1 st1 o2 n2 st2 qs r1 r2 g7 ht7 hden hql hqb => ?_⟩
            · have := tsum_le (B := 20) fun p hp => (hrs p hp).1
              omega
            · obtain ⟨u1, u2, u3⟩ := runs_unique (far_walk wf r1 r2) hrun
              subst u1 u2 u3
              have s7 : Same H4 H7 := (Chg.less (ps := []) Chg.refl (Chg.less (ps := [pl2]) (Chg.of_same s6) g7 htr) htr4).same
              have hpl7 := s7 _ _ hpl4
              have hwl7 := s7 _ _ hwl4
              obtain ⟨dxt7, xs7, t1, t2, t3⟩ := ht7
              repeat walk_at "rd"
              have hql2 : ([] ++ qs : List (List Nat × Nat)).length ≤ 81000 := by rw [List.nil_append]; omega
              refine kRep_of (rs := [] ++ qs) (B := 604080) (SqL.of t2) t3 (by omega) (by decide) (bnd_of (fun p hp => ?_) ?_) fun H8 rp' rl' rs' s8 q1 q2 q3 q4 q5 q6 => ?_
              · have := hqb p hp
                omega
              · rw [List.nil_append, hden]
                exact hol
              · have t1' := s8 _ _ t1
                have hpl8 := s8 _ _ hpl7
                have hwl8 := s8 _ _ hwl7
                repeat walk_at "rd"
                refine r_append hpl8 (by decide) ?_
                have hwl9 : (upd H8 pl (.lst ([] ++ [.int ((0 + n1 + n2 : Nat) : Int)]))) wl = some (.lst []) := by rw [upd_ne (Ne.symm hne)]; exact hwl8
                have cg9 : Chg [pl, wl] H8 (upd H8 pl (.lst ([] ++ [.int ((0 + n1 + n2 : Nat) : Int)]))) := Chg.upd hpl8 (by simp)
                have hpl9 : (upd H8 pl (.lst ([] ++ [.int ((0 + n1 + n2 : Nat) : Int)]))) pl = some (.lst [.int ((0 + n1 + n2 : Nat) : Int)]) := upd_same
                have s9 : Same H (upd H8 pl (.lst ([] ++ [.int ((0 + n1 + n2 : Nat) : Int)]))) := Same.mut (s4.trans (s7.trans s8)) hplH
                generalize upd H8 pl (.lst ([] ++ [.int ((0 + n1 + n2 : Nat) : Int)])) = H9 at *
                repeat walk_at "rd"
                refine r_append hwl9 (by decide) ?_
                have cg10 : Chg [pl, wl] H9 (upd H9 wl (.lst ([] ++ [.str (wayOf st2)]))) := Chg.upd hwl9 (by simp)
                have cg := cg9.trans cg10
                refine .inr ⟨rfl, rp', rl', rs', _, _, _, _, rfl, Same.mut s9 hwlH, cg.sqt (Same.sqt (s7.trans s8) hS4), by rw [upd_ne hne, hpl9, Nat.zero_add], upd_same, q1.chg cg (fun z => ?_), q4, by omega, by rw [q5, List.nil_append, hden]⟩
                rcases List.mem_cons.mp z with z | z
                · exact ne_of_none hpl7 q3 z.symm
                · exact ne_of_none hwl7 q3 (List.mem_singleton.mp z).symm
          · cases hx
        · rcases p with ⟨h, _⟩ | ⟨_, rp', rl', rs', x4, x5, x6, x7, rfl, s4, hS4, hpl4, hwl4, hR4, ht4, hl4, hd4⟩
          · cases h
          · repeat walk_at "rd"
            refine r_tupL (SqL.of hpl4) fun pt hpt => ?_
            have s5 := Same.new (o := .tup [.int (n : Nat)]) hpt
            have hpt5 : (upd H' pt (.tup [.int (n : Nat)])) pt = some (.tup [.int (n : Nat)]) := upd_same
            have hwl5 := s5 _ _ hwl4
            generalize upd H' pt (.tup [.int (n : Nat)]) = H5 at *
            repeat walk_at "rd"
            refine r_tupL (SqL.of hwl5) fun wt hwt => ?_
            have s6 := Same.new (o := .tup [.str (wayOf st')]) hwt
            have hwt6 : (upd H5 wt (.tup [.str (wayOf st')])) wt = some (.tup [.str (wayOf st')]) := upd_same
            have hpt6 := s6 _ _ hpt5
            generalize upd H5 wt (.tup [.str (wayOf st')]) = H6 at *
            repeat walk_at "rd"
            intro rv dxr hrv hdxr hner
            obtain ⟨s7, hrv7⟩ := mk_new (C := ResC K) hrv hdxr hner
            refine ⟨rv, dxr, .ref rp', .ref pt, .ref wt, rfl, hrv7, rfl, ?_⟩
            have s8 : Same H6 (upd (upd (upd H6 dxr (.own rv)) rv (.ins (ResC K) dxr [])) rv (.ins (ResC K) dxr (resFs (.ref rp') (.ref pt) (.ref wt)))) := Same.mut s7 hrv
            exact k _ rv rp' rl' pt wt rs' (s4.trans (s5.trans (s6.trans s8))) ⟨dxr, upd_same⟩ (hR4.same (s5.trans (s6.trans s8))) ht4 hl4 hd4 (SqT.of (s8 _ _ hpt6)) (SqT.of (s8 _ _ hwt6))
end
end OB

namespace OB
open PySem PySem.Spec PyProof.Rows L2
local macro_rules | `(tactic| walk_at "hp") => `(tactic| first
  | assumption | exact upd_same | (refine look_new ?_ ?_ <;> walk_at "hp") | ((refine' look_mut (v := ?lv) ?lq ?lp ?ld); (case lq => walk_at "hp"); (case lp => walk_at "hp"); (case ld => (intro z; cases z))))
local macro_rules | `(tactic| walk_at "rd") => `(tactic| (first
  | (with_reducible first
  | refine r_seq ?_ | refine r_asg ?_ | refine r_gname ?_ | refine r_ret ?_ | refine r_retN ?_ | refine r_next ?_ | refine r_drop ?_ | refine r_if ?_
  | refine r_c ?_ | refine r_op ?_ | refine r_test ?_ | refine r_tb ?_ | refine r_bl ?_ | refine r_and ?_ | refine r_or ?_ | refine r_not ?_
  | refine r_andV ?_ | refine r_orV ?_ | refine r_notV ?_ | refine r_ifE ?_ | refine r_nil ?_ | refine r_cons ?_ | refine r_tup ?_ | refine r_lst ?_ | refine r_cb ?_ | refine r_call ?_ | refine r_sub ?_
  | refine r_addI ?_ | refine r_I0 ?_ | refine r_eqI ?_ | refine r_neI ?_ | refine r_eqS ?_ | refine r_neS ?_ | refine r_inS ?_ | refine r_inS2 ?_ | refine r_notInS2 ?_ | refine r_isNA ?_ | refine r_m1 ?_ | refine r_isstr ?_ | refine r_lc ?_ | refine r_notNA ?_ | refine r_kt ?_ | refine r_chain ?_ | refine r_gcons ?_ | refine r_gnil ?_ | refine r_fld ?_ | refine r_sfld ?_ | refine r_meth ?_ | refine r_sl ?_ | refine r_part ?_ | refine r_nopart ?_ | refine r_int ?_ | refine r_star ?_ | refine r_delL ?_ | refine r_par ?_ | refine r_parAt ?_ | refine r_par3 ?_ | refine r_parAt3 ?_ | refine r_fldaug ?_ | refine r_brk ?_ | refine r_for ?_ | refine r_ienT ?_ | refine r_make ?_ | refine r_bm ?_ | refine r_bm0 ?_ | refine iteT ?_ | refine iteF ?_)
  | ((with_reducible refine' r_var ?he ?_); (case he => rfl))
  | (with_reducible first | refine r_abs ?_ | refine r_max ?_ | refine r_min ?_)
  | ((with_reducible refine' r_lenSq ?hs ?_); (case hs => first | exact .inl (by assumption) | exact .inr (by assumption) | exact .inl (SqL.of (by walk_at "hp")) | exact .inr (SqT.of (by walk_at "hp"))))
  | ((with_reducible refine' r_mulR ?hc ?_); (case hc => decide))
  | ((with_reducible refine' r_mulL ?hc ?_); (case hc => decide))
  | ((with_reducible refine' r_mod ?hc ?_); (case hc => first | decide | assumption | omega))
  | ((with_reducible refine' r_div ?hc ?_); (case hc => first | decide | assumption | (constructor <;> first | assumption | omega)))
  | ((with_reducible refine' r_pow ?hc ?_); (case hc => first | decide | (refine ⟨by decide, by decide, by omega⟩)))
  | ((with_reducible refine' r_ixL2 ?hs ?he ?_); (case hs => exact SqL.of (by walk_at "hp")); (case he => first | rfl | exact atI0 | exact atI1 | exact atI2 | exact atI3))
  | ((with_reducible refine' r_ixT2 ?hs ?he ?_); (case hs => first | assumption | exact SqT.of (by walk_at "hp")); (case he => first | rfl | exact atI0 | exact atI1 | exact atI2 | exact atI3))
  | ((with_reducible refine' r_setL2 ?hs ?he ?_); (case hs => walk_at "hp"); (case he => rfl))
  | ((with_reducible refine' r_gtup ?hs ?he ?_); (case hs => first | assumption | exact SqT.of (by walk_at "hp")); (case he => rfl))
  | ((with_reducible refine' r_fldAt ?hs ?hc ?hn ?hl ?_); (case hs => walk_at "hp"); (case hc => walk_at "cl"); (case hn => walk_at "cl"); (case hl => rfl))
  | ((with_reducible refine' r_sfldAt ?hs ?hc ?hn ?hl ?_); (case hs => walk_at "hp"); (case hc => walk_at "cl"); (case hn => walk_at "cl"); (case hl => exact Nat.le_of_ble_eq_true rfl))
  | ((with_reducible refine' r_aug ?he ?_); (case he => rfl))
  | ((with_reducible refine' r_starAt ?hs ?_); (case hs => first | exact .inl (by assumption) | exact .inr (by assumption) | exact .inl (SqT.of (by walk_at "hp")) | exact .inr (SqL.of (by walk_at "hp"))))
  | ((with_reducible refine' r_fldaugAt ?hs ?hc ?hn ?hl ?_); (case hs => walk_at "hp"); (case hc => walk_at "cl"); (case hn => walk_at "cl"); (case hl => rfl))
  | ((with_reducible refine' r_methAt ?hs ?hl ?_); (case hs => walk_at "hp"); (case hl => rfl))
  | ((with_reducible refine' r_tyL ?hs ?_); (case hs => first | assumption | exact SqL.of (by walk_at "hp")))
  | ((with_reducible refine' r_ifT ?h ?_); (case h => rfl))
  | ((with_reducible refine' r_ifF ?h ?_); (case h => rfl))
  | ((with_reducible first | refine' r_isiInt ?hd ?_ | refine' r_isiBool ?hd ?_ | refine' r_isiStr ?hd ?_ | refine' r_isiTup ?hd ?_ | refine' r_isiLst ?hd ?_); (case hd => assumption))
  ))

local macro_rules | `(tactic| walk_at "cl") => `(tactic| assumption)
/-! ### the law's bag in calls -/
def BagAt (H : Hp) (a : Addr) : Prop := ∃ g s c, BagOk g s c ∧ H a = some (.lst (BagL g s c))
theorem BagAt.chg {ps : List Addr} {H H' : Hp} {a : Addr} (h : BagAt H a) (c : Chg ps H H') (n : a ∉ ps) : BagAt H' a :=
  let ⟨g, s, i, b, e⟩ := h
  ⟨g, s, i, b, c.atN e n⟩
theorem BagAt.same {H H' : Hp} {a : Addr} (h : BagAt H a) (s : Same H H') : BagAt H' a := h.chg (Chg.of_same (ps := []) s) (by simp)
theorem BagAt.ne {H : Hp} {a p : Addr} (h : BagAt H a) (n : H p = none) : a ≠ p :=
  let ⟨_, _, _, _, e⟩ := h
  ne_of_none e n
theorem take_of {H : Hp} {a : Addr} {Q : VK} {E : XK} {m : Nat} (hb : BagAt H a) (hm : 0 < m) (h2 : m < 2 ^ 300) (k : ∀ (d : Nat) H', d < m → Chg [a] H H' → BagAt H' a → Q (.int d) H') : spTake [.ref a, .int m] H Q E := by
  obtain ⟨g, s, c, B, ha⟩ := hb
  refine ⟨a, m, g, s, c, rfl, by omega, by rw [Int.natAbs_natCast]; exact h2, B, ha, fun d g' s' c' h0 hd B' => ?_⟩
  obtain ⟨n, rfl⟩ : ∃ n : Nat, d = n := ⟨d.toNat, by omega⟩
  exact k n _ (by omega) (Chg.upd ha (by simp)) ⟨g', s', c', B', upd_same⟩
theorem bag_of {K : PySem.W.Frag} {H : Hp} {a : Addr} {Q : VK} {E : XK} {i : Nat} {ns : List Int} (hi : i < 1000) (hS : SqL K H a (ns.map V.int)) (k : ∀ p H', H p = none → Same H H' → BagAt H' p → Q (.ref p) H') : spBag K [.ref a, .int i] H Q E :=
  ⟨a, i, ns, rfl, hi, hS, fun p g s c hp B => k p _ hp (Same.new hp) ⟨g, s, c, B, upd_same⟩⟩
theorem abcd_at {d : Nat} (h : d < 4) : ∃ c, c ∈ lts ∧ atI (("abcd" : Str).cps.toList) (d : Int) = some c := by
  have e : ("abcd" : Str).cps.toList = lts := abcd_tl
  rw [e]
  match d, h with
  | 0, _ => exact ⟨97, by decide, rfl⟩
  | 1, _ => exact ⟨98, by decide, rfl⟩
  | 2, _ => exact ⟨99, by decide, rfl⟩
  | 3, _ => exact ⟨100, by decide, rfl⟩
def spLText : Sp := fun vs H Q _ => ∃ a, ∃ m : Nat, vs = [.ref a, .int m] ∧ BagAt H a ∧ m ≤ 1000 ∧ ∀ H' z, Chg [a] H H' → BagAt H' a → z.length ≤ m → (∀ c ∈ z, c ∈ lts) → Q (.str (mkS z)) H'
section
variable {P : Program} {w : World} {K : PySem.W.Frag} {mg : Str → Option Value} {base : Heap}
theorem ok_law_text (T : Txt w K mg) : Prom P w K mg base CX0 2 (a__law_text K) p__law_text [] spLText := by
  obtain ⟨fd, F⟩ := T.d__law_text
  have sc := sc__law_text
  have G__law_take := ok_take (P := P) (base := base) T
  refine prom0 F sc (bn__law_text F) (fun vs H Q E h => ?_) (fun cdv A outer s H vs Q E hr h => ?_)
  · obtain ⟨a, m, rfl, _⟩ := h
    rfl
  · obtain ⟨a, m, rfl, hb, hm, k⟩ := h
    refine ⟨_, (pss_one (ps_ret (eJoin (K := K) pe_str (pe_lc (own := [("_law_turn", 2)]) rfl sc.nd (pi_range1 rfl T.z_range (pa_cons (pe_callP G__law_take (hr.mono (by decide)) T.g__law_take pass0 (pa_cons (pv 0) (pa_cons (pe_op (oAdd (K := K)) (pv 1) pe_int) pa_nil))) pa_nil)) (blkOk_by (N := n__law_text) (sc := defScope s__law_text) (by decide +kernel)) (fun _ _ _ _ _ => (pg_name (i := 2) sc.nd rfl (by first | exact Or.inl rfl | exact Or.inr rfl))) (fun _ _ _ _ _ => pts_nil) (fun _ _ _ _ _ => (pe_ix (iIx (P := P) (w := w) (K := K) hr.units) pe_str (pe_callP G__law_take (hr.mono (by decide)) T.g__law_take pass0 (pa_cons (pv 0) (pa_cons pe_int pa_nil))) (fun _ _ => rfl))))))), ?_⟩
    repeat walk_at "rd"
    refine ⟨_, rfl, ?_⟩
    repeat walk_at "rd"
    refine take_of (m := m + 1) hb (by omega) (Nat.lt_of_le_of_lt (by omega : m + 1 ≤ 1001) (by decide +kernel)) fun d H1 hd c1 hb1 => ?_
    repeat walk_at "rd"
    refine ⟨_, rfl, by omega, by omega, fun D hD => ?_⟩
    have hda := hb1.ne hD
    refine lc_range (fun i H' => Chg [a] H1 H' ∧ BagAt H' a ∧ ∃ l : List Nat, H' D = some (.lst (l.map cv)) ∧ l.length = i ∧ ∀ c ∈ l, c ∈ lts)
      ⟨Chg.new hD, hb1.chg (Chg.new (ps := []) hD) (by simp), [], upd_same, rfl, fun c h => (by cases h)⟩ (fun i H2 hi p => ?_) (fun H2 p => ?_)
    · obtain ⟨c2, hb2, l, hl, hll, hlt⟩ := p
      refine ⟨rfl, ?_⟩
      unfold tYes
      simp only [↓reduceIte]
      repeat walk_at "rd"
      refine take_of (m := 4) hb2 (by omega) (by decide +kernel) fun e H3 he c3 hb3 => ?_
      obtain ⟨c, hc, hat⟩ := abcd_at he
      refine r_ixS2 (by decide +kernel) hat ?_
      have hl3 := c3.atN hl (fun z => hda (List.mem_singleton.mp z).symm)
      refine ⟨_, hl3, ?_, Chg.mut (c2.trans c3) hD, ?_, l ++ [c], ?_, by rw [List.length_append, List.length_singleton, hll], fun x hx => ?_⟩
      · rw [List.length_map, hll, show sizeLine = 16777216 from by decide]
        rw [Int.toNat_natCast] at hi
        omega
      · exact hb3.chg (Chg.upd (ps := [D]) hl3 (by simp)) (fun z => hda (List.mem_singleton.mp z))
      · rw [upd_same, List.map_append]
        rfl
      · rcases List.mem_append.mp hx with z | z
        · exact hlt x z
        · rw [List.mem_singleton] at z; rw [z]; exact hc
    · obtain ⟨c2, hb2, l, hl, hll, hlt⟩ := p
      rw [Int.toNat_natCast] at hll
      refine r_joinS (SqL.of hl) (by omega) ?_
      exact k _ l (c1.trans c2) hb2 (by omega) hlt
end
end OB

namespace OB
open PySem PySem.Spec PyProof.Rows L2
/-! ### displays of written data: what an expression reads as, the heap growing only -/
section
variable {P : Program} {w : World} {K : PySem.W.Frag} {σ : L2.St} {H : Hp}
def EvD (K : PySem.W.Frag) (te : TE) (σ : L2.St) (H : Hp) (d : PyData) : Prop := ∀ H1, Same H H1 → ∀ Q : VK, (∀ H2 v, Same H1 H2 → Dp K H2 v d → Q v H2) → te σ H1 Q
def EvDs (K : PySem.W.Frag) (t : TA) (σ : L2.St) (H : Hp) (ds : List PyData) : Prop := ∀ H1, Same H H1 → ∀ Q : List V → Hp → Prop, (∀ H2 vs, Same H1 H2 → DpAll K H2 vs ds → Q vs H2) → t σ H1 Q
theorem EvD.use {te : TE} {d : PyData} {Q : VK} (h : EvD K te σ H d) (k : ∀ H2 v, Same H H2 → Dp K H2 v d → Q v H2) : te σ H Q := h H (Same.refl H) Q k
theorem EvD.later {te : TE} {d : PyData} {H' : Hp} (h : EvD K te σ H d) (s : Same H H') : EvD K te σ H' d := fun H1 s1 Q k => h H1 (s.trans s1) Q k
theorem EvD.cast {te : TE} {d d' : PyData} (h : EvD K te σ H d) (e : d = d') : EvD K te σ H d' := e ▸ h
theorem evd_non : EvD K (tC .non) σ H .none := fun H1 _ Q k => k H1 _ (Same.refl H1) .non
theorem evd_bl {b : Bool} : EvD K (tC (.bl b)) σ H (.bool b) := fun H1 _ Q k => k H1 _ (Same.refl H1) (.bl b)
theorem evd_int {i : Int} : EvD K (tC (.int i)) σ H (.int i) := fun H1 _ Q k => k H1 _ (Same.refl H1) (.int i)
theorem evd_str {z : Str} : EvD K (tC (.str z)) σ H (.str z) := fun H1 _ Q k => k H1 _ (Same.refl H1) (.str z)
theorem evd_var {i : Nat} {v : V} {d : PyData} (e : σ[i]? = some (some v)) (h : Dp K H v d) : EvD K (tVar i) σ H d := fun H1 s Q k => ⟨v, e, k H1 _ (Same.refl H1) (dp_same s h)⟩
theorem evds_nil : EvDs K tNil σ H [] := fun H1 _ Q k => k H1 _ (Same.refl H1) .nil
theorem evds_cons {te : TE} {t : TA} {d : PyData} {ds : List PyData} (h : EvD K te σ H d) (hs : EvDs K t σ H ds) : EvDs K (tCons te t) σ H (d :: ds) := fun H1 s1 Q k =>
  h H1 s1 _ fun H2 v s2 hv => hs H2 (s1.trans s2) _ fun H3 vs s3 hvs => k H3 (v :: vs) (s2.trans s3) (.cons (dp_same s3 hv) hvs)
theorem evd_tup {t : TA} {ds : List PyData} (h : EvDs K t σ H ds) (hl : Nat.ble ds.length 100000 = true) : EvD K (tTup t) σ H (.tuple ds) := fun H1 s1 Q k =>
  h H1 s1 _ fun H2 vs s2 hvs => ⟨by rw [DpAll.length hvs]; exact Nat.le_trans (Nat.le_of_ble_eq_true hl) (by decide), fun p hp => k _ _ (s2.trans (Same.new hp)) (.tup (SqT.of upd_same) (dpAll_same (Same.new hp) hvs))⟩
theorem evd_lst {t : TA} {ds : List PyData} (h : EvDs K t σ H ds) (hl : Nat.ble ds.length 100000 = true) : EvD K (tLst t) σ H (.list ds) := fun H1 s1 Q k =>
  h H1 s1 _ fun H2 vs s2 hvs => ⟨by rw [DpAll.length hvs]; exact Nat.le_trans (Nat.le_of_ble_eq_true hl) (by decide), fun p hp => k _ _ (s2.trans (Same.new hp)) (.lst (SqL.of upd_same) (dpAll_same (Same.new hp) hvs))⟩
theorem dpall_nil {vs : List V} : DpAll K H vs [] → vs = [] := fun h => by cases h; rfl
theorem dpall_ne {vs : List V} {ds : List PyData} (h : DpAll K H vs ds) (hd : ds ≠ []) : vs ≠ [] := fun e => by rw [e] at h; cases h; exact hd rfl
theorem dpall_app {vs ws : List V} {ds es : List PyData} : DpAll K H vs ds → DpAll K H ws es → DpAll K H (vs ++ ws) (ds ++ es)
  | .nil, b => b
  | .cons h t, b => .cons h (dpall_app t b)
theorem evd_cat {ta tb : TE} {ds es : List PyData} (ha : EvD K ta σ H (.tuple ds)) (hb : EvD K tb σ H (.tuple es)) (hl : Nat.ble (ds.length + es.length) 100000 = true) : EvD K (tOp (rAddA K) ta tb) σ H (.tuple (ds ++ es)) := fun H1 s1 Q k =>
  ha H1 s1 _ fun H2 v s2 hv => hb H2 (s1.trans s2) _ fun H3 u s3 hu => by
    have hv := dp_same s3 hv
    cases hv with
    | tup hS hA =>
      cases hu with
      | tup hT hB =>
        rename_i xs b ys
        refine r_addT hS hT (by rw [DpAll.length hA, DpAll.length hB]; exact Nat.le_trans (Nat.le_of_ble_eq_true hl) (by decide)) (fun e => ?_) (fun _ e => ?_) (fun e1 e2 p hp => ?_)
        · subst e
          cases hA
          exact k _ _ (s2.trans s3) (.tup hT hB)
        · subst e
          cases hB
          rw [List.append_nil] at *
          exact k _ _ (s2.trans s3) (.tup hS hA)
        · exact k _ _ ((s2.trans s3).trans (Same.new hp)) (.tup (SqT.of upd_same) (dpAll_same (Same.new hp) (dpall_app hA hB)))
theorem dpall_get {vs : List V} {ds : List PyData} : DpAll K H vs ds → ∀ {i : Nat} {d : PyData}, ds[i]? = some d → ∃ v, vs[i]? = some v ∧ Dp K H v d
  | .nil, i, d, h => by cases h
  | .cons h t, 0, d, e => by cases e; exact ⟨_, rfl, h⟩
  | .cons h t, i + 1, d, e => dpall_get t e
theorem evd_ixL {ta tb : TE} {ds : List PyData} {d : PyData} {i : Nat} (ha : EvD K ta σ H (.list ds)) (hb : EvD K tb σ H (.int i)) (hi : ds[i]? = some d) : EvD K (tOp (rIxB P w K) ta tb) σ H d := fun H1 s1 Q k =>
  ha H1 s1 _ fun H2 v s2 hv => hb H2 (s1.trans s2) _ fun H3 u s3 hu => by
    have hv := dp_same s3 hv
    cases hu
    cases hv with
    | lst hS hA =>
      obtain ⟨x, hx, hd⟩ := dpall_get hA hi
      exact r_ixL2 hS (atI_nat hx) (k _ _ (s2.trans s3) hd)
theorem evd_ixT {ta tb : TE} {ds : List PyData} {d : PyData} {i : Nat} (ha : EvD K ta σ H (.tuple ds)) (hb : EvD K tb σ H (.int i)) (hi : ds[i]? = some d) : EvD K (tOp (rIxB P w K) ta tb) σ H d := fun H1 s1 Q k =>
  ha H1 s1 _ fun H2 v s2 hv => hb H2 (s1.trans s2) _ fun H3 u s3 hu => by
    have hv := dp_same s3 hv
    cases hu
    cases hv with
    | tup hS hA =>
      obtain ⟨x, hx, hd⟩ := dpall_get hA hi
      exact r_ixT2 hS (atI_nat hx) (k _ _ (s2.trans s3) hd)
end
end OB
namespace OB
open PySem PySem.Spec PyProof.Rows L2
/-! ### equal data, by the kernel -/
mutual
def eqD : PyData → PyData → Bool
  | .none, .none => true
  | .bool a, .bool b => a == b
  | .int a, .int b => decide (a = b)
  | .str a, .str b => decide (a = b)
  | .list a, .list b => eqDs a b
  | .tuple a, .tuple b => eqDs a b
  | _, _ => false
def eqDs : List PyData → List PyData → Bool
  | [], [] => true
  | a :: as, b :: bs => eqD a b && eqDs as bs
  | _, _ => false
end
mutual
theorem eqD_ok : ∀ {a b : PyData}, eqD a b = true → a = b
  | .none, b, h => by cases b <;> first | rfl | (simp [eqD] at h)
  | .bool a, b, h => by cases b <;> simp [eqD] at h; rw [h]
  | .int a, b, h => by cases b <;> simp [eqD] at h; rw [h]
  | .str a, b, h => by cases b <;> simp [eqD] at h; rw [h]
  | .list a, b, h => by
    cases b <;> simp [eqD] at h
    rw [eqDs_ok h]
  | .tuple a, b, h => by
    cases b <;> simp [eqD] at h
    rw [eqDs_ok h]
  | .dict a, b, h => by cases b <;> simp [eqD] at h
theorem eqDs_ok : ∀ {a b : List PyData}, eqDs a b = true → a = b
  | [], [], _ => rfl
  | [], _ :: _, h => by simp [eqDs] at h
  | _ :: _, [], h => by simp [eqDs] at h
  | a :: as, b :: bs, h => by
    rw [eqDs, Bool.and_eq_true] at h
    rw [eqD_ok h.1, eqDs_ok h.2]
end
/-! ### the law's own def, of a known function -/
theorem fn0 {P : Program} {w : World} {K : PySem.W.Frag} {mg : Str → Option Value} {base : Heap} {k : Nat} {f : Addr} {ps N : List Str} {sp : Sp} {x qual : Str} {params : Arguments} {body : List Stmt} {scope : Scope} {fd : FuncData} {dvs kws}
    (F : FunD K x qual params body scope dvs kws f fd) (S : FnScope N ps scope) (len : ∀ vs H Q E, sp vs H Q E → vs.length = ps.length)
    (hbody : ∀ (cdv : Value) (A : Around) (outer : List Env) (s : Shared) (H : Hp) (vs : List V) (Q : VK) (E : XK), Room k (A.deeper (envOfC qual scope s.heap.objs.size f cdv)) → sp vs H Q E →
      ∃ t, PSs (cxOf CX0 P w K mg base N qual scope f cdv A outer s H E).nox body t ∧ t { nx := fun _ H' => Q .non H', rt := Q } (start N vs) H) : FnOk P w K mg base CX0 (k + 1) f fd ps sp :=
  F.ok S len fun cdv A outer s H vs Q E hr h => let ⟨t, h1, h2⟩ := hbody cdv A outer s H vs Q E hr h; ⟨t, h1.nox, h2⟩
/-! ### ranges -/
section
variable {K : PySem.W.Frag} {σ : L2.St} {H : Hp} {D : Ends} {ta : TA} {g : TG} {tb : TS}
theorem r_irng1 {R : It → Hp → Prop} (h : ta σ H fun vs H1 => ∃ j : Int, vs = [.int j] ∧ -(2 ^ 62) ≤ j ∧ j < 2 ^ 62 ∧ R (Itr 0 j.toNat) H1) : iRng1 ta σ H R := h
theorem r_forR {i : Int} (n : Nat) (e : i = n) (hn : n < 1000000) (Pv : Nat → L2.St → Hp → Prop) (h0 : Pv 0 σ H)
    (hs : ∀ i σ H, i < n → Pv i σ H → g (.int (i : Nat)) σ H fun σ2 H2 => tb { D with nx := Pv (i + 1), ct := Pv (i + 1), bk := D.nx } σ2 H2) (hd : ∀ σ H, Pv n σ H → D.nx σ H) :
    ∃ j : Int, [V.int i] = [.int j] ∧ -(2 ^ 62) ≤ j ∧ j < 2 ^ 62 ∧ ForP (Itr 0 j.toNat) g tb D σ H := by
  subst e
  refine ⟨_, rfl, by omega, by omega, ?_⟩
  rw [Int.toNat_natCast]
  exact for_range Pv h0 (fun i σ H hi p => by rw [Int.zero_add]; exact hs i σ H hi p) hd
end
/-! ### new objects, one at a time -/
section
variable {K : PySem.W.Frag} {H : Hp} {Q : VK} {xs : List V}
theorem al_tup (hl : Nat.ble xs.length 1000 = true) (k : ∀ p H', Same H H' → H p = none → SqT K H' p xs → Q (.ref p) H') : xs.length ≤ sizeLine ∧ ∀ p, H p = none → Q (.ref p) (upd H p (.tup xs)) :=
  ⟨Nat.le_trans (Nat.le_of_ble_eq_true hl) (by decide), fun p hp => k p _ (Same.new hp) hp (SqT.of upd_same)⟩
theorem al_lst (hl : Nat.ble xs.length 1000 = true) (k : ∀ p H', Same H H' → H p = none → H' p = some (.lst xs) → Q (.ref p) H') : xs.length ≤ sizeLine ∧ ∀ p, H p = none → Q (.ref p) (upd H p (.lst xs)) :=
  ⟨Nat.le_trans (Nat.le_of_ble_eq_true hl) (by decide), fun p hp => k p _ (Same.new hp) hp upd_same⟩
def kTup (Q : VK) : List V → Hp → Prop := fun xs H1 => xs.length ≤ sizeLine ∧ ∀ p, H1 p = none → Q (.ref p) (upd H1 p (.tup xs))
def kLst (Q : VK) : List V → Hp → Prop := fun xs H1 => xs.length ≤ sizeLine ∧ ∀ p, H1 p = none → Q (.ref p) (upd H1 p (.lst xs))
theorem r_tupK {t : TA} {σ : L2.St} (h : t σ H (kTup Q)) : tTup t σ H Q := h
theorem r_lstK {t : TA} {σ : L2.St} (h : t σ H (kLst Q)) : tLst t σ H Q := h
theorem kTup_of (hl : Nat.ble xs.length 1000 = true) (k : ∀ p H', H p = none → Same H H' → H' p = some (.tup xs) → Q (.ref p) H') : kTup Q xs H :=
  ⟨Nat.le_trans (Nat.le_of_ble_eq_true hl) (by decide), fun p hp => k p _ hp (Same.new hp) upd_same⟩
theorem kLst_of (hl : Nat.ble xs.length 1000 = true) (k : ∀ p H', H p = none → Same H H' → H' p = some (.lst xs) → Q (.ref p) H') : kLst Q xs H :=
  ⟨Nat.le_trans (Nat.le_of_ble_eq_true hl) (by decide), fun p hp => k p _ hp (Same.new hp) upd_same⟩
theorem r_addLK {l b : Addr} {xs zs : List V} (h1 : H l = some (.lst xs)) (h2 : H b = some (.lst zs)) (z : Nat.ble (xs.length + zs.length) 1000 = true) (h : ∀ p H', H p = none → Same H H' → H' p = some (.lst (xs ++ zs)) → Q (.ref p) H') : rAddA K (.ref l) (.ref b) H Q :=
  r_addL h1 h2 (Nat.le_trans (Nat.le_of_ble_eq_true z) (by decide)) fun p hp => h p _ hp (Same.new hp) upd_same
theorem r_neSame {x y : V} {d : PyData} (hx : Dp K H x d) (hy : Dp K H y d) (hs : SeqAt.shaped d = true) (he : PyData.eqv d d = true) (q : Q (.bl false) H) : rNeA K x y H Q := .inr ⟨d, d, hx, hy, hs, hs, by rw [he]; exact q⟩
theorem eqv_int1 (n : Int) : PyData.eqv (.tuple [.int n]) (.tuple [.int n]) = true := by simp [PyData.eqv, PyData.eqvAll]
theorem eqv_str1 (z : Str) : PyData.eqv (.tuple [.str z]) (.tuple [.str z]) = true := by simp [PyData.eqv, PyData.eqvAll]
/-- a list display of written data, tracked -/
def EvL (K : PySem.W.Frag) (te : TE) (σ : L2.St) (H : Hp) (ds : List PyData) : Prop := ∀ Q : VK, (∀ H2 p xs, Same H H2 → H p = none → H2 p = some (.lst xs) → DpAll K H2 xs ds → Q (.ref p) H2) → te σ H Q
theorem evl_lst {t : TA} {σ : L2.St} {ds : List PyData} (h : EvDs K t σ H ds) (hl : Nat.ble ds.length 100000 = true) : EvL K (tLst t) σ H ds := fun Q k =>
  h H (Same.refl H) _ fun H2 vs s2 hvs => ⟨by rw [DpAll.length hvs]; exact Nat.le_trans (Nat.le_of_ble_eq_true hl) (by decide), fun p hp => k _ p vs (s2.trans (Same.new hp)) (none_of_same s2 hp) upd_same (dpAll_same (Same.new hp) hvs)⟩
end
end OB

namespace OB
open PySem
/-! ### law k66, plain -/
def edsK (e : Nat) : List Edit := ([[], [.put 99], [.after 98], [.drop]].getD e []) ++ [.brk]
def rulesK (db : Bool) (e : Nat) : List Rule := if db then [⟨some 0, [97], ltsE, [.after 99, .mark 1]⟩, ⟨some 1, [99], ltsE, [.mark 0]⟩, ⟨none, [100], ltsE, edsK e⟩] else [⟨none, [97], ltsE, [.put 98]⟩, ⟨none, [100], ltsE, edsK e⟩]
def loopK (db : Bool) (e : Nat) : Loop := ⟨rulesK db e, [[99, 99], [97, 98], [], []]⟩
def madeK (db : Bool) : List Nat := if db then [97, 99] else [98]
def shutK (e : Nat) : List Nat := [[100], [99], [100, 98], []].getD e []
theorem wfK (db : Bool) {e : Nat} (he : e < 4) : WF (loopK db e) := by
  refine WF.of ?_
  match db, e, he with
  | true, 0, _ => decide
  | true, 1, _ => decide
  | true, 2, _ => decide
  | true, 3, _ => decide
  | false, 0, _ => decide
  | false, 1, _ => decide
  | false, 2, _ => decide
  | false, 3, _ => decide
theorem lts4 {c : Nat} (h : c ∈ lts) : c = 97 ∨ c = 98 ∨ c = 99 ∨ c = 100 := by
  simpa [lts] using h
theorem stepA {e : Nat} (he : e < 4) {more : List Nat} (hm : ∀ c ∈ more, c ∈ lts) : onePass (loopK false e) ⟨0, 97 :: more, false⟩ = ([98], ⟨0, more, false⟩) := by
  match more with
  | [] => rfl
  | c :: r =>
    rcases lts4 (hm c List.mem_cons_self) with rfl | rfl | rfl | rfl <;> simp [onePass, passAt, ruleAt, fit, fitsR, loopK, rulesK, edsOf, carry, applyE, partOf, stayOf, ltsE, List.findIdx?_cons]
theorem stepB {db : Bool} {e : Nat} (he : e < 4) {more : List Nat} (hm : ∀ c ∈ more, c ∈ lts) : onePass (loopK db e) ⟨0, 98 :: more, false⟩ = ([98], ⟨0, more, false⟩) := by
  match more, db with
  | [], true => rfl
  | [], false => rfl
  | c :: r, true =>
    simp [onePass, passAt, ruleAt, fit, fitsR, loopK, rulesK, edsOf, carry, applyE, partOf, stayOf, ltsE, List.findIdx?_cons]
  | c :: r, false =>
    simp [onePass, passAt, ruleAt, fit, fitsR, loopK, rulesK, edsOf, carry, applyE, partOf, stayOf, ltsE, List.findIdx?_cons]
theorem stepA1 {e : Nat} (he : e < 4) {more : List Nat} (hm : ∀ c ∈ more, c ∈ lts) : onePass (loopK true e) ⟨0, 97 :: more, false⟩ = ([97], ⟨1, 99 :: more, false⟩) := by
  match more with
  | [] => rfl
  | c :: r =>
    rcases lts4 (hm c List.mem_cons_self) with rfl | rfl | rfl | rfl <;> simp [onePass, passAt, ruleAt, fit, fitsR, loopK, rulesK, edsOf, carry, applyE, partOf, stayOf, ltsE, List.findIdx?_cons]
theorem stepA2 {e : Nat} (he : e < 4) {more : List Nat} (hm : ∀ c ∈ more, c ∈ lts) : onePass (loopK true e) ⟨1, 99 :: more, false⟩ = ([99], ⟨0, more, false⟩) := by
  match more with
  | [] => rfl
  | c :: r =>
    rcases lts4 (hm c List.mem_cons_self) with rfl | rfl | rfl | rfl <;> simp [onePass, passAt, ruleAt, fit, fitsR, loopK, rulesK, edsOf, carry, applyE, partOf, stayOf, ltsE, List.findIdx?_cons]
theorem stepD {db : Bool} {e : Nat} (he : e < 4) {more : List Nat} (hm : ∀ c ∈ more, c ∈ lts) : onePass (loopK db e) ⟨0, 100 :: more, false⟩ = (shutK e ++ more, ⟨0, [], true⟩) := by
  match more with
  | [] =>
    match db, e, he with
    | true, 0, _ => rfl
    | true, 1, _ => rfl
    | true, 2, _ => rfl
    | true, 3, _ => rfl
    | false, 0, _ => rfl
    | false, 1, _ => rfl
    | false, 2, _ => rfl
    | false, 3, _ => rfl
  | c :: r =>
    have h := lts4 (hm c List.mem_cons_self)
    match db, e, he with
    | true, 0, _ => rcases h with rfl | rfl | rfl | rfl <;> simp [onePass, passAt, ruleAt, fit, fitsR, loopK, rulesK, edsK, edsOf, carry, applyE, partOf, stayOf, ltsE, shutK, List.findIdx?_cons]
    | true, 1, _ => rcases h with rfl | rfl | rfl | rfl <;> simp [onePass, passAt, ruleAt, fit, fitsR, loopK, rulesK, edsK, edsOf, carry, applyE, partOf, stayOf, ltsE, shutK, List.findIdx?_cons]
    | true, 2, _ => rcases h with rfl | rfl | rfl | rfl <;> simp [onePass, passAt, ruleAt, fit, fitsR, loopK, rulesK, edsK, edsOf, carry, applyE, partOf, stayOf, ltsE, shutK, List.findIdx?_cons]
    | true, 3, _ => rcases h with rfl | rfl | rfl | rfl <;> simp [onePass, passAt, ruleAt, fit, fitsR, loopK, rulesK, edsK, edsOf, carry, applyE, partOf, stayOf, ltsE, shutK, List.findIdx?_cons]
    | false, 0, _ => rcases h with rfl | rfl | rfl | rfl <;> simp [onePass, passAt, ruleAt, fit, fitsR, loopK, rulesK, edsK, edsOf, carry, applyE, partOf, stayOf, ltsE, shutK, List.findIdx?_cons]
    | false, 1, _ => rcases h with rfl | rfl | rfl | rfl <;> simp [onePass, passAt, ruleAt, fit, fitsR, loopK, rulesK, edsK, edsOf, carry, applyE, partOf, stayOf, ltsE, shutK, List.findIdx?_cons]
    | false, 2, _ => rcases h with rfl | rfl | rfl | rfl <;> simp [onePass, passAt, ruleAt, fit, fitsR, loopK, rulesK, edsK, edsOf, carry, applyE, partOf, stayOf, ltsE, shutK, List.findIdx?_cons]
    | false, 3, _ => rcases h with rfl | rfl | rfl | rfl <;> simp [onePass, passAt, ruleAt, fit, fitsR, loopK, rulesK, edsK, edsOf, carry, applyE, partOf, stayOf, ltsE, shutK, List.findIdx?_cons]
theorem live_cons (m c : Nat) (l : List Nat) : live 1 ⟨m, c :: l, false⟩ = true := by
  unfold live
  simp
theorem walkA {db : Bool} {e : Nat} (he : e < 4) (more : List Nat) (hm : ∀ c ∈ more, c ∈ lts) : Walk (loopK db e) ⟨0, [97] ++ more, false⟩ (madeK db) (madeK db).length ⟨0, more, false⟩ := by
  cases db with
  | false => exact Walk.one (live_cons ..) (stepA he hm)
  | true => exact (Walk.one (live_cons ..) (stepA1 he hm)).trans (Walk.one (live_cons ..) (stepA2 he hm))
theorem walkBB {db : Bool} {e : Nat} (he : e < 4) (more : List Nat) (hm : ∀ c ∈ more, c ∈ lts) : Walk (loopK db e) ⟨0, [98, 98] ++ more, false⟩ [98, 98] 2 ⟨0, more, false⟩ :=
  (Walk.one (live_cons ..) (stepB (more := 98 :: more) he fun c hc => by
    rcases List.mem_cons.mp hc with z | z
    · rw [z]; decide
    · exact hm c z)).trans (Walk.one (live_cons ..) (stepB he hm))
theorem runK {db : Bool} {e : Nat} (he : e < 4) (k : Nat) (more : List Nat) (hm : ∀ c ∈ more, c ∈ lts) :
    Runs (loopK db e) 1 ⟨0, rep k [97] ++ ([98, 98] ++ (100 :: more)), false⟩ (rep k (madeK db) ++ ([98, 98] ++ (shutK e ++ more))) ((madeK db).length * k + (2 + 1)) ⟨0, [], true⟩ := by
  have h1 : ∀ c ∈ 100 :: more, c ∈ lts := fun c hc => by
    rcases List.mem_cons.mp hc with z | z
    · rw [z]; decide
    · exact hm c z
  have h2 : ∀ c ∈ [98, 98] ++ (100 :: more), c ∈ lts := fun c hc => by
    rcases List.mem_append.mp hc with z | z
    · exact (show ∀ c ∈ [98, 98], c ∈ lts by decide) c z
    · exact h1 c z
  exact ((Walk.reps (fun more hm => walkA he more hm) (by decide) k _ h2).trans ((walkBB he _ h1).trans (Walk.one (live_cons ..) (stepD he hm)))).runs rfl
theorem runK2 {db : Bool} {e : Nat} (he : e < 4) (k : Nat) :
    Runs (loopK db e) 1 ⟨0, rep k [97] ++ [98, 98], false⟩ (rep k (madeK db) ++ [98, 98]) ((madeK db).length * k + 2) ⟨0, [], false⟩ :=
  ((Walk.reps (fun more hm => walkA he more hm) (by decide) k _ (by decide)).trans (walkBB he [] (fun c hc => by cases hc))).runs rfl
end OB

namespace OB
open PySem PySem.Spec PyProof.Rows L2
local macro_rules | `(tactic| walk_at "hp") => `(tactic| first
  | assumption | exact upd_same | (refine look_new ?_ ?_ <;> walk_at "hp") | ((refine' look_mut (v := ?lv) ?lq ?lp ?ld); (case lq => walk_at "hp"); (case lp => walk_at "hp"); (case ld => (intro z; cases z))))
local macro_rules | `(tactic| walk_at "rd") => `(tactic| (first
  | (with_reducible first
  | refine r_seq ?_ | refine r_asg ?_ | refine r_gname ?_ | refine r_ret ?_ | refine r_retN ?_ | refine r_next ?_ | refine r_drop ?_ | refine r_if ?_
  | refine r_c ?_ | refine r_op ?_ | refine r_test ?_ | refine r_tb ?_ | refine r_bl ?_ | refine r_and ?_ | refine r_or ?_ | refine r_not ?_
  | refine r_andV ?_ | refine r_orV ?_ | refine r_notV ?_ | refine r_ifE ?_ | refine r_nil ?_ | refine r_cons ?_ | refine r_tup ?_ | refine r_lst ?_ | refine r_cb ?_ | refine r_call ?_ | refine r_sub ?_
  | refine r_addI ?_ | refine r_I0 ?_ | refine r_eqI ?_ | refine r_neI ?_ | refine r_eqS ?_ | refine r_neS ?_ | refine r_inS ?_ | refine r_inS2 ?_ | refine r_notInS2 ?_ | refine r_isNA ?_ | refine r_m1 ?_ | refine r_isstr ?_ | refine r_lc ?_ | refine r_notNA ?_ | refine r_kt ?_ | refine r_chain ?_ | refine r_gcons ?_ | refine r_gnil ?_ | refine r_fld ?_ | refine r_sfld ?_ | refine r_meth ?_ | refine r_sl ?_ | refine r_part ?_ | refine r_nopart ?_ | refine r_int ?_ | refine r_star ?_ | refine r_delL ?_ | refine r_par ?_ | refine r_parAt ?_ | refine r_par3 ?_ | refine r_parAt3 ?_ | refine r_fldaug ?_ | refine r_brk ?_ | refine r_for ?_ | refine r_ienT ?_ | refine r_make ?_ | refine r_bm ?_ | refine r_bm0 ?_ | refine iteT ?_ | refine iteF ?_)
  | ((with_reducible refine' r_var ?he ?_); (case he => rfl))
  | (with_reducible first | refine r_abs ?_ | refine r_max ?_ | refine r_min ?_)
  | ((with_reducible refine' r_lenSq ?hs ?_); (case hs => first | exact .inl (by assumption) | exact .inr (by assumption) | exact .inl (SqL.of (by walk_at "hp")) | exact .inr (SqT.of (by walk_at "hp"))))
  | ((with_reducible refine' r_mulR ?hc ?_); (case hc => decide))
  | ((with_reducible refine' r_mulL ?hc ?_); (case hc => decide))
  | ((with_reducible refine' r_mod ?hc ?_); (case hc => first | decide | assumption | omega))
  | ((with_reducible refine' r_div ?hc ?_); (case hc => first | decide | assumption | (constructor <;> first | assumption | omega)))
  | ((with_reducible refine' r_pow ?hc ?_); (case hc => first | decide | (refine ⟨by decide, by decide, by omega⟩)))
  | ((with_reducible refine' r_ixL2 ?hs ?he ?_); (case hs => exact SqL.of (by walk_at "hp")); (case he => first | rfl | exact atI0 | exact atI1 | exact atI2 | exact atI3))
  | ((with_reducible refine' r_ixT2 ?hs ?he ?_); (case hs => first | assumption | exact SqT.of (by walk_at "hp")); (case he => first | rfl | exact atI0 | exact atI1 | exact atI2 | exact atI3))
  | ((with_reducible refine' r_setL2 ?hs ?he ?_); (case hs => walk_at "hp"); (case he => rfl))
  | ((with_reducible refine' r_gtup ?hs ?he ?_); (case hs => first | assumption | exact SqT.of (by walk_at "hp")); (case he => rfl))
  | ((with_reducible refine' r_fldAt ?hs ?hc ?hn ?hl ?_); (case hs => walk_at "hp"); (case hc => walk_at "cl"); (case hn => walk_at "cl"); (case hl => rfl))
  | ((with_reducible refine' r_sfldAt ?hs ?hc ?hn ?hl ?_); (case hs => walk_at "hp"); (case hc => walk_at "cl"); (case hn => walk_at "cl"); (case hl => exact Nat.le_of_ble_eq_true rfl))
  | ((with_reducible refine' r_aug ?he ?_); (case he => rfl))
  | ((with_reducible refine' r_starAt ?hs ?_); (case hs => first | exact .inl (by assumption) | exact .inr (by assumption) | exact .inl (SqT.of (by walk_at "hp")) | exact .inr (SqL.of (by walk_at "hp"))))
  | ((with_reducible refine' r_fldaugAt ?hs ?hc ?hn ?hl ?_); (case hs => walk_at "hp"); (case hc => walk_at "cl"); (case hn => walk_at "cl"); (case hl => rfl))
  | ((with_reducible refine' r_methAt ?hs ?hl ?_); (case hs => walk_at "hp"); (case hl => rfl))
  | ((with_reducible refine' r_tyL ?hs ?_); (case hs => first | assumption | exact SqL.of (by walk_at "hp")))
  | ((with_reducible refine' r_ifT ?h ?_); (case h => rfl))
  | ((with_reducible refine' r_ifF ?h ?_); (case h => rfl))
  | ((with_reducible first | refine' r_isiInt ?hd ?_ | refine' r_isiBool ?hd ?_ | refine' r_isiStr ?hd ?_ | refine' r_isiTup ?hd ?_ | refine' r_isiLst ?hd ?_); (case hd => assumption))
  ))

local macro_rules | `(tactic| walk_at "rd") => `(tactic| (first
  | (with_reducible first | refine r_prop ?_ | refine r_cmeth ?_ | refine r_makeV ?_ | refine r_repRuns ?_ | refine r_repL ?_ | refine r_irng1 ?_)
  | ((with_reducible refine' r_propAt ?hs ?_); (case hs => walk_at "hp"))
  ))

local macro_rules | `(tactic| walk_at "dat") => `(tactic| (first
  | exact evd_non | exact evd_bl | exact evd_int | exact evd_str | exact evds_nil
  | apply evds_cons | apply evd_tup | apply evd_lst | apply evd_cat | apply evd_ixL | exact evd_var (by rfl) (by assumption) | exact rfl))
local macro_rules | `(tactic| walk_at "as") => `(tactic| (repeat (with_reducible first | refine r_seq ?_ | refine r_asg ?_ | refine r_if ?_ | refine r_ret ?_ | refine r_next ?_)))
local macro_rules | `(tactic| walk_at "ev") => `(tactic| (apply EvD.cast; (focus (repeat walk_at "dat")); exact eqD_ok (by decide +kernel)))

local macro_rules | `(tactic| walk_at "cl") => `(tactic| assumption)
def resK (db : Bool) (e : Nat) : PyData := .tuple [loopD (loopK db e), .str (mkS (madeK db)), .str (mkS (shutK e))]
def spLLoopK (K : PySem.W.Frag) : Sp := fun vs H Q _ => ∃ a, vs = [.ref a] ∧ BagAt H a ∧ ∀ H' v db e, e < 4 → Chg [a] H H' → BagAt H' a → Dp K H' v (resK db e) → Q v H'
section
variable {P : Program} {w : World} {K : PySem.W.Frag} {mg : Str → Option Value} {base : Heap}
theorem ok_law_loopK (T : Txt w K mg) : Prom P w K mg base CX0 2 (a__law_loop K) p__law_loop [] (spLLoopK K) := by
  obtain ⟨fd, F⟩ := T.d__law_loop
  have sc := sc__law_loop
  have G__law_take := ok_take (P := P) (base := base) T
  refine prom0 F sc (bn__law_loop F) (fun vs H Q E h => ?_) (fun cdv A outer s H vs Q E hr h => ?_)
  · obtain ⟨a, rfl, _⟩ := h
    rfl
  · obtain ⟨a, rfl, hb, k⟩ := h
    refine ⟨_, (pss_cons (ps_parA (i := 1) (j := 2) rfl sc.nd (pa_cons (pe_cmpR (oEq (K := K) hr.units) (pe_callP G__law_take (hr.mono (by decide)) T.g__law_take pass0 (pa_cons (pv 0) (pa_cons pe_int pa_nil))) pe_int (nomark _)) (pa_cons (pe_callP G__law_take (hr.mono (by decide)) T.g__law_take pass0 (pa_cons (pv 0) (pa_cons pe_int pa_nil))) pa_nil)))
      (pss_cons (ps_set (i := 3) sc.nd rfl (by first | exact Or.inl rfl | exact Or.inr rfl) (pe_op (oAdd (K := K)) (pe_ix (iIx (P := P) (w := w) (K := K) hr.units) (pe_lst (pa_cons (pe_tup pa_nil) (pa_cons (pe_tup (pa_cons (pe_tup (pa_cons pe_str (pa_cons pe_str pa_nil))) pa_nil)) (pa_cons (pe_tup (pa_cons (pe_tup (pa_cons pe_str (pa_cons pe_str pa_nil))) pa_nil)) (pa_cons (pe_tup (pa_cons (pe_tup (pa_cons pe_str pa_nil)) pa_nil)) pa_nil))))) (pv 2) (fun _ _ => rfl)) (pe_tup (pa_cons (pe_tup (pa_cons pe_str pa_nil)) pa_nil))))
      (pss_cons (ps_set (i := 4) sc.nd rfl (by first | exact Or.inl rfl | exact Or.inr rfl) (pe_tup (pa_cons pe_str (pa_cons pe_str (pa_cons pe_str (pa_cons pe_str pa_nil))))))
      (pss_cons (ps_if (pt_val (pv 1)) (pss_cons (ps_set (i := 5) sc.nd rfl (by first | exact Or.inl rfl | exact Or.inr rfl) (pe_tup (pa_cons (pe_tup (pa_cons pe_int (pa_cons pe_str (pa_cons pe_str (pa_cons (pe_tup (pa_cons (pe_tup (pa_cons pe_str (pa_cons pe_str pa_nil))) (pa_cons (pe_tup (pa_cons pe_str (pa_cons pe_int pa_nil))) pa_nil))) pa_nil))))) (pa_cons (pe_tup (pa_cons pe_int (pa_cons pe_str (pa_cons pe_str (pa_cons (pe_tup (pa_cons (pe_tup (pa_cons pe_str (pa_cons pe_int pa_nil))) pa_nil)) pa_nil))))) pa_nil))))
      (pss_one (ps_ret (pe_tup (pa_cons (pe_tup (pa_cons (pe_op (oAdd (K := K)) (pv 5) (pe_tup (pa_cons (pe_tup (pa_cons pe_non (pa_cons pe_str (pa_cons pe_str (pa_cons (pv 3) pa_nil))))) pa_nil))) (pa_cons (pv 4) pa_nil))) (pa_cons pe_str (pa_cons (pe_ix (iIx (P := P) (w := w) (K := K) hr.units) (pe_lst (pa_cons pe_str (pa_cons pe_str (pa_cons pe_str (pa_cons pe_str pa_nil))))) (pv 2) (fun _ _ => rfl)) pa_nil))))))) pss_nil)
      (pss_cons (ps_set (i := 5) sc.nd rfl (by first | exact Or.inl rfl | exact Or.inr rfl) (pe_tup (pa_cons (pe_tup (pa_cons pe_non (pa_cons pe_str (pa_cons pe_str (pa_cons (pe_tup (pa_cons (pe_tup (pa_cons pe_str (pa_cons pe_str pa_nil))) pa_nil)) pa_nil))))) (pa_cons (pe_tup (pa_cons pe_non (pa_cons pe_str (pa_cons pe_str (pa_cons (pv 3) pa_nil))))) pa_nil))))
      (pss_one (ps_ret (pe_tup (pa_cons (pe_tup (pa_cons (pv 5) (pa_cons (pv 4) pa_nil))) (pa_cons pe_str (pa_cons (pe_ix (iIx (P := P) (w := w) (K := K) hr.units) (pe_lst (pa_cons pe_str (pa_cons pe_str (pa_cons pe_str (pa_cons pe_str pa_nil))))) (pv 2) (fun _ _ => rfl)) pa_nil))))))))))), ?_⟩
    repeat walk_at "rd"
    refine take_of (m := 2) hb (by omega) (by decide +kernel) fun d1 H1 hd1 c1 hb1 => ?_
    repeat walk_at "rd"
    refine take_of (m := 4) hb1 (by omega) (by decide +kernel) fun e H2 he c2 hb2 => ?_
    generalize decide ((d1 : Int) = 0) = db
    have c12 := c1.trans c2
    refine r_nil (r_parAt ?_)
    have hdi : Dp K H2 (.int (e : Nat)) (.int (e : Nat)) := .int _
    have hE : e = 0 ∨ e = 1 ∨ e = 2 ∨ e = 3 := by omega
    walk_at "as"
    refine EvD.use (K := K) (d := .tuple ((edsK e).map edD)) ?ev fun H3 v3 s3 h3 => r_gname ?_
    case ev =>
      rcases hE with rfl | rfl | rfl | rfl
      all_goals walk_at "ev"
    walk_at "as"
    refine EvD.use (K := K) (d := .tuple ([[99, 99], [97, 98], [], []].map endD)) ?ev fun H4 v4 s4 h4 => r_gname ?_
    case ev =>
      walk_at "ev"
    have h34 := dp_same s4 h3
    have c14 := (c12.trans (Chg.of_same s3)).trans (Chg.of_same s4)
    have hb4 := (hb2.same s3).same s4
    walk_at "as"
    refine r_tb (r_var rfl ⟨_, rfl, r_iteb (fun hdb => ?_) (fun hdb => ?_)⟩)
    · subst hdb
      walk_at "as"
      refine EvD.use (K := K) (d := .tuple ([⟨some 0, [97], ltsE, [.after 99, .mark 1]⟩, ⟨some 1, [99], ltsE, [.mark 0]⟩].map ruleD)) ?ev fun H5 v5 s5 h5 => r_gname ?_
      case ev => walk_at "ev"
      have h35 := dp_same s5 h34
      have h45 := dp_same s5 h4
      have hdi5 : Dp K H5 (.int (e : Nat)) (.int (e : Nat)) := .int _
      walk_at "as"
      refine EvD.use (K := K) (d := resK true e) ?ev fun H6 v6 s6 h6 => k H6 v6 true e he ((c14.trans (Chg.of_same s5)).trans (Chg.of_same s6)) ((hb4.same s5).same s6) h6
      case ev =>
        refine evd_tup (evds_cons (evd_tup (evds_cons ((evd_cat (evd_var rfl h5) (evd_tup (evds_cons (evd_tup (evds_cons evd_non (evds_cons evd_str (evds_cons evd_str (evds_cons (evd_var rfl h35) evds_nil)))) rfl) evds_nil) rfl) rfl).cast ?c1) (evds_cons (evd_var rfl h45) evds_nil)) rfl) (evds_cons (evd_str.cast ?c2) (evds_cons ?ix evds_nil))) rfl
        case c1 => rcases hE with rfl | rfl | rfl | rfl <;> exact eqD_ok (by decide +kernel)
        case c2 => exact eqD_ok (by decide +kernel)
        case ix =>
          rcases hE with rfl | rfl | rfl | rfl
          all_goals walk_at "ev"
    · subst hdb
      walk_at "as"
      refine EvD.use (K := K) (d := .tuple ((rulesK false e).map ruleD)) ?ev fun H5 v5 s5 h5 => r_gname ?_
      case ev =>
        refine EvD.cast (evd_tup (evds_cons (evd_tup (evds_cons evd_non (evds_cons evd_str (evds_cons evd_str (evds_cons (d := .tuple ([.put 98].map edD)) ?d1 evds_nil)))) rfl) (evds_cons (evd_tup (evds_cons evd_non (evds_cons evd_str (evds_cons evd_str (evds_cons (evd_var rfl h34) evds_nil)))) rfl) evds_nil)) rfl) ?c1
        case d1 => walk_at "ev"
        case c1 => rcases hE with rfl | rfl | rfl | rfl <;> exact eqD_ok (by decide +kernel)
      have h45 := dp_same s5 h4
      have hdi5 : Dp K H5 (.int (e : Nat)) (.int (e : Nat)) := .int _
      walk_at "as"
      refine EvD.use (K := K) (d := resK false e) ?ev fun H6 v6 s6 h6 => k H6 v6 false e he ((c14.trans (Chg.of_same s5)).trans (Chg.of_same s6)) ((hb4.same s5).same s6) h6
      case ev =>
        refine evd_tup (evds_cons (evd_tup (evds_cons (evd_var rfl h5) (evds_cons (evd_var rfl h45) evds_nil)) rfl) (evds_cons (evd_str.cast ?c2) (evds_cons ?ix evds_nil))) rfl
        case c2 => exact eqD_ok (by decide +kernel)
        case ix =>
          rcases hE with rfl | rfl | rfl | rfl
          all_goals walk_at "ev"
end
end OB

namespace OB
open PySem PySem.Spec PyProof.Rows L2
local macro_rules | `(tactic| walk_at "hp") => `(tactic| first
  | assumption | exact upd_same | (refine look_new ?_ ?_ <;> walk_at "hp") | ((refine' look_mut (v := ?lv) ?lq ?lp ?ld); (case lq => walk_at "hp"); (case lp => walk_at "hp"); (case ld => (intro z; cases z))))
local macro_rules | `(tactic| walk_at "rd") => `(tactic| (first
  | (with_reducible first
  | refine r_seq ?_ | refine r_asg ?_ | refine r_gname ?_ | refine r_ret ?_ | refine r_retN ?_ | refine r_next ?_ | refine r_drop ?_ | refine r_if ?_
  | refine r_c ?_ | refine r_op ?_ | refine r_test ?_ | refine r_tb ?_ | refine r_bl ?_ | refine r_and ?_ | refine r_or ?_ | refine r_not ?_
  | refine r_andV ?_ | refine r_orV ?_ | refine r_notV ?_ | refine r_ifE ?_ | refine r_nil ?_ | refine r_cons ?_ | refine r_tup ?_ | refine r_lst ?_ | refine r_cb ?_ | refine r_call ?_ | refine r_sub ?_
  | refine r_addI ?_ | refine r_I0 ?_ | refine r_eqI ?_ | refine r_neI ?_ | refine r_eqS ?_ | refine r_neS ?_ | refine r_inS ?_ | refine r_inS2 ?_ | refine r_notInS2 ?_ | refine r_isNA ?_ | refine r_m1 ?_ | refine r_isstr ?_ | refine r_lc ?_ | refine r_notNA ?_ | refine r_kt ?_ | refine r_chain ?_ | refine r_gcons ?_ | refine r_gnil ?_ | refine r_fld ?_ | refine r_sfld ?_ | refine r_meth ?_ | refine r_sl ?_ | refine r_part ?_ | refine r_nopart ?_ | refine r_int ?_ | refine r_star ?_ | refine r_delL ?_ | refine r_par ?_ | refine r_parAt ?_ | refine r_par3 ?_ | refine r_parAt3 ?_ | refine r_fldaug ?_ | refine r_brk ?_ | refine r_for ?_ | refine r_ienT ?_ | refine r_make ?_ | refine r_bm ?_ | refine r_bm0 ?_ | refine iteT ?_ | refine iteF ?_)
  | ((with_reducible refine' r_var ?he ?_); (case he => rfl))
  | (with_reducible first | refine r_abs ?_ | refine r_max ?_ | refine r_min ?_)
  | ((with_reducible refine' r_lenSq ?hs ?_); (case hs => first | exact .inl (by assumption) | exact .inr (by assumption) | exact .inl (SqL.of (by walk_at "hp")) | exact .inr (SqT.of (by walk_at "hp"))))
  | ((with_reducible refine' r_mulR ?hc ?_); (case hc => decide))
  | ((with_reducible refine' r_mulL ?hc ?_); (case hc => decide))
  | ((with_reducible refine' r_mod ?hc ?_); (case hc => first | decide | assumption | omega))
  | ((with_reducible refine' r_div ?hc ?_); (case hc => first | decide | assumption | (constructor <;> first | assumption | omega)))
  | ((with_reducible refine' r_pow ?hc ?_); (case hc => first | decide | (refine ⟨by decide, by decide, by omega⟩)))
  | ((with_reducible refine' r_ixL2 ?hs ?he ?_); (case hs => exact SqL.of (by walk_at "hp")); (case he => first | rfl | exact atI0 | exact atI1 | exact atI2 | exact atI3))
  | ((with_reducible refine' r_ixT2 ?hs ?he ?_); (case hs => first | assumption | exact SqT.of (by walk_at "hp")); (case he => first | rfl | exact atI0 | exact atI1 | exact atI2 | exact atI3))
  | ((with_reducible refine' r_setL2 ?hs ?he ?_); (case hs => walk_at "hp"); (case he => rfl))
  | ((with_reducible refine' r_gtup ?hs ?he ?_); (case hs => first | assumption | exact SqT.of (by walk_at "hp")); (case he => rfl))
  | ((with_reducible refine' r_fldAt ?hs ?hc ?hn ?hl ?_); (case hs => walk_at "hp"); (case hc => walk_at "cl"); (case hn => walk_at "cl"); (case hl => rfl))
  | ((with_reducible refine' r_sfldAt ?hs ?hc ?hn ?hl ?_); (case hs => walk_at "hp"); (case hc => walk_at "cl"); (case hn => walk_at "cl"); (case hl => exact Nat.le_of_ble_eq_true rfl))
  | ((with_reducible refine' r_aug ?he ?_); (case he => rfl))
  | ((with_reducible refine' r_starAt ?hs ?_); (case hs => first | exact .inl (by assumption) | exact .inr (by assumption) | exact .inl (SqT.of (by walk_at "hp")) | exact .inr (SqL.of (by walk_at "hp"))))
  | ((with_reducible refine' r_fldaugAt ?hs ?hc ?hn ?hl ?_); (case hs => walk_at "hp"); (case hc => walk_at "cl"); (case hn => walk_at "cl"); (case hl => rfl))
  | ((with_reducible refine' r_methAt ?hs ?hl ?_); (case hs => walk_at "hp"); (case hl => rfl))
  | ((with_reducible refine' r_tyL ?hs ?_); (case hs => first | assumption | exact SqL.of (by walk_at "hp")))
  | ((with_reducible refine' r_ifT ?h ?_); (case h => rfl))
  | ((with_reducible refine' r_ifF ?h ?_); (case h => rfl))
  | ((with_reducible first | refine' r_isiInt ?hd ?_ | refine' r_isiBool ?hd ?_ | refine' r_isiStr ?hd ?_ | refine' r_isiTup ?hd ?_ | refine' r_isiLst ?hd ?_); (case hd => assumption))
  ))

local macro_rules | `(tactic| walk_at "rd") => `(tactic| (first
  | (with_reducible first | refine r_prop ?_ | refine r_cmeth ?_ | refine r_makeV ?_ | refine r_repRuns ?_ | refine r_repL ?_ | refine r_irng1 ?_)
  | ((with_reducible refine' r_propAt ?hs ?_); (case hs => walk_at "hp"))
  ))

local macro_rules | `(tactic| walk_at "rd") => `(tactic| (with_reducible first | refine r_tupK ?_ | refine r_lstK ?_))

local macro_rules | `(tactic| walk_at "dat") => `(tactic| (first
  | exact evd_non | exact evd_bl | exact evd_int | exact evd_str | exact evds_nil
  | apply evds_cons | apply evd_tup | apply evd_lst | apply evd_cat | apply evd_ixL | exact evd_var (by rfl) (by assumption) | exact rfl))
local macro_rules | `(tactic| walk_at "as") => `(tactic| (repeat (with_reducible first | refine r_seq ?_ | refine r_asg ?_ | refine r_if ?_ | refine r_ret ?_ | refine r_next ?_)))
local macro_rules | `(tactic| walk_at "ev") => `(tactic| (apply EvD.cast; (focus (repeat walk_at "dat")); exact eqD_ok (by decide +kernel)))

local macro_rules | `(tactic| walk_at "cl") => `(tactic| assumption)
theorem progK_ok (db : Bool) {e : Nat} (he : e < 4) : smD (progD [loopK db e]) = true ∧ isProgram kt_EDIT_KINDS (progD [loopK db e]) = true := by
  match db, e, he with
  | true, 0, _ => decide +kernel
  | true, 1, _ => decide +kernel
  | true, 2, _ => decide +kernel
  | true, 3, _ => decide +kernel
  | false, 0, _ => decide +kernel
  | false, 1, _ => decide +kernel
  | false, 2, _ => decide +kernel
  | false, 3, _ => decide +kernel
theorem shutK_len {e : Nat} (he : e < 4) : (shutK e).length ≤ 2 := by
  match e, he with
  | 0, _ => decide
  | 1, _ => decide
  | 2, _ => decide
  | 3, _ => decide
theorem shutK_ltr {e : Nat} (he : e < 4) : ∀ c ∈ [98, 98] ++ shutK e, c ∈ lts := by
  match e, he with
  | 0, _ => decide
  | 1, _ => decide
  | 2, _ => decide
  | 3, _ => decide
def spLaw (K : PySem.W.Frag) : Sp := fun vs H Q _ => ∃ (a : Addr) (ns : List Int), vs = [.ref a] ∧ SqL K H a (ns.map V.int) ∧ ns.length ≤ 63 ∧ ∀ H', Q (.bl true) H'
section
variable {P : Program} {w : World} {K : PySem.W.Frag} {mg : Str → Option Value} {base : Heap}
theorem ok_law (T : Txt w K mg) {fd : FuncData} (F : D_law K fd) : FnOk P w K mg base CX0 20 (a_law K) fd p_law (spLaw K) := by
  have sc := sc_law
  have c1 := T.cl_Repeats
  have c2 := T.cl_Result
  have G__law_take := ok_take (P := P) (base := base) T
  have G__law_bag := ok_bag (P := P) (base := base) T
  have G__law_loop := ok_law_loopK (P := P) (base := base) T
  have G__law_text := ok_law_text (P := P) (base := base) T
  have G_Repeats_init := ok_RepL (P := P) (base := base) T
  have G_Repeats_once := ok_once (P := P) (base := base) T
  have G_Repeats_mul := ok_mul (P := P) (base := base) T
  have G_Repeats_add := ok_add (P := P) (base := base) T
  have G_Repeats_eq := ok_eqRep (P := P) (base := base) T
  have G_Result_text := ok_Res_text (P := P) (base := base) T
  have G_Result_passes := ok_Res_passes (P := P) (base := base) T
  have G_Result_ways := ok_Res_ways (P := P) (base := base) T
  have G_run_far := ok_run_far1 (P := P) (base := base) T
  refine fn0 F sc (fun vs H Q E h => ?_) (fun cdv A outer s H vs Q E hr h => ?_)
  · obtain ⟨a, ns, rfl, _⟩ := h
    rfl
  · obtain ⟨a, ns, rfl, hS, hns, k⟩ := h
    refine ⟨_, (pss_cons (ps_for PassesOwn.never rfl (pi_range1 rfl T.z_range (pa_cons (pe_op (oAdd (K := K)) pe_int (pe_callB (call_minA rfl) (by rfl) T.z_min (by decide +kernel) (pa_cons pe_int (pa_cons (pe_callB (cLen (K := K)) (by rfl) T.z_len (by decide +kernel) (pa_cons (pv 0) pa_nil)) pa_nil)))) pa_nil)) (pg_name (i := 1) sc.nd rfl (by first | exact Or.inl rfl | exact Or.inr rfl)) (pss_cons (ps_set (i := 2) sc.nd rfl (by first | exact Or.inl rfl | exact Or.inr rfl) (pe_callP G__law_bag (hr.mono (by decide)) T.g__law_bag pass0 (pa_cons (pv 0) (pa_cons (pv 1) pa_nil))))
      (pss_one (ps_for PassesOwn.never rfl (pi_range1 rfl T.z_range (pa_cons pe_int pa_nil)) (pg_name (i := 3) sc.nd rfl (by first | exact Or.inl rfl | exact Or.inr rfl)) (pss_cons (ps_asg (pe_callP G__law_loop (hr.mono (by decide)) T.g__law_loop pass0 (pa_cons (pv 2) pa_nil)) (gTupA (K := K) (n := 3) rfl (pgs_cons (pg_name (i := 4) sc.nd rfl (by first | exact Or.inl rfl | exact Or.inr rfl)) (pgs_cons (pg_name (i := 5) sc.nd rfl (by first | exact Or.inl rfl | exact Or.inr rfl)) (pgs_cons (pg_name (i := 6) sc.nd rfl (by first | exact Or.inl rfl | exact Or.inr rfl)) pgs_nil)))))
      (pss_cons (ps_parA (i := 7) (j := 8) rfl sc.nd (pa_cons (pe_callP G__law_take (hr.mono (by decide)) T.g__law_take pass0 (pa_cons (pv 2) (pa_cons (pe_ix (iIx (P := P) (w := w) (K := K) hr.units) (pe_lst (pa_cons pe_int (pa_cons (pe_op op_pow pe_int pe_int) pa_nil))) (pe_callP G__law_take (hr.mono (by decide)) T.g__law_take pass0 (pa_cons (pv 2) (pa_cons pe_int pa_nil))) (fun _ _ => rfl)) pa_nil))) (pa_cons (pe_callP G__law_take (hr.mono (by decide)) T.g__law_take pass0 (pa_cons (pv 2) (pa_cons (pe_op op_pow pe_int pe_int) pa_nil))) pa_nil)))
      (pss_cons (ps_set (i := 9) sc.nd rfl (by first | exact Or.inl rfl | exact Or.inr rfl) (pe_lst (pa_cons (pe_tup (pa_cons pe_str (pa_cons (pv 8) pa_nil))) (pa_cons (pe_tup (pa_cons (pe_callP G__law_text (hr.mono (by decide)) T.g__law_text pass0 (pa_cons (pv 2) (pa_cons pe_int pa_nil))) (pa_cons pe_int pa_nil))) pa_nil))))
      (pss_cons (ps_set (i := 10) sc.nd rfl (by first | exact Or.inl rfl | exact Or.inr rfl) (pe_makeP T.mk_Repeats G_Repeats_init (hr.mono (by decide)) T.g_Repeats pass0 (pa_cons (pe_op (oAdd (K := K)) (pe_lst (pa_cons (pe_tup (pa_cons pe_str (pa_cons (pv 7) pa_nil))) (pa_cons (pe_tup (pa_cons pe_str (pa_cons pe_int pa_nil))) (pa_cons (pe_tup (pa_cons pe_str (pa_cons pe_int pa_nil))) pa_nil)))) (pv 9)) pa_nil)))
      (pss_cons (ps_set (i := 11) sc.nd rfl (by first | exact Or.inl rfl | exact Or.inr rfl) (pe_callP G_run_far (hr.mono (by decide)) T.g_run_far pass0 (pa_cons (pe_tup (pa_cons (pv 4) pa_nil)) (pa_cons (pv 10) pa_nil))))
      (pss_cons (ps_set (i := 12) sc.nd rfl (by first | exact Or.inl rfl | exact Or.inr rfl) (pe_op (op_ownB T.ob_Repeats_add G_Repeats_add (hr.mono (by decide)) pass0) (pe_op (op_ownB T.ob_Repeats_add G_Repeats_add (hr.mono (by decide)) pass0) (pe_op (op_ownI T.oi_Repeats_mul G_Repeats_mul (hr.mono (by decide)) pass0) (pe_cmethP (pe_gref rfl T.g_Repeats) T.cm_Repeats_once G_Repeats_once (hr.mono (by decide)) pass0 (pa_cons (pv 5) pa_nil)) (pv 7)) (pe_cmethP (pe_gref rfl T.g_Repeats) T.cm_Repeats_once G_Repeats_once (hr.mono (by decide)) pass0 (pa_cons (pe_op (oAdd (K := K)) pe_str (pv 6)) pa_nil))) (pe_makeP T.mk_Repeats G_Repeats_init (hr.mono (by decide)) T.g_Repeats pass0 (pa_cons (pv 9) pa_nil))))
      (pss_cons (ps_if (PW.pt (pw_or (pt_cmpR (op_ownNe T.oe_Repeats G_Repeats_eq (hr.mono (by decide)) pass0) (pe_propP (pv 11) T.cl_Result T.pr_Result_text G_Result_text (hr.mono (by decide)) pass0) (pv 12) (nomark _)) (pw_or (pt_cmpR (oNe (K := K) hr.units) (pe_propP (pv 11) T.cl_Result T.pr_Result_ways G_Result_ways (hr.mono (by decide)) pass0) (pe_tup (pa_cons pe_str pa_nil)) (nomark _)) (pw_or1 (pt_cmpR (oNe (K := K) hr.units) (pe_propP (pv 11) T.cl_Result T.pr_Result_passes G_Result_passes (hr.mono (by decide)) pass0) (pe_tup (pa_cons (pe_op (oAdd (K := K)) (pe_op op_mulA (pe_callB (cLen (K := K)) (by rfl) T.z_len (by decide +kernel) (pa_cons (pv 5) pa_nil)) (pv 7)) pe_int) pa_nil)) (nomark _)))))) (pss_one (ps_ret pe_bl)) pss_nil)
      (pss_cons (ps_set (i := 11) sc.nd rfl (by first | exact Or.inl rfl | exact Or.inr rfl) (pe_callP G_run_far (hr.mono (by decide)) T.g_run_far pass0 (pa_cons (pe_tup (pa_cons (pv 4) pa_nil)) (pa_cons (pe_makeP T.mk_Repeats G_Repeats_init (hr.mono (by decide)) T.g_Repeats pass0 (pa_cons (pe_lst (pa_cons (pe_tup (pa_cons pe_str (pa_cons (pv 7) pa_nil))) (pa_cons (pe_tup (pa_cons pe_str (pa_cons pe_int pa_nil))) pa_nil))) pa_nil)) pa_nil))))
      (pss_cons (ps_if (PW.pt (pw_or (pt_cmpR (op_ownNe T.oe_Repeats G_Repeats_eq (hr.mono (by decide)) pass0) (pe_propP (pv 11) T.cl_Result T.pr_Result_text G_Result_text (hr.mono (by decide)) pass0) (pe_op (op_ownB T.ob_Repeats_add G_Repeats_add (hr.mono (by decide)) pass0) (pe_op (op_ownI T.oi_Repeats_mul G_Repeats_mul (hr.mono (by decide)) pass0) (pe_cmethP (pe_gref rfl T.g_Repeats) T.cm_Repeats_once G_Repeats_once (hr.mono (by decide)) pass0 (pa_cons (pv 5) pa_nil)) (pv 7)) (pe_cmethP (pe_gref rfl T.g_Repeats) T.cm_Repeats_once G_Repeats_once (hr.mono (by decide)) pass0 (pa_cons pe_str pa_nil))) (nomark _)) (pw_or1 (pt_cmpR (oNe (K := K) hr.units) (pe_propP (pv 11) T.cl_Result T.pr_Result_ways G_Result_ways (hr.mono (by decide)) pass0) (pe_tup (pa_cons pe_str pa_nil)) (nomark _))))) (pss_one (ps_ret pe_bl)) pss_nil)
      (pss_one (ps_if (pt_cmpR (oNe (K := K) hr.units) (pe_propP (pv 11) T.cl_Result T.pr_Result_passes G_Result_passes (hr.mono (by decide)) pass0) (pe_tup (pa_cons (pe_op (oAdd (K := K)) (pe_op op_mulA (pe_callB (cLen (K := K)) (by rfl) T.z_len (by decide +kernel) (pa_cons (pv 5) pa_nil)) (pv 7)) pe_int) pa_nil)) (nomark _)) (pss_one (ps_ret pe_bl)) pss_nil)))))))))))))))
      (pss_one (ps_ret pe_bl))), ?_⟩
    have e59 : ((10 : Int) ^ ((59 : Int)).toNat) = ((10 ^ 59 : Nat) : Int) := by decide +kernel
    have eA : ("a" : Str) = mkS [97] := by decide +kernel
    have eB : ("b" : Str) = mkS [98] := by decide +kernel
    have eD : ("d" : Str) = mkS [100] := by decide +kernel
    have eBA : ("ba" : Str) = mkS [98, 97] := by decide +kernel
    have eBB : ("bb" : Str) = mkS [98, 98] := by decide +kernel
    have h59 : 10 ^ 59 < 2 ^ 300 := by decide +kernel
    repeat walk_at "rd"
    rw [List.length_map]
    refine r_forR (1 + (if ns.length < 3 then ns.length else 3)) (by split <;> split <;> omega) (by split <;> omega) (fun i σ H' => Same H H' ∧ ∃ x1 x2 x3 x4 x5 x6 x7 x8 x9 x10 x11 x12, σ = [some (.ref a), x1, x2, x3, x4, x5, x6, x7, x8, x9, x10, x11, x12])
      ⟨Same.refl H, _, _, _, _, _, _, _, _, _, _, _, _, rfl⟩ (fun i σ H0 hi p => ?_) (fun σ H' p => ?_)
    · obtain ⟨s0, x1, x2, x3, x4, x5, x6, x7, x8, x9, x10, x11, x12, rfl⟩ := p
      repeat walk_at "rd"
      refine bag_of (by split at hi <;> omega) (Same.sql s0 hS) fun b H1 hb0 s1 hb1 => ?_
      have hbH := none_of_same s0 hb0
      have s01 := s0.trans s1
      repeat walk_at "rd"
      refine r_forR 5 rfl (by decide) (fun j σ H' => Same H H' ∧ BagAt H' b ∧ ∃ y1 y3 y4 y5 y6 y7 y8 y9 y10 y11 y12, σ = [some (.ref a), y1, some (.ref b), y3, y4, y5, y6, y7, y8, y9, y10, y11, y12])
        ⟨s01, hb1, _, _, _, _, _, _, _, _, _, _, _, rfl⟩ (fun j σ H2 hj p => ?_) (fun σ H' p => ?_)
      · obtain ⟨s2, hb2, y1, y3, y4, y5, y6, y7, y8, y9, y10, y11, y12, rfl⟩ := p
        repeat walk_at "rd"
        refine ⟨b, rfl, hb2, fun H3 v db e he g3 hb3 hv => ?_⟩
        unfold resK at hv
        cases hv with
        | tup hvS hvA =>
        cases hvA with
        | cons hlv hvA =>
        cases hvA with
        | cons hmk hvA =>
        cases hvA with
        | cons hsk hvA =>
        cases hmk
        cases hsk
        cases hvA
        rename_i tv lv
        repeat walk_at "rd"
        rw [e59]
        refine kLst_of (by rfl) fun p4 H4 hp4 s4 hl4 => ?_
        have g4 := g3.trans (Chg.of_same s4)
        have hb4 := hb3.same s4
        have hlv4 := dp_same s4 hlv
        repeat walk_at "rd"
        refine take_of (m := 2) hb4 (by omega) (by decide +kernel) fun d5 H5 hd5 g5 hb5 => ?_
        have hl5 := g5.atN hl4 (fun z => hb3.ne hp4 (List.mem_singleton.mp z).symm)
        obtain ⟨n6, hn0, hn1, hat⟩ : ∃ n : Nat, 0 < n ∧ n ≤ 10 ^ 59 ∧ atI [V.int 10, .int ((10 ^ 59 : Nat) : Int)] (d5 : Int) = some (.int (n : Nat)) := by
          match d5, hd5 with
          | 0, _ => exact ⟨10, by decide, by decide +kernel, rfl⟩
          | 1, _ => exact ⟨10 ^ 59, by decide +kernel, Nat.le_refl _, rfl⟩
        refine r_ixL2 (SqL.of hl5) hat ?_
        repeat walk_at "rd"
        refine take_of (m := n6) hb5 hn0 (Nat.lt_of_le_of_lt hn1 h59) fun many H6 hmany g6 hb6 => ?_
        repeat walk_at "rd"
        rw [e59]
        refine take_of (m := 10 ^ 59) hb6 (by decide +kernel) h59 fun more H7 hmore g7 hb7 => ?_
        have hM : many ≤ 10 ^ 60 := Nat.le_trans (Nat.le_trans (Nat.le_of_lt hmany) hn1) (by decide +kernel)
        have hM2 : more ≤ 10 ^ 60 := Nat.le_trans (Nat.le_of_lt hmore) (by decide +kernel)
        have g27 : Chg [b] H2 H7 := ((g4.trans g5).trans g6).trans g7
        have hlv7 := dp_chg ((g5.trans g6).trans g7) (tup_loop (loopK db e)) hlv4
        repeat walk_at "rd"
        refine kTup_of (by rfl) fun p8 H8 hp8 s8 h8 => ?_
        repeat walk_at "rd"
        refine ⟨b, 4, rfl, hb7.same s8, by decide, fun H9 z g9 hb9 hz hzl => ?_⟩
        have h9 := g9.sqt (K := K) (SqT.of h8)
        repeat walk_at "rd"
        refine kTup_of (by rfl) fun p10 H10 hp10 s10 h10 => ?_
        repeat walk_at "rd"
        refine kLst_of (by rfl) fun p11 H11 hp11 s11 h11 => ?_
        have g711 : Chg [b] H7 H11 := (((Chg.of_same s8).trans g9).trans (Chg.of_same s10)).trans (Chg.of_same s11)
        have hlv11 := dp_chg g711 (tup_loop (loopK db e)) hlv7
        have hb11 := (hb9.same s10).same s11
        have q1 : IsPair K H11 (.ref p8) ([98, 97], more) := ⟨p8, rfl, by rw [← eBA]; exact Same.sqt (s10.trans s11) h9⟩
        have q2 : IsPair K H11 (.ref p10) (z, 3) := ⟨p10, rfl, SqT.of (s11 _ _ h10)⟩
        have g211 := g27.trans g711
        clear h9 h10 h8 hp8 hp10 hp11 s8 g9 s10 s11 hb9 hlv7 g27 g711 hb7 g7 g6 hb6 g5 hb5 hl5 hlv4 hat hlv g4 hb4 hl4 s4 hp4 g3 hb3 hvS
        repeat walk_at "rd"
        refine kTup_of (by rfl) fun p12 H12 hp12 s12 h12 => ?_
        repeat walk_at "rd"
        refine kTup_of (by rfl) fun p13 H13 hp13 s13 h13 => ?_
        repeat walk_at "rd"
        refine kTup_of (by rfl) fun p14 H14 hp14 s14 h14 => ?_
        repeat walk_at "rd"
        refine kLst_of (by rfl) fun p15 H15 hp15 s15 h15 => ?_
        repeat walk_at "rd"
        have s1115 := ((s12.trans s13).trans s14).trans s15
        refine r_addLK h15 (s1115 _ _ h11) (by rfl) fun p16 H16 hp16 s16 h16 => ?_
        have s1116 := s1115.trans s16
        have hlv16 := dp_same s1116 hlv11
        have h11' := s1116 _ _ h11
        have q1' := q1.chg (Chg.of_same (ps := []) s1116)
        have q2' := q2.chg (Chg.of_same (ps := []) s1116)
        have q3 : IsPair K H16 (.ref p12) ([97], many) := ⟨p12, rfl, by rw [← eA]; exact SqT.of ((((s13.trans s14).trans s15).trans s16) _ _ h12)⟩
        have q4 : IsPair K H16 (.ref p13) ([98], 2) := ⟨p13, rfl, by rw [← eB]; exact SqT.of (((s14.trans s15).trans s16) _ _ h13)⟩
        have q5 : IsPair K H16 (.ref p14) ([100], 1) := ⟨p14, rfl, by rw [← eD]; exact SqT.of ((s15.trans s16) _ _ h14)⟩
        have g216 := g211.trans (Chg.of_same s1116)
        have hb16 := hb11.same s1116
        have hdh : Dp K H16 (.ref p16) (.list ([([97], many), ([98], 2), ([100], 1), ([98, 97], more), (z, 3)].map pairD)) := .lst (SqL.of h16) (dp_pairs (.cons q3 (.cons q4 (.cons q5 (.cons q1' (.cons q2' .nil))))))
        have hdb : Dp K H16 (.ref p11) (.list ([([98, 97], more), (z, 3)].map pairD)) := .lst (SqL.of h11') (dp_pairs (.cons q1' (.cons q2' .nil)))
        have hbh : ∀ p ∈ [(([98, 97] : List Nat), more), (z, 3)], (p.1.length ≤ 20 ∧ ∀ c ∈ p.1, c ∈ lts) ∧ p.2 ≤ 10 ^ 60 := by
          intro p hp
          rcases List.mem_cons.mp hp with rfl | hp
          · exact ⟨⟨show 2 ≤ 20 by decide, show ∀ c ∈ [98, 97], c ∈ lts by decide⟩, hM2⟩
          · rw [List.mem_singleton] at hp
            subst hp
            exact ⟨⟨Nat.le_trans hz (by decide), hzl⟩, show 3 ≤ 10 ^ 60 by decide +kernel⟩
        have hbhome : ∀ p ∈ [(([97] : List Nat), many), ([98], 2), ([100], 1), ([98, 97], more), (z, 3)], (p.1.length ≤ 20 ∧ ∀ c ∈ p.1, c ∈ lts) ∧ p.2 ≤ 10 ^ 60 := by
          intro p hp
          rcases List.mem_cons.mp hp with rfl | hp
          · exact ⟨⟨show 1 ≤ 20 by decide, show ∀ c ∈ [97], c ∈ lts by decide⟩, hM⟩
          rcases List.mem_cons.mp hp with rfl | hp
          · exact ⟨⟨by decide, by decide⟩, by decide +kernel⟩
          rcases List.mem_cons.mp hp with rfl | hp
          · exact ⟨⟨by decide, by decide⟩, by decide +kernel⟩
          exact hbh p hp
        clear h12 h13 h14 h15 s12 s13 s14 s15 s16 hp12 hp13 hp14 hp15 hp16 q3 q4 q5 q1 q2 h11 s1115 s1116 hlv11 hb11 g211 h16
        have hbl : ∀ c ∈ den [(([98, 97] : List Nat), more), (z, 3)], c ∈ lts := den_lts fun p hp => (hbh p hp).1.2
        repeat walk_at "rd"
        refine kRepL_of hdh (Nat.le_of_ble_eq_true rfl) hbhome fun H17 home hol rsh s17 hrep ho1 ho2 tb17 hden17 hlen17 => ?_
        have hlv17 := dp_same s17 hlv16
        have hdb17 := dp_same s17 hdb
        have hb17 := hb16.same s17
        have g217 := g216.trans (Chg.of_same s17)
        obtain ⟨hsm, hip⟩ := progK_ok db he
        have hrun := runK (db := db) he many (den [(([98, 97] : List Nat), more), (z, 3)]) hbl
        have hrun2 := runK2 (db := db) he many
        clear hdh hdb hlv16 hb16 g216 q1' q2'
        repeat walk_at "rd"
        refine kTup_of (by rfl) fun p18 H18 hp18 s18 h18 => ?_
        have hpg : Dp K H18 (.ref p18) (progD [loopK db e]) := .tup (SqT.of h18) (.cons (dp_same s18 hlv17) .nil)
        repeat walk_at "rd"
        refine ⟨.ref p18, loopK db e, home, hol, rsh, _, _, _, rfl, hpg, wfK db he, hsm, hip, hrep.same s18, tb17.bnd, Nat.le_trans hlen17 (Nat.le_of_ble_eq_true rfl), by rw [hden17]; exact hrun, fun H19 told ra rl pt wt rs19 s19 hres hrep19 tb19 hlen19 hden19 hpt hwt => ?_⟩
        have s1719 := s18.trans s19
        have hdb19 := dp_same s1719 hdb17
        have hlv19 := dp_same s1719 hlv17
        have g219 := g217.trans (Chg.of_same s1719)
        have hb19 := hb17.same s1719
        clear hpg h18 s18 s19 s1719 hdb17 hlv17 g217 hb17 hrep s17 hp18
        repeat walk_at "rd"
        refine ⟨rfl, ?_⟩
        repeat walk_at "rd"
        refine ⟨mkS (madeK db), rfl, by rw [mkS_len]; cases db <;> decide, fun c hc => by rw [tl_mkS] at hc; revert c; cases db <;> decide, fun H20 m1 ml1 rs20 s20 hm1 _ _ tb20 hden20 hlen20 => ?_⟩
        rw [tl_mkS] at hden20
        obtain ⟨dx20, xs20, hm1a, hm1b, hm1c⟩ := id hm1
        repeat walk_at "rd"
        refine ⟨m1, _, _, (many : Int), rfl, rfl, hm1a, m1, ml1, rs20, _, many, rfl, hm1, tb20, by rw [hden20]; cases db <;> decide, Nat.le_trans hlen20 (by decide), fun H21 m2 ml2 rs21 s21 hm2 _ _ tb21 hden21 hlen21 => ?_⟩
        rw [hden20] at hden21
        repeat walk_at "rd"
        refine ⟨rfl, ?_⟩
        repeat walk_at "rd"
        have hshl : (mkS (shutK e)).length ≤ 2 := by rw [mkS_len]; exact shutK_len he
        refine r_addS (by rw [eBB, mkS_len, show sizeLine = 16777216 from by decide]; show 2 + _ ≤ _; omega) ?_
        have htl : tl (("bb" : Str) ++ mkS (shutK e)) = [98, 98] ++ shutK e := by
          rw [eBB]
          show ((mkS [98, 98]).cps ++ (mkS (shutK e)).cps).toList = _
          rw [Array.toList_append]
          rfl
        have hbbl : (("bb" : Str) ++ mkS (shutK e)).length ≤ 4 := by
          show (tl (("bb" : Str) ++ mkS (shutK e))).length ≤ 4
          rw [htl]
          have : (shutK e).length ≤ 2 := shutK_len he
          simp only [List.length_append, List.length_cons, List.length_nil]
          omega
        repeat walk_at "rd"
        refine ⟨_, rfl, Nat.le_trans hbbl (by decide), fun c hc => by rw [htl] at hc; exact shutK_ltr he c hc, fun H22 m3 ml3 rs22 s22 hm3 _ _ tb22 hden22 hlen22 => ?_⟩
        rw [htl] at hden22
        obtain ⟨dx21, xs21, hm2a, hm2b, hm2c⟩ := (hm2.same s22)
        obtain ⟨dx22, xs22, hm3a, hm3b, hm3c⟩ := id hm3
        refine ⟨m2, _, _, m3, _, _, rfl, rfl, hm2a, hm3a, m2, ml2, rs21, m3, ml3, rs22, 20, rfl, hm2.same s22, hm3, tb21.mono (by rw [hden20]; cases db <;> decide), tb22.mono (Nat.le_trans hbbl (by decide)), by decide, by omega, fun H23 m4 ml4 rs23 s23 hm4 _ _ tb23 hden23 hlen23 => ?_⟩
        rw [hden21, hden22] at hden23
        have s2023 := ((s20.trans s21).trans s22).trans s23
        repeat walk_at "rd"
        refine kRepL_of (dp_same s2023 hdb19) (Nat.le_of_ble_eq_true rfl) hbh fun H24 m5 ml5 rs24 s24 hm5 _ _ tb24 hden24 hlen24 => ?_
        obtain ⟨dx23, xs23, hm4a, hm4b, hm4c⟩ := (hm4.same s24)
        obtain ⟨dx24, xs24, hm5a, hm5b, hm5c⟩ := id hm5
        refine ⟨m4, _, _, m5, _, _, rfl, rfl, hm4a, hm5a, m4, ml4, rs23, m5, ml5, rs24, 20, rfl, hm4.same s24, hm5, tb23, tb24, by decide, ?_, fun H25 left ml6 rs25 s25 hleft _ _ tb25 hden25 hlen25 => ?_⟩
        · have : rs24.length ≤ 2 := hlen24
          omega
        rw [hden23, hden24] at hden25
        have s1925 := (s2023.trans s24).trans s25
        have hres25 : ResAt K H25 told (.ref ra) (.ref pt) (.ref wt) := let ⟨dx, e⟩ := hres; ⟨dx, s1925 _ _ e⟩
        have hrep25 := hrep19.same s1925
        have hpt25 := Same.sqt s1925 hpt
        have hwt25 := Same.sqt s1925 hwt
        have hlv25 := dp_same s1925 hlv19
        have g225 := g219.trans (Chg.of_same s1925)
        have hb25 := hb19.same s1925
        clear hres hrep19 hpt hwt hlv19 g219 hb19 s1925 s25 s24 s23 s22 s21 s20 s2023 hm1 hm2 hm3 hm4 hm5 hm1a hm1b hm1c hm2a hm2b hm2c hm3a hm3b hm3c hm4a hm4b hm4c hm5a hm5b hm5c hdb19
        obtain ⟨dxr, hresr⟩ := id hres25
        obtain ⟨dxra, xsra, hra1, _, _⟩ := id hrep25
        obtain ⟨dxl, xsl, hl1, _, _⟩ := id hleft
        repeat walk_at "rd"
        refine ⟨told, _, _, _, rfl, hres25, ?_⟩
        repeat walk_at "rd"
        have hl25 : rs25.length ≤ 5 := by
          have : rs24.length ≤ 2 := hlen24
          omega
        refine ⟨ra, _, _, left, _, _, rfl, rfl, hra1, hl1, ra, rl, rs19, left, ml6, rs25, 604080, rfl, hrep25, hleft, tb19, tb25.mono (by decide), by decide, by omega, by omega, ?_, fun H26 s26 => ⟨true, rfl, ?_⟩⟩
        · rw [hden19, hden25]
          show (rep many (madeK db) ++ ([98, 98] ++ (shutK e ++ den [([98, 97], more), (z, 3)]))) ++ [] = (rep many (madeK db) ++ ([98, 98] ++ shutK e)) ++ den [([98, 97], more), (z, 3)]
          simp only [List.append_assoc, List.append_nil]
        refine ⟨false, rfl, ?_⟩
        have hres26 : ResAt K H26 told (.ref ra) (.ref pt) (.ref wt) := let ⟨dx, e⟩ := hres25; ⟨dx, s26 _ _ e⟩
        obtain ⟨dxr26, hresr26⟩ := id hres26
        repeat walk_at "rd"
        refine ⟨told, _, _, _, rfl, hres26, ?_⟩
        repeat walk_at "rd"
        refine kTup_of (by rfl) fun p27 H27 hp27 s27 h27 => ?_
        refine r_neSame (d := .tuple [.str "break"]) (.tup (Same.sqt (s26.trans s27) hwt25) (.cons (.str _) .nil)) (.tup (SqT.of h27) (.cons (.str _) .nil)) (by decide +kernel) (eqv_str1 _) ?_
        have hresr27 := s27 _ _ hresr26
        repeat walk_at "rd"
        refine ⟨told, _, _, _, rfl, ⟨_, hresr27⟩, ?_⟩
        repeat walk_at "rd"
        refine r_lenS (by rw [mkS_len]; cases db <;> decide) ?_
        repeat walk_at "rd"
        rw [mkS_len]
        refine r_mulL (by cases db <;> decide) ?_
        repeat walk_at "rd"
        refine kTup_of (by rfl) fun p28 H28 hp28 s28 h28 => ?_
        have e28 : ((((madeK db).length * many + (2 + 1) : Nat)) : Int) = ((madeK db).length : Int) * (many : Int) + 3 := by rw [Int.natCast_add, Int.natCast_mul]; rfl
        refine r_neSame (d := .tuple [.int ((madeK db).length * many + 3)]) (.tup (Same.sqt ((s26.trans s27).trans s28) hpt25) (by rw [e28]; exact .cons (.int _) .nil)) (.tup (SqT.of h28) (.cons (.int _) .nil)) rfl (eqv_int1 _) ?_
        have s2528 := (s26.trans s27).trans s28
        have hlv28 := dp_same s2528 hlv25
        have g228 := g225.trans (Chg.of_same s2528)
        have hb28 := hb25.same s2528
        clear hres26 hresr26 hresr27 h27 h28 hp27 hp28 s26 s27 s28 s2528 hlv25 g225 hb25 hres25 hrep25 hpt25 hwt25 hleft hresr hra1 hl1 hrun
        repeat walk_at "rd"
        refine kTup_of (by rfl) fun p30 H30 hp30 s30 h30 => ?_
        repeat walk_at "rd"
        refine kTup_of (by rfl) fun p31 H31 hp31 s31 h31 => ?_
        repeat walk_at "rd"
        refine kTup_of (by rfl) fun p32 H32 hp32 s32 h32 => ?_
        repeat walk_at "rd"
        refine kLst_of (by rfl) fun p33 H33 hp33 s33 h33 => ?_
        have q3 : IsPair K H33 (.ref p31) ([97], many) := ⟨p31, rfl, by rw [← eA]; exact SqT.of ((s32.trans s33) _ _ h31)⟩
        have q4 : IsPair K H33 (.ref p32) ([98], 2) := ⟨p32, rfl, by rw [← eB]; exact SqT.of (s33 _ _ h32)⟩
        have s2833 := ((s30.trans s31).trans s32).trans s33
        have h30' := ((s31.trans s32).trans s33) _ _ h30
        repeat walk_at "rd"
        refine kRepL_of (rs := [([97], many), ([98], 2)]) (.lst (SqL.of h33) (dp_pairs (.cons q3 (.cons q4 .nil)))) (Nat.le_of_ble_eq_true rfl) (fun p hp => ?_) fun H34 home2 hol2 rsh2 s34 hrep2 _ _ tb34 hden34 hlen34 => ?_
        · rcases List.mem_cons.mp hp with rfl | hp
          · exact ⟨⟨show 1 ≤ 20 by decide, show ∀ c ∈ [97], c ∈ lts by decide⟩, hM⟩
          · rw [List.mem_singleton] at hp
            subst hp
            exact ⟨⟨by decide, by decide⟩, by decide +kernel⟩
        have s2834 := s2833.trans s34
        have hpg : Dp K H34 (.ref p30) (progD [loopK db e]) := .tup (SqT.of (s34 _ _ h30')) (.cons (dp_same s2834 hlv28) .nil)
        have g234 := g228.trans (Chg.of_same s2834)
        have hb34 := hb28.same s2834
        clear q3 q4 h30' h30 h31 h32 h33 s30 s31 s32 s33 s2833 hp30 hp31 hp32 hp33 s34 hlv28 g228 hb28 s2834
        repeat walk_at "rd"
        refine ⟨.ref p30, loopK db e, home2, hol2, rsh2, _, _, _, rfl, hpg, wfK db he, hsm, hip, hrep2, tb34.bnd, Nat.le_trans hlen34 (Nat.le_of_ble_eq_true rfl), by rw [hden34]; exact hrun2, fun H35 told2 ra2 rl2 pt2 wt2 rs35 s35 hres hrep35 tb35 hlen35 hden35 hpt hwt => ?_⟩
        have g235 := g234.trans (Chg.of_same s35)
        have hb35 := hb34.same s35
        obtain ⟨dxr, hresr⟩ := id hres
        repeat walk_at "rd"
        refine ⟨told2, _, _, _, rfl, hres, ?_⟩
        repeat walk_at "rd"
        refine ⟨rfl, ?_⟩
        repeat walk_at "rd"
        refine ⟨mkS (madeK db), rfl, by rw [mkS_len]; cases db <;> decide, fun c hc => by rw [tl_mkS] at hc; revert c; cases db <;> decide, fun H36 m1 ml1 rs36 s36 hm1 _ _ tb36 hden36 hlen36 => ?_⟩
        rw [tl_mkS] at hden36
        obtain ⟨dx36, xs36, hm1a, hm1b, hm1c⟩ := id hm1
        repeat walk_at "rd"
        refine ⟨m1, _, _, (many : Int), rfl, rfl, hm1a, m1, ml1, rs36, _, many, rfl, hm1, tb36, by rw [hden36]; cases db <;> decide, Nat.le_trans hlen36 (by decide), fun H37 m2 ml2 rs37 s37 hm2 _ _ tb37 hden37 hlen37 => ?_⟩
        rw [hden36] at hden37
        repeat walk_at "rd"
        refine ⟨rfl, ?_⟩
        repeat walk_at "rd"
        refine ⟨"bbcc", rfl, by decide +kernel, by decide +kernel, fun H38 m3 ml3 rs38 s38 hm3 _ _ tb38 hden38 hlen38 => ?_⟩
        rw [show tl ("bbcc" : Str) = [98, 98, 99, 99] by decide +kernel] at hden38
        obtain ⟨dx37, xs37, hm2a, hm2b, hm2c⟩ := (hm2.same s38)
        obtain ⟨dx38, xs38, hm3a, hm3b, hm3c⟩ := id hm3
        refine ⟨m2, _, _, m3, _, _, rfl, rfl, hm2a, hm3a, m2, ml2, rs37, m3, ml3, rs38, 20, rfl, hm2.same s38, hm3, tb37.mono (by rw [hden36]; cases db <;> decide), tb38.mono (by decide +kernel), by decide, by omega, fun H39 left2 ml4 rs39 s39 hleft _ _ tb39 hden39 hlen39 => ?_⟩
        rw [hden37, hden38] at hden39
        have s3539 := ((s36.trans s37).trans s38).trans s39
        have hres39 : ResAt K H39 told2 (.ref ra2) (.ref pt2) (.ref wt2) := ⟨_, s3539 _ _ hresr⟩
        have hrep39 := hrep35.same s3539
        have hpt39 := Same.sqt s3539 hpt
        have hwt39 := Same.sqt s3539 hwt
        have g239 := g235.trans (Chg.of_same s3539)
        have hb39 := hb35.same s3539
        clear hres hresr hrep35 hpt hwt g235 hb35 g234 hb34 s3539 s39 s38 s37 s36 hm1 hm2 hm3 hm1a hm1b hm1c hm2a hm2b hm2c hm3a hm3b hm3c hpg
        obtain ⟨dxra2, xsra2, hra1, _, _⟩ := id hrep39
        obtain ⟨dxl2, xsl2, hl1, _, _⟩ := id hleft
        refine ⟨ra2, _, _, left2, _, _, rfl, rfl, hra1, hl1, ra2, rl2, rs35, left2, ml4, rs39, 604080, rfl, hrep39, hleft, tb35, tb39.mono (by decide), by decide, by omega, by omega, ?_, fun H40 s40 => ⟨true, rfl, ?_⟩⟩
        · rw [hden35, hden39]
          show (rep many (madeK db) ++ [98, 98]) ++ [99, 99] = rep many (madeK db) ++ [98, 98, 99, 99]
          simp only [List.append_assoc]
          rfl
        refine ⟨false, rfl, ?_⟩
        have hres40 : ResAt K H40 told2 (.ref ra2) (.ref pt2) (.ref wt2) := let ⟨dx, e⟩ := hres39; ⟨dx, s40 _ _ e⟩
        obtain ⟨dxr40, hresr40⟩ := id hres40
        repeat walk_at "rd"
        refine ⟨told2, _, _, _, rfl, hres40, ?_⟩
        repeat walk_at "rd"
        refine kTup_of (by rfl) fun p41 H41 hp41 s41 h41 => ?_
        refine r_neSame (d := .tuple [.str "end"]) (.tup (Same.sqt (s40.trans s41) hwt39) (.cons (.str _) .nil)) (.tup (SqT.of h41) (.cons (.str _) .nil)) (by decide +kernel) (eqv_str1 _) ?_
        have hresr41 := s41 _ _ hresr40
        repeat walk_at "rd"
        refine ⟨told2, _, _, _, rfl, ⟨_, hresr41⟩, ?_⟩
        repeat walk_at "rd"
        refine r_lenS (by rw [mkS_len]; cases db <;> decide) ?_
        repeat walk_at "rd"
        rw [mkS_len]
        refine r_mulL (by cases db <;> decide) ?_
        repeat walk_at "rd"
        refine kTup_of (by rfl) fun p42 H42 hp42 s42 h42 => ?_
        have e42 : ((((madeK db).length * many + 2 : Nat)) : Int) = ((madeK db).length : Int) * (many : Int) + 2 := by rw [Int.natCast_add, Int.natCast_mul]; rfl
        refine r_neSame (d := .tuple [.int ((madeK db).length * many + 2)]) (.tup (Same.sqt ((s40.trans s41).trans s42) hpt39) (by rw [e42]; exact .cons (.int _) .nil)) (.tup (SqT.of h42) (.cons (.int _) .nil)) rfl (eqv_int1 _) ?_
        have s3942 := (s40.trans s41).trans s42
        have g242 := g239.trans (Chg.of_same s3942)
        repeat walk_at "rd"
        exact ⟨(Chg.less (ps := []) (Chg.of_same s2) g242 hbH).same, hb39.same s3942, _, _, _, _, _, _, _, _, _, _, _, rfl⟩
      · obtain ⟨s2, hb2, y1, y3, y4, y5, y6, y7, y8, y9, y10, y11, y12, rfl⟩ := p
        exact ⟨s2, _, _, _, _, _, _, _, _, _, _, _, _, rfl⟩
    · obtain ⟨s0, x1, x2, x3, x4, x5, x6, x7, x8, x9, x10, x11, x12, rfl⟩ := p
      repeat walk_at "rd"
      exact k _
end
end OB

namespace OB
open PySem PySem.Spec PyProof.Rows L2
theorem hTxt {w : World} {K : PySem.W.Frag} {h : Heap} {mg : Str → Option Value} (X : K.In h) (G : h.Ns mainGlobals mg) (c : SaysO bsA fnA tsA w K) : Txt w K mg where
  z_len := He.free_ok X G (c.b 0)
  z_abs := He.free_ok X G (c.b 1)
  z_all := He.free_ok X G (c.b 2)
  z_any := He.free_ok X G (c.b 3)
  z_isinstance := He.free_ok X G (c.b 4)
  z_sum := He.free_ok X G (c.b 5)
  z_max := He.free_ok X G (c.b 6)
  z_min := He.free_ok X G (c.b 7)
  z_divmod := He.free_ok X G (c.b 8)
  z_int := He.free_ok X G (c.b 9)
  z_str := He.free_ok X G (c.b 10)
  z_bool := He.free_ok X G (c.b 11)
  z_tuple := He.free_ok X G (c.b 12)
  z_list := He.free_ok X G (c.b 13)
  z_range := He.free_ok X G (c.b 14)
  z_enumerate := He.free_ok X G (c.b 15)
  c_ITEMS := He.str_ok X G (c.b 16)
  c_END := He.str_ok X G (c.b 17)
  c_MOST_RULES := He.int_ok X G (c.b 18)
  c_MOST_LOOPS := He.int_ok X G (c.b 19)
  c_MOST_EDITS := He.int_ok X G (c.b 20)
  c_MOST_DELETIONS := He.int_ok X G (c.b 21)
  c_MARKS := He.int_ok X G (c.b 22)
  c_LONGEST_END := He.int_ok X G (c.b 23)
  g_EDIT_KINDS := He.glo_ok X G (c.b 24)
  t_EDIT_KINDS := ktab_of (c.t 0 (t := (fun K => He.ga K "EDIT_KINDS", _)) rfl) (c.b 25)
  c_MOST_PAIRS := He.int_ok X G (c.b 26)
  c_LONGEST_PART := He.int_ok X G (c.b 27)
  c_LONGEST_TEXT := He.int_ok X G (c.b 28)
  c_MOST_TIMES := He.int_ok X G (c.b 29)
  c_END_WAY := He.str_ok X G (c.b 30)
  c_BREAK_WAY := He.str_ok X G (c.b 31)
  c_REACH := He.int_ok X G (c.b 32)
  g_is_integer := He.glo_ok X G (c.b 33)
  g_is_item := He.glo_ok X G (c.b 34)
  g_is_text := He.glo_ok X G (c.b 35)
  g_is_selection := He.glo_ok X G (c.b 36)
  g_is_edit := He.glo_ok X G (c.b 37)
  g_count_words := He.glo_ok X G (c.b 38)
  g_may_follow := He.glo_ok X G (c.b 39)
  g_are_edits := He.glo_ok X G (c.b 40)
  g_is_rule := He.glo_ok X G (c.b 41)
  g_is_loop := He.glo_ok X G (c.b 42)
  g_is_program := He.glo_ok X G (c.b 43)
  g_check_program := He.glo_ok X G (c.b 44)
  g_fitting_rule := He.glo_ok X G (c.b 45)
  g_apply_edit := He.glo_ok X G (c.b 46)
  g_is_pair := He.glo_ok X G (c.b 47)
  g_root := He.glo_ok X G (c.b 48)
  g_tidy := He.glo_ok X G (c.b 49)
  g_stretch := He.glo_ok X G (c.b 50)
  g_cut := He.glo_ok X G (c.b 51)
  g_same_items := He.glo_ok X G (c.b 52)
  g_one_pass := He.glo_ok X G (c.b 53)
  g_make_passes := He.glo_ok X G (c.b 54)
  g_joined_parts := He.glo_ok X G (c.b 55)
  g_run_loop_far := He.glo_ok X G (c.b 56)
  g_run_far := He.glo_ok X G (c.b 57)
  g__law_bag := He.glo_ok X G (c.b 58)
  g__law_take := He.glo_ok X G (c.b 59)
  g__law_text := He.glo_ok X G (c.b 60)
  g__law_pairs := He.glo_ok X G (c.b 61)
  g__law_plain := He.glo_ok X G (c.b 62)
  g__law_loop := He.glo_ok X G (c.b 63)
  g_law := He.glo_ok X G (c.b 64)
  g_BranchError := He.glo_ok X G (c.b 65)
  g_BadLoop := He.glo_ok X G (c.b 66)
  g_BadList := He.glo_ok X G (c.b 67)
  g_TooLong := He.glo_ok X G (c.b 68)
  g_Endless := He.glo_ok X G (c.b 69)
  g_NoIndex := He.glo_ok X G (c.b 70)
  g_Pass := He.glo_ok X G (c.b 71)
  cl_Pass := He.cls_ok (c.b 72)
  na_Pass_item := He.noat_ok (c.b 73)
  na_Pass_rule := He.noat_ok (c.b 74)
  na_Pass_mark := He.noat_ok (c.b 75)
  na_Pass_is_broken := He.noat_ok (c.b 76)
  in_Pass := insB_ok (c.b 77)
  ki_Pass_Repeats := kitB2_ok (c.b 78)
  ki_Pass_Result := kitB2_ok (c.b 79)
  ki_Pass_Runs := kitB2_ok (c.b 80)
  mk_Pass := He.mkr_ok (c.b 81)
  mt_Pass_carry_out := He.meth_ok (c.b 82)
  g_Runs := He.glo_ok X G (c.b 83)
  cl_Runs := He.cls_ok (c.b 84)
  na_Runs_tidied := He.noat_ok (c.b 85)
  in_Runs := insB_ok (c.b 86)
  no_Runs := noInsB_ok (c.b 87)
  ki_Runs_Repeats := kitB2_ok (c.b 88)
  ki_Runs_Result := kitB2_ok (c.b 89)
  ki_Runs_Runs := kitB2_ok (c.b 90)
  mk_Runs := He.mkr_ok (c.b 91)
  g_Repeats := He.glo_ok X G (c.b 92)
  cl_Repeats := He.cls_ok (c.b 93)
  na_Repeats_runs := He.noat_ok (c.b 94)
  in_Repeats := insB_ok (c.b 95)
  no_Repeats := noInsB_ok (c.b 96)
  ki_Repeats_Repeats := kitB2_ok (c.b 97)
  ki_Repeats_Result := kitB2_ok (c.b 98)
  ki_Repeats_Runs := kitB2_ok (c.b 99)
  mk_Repeats := He.mkr_ok (c.b 100)
  cm_Repeats_once := cmB_ok (c.b 101)
  pr_Repeats_length := propB_ok (c.b 102)
  mt_Repeats_iter := He.meth_ok (c.b 103)
  mt_Repeats_getitem := He.meth_ok (c.b 104)
  mt_Repeats_part := He.meth_ok (c.b 105)
  mt_Repeats_to_text := He.meth_ok (c.b 106)
  mt_Repeats_contains := He.meth_ok (c.b 107)
  mt_Repeats_add := He.meth_ok (c.b 108)
  ob_Repeats_add := ownBB_ok (c.b 109)
  mt_Repeats_mul := He.meth_ok (c.b 110)
  oi_Repeats_mul := ownIB_ok (c.b 111)
  mt_Repeats_eq := He.meth_ok (c.b 112)
  oe_Repeats := ownEB_ok (c.b 113)
  mt_Repeats_bool := He.meth_ok (c.b 114)
  mt_Repeats_repr := He.meth_ok (c.b 115)
  g_Result := He.glo_ok X G (c.b 116)
  cl_Result := He.cls_ok (c.b 117)
  na_Result_remains := He.noat_ok (c.b 118)
  na_Result_made := He.noat_ok (c.b 119)
  na_Result_ended := He.noat_ok (c.b 120)
  in_Result := insB_ok (c.b 121)
  no_Result := noInsB_ok (c.b 122)
  ki_Result_Repeats := kitB2_ok (c.b 123)
  ki_Result_Result := kitB2_ok (c.b 124)
  ki_Result_Runs := kitB2_ok (c.b 125)
  mk_Result := He.mkr_ok (c.b 126)
  pr_Result_text := propB_ok (c.b 127)
  pr_Result_passes := propB_ok (c.b 128)
  pr_Result_ways := propB_ok (c.b 129)
  mt_Result_eq := He.meth_ok (c.b 130)
  oe_Result := ownEB_ok (c.b 131)
  mt_Result_repr := He.meth_ok (c.b 132)
  g_Stay := He.glo_ok X G (c.b 133)
  cl_Stay := He.cls_ok (c.b 134)
  na_Stay_mark := He.noat_ok (c.b 135)
  na_Stay_held := He.noat_ok (c.b 136)
  na_Stay_is_broken := He.noat_ok (c.b 137)
  in_Stay := insB_ok (c.b 138)
  ki_Stay_Repeats := kitB2_ok (c.b 139)
  ki_Stay_Result := kitB2_ok (c.b 140)
  ki_Stay_Runs := kitB2_ok (c.b 141)
  mk_Stay := He.mkr_ok (c.b 142)
  mt_Stay_key := He.meth_ok (c.b 143)
  g_Track := He.glo_ok X G (c.b 144)
  cl_Track := He.cls_ok (c.b 145)
  na_Track_pairs := He.noat_ok (c.b 146)
  na_Track_made := He.noat_ok (c.b 147)
  in_Track := insB_ok (c.b 148)
  ki_Track_Repeats := kitB2_ok (c.b 149)
  ki_Track_Result := kitB2_ok (c.b 150)
  ki_Track_Runs := kitB2_ok (c.b 151)
  mk_Track := He.mkr_ok (c.b 152)
  mt_Track_write := He.meth_ok (c.b 153)
  mt_Track_write_round := He.meth_ok (c.b 154)
  g_Feeder := He.glo_ok X G (c.b 155)
  cl_Feeder := He.cls_ok (c.b 156)
  na_Feeder_loop := He.noat_ok (c.b 157)
  na_Feeder_known := He.noat_ok (c.b 158)
  in_Feeder := insB_ok (c.b 159)
  ki_Feeder_Repeats := kitB2_ok (c.b 160)
  ki_Feeder_Result := kitB2_ok (c.b 161)
  ki_Feeder_Runs := kitB2_ok (c.b 162)
  mk_Feeder := He.mkr_ok (c.b 163)
  mt_Feeder_feed := He.meth_ok (c.b 164)
  mt_Feeder_feed_text := He.meth_ok (c.b 165)
  mt_Feeder_feed_row := He.meth_ok (c.b 166)
  mt_Feeder_finish := He.meth_ok (c.b 167)
  d_is_integer := c.d 0 (d := do_is_integer) rfl
  d_is_item := c.d 1 (d := do_is_item) rfl
  d_is_text := c.d 2 (d := do_is_text) rfl
  d_is_selection := c.d 3 (d := do_is_selection) rfl
  d_is_edit := c.d 4 (d := do_is_edit) rfl
  d_count_words := c.d 5 (d := do_count_words) rfl
  d_may_follow := c.d 6 (d := do_may_follow) rfl
  d_are_edits := c.d 7 (d := do_are_edits) rfl
  d_is_rule := c.d 8 (d := do_is_rule) rfl
  d_is_loop := c.d 9 (d := do_is_loop) rfl
  d_is_program := c.d 10 (d := do_is_program) rfl
  d_check_program := c.d 11 (d := do_check_program) rfl
  d_fitting_rule := c.d 12 (d := do_fitting_rule) rfl
  d_apply_edit := c.d 13 (d := do_apply_edit) rfl
  d_Pass_init := c.d 14 (d := do_Pass_init) rfl
  d_Pass_carry_out := c.d 15 (d := do_Pass_carry_out) rfl
  d_is_pair := c.d 16 (d := do_is_pair) rfl
  d_root := c.d 17 (d := do_root) rfl
  d_tidy := c.d 18 (d := do_tidy) rfl
  d_stretch := c.d 19 (d := do_stretch) rfl
  d_cut := c.d 20 (d := do_cut) rfl
  d_same_items := c.d 21 (d := do_same_items) rfl
  d_Runs_init := c.d 22 (d := do_Runs_init) rfl
  d_Repeats_init := c.d 23 (d := do_Repeats_init) rfl
  d_Repeats_once := c.d 24 (d := do_Repeats_once) rfl
  d_Repeats_length := c.d 25 (d := do_Repeats_length) rfl
  d_Repeats_iter := c.d 26 (d := do_Repeats_iter) rfl
  d_Repeats_getitem := c.d 27 (d := do_Repeats_getitem) rfl
  d_Repeats_part := c.d 28 (d := do_Repeats_part) rfl
  d_Repeats_to_text := c.d 29 (d := do_Repeats_to_text) rfl
  d_Repeats_contains := c.d 30 (d := do_Repeats_contains) rfl
  d_Repeats_add := c.d 31 (d := do_Repeats_add) rfl
  d_Repeats_mul := c.d 32 (d := do_Repeats_mul) rfl
  d_Repeats_eq := c.d 33 (d := do_Repeats_eq) rfl
  d_Repeats_bool := c.d 34 (d := do_Repeats_bool) rfl
  d_Repeats_repr := c.d 35 (d := do_Repeats_repr) rfl
  d_Result_init := c.d 36 (d := do_Result_init) rfl
  d_Result_text := c.d 37 (d := do_Result_text) rfl
  d_Result_passes := c.d 38 (d := do_Result_passes) rfl
  d_Result_ways := c.d 39 (d := do_Result_ways) rfl
  d_Result_eq := c.d 40 (d := do_Result_eq) rfl
  d_Result_repr := c.d 41 (d := do_Result_repr) rfl
  d_Stay_init := c.d 42 (d := do_Stay_init) rfl
  d_Stay_key := c.d 43 (d := do_Stay_key) rfl
  d_Track_init := c.d 44 (d := do_Track_init) rfl
  d_Track_write := c.d 45 (d := do_Track_write) rfl
  d_Track_write_round := c.d 46 (d := do_Track_write_round) rfl
  d_one_pass := c.d 47 (d := do_one_pass) rfl
  d_make_passes := c.d 48 (d := do_make_passes) rfl
  d_joined_parts := c.d 49 (d := do_joined_parts) rfl
  d_Feeder_init := c.d 50 (d := do_Feeder_init) rfl
  d_Feeder_feed := c.d 51 (d := do_Feeder_feed) rfl
  d_Feeder_feed_text := c.d 52 (d := do_Feeder_feed_text) rfl
  d_Feeder_feed_row := c.d 53 (d := do_Feeder_feed_row) rfl
  d_Feeder_finish := c.d 54 (d := do_Feeder_finish) rfl
  d_run_loop_far := c.d 55 (d := do_run_loop_far) rfl
  d_run_far := c.d 56 (d := do_run_far) rfl
  d__law_bag := c.d 57 (d := do__law_bag) rfl
  d__law_take := c.d 58 (d := do__law_take) rfl
  d__law_text := c.d 59 (d := do__law_text) rfl
  d__law_pairs := c.d 60 (d := do__law_pairs) rfl
  d__law_plain := c.d 61 (d := do__law_plain) rfl
  d__law_loop := c.d 62 (d := do__law_loop) rfl
  d_law := c.d 63 (d := do_law) rfl
end OB
open PySem PySem.W PySem.Calls PyProof.Rows
theorem PySem.Challenge.cw_ownbranch_k66_breaks_far_on_holds : PySem.Challenge.rw_ownbranch_k66_breaks_far_on.Holds := by
  w_on; o_law
  refine HandSHeadRun.head_any (r := OpenLaw.row PySem.Challenge.rw_ownbranch_k66_breaks_far_on) (q := view (OpenLaw.row PySem.Challenge.rw_ownbranch_k66_breaks_far_on).prog [67]) (H := OB.hK) (ob := OB.hOb) (M := 60000) (loose := OB.lsA) (d := HandSHeadRun.topDef (OpenLaw.row PySem.Challenge.rw_ownbranch_k66_breaks_far_on).prog 67) (kwd := []) OB.hOb_eq
    (by kernel_rfl) (fun s => by kernel_rfl) OB.hRun (by kernel_rfl) (by kernel_rfl) (by kernel_rfl) (by rfl) (by first | assumption | decide +kernel) (by decide +kernel) ⟨rfl, rfl, rfl, rfl, rfl, by decide +kernel⟩ ?hw ?hc
  case hw => w_witness2
  case hc =>
    refine L2.walk_ofE (l := PySem.Challenge.rw_ownbranch_k66_breaks_far_on) (n := 63) (k := 20) (x := "_law_script") (CX := L2.CX0) rfl (by decide) (by kernel_rfl) ⟨rfl, by decide, by decide⟩ ?F (fun _ _ _ _ z => z)
    intro w mg fa h Y G hmg0
    obtain ⟨K, KX, c⟩ := Y
    have hmg : mg ("law" : PySem.Str) = some (.ref fa) := by
      have e : (HandSHeadRun.topDef (OpenLaw.row PySem.Challenge.rw_ownbranch_k66_breaks_far_on).prog 67).name = ("law" : PySem.Str) := by kernel_rfl
      rw [← e]
      exact hmg0
    have T := OB.hTxt KX G c
    obtain ⟨fd, F⟩ := T.d_law
    have e := hmg.symm.trans T.g_law
    cases e
    have b := L2.FunD.bindsA (ps := ["_law_script"]) F fun _ _ _ _ _ _ us hl => match us, hl with | [_], _ => rfl
    exact ⟨K, fd, OB.spLaw K, KX, fun s v => b s [v] rfl, fun H a ns hl _ hS => ⟨a, ns, rfl, hS, hl, fun _ => rfl⟩, fun base _ _ => OB.ok_law T F⟩

