import PyProof.Rows.All
import Wide.All
import OpenK.AllK
import Wide.FinOn
import HandS.ForMost
import HandS.IsInst
import HandS.StrMore
import HandS.Style
import HandS.Deep
import HandS.Wide
import HandS.TupAny
import HandS.ExcInit
import HandS.ExcField
import HandS.ExcIs
import HandS.ExcOwn
import HandS.WordsExc
import HandS.CallSlots
import HandS.Property
import HandS.MakeKw
import HandS.MakeKwOnly
import KE.KExcIs
import KE.KExcInit
import PyProof.ExcBaseAll.LookupError
import PyProof.ExcBaseAll.OverflowError
import HandS.Ends
import HandS.EndBits
import HandS.GenOver
import PyProof.GenRules
import PyProof.GenQ
import PyProof.GenComp
import HandS.GenBody
import HandS.GenList
import PyProof.ForAny
import PySem.Challenge.RW_roundrules_k66_subsets
set_option Elab.async false
set_option linter.all false
set_option maxRecDepth 100000
namespace G
open PySem PySem.Spec PyProof.Rows L2
theorem sz {n : Nat} (h : n ≤ 100000) : n ≤ sizeLine := Nat.le_trans h (by decide)
theorem szl {n : Nat} (h : n < 100000) : n < sizeLine := Nat.lt_of_lt_of_le h (by decide)
section
variable {X : Cx}
/-! ### rules that leave the kind open -/
def rAdd (K : PySem.W.Frag) : R2 := fun x y H Q => match x, y with
  | .int i, .int j => Q (.int (i + j)) H
  | .str i, .str j => i.length + j.length ≤ sizeLine ∧ Q (.str (i ++ j)) H
  | .ref a, .ref b => rCat (.ref a) (.ref b) H Q ∨ rCatA K (.ref a) (.ref b) H Q
  | _, _ => False
theorem gAdd : OpR X (binaryOp .Add) (rAdd X.K) := by
  intro pins s σ H x y v u Q I rx ry h
  cases x <;> cases y <;> first
    | exact h.elim
    | exact op_add pins s σ H _ _ v u Q I rx ry ⟨_, _, rfl, rfl, h⟩
    | exact op_add_str pins s σ H _ _ v u Q I rx ry ⟨_, _, rfl, rfl, h.1, h.2⟩
    | exact op_cat.or op_catA pins s σ H _ _ v u Q I rx ry h
def rSub : R2 := fun x y H Q => match x, y with
  | .int i, .int j => Q (.int (i - j)) H
  | _, _ => False
theorem gSub' : OpR X (binaryOp .Sub) rSub := by
  intro pins s σ H x y v u Q I rx ry h
  cases x <;> cases y <;> first
    | exact h.elim
    | exact op_sub pins s σ H _ _ v u Q I rx ry ⟨_, _, rfl, rfl, h⟩
def rMul : R2 := fun x y H Q => match x, y with
  | .int i, .int j => (CMul i j ∨ CMulW i j) ∧ Q (.int (i * j)) H
  | _, _ => False
theorem gMul : OpR X (binaryOp .Mult) rMul := by
  intro pins s σ H x y v u Q I rx ry h
  cases x <;> cases y <;> first
    | exact h.elim
    | (rcases h with ⟨h | h, q⟩
       · exact op_mul pins s σ H _ _ v u Q I rx ry ⟨_, _, rfl, rfl, h, q⟩
       · exact op_mulW pins s σ H _ _ v u Q I rx ry ⟨_, _, rfl, rfl, h, q⟩)
def rDiv : R2 := fun x y H Q => match x, y with
  | .int i, .int j => CDivW i j ∧ Q (.int (i / j)) H
  | _, _ => False
theorem gDiv : OpR X (binaryOp .FloorDiv) rDiv := by
  intro pins s σ H x y v u Q I rx ry h
  cases x <;> cases y <;> first
    | exact h.elim
    | exact op_fdivW pins s σ H _ _ v u Q I rx ry ⟨_, _, rfl, rfl, h.1, h.2⟩
def rMod : R2 := fun x y H Q => match x, y with
  | .int i, .int j => 0 < j ∧ Q (.int (i % j)) H
  | _, _ => False
theorem gMod : OpR X (binaryOp .Mod) rMod := by
  intro pins s σ H x y v u Q I rx ry h
  cases x <;> cases y <;> first
    | exact h.elim
    | exact op_mod pins s σ H _ _ v u Q I rx ry ⟨_, _, rfl, rfl, h.1, h.2⟩
def rPow : R2 := fun x y H Q => match x, y with
  | .int i, .int j => CPow i j ∧ Q (.int (i ^ j.toNat)) H
  | _, _ => False
theorem gPow : OpR X (binaryOp .Pow) rPow := by
  intro pins s σ H x y v u Q I rx ry h
  cases x <;> cases y <;> first
    | exact h.elim
    | exact op_pow pins s σ H _ _ v u Q I rx ry ⟨_, _, rfl, rfl, h.1, h.2⟩
def rCmp (g : Int → Int → Bool) : R2 := fun x y H Q => match x, y with
  | .int i, .int j => Q (.bl (g i j)) H
  | _, _ => False
theorem cmp_of {f : Value → Value → Sem Value} {g : Int → Int → Bool} (ho : OpR X f (rI0 fun i j => .bl (g i j))) : OpR X f (rCmp g) := by
  intro pins s σ H x y v u Q I rx ry h
  cases x <;> cases y <;> first
    | exact h.elim
    | exact ho pins s σ H _ _ v u Q I rx ry ⟨_, _, rfl, rfl, h⟩
theorem gLt : OpR X (compareOp .Lt) (rCmp fun i j => decide (i < j)) := cmp_of op_lt
theorem gLe : OpR X (compareOp .LtE) (rCmp fun i j => decide (i ≤ j)) := cmp_of op_le
theorem gGt : OpR X (compareOp .Gt) (rCmp fun i j => decide (j < i)) := cmp_of op_gt
theorem gGe : OpR X (compareOp .GtE) (rCmp fun i j => decide (j ≤ i)) := cmp_of op_ge
def rEqA (K : PySem.W.Frag) : R2 := fun x y H Q => rEq x y H Q ∨ rEqD K x y H Q
def rNeA (K : PySem.W.Frag) : R2 := fun x y H Q => rNe x y H Q ∨ rNeD K x y H Q
theorem gEq {k : Nat} (hr : Room k X.A) : OpR X (compareOp .Eq) (rEqA X.K) := op_eq.or (op_eqD hr.units)
theorem gNe {k : Nat} (hr : Room k X.A) : OpR X (compareOp .NotEq) (rNeA X.K) := op_ne.or (op_neD hr.units)
def rIsA : R2 := fun x y H Q => (y = .non ∧ Q (.bl (decide (x = .non))) H) ∨ rIsB x y H Q
def rIsNotA : R2 := fun x y H Q => (y = .non ∧ Q (.bl (!decide (x = .non))) H) ∨ rNotB x y H Q
theorem gIs : OpR X (compareOp .Is) rIsA := op_isN.or op_isBl
theorem gIsNot : OpR X (compareOp .IsNot) rIsNotA := op_notN.or op_notBl
def rInA (K : PySem.W.Frag) : R2 := fun x y H Q => (∃ (c : Nat) (z : Str), x = .str ⟨#[c]⟩ ∧ y = .str z ∧ Q (.bl (decide (c ∈ z.cps.toList))) H) ∨ rIn K false x y H Q ∨ rInD K x y H Q
def rNotInA (K : PySem.W.Frag) : R2 := fun x y H Q => (∃ (c : Nat) (z : Str), x = .str ⟨#[c]⟩ ∧ y = .str z ∧ Q (.bl (!decide (c ∈ z.cps.toList))) H) ∨ rIn K true x y H Q ∨ rNotInD K x y H Q
theorem u65 {k : Nat} {A : Around} (hr : Room k A) : A.units + 65 < cLine := by
  have := hr.un
  omega
theorem gIn {k : Nat} (hr : Room k X.A) : OpR X (compareOp .In) (rInA X.K) := op_in_sign.or (op_in_seq.or (op_inD (u65 hr)))
theorem gNotIn {k : Nat} (hr : Room k X.A) : OpR X (compareOp .NotIn) (rNotInA X.K) := op_notIn_sign.or (op_notIn_seq.or (op_notInD (u65 hr)))
def rSlG (K : PySem.W.Frag) : V → Option Int → Option Int → Hp → VK → Prop := fun x lo hi H Q => match x with
  | .str z => z.length ≤ sizeLine ∧ Q (.str (cutS z lo hi)) H
  | .ref a => rSlL K (.ref a) lo hi H Q ∨ rSlA K (.ref a) lo hi H Q
  | _ => False
theorem gSl : SlR X (rSlG X.K) := by
  intro pins s σ H x v vl vu lo hi sl Q I rx hs pl pu h
  cases x <;> first
    | exact h.elim
    | exact sl_str pins s σ H _ v vl vu lo hi sl Q I rx hs pl pu ⟨_, rfl, h.1, h.2⟩
    | exact sl_list.or sl_tupA pins s σ H _ v vl vu lo hi sl Q I rx hs pl pu h
theorem CallR.or {f : Value} {r r' : List V → Hp → VK → Prop} (h : CallR X f r) (h' : CallR X f r') : CallR X f (fun xs H Q => r xs H Q ∨ r' xs H Q) := by
  intro pins s σ H xs us Q I rv q
  rcases q with q | q
  · exact h pins s σ H xs us Q I rv q
  · exact h' pins s σ H xs us Q I rv q
def rLen (K : PySem.W.Frag) : List V → Hp → VK → Prop := fun xs H Q => match xs with
  | [.str y] => y.length ≤ sizeLine ∧ Q (.int y.length) H
  | [.ref p] => ∃ xs, (SqL K H p xs ∨ SqT K H p xs) ∧ Q (.int xs.length) H
  | _ => False
theorem gLen : CallR X (.builtin "len") (rLen X.K) := by
  intro pins s σ H xs us Q I rv h
  match xs, rv, h with
  | [.str y], rv, h => exact call_len pins s σ H _ us Q I rv ⟨_, _, rfl, ⟨h.1, rfl⟩, h.2⟩
  | [.ref p], rv, h =>
    obtain ⟨xs, h1 | h1, q⟩ := h
    · exact call_len pins s σ H _ us Q I rv ⟨_, _, rfl, .inl ⟨_, h1, rfl⟩, q⟩
    · exact call_len pins s σ H _ us Q I rv ⟨_, _, rfl, .inr ⟨_, h1, rfl⟩, q⟩
def rIsiA (K : PySem.W.Frag) : List V → Hp → VK → Prop := fun xs H Q => rIsi K xs H Q ∨ rIsiT K xs H Q
theorem gIsi : CallR X (.builtin "isinstance") (rIsiA X.K) := CallR.or call_isi call_isiT
def rIntA : List V → Hp → VK → Prop := fun xs H Q => match xs with
  | [.int i] => Q (.int i) H
  | [.bl k] => Q (.int (if k then 1 else 0)) H
  | [.str a] => ∃ n, PySem.intText? a = some n ∧ a.length ≤ 640 ∧ Q (.int n) H
  | _ => False
theorem g_int : CallR X (.type "int") rIntA := by
  intro pins s σ H xs us Q I rv h
  match xs, rv, h with
  | [.int i], rv, h => exact call_int1 pins s σ H _ us Q I rv (.inl ⟨_, rfl, h⟩)
  | [.bl i], rv, h => exact call_int1 pins s σ H _ us Q I rv (.inr ⟨_, rfl, h⟩)
  | [.str i], rv, ⟨n, h1, h2, q⟩ => exact call_int_str pins s σ H _ us Q I rv ⟨_, n, rfl, h1, h2, q⟩
def rStrA : List V → Hp → VK → Prop := fun xs H Q => match xs with
  | [.int i] => i.natAbs.log2 < 1920 ∧ Q (.str (toString i)) H
  | _ => False
theorem g_str : CallR X (.type "str") rStrA := by
  intro pins s σ H xs us Q I rv h
  match xs, rv, h with
  | [.int i], rv, h => exact call_str_int pins s σ H _ us Q I rv ⟨_, rfl, h.1, h.2⟩
def rListA (K : PySem.W.Frag) : List V → Hp → VK → Prop := fun xs H Q => match xs with
  | [.ref p] => ∃ ys, (SqL K H p ys ∨ SqT K H p ys) ∧ ∀ l, H l = none → Q (.ref l) (upd H l (.lst ys))
  | _ => False
theorem g_list : CallR X (.type "list") (rListA X.K) := by
  intro pins s σ H xs us Q I rv h
  match xs, rv, h with
  | [.ref i], rv, ⟨ys, h, q⟩ => exact call_list_of pins s σ H _ us Q I rv ⟨_, _, rfl, h, q⟩
def rTupA (K : PySem.W.Frag) : List V → Hp → VK → Prop := fun xs H Q => match xs with
  | [.ref p] => ∃ ys, (SqL K H p ys ∧ ∀ l, H l = none → Q (.ref l) (upd H l (.tup ys))) ∨ (SqT K H p ys ∧ Q (.ref p) H)
  | _ => False
theorem g_tuple : CallR X (.type "tuple") (rTupA X.K) := by
  intro pins s σ H xs us Q I rv h
  match xs, rv, h with
  | [.ref i], rv, ⟨ys, h⟩ => exact call_tuple_of pins s σ H _ us Q I rv ⟨_, _, rfl, h⟩
def rIxA (K : PySem.W.Frag) : R2 := fun x y H Q => match x, y with
  | .ref p, .int i => ∃ xs v, (SqL K H p xs ∨ SqT K H p xs) ∧ atI xs i = some v ∧ Q v H
  | .str z, .int i => z.length ≤ sizeLine ∧ ∃ c, atI z.cps.toList i = some c ∧ Q (.str ⟨#[c]⟩) H
  | _, _ => False
theorem gIx : IxR X (rIxA X.K) := by
  intro value slice pins s σ H x y v u Q I rx ry h hs
  cases x <;> cases y <;> first
    | exact h.elim
    | (obtain ⟨xs, v', h1 | h1, h2, q⟩ := h
       · exact ix_list value slice pins s σ H _ _ v u Q I rx ry ⟨_, _, _, _, rfl, rfl, h1, h2, q⟩ hs
       · exact ix_tup value slice pins s σ H _ _ v u Q I rx ry ⟨_, _, _, _, rfl, rfl, h1, h2, q⟩ hs)
    | (obtain ⟨h1, c, h2, q⟩ := h
       exact ix_str value slice pins s σ H _ _ v u Q I rx ry ⟨_, _, _, rfl, rfl, h1, h2, q⟩ hs)
/-- a built-in type's name -/
theorem gTy {x : Str} {n : String} {pos : Pos} (hg : Gl X x) (hm : X.mg x = none) (hv : bootBuiltins x = some (.type n)) (hn : x ≠ "__name__" := by decide) (hd : (x == ("__debug__" : Str)) = false := by decide) : PE X (.Name x pos) (tC (.ty n)) :=
  pe_bltn (v := .ty n) hg hm hv rfl hn hd
/-- what is walked: a list, a tuple, a text -/
def iAny (K : PySem.W.Frag) (te : TE) : TI := fun σ H R => iList K te σ H R ∨ iTup K te σ H R ∨ iStr te σ H R
theorem IT {tg e : Expr} {te : TE} (he : PE X e te) : PI X tg e (iAny X.K te) := by
  refine ⟨fun pins s σ H R I h => ?_⟩
  rcases h with h | h | h
  · exact (pi_list he).run pins s σ H R I h
  · exact (pi_tup he).run pins s σ H R I h
  · exact (pi_str he).run pins s σ H R I h
/-- a statement, then the rest, with a word between them -/
def tCut (t u : TS) : TS := fun D σ H => ∃ Mid : L2.St → Hp → Prop, t { D with nx := Mid } σ H ∧ ∀ σ' H', Mid σ' H' → u D σ' H'
theorem pss_cut {st : Stmt} {rest : List Stmt} {t u : TS} (h1 : PS X st t) (h2 : PSs X rest u) : PSs X (st :: rest) (tCut t u) := by
  refine ⟨fun pins s σ H D I h => ?_⟩
  obtain ⟨Mid, hm, hu⟩ := h
  refine wpAny_execs_cons (thn (h1.run pins s σ H { D with nx := Mid } I hm) fun f s1 q => ?_)
  cases f with
  | next =>
    obtain ⟨σ', H', I', q⟩ := q
    exact h2.run pins s1 σ' H' D I' (hu σ' H' q)
  | ret v => exact q
  | brk => exact q
  | cont => exact q
/-- an expression, a test, with a word behind it -/
def tCutE (t : TE) : TE := fun σ H Q => ∃ M : VK, t σ H M ∧ ∀ v H', M v H' → Q v H'
def tCutT (t : TT) : TT := fun σ H Q => ∃ M : Bool → Hp → Prop, t σ H M ∧ ∀ v H', M v H' → Q v H'
theorem pe_cut {e : Expr} {t : TE} (h : PE X e t) : PE X e (tCutE t) := by
  refine ⟨fun pins s σ H Q I ⟨M, hm, hu⟩ => thn (h.run pins s σ H M I hm) fun u s1 ⟨v, H1, I1, r, q⟩ => ⟨v, H1, I1, r, hu v H1 q⟩⟩
theorem pt_cut {e : Expr} {t : TT} (h : PT X e t) : PT X e (tCutT t) := by
  refine ⟨fun pins s σ H Q I ⟨M, hm, hu⟩ => thn (h.run pins s σ H M I hm) fun u s1 ⟨H1, I1, q⟩ => ⟨H1, I1, hu _ H1 q⟩⟩
theorem i_cutE {t : TE} {σ : L2.St} {H : Hp} {Q : VK} (M : VK) (hm : t σ H M) (hu : ∀ v H', M v H' → Q v H') : tCutE t σ H Q := ⟨M, hm, hu⟩
theorem i_cutT {t : TT} {σ : L2.St} {H : Hp} {Q : Bool → Hp → Prop} (M : Bool → Hp → Prop) (hm : t σ H M) (hu : ∀ v H', M v H' → Q v H') : tCutT t σ H Q := ⟨M, hm, hu⟩
/-- .. whose answer is b, leaving the heap -/
theorem i_isT {t : TT} {σ : L2.St} {H : Hp} {Q : Bool → Hp → Prop} (b : Bool) (hm : t σ H fun v H' => v = b ∧ H' = H) (hu : Q b H) : tCutT t σ H Q := ⟨_, hm, fun v H' ⟨e1, e2⟩ => by rw [e1, e2]; exact hu⟩
theorem i_isE {t : TE} {σ : L2.St} {H : Hp} {Q : VK} (x : V) (hm : t σ H fun v H' => v = x ∧ H' = H) (hu : Q x H) : tCutE t σ H Q := ⟨_, hm, fun v H' ⟨e1, e2⟩ => by rw [e1, e2]; exact hu⟩
theorem cut_seq {t u : TS} {D : Ends} {σ : L2.St} {H : Hp} (h : t { D with nx := u D } σ H) : tCut t u D σ H := ⟨u D, h, fun _ _ q => q⟩
end
/-! the same, the written part by its name (inside a comprehension) -/
section
variable {X : Cx} {K : PySem.W.Frag}
theorem kAdd (hK : X.K = K) : OpR X (binaryOp .Add) (rAdd K) := by subst hK; exact gAdd
theorem kEq {k : Nat} (hK : X.K = K) (hr : Room k X.A) : OpR X (compareOp .Eq) (rEqA K) := by subst hK; exact gEq hr
theorem kNe {k : Nat} (hK : X.K = K) (hr : Room k X.A) : OpR X (compareOp .NotEq) (rNeA K) := by subst hK; exact gNe hr
theorem kIn {k : Nat} (hK : X.K = K) (hr : Room k X.A) : OpR X (compareOp .In) (rInA K) := by subst hK; exact gIn hr
theorem kNotIn {k : Nat} (hK : X.K = K) (hr : Room k X.A) : OpR X (compareOp .NotIn) (rNotInA K) := by subst hK; exact gNotIn hr
theorem kSl (hK : X.K = K) : SlR X (rSlG K) := by subst hK; exact gSl
theorem kLen (hK : X.K = K) : CallR X (.builtin "len") (rLen K) := by subst hK; exact gLen
theorem kIsi (hK : X.K = K) : CallR X (.builtin "isinstance") (rIsiA K) := by subst hK; exact gIsi
theorem k_list (hK : X.K = K) : CallR X (.type "list") (rListA K) := by subst hK; exact g_list
theorem k_tuple (hK : X.K = K) : CallR X (.type "tuple") (rTupA K) := by subst hK; exact g_tuple
theorem kIx (hK : X.K = K) : IxR X (rIxA K) := by subst hK; exact gIx
theorem kIT {tg e : Expr} {te : TE} (hK : X.K = K) (he : PE X e te) : PI X tg e (iAny K te) := by subst hK; exact IT he
theorem kTruth {a : Expr} {ta : TE} (hK : X.K = K) (ha : PE X a ta) (he : ∀ whole, isTrue a X.env whole = (do let v ← whole; standAt a.pos; holding [v] (truthy v))) : PT X a (fun σ H Q => ta σ H fun x H' => ∃ k, TruV K x H' k ∧ Q k H') := by
  subst hK
  exact pt_truth ha he
theorem kBm {o e : Expr} {es : List Expr} {to : TE} {t : TA} {name : Str} {apos cpos : Pos} {T id : String} {r : V → List V → Hp → VK → Prop} (hK : X.K = K) (pa : PlainAttrs T) (slot : Slot T name id) (hty : typeOf (.builtin id) = pure (.type "method_descriptor")) (hm : MtR X id r) (ho : PE X o to) (ha : PA X (e :: es) t)
    (hbase : attributeBase o name X.env (eval o X.env) = eval o X.env := by rfl)
    (hfew : ((backTo cpos (starEach (e :: es) X.env)).all (fun x => !x.1) && (backToKw cpos (keywordEach [] X.env)).all (fun x => x.1.isSome)
      && decide ((e :: es).length + ([] : List Keyword).length + (if ([] : List Keyword).isEmpty then 0 else 1) < 30)) = true := by rfl)
    (hline : (apos.endLine == cpos.line) = true := by rfl) (hs : starEach (e :: es) X.env = (false, eval e X.env) :: starEach es X.env := by rfl) (hplain : (backTo cpos (starEach es X.env)).any (·.1) = false := by rfl) :
    PE X (.Call (.Attribute o name apos) (e :: es) [] cpos) (tBM K T r to t) := by
  subst hK
  exact pe_bm pa slot hty hm ho ha hbase hfew hline hs hplain
theorem kBm0 {o : Expr} {to : TE} {name : Str} {apos cpos : Pos} {T id : String} {r : V → List V → Hp → VK → Prop} (hK : X.K = K) (pa : PlainAttrs T) (slot : Slot T name id) (hty : typeOf (.builtin id) = pure (.type "method_descriptor")) (hm : MtR X id r) (ho : PE X o to)
    (hbase : attributeBase o name X.env (eval o X.env) = eval o X.env := by rfl) (hline : (apos.endLine == cpos.line) = true := by rfl) : PE X (.Call (.Attribute o name apos) [] [] cpos) (tBM0 K T r to) := by
  subst hK
  exact pe_bm0 pa slot hty hm ho hbase hline
theorem kTup {es : List Expr} {k : Nat} {t : TGs} {n : Nat} {pos : Pos} (hK : X.K = K) (hc : X.calm = true) (h : PGs X es t)
    (hn : (assignEach es X.env).length = n := by rfl) (hst : (assignEach es X.env).findIdx? (·.1) = none := by rfl) : PG X (.Tuple es k pos) (gTup K n t) := by
  subst hK
  exact pg_tup hc h hn hst
end
/-! ### a def by its name -/
structure Cal (P : Program) (w : World) (K : PySem.W.Frag) (mg : Str → Option Value) (base : Heap) (k : Nat) (x : Str) (sp : Sp) (dvs : List V) : Prop where
  ex : ∃ (f : Addr) (fd : FuncData) (ps : List Str) (ds : List Value), FnOk P w K mg base CX0 k f fd ps sp ∧ mg x = some (.ref f) ∧ PySem.W.keepIn K (.ref f) = true ∧ Binds K fd ps ds ∧ Vals dvs ds
/-- a def of the text: where it stands, how its arguments bind -/
structure Dd (K : PySem.W.Frag) (mg : Str → Option Value) (x : Str) (st : Stmt) (ps : List Str) : Prop where
  ex : ∃ (f : Addr) (fd : FuncData), Fun K x x st f fd ∧ mg x = some (.ref f) ∧ Binds K fd ps []
section
variable {P : Program} {w : World} {K : PySem.W.Frag} {mg : Str → Option Value} {base : Heap}
/-- the rule for a def -/
theorem Dd.cal {x : Str} {st : Stmt} {N ps : List Str} {k : Nat} {sp : Sp} (F : Dd K mg x st ps) (S : FnScope N ps (defScope st)) (len : ∀ vs H Q E, sp vs H Q E → vs.length = ps.length)
    (hbody : ∀ (f : Addr) (cdv : Value) (A : Around) (outer : List Env) (s : Shared) (H : Hp) (vs : List V) (Q : VK) (E : XK), Room k (A.deeper (envOfC x (defScope st) s.heap.objs.size f cdv)) → sp vs H Q E →
      ∃ t, PSs (cxOf CX0 P w K mg base N x (defScope st) f cdv A outer s H E).nox (defBody st) t ∧ t { nx := fun _ H' => Q .non H', rt := Q } (start N vs) H) : Cal P w K mg base (k + 1) x sp [] := by
  obtain ⟨f, fd, F1, hm, b⟩ := F.ex
  exact ⟨f, fd, ps, [], F1.ok S len (fun cdv A outer s H vs Q E hr h => hbody f cdv A outer s H vs Q E hr h), hm, F1.kp, b, .nil⟩
/-- the law itself -/
theorem Dd.law {x : Str} {st : Stmt} {N ps : List Str} {k : Nat} {sp : Sp} {fa : Addr} (F : Dd K mg x st ps) (S : FnScope N ps (defScope st)) (hfa : mg x = some (.ref fa)) (len : ∀ vs H Q E, sp vs H Q E → vs.length = ps.length)
    (hbody : ∀ (base : Heap) (f : Addr) (cdv : Value) (A : Around) (outer : List Env) (s : Shared) (H : Hp) (vs : List V) (Q : VK) (E : XK), Room k (A.deeper (envOfC x (defScope st) s.heap.objs.size f cdv)) → sp vs H Q E →
      ∃ t, PSs (cxOf CX0 P w K mg base N x (defScope st) f cdv A outer s H E).nox (defBody st) t ∧ t { nx := fun _ H' => Q .non H', rt := Q } (start N vs) H) :
    ∃ fd : FuncData, (∃ (kV doc pm : Value) (an : Option Addr) (cdv ct : Value), fd = PySem.W.fnOf x x (defArgs st) (defBody st) (defScope st) .none kV doc pm an cdv ct) ∧ ∀ base : Heap, FnOk P w K mg base CX0 (k + 1) fa fd ps sp := by
  obtain ⟨f, fd, F1, hm, b⟩ := F.ex
  have e := hfa.symm.trans hm
  cases e
  refine ⟨fd, ?_, fun base => F1.ok S len (fun cdv A outer s H vs Q E hr h => hbody base fa cdv A outer s H vs Q E hr h)⟩
  obtain ⟨oc, od, kV, doc, pm, an, cdv, ct, osl, rfl, lk, hcd⟩ := F1.ex
  exact ⟨kV, doc, pm, an, cdv, ct, rfl⟩
theorem cxK {CX : CXT} {N : List Str} {x : Str} {sc : Scope} {f : Addr} {cdv : Value} {A : Around} {outer : List Env} {s : Shared} {H : Hp} {E : XK} : (cxOf CX P w K mg base N x sc f cdv A outer s H E).nox.K = K := rfl
end
section
variable {X : Cx} {k j : Nat} {x : Str} {sp : Sp} {dvs : List V} {p pos : Pos} {e : Expr} {es : List Expr} {t : TA}
theorem pe_c (c : Cal X.prog X.w X.K X.mg X.base k x sp dvs) (hr : Room j X.A) (hk : k ≤ j) (hg : Gl X x) (ha : PA X (e :: es) t)
    (hdb : (x == ("__debug__" : Str)) = false := by decide) (he : starEach (e :: es) X.env = (false, eval e X.env) :: starEach es X.env := by rfl) (hpl : (backTo pos (starEach es X.env)).any (·.1) = false := by rfl) :
    PE X (.Call (.Name x p) (e :: es) [] pos) (tCall sp dvs E0 t) := by
  obtain ⟨f, fd, ps, ds, F, hm, kp, b, d⟩ := c.ex
  exact pe_call F (hr.mono hk) hg hm kp b d pass0 ha hdb he hpl
theorem pe_call0C (c : Cal X.prog X.w X.K X.mg X.base k x sp dvs) (hr : Room j X.A) (hk : k ≤ j) (hg : Gl X x)
    (hdb : (x == ("__debug__" : Str)) = false := by decide) : PE X (.Call (.Name x p) [] [] pos) (tCall sp dvs E0 tNil) := by
  obtain ⟨f, fd, ps, ds, F, hm, kp, b, d⟩ := c.ex
  exact pe_call0 F (hr.mono hk) hg hm kp b d pass0 hdb
theorem pe_gc {v : V} (hg : Gl X x) (h : ∃ u, X.mg x = some u ∧ RelV v u) (hd : (x == ("__debug__" : Str)) = false := by decide) : PE X (.Name x pos) (tC v) := by
  obtain ⟨u, hm, r⟩ := h
  exact pe_glob hg hm r hd
end
/-! ### readings, one step each -/
section
variable {K : PySem.W.Frag} {σ : L2.St} {H : Hp} {ta tb te tc to : TE} {t tr : TA} {tt tu : TT} {Q : VK} {QA : List V → Hp → Prop} {QB : Bool → Hp → Prop} {D : Ends} {u v : TS} {r r' : R2} {rc : List V → Hp → VK → Prop} {g : TG}
theorem i_var {i : Nat} {x : V} (h : σ[i]? = some (some x)) (q : Q x H) : tVar i σ H Q := ⟨x, h, q⟩
theorem i_c {x : V} (q : Q x H) : tC x σ H Q := q
theorem i_op (q : ta σ H fun x H1 => tb σ H1 fun y H2 => r x y H2 Q) : tOp r ta tb σ H Q := q
theorem i_un {ru : V → Hp → VK → Prop} (q : ta σ H fun x H1 => ru x H1 Q) : tUn ru ta σ H Q := q
theorem i_neg {i : Int} (q : Q (.int (-i)) H) : rU (fun i => .int (-i)) (.int i) H Q := ⟨i, rfl, q⟩
theorem i_cb (q : t σ H fun vs H1 => rc vs H1 Q) : tCB rc t σ H Q := q
theorem i_cons (q : ta σ H fun x H1 => tr σ H1 fun xs H2 => QA (x :: xs) H2) : tCons ta tr σ H QA := q
theorem i_nil (q : QA [] H) : tNil σ H QA := q
theorem i_test (q : te σ H fun x H' => ∃ k, x = .bl k ∧ QB k H') : tTest te σ H QB := q
theorem i_b (q : te σ H fun x H' => ∃ k, x = .bl k ∧ QB k H') : tB te σ H QB := q
theorem i_bl {b : Bool} {R : Bool → Prop} (q : R b) : ∃ k, V.bl b = .bl k ∧ R k := ⟨b, rfl, q⟩
theorem i_and (q : tt σ H fun c H1 => if c = true then tu σ H1 QB else QB false H1) : tAnd tt tu σ H QB := q
theorem i_or (q : tt σ H fun c H1 => if c = true then QB true H1 else tu σ H1 QB) : tOr tt tu σ H QB := q
theorem i_not (q : tt σ H fun c H1 => QB (!c) H1) : tNot tt σ H QB := q
theorem i_andV (q : ta σ H fun x H1 => ∃ c, x = .bl c ∧ if c = true then tb σ H1 Q else Q (.bl false) H1) : tAndV ta tb σ H Q := q
theorem i_orV (q : ta σ H fun x H1 => ∃ c, x = .bl c ∧ if c = true then Q (.bl true) H1 else tb σ H1 Q) : tOrV ta tb σ H Q := q
theorem i_notV (q : ta σ H fun x H1 => ∃ c, x = .bl c ∧ Q (.bl (!c)) H1) : tNotV ta σ H Q := q
theorem i_if (q : tt σ H fun c H1 => if c = true then ta σ H1 Q else tb σ H1 Q) : tIf tt ta tb σ H Q := q
theorem i_chain (q : ta σ H fun x H1 => tb σ H1 fun y H2 => r x y H2 fun z H3 => ∃ k, z = .bl k ∧ (if k = true then tc σ H3 fun w' H4 => r' y w' H4 Q else Q (.bl false) H3)) : tChain r r' ta tb tc σ H Q := q
theorem i_seq (q : u { D with nx := v D } σ H) : tSeq u v D σ H := q
theorem i_next (q : D.nx σ H) : tNext D σ H := q
theorem i_lst (q : t σ H fun xs H1 => xs.length ≤ sizeLine ∧ ∀ p, H1 p = none → Q (.ref p) (upd H1 p (.lst xs))) : tLst t σ H Q := q
theorem i_tup (q : t σ H fun xs H1 => xs.length ≤ sizeLine ∧ ∀ p, H1 p = none → Q (.ref p) (upd H1 p (.tup xs))) : tTup t σ H Q := q
theorem i_drop (q : te σ H fun _ H1 => D.nx σ H1) : tDrop te D σ H := q
theorem i_ret (q : te σ H D.rt) : tRet te D σ H := q
theorem i_ifS (q : tt σ H fun b H1 => if b = true then u D σ H1 else v D σ H1) : tIfS tt u v D σ H := q
theorem i_call {sp : Sp} {dvs : List V} {E : XK} (q : t σ H fun vs H1 => sp (vs ++ dvs) H1 Q E) : tCall sp dvs E t σ H Q := q
theorem i_asg (q : te σ H fun x H1 => g x σ H1 D.nx) : tAsg te g D σ H := q
theorem i_name {i : Nat} {x : V} {R : L2.St → Hp → Prop} (q : R (σ.set i (some x)) H) : gName i x σ H R := q
theorem i_start {N : List Str} {vs : List V} {τ : L2.St} {t : TS} (e : start N vs = τ) (q : t D τ H) : t D (start N vs) H := by
  subst e
  exact q
theorem i_sub {ti : TE} {ts : TSet} {x : V} {R : L2.St → Hp → Prop} (q : to σ H fun o H1 => ti σ H1 fun i H2 => ts o i x H2 fun H3 => R σ H3) : L2.gSub to ti ts x σ H R := q
theorem i_sl {rs : V → Option Int → Option Int → Hp → VK → Prop} {tl th : TO} (q : te σ H fun x H1 => tl σ H1 fun l H2 => th σ H2 fun u H3 => rs x l u H3 Q) : tSl rs te tl th σ H Q := q
theorem i_noP {QO : Option Int → Hp → Prop} (q : QO none H) : tNoPart σ H QO := q
theorem i_part {QO : Option Int → Hp → Prop} (q : te σ H fun x H1 => ∃ i, x = .int i ∧ QO (some i) H1) : tPart te σ H QO := q
theorem i_int {i : Int} {R : Int → Prop} (q : R i) : ∃ k, V.int i = .int k ∧ R k := ⟨i, rfl, q⟩
theorem i_bm {T : String} {rm : V → List V → Hp → VK → Prop} (q : to σ H fun x H1 => tyV K T x H1 ∧ t σ H1 fun xs H2 => rm x xs H2 Q) : tBM K T rm to t σ H Q := q
theorem i_strT {z : Str} {R : Prop} (q : R) : tyV K "str" (.str z) H ∧ R := ⟨rfl, q⟩
theorem i_yes {QB : Bool → Hp → Prop} (q : QB true H) : tYes σ H QB := q
theorem i_ite {p A B : Prop} [Decidable p] (h1 : p → A) (h2 : ¬ p → B) : if decide p = true then A else B := by
  by_cases h : p
  · rw [if_pos (decide_eq_true h)]
    exact h1 h
  · rw [if_neg (by rw [decide_eq_false h]; exact Bool.false_ne_true)]
    exact h2 h
theorem i_iteN {p A B : Prop} [Decidable p] (h1 : ¬ p → A) (h2 : p → B) : if (!decide p) = true then A else B := by
  by_cases h : p
  · rw [decide_eq_true h]
    exact iteF (h2 h)
  · rw [decide_eq_false h]
    exact iteT (h1 h)
theorem i_iteB {b : Bool} {A B : Prop} (h1 : b = true → A) (h2 : b = false → B) : if b = true then A else B := by
  cases b with
  | true => exact iteT (h1 rfl)
  | false => exact iteF (h2 rfl)
theorem i_iteBN {b : Bool} {A B : Prop} (h1 : b = false → A) (h2 : b = true → B) : if (!b) = true then A else B := by
  cases b with
  | true => exact iteF (h2 rfl)
  | false => exact iteT (h1 rfl)
/-- a comprehension's turns -/
def lcB (J : It) (g : TG) (tt : TT) (te : TE) (vs : List Nat) (σ : L2.St) (Q : VK) (H1 : Hp) : Prop := ∀ D, H1 D = none → ∃ W : Nat → Nat → Hp → Prop, (∃ m, W 0 m (upd H1 D (.lst []))) ∧ ∀ i m H, W i m H →
  (J.stop i H ∧ Q (.ref D) H) ∨ (J.go i H ∧ ∃ Nx : Hp → Prop, (∀ H', Nx H' → ∃ m', m' < m ∧ W (i + 1) m' H') ∧ ∀ x H', J.yld i H x H' → g x (wipe σ vs) H' fun σ2 H2 => wipe σ2 vs = wipe σ vs ∧ tt σ2 H2 fun b H3 =>
    if b = true then te σ2 H3 fun y H4 => ∃ acc, H4 D = some (.lst acc) ∧ acc.length < sizeLine ∧ Nx (upd H4 D (.lst (acc ++ [y]))) else Nx H3)
/-- a loop's turns -/
def forB (J : It) (g : TG) (tb : TS) (D : Ends) (σ : L2.St) (H1 : Hp) : Prop := ∃ W : Nat → Nat → L2.St → Hp → Prop, (∃ m, W 0 m σ H1) ∧ ∀ i m σ H, W i m σ H →
  (J.stop i H ∧ D.nx σ H) ∨ (J.go i H ∧ ∃ N : L2.St → Hp → Prop, (∀ σ' H', N σ' H' → ∃ m', m' < m ∧ W (i + 1) m' σ' H') ∧ ∀ x H', J.yld i H x H' → g x σ H' fun σ2 H2 => tb { D with nx := N, ct := N, bk := D.nx } σ2 H2)
theorem i_lc {wi : TI} {vs : List Nat} (q : wi σ H fun J H1 => lcB J g tt te vs σ Q H1) : tLc wi g tt te vs σ H Q := q
theorem i_for {wi : TI} (q : wi σ H fun J H1 => forB J g u D σ H1) : tFor wi g u D σ H := q
theorem i_anyL {R : It → Hp → Prop} (q : te σ H fun x H1 => ∃ a, x = .ref a ∧ (∃ xs, SqL K H1 a xs) ∧ R (Itl K a) H1) : iAny K te σ H R := .inl q
theorem i_anyT {R : It → Hp → Prop} (q : te σ H fun x H1 => ∃ a, x = .ref a ∧ (∃ xs, SqT K H1 a xs) ∧ R (Itt K a) H1) : iAny K te σ H R := .inr (.inl q)
theorem i_anyS {R : It → Hp → Prop} (q : te σ H fun v H1 => ∃ x, v = .str x ∧ R (Its x) H1) : iAny K te σ H R := .inr (.inr q)
theorem i_rng1 {R : It → Hp → Prop} (q : t σ H fun vs H1 => ∃ j : Int, vs = [.int j] ∧ -(2 ^ 62) ≤ j ∧ j < 2 ^ 62 ∧ R (Itr 0 j.toNat) H1) : iRng1 t σ H R := q
theorem i_rng2 {R : It → Hp → Prop} (q : t σ H fun vs H1 => ∃ i j : Int, vs = [.int i, .int j] ∧ (-(2 ^ 62) ≤ i ∧ i < 2 ^ 62 ∧ -(2 ^ 62) ≤ j ∧ j < 2 ^ 62) ∧ R (Itr i (j - i).toNat) H1) : iRng2 t σ H R := q
theorem l_rng1 {j : Int} {R : It → Hp → Prop} (h1 : -(2 ^ 62) ≤ j) (h2 : j < 2 ^ 62) (q : R (Itr 0 j.toNat) H) : ∃ k : Int, [V.int j] = [.int k] ∧ -(2 ^ 62) ≤ k ∧ k < 2 ^ 62 ∧ R (Itr 0 k.toNat) H := ⟨j, rfl, h1, h2, q⟩
/-- a range: what holds between the turns -/
theorem for_rng {n : Nat} {lo : Int} (Pv : Nat → L2.St → Hp → Prop) (h0 : Pv 0 σ H)
    (hs : ∀ i σ H, i < n → Pv i σ H → g (.int (lo + i)) σ H fun σ2 H2 => u { D with nx := Pv (i + 1), ct := Pv (i + 1), bk := D.nx } σ2 H2) (hd : ∀ σ H, Pv n σ H → D.nx σ H) : forB (Itr lo n) g u D σ H := for_range Pv h0 hs hd
theorem for_lst {a : Addr} {xs : List V} (Pv : Nat → L2.St → Hp → Prop) (h0 : Pv 0 σ H) (hl : ∀ i σ H, i ≤ xs.length → Pv i σ H → SqL K H a xs)
    (hs : ∀ i x σ H, xs[i]? = some x → Pv i σ H → g x σ H fun σ2 H2 => u { D with nx := Pv (i + 1), ct := Pv (i + 1), bk := D.nx } σ2 H2) (hd : ∀ σ H, Pv xs.length σ H → D.nx σ H) : forB (Itl K a) g u D σ H := for_list Pv h0 hl hs hd
/-- a text, sign by sign -/
theorem lc_text {x : Str} {vs : List Nat} {DD : Addr} (hD : H DD = none) (Pv : Nat → Hp → Prop) (h0 : Pv 0 (upd H DD (.lst [])))
    (hs : ∀ i c H, x.cps.toList[i]? = some c → Pv i H → g (.str ⟨#[c]⟩) (wipe σ vs) H fun σ2 H2 => wipe σ2 vs = wipe σ vs ∧ tt σ2 H2 fun b H3 =>
      if b = true then te σ2 H3 fun y H4 => ∃ acc, H4 DD = some (.lst acc) ∧ acc.length < sizeLine ∧ Pv (i + 1) (upd H4 DD (.lst (acc ++ [y]))) else Pv (i + 1) H3) (hd : ∀ H, Pv x.cps.toList.length H → Q (.ref DD) H) :
    ∃ W : Nat → Nat → Hp → Prop, (∃ m, W 0 m (upd H DD (.lst []))) ∧ ∀ i m H, W i m H →
      ((Its x).stop i H ∧ Q (.ref DD) H) ∨ ((Its x).go i H ∧ ∃ Nx : Hp → Prop, (∀ H', Nx H' → ∃ m', m' < m ∧ W (i + 1) m' H') ∧ ∀ v H', (Its x).yld i H v H' → g v (wipe σ vs) H' fun σ2 H2 => wipe σ2 vs = wipe σ vs ∧ tt σ2 H2 fun b H3 =>
        if b = true then te σ2 H3 fun y H4 => ∃ acc, H4 DD = some (.lst acc) ∧ acc.length < sizeLine ∧ Nx (upd H4 DD (.lst (acc ++ [y]))) else Nx H3) := by
  have el : x.cps.toList.length = x.cps.size := Array.length_toList
  refine ⟨fun i m H => m = x.cps.size - i ∧ i ≤ x.cps.size ∧ Pv i H, ⟨x.cps.size, by simp, Nat.zero_le _, h0⟩, ?_⟩
  rintro i m H ⟨rfl, hi, p⟩
  by_cases hlt : i < x.cps.size
  · refine .inr ⟨hlt, Pv (i + 1), fun H' p' => ⟨x.cps.size - (i + 1), by omega, rfl, hlt, p'⟩, fun v H' y => ?_⟩
    obtain ⟨rfl, c, hc, rfl⟩ := y
    exact hs i c H' (by rw [Array.getElem?_toList]; exact hc) p
  · have e : i = x.cps.size := by omega
    subst e
    exact .inl ⟨Nat.le_refl _, hd H (by rw [el]; exact p)⟩
theorem i_len {xs : List V} {R : Prop} (h : xs.length ≤ sizeLine) (q : R) : xs.length ≤ sizeLine ∧ R := ⟨h, q⟩
theorem iteNF {A B : Prop} (h : A) : if (!false) = true then A else B := h
theorem iteNT {A B : Prop} (h : B) : if (!true) = true then A else B := h
/-! leaves -/
theorem l_inT {x : V} {p : Addr} {xs : List V} (h : SqT K H p xs) (hx : flatV x = true) (ha : xs.all flatV = true) (q : Q (.bl (inV x xs)) H) : rInA K x (.ref p) H Q := .inr (.inl ⟨p, xs, rfl, .inr h, hx, ha, q⟩)
theorem l_inL {x : V} {p : Addr} {xs : List V} (h : SqL K H p xs) (hx : flatV x = true) (ha : xs.all flatV = true) (q : Q (.bl (inV x xs)) H) : rInA K x (.ref p) H Q := .inr (.inl ⟨p, xs, rfl, .inl h, hx, ha, q⟩)
theorem l_notInT {x : V} {p : Addr} {xs : List V} (h : SqT K H p xs) (hx : flatV x = true) (ha : xs.all flatV = true) (q : Q (.bl (!inV x xs)) H) : rNotInA K x (.ref p) H Q := .inr (.inl ⟨p, xs, rfl, .inr h, hx, ha, q⟩)
theorem l_notInL {x : V} {p : Addr} {xs : List V} (h : SqL K H p xs) (hx : flatV x = true) (ha : xs.all flatV = true) (q : Q (.bl (!inV x xs)) H) : rNotInA K x (.ref p) H Q := .inr (.inl ⟨p, xs, rfl, .inl h, hx, ha, q⟩)
theorem l_inC {c : Nat} {z : Str} (q : Q (.bl (decide (c ∈ z.cps.toList))) H) : rInA K (.str ⟨#[c]⟩) (.str z) H Q := .inl ⟨c, z, rfl, rfl, q⟩
theorem l_str1 {g : Str → Str → V} {a b : Str} (h : a.length ≤ sizeLine) (q : Q (g a b) H) : ∃ a' b', V.str a = .str a' ∧ [V.str b] = [.str b'] ∧ a'.length ≤ sizeLine ∧ Q (g a' b') H := ⟨a, b, rfl, rfl, h, q⟩
theorem l_addI {i j : Int} (q : Q (.int (i + j)) H) : rAdd K (.int i) (.int j) H Q := q
theorem l_addS {i j : Str} (h : i.length + j.length ≤ sizeLine) (q : Q (.str (i ++ j)) H) : rAdd K (.str i) (.str j) H Q := ⟨h, q⟩
theorem l_subI {i j : Int} (q : Q (.int (i - j)) H) : rSub (.int i) (.int j) H Q := q
theorem l_mul {i j : Int} (h : CMul i j ∨ CMulW i j) (q : Q (.int (i * j)) H) : rMul (.int i) (.int j) H Q := ⟨h, q⟩
theorem l_div {i j : Int} (h : CDivW i j) (q : Q (.int (i / j)) H) : rDiv (.int i) (.int j) H Q := ⟨h, q⟩
theorem l_mod {i j : Int} (h : 0 < j) (q : Q (.int (i % j)) H) : rMod (.int i) (.int j) H Q := ⟨h, q⟩
theorem l_pow {i j : Int} (h : CPow i j) (q : Q (.int (i ^ j.toNat)) H) : rPow (.int i) (.int j) H Q := ⟨h, q⟩
theorem l_cmp {gg : Int → Int → Bool} {i j : Int} (q : Q (.bl (gg i j)) H) : rCmp gg (.int i) (.int j) H Q := q
theorem l_eqI {i j : Int} (q : Q (.bl (decide (i = j))) H) : rEqA K (.int i) (.int j) H Q := .inl ⟨rfl, by rw [show decide (V.int i = V.int j) = decide (i = j) by simp]; exact q⟩
theorem l_eqS {i j : Str} (q : Q (.bl (decide (i = j))) H) : rEqA K (.str i) (.str j) H Q := .inl ⟨rfl, by rw [show decide (V.str i = V.str j) = decide (i = j) by simp]; exact q⟩
theorem l_eqB {i j : Bool} (q : Q (.bl (decide (i = j))) H) : rEqA K (.bl i) (.bl j) H Q := .inl ⟨rfl, by rw [show decide (V.bl i = V.bl j) = decide (i = j) by simp]; exact q⟩
theorem l_neI {i j : Int} (q : Q (.bl (!decide (i = j))) H) : rNeA K (.int i) (.int j) H Q := .inl ⟨rfl, by rw [show decide (V.int i = V.int j) = decide (i = j) by simp]; exact q⟩
theorem l_neS {i j : Str} (q : Q (.bl (!decide (i = j))) H) : rNeA K (.str i) (.str j) H Q := .inl ⟨rfl, by rw [show decide (V.str i = V.str j) = decide (i = j) by simp]; exact q⟩
theorem l_neB {i j : Bool} (q : Q (.bl (!decide (i = j))) H) : rNeA K (.bl i) (.bl j) H Q := .inl ⟨rfl, by rw [show decide (V.bl i = V.bl j) = decide (i = j) by simp]; exact q⟩
theorem l_neSelf {x : V} (h : scal x x = true) (q : Q (.bl false) H) : rNeA K x x H Q := .inl ⟨h, by rw [decide_eq_true rfl]; exact q⟩
theorem l_eqSelf {x : V} (h : scal x x = true) (q : Q (.bl true) H) : rEqA K x x H Q := .inl ⟨h, by rw [decide_eq_true rfl]; exact q⟩
theorem l_isN {x : V} (q : Q (.bl (decide (x = .non))) H) : rIsA x .non H Q := .inl ⟨rfl, q⟩
theorem l_isNotN {x : V} (q : Q (.bl (!decide (x = .non))) H) : rIsNotA x .non H Q := .inl ⟨rfl, q⟩
theorem l_isB {x y : Bool} (q : Q (.bl (decide (x = y))) H) : rIsA (.bl x) (.bl y) H Q := .inr ⟨x, y, rfl, rfl, q⟩
theorem l_isNotB {x y : Bool} (q : Q (.bl (!decide (x = y))) H) : rIsNotA (.bl x) (.bl y) H Q := .inr ⟨x, y, rfl, rfl, q⟩
theorem l_intI {i : Int} (q : Q (.int i) H) : rIntA [.int i] H Q := q
theorem l_intB {k : Bool} (q : Q (.int (if k then 1 else 0)) H) : rIntA [.bl k] H Q := q
theorem l_intS {a : Str} {n : Int} (h : PySem.intText? a = some n) (h2 : a.length ≤ 640) (q : Q (.int n) H) : rIntA [.str a] H Q := ⟨n, h, h2, q⟩
theorem l_strI {i : Int} (h : i.natAbs.log2 < 1920) (q : Q (.str (toString i)) H) : rStrA [.int i] H Q := ⟨h, q⟩
theorem l_lenS {y : Str} (h : y.length ≤ sizeLine) (q : Q (.int y.length) H) : rLen K [.str y] H Q := ⟨h, q⟩
theorem l_lenL {p : Addr} {xs : List V} (h : H p = some (.lst xs)) (q : Q (.int xs.length) H) : rLen K [.ref p] H Q := ⟨xs, .inl (SqL.of h), q⟩
theorem l_lenT {p : Addr} {xs : List V} (h : H p = some (.tup xs)) (q : Q (.int xs.length) H) : rLen K [.ref p] H Q := ⟨xs, .inr (SqT.of h), q⟩
theorem l_ixL {p : Addr} {xs : List V} {i : Int} {x : V} (h : H p = some (.lst xs)) (e : atI xs i = some x) (q : Q x H) : rIxA K (.ref p) (.int i) H Q := ⟨xs, x, .inl (SqL.of h), e, q⟩
theorem l_ixT {p : Addr} {xs : List V} {i : Int} {x : V} (h : H p = some (.tup xs)) (e : atI xs i = some x) (q : Q x H) : rIxA K (.ref p) (.int i) H Q := ⟨xs, x, .inr (SqT.of h), e, q⟩
theorem l_ixS {z : Str} {i : Int} {c : Nat} (h : z.length ≤ sizeLine) (e : atI z.cps.toList i = some c) (q : Q (.str ⟨#[c]⟩) H) : rIxA K (.str z) (.int i) H Q := ⟨h, c, e, q⟩
theorem l_slS {z : Str} {lo hi : Option Int} (h : z.length ≤ sizeLine) (q : Q (.str (cutS z lo hi)) H) : rSlG K (.str z) lo hi H Q := ⟨h, q⟩
theorem l_slL {a : Addr} {xs : List V} {lo hi : Option Int} (h : SqL K H a xs) (q : ∀ p, H p = none → Q (.ref p) (upd H p (.lst (cutV xs lo hi)))) : rSlG K (.ref a) lo hi H Q := .inl ⟨a, xs, rfl, h, q⟩
theorem l_setL {p : Addr} {xs : List V} {k : Int} {j : Nat} {x : V} {R : Hp → Prop} (h : H p = some (.lst xs)) (e : ixN xs.length k = some j) (q : R (upd H p (.lst (xs.set j x)))) : rSetL (.ref p) (.int k) x H R := ⟨p, xs, k, j, rfl, rfl, h, e, q⟩
theorem l_isi {x : V} {n : String} {tv : Value} {b : Bool} (ty : TyX K H x tv) (e : PySem.W.kitOne K tv (.type n) = some b) (q : Q (.bl b) H) : rIsiA K [x, .ty n] H Q := .inl ⟨x, .ty n, tv, .type n, b, rfl, .ty n, ty, e, q⟩
end
/-! isinstance of the plain kinds -/
theorem kt_NoneType_str {K : PySem.W.Frag} : PySem.W.kitOne K (.type "NoneType") (.type "str") = some false := kit_ty (by decide +kernel)
theorem kt_NoneType_int {K : PySem.W.Frag} : PySem.W.kitOne K (.type "NoneType") (.type "int") = some false := kit_ty (by decide +kernel)
theorem kt_NoneType_bool {K : PySem.W.Frag} : PySem.W.kitOne K (.type "NoneType") (.type "bool") = some false := kit_ty (by decide +kernel)
theorem kt_NoneType_tuple {K : PySem.W.Frag} : PySem.W.kitOne K (.type "NoneType") (.type "tuple") = some false := kit_ty (by decide +kernel)
theorem kt_NoneType_list {K : PySem.W.Frag} : PySem.W.kitOne K (.type "NoneType") (.type "list") = some false := kit_ty (by decide +kernel)
theorem kt_NoneType_dict {K : PySem.W.Frag} : PySem.W.kitOne K (.type "NoneType") (.type "dict") = some false := kit_ty (by decide +kernel)
theorem kt_bool_str {K : PySem.W.Frag} : PySem.W.kitOne K (.type "bool") (.type "str") = some false := kit_ty (by decide +kernel)
theorem kt_bool_int {K : PySem.W.Frag} : PySem.W.kitOne K (.type "bool") (.type "int") = some true := kit_ty (by decide +kernel)
theorem kt_bool_bool {K : PySem.W.Frag} : PySem.W.kitOne K (.type "bool") (.type "bool") = some true := kit_ty (by decide +kernel)
theorem kt_bool_tuple {K : PySem.W.Frag} : PySem.W.kitOne K (.type "bool") (.type "tuple") = some false := kit_ty (by decide +kernel)
theorem kt_bool_list {K : PySem.W.Frag} : PySem.W.kitOne K (.type "bool") (.type "list") = some false := kit_ty (by decide +kernel)
theorem kt_bool_dict {K : PySem.W.Frag} : PySem.W.kitOne K (.type "bool") (.type "dict") = some false := kit_ty (by decide +kernel)
theorem kt_int_str {K : PySem.W.Frag} : PySem.W.kitOne K (.type "int") (.type "str") = some false := kit_ty (by decide +kernel)
theorem kt_int_int {K : PySem.W.Frag} : PySem.W.kitOne K (.type "int") (.type "int") = some true := kit_ty (by decide +kernel)
theorem kt_int_bool {K : PySem.W.Frag} : PySem.W.kitOne K (.type "int") (.type "bool") = some false := kit_ty (by decide +kernel)
theorem kt_int_tuple {K : PySem.W.Frag} : PySem.W.kitOne K (.type "int") (.type "tuple") = some false := kit_ty (by decide +kernel)
theorem kt_int_list {K : PySem.W.Frag} : PySem.W.kitOne K (.type "int") (.type "list") = some false := kit_ty (by decide +kernel)
theorem kt_int_dict {K : PySem.W.Frag} : PySem.W.kitOne K (.type "int") (.type "dict") = some false := kit_ty (by decide +kernel)
theorem kt_str_str {K : PySem.W.Frag} : PySem.W.kitOne K (.type "str") (.type "str") = some true := kit_ty (by decide +kernel)
theorem kt_str_int {K : PySem.W.Frag} : PySem.W.kitOne K (.type "str") (.type "int") = some false := kit_ty (by decide +kernel)
theorem kt_str_bool {K : PySem.W.Frag} : PySem.W.kitOne K (.type "str") (.type "bool") = some false := kit_ty (by decide +kernel)
theorem kt_str_tuple {K : PySem.W.Frag} : PySem.W.kitOne K (.type "str") (.type "tuple") = some false := kit_ty (by decide +kernel)
theorem kt_str_list {K : PySem.W.Frag} : PySem.W.kitOne K (.type "str") (.type "list") = some false := kit_ty (by decide +kernel)
theorem kt_str_dict {K : PySem.W.Frag} : PySem.W.kitOne K (.type "str") (.type "dict") = some false := kit_ty (by decide +kernel)
theorem kt_list_str {K : PySem.W.Frag} : PySem.W.kitOne K (.type "list") (.type "str") = some false := kit_ty (by decide +kernel)
theorem kt_list_int {K : PySem.W.Frag} : PySem.W.kitOne K (.type "list") (.type "int") = some false := kit_ty (by decide +kernel)
theorem kt_list_bool {K : PySem.W.Frag} : PySem.W.kitOne K (.type "list") (.type "bool") = some false := kit_ty (by decide +kernel)
theorem kt_list_tuple {K : PySem.W.Frag} : PySem.W.kitOne K (.type "list") (.type "tuple") = some false := kit_ty (by decide +kernel)
theorem kt_list_list {K : PySem.W.Frag} : PySem.W.kitOne K (.type "list") (.type "list") = some true := kit_ty (by decide +kernel)
theorem kt_list_dict {K : PySem.W.Frag} : PySem.W.kitOne K (.type "list") (.type "dict") = some false := kit_ty (by decide +kernel)
theorem kt_tuple_str {K : PySem.W.Frag} : PySem.W.kitOne K (.type "tuple") (.type "str") = some false := kit_ty (by decide +kernel)
theorem kt_tuple_int {K : PySem.W.Frag} : PySem.W.kitOne K (.type "tuple") (.type "int") = some false := kit_ty (by decide +kernel)
theorem kt_tuple_bool {K : PySem.W.Frag} : PySem.W.kitOne K (.type "tuple") (.type "bool") = some false := kit_ty (by decide +kernel)
theorem kt_tuple_tuple {K : PySem.W.Frag} : PySem.W.kitOne K (.type "tuple") (.type "tuple") = some true := kit_ty (by decide +kernel)
theorem kt_tuple_list {K : PySem.W.Frag} : PySem.W.kitOne K (.type "tuple") (.type "list") = some false := kit_ty (by decide +kernel)
theorem kt_tuple_dict {K : PySem.W.Frag} : PySem.W.kitOne K (.type "tuple") (.type "dict") = some false := kit_ty (by decide +kernel)
theorem kt_dict_str {K : PySem.W.Frag} : PySem.W.kitOne K (.type "dict") (.type "str") = some false := kit_ty (by decide +kernel)
theorem kt_dict_int {K : PySem.W.Frag} : PySem.W.kitOne K (.type "dict") (.type "int") = some false := kit_ty (by decide +kernel)
theorem kt_dict_bool {K : PySem.W.Frag} : PySem.W.kitOne K (.type "dict") (.type "bool") = some false := kit_ty (by decide +kernel)
theorem kt_dict_tuple {K : PySem.W.Frag} : PySem.W.kitOne K (.type "dict") (.type "tuple") = some false := kit_ty (by decide +kernel)
theorem kt_dict_list {K : PySem.W.Frag} : PySem.W.kitOne K (.type "dict") (.type "list") = some false := kit_ty (by decide +kernel)
theorem kt_dict_dict {K : PySem.W.Frag} : PySem.W.kitOne K (.type "dict") (.type "dict") = some true := kit_ty (by decide +kernel)
/-- all that was known stands -/
def Ex (H H' : Hp) : Prop := ∀ a o, H a = some o → H' a = some o
theorem Ex.refl (H : Hp) : Ex H H := fun _ _ h => h
theorem Ex.trans {H H1 H2 : Hp} (a : Ex H H1) (b : Ex H1 H2) : Ex H H2 := fun x o h => b x o (a x o h)
theorem Ex.new {H : Hp} {p : Addr} {o : HO} (h : H p = none) : Ex H (upd H p o) := fun a u e => by
  rw [upd_ne (ne_of_none e h)]
  exact e
theorem Ex.mut {H H' : Hp} {p : Addr} {o : HO} (e : Ex H H') (h : H p = none) : Ex H (upd H' p o) := fun a u ha => by
  rw [upd_ne (ne_of_none ha h)]
  exact e a u ha
theorem Ex.free {H H' : Hp} (e : Ex H H') {l : Addr} (h : H' l = Option.none) : H l = Option.none := by
  cases q : H l with
  | none => rfl
  | some o =>
    rw [e l o q] at h
    cases h
/-- all but the object at st stands -/
def But (st : Addr) (H H' : Hp) : Prop := ∀ a o, a ≠ st → H a = some o → H' a = some o
theorem But.refl {st : Addr} (H : Hp) : But st H H := fun _ _ _ h => h
theorem But.trans {st : Addr} {H H1 H2 : Hp} (a : But st H H1) (b : But st H1 H2) : But st H H2 := fun x o n h => b x o n (a x o n h)
theorem Ex.but {st : Addr} {H H' : Hp} (e : Ex H H') : But st H H' := fun a o _ h => e a o h
theorem But.mut {st : Addr} {H H' : Hp} {o : HO} (e : But st H H') : But st H (upd H' st o) := fun a u n h => by
  rw [upd_ne n]
  exact e a u n h
/-! ### data -/
theorem rd_mono {H H' : Hp} {a : Addr} {u : HO} (e : Ex H H') (h : Rd H a u) : Rd H' a u := by
  rcases h with h | ⟨o, h⟩
  · exact Or.inl (e a _ h)
  · exact Or.inr ⟨o, e a _ h⟩
theorem sqL_mono {K : PySem.W.Frag} {H H' : Hp} {a : Addr} {xs : List V} (e : Ex H H') (h : SqL K H a xs) : SqL K H' a xs := by
  rcases h with h | h
  · exact Or.inl (rd_mono e h)
  · exact Or.inr h
theorem sqT_mono {K : PySem.W.Frag} {H H' : Hp} {a : Addr} {xs : List V} (e : Ex H H') (h : SqT K H a xs) : SqT K H' a xs := by
  rcases h with h | h
  · exact Or.inl (rd_mono e h)
  · exact Or.inr h
mutual
theorem dp_mono {K : PySem.W.Frag} {H H' : Hp} (e : Ex H H') : ∀ (d : PyData) (v : V), Dp K H v d → Dp K H' v d
  | .none, _, .non => .non
  | .bool _, _, .bl b => .bl b
  | .int _, _, .int b => .int b
  | .str _, _, .str b => .str b
  | .list ds, _, .lst h1 h2 => .lst (sqL_mono e h1) (dpAll_mono e ds _ h2)
  | .tuple ds, _, .tup h1 h2 => .tup (sqT_mono e h1) (dpAll_mono e ds _ h2)
theorem dpAll_mono {K : PySem.W.Frag} {H H' : Hp} (e : Ex H H') : ∀ (ds : List PyData) (vs : List V), DpAll K H vs ds → DpAll K H' vs ds
  | [], _, .nil => .nil
  | d :: ds, _, .cons h1 h2 => .cons (dp_mono e d _ h1) (dpAll_mono e ds _ h2)
end
theorem dp_ints {K : PySem.W.Frag} {H : Hp} : ∀ ns : List Int, DpAll K H (ns.map V.int) (ns.map PyData.int)
  | [] => .nil
  | n :: ns => .cons (.int n) (dp_ints ns)
theorem lay_ints : ∀ ns : List Int, PyData.canLayAll0 (ns.map PyData.int) = true
  | [] => by simp [PyData.canLayAll0]
  | n :: ns => by
    rw [List.map_cons, PyData.canLayAll0, lay_ints ns]
    simp [PyData.canLay0]
theorem depth_ints : ∀ ns : List Int, PyData.depthAll (ns.map PyData.int) ≤ 1
  | [] => by simp [PyData.depthAll]
  | n :: ns => by
    have := depth_ints ns
    rw [List.map_cons, PyData.depthAll]
    simp [PyData.depth]
    exact this
theorem sh_ints (ns : List Int) : SeqAt.shaped (.list (ns.map PyData.int)) = true := by
  unfold SeqAt.shaped
  have h := depth_ints ns
  rw [PyData.canLay0, lay_ints ns, PyData.depth]
  simp
  omega
theorem at_ints {ns : List Int} {i : Int} (h0 : 0 ≤ i) (h1 : i < (ns.length : Int)) : ∃ z, atI (ns.map V.int) i = some (.int z) := by
  obtain ⟨j, rfl⟩ := Int.eq_ofNat_of_zero_le h0
  have hj : j < ns.length := by omega
  exact ⟨ns[j], atI_nat (by rw [List.getElem?_map, List.getElem?_eq_getElem hj]; rfl)⟩
theorem l_neNil {K : PySem.W.Frag} {H : Hp} {Q : VK} {p q : Addr} {ns : List Int} (hp : H p = some (.lst (ns.map V.int))) (hq : H q = some (.lst [])) (k : Q (.bl (!decide (ns = []))) H) : rNeA K (.ref p) (.ref q) H Q := by
  refine .inr ⟨.list (ns.map .int), .list [], .lst (SqL.of hp) (dp_ints ns), .lst (SqL.of hq) .nil, sh_ints ns, sh_ints [], ?_⟩
  have e : PyData.eqv (.list (ns.map .int)) (.list []) = decide (ns = []) := by
    cases ns <;> simp [PyData.eqv, PyData.eqvAll]
  rw [e]
  exact k
/-! ### the law's own draws -/
structure Dr (H : Hp) (st : Addr) (b : Nat) : Prop where
  ex : ∃ (L : Addr) (ns : List Int) (a c : Int), H st = some (.lst [.ref L, .int a, .int c]) ∧ H L = some (.lst (ns.map V.int)) ∧ st ≠ L ∧ 0 ≤ c ∧ c ≤ (b : Int)
theorem Dr.mono {H H' : Hp} {st : Addr} {b b' : Nat} (d : Dr H st b) (e : Ex H H') (h : b ≤ b') : Dr H' st b' := by
  obtain ⟨L, ns, a, c, h1, h2, h3, h4, h5⟩ := d.ex
  exact ⟨L, ns, a, c, e _ _ h1, e _ _ h2, h3, h4, by omega⟩
theorem Dr.up {H : Hp} {st : Addr} {b b' : Nat} (d : Dr H st b) (h : b ≤ b') : Dr H st b' := d.mono (Ex.refl H) h
/-- _law_open(script) -/
def spOpen (K : PySem.W.Frag) : Sp := fun vs H Q _ => ∃ (a : Addr) (ns : List Int), vs = [.ref a] ∧ SqL K H a (ns.map V.int) ∧ ns.length ≤ 63 ∧ ∀ (st : Addr) (H' : Hp), H st = none → Dr H' st 0 → Ex H H' → Q (.ref st) H'
/-- _law_draw(state, many): any number below many -/
def spDraw : Sp := fun vs H Q _ => ∃ (st : Addr) (n : Int) (b : Nat), vs = [.ref st, .int n] ∧ 0 < n ∧ n ≤ 10 ^ 18 ∧ Dr H st b ∧ b < 2 ^ 60 ∧
  ∀ (r : Int) (H' : Hp), 0 ≤ r → r < n → Dr H' st (b + 1) → But st H H' → Q (.int r) H'
theorem draw {st : Addr} {n : Int} {b : Nat} {H : Hp} {Q : VK} {E : XK} (hd : Dr H st b) (hn : 0 < n) (hn2 : n ≤ 10 ^ 18) (hb : b < 2 ^ 60) (q : ∀ r H', 0 ≤ r → r < n → Dr H' st (b + 1) → But st H H' → Q (.int r) H') : spDraw ([.ref st, .int n] ++ []) H Q E :=
  ⟨st, n, b, rfl, hn, hn2, hd, hb, q⟩
theorem Dr.ne {H : Hp} {st p : Addr} {b : Nat} (d : Dr H st b) (h : H p = none) : p ≠ st := by
  obtain ⟨L, ns, a, c, h1, _⟩ := d.ex
  exact (ne_of_none h1 h).symm
theorem at_str {z : Str} {i : Int} (h0 : 0 ≤ i) (h1 : i < (z.length : Int)) : ∃ c, c ∈ z.cps.toList ∧ atI z.cps.toList i = some c := by
  obtain ⟨j, rfl⟩ := Int.eq_ofNat_of_zero_le h0
  have hj : j < z.cps.toList.length := by
    rw [Array.length_toList]
    show j < z.length
    omega
  exact ⟨z.cps.toList[j], List.getElem_mem hj, atI_nat (List.getElem?_eq_getElem hj)⟩
theorem at_map {α : Type} {f : α → V} {xs : List α} {i : Int} (h0 : 0 ≤ i) (h1 : i < (xs.length : Int)) : ∃ z, z ∈ xs ∧ atI (xs.map f) i = some (f z) := by
  obtain ⟨j, rfl⟩ := Int.eq_ofNat_of_zero_le h0
  have hj : j < xs.length := by omega
  exact ⟨xs[j], List.getElem_mem hj, atI_nat (by rw [List.getElem?_map, List.getElem?_eq_getElem hj]; rfl)⟩
theorem at_list {xs : List V} {i : Int} (h0 : 0 ≤ i) (h1 : i < (xs.length : Int)) : ∃ z, z ∈ xs ∧ atI xs i = some z := by
  obtain ⟨z, h, e⟩ := at_map (f := id) h0 h1
  rw [List.map_id] at e
  exact ⟨z, h, e⟩
theorem cutV_map {α : Type} (f : α → V) (xs : List α) (lo hi : Option Int) : cutV (xs.map f) lo hi = ((xs.drop (HT.sIx xs.length 0 lo)).take (HT.sIx xs.length xs.length hi - HT.sIx xs.length 0 lo)).map f := by
  unfold cutV
  rw [List.length_map, ← List.map_drop, ← List.map_take]
theorem map_at {α : Type} {f : α → V} {xs : List α} {i : Nat} {x : V} (h : (xs.map f)[i]? = some x) : ∃ z, xs[i]? = some z ∧ x = f z := by
  rw [List.getElem?_map] at h
  cases e : xs[i]? with
  | none =>
    rw [e] at h
    cases h
  | some z =>
    rw [e] at h
    exact ⟨z, rfl, (Option.some.inj h).symm⟩
theorem take_succ {α : Type} {xs : List α} {i : Nat} {z : α} (h : xs[i]? = some z) : xs.take (i + 1) = xs.take i ++ [z] := by
  rw [List.take_add_one, h]
  rfl
end G
set_option Elab.async false
set_option linter.all false
set_option maxRecDepth 100000
namespace G
open PySem PySem.Spec PyProof.Rows L2
/-! ### defs that may raise, and defs that ask that nothing is being shown (repr) around them -/
/-- a def's promise; g: it is called only where no repr is under way -/
structure Fg (P : Program) (w : World) (K : PySem.W.Frag) (mg : Str → Option Value) (base : Heap) (g : Bool) (k : Nat) (f : Addr) (fd : FuncData) (ps : List Str) (sp : Sp) : Prop where
  len : ∀ vs H Q E, sp vs H Q E → vs.length = ps.length
  go : ∀ (A : Around) (outer : List Env) (s : Shared) (H : Hp) (args : Args) (us : List Value) (vs : List V) (Q : VK) (E : XK), Room k A → (g = true → A.guards = some []) → Env0 P w K mg base A outer s H → BindsTo s fd args (ps.zip us) → Vals vs us →
    sp vs H Q E → codeAny (model P w) A (.call (.ref f) args) (CR (L2.CX P w) outer P w H s Q E) s
section
variable {P : Program} {w : World} {K : PySem.W.Frag} {mg : Str → Option Value} {base : Heap} {g : Bool} {k j : Nat} {f : Addr} {fd : FuncData} {ps : List Str} {sp : Sp}
theorem Fg.of (F : FnOk P w K mg base (L2.CX P w) k f fd ps sp) : Fg P w K mg base g k f fd ps sp := ⟨F.len, fun A outer s H args us vs Q E hr _ => F.run A outer s H args us vs Q E hr⟩
theorem cr_of0 {outer : List Env} {H : Hp} {s : Shared} {Q : VK} {E : XK} {r : Result} {s' : Shared} (h : CR CX0 outer P w H s Q E r s') : CR (L2.CX P w) outer P w H s Q E r s' := by
  cases r with
  | error e => exact (show False from h).elim
  | ok fl => cases fl <;> exact h
theorem Fg.of0 (F : FnOk P w K mg base CX0 k f fd ps sp) : Fg P w K mg base g k f fd ps sp :=
  ⟨F.len, fun A outer s H args us vs Q E hr _ e0 hb r h => codeAny_mono (F.run A outer s H args us vs Q E hr e0 hb r h) fun _ _ z => cr_of0 z⟩
theorem Fg.mono (F : Fg P w K mg base g j f fd ps sp) (h : j ≤ k) : Fg P w K mg base g k f fd ps sp := ⟨F.len, fun A outer s H args us vs Q E hr => F.go A outer s H args us vs Q E (hr.mono h)⟩
end
/-- the rule for a def's body -/
theorem fg_of {P : Program} {w : World} {K : PySem.W.Frag} {mg : Str → Option Value} {base : Heap} {g : Bool} {x qual : Str} {st : Stmt} {f : Addr} {fd : FuncData} {N ps : List Str} {k : Nat} {sp : Sp} (F : Fun K x qual st f fd) (S : FnScope N ps (defScope st))
    (len : ∀ vs H Q E, sp vs H Q E → vs.length = ps.length)
    (hbody : ∀ (cdv : Value) (A : Around) (outer : List Env) (s : Shared) (H : Hp) (vs : List V) (Q : VK) (E : XK), Room k (A.deeper (envOfC qual (defScope st) s.heap.objs.size f cdv)) →
      (g = true → (A.deeper (envOfC qual (defScope st) s.heap.objs.size f cdv)).guards = some []) → sp vs H Q E →
      ∃ t, PSs (cxOf (L2.CX P w) P w K mg base N qual (defScope st) f cdv A outer s H E) (defBody st) t ∧ t { nx := fun _ H' => Q .non H', rt := Q } (start N vs) H) : Fg P w K mg base g (k + 1) f fd ps sp := by
  obtain ⟨oc, od, kV, doc, pm, an, cdv, ct, osl, rfl, lk, hcd⟩ := F.ex
  refine ⟨len, fun A outer s H args us vs Q E hr hg e0 hb r hsp => ?_⟩
  have bk : ∀ b o, base.get? b = some o → s.heap.get? b = some o := fun b o e => (e0.bs b o e).1
  have kx := e0.mod.kin.keeps bk
  have kinds : ∀ y ∈ ps.zip us, (defScope st).names.lookup y.1 = some .local ∨ ((defScope st).names.lookup y.1 = some .cell ∧ ((cellsFrom (s.heap.objs.size + 1) (defScope st).names []).lookup y.1).isSome = true) := by
    rintro ⟨n, v⟩ hy
    have hn := S.par n (List.of_mem_zip hy).1
    exact hn.imp id fun z => ⟨z, PySem.W.cellsFrom_some _ _ _ (.inl z)⟩
  refine codeAny_call_function hr.depth (kx _ _ lk) rfl S.co S.gen rfl (PySem.W.codeRec_of kx hcd) (hb _ _ _ _ (wpAny_newFunctionEnv_cells S.kind kinds fun env he s1 z => ?_))
  subst he
  refine ⟨(e0.mod.nolimit.keeps bk).keeps z.toInCall.keep, codeAny_func ?_⟩
  obtain ⟨t, ht, hq⟩ := hbody cdv A outer s H vs Q E (hr.deeper _) (fun e => hg e) hsp
  have I : Inv (cxOf (L2.CX P w) P w K mg base N qual (defScope st) f cdv A outer s H E) [] (start N vs) H s1 := inv_start S hr.hd e0 (len _ _ _ _ hsp) r z
  refine wpAny_mono (ht.run [] s1 _ H _ I hq) (fun fl s' hs => ?_) fun e s' hs => hs
  have fin : ∀ {σ' : L2.St} {H' : Hp} {v : V} {u : Value}, Inv (cxOf (L2.CX P w) P w K mg base N qual (defScope st) f cdv A outer s H E) [] σ' H' s' → RelV v u → Q v H' → CE outer P w H s Q u s' :=
    fun {σ' H' v u} J rv q => ⟨v, H', J.os, J.bare, J.base, J.hok, rv, q⟩
  cases fl with
  | ret u => exact let ⟨v, σ', H', J, rv, q⟩ := hs; fin J rv q
  | next => exact let ⟨σ', H', J, q⟩ := hs; fin (v := V.non) (u := Value.none) J rfl q
  | brk => exact let ⟨_, _, _, q⟩ := hs; q.elim
  | cont => exact let ⟨_, _, _, q⟩ := hs; q.elim
/-! ### calls, with a wish for what is raised at the slots as they stand -/
section
variable {X : Cx} {g : Bool} {k : Nat} {f C : Addr} {fd : FuncData} {ps : List Str} {sp : Sp} {ds : List Value} {dvs : List V} {E : L2.St → XK} {pins : List (Addr × Obj)} {σ : L2.St} {H : Hp} {s : Shared} {Q : VK}
/-- a call from around A1 (the caller's, or one room deeper) -/
theorem run_at {A1 : Around} {us : List Value} {vs : List V} (F : Fg X.prog X.w X.K X.mg X.base g k f fd ps sp) (hr : Room k A1) (hg : g = true → A1.guards = some []) (hf : A1.frames = X.A.frames) (hb : Binds X.K fd ps ds) (hd : Vals dvs ds)
    (hx : PassesAt (L2.CX X.prog X.w) X σ (E σ)) (I : Inv X pins σ H s) (r : Vals vs us) (h : sp (vs ++ dvs) H Q (E σ)) : wpAny (model X.prog X.w) A1 (call (.ref f) us) (EP X pins σ Q) X.xe s := by
  have e := I.env0
  have e0 : Env0 X.prog X.w X.K X.mg X.base A1 X.stack s H := ⟨by rw [hf]; exact e.frames, e.mod, e.bs, e.bsz, e.funs, e.frf, e.hok, e.bare⟩
  have r2 := Vals.append r hd
  have hl : (us ++ ds).length = ps.length := by rw [← r2.length]; exact F.len _ _ _ _ h
  refine wpAny_call (codeAny_mono (F.go A1 X.stack s H ⟨us, []⟩ _ _ Q (E σ) hr hg e0 (hb s us I.kIn hl) r2 h) fun r s' hq => ?_)
  cases r with
  | error e => exact hx pins H s e s' I hq
  | ok fl =>
    cases fl with
    | ret u => exact I.after hq
    | next => exact False.elim hq
    | brk => exact False.elim hq
    | cont => exact False.elim hq
/-- a new instance, then its __init__ (n + 1 values by place, keywords ks) -/
theorem make_at {n : Nat} {ks : List Str} {gg : List Value → List Value → List Value} {gV : List V → List V → List V} {us ws : List Value} {vs zs : List V} (M : Mk X.K C f) (F : Fg X.prog X.w X.K X.mg X.base false k f fd ps sp) (hr : Room (k + 1) X.A)
    (hb : KBn X.K fd ps (n + 1) ks gg gV) (hx : PassesAt (L2.CX X.prog X.w) X σ (E σ)) (I : Inv X pins σ H s) (r : Vals vs us) (rz : Vals zs ws) (l1 : vs.length = n) (l2 : zs.length = ks.length)
    (h : ∀ x dx, H x = none → H dx = none → dx ≠ x → sp (gV (.ref x :: vs) zs) (upd (upd H dx (.own x)) x (.ins C dx [])) (fun v H2 => v = .non ∧ Q (.ref x) H2) (E σ)) :
    wpAny (model X.prog X.w) X.A (call (.ref C) us (ks.zip ws)) (EP X pins σ Q) X.xe s := by
  have I2 := Inv.made (C := C) I
  have hq := h (s.heap.objs.size + 1) s.heap.objs.size (I.hok.fresh (Nat.le_succ _)) (I.hok.fresh (Nat.le_refl _)) (Nat.ne_of_lt (Nat.lt_succ_self _))
  have r1 : Vals (V.ref (s.heap.objs.size + 1) :: vs) (Value.ref (s.heap.objs.size + 1) :: us) := .cons rfl r
  have n1 : (Value.ref (s.heap.objs.size + 1) :: us).length = n + 1 := r1.length.symm.trans (congrArg (· + 1) l1)
  refine wpAny_call (make_map (f := f) I.kIn M.makes M.init (beq_iff_eq.mp M.fn) (codeAny_mono (F.go _ X.stack _ _ ⟨Value.ref (s.heap.objs.size + 1) :: us, ks.zip ws⟩ _ _ _ (E σ) (hr.make C us (ks.zip ws))
    (fun e => nomatch e) (I2.env0.make C us (ks.zip ws)) (hb.to _ _ ws I2.kIn n1 (rz.length.symm.trans l2)) (hb.rel r1 rz) hq) fun r s' hq' => ?_))
  cases r with
  | error e => exact hx pins _ _ e s' I2 hq'
  | ok fl =>
    cases fl with
    | ret u =>
      obtain ⟨v, H', I3, rv, ev, q3⟩ := I2.after hq'
      subst ev
      exact ⟨rv, ⟨V.ref (s.heap.objs.size + 1), H', I3, rfl, q3⟩⟩
    | next => exact False.elim hq'
    | brk => exact False.elim hq'
    | cont => exact False.elim hq'
/-- a def called with n values by place and keywords ks -/
theorem call_at {n : Nat} {ks : List Str} {gg : List Value → List Value → List Value} {gV : List V → List V → List V} {A1 : Around} {us ws : List Value} {vs zs : List V} (F : Fg X.prog X.w X.K X.mg X.base g k f fd ps sp) (hr : Room k A1) (hg : g = true → A1.guards = some [])
    (hf : A1.frames = X.A.frames) (hb : KBn X.K fd ps n ks gg gV) (hx : PassesAt (L2.CX X.prog X.w) X σ (E σ)) (I : Inv X pins σ H s) (r : Vals vs us) (rz : Vals zs ws) (l1 : vs.length = n) (l2 : zs.length = ks.length)
    (h : sp (gV vs zs) H Q (E σ)) : wpAny (model X.prog X.w) A1 (call (.ref f) us (ks.zip ws)) (EP X pins σ Q) X.xe s := by
  have e := I.env0
  have e0 : Env0 X.prog X.w X.K X.mg X.base A1 X.stack s H := ⟨by rw [hf]; exact e.frames, e.mod, e.bs, e.bsz, e.funs, e.frf, e.hok, e.bare⟩
  refine wpAny_call (codeAny_mono (F.go A1 X.stack s H ⟨us, ks.zip ws⟩ _ _ Q (E σ) hr hg e0 (hb.to s us ws I.kIn (r.length.symm.trans l1) (rz.length.symm.trans l2)) (hb.rel r rz) h) fun r s' hq => ?_)
  cases r with
  | error e => exact hx pins H s e s' I hq
  | ok fl =>
    cases fl with
    | ret u => exact I.after hq
    | next => exact False.elim hq
    | brk => exact False.elim hq
    | cont => exact False.elim hq
end
/-! ### defs, classes, methods by their names -/
structure CalG (P : Program) (w : World) (K : PySem.W.Frag) (mg : Str → Option Value) (base : Heap) (g : Bool) (k : Nat) (x : Str) (sp : Sp) (n : Nat) (ks : List Str) (gV : List V → List V → List V) : Prop where
  ex : ∃ (f : Addr) (fd : FuncData) (ps : List Str) (gg : List Value → List Value → List Value), Fg P w K mg base g k f fd ps sp ∧ mg x = some (.ref f) ∧ PySem.W.keepIn K (.ref f) = true ∧ KBn K fd ps n ks gg gV
structure MakG (P : Program) (w : World) (K : PySem.W.Frag) (mg : Str → Option Value) (base : Heap) (k : Nat) (x : Str) (C : Addr) (sp : Sp) (n : Nat) (ks : List Str) (gV : List V → List V → List V) : Prop where
  ex : ∃ (f : Addr) (fd : FuncData) (ps : List Str) (gg : List Value → List Value → List Value), Mk K C f ∧ Fg P w K mg base false k f fd ps sp ∧ mg x = some (.ref C) ∧ KBn K fd ps (n + 1) ks gg gV
structure MetG (P : Program) (w : World) (K : PySem.W.Frag) (mg : Str → Option Value) (base : Heap) (g : Bool) (k : Nat) (C : Addr) (m : Str) (sp : Sp) (ps : List Str) : Prop where
  ex : ∃ (f : Addr) (fd : FuncData), Cls K C ∧ Meth K C m f ∧ PySem.W.fnIn K f = true ∧ Fg P w K mg base g k f fd ps sp ∧ Binds K fd ps []
def tCS (n m : Nat) (sp : Sp) (gV : List V → List V → List V) (E : L2.St → XK) (t tk : TA) : TE := fun σ H Q => t σ H fun vs H1 => tk σ H1 fun zs H2 => vs.length = n ∧ zs.length = m ∧ sp (gV vs zs) H2 Q (E σ)
def tMkS (C : Addr) (n m : Nat) (sp : Sp) (gV : List V → List V → List V) (E : L2.St → XK) (t tk : TA) : TE := fun σ H Q => t σ H fun vs H1 => tk σ H1 fun zs H2 => vs.length = n ∧ zs.length = m ∧ ∀ x dx, H2 x = none → H2 dx = none → dx ≠ x →
  sp (gV (.ref x :: vs) zs) (upd (upd H2 dx (.own x)) x (.ins C dx [])) (fun v H3 => v = .non ∧ Q (.ref x) H3) (E σ)
def tMtS (C : Addr) (m : Str) (sp : Sp) (E : L2.St → XK) (ta : TE) (t : TA) : TE := fun σ H Q => ta σ H fun x H1 => ∃ a dx fs, x = .ref a ∧ H1 a = some (.ins C dx fs) ∧ fs.lookup m = none ∧ t σ H1 fun vs H2 => sp (.ref a :: vs) H2 Q (E σ)
section
variable {X : Cx} {g : Bool} {k j n : Nat} {C : Addr} {x m : Str} {sp : Sp} {ps ks : List Str} {W : WX} {gV : List V → List V → List V} {p pos apos : Pos} {e o : Expr} {es : List Expr} {kws : List Keyword} {ta : TE} {t tz : TA}
theorem pe_cS (c : CalG X.prog X.w X.K X.mg X.base g k x sp n [] gV) (hr : Room j X.A) (hk : k ≤ j) (gd : g = true → X.A.guards = some []) (tk : Takes X W) (hg : Gl X x) (ha : PA X (e :: es) t)
    (hdb : (x == ("__debug__" : Str)) = false := by decide) (he : starEach (e :: es) X.env = (false, eval e X.env) :: starEach es X.env := by rfl) (hpl : (backTo pos (starEach es X.env)).any (·.1) = false := by rfl) :
    PE X (.Call (.Name x p) (e :: es) [] pos) (tCS n 0 sp gV (WE W) t tNil) := by
  obtain ⟨f, fd, ps, gg, F, hm, kp, b⟩ := c.ex
  refine ⟨fun pins s σ H Q I h => wpAny_Call_Name_kw (ld_glob I hg hm ?_ hdb)⟩
  refine PySem.W.callWith_K (h₀ := X.base) I.ok.mod.kin kp (thn (ha.run pos pins s σ H _ I h) fun us s1 ⟨vs, H1, I1, r, l1, l2, q⟩ => ⟨I1.kIn, ?_⟩) he hpl
  exact call_at (ws := []) (zs := []) F (hr.mono hk) gd rfl b (passAt tk σ) I1 r .nil l1 rfl q
theorem pe_cS0 (c : CalG X.prog X.w X.K X.mg X.base g k x sp 0 [] gV) (hr : Room j X.A) (hk : k ≤ j) (gd : g = true → X.A.guards = some []) (tk : Takes X W) (hg : Gl X x)
    (hdb : (x == ("__debug__" : Str)) = false := by decide) : PE X (.Call (.Name x p) [] [] pos) (tCS 0 0 sp gV (WE W) tNil tNil) := by
  obtain ⟨f, fd, ps, gg, F, hm, kp, b⟩ := c.ex
  refine ⟨fun pins s σ H Q I h => wpAny_Call_Name_kw (ld_glob I hg hm ?_ hdb)⟩
  exact PySem.W.callWith_K0 I.kIn kp (call_at (us := []) (vs := []) (ws := []) (zs := []) F (hr.mono hk) gd rfl b (passAt tk σ) I .nil .nil rfl rfl h.2.2)
theorem pe_cSK (c : CalG X.prog X.w X.K X.mg X.base g k x sp n ks gV) (hr : Room j X.A) (hk : k ≤ j) (gd : g = true → X.A.guards = some []) (tk : Takes X W) (hg : Gl X x) (ha : PA X (e :: es) t) (hkw : PK X kws tz)
    (hall : (backToKw pos (keywordEach kws X.env)).all (·.1.isSome) = true := by rfl) (hks : (backToKw pos (keywordEach kws X.env)).filterMap (·.1) = ks := by rfl) (hdb : (x == ("__debug__" : Str)) = false := by decide)
    (he : starEach (e :: es) X.env = (false, eval e X.env) :: starEach es X.env := by rfl) (hpl : ((backTo pos (starEach (e :: es) X.env)).any (·.1) || (backToKw pos (keywordEach kws X.env)).any (·.1.isNone)) = false := by rfl) :
    PE X (.Call (.Name x p) (e :: es) kws pos) (tCS n ks.length sp gV (WE W) t tz) := by
  obtain ⟨f, fd, ps, gg, F, hm, kp, b⟩ := c.ex
  refine ⟨fun pins s σ H Q I h => wpAny_Call_Name_kw (ld_glob I hg hm ?_ hdb)⟩
  refine PySem.W.callWith_KW (h₀ := X.base) I.ok.mod.kin kp hall (thn (ha.run pos pins s σ H _ I h) fun us s1 ⟨vs, H1, I1, r, q⟩ => ?_) hpl he
  refine thn (hkw.run pos pins s1 σ H1 _ I1 q) fun ws s2 ⟨zs, H2, I2, rz, l1, l2, q2⟩ => ⟨I2.kIn, ?_⟩
  rw [hks]
  exact call_at F (hr.mono hk) gd rfl b (passAt tk σ) I2 r rz l1 l2 q2
theorem pe_mkS (c : MakG X.prog X.w X.K X.mg X.base k x C sp n [] gV) (hr : Room j X.A) (hk : k + 1 ≤ j) (tk : Takes X W) (hg : Gl X x) (ha : PA X (e :: es) t)
    (hdb : (x == ("__debug__" : Str)) = false := by decide) (he : starEach (e :: es) X.env = (false, eval e X.env) :: starEach es X.env := by rfl) (hpl : (backTo pos (starEach es X.env)).any (·.1) = false := by rfl) :
    PE X (.Call (.Name x p) (e :: es) [] pos) (tMkS C n 0 sp gV (WE W) t tNil) := by
  obtain ⟨f, fd, ps, gg, M, F, hm, b⟩ := c.ex
  refine ⟨fun pins s σ H Q I h => wpAny_Call_Name_kw (ld_glob I hg hm ?_ hdb)⟩
  refine PySem.W.callWith_K (h₀ := X.base) I.ok.mod.kin M.kp (thn (ha.run pos pins s σ H _ I h) fun us s1 ⟨vs, H1, I1, r, l1, l2, q⟩ => ⟨I1.kIn, ?_⟩) he hpl
  exact make_at (ws := []) (zs := []) M F (hr.mono hk) b (passAt tk σ) I1 r .nil l1 rfl q
theorem pe_mkS0 (c : MakG X.prog X.w X.K X.mg X.base k x C sp 0 [] gV) (hr : Room j X.A) (hk : k + 1 ≤ j) (tk : Takes X W) (hg : Gl X x)
    (hdb : (x == ("__debug__" : Str)) = false := by decide) : PE X (.Call (.Name x p) [] [] pos) (tMkS C 0 0 sp gV (WE W) tNil tNil) := by
  obtain ⟨f, fd, ps, gg, M, F, hm, b⟩ := c.ex
  refine ⟨fun pins s σ H Q I h => wpAny_Call_Name_kw (ld_glob I hg hm ?_ hdb)⟩
  exact PySem.W.callWith_K0 I.kIn M.kp (make_at (us := []) (vs := []) (ws := []) (zs := []) M F (hr.mono hk) b (passAt tk σ) I .nil .nil rfl rfl h.2.2)
theorem pe_mkSK (c : MakG X.prog X.w X.K X.mg X.base k x C sp n ks gV) (hr : Room j X.A) (hk : k + 1 ≤ j) (tk : Takes X W) (hg : Gl X x) (ha : PA X (e :: es) t) (hkw : PK X kws tz)
    (hall : (backToKw pos (keywordEach kws X.env)).all (·.1.isSome) = true := by rfl) (hks : (backToKw pos (keywordEach kws X.env)).filterMap (·.1) = ks := by rfl) (hdb : (x == ("__debug__" : Str)) = false := by decide)
    (he : starEach (e :: es) X.env = (false, eval e X.env) :: starEach es X.env := by rfl) (hpl : ((backTo pos (starEach (e :: es) X.env)).any (·.1) || (backToKw pos (keywordEach kws X.env)).any (·.1.isNone)) = false := by rfl) :
    PE X (.Call (.Name x p) (e :: es) kws pos) (tMkS C n ks.length sp gV (WE W) t tz) := by
  obtain ⟨f, fd, ps, gg, M, F, hm, b⟩ := c.ex
  refine ⟨fun pins s σ H Q I h => wpAny_Call_Name_kw (ld_glob I hg hm ?_ hdb)⟩
  refine PySem.W.callWith_KW (h₀ := X.base) I.ok.mod.kin M.kp hall (thn (ha.run pos pins s σ H _ I h) fun us s1 ⟨vs, H1, I1, r, q⟩ => ?_) hpl he
  refine thn (hkw.run pos pins s1 σ H1 _ I1 q) fun ws s2 ⟨zs, H2, I2, rz, l1, l2, q2⟩ => ⟨I2.kIn, ?_⟩
  rw [hks]
  exact make_at M F (hr.mono hk) b (passAt tk σ) I2 r rz l1 l2 q2
theorem pe_mkSK0 (c : MakG X.prog X.w X.K X.mg X.base k x C sp 0 ks gV) (hr : Room j X.A) (hk : k + 1 ≤ j) (tk : Takes X W) (hg : Gl X x) (hkw : PK X kws tz)
    (hall : (backToKw pos (keywordEach kws X.env)).all (·.1.isSome) = true := by rfl) (hks : (backToKw pos (keywordEach kws X.env)).filterMap (·.1) = ks := by rfl) (hdb : (x == ("__debug__" : Str)) = false := by decide)
    (hpl : ((backTo pos (starEach [] X.env)).any (·.1) || (backToKw pos (keywordEach kws X.env)).any (·.1.isNone)) = false := by rfl) :
    PE X (.Call (.Name x p) [] kws pos) (tMkS C 0 ks.length sp gV (WE W) tNil tz) := by
  obtain ⟨f, fd, ps, gg, M, F, hm, b⟩ := c.ex
  refine ⟨fun pins s σ H Q I h => wpAny_Call_Name_kw (ld_glob I hg hm ?_ hdb)⟩
  refine PySem.W.callWith_KW0 (h₀ := X.base) I.ok.mod.kin M.kp hall ?_ hpl
  refine thn (hkw.run pos pins s σ H _ I h) fun ws s2 ⟨zs, H2, I2, rz, l1, l2, q2⟩ => ⟨I2.kIn, ?_⟩
  rw [hks]
  exact make_at (us := []) (vs := []) M F (hr.mono hk) b (passAt tk σ) I2 .nil rz rfl l2 q2
theorem pe_mtS {pl : Sem Bool} (c : MetG X.prog X.w X.K X.mg X.base g k C m sp ps) (hr : Room j X.A) (hk : k ≤ j) (gd : g = true → X.A.guards = some []) (tk : Takes X W) (he : PE X o ta) (ha : PA X (e :: es) t)
    (hst : starEach (e :: es) X.env = (false, eval e X.env) :: starEach es X.env := by rfl) (hpl : (backTo pos (starEach es X.env)).any (·.1) = false := by rfl)
    (ht : eval (.Call (.Attribute o m apos) (e :: es) [] pos) X.env = (do
      let ov ← eval o X.env
      standAt apos.atName
      let (f, first) ← holding [ov] (getMethod ov m pl)
      callWith pos f first (backTo pos (starEach (e :: es) X.env)) (backToKw pos (keywordEach [] X.env))) := by rfl) :
    PE X (.Call (.Attribute o m apos) (e :: es) [] pos) (tMtS C m sp (WE W) ta t) := by
  obtain ⟨f, fd, hc, hm, _, F, b⟩ := c.ex
  refine ⟨fun pins s σ H Q I h => PySem.W.methodCall_KW (pl := pl) (thn (he.run pins s σ H _ I h) fun u s1 ⟨x, H1, I1, rx, a, dx, fs, ex, ea, l, q⟩ => ?_) ht⟩
  subst ex
  obtain rfl : u = Value.ref a := rx
  refine getmeth_ok I1 ea hc hm l ?_
  refine PySem.W.callWith_K (first := [.ref a]) (h₀ := X.base) I.ok.mod.kin hm.kp (thn (ha.run pos pins s1 σ H1 _ I1 q) fun us s2 ⟨vs, H2, I2, r, q2⟩ => ⟨I2.kIn, ?_⟩) hst hpl
  exact run_at (us := .ref a :: us) (vs := .ref a :: vs) (ds := []) (dvs := []) F (hr.mono hk) gd rfl b .nil (passAt tk σ) I2 (.cons rfl r) (by rw [List.append_nil]; exact q2)
theorem pe_mtS0 {pl : Sem Bool} (c : MetG X.prog X.w X.K X.mg X.base g k C m sp ps) (hr : Room j X.A) (hk : k ≤ j) (gd : g = true → X.A.guards = some []) (tk : Takes X W) (he : PE X o ta)
    (ht : eval (.Call (.Attribute o m apos) [] [] pos) X.env = (do
      let ov ← eval o X.env
      standAt apos.atName
      let (f, first) ← holding [ov] (getMethod ov m pl)
      callWith pos f first (backTo pos (starEach [] X.env)) (backToKw pos (keywordEach [] X.env))) := by rfl) :
    PE X (.Call (.Attribute o m apos) [] [] pos) (tMtS C m sp (WE W) ta tNil) := by
  obtain ⟨f, fd, hc, hm, _, F, b⟩ := c.ex
  refine ⟨fun pins s σ H Q I h => PySem.W.methodCall_KW (pl := pl) (thn (he.run pins s σ H _ I h) fun u s1 ⟨x, H1, I1, rx, a, dx, fs, ex, ea, l, q⟩ => ?_) ht⟩
  subst ex
  obtain rfl : u = Value.ref a := rx
  refine getmeth_ok I1 ea hc hm l ?_
  exact PySem.W.callWith_K0 (first := [.ref a]) I1.kIn hm.kp (run_at (us := [.ref a]) (vs := [.ref a]) (ds := []) (dvs := []) F (hr.mono hk) gd rfl b .nil (passAt tk σ) I1 (.cons rfl .nil) q)
end
end G
set_option Elab.async false
set_option linter.all false
set_option maxRecDepth 100000
namespace G
open PySem PySem.Spec PyProof.Rows L2
/-! ### an own exception class over any built-in one that the facts know -/
namespace OX
open PySem.HandSPX PySem.W PySem.Calls Builtin Builtin.ObjectAttr
def RefsT (tl l : List Value) : Prop := ∃ cs : List Addr, l = cs.map Value.ref ++ tl
theorem RefsT.cons {tl l : List Value} (h : RefsT tl l) (c : Addr) : RefsT tl (.ref c :: l) := let ⟨cs, e⟩ := h; ⟨c :: cs, by rw [e]; rfl⟩
theorem RefsT.has {tl l : List Value} (h : RefsT tl l) (X : String) : l.contains (.type X) = tl.contains (.type X) := by
  obtain ⟨cs, rfl⟩ := h
  induction cs with
  | nil => rfl
  | cons c cs ih => rw [List.map_cons, List.cons_append, List.contains_cons, ih]; rfl
theorem RefsT.pass {tl l : List Value} {self : Value} (h : RefsT tl l) (ht : refuseLoop self "__setattr__" tl = pure ()) : refuseLoop self "__setattr__" l = pure () := by
  obtain ⟨cs, rfl⟩ := h
  induction cs with
  | nil => exact ht
  | cons c cs ih => rw [List.map_cons, List.cons_append, refuseLoop_ref]; exact ih
theorem osa_first {prog : Program} {w : World} {A : Around} {R : Result → Shared → Prop} {hp : Heap} {g : Array GenState} {d : Drawn} {t : Nat} {os : OsState} {K : W.Frag} {name : Str} {tk : Tok} {v : Value} {x C : Addr} {fv : Array Value} {cd : ClassData} {tl : List Value}
    (X : K.In hp) (hx : hp.get? x = some { cls := .ref C, data := .fields fv }) (hcd : W.clsIn K C = some cd) (hm : RefsT tl cd.mro) (hps : ∀ self, refuseLoop self "__setattr__" tl = pure ()) (hto : tl.contains (.type "object") = true) (hh : cd.hasDict = true) (ha : W.findIn K (.ref C) name = some none)
    (hq : ∀ h' tk' dx, (∀ b o, b ≠ x → hp.get? b = some o → h'.get? b = some o) → hp.objs.size ≤ dx → dx ≠ x → h'.get? x = some { cls := .ref C, dict := some dx, data := .fields fv } →
      h'.Ns1 dx (fun y => if y = name then some v else none) → R (.ok (.ret .none)) ⟨h', g, d, tk', os⟩) :
    codeAny (model prog w) A (.call (.builtin "object.__setattr__") ⟨[.ref x, .str name tk, v], []⟩) R ⟨hp, g, d, t, os⟩ := by
  have I : W.InstAt hp x { cls := .ref C, data := .fields fv } C none := ⟨hx, rfl, rfl, trivial⟩
  have SF := F.store_object
  have hob : cd.mro.contains (.type "object") = true := (hm.has "object").trans hto
  have ne : cd.mro.isEmpty = false := by
    cases h : cd.mro with
    | nil => rw [h] at hob; cases hob
    | cons _ _ => rfl
  have hxs : x ≠ hp.objs.size := Nat.ne_of_lt (Heap.lt_size hx)
  have sub : W.Looks (model prog w) hp (isInstance (.ref x) (.type "object")) true := I.type.andThen (W.looks_mroIn X (by unfold W.mroIn; rw [hcd, Option.bind_some, if_neg (by rw [ne]; decide), hob]))
  refine codeAny_call_builtin SF.slot.plain SF.entry (@W.check_slot (model prog w) _ _ ⟨hp, g, d, t, os⟩ "object.__setattr__" "object" "__setattr__" (.ref x) [.str name tk, v] [] _ SF.kind SF.split sub (SF.args (.ref x) (.str name tk) v) ?_)
  have hmr : W.Looks (model prog w) hp (mroOf (.ref C)) cd.mro := (W.looks_clsIn X hcd).andThen .now
  have L3 : W.Looks (model prog w) hp (storeTaker? none) none := .now
  have hcls : W.Looks (model prog w) hp (classData C) cd := W.looks_clsIn X hcd
  rw [W.osa_eq, refuse_eq]
  refine wpAny_bind (wpAny_bind (I.type.at (wpAny_bind (hmr.at ?_))))
  rw [hm.pass (hps _)]
  refine wpAny_pure (wpAny_bind (I.type.at (wpAny_bind ((W.looks_findIn X ha).at (wpAny_bind (L3.at ?_))))))
  show wpAny _ _ (storeInOwnDict (.ref x) (.ref C) (.str name tk) name v false) _ _ _
  obtain ⟨nm, bs, mro, ns, qn, hd, sn, sb, ab, col, del⟩ := cd
  dsimp only at hh
  subst hh
  unfold storeInOwnDict ownDictForStores
  repeat (first | with_reducible refine store_in_new ?_ ?_ | with_reducible refine wpAny_loadPart_at hx ?_ | with_reducible refine hcls.at ?_ | wp_step)
  · exact ⟨_, #[], _, (Heap.get?_update_ne _ _ _ _ hxs.symm).trans (Heap.get?_push_at rfl rfl), rfl, fun e he => absurd he (by simp), fun _ => rfl⟩
  · intro h' tk' hn' hs
    have hx₁ : (hp.push { cls := .type "dict", data := .dict #[] }).get? x = some { cls := .ref C, data := .fields fv } := Heap.get?_push_of_some _ hx
    refine hq h' tk' hp.objs.size (fun b o hb ho => ?_) (Nat.le_refl _) hxs.symm ?_ hn'
    · exact (hs.2 b (Nat.ne_of_lt (Heap.lt_size ho))).trans ((Heap.get?_update_ne _ _ _ _ hb).trans (Heap.get?_push_of_some _ ho))
    · exact (hs.2 x hxs).trans (Heap.get?_update_self _ hx₁ rfl)
end OX
structure ExN (B newId initId : String) (tl : List Value) : Prop where
  base : ∃ bB, ExcBaseFacts B newId initId bB
  hasB : tl.contains (.type B) = true
  noA : tl.contains (.type "AttributeError") = false
  noN : tl.contains (.type "NameError") = false
theorem exN {B newId initId : String} {tl : List Value} (F : ExcBaseFacts B newId initId tl) : ExN B newId initId tl := ⟨⟨_, F⟩, F.hasB, F.noAttr, F.noName⟩
namespace OX
open PySem PySem.Spec PySem.HandSPX
section
variable {M : Model} {prog : Program} {w : World} {A : Around} {E : Value → Shared → Prop} {R : Result → Shared → Prop} {hp : Heap} {gs : Array GenState} {dr : Drawn} {tk : Nat} {os : OsState}
variable {nm qn : Str} {C N : Addr} {bs bm tl : List Value} {hdct : Bool} {sn : List Str} {sub : List Value} {ab : Bool} {col : Option Bool} {dd : Option Addr} {k0 k1 k2 k3 k5 : Option Value} {B newId initId : String}
theorem newCheck (F : ExN B newId initId tl) (hT : ∀ Y : String, bm.contains (.type Y) = tl.contains (.type Y)) {us : List Value} {Q : Unit → Shared → Prop}
    (hC : hp.get? C = some (excClassObj nm qn C N bs bm hdct sn sub ab col dd k0 k1 k2 k3 k5 newId)) (fin : Q () ⟨hp, gs, dr, tk, os⟩) : wpAny M A (checkBuiltinCall newId ⟨.ref C :: us, []⟩) Q E ⟨hp, gs, dr, tk, os⟩ := by
  obtain ⟨⟨bB, FB⟩, fB, fA, fN⟩ := F
  have hin : (Value.ref C :: bm).contains (.type B) = true := by rw [List.contains_cons, hT, fB, Bool.or_true]
  have hst := FB.noStar
  simp only [checkBuiltinCall, FB.newKind, FB.newSplit, FB.newRow]
  repeat (first | refine wpAny_loadPart_at hC ?_ | (refine wpAny_isSubtype_exc hC ?_; rw [hin]) | refine wpAny_staticBase_exc hC ?_ | refine wpAny_madeBy_exc hC ?_ | simp only [bne_self_eq_false, Bool.false_eq_true, if_false] | wp_step)
  exact fin
theorem newRun (F : ExN B newId initId tl) (hT : ∀ Y : String, bm.contains (.type Y) = tl.contains (.type Y)) {us : List Value}
    (hC : hp.get? C = some (excClassObj nm qn C N bs bm hdct sn sub ab col dd k0 k1 k2 k3 k5 newId))
    (fin : R (.ok (.ret (.ref (hp.objs.size + 1)))) ⟨(hp.push { cls := .type "tuple", data := .seq us.toArray }).push (excO C hp.objs.size), gs, dr, tk, os⟩) (hus : us.length ≤ sizeLine) :
    codeAny (model prog w) A (.builtin newId ⟨.ref C :: us, []⟩) R ⟨hp, gs, dr, tk, os⟩ := by
  obtain ⟨⟨bB, FB⟩, fB, fA, fN⟩ := F
  have hen := FB.ends
  have hin : (Value.ref C :: bm).contains (.type B) = true := by rw [List.contains_cons, hT, fB, Bool.or_true]
  have hia : (Value.ref C :: bm).contains (.type "AttributeError") = false := by rw [List.contains_cons, hT, fA]; rfl
  have hib : (Value.ref C :: bm).contains (.type "NameError") = false := by rw [List.contains_cons, hT, fN]; rfl
  refine codeAny_builtinAt FB.entry ?_
  unfold Builtin.«BaseException.__new__»
  refine PySem.wpAt_bind ?_
  show PySem.wpAt _ _ _ (stack >>= _) _ _ _
  refine PySem.wpAt_bind (PySem.wpAt_stack fun p below => PySem.wpAt_of_wpAny ?_)
  wp_walk
  refine PySem.wpAt_of_wpAny ?_
  rw [FB.owner]
  repeat (first | with_reducible refine wpAny_madeHere_exc FB.canon hC ?_ | with_reducible refine wpAny_loadPart_at hC ?_ | (with_reducible refine wpAny_isSubtype_exc hC ?_; first | rw [hin] | rw [hia] | rw [hib]) | wp_step)
  show R _ _
  rw [Heap.size_push]
  exact fin
theorem callT (F : ExN B newId initId tl) (hT : ∀ Y : String, bm.contains (.type Y) = tl.contains (.type Y)) {us : List Value} {fI : Addr} {Q : Fin → Shared → Prop}
    (hC : hp.get? C = some (excClassObj nm qn C N bs bm hdct sn sub ab col dd k0 k1 k2 k3 k5 newId))
    (hi : W.Looks (model prog w) hp (typeLookup (.ref C) "__init__") (some (.ref fI))) (hb : ∀ me, W.Looks (model prog w) hp (bindSpecial (.ref fI) me) (.ref fI, [me])) (hus : us.length ≤ sizeLine)
    (fin : codeAny (model prog w) A (.call (.ref fI) ⟨.ref (hp.objs.size + 1) :: us, []⟩)
      (fun r z => match r with | .ok (.ret v) => v = .none ∧ Q (.done (.ret (.ref (hp.objs.size + 1)))) z | .ok _ => False | .error e => E e z)
      ⟨(hp.push (W.kdv_tup us)).push (excO C hp.objs.size), gs, dr, tk, os⟩) :
    wpAny (model prog w) A (Builtin.«type.__call__» ⟨.ref C :: us, []⟩) Q E ⟨hp, gs, dr, tk, os⟩ := by
  have hqu : newId.startsWith "lifetime." = false := let ⟨⟨_, FB⟩, _, _, _⟩ := F; FB.quiet
  repeat (first | with_reducible refine wpAny_loadPart_at hC ?_ | with_reducible refine wpAny_madeBy_exc hC ?_ | wp_step)
  refine codeAny_call_builtin_code (Code.quiet_builtin _ hqu) (newCheck F hT hC ?_)
  refine newRun F hT hC ?_ hus
  show wpAny _ _ _ _ _ _
  have kp : ∀ b o, hp.get? b = some o → ((hp.push (W.kdv_tup us)).push (excO C hp.objs.size)).get? b = some o := fun b o e => Heap.get?_push_of_some _ (Heap.get?_push_of_some _ e)
  have hC1 := kp _ _ hC
  have hnew : ((hp.push (W.kdv_tup us)).push (excO C hp.objs.size)).get? (hp.objs.size + 1) = some (excO C hp.objs.size) := by heap_get
  have hcc : (Value.ref C :: bm).contains (.ref C) = true := by simp
  have li := hi.keeps kp
  have lb := (hb (.ref (hp.objs.size + 1))).keeps kp
  unfold isInstance
  repeat (first | with_reducible refine wpAny_loadPart_at hnew ?_ | (with_reducible refine wpAny_isSubtype_exc hC1 ?_; rw [hcc]) | wp_step)
  show wpAny _ _ (typeLookup (.ref C) _) _ _ _
  refine li.at ?_
  refine wpAny_holding (wpAny_bind (lb.at ?_))
  refine wpAny_bind (wpAny_call (codeAny_mono fin fun r z y => ?_))
  rcases r with e | (v | _ | _ | _) <;> first | exact y | exact y.elim | skip
  obtain ⟨rfl, y⟩ := y
  first
    | exact wpAny_pure (wpAny_pure y)
    | (wp_walk; exact y)
theorem callC (F : ExN B newId initId tl) (hT : ∀ Y : String, bm.contains (.type Y) = tl.contains (.type Y)) {us : List Value} {fI : Addr}
    (hC : hp.get? C = some (excClassObj nm qn C N bs bm hdct sn sub ab col dd k0 k1 k2 k3 k5 newId))
    (hi : W.Looks (model prog w) hp (typeLookup (.ref C) "__init__") (some (.ref fI))) (hb : ∀ me, W.Looks (model prog w) hp (bindSpecial (.ref fI) me) (.ref fI, [me])) (hus : us.length ≤ sizeLine)
    (fin : codeAny (model prog w) (A.under (.builtin "type.__call__" ⟨.ref C :: us, []⟩)) (.call (.ref fI) ⟨.ref (hp.objs.size + 1) :: us, []⟩) (W.InitBack (hp.objs.size + 1) R)
      ⟨(hp.push (W.kdv_tup us)).push (excO C hp.objs.size), gs, dr, tk, os⟩) :
    codeAny (model prog w) A (.call (.ref C) ⟨us, []⟩) R ⟨hp, gs, dr, tk, os⟩ := by
  have f1 := tc_lookup
  have f2 := tc_bind (.ref C)
  have hTy : (⟨hp, gs, dr, tk, os⟩ : Shared).TypeIs (.ref C) "type" := ⟨_, hC, rfl⟩
  refine codeAny_of_tree ?_
  show wpAny _ _ (callAny (.ref C) _) _ _ _
  repeat (any_goals (first | assumption | with_reducible refine wpAny_loadPart_at hC ?_ | wp_step))
  refine ⟨rfl, ?_⟩
  refine codeAny_call_builtin_at (Code.quiet_builtin _ (by decide +kernel)) entry_typeCall (wpAny_check_type_call_sub hC (callT F hT hC hi hb hus ?_))
  refine codeAny_mono fin fun r z y => ?_
  rcases r with e | (v | _ | _ | _) <;> exact y
end
end OX
structure OexA (K : PySem.W.Frag) (C : Addr) : Prop where
  cls : ∃ B newId initId tl nm q N bs bm sn sub ab col dd k0 k1 k2 k3 k5, K.lookup C = some (excClassObj nm q C N bs bm true sn sub ab col dd k0 k1 k2 k3 k5 newId) ∧ OX.RefsT tl bm ∧ ExN B newId initId tl ∧ (∀ self, PySem.refuseLoop self "__setattr__" tl = pure ()) ∧ tl.contains (.type "object") = true
  sa : PySem.W.findIn K (.ref C) "__setattr__" = some (some (.builtin "object.__setattr__"))
  exC : PySem.W.subIn K (.ref C) (.type "BaseException") = some true
  tyC : PySem.W.typeIn K (.ref C) = some (.type "type")
  kC : PySem.W.keepIn K (.ref C) = true
section
variable {X : Cx} {pins : List (Addr × Obj)} {σ : L2.St} {H : Hp} {s : Shared} {a C dx : Addr} {f : Str} {y : V} {u : Value} {fs : List (Str × V)} {Q : Unit → Shared → Prop} {E : Value → Shared → Prop} {A : Around}
theorem ost_first (T : OexA X.K C) (I : Inv X pins σ H s) (e : H a = some (exo a C none)) (hno : PySem.W.findIn X.K (.ref C) f = some none) (ry : RelV y u)
    (h : ∀ dx s', H dx = none → dx ≠ a → Inv X pins σ (upd (upd H dx (exd dx [(f, y)])) a (exo a C (some dx))) s' → Q () s') : wpAny (model X.prog X.w) A (setAttr (.ref a) f u) Q E s := by
  obtain ⟨B, ni, ii, tl, nm, q, N, bs, bm, sn, sub, ab, col, dd, k0, k1, k2, k3, k5, hC, hbm, FB, hps, hto⟩ := T.cls
  have hcl : PySem.W.clsIn X.K C = some { name := nm, bases := bs, mro := .ref C :: bm, ns := N, qualname := q, hasDict := true, slotNames := sn, subclasses := sub, abstract := ab, collection := col, hasDel := false } := by unfold PySem.W.clsIn; rw [hC] <;> rfl
  obtain ⟨t1, ho⟩ := exo_at I.hok e
  obtain ⟨hp, g, d, t, os⟩ := s
  refine PySem.W.set_plain I.kIn (ox := { cls := .ref C, dict := none, data := .fields #[.ref t1, .none, .none, .none, .bool false, .none] }) (od := none) ⟨ho, rfl, rfl, trivial⟩ T.sa ?_
  refine OX.osa_first I.kIn ho hcl (hbm.cons C) hps hto rfl hno (fun h' tk' dx k dn dne hx hn => ?_)
  have hnd : H dx = none := I.hok.fresh dn
  have nd : ∀ {b : Addr} {o : Obj}, hp.get? b = some o → b ≠ dx := fun {b o} q => Nat.ne_of_lt (Nat.lt_of_lt_of_le (Heap.lt_size q) dn)
  have na : ∀ {b : Addr}, H b = none → b ≠ a := fun {b} n z => by
    rw [z, e] at n
    cases n
  have U : Un X.fs [] H (upd (upd H dx (exd dx [(f, y)])) a (exo a C (some dx))) hp h' := {
    keep := fun b o q n _ _ => k b o (na n) q
    slot := fun b o q n _ _ => ⟨o.slots, k b o (na n) q⟩
    free := fun b o q n _ => by rw [upd_ne (na n), upd_ne (nd q)]; exact n
    there := fun b o q _ => by
      by_cases hb : b = a
      · exact ⟨_, by rw [hb]; exact hx⟩
      · exact ⟨o, k b o hb q⟩
    tups := fun b xs q => by rw [upd_ne (at_ne e q exo_tup), upd_ne (ne_of_none q hnd)]; exact q
    frzs := fun b o v q => by rw [upd_ne (at_ne e q exo_frz), upd_ne (ne_of_none q hnd)]; exact q
    tbls := fun b ps q => ⟨#[], by rw [upd_ne (at_ne e q exo_tbl), upd_ne (ne_of_none q hnd), q]; simp⟩ }
  refine h dx _ hnd dne (I.un (t' := tk') U fun b o q => ?_)
  by_cases hb : b = a
  · subst hb
    rw [upd_same] at q
    cases q
    exact exo_ok hx
  · rw [upd_ne hb] at q
    by_cases hd : b = dx
    · subst hd
      rw [upd_same] at q
      cases q
      exact exd_ok hn (relO_put (fs := []) ry fun g => True.intro)
    · rw [upd_ne hd] at q
      exact (I.hok b o q).stay (fun c v hc z => k c v (by
          rcases hc with hc | hc
          · rw [hc]
            exact hb
          · exact at_ne e hc exo_own) z)
        (fun c hc => by rw [upd_ne (at_ne e hc exo_own), upd_ne (ne_of_none hc hnd)]; exact hc) (fun c xs hc => by rw [upd_ne (at_ne e hc exo_tup), upd_ne (ne_of_none hc hnd)]; exact hc)
end
def tOsA (K : PySem.W.Frag) (f : Str) (to te : TE) : TS := fun D σ H => te σ H fun y H1 => to σ H1 fun x H2 => ∃ a C : Addr, x = .ref a ∧ OexA K C ∧ PySem.W.findIn K (.ref C) f = some none ∧
  H2 a = some (exo a C none) ∧ ∀ dx, H2 dx = none → dx ≠ a → D.nx σ (upd (upd H2 dx (exd dx [(f, y)])) a (exo a C (some dx)))
section
variable {X : Cx} {o e : Expr} {es : List Expr} {to te : TE} {ta : TA} {f : Str} {p p' p1 p2 pos : Pos}
theorem ps_osA (ho : PE X o to) (he : PE X e te) (hs : swapsWith e (some (.Attribute o f p')) pos.line X.env = pure false := by rfl) : PS X (.Assign [.Attribute o f p'] e pos) (tOsA X.K f to te) := by
  refine ⟨fun pins s σ H D I h => ?_⟩
  refine plainObj_wpAny_Assign_Attribute (thn (he.run pins s σ H _ I h) fun v s1 ⟨y, H1, I1, r1, q1⟩ => thn (ho.run pins s1 σ H1 _ I1 q1) fun u s2 ⟨x, H2, I2, r2, a, C, ex, T, hno, ea, q⟩ => ?_) hs
  subst ex
  obtain rfl : u = Value.ref a := r2
  exact ost_first T I2 ea hno r1 fun dx s' n ne J => ⟨σ, _, J, q dx n ne⟩
theorem pmk_oexA {CX : CXT} {x : Str} {C fI : Addr} {k : Nat} {fd : FuncData} {ps : List Str} {sp : Sp} {ds : List Value} {dvs : List V} (T : OexA X.K C) (iC : PySem.W.findIn X.K (.ref C) "__init__" = some (some (.ref fI))) (tI : PySem.W.typeIn X.K (.ref fI) = some (.type "function"))
    (F1 : FnOk X.prog X.w X.K X.mg X.base CX k fI fd ps sp) (hr : Room (k + 1) X.A) (hb : Binds X.K fd ps ds) (hd : Vals dvs ds) (hx : Passes CX X (fun _ _ _ => False)) (hg : Gl X x) (hm : X.mg x = some (.ref C)) (ha : PA X (e :: es) ta)
    (hdb : (x == ("__debug__" : Str)) = false := by decide) (he : starEach (e :: es) X.env = (false, eval e X.env) :: starEach es X.env := by rfl) (hpl : (backTo pos (starEach es X.env)).any (·.1) = false := by rfl) :
    PMk X (.Call (.Name x p) (e :: es) [] pos) (tMkO C sp dvs ta) := by
  intro pins s σ H Q I h
  obtain ⟨B, ni, ii, tl, nm, q, N, bs, bm, sn, sub, ab, col, dd, k0, k1, k2, k3, k5, hC, hbm, FB, hps, hto⟩ := T.cls
  refine wpAny_Call_Name_kw (ld_glob I hg hm ?_ hdb)
  refine PySem.W.callWith_K (h₀ := X.base) I.ok.mod.kin T.kC (thn (ha.run pos pins s σ H _ I h) fun us s1 ⟨vs, H1, I1, r1, hz, q1⟩ => ⟨I1.kIn, ?_⟩) he hpl
  show wpAny _ _ (call (.ref C) us) _ _ _
  obtain ⟨hp, g, dr, tk, os⟩ := s1
  have hsz : hp.objs.size ≤ hp.objs.size + 1 := Nat.le_succ _
  have hn : H1 (hp.objs.size + 1) = none := I1.hok.fresh hsz
  have hq := q1 (hp.objs.size + 1) hn
  have kk : ∀ b o, hp.get? b = some o → ((hp.push (PySem.W.kdv_tup us)).push (PySem.HandSPX.excO C hp.objs.size)).get? b = some o := fun b o e => Heap.get?_push_of_some _ (Heap.get?_push_of_some _ e)
  have hget : ((hp.push (PySem.W.kdv_tup us)).push (PySem.HandSPX.excO C hp.objs.size)).get? (hp.objs.size + 1) = some (PySem.HandSPX.excO C hp.objs.size) := by heap_get
  have I2 : Inv X pins σ (upd H1 (hp.objs.size + 1) (exo (hp.objs.size + 1) C none)) ⟨(hp.push (PySem.W.kdv_tup us)).push (PySem.HandSPX.excO C hp.objs.size), g, dr, tk, os⟩ :=
    I1.laid (t' := tk) (a := hp.objs.size + 1) (o := exo (hp.objs.size + 1) C none) (h' := (hp.push (PySem.W.kdv_tup us)).push (PySem.HandSPX.excO C hp.objs.size)) kk hsz (exo_ok hget)
  have r2 : Vals (V.ref (hp.objs.size + 1) :: (vs ++ dvs)) (Value.ref (hp.objs.size + 1) :: (us ++ ds)) := .cons rfl (r1.append hd)
  have hl : (Value.ref (hp.objs.size + 1) :: us ++ ds).length = ps.length := by
    have e := r2.length
    rw [F1.len _ _ _ _ hq] at e
    exact e.symm
  have hus : us.length ≤ sizeLine := by
    rw [← Paired.length r1, sizeLine_eq]
    omega
  refine wpAny_call (OX.callC FB (fun Y => hbm.has Y) (I1.kIn _ _ hC) (PySem.W.looks_findIn I1.kIn iC) (fun self => PySem.W.bind_fn I1.kIn self tI) hus
    (codeAny_mono (F1.run _ X.stack _ _ ⟨Value.ref (hp.objs.size + 1) :: us, []⟩ (Value.ref (hp.objs.size + 1) :: (us ++ ds)) _ _ (fun _ _ _ => False) (hr.make C us []) (I2.env0.make C us []) (hb _ (Value.ref (hp.objs.size + 1) :: us) I2.kIn hl) r2 hq) fun r s' hq' => ?_))
  cases r with
  | error er => exact hx pins σ _ _ er s' I2 hq'
  | ok fl =>
    cases fl with
    | ret u =>
      obtain ⟨v, H2, os2, bare2, un2, hok2, rv, ev, d, fs, ea, ed, hd1, q2⟩ := hq'
      subst ev
      obtain ⟨h2, g2, d2, t2, os'⟩ := s'
      exact ⟨rv, mk_end (raises_own T.exC T.tyC) I1 hsz kk un2 hok2 os2 bare2 ea ed hd1 q2⟩
    | next => exact False.elim hq'
    | brk => exact False.elim hq'
    | cont => exact False.elim hq'
end
/-! ### own exceptions with one field -/
/-- what __init__(self, f): self.f = f keeps -/
def spIni (C : Addr) (f : Str) : Sp := fun vs H Q _ => ∃ a v, vs = [.ref a, v] ∧ H a = some (exo a C none) ∧ ∀ dx, H dx = none → dx ≠ a → Q .non (upd (upd H dx (exd dx [(f, v)])) a (exo a C (some dx)))
/-- the class named x, at C, with the field f -/
structure Oex (P : Program) (w : World) (K : PySem.W.Frag) (mg : Str → Option Value) (base : Heap) (x : Str) (C : Addr) (f : Str) : Prop where
  T : OexA K C
  xf : XfC K C
  ec : ExcC K C
  no : PySem.W.findIn K (.ref C) f = some none
  hm : mg x = some (.ref C)
  ini : ∃ (fI : Addr) (fd : FuncData), PySem.W.findIn K (.ref C) "__init__" = some (some (.ref fI)) ∧ PySem.W.typeIn K (.ref fI) = some (.type "function") ∧ FnOk P w K mg base CX0 1 fI fd ["self", f] (spIni C f) ∧ Binds K fd ["self", f] []
def tX (C : Addr) (f : Str) (ta : TA) : L2.St → Hp → XK → Prop := fun σ H Q => ta σ H fun vs H1 => ∃ v, vs = [v] ∧ ∀ d, H1 d = none → Q (.ref C) (some d) (upd H1 d (.xd [(f, v)]))
theorem upd_xd {H : Hp} {a d C : Addr} {o1 o2 o3 o : HO} (ha : H a = none) (hd : d ≠ a) : upd (del (upd (upd (upd H a o1) d o2) a o3) a) d o = upd H d o := by
  funext b
  by_cases h1 : b = d
  · subst h1
    rw [upd_same, upd_same]
  · rw [upd_ne h1, upd_ne h1]
    by_cases h2 : b = a
    · subst h2
      rw [del_same, ha]
    · rw [del_ne h2, upd_ne h2, upd_ne h1, upd_ne h2]
def tCutA (t : TA) : TA := fun σ H Q => ∃ M : List V → Hp → Prop, t σ H M ∧ ∀ vs H', M vs H' → Q vs H'
theorem pa_cut {X : Cx} {es : List Expr} {t : TA} (h : PA X es t) : PA X es (tCutA t) :=
  ⟨fun pos pins s σ H Q I ⟨M, hm, hu⟩ => wpAny_mono (h.run pos pins s σ H M I hm) (fun us s1 ⟨vs, H1, I1, r, q⟩ => ⟨vs, H1, I1, r, hu _ _ q⟩) fun _ _ z => z⟩
section
variable {X : Cx} {x f : Str} {C : Addr} {j : Nat} {e : Expr} {ta : TA} {p pos : Pos}
theorem pmk_x (T : Oex X.prog X.w X.K X.mg X.base x C f) (hr : Room j X.A) (hk : 2 ≤ j) (hg : Gl X x) (ha : PA X [e] ta)
    (hdb : (x == ("__debug__" : Str)) = false := by decide) (he : starEach [e] X.env = (false, eval e X.env) :: starEach [] X.env := by rfl) (hpl : (backTo pos (starEach [] X.env)).any (·.1) = false := by rfl) :
    PMk X (.Call (.Name x p) [e] [] pos) (tX C f ta) := by
  obtain ⟨fI, fd, i1, i2, F, b⟩ := T.ini
  intro pins s σ H Q I h
  refine pmk_oexA (dvs := []) (ds := []) T.T i1 i2 F (hr.mono hk) b .nil (fun _ _ _ _ _ _ _ z => (show False from z).elim) hg T.hm (pa_cut ha) hdb he hpl pins s σ H Q I ⟨_, h, fun vs H1 hq => ?_⟩
  obtain ⟨v, rfl, q⟩ := hq
  refine ⟨by simp, fun a hn => ⟨a, v, rfl, upd_same, fun dx h1 h2 => ⟨rfl, dx, [(f, v)], upd_same, by rw [upd_ne h2, upd_same], by rwa [upd_ne h2] at h1, ?_⟩⟩⟩
  rw [upd_xd (C := C) hn h2]
  rw [upd_ne h2] at h1
  exact q dx h1
/-- its __init__, by its text -/
theorem ok_ini {P : Program} {w : World} {K : PySem.W.Frag} {mg : Str → Option Value} {base : Heap} {qual : Str} {st : Stmt} {fI : Addr} {fd : FuncData} {f : Str} {p1 p2 p3 pos : Pos} (F : Fun K "__init__" qual st fI fd) (S : FnScope ["self", f] ["self", f] (defScope st))
    (hb : defBody st = [.Assign [.Attribute (.Name "self" p1) f p2] (.Name f p3) pos]) (T : OexA K C) (no : PySem.W.findIn K (.ref C) f = some none) (h0 : Vis (defScope st) "self") (h1 : Vis (defScope st) f) (hd : (f == ("__debug__" : Str)) = false) (hc : (f == ("__classdict__" : Str)) = false) : FnOk P w K mg base CX0 1 fI fd ["self", f] (spIni C f) := by
  refine F.ok S (fun vs H Q E ⟨a, v, e, _⟩ => by rw [e]; rfl) fun cdv A outer s H vs Q E hr ⟨a, v, e, ha, q⟩ => ?_
  rw [hb, e]
  exact ⟨_, pss_one (ps_osA (pe_var (i := 0) rfl h0) (pe_var (i := 1) rfl h1 hd hc)), ⟨v, rfl, .ref a, rfl, a, C, rfl, T, no, ha, q⟩⟩
/-! ### in an except suite: e's field, what e is -/
theorem pe_xfS {a C : Addr} {oe : Obj} {cls : Value} {d : Option Addr} {pn : List (Addr × Obj)} {te : TE} {n : Str} (T : Oex X.prog X.w X.K X.mg X.base x C n)
    (hz : Zc cls d oe) (hf : ∃ vs, oe.data = .fields vs) (he : PE (X.suite a ((a, oe) :: pn)) e te) (hb : attributeBase e n X.env (eval e X.env) = eval e X.env := by rfl) :
    PE (X.suite a ((a, oe) :: pn)) (.Attribute e n pos) (tXf a cls d C n te) := pe_xf T.xf T.no hz hf he hb
def rIsX (K : PySem.W.Frag) (cls : Value) (d : Option Addr) (D a : Addr) : List V → Hp → VK → Prop := fun xs H Q => cls = .ref D ∧ ∃ (dd : Addr) (fs : List (Str × V)) (c : V) (cv : Value) (b : Bool), d = some dd ∧ H dd = some (.xd fs) ∧ xs = [.ref a, c] ∧ ClsV c cv ∧ PySem.W.kitOne K (.ref D) cv = some b ∧ Q (.bl b) H
theorem call_isX {a D : Addr} {oe : Obj} {cls : Value} {d : Option Addr} {pn : List (Addr × Obj)} (C : ExcC X.K D) (hz : Zc cls d oe) (hf : ∃ vs, oe.data = .fields vs) : CallR (X.suite a ((a, oe) :: pn)) (.builtin "isinstance") (rIsX X.K cls d D a) := by
  intro pins s σ H xs us Q I r h
  obtain ⟨rfl, dd, fs, c, cv, b, rfl, hd, rfl, hcv, e, q⟩ := h
  obtain ⟨u1, u2, rfl, rx, rt⟩ := vals2 r
  cases rx
  have ec := hcv.eq rt
  subst ec
  obtain ⟨hget, _⟩ := I.pin (a, oe) (List.mem_append.mpr (.inl List.mem_cons_self))
  obtain ⟨vs, hv⟩ := hf
  obtain ⟨mA, hns, hr⟩ := (show ObjOk X.prog X.w H s.heap dd (.xd fs) from I.hok dd _ hd)
  obtain ⟨od, ho, hl⟩ := lookIn_ns hns
  have J : PySem.W.InstAt s.heap a oe D (some od) := ⟨hget, hz.1, by unfold PySem.W.notCls; rw [hv] <;> rfl, by rw [hz.2]; exact ho⟩
  obtain ⟨cd, hc, _⟩ := PySem.W.any_some C.hd
  exact PySem.W.kia_one (PySem.W.kitx_exc (by rw [hc]; rfl) C.hg C.hk C.hs C.ha C.hn C.ht C.hm) I.kIn J e (fun z => nomatch z) fun tk => ⟨.bl b, H, I.kept (t' := tk) fun _ _ z => z, rfl, q⟩
end
end G
set_option Elab.async false
set_option linter.all false
set_option maxRecDepth 100000
namespace G
open PySem PySem.Spec PyProof.Rows L2
/-! ### operators by an own class's methods -/
theorem cmpBack {v : V} {u : Value} {s : Shared} {Q : Value → Shared → Prop} (r : RelV v u) (h : Q u s) : PySem.W.CmpBack Q u s := by
  cases v with
  | non => cases (show u = Value.none from r); exact h
  | bl b => cases (show u = Value.bool b from r); exact h
  | int i => obtain ⟨t, rfl⟩ := (show ∃ t, u = Value.int i t from r); exact h
  | str i => obtain ⟨t, rfl⟩ := (show ∃ t, u = Value.str i t from r); exact h
  | byt i => obtain ⟨t, rfl⟩ := (show ∃ t, u = Value.bytes i t from r); exact h
  | flt i => obtain ⟨t, rfl⟩ := (show ∃ t, u = Value.float i t from r); exact h
  | ref a => cases (show u = Value.ref a from r); exact h
  | ty n => cases (show u = Value.type n from r); exact h
abbrev E0' : L2.St → XK := fun _ _ _ _ => False
section
variable {X : Cx} {k j : Nat} {C : Addr} {m : Str} {sp : Sp} {ps : List Str}
/-- x op y, x an instance of C -/
def rOpI (K : PySem.W.Frag) (C : Addr) (sp : Sp) : R2 := fun x y H Q => ∃ a dx fs t, x = .ref a ∧ H a = some (.ins C dx fs) ∧ TyX K H y t ∧ PySem.W.notFirst K C t = true ∧ sp [x, y] H Q (fun _ _ _ => False)
theorem cmp_opI {op : CmpOp} (c : MetG X.prog X.w X.K X.mg X.base false k C (cmpInfo op).2.1 sp ps) (hr : Room j X.A) (hk : k ≤ j) (hop : compareOp op = richCompare op) : OpR X (compareOp op) (rOpI X.K C sp) := by
  intro pins s σ H x y v u Q I rx ry h
  obtain ⟨f, fd, hc, M, hf, F, b⟩ := c.ex
  obtain ⟨a, dx, fs, t, rfl, ha, ty, hn, q⟩ := h
  cases (show v = Value.ref a from rx)
  obtain ⟨P, Z, p, _⟩ := kit_of I ry ty
  obtain ⟨mA, O, _⟩ := ins_get I.hok ha
  obtain ⟨od, J, _⟩ := O.look
  obtain ⟨m', hF⟩ := I.fr
  rw [hop]
  refine PySem.W.cmp_K (tb := t) hr.units0 hF I.ok.mod.kin J (Z.ty _ _ I.kIn p) hn M.at_ M.fn ?_
  exact wpAny_mono (run_at (E := E0') (dvs := []) (ds := []) (A1 := X.A) (vs := [.ref a, y]) F (hr.mono hk) (fun e => nomatch e) rfl b .nil (passAt takes0 σ) I (.cons rfl (.cons ry .nil)) q) (fun u' s' ⟨v', H', I', r', q'⟩ => cmpBack r' ⟨v', H', I', r', q'⟩) fun _ _ z => z
theorem eq_opI (c : MetG X.prog X.w X.K X.mg X.base false k C "__eq__" sp ps) (hr : Room j X.A) (hk : k ≤ j) : OpR X (compareOp .Eq) (rOpI X.K C sp) := cmp_opI (op := .Eq) c hr hk rfl
theorem le_opI (c : MetG X.prog X.w X.K X.mg X.base false k C "__le__" sp ps) (hr : Room j X.A) (hk : k ≤ j) : OpR X (compareOp .LtE) (rOpI X.K C sp) := cmp_opI (op := .LtE) c hr hk rfl
/-- x + y, two instances of C -/
def rAddI (C : Addr) (sp : Sp) : R2 := fun x y H Q => ∃ a dx fs b dy gs, x = .ref a ∧ H a = some (.ins C dx fs) ∧ y = .ref b ∧ H b = some (.ins C dy gs) ∧ sp [x, y] H Q (fun _ _ _ => False)
theorem bin_opI {op : Operator} (c : MetG X.prog X.w X.K X.mg X.base false k C (PySem.dunder op.info.2) sp ps) (hs : PySem.W.selfFirst X.K C = true) (hr : Room j X.A) (hk : k ≤ j) : OpR X (binaryOp op) (rAddI C sp) := by
  intro pins s σ H x y v u Q I rx ry h
  obtain ⟨f, fd, hc, M, hf, F, b⟩ := c.ex
  obtain ⟨a, dx, fs, b', dy, gs, rfl, ha, rfl, hb, q⟩ := h
  cases (show v = Value.ref a from rx)
  cases (show u = Value.ref b' from ry)
  obtain ⟨mA, O, _⟩ := ins_get I.hok ha
  obtain ⟨od, J, _⟩ := O.look
  obtain ⟨mB, O', _⟩ := ins_get I.hok hb
  obtain ⟨od', J', _⟩ := O'.look
  obtain ⟨m', hF⟩ := I.fr
  refine PySem.W.binop_K hF I.ok.mod.kin J J'.type hs M.at_ M.fn ?_
  exact wpAny_mono (run_at (E := E0') (dvs := []) (ds := []) (A1 := X.A) (vs := [.ref a, .ref b']) F (hr.mono hk) (fun e => nomatch e) rfl b .nil (passAt takes0 σ) I (.cons rfl (.cons rfl .nil)) q) (fun u' s' ⟨v', H', I', r', q'⟩ => cmpBack r' ⟨v', H', I', r', q'⟩) fun _ _ z => z
theorem add_opI (c : MetG X.prog X.w X.K X.mg X.base false k C "__add__" sp ps) (hs : PySem.W.selfFirst X.K C = true) (hr : Room j X.A) (hk : k ≤ j) : OpR X (binaryOp .Add) (rAddI C sp) := bin_opI (op := .Add) c hs hr hk
/-- len(x) -/
def rLenI (C : Addr) (sp : Sp) : List V → Hp → VK → Prop := fun xs H Q => ∃ a dx fs, xs = [.ref a] ∧ H a = some (.ins C dx fs) ∧ sp [.ref a] H (fun v H' => ∃ n : Nat, v = .int n ∧ n < 2 ^ 63 ∧ Q (.int n) H') (fun _ _ _ => False)
theorem len_I (c : MetG X.prog X.w X.K X.mg X.base false k C "__len__" sp ps) (hr : Room j X.A) (hk : k + 1 ≤ j) : CallR X (.builtin "len") (rLenI C sp) := by
  intro pins s σ H xs us Q I r h
  obtain ⟨f, fd, hc, M, hf, F, b⟩ := c.ex
  obtain ⟨a, dx, fs, rfl, ha, q⟩ := h
  obtain ⟨u, rfl, ru⟩ := vals1 r
  cases (show u = Value.ref a from ru)
  obtain ⟨mA, O, _⟩ := ins_get I.hok ha
  obtain ⟨od, J, _⟩ := O.look
  obtain ⟨m', hF⟩ := I.fr
  refine PySem.W.len_K hF I.ok.mod.kin J M.at_ M.fn ?_
  refine wpAny_mono (run_at (E := E0') (dvs := []) (ds := []) (A1 := X.A.in1) (vs := [.ref a]) F ((hr.mono hk).in1) (fun e => nomatch e) rfl b .nil (passAt takes0 σ) I (.cons rfl .nil) q) (fun u' s' ⟨v', H', I', r', n, e1, e2, q'⟩ => ?_) fun _ _ z => z
  subst e1
  obtain ⟨t, rfl⟩ := r'
  exact ⟨⟨by omega, by omega⟩, ⟨.int n, H', I'.tok _, ⟨_, rfl⟩, q'⟩⟩
/-- y in x, x an instance -/
def rInI (C : Addr) (sp : Sp) (neg : Bool) : R2 := fun y x H Q => ∃ a dx fs, x = .ref a ∧ H a = some (.ins C dx fs) ∧ sp [x, y] H (fun v H' => ∃ b : Bool, v = .bl b ∧ Q (.bl (if neg then !b else b)) H') (fun _ _ _ => False)
theorem in_opI (c : MetG X.prog X.w X.K X.mg X.base false k C "__contains__" sp ps) (hr : Room j X.A) (hk : k ≤ j) : OpR X (compareOp .In) (rInI C sp false) := by
  intro pins s σ H y x v u Q I ry rx h
  obtain ⟨f, fd, hc, M, hf, F, b⟩ := c.ex
  obtain ⟨a, dx, fs, rfl, ha, q⟩ := h
  cases (show u = Value.ref a from rx)
  obtain ⟨mA, O, _⟩ := ins_get I.hok ha
  obtain ⟨od, J, _⟩ := O.look
  obtain ⟨m', hF⟩ := I.fr
  refine PySem.W.in_K hF I.ok.mod.kin J M.at_ M.fn ?_
  refine wpAny_mono (run_at (E := E0') (dvs := []) (ds := []) (A1 := X.A) (vs := [.ref a, y]) F (hr.mono hk) (fun e => nomatch e) rfl b .nil (passAt takes0 σ) I (.cons rfl (.cons ry .nil)) q) (fun u' s' ⟨v', H', I', r', n, e1, q'⟩ => ?_) fun _ _ z => z
  subst e1
  cases r'
  exact wpAny_truthy_bool ⟨.bl n, H', I', rfl, q'⟩
theorem notIn_opI (c : MetG X.prog X.w X.K X.mg X.base false k C "__contains__" sp ps) (hr : Room j X.A) (hk : k ≤ j) : OpR X (compareOp .NotIn) (rInI C sp true) := by
  intro pins s σ H y x v u Q I ry rx h
  obtain ⟨f, fd, hc, M, hf, F, b⟩ := c.ex
  obtain ⟨a, dx, fs, rfl, ha, q⟩ := h
  cases (show u = Value.ref a from rx)
  obtain ⟨mA, O, _⟩ := ins_get I.hok ha
  obtain ⟨od, J, _⟩ := O.look
  obtain ⟨m', hF⟩ := I.fr
  refine PySem.W.notIn_K hF I.ok.mod.kin J M.at_ M.fn ?_
  refine wpAny_mono (run_at (E := E0') (dvs := []) (ds := []) (A1 := X.A) (vs := [.ref a, y]) F (hr.mono hk) (fun e => nomatch e) rfl b .nil (passAt takes0 σ) I (.cons rfl (.cons ry .nil)) q) (fun u' s' ⟨v', H', I', r', n, e1, q'⟩ => ?_) fun _ _ z => z
  subst e1
  cases r'
  exact wpAny_truthy_bool ⟨.bl (!n), H', I', rfl, q'⟩
/-- x != y by x's __eq__ and object's __ne__ -/
theorem ifBound_blt {M : Model} {A : Around} {E : Value → Shared → Prop} {s : Shared} {K : PySem.W.Frag} {x C : Addr} {ox : Obj} {od : Option Obj} {name : Str} {id T : String} {args : List Value} {Q : Option Value → Shared → Prop} (X : K.In s.heap) (I : PySem.W.InstAt s.heap x ox C od)
    (hs : PySem.W.findIn K (.ref C) name = some (some (.builtin id))) (sl : Slot T name id)
    (h : wpAny M A (call (.builtin id) (.ref x :: args)) (fun v => Q (some v)) E s) : wpAny M A (callSpecialIfBound? (.ref x) name args) Q E s := by
  simp only [callSpecialIfBound?, bindSpecialIfBound?]
  refine wpAny_holding (wpAny_bind (wpAny_bind (wpAny_bind (I.type.here ((PySem.W.looks_findIn X hs).here ?_)))))
  refine wpAny_bind (wpAny_askSetting (wpAny_ite ?_))
  have fin : wpAny M A (call (.builtin id) ([.ref x] ++ args) >>= fun v => pure (some v)) Q E s := wpAny_bind (wpAny_mono h (fun v s' h' => wpAny_pure h') fun _ _ h' => h')
  split
  · rw [sl.bind (.ref x)]
    exact wpAny_bind (wpAny_pure (wpAny_pure (by exact fin)))
  · rw [sl.bind (.ref x)]
    exact wpAny_tryCatch (wpAny_bind (wpAny_pure (wpAny_pure (by exact fin))))
def rNeI (K : PySem.W.Frag) (C : Addr) (sp : Sp) : R2 := fun x y H Q => ∃ a dx fs t, x = .ref a ∧ H a = some (.ins C dx fs) ∧ TyX K H y t ∧ PySem.W.notFirst K C t = true ∧ sp [x, y] H (fun v H' => ∃ b : Bool, v = .bl b ∧ Q (.bl (!b)) H') (fun _ _ _ => False)
theorem ne_opI (c : MetG X.prog X.w X.K X.mg X.base false k C "__eq__" sp ps) (hne : PySem.W.findIn X.K (.ref C) "__ne__" = some (some (.builtin "object.__ne__"))) (ho : PySem.W.mroIn X.K C (.type "object") = some true) (hr : Room j X.A) (hk : k + 1 ≤ j) : OpR X (compareOp .NotEq) (rNeI X.K C sp) := by
  intro pins s σ H x y v u Q I rx ry h
  obtain ⟨f, fd, hc, M, hf, F, b⟩ := c.ex
  obtain ⟨a, dx, fs, t, rfl, ha, ty, hn, q⟩ := h
  cases (show v = Value.ref a from rx)
  obtain ⟨P, Z, p, _⟩ := kit_of I ry ty
  obtain ⟨mA, O, _⟩ := ins_get I.hok ha
  obtain ⟨od, J, _⟩ := O.look
  obtain ⟨m', hF⟩ := I.fr
  have X1 := I.kIn
  have hu := hr.units
  have body : wpAny (model X.prog X.w) X.A.in1 (Builtin.«object.__ne__» ⟨[.ref a, u], []⟩) (fun fin s' => ∃ v', fin = .done (.ret v') ∧ PySem.W.CmpBack (EP X pins σ Q) v' s') X.xe s := by
    unfold Builtin.«object.__ne__»
    refine wpAny_bind (wpAny_of_eq (a := ((Value.ref a : Value), [u])) (by first | rfl | (simp only [slotArgs]; rfl)) ?_)
    refine wpAny_bind (wpAny_cRoomFor (by show X.A.units + 1 < _; omega) ?_)
    refine wpAny_bind (PySem.W.ifBound_K X1 J M.at_ M.fn ?_)
    refine wpAny_mono (run_at (E := E0') (dvs := []) (ds := []) (A1 := X.A.in1) (vs := [.ref a, y]) F ((hr.mono hk).in1) (fun e => nomatch e) rfl b .nil (passAt takes0 σ) I (.cons rfl (.cons ry .nil)) q) (fun u' s' ⟨v', H', I', r', n, e1, q'⟩ => ?_) fun _ _ z => z
    subst e1
    cases r'
    refine wpAny_bind (m := truthy (.bool n)) (wpAny_truthy_bool ?_)
    exact wpAny_pure ⟨_, rfl, ⟨.bl (!n), H', I', rfl, q'⟩⟩
  have one : wpAny (model X.prog X.w) X.A (tryCompare (.ref a) "__ne__" u) (fun r s' => ∃ v, r = some v ∧ EP X pins σ Q v s') X.xe s := by
    have sub : PySem.W.Looks (model X.prog X.w) s.heap (isInstance (.ref a) (.type "object")) true := J.type.andThen (PySem.W.looks_mroIn X1 ho)
    unfold tryCompare
    refine wpAny_bind (ifBound_blt X1 J hne PySem.F.cmp_object.ne (wpAny_call (codeAny_call_builtin PySem.F.cmp_object.ne.plain PySem.F.cmpEntry_ne (PySem.W.check_slot PySem.F.cmpKind_ne PySem.F.cmpSplit_ne sub (PySem.F.cmpArgs_ne _ _) (wpAny_mono body (fun fin s' hv => ?_) fun _ _ z => z)))))
    obtain ⟨v', rfl, hv⟩ := hv
    cases v' <;> first | exact hv.elim | exact wpAny_pure ⟨_, rfl, hv⟩
  show wpAny _ _ (richCompare .NotEq _ _) _ _ _
  unfold richCompare
  simp only [oneThing_ref]
  refine wpAny_holding (wpAny_bind (wpAny_cRoomFor hr.units0 ?_))
  refine wpAny_bind (J.type.here (wpAny_bind ((Z.ty _ _ I.kIn p).here ?_)))
  split
  · rename_i q
    have e : PySem.W.subIn X.K t (.ref C) = some false := by
      rcases Bool.or_eq_true_iff.mp hn with e | e
      · rw [beq_iff_eq.mp e] at q; simp at q
      · exact beq_iff_eq.mp e
    refine wpAny_bind ((PySem.W.looks_subIn X1 e).here ?_)
    simp only [Bool.false_eq_true, if_false]
    refine wpAny_bind (wpAny_mono one (fun r s' z => ?_) fun _ _ e => e)
    obtain ⟨v, rfl, hq⟩ := z
    exact wpAny_pure hq
  · refine wpAny_bind (wpAny_pure ?_)
    simp only [Bool.false_eq_true, if_false]
    refine wpAny_bind (wpAny_mono one (fun r s' z => ?_) fun _ _ e => e)
    obtain ⟨v, rfl, hq⟩ := z
    exact wpAny_pure hq
/-- x[y], x an instance -/
def tIxI (C : Addr) (sp : Sp) (E : L2.St → XK) (ta tb : TE) : TE := fun σ H Q => ta σ H fun x H1 => tb σ H1 fun y H2 => ∃ a dx fs, x = .ref a ∧ H2 a = some (.ins C dx fs) ∧ sp [x, y] H2 Q (E σ)
theorem pe_ixI {W : WX} {a b : Expr} {ta tb : TE} {pos : Pos} (c : MetG X.prog X.w X.K X.mg X.base false k C "__getitem__" sp ps) (hr : Room j X.A) (hk : k + 1 ≤ j) (tk : Takes X W) (ha : PE X a ta) (hb : PE X b tb)
    (hsl : ∀ o i, subscripted b true o i = runValue (.builtin "lifetime.subscript" ⟨[o, i], []⟩) := by intro _ _; with_unfolding_all rfl) : PE X (.Subscript a b pos) (tIxI C sp (WE W) ta tb) := by
  obtain ⟨f, fd, hc, M, hf, F, bb⟩ := c.ex
  refine ⟨fun pins s σ H Q I h => ?_⟩
  refine Subscript_ (binT ha hb I h fun v u s2 x y H2 I2 rx ry q => ?_)
  obtain ⟨p, dx, fs, rfl, hp, q⟩ := q
  cases (show v = Value.ref p from rx)
  obtain ⟨mA, O, _⟩ := ins_get I2.hok hp
  obtain ⟨od, J, _⟩ := O.look
  obtain ⟨m', hF⟩ := I2.fr
  refine PySem.W.sub_K hF I2.ok.mod.kin J M.at_ hf M.fn ?_ (hsl _ _)
  exact run_at (dvs := []) (ds := []) (A1 := X.A.in1) (vs := [.ref p, y]) F ((hr.mono hk).in1) (fun e => nomatch e) rfl bb .nil (passAt tk σ) I2 (.cons rfl (.cons ry .nil)) q
end
end G
set_option Elab.async false
set_option linter.all false
set_option maxRecDepth 100000
namespace G
open PySem PySem.Spec PyProof.Rows L2
/-! ### repr -/
def rRepr (K : PySem.W.Frag) : List V → Hp → VK → Prop := fun xs H Q => ∃ x d, xs = [x] ∧ Dp K H x d ∧ d.showable = true ∧ d.hasDict = false ∧ d.shown.length ≤ sizeLine ∧ d.depth ≤ 50 ∧ Q (.str d.shown) H
theorem gRepr {X : Cx} (hg : X.A.guards = some []) (hu : X.A.units + 64 < cLine) : CallR X (.builtin "repr") (rRepr X.K) := by
  intro pins s σ H xs us Q I r h
  obtain ⟨x, d, rfl, hd, h1, h2, h3, h4, q⟩ := h
  obtain ⟨u, rfl, ru⟩ := vals1 r
  obtain ⟨as, rd⟩ := Dp.reads I d x u hd ru
  have nd : d.hasDict = true → sysModules ∉ as := fun e => by rw [h2] at e; cases e
  have big : ∀ a, u = .ref a → wpAny (model X.prog X.w) X.A (call (.builtin "repr") [u]) (EP X pins σ Q) X.xe s := fun a e => by
    subst e
    refine repr_of_reads' rd h1 nd hg (by omega) (fun _ _ e => e) (fun h' t tk hk => ⟨.str d.shown, H, I.kept (t' := tk) hk, ⟨_, rfl⟩, q⟩) h3
  cases rd with
  | none => exact PySem.P.repr_of_none ⟨.str _, H, I.tok _, ⟨_, rfl⟩, q⟩
  | bool b => exact PySem.P.repr_of_bool ⟨.str _, H, I.tok _, ⟨_, rfl⟩, q⟩
  | int i t => exact PySem.P.repr_of_int (by simpa [PyData.showable] using h1) ⟨.str _, H, I.tok _, ⟨_, rfl⟩, q⟩
  | str x t => exact PySem.P.repr_of_str ⟨.str _, H, I.tok _, ⟨_, rfl⟩, q⟩ (by simpa only [PyData.shown] using h3)
  | list a1 a2 a3 a4 => exact big _ rfl
  | tuple a1 a2 a3 a4 => exact big _ rfl
  | dict a1 a2 a3 a4 a5 => exact big _ rfl
/-- .. of a dict of flat values -/
def flatD : V → PyData
  | .bl b => .bool b
  | .int i => .int i
  | .str x => .str x
  | _ => .none
def keyD : Key → PyData
  | .inl i => .int i
  | .inr x => .str x
abbrev dictD (kvs : List (Key × V)) : PyData := .dict (kvs.map fun kv => (keyD kv.1, flatD kv.2))
theorem flat_reads {h : Heap} {v : V} {u : Value} (hf : flatV v = true) (r : RelV v u) : Reads h u (flatD v) [] := by
  cases v with
  | non => cases r; exact .none
  | bl b => cases r; exact .bool b
  | int i => obtain ⟨t, rfl⟩ := r; exact .int i t
  | str x => obtain ⟨t, rfl⟩ := r; exact .str x t
  | byt b => cases hf
  | flt b => cases hf
  | ref b => cases hf
  | ty b => cases hf
theorem key_reads {h : Heap} {k : Key} {u : Value} (r : keyIs k u = true) : Reads h u (keyD k) [] := by
  rcases keyIs_shape r with ⟨i, t, rfl, rfl⟩ | ⟨x, t, rfl, rfl⟩
  · exact .int i t
  · exact .str x t
theorem pairs_reads {P : Program} {w : World} {h : Heap} : ∀ {es : List DictEntry} {kvs : List (Key × V)} {vs : List (Key × Value)}, Pairs (mixKind P w) es vs → KV kvs vs → kvs.all (fun kv => flatV kv.2) = true →
    ReadsAll h (es.map (·.key)) ((kvs.map fun kv => (keyD kv.1, flatD kv.2)).map (·.1)) [] ∧ ReadsAll h (es.map (·.val)) ((kvs.map fun kv => (keyD kv.1, flatD kv.2)).map (·.2)) []
  | _, _, _, .nil, .nil, _ => ⟨.nil, .nil⟩
  | _, _, _, .cons h1 h2 hr, .cons ⟨e, rv⟩ kr, hf => by
    rw [List.all_cons, Bool.and_eq_true] at hf
    obtain ⟨q1, q2⟩ := pairs_reads (h := h) hr kr hf.2
    rw [← e] at h1
    rw [← h2] at rv
    exact ⟨.cons (key_reads h1) q1, .cons (flat_reads hf.1 rv) q2⟩
def rReprD : List V → Hp → VK → Prop := fun xs H Q => ∃ a kvs, xs = [.ref a] ∧ H a = some (.dK kvs) ∧ kvs.all (fun kv => flatV kv.2) = true ∧ (dictD kvs).showable = true ∧ (dictD kvs).shown.length ≤ sizeLine ∧ (dictD kvs).depth ≤ 50 ∧ Q (.str (dictD kvs).shown) H
theorem gReprD {X : Cx} (hg : X.A.guards = some []) (hu : X.A.units + 64 < cLine) : CallR X (.builtin "repr") rReprD := by
  intro pins s σ H xs us Q I r h
  obtain ⟨a, kvs, rfl, ha, hf, h1, h3, h4, q⟩ := h
  obtain ⟨u, rfl, ru⟩ := vals1 r
  cases (show u = Value.ref a from ru)
  obtain ⟨hz, hn, vs, kv, o, es, ep, e1, e2, e3, e4, e5, e6⟩ := (show ObjOk X.prog X.w H s.heap a (.dK kvs) from I.hok a _ ha)
  obtain ⟨q1, q2⟩ := pairs_reads (h := s.heap) e5 kv hf
  have rd : Reads s.heap (.ref a) (dictD kvs) [a] := .dict e1 e2.1 e3 q1 q2
  have nd : sysModules ∉ [a] := fun m => by
    rw [List.mem_singleton] at m
    rw [← m] at hn
    simp at hn
  refine repr_of_reads' rd h1 (fun _ => nd) hg (by omega) (fun _ _ e => e) (fun h' t tk hk => ⟨.str (dictD kvs).shown, H, I.kept (t' := tk) hk, ⟨_, rfl⟩, q⟩) h3
def rReprA (K : PySem.W.Frag) : List V → Hp → VK → Prop := fun xs H Q => rRepr K xs H Q ∨ rReprD xs H Q
theorem kRepr {X : Cx} {K : PySem.W.Frag} (hK : X.K = K) (hg : X.A.guards = some []) (hu : X.A.units + 64 < cLine) : CallR X (.builtin "repr") (rReprA K) := by
  subst hK
  exact CallR.or (gRepr hg hu) (gReprD hg hu)
end G
set_option Elab.async false
set_option linter.all false
set_option maxRecDepth 100000
namespace G
open PySem PySem.Spec PyProof.Rows L2
/-! ### the end, for a law's def that promises by Fg -/
/-- what a call of the law's def must come to -/
abbrev LawEnd (P : Program) (w : World) (fa a : Addr) (s : Shared) : Prop :=
  codeAny (model P w) callerA (.call (.ref fa) ⟨[.ref a], []⟩) (fun r s' => r = .ok (.ret (.bool true)) ∧ OldK s.heap s'.heap ∧ s'.os = s.os ∧ AllBare s'.gens) s
section
variable {P : Program} {w : World} {K : PySem.W.Frag} {mg mb : Str → Option Value} {g : Bool} {k : Nat} {fa a : Addr} {fd : FuncData} {x : Str} {sp : Sp} {s : Shared} {H : Hp} {us : List Value} {ns : List Int}
/-- from an abstract heap that tracks at most the script at a (frozen) -/
theorem end_at (kin : K.In s.heap) (hns : s.heap.Ns mainGlobals mg) (hb : s.heap.Ns builtinsNs mb) (hbb : ∀ x : Str, x ≠ "__name__" → mb x = bootBuiltins x) (hlim : s.heap.NoLimit) (hg : s.gens = #[])
    (hdat : ∀ o, s.heap.get? a = some o → ∀ es ep, o.data ≠ .dict es ep) (hr : Room k callerA)
    (F : ∀ base : Heap, K.In base → base.Ns mainGlobals mg → Fg P w K mg base g k fa fd [x] sp) (hbind : ∀ (s : Shared) (u : Value), BindsTo s fd ⟨[u], []⟩ [(x, u)])
    (hO : Only H) (hok : HOk P w H s.heap) (hA : ∀ b, b ≠ a → H b = none) (hK : H a ≠ none → K.lookup a = none) (q : sp [.ref a] H (fun v _ => v = .bl true) fun _ _ _ => False) : LawEnd P w fa a s := by
  have dict_free : ∀ b o es ep, s.heap.get? b = some o → o.data = .dict es ep → H b = none := fun b o es ep e d => hA b fun z => hdat o (z ▸ e) es ep d
  have keepNs : ∀ {b : Addr} {m : Str → Option Value}, s.heap.Ns b m → (hidT s.heap H).Ns b m := fun {b m} ⟨o, es, ep, e, d, r⟩ => ⟨o, es, ep, hidT_get e (dict_free b o es ep e d), d, r⟩
  have keepK : K.In (hidT s.heap H) := fun b o e => hidT_get (kin b o e) (Decidable.byContradiction fun z => by
    by_cases hba : b = a
    · subst hba
      rw [hK z] at e
      cases e
    · exact z (hA b hba))
  obtain ⟨mc, l1, l2⟩ := hlim
  have e0 : Env0 P w K mg (hidT s.heap H) callerA [] s H := ⟨rfl, ⟨keepK, keepNs hns, ⟨mb, keepNs hb, hbb⟩, ⟨mc, keepNs l1, l2⟩⟩, fun b o e => of_hidT e, Nat.le_of_eq (hidT_size _ _), trivial, fun b z => absurd (show b ∈ ([] : List Addr) from z) (by simp), hok, .of_eq hg⟩
  refine codeAny_mono ((F _ keepK (keepNs hns)).go callerA [] s H ⟨[.ref a], []⟩ [.ref a] [.ref a] _ _ hr (fun _ => rfl) e0 (hbind s (.ref a)) (.cons rfl .nil) q) fun r s' h => ?_
  match r, h with
  | .error e, h =>
    obtain ⟨_, _, _, _, _, _, _, _, _, _, _, _, z⟩ := h
    exact z.elim
  | .ok .next, h => exact False.elim h
  | .ok .brk, h => exact False.elim h
  | .ok .cont, h => exact False.elim h
  | .ok (.ret u), ⟨v, H', os, bare, un, hok', rv, ev⟩ =>
    have ev' : v = .bl true := ev
    subst ev'
    obtain rfl : u = Value.bool true := rv
    refine ⟨rfl, OldK.of_keep fun b o e => ?_, os, bare⟩
    rcases hO b with z | ⟨ob, xs, z⟩
    · exact un.keep b o e z (fun m => absurd (show b ∈ ([] : List Addr) from m) (by simp)) (by simp)
    · have c1 := (hok b _ z).1
      have c2 := (hok' b _ (un.frzs b ob _ z)).1
      rw [e] at c1
      cases c1
      exact c2
theorem law_callG (kin : K.In s.heap) (hns : s.heap.Ns mainGlobals mg) (hb : s.heap.Ns builtinsNs mb) (hbb : ∀ x : Str, x ≠ "__name__" → mb x = bootBuiltins x) (hlim : s.heap.NoLimit) (hg : s.gens = #[])
    (ha : s.heap.get? a = some { cls := .type "list", data := .seq us.toArray }) (hi : IntsAre us ns) (hl : ns.length ≤ sizeLine) (hr : Room k callerA)
    (F : ∀ base : Heap, K.In base → base.Ns mainGlobals mg → Fg P w K mg base g k fa fd [x] sp) (hbind : ∀ (s : Shared) (u : Value), BindsTo s fd ⟨[u], []⟩ [(x, u)])
    (hsp : ∀ H : Hp, SqL K H a (ns.map V.int) → sp [.ref a] H (fun v _ => v = .bl true) fun _ _ _ => False) : LawEnd P w fa a s := by
  have rv := vals_ints hi
  have hdat : ∀ o, s.heap.get? a = some o → ∀ es ep, o.data ≠ .dict es ep := fun o e es ep d => by
    rw [ha] at e
    cases e
    have d' : Data.seq us.toArray _ = Data.dict es ep := d
    cases d'
  cases hk : K.lookup a with
  | some o =>
    have e := kin a o hk
    rw [ha] at e
    cases e
    exact end_at (H := fun _ => none) kin hns hb hbb hlim hg hdat hr F hbind (fun _ => .inl rfl) (fun b u z => nomatch z) (fun _ _ => rfl) (fun z => absurd rfl z)
      (hsp _ (.inr ⟨_, us.toArray, _, hk, rfl, rfl, rfl, by rw [List.size_toArray, hi.length]; exact hl, by simpa using rv⟩))
  | none =>
    refine end_at (H := upd (fun _ => none) a (.frz { cls := .type "list", data := .seq us.toArray } (.lst (ns.map V.int)))) kin hns hb hbb hlim hg hdat hr F hbind (fun b => ?_) (fun b u z => ?_) (fun b hb => upd_ne hb) (fun _ => hk) (hsp _ (.inl (.inr ⟨_, upd_same⟩)))
    · by_cases hb : b = a
      · exact .inr ⟨_, _, by rw [hb]; exact upd_same⟩
      · exact .inl (upd_ne hb)
    · by_cases hb : b = a
      · subst hb
        rw [upd_same] at z
        cases z
        exact ⟨ha, by rw [List.length_map]; exact hl, us, _, rv, ha⟩
      · rw [upd_ne hb] at z
        cases z
end
theorem walk_ofG {l : PySem.W.OpenLaw} {n k : Nat} {q : Program} {loose : List Str} {XP : (Str → Option Value) → Heap → Prop} {YP : World → Heap → Prop} {d : DefRec} {K : Params → PySem.W.Frag} {g : Bool} {sp : PySem.W.Frag → Sp} {x : Str}
    (hn : l.most = some n) (hn2 : n ≤ sizeLine) (hdf : d.params.defaults = []) (hr : Room k callerA) (hY : ∀ (w : World) (h : Heap), YP w h → (K w.params).In h)
    (F : ∀ (w : World) (mg : Str → Option Value) (fa : Addr) (h : Heap), (K w.params).In h → h.Ns mainGlobals mg → mg d.name = some (.ref fa) →
      ∃ fd : FuncData, (∀ (s : Shared) (u : Value), BindsTo s fd ⟨[u], []⟩ [(x, u)]) ∧ ∀ base : Heap, (K w.params).In base → base.Ns mainGlobals mg → Fg l.prog w (K w.params) mg base g k fa fd [x] (sp (K w.params)))
    (hsp : ∀ (K : PySem.W.Frag) (H : Hp) (a : Addr) (ns : List Int), ns.length ≤ n → (∀ z ∈ ns, Builtin.Int.intBits z ≤ 1048576) → SqL K H a (ns.map V.int) → sp K [.ref a] H (fun v _ => v = .bl true) fun _ _ _ => False) :
    PySem.W.WalkO q loose XP YP l.row.toRowW d [] (fun f vs => PySem.call f vs) := by
  refine Att.attach_callB hn hdf fun w s₀ s₁ mg mb fa o pm cd doc a vs ns G Y ho hd hcd hmg hobj hints hlen hbits hg => ?_
  have kin := hY w _ Y
  obtain ⟨fd, hb, hF⟩ := F w mg fa _ kin G.T.g hmg
  exact law_callG kin G.T.g G.T.b G.T.builtins G.T.nolimit hg hobj hints (Nat.le_trans hlen hn2) hr hF hb fun H hS => hsp _ H a ns hlen hbits hS
end G
set_option Elab.async false
set_option linter.all false
set_option maxRecDepth 100000
namespace G
open PySem PySem.Spec PyProof.Rows L2
/-! ### isinstance with own classes -/
theorem kit_ownT {K : PySem.W.Frag} {t : Value} {C : Addr} (hc : PySem.W.isClsIn K C = true) (ht : PySem.W.typeIn K (.ref C) = some (.type "type")) (hs : PySem.W.subIn K t (.ref C) = some true) : PySem.W.kitOne K t (.ref C) = some true := by
  unfold PySem.W.kitOne
  split
  · rfl
  · unfold PySem.W.kitCls
    dsimp only
    rw [show (PySem.W.clsIn K C).isSome = true from hc, ht, hs]
    rfl
theorem kit_ownF {K : PySem.W.Frag} {T : String} {C : Addr} {r : Bool} (hc : PySem.W.isClsIn K C = true) (ht : PySem.W.typeIn K (.ref C) = some (.type "type")) (hs : PySem.W.subIn K (.type T) (.ref C) = some r) : PySem.W.kitOne K (.type T) (.ref C) = some r := by
  unfold PySem.W.kitOne
  rw [if_neg (by simp)]
  unfold PySem.W.kitCls
  dsimp only
  rw [show (PySem.W.clsIn K C).isSome = true from hc, ht, hs]
  rfl
theorem kit_self {K : PySem.W.Frag} {C : Addr} : PySem.W.kitOne K (.ref C) (.ref C) = some true := if_pos (by simp)
theorem kit_blt {K : PySem.W.Frag} {T : String} {C : Addr} {r : Bool} (hm : PySem.W.kitMeta T = true) (hs : PySem.W.subIn K (.ref C) (.type T) = some r) : PySem.W.kitOne K (.ref C) (.type T) = some r := by
  unfold PySem.W.kitOne
  rw [if_neg (by simp)]
  unfold PySem.W.kitCls
  dsimp only
  rw [hm, hs]
  rfl
theorem nf_self {K : PySem.W.Frag} {C : Addr} : PySem.W.notFirst K C (.ref C) = true := by unfold PySem.W.notFirst; simp
theorem nf_of {K : PySem.W.Frag} {C : Addr} {t : Value} (h : PySem.W.subIn K t (.ref C) = some false) : PySem.W.notFirst K C t = true := by unfold PySem.W.notFirst; rw [h]; simp
theorem kEqU {X : Cx} {K : PySem.W.Frag} (hK : X.K = K) (hu : X.A.units + 64 < cLine) : OpR X (compareOp .Eq) (rEqA K) := by subst hK; exact op_eq.or (op_eqD hu)
theorem kNeU {X : Cx} {K : PySem.W.Frag} (hK : X.K = K) (hu : X.A.units + 64 < cLine) : OpR X (compareOp .NotEq) (rNeA K) := by subst hK; exact op_ne.or (op_neD hu)
/-! ### defs, methods, classes of the text -/
abbrev BodyN (P : Program) (w : World) (K : PySem.W.Frag) (mg : Str → Option Value) (base : Heap) (g : Bool) (k : Nat) (N : List Str) (qual : Str) (st : Stmt) (f : Addr) (sp : Sp) : Prop :=
  ∀ (cdv : Value) (A : Around) (outer : List Env) (s : Shared) (H : Hp) (vs : List V) (Q : VK) (E : XK), Room k (A.deeper (envOfC qual (defScope st) s.heap.objs.size f cdv)) →
    (g = true → (A.deeper (envOfC qual (defScope st) s.heap.objs.size f cdv)).guards = some []) → sp vs H Q E →
    ∃ t, PSs (cxOf (L2.CX P w) P w K mg base N qual (defScope st) f cdv A outer s H E).nox (defBody st) t ∧ t { nx := fun _ H' => Q .non H', rt := Q } (start N vs) H
abbrev BodyX (P : Program) (w : World) (K : PySem.W.Frag) (mg : Str → Option Value) (base : Heap) (g : Bool) (k : Nat) (N : List Str) (qual : Str) (st : Stmt) (f : Addr) (sp : Sp) : Prop :=
  ∀ (cdv : Value) (A : Around) (outer : List Env) (s : Shared) (H : Hp) (vs : List V) (Q : VK) (E : XK), Room k (A.deeper (envOfC qual (defScope st) s.heap.objs.size f cdv)) →
    (g = true → (A.deeper (envOfC qual (defScope st) s.heap.objs.size f cdv)).guards = some []) → sp vs H Q E →
    ∃ t, PSs (cxOf (L2.CX P w) P w K mg base N qual (defScope st) f cdv A outer s H E) (defBody st) t ∧ t { nx := fun _ H' => Q .non H', rt := Q } (start N vs) H
structure Dm (K : PySem.W.Frag) (C : Addr) (m qual : Str) (st : Stmt) (ps : List Str) : Prop where
  ex : ∃ (f : Addr) (fd : FuncData), Cls K C ∧ Meth K C m f ∧ PySem.W.fnIn K f = true ∧ Fun K m qual st f fd ∧ Binds K fd ps []
structure Dk (K : PySem.W.Frag) (mg : Str → Option Value) (x : Str) (C : Addr) (qual : Str) (st : Stmt) (dvs : List V) : Prop where
  ex : ∃ (f : Addr) (fd : FuncData), Mk K C f ∧ mg x = some (.ref C) ∧ FunD K "__init__" qual (defArgs st) (defBody st) (defScope st) dvs [] f fd
structure Ini (P : Program) (w : World) (K : PySem.W.Frag) (mg : Str → Option Value) (base : Heap) (k : Nat) (x : Str) (C : Addr) (qual : Str) (st : Stmt) (dvs : List V) (ps : List Str) (sp : Sp) : Prop where
  ex : ∃ (f : Addr) (fd : FuncData), Mk K C f ∧ mg x = some (.ref C) ∧ FunD K "__init__" qual (defArgs st) (defBody st) (defScope st) dvs [] f fd ∧ Fg P w K mg base false k f fd ps sp
section
variable {P : Program} {w : World} {K : PySem.W.Frag} {mg : Str → Option Value} {base : Heap} {g : Bool} {x qual m : Str} {st : Stmt} {N ps : List Str} {k : Nat} {sp : Sp} {C : Addr} {dvs : List V}
theorem kbn_of {fd : FuncData} (b : Binds K fd ps []) : KBn K fd ps ps.length [] (fun us _ => us) (fun vs _ => vs) :=
  ⟨fun s us ws X l1 l2 => by
    have h := b s us X (by rw [List.append_nil]; exact l1)
    rw [List.append_nil] at h
    exact h, fun r _ => r⟩
theorem Dd.calG (F : Dd K mg x st ps) (S : FnScope N ps (defScope st)) (len : ∀ vs H Q E, sp vs H Q E → vs.length = ps.length) (hbody : ∀ f, BodyN P w K mg base g k N x st f sp) : CalG P w K mg base g (k + 1) x sp ps.length [] (fun vs _ => vs) := by
  obtain ⟨f, fd, F1, hm, b⟩ := F.ex
  exact ⟨f, fd, ps, _, fg_of F1 S len fun cdv A outer s H vs Q E hr hg h => let ⟨t, h1, h2⟩ := hbody f cdv A outer s H vs Q E hr hg h; ⟨t, h1.nox, h2⟩, hm, F1.kp, kbn_of b⟩
theorem Dd.calX (F : Dd K mg x st ps) (S : FnScope N ps (defScope st)) (len : ∀ vs H Q E, sp vs H Q E → vs.length = ps.length) (hbody : ∀ f, BodyX P w K mg base g k N x st f sp) : CalG P w K mg base g (k + 1) x sp ps.length [] (fun vs _ => vs) := by
  obtain ⟨f, fd, F1, hm, b⟩ := F.ex
  exact ⟨f, fd, ps, _, fg_of F1 S len (hbody f), hm, F1.kp, kbn_of b⟩
theorem Dd.lawG {fa : Addr} (F : Dd K mg x st ps) (S : FnScope N ps (defScope st)) (hfa : mg x = some (.ref fa)) (len : ∀ vs H Q E, sp vs H Q E → vs.length = ps.length) (hbody : ∀ base f, BodyN P w K mg base g k N x st f sp) :
    ∃ fd : FuncData, (∃ (kV doc pm : Value) (an : Option Addr) (cdv ct : Value), fd = PySem.W.fnOf x x (defArgs st) (defBody st) (defScope st) .none kV doc pm an cdv ct) ∧ ∀ base : Heap, Fg P w K mg base g (k + 1) fa fd ps sp := by
  obtain ⟨f, fd, F1, hm, b⟩ := F.ex
  have e := hfa.symm.trans hm
  cases e
  refine ⟨fd, ?_, fun base => fg_of F1 S len fun cdv A outer s H vs Q E hr hg h => let ⟨t, h1, h2⟩ := hbody base fa cdv A outer s H vs Q E hr hg h; ⟨t, h1.nox, h2⟩⟩
  obtain ⟨oc, od, kV, doc, pm, an, cdv, ct, osl, rfl, lk, hcd⟩ := F1.ex
  exact ⟨kV, doc, pm, an, cdv, ct, rfl⟩
theorem Dm.metX (F : Dm K C m qual st ps) (S : FnScope N ps (defScope st)) (len : ∀ vs H Q E, sp vs H Q E → vs.length = ps.length) (hbody : ∀ f, BodyX P w K mg base g k N qual st f sp) : MetG P w K mg base g (k + 1) C m sp ps := by
  obtain ⟨f, fd, c, M, hf, F1, b⟩ := F.ex
  exact ⟨f, fd, c, M, hf, fg_of F1 S len (hbody f), b⟩
theorem Dm.met (F : Dm K C m qual st ps) (S : FnScope N ps (defScope st)) (len : ∀ vs H Q E, sp vs H Q E → vs.length = ps.length) (hbody : ∀ f, BodyN P w K mg base g k N qual st f sp) : MetG P w K mg base g (k + 1) C m sp ps :=
  F.metX S len fun f cdv A outer s H vs Q E hr hg h => let ⟨t, h1, h2⟩ := hbody f cdv A outer s H vs Q E hr hg h; ⟨t, h1.nox, h2⟩
theorem Dk.ini (F : Dk K mg x C qual st dvs) (S : FnScope N ps (defScope st)) (len : ∀ vs H Q E, sp vs H Q E → vs.length = ps.length) (hbody : ∀ f, BodyX P w K mg base false k N qual st f sp) : Ini P w K mg base (k + 1) x C qual st dvs ps sp := by
  obtain ⟨f, fd, M, hm, F1⟩ := F.ex
  exact ⟨f, fd, M, hm, F1, Fg.of (F1.ok S len fun cdv A outer s H vs Q E hr h => hbody f cdv A outer s H vs Q E hr (fun e => nomatch e) h)⟩
theorem Ini.mak {n : Nat} {ks : List Str} {gV : List V → List V → List V} (F : Ini P w K mg base k x C qual st dvs ps sp) (b : ∀ f fd, FunD K "__init__" qual (defArgs st) (defBody st) (defScope st) dvs [] f fd → ∃ gg, KBn K fd ps (n + 1) ks gg gV) : MakG P w K mg base k x C sp n ks gV := by
  obtain ⟨f, fd, M, hm, F1, G⟩ := F.ex
  obtain ⟨gg, kb⟩ := b f fd F1
  exact ⟨f, fd, ps, gg, M, G, hm, kb⟩
end
end G
set_option Elab.async false
set_option linter.all false
set_option maxRecDepth 100000
namespace G
open PySem PySem.Spec PyProof.Rows L2
/-! ### sequences, kinds -/
/-- a list or a tuple -/
def Sq (K : PySem.W.Frag) (H : Hp) (v : V) (xs : List V) : Prop := ∃ p, v = .ref p ∧ (SqL K H p xs ∨ SqT K H p xs)
theorem Sq.l {K : PySem.W.Frag} {H : Hp} {p : Addr} {xs : List V} (h : SqL K H p xs) : Sq K H (.ref p) xs := ⟨p, rfl, .inl h⟩
theorem Sq.t {K : PySem.W.Frag} {H : Hp} {p : Addr} {xs : List V} (h : SqT K H p xs) : Sq K H (.ref p) xs := ⟨p, rfl, .inr h⟩
theorem Sq.mono {K : PySem.W.Frag} {H H' : Hp} {v : V} {xs : List V} (e : Ex H H') (h : Sq K H v xs) : Sq K H' v xs := by
  obtain ⟨p, rfl, h⟩ := h
  exact ⟨p, rfl, h.elim (fun h => .inl (sqL_mono e h)) fun h => .inr (sqT_mono e h)⟩
theorem tyL {K : PySem.W.Frag} {H : Hp} {p : Addr} {xs : List V} (h : SqL K H p xs) : TyX K H (.ref p) (.type "list") := by
  rcases h with (h | ⟨o, h⟩) | ⟨o, its, n, h1, h2, h3, h4⟩
  · exact .base (.lst h)
  · exact .base (.frz h)
  · exact .kList h1 h2
theorem tyT {K : PySem.W.Frag} {H : Hp} {p : Addr} {xs : List V} (h : SqT K H p xs) : TyX K H (.ref p) (.type "tuple") := by
  rcases h with (h | ⟨o, h⟩) | ⟨o, its, n, h1, h2, h3⟩
  · exact .base (.tup h)
  · exact .fTuple h
  · exact .kTuple h1 h2
theorem l_tupSq {K : PySem.W.Frag} {H : Hp} {v : V} {xs : List V} {Q : VK} (hs : Sq K H v xs) (q : ∀ p H', Ex H H' → SqT K H' p xs → Q (.ref p) H') : rTupA K [v] H Q := by
  obtain ⟨p, rfl, h | h⟩ := hs
  · exact ⟨xs, .inl ⟨h, fun l hl => q l _ (Ex.new hl) (.of upd_same)⟩⟩
  · exact ⟨xs, .inr ⟨h, q p H (Ex.refl H) h⟩⟩
theorem sqT_but {K : PySem.W.Frag} {H H' : Hp} {x p C dx : Addr} {fs : List (Str × V)} {xs : List V} (b : But x H H') (hx : H x = some (.ins C dx fs)) (h : SqT K H p xs) : SqT K H' p xs := by
  rcases h with (h | ⟨o, h⟩) | h
  · exact .inl (.inl (b _ _ (fun z => by rw [z, hx] at h; cases h) h))
  · exact .inl (.inr ⟨o, b _ _ (fun z => by rw [z, hx] at h; cases h) h⟩)
  · exact .inr h
theorem sqL_but {K : PySem.W.Frag} {H H' : Hp} {x p C dx : Addr} {fs : List (Str × V)} {xs : List V} (b : But x H H') (hx : H x = some (.ins C dx fs)) (h : SqL K H p xs) : SqL K H' p xs := by
  rcases h with (h | ⟨o, h⟩) | h
  · exact .inl (.inl (b _ _ (fun z => by rw [z, hx] at h; cases h) h))
  · exact .inl (.inr ⟨o, b _ _ (fun z => by rw [z, hx] at h; cases h) h⟩)
  · exact .inr h
theorem Sq.but {K : PySem.W.Frag} {H H' : Hp} {x C dx : Addr} {fs : List (Str × V)} {v : V} {xs : List V} (b : But x H H') (hx : H x = some (.ins C dx fs)) (h : Sq K H v xs) : Sq K H' v xs := by
  obtain ⟨p, rfl, h⟩ := h
  exact ⟨p, rfl, h.elim (fun h => .inl (sqL_but b hx h)) fun h => .inr (sqT_but b hx h)⟩
/-- an int, no bool -/
def isI : V → Bool
  | .int _ => true
  | _ => false
def isB : V → Bool
  | .bl _ => true
  | _ => false
/-- a value whose kind is known -/
def Kd (K : PySem.W.Frag) (H : Hp) (x : V) : Prop := flatV x = true ∨ ∃ p T, x = .ref p ∧ TyX K H x (.type T) ∧ (T = "list" ∨ T = "tuple" ∨ T = "dict")
theorem Kd.l {K : PySem.W.Frag} {H : Hp} {p : Addr} {xs : List V} (h : SqL K H p xs) : Kd K H (.ref p) := .inr ⟨p, _, rfl, tyL h, .inl rfl⟩
theorem Kd.t {K : PySem.W.Frag} {H : Hp} {p : Addr} {xs : List V} (h : SqT K H p xs) : Kd K H (.ref p) := .inr ⟨p, _, rfl, tyT h, .inr (.inl rfl)⟩
theorem Kd.d {K : PySem.W.Frag} {H : Hp} {p : Addr} {kvs : List (Key × V)} (h : H p = some (.dK kvs)) : Kd K H (.ref p) := .inr ⟨p, _, rfl, .base (.dK h), .inr (.inr rfl)⟩
/-- its type, and what isinstance says of it with int, with bool -/
theorem Kd.is {K : PySem.W.Frag} {H : Hp} {x : V} (h : Kd K H x) : ∃ t, TyX K H x t ∧ (∃ b, PySem.W.kitOne K t (.type "int") = some b ∧ isI x = (b && !isB x)) ∧ PySem.W.kitOne K t (.type "bool") = some (isB x) ∧ (isI x = true → PySem.W.kitOne K t (.type "int") = some true) := by
  rcases h with h | ⟨p, T, rfl, ty, rfl | rfl | rfl⟩
  · cases x with
    | non => exact ⟨_, .base .non, ⟨false, kt_NoneType_int, rfl⟩, kt_NoneType_bool, fun e => nomatch e⟩
    | bl b => exact ⟨_, .base (.bl b), ⟨true, kt_bool_int, rfl⟩, kt_bool_bool, fun e => nomatch e⟩
    | int i => exact ⟨_, .base (.int i), ⟨true, kt_int_int, rfl⟩, kt_int_bool, fun _ => kt_int_int⟩
    | str z => exact ⟨_, .base (.str z), ⟨false, kt_str_int, rfl⟩, kt_str_bool, fun e => nomatch e⟩
    | byt b => cases h
    | flt b => cases h
    | ref b => cases h
    | ty b => cases h
  · exact ⟨_, ty, ⟨false, kt_list_int, rfl⟩, kt_list_bool, fun e => nomatch e⟩
  · exact ⟨_, ty, ⟨false, kt_tuple_int, rfl⟩, kt_tuple_bool, fun e => nomatch e⟩
  · exact ⟨_, ty, ⟨false, kt_dict_int, rfl⟩, kt_dict_bool, fun e => nomatch e⟩
theorem Kd.mono {K : PySem.W.Frag} {H H' : Hp} {x : V} (e : Ex H H') (h : Kd K H x) : Kd K H' x := by
  rcases h with h | ⟨p, T, rfl, ty, hT⟩
  · exact .inl h
  · refine .inr ⟨p, T, rfl, ?_, hT⟩
    generalize hx : V.ref p = x at ty
    generalize ht : Value.type T = t at ty
    cases ty with
    | base b =>
      cases b with
      | lst h => exact .base (.lst (e _ _ h))
      | frz h => exact .base (.frz (e _ _ h))
      | tup h => exact .base (.tup (e _ _ h))
      | dK h => exact .base (.dK (e _ _ h))
      | dT h => exact .base (.dT (e _ _ h))
      | non => cases hx
      | bl _ => cases hx
      | int _ => cases hx
      | str _ => cases hx
      | flt _ => cases hx
      | ins => cases ht
    | byt _ => cases hx
    | set h => exact .set (e _ _ h)
    | kList h c => exact .kList h c
    | kTuple h c => exact .kTuple h c
    | kDict h c => exact .kDict h c
    | fTuple h => exact .fTuple (e _ _ h)
    | fDict h => exact .fDict (e _ _ h)
/-! ### [f(x) for x in xs] -/
section
variable {K : PySem.W.Frag} {xs : List V} {f : V → V} {i : Nat} {vs : List Nat} {σ : L2.St} {H : Hp} {te : TE} {Q : VK} {v : V}
theorem lc_turn {DD : Addr} (hD : H DD = none) (hlen : xs.length ≤ 1000) (hw : ∀ x, wipe ((wipe σ vs).set i (some x)) vs = wipe σ vs)
    (hte : ∀ x ∈ xs, ∀ H' R, Ex H H' → (∀ H'', Ex H' H'' → R (f x) H'') → te ((wipe σ vs).set i (some x)) H' R) (j : Nat) (x : V) (H' : Hp) (hj : xs[j]? = some x) (hp : Ex H H' ∧ H' DD = some (.lst ((xs.take j).map f))) :
    gName i x (wipe σ vs) H' fun σ2 H2 => wipe σ2 vs = wipe σ vs ∧ tYes σ2 H2 fun b H3 =>
      if b = true then te σ2 H3 fun y H4 => ∃ acc, H4 DD = some (.lst acc) ∧ acc.length < sizeLine ∧ Ex H (upd H4 DD (.lst (acc ++ [y]))) ∧ upd H4 DD (.lst (acc ++ [y])) DD = some (.lst ((xs.take (j + 1)).map f)) else Ex H H3 ∧ H3 DD = some (.lst ((xs.take (j + 1)).map f)) := by
  refine ⟨hw x, i_yes ?_⟩
  rw [if_pos rfl]
  refine hte x (List.mem_of_getElem? hj) H' _ hp.1 fun H'' e => ⟨_, e _ _ hp.2, ?_, (hp.1.trans e).mut hD, ?_⟩
  · rw [List.length_map, List.length_take]
    exact szl (by omega)
  · rw [upd_same, take_succ hj, List.map_append]
    rfl
theorem lc_mapL {a : Addr} (hs : SqL K H a xs) (hlen : xs.length ≤ 1000) (hw : ∀ x, wipe ((wipe σ vs).set i (some x)) vs = wipe σ vs)
    (hte : ∀ x ∈ xs, ∀ H' R, Ex H H' → (∀ H'', Ex H' H'' → R (f x) H'') → te ((wipe σ vs).set i (some x)) H' R) (hQ : ∀ D H', H D = none → Ex H H' → H' D = some (.lst (xs.map f)) → Q (.ref D) H') : lcB (Itl K a) (gName i) tYes te vs σ Q H := by
  intro DD hD
  refine lc_list (xs := xs) (fun j H' => Ex H H' ∧ H' DD = some (.lst ((xs.take j).map f))) ⟨Ex.new hD, upd_same⟩ (fun _ H' _ p => sqL_mono p.1 hs) (fun j x H' hj hp => lc_turn hD hlen hw hte j x H' hj hp) (fun H' p => hQ DD H' hD p.1 (by rw [p.2, List.take_length]))
theorem lc_mapT {a : Addr} (hs : SqT K H a xs) (hlen : xs.length ≤ 1000) (hw : ∀ x, wipe ((wipe σ vs).set i (some x)) vs = wipe σ vs)
    (hte : ∀ x ∈ xs, ∀ H' R, Ex H H' → (∀ H'', Ex H' H'' → R (f x) H'') → te ((wipe σ vs).set i (some x)) H' R) (hQ : ∀ D H', H D = none → Ex H H' → H' D = some (.lst (xs.map f)) → Q (.ref D) H') : lcB (Itt K a) (gName i) tYes te vs σ Q H := by
  intro DD hD
  refine lc_tup (xs := xs) (fun j H' => Ex H H' ∧ H' DD = some (.lst ((xs.take j).map f))) ⟨Ex.new hD, upd_same⟩ (fun _ H' _ p => sqT_mono p.1 hs) (fun j x H' hj hp => lc_turn hD hlen hw hte j x H' hj hp) (fun H' p => hQ DD H' hD p.1 (by rw [p.2, List.take_length]))
/-- .. over a variable that holds a list or a tuple -/
theorem lc_var {k : Nat} (hv : σ[k]? = some (some v)) (hs : Sq K H v xs) (hlen : xs.length ≤ 1000) (hw : ∀ x, wipe ((wipe σ vs).set i (some x)) vs = wipe σ vs)
    (hte : ∀ x ∈ xs, ∀ H' R, Ex H H' → (∀ H'', Ex H' H'' → R (f x) H'') → te ((wipe σ vs).set i (some x)) H' R) (hQ : ∀ D H', H D = none → Ex H H' → H' D = some (.lst (xs.map f)) → Q (.ref D) H') : iAny K (tVar k) σ H fun J H1 => lcB J (gName i) tYes te vs σ Q H1 := by
  obtain ⟨p, rfl, h | h⟩ := hs
  · exact i_anyL ⟨_, hv, p, rfl, ⟨_, h⟩, lc_mapL h hlen hw hte hQ⟩
  · exact i_anyT ⟨_, hv, p, rfl, ⟨_, h⟩, lc_mapT h hlen hw hte hQ⟩
end
/-! ### the law's own draws, the list of the script's numbers at L -/
structure Dl (H : Hp) (st L : Addr) (b : Nat) : Prop where
  ex : ∃ (ns : List Int) (a c : Int), H st = some (.lst [.ref L, .int a, .int c]) ∧ H L = some (.lst (ns.map V.int)) ∧ st ≠ L ∧ 0 ≤ c ∧ c ≤ (b : Int)
theorem Dl.up {H : Hp} {st L : Addr} {b b' : Nat} (d : Dl H st L b) (h : b ≤ b') : Dl H st L b' := by
  obtain ⟨ns, a, c, h1, h2, h3, h4, h5⟩ := d.ex
  exact ⟨ns, a, c, h1, h2, h3, h4, by omega⟩
theorem Dl.mono {H H' : Hp} {st L : Addr} {b : Nat} (d : Dl H st L b) (e : Ex H H') : Dl H' st L b := by
  obtain ⟨ns, a, c, h1, h2, h3, h4, h5⟩ := d.ex
  exact ⟨ns, a, c, e _ _ h1, e _ _ h2, h3, h4, h5⟩
/-- what is written apart from them leaves them -/
theorem Dl.put {H : Hp} {st L p : Addr} {b : Nat} {o : HO} (d : Dl H st L b) (h1 : p ≠ st) (h2 : p ≠ L) : Dl (upd H p o) st L b := by
  obtain ⟨ns, a, c, g1, g2, g3, g4, g5⟩ := d.ex
  exact ⟨ns, a, c, by rw [upd_ne h1.symm]; exact g1, by rw [upd_ne h2.symm]; exact g2, g3, g4, g5⟩
theorem Dl.ne {H : Hp} {st L p : Addr} {b : Nat} (d : Dl H st L b) (h : H p = none) : p ≠ st ∧ p ≠ L := by
  obtain ⟨ns, a, c, h1, h2, _⟩ := d.ex
  exact ⟨(ne_of_none h1 h).symm, (ne_of_none h2 h).symm⟩
def spOpenL (K : PySem.W.Frag) : Sp := fun vs H Q _ => ∃ (a : Addr) (ns : List Int), vs = [.ref a] ∧ SqL K H a (ns.map V.int) ∧ ns.length ≤ 63 ∧ ∀ (st L : Addr) (H' : Hp), H st = none → H L = none → Dl H' st L 0 → Ex H H' → Q (.ref st) H'
def spDrawL : Sp := fun vs H Q _ => ∃ (st L : Addr) (n : Int) (b : Nat), vs = [.ref st, .int n] ∧ 0 < n ∧ n ≤ 10 ^ 18 ∧ Dl H st L b ∧ b < 2 ^ 60 ∧
  ∀ (r : Int) (H' : Hp), 0 ≤ r → r < n → Dl H' st L (b + 1) → But st H H' → Q (.int r) H'
theorem drawL {st L : Addr} {n : Int} {b : Nat} {H : Hp} {Q : VK} {E : XK} (hd : Dl H st L b) (hn : 0 < n) (hn2 : n ≤ 10 ^ 18) (hb : b < 2 ^ 60) (q : ∀ r H', 0 ≤ r → r < n → Dl H' st L (b + 1) → But st H H' → Q (.int r) H') : spDrawL ([.ref st, .int n] ++ []) H Q E :=
  ⟨st, L, n, b, rfl, hn, hn2, hd, hb, q⟩
theorem But.put {st p : Addr} {H H' : Hp} {o : HO} (e : But st H H') (h : H p = none) : But st H (upd H' p o) := fun a u n ha => by
  rw [upd_ne (ne_of_none ha h)]
  exact e a u n ha
theorem But.free {st p : Addr} {H H' : Hp} (e : But st H H') (hp : p ≠ st) (h : H' p = none) : H p = none := by
  cases q : H p with
  | none => rfl
  | some o =>
    rw [e _ _ hp q] at h
    cases h
theorem Dl.ins_ne {st L p C dx : Addr} {H : Hp} {b : Nat} {fs : List (Str × V)} (d : Dl H st L b) (h : H p = some (.ins C dx fs)) : p ≠ st := by
  obtain ⟨ns, a, c, h1, _⟩ := d.ex
  intro z
  rw [z, h1] at h
  cases h
theorem sqT_dl {K : PySem.W.Frag} {H H' : Hp} {st L p : Addr} {b : Nat} {xs : List V} (d : Dl H st L b) (e : But st H H') (h : SqT K H p xs) : SqT K H' p xs := by
  obtain ⟨ns, a, c, h1, _⟩ := d.ex
  rcases h with (h | ⟨o, h⟩) | h
  · exact .inl (.inl (e _ _ (fun z => by rw [z, h1] at h; cases h) h))
  · exact .inl (.inr ⟨o, e _ _ (fun z => by rw [z, h1] at h; cases h) h⟩)
  · exact .inr h
/-! ### steps for what is new -/
section
variable {K : PySem.W.Frag} {σ : L2.St} {H : Hp} {Q : VK} {t tz : TA} {ta tb te to : TE} {D : Ends}
theorem i_mkS {C : Addr} {n m : Nat} {sp : Sp} {gV : List V → List V → List V} {E : L2.St → XK} (q : t σ H fun vs H1 => tz σ H1 fun zs H2 => vs.length = n ∧ zs.length = m ∧ ∀ x dx, H2 x = none → H2 dx = none → dx ≠ x →
  sp (gV (.ref x :: vs) zs) (upd (upd H2 dx (.own x)) x (.ins C dx [])) (fun v H3 => v = .non ∧ Q (.ref x) H3) (E σ)) : tMkS C n m sp gV E t tz σ H Q := q
theorem i_cS {n m : Nat} {sp : Sp} {gV : List V → List V → List V} {E : L2.St → XK} (q : t σ H fun vs H1 => tz σ H1 fun zs H2 => vs.length = n ∧ zs.length = m ∧ sp (gV vs zs) H2 Q (E σ)) : tCS n m sp gV E t tz σ H Q := q
theorem i_fld {f : Str} (q : ta σ H fun x H1 => ∃ a C dx fs v, x = .ref a ∧ H1 a = some (.ins C dx fs) ∧ Cls K C ∧ NoAttr K C f ∧ fs.lookup f = some v ∧ Q v H1) : tFld K ta f σ H Q := q
theorem i_sFld {f : Str} (q : tb σ H fun y H1 => ta σ H1 fun x H2 => ∃ a C dx fs, x = .ref a ∧ H2 a = some (.ins C dx fs) ∧ Cls K C ∧ NoAttr K C f ∧ fs.length < 1000 ∧ D.nx σ (upd H2 a (.ins C dx (putF f y fs)))) : sFld K ta tb f D σ H := q
theorem i_tX {C : Addr} {f : Str} {QX : XK} (q : t σ H fun vs H1 => ∃ v, vs = [v] ∧ ∀ d, H1 d = none → QX (.ref C) (some d) (upd H1 d (.xd [(f, v)]))) : tX C f t σ H QX := q
theorem l_len2 {vs zs : List V} {n m : Nat} {R : Prop} (h1 : vs.length = n) (h2 : zs.length = m) (q : R) : vs.length = n ∧ zs.length = m ∧ R := ⟨h1, h2, q⟩
end
end G
set_option Elab.async false
set_option linter.all false
set_option maxRecDepth 100000
/-! generators that sleep are left alone by what can't have resumed them -/
namespace GN
open PySem
open Sem (wp)
/-- the sleeper whose going on is nothing -/
def Stk (x : GenState) : Prop := ∃ (w : String) (l : List Value) (c : Code) (p : Pos) (fs : List Frame) (cl : Bool), x = .suspended (fun _ => .unsupported w) l c p fs cl
theorem runs_un {M : Model} {Γ : Ctx} {p : Pos} {t : Sem PySem.Fin} {fs : List Frame} {s s' : Shared} {e : End} (h : Runs M Γ p t fs s e s') : ∀ w, t ≠ .unsupported w := by
  induction h with
  | segRet _ _ ih _ => exact fun w z => ih w z
  | segGen _ _ ih _ => exact fun w z => ih w z
  | segSuspOut _ _ ih => exact fun w z => ih w z
  | segSuspGen _ _ _ _ ih _ => exact fun w z => ih w z
  | _ => intro w z; cases z
/-- the gens with some put in the place of others -/
def put (m : Nat → Option GenState) (s : Shared) : Shared := { s with gens := s.gens.mapIdx fun k y => (m k).getD y }
/-- those put in are for stuck ones, and look like them -/
def Fits (m : Nat → Option GenState) (s : Shared) : Prop := ∀ k x, m k = some x → ∃ y, s.gens[k]? = some y ∧ Stk y ∧ x.seen = y.seen
/-- who sleeps is stuck or has no other generator in its frames -/
def Calm (s : Shared) : Prop := ∀ (k : Nat) (k0 : Resume → Sem PySem.Fin) (l : List Value) (c : Code) (p : Pos) (fs : List Frame) (cl : Bool), s.gens[k]? = some (GenState.suspended k0 l c p fs cl) → Stk (GenState.suspended k0 l c p fs cl) ∨ splitAtGen fs = none
def NG : End → Prop
  | .ret _ => True
  | .susp _ _ _ _ _ _ fs => splitAtGen fs = none
theorem split_app : ∀ {fs gs : List Frame}, splitAtGen fs = none → splitAtGen gs = none → splitAtGen (fs ++ gs) = none
  | [], _, _, h => h
  | .ret .. :: fs, gs, h1, h2 => by
    have e : splitAtGen fs = none := by
      simp only [splitAtGen, Option.map_eq_none_iff] at h1
      exact h1
    show (splitAtGen (fs ++ gs)).map _ = none
    rw [split_app e h2]
    rfl
  | .gen .. :: fs, gs, h1, _ => by simp [splitAtGen] at h1
theorem split_tl {k h g l c p kp} {fs : List Frame} (z : splitAtGen (.ret k h g l c p kp :: fs) = none) : splitAtGen fs = none := by
  simp only [splitAtGen, Option.map_eq_none_iff] at z
  exact z
section
variable {m : Nat → Option GenState} {s s' : Shared} {g : Nat} {y z : GenState}
theorem put_get : (put m s).gens[g]? = (s.gens[g]?).map fun y => (m g).getD y := by
  unfold put
  simp [Array.getElem?_mapIdx]
theorem put_no (h : s.gens[g]? = some y) (n : m g = none) : (put m s).gens[g]? = some y := by rw [put_get, h, n]; rfl
theorem Fits.no (f : Fits m s) (h : s.gens[g]? = some y) (n : ¬ Stk y) : m g = none := by
  cases e : m g with
  | none => rfl
  | some x =>
    obtain ⟨y', h', k, _⟩ := f g x e
    rw [h] at h'
    cases h'
    exact absurd k n
theorem seen_put (f : Fits m s) (h : s.gens[g]? = some y) : ∃ y', (put m s).gens[g]? = some y' ∧ y'.seen = y.seen := by
  cases em : m g with
  | none => exact ⟨y, put_no h em, rfl⟩
  | some x =>
    obtain ⟨y', hy, _, sx⟩ := f g x em
    rw [h] at hy
    cases hy
    exact ⟨x, by rw [put_get, h, em]; rfl, sx⟩
theorem put_set (n : m g = none) : put m (s.setGen g z) = (put m s).setGen g z := by
  unfold put Shared.setGen
  simp only
  congr 1
  apply Array.ext_getElem?
  intro i
  simp only [Array.getElem?_mapIdx, Array.getElem?_setIfInBounds, Array.size_mapIdx]
  by_cases h1 : g = i
  · subst h1
    by_cases h2 : g < s.gens.size <;> simp [h2, n]
  · simp [h1]
theorem put_push (f : Fits m s) : put m { s with gens := s.gens.push z } = { (put m s) with gens := (put m s).gens.push z } := by
  have hn : m s.gens.size = none := by
    cases e : m s.gens.size with
    | none => rfl
    | some x =>
      obtain ⟨y', h', _⟩ := f _ x e
      simp at h'
  unfold put
  simp only
  congr 1
  apply Array.ext_getElem?
  intro i
  simp only [Array.getElem?_mapIdx, Array.getElem?_push, Array.size_mapIdx]
  by_cases h1 : i = s.gens.size
  · subst h1
    simp [hn]
  · simp [h1]
theorem put_size : (put m s).gens.size = s.gens.size := by
  unfold put
  simp
theorem Fits.set (f : Fits m s) (n : m g = none) : Fits m (s.setGen g z) := fun k x e => by
  obtain ⟨y', h', r⟩ := f k x e
  have nk : g ≠ k := fun w => by rw [w, e] at n; cases n
  refine ⟨y', ?_, r⟩
  unfold Shared.setGen
  simp only [Array.getElem?_setIfInBounds, if_neg nk]
  exact h'
theorem Calm.set (c : Calm s) (h : ∀ (k0 : Resume → Sem PySem.Fin) (l : List Value) (c' : Code) (p : Pos) (fs : List Frame) (cl : Bool), z = GenState.suspended k0 l c' p fs cl → splitAtGen fs = none) : Calm (s.setGen g z) := fun k k0 l c' p fs cl e => by
  unfold Shared.setGen at e
  simp only [Array.getElem?_setIfInBounds] at e
  split at e
  · split at e
    · exact .inr (h _ _ _ _ _ _ (Option.some.inj e))
    · cases e
  · exact c _ _ _ _ _ _ _ e
theorem Calm.push {cd : Code} (c : Calm s) : Calm { s with gens := s.gens.push (.fresh cd) } := fun k k0 l c1 p fs cl e => by
  have e : (s.gens.push (.fresh cd))[k]? = some (GenState.suspended k0 l c1 p fs cl) := e
  rw [Array.getElem?_push] at e
  split at e
  · cases e
  · exact c _ _ _ _ _ _ _ e
theorem Fits.push (f : Fits m s) : Fits m { s with gens := s.gens.push z } := fun k x e => by
  obtain ⟨y, hy, r⟩ := f k x e
  have hl := (Array.getElem?_eq_some_iff.mp hy).1
  refine ⟨y, ?_, r⟩
  show (s.gens.push z)[k]? = some y
  rw [Array.getElem?_push, if_neg (Nat.ne_of_lt hl)]
  exact hy
theorem Calm.run (c : Calm s) : Calm (s.setGen g .running) := c.set fun _ _ _ _ _ _ e => by cases e
theorem Calm.fin (c : Calm s) : Calm (s.setGen g .finished) := c.set fun _ _ _ _ _ _ e => by cases e
theorem Calm.end_ {e : End} (c : Calm s) (h : NG e) : Calm (s.setGen g e.genState) := c.set fun k0 l c' p fs cl z => by
  cases e with
  | ret r => cases z
  | susp v g0 l0 k c0 p0 fs0 =>
    injection z with _ _ _ _ z5 _
    rw [← z5]
    exact h
end
theorem runs_keep {M : Model} {Γ : Ctx} {p : Pos} {t : Sem PySem.Fin} {fs : List Frame} {s s' : Shared} {e : End} (h : Runs M Γ p t fs s e s') : ∀ (m : Nat → Option GenState), splitAtGen fs = none → Calm s → Fits m s →
    Calm s' ∧ Fits m s' ∧ NG e ∧ Runs M Γ p t fs (put m s) e (put m s') := by
  induction h with
  | done => intro m n c f; exact ⟨c, f, trivial, .done⟩
  | raise => intro m n c f; exact ⟨c, f, trivial, .raise⟩
  | again hq _ ih => intro m n c f; obtain ⟨a1, a2, a3, a4⟩ := ih m rfl (fun k k0 l c1 p fs cl e => c k k0 l c1 p fs cl e) (fun k x e => f k x e); exact ⟨a1, a2, a3, .again hq a4⟩
  | rule _ ih => intro m n c f; obtain ⟨a1, a2, a3, a4⟩ := ih m rfl (fun k k0 l c1 p fs cl e => c k k0 l c1 p fs cl e) (fun k x e => f k x e); exact ⟨a1, a2, a3, .rule a4⟩
  | «at» _ ih => intro m n c f; obtain ⟨a1, a2, a3, a4⟩ := ih m rfl (fun k k0 l c1 p fs cl e => c k k0 l c1 p fs cl e) (fun k x e => f k x e); exact ⟨a1, a2, a3, .at a4⟩
  | load ho _ ih => intro m n c f; obtain ⟨a1, a2, a3, a4⟩ := ih m rfl (fun k k0 l c1 p fs cl e => c k k0 l c1 p fs cl e) (fun k x e => f k x e); exact ⟨a1, a2, a3, .load ho a4⟩
  | update ho _ ih => intro m n c f; obtain ⟨a1, a2, a3, a4⟩ := ih m rfl (fun k k0 l c1 p fs cl e => c k k0 l c1 p fs cl e) (fun k x e => f k x e); exact ⟨a1, a2, a3, .update ho a4⟩
  | loadIfAlive _ ih => intro m n c f; obtain ⟨a1, a2, a3, a4⟩ := ih m rfl (fun k k0 l c1 p fs cl e => c k k0 l c1 p fs cl e) (fun k x e => f k x e); exact ⟨a1, a2, a3, .loadIfAlive a4⟩
  | point _ ih => intro m n c f; obtain ⟨a1, a2, a3, a4⟩ := ih m rfl (fun k k0 l c1 p fs cl e => c k k0 l c1 p fs cl e) (fun k x e => f k x e); exact ⟨a1, a2, a3, .point a4⟩
  | alloc _ ih => intro m n c f; obtain ⟨a1, a2, a3, a4⟩ := ih m rfl (fun k k0 l c1 p fs cl e => c k k0 l c1 p fs cl e) (fun k x e => f k x e); exact ⟨a1, a2, a3, .alloc a4⟩
  | fresh _ ih => intro m n c f; obtain ⟨a1, a2, a3, a4⟩ := ih m rfl (fun k k0 l c1 p fs cl e => c k k0 l c1 p fs cl e) (fun k x e => f k x e); exact ⟨a1, a2, a3, .fresh a4⟩
  | ask _ ih => intro m n c f; obtain ⟨a1, a2, a3, a4⟩ := ih m rfl (fun k k0 l c1 p fs cl e => c k k0 l c1 p fs cl e) (fun k x e => f k x e); exact ⟨a1, a2, a3, .ask a4⟩
  | choose hn _ ih => intro m n c f; obtain ⟨a1, a2, a3, a4⟩ := ih m rfl (fun k k0 l c1 p fs cl e => c k k0 l c1 p fs cl e) (fun k x e => f k x e); exact ⟨a1, a2, a3, .choose hn a4⟩
  | os _ ih => intro m n c f; obtain ⟨a1, a2, a3, a4⟩ := ih m rfl (fun k k0 l c1 p fs cl e => c k k0 l c1 p fs cl e) (fun k x e => f k x e); exact ⟨a1, a2, a3, .os a4⟩
  | handled _ ih => intro m n c f; obtain ⟨a1, a2, a3, a4⟩ := ih m rfl (fun k k0 l c1 p fs cl e => c k k0 l c1 p fs cl e) (fun k x e => f k x e); exact ⟨a1, a2, a3, .handled a4⟩
  | stack _ ih => intro m n c f; obtain ⟨a1, a2, a3, a4⟩ := ih m rfl (fun k k0 l c1 p fs cl e => c k k0 l c1 p fs cl e) (fun k x e => f k x e); exact ⟨a1, a2, a3, .stack a4⟩
  | thread _ ih => intro m n c f; obtain ⟨a1, a2, a3, a4⟩ := ih m rfl (fun k k0 l c1 p fs cl e => c k k0 l c1 p fs cl e) (fun k x e => f k x e); exact ⟨a1, a2, a3, .thread a4⟩
  | genState hst _ ih =>
    intro m n c f
    obtain ⟨a1, a2, a3, a4⟩ := ih m rfl c f
    obtain ⟨st', e1, e2⟩ := seen_put f hst
    exact ⟨a1, a2, a3, .genState e1 (by rw [e2]; exact a4)⟩
  | newGen _ ih =>
    intro m n c f
    obtain ⟨a1, a2, a3, a4⟩ := ih m rfl c.push f.push
    refine ⟨a1, a2, a3, .newGen ?_⟩
    rw [put_push f] at a4
    rw [put_size]
    exact a4
  | call _ _ ih1 ih2 =>
    intro m n c f
    obtain ⟨a1, a2, a3, a4⟩ := ih1 m rfl c f
    obtain ⟨b1, b2, b3, b4⟩ := ih2 m rfl a1 a2
    exact ⟨b1, b2, b3, .call a4 b4⟩
  | callSusp _ ih =>
    intro m n c f
    obtain ⟨a1, a2, a3, a4⟩ := ih m rfl c f
    exact ⟨a1, a2, split_app a3 rfl, .callSusp a4⟩
  | yield => intro m n c f; exact ⟨c, f, rfl, .yield⟩
  | @resumeFresh _ _ g' l k s c0 e1 s1 e s' hg _ hq _ ih1 ih2 =>
    intro m n c f
    have em := f.no hg (fun ⟨_, _, _, _, _, _, z⟩ => by cases z)
    obtain ⟨a1, a2, a3, a4⟩ := ih1 m rfl c.run (f.set em)
    obtain ⟨b1, b2, b3, b4⟩ := ih2 m rfl (a1.end_ a3) (a2.set em)
    rw [put_set em] at a4 b4
    exact ⟨b1, b2, b3, .resumeFresh (put_no hg em) a4 hq b4⟩
  | @resumeSuspended _ _ g' r l k s k0 l0 c0 p0 fs cl e1 s1 e s' hg h1 hq _ ih1 ih2 =>
    intro m n c f
    have ns : ¬ Stk (.suspended k0 l0 c0 p0 fs cl) := fun ⟨w, _, _, _, _, _, z⟩ => by
      injection z with z
      rw [z] at h1
      exact runs_un h1 w rfl
    have em := f.no hg ns
    have hsp := (c _ _ _ _ _ _ _ hg).resolve_left ns
    obtain ⟨a1, a2, a3, a4⟩ := ih1 m hsp c.run (f.set em)
    obtain ⟨b1, b2, b3, b4⟩ := ih2 m rfl (a1.end_ a3) (a2.set em)
    rw [put_set em] at a4 b4
    exact ⟨b1, b2, b3, .resumeSuspended (put_no hg em) a4 hq b4⟩
  | resumeJustStarted hg hv _ ih =>
    intro m n c f
    have em := f.no hg (fun ⟨_, _, _, _, _, _, z⟩ => by cases z)
    obtain ⟨a1, a2, a3, a4⟩ := ih m rfl c f
    exact ⟨a1, a2, a3, .resumeJustStarted (put_no hg em) hv a4⟩
  | resumeThrowFresh hg _ ih =>
    intro m n c f
    have em := f.no hg (fun ⟨_, _, _, _, _, _, z⟩ => by cases z)
    obtain ⟨a1, a2, a3, a4⟩ := ih m rfl c.fin (f.set em)
    rw [put_set em] at a4
    exact ⟨a1, a2, a3, .resumeThrowFresh (put_no hg em) a4⟩
  | resumeRunning hg _ ih =>
    intro m n c f
    have em := f.no hg (fun ⟨_, _, _, _, _, _, z⟩ => by cases z)
    obtain ⟨a1, a2, a3, a4⟩ := ih m rfl c f
    exact ⟨a1, a2, a3, .resumeRunning (put_no hg em) a4⟩
  | resumeFinished hg _ ih =>
    intro m n c f
    have em := f.no hg (fun ⟨_, _, _, _, _, _, z⟩ => by cases z)
    obtain ⟨a1, a2, a3, a4⟩ := ih m rfl c f
    exact ⟨a1, a2, a3, .resumeFinished (put_no hg em) a4⟩
  | segRet _ _ ih1 ih2 =>
    intro m n c f
    obtain ⟨a1, a2, a3, a4⟩ := ih1 m rfl c f
    obtain ⟨b1, b2, b3, b4⟩ := ih2 m (split_tl n) a1 a2
    exact ⟨b1, b2, b3, .segRet a4 b4⟩
  | segGen _ _ _ _ => intro m n c f; simp [splitAtGen] at n
  | segSuspOut hn _ ih =>
    intro m n c f
    obtain ⟨a1, a2, a3, a4⟩ := ih m rfl c f
    exact ⟨a1, a2, split_app a3 hn, .segSuspOut hn a4⟩
  | segSuspGen hn _ _ _ _ _ => intro m n c f; rw [n] at hn; cases hn
theorem wakes_keep {M : Model} {Γ : Ctx} {p : Pos} {g : Nat} {r : Resume} {s s' : Shared} {res : GenResult} (h : Wakes M Γ p g r s res s') {m : Nat → Option GenState} (c : Calm s) (f : Fits m s) : Calm s' ∧ Fits m s' ∧ Wakes M Γ p g r (put m s) res (put m s') := by
  cases hg : s.gens[g]? with
  | none =>
    unfold Wakes at h
    rw [hg] at h
    exact h.elim
  | some y =>
    unfold Wakes at h
    rw [hg] at h
    have no : ¬ Stk y → (put m s).gens[g]? = some y ∧ m g = none := fun n => ⟨put_no hg (f.no hg n), f.no hg n⟩
    cases y with
    | fresh cd =>
      obtain ⟨e1, em⟩ := no (fun ⟨_, _, _, _, _, _, z⟩ => by cases z)
      have run : (∃ e₁ s₁, Runs M (Γ.wake cd p) p (M.den cd) [] (s.setGen g .running) e₁ s₁ ∧ e₁.quiet = true ∧ res = e₁.result ∧ s' = s₁.setGen g e₁.genState) →
          Calm s' ∧ Fits m s' ∧ ∃ e₁ s₁, Runs M (Γ.wake cd p) p (M.den cd) [] ((put m s).setGen g .running) e₁ s₁ ∧ e₁.quiet = true ∧ res = e₁.result ∧ put m s' = s₁.setGen g e₁.genState := by
        rintro ⟨e, s1, hr, hq, rfl, rfl⟩
        obtain ⟨a1, a2, a3, a4⟩ := runs_keep hr m rfl c.run (f.set em)
        rw [put_set em] at a4
        exact ⟨a1.end_ a3, a2.set em, e, put m s1, a4, hq, rfl, put_set em⟩
      cases r with
      | throw x =>
        obtain ⟨rfl, rfl⟩ := h
        refine ⟨c.fin, f.set em, ?_⟩
        unfold Wakes
        rw [e1]
        exact ⟨rfl, put_set em⟩
      | send v =>
        by_cases hv : v = .none
        · subst hv
          obtain ⟨a, b, q⟩ := run h
          refine ⟨a, b, ?_⟩
          unfold Wakes
          rw [e1]
          exact q
        · have h' : res = .justStarted ∧ s' = s := by cases v <;> first | exact absurd rfl hv | exact h
          obtain ⟨rfl, rfl⟩ := h'
          refine ⟨c, f, ?_⟩
          unfold Wakes
          rw [e1]
          cases v <;> first | exact absurd rfl hv | exact ⟨rfl, rfl⟩
    | suspended k0 l0 c0 p0 fs cl =>
      obtain ⟨e, s1, hr, hq, rfl, rfl⟩ := h
      have ns : ¬ Stk (.suspended k0 l0 c0 p0 fs cl) := fun ⟨w, _, _, _, _, _, z⟩ => by
        injection z with z
        rw [z] at hr
        exact runs_un hr w rfl
      obtain ⟨e1, em⟩ := no ns
      obtain ⟨a1, a2, a3, a4⟩ := runs_keep hr m ((c _ _ _ _ _ _ _ hg).resolve_left ns) c.run (f.set em)
      rw [put_set em] at a4
      refine ⟨a1.end_ a3, a2.set em, ?_⟩
      unfold Wakes
      rw [e1]
      exact ⟨e, put m s1, a4, hq, rfl, put_set em⟩
    | running =>
      obtain ⟨rfl, rfl⟩ := h
      obtain ⟨e1, em⟩ := no (fun ⟨_, _, _, _, _, _, z⟩ => by cases z)
      refine ⟨c, f, ?_⟩
      unfold Wakes
      rw [e1]
      exact ⟨rfl, rfl⟩
    | finished =>
      obtain ⟨rfl, rfl⟩ := h
      obtain ⟨e1, em⟩ := no (fun ⟨_, _, _, _, _, _, z⟩ => by cases z)
      refine ⟨c, f, ?_⟩
      unfold Wakes
      rw [e1]
      exact ⟨rfl, rfl⟩
theorem wp_keep {α : Type} (M : Model) (Γ : Ctx) (m : Nat → Option GenState) (t : Sem α) : ∀ (Q : α → Pos → Shared → Prop) (E : Value → Pos → Shared → Prop) (p : Pos) (s : Shared), Calm s → Fits m s → wp M Γ t Q E p s →
    wp M Γ t (fun a p' s' => ∃ s1, s' = put m s1 ∧ Calm s1 ∧ Fits m s1 ∧ Q a p' s1) (fun e p' s' => ∃ s1, s' = put m s1 ∧ Calm s1 ∧ Fits m s1 ∧ E e p' s1) p (put m s) := by
  induction t with
  | pure a => intro Q E p s c f h; exact ⟨s, rfl, c, f, h⟩
  | raise e => intro Q E p s c f h; exact ⟨s, rfl, c, f, h⟩
  | unsupported _ => intro Q E p s _ _ h; exact h
  | finish _ => intro Q E p s _ _ h; exact h
  | rule _ k ih => intro Q E p s c f h; exact ih () Q E p s c f h
  | «at» p' k ih => intro Q E p s c f h; exact ih () Q E p' s c f h
  | load a _ k ih => intro Q E p s c f h; obtain ⟨o, ho, h⟩ := h; exact ⟨o, ho, ih o Q E p s c f h⟩
  | update a _ u k ih => intro Q E p s c f h; exact ⟨h.1, ih () Q E p { s with heap := s.heap.update a u } (fun k k0 l c1 p fs cl e => c k k0 l c1 p fs cl e) (fun k x e => f k x e) h.2⟩
  | loadIfAlive a k ih => intro Q E p s c f h; exact ih _ Q E p s c f h
  | point _ k ih => intro Q E p s c f h; exact ih () Q E p s c f h
  | register _ _ => intro Q E p s _ _ h; exact h
  | alloc o k ih => intro Q E p s c f h; exact ih s.heap.objs.size Q E p { s with heap := s.heap.push o } (fun k k0 l c1 p fs cl e => c k k0 l c1 p fs cl e) (fun k x e => f k x e) h
  | fresh k ih => intro Q E p s c f h; exact ih s.toks Q E p { s with toks := s.toks + 1 } (fun k k0 l c1 p fs cl e => c k k0 l c1 p fs cl e) (fun k x e => f k x e) h
  | ask k ih => intro Q E p s c f h; exact ih _ Q E p s c f h
  | choose src n k ih => intro Q E p s c f h; exact ⟨h.1, ih (M.w.draws src (s.drawn.get src) % n) Q E p { s with drawn := s.drawn.bump src } (fun k k0 l c1 p fs cl e => c k k0 l c1 p fs cl e) (fun k x e => f k x e) h.2⟩
  | os q _ k ih => intro Q E p s c f h; exact ih (Os.step s.os q).2 Q E p { s with os := (Os.step s.os q).1 } (fun k k0 l c1 p fs cl e => c k k0 l c1 p fs cl e) (fun k x e => f k x e) h
  | call cd hd _ _ k ih =>
    intro Q E p s c f h
    obtain ⟨r, s1, hr, h⟩ := h
    obtain ⟨a1, a2, _, a4⟩ := runs_keep hr m rfl c f
    exact ⟨r, put m s1, a4, ih r Q E p s1 a1 a2 h⟩
  | handled own k ih => intro Q E p s c f h; exact ih _ Q E p s c f h
  | genState g k ih =>
    intro Q E p s c f h
    obtain ⟨st, hs, h⟩ := h
    obtain ⟨st', e1, e2⟩ := seen_put f hs
    refine ⟨st', e1, ?_⟩
    rw [e2]
    exact ih _ Q E p s c f h
  | newGen cd k ih =>
    intro Q E p s c f h
    have q := ih _ Q E p _ c.push f.push h
    rw [put_push f] at q
    show wp M Γ (k (put m s).gens.size) _ _ p _
    rw [put_size]
    exact q
  | resume g r _ k ih =>
    intro Q E p s c f h
    obtain ⟨res, s1, hw, h⟩ := h
    obtain ⟨a, b, q⟩ := wakes_keep hw c f
    exact ⟨res, put m s1, q, ih res Q E p s1 a b h⟩
  | yield _ _ _ _ => intro Q E p s _ _ h; exact h
  | stack k ih => intro Q E p s c f h; exact ih _ Q E p s c f h
  | fork _ _ => intro Q E p s _ _ h; exact h
  | thread k ih => intro Q E p s c f h; exact ih _ Q E p s c f h
  | await _ _ _ _ _ => intro Q E p s _ _ h; exact h
/-- all sleepers stuck: what holds from there holds, and they sleep on -/
theorem wpAny_keep2 {α : Type} {M : Model} {A : Around} {t : Sem α} {Q : α → Shared → Prop} {E : Value → Shared → Prop} {s : Shared} {m : Nat → Option GenState} (c : Calm s) (f : Fits m s) (h : wpAny M A t Q E s) :
    wpAny M A t (fun a s' => ∃ s1, s' = put m s1 ∧ Calm s1 ∧ Fits m s1 ∧ Q a s1) (fun e s' => ∃ s1, s' = put m s1 ∧ Calm s1 ∧ Fits m s1 ∧ E e s1) (put m s) :=
  fun Γ p hΓ => wp_keep M Γ m t _ _ p s c f (h Γ p hΓ)
/-- the stuck one in the place of a sleeper -/
def stuck : GenState → GenState
  | .suspended _ l c p fs cl => .suspended (fun _ => .unsupported "asleep") l c p fs cl
  | x => x
def isSusp : GenState → Bool
  | .suspended .. => true
  | _ => false
/-- the state with all sleepers stuck, and the way back -/
def lull (s : Shared) : Shared := { s with gens := s.gens.map stuck }
def back (s : Shared) : Nat → Option GenState := fun k => match s.gens[k]? with
  | some x => if isSusp x then some x else none
  | none => none
theorem lull_calm {s : Shared} : Calm (lull s) := fun k k0 l c p fs cl e => by
  have e : (s.gens.map stuck)[k]? = some (GenState.suspended k0 l c p fs cl) := e
  rw [Array.getElem?_map] at e
  cases h : s.gens[k]? with
  | none => rw [h] at e; cases e
  | some x =>
    rw [h] at e
    cases x with
    | suspended =>
      left
      have e2 := Option.some.inj e
      rw [← e2]
      exact ⟨_, _, _, _, _, _, rfl⟩
    | fresh => cases e
    | running => cases e
    | finished => cases e
theorem lull_fits {s : Shared} : Fits (back s) (lull s) := fun k x e => by
  unfold back at e
  cases h : s.gens[k]? with
  | none => rw [h] at e; cases e
  | some y =>
    rw [h] at e
    cases y with
    | suspended k0 l c p fs cl =>
      have e2 : GenState.suspended k0 l c p fs cl = x := Option.some.inj e
      subst e2
      refine ⟨stuck (.suspended k0 l c p fs cl), ?_, ⟨_, _, _, _, _, _, rfl⟩, rfl⟩
      show (s.gens.map stuck)[k]? = _
      rw [Array.getElem?_map, h]
      rfl
    | fresh => cases e
    | running => cases e
    | finished => cases e
theorem put_lull {s : Shared} : put (back s) (lull s) = s := by
  obtain ⟨h, g, d, t, o⟩ := s
  unfold put lull
  simp only
  congr 1
  apply Array.ext_getElem?
  intro i
  simp only [Array.getElem?_mapIdx, Array.getElem?_map]
  unfold back
  simp only
  cases h : g[i]? with
  | none => rfl
  | some y => cases y <;> rfl
/-- t, run where all sleepers are stuck, runs as it does there: the sleepers sleep on -/
theorem wpAny_lull {α : Type} {M : Model} {A : Around} {t : Sem α} {Q : α → Shared → Prop} {E : Value → Shared → Prop} {s : Shared} (h : wpAny M A t Q E (lull s)) :
    wpAny M A t (fun a s' => ∃ s1, s' = put (back s) s1 ∧ Fits (back s) s1 ∧ Q a s1) (fun e s' => ∃ s1, s' = put (back s) s1 ∧ Fits (back s) s1 ∧ E e s1) s := by
  have q := wpAny_keep2 lull_calm lull_fits h
  rw [put_lull] at q
  exact wpAny_mono q (fun a s' ⟨s1, e, _, f, z⟩ => ⟨s1, e, f, z⟩) fun a s' ⟨s1, e, _, f, z⟩ => ⟨s1, e, f, z⟩
/-- a sleeper is found again -/
theorem back_at {s s1 : Shared} {k : Nat} {x : GenState} (h : s.gens[k]? = some x) (hx : isSusp x = true) (f : Fits (back s) s1) : (put (back s) s1).gens[k]? = some x := by
  have e : back s k = some x := by
    unfold back
    rw [h]
    simp only [hx, if_true]
  obtain ⟨y, hy, _⟩ := f k x e
  rw [put_get, hy, e]
  rfl
end GN
set_option Elab.async false
set_option linter.all false
set_option maxRecDepth 100000
/-! generators whose protocol carries a ghost (any type G), over any relation of runs that has the rules of RL -/
namespace GN
open PySem
open Sem (wp)
abbrev Rel := Ctx → Pos → Sem PySem.Fin → List Frame → Shared → End → Shared → Prop
/-- what is asked of a relation of runs -/
structure RL (M : Model) where
  R : Rel
  ok : End → Prop
  wrap : ∀ {α : Type} {Γ : Ctx} {fs : List Frame} {Φ : End → Shared → Prop} (K : α → Sem PySem.Fin) (H : Value → Sem PySem.Fin) (gd : Bool → Bool) (lv : List Value → List Value) (m : Sem α)
    {Q : α → Pos → Shared → Prop} {E : Value → Pos → Shared → Prop} {p : Pos} {s : Shared}, wp M (Γ.over fs) m Q E p s →
      (∀ a p' s', Q a p' s' → ∃ e s'', R Γ p' (K a) fs s' e s'' ∧ Φ e s'') → (∀ x p' s', E x p' s' → ∃ e s'', R Γ p' (H x) fs s' e s'' ∧ Φ e s'') →
      ∃ e s'', R Γ p (m.wrap K H gd lv) fs s e s'' ∧ Φ e s''
  call : ∀ {Γ : Ctx} {c' : Code} {h : Option Value} {g : Bool} {l : List Value} {k : Result → Sem PySem.Fin} {p : Pos} {fs : List Frame} {s : Shared} {e : End} {s' : Shared},
    R (Γ.goto c') p (M.den c') (.ret k h g l Γ.code p [] :: fs) s e s' → R Γ p (.call c' h g l k) fs s e s'
  pop : ∀ {Γ : Ctx} {p : Pos} {k : Result → Sem PySem.Fin} {h : Option Value} {g : Bool} {l : List Value} {c₁ : Code} {p₁ : Pos} {kp : List Value} {fs : List Frame} {s : Shared} {e : End} {s' : Shared} (r : Result),
    R (Γ.goto c₁) p₁ (k r) fs s e s' → R Γ p (leafOf r) (.ret k h g l c₁ p₁ kp :: fs) s e s'
  again : ∀ {Γ : Ctx} {p : Pos} {c' : Code} {fs : List Frame} {s : Shared} {e : End} {s' : Shared}, c'.quiet = true → R (Γ.goto c') p (M.den c') fs s e s' → R Γ p (.pure (.again c')) fs s e s'
  leaf : ∀ {Γ : Ctx} {p : Pos} {s : Shared} (r : Result), R Γ p (leafOf r) [] s (.ret r) s
  yield : ∀ {Γ : Ctx} {p : Pos} {v : Value} {g : Bool} {l : List Value} {k : Resume → Sem PySem.Fin} {s : Shared} (fs : List Frame), splitAtGen fs = none →
    R Γ p (.yield v g l k) fs s (.susp v g l k Γ.code p fs) s
/-- the kit's own -/
def RLq (M : Model) : RL M where
  R := Runs M
  ok := fun e => e.quiet = true
  wrap := fun {_ _ _ _} K H gd lv m {_ _ _ _} h hQ hE => runs_wrap_of_wp K H gd lv m h hQ hE
  call := fun hr => runs_call_seg hr
  pop := fun r hr => Runs.pop r hr
  again := fun {Γ p c' fs s e s'} hq hr => Runs.head (c₁ := c') (fun _ _ x => .again hq x) hr
  leaf := fun r => Runs.leaf r
  yield := fun fs hfs => Runs.yield' fs hfs
abbrev GEnd (G : Type) := Nat → G → Result → Shared → Prop
abbrev GProt (G : Type) := Nat → G → Value → Shared → (G → Resume → Shared → Prop) → Prop
section
variable {M : Model} {G : Type}
def GSEnd (L : RL M) (RE : GEnd G) (Y : GProt G) (n : Nat) (go : G → Code → Sem PySem.Fin → List Frame → Shared → Prop) (a : G) (e : End) (s' : Shared) : Prop :=
  match e with
  | .ret r => RE n a r s'
  | .susp v g l k c p fs => L.ok (.susp v g l k c p fs) ∧ Y (n - 1) a v s' fun a' r s'' => go a' c (k r) fs s''
/-- from here a generator with at most n more items runs as the protocol says -/
def SegG (L : RL M) (A : Around) (RE : GEnd G) (Y : GProt G) : Nat → G → Code → Sem PySem.Fin → List Frame → Shared → Prop
  | 0 => fun a c t fs s => ∀ Γ p, Γ.code = c → Γ.Woken A → ∃ e s', L.R Γ p t fs s e s' ∧ GSEnd L RE Y 0 (fun _ _ _ _ _ => False) a e s'
  | n + 1 => fun a c t fs s => ∀ Γ p, Γ.code = c → Γ.Woken A → ∃ e s', L.R Γ p t fs s e s' ∧ GSEnd L RE Y (n + 1) (SegG L A RE Y n) a e s'
def SegG.next (L : RL M) (A : Around) (RE : GEnd G) (Y : GProt G) : Nat → G → Code → Sem PySem.Fin → List Frame → Shared → Prop
  | 0 => fun _ _ _ _ _ => False
  | n + 1 => SegG L A RE Y n
variable {L : RL M} {A : Around} {RE : GEnd G} {Y : GProt G} {n : Nat} {a : G} {c : Code} {t : Sem PySem.Fin} {fs : List Frame} {s : Shared}
theorem sg_iff : SegG L A RE Y n a c t fs s ↔ ∀ Γ p, Γ.code = c → Γ.Woken A → ∃ e s', L.R Γ p t fs s e s' ∧ GSEnd L RE Y n (SegG.next L A RE Y n) a e s' := by
  cases n <;> rfl
theorem sg_wrap {α : Type} {m : Sem α} {K : α → Sem PySem.Fin} {H : Value → Sem PySem.Fin} {gd lv}
    (h : wpAny M (A.over c fs) m (fun b s' => SegG L A RE Y n a c (K b) fs s') (fun x s' => SegG L A RE Y n a c (H x) fs s') s) :
    SegG L A RE Y n a c (m.wrap K H gd lv) fs s := by
  rw [sg_iff]
  rintro Γ p rfl hΓ
  exact L.wrap K H gd lv m (h (Γ.over fs) p (hΓ.over fs)) (fun a p' s' h' => sg_iff.mp h' Γ p' rfl hΓ) (fun x p' s' h' => sg_iff.mp h' Γ p' rfl hΓ)
theorem sg_bind {α β : Type} {m : Sem α} {K : α → Sem β} {K' : β → Sem PySem.Fin} {H' : Value → Sem PySem.Fin} {gd lv}
    (h : wpAny M (A.over c fs) m (fun b s' => SegG L A RE Y n a c ((K b).wrap K' H' gd lv) fs s') (fun x s' => SegG L A RE Y n a c (H' x) fs s') s) : SegG L A RE Y n a c ((m >>= K).wrap K' H' gd lv) fs s := by
  rw [Sem.bind_eq_wrap', Sem.wrap_wrap]; exact sg_wrap h
theorem sg_at {p' : Pos} {k : Unit → Sem PySem.Fin} (h : SegG L A RE Y n a c (k ()) fs s) : SegG L A RE Y n a c (.at p' k) fs s :=
  sg_wrap (m := standAt p') (K := k) (H := .raise) (gd := id) (lv := id) (wpAny_standAt h)
theorem sg_point {l : List Value} {k : Unit → Sem PySem.Fin} (h : SegG L A RE Y n a c (k ()) fs s) : SegG L A RE Y n a c (.point l k) fs s :=
  sg_wrap (m := point) (K := k) (H := .raise) (gd := id) (lv := fun _ => l) (wpAny_point h)
theorem sg_call {c' : Code} {h g l} {k : Result → Sem PySem.Fin} (hc : ∀ p, SegG L A RE Y n a c' (M.den c') (.ret k h g l c p [] :: fs) s) :
    SegG L A RE Y n a c (.call c' h g l k) fs s := by
  rw [sg_iff]
  rintro Γ p rfl hΓ
  obtain ⟨e, s', hr, he⟩ := sg_iff.mp (hc p) (Γ.goto c') p rfl (hΓ.goto c')
  exact ⟨e, s', L.call hr, he⟩
theorem sg_leaf {k h g l c₁ p₁ kp} (r : Result) (hk : SegG L A RE Y n a c₁ (k r) fs s) : SegG L A RE Y n a c (leafOf r) (.ret k h g l c₁ p₁ kp :: fs) s := by
  rw [sg_iff]
  rintro Γ p rfl hΓ
  obtain ⟨e, s', hr, he⟩ := sg_iff.mp hk (Γ.goto c₁) p₁ rfl (hΓ.goto c₁)
  exact ⟨e, s', L.pop r hr, he⟩
theorem sg_again {c' : Code} (hq : c'.quiet = true) (hc : SegG L A RE Y n a c' (M.den c') fs s) : SegG L A RE Y n a c (.pure (.again c')) fs s := by
  rw [sg_iff]
  rintro Γ p rfl hΓ
  obtain ⟨e, s', hr, he⟩ := sg_iff.mp hc (Γ.goto c') p rfl (hΓ.goto c')
  exact ⟨e, s', L.again hq hr, he⟩
theorem sg_end (r : Result) (h : RE n a r s) : SegG L A RE Y n a c (leafOf r) [] s := by
  rw [sg_iff]
  rintro Γ p rfl _
  exact ⟨.ret r, s, L.leaf r, h⟩
theorem sg_yield {v g l} {k : Resume → Sem PySem.Fin} (hfs : splitAtGen fs = none) (hq : ∀ p, L.ok (.susp v g l k c p fs))
    (h : Y n a v s fun a' r s'' => SegG L A RE Y n a' c (k r) fs s'') : SegG L A RE Y (n + 1) a c (.yield v g l k) fs s := by
  rintro Γ p rfl _
  exact ⟨_, s, L.yield fs hfs, hq p, h⟩
end
end GN
set_option Elab.async false
set_option linter.all false
set_option maxRecDepth 100000
/-! statements in a generator, for SegG -/
namespace GN
open PySem
open Sem (wp)
/-- what a loop's code does with an exception -/
def noted (env : Env) (x : Value) : Sem PySem.Fin := (do noteFrame x env; theTreesLotGoes x : Sem Unit).wrap (fun _ => .raise x) .raise id id
/-- what a call of a loop's code does with what comes back -/
def back' (env : Env) (r : Result) : Sem Flow := (match r with | .ok f => (.pure f : Sem Flow) | .error e => .raise e).onRaise fun (x : Value) => do
        if (← field x 1) == Value.none then unsupported "frame.own-activation:exception-without-traceback"
        setFlight x env.frame
section
variable {M : Model} {G : Type} {L : RL M} {A : Around} {RE : GEnd G} {Y : GProt G} {n : Nat} {a : G} {c : Code} {fs : List Frame} {s : Shared} {env : Env}
  {K : Flow → Sem PySem.Fin} {H : Value → Sem PySem.Fin} {gd : Bool → Bool} {lv : List Value → List Value}
theorem sg_nil (h : SegG L A RE Y n a c (K .next) fs s) : SegG L A RE Y n a c ((execs [] env).wrap K H gd lv) fs s := h
theorem sg_cons {st : Stmt} {rest : List Stmt}
    (h : SegG L A RE Y n a c ((exec st env).wrap (fun f => match f with | .next => (execs rest env).wrap K H gd lv | f => K f) H gd lv) fs s) :
    SegG L A RE Y n a c ((execs (st :: rest) env).wrap K H gd lv) fs s := by rw [execs_cons_wrap]; exact h
theorem sg_Yield {e : Expr} {ypos pos : Pos} (hfs : splitAtGen fs = none) (hq : ∀ v l k p, L.ok (.susp v (gd false) l k c p fs))
    (h : wpAny M (A.over c fs) (eval e env) (fun v s' => ∀ kap : G → Resume → Shared → Prop,
        (∀ a' x s'', (match x with | .ref _ => False | _ => SegG L A RE Y n a' c (K .next) fs s'') → kap a' (.send x) s'') → Y n a v s' kap)
      (fun x s' => SegG L A RE Y (n + 1) a c (H x) fs s') s) (hco : env.scope.isCoroutine = false := by rfl) (hi : interactive env = false := by rfl) :
    SegG L A RE Y (n + 1) a c ((exec (.Expr (.Yield (some e) ypos) pos) env).wrap K H gd lv) fs s := by
  rw [exec_Expr env _ pos hi rfl]
  show SegG L A RE Y (n + 1) a c (.at pos fun _ => ((eval e env >>= fun v => (standAt ypos >>= fun _ => yieldOut env v)) >>= fun x =>
    dropValue (.Yield (some e) ypos) pos x).wrap K H gd lv) fs s
  have hy : ∀ v, yieldOut env v = yieldValue v := fun v => by simp only [yieldOut, hco, Bool.false_eq_true, if_false]
  simp only [hy]
  refine sg_at ?_
  rw [Sem.bind_eq_wrap', Sem.bind_eq_wrap', Sem.wrap_wrap, Sem.wrap_wrap]
  refine sg_wrap (wpAny_mono h (fun v s' h' => ?_) fun _ _ x => x)
  refine sg_at (sg_yield hfs (hq _ _ _) ?_)
  refine h' _ fun a' x s'' hx => ?_
  cases x <;> first | exact hx | exact hx.elim
end
section
variable {M : Model} {G : Type} {L : RL M} {A : Around} {RE : GEnd G} {Y : GProt G} {n : Nat} {a : G} {fs : List Frame} {s : Shared} {env : Env}
theorem sg_For {c : Code} {K : Flow → Sem PySem.Fin} {H : Value → Sem PySem.Fin} {gd : Bool → Bool} {lv : List Value → List Value} {target iter : Expr} {body orelse : List Stmt} {pos : Pos}
    (h : wpAny M (A.over c fs) (eval iter env) (fun v s1 => wpAny M (A.over c fs) (foldedSetIterable iter env v) (fun x s2 => wpAny M (A.over c fs) (holding [x] (pyIter x)) (fun it s3 =>
        ∀ p, SegG L A RE Y n a (.forLoop target it body orelse env) (M.den (.forLoop target it body orelse env)) (.ret (fun r => (back' env r).wrap K H gd lv) none (gd false) (lv []) c p [] :: fs) s3)
        (fun x s' => SegG L A RE Y n a c (H x) fs s') s2) (fun x s' => SegG L A RE Y n a c (H x) fs s') s1) (fun x s' => SegG L A RE Y n a c (H x) fs s') s) :
    SegG L A RE Y n a c ((exec (.For target iter body orelse pos) env).wrap K H gd lv) fs s := by
  rw [arm_exec_For]
  refine sg_bind (wpAny_standAt ?_)
  refine sg_bind (wpAny_mono h (fun v s1 h1 => ?_) fun _ _ x => x)
  refine sg_bind (wpAny_mono h1 (fun x s2 h2 => ?_) fun _ _ x => x)
  refine sg_bind (wpAny_standAt ?_)
  refine sg_bind (wpAny_mono h2 (fun it s3 h3 => ?_) fun _ _ x => x)
  exact sg_call h3
end
section
variable {prog : Program} {w : World} {G : Type} {L : RL (model prog w)} {A : Around} {RE : GEnd G} {Y : GProt G} {n : Nat} {a : G} {fs : List Frame} {s : Shared} {env : Env}
theorem sg_forLoop {target : Expr} {it : Value} {body orelse : List Stmt}
    (h : wpAny (model prog w) (A.over (.forLoop target it body orelse env) fs) (pyNext it) (fun r s1 => match r with
        | none => SegG L A RE Y n a (.block orelse env) ((model prog w).den (.block orelse env)) fs s1
        | some v => wpAny (model prog w) (A.over (.forLoop target it body orelse env) fs) (letOwnedTupleGo target it v) (fun _ s2 =>
            wpAny (model prog w) (A.over (.forLoop target it body orelse env) fs) (assign target env v) (fun _ s3 =>
              SegG L A RE Y n a (.forLoop target it body orelse env) ((execs body env).wrap (fun f => match f with
                | .next | .cont => .pure (.again (.forLoop target it body orelse env))
                | .brk => .pure (.done .next)
                | .ret v => .pure (.done (.ret v))) (noted env) id id) fs s3)
              (fun x s' => SegG L A RE Y n a (.forLoop target it body orelse env) (noted env x) fs s') s2)
            (fun x s' => SegG L A RE Y n a (.forLoop target it body orelse env) (noted env x) fs s') s1)
      (fun x s' => SegG L A RE Y n a (.forLoop target it body orelse env) (noted env x) fs s') s) :
    SegG L A RE Y n a (.forLoop target it body orelse env) ((model prog w).den (.forLoop target it body orelse env)) fs s := by
  show SegG L A RE Y n a _ ((forTurn target it body orelse env).onRaise (fun x => do noteFrame x env; theTreesLotGoes x)) fs s
  have hN : ∀ x : Value, ((do noteFrame x env; theTreesLotGoes x : Sem Unit).bind fun _ => (.raise x : Sem PySem.Fin)) = noted env x := fun x => Sem.bind_eq_wrap _ _
  unfold forTurn
  rw [Sem.onRaise_eq_wrap]
  simp only [hN]
  refine sg_bind (wpAny_standAt ?_)
  refine sg_bind (wpAny_onRaise (wpAny_mono h (fun r s1 h1 => ?_) fun _ _ h' => wpAny_standAt h'))
  cases r with
  | none => exact sg_again rfl h1
  | some v =>
    refine sg_bind (wpAny_mono h1 (fun _ s2 h2 => ?_) fun _ _ x => x)
    refine sg_bind (wpAny_mono h2 (fun _ s3 h3 => ?_) fun _ _ x => x)
    rw [Sem.bind_eq_wrap', Sem.wrap_wrap]
    rw [Sem.wrap_congr (execs body env) _ _ (K' := fun f => match f with
                | .next | .cont => .pure (.again (.forLoop target it body orelse env))
                | .brk => .pure (.done .next)
                | .ret v => .pure (.done (.ret v))) (H' := noted env) (fun f => by cases f <;> rfl) (fun e => by rfl)]
    exact h3
theorem sg_func {body : List Stmt}
    (h : SegG L A RE Y n a (.func body env) ((execs body env).wrap (fun f => .pure (.done (.ret (match f with | .ret v => v | _ => .none))))
      (fun e => (leaving env e).wrap (fun _ => .raise e) .raise id id) id id) fs s) :
    SegG L A RE Y n a (.func body env) ((model prog w).den (.func body env)) fs s := by
  show SegG L A RE Y n a _ (.point [] fun _ => ((execs body env).onRaise (leaving env)) >>= _) fs s
  refine sg_point ?_
  rw [Sem.onRaise_eq_wrap, Sem.bind_eq_wrap', Sem.wrap_wrap]
  rw [Sem.wrap_congr (execs body env) _ _ (K' := fun f => .pure (.done (.ret (match f with | .ret v => v | _ => .none))))
    (H' := fun e => (leaving env e).wrap (fun _ => .raise e) .raise id id) (fun f => by cases f <;> rfl)
    (fun e => by rw [Sem.bind_eq_wrap, Sem.wrap_wrap]; rfl)]
  exact h
theorem sg_block {body : List Stmt}
    (h : SegG L A RE Y n a (.block body env) ((execs body env).wrap (fun f => .pure (.done f)) (noted env) id id) fs s) :
    SegG L A RE Y n a (.block body env) ((model prog w).den (.block body env)) fs s := by
  show SegG L A RE Y n a _ (((execs body env).onRaise (fun x => do noteFrame x env; theTreesLotGoes x)) >>= fun f => (.pure (.done f) : Sem PySem.Fin)) fs s
  rw [Sem.onRaise_eq_wrap, Sem.bind_eq_wrap', Sem.wrap_wrap]
  rw [Sem.wrap_congr (execs body env) _ _ (K' := fun f => .pure (.done f)) (H' := noted env) (fun f => by rfl)
    (fun e => by rw [Sem.bind_eq_wrap, Sem.wrap_wrap]; rfl)]
  exact h
end
end GN
set_option Elab.async false
set_option linter.all false
set_option maxRecDepth 100000
/-! a generator def's body under contexts that are set anew at each waking; no exception leaves it -/
namespace GN
open PySem PySem.Spec PyProof.Rows L2
/-- the state (its heap cut at the generator's frame), the tracked heap and what else is to be kept, at the waking -/
abbrev Wk := Shared × Hp × List (Addr × Obj)
def re (X : Cx) (r : Wk) : Cx := { X with s_0 := r.1, H_0 := r.2.1, pn := X.pn ++ r.2.2, xe := fun _ _ => False }
/-- what is wanted behind a statement; items still to come at most, the tracked heap at the waking, names, tracked heap -/
abbrev GN1 := Nat → Hp → L2.St → Hp → Prop
structure GDs where
  nx : GN1
  rt : Nat → Hp → V → Hp → Prop
  bk : GN1 := fun _ _ _ _ => False
  ct : GN1 := fun _ _ _ _ => False
abbrev TGf := GDs → GN1
def GDs.at (D : GDs) (n : Nat) (H0 : Hp) : Ends := { nx := D.nx n H0, rt := D.rt n H0, bk := D.bk n H0, ct := D.ct n H0 }
/-- the item x may be handed out with the heaps H0 (at the waking) and H; between H and the heap of the next waking -/
structure Pr where
  n0 : Nat
  yp : Nat → V → Hp → Hp → Prop
  wk : Nat → Hp → Hp → Prop
/-- what a waking gives: its place, and its own things are none of the generator's -/
def Wf (P : Pr) (ip : List (Addr × Obj)) (r : Wk) : Prop := r.1.heap.objs.size = P.n0 ∧ (∀ p ∈ r.2.2, ∀ q ∈ ip, q.1 ≠ p.1) ∧ ∀ q ∈ ip, P.n0 ≤ q.1
def YF (X : Cx) (P : Pr) : GProt Wk := fun n r v s kap =>
  ∃ x ip σ H, RelV x v ∧ Wf P ip r ∧ Inv (re X r) ip σ H s ∧ P.yp n x r.2.1 H ∧ ∀ (r' : Wk) (s' : Shared), Wf P ip r' → P.wk n H r'.2.1 → Inv (re X r') ip σ r'.2.1 s' → kap r' (.send .none) s'
def SPf (X : Cx) (ip : List (Addr × Obj)) (D : GDs) (n : Nat) (r : Wk) (f : Flow) (s : Shared) : Prop := SP (re X r) ip (D.at n r.2.1) f s
/-- where the generator's code stands -/
structure GCf (X : Cx) (A : Around) (c : Code) (fs : List Frame) (gd : Bool → Bool) : Prop where
  over : A.over c fs = X.A
  split : splitAtGen fs = none
  guard : fs.any Frame.guarded = false
  gd : gd false = false
abbrev RQ (X : Cx) : RL (model X.prog X.w) := RLq (model X.prog X.w)
/-- what follows -/
def GKf (X : Cx) (P : Pr) (ip : List (Addr × Obj)) (A : Around) (RE : GEnd Wk) (c : Code) (fs : List Frame) (K : Flow → Sem PySem.Fin) (D : GDs) : Prop :=
  ∀ (n : Nat) (r : Wk) (s : Shared) (f : Flow), Wf P ip r → SPf X ip D n r f s → SegG (RQ X) A RE (YF X P) n r c (K f) fs s
structure GF (X : Cx) (P : Pr) (st : Stmt) (t : TGf) : Prop where
  run : ∀ (A : Around) (ip : List (Addr × Obj)) (RE : GEnd Wk) (n : Nat) (r : Wk) (c : Code) (fs : List Frame) (K : Flow → Sem PySem.Fin) (J : Value → Sem PySem.Fin) (gd : Bool → Bool) (lv : List Value → List Value) (s : Shared) (σ : L2.St) (H : Hp) (D : GDs),
    GCf X A c fs gd → Wf P ip r → GKf X P ip A RE c fs K D → Inv (re X r) ip σ H s → t D n r.2.1 σ H → SegG (RQ X) A RE (YF X P) n r c ((exec st X.env).wrap K J gd lv) fs s
structure GFs (X : Cx) (P : Pr) (st : List Stmt) (t : TGf) : Prop where
  run : ∀ (A : Around) (ip : List (Addr × Obj)) (RE : GEnd Wk) (n : Nat) (r : Wk) (c : Code) (fs : List Frame) (K : Flow → Sem PySem.Fin) (J : Value → Sem PySem.Fin) (gd : Bool → Bool) (lv : List Value → List Value) (s : Shared) (σ : L2.St) (H : Hp) (D : GDs),
    GCf X A c fs gd → Wf P ip r → GKf X P ip A RE c fs K D → Inv (re X r) ip σ H s → t D n r.2.1 σ H → SegG (RQ X) A RE (YF X P) n r c ((execs st X.env).wrap K J gd lv) fs s
section
variable {X : Cx} {P : Pr} {st : Stmt} {rest : List Stmt}
/-- a statement that hands out nothing -/
def tFp (t : TS) : TGf := fun D n H0 σ H => t (D.at n H0) σ H
theorem gf_ps {t : TS} (h : ∀ r, PS (re X r) st t) : GF X P st (tFp t) := by
  refine ⟨fun A ip RE n r c fs K J gd lv s σ H D g z0 k I ht => ?_⟩
  refine sg_wrap ?_
  rw [g.over]
  exact wpAny_mono ((h r).run ip s σ H (D.at n r.2.1) I ht) (fun f s' hs => k n r s' f z0 hs) fun x s' hx => hx.elim
theorem gf_pss {t : TS} (h : ∀ r, PSs (re X r) rest t) : GFs X P rest (tFp t) := by
  refine ⟨fun A ip RE n r c fs K J gd lv s σ H D g z0 k I ht => ?_⟩
  refine sg_wrap ?_
  rw [g.over]
  exact wpAny_mono ((h r).run ip s σ H (D.at n r.2.1) I ht) (fun f s' hs => k n r s' f z0 hs) fun x s' hx => hx.elim
def tF0 : TGf := fun D n H0 σ H => D.nx n H0 σ H
theorem gf_nil : GFs X P [] tF0 := by
  refine ⟨fun A ip RE n r c fs K J gd lv s σ H D g z0 k I ht => ?_⟩
  exact sg_nil (k n r s .next z0 ⟨σ, H, I, ht⟩)
def tFThen (t u : TGf) : TGf := fun D n H0 σ H => t { D with nx := fun n' H0' σ' H' => u D n' H0' σ' H' } n H0 σ H
theorem gf_cons {t u : TGf} (a : GF X P st t) (b : GFs X P rest u) : GFs X P (st :: rest) (tFThen t u) := by
  refine ⟨fun A ip RE n r c fs K J gd lv s σ H D g z0 k I ht => ?_⟩
  refine sg_cons ?_
  refine a.run A ip RE n r c fs _ J gd lv s σ H { D with nx := fun n' H0' σ' H' => u D n' H0' σ' H' } g z0 (fun n' r' s' f z1 hs => ?_) I ht
  cases f with
  | next =>
    obtain ⟨σ', H', I', q⟩ := hs
    exact b.run A ip RE n' r' c fs K J gd lv s' σ' H' D g z1 k I' q
  | brk => exact k n' r' s' .brk z1 hs
  | cont => exact k n' r' s' .cont z1 hs
  | ret u => exact k n' r' s' (.ret u) z1 hs
/-! ### yield -/
def tFYield (P : Pr) (te : TE) : TGf := fun D n H0 σ H => ∃ m, n = m + 1 ∧ te σ H fun x H1 => P.yp m x H0 H1 ∧ ∀ H2, P.wk m H1 H2 → D.nx m H2 σ H2
theorem gf_yield {e : Expr} {yp pos : Pos} {te : TE} (he : ∀ r, PE (re X r) e te)
    (hco : X.env.scope.isCoroutine = false := by rfl) (hi : interactive X.env = false := by rfl) : GF X P (.Expr (.Yield (some e) yp) pos) (tFYield P te) := by
  refine ⟨fun A ip RE n r c fs K J gd lv s σ H D g z0 k I ht => ?_⟩
  obtain ⟨m, rfl, ht⟩ := ht
  refine sg_Yield g.split (fun v l k p => ?_) ?_ hco hi
  · show (!(gd false || fs.any Frame.guarded)) = true
    rw [g.gd, g.guard]; rfl
  rw [g.over]
  refine wpAny_mono ((he r).run _ s σ H _ I ht) (fun v s' hv => ?_) fun x s' hx => hx.elim
  obtain ⟨x, H1, I1, rv, y, q⟩ := hv
  intro kap hk
  refine ⟨x, ip, σ, H1, rv, z0, I1, y, fun r' s'' z1 w I2 => hk r' .none s'' ?_⟩
  exact k m r' s'' .next z1 ⟨σ, r'.2.1, I2, q _ w⟩
/-! ### for -/
def tFFor (wi : TI) (g : TG) (tb : TGf) : TGf := fun D n H0 σ H => wi σ H fun J H1 => ∃ W : Nat → Nat → GN1, (∃ m, W 0 m n H0 σ H1) ∧ ∀ i m n H0 σ H, W i m n H0 σ H →
  (J.stop i H ∧ D.nx n H0 σ H) ∨ (J.go i H ∧ ∃ N : GN1, (∀ n' H0' σ' H', N n' H0' σ' H' → ∃ m', m' < m ∧ W (i + 1) m' n' H0' σ' H') ∧ ∀ x H', J.yld i H x H' → g x σ H' fun σ2 H2 => tb { D with nx := N, ct := N, bk := D.nx } n H0 σ2 H2)
theorem gc_loop2 {A : Around} {c c' : Code} {gd : Bool → Bool} {fs : List Frame} {k : Result → Sem PySem.Fin} {l kp : List Value} {p : Pos} (g : GCf X A c fs gd) (hw : c'.weight = 0) (hu : c'.cUnits = 0) :
    GCf X A c' (.ret k none (gd false) l c p kp :: fs) id where
  over := (GenW.over_loop hw hu).trans g.over
  split := by
    show (splitAtGen fs).map _ = none
    rw [g.split]; rfl
  guard := by
    show (gd false || fs.any Frame.guarded) = false
    rw [g.gd, g.guard]; rfl
  gd := rfl
theorem gf_for {tg iter : Expr} {body : List Stmt} {wi : TI} {g : TG} {tb : TGf} {pos : Pos} (hex : X.ex = []) (hc : X.calm = true) (hi : ∀ r, PI (re X r) tg iter wi) (hg : ∀ r, PG (re X r) tg g) (hb : GFs X P body tb)
    (hs : ∀ x, foldedSetIterable iter X.env x = pure x := by intro _; rfl) : GF X P (.For tg iter body [] pos) (tFFor wi g tb) := by
  refine ⟨fun A ip RE n r c fs K J gd lv s σ H D gg z0 k I ht => ?_⟩
  refine sg_For ?_
  rw [gg.over]
  refine wpAny_mono ((hi r).run ip s σ H _ I ht) (fun v s1 h1 => ?_) fun x s' hx => hx.elim
  rw [hs]
  refine wpAny_pure (wpAny_holding (wpAny_mono h1 (fun itv s2 h2 => ?_) fun x s' hx => hx.elim))
  obtain ⟨it, fp, tn, J', H2, e, I2, T, st2, f2, W, ⟨m0, w0⟩, turn⟩ := h2
  subst e
  intro p
  have stat : ∀ {H' : Hp} {r' : Wk}, r'.1.heap.objs.size = P.n0 → (∀ b ∈ fp, ∀ p ∈ r'.2.2, p.1 ≠ b) → (∀ b ∈ fp, H' b = none) → ∀ b ∈ fp, FpOk (re X r') ip H' b := fun {H' r'} z1 z2 hn b hb => by
    obtain ⟨f0, f3, f4, f5, f6, f7⟩ := f2 b hb
    refine ⟨hn b hb, f3, f4, f5.imp id fun h => ?_, f6, fun p hp => ?_⟩
    · show r'.1.heap.objs.size ≤ b
      have h : r.1.heap.objs.size ≤ b := h
      rw [z1]; rw [z0.1] at h; exact h
    · rcases List.mem_append.mp hp with y | y
      · rcases List.mem_append.mp (show p ∈ X.pn ++ r'.2.2 from y) with y | y
        · exact f7 p (List.mem_append_left _ (show p ∈ X.pn ++ r.2.2 from List.mem_append_left _ y))
        · exact z2 b hb p y
      · exact f7 p (List.mem_append_right _ y)
  have young : ∀ b ∈ fp, P.n0 ≤ b := fun b hb => by
    obtain ⟨_, _, _, f5, _⟩ := f2 b hb
    rcases f5 with h | h
    · have h : b ∈ X.ex := h
      rw [hex] at h; cases h
    · have h : r.1.heap.objs.size ≤ b := h
      rw [z0.1] at h; exact h
  have gl := fun (kk : Result → Sem PySem.Fin) => gc_loop2 (k := kk) (c' := .forLoop tg (.ref it) body [] X.env) (l := lv []) (kp := []) (p := p) gg rfl rfl
  have glb := fun (kk : Result → Sem PySem.Fin) => gc_loop2 (k := kk) (c' := .block [] X.env) (l := lv []) (kp := []) (p := p) gg rfl rfl
  have loop : ∀ (m i n : Nat) (r : Wk) (s : Shared) (σ : L2.St) (H : Hp), Wf P ip r → (∀ b ∈ fp, ∀ p ∈ r.2.2, p.1 ≠ b) → Inv (re X r) ip σ H s → tn i s.heap → (∀ b ∈ fp, H b = none) → W i m n r.2.1 σ H →
      SegG (RQ X) A RE (YF X P) n r (.forLoop tg (.ref it) body [] X.env) ((model X.prog X.w).den (.forLoop tg (.ref it) body [] X.env))
        (.ret (fun q => (back' X.env q).wrap K J gd lv) none (gd false) (lv []) c p [] :: fs) s := by
    intro m
    induction m using Nat.strongRecOn with
    | ind m ih =>
      intro i n r s3 σ3 H3 z1 z2 I3 st3 fr3 w3
      refine sg_forLoop ?_
      rw [(gl _).over]
      rcases turn i m n r.2.1 σ3 H3 w3 with ⟨stop, qn⟩ | ⟨go, N, hN, step⟩
      · refine wpAny_mono (T.done (re X r) rfl rfl rfl hc i ip s3 σ3 H3 (fun _ _ => False) I3 (stat z1.1 z2 fr3) st3 stop) (fun q s4 ⟨hr, I4⟩ => ?_) fun _ _ x => x.elim
        subst hr
        refine sg_block (sg_nil ?_)
        exact sg_leaf (.ok .next) (k n r s4 .next z1 ⟨σ3, H3, I4, qn⟩)
      · refine wpAny_mono (T.item (re X r) rfl rfl rfl hc i ip s3 σ3 H3 (fun _ _ => False) I3 (stat z1.1 z2 fr3) st3 go) (fun q s4 ⟨u, hr, h4⟩ => ?_) fun _ _ x => x.elim
        subst hr
        refine wpAny_mono h4 (fun _ s5 ⟨x, H5, I5, r5, y5, st5, fr5⟩ => ?_) fun _ _ x => x.elim
        have I5' := I5.pinned (stat z1.1 z2 fr5) (T.obj _ _ st5)
        refine wpAny_mono ((hg r).run _ s5 σ3 H5 x u _ I5' r5 (step x H5 y5)) (fun _ s6 ⟨σ6, H6, I6, q6⟩ => ?_) fun _ _ x => x.elim
        refine hb.run A (ip ++ pinsAt fp s5.heap) RE n r _ _ _ _ id id s6 σ6 H6 { D with nx := N, ct := N, bk := D.nx } (gl _) ⟨z1.1, fun p hp q hq => (List.mem_append.mp hq).elim (z1.2.1 p hp q) fun y => Ne.symm (z2 q.1 (of_pinsAt y).1 p hp), fun q hq => (List.mem_append.mp hq).elim (z1.2.2 q) fun y => young q.1 (of_pinsAt y).1⟩ (fun n7 r7 s7 f z7 q7 => ?_) I6 q6
        have z8 : Wf P ip r7 := ⟨z7.1, fun p hp q hq => z7.2.1 p hp q (List.mem_append_left _ hq), fun q hq => z7.2.2 q (List.mem_append_left _ hq)⟩
        have again : ∀ {σ7 : L2.St} {H7 : Hp}, Inv (re X r7) (ip ++ pinsAt fp s5.heap) σ7 H7 s7 → N n7 r7.2.1 σ7 H7 →
            SegG (RQ X) A RE (YF X P) n7 r7 (.forLoop tg (.ref it) body [] X.env) (.pure (.again (.forLoop tg (.ref it) body [] X.env))) (.ret (fun q => (back' X.env q).wrap K J gd lv) none (gd false) (lv []) c p [] :: fs) s7 := fun {σ7 H7} I7 n7' => by
          obtain ⟨m', hm, w7⟩ := hN n7 r7.2.1 σ7 H7 n7'
          refine sg_again rfl (ih m' hm (i + 1) n7 r7 s7 σ7 H7 z8 (fun b hb p hp => ?_) I7.unpinned (T.keep _ _ _ st5 fun b hb o e => (I7.pin (b, o) (List.mem_append_right _ (List.mem_append_right _ (mem_pinsAt hb e)))).1) (fun b hb => ?_) w7)
          · obtain ⟨o, e, d⟩ := T.obj _ _ st5 b hb
            exact Ne.symm (z7.2.1 p hp (b, o) (List.mem_append_right _ (mem_pinsAt hb e)))
          obtain ⟨o, e, d⟩ := T.obj _ _ st5 b hb
          exact (I7.pin (b, o) (List.mem_append_right _ (List.mem_append_right _ (mem_pinsAt hb e)))).2.1
        cases f with
        | next => obtain ⟨σ7, H7, I7, n7'⟩ := q7; exact again I7 n7'
        | cont => obtain ⟨σ7, H7, I7, n7'⟩ := q7; exact again I7 n7'
        | brk => obtain ⟨σ7, H7, I7, q7⟩ := q7; exact sg_leaf (.ok .next) (k n7 r7 s7 .next z8 ⟨σ7, H7, I7.unpinned, q7⟩)
        | ret v => obtain ⟨x7, σ7, H7, I7, r7', q7⟩ := q7; exact sg_leaf (.ok (.ret v)) (k n7 r7 s7 (.ret v) z8 ⟨x7, σ7, H7, I7.unpinned, r7', q7⟩)
  exact loop m0 0 n r s2 σ H2 z0 (fun b hb p hp => (f2 b hb).2.2.2.2.2 p (List.mem_append_left _ (show p ∈ X.pn ++ r.2.2 from List.mem_append_right _ hp))) I2 st2 (fun b hb => (f2 b hb).1) w0
end
end GN
set_option Elab.async false
set_option linter.all false
set_option maxRecDepth 100000
/-! a generator is woken: for SegG over the kit's runs -/
namespace GN
open PySem PySem.Spec PyProof.Rows L2 GenW
open Sem (wp)
section
variable {M : Model} {G : Type}
def GoesG (M : Model) (A : Around) (RE : GEnd G) (Y : GProt G) (n : Nat) (a : G) (gs : GenState) (r : Resume) (s : Shared) : Prop :=
  match gs with
  | .fresh c => r = .send .none ∧ SegG (RLq M) A RE Y n a c (M.den c) [] s
  | .suspended k _ c _ fs _ => SegG (RLq M) A RE Y n a c (k r) fs s
  | _ => False
def GoN (M : Model) (A : Around) (RE : GEnd G) (Y : GProt G) (n : Nat) (a : G) (gs : GenState) (r : Resume) (s : Shared) : Prop :=
  match n with
  | 0 => False
  | m + 1 => GoesG M A RE Y m a gs r s
theorem wpAny_resumeG {A : Around} {RE : GEnd G} {Y : GProt G} {n : Nat} {a : G} {E : Value → Shared → Prop} {s : Shared} {g : Nat} {gs : GenState}
    {r : Resume} {l : List Value} {α : Type} {k : GenResult → Sem α} {Q : α → Shared → Prop} (hg : s.gens[g]? = some gs)
    (hgo : GoesG M A RE Y n a gs r (s.setGen g .running))
    (hR : ∀ x s₁, RE n a x s₁ → wpAny M A (k (End.ret x).result) Q E (s₁.setGen g .finished))
    (hY : ∀ v s₁ gs', gs'.bare = true → isSusp gs' = true → Y (n - 1) a v s₁ (fun a' r' s'' => GoN M A RE Y n a' gs' r' s'') →
      wpAny M A (k (.yielded v)) Q E (s₁.setGen g gs')) :
    wpAny M A (.resume g r l k) Q E s := by
  intro Γ p hΓ
  rw [Sem.wp_resume]
  have hqt : ∀ e₁ s₁, GSEnd (RLq M) RE Y n (SegG.next (RLq M) A RE Y n) a e₁ s₁ → e₁.quiet = true := fun e₁ s₁ he => by
    cases e₁ with
    | ret x => rfl
    | susp v g₀ l₀ k₀ c₀ p₀ fs₀ => exact he.1
  have fin : ∀ e₁ s₁, GSEnd (RLq M) RE Y n (SegG.next (RLq M) A RE Y n) a e₁ s₁ → wp M Γ (k e₁.result) (fun a _ s' => Q a s') (fun e _ s' => E e s') p (s₁.setGen g e₁.genState) := fun e₁ s₁ he => by
    cases e₁ with
    | ret x => exact hR x s₁ he Γ p hΓ
    | susp v g₀ l₀ k₀ c₀ p₀ fs₀ =>
      refine hY v s₁ _ (End.bare_of_quiet (hqt _ _ he)) rfl ?_ Γ p hΓ
      cases n with
      | zero => exact he.2
      | succ m => exact he.2
  cases gs with
  | fresh c =>
    obtain ⟨rfl, hs⟩ := hgo
    obtain ⟨e₁, s₁, hr, he⟩ := sg_iff.mp hs (Γ.wake c p) p rfl (hΓ.wake c p)
    exact ⟨_, _, by unfold Wakes; rw [hg]; exact ⟨e₁, s₁, hr, hqt e₁ s₁ he, rfl, rfl⟩, fin e₁ s₁ he⟩
  | suspended k₀ l₀ c₀ p₀ fs₀ cl =>
    obtain ⟨e₁, s₁, hr, he⟩ := sg_iff.mp hgo (Γ.wake c₀ p) p₀ rfl (hΓ.wake c₀ p)
    exact ⟨_, _, by unfold Wakes; rw [hg]; exact ⟨e₁, s₁, hr, hqt e₁ s₁ he, rfl, rfl⟩, fin e₁ s₁ he⟩
  | running => exact hgo.elim
  | finished => exact hgo.elim
end
section
variable {P : Program} {w : World} {G : Type} {A : Around} {E : Value → Shared → Prop} {s : Shared}
/-- next of a generator that no exception leaves -/
theorem next_gG {a : Addr} {g n : Nat} {r : G} {gs : GenState} {F : Nat → G → Shared → Prop} {Y : GProt G} {Q : Option Value → Shared → Prop} (hh : A.handled = none)
    (hl : s.heap.NoLimit) (hroom : A.depth < recursionLimit) (hg : s.heap.IsGen a g) (hgs : s.gens[g]? = some gs)
    (hgo : GoesG (model P w) A.in1 (fun n r x s₁ => (x = .ok (.ret .none) ∨ x = .ok .next) ∧ F n r s₁) Y n r gs (.send .none) (s.setGen g .running))
    (hY : ∀ v s₁ gs', gs'.bare = true → isSusp gs' = true → Y (n - 1) r v s₁ (fun r' x s'' => GoN (model P w) A.in1 (fun n r x s₁ => (x = .ok (.ret .none) ∨ x = .ok .next) ∧ F n r s₁) Y n r' gs' x s'') → Q (some v) (s₁.setGen g gs'))
    (hP : ∀ s₁, F n r s₁ → ∀ h', (∀ b o, s₁.heap.get? b = some o → h'.get? b = some o) → Q none { s₁.setGen g .finished with heap := h' }) :
    wpAny (model P w) A (pyNext (.ref a)) Q E s := by
  unfold pyNext
  refine wpAny_bind (wpAny_attempt (wpAny_callSpecial?_slot (name := Str.ofString "__next__") hg.typeIs slot_gen_next
    (wpAny_call_entry slot_gen_next hg.typeIs entry_gen_next ?_ (args_gen_next _))))
  show wpAny _ A.in1 (Builtin.Generator.genWake (.ref a) (.send .none)) _ _ s
  unfold Builtin.Generator.genWake
  refine wpAny_bind (wpAny_holding (wpAny_genNumber hg (wpAny_bind (wpAny_genState hgs ?_))))
  cases gs with
  | running => exact hgo.elim
  | finished => exact hgo.elim
  | _ =>
    refine wpAny_bind (wpAny_roomToWake hl hroom ?_)
    show wpAny _ A.in1 (.resume g (.send .none) [] _) _ _ s
    refine wpAny_resumeG hgs hgo (fun x s₁ hx => ?_) (fun v s₁ gs' hb hsu hv => ?_)
    · obtain ⟨hr, hp⟩ := hx
      have hres : End.result (.ret x) = .returned .none := by
        rcases hr with hr | hr <;> rw [hr] <;> rfl
      first | rw [hres] | simp only [hres]
      show wpAny _ A.in1 (newExc (.type "StopIteration") [] >>= _) _ _ _
      refine wpAny_bind ?_
      simp only [newExc, newTuple]
      refine wpAny_bind (wpAny_newObj_type ?_ (by size_fits))
      refine wpAny_bind (m := firstArgMember _ _) (wpAny_of_eq (a := Value.none) (by first | rfl | (simp only [firstArgMember]; rfl)) ?_)
      refine wpAny_newObj_type ?_ (by size_fits)
      simp only [raiseNew]
      refine wpAny_bind (wpAny_bind (wpAny_handled ?_))
      first | rw [show A.in1.handled = none from hh] | rw [hh]
      refine wpAny_throw ?_
      refine wpAny_bind (wpAny_isInstance (T := "StopIteration") (b := true) ⟨_, Heap.get?_push_size _ rfl, rfl⟩ isSubtype_stop ?_)
      exact wpAny_pure (hP s₁ hp _ fun b o hb => Heap.get?_push_of_some _ (Heap.get?_push_of_some _ hb))
    · exact wpAny_pure ⟨v, rfl, wpAny_pure (hY v s₁ gs' hb hsu hv)⟩
end
end GN
set_option Elab.async false
set_option linter.all false
set_option maxRecDepth 100000
/-! a generator def's body as its code runs -/
namespace GN
open PySem PySem.Spec PyProof.Rows L2 GenW
section
variable {X : Cx} {P : Pr} {body : List Stmt} {t : TGf} {Aw : Around}
/-- the end of a generator: what is true of the tracked heaps at the last waking and at the end -/
def FinF (X : Cx) (fin : Nat → Hp → Hp → Prop) (n : Nat) (r : Wk) (s : Shared) : Prop := ∃ ip σ H, Inv (re X r) ip σ H s ∧ fin n r.2.1 H
def REF (X : Cx) (fin : Nat → Hp → Hp → Prop) : GEnd Wk := fun n r x s => (x = .ok (.ret .none) ∨ x = .ok .next) ∧ FinF X fin n r s
theorem sg_body {fin : Nat → Hp → Hp → Prop} {n : Nat} {r : Wk} {σ : L2.St} {H : Hp} {s : Shared} {ip : List (Addr × Obj)} (hA : X.A = Aw.deeper X.env) (hz : Wf P ip r) (hb : GFs X P body t) (I : Inv (re X r) ip σ H s)
    (ht : t { nx := fun n H0 _ H => fin n H0 H, rt := fun n H0 v H => v = .non ∧ fin n H0 H } n r.2.1 σ H) :
    SegG (RQ X) Aw (REF X fin) (YF X P) n r (.func body X.env) ((model X.prog X.w).den (.func body X.env)) [] s := by
  refine sg_func ?_
  refine hb.run Aw ip (REF X fin) n r _ [] _ _ id id s σ H _ ⟨over_func.trans hA.symm, rfl, rfl, rfl⟩ hz (fun n' r' s' f z1 hs => ?_) I ht
  cases f with
  | next =>
    obtain ⟨σ', H', I', q⟩ := hs
    exact sg_end (.ok (.ret .none)) ⟨.inl rfl, ip, σ', H', I', q⟩
  | brk => obtain ⟨_, _, _, q⟩ := hs; exact False.elim q
  | cont => obtain ⟨_, _, _, q⟩ := hs; exact False.elim q
  | ret u =>
    obtain ⟨v, σ', H', I', rv, ev, q⟩ := hs
    subst ev
    have eu : u = Value.none := rv
    subst eu
    exact sg_end (.ok (.ret .none)) ⟨.inl rfl, ip, σ', H', I', q⟩
end
end GN
set_option Elab.async false
set_option linter.all false
set_option maxRecDepth 100000
/-! the waking of a generator: contexts -/
namespace GN
open PySem PySem.Spec PyProof.Rows L2 GenW
/-- the heap below n -/
def cut (n : Nat) (h : Heap) : Heap := { h with objs := h.objs.extract 0 n }
theorem cut_objs {n b : Nat} {h : Heap} : (cut n h).objs[b]? = if b < n then h.objs[b]? else none := by
  unfold cut
  simp only [Array.getElem?_extract]
  by_cases hb : b < n
  · by_cases hs : b < h.objs.size
    · rw [if_pos (by omega), if_pos hb]; simp
    · rw [if_neg (by omega), if_pos hb]
      exact (Array.getElem?_eq_none (Nat.le_of_not_lt hs)).symm
  · rw [if_neg (by omega), if_neg hb]
theorem cut_get {n b : Nat} {h : Heap} (hb : b < n) : (cut n h).get? b = h.get? b := by
  unfold Heap.get?
  rw [cut_objs, if_pos hb]
theorem cut_none {n b : Nat} {h : Heap} (hb : n ≤ b) : (cut n h).get? b = none := by
  unfold Heap.get?
  rw [cut_objs, if_neg (Nat.not_lt.mpr hb)]
theorem cut_some {n b : Nat} {h : Heap} {o : Obj} (e : (cut n h).get? b = some o) : b < n ∧ h.get? b = some o := by
  by_cases hb : b < n
  · exact ⟨hb, (cut_get hb).symm.trans e⟩
  · rw [cut_none (Nat.le_of_not_lt hb)] at e; cases e
theorem cut_size {n : Nat} {h : Heap} (hn : n ≤ h.objs.size) : (cut n h).objs.size = n := by
  unfold cut
  simp only [Array.size_extract]; omega
/-- what of a generator's context stands still: its frame, its cells, its def -/
structure Still (X : Cx) : Prop where
  mod : Mod X.K X.mg X.base
  kind : X.env.scope.kind = .function
  glob : X.env.globals = mainGlobals
  blt : X.env.builtins = builtinsNs
  inj : ∀ x y c, X.env.cells.lookup x = some c → X.env.cells.lookup y = some c → x = y
  has : ∀ x, (X.env.kindOf x = some .cell ∨ X.env.kindOf x = some .free) → ∃ c, X.env.cells.lookup x = some c
  hd : X.A.handled = none
  frames : X.A.frames = some X.stack
  stk : X.stack = X.env :: X.outer ∧ X.env.frame = some X.env.locals
  ex : X.ex = []
  cab : ∀ x c, X.env.cells.lookup x = some c → X.env.locals ≤ c
  bsz : X.base.objs.size ≤ X.env.locals
/-- a generator's frame, cells and iterators as they sleep -/
structure Asleep (X : Cx) (ip : List (Addr × Obj)) (σ : L2.St) (h : Heap) : Prop where
  loc : ∃ m, h.Ns X.env.locals m ∧ ∀ (i : Nat) (x : Str) (v : V), X.N[i]? = some x → σ[i]? = some (some v) → Vis X.env.scope x → ∃ u, RelV v u ∧ Look X.env h m x u
  cell : ∀ x c, X.env.cells.lookup x = some c → ∃ v, h.IsCell c v
  pin : ∀ p ∈ X.pn ++ ip, h.get? p.1 = some p.2 ∧ p.1 ≠ X.env.locals ∧ p.1 ∉ X.fs ∧ ∀ v, p.2.data ≠ .cell v
  len : σ.length = X.N.length
theorem Asleep.of {X : Cx} {r : Wk} {ip : List (Addr × Obj)} {σ : L2.St} {H : Hp} {s : Shared} (I : Inv (re X r) ip σ H s) : Asleep X ip σ s.heap where
  loc := I.loc
  cell := I.cell
  pin := fun p hp => by
    obtain ⟨h1, _, h3, h4, h5⟩ := I.pin p ((List.mem_append.mp hp).elim (fun z => List.mem_append_left _ (show p ∈ X.pn ++ r.2.2 from List.mem_append_left _ z)) fun z => List.mem_append_right _ z)
    exact ⟨h1, h3, h4, h5⟩
  len := I.len
theorem funs_cut {base h : Heap} {n : Nat} : ∀ {l : List Env}, (∀ b ∈ frs l, b < n) → h.FunFrames base l → (cut n h).FunFrames base l
  | [], _, _ => trivial
  | env :: r, hs, hl => by
    obtain ⟨hk, ⟨L, o, hf, hn, ho, hd⟩, hr⟩ := hl
    have hL : L < n := hs L (by unfold frs; rw [List.filterMap_cons, hf]; exact List.mem_cons_self)
    exact ⟨hk, ⟨L, o, hf, hn, (cut_get hL).trans ho, hd⟩, funs_cut (fun b hb => hs b (by unfold frs; rw [List.filterMap_cons, hf]; exact List.mem_cons_of_mem _ hb)) hr⟩
/-- the state of a waking -/
def wkOf (X : Cx) (s : Shared) (H : Hp) (pins : List (Addr × Obj)) : Wk := ({ s with heap := cut X.env.locals s.heap }, H, pins)
theorem woken {X : Cx} {ip pins : List (Addr × Obj)} {σ : L2.St} {H : Hp} {s : Shared} (S : Still X) (a : Asleep X ip σ s.heap) (bare : AllBare s.gens) (hok : HOk X.prog X.w H s.heap) (funs : s.heap.FunFrames X.base X.outer)
    (hfs : ∀ b ∈ X.fs, b < X.env.locals ∧ H b = none) (bs : ∀ b o, X.base.get? b = some o → s.heap.get? b = some o ∧ H b = none) (free : H X.env.locals = none) (freeC : ∀ x c, X.env.cells.lookup x = some c → H c = none)
    (pinH : ∀ p ∈ X.pn ++ ip, H p.1 = none) (pn : ∀ p ∈ pins, s.heap.get? p.1 = some p.2 ∧ H p.1 = none ∧ p.1 ≠ X.env.locals ∧ p.1 ∉ X.fs ∧ ∀ v, p.2.data ≠ .cell v) : Inv (re X (wkOf X s H pins)) ip σ H s := by
  have noex : ∀ b : Addr, b ∉ X.ex := fun b => by rw [S.ex]; simp
  have hlt : X.env.locals < s.heap.objs.size := let ⟨_, hn, _⟩ := a.loc; hn.lt
  have hsz : (cut X.env.locals s.heap).objs.size = X.env.locals := cut_size (Nat.le_of_lt hlt)
  refine ⟨⟨S.mod, S.kind, S.glob, S.blt, Nat.le_of_eq hsz, S.inj, S.has, fun x c _ e => by (show (cut X.env.locals s.heap).objs.size ≤ c); rw [hsz]; exact S.cab x c e, fun _ => S.hd, S.frames, .inr S.stk, fun b z => absurd z (noex b), fun b o e => ?_, ?_, fun b _ _ => noex b,
    fun b z => absurd z (noex b), funs_cut (fun b hb => (hfs b hb).1) funs, fun b hb => (hfs b hb).2⟩, rfl, bare, ⟨fun b o e _ _ _ => (cut_some e).2, fun b o e _ _ _ => ⟨o.slots, (cut_some e).2⟩, fun b o _ n _ => n, fun b o e _ => ⟨o, (cut_some e).2⟩, fun _ _ q => q, fun _ _ _ q => q, fun b ps q => ⟨#[], by (show H b = _); rw [show H b = some (.tbl ps) from q]; simp⟩⟩,
    a.loc, a.cell, free, freeC, fun p hp => ?_, hok, a.len⟩
  · obtain ⟨e1, e2⟩ := bs b o e
    exact ⟨(cut_get (Nat.lt_of_lt_of_le (Heap.lt_size e) S.bsz)).trans e1, e2⟩
  · show X.base.objs.size ≤ (cut X.env.locals s.heap).objs.size
    rw [hsz]; exact S.bsz
  · have fromA : p ∈ X.pn ++ ip → s.heap.get? p.1 = some p.2 ∧ H p.1 = none ∧ p.1 ≠ X.env.locals ∧ p.1 ∉ X.fs ∧ ∀ v, p.2.data ≠ .cell v := fun z => by
      obtain ⟨h1, h2, h3, h4⟩ := a.pin p z
      exact ⟨h1, pinH p z, h2, h3, h4⟩
    rcases List.mem_append.mp hp with z | z
    · rcases List.mem_append.mp (show p ∈ X.pn ++ pins from z) with z | z
      · exact fromA (List.mem_append_left _ z)
      · exact pn p z
    · exact fromA (List.mem_append_right _ z)
end GN
set_option Elab.async false
set_option linter.all false
set_option maxRecDepth 100000
/-! behind a turn of a generator: its own things are laid into the consumer's tracked heap -/
namespace GN
open PySem PySem.Spec PyProof.Rows L2 GenW
/-- the things at own as they stand -/
def lay (own : List Addr) (h : Heap) (H : Hp) : Hp := fun b => if b ∈ own then (h.get? b).map (fun o => HO.ext fun h' => h'.get? b = some o) else H b
theorem lay_no {own : List Addr} {h : Heap} {H : Hp} {b : Addr} (hb : b ∉ own) : lay own h H b = H b := by unfold lay; rw [if_neg hb]
theorem lay_at {own : List Addr} {h : Heap} {H : Hp} {b : Addr} {o : Obj} (hb : b ∈ own) (e : h.get? b = some o) : lay own h H b = some (.ext fun h' => h'.get? b = some o) := by unfold lay; rw [if_pos hb, e]; rfl
theorem lay_keep {own : List Addr} {h : Heap} {H : Hp} {b : Addr} {o : HO} (hn : ∀ b ∈ own, H b = none) (e : H b = some o) : lay own h H b = some o := by
  rw [lay_no fun hb => by rw [hn b hb] at e; cases e]; exact e
theorem lay_ok {P : Program} {w : World} {own : List Addr} {h : Heap} {H : Hp} (hok : HOk P w H h) (hn : ∀ b ∈ own, H b = none) : HOk P w (lay own h H) h := fun b u e => by
  by_cases hb : b ∈ own
  · cases q : h.get? b with
    | none =>
      unfold lay at e; rw [if_pos hb, q] at e; cases e
    | some o =>
      rw [lay_at hb q] at e
      cases e
      exact ⟨q, ⟨o, q⟩, fun _ _ p k => k _ p⟩
  · rw [lay_no hb] at e
    exact (hok b u e).stay (fun _ _ _ z => z) (fun _ z => lay_keep hn z) fun _ _ z => lay_keep hn z
theorem turned {Xc : Cx} {pc pins : List (Addr × Obj)} {σc : L2.St} {Hc Hg H1 : Hp} {s s1 s2 : Shared} {own1 : List Addr} {n0 : Nat} (Ic : Inv Xc pc σc Hc s)
    (hg1 : ∀ b, Hc b = none → Hg b = none) (hg2 : ∀ b u, Hc b = some u → (∀ φ, u ≠ .ext φ) → Hg b = some u) (U : Un (frs Xc.stack) [] Hg H1 (cut n0 s.heap) s1.heap) (hok1 : HOk Xc.prog Xc.w H1 s1.heap) (os1 : s1.os = s.os) (hs2h : s2.heap = s1.heap) (hs2o : s2.os = s1.os) (hs2b : AllBare s2.gens)
    (hown : ∀ b ∈ own1, n0 ≤ b ∧ H1 b = none ∧ b ∉ pins.map (·.1)) (hfs : ∀ b ∈ frs Xc.stack, b < n0) (hpins : ∀ p ∈ pins, s.heap.get? p.1 = some p.2 ∧ s1.heap.get? p.1 = some p.2 ∧ H1 p.1 = none)
    (hy : Xc.s_0.heap.objs.size ≤ n0 ∧ Xc.env.locals < n0 ∧ (∀ x c, Xc.env.cells.lookup x = some c → c < n0) ∧ ∀ p ∈ Xc.pn ++ pc, p.1 < n0 ∨ p.1 ∈ pins.map (·.1)) : Inv Xc pc σc (lay own1 s1.heap H1) s2 := by
  have noex : ∀ b : Addr, b ∉ ([] : List Addr) := fun b => by simp
  have low : ∀ b, b < n0 → b ∉ own1 := fun b hb hm => absurd (hown b hm).1 (Nat.not_le.mpr hb)
  have chOf : ∀ b, s.heap.get? b ≠ none → b ∉ ((List.range s.heap.objs.size).filter fun b => decide (n0 ≤ b) && !(pins.map (·.1)).contains b) → b < n0 ∨ b ∈ pins.map (·.1) := fun b he hb => by
    by_cases h1 : b < n0
    · exact .inl h1
    · by_cases h2 : b ∈ pins.map (·.1)
      · exact .inr h2
      · refine absurd (List.mem_filter.mpr ⟨List.mem_range.mpr ?_, ?_⟩) hb
        · cases e : s.heap.get? b with
          | none => exact absurd e he
          | some o => exact Heap.lt_size e
        · have : (pins.map (·.1)).contains b = false := by
            rw [Bool.eq_false_iff]; intro z
            exact h2 (List.contains_iff_mem.mp z)
          rw [this, decide_eq_true (Nat.le_of_not_lt h1)]; rfl
  have pinB : ∀ b o, s.heap.get? b = some o → b ∈ pins.map (·.1) → s1.heap.get? b = some o ∧ H1 b = none := fun b o e hb => by
    obtain ⟨p, hp, rfl⟩ := List.mem_map.mp hb
    obtain ⟨q, h1, h2⟩ := hpins p hp
    rw [e] at q; cases q
    exact ⟨h1, h2⟩
  refine Ic.call' (ch := (List.range s.heap.objs.size).filter fun b => decide (n0 ≤ b) && !(pins.map (·.1)).contains b) (hs2o.trans os1) ?_ ?_ hs2b fun b hb => ?_
  · rw [hs2h]
    refine ⟨fun b o e n hf hc => ?_, fun b o e n hf hc => ?_, fun b o e n hc => ?_, fun b o e hc => ?_, fun b xs q => ?_, fun b o u q => ?_, fun b ps q => ?_⟩
    · rcases chOf b (by rw [e]; simp) hc with h | h
      · exact U.keep b o ((cut_get h).trans e) (hg1 b n) hf (noex b)
      · exact (pinB b o e h).1
    · exact U.slot b o ((cut_get (hfs b hf)).trans e) (hg1 b n) hf (noex b)
    · rcases chOf b (by rw [e]; simp) hc with h | h
      · rw [lay_no (low b h)]
        exact U.free b o ((cut_get h).trans e) (hg1 b n) (noex b)
      · rw [lay_no fun hm => (hown b hm).2.2 h]
        exact (pinB b o e h).2
    · rcases chOf b (by rw [e]; simp) hc with h | h
      · exact U.there b o ((cut_get h).trans e) (noex b)
      · exact ⟨o, (pinB b o e h).1⟩
    · exact lay_keep (fun b hb => (hown b hb).2.1) (U.tups b xs (hg2 b _ q fun φ z => by cases z))
    · exact lay_keep (fun b hb => (hown b hb).2.1) (U.frzs b o u (hg2 b _ q fun φ z => by cases z))
    · obtain ⟨more, z⟩ := U.tbls b ps (hg2 b _ q fun φ z => by cases z)
      exact ⟨more, lay_keep (fun b hb => (hown b hb).2.1) z⟩
  · rw [hs2h]
    exact lay_ok hok1 fun b hb => (hown b hb).2.1
  · obtain ⟨_, hb⟩ := List.mem_filter.mp hb
    rw [Bool.and_eq_true, decide_eq_true_eq] at hb
    obtain ⟨h1, h2⟩ := hb
    have h2 : b ∉ pins.map (·.1) := fun z => by
      rw [List.contains_iff_mem.mpr z] at h2; cases h2
    obtain ⟨y1, y2, y3, y4⟩ := hy
    refine ⟨.inr (Nat.le_trans y1 h1), Ne.symm (Nat.ne_of_lt (Nat.lt_of_lt_of_le y2 h1)), fun x c e => Nat.ne_of_lt (Nat.lt_of_lt_of_le (y3 x c e) h1), fun p hp z => ?_⟩
    subst z
    rcases y4 p hp with q | q
    · exact absurd q (Nat.not_lt.mpr h1)
    · exact h2 q
/-- what lies above n does not count -/
theorem un_cut {fs : List Addr} {H H' : Hp} {n : Nat} {h h' : Heap} (U : Un fs [] H H' (cut n h) h') : Un fs [] H H' (cut n h) (cut n h') where
  keep := fun b o e q hf hx => (cut_get (cut_some e).1).trans (U.keep b o e q hf hx)
  slot := fun b o e q hf hx => by
    obtain ⟨sl, z⟩ := U.slot b o e q hf hx
    exact ⟨sl, (cut_get (cut_some e).1).trans z⟩
  free := U.free
  there := fun b o e hx => by
    obtain ⟨o', z⟩ := U.there b o e hx
    exact ⟨o', (cut_get (cut_some e).1).trans z⟩
  tups := U.tups
  frzs := U.frzs
  tbls := U.tbls
end GN
set_option Elab.async false
set_option linter.all false
set_option maxRecDepth 100000
set_option maxHeartbeats 1000000
/-! a generator def's promise by its body; list(g) through the kit's GMade -/
namespace GN
open PySem PySem.Spec PyProof.Rows L2 GenW
/-- all that is tracked is kept -/
def Kp (H H' : Hp) : Prop := ∀ a o, H a = some o → H' a = some o
theorem Kp.refl {H : Hp} : Kp H H := fun _ _ h => h
theorem Kp.trans {H H1 H2 : Hp} (a : Kp H H1) (b : Kp H1 H2) : Kp H H2 := fun x o h => b x o (a x o h)
abbrev Its := List (V → Hp → Prop)
/-- the items in order; its consumer drops nothing tracked, nor does it -/
def Pq (n0 top : Nat) (its : Its) : Pr where
  n0 := n0
  yp := fun n x H0 H => Kp H0 H ∧ ∃ i p, n + 1 + i = top ∧ its[i]? = some p ∧ p x H
  wk := fun _ H H' => Kp H H'
def FinQ (top : Nat) (its : Its) (n : Nat) (H0 H : Hp) : Prop := n + its.length = top ∧ Kp H0 H
def gX (P : Program) (w : World) (K : PySem.W.Frag) (mg : Str → Option Value) (base : Heap) (N : List Str) (qual : Str) (scope : Scope) (f : Addr) (cd : Value) (A : Around) (outer : List Env) (s : Shared) : Cx :=
  { cxOf (CX P w) P w K mg base N qual scope f cd A outer s (fun _ => none) (fun _ _ _ => False) with
    pn := []
    xe := fun _ _ => False }
/-- a generator's promise: the arguments, the heap, the items -/
abbrev SpY := List V → Hp → Its → Prop
/-- a generator that has not begun -/
def GNew (P : Program) (w : World) (base : Heap) (k : Nat) (outer : List Env) (H : Hp) (s : Shared) (its : Its) (u : Value) (s' : Shared) : Prop :=
  ∃ (a : Addr) (g : Nat) (go : Obj) (env : Env) (c : Code) (σ0 : L2.St), u = .ref a ∧ env.locals = s.heap.objs.size ∧ s.heap.objs.size < a ∧ a < s'.heap.objs.size ∧ (∀ x b, env.cells.lookup x = some b → s.heap.objs.size ≤ b ∧ b < a) ∧
    s'.heap.get? a = some go ∧ (∀ h : Heap, h.get? a = some go → h.IsGen a g) ∧ (∀ v, go.data ≠ .cell v) ∧ s'.gens[g]? = some (.fresh c) ∧ s'.os = s.os ∧ AllBare s'.gens ∧ s'.heap.NoLimit ∧ (∀ b o, s.heap.get? b = some o → s'.heap.get? b = some o) ∧
    ∀ Aw : Around, Room k Aw → Aw.frames = some outer → ∃ X : Cx, X.env = env ∧ X.outer = outer ∧ X.prog = P ∧ X.w = w ∧ X.pn = [] ∧ X.base = base ∧ Still X ∧ Asleep X [] σ0 s'.heap ∧
      ∀ top, its.length < top → ∀ (r : Wk) (s2 : Shared), Wf (Pq s.heap.objs.size top its) [] r → Kp H r.2.1 → Inv (re X r) [] σ0 r.2.1 s2 →
        SegG (RLq (model P w)) Aw (REF X (FinQ top its)) (YF X (Pq s.heap.objs.size top its)) top r c ((model P w).den c) [] s2
structure GFY (P : Program) (w : World) (K : PySem.W.Frag) (mg : Str → Option Value) (base : Heap) (k : Nat) (f : Addr) (fd : FuncData) (ps : List Str) (sp : SpY) : Prop where
  len : ∀ vs H its, sp vs H its → vs.length = ps.length
  run : ∀ (A : Around) (outer : List Env) (s : Shared) (H : Hp) (args : Args) (us : List Value) (vs : List V) (its : Its), Room k A → Env0 P w K mg base A outer s H → BindsTo s fd args (ps.zip us) → Vals vs us → sp vs H its →
    codeAny (model P w) A (.call (.ref f) args) (fun r s' => match r with | .ok (.ret u) => GNew P w base k outer H s its u s' | _ => False) s
/-- a generator def, by its body -/
theorem gfy_of {P : Program} {w : World} {K : PySem.W.Frag} {mg : Str → Option Value} {base : Heap} {k : Nat} {f : Addr} {name qual : Str} {params : Arguments} {body : List Stmt} {scope : Scope} {dV kV doc pm cdv ct oc : Value} {an od : Option Addr}
    {osl : Array (Option Value)} {N ps : List Str} {sp : SpY} (lk : K.lookup f = some ⟨oc, od, .func (PySem.W.fnOf name qual params body scope dV kV doc pm an cdv ct), osl⟩) (hcd : PySem.W.codeIn K cdv qual = true) (S : GScope N ps scope)
    (len : ∀ vs H its, sp vs H its → vs.length = ps.length)
    (hbody : ∀ (A : Around) (outer : List Env) (s : Shared) (H : Hp) (vs : List V) (its : Its), Room k (A.deeper (envOfC qual scope s.heap.objs.size f cdv)) → sp vs H its → ∀ top, its.length < top →
      ∃ t, GFs (gX P w K mg base N qual scope f cdv A outer s) (Pq s.heap.objs.size top its) body t ∧ ∀ H', Kp H H' → t { nx := fun n H0 _ H => FinQ top its n H0 H, rt := fun n H0 v H => v = .non ∧ FinQ top its n H0 H } top H' (start N vs) H') :
    GFY P w K mg base (k + 1) f (PySem.W.fnOf name qual params body scope dV kV doc pm an cdv ct) ps sp := by
  refine ⟨len, fun A outer s H args us vs its hr e0 hb r hsp => ?_⟩
  have hl := len _ _ _ hsp
  have KX : K.In s.heap := e0.mod.kin.keeps fun b o e => (e0.bs b o e).1
  have lim : s.heap.NoLimit := e0.mod.nolimit.keeps fun b o e => (e0.bs b o e).1
  have hkind : ∀ y ∈ ps.zip us, scope.names.lookup y.1 = some .local ∨ (scope.names.lookup y.1 = some .cell ∧ ((cellsFrom (s.heap.objs.size + 1) scope.names []).lookup y.1).isSome = true) := fun ⟨n, v⟩ hy => by
    rcases S.par n (List.of_mem_zip hy).1 with q | q
    · exact .inl q
    · exact .inr ⟨q, PySem.W.cellsFrom_some _ _ _ (.inl q)⟩
  refine codeAny_call_generator hr.depth (KX _ _ lk) rfl S.co S.gen rfl (PySem.W.codeRec_of KX hcd) (hb _ _ _ _ ?_)
  refine wpAny_newFunctionEnv_cells S.kind hkind fun env he s1 x => ?_
  subst he
  have lim1 : s1.heap.NoLimit := lim.keeps x.toInCall.keep
  refine ⟨lim1, ?_⟩
  obtain ⟨h1, tk, es1, hk1⟩ := x.done
  have os1 : s1.os = s.os := by rw [es1]
  have gen1 : s1.gens = s.gens := by rw [es1]
  have lt1 : s.heap.objs.size < s1.heap.objs.size := x.toInCall.ns.lt
  have kp1 : ∀ b o, s.heap.get? b = some o → s1.heap.get? b = some o := x.toInCall.keep
  have I1 : Inv (gcxOf P w K mg base N qual scope f cdv A outer s H (fun _ _ _ => False) []) [] (start N vs) H s1 := inv_startG S hr.hd e0 hl r x
  have main : ∀ (go : Obj) (nm qn : Value) (tk2 : Nat), go.cls = .type "generator" → go.data = .fields #[.int s1.gens.size 0, nm, qn] → go.slots = #[] → (∀ h : Heap, (h.push go).get? h.objs.size = some go) →
      GNew P w base (k + 1) outer H s its (.ref s1.heap.objs.size) { s1 with gens := s1.gens.push (.fresh (.func body (envOfC qual scope s.heap.objs.size f cdv))), toks := tk2, heap := s1.heap.push go } := by
    intro go nm qn tk2 hgc hgd0 hgs hgp
    have hpushed : (s1.heap.push go).get? s1.heap.objs.size = some go := hgp _
    have I2 : Inv (gcxOf P w K mg base N qual scope f cdv A outer s H (fun _ _ _ => False) []) [] (start N vs) H { s1 with heap := s1.heap.push go, toks := tk2 } := I1.kept fun b o e => Heap.get?_push_of_some _ e
    refine ⟨s1.heap.objs.size, s1.gens.size, go, envOfC qual scope s.heap.objs.size f cdv, .func body (envOfC qual scope s.heap.objs.size f cdv), start N vs, rfl, rfl, lt1, ?_, fun y b e => ?_, hpushed, fun h e => ⟨go, nm, qn, e, hgc, hgd0, hgs⟩, fun v q => (by rw [hgd0] at q; cases q),
      Array.getElem?_push_size .., os1, AllBare.push (by rw [gen1]; exact e0.bare) rfl, lim1.keeps fun b o e => Heap.get?_push_of_some _ e, fun b o e => Heap.get?_push_of_some _ (kp1 b o e), fun Aw hrw hfr => ⟨gX P w K mg base N qual scope f cdv Aw outer s, rfl, rfl, rfl, rfl, rfl, rfl, ?_, ?_, fun top htop r s2 hz hex I => ?_⟩⟩
    · show _ < (s1.heap.push _).objs.size
      rw [Heap.size_push]; exact Nat.lt_succ_self _
    · refine ⟨Nat.le_of_lt (x.above y b (PySem.mem_of_lookup e)), ?_⟩
      obtain ⟨v, ob, ho, _⟩ := I1.cell y b e
      exact Heap.lt_size ho
    · exact ⟨e0.mod, S.kind, rfl, rfl, I1.ok.inj, I1.ok.has, hrw.hd, Around.frames_deeper hfr, ⟨rfl, rfl⟩, rfl, fun y c e => Nat.le_of_lt (x.above y c (PySem.mem_of_lookup e)), e0.bsz⟩
    · exact ⟨I2.loc, I2.cell, fun p hp => by simp [gX] at hp, I2.len⟩
    · obtain ⟨t, ht, hq⟩ := hbody Aw outer s H vs its (hrw.deeper _) hsp top htop
      exact sg_body (X := gX P w K mg base N qual scope f cdv Aw outer s) rfl hz ht I (hq _ hex)
  exact main _ _ _ _ rfl rfl rfl fun h => Heap.get?_push_size _ rfl
/-! ### for list(g) -/
section
variable {X : Cx} {ip : List (Addr × Obj)} {σ : L2.St} {h h' : Heap}
/-- asleep it is left alone -/
theorem Asleep.keep (a : Asleep X ip σ h) {S : Addr} (hk : ∀ b o, b ≠ S → h.get? b = some o → h'.get? b = some o) (hS : S ≠ X.env.locals ∧ (∀ x c, X.env.cells.lookup x = some c → c ≠ S) ∧ ∀ p ∈ X.pn ++ ip, p.1 ≠ S) : Asleep X ip σ h' where
  loc := by
    obtain ⟨m, hn, hv⟩ := a.loc
    refine ⟨m, hn.at' fun o e => hk _ o (Ne.symm hS.1) e, fun i x v h1 h2 h3 => ?_⟩
    obtain ⟨u, rv, l⟩ := hv i x v h1 h2 h3
    refine ⟨u, rv, l.imp id fun ⟨q1, c, q2, ob, q3, q4⟩ => ⟨q1, c, q2, ob, hk _ ob (hS.2.1 x c q2) q3, q4⟩⟩
  cell := fun x c e => by
    obtain ⟨v, ob, q3, q4⟩ := a.cell x c e
    exact ⟨v, ob, hk _ ob (hS.2.1 x c e) q3, q4⟩
  pin := fun p hp => by
    obtain ⟨h1, h2⟩ := a.pin p hp
    exact ⟨hk _ _ (hS.2.2 p hp) h1, h2⟩
  len := a.len
theorem Asleep.kept (a : Asleep X ip σ h) (hk : ∀ b o, h.get? b = some o → h'.get? b = some o) : Asleep X ip σ h' where
  loc := by
    obtain ⟨m, hn, hv⟩ := a.loc
    refine ⟨m, hn.at' fun o e => hk _ o e, fun i x v h1 h2 h3 => ?_⟩
    obtain ⟨u, rv, l⟩ := hv i x v h1 h2 h3
    refine ⟨u, rv, l.imp id fun ⟨q1, c, q2, ob, q3, q4⟩ => ⟨q1, c, q2, ob, hk _ ob q3, q4⟩⟩
  cell := fun x c e => by
    obtain ⟨v, ob, q3, q4⟩ := a.cell x c e
    exact ⟨v, ob, hk _ ob q3, q4⟩
  pin := fun p hp => by
    obtain ⟨h1, h2⟩ := a.pin p hp
    exact ⟨hk _ _ h1, h2⟩
  len := a.len
/-- a run from a heap of which all lies below n, told for what is below n later -/
theorem un_below {fs : List Addr} {H H' : Hp} {n : Nat} {h h1 h2 : Heap} (U : Un fs [] H H' h h1) (hn : h.objs.size ≤ n) (hk : ∀ b o, b < n → h1.get? b = some o → h2.get? b = some o) : Un fs [] H H' h (cut n h2) where
  keep := fun b o e q hf hx => by
    have lt := Nat.lt_of_lt_of_le (Heap.lt_size e) hn
    exact (cut_get lt).trans (hk b _ lt (U.keep b o e q hf hx))
  slot := fun b o e q hf hx => by
    have lt := Nat.lt_of_lt_of_le (Heap.lt_size e) hn
    obtain ⟨sl, z⟩ := U.slot b o e q hf hx
    exact ⟨sl, (cut_get lt).trans (hk b _ lt z)⟩
  free := U.free
  there := fun b o e hx => by
    have lt := Nat.lt_of_lt_of_le (Heap.lt_size e) hn
    obtain ⟨o', z⟩ := U.there b o e hx
    exact ⟨o', (cut_get lt).trans (hk b _ lt z)⟩
  tups := U.tups
  frzs := U.frzs
  tbls := U.tbls
/-- from the own protocol to the kit's -/
theorem seg_of {M : Model} {G : Type} {A : Around} {RE : GEnd G} {Y : GProt G} {R' : GenEnd} {Y' : Protocol} (J : Nat → G → Prop)
    (hR : ∀ n r s₀ x s, J n r → RE n r x s → R' n s₀ x s) (h0 : ∀ r v s, J 0 r → ¬ Y 0 r v s (fun _ _ _ => False))
    (hY : ∀ n r s₀ v s (kap : G → Resume → Shared → Prop) (kap' : Resume → Shared → Prop), J (n + 1) r → Y n r v s kap → (∀ r' x s', J n r' → kap r' x s' → kap' x s') → Y' n s₀ v s kap') :
    ∀ (n : Nat) {r : G} {s₀ : Shared} {c : Code} {t : Sem PySem.Fin} {fs : List Frame} {s : Shared}, J n r → SegG (RLq M) A RE Y n r c t fs s → Seg M A R' Y' n s₀ c t fs s := by
  intro n
  induction n with
  | zero =>
    intro r s₀ c t fs s j h
    rw [sg_iff] at h; rw [seg_iff]
    intro Γ p hc hΓ
    obtain ⟨e, s', hr, he⟩ := h Γ p hc hΓ
    refine ⟨e, s', hr, ?_⟩
    cases e with
    | ret x => exact hR _ _ _ _ _ j he
    | susp v g l k c' p' fs' => exact absurd he.2 (h0 _ _ _ j)
  | succ n ih =>
    intro r s₀ c t fs s j h
    rw [sg_iff] at h; rw [seg_iff]
    intro Γ p hc hΓ
    obtain ⟨e, s', hr, he⟩ := h Γ p hc hΓ
    refine ⟨e, s', hr, ?_⟩
    cases e with
    | ret x => exact hR _ _ _ _ _ j he
    | susp v g l k c' p' fs' =>
      obtain ⟨he1, he2⟩ := he
      exact ⟨he1, hY _ _ _ _ _ _ _ j he2 fun r' x s' j' z => ih j' z⟩
end
theorem funs_at {base h h' : Heap} : ∀ {l : List Env}, (∀ b ∈ frs l, ∀ o, h.get? b = some o → h'.get? b = some o) → h.FunFrames base l → h'.FunFrames base l
  | [], _, _ => trivial
  | env :: r, hs, hl => by
    obtain ⟨hk, ⟨L, o, hf, hn, ho, hd⟩, hr⟩ := hl
    have hL : L ∈ frs (env :: r) := by unfold frs; rw [List.filterMap_cons, hf]; exact List.mem_cons_self
    exact ⟨hk, ⟨L, o, hf, hn, hs L hL o ho, hd⟩, funs_at (fun b hb => hs b (by unfold frs; rw [List.filterMap_cons, hf]; exact List.mem_cons_of_mem _ hb)) hr⟩
/-- what has come out so far -/
def Out (its : Its) (ys : List V) (H : Hp) : Prop := ∀ (i : Nat) (y : V), ys[i]? = some y → ∃ (p : V → Hp → Prop) (Hy : Hp), its[i]? = some p ∧ p y Hy ∧ Kp Hy H
theorem made_of {P : Program} {w : World} {K : PySem.W.Frag} {mg : Str → Option Value} {base : Heap} {k : Nat} {A0 : Around} {outer : List Env} {H : Hp} {s s' : Shared} {its : Its} {u : Value} {E : XK} {cont : List V → Hp → Prop}
    (e0 : Env0 P w K mg base A0 outer s H) (hlen : its.length < sizeLine) (h : GNew P w base k outer H s its u s') (hq : ∀ ys H', Kp H H' → Out its ys H' → ys.length = its.length → cont ys H') : GMade P w k outer H s [] cont E u s' := by
  obtain ⟨a, g, go, env, c, σ0, rfl, hL, ha1, ha2, hcl, hgo, hgen, hgd, hg, hos, hba, hlim, hkp, wake⟩ := h
  refine ⟨a, g, c, rfl, Nat.le_of_lt ha1, ha2, hgen _ hgo, hg, hos, hba, hlim, hkp, fun A S s2 hr hfr hS hk2 ⟨cS, hSo⟩ hos2 hba2 => ?_⟩
  obtain ⟨X, rfl, rfl, rfl, rfl, hpn, rfl, still, asl, run⟩ := wake A hr hfr
  have fsE : X.fs = frs X.outer := rfl
  have aS : a < S := Nat.lt_of_lt_of_le ha2 hS
  have n0S : s.heap.objs.size ≤ S := Nat.le_of_lt (Nat.lt_trans ha1 aS)
  have k02 : ∀ b o, s.heap.get? b = some o → s2.heap.get? b = some o := fun b o e => hk2 b o (hkp b o e)
  have fsl : ∀ b ∈ X.fs, b < s.heap.objs.size := fun b hb => by
    obtain ⟨_, o, e, _⟩ := e0.funs.mem hb
    exact Heap.lt_size e
  have n02 : s.heap.objs.size ≤ s2.heap.objs.size := by
    exact Nat.le_of_lt (Nat.lt_trans ha1 (Heap.lt_size (hk2 a go hgo)))
  let J : Nat → Wk → Prop := fun n r => ∃ ys acc cc, r.2.2 = [(a, go), (S, lstObj acc cc)] ∧ Vals ys acc.toList ∧ n + ys.length = sizeLine ∧ Out its ys r.2.1 ∧ Un (frs X.outer) [] H r.2.1 s.heap r.1.heap ∧ r.1.os = s.os ∧ r.1.heap.objs.size = s.heap.objs.size ∧ Kp H r.2.1
  have lowS : ∀ {x b}, X.env.cells.lookup x = some b → b ≠ S := fun {x b} e z => by
    have := (hcl x b e).2
    rw [z] at this; exact absurd (Nat.lt_trans this aS) (Nat.lt_irrefl _)
  -- a waking
  have wok : ∀ {ip : List (Addr × Obj)} {σ : L2.St} {H1 : Hp} {s3 : Shared} {acc : Array Value} {cc : Nat}, Asleep X ip σ s3.heap → AllBare s3.gens → HOk X.prog X.w H1 s3.heap → s3.heap.FunFrames X.base X.outer → (∀ b ∈ X.fs, H1 b = none) → (∀ b o, X.base.get? b = some o → s3.heap.get? b = some o ∧ H1 b = none) →
      H1 X.env.locals = none → (∀ x c, X.env.cells.lookup x = some c → H1 c = none) → (∀ p ∈ ip, H1 p.1 = none) → s3.heap.get? a = some go → H1 a = none → s3.heap.get? S = some (lstObj acc cc) → H1 S = none → Inv (re X (wkOf X s3 H1 [(a, go), (S, lstObj acc cc)])) ip σ H1 s3 :=
    fun {ip σ H1 s3 acc cc} q1 q2 q3 q4 q5 q6 q7 q8 q9 q10 q11 q12 q13 => by
      refine woken still q1 q2 q3 q4 (fun b hb => ⟨by rw [hL]; exact fsl b hb, q5 b hb⟩) q6 q7 q8 (fun p hp => q9 p (by rw [hpn] at hp; exact hp)) fun p hp => ?_
      have hfa : ∀ b, s.heap.objs.size ≤ b → b ∉ X.fs := fun b hb hm => absurd (fsl b hm) (Nat.not_lt.mpr hb)
      rcases List.mem_cons.mp hp with z | z
      · subst z
        exact ⟨q10, q11, by show a ≠ X.env.locals; rw [hL]; exact Nat.ne_of_gt ha1, hfa _ (Nat.le_of_lt ha1), hgd⟩
      · have z := List.mem_singleton.mp z
        subst z
        exact ⟨q12, q13, by show S ≠ X.env.locals; rw [hL]; exact Nat.ne_of_gt (Nat.lt_trans ha1 aS), hfa _ n0S, fun v q => by cases q⟩
  refine seg_of (M := model X.prog X.w) J (fun n r s₀ x s3 j hx => ?_) (fun r v s3 j hy => ?_) (fun n r s₀ v s3 kap kap' j hy hk => ?_) sizeLine (r := wkOf X s2 H [(a, go), (S, lstObj #[] cS)]) ?_ (run sizeLine hlen _ s2 ?_ Kp.refl ?_)
  · obtain ⟨hx, ip, σ, H1, I, hf, hkk⟩ := hx
    obtain ⟨ys, acc, cc, ep, rv, hn, out, U, os1, _, kp⟩ := j
    have pS := I.pin (S, lstObj acc cc) (List.mem_append_left _ (show _ ∈ X.pn ++ r.2.2 from List.mem_append_right _ (by rw [ep]; simp)))
    refine .inl ⟨hx, H1, ys, acc, cc, I.os.trans os1, I.bare, U.trans (by have q := I.base; rw [show (re X r).ex = [] from still.ex] at q; exact q), I.hok, pS.2.1, pS.1, rv, by omega, hq ys H1 (kp.trans hkk) (fun i y e => ?_) (by omega)⟩
    obtain ⟨p, Hy, z1, z2, z3⟩ := out i y e
    exact ⟨p, Hy, z1, z2, z3.trans hkk⟩
  · obtain ⟨x, ip, σ, H1, _, _, _, ⟨_, i, p, hi, hp, _⟩, _⟩ := hy
    have := (List.getElem?_eq_some_iff.mp hp).1
    omega
  · obtain ⟨x, ip, σ, H1, rv, wf, I, ⟨hkk, i, p, hi, hp, hpx⟩, hw⟩ := hy
    obtain ⟨ys, acc, cc, ep, rvs, hn, out, U, os1, sz1, kp⟩ := j
    have pinA := I.pin (a, go) (List.mem_append_left _ (show _ ∈ X.pn ++ r.2.2 from List.mem_append_right _ (by rw [ep]; simp)))
    have pinS := I.pin (S, lstObj acc cc) (List.mem_append_left _ (show _ ∈ X.pn ++ r.2.2 from List.mem_append_right _ (by rw [ep]; simp)))
    have hsz : acc.size = ys.length := by
      have e1 := rvs.length
      have e2 : acc.toList.length = acc.size := by simp
      omega
    have U1 : Un (frs X.outer) [] H H1 s.heap s3.heap := U.trans (by have q := I.base; rw [show (re X r).ex = [] from still.ex] at q; exact q)
    refine ⟨I.os.trans os1, I.bare, I.nolimit, hgen _ pinA.1, ⟨acc, cc, pinS.1, by omega⟩, fun s4 z => ?_⟩
    obtain ⟨cc', eS'⟩ := z.own acc cc pinS.1
    have nt : ∀ b u, H1 b = some u → b ≠ S := fun b u q hb => by rw [hb, pinS.2.1] at q; cases q
    have ipS : ∀ p ∈ ip, p.1 ≠ S := fun q hq => wf.2.1 (S, lstObj acc cc) (by rw [ep]; simp) q hq
    have keep4 : ∀ b o, b ≠ S → s3.heap.get? b = some o → s4.heap.get? b = some o := z.keep
    have n04 : s.heap.objs.size ≤ s4.heap.objs.size := Nat.le_of_lt (Nat.lt_of_le_of_lt n0S (Heap.lt_size eS'))
    have hcsz : (cut X.env.locals s4.heap).objs.size = s.heap.objs.size := by rw [cut_size (by rw [hL]; exact n04), hL]
    refine hk (wkOf X s4 H1 [(a, go), (S, lstObj (acc.push v) cc')]) (.send .none) s4 ⟨ys ++ [x], acc.push v, cc', rfl, ?_, ?_, fun i' y e => ?_, ?_, z.os.trans (I.os.trans os1), hcsz, kp.trans hkk⟩ (hw _ _ ⟨hcsz, fun q hq q' hq' => ?_, wf.2.2⟩ Kp.refl ?_)
    · rw [Array.toList_push]; exact rvs.append (.cons rv .nil)
    · rw [List.length_append]; simp only [List.length_singleton]; omega
    · by_cases hlt : i' < ys.length
      · rw [List.getElem?_append_left hlt] at e
        obtain ⟨p', Hy, z1, z2, z3⟩ := out i' y e
        exact ⟨p', Hy, z1, z2, z3.trans hkk⟩
      · have hl2 := (List.getElem?_eq_some_iff.mp e).1
        rw [List.length_append] at hl2
        simp only [List.length_singleton] at hl2
        have ei : i' = ys.length := by omega
        rw [List.getElem?_append_right (by omega), ei, Nat.sub_self] at e
        have e : x = y := Option.some.inj e
        subst e
        exact ⟨p, H1, by rw [ei, show ys.length = i by omega]; exact hp, hpx, Kp.refl⟩
    · refine un_below U1 (Nat.le_of_eq hL.symm) fun b o hb e => keep4 b o ?_ e
      rw [hL] at hb
      exact Nat.ne_of_lt (Nat.lt_of_lt_of_le hb n0S)
    · rcases List.mem_cons.mp hq with y | y
      · subst y
        exact wf.2.1 (a, go) (by rw [ep]; simp) q' hq'
      · rw [List.mem_singleton.mp y]
        exact ipS q' hq'
    · refine wok ((Asleep.of I).keep keep4 ⟨by rw [hL]; exact Nat.ne_of_gt (Nat.lt_trans ha1 aS), fun x c e => lowS e, fun q hq => ?_⟩) z.bare (fun b u q => (I.hok b u q).stay (fun c' v' hc y => keep4 c' v' ?_ y) (fun _ y => y) fun _ _ y => y) ?_ (fun b hb => ?_) (fun b o e => ?_) I.free I.freeC (fun q hq => (I.pin q (List.mem_append_right _ hq)).2.1) (keep4 a go (Nat.ne_of_lt aS) pinA.1) pinA.2.1 eS' pinS.2.1
      · rw [hpn] at hq; exact ipS q hq
      · rcases hc with y | y
        · rw [y]; exact nt b u q
        · exact nt c' _ y
      · exact funs_at (fun b hb o e => keep4 b o (Nat.ne_of_lt (Nat.lt_of_lt_of_le (fsl b hb) n0S)) e) I.funs
      · obtain ⟨_, o, e, _⟩ := e0.funs.mem hb
        exact U1.free b o e (e0.frf b hb) (by simp)
      · obtain ⟨q1, q2⟩ := I.bs b o e
        refine ⟨keep4 b o ?_ q1, q2⟩
        exact Nat.ne_of_lt (Nat.lt_of_lt_of_le (Nat.lt_of_lt_of_le (Heap.lt_size e) e0.bsz) n0S)
  · refine ⟨[], #[], cS, rfl, .nil, by simp, fun i y e => by simp at e, ?_, hos2, ?_, Kp.refl⟩
    · exact un_below (Un.kept k02) (Nat.le_of_eq hL.symm) fun b o _ e => e
    · show (cut X.env.locals s2.heap).objs.size = _
      rw [cut_size (by rw [hL]; exact n02), hL]
  · exact ⟨by show (cut X.env.locals s2.heap).objs.size = _; rw [cut_size (by rw [hL]; exact n02), hL]; rfl, fun _ _ _ h => by simp at h, fun _ h => by simp at h⟩
  · have young : ∀ b, s.heap.objs.size ≤ b → H b = none := fun b hb => e0.hok.fresh hb
    refine wok (asl.kept hk2) hba2 (e0.hok.kept k02) ?_ e0.frf (fun b o e => ⟨k02 b o (e0.bs b o e).1, (e0.bs b o e).2⟩) (young _ (Nat.le_of_eq hL.symm)) (fun x c e => young _ (hcl x c e).1) (fun _ h => by simp at h) (hk2 a go hgo) (young _ (Nat.le_of_lt ha1)) hSo (young _ n0S)
    exact Heap.FunFrames.of_keeps (fun b o e _ => ⟨o, k02 b o e, rfl⟩) e0.funs
end GN
set_option Elab.async false
set_option linter.all false
set_option maxRecDepth 100000
set_option maxHeartbeats 1000000
/-! a for over a generator of a def of one's own -/
namespace GN
open PySem PySem.Spec PyProof.Rows L2 GenW
/-- all that is tracked is kept, but for what is told by ext -/
def KpN (H H' : Hp) : Prop := ∀ b u, H b = some u → (∀ φ, u ≠ .ext φ) → H' b = some u
theorem Kp.n {H H' : Hp} (k : Kp H H') : KpN H H' := fun b u e _ => k b u e
theorem KpN.trans {H H1 H2 : Hp} (a : KpN H H1) (b : KpN H1 H2) : KpN H H2 := fun x u e n => b x u (a x u e n) n
def cold (X : Cx) : Cx := { X with xe := fun _ _ => False }
section
variable {X : Cx} {pins : List (Addr × Obj)} {σ : L2.St} {H : Hp} {s s' : Shared}
theorem to_cold (I : Inv X pins σ H s) : Inv (cold X) pins σ H s :=
  ⟨⟨I.ok.mod, I.ok.kind, I.ok.glob, I.ok.blt, I.ok.above, I.ok.inj, I.ok.has, I.ok.cab, I.ok.hd, I.ok.frames, I.ok.stk, I.ok.exf, I.ok.bs, I.ok.bsz, I.ok.noex, I.ok.exfs, I.ok.funs, I.ok.frf⟩, I.os, I.bare, I.base, I.loc, I.cell, I.free, I.freeC, I.pin, I.hok, I.len⟩
theorem of_cold (I : Inv (cold X) pins σ H s) : Inv X pins σ H s :=
  ⟨⟨I.ok.mod, I.ok.kind, I.ok.glob, I.ok.blt, I.ok.above, I.ok.inj, I.ok.has, I.ok.cab, I.ok.hd, I.ok.frames, I.ok.stk, I.ok.exf, I.ok.bs, I.ok.bsz, I.ok.noex, I.ok.exfs, I.ok.funs, I.ok.frf⟩, I.os, I.bare, I.base, I.loc, I.cell, I.free, I.freeC, I.pin, I.hok, I.len⟩
/-- other generators -/
theorem inv_gens (I : Inv X pins σ H s) (eh : s'.heap = s.heap) (eo : s'.os = s.os) (b : AllBare s'.gens) : Inv X pins σ H s' := by
  obtain ⟨h, g, d, t, o⟩ := s'
  have eh : h = s.heap := eh
  have eo : o = s.os := eo
  subst eh eo
  exact ⟨I.ok, I.os, b, I.base, I.loc, I.cell, I.free, I.freeC, I.pin, I.hok, I.len⟩
end
theorem stuck_bare {x : GenState} (h : x.bare = true) : (stuck x).bare = true := by cases x <;> exact h
theorem bare_lull {s : Shared} (h : AllBare s.gens) : AllBare (lull s).gens := fun y hy => by
  obtain ⟨i, hi, e⟩ := Array.mem_iff_getElem.mp hy
  have q : (s.gens.map stuck)[i]? = some y := by rw [← e]; exact Array.getElem?_eq_getElem hi
  rw [Array.getElem?_map] at q
  cases z : s.gens[i]? with
  | none => rw [z] at q; cases q
  | some x =>
    rw [z] at q
    have q : stuck x = y := Option.some.inj q
    rw [← q]
    exact stuck_bare (h x (Array.mem_of_getElem? z))
theorem bare_put {s s1 : Shared} (h : AllBare s.gens) (h1 : AllBare s1.gens) : AllBare (put (back s) s1).gens := fun y hy => by
  obtain ⟨i, hi, e⟩ := Array.mem_iff_getElem.mp hy
  have q : (put (back s) s1).gens[i]? = some y := by rw [← e]; exact Array.getElem?_eq_getElem hi
  rw [put_get] at q
  cases z : s1.gens[i]? with
  | none => rw [z] at q; cases q
  | some x =>
    rw [z] at q
    have q : (back s i).getD x = y := Option.some.inj q
    cases zb : back s i with
    | none =>
      rw [zb] at q
      rw [← q]
      exact h1 x (Array.mem_of_getElem? z)
    | some x2 =>
      rw [zb] at q
      rw [← q]
      unfold back at zb
      cases zg : s.gens[i]? with
      | none => rw [zg] at zb; cases zb
      | some x3 =>
        rw [zg] at zb
        simp only at zb
        split at zb
        · have zb := Option.some.inj zb
          show x2.bare = true
          rw [← zb]
          exact h x3 (Array.mem_of_getElem? zg)
        · cases zb
/-- the things that are a generator's own -/
def ownOf (X : Cx) (ip : List (Addr × Obj)) : List Addr := X.env.locals :: (X.env.cells.filterMap (fun p => X.env.cells.lookup p.1) ++ ip.map (·.1))
theorem own_loc {X : Cx} {ip : List (Addr × Obj)} : X.env.locals ∈ ownOf X ip := List.mem_cons_self
theorem own_cell {X : Cx} {ip : List (Addr × Obj)} {x : Str} {c : Addr} (h : X.env.cells.lookup x = some c) : c ∈ ownOf X ip :=
  List.mem_cons_of_mem _ (List.mem_append_left _ (List.mem_filterMap.mpr ⟨(x, c), PySem.mem_of_lookup h, h⟩))
theorem own_ip {X : Cx} {ip : List (Addr × Obj)} {p : Addr × Obj} (h : p ∈ ip) : p.1 ∈ ownOf X ip :=
  List.mem_cons_of_mem _ (List.mem_append_right _ (List.mem_map.mpr ⟨p, h, rfl⟩))
theorem own_cases {X : Cx} {ip : List (Addr × Obj)} {b : Addr} (h : b ∈ ownOf X ip) : b = X.env.locals ∨ (∃ x, X.env.cells.lookup x = some b) ∨ ∃ p ∈ ip, p.1 = b := by
  rcases List.mem_cons.mp h with h | h
  · exact .inl h
  · rcases List.mem_append.mp h with h | h
    · obtain ⟨p, hp, e⟩ := List.mem_filterMap.mp h
      exact .inr (.inl ⟨p.1, e⟩)
    · obtain ⟨p, hp, rfl⟩ := List.mem_map.mp h
      exact .inr (.inr ⟨p, hp, rfl⟩)
theorem Asleep.same {X : Cx} {ip : List (Addr × Obj)} {σ : L2.St} {h h' : Heap} (a : Asleep X ip σ h) (hpn : X.pn = []) (hk : ∀ b ∈ ownOf X ip, ∀ o, h.get? b = some o → h'.get? b = some o) : Asleep X ip σ h' where
  loc := by
    obtain ⟨m, hn, hv⟩ := a.loc
    refine ⟨m, hn.at' fun o e => hk _ own_loc o e, fun i x v h1 h2 h3 => ?_⟩
    obtain ⟨u, rv, l⟩ := hv i x v h1 h2 h3
    refine ⟨u, rv, l.imp id fun ⟨q1, c, q2, ob, q3, q4⟩ => ⟨q1, c, q2, ob, hk _ (own_cell q2) ob q3, q4⟩⟩
  cell := fun x c e => by
    obtain ⟨v, ob, q3, q4⟩ := a.cell x c e
    exact ⟨v, ob, hk _ (own_cell e) ob q3, q4⟩
  pin := fun p hp => by
    obtain ⟨h1, h2⟩ := a.pin p hp
    rw [hpn] at hp
    exact ⟨hk _ (own_ip hp) _ h1, h2⟩
  len := a.len
/-- without the own things -/
def strip (own : List Addr) (H : Hp) : Hp := fun b => if b ∈ own then none else H b
theorem strip_in {own : List Addr} {H : Hp} {b : Addr} (h : b ∈ own) : strip own H b = none := by unfold strip; rw [if_pos h]
theorem strip_out {own : List Addr} {H : Hp} {b : Addr} (h : b ∉ own) : strip own H b = H b := by unfold strip; rw [if_neg h]
theorem strip_none {own : List Addr} {H : Hp} {b : Addr} (h : H b = none) : strip own H b = none := by
  by_cases hb : b ∈ own
  · exact strip_in hb
  · rw [strip_out hb]; exact h
theorem strip_n {own : List Addr} {H : Hp} (ho : ∀ b ∈ own, ∃ φ, H b = some (.ext φ)) {b : Addr} {u : HO} (e : H b = some u) (n : ∀ φ, u ≠ .ext φ) : strip own H b = some u := by
  rw [strip_out fun hb => ?_]; · exact e
  obtain ⟨φ, z⟩ := ho b hb
  rw [e] at z
  exact n φ (Option.some.inj z)
theorem strip_ok {P : Program} {w : World} {own : List Addr} {H : Hp} {h : Heap} (hok : HOk P w H h) (ho : ∀ b ∈ own, ∃ φ, H b = some (.ext φ)) : HOk P w (strip own H) h := fun b u e => by
  have hb : b ∉ own := fun hb => by rw [strip_in hb] at e; cases e
  rw [strip_out hb] at e
  exact (hok b u e).stay (fun _ _ _ z => z) (fun _ z => strip_n ho z fun φ q => by cases q) fun _ _ z => strip_n ho z fun φ q => by cases q
/-- an expression that makes a generator -/
abbrev TGY := L2.St → Hp → (Its → Hp → Prop) → Prop
structure PGY (X : Cx) (k : Nat) (e : Expr) (tg : TGY) : Prop where
  run : ∀ (pins : List (Addr × Obj)) (s : Shared) (σ : L2.St) (H : Hp) (cont : Its → Hp → Prop), Inv X pins σ H s → tg σ H cont → wpAny (model X.prog X.w) X.A (eval e X.env)
    (fun u s' => ∃ H1 sc its, Inv X pins σ H1 sc ∧ GNew X.prog X.w X.base k X.stack H1 sc its u s' ∧ cont its H1) X.xe s
section
variable {X : Cx} {k : Nat} {f : Addr} {fd : FuncData} {ps : List Str} {sp : SpY} {dvs : List V} {ds : List Value} {x : Str} {p pos : Pos}
def tCallY (sp : SpY) (dvs : List V) (t : TA) : TGY := fun σ H cont => t σ H fun vs H1 => ∃ its, sp (vs ++ dvs) H1 its ∧ cont its H1
/-- f(e, ..) of a generator def -/
theorem pgy_call {e : Expr} {es : List Expr} {t : TA} (F : GFY X.prog X.w X.K X.mg X.base k f fd ps sp) (hr : Room k X.A) (hg : Gl X x) (hm : X.mg x = some (.ref f)) (hk : PySem.W.keepIn X.K (.ref f) = true) (hb : Binds X.K fd ps ds) (hd : Vals dvs ds)
    (ha : PA X (e :: es) t) (hdb : (x == ("__debug__" : Str)) = false := by decide) (he : starEach (e :: es) X.env = (false, eval e X.env) :: starEach es X.env := by rfl) (hpl : (backTo pos (starEach es X.env)).any (·.1) = false := by rfl) :
    PGY X k (.Call (.Name x p) (e :: es) [] pos) (tCallY sp dvs t) := by
  refine ⟨fun pins s σ H cont I h => ?_⟩
  refine wpAny_Call_Name_kw (ld_glob I hg hm ?_ hdb)
  refine PySem.W.callWith_K (h₀ := X.base) I.ok.mod.kin hk (thn (ha.run pos pins s σ H _ I h) fun us s1 ⟨vs, H1, I1, r, its, q, hc⟩ => ⟨I1.kIn, ?_⟩) he hpl
  have r2 : Vals (vs ++ dvs) (us ++ ds) := r.append hd
  have hl2 : (us ++ ds).length = ps.length := by rw [← r2.length]; exact F.len _ _ _ q
  refine wpAny_call (codeAny_mono (F.run X.A X.stack s1 H1 ⟨us, []⟩ (us ++ ds) (vs ++ dvs) its hr I1.env0 (hb s1 us I1.kIn hl2) r2 q) fun r s' hq => ?_)
  cases r with
  | error e => exact False.elim hq
  | ok fl =>
    cases fl with
    | ret u => exact ⟨H1, s1, its, I1, hq, hc⟩
    | next => exact False.elim hq
    | brk => exact False.elim hq
    | cont => exact False.elim hq
/-- list(g), by the kit's rule -/
theorem pgen_of {e : Expr} {tg : TGY} {E : XK} (h : PGY X k e tg) : PGen X k e (fun σ H cont => tg σ H fun its H1 => its.length < sizeLine ∧ ∀ ys H', Kp H1 H' → Out its ys H' → ys.length = its.length → cont ys H') E := by
  refine ⟨fun pins s σ H cont I hq => thn (h.run pins s σ H _ I hq) fun u s' ⟨H1, sc, its, I1, hG, hl, hc⟩ => ⟨H1, sc, [], I1, .nil, ?_⟩⟩
  exact made_of I1.env0 hl hG hc
end
/-! ### for -/
def tForY (tg : TGY) (g : TG) (tb : TS) : TS := fun D σ H => tg σ H fun its H1 => ∃ Pv : Nat → L2.St → Hp → Prop, (∀ H2, Kp H1 H2 → Pv 0 σ H2) ∧
  (∀ i p σ H x Hy Hx, its[i]? = some p → Pv i σ H → KpN H Hx → p x Hy → Kp Hy Hx → g x σ Hx fun σ2 H2 => tb { D with nx := fun σ' H' => Kp Hx H' ∧ Pv (i + 1) σ' H', ct := fun σ' H' => Kp Hx H' ∧ Pv (i + 1) σ' H', bk := D.nx } σ2 H2) ∧
  ∀ σ H Hx, Pv its.length σ H → KpN H Hx → D.nx σ Hx
section
variable {X : Cx} {k : Nat}
theorem ps_forY {iter tgt : Expr} {body : List Stmt} {tg : TGY} {g : TG} {tb : TS} {pos : Pos} (hr : Room (k + 1) X.A) (hc : X.calm = true) (hi : PGY X k iter tg) (hg : PG (cold X) tgt g) (hb : PSs (cold X) body tb)
    (hs : ∀ x, foldedSetIterable iter X.env x = pure x := by intro _; rfl) : PS X (.For tgt iter body [] pos) (tForY tg g tb) := by
  refine ⟨fun pins s σ H D I h => ?_⟩
  refine wpAny_For (thn (hi.run pins s σ H _ I h) fun v s1 h1 => ?_) hs
  obtain ⟨H1, sc, its, I1, ⟨a, gn, go, env, c, σ0, rfl, hL, ha1, ha2, hcl, hgo, hgen, hgd, hgs, hos, hba, hlim, hkp, wake⟩, Pv, pv0, step, fin⟩ := h1
  refine wpAny_pyIter_gen (hgen _ hgo) ?_
  have hrw : Room k X.A.in1 := ⟨hr.hd, by have := hr.dp; show X.A.depth + 3 * k + 5 < _; omega, by have := hr.un; show X.A.units + 1 + 16 * k + 200 < _; omega⟩
  obtain ⟨Y, rfl, hout, hprog, hw, hpn, hbase, still, asl, run⟩ := wake X.A.in1 hrw I1.ok.frames
  have run := run (its.length + 1) (Nat.lt_succ_self _)
  have hY : frs Y.outer = frs X.stack := by rw [hout]
  have fsl : ∀ b ∈ frs X.stack, b < Y.env.locals := fun b hb => by
    obtain ⟨_, o, e, _⟩ := I1.stack.mem hb
    rw [hL]; exact Heap.lt_size e
  have hstat : X.s_0.heap.objs.size ≤ Y.env.locals ∧ X.env.locals < Y.env.locals ∧ (∀ x c, X.env.cells.lookup x = some c → c < Y.env.locals) ∧ ∀ p ∈ X.pn ++ pins, p.1 < Y.env.locals := by
    rw [hL]
    refine ⟨I1.sz, I1.lt, fun x c e => ?_, fun p hp => Heap.lt_size (I1.pin p hp).1⟩
    obtain ⟨v, ob, q, _⟩ := I1.cell x c e
    exact Heap.lt_size q
  have aL : Y.env.locals < a := by rw [hL]; exact ha1
  have afs : a ∉ X.fs := fun hm => by
    have : a ∈ frs X.stack := by
      rcases I1.ok.stk with e | ⟨e, hf⟩
      · rw [e]; exact hm
      · rw [e]; unfold frs; rw [List.filterMap_cons, hf]; exact List.mem_cons_of_mem _ hm
    exact absurd (fsl a this) (Nat.not_lt.mpr (Nat.le_of_lt aL))
  -- what holds between the turns
  let Z : Nat → Shared → Prop := fun m s => ∃ (i : Nat) (σ : L2.St) (Hc H1 : Hp) (ip : List (Addr × Obj)) (σg : L2.St) (gs : GenState), m + i = its.length ∧ Inv X (pins ++ [(a, go)]) σ Hc s ∧ s.gens[gn]? = some gs ∧ (∀ b ∈ ownOf Y ip, ∃ o, s.heap.get? b = some o ∧ Hc b = some (.ext fun h' => h'.get? b = some o)) ∧
    Asleep Y ip σg s.heap ∧ (∀ q ∈ ip, Y.env.locals ≤ q.1 ∧ q.1 ≠ a) ∧ Kp H1 (strip (ownOf Y ip) Hc) ∧
    (∀ (r : Wk) (s2 : Shared), Wf (Pq sc.heap.objs.size (its.length + 1) its) ip r → Kp H1 r.2.1 → Inv (re Y r) ip σg r.2.1 s2 → GoesG (model X.prog X.w) X.A.in1 (REF Y (FinQ (its.length + 1) its)) (YF Y (Pq sc.heap.objs.size (its.length + 1) its)) (m + 1) r gs (.send .none) s2) ∧ Pv i σ Hc
  have unpin : ∀ {σ : L2.St} {H : Hp} {s : Shared}, Inv X (pins ++ [(a, go)]) σ H s → Inv X pins σ H s := fun J => J.unpinned
  refine codeAny_forLoop_any Z (fun m s3 hz => ?_) its.length ?_
  · obtain ⟨i, σ3, Hc, Hs, ip, σg, gs, hmi, I3, hg3, own3, asl3, ip3, kp3, slp, pv3⟩ := hz
    have pinA := I3.pin (a, go) (List.mem_append_right _ (List.mem_append_right _ List.mem_cons_self))
    have hex3 : ∀ b ∈ ownOf Y ip, ∃ φ, Hc b = some (.ext φ) := fun b hb => let ⟨o, _, e⟩ := own3 b hb; ⟨_, e⟩
    have hn0 : sc.heap.objs.size ≤ s3.heap.objs.size := by
      have := Heap.lt_size pinA.1
      rw [← hL]; exact Nat.le_of_lt (Nat.lt_trans aL this)
    have bare' : AllBare (s3.setGen gn .running).gens := allBare_setGen I3.bare rfl
    have hcsz : (cut Y.env.locals s3.heap).objs.size = sc.heap.objs.size := by rw [cut_size (by rw [hL]; exact hn0), hL]
    have wf : Wf (Pq sc.heap.objs.size (its.length + 1) its) ip (wkOf Y (s3.setGen gn .running) (strip (ownOf Y ip) Hc) [(a, go)]) :=
      ⟨hcsz, fun p hp q hq => by
        rw [List.mem_singleton.mp hp]
        exact (ip3 q hq).2, fun q hq => by show sc.heap.objs.size ≤ q.1; rw [← hL]; exact (ip3 q hq).1⟩
    have IW : Inv (re Y (wkOf Y (s3.setGen gn .running) (strip (ownOf Y ip) Hc) [(a, go)])) ip σg (strip (ownOf Y ip) Hc) (s3.setGen gn .running) := by
      refine woken (s := s3.setGen gn .running) still asl3 bare' (by rw [hprog, hw]; exact strip_ok I3.hok hex3) (by rw [hbase, hout]; exact I3.stack) (fun b hb => ?_) (fun b o e => ?_) (strip_in own_loc) (fun x c e => strip_in (own_cell e)) (fun p hp => ?_) fun p hp => ?_
      · have hb : b ∈ frs X.stack := by rw [← hY]; exact hb
        exact ⟨fsl b hb, strip_none (I3.stkFree b hb)⟩
      · rw [hbase] at e
        obtain ⟨q1, q2⟩ := I3.bs b o e
        exact ⟨q1, strip_none q2⟩
      · rw [hpn] at hp
        exact strip_in (own_ip hp)
      · rw [List.mem_singleton.mp hp]
        refine ⟨pinA.1, strip_none pinA.2.1, Nat.ne_of_gt aL, fun hm => ?_, hgd⟩
        have hm : a ∈ frs X.stack := by rw [← hY]; exact hm
        exact absurd (fsl a hm) (Nat.not_lt.mpr (Nat.le_of_lt aL))
    have hgo3 := slp (wkOf Y (s3.setGen gn .running) (strip (ownOf Y ip) Hc) [(a, go)]) (s3.setGen gn .running) wf kp3 IW
    have hgl : gn < s3.gens.size := (Array.getElem?_eq_some_iff.mp hg3).1
    refine wpAny_gsz (n := gn + 1) hgl (next_gG (A := X.A) (I3.ok.hd hc) I3.nolimit (by have := hr.dp; omega) (hgen _ pinA.1) hg3 (F := FinF Y (FinQ (its.length + 1) its)) hgo3 (fun v s4 gs' hb4 hs4 hy => ?_) fun s4 hf h' hk' => ?_)
    · intro hsz
      obtain ⟨x, ip', σ', H4, rv, wf', I4, ⟨kp4, i', p, hi', hp, hpx⟩, hw4⟩ := hy
      have ei : i' = i := by
        have hi' : (m + 1 - 1) + 1 + i' = its.length + 1 := hi'
        omega
      subst ei
      have hil : i' < its.length := (List.getElem?_eq_some_iff.mp hp).1
      obtain ⟨m', rfl⟩ : ∃ m', m = m' + 1 := ⟨m - 1, by omega⟩
      have pA4 := I4.pin (a, go) (List.mem_append_left _ (show _ ∈ Y.pn ++ [(a, go)] from List.mem_append_right _ List.mem_cons_self))
      have hsz4 : gn < s4.gens.size := by
        have q : (s4.setGen gn gs').gens.size = s4.gens.size := setGen_size _ _ _
        have hsz' : gn + 1 ≤ (s4.setGen gn gs').gens.size := hsz
        omega
      have own4 : ∀ b ∈ ownOf Y ip', Y.env.locals ≤ b ∧ H4 b = none ∧ b ∉ [(a, go)].map (·.1) := fun b hb => by
        rcases own_cases hb with e | ⟨x, e⟩ | ⟨q, hq, e⟩
        · rw [e]; exact ⟨Nat.le_refl _, I4.free, by simp; exact Nat.ne_of_lt aL⟩
        · exact ⟨still.cab x b e, I4.freeC x b e, by simp; exact Nat.ne_of_lt (hcl x b e).2⟩
        · subst e
          refine ⟨by rw [hL]; exact wf'.2.2 q hq, (I4.pin q (List.mem_append_right _ hq)).2.1, ?_⟩
          simp
          exact wf'.2.1 (a, go) List.mem_cons_self q hq
      have U4 : Un (frs X.stack) [] (strip (ownOf Y ip) Hc) H4 (cut Y.env.locals s3.heap) s4.heap := by
        have q := I4.base
        rw [show (re Y (wkOf Y (s3.setGen gn .running) (strip (ownOf Y ip) Hc) [(a, go)])).ex = [] from still.ex, show (re Y (wkOf Y (s3.setGen gn .running) (strip (ownOf Y ip) Hc) [(a, go)])).fs = frs X.stack from hY] at q
        exact q
      have bare5 : AllBare (s4.setGen gn gs').gens := allBare_setGen I4.bare hb4
      have I5 : Inv X (pins ++ [(a, go)]) σ3 (lay (ownOf Y ip') s4.heap H4) (s4.setGen gn gs') := by
        refine turned (pins := [(a, go)]) I3 (fun b hb => strip_none hb) (fun b u e n => strip_n hex3 e n) U4 (by have q := I4.hok; rw [show (re Y (wkOf Y (s3.setGen gn .running) (strip (ownOf Y ip) Hc) [(a, go)])).prog = X.prog from hprog, show (re Y (wkOf Y (s3.setGen gn .running) (strip (ownOf Y ip) Hc) [(a, go)])).w = X.w from hw] at q; exact q)
          I4.os rfl rfl bare5 own4 fsl (fun p hp => ?_) ⟨hstat.1, hstat.2.1, hstat.2.2.1, fun p hp => ?_⟩
        · rw [List.mem_singleton.mp hp]
          exact ⟨pinA.1, pA4.1, pA4.2.1⟩
        · rcases List.mem_append.mp hp with z | z
          · exact .inl (hstat.2.2.2 p (List.mem_append_left _ z))
          · rcases List.mem_append.mp z with z | z
            · exact .inl (hstat.2.2.2 p (List.mem_append_right _ z))
            · rw [List.mem_singleton.mp z]; exact .inr (by simp)
      have oat : ∀ b ∈ ownOf Y ip', ∃ o, s4.heap.get? b = some o := fun b hb => by
        rcases own_cases hb with e | ⟨x, e⟩ | ⟨q, hq, e⟩
        · rw [e]
          obtain ⟨_, ⟨o, _, _, z, _⟩, _⟩ := I4.loc
          exact ⟨o, z⟩
        · obtain ⟨_, o, z, _⟩ := I4.cell x b e
          exact ⟨o, z⟩
        · subst e
          exact ⟨_, (I4.pin q (List.mem_append_right _ hq)).1⟩
      obtain ⟨og, nm, qn, ogo, ogc, ogd, _⟩ := hgen _ pA4.1
      refine go_of (s := s4.setGen gn gs') (n := "generator") ogo ogc ogd (by decide) ?_
      have kpx : KpN Hc (lay (ownOf Y ip') s4.heap H4) := fun b u e n => lay_keep (fun b hb => (own4 b hb).2.1) (kp4 b u (strip_n hex3 e n))
      have kpy : Kp H4 (lay (ownOf Y ip') s4.heap H4) := fun b u e => lay_keep (fun b hb => (own4 b hb).2.1) e
      have hlull : ∀ {pl : List (Addr × Obj)} {σ : L2.St} {H : Hp} {s : Shared}, Inv X pl σ H s → Inv (cold X) pl σ H (lull s) := fun J => inv_gens (to_cold J) rfl rfl (bare_lull J.bare)
      have hwake : ∀ {pl : List (Addr × Obj)} {σ : L2.St} {H : Hp} {s s1 : Shared}, AllBare s.gens → Inv (cold X) pl σ H s1 → Inv X pl σ H (put (back s) s1) := fun b J => inv_gens (of_cold J) rfl rfl (bare_put b J.bare)
      refine wpAny_mono (wpAny_lull (hg.run _ (lull (s4.setGen gn gs')) σ3 _ x v _ (hlull I5) rv (step i' p σ3 Hc x H4 _ hp pv3 kpx hpx kpy))) (fun _ s6 ⟨s6', e6, f6, σ6, H6, I6, q6⟩ => ?_) fun _ s' ⟨s1, _, _, z⟩ => z.elim
      subst e6
      have I6' := hwake bare5 I6
      have hg6 : (put (back (s4.setGen gn gs')) s6').gens[gn]? = some gs' := back_at (setGen_at hsz4) hs4 f6
      refine wpAny_mono (wpAny_lull (hb.run _ (lull (put (back (s4.setGen gn gs')) s6')) σ6 H6 _ (hlull I6') q6)) (fun f s7 ⟨s7', e7, f7, q7⟩ => ?_) fun _ s' ⟨s1, _, _, z⟩ => z.elim
      subst e7
      have again : ∀ {σ7 : L2.St} {H7 : Hp}, Inv (cold X) (pins ++ [(a, go)]) σ7 H7 s7' → Kp (lay (ownOf Y ip') s4.heap H4) H7 ∧ Pv (i' + 1) σ7 H7 → ∃ m, m < m' + 1 ∧ Z m (put (back (put (back (s4.setGen gn gs')) s6')) s7') := fun {σ7 H7} J ⟨kp7, pv7⟩ => by
        have I7 := hwake I6'.bare J
        have own7 : ∀ b ∈ ownOf Y ip', ∀ o, s4.heap.get? b = some o → H7 b = some (.ext fun h' => h'.get? b = some o) ∧ s7'.heap.get? b = some o := fun b hb o e => by
          have z := kp7 b _ (lay_at hb e)
          exact ⟨z, (J.hok b _ z).1⟩
        refine ⟨m', Nat.lt_succ_self _, i' + 1, σ7, H7, H4, ip', σ', gs', by omega, I7, back_at hg6 hs4 f7, fun b hb => ?_, ?_, fun q hq => ⟨by rw [hL]; exact wf'.2.2 q hq, wf'.2.1 (a, go) List.mem_cons_self q hq⟩, fun b u e => ?_, fun r' s2 z1 z2 z3 => hw4 r' s2 z1 z2 z3, pv7⟩
        · obtain ⟨o, e⟩ := oat b hb
          obtain ⟨z1, z2⟩ := own7 b hb o e
          exact ⟨o, z2, z1⟩
        · exact (Asleep.of I4).same hpn fun b hb o e => (own7 b hb o e).2
        · have hbo : b ∉ ownOf Y ip' := fun hb => by rw [(own4 b hb).2.1] at e; cases e
          rw [strip_out hbo]
          exact kp7 b u (kpy b u e)
      cases f with
      | next => obtain ⟨σ7, H7, J, n7⟩ := q7; exact again J n7
      | cont => obtain ⟨σ7, H7, J, n7⟩ := q7; exact again J n7
      | brk => obtain ⟨σ7, H7, J, n7⟩ := q7; exact ⟨σ7, H7, unpin (hwake I6'.bare J), n7⟩
      | ret u => obtain ⟨y, σ7, H7, J, rv7, n7⟩ := q7; exact ⟨y, σ7, H7, unpin (hwake I6'.bare J), rv7, n7⟩
    · intro hsz
      obtain ⟨ip', σ', H4, I4, hlen, kp4⟩ := hf
      have hmi' : i = its.length := by
        have hlen : (m + 1) + its.length = its.length + 1 := hlen
        omega
      subst hmi'
      have U4 : Un (frs X.stack) [] (strip (ownOf Y ip) Hc) H4 (cut Y.env.locals s3.heap) h' := by
        have q := I4.base
        rw [show (re Y (wkOf Y (s3.setGen gn .running) (strip (ownOf Y ip) Hc) [(a, go)])).ex = [] from still.ex, show (re Y (wkOf Y (s3.setGen gn .running) (strip (ownOf Y ip) Hc) [(a, go)])).fs = frs X.stack from hY] at q
        exact q.trans (Un.kept hk')
      have hok4 : HOk X.prog X.w H4 h' := by
        have q := I4.hok
        rw [show (re Y (wkOf Y (s3.setGen gn .running) (strip (ownOf Y ip) Hc) [(a, go)])).prog = X.prog from hprog, show (re Y (wkOf Y (s3.setGen gn .running) (strip (ownOf Y ip) Hc) [(a, go)])).w = X.w from hw] at q
        exact q.kept hk'
      have I5 : Inv X pins σ3 (lay [] h' H4) { s4.setGen gn .finished with heap := h' } := by
        refine turned (pins := []) (s1 := { s4 with heap := h' }) (unpin I3) (fun b hb => strip_none hb) (fun b u e n => strip_n hex3 e n) U4 hok4 I4.os rfl rfl (allBare_setGen I4.bare rfl) (fun b hb => by simp at hb) fsl (fun p hp => by simp at hp) ⟨hstat.1, hstat.2.1, hstat.2.2.1, fun p hp => .inl (hstat.2.2.2 p hp)⟩
      have el : lay [] h' H4 = H4 := by funext b; exact lay_no (by simp)
      rw [el] at I5
      exact wpAny_execs_nil ⟨σ3, H4, I5, fin σ3 Hc H4 pv3 fun b u e n => kp4 b u (strip_n hex3 e n)⟩
  · have own0 : ∀ b ∈ ownOf Y [], Y.env.locals ≤ b ∧ H1 b = none ∧ b ≠ a ∧ ∃ o, s1.heap.get? b = some o := fun b hb => by
      rcases own_cases hb with e | ⟨x, e⟩ | ⟨q, hq, e⟩
      · rw [e]
        refine ⟨Nat.le_refl _, I1.hok.fresh (Nat.le_of_eq hL.symm), Nat.ne_of_lt aL, ?_⟩
        obtain ⟨_, ⟨o, _, _, z, _⟩, _⟩ := asl.loc
        exact ⟨o, z⟩
      · refine ⟨still.cab x b e, I1.hok.fresh (hcl x b e).1, Nat.ne_of_lt (hcl x b e).2, ?_⟩
        obtain ⟨_, o, z, _⟩ := asl.cell x b e
        exact ⟨o, z⟩
      · simp at hq
    have an : H1 a = none := I1.hok.fresh (Nat.le_of_lt ha1)
    have aown : a ∉ ownOf Y [] := fun hm => (own0 a hm).2.2.1 rfl
    have J : Inv X pins σ (lay (ownOf Y []) s1.heap H1) s1 := by
      refine turned (pins := []) (Hg := H1) (s1 := s1) I1 (fun b hb => hb) (fun b u e n => e) (Un.kept (h := cut Y.env.locals sc.heap) fun b o e => hkp b o (cut_some e).2) (I1.hok.kept hkp) hos rfl rfl hba (fun b hb => ⟨(own0 b hb).1, (own0 b hb).2.1, by simp⟩) fsl (fun p hp => by simp at hp) ⟨hstat.1, hstat.2.1, hstat.2.2.1, fun p hp => .inl (hstat.2.2.2 p hp)⟩
    refine ⟨0, σ, lay (ownOf Y []) s1.heap H1, H1, [], σ0, .fresh c, rfl, J.pins_of fun p hp => ?_, hgs, fun b hb => ?_, asl, fun q hq => by simp at hq, fun b u e => ?_, fun r s2 z1 z2 z3 => ⟨rfl, by rw [← hprog, ← hw] at run ⊢; exact run r s2 z1 z2 z3⟩, pv0 _ fun b u e => ?_⟩
    · rcases List.mem_append.mp hp with z | z
      · exact J.pin p (List.mem_append_right _ z)
      · rw [List.mem_singleton.mp z]
        exact ⟨hgo, (lay_no aown).trans an, Nat.ne_of_gt (Nat.lt_trans hstat.2.1 aL), afs, hgd⟩
    · obtain ⟨_, _, _, o, e⟩ := own0 b hb
      exact ⟨o, e, lay_at hb e⟩
    · have hbo : b ∉ ownOf Y [] := fun hb => by rw [(own0 b hb).2.1] at e; cases e
      rw [strip_out hbo, lay_no hbo]
      exact e
    · exact lay_keep (fun b hb => (own0 b hb).2.1) e
end
end GN
set_option Elab.async false
set_option linter.all false
set_option maxRecDepth 100000
/-! generators by name; their steps -/
namespace GN
open PySem PySem.Spec PyProof.Rows L2 GenW
structure CalY (P : Program) (w : World) (K : PySem.W.Frag) (mg : Str → Option Value) (base : Heap) (k : Nat) (x : Str) (sp : SpY) (dvs : List V) : Prop where
  ex : ∃ (f : Addr) (fd : FuncData) (ps : List Str) (ds : List Value), GFY P w K mg base k f fd ps sp ∧ mg x = some (.ref f) ∧ PySem.W.keepIn K (.ref f) = true ∧ Binds K fd ps ds ∧ Vals dvs ds
theorem calY_of {P : Program} {w : World} {K : PySem.W.Frag} {mg : Str → Option Value} {base : Heap} {x : Str} {st : Stmt} {N ps : List Str} {k : Nat} {sp : SpY} (F : G.Dd K mg x st ps) (S : GScope N ps (defScope st)) (len : ∀ vs H its, sp vs H its → vs.length = ps.length)
    (hbody : ∀ (f : Addr) (cdv : Value) (A : Around) (outer : List Env) (s : Shared) (H : Hp) (vs : List V) (its : Its), Room k (A.deeper (envOfC x (defScope st) s.heap.objs.size f cdv)) → sp vs H its → ∀ top, its.length < top →
      ∃ t, GFs (gX P w K mg base N x (defScope st) f cdv A outer s) (Pq s.heap.objs.size top its) (defBody st) t ∧ ∀ H', Kp H H' → t { nx := fun n H0 _ H => FinQ top its n H0 H, rt := fun n H0 v H => v = .non ∧ FinQ top its n H0 H } top H' (start N vs) H') :
    CalY P w K mg base (k + 1) x sp [] := by
  obtain ⟨f, fd, F1, hm, b⟩ := F.ex
  have kp := F1.kp
  obtain ⟨oc, od, kV, doc, pm, an, cdv, ct, osl, rfl, lk, hcd⟩ := F1.ex
  exact ⟨f, _, ps, [], gfy_of lk hcd S len (hbody f cdv), hm, kp, b, .nil⟩
section
variable {X : Cx} {k j : Nat} {x : Str} {sp : SpY} {dvs : List V} {p pos : Pos} {e : Expr} {es : List Expr} {t : TA} {tg : TGY}
theorem pgy_c (c : CalY X.prog X.w X.K X.mg X.base k x sp dvs) (hr : Room j X.A) (hk : k ≤ j) (hg : Gl X x) (ha : PA X (e :: es) t)
    (hdb : (x == ("__debug__" : Str)) = false := by decide) (he : starEach (e :: es) X.env = (false, eval e X.env) :: starEach es X.env := by rfl) (hpl : (backTo pos (starEach es X.env)).any (·.1) = false := by rfl) :
    PGY X k (.Call (.Name x p) (e :: es) [] pos) (tCallY sp dvs t) := by
  obtain ⟨f, fd, ps, ds, F, hm, kp, b, d⟩ := c.ex
  exact pgy_call F (hr.mono hk) hg hm kp b d ha hdb he hpl
def tListY (tg : TGY) : TE := fun σ H Q => tg σ H fun its H2 => its.length < sizeLine ∧ ∀ ys H', Kp H2 H' → Out its ys H' → ys.length = its.length → ∀ p, H' p = none → Q (.ref p) (upd H' p (.lst ys))
theorem pe_listY {p2 pos2 : Pos} (h : PGY X k e tg) (hr : Room j X.A) (hk : k + 3 ≤ j) (hg : Gl X "list") (hm : X.mg "list" = none) (he : starEach [e] X.env = (false, eval e X.env) :: starEach [] X.env := by rfl) :
    PE X (.Call (.Name "list" p2) [e] [] pos2) (tListY tg) := by
  have r := pe_listG (p := p2) (pos := pos2) (E := fun _ _ _ => False) (pgen_of h) (fun pins σ H1 sc e s' I c => ?_) (fun _ _ _ z => z.elim) (hr.mono hk) hg hm (by decide +kernel) (by decide) (by decide) he
  · refine ⟨fun pins s σ H Q I q => r.run pins s σ H Q I ?_⟩
    exact q
  · obtain ⟨_, _, _, _, _, _, _, _, _, _, _, _, z⟩ := c
    exact z.elim
end
theorem i_forY {tg : TGY} {g : TG} {tb : TS} {D : Ends} {σ : L2.St} {H : Hp} (q : tg σ H fun its H1 => ∃ Pv : Nat → L2.St → Hp → Prop, (∀ H2, Kp H1 H2 → Pv 0 σ H2) ∧
  (∀ i p σ H x Hy Hx, its[i]? = some p → Pv i σ H → KpN H Hx → p x Hy → Kp Hy Hx → g x σ Hx fun σ2 H2 => tb { D with nx := fun σ' H' => Kp Hx H' ∧ Pv (i + 1) σ' H', ct := fun σ' H' => Kp Hx H' ∧ Pv (i + 1) σ' H', bk := D.nx } σ2 H2) ∧
  ∀ σ H Hx, Pv its.length σ H → KpN H Hx → D.nx σ Hx) : tForY tg g tb D σ H := q
theorem i_callY {sp : SpY} {dvs : List V} {t : TA} {σ : L2.St} {H : Hp} {cont : Its → Hp → Prop} (q : t σ H fun vs H1 => ∃ its, sp (vs ++ dvs) H1 its ∧ cont its H1) : tCallY sp dvs t σ H cont := q
theorem i_listY {tg : TGY} {σ : L2.St} {H : Hp} {Q : VK} (q : tg σ H fun its H2 => its.length < sizeLine ∧ ∀ ys H', Kp H2 H' → Out its ys H' → ys.length = its.length → ∀ p, H' p = none → Q (.ref p) (upd H' p (.lst ys))) : tListY tg σ H Q := q
/-! steps in a generator -/
theorem i_yp {n0 top n : Nat} {its : Its} {x : V} {H0 H : Hp} (k : Kp H0 H) (h : ∃ i p, n + 1 + i = top ∧ its[i]? = some p ∧ p x H) : (Pq n0 top its).yp n x H0 H := ⟨k, h⟩
theorem i_fThen {t u : TGf} {D : GDs} {n : Nat} {H0 : Hp} {σ : L2.St} {H : Hp} (q : t { D with nx := fun n' H0' σ' H' => u D n' H0' σ' H' } n H0 σ H) : tFThen t u D n H0 σ H := q
theorem i_f0 {D : GDs} {n : Nat} {H0 : Hp} {σ : L2.St} {H : Hp} (q : D.nx n H0 σ H) : tF0 D n H0 σ H := q
theorem i_fYield {P : Pr} {te : TE} {D : GDs} {m : Nat} {H0 : Hp} {σ : L2.St} {H : Hp} (q : te σ H fun x H1 => P.yp m x H0 H1 ∧ ∀ H2, P.wk m H1 H2 → D.nx m H2 σ H2) : tFYield P te D (m + 1) H0 σ H := ⟨m, rfl, q⟩
theorem i_fFor {wi : TI} {g : TG} {tb : TGf} {D : GDs} {n : Nat} {H0 : Hp} {σ : L2.St} {H : Hp} (q : wi σ H fun J H1 => ∃ W : Nat → Nat → GN1, (∃ m, W 0 m n H0 σ H1) ∧ ∀ i m n H0 σ H, W i m n H0 σ H →
  (J.stop i H ∧ D.nx n H0 σ H) ∨ (J.go i H ∧ ∃ N : GN1, (∀ n' H0' σ' H', N n' H0' σ' H' → ∃ m', m' < m ∧ W (i + 1) m' n' H0' σ' H') ∧ ∀ x H', J.yld i H x H' → g x σ H' fun σ2 H2 => tb { D with nx := N, ct := N, bk := D.nx } n H0 σ2 H2)) : tFFor wi g tb D n H0 σ H := q
section
variable {K : PySem.W.Frag} {g : TG} {tb : TGf} {D : GDs} {n : Nat} {H0 : Hp} {σ : L2.St} {H : Hp}
theorem gfor_range {lo : Int} {len : Nat} (Pv : Nat → GN1) (h0 : Pv 0 n H0 σ H)
    (hs : ∀ i n H0 σ H, i < len → Pv i n H0 σ H → g (.int (lo + i)) σ H fun σ2 H2 => tb { D with nx := Pv (i + 1), ct := Pv (i + 1), bk := D.nx } n H0 σ2 H2) (hd : ∀ n H0 σ H, Pv len n H0 σ H → D.nx n H0 σ H) :
    ∃ W : Nat → Nat → GN1, (∃ m, W 0 m n H0 σ H) ∧ ∀ i m n H0 σ H, W i m n H0 σ H →
      ((Itr lo len).stop i H ∧ D.nx n H0 σ H) ∨ ((Itr lo len).go i H ∧ ∃ N : GN1, (∀ n' H0' σ' H', N n' H0' σ' H' → ∃ m', m' < m ∧ W (i + 1) m' n' H0' σ' H') ∧ ∀ x H', (Itr lo len).yld i H x H' → g x σ H' fun σ2 H2 => tb { D with nx := N, ct := N, bk := D.nx } n H0 σ2 H2) := by
  refine ⟨fun i m n H0 σ H => m = len - i ∧ i ≤ len ∧ Pv i n H0 σ H, ⟨len, by simp, Nat.zero_le _, h0⟩, ?_⟩
  rintro i m n H0 σ H ⟨rfl, hi, p⟩
  by_cases hlt : i < len
  · refine .inr ⟨hlt, Pv (i + 1), fun n' H0' σ' H' p' => ⟨len - (i + 1), by omega, rfl, hlt, p'⟩, fun x H' y => ?_⟩
    obtain ⟨e, y⟩ := y
    subst e y
    exact hs i n H0 σ _ hlt p
  · have e : i = len := by omega
    subst e
    exact .inl ⟨Nat.le_refl _, hd n H0 σ H p⟩
theorem gfor_list {a : Addr} {xs : List V} (Pv : Nat → GN1) (h0 : Pv 0 n H0 σ H) (hl : ∀ i n H0 σ H, i ≤ xs.length → Pv i n H0 σ H → SqL K H a xs)
    (hs : ∀ i x n H0 σ H, xs[i]? = some x → Pv i n H0 σ H → g x σ H fun σ2 H2 => tb { D with nx := Pv (i + 1), ct := Pv (i + 1), bk := D.nx } n H0 σ2 H2) (hd : ∀ n H0 σ H, Pv xs.length n H0 σ H → D.nx n H0 σ H) :
    ∃ W : Nat → Nat → GN1, (∃ m, W 0 m n H0 σ H) ∧ ∀ i m n H0 σ H, W i m n H0 σ H →
      ((Itl K a).stop i H ∧ D.nx n H0 σ H) ∨ ((Itl K a).go i H ∧ ∃ N : GN1, (∀ n' H0' σ' H', N n' H0' σ' H' → ∃ m', m' < m ∧ W (i + 1) m' n' H0' σ' H') ∧ ∀ x H', (Itl K a).yld i H x H' → g x σ H' fun σ2 H2 => tb { D with nx := N, ct := N, bk := D.nx } n H0 σ2 H2) := by
  refine ⟨fun i m n H0 σ H => m = xs.length - i ∧ i ≤ xs.length ∧ Pv i n H0 σ H, ⟨xs.length, by simp, Nat.zero_le _, h0⟩, ?_⟩
  rintro i m n H0 σ H ⟨rfl, hi, p⟩
  have q := hl i n H0 σ H hi p
  by_cases hlt : i < xs.length
  · refine .inr ⟨⟨xs, xs[i], q, by simp [hlt]⟩, Pv (i + 1), fun n' H0' σ' H' p' => ⟨xs.length - (i + 1), by omega, rfl, hlt, p'⟩, fun x H' y => ?_⟩
    obtain ⟨e, y⟩ := y
    subst e
    exact hs i x n H0 σ _ (y xs q) p
  · have e : i = xs.length := by omega
    subst e
    exact .inl ⟨⟨xs, q, Nat.le_refl _⟩, hd n H0 σ H p⟩
end
end GN
namespace K
open PySem PySem.Spec PyProof.Rows L2 G TL
local macro_rules | `(tactic| walk_at "side") => `(tactic| focus (first | assumption | exact rfl | omega | decide))
local macro_rules | `(tactic| walk_at "ty") => `(tactic| focus (first | exact .base (.str _) | exact .base (.int _) | exact .base (.bl _) | exact .base .non | exact .base (.lst (by assumption)) | exact .base (.tup (by assumption)) | exact .base (.dK (by assumption)) | assumption))
local macro_rules | `(tactic| walk_at "kt") => `(tactic| focus (with_reducible first | exact kt_NoneType_str | exact kt_NoneType_int | exact kt_NoneType_bool | exact kt_NoneType_tuple | exact kt_NoneType_list | exact kt_NoneType_dict | exact kt_bool_str | exact kt_bool_int | exact kt_bool_bool | exact kt_bool_tuple | exact kt_bool_list | exact kt_bool_dict | exact kt_int_str | exact kt_int_int | exact kt_int_bool | exact kt_int_tuple | exact kt_int_list | exact kt_int_dict | exact kt_str_str | exact kt_str_int | exact kt_str_bool | exact kt_str_tuple | exact kt_str_list | exact kt_str_dict | exact kt_list_str | exact kt_list_int | exact kt_list_bool | exact kt_list_tuple | exact kt_list_list | exact kt_list_dict | exact kt_tuple_str | exact kt_tuple_int | exact kt_tuple_bool | exact kt_tuple_tuple | exact kt_tuple_list | exact kt_tuple_dict | exact kt_dict_str | exact kt_dict_int | exact kt_dict_bool | exact kt_dict_tuple | exact kt_dict_list | exact kt_dict_dict | assumption))
local macro_rules | `(tactic| walk_at "1") => `(tactic| first
  | (with_reducible refine i_seq ?_)
  | (with_reducible refine iteT ?_)
  | (with_reducible refine iteF ?_)
  | (with_reducible refine iteNF ?_)
  | (with_reducible refine iteNT ?_)
  | (with_reducible refine i_asg ?_)
  | (with_reducible refine i_op ?_)
  | (with_reducible refine i_c ?_)
  | ((with_reducible apply i_var); (exact rfl))
  | (with_reducible refine i_cb ?_)
  | (with_reducible refine i_cons ?_)
  | (with_reducible refine i_nil ?_)
  | (with_reducible refine i_test ?_)
  | (with_reducible refine i_b ?_)
  | (with_reducible refine i_bl ?_)
  | (with_reducible refine i_name ?_)
  | (with_reducible refine i_ifS ?_)
  | (with_reducible refine i_next ?_)
  | (with_reducible refine i_ret ?_)
  | (with_reducible refine i_drop ?_)
  | (with_reducible refine i_lst ?_)
  | (with_reducible refine i_tup ?_)
  | (with_reducible refine i_and ?_)
  | (with_reducible refine i_or ?_)
  | (with_reducible refine i_not ?_)
  | (with_reducible refine i_andV ?_)
  | (with_reducible refine i_orV ?_)
  | (with_reducible refine i_notV ?_)
  | (with_reducible refine i_if ?_)
  | (with_reducible refine i_chain ?_)
  | (with_reducible refine i_un ?_)
  | (with_reducible refine i_neg ?_)
  | (with_reducible refine i_sub ?_)
  | (with_reducible refine i_sl ?_)
  | (with_reducible refine i_noP ?_)
  | (with_reducible refine i_part ?_)
  | (with_reducible refine i_int ?_)
  | (with_reducible refine i_bm ?_)
  | (with_reducible refine i_strT ?_)
  | (with_reducible refine i_yes ?_)
  | (with_reducible refine i_call ?_)
  | ((with_reducible refine i_len ?_ ?_); (focus (exact sz (by simp))))
  | (with_reducible refine i_lc ?_)
  | (with_reducible refine i_for ?_)
  | (with_reducible refine i_rng1 ?_)
  | (with_reducible refine i_rng2 ?_)
  | (with_reducible refine l_addI ?_)
  | (with_reducible refine l_subI ?_)
  | (with_reducible refine l_cmp ?_)
  | (with_reducible refine l_eqI ?_)
  | (with_reducible refine l_eqS ?_)
  | (with_reducible refine l_eqB ?_)
  | (with_reducible refine l_neI ?_)
  | (with_reducible refine l_neS ?_)
  | (with_reducible refine l_neB ?_)
  | (with_reducible refine l_isN ?_)
  | (with_reducible refine l_isNotN ?_)
  | (with_reducible refine l_isB ?_)
  | (with_reducible refine l_isNotB ?_)
  | (with_reducible refine l_intI ?_)
  | (with_reducible refine l_intB ?_)
  | (with_reducible refine l_inC ?_)
  | (refine ⟨_, _, rfl, rfl, sz (by first | omega | simp; omega), ?_⟩)
  | ((with_reducible refine l_pow ?_ ?_); (focus (exact ⟨by decide, by decide, by decide⟩)))
  | ((with_reducible refine l_mul ?_ ?_); (focus (first | assumption | exact Or.inl (Or.inl ⟨by omega, by omega⟩) | exact Or.inl (Or.inr ⟨by omega, by omega⟩))))
  | ((with_reducible refine l_div ?_ ?_); (focus (first | assumption | exact ⟨by decide, by decide⟩)))
  | ((with_reducible apply l_setL); (assumption); (exact rfl))
  | ((with_reducible refine l_mod ?_ ?_); (walk_at "side"))
  | ((with_reducible apply l_ixL); (assumption); (exact rfl))
  | ((with_reducible refine l_lenS ?_ ?_); (focus (first | assumption | exact sz (by omega) | exact sz (by simp; omega))))
  | ((with_reducible refine l_slS ?_ ?_); (focus (first | assumption | exact sz (by omega))))
  | ((with_reducible apply l_isi); (walk_at "ty"); (walk_at "kt"))
  | ((with_reducible apply l_lenL); (assumption)))
local macro_rules | `(tactic| walk_at "go") => `(tactic| repeat (walk_at "1"))
local macro_rules | `(tactic| walk_at "1") => `(tactic| first
  | (with_reducible refine i_mkS ?_)
  | (with_reducible refine i_cS ?_)
  | (with_reducible refine i_fld ?_)
  | (with_reducible refine i_sFld ?_)
  | (with_reducible refine i_tX ?_)
  | (with_reducible refine l_len2 rfl rfl ?_))
section
variable {P : Program} {w : World} {K : PySem.W.Frag} {mg : Str → Option Value} {base : Heap}
def topS (i : Nat) : Stmt := PySem.Challenge.pw_roundrules_k66_subsets.main.body.getD i (.Pass ⟨0, 0, 0, 0⟩)
abbrev s_subsets : Stmt := topS 1
theorem sc_subsets : GScope ["items", "size", "places", "place"] ["items"] (defScope s_subsets) := ⟨rfl, rfl, rfl, by decide +kernel, rfl, by decide +kernel, by decide +kernel⟩
abbrev s_choices_of : Stmt := topS 2
theorem sc_choices_of : FnScope ["count", "size", "found", "turn", "places", "place"] ["count", "size"] (defScope s_choices_of) := ⟨rfl, rfl, rfl, by decide +kernel, rfl, by decide +kernel, by decide +kernel⟩
abbrev s__law_open : Stmt := topS 4
theorem sc__law_open : FnScope ["_law_script", "_law_one"] ["_law_script"] (defScope s__law_open) := ⟨rfl, rfl, rfl, by decide +kernel, rfl, by decide +kernel, by decide +kernel⟩
abbrev s__law_draw : Stmt := topS 5
theorem sc__law_draw : FnScope ["_law_state", "_law_many", "_law_drawn", "_law_first", "_law_value"] ["_law_state", "_law_many"] (defScope s__law_draw) := ⟨rfl, rfl, rfl, by decide +kernel, rfl, by decide +kernel, by decide +kernel⟩
abbrev s__law_word : Stmt := topS 6
theorem sc__law_word : FnScope ["_law_state", "_law_endings", "_law_word_here", "_law_turn"] ["_law_state", "_law_endings"] (defScope s__law_word) := ⟨rfl, rfl, rfl, by decide +kernel, rfl, by decide +kernel, by decide +kernel⟩
abbrev s__law_subsets : Stmt := topS 8
theorem sc__law_subsets : FnScope ["_law_items", "_law_found", "_law_size", "_law_rows", "_law_turn", "_law_longer", "_law_row", "_law_start", "_law_at"] ["_law_items"] (defScope s__law_subsets) := ⟨rfl, rfl, rfl, by decide +kernel, rfl, by decide +kernel, by decide +kernel⟩
abbrev s_law : Stmt := topS 10
theorem sc_law : FnScope ["_law_script", "_law_state", "_law_items", "_law_turn", "_law_kept", "_law_due", "_law_at", "_law_told"] ["_law_script"] (defScope s_law) := ⟨rfl, rfl, rfl, by decide +kernel, rfl, by decide +kernel, by decide +kernel⟩
/-- what the top has written -/
structure Tp (K : PySem.W.Frag) (mg : Str → Option Value) : Prop where
  m_int : mg "int" = none
  m_isinstance : mg "isinstance" = none
  m_len : mg "len" = none
  m_list : mg "list" = none
  m_range : mg "range" = none
  m_tuple : mg "tuple" = none
  d_subsets : Dd K mg "subsets" s_subsets ["items"]
  d_choices_of : Dd K mg "choices_of" s_choices_of ["count", "size"]
  d__law_open : Dd K mg "_law_open" s__law_open ["_law_script"]
  d__law_draw : Dd K mg "_law_draw" s__law_draw ["_law_state", "_law_many"]
  d__law_word : Dd K mg "_law_word" s__law_word ["_law_state", "_law_endings"]
  d__law_subsets : Dd K mg "_law_subsets" s__law_subsets ["_law_items"]
  d_law : Dd K mg "law" s_law ["_law_script"]
end
end K
namespace K
open PySem PySem.Spec PyProof.Rows L2 G TL
local macro_rules | `(tactic| walk_at "side") => `(tactic| focus (first | assumption | exact rfl | omega | decide))
local macro_rules | `(tactic| walk_at "ty") => `(tactic| focus (first | exact .base (.str _) | exact .base (.int _) | exact .base (.bl _) | exact .base .non | exact .base (.lst (by assumption)) | exact .base (.tup (by assumption)) | exact .base (.dK (by assumption)) | assumption))
local macro_rules | `(tactic| walk_at "kt") => `(tactic| focus (with_reducible first | exact kt_NoneType_str | exact kt_NoneType_int | exact kt_NoneType_bool | exact kt_NoneType_tuple | exact kt_NoneType_list | exact kt_NoneType_dict | exact kt_bool_str | exact kt_bool_int | exact kt_bool_bool | exact kt_bool_tuple | exact kt_bool_list | exact kt_bool_dict | exact kt_int_str | exact kt_int_int | exact kt_int_bool | exact kt_int_tuple | exact kt_int_list | exact kt_int_dict | exact kt_str_str | exact kt_str_int | exact kt_str_bool | exact kt_str_tuple | exact kt_str_list | exact kt_str_dict | exact kt_list_str | exact kt_list_int | exact kt_list_bool | exact kt_list_tuple | exact kt_list_list | exact kt_list_dict | exact kt_tuple_str | exact kt_tuple_int | exact kt_tuple_bool | exact kt_tuple_tuple | exact kt_tuple_list | exact kt_tuple_dict | exact kt_dict_str | exact kt_dict_int | exact kt_dict_bool | exact kt_dict_tuple | exact kt_dict_list | exact kt_dict_dict | assumption))
local macro_rules | `(tactic| walk_at "1") => `(tactic| first
  | (with_reducible refine i_seq ?_)
  | (with_reducible refine iteT ?_)
  | (with_reducible refine iteF ?_)
  | (with_reducible refine iteNF ?_)
  | (with_reducible refine iteNT ?_)
  | (with_reducible refine i_asg ?_)
  | (with_reducible refine i_op ?_)
  | (with_reducible refine i_c ?_)
  | ((with_reducible apply i_var); (exact rfl))
  | (with_reducible refine i_cb ?_)
  | (with_reducible refine i_cons ?_)
  | (with_reducible refine i_nil ?_)
  | (with_reducible refine i_test ?_)
  | (with_reducible refine i_b ?_)
  | (with_reducible refine i_bl ?_)
  | (with_reducible refine i_name ?_)
  | (with_reducible refine i_ifS ?_)
  | (with_reducible refine i_next ?_)
  | (with_reducible refine i_ret ?_)
  | (with_reducible refine i_drop ?_)
  | (with_reducible refine i_lst ?_)
  | (with_reducible refine i_tup ?_)
  | (with_reducible refine i_and ?_)
  | (with_reducible refine i_or ?_)
  | (with_reducible refine i_not ?_)
  | (with_reducible refine i_andV ?_)
  | (with_reducible refine i_orV ?_)
  | (with_reducible refine i_notV ?_)
  | (with_reducible refine i_if ?_)
  | (with_reducible refine i_chain ?_)
  | (with_reducible refine i_un ?_)
  | (with_reducible refine i_neg ?_)
  | (with_reducible refine i_sub ?_)
  | (with_reducible refine i_sl ?_)
  | (with_reducible refine i_noP ?_)
  | (with_reducible refine i_part ?_)
  | (with_reducible refine i_int ?_)
  | (with_reducible refine i_bm ?_)
  | (with_reducible refine i_strT ?_)
  | (with_reducible refine i_yes ?_)
  | (with_reducible refine i_call ?_)
  | ((with_reducible refine i_len ?_ ?_); (focus (exact sz (by simp))))
  | (with_reducible refine i_lc ?_)
  | (with_reducible refine i_for ?_)
  | (with_reducible refine i_rng1 ?_)
  | (with_reducible refine i_rng2 ?_)
  | (with_reducible refine l_addI ?_)
  | (with_reducible refine l_subI ?_)
  | (with_reducible refine l_cmp ?_)
  | (with_reducible refine l_eqI ?_)
  | (with_reducible refine l_eqS ?_)
  | (with_reducible refine l_eqB ?_)
  | (with_reducible refine l_neI ?_)
  | (with_reducible refine l_neS ?_)
  | (with_reducible refine l_neB ?_)
  | (with_reducible refine l_isN ?_)
  | (with_reducible refine l_isNotN ?_)
  | (with_reducible refine l_isB ?_)
  | (with_reducible refine l_isNotB ?_)
  | (with_reducible refine l_intI ?_)
  | (with_reducible refine l_intB ?_)
  | (with_reducible refine l_inC ?_)
  | (refine ⟨_, _, rfl, rfl, sz (by first | omega | simp; omega), ?_⟩)
  | ((with_reducible refine l_pow ?_ ?_); (focus (exact ⟨by decide, by decide, by decide⟩)))
  | ((with_reducible refine l_mul ?_ ?_); (focus (first | assumption | exact Or.inl (Or.inl ⟨by omega, by omega⟩) | exact Or.inl (Or.inr ⟨by omega, by omega⟩))))
  | ((with_reducible refine l_div ?_ ?_); (focus (first | assumption | exact ⟨by decide, by decide⟩)))
  | ((with_reducible apply l_setL); (assumption); (exact rfl))
  | ((with_reducible refine l_mod ?_ ?_); (walk_at "side"))
  | ((with_reducible apply l_ixL); (assumption); (exact rfl))
  | ((with_reducible refine l_lenS ?_ ?_); (focus (first | assumption | exact sz (by omega) | exact sz (by simp; omega))))
  | ((with_reducible refine l_slS ?_ ?_); (focus (first | assumption | exact sz (by omega))))
  | ((with_reducible apply l_isi); (walk_at "ty"); (walk_at "kt"))
  | ((with_reducible apply l_lenL); (assumption)))
local macro_rules | `(tactic| walk_at "go") => `(tactic| repeat (walk_at "1"))
local macro_rules | `(tactic| walk_at "1") => `(tactic| first
  | (with_reducible refine i_mkS ?_)
  | (with_reducible refine i_cS ?_)
  | (with_reducible refine i_fld ?_)
  | (with_reducible refine i_sFld ?_)
  | (with_reducible refine i_tX ?_)
  | (with_reducible refine l_len2 rfl rfl ?_))
section
variable {P : Program} {w : World} {K : PySem.W.Frag} {mg : Str → Option Value} {base : Heap}
set_option maxHeartbeats 2000000 in
theorem ok_open (T : Tp K mg) : Cal P w K mg base 1 "_law_open" (spOpenL K) [] := by
  refine T.d__law_open.cal sc__law_open (fun vs H Q E h => ?_) (fun f cdv A outer s H vs Q E hr h => ?_)
  · obtain ⟨a, ns, rfl, _⟩ := h
    rfl
  · obtain ⟨a, ns, rfl, hS, hl, q⟩ := h
    have sc := sc__law_open
    refine ⟨_, 
    (pss_one (ps_ret (pe_lst (pa_cons (pe_lc (own := [("_law_one", 1)]) (by rfl) sc.nd (kIT (K := K) rfl (pe_slice (kSl (K := K) rfl) (pv 0) po_none (po_some (pe_int)))) (blkOk_by (N := ["_law_script", "_law_one"]) (sc := defScope s__law_open) (by decide +kernel)) (fun _ _ _ _ _ => pg_name (i := 1) sc.nd rfl (by first | exact Or.inl rfl | exact Or.inr rfl)) (fun _ _ _ _ _ => pts_nil) (fun _ _ _ _ _ => pe_callTy g_int (by rfl) T.m_int (by decide +kernel) (pa_cons (pv 1) pa_nil))) (pa_cons (pe_int) (pa_cons (pe_int) pa_nil)))))), ?_⟩
    try rw [cxK]
    refine i_start (τ := [some (.ref a), none]) rfl ?_
    walk_at "go"
    refine i_anyL ?_
    walk_at "go"
    refine l_slL hS (fun p hp => ?_)
    rw [cutV_map]
    generalize hzs : ((ns.drop (HT.sIx ns.length 0 none)).take (HT.sIx ns.length ns.length (some 63) - HT.sIx ns.length 0 none)) = zs
    have hp1 : upd H p (.lst (zs.map V.int)) p = some (.lst (zs.map V.int)) := upd_same
    have hzl : zs.length ≤ 63 := by
      rw [← hzs, List.length_take, List.length_drop]
      omega
    refine ⟨p, rfl, ⟨_, SqL.of hp1⟩, fun D hD => lc_list (K := K) (a := p) (xs := zs.map V.int) (fun i H' => H' p = some (.lst (zs.map V.int)) ∧ H' D = some (.lst ((zs.take i).map V.int)) ∧ Ex H H') ?_ ?_ ?_ ?_⟩
    · exact ⟨Ex.new hD _ _ hp1, upd_same, (Ex.new hp).trans (Ex.new hD)⟩
    · rintro i H' _ ⟨h1, h2, h3⟩
      exact SqL.of h1
    · rintro i x H' hx ⟨h1, h2, h3⟩
      obtain ⟨z, hz, rfl⟩ := map_at hx
      walk_at "go"
      refine ⟨rfl, ?_⟩
      walk_at "go"
      have nD : H D = none := (Ex.new hp).free hD
      have npD : p ≠ D := ne_of_none hp1 hD
      refine ⟨_, h2, szl (by rw [List.length_map, List.length_take]; omega), by rw [upd_ne npD]; exact h1, ?_, h3.mut nD⟩
      rw [upd_same, take_succ hz]
      simp
    · rintro H' ⟨h1, h2, h3⟩
      walk_at "go"
      intro st hst
      rw [List.length_map, List.take_length] at h2
      exact q st D _ (h3.free hst) ((Ex.new hp).free hD) ⟨zs, 0, 0, upd_same, Ex.new hst _ _ h2, (ne_of_none h2 hst).symm, by omega, by omega⟩ (h3.trans (Ex.new hst))
set_option maxHeartbeats 2000000 in
theorem ok_draw (T : Tp K mg) : Cal P w K mg base 1 "_law_draw" spDrawL [] := by
  refine T.d__law_draw.cal sc__law_draw (fun vs H Q E h => ?_) (fun f cdv A outer s H vs Q E hr h => ?_)
  · obtain ⟨st, L, n, b, rfl, _⟩ := h
    rfl
  · obtain ⟨st, L, n, b, rfl, hn, hn2, ⟨ns, a, c, hst, hL, hne, hc0, hcb⟩, hb, q⟩ := h
    have sc := sc__law_draw
    refine ⟨_, 
    (pss_cut (ps_if (pt_cmpR gLe (pe_ix (kIx (K := K) rfl) (pv 0) (pe_int) (fun _ _ => rfl)) (pe_int) (nomark _)) (
      (pss_cons (ps_set (i := 2) sc.nd rfl (by first | exact Or.inl rfl | exact Or.inr rfl) (pe_int))
      (pss_cut (ps_if (pt_cmpR (kNe (K := K) rfl hr) (pe_ix (kIx (K := K) rfl) (pv 0) (pe_int) (fun _ _ => rfl)) (pe_lst (pa_nil)) (nomark _)) (
        (pss_one (ps_set (i := 2) sc.nd rfl (by first | exact Or.inl rfl | exact Or.inr rfl) (pe_ix (kIx (K := K) rfl) (pe_ix (kIx (K := K) rfl) (pv 0) (pe_int) (fun _ _ => rfl)) (pe_op gMod (pe_callTy g_int (by rfl) T.m_int (by decide +kernel) (pa_cons (pe_ix (kIx (K := K) rfl) (pv 0) (pe_int) (fun _ _ => rfl)) pa_nil)) (pe_callB (kLen (K := K) rfl) (by rfl) T.m_len PySem.boot_len (pa_cons (pe_ix (kIx (K := K) rfl) (pv 0) (pe_int) (fun _ _ => rfl)) pa_nil))) (fun _ _ => rfl))))) (pss_nil))
      (pss_cons (ps_asg (pe_op (kAdd (K := K) rfl) (pe_ix (kIx (K := K) rfl) (pv 0) (pe_int) (fun _ _ => rfl)) (pe_int)) (pg_sub (pv 0) (pe_int) set_list))
      (pss_cons (ps_if (pt_cmpR gLt (pv 2) (pe_op gPow (pe_int) (pe_int)) (nomark _)) (
        (pss_cons (ps_set (i := 3) sc.nd rfl (by first | exact Or.inl rfl | exact Or.inr rfl) (pe_op gMod (pe_callTy g_int (by rfl) T.m_int (by decide +kernel) (pa_cons (pe_op (kAdd (K := K) rfl) (pe_op (kAdd (K := K) rfl) (pe_op gMul (pv 2) (pe_int)) (pe_op gMul (pe_ix (kIx (K := K) rfl) (pv 0) (pe_int) (fun _ _ => rfl)) (pe_int))) (pe_int)) pa_nil)) (pe_int)))
        (pss_one (ps_ret (pe_op gMod (pe_op gDiv (pe_op gMod (pe_callTy g_int (by rfl) T.m_int (by decide +kernel) (pa_cons (pe_op (kAdd (K := K) rfl) (pe_op gMul (pv 3) (pe_int)) (pe_op gMul (pe_op gMul (pe_ix (kIx (K := K) rfl) (pv 0) (pe_int) (fun _ _ => rfl)) (pe_ix (kIx (K := K) rfl) (pv 0) (pe_int) (fun _ _ => rfl))) (pe_int))) pa_nil)) (pe_int)) (pe_int)) (pv 1)))))) (pss_nil))
      (pss_one (ps_asg (pv 2) (pg_sub (pv 0) (pe_int) set_list)))))))) (pss_nil))
    (pss_cons (ps_set (i := 4) sc.nd rfl (by first | exact Or.inl rfl | exact Or.inr rfl) (pe_op gMod (pe_callTy g_int (by rfl) T.m_int (by decide +kernel) (pa_cons (pe_ix (kIx (K := K) rfl) (pv 0) (pe_int) (fun _ _ => rfl)) pa_nil)) (pv 1)))
    (pss_cons (ps_asg (pe_op gDiv (pe_callTy g_int (by rfl) T.m_int (by decide +kernel) (pa_cons (pe_ix (kIx (K := K) rfl) (pv 0) (pe_int) (fun _ _ => rfl)) pa_nil)) (pv 1)) (pg_sub (pv 0) (pe_int) set_list))
    (pss_one (ps_ret (pv 4)))))), ?_⟩
    try rw [cxK]
    refine i_start (τ := [some (.ref st), some (.int n), none, none, none]) rfl ?_
    refine ⟨fun σ H' => ∃ (v2 v3 v4 : Option V) (a' c' : Int), σ = [some (.ref st), some (.int n), v2, v3, v4] ∧ H' st = some (.lst [.ref L, .int a', .int c']) ∧ H' L = some (.lst (ns.map V.int)) ∧ 0 ≤ c' ∧ c' ≤ (b : Int) + 1 ∧ But st H H', ?_, ?_⟩
    · walk_at "go"
      refine i_ite (fun ha => ?_) (fun ha => ?_)
      · walk_at "go"
        refine ⟨fun σ H' => ∃ (z : Int), σ = [some (.ref st), some (.int n), some (.int z), none, none] ∧ H' st = some (.lst [.ref L, .int a, .int c]) ∧ H' L = some (.lst (ns.map V.int)) ∧ But st H H', ?_, ?_⟩
        · walk_at "go"
          intro p hp
          have hst1 : upd H p (.lst []) st = some (.lst [.ref L, .int a, .int c]) := Ex.new hp _ _ hst
          have hL1 : upd H p (.lst []) L = some (.lst (ns.map V.int)) := Ex.new hp _ _ hL
          refine l_neNil hL1 upd_same ?_
          walk_at "go"
          refine i_iteN (fun h0 => ?_) (fun h0 => ?_)
          · have hl : 0 < ((ns.map V.int).length : Int) := by
              rw [List.length_map]
              have := List.length_pos_iff.mpr h0
              omega
            walk_at "go"
            obtain ⟨z, hz⟩ := at_ints (ns := ns) (i := c % ((ns.map V.int).length : Int)) (Int.emod_nonneg _ (by omega)) (by
              have := Int.emod_lt_of_pos c hl
              rw [List.length_map] at this ⊢
              exact this)
            refine l_ixL hL1 hz ?_
            walk_at "go"
            exact ⟨z, rfl, hst1, hL1, (Ex.new hp).but⟩
          · walk_at "go"
            exact ⟨0, rfl, hst1, hL1, (Ex.new hp).but⟩
        · rintro σ H' ⟨z, rfl, h1, h2, h5⟩
          walk_at "go"
          have h1' : upd H' st (.lst [.ref L, .int a, .int (c + 1)]) st = some (.lst [.ref L, .int a, .int (c + 1)]) := upd_same
          have h2' : upd H' st (.lst [.ref L, .int a, .int (c + 1)]) L = some (.lst (ns.map V.int)) := by
            rw [upd_ne hne.symm]
            exact h2
          refine i_ite (fun hz => ?_) (fun hz => ?_)
          · walk_at "go"
            exact q _ _ (Int.emod_nonneg _ (by omega)) (Int.emod_lt_of_pos _ hn) ⟨ns, _, _, h1', h2', hne, by omega, by omega⟩ h5.mut
          · walk_at "go"
            exact ⟨_, _, _, _, _, rfl, upd_same, by rw [upd_ne hne.symm]; exact h2', by omega, by omega, h5.mut.mut⟩
      · walk_at "go"
        exact ⟨_, _, _, _, _, rfl, hst, hL, hc0, by omega, But.refl H⟩
    · rintro σ H' ⟨v2, v3, v4, a', c', rfl, h1, h2, h3, h4, h5⟩
      have hdv : CDivW a' n := wide_div (b := 64) hn (by omega) (by decide) (by decide)
      walk_at "go"
      exact q _ _ (Int.emod_nonneg _ (by omega)) (Int.emod_lt_of_pos _ hn) ⟨ns, _, _, upd_same, by rw [upd_ne hne.symm]; exact h2, hne, h3, by omega⟩ h5.mut
end
end K
namespace K
open PySem PySem.Spec PyProof.Rows L2 G TL
local macro_rules | `(tactic| walk_at "side") => `(tactic| focus (first | assumption | exact rfl | omega | decide))
local macro_rules | `(tactic| walk_at "ty") => `(tactic| focus (first | exact .base (.str _) | exact .base (.int _) | exact .base (.bl _) | exact .base .non | exact .base (.lst (by assumption)) | exact .base (.tup (by assumption)) | exact .base (.dK (by assumption)) | assumption))
local macro_rules | `(tactic| walk_at "kt") => `(tactic| focus (with_reducible first | exact kt_NoneType_str | exact kt_NoneType_int | exact kt_NoneType_bool | exact kt_NoneType_tuple | exact kt_NoneType_list | exact kt_NoneType_dict | exact kt_bool_str | exact kt_bool_int | exact kt_bool_bool | exact kt_bool_tuple | exact kt_bool_list | exact kt_bool_dict | exact kt_int_str | exact kt_int_int | exact kt_int_bool | exact kt_int_tuple | exact kt_int_list | exact kt_int_dict | exact kt_str_str | exact kt_str_int | exact kt_str_bool | exact kt_str_tuple | exact kt_str_list | exact kt_str_dict | exact kt_list_str | exact kt_list_int | exact kt_list_bool | exact kt_list_tuple | exact kt_list_list | exact kt_list_dict | exact kt_tuple_str | exact kt_tuple_int | exact kt_tuple_bool | exact kt_tuple_tuple | exact kt_tuple_list | exact kt_tuple_dict | exact kt_dict_str | exact kt_dict_int | exact kt_dict_bool | exact kt_dict_tuple | exact kt_dict_list | exact kt_dict_dict | assumption))
local macro_rules | `(tactic| walk_at "1") => `(tactic| first
  | (with_reducible refine i_seq ?_)
  | (with_reducible refine iteT ?_)
  | (with_reducible refine iteF ?_)
  | (with_reducible refine iteNF ?_)
  | (with_reducible refine iteNT ?_)
  | (with_reducible refine i_asg ?_)
  | (with_reducible refine i_op ?_)
  | (with_reducible refine i_c ?_)
  | ((with_reducible apply i_var); (exact rfl))
  | (with_reducible refine i_cb ?_)
  | (with_reducible refine i_cons ?_)
  | (with_reducible refine i_nil ?_)
  | (with_reducible refine i_test ?_)
  | (with_reducible refine i_b ?_)
  | (with_reducible refine i_bl ?_)
  | (with_reducible refine i_name ?_)
  | (with_reducible refine i_ifS ?_)
  | (with_reducible refine i_next ?_)
  | (with_reducible refine i_ret ?_)
  | (with_reducible refine i_drop ?_)
  | (with_reducible refine i_lst ?_)
  | (with_reducible refine i_tup ?_)
  | (with_reducible refine i_and ?_)
  | (with_reducible refine i_or ?_)
  | (with_reducible refine i_not ?_)
  | (with_reducible refine i_andV ?_)
  | (with_reducible refine i_orV ?_)
  | (with_reducible refine i_notV ?_)
  | (with_reducible refine i_if ?_)
  | (with_reducible refine i_chain ?_)
  | (with_reducible refine i_un ?_)
  | (with_reducible refine i_neg ?_)
  | (with_reducible refine i_sub ?_)
  | (with_reducible refine i_sl ?_)
  | (with_reducible refine i_noP ?_)
  | (with_reducible refine i_part ?_)
  | (with_reducible refine i_int ?_)
  | (with_reducible refine i_bm ?_)
  | (with_reducible refine i_strT ?_)
  | (with_reducible refine i_yes ?_)
  | (with_reducible refine i_call ?_)
  | ((with_reducible refine i_len ?_ ?_); (focus (exact sz (by simp))))
  | (with_reducible refine i_lc ?_)
  | (with_reducible refine i_for ?_)
  | (with_reducible refine i_rng1 ?_)
  | (with_reducible refine i_rng2 ?_)
  | (with_reducible refine l_addI ?_)
  | (with_reducible refine l_subI ?_)
  | (with_reducible refine l_cmp ?_)
  | (with_reducible refine l_eqI ?_)
  | (with_reducible refine l_eqS ?_)
  | (with_reducible refine l_eqB ?_)
  | (with_reducible refine l_neI ?_)
  | (with_reducible refine l_neS ?_)
  | (with_reducible refine l_neB ?_)
  | (with_reducible refine l_isN ?_)
  | (with_reducible refine l_isNotN ?_)
  | (with_reducible refine l_isB ?_)
  | (with_reducible refine l_isNotB ?_)
  | (with_reducible refine l_intI ?_)
  | (with_reducible refine l_intB ?_)
  | (with_reducible refine l_inC ?_)
  | (refine ⟨_, _, rfl, rfl, sz (by first | omega | simp; omega), ?_⟩)
  | ((with_reducible refine l_pow ?_ ?_); (focus (exact ⟨by decide, by decide, by decide⟩)))
  | ((with_reducible refine l_mul ?_ ?_); (focus (first | assumption | exact Or.inl (Or.inl ⟨by omega, by omega⟩) | exact Or.inl (Or.inr ⟨by omega, by omega⟩))))
  | ((with_reducible refine l_div ?_ ?_); (focus (first | assumption | exact ⟨by decide, by decide⟩)))
  | ((with_reducible apply l_setL); (assumption); (exact rfl))
  | ((with_reducible refine l_mod ?_ ?_); (walk_at "side"))
  | ((with_reducible apply l_ixL); (assumption); (exact rfl))
  | ((with_reducible refine l_lenS ?_ ?_); (focus (first | assumption | exact sz (by omega) | exact sz (by simp; omega))))
  | ((with_reducible refine l_slS ?_ ?_); (focus (first | assumption | exact sz (by omega))))
  | ((with_reducible apply l_isi); (walk_at "ty"); (walk_at "kt"))
  | ((with_reducible apply l_lenL); (assumption)))
local macro_rules | `(tactic| walk_at "go") => `(tactic| repeat (walk_at "1"))
local macro_rules | `(tactic| walk_at "1") => `(tactic| first
  | (with_reducible refine i_mkS ?_)
  | (with_reducible refine i_cS ?_)
  | (with_reducible refine i_fld ?_)
  | (with_reducible refine i_sFld ?_)
  | (with_reducible refine i_tX ?_)
  | (with_reducible refine l_len2 rfl rfl ?_))
section
variable {P : Program} {w : World} {K : PySem.W.Frag} {mg : Str → Option Value} {base : Heap}
def letters : Str := "abcdefghijklmnopqrstuvwxyz"
def Low (z : Str) : Prop := ∀ c ∈ tl z, c ∈ tl letters
theorem one_tl (c : Nat) : tl (⟨#[c]⟩ : Str) = [c] := rfl
theorem low_add {z : Str} {c : Nat} (h : Low z) (hc : c ∈ tl letters) : Low (z ++ ⟨#[c]⟩) := fun d hd => by
  rw [tl_append, one_tl] at hd
  rcases List.mem_append.mp hd with hd | hd
  · exact h d hd
  · rw [List.mem_singleton.mp hd]
    exact hc
theorem add_len (z : Str) (c : Nat) : (z ++ ⟨#[c]⟩ : Str).length = z.length + 1 := by
  rw [len_tl, tl_append, one_tl, List.length_append, ← len_tl]
  rfl
theorem at_in {xs : List Nat} {i : Int} (h0 : 0 ≤ i) (h1 : i < (xs.length : Int)) : ∃ c, c ∈ xs ∧ atI xs i = some c := by
  obtain ⟨j, rfl⟩ := Int.eq_ofNat_of_zero_le h0
  have hj : j < xs.length := by omega
  exact ⟨xs[j], List.getElem_mem hj, atI_nat (List.getElem?_eq_getElem hj)⟩
theorem low_sok {z : Str} (h : Low z) : PyData.strOk z = true := by
  unfold PyData.strOk
  rw [Array.all_eq_true']
  intro c hc
  have hm := h c (by show c ∈ z.cps.toList; exact Array.mem_toList_iff.mpr hc)
  have : ∀ d ∈ tl letters, d < 0x110000 := by decide +kernel
  exact decide_eq_true (this c hm)
def spWord : Sp := fun vs H Q _ => ∃ (st L : Addr) (b : Nat), vs = [.ref st, .str "abc"] ∧ Dl H st L b ∧ b < 2 ^ 59 ∧ ∀ z H', Low z → z.length ≤ 8 → Dl H' st L (b + 20) → But st H H' → Q (.str z) H'
set_option maxHeartbeats 2000000 in
theorem ok_word (T : Tp K mg) : Cal P w K mg base 2 "_law_word" spWord [] := by
  have c__law_draw : Cal P w K mg base 1 "_law_draw" spDrawL [] := ok_draw T
  refine T.d__law_word.cal sc__law_word (fun vs H Q E h => ?_) (fun f cdv A outer s H vs Q E hr h => ?_)
  · obtain ⟨st, L, b, rfl, _⟩ := h
    rfl
  · obtain ⟨st, L, b, rfl, hd, hb, q⟩ := h
    have sc := sc__law_word
    refine ⟨_, 
    (pss_cons (ps_set (i := 2) sc.nd rfl (by first | exact Or.inl rfl | exact Or.inr rfl) (pe_str))
    (pss_cons (ps_for PassesOwn.never rfl (pi_range1 (by rfl) T.m_range (pa_cons (pe_c c__law_draw hr (by decide) (by rfl) (pa_cons (pv 0) (pa_cons (pe_int) pa_nil))) pa_nil)) (pg_name (i := 3) sc.nd rfl (by first | exact Or.inl rfl | exact Or.inr rfl)) (
      (pss_one (ps_set (i := 2) sc.nd rfl (by first | exact Or.inl rfl | exact Or.inr rfl) (pe_op (kAdd (K := K) rfl) (pv 2) (pe_ix (kIx (K := K) rfl) (pe_str) (pe_c c__law_draw hr (by decide) (by rfl) (pa_cons (pv 0) (pa_cons (pe_int) pa_nil))) (fun _ _ => rfl)))))))
    (pss_one (ps_ret (pe_op (kAdd (K := K) rfl) (pv 2) (pe_ix (kIx (K := K) rfl) (pv 1) (pe_c c__law_draw hr (by decide) (by rfl) (pa_cons (pv 0) (pa_cons (pe_callB (kLen (K := K) rfl) (by rfl) T.m_len PySem.boot_len (pa_cons (pv 1) pa_nil)) pa_nil))) (fun _ _ => rfl))))))), ?_⟩
    try rw [cxK]
    refine i_start (τ := [some (.ref st), some (.str "abc"), none, none]) rfl ?_
    walk_at "go"
    refine drawL hd (by decide) (by decide) (by omega) fun r H1 r0 r1 hD1 b1 => ?_
    walk_at "go"
    refine ⟨r, rfl, by omega, by omega, ?_⟩
    obtain ⟨n, rfl⟩ := Int.eq_ofNat_of_zero_le r0
    have hn : n < 8 := by omega
    refine for_rng (fun i σ H' => ∃ (z : Str) (v3 : Option V), σ = [some (.ref st), some (.str "abc"), some (.str z), v3] ∧ Low z ∧ z.length ≤ i ∧ Dl H' st L (b + 1 + i) ∧ But st H H') ⟨"", none, rfl, (fun c hc => nomatch hc), Nat.le_refl _, hD1.up (by omega), b1⟩ ?_ ?_
    · rintro i σ J hi ⟨z, v3, rfl, hL, hl, hD, hB⟩
      have hi8 : i < 8 := by have : i < n := hi; omega
      walk_at "go"
      refine drawL hD (by decide) (by decide) (by omega) fun r' J2 r0' r1' hD2 b2 => ?_
      obtain ⟨c, hc, ec⟩ := at_in (xs := tl letters) r0' (by rw [show (tl letters).length = 26 by decide +kernel]; exact r1')
      refine l_ixS (by decide +kernel) ec ?_
      refine l_addS (sz (by rw [show ((⟨#[c]⟩ : Str)).length = 1 from rfl]; omega)) ?_
      walk_at "go"
      exact ⟨_, _, rfl, low_add hL hc, by rw [add_len]; omega, hD2.up (by omega), hB.trans b2⟩
    rintro σ J ⟨z, v3, rfl, hL, hl, hD, hB⟩
    have hl7 : z.length ≤ 7 := by have : z.length ≤ n := hl; omega
    walk_at "go"
    refine l_lenS (by decide +kernel) ?_
    walk_at "go"
    refine drawL hD (by decide +kernel) (by decide +kernel) (by have : n < 8 := hn; omega) fun r' J2 r0' r1' hD2 b2 => ?_
    obtain ⟨c, hc, ec⟩ := at_in (xs := tl ("abc" : Str)) r0' (by rw [show (tl ("abc" : Str)).length = 3 by decide +kernel]; exact r1')
    refine l_ixS (by decide +kernel) ec ?_
    refine l_addS (sz (by rw [show ((⟨#[c]⟩ : Str)).length = 1 from rfl]; omega)) ?_
    have hcl : c ∈ tl letters := (show ∀ d ∈ tl ("abc" : Str), d ∈ tl letters by decide +kernel) c hc
    exact q _ _ (low_add hL hcl) (by rw [add_len]; omega) (hD2.up (by have : n < 8 := hn; omega)) (hB.trans b2)
end
end K
namespace K
open PySem PySem.Spec PyProof.Rows L2 G TL
local macro_rules | `(tactic| walk_at "side") => `(tactic| focus (first | assumption | exact rfl | omega | decide))
local macro_rules | `(tactic| walk_at "ty") => `(tactic| focus (first | exact .base (.str _) | exact .base (.int _) | exact .base (.bl _) | exact .base .non | exact .base (.lst (by assumption)) | exact .base (.tup (by assumption)) | exact .base (.dK (by assumption)) | assumption))
local macro_rules | `(tactic| walk_at "kt") => `(tactic| focus (with_reducible first | exact kt_NoneType_str | exact kt_NoneType_int | exact kt_NoneType_bool | exact kt_NoneType_tuple | exact kt_NoneType_list | exact kt_NoneType_dict | exact kt_bool_str | exact kt_bool_int | exact kt_bool_bool | exact kt_bool_tuple | exact kt_bool_list | exact kt_bool_dict | exact kt_int_str | exact kt_int_int | exact kt_int_bool | exact kt_int_tuple | exact kt_int_list | exact kt_int_dict | exact kt_str_str | exact kt_str_int | exact kt_str_bool | exact kt_str_tuple | exact kt_str_list | exact kt_str_dict | exact kt_list_str | exact kt_list_int | exact kt_list_bool | exact kt_list_tuple | exact kt_list_list | exact kt_list_dict | exact kt_tuple_str | exact kt_tuple_int | exact kt_tuple_bool | exact kt_tuple_tuple | exact kt_tuple_list | exact kt_tuple_dict | exact kt_dict_str | exact kt_dict_int | exact kt_dict_bool | exact kt_dict_tuple | exact kt_dict_list | exact kt_dict_dict | assumption))
local macro_rules | `(tactic| walk_at "1") => `(tactic| first
  | (with_reducible refine i_seq ?_)
  | (with_reducible refine iteT ?_)
  | (with_reducible refine iteF ?_)
  | (with_reducible refine iteNF ?_)
  | (with_reducible refine iteNT ?_)
  | (with_reducible refine i_asg ?_)
  | (with_reducible refine i_op ?_)
  | (with_reducible refine i_c ?_)
  | ((with_reducible apply i_var); (exact rfl))
  | (with_reducible refine i_cb ?_)
  | (with_reducible refine i_cons ?_)
  | (with_reducible refine i_nil ?_)
  | (with_reducible refine i_test ?_)
  | (with_reducible refine i_b ?_)
  | (with_reducible refine i_bl ?_)
  | (with_reducible refine i_name ?_)
  | (with_reducible refine i_ifS ?_)
  | (with_reducible refine i_next ?_)
  | (with_reducible refine i_ret ?_)
  | (with_reducible refine i_drop ?_)
  | (with_reducible refine i_lst ?_)
  | (with_reducible refine i_tup ?_)
  | (with_reducible refine i_and ?_)
  | (with_reducible refine i_or ?_)
  | (with_reducible refine i_not ?_)
  | (with_reducible refine i_andV ?_)
  | (with_reducible refine i_orV ?_)
  | (with_reducible refine i_notV ?_)
  | (with_reducible refine i_if ?_)
  | (with_reducible refine i_chain ?_)
  | (with_reducible refine i_un ?_)
  | (with_reducible refine i_neg ?_)
  | (with_reducible refine i_sub ?_)
  | (with_reducible refine i_sl ?_)
  | (with_reducible refine i_noP ?_)
  | (with_reducible refine i_part ?_)
  | (with_reducible refine i_int ?_)
  | (with_reducible refine i_bm ?_)
  | (with_reducible refine i_strT ?_)
  | (with_reducible refine i_yes ?_)
  | (with_reducible refine i_call ?_)
  | ((with_reducible refine i_len ?_ ?_); (focus (exact sz (by simp))))
  | (with_reducible refine i_lc ?_)
  | (with_reducible refine i_for ?_)
  | (with_reducible refine i_rng1 ?_)
  | (with_reducible refine i_rng2 ?_)
  | (with_reducible refine l_addI ?_)
  | (with_reducible refine l_subI ?_)
  | (with_reducible refine l_cmp ?_)
  | (with_reducible refine l_eqI ?_)
  | (with_reducible refine l_eqS ?_)
  | (with_reducible refine l_eqB ?_)
  | (with_reducible refine l_neI ?_)
  | (with_reducible refine l_neS ?_)
  | (with_reducible refine l_neB ?_)
  | (with_reducible refine l_isN ?_)
  | (with_reducible refine l_isNotN ?_)
  | (with_reducible refine l_isB ?_)
  | (with_reducible refine l_isNotB ?_)
  | (with_reducible refine l_intI ?_)
  | (with_reducible refine l_intB ?_)
  | (with_reducible refine l_inC ?_)
  | (refine ⟨_, _, rfl, rfl, sz (by first | omega | simp; omega), ?_⟩)
  | ((with_reducible refine l_pow ?_ ?_); (focus (exact ⟨by decide, by decide, by decide⟩)))
  | ((with_reducible refine l_mul ?_ ?_); (focus (first | assumption | exact Or.inl (Or.inl ⟨by omega, by omega⟩) | exact Or.inl (Or.inr ⟨by omega, by omega⟩))))
  | ((with_reducible refine l_div ?_ ?_); (focus (first | assumption | exact ⟨by decide, by decide⟩)))
  | ((with_reducible apply l_setL); (assumption); (exact rfl))
  | ((with_reducible refine l_mod ?_ ?_); (walk_at "side"))
  | ((with_reducible apply l_ixL); (assumption); (exact rfl))
  | ((with_reducible refine l_lenS ?_ ?_); (focus (first | assumption | exact sz (by omega) | exact sz (by simp; omega))))
  | ((with_reducible refine l_slS ?_ ?_); (focus (first | assumption | exact sz (by omega))))
  | ((with_reducible apply l_isi); (walk_at "ty"); (walk_at "kt"))
  | ((with_reducible apply l_lenL); (assumption)))
local macro_rules | `(tactic| walk_at "go") => `(tactic| repeat (walk_at "1"))
local macro_rules | `(tactic| walk_at "1") => `(tactic| first
  | (with_reducible refine i_mkS ?_)
  | (with_reducible refine i_cS ?_)
  | (with_reducible refine i_fld ?_)
  | (with_reducible refine i_sFld ?_)
  | (with_reducible refine i_tX ?_)
  | (with_reducible refine l_len2 rfl rfl ?_))
section
variable {P : Program} {w : World} {K : PySem.W.Frag} {mg : Str → Option Value} {base : Heap}
/-- the ascending rows of so many numbers below n -/
def low (row : List Nat) : Nat := match row.getLast? with
  | none => 0
  | some x => x + 1
def nexts (n : Nat) (row : List Nat) : List (List Nat) := (List.range (n - low row)).map fun j => row ++ [low row + j]
def comb (n : Nat) : Nat → List (List Nat)
  | 0 => [[]]
  | k + 1 => (comb n k).flatMap (nexts n)
theorem comb_bd : ∀ n ≤ 6, ∀ k ≤ 6, (comb n k).length ≤ 20 := by decide +kernel
theorem comb_lt {n : Nat} : ∀ k row, row ∈ comb n k → (∀ x ∈ row, x < n) ∧ row.length = k
  | 0, row, h => by
    have e : row = [] := List.mem_singleton.mp h
    subst e
    exact ⟨fun x hx => (by cases hx), rfl⟩
  | k + 1, row, h => by
    obtain ⟨r0, h0, h1⟩ := List.mem_flatMap.mp h
    obtain ⟨i0, l0⟩ := comb_lt k r0 h0
    obtain ⟨j, hj, rfl⟩ := List.mem_map.mp h1
    have hj := List.mem_range.mp hj
    refine ⟨fun x hx => ?_, by rw [List.length_append, l0]; rfl⟩
    rcases List.mem_append.mp hx with hx | hx
    · exact i0 x hx
    · rw [List.mem_singleton.mp hx]; omega
theorem low_le {n : Nat} {row : List Nat} (h : ∀ x ∈ row, x < n) : low row ≤ n := by
  unfold low
  cases e : row.getLast? with
  | none => exact Nat.zero_le _
  | some x => exact h x (List.mem_of_getLast? e)
def rowI (row : List Nat) : List V := row.map fun (x : Nat) => V.int (x : Int)
theorem rowI_app (a b : List Nat) : rowI (a ++ b) = rowI a ++ rowI b := List.map_append
def pick (zs : List Str) (row : List Nat) : List Str := row.map fun i => zs.getD i ""
def subsTo (zs : List Str) (i : Nat) : List (List Str) := (List.range i).flatMap fun k => (comb zs.length k).map (pick zs)
def subs (zs : List Str) : List (List Str) := subsTo zs (zs.length + 1)
theorem subsTo_succ (zs : List Str) (i : Nat) : subsTo zs (i + 1) = subsTo zs i ++ (comb zs.length i).map (pick zs) := by
  unfold subsTo
  rw [List.range_succ, List.flatMap_append]
  simp
theorem flat_cut {α β : Type} (f : α → List β) : ∀ (n : Nat) (xs : List α) (i : Nat), (xs.take i).flatMap f = (xs.flatMap f).take ((xs.take i).flatMap f).length
  | _, [], i => by simp
  | n, x :: xs, 0 => by simp
  | n, x :: xs, i + 1 => by
    rw [List.take_succ_cons, List.flatMap_cons, List.flatMap_cons, List.length_append, List.take_length_add_append]
    rw [← flat_cut f n xs i]
theorem subs_len {zs : List Str} (h : zs.length ≤ 6) (i : Nat) (hi : i ≤ 7) : (subsTo zs i).length ≤ 20 * i := by
  induction i with
  | zero => exact Nat.le_refl _
  | succ i ih =>
    have := comb_bd zs.length h i (by omega)
    rw [subsTo_succ, List.length_append, List.length_map]
    have := ih (by omega)
    omega
/-- rows, each by a thing of S -/
def Rw (S : Hp → Addr → List V → Prop) (H : Hp) (vs : List V) (rows : List (List V)) : Prop := vs.length = rows.length ∧ ∀ (i : Nat) (row : List V), rows[i]? = some row → ∃ q, vs[i]? = some (.ref q) ∧ S H q row
theorem Rw.mono {S : Hp → Addr → List V → Prop} (hS : ∀ {H H' a xs}, Ex H H' → S H a xs → S H' a xs) {H H' : Hp} {vs : List V} {rows : List (List V)} (h : Rw S H vs rows) (e : Ex H H') : Rw S H' vs rows :=
  ⟨h.1, fun i row hi => let ⟨q, h1, h2⟩ := h.2 i row hi; ⟨q, h1, hS e h2⟩⟩
theorem Rw.nil {S : Hp → Addr → List V → Prop} {H : Hp} : Rw S H [] [] := ⟨rfl, fun i row h => by simp at h⟩
theorem Rw.snoc {S : Hp → Addr → List V → Prop} {H : Hp} {vs : List V} {rows : List (List V)} {q : Addr} {row : List V} (h : Rw S H vs rows) (hq : S H q row) : Rw S H (vs ++ [.ref q]) (rows ++ [row]) := by
  refine ⟨by simp [h.1], fun i r hi => ?_⟩
  by_cases hl : i < rows.length
  · rw [List.getElem?_append_left hl] at hi
    obtain ⟨q', h1, h2⟩ := h.2 i r hi
    exact ⟨q', by rw [List.getElem?_append_left (by rw [h.1]; exact hl)]; exact h1, h2⟩
  · have hl2 := (List.getElem?_eq_some_iff.mp hi).1
    rw [List.length_append] at hl2
    simp only [List.length_singleton] at hl2
    obtain rfl : i = rows.length := by omega
    rw [List.getElem?_append_right (Nat.le_refl _), Nat.sub_self] at hi
    have e : row = r := Option.some.inj hi
    subst e
    exact ⟨q, by rw [List.getElem?_append_right (by rw [h.1]; exact Nat.le_refl _), h.1, Nat.sub_self]; rfl, hq⟩
theorem Rw.at {S : Hp → Addr → List V → Prop} {H : Hp} {vs : List V} {rows : List (List V)} (h : Rw S H vs rows) {i : Nat} {x : V} (hx : vs[i]? = some x) : ∃ row q, rows[i]? = some row ∧ x = .ref q ∧ S H q row := by
  have hl := (List.getElem?_eq_some_iff.mp hx).1
  obtain ⟨q, h1, h2⟩ := h.2 i _ (List.getElem?_eq_getElem (by rw [← h.1]; exact hl))
  rw [hx] at h1
  exact ⟨_, q, List.getElem?_eq_getElem (by rw [← h.1]; exact hl), Option.some.inj h1, h2⟩
end
end K
namespace K
open PySem PySem.Spec PyProof.Rows L2 G TL
local macro_rules | `(tactic| walk_at "side") => `(tactic| focus (first | assumption | exact rfl | omega | decide))
local macro_rules | `(tactic| walk_at "ty") => `(tactic| focus (first | exact .base (.str _) | exact .base (.int _) | exact .base (.bl _) | exact .base .non | exact .base (.lst (by assumption)) | exact .base (.tup (by assumption)) | exact .base (.dK (by assumption)) | assumption))
local macro_rules | `(tactic| walk_at "kt") => `(tactic| focus (with_reducible first | exact kt_NoneType_str | exact kt_NoneType_int | exact kt_NoneType_bool | exact kt_NoneType_tuple | exact kt_NoneType_list | exact kt_NoneType_dict | exact kt_bool_str | exact kt_bool_int | exact kt_bool_bool | exact kt_bool_tuple | exact kt_bool_list | exact kt_bool_dict | exact kt_int_str | exact kt_int_int | exact kt_int_bool | exact kt_int_tuple | exact kt_int_list | exact kt_int_dict | exact kt_str_str | exact kt_str_int | exact kt_str_bool | exact kt_str_tuple | exact kt_str_list | exact kt_str_dict | exact kt_list_str | exact kt_list_int | exact kt_list_bool | exact kt_list_tuple | exact kt_list_list | exact kt_list_dict | exact kt_tuple_str | exact kt_tuple_int | exact kt_tuple_bool | exact kt_tuple_tuple | exact kt_tuple_list | exact kt_tuple_dict | exact kt_dict_str | exact kt_dict_int | exact kt_dict_bool | exact kt_dict_tuple | exact kt_dict_list | exact kt_dict_dict | assumption))
local macro_rules | `(tactic| walk_at "1") => `(tactic| first
  | (with_reducible refine i_seq ?_)
  | (with_reducible refine iteT ?_)
  | (with_reducible refine iteF ?_)
  | (with_reducible refine iteNF ?_)
  | (with_reducible refine iteNT ?_)
  | (with_reducible refine i_asg ?_)
  | (with_reducible refine i_op ?_)
  | (with_reducible refine i_c ?_)
  | ((with_reducible apply i_var); (exact rfl))
  | (with_reducible refine i_cb ?_)
  | (with_reducible refine i_cons ?_)
  | (with_reducible refine i_nil ?_)
  | (with_reducible refine i_test ?_)
  | (with_reducible refine i_b ?_)
  | (with_reducible refine i_bl ?_)
  | (with_reducible refine i_name ?_)
  | (with_reducible refine i_ifS ?_)
  | (with_reducible refine i_next ?_)
  | (with_reducible refine i_ret ?_)
  | (with_reducible refine i_drop ?_)
  | (with_reducible refine i_lst ?_)
  | (with_reducible refine i_tup ?_)
  | (with_reducible refine i_and ?_)
  | (with_reducible refine i_or ?_)
  | (with_reducible refine i_not ?_)
  | (with_reducible refine i_andV ?_)
  | (with_reducible refine i_orV ?_)
  | (with_reducible refine i_notV ?_)
  | (with_reducible refine i_if ?_)
  | (with_reducible refine i_chain ?_)
  | (with_reducible refine i_un ?_)
  | (with_reducible refine i_neg ?_)
  | (with_reducible refine i_sub ?_)
  | (with_reducible refine i_sl ?_)
  | (with_reducible refine i_noP ?_)
  | (with_reducible refine i_part ?_)
  | (with_reducible refine i_int ?_)
  | (with_reducible refine i_bm ?_)
  | (with_reducible refine i_strT ?_)
  | (with_reducible refine i_yes ?_)
  | (with_reducible refine i_call ?_)
  | ((with_reducible refine i_len ?_ ?_); (focus (exact sz (by simp))))
  | (with_reducible refine i_lc ?_)
  | (with_reducible refine i_for ?_)
  | (with_reducible refine i_rng1 ?_)
  | (with_reducible refine i_rng2 ?_)
  | (with_reducible refine l_addI ?_)
  | (with_reducible refine l_subI ?_)
  | (with_reducible refine l_cmp ?_)
  | (with_reducible refine l_eqI ?_)
  | (with_reducible refine l_eqS ?_)
  | (with_reducible refine l_eqB ?_)
  | (with_reducible refine l_neI ?_)
  | (with_reducible refine l_neS ?_)
  | (with_reducible refine l_neB ?_)
  | (with_reducible refine l_isN ?_)
  | (with_reducible refine l_isNotN ?_)
  | (with_reducible refine l_isB ?_)
  | (with_reducible refine l_isNotB ?_)
  | (with_reducible refine l_intI ?_)
  | (with_reducible refine l_intB ?_)
  | (with_reducible refine l_inC ?_)
  | (refine ⟨_, _, rfl, rfl, sz (by first | omega | simp; omega), ?_⟩)
  | ((with_reducible refine l_pow ?_ ?_); (focus (exact ⟨by decide, by decide, by decide⟩)))
  | ((with_reducible refine l_mul ?_ ?_); (focus (first | assumption | exact Or.inl (Or.inl ⟨by omega, by omega⟩) | exact Or.inl (Or.inr ⟨by omega, by omega⟩))))
  | ((with_reducible refine l_div ?_ ?_); (focus (first | assumption | exact ⟨by decide, by decide⟩)))
  | ((with_reducible apply l_setL); (assumption); (exact rfl))
  | ((with_reducible refine l_mod ?_ ?_); (walk_at "side"))
  | ((with_reducible apply l_ixL); (assumption); (exact rfl))
  | ((with_reducible refine l_lenS ?_ ?_); (focus (first | assumption | exact sz (by omega) | exact sz (by simp; omega))))
  | ((with_reducible refine l_slS ?_ ?_); (focus (first | assumption | exact sz (by omega))))
  | ((with_reducible apply l_isi); (walk_at "ty"); (walk_at "kt"))
  | ((with_reducible apply l_lenL); (assumption)))
local macro_rules | `(tactic| walk_at "go") => `(tactic| repeat (walk_at "1"))
local macro_rules | `(tactic| walk_at "1") => `(tactic| first
  | (with_reducible refine i_mkS ?_)
  | (with_reducible refine i_cS ?_)
  | (with_reducible refine i_fld ?_)
  | (with_reducible refine i_sFld ?_)
  | (with_reducible refine i_tX ?_)
  | (with_reducible refine l_len2 rfl rfl ?_))
section
variable {P : Program} {w : World} {K : PySem.W.Frag} {mg : Str → Option Value} {base : Heap}
/-! ### [.. for x in xs for y in ys] -/
section
variable {K : PySem.W.Frag} {σ : L2.St} {H : Hp} {Q : VK} {wi wi1 : TI} {te : TE} {vs vs1 : List Nat}
def lc2I (g1 : TG) (tt1 : TT) (te : TE) (vs1 : List Nat) (σ2 : L2.St) (D : Addr) (Nx : Hp → Prop) (J1 : It) (H4 : Hp) : Prop := ∃ W1 : Nat → Nat → Hp → Prop, (∃ m, W1 0 m H4) ∧ ∀ j k H, W1 j k H →
      (J1.stop j H ∧ Nx H) ∨ (J1.go j H ∧ ∃ Nx1 : Hp → Prop, (∀ H', Nx1 H' → ∃ k', k' < k ∧ W1 (j + 1) k' H') ∧ ∀ x H', J1.yld j H x H' → g1 x (wipe σ2 vs1) H' fun σ3 H5 => wipe σ3 vs1 = wipe σ2 vs1 ∧ tt1 σ3 H5 fun b H6 =>
        if b = true then te σ3 H6 fun y H7 => ∃ acc, H7 D = some (.lst acc) ∧ acc.length < sizeLine ∧ Nx1 (upd H7 D (.lst (acc ++ [y]))) else Nx1 H6)
def lc2B (J : It) (g : TG) (tt : TT) (wi1 : TI) (g1 : TG) (tt1 : TT) (te : TE) (vs vs1 : List Nat) (σ : L2.St) (Q : VK) (H1 : Hp) : Prop := ∀ D, H1 D = none → ∃ W : Nat → Nat → Hp → Prop, (∃ m, W 0 m (upd H1 D (.lst []))) ∧ ∀ i m H, W i m H →
  (J.stop i H ∧ Q (.ref D) H) ∨ (J.go i H ∧ ∃ Nx : Hp → Prop, (∀ H', Nx H' → ∃ m', m' < m ∧ W (i + 1) m' H') ∧ ∀ x H', J.yld i H x H' → g x (wipe σ vs) H' fun σ2 H2 => wipe σ2 vs = wipe σ vs ∧ tt σ2 H2 fun b H3 =>
    if b = true then wi1 σ2 H3 fun J1 H4 => lc2I g1 tt1 te vs1 σ2 D Nx J1 H4
    else Nx H3)
theorem i_lc2 {g g1 : TG} {tt tt1 : TT} (q : wi σ H fun J H1 => lc2B J g tt wi1 g1 tt1 te vs vs1 σ Q H1) : tLc2 wi g tt wi1 g1 tt1 te vs vs1 σ H Q := q
theorem lc2_it {J : It} {j : Nat} {g1 : TG} {tt1 : TT} {n : Nat} (Pv : Addr → Nat → Hp → Prop) (h0 : ∀ D, H D = none → Pv D 0 (upd H D (.lst [])))
    (hgo : ∀ D i H', H D = none → i < n → Pv D i H' → J.go i H') (hstop : ∀ D H', H D = none → Pv D n H' → J.stop n H') (hw : ∀ x, wipe ((wipe σ vs).set j (some x)) vs = wipe σ vs)
    (hs : ∀ D i x H' H2, H D = none → i < n → Pv D i H' → J.yld i H' x H2 → wi1 ((wipe σ vs).set j (some x)) H2 (lc2I g1 tt1 te vs1 ((wipe σ vs).set j (some x)) D (Pv D (i + 1))))
    (hd : ∀ D H', H D = none → Pv D n H' → Q (.ref D) H') : lc2B J (gName j) tYes wi1 g1 tt1 te vs vs1 σ Q H := by
  intro D hD
  refine ⟨fun i m H' => m = n - i ∧ i ≤ n ∧ Pv D i H', ⟨n, rfl, Nat.zero_le _, h0 D hD⟩, ?_⟩
  rintro i m H' ⟨rfl, hi, p⟩
  by_cases hlt : i < n
  · refine .inr ⟨hgo D i H' hD hlt p, Pv D (i + 1), fun H2 p' => ⟨n - (i + 1), by omega, rfl, hlt, p'⟩, fun x H2 yl => ?_⟩
    exact ⟨hw x, hs D i x H' H2 hD hlt p yl⟩
  · obtain rfl : i = n := by omega
    exact .inl ⟨hstop D H' hD p, hd D H' hD p⟩
end
theorem in_rng {lo : Int} {n : Nat} {te : TE} {vs1 : List Nat} {j1 : Nat} {σ2 : L2.St} {D : Addr} {Nx : Hp → Prop} {H4 : Hp} (Pw : Nat → Hp → Prop) (h0 : Pw 0 H4) (hw : ∀ x, wipe ((wipe σ2 vs1).set j1 (some x)) vs1 = wipe σ2 vs1)
    (hs : ∀ (j : Nat) H, j < n → Pw j H → te ((wipe σ2 vs1).set j1 (some (.int (lo + j)))) H fun z H7 => ∃ acc, H7 D = some (.lst acc) ∧ acc.length < sizeLine ∧ Pw (j + 1) (upd H7 D (.lst (acc ++ [z]))))
    (hd : ∀ H, Pw n H → Nx H) : lc2I (gName j1) tYes te vs1 σ2 D Nx (Itr lo n) H4 := by
  refine ⟨fun i m H' => m = n - i ∧ i ≤ n ∧ Pw i H', ⟨n, rfl, Nat.zero_le _, h0⟩, ?_⟩
  rintro i m H' ⟨rfl, hi, p⟩
  by_cases hlt : i < n
  · refine .inr ⟨hlt, Pw (i + 1), fun H2 p' => ⟨n - (i + 1), by omega, rfl, hlt, p'⟩, fun x H2 yl => ?_⟩
    obtain ⟨rfl, rfl⟩ := yl
    exact ⟨hw _, hs i _ hlt p⟩
  · obtain rfl : i = n := by omega
    exact .inl ⟨Nat.le_refl _, hd H' p⟩
theorem l_addT {H : Hp} {a b : Addr} {xs ys : List V} {Q : VK} (h1 : SqT K H a xs) (h2 : SqT K H b ys) (hl : xs.length + ys.length ≤ 100000) (q : ∀ p H', Ex H H' → SqT K H' p (xs ++ ys) → Q (.ref p) H') : rAdd K (.ref a) (.ref b) H Q := by
  refine .inr ⟨a, b, xs, ys, rfl, rfl, h1, h2, sz hl, fun e => ?_, fun _ e => ?_, fun _ _ p hp => q p _ (Ex.new hp) (.of upd_same)⟩
  · subst e
    exact q b H (Ex.refl H) h2
  · subst e
    exact q a H (Ex.refl H) (by rw [List.append_nil]; exact h1)
theorem lay_strs : ∀ ns : List Str, (∀ z ∈ ns, PyData.strOk z = true) → PyData.canLayAll0 (ns.map PyData.str) = true
  | [], _ => rfl
  | n :: ns, h => by
    rw [List.map_cons, PyData.canLayAll0, lay_strs ns fun z hz => h z (List.mem_cons_of_mem _ hz), PyData.canLay0, h n List.mem_cons_self]
    rfl
theorem depth_strs : ∀ ns : List Str, PyData.depthAll (ns.map PyData.str) ≤ 1
  | [] => by rw [List.map_nil, PyData.depthAll]; omega
  | n :: ns => by
    have := depth_strs ns
    rw [List.map_cons, PyData.depthAll, PyData.depth]
    omega
def rowD (row : List Nat) : List PyData := row.map fun (x : Nat) => .int (x : Int)
theorem l_neNilT {H : Hp} {Q : VK} {p q : Addr} {row : List Nat} (hp : SqT K H p (rowI row)) (hq : H q = some (.tup [])) (k : Q (.bl (!decide (row = []))) H) : rNeA K (.ref p) (.ref q) H Q := by
  have e1 : rowI row = (row.map fun (x : Nat) => (x : Int)).map V.int := by unfold rowI; rw [List.map_map]; rfl
  rw [e1] at hp
  refine .inr ⟨.tuple ((row.map fun (x : Nat) => (x : Int)).map .int), .tuple [], .tup hp (dp_ints _), .tup (SqT.of hq) .nil, ?_, by decide, ?_⟩
  · have := depth_ints (row.map fun (x : Nat) => (x : Int))
    unfold SeqAt.shaped
    rw [PyData.canLay0, lay_ints, PyData.depth, Bool.true_and]
    exact decide_eq_true (by omega)
  · have e : PyData.eqv (.tuple ((row.map fun (x : Nat) => (x : Int)).map .int)) (.tuple []) = decide (row = []) := by
      cases row <;> simp [PyData.eqv, PyData.eqvAll]
    rw [e]
    exact k
theorem row_last {row : List Nat} (h : row ≠ []) : ∃ x : Nat, atI (rowI row) (-1) = some (.int (x : Int)) ∧ low row = x + 1 := by
  cases hx : row.getLast? with
  | none => exact absurd (List.getLast?_eq_none_iff.mp hx) h
  | some x =>
    refine ⟨x, ?_, by unfold low; rw [hx]⟩
    obtain ⟨ys, rfl⟩ := List.getLast?_eq_some_iff.mp hx
    rw [rowI_app]
    exact atI_last _ _
theorem sqT_updL {H : Hp} {D a : Addr} {acc xs : List V} {o : HO} (hD : H D = some (.lst acc)) (h : SqT K H a xs) : SqT K (upd H D o) a xs := by
  rcases h with (h | ⟨o', h⟩) | h
  · exact .inl (.inl (by rw [upd_ne (ne_of h hD (by simp))]; exact h))
  · exact .inl (.inr ⟨o', by rw [upd_ne (ne_of h hD (by simp))]; exact h⟩)
  · exact .inr h
theorem Rw.updL {H : Hp} {D : Addr} {acc vs : List V} {rows : List (List V)} {o : HO} (h : Rw (SqT K) H vs rows) (hD : H D = some (.lst acc)) : Rw (SqT K) (upd H D o) vs rows :=
  ⟨h.1, fun i row hi => let ⟨q, h1, h2⟩ := h.2 i row hi; ⟨q, h1, sqT_updL hD h2⟩⟩
theorem flat_le {α β : Type} (f : α → List β) (xs : List α) (j : Nat) : ((xs.take j).flatMap f).length ≤ (xs.flatMap f).length := by
  have := congrArg List.length (flat_cut f 0 xs j)
  rw [List.length_take] at this
  omega
def spChoices (K : PySem.W.Frag) : Sp := fun vs H Q _ => ∃ (n k : Nat), vs = [.int (n : Int), .int (k : Int)] ∧ n ≤ 6 ∧ k ≤ 6 ∧ ∀ p qs H', Ex H H' → H' p = some (.lst qs) → Rw (SqT K) H' qs ((comb n k).map rowI) → Q (.ref p) H'
set_option maxHeartbeats 4000000 in
theorem ok_choices (T : Tp K mg) : Cal P w K mg base 1 "choices_of" (spChoices K) [] := by
  refine T.d_choices_of.cal sc_choices_of (fun vs H Q E h => ?_) (fun f cdv A outer s H vs Q E hr h => ?_)
  · obtain ⟨n, k, rfl, _⟩ := h
    rfl
  · obtain ⟨n, k, rfl, hn, hk, q⟩ := h
    have sc := sc_choices_of
    refine ⟨_, 
    (pss_cons (ps_set (i := 2) sc.nd rfl (by first | exact Or.inl rfl | exact Or.inr rfl) (pe_lst (pa_cons (pe_tup (pa_nil)) pa_nil)))
    (pss_cons (ps_for PassesOwn.never rfl (pi_range1 (by rfl) T.m_range (pa_cons (pv 1) pa_nil)) (pg_name (i := 3) sc.nd rfl (by first | exact Or.inl rfl | exact Or.inr rfl)) (
      (pss_one (ps_setLc2 (i := 2) (own := [("places", 4), ("place", 5)]) (vs1 := [5]) (by rfl) sc.nd rfl rfl (sw_true rfl rfl rfl (by decide +kernel)) (kIT (K := K) rfl (pv 2)) (blkOk_by (N := ["count", "size", "found", "turn", "places", "place"]) (sc := defScope s_choices_of) (by decide +kernel)) (by decide) (fun _ _ _ _ _ => pg_name (i := 4) sc.nd rfl (by first | exact Or.inl rfl | exact Or.inr rfl)) (fun _ _ _ _ _ => pts_nil) (fun _ _ _ _ _ => pi_range2 (by rfl) T.m_range (pa_cons (pe_cut (pe_ifExp (pt_cmpR (kNe (K := K) rfl hr) (pv 4) (pe_tup (pa_nil)) (nomark _)) (pe_op (kAdd (K := K) rfl) (pe_ix (kIx (K := K) rfl) (pv 4) (pe_un un_neg (pe_int)) (fun _ _ => rfl)) (pe_int)) (pe_int))) (pa_cons (pv 0) pa_nil))) (fun _ _ _ _ _ => pg_name (i := 5) sc.nd rfl (by first | exact Or.inl rfl | exact Or.inr rfl)) (fun _ _ _ _ _ => pts_nil) (fun _ _ _ _ _ => pe_op (kAdd (K := K) rfl) (pv 4) (pe_tup (pa_cons (pv 5) pa_nil)))))))
    (pss_one (ps_ret (pv 2))))), ?_⟩
    try rw [cxK]
    refine i_start (τ := [some (.int (n : Int)), some (.int (k : Int)), none, none, none, none]) rfl ?_
    walk_at "go"
    intro q0 hq0
    have e1 : Ex H (upd H q0 (.tup [])) := Ex.new hq0
    have w1 : (upd H q0 (.tup [])) q0 = some (.tup []) := upd_same
    generalize (upd H q0 (.tup [])) = H1 at e1 w1 ⊢
    walk_at "go"
    intro p0 hp0
    have e2 : Ex H1 (upd H1 p0 (.lst [.ref q0])) := Ex.new hp0
    have w2 : (upd H1 p0 (.lst [.ref q0])) p0 = some (.lst [.ref q0]) := upd_same
    generalize (upd H1 p0 (.lst [.ref q0])) = H2 at e2 w2 ⊢
    walk_at "go"
    refine ⟨(k : Int), rfl, by omega, by omega, ?_⟩
    refine for_rng (fun i σ H' => ∃ (p : Addr) (qs : List V) (v3 : Option V), σ = [some (.int (n : Int)), some (.int (k : Int)), some (.ref p), v3, none, none] ∧ Ex H H' ∧ H' p = some (.lst qs) ∧ Rw (SqT K) H' qs ((comb n i).map rowI)) ⟨p0, [.ref q0], none, rfl, e1.trans e2, w2, ?_⟩ ?_ ?_
    · exact Rw.snoc (vs := []) (rows := []) Rw.nil (.of (e2 _ _ w1))
    · rintro i σ J hi ⟨p, qs, v3, rfl, eJ, hp, hR⟩
      have hi6 : i < k := hi
      walk_at "go"
      refine i_lc2 (i_anyL ?_)
      walk_at "go"
      refine ⟨p, rfl, ⟨_, SqL.of hp⟩, ?_⟩
      have hbd := comb_bd n hn i (by omega)
      have hbd2 := comb_bd n hn (i + 1) (by omega)
      have hlq : qs.length = (comb n i).length := by rw [hR.1, List.length_map]
      refine lc2_it (n := qs.length) (fun D j H' => Ex J H' ∧ ∃ acc, H' D = some (.lst acc) ∧ Rw (SqT K) H' acc ((((comb n i).take j).flatMap (nexts n)).map rowI)) (fun D hD => ⟨Ex.new hD, [], upd_same, Rw.nil⟩) (fun D j H' hD hj h => ⟨_, _, .of (h.1 _ _ hp), List.getElem?_eq_getElem hj⟩) (fun D H' hD h => ⟨_, .of (h.1 _ _ hp), Nat.le_refl _⟩) (by intro x; rfl) ?_ ?_
      · intro D j x H3 H4 hD hj ⟨e3, acc, hacc, hR3⟩ hy
        obtain ⟨eH, hy⟩ := hy
        subst eH
        have hx := hy _ (.of (e3 _ _ hp))
        obtain ⟨row', qx, hrow', rfl, hq0⟩ := hR.at hx
        have hq' := sqT_mono e3 hq0
        rw [List.getElem?_map] at hrow'
        cases hrow : (comb n i)[j]? with
        | none => rw [hrow] at hrow'; cases hrow'
        | some row =>
        rw [hrow] at hrow'
        obtain rfl : rowI row = row' := Option.some.inj hrow'
        have hin := comb_lt i row (List.mem_of_getElem? hrow)
        have hlow := low_le hin.1
        walk_at "go"
        refine i_cutE (fun v H' => v = .int (low row : Int) ∧ Ex H4 H') ?_ ?_
        · walk_at "go"
          intro qe hqe
          have e5 : Ex H4 (upd H4 qe (.tup [])) := Ex.new hqe
          have w5 : (upd H4 qe (.tup [])) qe = some (.tup []) := upd_same
          generalize (upd H4 qe (.tup [])) = H5 at e5 w5 ⊢
          walk_at "go"
          refine l_neNilT (sqT_mono e5 hq') w5 ?_
          walk_at "go"
          refine i_iteN (fun hz => ?_) (fun hz => ?_)
          · obtain ⟨x, hx2, hl2⟩ := row_last hz
            walk_at "go"
            refine ⟨_, _, .inr (sqT_mono e5 hq'), hx2, ?_⟩
            walk_at "go"
            exact ⟨by rw [hl2]; rfl, e5⟩
          · walk_at "go"
            exact ⟨by rw [hz]; rfl, e5⟩
        rintro v H5 ⟨rfl, e5⟩
        walk_at "go"
        refine ⟨(low row : Int), (n : Int), rfl, ⟨by omega, by omega, by omega, by omega⟩, ?_⟩
        have en : ((n : Int) - (low row : Int)).toNat = n - low row := by omega
        rw [en]
        have hfl := flat_le (nexts n) (comb n i) (j + 1)
        rw [take_succ hrow, List.flatMap_append, List.length_append] at hfl
        have hnx : ((nexts n) row).length = n - low row := by unfold nexts; rw [List.length_map, List.length_range]
        have hfl2 : (((comb n i).take j).flatMap (nexts n)).length + (n - low row) ≤ 20 := by
          have : ([row].flatMap (nexts n)).length = n - low row := by rw [List.flatMap_singleton, hnx]
          have h20 : ((comb n i).flatMap (nexts n)).length ≤ 20 := hbd2
          omega
        refine in_rng (fun m H' => Ex J H' ∧ ∃ acc, H' D = some (.lst acc) ∧ Rw (SqT K) H' acc ((((comb n i).take j).flatMap (nexts n) ++ (List.range m).map fun j' => row ++ [low row + j']).map rowI)) ?_ (by intro x; rfl) ?_ ?_
        · refine ⟨e3.trans e5, acc, e5 _ _ hacc, ?_⟩
          simp only [List.range_zero, List.map_nil, List.append_nil]
          exact Rw.mono (S := SqT K) sqT_mono hR3 e5
        · intro m H6 hm ⟨e6, acc', hacc', hR6⟩
          walk_at "go"
          intro qt hqt
          have e7 : Ex H6 (upd H6 qt (.tup [.int ((low row : Int) + (m : Int))])) := Ex.new hqt
          have w7 : (upd H6 qt (.tup [.int ((low row : Int) + (m : Int))])) qt = some (.tup [.int ((low row : Int) + (m : Int))]) := upd_same
          generalize (upd H6 qt (.tup [.int ((low row : Int) + (m : Int))])) = H7 at e7 w7 ⊢
          refine l_addT (sqT_mono (e6.trans e7) hq0) (.of w7) (by unfold rowI; rw [List.length_map, hin.2]; simp; omega) fun q8 H8 e8 hq8 => ?_
          have hD8 := e8 _ _ (e7 _ _ hacc')
          have nD : J D = none := hD
          refine ⟨acc', hD8, sz (by rw [hR6.1, List.length_map, List.length_append, List.length_map, List.length_range]; omega), Ex.mut (e6.trans (e7.trans e8)) nD, acc' ++ [.ref q8], upd_same, ?_⟩
          have hrow8 : SqT K H8 q8 (rowI (row ++ [low row + m])) := by
            rw [rowI_app]
            exact hq8
          have hR8 := Rw.snoc (Rw.mono (S := SqT K) sqT_mono hR6 (e7.trans e8)) hrow8
          have hR9 := hR8.updL (o := .lst (acc' ++ [V.ref q8])) hD8
          simp only [List.range_succ, List.map_append, List.map_cons, List.map_nil, List.append_assoc] at hR9 ⊢
          exact hR9
        · intro H6 ⟨e6, acc', hacc', hR6⟩
          refine ⟨e6, acc', hacc', ?_⟩
          rw [take_succ hrow, List.flatMap_append, List.flatMap_singleton]
          exact hR6
      · intro D H3 hD ⟨e3, acc, hacc, hR3⟩
        walk_at "go"
        refine ⟨D, acc, _, rfl, eJ.trans e3, hacc, ?_⟩
        rw [hlq, List.take_length] at hR3
        exact hR3
    · rintro σ J ⟨p, qs, v3, rfl, eJ, hp, hR⟩
      walk_at "go"
      exact q p qs J eJ hp hR
end
end K
namespace K
open PySem PySem.Spec PyProof.Rows L2 G TL
local macro_rules | `(tactic| walk_at "side") => `(tactic| focus (first | assumption | exact rfl | omega | decide))
local macro_rules | `(tactic| walk_at "ty") => `(tactic| focus (first | exact .base (.str _) | exact .base (.int _) | exact .base (.bl _) | exact .base .non | exact .base (.lst (by assumption)) | exact .base (.tup (by assumption)) | exact .base (.dK (by assumption)) | assumption))
local macro_rules | `(tactic| walk_at "kt") => `(tactic| focus (with_reducible first | exact kt_NoneType_str | exact kt_NoneType_int | exact kt_NoneType_bool | exact kt_NoneType_tuple | exact kt_NoneType_list | exact kt_NoneType_dict | exact kt_bool_str | exact kt_bool_int | exact kt_bool_bool | exact kt_bool_tuple | exact kt_bool_list | exact kt_bool_dict | exact kt_int_str | exact kt_int_int | exact kt_int_bool | exact kt_int_tuple | exact kt_int_list | exact kt_int_dict | exact kt_str_str | exact kt_str_int | exact kt_str_bool | exact kt_str_tuple | exact kt_str_list | exact kt_str_dict | exact kt_list_str | exact kt_list_int | exact kt_list_bool | exact kt_list_tuple | exact kt_list_list | exact kt_list_dict | exact kt_tuple_str | exact kt_tuple_int | exact kt_tuple_bool | exact kt_tuple_tuple | exact kt_tuple_list | exact kt_tuple_dict | exact kt_dict_str | exact kt_dict_int | exact kt_dict_bool | exact kt_dict_tuple | exact kt_dict_list | exact kt_dict_dict | assumption))
local macro_rules | `(tactic| walk_at "1") => `(tactic| first
  | (with_reducible refine i_seq ?_)
  | (with_reducible refine iteT ?_)
  | (with_reducible refine iteF ?_)
  | (with_reducible refine iteNF ?_)
  | (with_reducible refine iteNT ?_)
  | (with_reducible refine i_asg ?_)
  | (with_reducible refine i_op ?_)
  | (with_reducible refine i_c ?_)
  | ((with_reducible apply i_var); (exact rfl))
  | (with_reducible refine i_cb ?_)
  | (with_reducible refine i_cons ?_)
  | (with_reducible refine i_nil ?_)
  | (with_reducible refine i_test ?_)
  | (with_reducible refine i_b ?_)
  | (with_reducible refine i_bl ?_)
  | (with_reducible refine i_name ?_)
  | (with_reducible refine i_ifS ?_)
  | (with_reducible refine i_next ?_)
  | (with_reducible refine i_ret ?_)
  | (with_reducible refine i_drop ?_)
  | (with_reducible refine i_lst ?_)
  | (with_reducible refine i_tup ?_)
  | (with_reducible refine i_and ?_)
  | (with_reducible refine i_or ?_)
  | (with_reducible refine i_not ?_)
  | (with_reducible refine i_andV ?_)
  | (with_reducible refine i_orV ?_)
  | (with_reducible refine i_notV ?_)
  | (with_reducible refine i_if ?_)
  | (with_reducible refine i_chain ?_)
  | (with_reducible refine i_un ?_)
  | (with_reducible refine i_neg ?_)
  | (with_reducible refine i_sub ?_)
  | (with_reducible refine i_sl ?_)
  | (with_reducible refine i_noP ?_)
  | (with_reducible refine i_part ?_)
  | (with_reducible refine i_int ?_)
  | (with_reducible refine i_bm ?_)
  | (with_reducible refine i_strT ?_)
  | (with_reducible refine i_yes ?_)
  | (with_reducible refine i_call ?_)
  | ((with_reducible refine i_len ?_ ?_); (focus (exact sz (by simp))))
  | (with_reducible refine i_lc ?_)
  | (with_reducible refine i_for ?_)
  | (with_reducible refine i_rng1 ?_)
  | (with_reducible refine i_rng2 ?_)
  | (with_reducible refine l_addI ?_)
  | (with_reducible refine l_subI ?_)
  | (with_reducible refine l_cmp ?_)
  | (with_reducible refine l_eqI ?_)
  | (with_reducible refine l_eqS ?_)
  | (with_reducible refine l_eqB ?_)
  | (with_reducible refine l_neI ?_)
  | (with_reducible refine l_neS ?_)
  | (with_reducible refine l_neB ?_)
  | (with_reducible refine l_isN ?_)
  | (with_reducible refine l_isNotN ?_)
  | (with_reducible refine l_isB ?_)
  | (with_reducible refine l_isNotB ?_)
  | (with_reducible refine l_intI ?_)
  | (with_reducible refine l_intB ?_)
  | (with_reducible refine l_inC ?_)
  | (refine ⟨_, _, rfl, rfl, sz (by first | omega | simp; omega), ?_⟩)
  | ((with_reducible refine l_pow ?_ ?_); (focus (exact ⟨by decide, by decide, by decide⟩)))
  | ((with_reducible refine l_mul ?_ ?_); (focus (first | assumption | exact Or.inl (Or.inl ⟨by omega, by omega⟩) | exact Or.inl (Or.inr ⟨by omega, by omega⟩))))
  | ((with_reducible refine l_div ?_ ?_); (focus (first | assumption | exact ⟨by decide, by decide⟩)))
  | ((with_reducible apply l_setL); (assumption); (exact rfl))
  | ((with_reducible refine l_mod ?_ ?_); (walk_at "side"))
  | ((with_reducible apply l_ixL); (assumption); (exact rfl))
  | ((with_reducible refine l_lenS ?_ ?_); (focus (first | assumption | exact sz (by omega) | exact sz (by simp; omega))))
  | ((with_reducible refine l_slS ?_ ?_); (focus (first | assumption | exact sz (by omega))))
  | ((with_reducible apply l_isi); (walk_at "ty"); (walk_at "kt"))
  | ((with_reducible apply l_lenL); (assumption)))
local macro_rules | `(tactic| walk_at "go") => `(tactic| repeat (walk_at "1"))
local macro_rules | `(tactic| walk_at "1") => `(tactic| first
  | (with_reducible refine i_mkS ?_)
  | (with_reducible refine i_cS ?_)
  | (with_reducible refine i_fld ?_)
  | (with_reducible refine i_sFld ?_)
  | (with_reducible refine i_tX ?_)
  | (with_reducible refine l_len2 rfl rfl ?_))
section
variable {P : Program} {w : World} {K : PySem.W.Frag} {mg : Str → Option Value} {base : Heap}
def spSubs (K : PySem.W.Frag) : GN.SpY := fun vs H its => ∃ (a : Addr) (zs : List Str), vs = [.ref a] ∧ (SqL K H a (zs.map V.str) ∨ SqT K H a (zs.map V.str)) ∧ zs.length ≤ 6 ∧ its = (subs zs).map (fun ws => fun x H => ∃ b, x = .ref b ∧ SqT K H b (ws.map V.str))
theorem kp_ex {H H' : Hp} (h : GN.Kp H H') : Ex H H' := h
theorem i_fy {p : Prop} (h : p) : p := h
theorem i_fstart {N : List Str} {vs : List V} {τ : L2.St} {t : GN.TGf} {D : GN.GDs} {n : Nat} {H0 H : Hp} (e : start N vs = τ) (q : t D n H0 τ H) : t D n H0 (start N vs) H := by
  subst e
  exact q
theorem subs_pre (zs : List Str) {i n : Nat} (h : i ≤ n) : subsTo zs i <+: subsTo zs n := by
  induction n with
  | zero =>
    obtain rfl : i = 0 := by omega
    exact List.prefix_refl _
  | succ n ih =>
    by_cases e : i = n + 1
    · rw [e]; exact List.prefix_refl _
    · rw [subsTo_succ]
      exact (ih (by omega)).trans (List.prefix_append _ _)
theorem subs_at {zs : List Str} {i j : Nat} {row : List Nat} (hi : i ≤ zs.length) (h : (comb zs.length i)[j]? = some row) : (subs zs)[(subsTo zs i).length + j]? = some (pick zs row) := by
  obtain ⟨l, hl⟩ := subs_pre zs (show i + 1 ≤ zs.length + 1 by omega)
  unfold subs
  rw [← hl, subsTo_succ, List.append_assoc, List.getElem?_append_right (by omega), Nat.add_sub_cancel_left, List.getElem?_append_left (by rw [List.length_map]; exact (List.getElem?_eq_some_iff.mp h).1), List.getElem?_map, h]
  rfl
def atZ (zs : List Str) : V → V
  | .int r => .str (zs.getD r.toNat "")
  | v => v
theorem row_at (zs : List Str) (row : List Nat) : (rowI row).map (atZ zs) = (pick zs row).map V.str := by
  unfold rowI pick
  rw [List.map_map, List.map_map]
  rfl
set_option maxHeartbeats 4000000 in
theorem ok_subsets (T : Tp K mg) : GN.CalY P w K mg base 2 "subsets" (spSubs K) [] := by
  have c_choices_of := ok_choices (P := P) (w := w) (base := base) T
  refine GN.calY_of T.d_subsets sc_subsets (fun vs H its h => ?_) (fun f cdv A outer s H vs its hr h top htop => ?_)
  · obtain ⟨a, zs, rfl, _⟩ := h
    rfl
  · obtain ⟨a, zs, rfl, hz, hl, rfl⟩ := h
    have sc := sc_subsets
    refine ⟨_, GN.gf_cons (GN.gf_for rfl rfl (fun r => pi_range1 (by rfl) T.m_range (pa_cons (pe_op (kAdd (K := K) rfl) (pe_callB (kLen (K := K) rfl) (by rfl) T.m_len PySem.boot_len (pa_cons (pv 0) pa_nil)) (pe_int)) pa_nil)) (fun r => pg_name (i := 1) sc.nd rfl (by first | exact Or.inl rfl | exact Or.inr rfl)) (GN.gf_cons (GN.gf_for rfl rfl (fun r => kIT (K := K) rfl (pe_c c_choices_of hr (by decide) (by rfl) (pa_cons (pe_callB (kLen (K := K) rfl) (by rfl) T.m_len PySem.boot_len (pa_cons (pv 0) pa_nil)) (pa_cons (pv 1) pa_nil)))) (fun r => pg_name (i := 2) sc.nd rfl (by first | exact Or.inl rfl | exact Or.inr rfl)) (GN.gf_cons (GN.gf_yield (fun r => pe_callTy (k_tuple (K := K) rfl) (by rfl) T.m_tuple (by decide +kernel) (pa_cons (pe_lc (own := [("place", 3)]) (by rfl) sc.nd (kIT (K := K) rfl (pv 2)) (blkOk_by (N := ["items", "size", "places", "place"]) (sc := defScope s_subsets) (by decide +kernel)) (fun _ _ _ _ _ => pg_name (i := 3) sc.nd rfl (by first | exact Or.inl rfl | exact Or.inr rfl)) (fun _ _ _ _ _ => pts_nil) (fun _ _ _ _ _ => pe_ix (kIx (K := K) rfl) (pv 0) (pv 3) (fun _ _ => rfl))) pa_nil)))
        (GN.gf_nil)))
      (GN.gf_nil)))
    (GN.gf_nil), fun H1 k1 => ?_⟩
    have hz := hz.imp (sqL_mono (kp_ex k1)) (sqT_mono (kp_ex k1))
    refine i_fstart (τ := [some (.ref a), none, none, none]) rfl ?_
    refine GN.i_fThen (GN.i_fFor ?_)
    walk_at "go"
    refine ⟨_, hz, ?_⟩
    walk_at "go"
    refine ⟨((zs.map V.str).length : Int) + 1, rfl, by rw [List.length_map]; omega, by rw [List.length_map]; omega, ?_⟩
    have en : (((zs.map V.str).length : Int) + 1).toNat = zs.length + 1 := by rw [List.length_map]; omega
    rw [en]
    refine GN.gfor_range (fun i n H0 σ H' => ∃ v1 v2, σ = [some (.ref a), v1, v2, none] ∧ n + (subsTo zs i).length = top ∧ Ex H1 H' ∧ Ex H0 H') ⟨none, none, rfl, rfl, Ex.refl _, Ex.refl _⟩ ?_ ?_
    · rintro i n H0 σ H2 hi ⟨v1, v2, rfl, hn, e2, e02⟩
      walk_at "go"
      refine GN.i_fThen (GN.i_fFor ?_)
      refine i_anyL ?_
      walk_at "go"
      refine ⟨_, hz.imp (sqL_mono e2) (sqT_mono e2), ?_⟩
      walk_at "go"
      refine ⟨zs.length, i, ?_, hl, by omega, fun p qs H3 e3 hp hR => ?_⟩
      · rw [List.length_map, Int.zero_add]; rfl
      refine ⟨p, rfl, ⟨_, SqL.of hp⟩, ?_⟩
      have hqs : qs.length = (comb zs.length i).length := by rw [hR.1, List.length_map]
      refine GN.gfor_list (xs := qs) (fun j n H0 σ H' => ∃ v2, σ = [some (.ref a), some (.int (0 + (i : Int))), v2, none] ∧ n + (subsTo zs i).length + j = top ∧ Ex H3 H' ∧ Ex H0 H') ⟨v2, rfl, hn, Ex.refl _, e02.trans e3⟩ ?_ ?_ ?_
      · rintro j n' H0' σ J hj ⟨_, rfl, _, eJ, _⟩
        exact .of (eJ _ _ hp)
      · rintro j x n' H0' σ J hx ⟨v2', rfl, hn', eJ, e0J⟩
        obtain ⟨row', qx, hrow', rfl, hq0⟩ := hR.at hx
        rw [List.getElem?_map] at hrow'
        cases hrow : (comb zs.length i)[j]? with
        | none => rw [hrow] at hrow'; cases hrow'
        | some row =>
        rw [hrow] at hrow'
        obtain rfl : rowI row = row' := Option.some.inj hrow'
        have hin := comb_lt i row (List.mem_of_getElem? hrow)
        have hat := subs_at (zs := zs) (by omega) hrow
        have hlt := (List.getElem?_eq_some_iff.mp hat).1
        rw [List.length_map] at htop
        obtain ⟨m, rfl⟩ : ∃ m, n' = m + 1 := ⟨n' - 1, by omega⟩
        walk_at "go"
        refine GN.i_fThen (GN.i_fYield ?_)
        walk_at "go"
        have hz2 := (hz.imp (sqL_mono e2) (sqT_mono e2)).imp (sqL_mono (e3.trans eJ)) (sqT_mono (e3.trans eJ))
        refine i_anyT ⟨_, rfl, qx, rfl, ⟨_, sqT_mono eJ hq0⟩, lc_mapT (f := atZ zs) (sqT_mono eJ hq0) (by unfold rowI; rw [List.length_map, hin.2]; omega) (by intro x; rfl) ?_ ?_⟩
        · rintro x hx2 H4 R e4 kR
          obtain ⟨r, hr2, rfl⟩ := List.mem_map.mp hx2
          have hrl := hin.1 r hr2
          walk_at "go"
          refine ⟨_, _, hz2.imp (sqL_mono e4) (sqT_mono e4), atI_nat (j := r) (by rw [List.getElem?_map, List.getElem?_eq_getElem hrl]; rfl), ?_⟩
          have q4 := kR H4 (Ex.refl _)
          have ez : atZ zs (.int (r : Int)) = .str zs[r] := by
            show V.str (zs.getD ((r : Int).toNat) "") = _
            rw [show ((r : Int)).toNat = r from rfl]
            simp [List.getD, List.getElem?_eq_getElem hrl]
          rw [ez] at q4
          exact q4
        · intro D H4 hD e4 hD4
          rw [row_at] at hD4
          walk_at "go"
          refine ⟨_, .inl ⟨.of hD4, fun l hl2 => ?_⟩⟩
          have e5 : Ex H4 (upd H4 l (.tup ((pick zs row).map V.str))) := Ex.new hl2
          refine ⟨GN.i_yp ?_ ?_, fun H5 k5 => ?_⟩
          · exact e0J.trans (e4.trans e5)
          · exact ⟨(subsTo zs i).length + j, fun x H => ∃ b, x = .ref b ∧ SqT K H b ((pick zs row).map V.str), by omega, by rw [List.getElem?_map, hat]; rfl, l, rfl, .of upd_same⟩
          exact GN.i_f0 ⟨_, rfl, by omega, eJ.trans (e4.trans (e5.trans k5)), Ex.refl _⟩
      · rintro n' H0' σ J ⟨v2', rfl, hn', eJ, e0J⟩
        refine GN.i_f0 ⟨_, _, rfl, ?_, e2.trans (e3.trans eJ), e0J⟩
        rw [subsTo_succ, List.length_append, List.length_map]
        omega
    · rintro n H0 σ H2 ⟨v1, v2, rfl, hn, e2, e02⟩
      refine GN.i_f0 ⟨?_, e02⟩
      rw [List.length_map]
      exact hn
end
end K
namespace K
open PySem PySem.Spec PyProof.Rows L2 G TL
local macro_rules | `(tactic| walk_at "side") => `(tactic| focus (first | assumption | exact rfl | omega | decide))
local macro_rules | `(tactic| walk_at "ty") => `(tactic| focus (first | exact .base (.str _) | exact .base (.int _) | exact .base (.bl _) | exact .base .non | exact .base (.lst (by assumption)) | exact .base (.tup (by assumption)) | exact .base (.dK (by assumption)) | assumption))
local macro_rules | `(tactic| walk_at "kt") => `(tactic| focus (with_reducible first | exact kt_NoneType_str | exact kt_NoneType_int | exact kt_NoneType_bool | exact kt_NoneType_tuple | exact kt_NoneType_list | exact kt_NoneType_dict | exact kt_bool_str | exact kt_bool_int | exact kt_bool_bool | exact kt_bool_tuple | exact kt_bool_list | exact kt_bool_dict | exact kt_int_str | exact kt_int_int | exact kt_int_bool | exact kt_int_tuple | exact kt_int_list | exact kt_int_dict | exact kt_str_str | exact kt_str_int | exact kt_str_bool | exact kt_str_tuple | exact kt_str_list | exact kt_str_dict | exact kt_list_str | exact kt_list_int | exact kt_list_bool | exact kt_list_tuple | exact kt_list_list | exact kt_list_dict | exact kt_tuple_str | exact kt_tuple_int | exact kt_tuple_bool | exact kt_tuple_tuple | exact kt_tuple_list | exact kt_tuple_dict | exact kt_dict_str | exact kt_dict_int | exact kt_dict_bool | exact kt_dict_tuple | exact kt_dict_list | exact kt_dict_dict | assumption))
local macro_rules | `(tactic| walk_at "1") => `(tactic| first
  | (with_reducible refine i_seq ?_)
  | (with_reducible refine iteT ?_)
  | (with_reducible refine iteF ?_)
  | (with_reducible refine iteNF ?_)
  | (with_reducible refine iteNT ?_)
  | (with_reducible refine i_asg ?_)
  | (with_reducible refine i_op ?_)
  | (with_reducible refine i_c ?_)
  | ((with_reducible apply i_var); (exact rfl))
  | (with_reducible refine i_cb ?_)
  | (with_reducible refine i_cons ?_)
  | (with_reducible refine i_nil ?_)
  | (with_reducible refine i_test ?_)
  | (with_reducible refine i_b ?_)
  | (with_reducible refine i_bl ?_)
  | (with_reducible refine i_name ?_)
  | (with_reducible refine i_ifS ?_)
  | (with_reducible refine i_next ?_)
  | (with_reducible refine i_ret ?_)
  | (with_reducible refine i_drop ?_)
  | (with_reducible refine i_lst ?_)
  | (with_reducible refine i_tup ?_)
  | (with_reducible refine i_and ?_)
  | (with_reducible refine i_or ?_)
  | (with_reducible refine i_not ?_)
  | (with_reducible refine i_andV ?_)
  | (with_reducible refine i_orV ?_)
  | (with_reducible refine i_notV ?_)
  | (with_reducible refine i_if ?_)
  | (with_reducible refine i_chain ?_)
  | (with_reducible refine i_un ?_)
  | (with_reducible refine i_neg ?_)
  | (with_reducible refine i_sub ?_)
  | (with_reducible refine i_sl ?_)
  | (with_reducible refine i_noP ?_)
  | (with_reducible refine i_part ?_)
  | (with_reducible refine i_int ?_)
  | (with_reducible refine i_bm ?_)
  | (with_reducible refine i_strT ?_)
  | (with_reducible refine i_yes ?_)
  | (with_reducible refine i_call ?_)
  | ((with_reducible refine i_len ?_ ?_); (focus (exact sz (by simp))))
  | (with_reducible refine i_lc ?_)
  | (with_reducible refine i_for ?_)
  | (with_reducible refine i_rng1 ?_)
  | (with_reducible refine i_rng2 ?_)
  | (with_reducible refine l_addI ?_)
  | (with_reducible refine l_subI ?_)
  | (with_reducible refine l_cmp ?_)
  | (with_reducible refine l_eqI ?_)
  | (with_reducible refine l_eqS ?_)
  | (with_reducible refine l_eqB ?_)
  | (with_reducible refine l_neI ?_)
  | (with_reducible refine l_neS ?_)
  | (with_reducible refine l_neB ?_)
  | (with_reducible refine l_isN ?_)
  | (with_reducible refine l_isNotN ?_)
  | (with_reducible refine l_isB ?_)
  | (with_reducible refine l_isNotB ?_)
  | (with_reducible refine l_intI ?_)
  | (with_reducible refine l_intB ?_)
  | (with_reducible refine l_inC ?_)
  | (refine ⟨_, _, rfl, rfl, sz (by first | omega | simp; omega), ?_⟩)
  | ((with_reducible refine l_pow ?_ ?_); (focus (exact ⟨by decide, by decide, by decide⟩)))
  | ((with_reducible refine l_mul ?_ ?_); (focus (first | assumption | exact Or.inl (Or.inl ⟨by omega, by omega⟩) | exact Or.inl (Or.inr ⟨by omega, by omega⟩))))
  | ((with_reducible refine l_div ?_ ?_); (focus (first | assumption | exact ⟨by decide, by decide⟩)))
  | ((with_reducible apply l_setL); (assumption); (exact rfl))
  | ((with_reducible refine l_mod ?_ ?_); (walk_at "side"))
  | ((with_reducible apply l_ixL); (assumption); (exact rfl))
  | ((with_reducible refine l_lenS ?_ ?_); (focus (first | assumption | exact sz (by omega) | exact sz (by simp; omega))))
  | ((with_reducible refine l_slS ?_ ?_); (focus (first | assumption | exact sz (by omega))))
  | ((with_reducible apply l_isi); (walk_at "ty"); (walk_at "kt"))
  | ((with_reducible apply l_lenL); (assumption)))
local macro_rules | `(tactic| walk_at "go") => `(tactic| repeat (walk_at "1"))
local macro_rules | `(tactic| walk_at "1") => `(tactic| first
  | (with_reducible refine i_mkS ?_)
  | (with_reducible refine i_cS ?_)
  | (with_reducible refine i_fld ?_)
  | (with_reducible refine i_sFld ?_)
  | (with_reducible refine i_tX ?_)
  | (with_reducible refine l_len2 rfl rfl ?_))
section
variable {P : Program} {w : World} {K : PySem.W.Frag} {mg : Str → Option Value} {base : Heap}
theorem e_addL {H : Hp} {a b : Addr} {xs ys : List V} {Q : VK} (h1 : H a = some (.lst xs)) (h2 : H b = some (.lst ys)) (hl : xs.length + ys.length ≤ 100000) (q : ∀ p H', H p = none → Ex H H' → H' p = some (.lst (xs ++ ys)) → Q (.ref p) H') : rAdd K (.ref a) (.ref b) H Q :=
  .inl ⟨a, b, xs, ys, rfl, rfl, h1, h2, sz hl, fun p hp => q p _ hp (Ex.new hp) upd_same⟩
/-- a list of its own, none of those at X -/
def Own (X : List Addr) (H : Hp) (q : Addr) (row : List V) : Prop := (∀ a ∈ X, q ≠ a) ∧ H q = some (.lst row)
theorem own_mono {X : List Addr} {H H' : Hp} {q : Addr} {row : List V} (e : Ex H H') (h : Own X H q row) : Own X H' q row := ⟨h.1, e _ _ h.2⟩
theorem Rw.sub {X X' : List Addr} {H : Hp} {vs : List V} {rows : List (List V)} (h : Rw (Own X) H vs rows) (hs : ∀ a ∈ X', a ∈ X) : Rw (Own X') H vs rows :=
  ⟨h.1, fun i row hi => let ⟨q, h1, h2, h3⟩ := h.2 i row hi; ⟨q, h1, fun a ha => h2 a (hs a ha), h3⟩⟩
theorem Rw.own {X : List Addr} {H : Hp} {G : Addr} {vs : List V} {rows : List (List V)} {o : HO} (h : Rw (Own X) H vs rows) (hG : G ∈ X) : Rw (Own X) (upd H G o) vs rows :=
  ⟨h.1, fun i row hi => let ⟨q, h1, h2, h3⟩ := h.2 i row hi; ⟨q, h1, h2, by rw [upd_ne (h2 G hG)]; exact h3⟩⟩
theorem Rw.more {X : List Addr} {H : Hp} {G : Addr} {vs : List V} {rows : List (List V)} (h : Rw (Own X) H vs rows) (hG : H G = none) : Rw (Own (G :: X)) H vs rows :=
  ⟨h.1, fun i row hi => let ⟨q, h1, h2, h3⟩ := h.2 i row hi; ⟨q, h1, fun a ha => by
    rcases List.mem_cons.mp ha with rfl | ha
    · exact ne_of_none h3 hG
    · exact h2 a ha, h3⟩⟩
theorem l_neNilL {H : Hp} {Q : VK} {p q : Addr} {row : List Nat} (hp : H p = some (.lst (rowI row))) (hq : H q = some (.lst [])) (k : Q (.bl (!decide (row = []))) H) : rNeA K (.ref p) (.ref q) H Q := by
  have e1 : rowI row = (row.map fun (x : Nat) => (x : Int)).map V.int := by unfold rowI; rw [List.map_map]; rfl
  rw [e1] at hp
  refine l_neNil hp hq ?_
  rw [show decide ((row.map fun (x : Nat) => (x : Int)) = []) = decide (row = []) by cases row <;> simp]
  exact k
def strV (ws : List Str) : List V := ws.map V.str
def spLs (K : PySem.W.Frag) : Sp := fun vs H Q _ => ∃ (a : Addr) (zs : List Str), vs = [.ref a] ∧ H a = some (.lst (zs.map V.str)) ∧ zs.length ≤ 6 ∧ ∀ p qs H', Ex H H' → H' p = some (.lst qs) → Rw (SqT K) H' qs ((subs zs).map strV) → Q (.ref p) H'
set_option maxHeartbeats 4000000 in
theorem ok_lsubs (T : Tp K mg) : Cal P w K mg base 1 "_law_subsets" (spLs K) [] := by
  refine T.d__law_subsets.cal sc__law_subsets (fun vs H Q E h => ?_) (fun f cdv A outer s H vs Q E hr h => ?_)
  · obtain ⟨a, zs, rfl, _⟩ := h
    rfl
  · obtain ⟨a, zs, rfl, hz, hl, q⟩ := h
    have sc := sc__law_subsets
    refine ⟨_, 
    (pss_cons (ps_set (i := 1) sc.nd rfl (by first | exact Or.inl rfl | exact Or.inr rfl) (pe_lst (pa_nil)))
    (pss_cons (ps_for PassesOwn.never rfl (pi_range1 (by rfl) T.m_range (pa_cons (pe_op (kAdd (K := K) rfl) (pe_callB (kLen (K := K) rfl) (by rfl) T.m_len PySem.boot_len (pa_cons (pv 0) pa_nil)) (pe_int)) pa_nil)) (pg_name (i := 2) sc.nd rfl (by first | exact Or.inl rfl | exact Or.inr rfl)) (
      (pss_cons (ps_set (i := 3) sc.nd rfl (by first | exact Or.inl rfl | exact Or.inr rfl) (pe_lst (pa_cons (pe_lst (pa_nil)) pa_nil)))
      (pss_cons (ps_for PassesOwn.never rfl (pi_range1 (by rfl) T.m_range (pa_cons (pv 2) pa_nil)) (pg_name (i := 4) sc.nd rfl (by first | exact Or.inl rfl | exact Or.inr rfl)) (
        (pss_cons (ps_set (i := 5) sc.nd rfl (by first | exact Or.inl rfl | exact Or.inr rfl) (pe_lst (pa_nil)))
        (pss_cons (ps_for PassesOwn.never rfl (kIT (K := K) rfl (pv 3)) (pg_name (i := 6) sc.nd rfl (by first | exact Or.inl rfl | exact Or.inr rfl)) (
          (pss_cons (ps_set (i := 7) sc.nd rfl (by first | exact Or.inl rfl | exact Or.inr rfl) (pe_int))
          (pss_cut (ps_if (pt_cmpR (kNe (K := K) rfl hr) (pv 6) (pe_lst (pa_nil)) (nomark _)) (
            (pss_one (ps_set (i := 7) sc.nd rfl (by first | exact Or.inl rfl | exact Or.inr rfl) (pe_op (kAdd (K := K) rfl) (pe_ix (kIx (K := K) rfl) (pv 6) (pe_un un_neg (pe_int)) (fun _ _ => rfl)) (pe_int))))) (pss_nil))
          (pss_one (ps_for PassesOwn.never rfl (pi_range2 (by rfl) T.m_range (pa_cons (pv 7) (pa_cons (pe_callB (kLen (K := K) rfl) (by rfl) T.m_len PySem.boot_len (pa_cons (pv 0) pa_nil)) pa_nil))) (pg_name (i := 8) sc.nd rfl (by first | exact Or.inl rfl | exact Or.inr rfl)) (
            (pss_one (ps_expr (kBm (K := K) rfl PySem.F.plainAttrs_list PySem.F.slot_list_append PySem.F.type_list_append mt_append (pv 5) (pa_cons (pe_op (kAdd (K := K) rfl) (pv 6) (pe_lst (pa_cons (pv 8) pa_nil))) pa_nil)))))))))))
        (pss_one (ps_set (i := 3) sc.nd rfl (by first | exact Or.inl rfl | exact Or.inr rfl) (pe_callTy (k_list (K := K) rfl) (by rfl) T.m_list (by decide +kernel) (pa_cons (pv 5) pa_nil))))))))
      (pss_one (ps_for PassesOwn.never rfl (kIT (K := K) rfl (pv 3)) (pg_name (i := 6) sc.nd rfl (by first | exact Or.inl rfl | exact Or.inr rfl)) (
        (pss_one (ps_expr (kBm (K := K) rfl PySem.F.plainAttrs_list PySem.F.slot_list_append PySem.F.type_list_append mt_append (pv 1) (pa_cons (pe_callTy (k_tuple (K := K) rfl) (by rfl) T.m_tuple (by decide +kernel) (pa_cons (pe_lc (own := [("_law_at", 8)]) (by rfl) sc.nd (kIT (K := K) rfl (pv 6)) (blkOk_by (N := ["_law_items", "_law_found", "_law_size", "_law_rows", "_law_turn", "_law_longer", "_law_row", "_law_start", "_law_at"]) (sc := defScope s__law_subsets) (by decide +kernel)) (fun _ _ _ _ _ => pg_name (i := 8) sc.nd rfl (by first | exact Or.inl rfl | exact Or.inr rfl)) (fun _ _ _ _ _ => pts_nil) (fun _ _ _ _ _ => pe_ix (kIx (K := K) rfl) (pv 0) (pv 8) (fun _ _ => rfl))) pa_nil)) pa_nil)))))))))))
    (pss_one (ps_ret (pv 1))))), ?_⟩
    try rw [cxK]
    refine i_start (τ := [some (.ref a), none, none, none, none, none, none, none, none]) rfl ?_
    walk_at "go"
    intro F hF
    have e1 : Ex H (upd H F (.lst [])) := Ex.new hF
    have w1 : (upd H F (.lst [])) F = some (.lst []) := upd_same
    generalize (upd H F (.lst [])) = H1 at e1 w1 ⊢
    have hz1 := e1 _ _ hz
    walk_at "go"
    refine ⟨((zs.map V.str).length : Int) + 1, rfl, by rw [List.length_map]; omega, by rw [List.length_map]; omega, ?_⟩
    have en : (((zs.map V.str).length : Int) + 1).toNat = zs.length + 1 := by rw [List.length_map]; omega
    rw [en]
    refine for_rng (fun i σ H' => ∃ (v2 v3 v4 v5 v6 v7 v8 : Option V) (qs : List V), σ = [some (.ref a), some (.ref F), v2, v3, v4, v5, v6, v7, v8] ∧ Ex H H' ∧ H' F = some (.lst qs) ∧ Rw (SqT K) H' qs ((subsTo zs i).map strV)) ⟨none, none, none, none, none, none, none, [], rfl, e1, w1, Rw.nil⟩ ?_ ?_
    · rintro i σ J hi ⟨v2, v3, v4, v5, v6, v7, v8, qs, rfl, eJ, hF1, hR⟩
      have hzJ := eJ _ _ hz
      have hbd := comb_bd zs.length hl i (by omega)
      walk_at "go"
      intro l0 hl0
      have f1 : Ex J (upd J l0 (.lst [])) := Ex.new hl0
      have u1 : (upd J l0 (.lst [])) l0 = some (.lst []) := upd_same
      generalize (upd J l0 (.lst [])) = J1 at f1 u1 ⊢
      walk_at "go"
      intro p0 hp0
      have f2 : Ex J1 (upd J1 p0 (.lst [.ref l0])) := Ex.new hp0
      have u2 : (upd J1 p0 (.lst [.ref l0])) p0 = some (.lst [.ref l0]) := upd_same
      generalize (upd J1 p0 (.lst [.ref l0])) = J2 at f2 u2 ⊢
      walk_at "go"
      refine ⟨_, rfl, by omega, by omega, ?_⟩
      have en2 : ((0 : Int) + (i : Int)).toNat = i := by omega
      rw [en2]
      have hF2 := f2 _ _ (f1 _ _ hF1)
      have hl0F : l0 ≠ F := (ne_of_none hF1 hl0).symm
      have hp0F : p0 ≠ F := (ne_of_none (f1 _ _ hF1) hp0).symm
      refine for_rng (fun t σ H' => ∃ (p : Addr) (rs : List V) (w4 w5 w6 w7 w8 : Option V), σ = [some (.ref a), some (.ref F), some (.int (0 + (i : Int))), some (.ref p), w4, w5, w6, w7, w8] ∧ Ex J2 H' ∧ p ≠ F ∧ H' p = some (.lst rs) ∧ Rw (Own [F]) H' rs ((comb zs.length t).map rowI)) ⟨p0, [.ref l0], v4, v5, v6, v7, v8, rfl, Ex.refl _, hp0F, u2, Rw.snoc (vs := []) (rows := []) Rw.nil ⟨fun b hb => (by rw [List.mem_singleton.mp hb]; exact hl0F), f2 _ _ u1⟩⟩ ?_ ?_
      · rintro t σ M ht ⟨p, rs, w4, w5, w6, w7, w8, rfl, eM, hpF, hp, hRM⟩
        have hbd2 := comb_bd zs.length hl (t + 1) (by omega)
        have hzM := eM _ _ (f2 _ _ (f1 _ _ hzJ))
        have hFM := eM _ _ hF2
        walk_at "go"
        intro gg hG
        have g1 : Ex M (upd M gg (.lst [])) := Ex.new hG
        have t1 : (upd M gg (.lst [])) gg = some (.lst []) := upd_same
        generalize (upd M gg (.lst [])) = M1 at g1 t1 ⊢
        have hGF : gg ≠ F := (ne_of_none hFM hG).symm
        have hpG : p ≠ gg := ne_of_none hp hG
        have haG : a ≠ gg := ne_of_none hzM hG
        have hRG : Rw (Own [gg, F]) M rs ((comb zs.length t).map rowI) := hRM.more hG
        have hlr : rs.length = (comb zs.length t).length := by rw [hRM.1, List.length_map]
        walk_at "go"
        refine i_anyL ?_
        walk_at "go"
        refine ⟨p, rfl, ⟨_, SqL.of (g1 _ _ hp)⟩, ?_⟩
        refine for_lst (K := K) (a := p) (xs := rs) (fun j σ H' => ∃ (ls : List V) (x6 x7 x8 : Option V), σ = [some (.ref a), some (.ref F), some (.int (0 + (i : Int))), some (.ref p), some (.int (0 + (t : Int))), some (.ref gg), x6, x7, x8] ∧ Ex M H' ∧ H' gg = some (.lst ls) ∧ Rw (Own [gg, F]) H' ls ((((comb zs.length t).take j).flatMap (nexts zs.length)).map rowI)) ⟨[], w6, w7, w8, rfl, g1, t1, Rw.nil⟩ ?_ ?_ ?_
        · rintro j σ H' hj ⟨ls, x6, x7, x8, rfl, e4, hg, hR4⟩
          exact .of (e4 _ _ hp)
        · rintro j x σ H4 hx ⟨ls, x6, x7, x8, rfl, e4, hg, hR4⟩
          obtain ⟨row', qx, hrow', rfl, hqX, hq0⟩ := hRG.at hx
          rw [List.getElem?_map] at hrow'
          cases hrow : (comb zs.length t)[j]? with
          | none => rw [hrow] at hrow'; cases hrow'
          | some row =>
          rw [hrow] at hrow'
          obtain rfl : rowI row = row' := Option.some.inj hrow'
          have hin := comb_lt t row (List.mem_of_getElem? hrow)
          have hlow := low_le hin.1
          walk_at "go"
          refine ⟨fun σ H' => ∃ z7, σ = [some (.ref a), some (.ref F), some (.int (0 + (i : Int))), some (.ref p), some (.int (0 + (t : Int))), some (.ref gg), some (.ref qx), some (.int z7), x8] ∧ z7 = (low row : Int) ∧ Ex H4 H', ?_, ?_⟩
          · walk_at "go"
            intro qe hqe
            have e5 : Ex H4 (upd H4 qe (.lst [])) := Ex.new hqe
            have w5 : (upd H4 qe (.lst [])) qe = some (.lst []) := upd_same
            generalize (upd H4 qe (.lst [])) = H5 at e5 w5 ⊢
            walk_at "go"
            refine l_neNilL (e5 _ _ (e4 _ _ hq0)) w5 ?_
            walk_at "go"
            refine i_iteN (fun hz => ?_) (fun hz => ?_)
            · obtain ⟨x, hx2, hl2⟩ := row_last hz
              walk_at "go"
              refine ⟨_, _, .inl (.of (e5 _ _ (e4 _ _ hq0))), hx2, ?_⟩
              walk_at "go"
              exact ⟨_, rfl, by rw [hl2]; rfl, e5⟩
            · walk_at "go"
              exact ⟨_, rfl, by rw [hz]; rfl, e5⟩
          rintro σ H5 ⟨z7, rfl, rfl, e5⟩
          have hz5 := e5 _ _ (e4 _ _ hzM)
          walk_at "go"
          refine ⟨(low row : Int), ((zs.map V.str).length : Int), rfl, ⟨by omega, by omega, by omega, by rw [List.length_map]; omega⟩, ?_⟩
          have en3 : (((zs.map V.str).length : Int) - (low row : Int)).toNat = zs.length - low row := by rw [List.length_map]; omega
          rw [en3]
          have hfl := flat_le (nexts zs.length) (comb zs.length t) (j + 1)
          rw [take_succ hrow, List.flatMap_append, List.length_append] at hfl
          have hnx : ((nexts zs.length) row).length = zs.length - low row := by unfold nexts; rw [List.length_map, List.length_range]
          have hfl2 : (((comb zs.length t).take j).flatMap (nexts zs.length)).length + (zs.length - low row) ≤ 20 := by
            have : ([row].flatMap (nexts zs.length)).length = zs.length - low row := by rw [List.flatMap_singleton, hnx]
            have h20 : ((comb zs.length t).flatMap (nexts zs.length)).length ≤ 20 := hbd2
            omega
          refine for_rng (fun m σ H' => ∃ (ls : List V) (x8 : Option V), σ = [some (.ref a), some (.ref F), some (.int (0 + (i : Int))), some (.ref p), some (.int (0 + (t : Int))), some (.ref gg), some (.ref qx), some (.int (low row : Int)), x8] ∧ Ex M H' ∧ H' gg = some (.lst ls) ∧ Rw (Own [gg, F]) H' ls ((((comb zs.length t).take j).flatMap (nexts zs.length) ++ (List.range m).map fun j' => row ++ [low row + j']).map rowI)) ?_ ?_ ?_
          · refine ⟨ls, x8, rfl, e4.trans e5, e5 _ _ hg, ?_⟩
            simp only [List.range_zero, List.map_nil, List.append_nil]
            exact Rw.mono (S := Own [gg, F]) own_mono hR4 e5
          · rintro m σ H6 hm ⟨ls6, y8, rfl, e6, hg6, hR6⟩
            walk_at "go"
            refine ⟨.inl ⟨rfl, _, .of hg6⟩, ?_⟩
            walk_at "go"
            intro qt hqt
            have e7 : Ex H6 (upd H6 qt (.lst [.int ((low row : Int) + (m : Int))])) := Ex.new hqt
            have w7 : (upd H6 qt (.lst [.int ((low row : Int) + (m : Int))])) qt = some (.lst [.int ((low row : Int) + (m : Int))]) := upd_same
            generalize (upd H6 qt (.lst [.int ((low row : Int) + (m : Int))])) = H7 at e7 w7 ⊢
            refine e_addL (e7 _ _ (e6 _ _ hq0)) w7 (by unfold rowI; rw [List.length_map, hin.2]; have : t < i := ht; simp; omega) fun q8 H8 hq8 e8 w8' => ?_
            have hg8 := e8 _ _ (e7 _ _ hg6)
            walk_at "go"
            refine ⟨gg, ls6, .ref q8, rfl, rfl, hg8, sz (by rw [hR6.1, List.length_map, List.length_append, List.length_map, List.length_range]; omega), ?_⟩
            walk_at "go"
            have hF8 := e8 _ _ (e7 _ _ (e6 _ _ hFM))
            refine ⟨ls6 ++ [.ref q8], _, rfl, Ex.mut (e6.trans (e7.trans e8)) hG, upd_same, ?_⟩
            have hrow8 : Own [gg, F] H8 q8 (rowI (row ++ [low row + m])) := by
              refine ⟨fun b hb => ?_, by rw [rowI_app]; exact w8'⟩
              have hF7 := e7 _ _ (e6 _ _ hFM)
              have hg7 := e7 _ _ hg6
              simp only [List.mem_cons, List.not_mem_nil, or_false] at hb
              rcases hb with rfl | rfl
              · exact (ne_of_none hg7 hq8).symm
              · exact (ne_of_none hF7 hq8).symm
            have hR8 := Rw.snoc (Rw.mono (S := Own [gg, F]) own_mono hR6 (e7.trans e8)) hrow8
            have hR9 := hR8.own (o := .lst (ls6 ++ [V.ref q8])) (G := gg) List.mem_cons_self
            simp only [List.range_succ, List.map_append, List.map_cons, List.map_nil, List.append_assoc] at hR9 ⊢
            exact hR9
          · rintro σ H6 ⟨ls6, y8, rfl, e6, hg6, hR6⟩
            walk_at "go"
            refine ⟨ls6, _, _, _, rfl, e6, hg6, ?_⟩
            rw [take_succ hrow, List.flatMap_append, List.flatMap_singleton]
            exact hR6
        · rintro σ H4 ⟨ls, x6, x7, x8, rfl, e4, hg, hR4⟩
          walk_at "go"
          refine ⟨_, .inl (.of hg), fun l hl4 => ?_⟩
          have e5 : Ex H4 (upd H4 l (.lst ls)) := Ex.new hl4
          have hlF : l ≠ F := (ne_of_none (e4 _ _ hFM) hl4).symm
          walk_at "go"
          refine ⟨l, ls, _, _, _, _, _, rfl, eM.trans (e4.trans e5), hlF, upd_same, ?_⟩
          rw [hlr, List.take_length] at hR4
          exact (Rw.mono (S := Own [gg, F]) own_mono hR4 e5).sub (by simp)
      · rintro σ M ⟨p, rs, w4, w5, w6, w7, w8, rfl, eM, hpF, hp, hRM⟩
        have hFM := eM _ _ hF2
        have hzM := eM _ _ (f2 _ _ (f1 _ _ hzJ))
        have haF : a ≠ F := fun e => by
          have := ne_of_none hz hF
          exact this e
        walk_at "go"
        refine i_anyL ?_
        walk_at "go"
        refine ⟨p, rfl, ⟨_, SqL.of hp⟩, ?_⟩
        have hlr : rs.length = (comb zs.length i).length := by rw [hRM.1, List.length_map]
        have eHM : Ex H M := eJ.trans (f1.trans (f2.trans eM))
        refine for_lst (K := K) (a := p) (xs := rs) (fun j σ H' => ∃ (qs' : List V) (x6 x8 : Option V), σ = [some (.ref a), some (.ref F), some (.int (0 + (i : Int))), some (.ref p), w4, w5, x6, w7, x8] ∧ Ex H H' ∧ But F M H' ∧ H' F = some (.lst qs') ∧ Rw (SqT K) H' qs' ((subsTo zs i).map strV ++ ((comb zs.length i).take j).map fun r => strV (pick zs r))) ⟨qs, w6, w8, rfl, eHM, But.refl _, hFM, ?_⟩ ?_ ?_ ?_
        · simp only [List.take_zero, List.map_nil, List.append_nil]
          exact Rw.mono (S := SqT K) sqT_mono hR (f1.trans (f2.trans eM))
        · rintro j σ H' hj ⟨_, _, _, rfl, _, b4, _, _⟩
          exact .of (b4 _ _ hpF hp)
        · rintro j x σ H4 hx ⟨qs', x6, x8, rfl, e4, b4, hF4, hR4⟩
          obtain ⟨row', qx, hrow', rfl, hqX, hq0⟩ := hRM.at hx
          rw [List.getElem?_map] at hrow'
          cases hrow : (comb zs.length i)[j]? with
          | none => rw [hrow] at hrow'; cases hrow'
          | some row =>
          rw [hrow] at hrow'
          obtain rfl : rowI row = row' := Option.some.inj hrow'
          have hin := comb_lt i row (List.mem_of_getElem? hrow)
          have hjl := (List.getElem?_eq_some_iff.mp hrow).1
          have hq4 := b4 _ _ (hqX F (by simp)) hq0
          have hz4 := e4 _ _ hz
          have hsl := subs_len hl i (by omega)
          walk_at "go"
          refine ⟨.inl ⟨rfl, _, .of hF4⟩, ?_⟩
          walk_at "go"
          refine i_anyL ⟨_, rfl, qx, rfl, ⟨_, .of hq4⟩, lc_mapL (f := atZ zs) (.of hq4) (by unfold rowI; rw [List.length_map, hin.2]; omega) (by intro x; rfl) ?_ ?_⟩
          · rintro x hx2 H5 R e5 kR
            obtain ⟨r, hr2, rfl⟩ := List.mem_map.mp hx2
            have hrl := hin.1 r hr2
            walk_at "go"
            refine ⟨_, _, .inl (.of (e5 _ _ hz4)), atI_nat (j := r) (by rw [List.getElem?_map, List.getElem?_eq_getElem hrl]; rfl), ?_⟩
            have q5 := kR H5 (Ex.refl _)
            have ez : atZ zs (.int (r : Int)) = .str zs[r] := by
              show V.str (zs.getD ((r : Int).toNat) "") = _
              rw [show ((r : Int)).toNat = r from rfl]
              simp [List.getD, List.getElem?_eq_getElem hrl]
            rw [ez] at q5
            exact q5
          · intro D H5 hD e5 hD5
            rw [row_at] at hD5
            walk_at "go"
            refine ⟨_, .inl ⟨.of hD5, fun l hl5 => ?_⟩⟩
            have e6 : Ex H5 (upd H5 l (.tup ((pick zs row).map V.str))) := Ex.new hl5
            have w6' : (upd H5 l (.tup ((pick zs row).map V.str))) l = some (.tup (strV (pick zs row))) := upd_same
            generalize (upd H5 l (.tup ((pick zs row).map V.str))) = H6 at e6 w6' ⊢
            have hF6 := e6 _ _ (e5 _ _ hF4)
            walk_at "go"
            refine ⟨F, qs', .ref l, rfl, rfl, hF6, sz (by rw [hR4.1, List.length_append, List.length_map, List.length_map, List.length_take]; omega), ?_⟩
            walk_at "go"
            refine ⟨qs' ++ [.ref l], _, _, rfl, Ex.mut (e4.trans (e5.trans e6)) hF, (b4.trans (e5.trans e6).but).mut, upd_same, ?_⟩
            have hR6 := (Rw.snoc (Rw.mono (S := SqT K) sqT_mono hR4 (e5.trans e6)) (SqT.of (K := K) w6')).updL (o := .lst (qs' ++ [V.ref l])) hF6
            rw [take_succ hrow, List.map_append, ← List.append_assoc]
            exact hR6
        · rintro σ H4 ⟨qs', x6, x8, rfl, e4, b4, hF4, hR4⟩
          walk_at "go"
          refine ⟨_, _, _, _, _, _, _, qs', rfl, e4, hF4, ?_⟩
          rw [subsTo_succ, List.map_append, List.map_map]
          rw [hlr, List.take_length] at hR4
          exact hR4
    · rintro σ J ⟨v2, v3, v4, v5, v6, v7, v8, qs, rfl, eJ, hF1, hR⟩
      walk_at "go"
      exact q F qs J eJ hF1 hR
end
end K
namespace K
open PySem PySem.Spec PyProof.Rows L2 G TL
local macro_rules | `(tactic| walk_at "side") => `(tactic| focus (first | assumption | exact rfl | omega | decide))
local macro_rules | `(tactic| walk_at "ty") => `(tactic| focus (first | exact .base (.str _) | exact .base (.int _) | exact .base (.bl _) | exact .base .non | exact .base (.lst (by assumption)) | exact .base (.tup (by assumption)) | exact .base (.dK (by assumption)) | assumption))
local macro_rules | `(tactic| walk_at "kt") => `(tactic| focus (with_reducible first | exact kt_NoneType_str | exact kt_NoneType_int | exact kt_NoneType_bool | exact kt_NoneType_tuple | exact kt_NoneType_list | exact kt_NoneType_dict | exact kt_bool_str | exact kt_bool_int | exact kt_bool_bool | exact kt_bool_tuple | exact kt_bool_list | exact kt_bool_dict | exact kt_int_str | exact kt_int_int | exact kt_int_bool | exact kt_int_tuple | exact kt_int_list | exact kt_int_dict | exact kt_str_str | exact kt_str_int | exact kt_str_bool | exact kt_str_tuple | exact kt_str_list | exact kt_str_dict | exact kt_list_str | exact kt_list_int | exact kt_list_bool | exact kt_list_tuple | exact kt_list_list | exact kt_list_dict | exact kt_tuple_str | exact kt_tuple_int | exact kt_tuple_bool | exact kt_tuple_tuple | exact kt_tuple_list | exact kt_tuple_dict | exact kt_dict_str | exact kt_dict_int | exact kt_dict_bool | exact kt_dict_tuple | exact kt_dict_list | exact kt_dict_dict | assumption))
local macro_rules | `(tactic| walk_at "1") => `(tactic| first
  | (with_reducible refine i_seq ?_)
  | (with_reducible refine iteT ?_)
  | (with_reducible refine iteF ?_)
  | (with_reducible refine iteNF ?_)
  | (with_reducible refine iteNT ?_)
  | (with_reducible refine i_asg ?_)
  | (with_reducible refine i_op ?_)
  | (with_reducible refine i_c ?_)
  | ((with_reducible apply i_var); (exact rfl))
  | (with_reducible refine i_cb ?_)
  | (with_reducible refine i_cons ?_)
  | (with_reducible refine i_nil ?_)
  | (with_reducible refine i_test ?_)
  | (with_reducible refine i_b ?_)
  | (with_reducible refine i_bl ?_)
  | (with_reducible refine i_name ?_)
  | (with_reducible refine i_ifS ?_)
  | (with_reducible refine i_next ?_)
  | (with_reducible refine i_ret ?_)
  | (with_reducible refine i_drop ?_)
  | (with_reducible refine i_lst ?_)
  | (with_reducible refine i_tup ?_)
  | (with_reducible refine i_and ?_)
  | (with_reducible refine i_or ?_)
  | (with_reducible refine i_not ?_)
  | (with_reducible refine i_andV ?_)
  | (with_reducible refine i_orV ?_)
  | (with_reducible refine i_notV ?_)
  | (with_reducible refine i_if ?_)
  | (with_reducible refine i_chain ?_)
  | (with_reducible refine i_un ?_)
  | (with_reducible refine i_neg ?_)
  | (with_reducible refine i_sub ?_)
  | (with_reducible refine i_sl ?_)
  | (with_reducible refine i_noP ?_)
  | (with_reducible refine i_part ?_)
  | (with_reducible refine i_int ?_)
  | (with_reducible refine i_bm ?_)
  | (with_reducible refine i_strT ?_)
  | (with_reducible refine i_yes ?_)
  | (with_reducible refine i_call ?_)
  | ((with_reducible refine i_len ?_ ?_); (focus (exact sz (by simp))))
  | (with_reducible refine i_lc ?_)
  | (with_reducible refine i_for ?_)
  | (with_reducible refine i_rng1 ?_)
  | (with_reducible refine i_rng2 ?_)
  | (with_reducible refine l_addI ?_)
  | (with_reducible refine l_subI ?_)
  | (with_reducible refine l_cmp ?_)
  | (with_reducible refine l_eqI ?_)
  | (with_reducible refine l_eqS ?_)
  | (with_reducible refine l_eqB ?_)
  | (with_reducible refine l_neI ?_)
  | (with_reducible refine l_neS ?_)
  | (with_reducible refine l_neB ?_)
  | (with_reducible refine l_isN ?_)
  | (with_reducible refine l_isNotN ?_)
  | (with_reducible refine l_isB ?_)
  | (with_reducible refine l_isNotB ?_)
  | (with_reducible refine l_intI ?_)
  | (with_reducible refine l_intB ?_)
  | (with_reducible refine l_inC ?_)
  | (refine ⟨_, _, rfl, rfl, sz (by first | omega | simp; omega), ?_⟩)
  | ((with_reducible refine l_pow ?_ ?_); (focus (exact ⟨by decide, by decide, by decide⟩)))
  | ((with_reducible refine l_mul ?_ ?_); (focus (first | assumption | exact Or.inl (Or.inl ⟨by omega, by omega⟩) | exact Or.inl (Or.inr ⟨by omega, by omega⟩))))
  | ((with_reducible refine l_div ?_ ?_); (focus (first | assumption | exact ⟨by decide, by decide⟩)))
  | ((with_reducible apply l_setL); (assumption); (exact rfl))
  | ((with_reducible refine l_mod ?_ ?_); (walk_at "side"))
  | ((with_reducible apply l_ixL); (assumption); (exact rfl))
  | ((with_reducible refine l_lenS ?_ ?_); (focus (first | assumption | exact sz (by omega) | exact sz (by simp; omega))))
  | ((with_reducible refine l_slS ?_ ?_); (focus (first | assumption | exact sz (by omega))))
  | ((with_reducible apply l_isi); (walk_at "ty"); (walk_at "kt"))
  | ((with_reducible apply l_lenL); (assumption)))
local macro_rules | `(tactic| walk_at "go") => `(tactic| repeat (walk_at "1"))
local macro_rules | `(tactic| walk_at "1") => `(tactic| first
  | (with_reducible refine i_mkS ?_)
  | (with_reducible refine i_cS ?_)
  | (with_reducible refine i_fld ?_)
  | (with_reducible refine i_sFld ?_)
  | (with_reducible refine i_tX ?_)
  | (with_reducible refine l_len2 rfl rfl ?_))
section
variable {P : Program} {w : World} {K : PySem.W.Frag} {mg : Str → Option Value} {base : Heap}
theorem sh_strs (ns : List Str) (h : ∀ z ∈ ns, PyData.strOk z = true) : SeqAt.shaped (.list (ns.map PyData.str)) = true := by
  unfold SeqAt.shaped
  have h1 := depth_strs ns
  rw [PyData.canLay0, lay_strs ns h, PyData.depth]
  simp
  omega
theorem dp_strs {H : Hp} : ∀ ns : List Str, DpAll K H (ns.map V.str) (ns.map PyData.str)
  | [] => .nil
  | n :: ns => .cons (.str n) (dp_strs ns)
theorem l_eqD (h1 : Dp K H x d) (h2 : Dp K H y e) (s1 : SeqAt.shaped d = true) (s2 : SeqAt.shaped e = true) (hb : PyData.eqv d e = b) (q : Q (.bl b) H) : rEqA K x y H Q := .inr ⟨d, e, h1, h2, s1, s2, by rw [hb]; exact q⟩
theorem l_neD (h1 : Dp K H x d) (h2 : Dp K H y e) (s1 : SeqAt.shaped d = true) (s2 : SeqAt.shaped e = true) (hb : PyData.eqv d e = b) (q : Q (.bl (!b)) H) : rNeA K x y H Q := .inr ⟨d, e, h1, h2, s1, s2, by rw [hb]; exact q⟩
def tD (ws : List Str) : PyData := .tuple (ws.map .str)
theorem rw_dp {H : Hp} : ∀ (wss : List (List Str)) (vs : List V), Rw (SqT K) H vs (wss.map strV) → DpAll K H vs (wss.map tD)
  | [], [], _ => .nil
  | [], v :: vs, h => by have := h.1; simp at this
  | ws :: wss, [], h => by have := h.1; simp at this
  | ws :: wss, v :: vs, h => by
    obtain ⟨q, h1, h2⟩ := h.2 0 (strV ws) rfl
    have e : v = .ref q := Option.some.inj h1
    subst e
    exact .cons (.tup h2 (dp_strs ws)) (rw_dp wss vs ⟨by have := h.1; simp at this ⊢; exact this, fun i row hi => h.2 (i + 1) row hi⟩)
theorem lay_ts : ∀ wss : List (List Str), (∀ ws ∈ wss, ∀ z ∈ ws, PyData.strOk z = true) → PyData.canLayAll0 (wss.map tD) = true
  | [], _ => rfl
  | ws :: wss, h => by
    rw [List.map_cons, PyData.canLayAll0, lay_ts wss fun w hw => h w (List.mem_cons_of_mem _ hw)]
    unfold tD
    rw [PyData.canLay0, lay_strs ws (h ws List.mem_cons_self)]
    rfl
theorem depth_ts : ∀ wss : List (List Str), PyData.depthAll (wss.map tD) ≤ 2
  | [] => by rw [List.map_nil, PyData.depthAll]; omega
  | ws :: wss => by
    have h1 := depth_ts wss
    have h2 := depth_strs ws
    rw [List.map_cons, PyData.depthAll]
    unfold tD at h1 ⊢
    rw [PyData.depth]
    omega
theorem sh_ts (wss : List (List Str)) (h : ∀ ws ∈ wss, ∀ z ∈ ws, PyData.strOk z = true) : SeqAt.shaped (.list (wss.map tD)) = true := by
  unfold SeqAt.shaped
  have h1 := depth_ts wss
  rw [PyData.canLay0, lay_ts wss h, PyData.depth, Bool.true_and]
  exact decide_eq_true (by omega)
theorem sh_t (ws : List Str) (h : ∀ z ∈ ws, PyData.strOk z = true) : SeqAt.shaped (tD ws) = true := by
  unfold SeqAt.shaped tD
  have h1 := depth_strs ws
  rw [PyData.canLay0, lay_strs ws h, PyData.depth, Bool.true_and]
  exact decide_eq_true (by omega)
theorem subs_ok {zs : List Str} (h : ∀ z ∈ zs, PyData.strOk z = true) : ∀ n, n ≤ zs.length + 1 → ∀ ws ∈ subsTo zs n, ∀ z ∈ ws, PyData.strOk z = true
  | 0, _, ws, hw => by simp [subsTo] at hw
  | n + 1, hn, ws, hw => fun z hz => by
    rw [subsTo_succ] at hw
    rcases List.mem_append.mp hw with hw | hw
    · exact subs_ok h n (by omega) ws hw z hz
    · obtain ⟨row, hr, rfl⟩ := List.mem_map.mp hw
      obtain ⟨r, hr2, rfl⟩ := List.mem_map.mp hz
      have hlt := (comb_lt n row hr).1 r hr2
      rw [List.getD_eq_getElem?_getD, List.getElem?_eq_getElem hlt]
      exact h _ (List.getElem_mem hlt)
theorem eqv_sh {d : PyData} (h : SeqAt.shaped d = true) : PyData.eqv d d = true := PySem.SeqAt.eqv_refl d (SeqAt.canLay_of_shaped h)
abbrev itsOf (K : PySem.W.Frag) (zs : List Str) : GN.Its := (subs zs).map (fun ws => fun x H => ∃ b, x = .ref b ∧ SqT K H b (ws.map V.str))
theorem out_rw {zs : List Str} {ys : List V} {H : Hp} (o : GN.Out (itsOf K zs) ys H) (hl : ys.length = (itsOf K zs).length) : Rw (SqT K) H ys ((subs zs).map strV) := by
  rw [List.length_map] at hl
  refine ⟨by rw [List.length_map]; exact hl, fun i row hi => ?_⟩
  have hlt := (List.getElem?_eq_some_iff.mp hi).1
  rw [List.length_map] at hlt
  obtain ⟨p, Hy, h1, h2, h3⟩ := o i ys[i] (List.getElem?_eq_getElem (by omega))
  rw [List.getElem?_map, List.getElem?_eq_getElem hlt] at h1
  rw [List.getElem?_map, List.getElem?_eq_getElem hlt] at hi
  have e1 := Option.some.inj h1
  have e2 := Option.some.inj hi
  subst e1 e2
  obtain ⟨b, hb, hs⟩ := h2
  exact ⟨b, by rw [List.getElem?_eq_getElem (by omega), hb], sqT_mono h3 hs⟩
theorem sqT_kpn {H H' : Hp} {a : Addr} {xs : List V} (k : GN.KpN H H') (h : SqT K H a xs) : SqT K H' a xs := by
  rcases h with (h | ⟨o, h⟩) | h
  · exact .inl (.inl (k _ _ h fun φ z => by cases z))
  · exact .inl (.inr ⟨o, k _ _ h fun φ z => by cases z⟩)
  · exact .inr h
theorem subs_lt {zs : List Str} (h : zs.length ≤ 6) : (itsOf K zs).length < sizeLine := by
  rw [List.length_map]
  have := subs_len h (zs.length + 1) (by omega)
  unfold subs
  exact sz (by omega)
theorem l_neNilS {H : Hp} {Q : VK} {p q : Addr} {zs : List Str} (hp : H p = some (.lst (zs.map V.str))) (hq : H q = some (.lst [])) (hs : ∀ z ∈ zs, PyData.strOk z = true) (k : Q (.bl (!decide (zs = []))) H) : rNeA K (.ref p) (.ref q) H Q :=
  l_neD (d := .list (zs.map .str)) (e := .list []) (.lst (.of hp) (dp_strs zs)) (.lst (.of hq) .nil) (sh_strs _ hs) (by decide) (by cases zs <;> simp [PyData.eqv, PyData.eqvAll]) k
def spLaw (K : PySem.W.Frag) : Sp := fun vs H Q _ => ∃ (a : Addr) (ns : List Int), vs = [.ref a] ∧ SqL K H a (ns.map V.int) ∧ ns.length ≤ 63 ∧ ∀ H', Q (.bl true) H'
set_option maxHeartbeats 8000000 in
theorem ok_law (T : Tp K mg) {fa : Addr} (hfa : mg "law" = some (.ref fa)) :
    ∃ fd : FuncData, (∃ (kV doc pm : Value) (an : Option Addr) (cdv ct : Value), fd = PySem.W.fnOf "law" "law" (defArgs s_law) (defBody s_law) (defScope s_law) .none kV doc pm an cdv ct) ∧ ∀ base : Heap, FnOk P w K mg base CX0 6 fa fd ["_law_script"] (spLaw K) := by
  refine T.d_law.law (k := 5) sc_law hfa (fun vs H Q E h => ?_) (fun base f cdv A outer s H vs Q E hr h => ?_)
  · obtain ⟨a, ns, rfl, _⟩ := h
    rfl
  · obtain ⟨a, ns, rfl, hS, hl, q⟩ := h
    have sc := sc_law
    have c__law_open : Cal P w K mg base 1 "_law_open" (spOpenL K) [] := ok_open T
    have c__law_draw : Cal P w K mg base 1 "_law_draw" spDrawL [] := ok_draw T
    have c__law_word : Cal P w K mg base 2 "_law_word" spWord [] := ok_word T
    have c__law_subsets : Cal P w K mg base 1 "_law_subsets" (spLs K) [] := ok_lsubs T
    have c_subsets : GN.CalY P w K mg base 2 "subsets" (spSubs K) [] := ok_subsets T
    refine ⟨_, 
    (pss_cons (ps_set (i := 1) sc.nd rfl (by first | exact Or.inl rfl | exact Or.inr rfl) (pe_c c__law_open hr (by decide) (by rfl) (pa_cons (pv 0) pa_nil)))
    (pss_cons (ps_set (i := 2) sc.nd rfl (by first | exact Or.inl rfl | exact Or.inr rfl) (pe_lst (pa_nil)))
    (pss_cons (ps_for PassesOwn.never rfl (pi_range1 (by rfl) T.m_range (pa_cons (pe_c c__law_draw hr (by decide) (by rfl) (pa_cons (pv 1) (pa_cons (pe_int) pa_nil))) pa_nil)) (pg_name (i := 3) sc.nd rfl (by first | exact Or.inl rfl | exact Or.inr rfl)) (
      (pss_one (ps_if (pt_cut (PW.pt (pw_and (pt_cmpR (kNe (K := K) rfl hr) (pv 2) (pe_lst (pa_nil)) (nomark _)) (pw_and1 (pt_cmpR (kEq (K := K) rfl hr) (pe_c c__law_draw hr (by decide) (by rfl) (pa_cons (pv 1) (pa_cons (pe_int) pa_nil))) (pe_int) (nomark _)))))) (
        (pss_one (ps_expr (kBm (K := K) rfl PySem.F.plainAttrs_list PySem.F.slot_list_append PySem.F.type_list_append mt_append (pv 2) (pa_cons (pe_ix (kIx (K := K) rfl) (pv 2) (pe_int) (fun _ _ => rfl)) pa_nil))))) (
        (pss_one (ps_expr (kBm (K := K) rfl PySem.F.plainAttrs_list PySem.F.slot_list_append PySem.F.type_list_append mt_append (pv 2) (pa_cons (pe_c c__law_word hr (by decide) (by rfl) (pa_cons (pv 1) (pa_cons (pe_str) pa_nil))) pa_nil)))))))))
    (pss_cons (ps_set (i := 4) sc.nd rfl (by first | exact Or.inl rfl | exact Or.inr rfl) (pe_callTy (k_list (K := K) rfl) (by rfl) T.m_list (by decide +kernel) (pa_cons (pv 2) pa_nil)))
    (pss_cons (ps_set (i := 5) sc.nd rfl (by first | exact Or.inl rfl | exact Or.inr rfl) (pe_c c__law_subsets hr (by decide) (by rfl) (pa_cons (pv 2) pa_nil)))
    (pss_cons (ps_if (pt_cut (PW.pt (pw_or (pt_cmpR (kNe (K := K) rfl hr) (GN.pe_listY (GN.pgy_c c_subsets hr (by decide) (by rfl) (pa_cons (pv 2) pa_nil)) hr (by decide) (by rfl) T.m_list) (pv 5) (nomark _)) (pw_or (pt_cmpR (kNe (K := K) rfl hr) (GN.pe_listY (GN.pgy_c c_subsets hr (by decide) (by rfl) (pa_cons (pe_callTy (k_tuple (K := K) rfl) (by rfl) T.m_tuple (by decide +kernel) (pa_cons (pv 2) pa_nil)) pa_nil)) hr (by decide) (by rfl) T.m_list) (pv 5) (nomark _)) (pw_or1 (pt_cmpR (kNe (K := K) rfl hr) (pv 2) (pv 4) (nomark _))))))) (
      (pss_one (ps_ret (pe_bl)))) (pss_nil))
    (pss_cons (ps_set (i := 6) sc.nd rfl (by first | exact Or.inl rfl | exact Or.inr rfl) (pe_int))
    (pss_cons (GN.ps_forY (hr.mono (by decide)) rfl (GN.pgy_c c_subsets hr (by decide) (by rfl) (pa_cons (pv 2) pa_nil)) (pg_name (i := 7) sc.nd rfl (by first | exact Or.inl rfl | exact Or.inr rfl)) (
      (pss_cons (ps_if (pt_cut (PW.pt (pw_or (pt_not (pt_val (pe_callB (kIsi (K := K) rfl) (by rfl) T.m_isinstance (by decide +kernel) (pa_cons (pv 7) (pa_cons (gTy (n := "tuple") (by rfl) T.m_tuple (by decide +kernel)) pa_nil))))) (pw_or1 (pt_cmpR (kNe (K := K) rfl hr) (pv 7) (pe_ix (kIx (K := K) rfl) (pv 5) (pv 6) (fun _ _ => rfl)) (nomark _)))))) (
        (pss_one (ps_ret (pe_bl)))) (pss_nil))
      (pss_one (ps_set (i := 6) sc.nd rfl (by first | exact Or.inl rfl | exact Or.inr rfl) (pe_op (kAdd (K := K) rfl) (pv 6) (pe_int)))))))
    (pss_one (ps_ret (pe_and (pe_cmpR (kEq (K := K) rfl hr) (pv 6) (pe_callB (kLen (K := K) rfl) (by rfl) T.m_len PySem.boot_len (pa_cons (pv 5) pa_nil)) (nomark _)) (pe_one (pe_cmpR (kEq (K := K) rfl hr) (GN.pe_listY (GN.pgy_c c_subsets hr (by decide) (by rfl) (pa_cons (pe_lst (pa_nil)) pa_nil)) hr (by decide) (by rfl) T.m_list) (pe_lst (pa_cons (pe_tup (pa_nil)) pa_nil)) (nomark _)))))))))))))), ?_⟩
    try rw [cxK]
    refine i_start (τ := [some (.ref a), none, none, none, none, none, none, none]) rfl ?_
    walk_at "go"
    refine ⟨a, ns, rfl, hS, hl, fun st L H1 hst hL d1 e1 => ?_⟩
    walk_at "go"
    intro p hp
    have e2 : Ex H1 (upd H1 p (.lst [])) := Ex.new hp
    have w2 : (upd H1 p (.lst [])) p = some (.lst []) := upd_same
    generalize (upd H1 p (.lst [])) = H2 at e2 w2 ⊢
    have hpne := d1.ne hp
    walk_at "go"
    refine drawL (d1.mono e2) (by decide) (by decide) (by omega) fun r H3 r0 r1 hD3 b3 => ?_
    walk_at "go"
    refine ⟨r, rfl, by omega, by omega, ?_⟩
    obtain ⟨n, rfl⟩ := Int.eq_ofNat_of_zero_le r0
    have hn : n < 7 := by omega
    refine for_rng (fun i σ H' => ∃ (zs : List Str) (v3 : Option V), σ = [some (.ref a), some (.ref st), some (.ref p), v3, none, none, none, none] ∧ zs.length = i ∧ (∀ z ∈ zs, Low z ∧ z.length ≤ 8) ∧ Dl H' st L (1 + 30 * i) ∧ H' p = some (.lst (zs.map V.str))) ⟨[], none, rfl, rfl, fun z hz => (by cases hz), hD3.up (by omega), b3 _ _ hpne.1 w2⟩ ?_ ?_
    · rintro i σ J hi ⟨zs, v3, rfl, hzl, hzs, hD, hp4⟩
      have hi6 : i < n := hi
      have hok : ∀ z ∈ zs, PyData.strOk z = true := fun z hz => low_sok (hzs z hz).1
      walk_at "go"
      refine i_cutT (fun v H'' => (v = true → zs ≠ []) ∧ Dl H'' st L (2 + 30 * i) ∧ H'' p = some (.lst (zs.map V.str))) ?_ ?_
      · walk_at "go"
        intro p5 hp5
        have e5 : Ex J (upd J p5 (.lst [])) := Ex.new hp5
        have w5 : (upd J p5 (.lst [])) p5 = some (.lst []) := upd_same
        generalize (upd J p5 (.lst [])) = J1 at e5 w5 ⊢
        refine l_neNilS (e5 _ _ hp4) w5 hok ?_
        walk_at "go"
        refine i_iteN (fun hz => ?_) (fun hz => ?_)
        · walk_at "go"
          refine drawL (hD.mono e5) (by decide) (by decide) (by omega) fun r' J2 r0' r1' hD2 b2 => ?_
          walk_at "go"
          exact ⟨fun _ => hz, hD2.up (by omega), b2 _ _ hpne.1 (e5 _ _ hp4)⟩
        · exact ⟨fun h => (by cases h), (hD.mono e5).up (by omega), e5 _ _ hp4⟩
      rintro v J2 ⟨hv, hD2, hp5⟩
      refine i_iteB (fun ht => ?_) (fun hf => ?_)
      · obtain ⟨z, zs', rfl⟩ : ∃ z zs', zs = z :: zs' := by
          cases zs with
          | nil => exact absurd rfl (hv ht)
          | cons z zs' => exact ⟨z, zs', rfl⟩
        walk_at "go"
        refine ⟨.inl ⟨rfl, _, .of hp5⟩, ?_⟩
        walk_at "go"
        refine ⟨_, .str z, .inl (.of hp5), atI_nat (j := 0) rfl, ?_⟩
        walk_at "go"
        refine ⟨p, _, _, rfl, rfl, hp5, sz (by rw [List.length_map, hzl]; omega), ?_⟩
        walk_at "go"
        refine ⟨(z :: zs') ++ [z], _, rfl, by rw [List.length_append, hzl]; rfl, fun y hy => ?_, (hD2.put hpne.1 hpne.2).up (by omega), by rw [upd_same, List.map_append]; rfl⟩
        rcases List.mem_append.mp hy with hy | hy
        · exact hzs y hy
        · rw [List.mem_singleton.mp hy]; exact hzs z List.mem_cons_self
      · walk_at "go"
        refine ⟨.inl ⟨rfl, _, .of hp5⟩, ?_⟩
        walk_at "go"
        refine ⟨st, L, _, rfl, hD2, by omega, fun z J3 hz1 hz2 hD3 b3 => ?_⟩
        have hp6 := b3 _ _ hpne.1 hp5
        walk_at "go"
        refine ⟨p, _, _, rfl, rfl, hp6, sz (by rw [List.length_map, hzl]; omega), ?_⟩
        walk_at "go"
        refine ⟨zs ++ [z], _, rfl, by rw [List.length_append, hzl]; rfl, fun y hy => ?_, (hD3.put hpne.1 hpne.2).up (by omega), by rw [upd_same, List.map_append]; rfl⟩
        rcases List.mem_append.mp hy with hy | hy
        · exact hzs y hy
        · rw [List.mem_singleton.mp hy]; exact ⟨hz1, hz2⟩
    · rintro σ J ⟨zs, v3, rfl, hzl, hzs, hD, hp4⟩
      have hl6 : zs.length ≤ 6 := by have : zs.length = n := hzl; omega
      have hok : ∀ z ∈ zs, PyData.strOk z = true := fun z hz => low_sok (hzs z hz).1
      have hsub : ∀ ws ∈ subs zs, ∀ z ∈ ws, PyData.strOk z = true := subs_ok hok _ (Nat.le_refl _)
      have hsh := sh_ts (subs zs) hsub
      walk_at "go"
      refine ⟨_, .inl (.of hp4), fun kp hkp => ?_⟩
      have e5 : Ex J (upd J kp (.lst (zs.map V.str))) := Ex.new hkp
      have w5 : (upd J kp (.lst (zs.map V.str))) kp = some (.lst (zs.map V.str)) := upd_same
      generalize (upd J kp (.lst (zs.map V.str))) = H5 at e5 w5 ⊢
      walk_at "go"
      refine ⟨p, zs, rfl, e5 _ _ hp4, hl6, fun du qs H6 e6 w6 hR6 => ?_⟩
      have hp6 := e6 _ _ (e5 _ _ hp4)
      have hk6 := e6 _ _ w5
      walk_at "go"
      refine i_cutT (fun v H'' => v = false ∧ Ex H6 H'') ?_ ?_
      · walk_at "go"
        refine GN.i_listY (GN.i_callY ?_)
        walk_at "go"
        refine ⟨itsOf K zs, ⟨p, zs, rfl, .inl (.of hp6), hl6, rfl⟩, subs_lt hl6, fun ys H7 k7 o7 l7 y7 hy7 => ?_⟩
        have e7 : Ex H6 H7 := k7
        have R7 := out_rw o7 l7
        have e8 : Ex H7 (upd H7 y7 (.lst ys)) := Ex.new hy7
        have w8 : (upd H7 y7 (.lst ys)) y7 = some (.lst ys) := upd_same
        generalize (upd H7 y7 (.lst ys)) = H8 at e8 w8 ⊢
        walk_at "go"
        have R8 := Rw.mono (S := SqT K) sqT_mono hR6 (e7.trans e8)
        refine l_neD (.lst (.of w8) (rw_dp _ _ (Rw.mono (S := SqT K) sqT_mono R7 e8))) (.lst (.of (e8 _ _ (e7 _ _ w6))) (rw_dp _ _ R8)) hsh hsh (eqv_sh hsh) ?_
        walk_at "go"
        refine GN.i_listY (GN.i_callY ?_)
        walk_at "go"
        have hp8 := e8 _ _ (e7 _ _ hp6)
        refine ⟨_, .inl ⟨.of hp8, fun tp htp => ?_⟩⟩
        have e9 : Ex H8 (upd H8 tp (.tup (zs.map V.str))) := Ex.new htp
        have w9 : (upd H8 tp (.tup (zs.map V.str))) tp = some (.tup (zs.map V.str)) := upd_same
        generalize (upd H8 tp (.tup (zs.map V.str))) = H9 at e9 w9 ⊢
        walk_at "go"
        refine ⟨itsOf K zs, ⟨tp, zs, rfl, .inr (.of w9), hl6, rfl⟩, subs_lt hl6, fun ys2 HA kA oA lA yA hyA => ?_⟩
        have eA : Ex H9 HA := kA
        have RA := out_rw oA lA
        have eB : Ex HA (upd HA yA (.lst ys2)) := Ex.new hyA
        have wB : (upd HA yA (.lst ys2)) yA = some (.lst ys2) := upd_same
        generalize (upd HA yA (.lst ys2)) = HB at eB wB ⊢
        have e8B : Ex H8 HB := e9.trans (eA.trans eB)
        walk_at "go"
        refine l_neD (.lst (.of wB) (rw_dp _ _ (Rw.mono (S := SqT K) sqT_mono RA eB))) (.lst (.of (e8B _ _ (e8 _ _ (e7 _ _ w6)))) (rw_dp _ _ (Rw.mono (S := SqT K) sqT_mono R8 e8B))) hsh hsh (eqv_sh hsh) ?_
        walk_at "go"
        have e6B : Ex H6 HB := e7.trans (e8.trans e8B)
        refine l_neD (.lst (.of (e6B _ _ hp6)) (dp_strs _)) (.lst (.of (e6B _ _ hk6)) (dp_strs _)) (sh_strs _ hok) (sh_strs _ hok) (eqv_sh (sh_strs _ hok)) ?_
        walk_at "go"
        exact ⟨rfl, e6B⟩
      rintro v H7 ⟨rfl, e7⟩
      have hp7 := e7 _ _ hp6
      have w7 := e7 _ _ w6
      have R7 := Rw.mono (S := SqT K) sqT_mono hR6 e7
      have hlq : qs.length = (subs zs).length := by rw [hR6.1, List.length_map]
      walk_at "go"
      refine GN.i_forY (GN.i_callY ?_)
      walk_at "go"
      refine ⟨itsOf K zs, ⟨p, zs, rfl, .inl (.of hp7), hl6, rfl⟩, fun i σ H' => ∃ v7, σ = [some (.ref a), some (.ref st), some (.ref p), v3, some (.ref kp), some (.ref du), some (.int (i : Int)), v7] ∧ H' du = some (.lst qs) ∧ Rw (SqT K) H' qs ((subs zs).map strV), fun H8 k8 => ⟨none, rfl, k8 _ _ w7, Rw.mono (S := SqT K) sqT_mono R7 (kp_ex k8)⟩, ?_, ?_⟩
      · rintro i pI σ H8 x Hy H9 hpI ⟨v7, rfl, w8, R8⟩ k9 hx ky
        rw [List.getElem?_map] at hpI
        cases hws : (subs zs)[i]? with
        | none => rw [hws] at hpI; cases hpI
        | some ws =>
        rw [hws] at hpI
        have hpI := Option.some.inj hpI
        subst hpI
        obtain ⟨b, rfl, hb⟩ := hx
        have hb9 : SqT K H9 b (strV ws) := sqT_mono ky hb
        have w9 : H9 du = some (.lst qs) := k9 _ _ w8 fun φ z => by cases z
        have R9 : Rw (SqT K) H9 qs ((subs zs).map strV) := ⟨R8.1, fun i row hi => let ⟨q, h1, h2⟩ := R8.2 i row hi; ⟨q, h1, sqT_kpn k9 h2⟩⟩
        have hwm := List.mem_of_getElem? hws
        have hsw := sh_t ws (hsub ws hwm)
        obtain ⟨q9, hq9, hs9⟩ := R9.2 i (strV ws) (by rw [List.getElem?_map, hws]; rfl)
        walk_at "go"
        refine i_isT false ?_ ?_
        · walk_at "go"
          refine l_isi (tyT hb9) kt_tuple_tuple ?_
          walk_at "go"
          refine ⟨_, _, .inl (.of w9), atI_nat (j := i) hq9, ?_⟩
          walk_at "go"
          refine l_neD (d := tD ws) (e := tD ws) (.tup hb9 (dp_strs ws)) (.tup hs9 (dp_strs ws)) hsw hsw (eqv_sh hsw) ?_
          walk_at "go"
          exact ⟨rfl, rfl⟩
        walk_at "go"
        exact ⟨GN.Kp.refl, _, rfl, w9, R9⟩
      · rintro σ H8 H9 ⟨v7, rfl, w8, R8⟩ k9
        have w9 : H9 du = some (.lst qs) := k9 _ _ w8 fun φ z => by cases z
        walk_at "go"
        rw [decide_eq_true (by rw [List.length_map, hlq])]
        refine iteT ?_
        walk_at "go"
        refine GN.i_listY (GN.i_callY ?_)
        walk_at "go"
        intro np hnp
        have eC : Ex H9 (upd H9 np (.lst [])) := Ex.new hnp
        have wC : (upd H9 np (.lst [])) np = some (.lst []) := upd_same
        generalize (upd H9 np (.lst [])) = HC at eC wC ⊢
        walk_at "go"
        refine ⟨itsOf K [], ⟨np, [], rfl, .inl (.of wC), by decide, rfl⟩, subs_lt (by decide), fun ys HD kD oD lD yD hyD => ?_⟩
        have RD := out_rw oD lD
        have eE : Ex HD (upd HD yD (.lst ys)) := Ex.new hyD
        have wE : (upd HD yD (.lst ys)) yD = some (.lst ys) := upd_same
        generalize (upd HD yD (.lst ys)) = HE at eE wE ⊢
        walk_at "go"
        intro tq htq
        have eF : Ex HE (upd HE tq (.tup [])) := Ex.new htq
        have wF : (upd HE tq (.tup [])) tq = some (.tup []) := upd_same
        generalize (upd HE tq (.tup [])) = HF at eF wF ⊢
        walk_at "go"
        intro lq hlq2
        have eG : Ex HF (upd HF lq (.lst [.ref tq])) := Ex.new hlq2
        have wG : (upd HF lq (.lst [.ref tq])) lq = some (.lst [.ref tq]) := upd_same
        generalize (upd HF lq (.lst [.ref tq])) = HG at eG wG ⊢
        have hs0 : SeqAt.shaped (.list ((subs []).map tD)) = true := by decide +kernel
        have e0 : (subs []).map tD = [tD []] := rfl
        refine l_eqD (d := .list ((subs []).map tD)) (e := .list ((subs []).map tD)) (.lst (.of (eG _ _ (eF _ _ wE))) (rw_dp _ _ (Rw.mono (S := SqT K) sqT_mono RD (eE.trans (eF.trans eG))))) (.lst (.of wG) (by rw [e0]; exact .cons (.tup (.of (eG _ _ wF)) .nil) .nil)) hs0 hs0 (eqv_sh hs0) ?_
        exact q _
theorem law_mk {fa : Addr} (hfa : mg "law" = some (.ref fa)) (hT : Tp K mg) :
    ∃ fd : FuncData, (∀ (s : Shared) (v : Value), BindsTo s fd ⟨[v], []⟩ [("_law_script", v)]) ∧ ∀ base : Heap, K.In base → base.Ns mainGlobals mg → FnOk P w K mg base CX0 6 fa fd ["_law_script"] (spLaw K) := by
  obtain ⟨fd, ⟨kV, doc, pm, an, cdv, ct, rfl⟩, hF⟩ := ok_law (P := P) (w := w) hT hfa
  exact ⟨_, fun s v => .of_eq rfl, fun base _ _ => hF base⟩
set_option maxHeartbeats 0 in
theorem all_mk {K : PySem.W.Frag} {h : Heap} {mg : Str → Option Value} {fa : Addr} (X : K.In h) (G : h.Ns mainGlobals mg) (hfa : mg "law" = some (.ref fa))
    {f_subsets : Addr} {od_subsets an_subsets : Option Addr} {sl_subsets : Array (Option Value)} {oc_subsets kV_subsets dc_subsets pm_subsets cd_subsets ct_subsets : Value}
    {f_choices_of : Addr} {od_choices_of an_choices_of : Option Addr} {sl_choices_of : Array (Option Value)} {oc_choices_of kV_choices_of dc_choices_of pm_choices_of cd_choices_of ct_choices_of : Value}
    {f__law_open : Addr} {od__law_open an__law_open : Option Addr} {sl__law_open : Array (Option Value)} {oc__law_open kV__law_open dc__law_open pm__law_open cd__law_open ct__law_open : Value}
    {f__law_draw : Addr} {od__law_draw an__law_draw : Option Addr} {sl__law_draw : Array (Option Value)} {oc__law_draw kV__law_draw dc__law_draw pm__law_draw cd__law_draw ct__law_draw : Value}
    {f__law_word : Addr} {od__law_word an__law_word : Option Addr} {sl__law_word : Array (Option Value)} {oc__law_word kV__law_word dc__law_word pm__law_word cd__law_word ct__law_word : Value}
    {f__law_subsets : Addr} {od__law_subsets an__law_subsets : Option Addr} {sl__law_subsets : Array (Option Value)} {oc__law_subsets kV__law_subsets dc__law_subsets pm__law_subsets cd__law_subsets ct__law_subsets : Value}
    {f_law : Addr} {od_law an_law : Option Addr} {sl_law : Array (Option Value)} {oc_law kV_law dc_law pm_law cd_law ct_law : Value}
    (z_int : PySem.W.nsIn K mainGlobals "int" = some none)
    (z_isinstance : PySem.W.nsIn K mainGlobals "isinstance" = some none)
    (z_len : PySem.W.nsIn K mainGlobals "len" = some none)
    (z_list : PySem.W.nsIn K mainGlobals "list" = some none)
    (z_range : PySem.W.nsIn K mainGlobals "range" = some none)
    (z_tuple : PySem.W.nsIn K mainGlobals "tuple" = some none)
    (a_subsets : PySem.W.nsIn K mainGlobals "subsets" = some (some (.ref f_subsets)))
    (l_subsets : K.lookup f_subsets = some ⟨oc_subsets, od_subsets, .func (PySem.W.fnOf "subsets" "subsets" (defArgs s_subsets) (defBody s_subsets) (defScope s_subsets) .none kV_subsets dc_subsets pm_subsets an_subsets cd_subsets ct_subsets), sl_subsets⟩)
    (c_subsets : PySem.W.codeIn K cd_subsets "subsets" = true)
    (k_subsets : PySem.W.keepIn K (.ref f_subsets) = true)
    (a_choices_of : PySem.W.nsIn K mainGlobals "choices_of" = some (some (.ref f_choices_of)))
    (l_choices_of : K.lookup f_choices_of = some ⟨oc_choices_of, od_choices_of, .func (PySem.W.fnOf "choices_of" "choices_of" (defArgs s_choices_of) (defBody s_choices_of) (defScope s_choices_of) .none kV_choices_of dc_choices_of pm_choices_of an_choices_of cd_choices_of ct_choices_of), sl_choices_of⟩)
    (c_choices_of : PySem.W.codeIn K cd_choices_of "choices_of" = true)
    (k_choices_of : PySem.W.keepIn K (.ref f_choices_of) = true)
    (a__law_open : PySem.W.nsIn K mainGlobals "_law_open" = some (some (.ref f__law_open)))
    (l__law_open : K.lookup f__law_open = some ⟨oc__law_open, od__law_open, .func (PySem.W.fnOf "_law_open" "_law_open" (defArgs s__law_open) (defBody s__law_open) (defScope s__law_open) .none kV__law_open dc__law_open pm__law_open an__law_open cd__law_open ct__law_open), sl__law_open⟩)
    (c__law_open : PySem.W.codeIn K cd__law_open "_law_open" = true)
    (k__law_open : PySem.W.keepIn K (.ref f__law_open) = true)
    (a__law_draw : PySem.W.nsIn K mainGlobals "_law_draw" = some (some (.ref f__law_draw)))
    (l__law_draw : K.lookup f__law_draw = some ⟨oc__law_draw, od__law_draw, .func (PySem.W.fnOf "_law_draw" "_law_draw" (defArgs s__law_draw) (defBody s__law_draw) (defScope s__law_draw) .none kV__law_draw dc__law_draw pm__law_draw an__law_draw cd__law_draw ct__law_draw), sl__law_draw⟩)
    (c__law_draw : PySem.W.codeIn K cd__law_draw "_law_draw" = true)
    (k__law_draw : PySem.W.keepIn K (.ref f__law_draw) = true)
    (a__law_word : PySem.W.nsIn K mainGlobals "_law_word" = some (some (.ref f__law_word)))
    (l__law_word : K.lookup f__law_word = some ⟨oc__law_word, od__law_word, .func (PySem.W.fnOf "_law_word" "_law_word" (defArgs s__law_word) (defBody s__law_word) (defScope s__law_word) .none kV__law_word dc__law_word pm__law_word an__law_word cd__law_word ct__law_word), sl__law_word⟩)
    (c__law_word : PySem.W.codeIn K cd__law_word "_law_word" = true)
    (k__law_word : PySem.W.keepIn K (.ref f__law_word) = true)
    (a__law_subsets : PySem.W.nsIn K mainGlobals "_law_subsets" = some (some (.ref f__law_subsets)))
    (l__law_subsets : K.lookup f__law_subsets = some ⟨oc__law_subsets, od__law_subsets, .func (PySem.W.fnOf "_law_subsets" "_law_subsets" (defArgs s__law_subsets) (defBody s__law_subsets) (defScope s__law_subsets) .none kV__law_subsets dc__law_subsets pm__law_subsets an__law_subsets cd__law_subsets ct__law_subsets), sl__law_subsets⟩)
    (c__law_subsets : PySem.W.codeIn K cd__law_subsets "_law_subsets" = true)
    (k__law_subsets : PySem.W.keepIn K (.ref f__law_subsets) = true)
    (a_law : PySem.W.nsIn K mainGlobals "law" = some (some (.ref f_law)))
    (l_law : K.lookup f_law = some ⟨oc_law, od_law, .func (PySem.W.fnOf "law" "law" (defArgs s_law) (defBody s_law) (defScope s_law) .none kV_law dc_law pm_law an_law cd_law ct_law), sl_law⟩)
    (c_law : PySem.W.codeIn K cd_law "law" = true)
    (k_law : PySem.W.keepIn K (.ref f_law) = true) :
    Tp K mg := by
  exact {
    m_int := PySem.W.mg_none_of X G z_int,
    m_isinstance := PySem.W.mg_none_of X G z_isinstance,
    m_len := PySem.W.mg_none_of X G z_len,
    m_list := PySem.W.mg_none_of X G z_list,
    m_range := PySem.W.mg_none_of X G z_range,
    m_tuple := PySem.W.mg_none_of X G z_tuple,
    d_subsets := ⟨_, _, fun_mk (st := s_subsets) l_subsets c_subsets k_subsets, PySem.W.mg_of X G a_subsets, (fun_mk (st := s_subsets) l_subsets c_subsets k_subsets).binds (ps := ["items"]) fun _ _ _ _ _ _ us hl => match us, hl with | [_], _ => rfl⟩,
    d_choices_of := ⟨_, _, fun_mk (st := s_choices_of) l_choices_of c_choices_of k_choices_of, PySem.W.mg_of X G a_choices_of, (fun_mk (st := s_choices_of) l_choices_of c_choices_of k_choices_of).binds (ps := ["count", "size"]) fun _ _ _ _ _ _ us hl => match us, hl with | [_, _], _ => rfl⟩,
    d__law_open := ⟨_, _, fun_mk (st := s__law_open) l__law_open c__law_open k__law_open, PySem.W.mg_of X G a__law_open, (fun_mk (st := s__law_open) l__law_open c__law_open k__law_open).binds (ps := ["_law_script"]) fun _ _ _ _ _ _ us hl => match us, hl with | [_], _ => rfl⟩,
    d__law_draw := ⟨_, _, fun_mk (st := s__law_draw) l__law_draw c__law_draw k__law_draw, PySem.W.mg_of X G a__law_draw, (fun_mk (st := s__law_draw) l__law_draw c__law_draw k__law_draw).binds (ps := ["_law_state", "_law_many"]) fun _ _ _ _ _ _ us hl => match us, hl with | [_, _], _ => rfl⟩,
    d__law_word := ⟨_, _, fun_mk (st := s__law_word) l__law_word c__law_word k__law_word, PySem.W.mg_of X G a__law_word, (fun_mk (st := s__law_word) l__law_word c__law_word k__law_word).binds (ps := ["_law_state", "_law_endings"]) fun _ _ _ _ _ _ us hl => match us, hl with | [_, _], _ => rfl⟩,
    d__law_subsets := ⟨_, _, fun_mk (st := s__law_subsets) l__law_subsets c__law_subsets k__law_subsets, PySem.W.mg_of X G a__law_subsets, (fun_mk (st := s__law_subsets) l__law_subsets c__law_subsets k__law_subsets).binds (ps := ["_law_items"]) fun _ _ _ _ _ _ us hl => match us, hl with | [_], _ => rfl⟩,
    d_law := ⟨_, _, fun_mk (st := s_law) l_law c_law k_law, PySem.W.mg_of X G a_law, (fun_mk (st := s_law) l_law c_law k_law).binds (ps := ["_law_script"]) fun _ _ _ _ _ _ us hl => match us, hl with | [_], _ => rfl⟩ }
end
end K
open PySem PySem.W PyProof.Rows
set_option maxHeartbeats 0 in
theorem PySem.Challenge.cw_roundrules_k66_subsets_holds : PySem.Challenge.rw_roundrules_k66_subsets.Holds := by
  w_on; o_law; k_head; (case hw => w_witness2)
  k_fill
  refine L2.walk_of (l := PySem.Challenge.rw_roundrules_k66_subsets) (n := 63) (k := 6) (x := "_law_script") (CX := fun _ => L2.CX0) (sp := fun w => K.spLaw _) rfl (by decide) rfl ⟨rfl, by decide, by decide⟩ (fun w h Y => PySem.W.kIn_of Y) ?F (fun _ _ a ns hl _ hS => ⟨a, ns, rfl, hS, hl, fun _ => rfl⟩) (fun _ _ _ _ _ h => h)
  case F =>
    intro w mg fa h KX G hmg
    refine' K.law_mk hmg (K.all_mk KX G hmg ?z_int ?z_isinstance ?z_len ?z_list ?z_range ?z_tuple ?a_subsets ?l_subsets ?c_subsets ?k_subsets ?a_choices_of ?l_choices_of ?c_choices_of ?k_choices_of ?a__law_open ?l__law_open ?c__law_open ?k__law_open ?a__law_draw ?l__law_draw ?c__law_draw ?k__law_draw ?a__law_word ?l__law_word ?c__law_word ?k__law_word ?a__law_subsets ?l__law_subsets ?c__law_subsets ?k__law_subsets ?a_law ?l_law ?c_law ?k_law)
    (case z_int => k_is); (case z_isinstance => k_is); (case z_len => k_is); (case z_list => k_is); (case z_range => k_is); (case z_tuple => k_is); (case a_subsets => k_is); (case l_subsets => k_is); (case c_subsets => k_is); (case k_subsets => k_is); (case a_choices_of => k_is); (case l_choices_of => k_is); (case c_choices_of => k_is); (case k_choices_of => k_is); (case a__law_open => k_is); (case l__law_open => k_is); (case c__law_open => k_is); (case k__law_open => k_is); (case a__law_draw => k_is); (case l__law_draw => k_is); (case c__law_draw => k_is); (case k__law_draw => k_is); (case a__law_word => k_is); (case l__law_word => k_is); (case c__law_word => k_is); (case k__law_word => k_is); (case a__law_subsets => k_is); (case l__law_subsets => k_is); (case c__law_subsets => k_is); (case k__law_subsets => k_is); (case a_law => k_is); (case l_law => k_is); (case c_law => k_is); (case k_law => k_is)
