import PyProof.Rows.All
import Wide.All
import OpenK.AllK
import Wide.FinOn
import HandS.ForMost
import HandS.IsInst
import HandS.StrMore
import HandS.Style
import HandS.Deep
import HandS.Wide
import HandS.TupAny
import HandS.ExcInit
import HandS.ExcField
import HandS.ExcIs
import HandS.ExcOwn
import HandS.WordsExc
import HandS.CallSlots
import HandS.Property
import HandS.MakeKw
import HandS.MakeKwOnly
import KE.KExcIs
import KE.KExcInit
import PyProof.ExcBaseAll.LookupError
import PyProof.ExcBaseAll.OverflowError
import HandS.Ends
import HandS.EndBits
import HandS.More
import HandS.Dict
import HandS.Star
import KE.KOpsOwn
import HandS.Zip
import PyProof.EnumMake
import KE.KItemsList
import KE.DataCmp
import PyProof.P3Eq
import PySem.Challenge.RW_roundrules_k22_logs
set_option Elab.async false
set_option linter.all false
set_option maxRecDepth 100000
namespace G
open PySem PySem.Spec PyProof.Rows L2
theorem sz {n : Nat} (h : n ≤ 100000) : n ≤ sizeLine := Nat.le_trans h (by decide)
theorem szl {n : Nat} (h : n < 100000) : n < sizeLine := Nat.lt_of_lt_of_le h (by decide)
section
variable {X : Cx}
/-! ### rules that leave the kind open -/
def rAdd (K : PySem.W.Frag) : R2 := fun x y H Q => match x, y with
  | .int i, .int j => Q (.int (i + j)) H
  | .str i, .str j => i.length + j.length ≤ sizeLine ∧ Q (.str (i ++ j)) H
  | .ref a, .ref b => rCat (.ref a) (.ref b) H Q ∨ rCatA K (.ref a) (.ref b) H Q
  | _, _ => False
theorem gAdd : OpR X (binaryOp .Add) (rAdd X.K) := by
  intro pins s σ H x y v u Q I rx ry h
  cases x <;> cases y <;> first
    | exact h.elim
    | exact op_add pins s σ H _ _ v u Q I rx ry ⟨_, _, rfl, rfl, h⟩
    | exact op_add_str pins s σ H _ _ v u Q I rx ry ⟨_, _, rfl, rfl, h.1, h.2⟩
    | exact op_cat.or op_catA pins s σ H _ _ v u Q I rx ry h
def rSub : R2 := fun x y H Q => match x, y with
  | .int i, .int j => Q (.int (i - j)) H
  | _, _ => False
theorem gSub' : OpR X (binaryOp .Sub) rSub := by
  intro pins s σ H x y v u Q I rx ry h
  cases x <;> cases y <;> first
    | exact h.elim
    | exact op_sub pins s σ H _ _ v u Q I rx ry ⟨_, _, rfl, rfl, h⟩
def rMul : R2 := fun x y H Q => match x, y with
  | .int i, .int j => (CMul i j ∨ CMulW i j) ∧ Q (.int (i * j)) H
  | _, _ => False
theorem gMul : OpR X (binaryOp .Mult) rMul := by
  intro pins s σ H x y v u Q I rx ry h
  cases x <;> cases y <;> first
    | exact h.elim
    | (rcases h with ⟨h | h, q⟩
       · exact op_mul pins s σ H _ _ v u Q I rx ry ⟨_, _, rfl, rfl, h, q⟩
       · exact op_mulW pins s σ H _ _ v u Q I rx ry ⟨_, _, rfl, rfl, h, q⟩)
def rDiv : R2 := fun x y H Q => match x, y with
  | .int i, .int j => CDivW i j ∧ Q (.int (i / j)) H
  | _, _ => False
theorem gDiv : OpR X (binaryOp .FloorDiv) rDiv := by
  intro pins s σ H x y v u Q I rx ry h
  cases x <;> cases y <;> first
    | exact h.elim
    | exact op_fdivW pins s σ H _ _ v u Q I rx ry ⟨_, _, rfl, rfl, h.1, h.2⟩
def rMod : R2 := fun x y H Q => match x, y with
  | .int i, .int j => 0 < j ∧ Q (.int (i % j)) H
  | _, _ => False
theorem gMod : OpR X (binaryOp .Mod) rMod := by
  intro pins s σ H x y v u Q I rx ry h
  cases x <;> cases y <;> first
    | exact h.elim
    | exact op_mod pins s σ H _ _ v u Q I rx ry ⟨_, _, rfl, rfl, h.1, h.2⟩
def rPow : R2 := fun x y H Q => match x, y with
  | .int i, .int j => CPow i j ∧ Q (.int (i ^ j.toNat)) H
  | _, _ => False
theorem gPow : OpR X (binaryOp .Pow) rPow := by
  intro pins s σ H x y v u Q I rx ry h
  cases x <;> cases y <;> first
    | exact h.elim
    | exact op_pow pins s σ H _ _ v u Q I rx ry ⟨_, _, rfl, rfl, h.1, h.2⟩
def rCmp (g : Int → Int → Bool) : R2 := fun x y H Q => match x, y with
  | .int i, .int j => Q (.bl (g i j)) H
  | _, _ => False
theorem cmp_of {f : Value → Value → Sem Value} {g : Int → Int → Bool} (ho : OpR X f (rI0 fun i j => .bl (g i j))) : OpR X f (rCmp g) := by
  intro pins s σ H x y v u Q I rx ry h
  cases x <;> cases y <;> first
    | exact h.elim
    | exact ho pins s σ H _ _ v u Q I rx ry ⟨_, _, rfl, rfl, h⟩
theorem gLt : OpR X (compareOp .Lt) (rCmp fun i j => decide (i < j)) := cmp_of op_lt
theorem gLe : OpR X (compareOp .LtE) (rCmp fun i j => decide (i ≤ j)) := cmp_of op_le
theorem gGt : OpR X (compareOp .Gt) (rCmp fun i j => decide (j < i)) := cmp_of op_gt
theorem gGe : OpR X (compareOp .GtE) (rCmp fun i j => decide (j ≤ i)) := cmp_of op_ge
def rEqA (K : PySem.W.Frag) : R2 := fun x y H Q => rEq x y H Q ∨ rEqD K x y H Q
def rNeA (K : PySem.W.Frag) : R2 := fun x y H Q => rNe x y H Q ∨ rNeD K x y H Q
theorem gEq {k : Nat} (hr : Room k X.A) : OpR X (compareOp .Eq) (rEqA X.K) := op_eq.or (op_eqD hr.units)
theorem gNe {k : Nat} (hr : Room k X.A) : OpR X (compareOp .NotEq) (rNeA X.K) := op_ne.or (op_neD hr.units)
def rIsA : R2 := fun x y H Q => (y = .non ∧ Q (.bl (decide (x = .non))) H) ∨ rIsB x y H Q
def rIsNotA : R2 := fun x y H Q => (y = .non ∧ Q (.bl (!decide (x = .non))) H) ∨ rNotB x y H Q
theorem gIs : OpR X (compareOp .Is) rIsA := op_isN.or op_isBl
theorem gIsNot : OpR X (compareOp .IsNot) rIsNotA := op_notN.or op_notBl
def rInA (K : PySem.W.Frag) : R2 := fun x y H Q => (∃ (c : Nat) (z : Str), x = .str ⟨#[c]⟩ ∧ y = .str z ∧ Q (.bl (decide (c ∈ z.cps.toList))) H) ∨ rIn K false x y H Q ∨ rInD K x y H Q
def rNotInA (K : PySem.W.Frag) : R2 := fun x y H Q => (∃ (c : Nat) (z : Str), x = .str ⟨#[c]⟩ ∧ y = .str z ∧ Q (.bl (!decide (c ∈ z.cps.toList))) H) ∨ rIn K true x y H Q ∨ rNotInD K x y H Q
theorem u65 {k : Nat} {A : Around} (hr : Room k A) : A.units + 65 < cLine := by
  have := hr.un
  omega
theorem gIn {k : Nat} (hr : Room k X.A) : OpR X (compareOp .In) (rInA X.K) := op_in_sign.or (op_in_seq.or (op_inD (u65 hr)))
theorem gNotIn {k : Nat} (hr : Room k X.A) : OpR X (compareOp .NotIn) (rNotInA X.K) := op_notIn_sign.or (op_notIn_seq.or (op_notInD (u65 hr)))
def rSlG (K : PySem.W.Frag) : V → Option Int → Option Int → Hp → VK → Prop := fun x lo hi H Q => match x with
  | .str z => z.length ≤ sizeLine ∧ Q (.str (cutS z lo hi)) H
  | .ref a => rSlL K (.ref a) lo hi H Q ∨ rSlA K (.ref a) lo hi H Q
  | _ => False
theorem gSl : SlR X (rSlG X.K) := by
  intro pins s σ H x v vl vu lo hi sl Q I rx hs pl pu h
  cases x <;> first
    | exact h.elim
    | exact sl_str pins s σ H _ v vl vu lo hi sl Q I rx hs pl pu ⟨_, rfl, h.1, h.2⟩
    | exact sl_list.or sl_tupA pins s σ H _ v vl vu lo hi sl Q I rx hs pl pu h
theorem CallR.or {f : Value} {r r' : List V → Hp → VK → Prop} (h : CallR X f r) (h' : CallR X f r') : CallR X f (fun xs H Q => r xs H Q ∨ r' xs H Q) := by
  intro pins s σ H xs us Q I rv q
  rcases q with q | q
  · exact h pins s σ H xs us Q I rv q
  · exact h' pins s σ H xs us Q I rv q
def rLen (K : PySem.W.Frag) : List V → Hp → VK → Prop := fun xs H Q => match xs with
  | [.str y] => y.length ≤ sizeLine ∧ Q (.int y.length) H
  | [.ref p] => ∃ xs, (SqL K H p xs ∨ SqT K H p xs) ∧ Q (.int xs.length) H
  | _ => False
theorem gLen : CallR X (.builtin "len") (rLen X.K) := by
  intro pins s σ H xs us Q I rv h
  match xs, rv, h with
  | [.str y], rv, h => exact call_len pins s σ H _ us Q I rv ⟨_, _, rfl, ⟨h.1, rfl⟩, h.2⟩
  | [.ref p], rv, h =>
    obtain ⟨xs, h1 | h1, q⟩ := h
    · exact call_len pins s σ H _ us Q I rv ⟨_, _, rfl, .inl ⟨_, h1, rfl⟩, q⟩
    · exact call_len pins s σ H _ us Q I rv ⟨_, _, rfl, .inr ⟨_, h1, rfl⟩, q⟩
def rIsiA (K : PySem.W.Frag) : List V → Hp → VK → Prop := fun xs H Q => rIsi K xs H Q ∨ rIsiT K xs H Q
theorem gIsi : CallR X (.builtin "isinstance") (rIsiA X.K) := CallR.or call_isi call_isiT
def rIntA : List V → Hp → VK → Prop := fun xs H Q => match xs with
  | [.int i] => Q (.int i) H
  | [.bl k] => Q (.int (if k then 1 else 0)) H
  | [.str a] => ∃ n, PySem.intText? a = some n ∧ a.length ≤ 640 ∧ Q (.int n) H
  | _ => False
theorem g_int : CallR X (.type "int") rIntA := by
  intro pins s σ H xs us Q I rv h
  match xs, rv, h with
  | [.int i], rv, h => exact call_int1 pins s σ H _ us Q I rv (.inl ⟨_, rfl, h⟩)
  | [.bl i], rv, h => exact call_int1 pins s σ H _ us Q I rv (.inr ⟨_, rfl, h⟩)
  | [.str i], rv, ⟨n, h1, h2, q⟩ => exact call_int_str pins s σ H _ us Q I rv ⟨_, n, rfl, h1, h2, q⟩
def rStrA : List V → Hp → VK → Prop := fun xs H Q => match xs with
  | [.int i] => i.natAbs.log2 < 1920 ∧ Q (.str (toString i)) H
  | _ => False
theorem g_str : CallR X (.type "str") rStrA := by
  intro pins s σ H xs us Q I rv h
  match xs, rv, h with
  | [.int i], rv, h => exact call_str_int pins s σ H _ us Q I rv ⟨_, rfl, h.1, h.2⟩
def rListA (K : PySem.W.Frag) : List V → Hp → VK → Prop := fun xs H Q => match xs with
  | [.ref p] => ∃ ys, (SqL K H p ys ∨ SqT K H p ys) ∧ ∀ l, H l = none → Q (.ref l) (upd H l (.lst ys))
  | _ => False
theorem g_list : CallR X (.type "list") (rListA X.K) := by
  intro pins s σ H xs us Q I rv h
  match xs, rv, h with
  | [.ref i], rv, ⟨ys, h, q⟩ => exact call_list_of pins s σ H _ us Q I rv ⟨_, _, rfl, h, q⟩
def rTupA (K : PySem.W.Frag) : List V → Hp → VK → Prop := fun xs H Q => match xs with
  | [.ref p] => ∃ ys, (SqL K H p ys ∧ ∀ l, H l = none → Q (.ref l) (upd H l (.tup ys))) ∨ (SqT K H p ys ∧ Q (.ref p) H)
  | _ => False
theorem g_tuple : CallR X (.type "tuple") (rTupA X.K) := by
  intro pins s σ H xs us Q I rv h
  match xs, rv, h with
  | [.ref i], rv, ⟨ys, h⟩ => exact call_tuple_of pins s σ H _ us Q I rv ⟨_, _, rfl, h⟩
def rIxA (K : PySem.W.Frag) : R2 := fun x y H Q => match x, y with
  | .ref p, .int i => ∃ xs v, (SqL K H p xs ∨ SqT K H p xs) ∧ atI xs i = some v ∧ Q v H
  | .str z, .int i => z.length ≤ sizeLine ∧ ∃ c, atI z.cps.toList i = some c ∧ Q (.str ⟨#[c]⟩) H
  | _, _ => False
theorem gIx : IxR X (rIxA X.K) := by
  intro value slice pins s σ H x y v u Q I rx ry h hs
  cases x <;> cases y <;> first
    | exact h.elim
    | (obtain ⟨xs, v', h1 | h1, h2, q⟩ := h
       · exact ix_list value slice pins s σ H _ _ v u Q I rx ry ⟨_, _, _, _, rfl, rfl, h1, h2, q⟩ hs
       · exact ix_tup value slice pins s σ H _ _ v u Q I rx ry ⟨_, _, _, _, rfl, rfl, h1, h2, q⟩ hs)
    | (obtain ⟨h1, c, h2, q⟩ := h
       exact ix_str value slice pins s σ H _ _ v u Q I rx ry ⟨_, _, _, rfl, rfl, h1, h2, q⟩ hs)
/-- a built-in type's name -/
theorem gTy {x : Str} {n : String} {pos : Pos} (hg : Gl X x) (hm : X.mg x = none) (hv : bootBuiltins x = some (.type n)) (hn : x ≠ "__name__" := by decide) (hd : (x == ("__debug__" : Str)) = false := by decide) : PE X (.Name x pos) (tC (.ty n)) :=
  pe_bltn (v := .ty n) hg hm hv rfl hn hd
/-- what is walked: a list, a tuple, a text -/
def iAny (K : PySem.W.Frag) (te : TE) : TI := fun σ H R => iList K te σ H R ∨ iTup K te σ H R ∨ iStr te σ H R
theorem IT {tg e : Expr} {te : TE} (he : PE X e te) : PI X tg e (iAny X.K te) := by
  refine ⟨fun pins s σ H R I h => ?_⟩
  rcases h with h | h | h
  · exact (pi_list he).run pins s σ H R I h
  · exact (pi_tup he).run pins s σ H R I h
  · exact (pi_str he).run pins s σ H R I h
/-- a statement, then the rest, with a word between them -/
def tCut (t u : TS) : TS := fun D σ H => ∃ Mid : L2.St → Hp → Prop, t { D with nx := Mid } σ H ∧ ∀ σ' H', Mid σ' H' → u D σ' H'
theorem pss_cut {st : Stmt} {rest : List Stmt} {t u : TS} (h1 : PS X st t) (h2 : PSs X rest u) : PSs X (st :: rest) (tCut t u) := by
  refine ⟨fun pins s σ H D I h => ?_⟩
  obtain ⟨Mid, hm, hu⟩ := h
  refine wpAny_execs_cons (thn (h1.run pins s σ H { D with nx := Mid } I hm) fun f s1 q => ?_)
  cases f with
  | next =>
    obtain ⟨σ', H', I', q⟩ := q
    exact h2.run pins s1 σ' H' D I' (hu σ' H' q)
  | ret v => exact q
  | brk => exact q
  | cont => exact q
/-- an expression, a test, with a word behind it -/
def tCutE (t : TE) : TE := fun σ H Q => ∃ M : VK, t σ H M ∧ ∀ v H', M v H' → Q v H'
def tCutT (t : TT) : TT := fun σ H Q => ∃ M : Bool → Hp → Prop, t σ H M ∧ ∀ v H', M v H' → Q v H'
theorem pe_cut {e : Expr} {t : TE} (h : PE X e t) : PE X e (tCutE t) := by
  refine ⟨fun pins s σ H Q I ⟨M, hm, hu⟩ => thn (h.run pins s σ H M I hm) fun u s1 ⟨v, H1, I1, r, q⟩ => ⟨v, H1, I1, r, hu v H1 q⟩⟩
theorem pt_cut {e : Expr} {t : TT} (h : PT X e t) : PT X e (tCutT t) := by
  refine ⟨fun pins s σ H Q I ⟨M, hm, hu⟩ => thn (h.run pins s σ H M I hm) fun u s1 ⟨H1, I1, q⟩ => ⟨H1, I1, hu _ H1 q⟩⟩
theorem i_cutE {t : TE} {σ : L2.St} {H : Hp} {Q : VK} (M : VK) (hm : t σ H M) (hu : ∀ v H', M v H' → Q v H') : tCutE t σ H Q := ⟨M, hm, hu⟩
theorem i_cutT {t : TT} {σ : L2.St} {H : Hp} {Q : Bool → Hp → Prop} (M : Bool → Hp → Prop) (hm : t σ H M) (hu : ∀ v H', M v H' → Q v H') : tCutT t σ H Q := ⟨M, hm, hu⟩
/-- .. whose answer is b, leaving the heap -/
theorem i_isT {t : TT} {σ : L2.St} {H : Hp} {Q : Bool → Hp → Prop} (b : Bool) (hm : t σ H fun v H' => v = b ∧ H' = H) (hu : Q b H) : tCutT t σ H Q := ⟨_, hm, fun v H' ⟨e1, e2⟩ => by rw [e1, e2]; exact hu⟩
theorem i_isE {t : TE} {σ : L2.St} {H : Hp} {Q : VK} (x : V) (hm : t σ H fun v H' => v = x ∧ H' = H) (hu : Q x H) : tCutE t σ H Q := ⟨_, hm, fun v H' ⟨e1, e2⟩ => by rw [e1, e2]; exact hu⟩
theorem cut_seq {t u : TS} {D : Ends} {σ : L2.St} {H : Hp} (h : t { D with nx := u D } σ H) : tCut t u D σ H := ⟨u D, h, fun _ _ q => q⟩
end
/-! the same, the written part by its name (inside a comprehension) -/
section
variable {X : Cx} {K : PySem.W.Frag}
theorem kAdd (hK : X.K = K) : OpR X (binaryOp .Add) (rAdd K) := by subst hK; exact gAdd
theorem kEq {k : Nat} (hK : X.K = K) (hr : Room k X.A) : OpR X (compareOp .Eq) (rEqA K) := by subst hK; exact gEq hr
theorem kNe {k : Nat} (hK : X.K = K) (hr : Room k X.A) : OpR X (compareOp .NotEq) (rNeA K) := by subst hK; exact gNe hr
theorem kIn {k : Nat} (hK : X.K = K) (hr : Room k X.A) : OpR X (compareOp .In) (rInA K) := by subst hK; exact gIn hr
theorem kNotIn {k : Nat} (hK : X.K = K) (hr : Room k X.A) : OpR X (compareOp .NotIn) (rNotInA K) := by subst hK; exact gNotIn hr
theorem kSl (hK : X.K = K) : SlR X (rSlG K) := by subst hK; exact gSl
theorem kLen (hK : X.K = K) : CallR X (.builtin "len") (rLen K) := by subst hK; exact gLen
theorem kIsi (hK : X.K = K) : CallR X (.builtin "isinstance") (rIsiA K) := by subst hK; exact gIsi
theorem k_list (hK : X.K = K) : CallR X (.type "list") (rListA K) := by subst hK; exact g_list
theorem k_tuple (hK : X.K = K) : CallR X (.type "tuple") (rTupA K) := by subst hK; exact g_tuple
theorem kIx (hK : X.K = K) : IxR X (rIxA K) := by subst hK; exact gIx
theorem kIT {tg e : Expr} {te : TE} (hK : X.K = K) (he : PE X e te) : PI X tg e (iAny K te) := by subst hK; exact IT he
theorem kTruth {a : Expr} {ta : TE} (hK : X.K = K) (ha : PE X a ta) (he : ∀ whole, isTrue a X.env whole = (do let v ← whole; standAt a.pos; holding [v] (truthy v))) : PT X a (fun σ H Q => ta σ H fun x H' => ∃ k, TruV K x H' k ∧ Q k H') := by
  subst hK
  exact pt_truth ha he
theorem kBm {o e : Expr} {es : List Expr} {to : TE} {t : TA} {name : Str} {apos cpos : Pos} {T id : String} {r : V → List V → Hp → VK → Prop} (hK : X.K = K) (pa : PlainAttrs T) (slot : Slot T name id) (hty : typeOf (.builtin id) = pure (.type "method_descriptor")) (hm : MtR X id r) (ho : PE X o to) (ha : PA X (e :: es) t)
    (hbase : attributeBase o name X.env (eval o X.env) = eval o X.env := by rfl)
    (hfew : ((backTo cpos (starEach (e :: es) X.env)).all (fun x => !x.1) && (backToKw cpos (keywordEach [] X.env)).all (fun x => x.1.isSome)
      && decide ((e :: es).length + ([] : List Keyword).length + (if ([] : List Keyword).isEmpty then 0 else 1) < 30)) = true := by rfl)
    (hline : (apos.endLine == cpos.line) = true := by rfl) (hs : starEach (e :: es) X.env = (false, eval e X.env) :: starEach es X.env := by rfl) (hplain : (backTo cpos (starEach es X.env)).any (·.1) = false := by rfl) :
    PE X (.Call (.Attribute o name apos) (e :: es) [] cpos) (tBM K T r to t) := by
  subst hK
  exact pe_bm pa slot hty hm ho ha hbase hfew hline hs hplain
theorem kBm0 {o : Expr} {to : TE} {name : Str} {apos cpos : Pos} {T id : String} {r : V → List V → Hp → VK → Prop} (hK : X.K = K) (pa : PlainAttrs T) (slot : Slot T name id) (hty : typeOf (.builtin id) = pure (.type "method_descriptor")) (hm : MtR X id r) (ho : PE X o to)
    (hbase : attributeBase o name X.env (eval o X.env) = eval o X.env := by rfl) (hline : (apos.endLine == cpos.line) = true := by rfl) : PE X (.Call (.Attribute o name apos) [] [] cpos) (tBM0 K T r to) := by
  subst hK
  exact pe_bm0 pa slot hty hm ho hbase hline
theorem kTup {es : List Expr} {k : Nat} {t : TGs} {n : Nat} {pos : Pos} (hK : X.K = K) (hc : X.calm = true) (h : PGs X es t)
    (hn : (assignEach es X.env).length = n := by rfl) (hst : (assignEach es X.env).findIdx? (·.1) = none := by rfl) : PG X (.Tuple es k pos) (gTup K n t) := by
  subst hK
  exact pg_tup hc h hn hst
end
/-! ### a def by its name -/
structure Cal (P : Program) (w : World) (K : PySem.W.Frag) (mg : Str → Option Value) (base : Heap) (k : Nat) (x : Str) (sp : Sp) (dvs : List V) : Prop where
  ex : ∃ (f : Addr) (fd : FuncData) (ps : List Str) (ds : List Value), FnOk P w K mg base CX0 k f fd ps sp ∧ mg x = some (.ref f) ∧ PySem.W.keepIn K (.ref f) = true ∧ Binds K fd ps ds ∧ Vals dvs ds
/-- a def of the text: where it stands, how its arguments bind -/
structure Dd (K : PySem.W.Frag) (mg : Str → Option Value) (x : Str) (st : Stmt) (ps : List Str) : Prop where
  ex : ∃ (f : Addr) (fd : FuncData), Fun K x x st f fd ∧ mg x = some (.ref f) ∧ Binds K fd ps []
section
variable {P : Program} {w : World} {K : PySem.W.Frag} {mg : Str → Option Value} {base : Heap}
/-- the rule for a def -/
theorem Dd.cal {x : Str} {st : Stmt} {N ps : List Str} {k : Nat} {sp : Sp} (F : Dd K mg x st ps) (S : FnScope N ps (defScope st)) (len : ∀ vs H Q E, sp vs H Q E → vs.length = ps.length)
    (hbody : ∀ (f : Addr) (cdv : Value) (A : Around) (outer : List Env) (s : Shared) (H : Hp) (vs : List V) (Q : VK) (E : XK), Room k (A.deeper (envOfC x (defScope st) s.heap.objs.size f cdv)) → sp vs H Q E →
      ∃ t, PSs (cxOf CX0 P w K mg base N x (defScope st) f cdv A outer s H E).nox (defBody st) t ∧ t { nx := fun _ H' => Q .non H', rt := Q } (start N vs) H) : Cal P w K mg base (k + 1) x sp [] := by
  obtain ⟨f, fd, F1, hm, b⟩ := F.ex
  exact ⟨f, fd, ps, [], F1.ok S len (fun cdv A outer s H vs Q E hr h => hbody f cdv A outer s H vs Q E hr h), hm, F1.kp, b, .nil⟩
/-- the law itself -/
theorem Dd.law {x : Str} {st : Stmt} {N ps : List Str} {k : Nat} {sp : Sp} {fa : Addr} (F : Dd K mg x st ps) (S : FnScope N ps (defScope st)) (hfa : mg x = some (.ref fa)) (len : ∀ vs H Q E, sp vs H Q E → vs.length = ps.length)
    (hbody : ∀ (base : Heap) (f : Addr) (cdv : Value) (A : Around) (outer : List Env) (s : Shared) (H : Hp) (vs : List V) (Q : VK) (E : XK), Room k (A.deeper (envOfC x (defScope st) s.heap.objs.size f cdv)) → sp vs H Q E →
      ∃ t, PSs (cxOf CX0 P w K mg base N x (defScope st) f cdv A outer s H E).nox (defBody st) t ∧ t { nx := fun _ H' => Q .non H', rt := Q } (start N vs) H) :
    ∃ fd : FuncData, (∃ (kV doc pm : Value) (an : Option Addr) (cdv ct : Value), fd = PySem.W.fnOf x x (defArgs st) (defBody st) (defScope st) .none kV doc pm an cdv ct) ∧ ∀ base : Heap, FnOk P w K mg base CX0 (k + 1) fa fd ps sp := by
  obtain ⟨f, fd, F1, hm, b⟩ := F.ex
  have e := hfa.symm.trans hm
  cases e
  refine ⟨fd, ?_, fun base => F1.ok S len (fun cdv A outer s H vs Q E hr h => hbody base fa cdv A outer s H vs Q E hr h)⟩
  obtain ⟨oc, od, kV, doc, pm, an, cdv, ct, osl, rfl, lk, hcd⟩ := F1.ex
  exact ⟨kV, doc, pm, an, cdv, ct, rfl⟩
theorem cxK {CX : CXT} {N : List Str} {x : Str} {sc : Scope} {f : Addr} {cdv : Value} {A : Around} {outer : List Env} {s : Shared} {H : Hp} {E : XK} : (cxOf CX P w K mg base N x sc f cdv A outer s H E).nox.K = K := rfl
end
section
variable {X : Cx} {k j : Nat} {x : Str} {sp : Sp} {dvs : List V} {p pos : Pos} {e : Expr} {es : List Expr} {t : TA}
theorem pe_c (c : Cal X.prog X.w X.K X.mg X.base k x sp dvs) (hr : Room j X.A) (hk : k ≤ j) (hg : Gl X x) (ha : PA X (e :: es) t)
    (hdb : (x == ("__debug__" : Str)) = false := by decide) (he : starEach (e :: es) X.env = (false, eval e X.env) :: starEach es X.env := by rfl) (hpl : (backTo pos (starEach es X.env)).any (·.1) = false := by rfl) :
    PE X (.Call (.Name x p) (e :: es) [] pos) (tCall sp dvs E0 t) := by
  obtain ⟨f, fd, ps, ds, F, hm, kp, b, d⟩ := c.ex
  exact pe_call F (hr.mono hk) hg hm kp b d pass0 ha hdb he hpl
theorem pe_call0C (c : Cal X.prog X.w X.K X.mg X.base k x sp dvs) (hr : Room j X.A) (hk : k ≤ j) (hg : Gl X x)
    (hdb : (x == ("__debug__" : Str)) = false := by decide) : PE X (.Call (.Name x p) [] [] pos) (tCall sp dvs E0 tNil) := by
  obtain ⟨f, fd, ps, ds, F, hm, kp, b, d⟩ := c.ex
  exact pe_call0 F (hr.mono hk) hg hm kp b d pass0 hdb
theorem pe_gc {v : V} (hg : Gl X x) (h : ∃ u, X.mg x = some u ∧ RelV v u) (hd : (x == ("__debug__" : Str)) = false := by decide) : PE X (.Name x pos) (tC v) := by
  obtain ⟨u, hm, r⟩ := h
  exact pe_glob hg hm r hd
end
/-! ### readings, one step each -/
section
variable {K : PySem.W.Frag} {σ : L2.St} {H : Hp} {ta tb te tc to : TE} {t tr : TA} {tt tu : TT} {Q : VK} {QA : List V → Hp → Prop} {QB : Bool → Hp → Prop} {D : Ends} {u v : TS} {r r' : R2} {rc : List V → Hp → VK → Prop} {g : TG}
theorem i_var {i : Nat} {x : V} (h : σ[i]? = some (some x)) (q : Q x H) : tVar i σ H Q := ⟨x, h, q⟩
theorem i_c {x : V} (q : Q x H) : tC x σ H Q := q
theorem i_op (q : ta σ H fun x H1 => tb σ H1 fun y H2 => r x y H2 Q) : tOp r ta tb σ H Q := q
theorem i_un {ru : V → Hp → VK → Prop} (q : ta σ H fun x H1 => ru x H1 Q) : tUn ru ta σ H Q := q
theorem i_neg {i : Int} (q : Q (.int (-i)) H) : rU (fun i => .int (-i)) (.int i) H Q := ⟨i, rfl, q⟩
theorem i_cb (q : t σ H fun vs H1 => rc vs H1 Q) : tCB rc t σ H Q := q
theorem i_cons (q : ta σ H fun x H1 => tr σ H1 fun xs H2 => QA (x :: xs) H2) : tCons ta tr σ H QA := q
theorem i_nil (q : QA [] H) : tNil σ H QA := q
theorem i_test (q : te σ H fun x H' => ∃ k, x = .bl k ∧ QB k H') : tTest te σ H QB := q
theorem i_b (q : te σ H fun x H' => ∃ k, x = .bl k ∧ QB k H') : tB te σ H QB := q
theorem i_bl {b : Bool} {R : Bool → Prop} (q : R b) : ∃ k, V.bl b = .bl k ∧ R k := ⟨b, rfl, q⟩
theorem i_and (q : tt σ H fun c H1 => if c = true then tu σ H1 QB else QB false H1) : tAnd tt tu σ H QB := q
theorem i_or (q : tt σ H fun c H1 => if c = true then QB true H1 else tu σ H1 QB) : tOr tt tu σ H QB := q
theorem i_not (q : tt σ H fun c H1 => QB (!c) H1) : tNot tt σ H QB := q
theorem i_andV (q : ta σ H fun x H1 => ∃ c, x = .bl c ∧ if c = true then tb σ H1 Q else Q (.bl false) H1) : tAndV ta tb σ H Q := q
theorem i_orV (q : ta σ H fun x H1 => ∃ c, x = .bl c ∧ if c = true then Q (.bl true) H1 else tb σ H1 Q) : tOrV ta tb σ H Q := q
theorem i_notV (q : ta σ H fun x H1 => ∃ c, x = .bl c ∧ Q (.bl (!c)) H1) : tNotV ta σ H Q := q
theorem i_if (q : tt σ H fun c H1 => if c = true then ta σ H1 Q else tb σ H1 Q) : tIf tt ta tb σ H Q := q
theorem i_chain (q : ta σ H fun x H1 => tb σ H1 fun y H2 => r x y H2 fun z H3 => ∃ k, z = .bl k ∧ (if k = true then tc σ H3 fun w' H4 => r' y w' H4 Q else Q (.bl false) H3)) : tChain r r' ta tb tc σ H Q := q
theorem i_seq (q : u { D with nx := v D } σ H) : tSeq u v D σ H := q
theorem i_next (q : D.nx σ H) : tNext D σ H := q
theorem i_lst (q : t σ H fun xs H1 => xs.length ≤ sizeLine ∧ ∀ p, H1 p = none → Q (.ref p) (upd H1 p (.lst xs))) : tLst t σ H Q := q
theorem i_tup (q : t σ H fun xs H1 => xs.length ≤ sizeLine ∧ ∀ p, H1 p = none → Q (.ref p) (upd H1 p (.tup xs))) : tTup t σ H Q := q
theorem i_drop (q : te σ H fun _ H1 => D.nx σ H1) : tDrop te D σ H := q
theorem i_ret (q : te σ H D.rt) : tRet te D σ H := q
theorem i_ifS (q : tt σ H fun b H1 => if b = true then u D σ H1 else v D σ H1) : tIfS tt u v D σ H := q
theorem i_call {sp : Sp} {dvs : List V} {E : XK} (q : t σ H fun vs H1 => sp (vs ++ dvs) H1 Q E) : tCall sp dvs E t σ H Q := q
theorem i_asg (q : te σ H fun x H1 => g x σ H1 D.nx) : tAsg te g D σ H := q
theorem i_name {i : Nat} {x : V} {R : L2.St → Hp → Prop} (q : R (σ.set i (some x)) H) : gName i x σ H R := q
theorem i_start {N : List Str} {vs : List V} {τ : L2.St} {t : TS} (e : start N vs = τ) (q : t D τ H) : t D (start N vs) H := by
  subst e
  exact q
theorem i_sub {ti : TE} {ts : TSet} {x : V} {R : L2.St → Hp → Prop} (q : to σ H fun o H1 => ti σ H1 fun i H2 => ts o i x H2 fun H3 => R σ H3) : L2.gSub to ti ts x σ H R := q
theorem i_sl {rs : V → Option Int → Option Int → Hp → VK → Prop} {tl th : TO} (q : te σ H fun x H1 => tl σ H1 fun l H2 => th σ H2 fun u H3 => rs x l u H3 Q) : tSl rs te tl th σ H Q := q
theorem i_noP {QO : Option Int → Hp → Prop} (q : QO none H) : tNoPart σ H QO := q
theorem i_part {QO : Option Int → Hp → Prop} (q : te σ H fun x H1 => ∃ i, x = .int i ∧ QO (some i) H1) : tPart te σ H QO := q
theorem i_int {i : Int} {R : Int → Prop} (q : R i) : ∃ k, V.int i = .int k ∧ R k := ⟨i, rfl, q⟩
theorem i_bm {T : String} {rm : V → List V → Hp → VK → Prop} (q : to σ H fun x H1 => tyV K T x H1 ∧ t σ H1 fun xs H2 => rm x xs H2 Q) : tBM K T rm to t σ H Q := q
theorem i_strT {z : Str} {R : Prop} (q : R) : tyV K "str" (.str z) H ∧ R := ⟨rfl, q⟩
theorem i_yes {QB : Bool → Hp → Prop} (q : QB true H) : tYes σ H QB := q
theorem i_ite {p A B : Prop} [Decidable p] (h1 : p → A) (h2 : ¬ p → B) : if decide p = true then A else B := by
  by_cases h : p
  · rw [if_pos (decide_eq_true h)]
    exact h1 h
  · rw [if_neg (by rw [decide_eq_false h]; exact Bool.false_ne_true)]
    exact h2 h
theorem i_iteN {p A B : Prop} [Decidable p] (h1 : ¬ p → A) (h2 : p → B) : if (!decide p) = true then A else B := by
  by_cases h : p
  · rw [decide_eq_true h]
    exact iteF (h2 h)
  · rw [decide_eq_false h]
    exact iteT (h1 h)
theorem i_iteB {b : Bool} {A B : Prop} (h1 : b = true → A) (h2 : b = false → B) : if b = true then A else B := by
  cases b with
  | true => exact iteT (h1 rfl)
  | false => exact iteF (h2 rfl)
theorem i_iteBN {b : Bool} {A B : Prop} (h1 : b = false → A) (h2 : b = true → B) : if (!b) = true then A else B := by
  cases b with
  | true => exact iteF (h2 rfl)
  | false => exact iteT (h1 rfl)
/-- a comprehension's turns -/
def lcB (J : It) (g : TG) (tt : TT) (te : TE) (vs : List Nat) (σ : L2.St) (Q : VK) (H1 : Hp) : Prop := ∀ D, H1 D = none → ∃ W : Nat → Nat → Hp → Prop, (∃ m, W 0 m (upd H1 D (.lst []))) ∧ ∀ i m H, W i m H →
  (J.stop i H ∧ Q (.ref D) H) ∨ (J.go i H ∧ ∃ Nx : Hp → Prop, (∀ H', Nx H' → ∃ m', m' < m ∧ W (i + 1) m' H') ∧ ∀ x H', J.yld i H x H' → g x (wipe σ vs) H' fun σ2 H2 => wipe σ2 vs = wipe σ vs ∧ tt σ2 H2 fun b H3 =>
    if b = true then te σ2 H3 fun y H4 => ∃ acc, H4 D = some (.lst acc) ∧ acc.length < sizeLine ∧ Nx (upd H4 D (.lst (acc ++ [y]))) else Nx H3)
/-- a loop's turns -/
def forB (J : It) (g : TG) (tb : TS) (D : Ends) (σ : L2.St) (H1 : Hp) : Prop := ∃ W : Nat → Nat → L2.St → Hp → Prop, (∃ m, W 0 m σ H1) ∧ ∀ i m σ H, W i m σ H →
  (J.stop i H ∧ D.nx σ H) ∨ (J.go i H ∧ ∃ N : L2.St → Hp → Prop, (∀ σ' H', N σ' H' → ∃ m', m' < m ∧ W (i + 1) m' σ' H') ∧ ∀ x H', J.yld i H x H' → g x σ H' fun σ2 H2 => tb { D with nx := N, ct := N, bk := D.nx } σ2 H2)
theorem i_lc {wi : TI} {vs : List Nat} (q : wi σ H fun J H1 => lcB J g tt te vs σ Q H1) : tLc wi g tt te vs σ H Q := q
theorem i_for {wi : TI} (q : wi σ H fun J H1 => forB J g u D σ H1) : tFor wi g u D σ H := q
theorem i_anyL {R : It → Hp → Prop} (q : te σ H fun x H1 => ∃ a, x = .ref a ∧ (∃ xs, SqL K H1 a xs) ∧ R (Itl K a) H1) : iAny K te σ H R := .inl q
theorem i_anyT {R : It → Hp → Prop} (q : te σ H fun x H1 => ∃ a, x = .ref a ∧ (∃ xs, SqT K H1 a xs) ∧ R (Itt K a) H1) : iAny K te σ H R := .inr (.inl q)
theorem i_anyS {R : It → Hp → Prop} (q : te σ H fun v H1 => ∃ x, v = .str x ∧ R (Its x) H1) : iAny K te σ H R := .inr (.inr q)
theorem i_rng1 {R : It → Hp → Prop} (q : t σ H fun vs H1 => ∃ j : Int, vs = [.int j] ∧ -(2 ^ 62) ≤ j ∧ j < 2 ^ 62 ∧ R (Itr 0 j.toNat) H1) : iRng1 t σ H R := q
theorem i_rng2 {R : It → Hp → Prop} (q : t σ H fun vs H1 => ∃ i j : Int, vs = [.int i, .int j] ∧ (-(2 ^ 62) ≤ i ∧ i < 2 ^ 62 ∧ -(2 ^ 62) ≤ j ∧ j < 2 ^ 62) ∧ R (Itr i (j - i).toNat) H1) : iRng2 t σ H R := q
theorem l_rng1 {j : Int} {R : It → Hp → Prop} (h1 : -(2 ^ 62) ≤ j) (h2 : j < 2 ^ 62) (q : R (Itr 0 j.toNat) H) : ∃ k : Int, [V.int j] = [.int k] ∧ -(2 ^ 62) ≤ k ∧ k < 2 ^ 62 ∧ R (Itr 0 k.toNat) H := ⟨j, rfl, h1, h2, q⟩
/-- a range: what holds between the turns -/
theorem for_rng {n : Nat} {lo : Int} (Pv : Nat → L2.St → Hp → Prop) (h0 : Pv 0 σ H)
    (hs : ∀ i σ H, i < n → Pv i σ H → g (.int (lo + i)) σ H fun σ2 H2 => u { D with nx := Pv (i + 1), ct := Pv (i + 1), bk := D.nx } σ2 H2) (hd : ∀ σ H, Pv n σ H → D.nx σ H) : forB (Itr lo n) g u D σ H := for_range Pv h0 hs hd
theorem for_lst {a : Addr} {xs : List V} (Pv : Nat → L2.St → Hp → Prop) (h0 : Pv 0 σ H) (hl : ∀ i σ H, i ≤ xs.length → Pv i σ H → SqL K H a xs)
    (hs : ∀ i x σ H, xs[i]? = some x → Pv i σ H → g x σ H fun σ2 H2 => u { D with nx := Pv (i + 1), ct := Pv (i + 1), bk := D.nx } σ2 H2) (hd : ∀ σ H, Pv xs.length σ H → D.nx σ H) : forB (Itl K a) g u D σ H := for_list Pv h0 hl hs hd
/-- a text, sign by sign -/
theorem lc_text {x : Str} {vs : List Nat} {DD : Addr} (hD : H DD = none) (Pv : Nat → Hp → Prop) (h0 : Pv 0 (upd H DD (.lst [])))
    (hs : ∀ i c H, x.cps.toList[i]? = some c → Pv i H → g (.str ⟨#[c]⟩) (wipe σ vs) H fun σ2 H2 => wipe σ2 vs = wipe σ vs ∧ tt σ2 H2 fun b H3 =>
      if b = true then te σ2 H3 fun y H4 => ∃ acc, H4 DD = some (.lst acc) ∧ acc.length < sizeLine ∧ Pv (i + 1) (upd H4 DD (.lst (acc ++ [y]))) else Pv (i + 1) H3) (hd : ∀ H, Pv x.cps.toList.length H → Q (.ref DD) H) :
    ∃ W : Nat → Nat → Hp → Prop, (∃ m, W 0 m (upd H DD (.lst []))) ∧ ∀ i m H, W i m H →
      ((Its x).stop i H ∧ Q (.ref DD) H) ∨ ((Its x).go i H ∧ ∃ Nx : Hp → Prop, (∀ H', Nx H' → ∃ m', m' < m ∧ W (i + 1) m' H') ∧ ∀ v H', (Its x).yld i H v H' → g v (wipe σ vs) H' fun σ2 H2 => wipe σ2 vs = wipe σ vs ∧ tt σ2 H2 fun b H3 =>
        if b = true then te σ2 H3 fun y H4 => ∃ acc, H4 DD = some (.lst acc) ∧ acc.length < sizeLine ∧ Nx (upd H4 DD (.lst (acc ++ [y]))) else Nx H3) := by
  have el : x.cps.toList.length = x.cps.size := Array.length_toList
  refine ⟨fun i m H => m = x.cps.size - i ∧ i ≤ x.cps.size ∧ Pv i H, ⟨x.cps.size, by simp, Nat.zero_le _, h0⟩, ?_⟩
  rintro i m H ⟨rfl, hi, p⟩
  by_cases hlt : i < x.cps.size
  · refine .inr ⟨hlt, Pv (i + 1), fun H' p' => ⟨x.cps.size - (i + 1), by omega, rfl, hlt, p'⟩, fun v H' y => ?_⟩
    obtain ⟨rfl, c, hc, rfl⟩ := y
    exact hs i c H' (by rw [Array.getElem?_toList]; exact hc) p
  · have e : i = x.cps.size := by omega
    subst e
    exact .inl ⟨Nat.le_refl _, hd H (by rw [el]; exact p)⟩
theorem i_len {xs : List V} {R : Prop} (h : xs.length ≤ sizeLine) (q : R) : xs.length ≤ sizeLine ∧ R := ⟨h, q⟩
theorem iteNF {A B : Prop} (h : A) : if (!false) = true then A else B := h
theorem iteNT {A B : Prop} (h : B) : if (!true) = true then A else B := h
/-! leaves -/
theorem l_inT {x : V} {p : Addr} {xs : List V} (h : SqT K H p xs) (hx : flatV x = true) (ha : xs.all flatV = true) (q : Q (.bl (inV x xs)) H) : rInA K x (.ref p) H Q := .inr (.inl ⟨p, xs, rfl, .inr h, hx, ha, q⟩)
theorem l_inL {x : V} {p : Addr} {xs : List V} (h : SqL K H p xs) (hx : flatV x = true) (ha : xs.all flatV = true) (q : Q (.bl (inV x xs)) H) : rInA K x (.ref p) H Q := .inr (.inl ⟨p, xs, rfl, .inl h, hx, ha, q⟩)
theorem l_notInT {x : V} {p : Addr} {xs : List V} (h : SqT K H p xs) (hx : flatV x = true) (ha : xs.all flatV = true) (q : Q (.bl (!inV x xs)) H) : rNotInA K x (.ref p) H Q := .inr (.inl ⟨p, xs, rfl, .inr h, hx, ha, q⟩)
theorem l_notInL {x : V} {p : Addr} {xs : List V} (h : SqL K H p xs) (hx : flatV x = true) (ha : xs.all flatV = true) (q : Q (.bl (!inV x xs)) H) : rNotInA K x (.ref p) H Q := .inr (.inl ⟨p, xs, rfl, .inl h, hx, ha, q⟩)
theorem l_inC {c : Nat} {z : Str} (q : Q (.bl (decide (c ∈ z.cps.toList))) H) : rInA K (.str ⟨#[c]⟩) (.str z) H Q := .inl ⟨c, z, rfl, rfl, q⟩
theorem l_str1 {g : Str → Str → V} {a b : Str} (h : a.length ≤ sizeLine) (q : Q (g a b) H) : ∃ a' b', V.str a = .str a' ∧ [V.str b] = [.str b'] ∧ a'.length ≤ sizeLine ∧ Q (g a' b') H := ⟨a, b, rfl, rfl, h, q⟩
theorem l_addI {i j : Int} (q : Q (.int (i + j)) H) : rAdd K (.int i) (.int j) H Q := q
theorem l_addS {i j : Str} (h : i.length + j.length ≤ sizeLine) (q : Q (.str (i ++ j)) H) : rAdd K (.str i) (.str j) H Q := ⟨h, q⟩
theorem l_subI {i j : Int} (q : Q (.int (i - j)) H) : rSub (.int i) (.int j) H Q := q
theorem l_mul {i j : Int} (h : CMul i j ∨ CMulW i j) (q : Q (.int (i * j)) H) : rMul (.int i) (.int j) H Q := ⟨h, q⟩
theorem l_div {i j : Int} (h : CDivW i j) (q : Q (.int (i / j)) H) : rDiv (.int i) (.int j) H Q := ⟨h, q⟩
theorem l_mod {i j : Int} (h : 0 < j) (q : Q (.int (i % j)) H) : rMod (.int i) (.int j) H Q := ⟨h, q⟩
theorem l_pow {i j : Int} (h : CPow i j) (q : Q (.int (i ^ j.toNat)) H) : rPow (.int i) (.int j) H Q := ⟨h, q⟩
theorem l_cmp {gg : Int → Int → Bool} {i j : Int} (q : Q (.bl (gg i j)) H) : rCmp gg (.int i) (.int j) H Q := q
theorem l_eqI {i j : Int} (q : Q (.bl (decide (i = j))) H) : rEqA K (.int i) (.int j) H Q := .inl ⟨rfl, by rw [show decide (V.int i = V.int j) = decide (i = j) by simp]; exact q⟩
theorem l_eqS {i j : Str} (q : Q (.bl (decide (i = j))) H) : rEqA K (.str i) (.str j) H Q := .inl ⟨rfl, by rw [show decide (V.str i = V.str j) = decide (i = j) by simp]; exact q⟩
theorem l_eqB {i j : Bool} (q : Q (.bl (decide (i = j))) H) : rEqA K (.bl i) (.bl j) H Q := .inl ⟨rfl, by rw [show decide (V.bl i = V.bl j) = decide (i = j) by simp]; exact q⟩
theorem l_neI {i j : Int} (q : Q (.bl (!decide (i = j))) H) : rNeA K (.int i) (.int j) H Q := .inl ⟨rfl, by rw [show decide (V.int i = V.int j) = decide (i = j) by simp]; exact q⟩
theorem l_neS {i j : Str} (q : Q (.bl (!decide (i = j))) H) : rNeA K (.str i) (.str j) H Q := .inl ⟨rfl, by rw [show decide (V.str i = V.str j) = decide (i = j) by simp]; exact q⟩
theorem l_neB {i j : Bool} (q : Q (.bl (!decide (i = j))) H) : rNeA K (.bl i) (.bl j) H Q := .inl ⟨rfl, by rw [show decide (V.bl i = V.bl j) = decide (i = j) by simp]; exact q⟩
theorem l_neSelf {x : V} (h : scal x x = true) (q : Q (.bl false) H) : rNeA K x x H Q := .inl ⟨h, by rw [decide_eq_true rfl]; exact q⟩
theorem l_eqSelf {x : V} (h : scal x x = true) (q : Q (.bl true) H) : rEqA K x x H Q := .inl ⟨h, by rw [decide_eq_true rfl]; exact q⟩
theorem l_isN {x : V} (q : Q (.bl (decide (x = .non))) H) : rIsA x .non H Q := .inl ⟨rfl, q⟩
theorem l_isNotN {x : V} (q : Q (.bl (!decide (x = .non))) H) : rIsNotA x .non H Q := .inl ⟨rfl, q⟩
theorem l_isB {x y : Bool} (q : Q (.bl (decide (x = y))) H) : rIsA (.bl x) (.bl y) H Q := .inr ⟨x, y, rfl, rfl, q⟩
theorem l_isNotB {x y : Bool} (q : Q (.bl (!decide (x = y))) H) : rIsNotA (.bl x) (.bl y) H Q := .inr ⟨x, y, rfl, rfl, q⟩
theorem l_intI {i : Int} (q : Q (.int i) H) : rIntA [.int i] H Q := q
theorem l_intB {k : Bool} (q : Q (.int (if k then 1 else 0)) H) : rIntA [.bl k] H Q := q
theorem l_intS {a : Str} {n : Int} (h : PySem.intText? a = some n) (h2 : a.length ≤ 640) (q : Q (.int n) H) : rIntA [.str a] H Q := ⟨n, h, h2, q⟩
theorem l_strI {i : Int} (h : i.natAbs.log2 < 1920) (q : Q (.str (toString i)) H) : rStrA [.int i] H Q := ⟨h, q⟩
theorem l_lenS {y : Str} (h : y.length ≤ sizeLine) (q : Q (.int y.length) H) : rLen K [.str y] H Q := ⟨h, q⟩
theorem l_lenL {p : Addr} {xs : List V} (h : H p = some (.lst xs)) (q : Q (.int xs.length) H) : rLen K [.ref p] H Q := ⟨xs, .inl (SqL.of h), q⟩
theorem l_lenT {p : Addr} {xs : List V} (h : H p = some (.tup xs)) (q : Q (.int xs.length) H) : rLen K [.ref p] H Q := ⟨xs, .inr (SqT.of h), q⟩
theorem l_ixL {p : Addr} {xs : List V} {i : Int} {x : V} (h : H p = some (.lst xs)) (e : atI xs i = some x) (q : Q x H) : rIxA K (.ref p) (.int i) H Q := ⟨xs, x, .inl (SqL.of h), e, q⟩
theorem l_ixT {p : Addr} {xs : List V} {i : Int} {x : V} (h : H p = some (.tup xs)) (e : atI xs i = some x) (q : Q x H) : rIxA K (.ref p) (.int i) H Q := ⟨xs, x, .inr (SqT.of h), e, q⟩
theorem l_ixS {z : Str} {i : Int} {c : Nat} (h : z.length ≤ sizeLine) (e : atI z.cps.toList i = some c) (q : Q (.str ⟨#[c]⟩) H) : rIxA K (.str z) (.int i) H Q := ⟨h, c, e, q⟩
theorem l_slS {z : Str} {lo hi : Option Int} (h : z.length ≤ sizeLine) (q : Q (.str (cutS z lo hi)) H) : rSlG K (.str z) lo hi H Q := ⟨h, q⟩
theorem l_slL {a : Addr} {xs : List V} {lo hi : Option Int} (h : SqL K H a xs) (q : ∀ p, H p = none → Q (.ref p) (upd H p (.lst (cutV xs lo hi)))) : rSlG K (.ref a) lo hi H Q := .inl ⟨a, xs, rfl, h, q⟩
theorem l_setL {p : Addr} {xs : List V} {k : Int} {j : Nat} {x : V} {R : Hp → Prop} (h : H p = some (.lst xs)) (e : ixN xs.length k = some j) (q : R (upd H p (.lst (xs.set j x)))) : rSetL (.ref p) (.int k) x H R := ⟨p, xs, k, j, rfl, rfl, h, e, q⟩
theorem l_isi {x : V} {n : String} {tv : Value} {b : Bool} (ty : TyX K H x tv) (e : PySem.W.kitOne K tv (.type n) = some b) (q : Q (.bl b) H) : rIsiA K [x, .ty n] H Q := .inl ⟨x, .ty n, tv, .type n, b, rfl, .ty n, ty, e, q⟩
end
/-! isinstance of the plain kinds -/
theorem kt_NoneType_str {K : PySem.W.Frag} : PySem.W.kitOne K (.type "NoneType") (.type "str") = some false := kit_ty (by decide +kernel)
theorem kt_NoneType_int {K : PySem.W.Frag} : PySem.W.kitOne K (.type "NoneType") (.type "int") = some false := kit_ty (by decide +kernel)
theorem kt_NoneType_bool {K : PySem.W.Frag} : PySem.W.kitOne K (.type "NoneType") (.type "bool") = some false := kit_ty (by decide +kernel)
theorem kt_NoneType_tuple {K : PySem.W.Frag} : PySem.W.kitOne K (.type "NoneType") (.type "tuple") = some false := kit_ty (by decide +kernel)
theorem kt_NoneType_list {K : PySem.W.Frag} : PySem.W.kitOne K (.type "NoneType") (.type "list") = some false := kit_ty (by decide +kernel)
theorem kt_NoneType_dict {K : PySem.W.Frag} : PySem.W.kitOne K (.type "NoneType") (.type "dict") = some false := kit_ty (by decide +kernel)
theorem kt_bool_str {K : PySem.W.Frag} : PySem.W.kitOne K (.type "bool") (.type "str") = some false := kit_ty (by decide +kernel)
theorem kt_bool_int {K : PySem.W.Frag} : PySem.W.kitOne K (.type "bool") (.type "int") = some true := kit_ty (by decide +kernel)
theorem kt_bool_bool {K : PySem.W.Frag} : PySem.W.kitOne K (.type "bool") (.type "bool") = some true := kit_ty (by decide +kernel)
theorem kt_bool_tuple {K : PySem.W.Frag} : PySem.W.kitOne K (.type "bool") (.type "tuple") = some false := kit_ty (by decide +kernel)
theorem kt_bool_list {K : PySem.W.Frag} : PySem.W.kitOne K (.type "bool") (.type "list") = some false := kit_ty (by decide +kernel)
theorem kt_bool_dict {K : PySem.W.Frag} : PySem.W.kitOne K (.type "bool") (.type "dict") = some false := kit_ty (by decide +kernel)
theorem kt_int_str {K : PySem.W.Frag} : PySem.W.kitOne K (.type "int") (.type "str") = some false := kit_ty (by decide +kernel)
theorem kt_int_int {K : PySem.W.Frag} : PySem.W.kitOne K (.type "int") (.type "int") = some true := kit_ty (by decide +kernel)
theorem kt_int_bool {K : PySem.W.Frag} : PySem.W.kitOne K (.type "int") (.type "bool") = some false := kit_ty (by decide +kernel)
theorem kt_int_tuple {K : PySem.W.Frag} : PySem.W.kitOne K (.type "int") (.type "tuple") = some false := kit_ty (by decide +kernel)
theorem kt_int_list {K : PySem.W.Frag} : PySem.W.kitOne K (.type "int") (.type "list") = some false := kit_ty (by decide +kernel)
theorem kt_int_dict {K : PySem.W.Frag} : PySem.W.kitOne K (.type "int") (.type "dict") = some false := kit_ty (by decide +kernel)
theorem kt_str_str {K : PySem.W.Frag} : PySem.W.kitOne K (.type "str") (.type "str") = some true := kit_ty (by decide +kernel)
theorem kt_str_int {K : PySem.W.Frag} : PySem.W.kitOne K (.type "str") (.type "int") = some false := kit_ty (by decide +kernel)
theorem kt_str_bool {K : PySem.W.Frag} : PySem.W.kitOne K (.type "str") (.type "bool") = some false := kit_ty (by decide +kernel)
theorem kt_str_tuple {K : PySem.W.Frag} : PySem.W.kitOne K (.type "str") (.type "tuple") = some false := kit_ty (by decide +kernel)
theorem kt_str_list {K : PySem.W.Frag} : PySem.W.kitOne K (.type "str") (.type "list") = some false := kit_ty (by decide +kernel)
theorem kt_str_dict {K : PySem.W.Frag} : PySem.W.kitOne K (.type "str") (.type "dict") = some false := kit_ty (by decide +kernel)
theorem kt_list_str {K : PySem.W.Frag} : PySem.W.kitOne K (.type "list") (.type "str") = some false := kit_ty (by decide +kernel)
theorem kt_list_int {K : PySem.W.Frag} : PySem.W.kitOne K (.type "list") (.type "int") = some false := kit_ty (by decide +kernel)
theorem kt_list_bool {K : PySem.W.Frag} : PySem.W.kitOne K (.type "list") (.type "bool") = some false := kit_ty (by decide +kernel)
theorem kt_list_tuple {K : PySem.W.Frag} : PySem.W.kitOne K (.type "list") (.type "tuple") = some false := kit_ty (by decide +kernel)
theorem kt_list_list {K : PySem.W.Frag} : PySem.W.kitOne K (.type "list") (.type "list") = some true := kit_ty (by decide +kernel)
theorem kt_list_dict {K : PySem.W.Frag} : PySem.W.kitOne K (.type "list") (.type "dict") = some false := kit_ty (by decide +kernel)
theorem kt_tuple_str {K : PySem.W.Frag} : PySem.W.kitOne K (.type "tuple") (.type "str") = some false := kit_ty (by decide +kernel)
theorem kt_tuple_int {K : PySem.W.Frag} : PySem.W.kitOne K (.type "tuple") (.type "int") = some false := kit_ty (by decide +kernel)
theorem kt_tuple_bool {K : PySem.W.Frag} : PySem.W.kitOne K (.type "tuple") (.type "bool") = some false := kit_ty (by decide +kernel)
theorem kt_tuple_tuple {K : PySem.W.Frag} : PySem.W.kitOne K (.type "tuple") (.type "tuple") = some true := kit_ty (by decide +kernel)
theorem kt_tuple_list {K : PySem.W.Frag} : PySem.W.kitOne K (.type "tuple") (.type "list") = some false := kit_ty (by decide +kernel)
theorem kt_tuple_dict {K : PySem.W.Frag} : PySem.W.kitOne K (.type "tuple") (.type "dict") = some false := kit_ty (by decide +kernel)
theorem kt_dict_str {K : PySem.W.Frag} : PySem.W.kitOne K (.type "dict") (.type "str") = some false := kit_ty (by decide +kernel)
theorem kt_dict_int {K : PySem.W.Frag} : PySem.W.kitOne K (.type "dict") (.type "int") = some false := kit_ty (by decide +kernel)
theorem kt_dict_bool {K : PySem.W.Frag} : PySem.W.kitOne K (.type "dict") (.type "bool") = some false := kit_ty (by decide +kernel)
theorem kt_dict_tuple {K : PySem.W.Frag} : PySem.W.kitOne K (.type "dict") (.type "tuple") = some false := kit_ty (by decide +kernel)
theorem kt_dict_list {K : PySem.W.Frag} : PySem.W.kitOne K (.type "dict") (.type "list") = some false := kit_ty (by decide +kernel)
theorem kt_dict_dict {K : PySem.W.Frag} : PySem.W.kitOne K (.type "dict") (.type "dict") = some true := kit_ty (by decide +kernel)
/-- all that was known stands -/
def Ex (H H' : Hp) : Prop := ∀ a o, H a = some o → H' a = some o
theorem Ex.refl (H : Hp) : Ex H H := fun _ _ h => h
theorem Ex.trans {H H1 H2 : Hp} (a : Ex H H1) (b : Ex H1 H2) : Ex H H2 := fun x o h => b x o (a x o h)
theorem Ex.new {H : Hp} {p : Addr} {o : HO} (h : H p = none) : Ex H (upd H p o) := fun a u e => by
  rw [upd_ne (ne_of_none e h)]
  exact e
theorem Ex.mut {H H' : Hp} {p : Addr} {o : HO} (e : Ex H H') (h : H p = none) : Ex H (upd H' p o) := fun a u ha => by
  rw [upd_ne (ne_of_none ha h)]
  exact e a u ha
theorem Ex.free {H H' : Hp} (e : Ex H H') {l : Addr} (h : H' l = Option.none) : H l = Option.none := by
  cases q : H l with
  | none => rfl
  | some o =>
    rw [e l o q] at h
    cases h
/-- all but the object at st stands -/
def But (st : Addr) (H H' : Hp) : Prop := ∀ a o, a ≠ st → H a = some o → H' a = some o
theorem But.refl {st : Addr} (H : Hp) : But st H H := fun _ _ _ h => h
theorem But.trans {st : Addr} {H H1 H2 : Hp} (a : But st H H1) (b : But st H1 H2) : But st H H2 := fun x o n h => b x o n (a x o n h)
theorem Ex.but {st : Addr} {H H' : Hp} (e : Ex H H') : But st H H' := fun a o _ h => e a o h
theorem But.mut {st : Addr} {H H' : Hp} {o : HO} (e : But st H H') : But st H (upd H' st o) := fun a u n h => by
  rw [upd_ne n]
  exact e a u n h
/-! ### data -/
theorem rd_mono {H H' : Hp} {a : Addr} {u : HO} (e : Ex H H') (h : Rd H a u) : Rd H' a u := by
  rcases h with h | ⟨o, h⟩
  · exact Or.inl (e a _ h)
  · exact Or.inr ⟨o, e a _ h⟩
theorem sqL_mono {K : PySem.W.Frag} {H H' : Hp} {a : Addr} {xs : List V} (e : Ex H H') (h : SqL K H a xs) : SqL K H' a xs := by
  rcases h with h | h
  · exact Or.inl (rd_mono e h)
  · exact Or.inr h
theorem sqT_mono {K : PySem.W.Frag} {H H' : Hp} {a : Addr} {xs : List V} (e : Ex H H') (h : SqT K H a xs) : SqT K H' a xs := by
  rcases h with h | h
  · exact Or.inl (rd_mono e h)
  · exact Or.inr h
mutual
theorem dp_mono {K : PySem.W.Frag} {H H' : Hp} (e : Ex H H') : ∀ (d : PyData) (v : V), Dp K H v d → Dp K H' v d
  | .none, _, .non => .non
  | .bool _, _, .bl b => .bl b
  | .int _, _, .int b => .int b
  | .str _, _, .str b => .str b
  | .list ds, _, .lst h1 h2 => .lst (sqL_mono e h1) (dpAll_mono e ds _ h2)
  | .tuple ds, _, .tup h1 h2 => .tup (sqT_mono e h1) (dpAll_mono e ds _ h2)
theorem dpAll_mono {K : PySem.W.Frag} {H H' : Hp} (e : Ex H H') : ∀ (ds : List PyData) (vs : List V), DpAll K H vs ds → DpAll K H' vs ds
  | [], _, .nil => .nil
  | d :: ds, _, .cons h1 h2 => .cons (dp_mono e d _ h1) (dpAll_mono e ds _ h2)
end
theorem dp_ints {K : PySem.W.Frag} {H : Hp} : ∀ ns : List Int, DpAll K H (ns.map V.int) (ns.map PyData.int)
  | [] => .nil
  | n :: ns => .cons (.int n) (dp_ints ns)
theorem lay_ints : ∀ ns : List Int, PyData.canLayAll0 (ns.map PyData.int) = true
  | [] => by simp [PyData.canLayAll0]
  | n :: ns => by
    rw [List.map_cons, PyData.canLayAll0, lay_ints ns]
    simp [PyData.canLay0]
theorem depth_ints : ∀ ns : List Int, PyData.depthAll (ns.map PyData.int) ≤ 1
  | [] => by simp [PyData.depthAll]
  | n :: ns => by
    have := depth_ints ns
    rw [List.map_cons, PyData.depthAll]
    simp [PyData.depth]
    exact this
theorem sh_ints (ns : List Int) : SeqAt.shaped (.list (ns.map PyData.int)) = true := by
  unfold SeqAt.shaped
  have h := depth_ints ns
  rw [PyData.canLay0, lay_ints ns, PyData.depth]
  simp
  omega
theorem at_ints {ns : List Int} {i : Int} (h0 : 0 ≤ i) (h1 : i < (ns.length : Int)) : ∃ z, atI (ns.map V.int) i = some (.int z) := by
  obtain ⟨j, rfl⟩ := Int.eq_ofNat_of_zero_le h0
  have hj : j < ns.length := by omega
  exact ⟨ns[j], atI_nat (by rw [List.getElem?_map, List.getElem?_eq_getElem hj]; rfl)⟩
theorem l_neNil {K : PySem.W.Frag} {H : Hp} {Q : VK} {p q : Addr} {ns : List Int} (hp : H p = some (.lst (ns.map V.int))) (hq : H q = some (.lst [])) (k : Q (.bl (!decide (ns = []))) H) : rNeA K (.ref p) (.ref q) H Q := by
  refine .inr ⟨.list (ns.map .int), .list [], .lst (SqL.of hp) (dp_ints ns), .lst (SqL.of hq) .nil, sh_ints ns, sh_ints [], ?_⟩
  have e : PyData.eqv (.list (ns.map .int)) (.list []) = decide (ns = []) := by
    cases ns <;> simp [PyData.eqv, PyData.eqvAll]
  rw [e]
  exact k
/-! ### the law's own draws -/
structure Dr (H : Hp) (st : Addr) (b : Nat) : Prop where
  ex : ∃ (L : Addr) (ns : List Int) (a c : Int), H st = some (.lst [.ref L, .int a, .int c]) ∧ H L = some (.lst (ns.map V.int)) ∧ st ≠ L ∧ 0 ≤ c ∧ c ≤ (b : Int)
theorem Dr.mono {H H' : Hp} {st : Addr} {b b' : Nat} (d : Dr H st b) (e : Ex H H') (h : b ≤ b') : Dr H' st b' := by
  obtain ⟨L, ns, a, c, h1, h2, h3, h4, h5⟩ := d.ex
  exact ⟨L, ns, a, c, e _ _ h1, e _ _ h2, h3, h4, by omega⟩
theorem Dr.up {H : Hp} {st : Addr} {b b' : Nat} (d : Dr H st b) (h : b ≤ b') : Dr H st b' := d.mono (Ex.refl H) h
/-- _law_open(script) -/
def spOpen (K : PySem.W.Frag) : Sp := fun vs H Q _ => ∃ (a : Addr) (ns : List Int), vs = [.ref a] ∧ SqL K H a (ns.map V.int) ∧ ns.length ≤ 63 ∧ ∀ (st : Addr) (H' : Hp), H st = none → Dr H' st 0 → Ex H H' → Q (.ref st) H'
/-- _law_draw(state, many): any number below many -/
def spDraw : Sp := fun vs H Q _ => ∃ (st : Addr) (n : Int) (b : Nat), vs = [.ref st, .int n] ∧ 0 < n ∧ n ≤ 10 ^ 18 ∧ Dr H st b ∧ b < 2 ^ 60 ∧
  ∀ (r : Int) (H' : Hp), 0 ≤ r → r < n → Dr H' st (b + 1) → But st H H' → Q (.int r) H'
theorem draw {st : Addr} {n : Int} {b : Nat} {H : Hp} {Q : VK} {E : XK} (hd : Dr H st b) (hn : 0 < n) (hn2 : n ≤ 10 ^ 18) (hb : b < 2 ^ 60) (q : ∀ r H', 0 ≤ r → r < n → Dr H' st (b + 1) → But st H H' → Q (.int r) H') : spDraw ([.ref st, .int n] ++ []) H Q E :=
  ⟨st, n, b, rfl, hn, hn2, hd, hb, q⟩
theorem Dr.ne {H : Hp} {st p : Addr} {b : Nat} (d : Dr H st b) (h : H p = none) : p ≠ st := by
  obtain ⟨L, ns, a, c, h1, _⟩ := d.ex
  exact (ne_of_none h1 h).symm
theorem at_str {z : Str} {i : Int} (h0 : 0 ≤ i) (h1 : i < (z.length : Int)) : ∃ c, c ∈ z.cps.toList ∧ atI z.cps.toList i = some c := by
  obtain ⟨j, rfl⟩ := Int.eq_ofNat_of_zero_le h0
  have hj : j < z.cps.toList.length := by
    rw [Array.length_toList]
    show j < z.length
    omega
  exact ⟨z.cps.toList[j], List.getElem_mem hj, atI_nat (List.getElem?_eq_getElem hj)⟩
theorem at_map {α : Type} {f : α → V} {xs : List α} {i : Int} (h0 : 0 ≤ i) (h1 : i < (xs.length : Int)) : ∃ z, z ∈ xs ∧ atI (xs.map f) i = some (f z) := by
  obtain ⟨j, rfl⟩ := Int.eq_ofNat_of_zero_le h0
  have hj : j < xs.length := by omega
  exact ⟨xs[j], List.getElem_mem hj, atI_nat (by rw [List.getElem?_map, List.getElem?_eq_getElem hj]; rfl)⟩
theorem at_list {xs : List V} {i : Int} (h0 : 0 ≤ i) (h1 : i < (xs.length : Int)) : ∃ z, z ∈ xs ∧ atI xs i = some z := by
  obtain ⟨z, h, e⟩ := at_map (f := id) h0 h1
  rw [List.map_id] at e
  exact ⟨z, h, e⟩
theorem cutV_map {α : Type} (f : α → V) (xs : List α) (lo hi : Option Int) : cutV (xs.map f) lo hi = ((xs.drop (HT.sIx xs.length 0 lo)).take (HT.sIx xs.length xs.length hi - HT.sIx xs.length 0 lo)).map f := by
  unfold cutV
  rw [List.length_map, ← List.map_drop, ← List.map_take]
theorem map_at {α : Type} {f : α → V} {xs : List α} {i : Nat} {x : V} (h : (xs.map f)[i]? = some x) : ∃ z, xs[i]? = some z ∧ x = f z := by
  rw [List.getElem?_map] at h
  cases e : xs[i]? with
  | none =>
    rw [e] at h
    cases h
  | some z =>
    rw [e] at h
    exact ⟨z, rfl, (Option.some.inj h).symm⟩
theorem take_succ {α : Type} {xs : List α} {i : Nat} {z : α} (h : xs[i]? = some z) : xs.take (i + 1) = xs.take i ++ [z] := by
  rw [List.take_add_one, h]
  rfl
end G
set_option Elab.async false
set_option linter.all false
set_option maxRecDepth 100000
namespace G
open PySem PySem.Spec PyProof.Rows L2
/-! ### defs that may raise, and defs that ask that nothing is being shown (repr) around them -/
/-- a def's promise; g: it is called only where no repr is under way -/
structure Fg (P : Program) (w : World) (K : PySem.W.Frag) (mg : Str → Option Value) (base : Heap) (g : Bool) (k : Nat) (f : Addr) (fd : FuncData) (ps : List Str) (sp : Sp) : Prop where
  len : ∀ vs H Q E, sp vs H Q E → vs.length = ps.length
  go : ∀ (A : Around) (outer : List Env) (s : Shared) (H : Hp) (args : Args) (us : List Value) (vs : List V) (Q : VK) (E : XK), Room k A → (g = true → A.guards = some []) → Env0 P w K mg base A outer s H → BindsTo s fd args (ps.zip us) → Vals vs us →
    sp vs H Q E → codeAny (model P w) A (.call (.ref f) args) (CR (L2.CX P w) outer P w H s Q E) s
section
variable {P : Program} {w : World} {K : PySem.W.Frag} {mg : Str → Option Value} {base : Heap} {g : Bool} {k j : Nat} {f : Addr} {fd : FuncData} {ps : List Str} {sp : Sp}
theorem Fg.of (F : FnOk P w K mg base (L2.CX P w) k f fd ps sp) : Fg P w K mg base g k f fd ps sp := ⟨F.len, fun A outer s H args us vs Q E hr _ => F.run A outer s H args us vs Q E hr⟩
theorem cr_of0 {outer : List Env} {H : Hp} {s : Shared} {Q : VK} {E : XK} {r : Result} {s' : Shared} (h : CR CX0 outer P w H s Q E r s') : CR (L2.CX P w) outer P w H s Q E r s' := by
  cases r with
  | error e => exact (show False from h).elim
  | ok fl => cases fl <;> exact h
theorem Fg.of0 (F : FnOk P w K mg base CX0 k f fd ps sp) : Fg P w K mg base g k f fd ps sp :=
  ⟨F.len, fun A outer s H args us vs Q E hr _ e0 hb r h => codeAny_mono (F.run A outer s H args us vs Q E hr e0 hb r h) fun _ _ z => cr_of0 z⟩
theorem Fg.mono (F : Fg P w K mg base g j f fd ps sp) (h : j ≤ k) : Fg P w K mg base g k f fd ps sp := ⟨F.len, fun A outer s H args us vs Q E hr => F.go A outer s H args us vs Q E (hr.mono h)⟩
end
/-- the rule for a def's body -/
theorem fg_of {P : Program} {w : World} {K : PySem.W.Frag} {mg : Str → Option Value} {base : Heap} {g : Bool} {x qual : Str} {st : Stmt} {f : Addr} {fd : FuncData} {N ps : List Str} {k : Nat} {sp : Sp} (F : Fun K x qual st f fd) (S : FnScope N ps (defScope st))
    (len : ∀ vs H Q E, sp vs H Q E → vs.length = ps.length)
    (hbody : ∀ (cdv : Value) (A : Around) (outer : List Env) (s : Shared) (H : Hp) (vs : List V) (Q : VK) (E : XK), Room k (A.deeper (envOfC qual (defScope st) s.heap.objs.size f cdv)) →
      (g = true → (A.deeper (envOfC qual (defScope st) s.heap.objs.size f cdv)).guards = some []) → sp vs H Q E →
      ∃ t, PSs (cxOf (L2.CX P w) P w K mg base N qual (defScope st) f cdv A outer s H E) (defBody st) t ∧ t { nx := fun _ H' => Q .non H', rt := Q } (start N vs) H) : Fg P w K mg base g (k + 1) f fd ps sp := by
  obtain ⟨oc, od, kV, doc, pm, an, cdv, ct, osl, rfl, lk, hcd⟩ := F.ex
  refine ⟨len, fun A outer s H args us vs Q E hr hg e0 hb r hsp => ?_⟩
  have bk : ∀ b o, base.get? b = some o → s.heap.get? b = some o := fun b o e => (e0.bs b o e).1
  have kx := e0.mod.kin.keeps bk
  have kinds : ∀ y ∈ ps.zip us, (defScope st).names.lookup y.1 = some .local ∨ ((defScope st).names.lookup y.1 = some .cell ∧ ((cellsFrom (s.heap.objs.size + 1) (defScope st).names []).lookup y.1).isSome = true) := by
    rintro ⟨n, v⟩ hy
    have hn := S.par n (List.of_mem_zip hy).1
    exact hn.imp id fun z => ⟨z, PySem.W.cellsFrom_some _ _ _ (.inl z)⟩
  refine codeAny_call_function hr.depth (kx _ _ lk) rfl S.co S.gen rfl (PySem.W.codeRec_of kx hcd) (hb _ _ _ _ (wpAny_newFunctionEnv_cells S.kind kinds fun env he s1 z => ?_))
  subst he
  refine ⟨(e0.mod.nolimit.keeps bk).keeps z.toInCall.keep, codeAny_func ?_⟩
  obtain ⟨t, ht, hq⟩ := hbody cdv A outer s H vs Q E (hr.deeper _) (fun e => hg e) hsp
  have I : Inv (cxOf (L2.CX P w) P w K mg base N qual (defScope st) f cdv A outer s H E) [] (start N vs) H s1 := inv_start S hr.hd e0 (len _ _ _ _ hsp) r z
  refine wpAny_mono (ht.run [] s1 _ H _ I hq) (fun fl s' hs => ?_) fun e s' hs => hs
  have fin : ∀ {σ' : L2.St} {H' : Hp} {v : V} {u : Value}, Inv (cxOf (L2.CX P w) P w K mg base N qual (defScope st) f cdv A outer s H E) [] σ' H' s' → RelV v u → Q v H' → CE outer P w H s Q u s' :=
    fun {σ' H' v u} J rv q => ⟨v, H', J.os, J.bare, J.base, J.hok, rv, q⟩
  cases fl with
  | ret u => exact let ⟨v, σ', H', J, rv, q⟩ := hs; fin J rv q
  | next => exact let ⟨σ', H', J, q⟩ := hs; fin (v := V.non) (u := Value.none) J rfl q
  | brk => exact let ⟨_, _, _, q⟩ := hs; q.elim
  | cont => exact let ⟨_, _, _, q⟩ := hs; q.elim
/-! ### calls, with a wish for what is raised at the slots as they stand -/
section
variable {X : Cx} {g : Bool} {k : Nat} {f C : Addr} {fd : FuncData} {ps : List Str} {sp : Sp} {ds : List Value} {dvs : List V} {E : L2.St → XK} {pins : List (Addr × Obj)} {σ : L2.St} {H : Hp} {s : Shared} {Q : VK}
/-- a call from around A1 (the caller's, or one room deeper) -/
theorem run_at {A1 : Around} {us : List Value} {vs : List V} (F : Fg X.prog X.w X.K X.mg X.base g k f fd ps sp) (hr : Room k A1) (hg : g = true → A1.guards = some []) (hf : A1.frames = X.A.frames) (hb : Binds X.K fd ps ds) (hd : Vals dvs ds)
    (hx : PassesAt (L2.CX X.prog X.w) X σ (E σ)) (I : Inv X pins σ H s) (r : Vals vs us) (h : sp (vs ++ dvs) H Q (E σ)) : wpAny (model X.prog X.w) A1 (call (.ref f) us) (EP X pins σ Q) X.xe s := by
  have e := I.env0
  have e0 : Env0 X.prog X.w X.K X.mg X.base A1 X.stack s H := ⟨by rw [hf]; exact e.frames, e.mod, e.bs, e.bsz, e.funs, e.frf, e.hok, e.bare⟩
  have r2 := Vals.append r hd
  have hl : (us ++ ds).length = ps.length := by rw [← r2.length]; exact F.len _ _ _ _ h
  refine wpAny_call (codeAny_mono (F.go A1 X.stack s H ⟨us, []⟩ _ _ Q (E σ) hr hg e0 (hb s us I.kIn hl) r2 h) fun r s' hq => ?_)
  cases r with
  | error e => exact hx pins H s e s' I hq
  | ok fl =>
    cases fl with
    | ret u => exact I.after hq
    | next => exact False.elim hq
    | brk => exact False.elim hq
    | cont => exact False.elim hq
/-- a new instance, then its __init__ (n + 1 values by place, keywords ks) -/
theorem make_at {n : Nat} {ks : List Str} {gg : List Value → List Value → List Value} {gV : List V → List V → List V} {us ws : List Value} {vs zs : List V} (M : Mk X.K C f) (F : Fg X.prog X.w X.K X.mg X.base false k f fd ps sp) (hr : Room (k + 1) X.A)
    (hb : KBn X.K fd ps (n + 1) ks gg gV) (hx : PassesAt (L2.CX X.prog X.w) X σ (E σ)) (I : Inv X pins σ H s) (r : Vals vs us) (rz : Vals zs ws) (l1 : vs.length = n) (l2 : zs.length = ks.length)
    (h : ∀ x dx, H x = none → H dx = none → dx ≠ x → sp (gV (.ref x :: vs) zs) (upd (upd H dx (.own x)) x (.ins C dx [])) (fun v H2 => v = .non ∧ Q (.ref x) H2) (E σ)) :
    wpAny (model X.prog X.w) X.A (call (.ref C) us (ks.zip ws)) (EP X pins σ Q) X.xe s := by
  have I2 := Inv.made (C := C) I
  have hq := h (s.heap.objs.size + 1) s.heap.objs.size (I.hok.fresh (Nat.le_succ _)) (I.hok.fresh (Nat.le_refl _)) (Nat.ne_of_lt (Nat.lt_succ_self _))
  have r1 : Vals (V.ref (s.heap.objs.size + 1) :: vs) (Value.ref (s.heap.objs.size + 1) :: us) := .cons rfl r
  have n1 : (Value.ref (s.heap.objs.size + 1) :: us).length = n + 1 := r1.length.symm.trans (congrArg (· + 1) l1)
  refine wpAny_call (make_map (f := f) I.kIn M.makes M.init (beq_iff_eq.mp M.fn) (codeAny_mono (F.go _ X.stack _ _ ⟨Value.ref (s.heap.objs.size + 1) :: us, ks.zip ws⟩ _ _ _ (E σ) (hr.make C us (ks.zip ws))
    (fun e => nomatch e) (I2.env0.make C us (ks.zip ws)) (hb.to _ _ ws I2.kIn n1 (rz.length.symm.trans l2)) (hb.rel r1 rz) hq) fun r s' hq' => ?_))
  cases r with
  | error e => exact hx pins _ _ e s' I2 hq'
  | ok fl =>
    cases fl with
    | ret u =>
      obtain ⟨v, H', I3, rv, ev, q3⟩ := I2.after hq'
      subst ev
      exact ⟨rv, ⟨V.ref (s.heap.objs.size + 1), H', I3, rfl, q3⟩⟩
    | next => exact False.elim hq'
    | brk => exact False.elim hq'
    | cont => exact False.elim hq'
/-- a def called with n values by place and keywords ks -/
theorem call_at {n : Nat} {ks : List Str} {gg : List Value → List Value → List Value} {gV : List V → List V → List V} {A1 : Around} {us ws : List Value} {vs zs : List V} (F : Fg X.prog X.w X.K X.mg X.base g k f fd ps sp) (hr : Room k A1) (hg : g = true → A1.guards = some [])
    (hf : A1.frames = X.A.frames) (hb : KBn X.K fd ps n ks gg gV) (hx : PassesAt (L2.CX X.prog X.w) X σ (E σ)) (I : Inv X pins σ H s) (r : Vals vs us) (rz : Vals zs ws) (l1 : vs.length = n) (l2 : zs.length = ks.length)
    (h : sp (gV vs zs) H Q (E σ)) : wpAny (model X.prog X.w) A1 (call (.ref f) us (ks.zip ws)) (EP X pins σ Q) X.xe s := by
  have e := I.env0
  have e0 : Env0 X.prog X.w X.K X.mg X.base A1 X.stack s H := ⟨by rw [hf]; exact e.frames, e.mod, e.bs, e.bsz, e.funs, e.frf, e.hok, e.bare⟩
  refine wpAny_call (codeAny_mono (F.go A1 X.stack s H ⟨us, ks.zip ws⟩ _ _ Q (E σ) hr hg e0 (hb.to s us ws I.kIn (r.length.symm.trans l1) (rz.length.symm.trans l2)) (hb.rel r rz) h) fun r s' hq => ?_)
  cases r with
  | error e => exact hx pins H s e s' I hq
  | ok fl =>
    cases fl with
    | ret u => exact I.after hq
    | next => exact False.elim hq
    | brk => exact False.elim hq
    | cont => exact False.elim hq
end
/-! ### defs, classes, methods by their names -/
structure CalG (P : Program) (w : World) (K : PySem.W.Frag) (mg : Str → Option Value) (base : Heap) (g : Bool) (k : Nat) (x : Str) (sp : Sp) (n : Nat) (ks : List Str) (gV : List V → List V → List V) : Prop where
  ex : ∃ (f : Addr) (fd : FuncData) (ps : List Str) (gg : List Value → List Value → List Value), Fg P w K mg base g k f fd ps sp ∧ mg x = some (.ref f) ∧ PySem.W.keepIn K (.ref f) = true ∧ KBn K fd ps n ks gg gV
structure MakG (P : Program) (w : World) (K : PySem.W.Frag) (mg : Str → Option Value) (base : Heap) (k : Nat) (x : Str) (C : Addr) (sp : Sp) (n : Nat) (ks : List Str) (gV : List V → List V → List V) : Prop where
  ex : ∃ (f : Addr) (fd : FuncData) (ps : List Str) (gg : List Value → List Value → List Value), Mk K C f ∧ Fg P w K mg base false k f fd ps sp ∧ mg x = some (.ref C) ∧ KBn K fd ps (n + 1) ks gg gV
structure MetG (P : Program) (w : World) (K : PySem.W.Frag) (mg : Str → Option Value) (base : Heap) (g : Bool) (k : Nat) (C : Addr) (m : Str) (sp : Sp) (ps : List Str) : Prop where
  ex : ∃ (f : Addr) (fd : FuncData), Cls K C ∧ Meth K C m f ∧ PySem.W.fnIn K f = true ∧ Fg P w K mg base g k f fd ps sp ∧ Binds K fd ps []
def tCS (n m : Nat) (sp : Sp) (gV : List V → List V → List V) (E : L2.St → XK) (t tk : TA) : TE := fun σ H Q => t σ H fun vs H1 => tk σ H1 fun zs H2 => vs.length = n ∧ zs.length = m ∧ sp (gV vs zs) H2 Q (E σ)
def tMkS (C : Addr) (n m : Nat) (sp : Sp) (gV : List V → List V → List V) (E : L2.St → XK) (t tk : TA) : TE := fun σ H Q => t σ H fun vs H1 => tk σ H1 fun zs H2 => vs.length = n ∧ zs.length = m ∧ ∀ x dx, H2 x = none → H2 dx = none → dx ≠ x →
  sp (gV (.ref x :: vs) zs) (upd (upd H2 dx (.own x)) x (.ins C dx [])) (fun v H3 => v = .non ∧ Q (.ref x) H3) (E σ)
def tMtS (C : Addr) (m : Str) (sp : Sp) (E : L2.St → XK) (ta : TE) (t : TA) : TE := fun σ H Q => ta σ H fun x H1 => ∃ a dx fs, x = .ref a ∧ H1 a = some (.ins C dx fs) ∧ fs.lookup m = none ∧ t σ H1 fun vs H2 => sp (.ref a :: vs) H2 Q (E σ)
section
variable {X : Cx} {g : Bool} {k j n : Nat} {C : Addr} {x m : Str} {sp : Sp} {ps ks : List Str} {W : WX} {gV : List V → List V → List V} {p pos apos : Pos} {e o : Expr} {es : List Expr} {kws : List Keyword} {ta : TE} {t tz : TA}
theorem pe_cS (c : CalG X.prog X.w X.K X.mg X.base g k x sp n [] gV) (hr : Room j X.A) (hk : k ≤ j) (gd : g = true → X.A.guards = some []) (tk : Takes X W) (hg : Gl X x) (ha : PA X (e :: es) t)
    (hdb : (x == ("__debug__" : Str)) = false := by decide) (he : starEach (e :: es) X.env = (false, eval e X.env) :: starEach es X.env := by rfl) (hpl : (backTo pos (starEach es X.env)).any (·.1) = false := by rfl) :
    PE X (.Call (.Name x p) (e :: es) [] pos) (tCS n 0 sp gV (WE W) t tNil) := by
  obtain ⟨f, fd, ps, gg, F, hm, kp, b⟩ := c.ex
  refine ⟨fun pins s σ H Q I h => wpAny_Call_Name_kw (ld_glob I hg hm ?_ hdb)⟩
  refine PySem.W.callWith_K (h₀ := X.base) I.ok.mod.kin kp (thn (ha.run pos pins s σ H _ I h) fun us s1 ⟨vs, H1, I1, r, l1, l2, q⟩ => ⟨I1.kIn, ?_⟩) he hpl
  exact call_at (ws := []) (zs := []) F (hr.mono hk) gd rfl b (passAt tk σ) I1 r .nil l1 rfl q
theorem pe_cS0 (c : CalG X.prog X.w X.K X.mg X.base g k x sp 0 [] gV) (hr : Room j X.A) (hk : k ≤ j) (gd : g = true → X.A.guards = some []) (tk : Takes X W) (hg : Gl X x)
    (hdb : (x == ("__debug__" : Str)) = false := by decide) : PE X (.Call (.Name x p) [] [] pos) (tCS 0 0 sp gV (WE W) tNil tNil) := by
  obtain ⟨f, fd, ps, gg, F, hm, kp, b⟩ := c.ex
  refine ⟨fun pins s σ H Q I h => wpAny_Call_Name_kw (ld_glob I hg hm ?_ hdb)⟩
  exact PySem.W.callWith_K0 I.kIn kp (call_at (us := []) (vs := []) (ws := []) (zs := []) F (hr.mono hk) gd rfl b (passAt tk σ) I .nil .nil rfl rfl h.2.2)
theorem pe_cSK (c : CalG X.prog X.w X.K X.mg X.base g k x sp n ks gV) (hr : Room j X.A) (hk : k ≤ j) (gd : g = true → X.A.guards = some []) (tk : Takes X W) (hg : Gl X x) (ha : PA X (e :: es) t) (hkw : PK X kws tz)
    (hall : (backToKw pos (keywordEach kws X.env)).all (·.1.isSome) = true := by rfl) (hks : (backToKw pos (keywordEach kws X.env)).filterMap (·.1) = ks := by rfl) (hdb : (x == ("__debug__" : Str)) = false := by decide)
    (he : starEach (e :: es) X.env = (false, eval e X.env) :: starEach es X.env := by rfl) (hpl : ((backTo pos (starEach (e :: es) X.env)).any (·.1) || (backToKw pos (keywordEach kws X.env)).any (·.1.isNone)) = false := by rfl) :
    PE X (.Call (.Name x p) (e :: es) kws pos) (tCS n ks.length sp gV (WE W) t tz) := by
  obtain ⟨f, fd, ps, gg, F, hm, kp, b⟩ := c.ex
  refine ⟨fun pins s σ H Q I h => wpAny_Call_Name_kw (ld_glob I hg hm ?_ hdb)⟩
  refine PySem.W.callWith_KW (h₀ := X.base) I.ok.mod.kin kp hall (thn (ha.run pos pins s σ H _ I h) fun us s1 ⟨vs, H1, I1, r, q⟩ => ?_) hpl he
  refine thn (hkw.run pos pins s1 σ H1 _ I1 q) fun ws s2 ⟨zs, H2, I2, rz, l1, l2, q2⟩ => ⟨I2.kIn, ?_⟩
  rw [hks]
  exact call_at F (hr.mono hk) gd rfl b (passAt tk σ) I2 r rz l1 l2 q2
theorem pe_mkS (c : MakG X.prog X.w X.K X.mg X.base k x C sp n [] gV) (hr : Room j X.A) (hk : k + 1 ≤ j) (tk : Takes X W) (hg : Gl X x) (ha : PA X (e :: es) t)
    (hdb : (x == ("__debug__" : Str)) = false := by decide) (he : starEach (e :: es) X.env = (false, eval e X.env) :: starEach es X.env := by rfl) (hpl : (backTo pos (starEach es X.env)).any (·.1) = false := by rfl) :
    PE X (.Call (.Name x p) (e :: es) [] pos) (tMkS C n 0 sp gV (WE W) t tNil) := by
  obtain ⟨f, fd, ps, gg, M, F, hm, b⟩ := c.ex
  refine ⟨fun pins s σ H Q I h => wpAny_Call_Name_kw (ld_glob I hg hm ?_ hdb)⟩
  refine PySem.W.callWith_K (h₀ := X.base) I.ok.mod.kin M.kp (thn (ha.run pos pins s σ H _ I h) fun us s1 ⟨vs, H1, I1, r, l1, l2, q⟩ => ⟨I1.kIn, ?_⟩) he hpl
  exact make_at (ws := []) (zs := []) M F (hr.mono hk) b (passAt tk σ) I1 r .nil l1 rfl q
theorem pe_mkS0 (c : MakG X.prog X.w X.K X.mg X.base k x C sp 0 [] gV) (hr : Room j X.A) (hk : k + 1 ≤ j) (tk : Takes X W) (hg : Gl X x)
    (hdb : (x == ("__debug__" : Str)) = false := by decide) : PE X (.Call (.Name x p) [] [] pos) (tMkS C 0 0 sp gV (WE W) tNil tNil) := by
  obtain ⟨f, fd, ps, gg, M, F, hm, b⟩ := c.ex
  refine ⟨fun pins s σ H Q I h => wpAny_Call_Name_kw (ld_glob I hg hm ?_ hdb)⟩
  exact PySem.W.callWith_K0 I.kIn M.kp (make_at (us := []) (vs := []) (ws := []) (zs := []) M F (hr.mono hk) b (passAt tk σ) I .nil .nil rfl rfl h.2.2)
theorem pe_mkSK (c : MakG X.prog X.w X.K X.mg X.base k x C sp n ks gV) (hr : Room j X.A) (hk : k + 1 ≤ j) (tk : Takes X W) (hg : Gl X x) (ha : PA X (e :: es) t) (hkw : PK X kws tz)
    (hall : (backToKw pos (keywordEach kws X.env)).all (·.1.isSome) = true := by rfl) (hks : (backToKw pos (keywordEach kws X.env)).filterMap (·.1) = ks := by rfl) (hdb : (x == ("__debug__" : Str)) = false := by decide)
    (he : starEach (e :: es) X.env = (false, eval e X.env) :: starEach es X.env := by rfl) (hpl : ((backTo pos (starEach (e :: es) X.env)).any (·.1) || (backToKw pos (keywordEach kws X.env)).any (·.1.isNone)) = false := by rfl) :
    PE X (.Call (.Name x p) (e :: es) kws pos) (tMkS C n ks.length sp gV (WE W) t tz) := by
  obtain ⟨f, fd, ps, gg, M, F, hm, b⟩ := c.ex
  refine ⟨fun pins s σ H Q I h => wpAny_Call_Name_kw (ld_glob I hg hm ?_ hdb)⟩
  refine PySem.W.callWith_KW (h₀ := X.base) I.ok.mod.kin M.kp hall (thn (ha.run pos pins s σ H _ I h) fun us s1 ⟨vs, H1, I1, r, q⟩ => ?_) hpl he
  refine thn (hkw.run pos pins s1 σ H1 _ I1 q) fun ws s2 ⟨zs, H2, I2, rz, l1, l2, q2⟩ => ⟨I2.kIn, ?_⟩
  rw [hks]
  exact make_at M F (hr.mono hk) b (passAt tk σ) I2 r rz l1 l2 q2
theorem pe_mkSK0 (c : MakG X.prog X.w X.K X.mg X.base k x C sp 0 ks gV) (hr : Room j X.A) (hk : k + 1 ≤ j) (tk : Takes X W) (hg : Gl X x) (hkw : PK X kws tz)
    (hall : (backToKw pos (keywordEach kws X.env)).all (·.1.isSome) = true := by rfl) (hks : (backToKw pos (keywordEach kws X.env)).filterMap (·.1) = ks := by rfl) (hdb : (x == ("__debug__" : Str)) = false := by decide)
    (hpl : ((backTo pos (starEach [] X.env)).any (·.1) || (backToKw pos (keywordEach kws X.env)).any (·.1.isNone)) = false := by rfl) :
    PE X (.Call (.Name x p) [] kws pos) (tMkS C 0 ks.length sp gV (WE W) tNil tz) := by
  obtain ⟨f, fd, ps, gg, M, F, hm, b⟩ := c.ex
  refine ⟨fun pins s σ H Q I h => wpAny_Call_Name_kw (ld_glob I hg hm ?_ hdb)⟩
  refine PySem.W.callWith_KW0 (h₀ := X.base) I.ok.mod.kin M.kp hall ?_ hpl
  refine thn (hkw.run pos pins s σ H _ I h) fun ws s2 ⟨zs, H2, I2, rz, l1, l2, q2⟩ => ⟨I2.kIn, ?_⟩
  rw [hks]
  exact make_at (us := []) (vs := []) M F (hr.mono hk) b (passAt tk σ) I2 .nil rz rfl l2 q2
theorem pe_mtS {pl : Sem Bool} (c : MetG X.prog X.w X.K X.mg X.base g k C m sp ps) (hr : Room j X.A) (hk : k ≤ j) (gd : g = true → X.A.guards = some []) (tk : Takes X W) (he : PE X o ta) (ha : PA X (e :: es) t)
    (hst : starEach (e :: es) X.env = (false, eval e X.env) :: starEach es X.env := by rfl) (hpl : (backTo pos (starEach es X.env)).any (·.1) = false := by rfl)
    (ht : eval (.Call (.Attribute o m apos) (e :: es) [] pos) X.env = (do
      let ov ← eval o X.env
      standAt apos.atName
      let (f, first) ← holding [ov] (getMethod ov m pl)
      callWith pos f first (backTo pos (starEach (e :: es) X.env)) (backToKw pos (keywordEach [] X.env))) := by rfl) :
    PE X (.Call (.Attribute o m apos) (e :: es) [] pos) (tMtS C m sp (WE W) ta t) := by
  obtain ⟨f, fd, hc, hm, _, F, b⟩ := c.ex
  refine ⟨fun pins s σ H Q I h => PySem.W.methodCall_KW (pl := pl) (thn (he.run pins s σ H _ I h) fun u s1 ⟨x, H1, I1, rx, a, dx, fs, ex, ea, l, q⟩ => ?_) ht⟩
  subst ex
  obtain rfl : u = Value.ref a := rx
  refine getmeth_ok I1 ea hc hm l ?_
  refine PySem.W.callWith_K (first := [.ref a]) (h₀ := X.base) I.ok.mod.kin hm.kp (thn (ha.run pos pins s1 σ H1 _ I1 q) fun us s2 ⟨vs, H2, I2, r, q2⟩ => ⟨I2.kIn, ?_⟩) hst hpl
  exact run_at (us := .ref a :: us) (vs := .ref a :: vs) (ds := []) (dvs := []) F (hr.mono hk) gd rfl b .nil (passAt tk σ) I2 (.cons rfl r) (by rw [List.append_nil]; exact q2)
theorem pe_mtS0 {pl : Sem Bool} (c : MetG X.prog X.w X.K X.mg X.base g k C m sp ps) (hr : Room j X.A) (hk : k ≤ j) (gd : g = true → X.A.guards = some []) (tk : Takes X W) (he : PE X o ta)
    (ht : eval (.Call (.Attribute o m apos) [] [] pos) X.env = (do
      let ov ← eval o X.env
      standAt apos.atName
      let (f, first) ← holding [ov] (getMethod ov m pl)
      callWith pos f first (backTo pos (starEach [] X.env)) (backToKw pos (keywordEach [] X.env))) := by rfl) :
    PE X (.Call (.Attribute o m apos) [] [] pos) (tMtS C m sp (WE W) ta tNil) := by
  obtain ⟨f, fd, hc, hm, _, F, b⟩ := c.ex
  refine ⟨fun pins s σ H Q I h => PySem.W.methodCall_KW (pl := pl) (thn (he.run pins s σ H _ I h) fun u s1 ⟨x, H1, I1, rx, a, dx, fs, ex, ea, l, q⟩ => ?_) ht⟩
  subst ex
  obtain rfl : u = Value.ref a := rx
  refine getmeth_ok I1 ea hc hm l ?_
  exact PySem.W.callWith_K0 (first := [.ref a]) I1.kIn hm.kp (run_at (us := [.ref a]) (vs := [.ref a]) (ds := []) (dvs := []) F (hr.mono hk) gd rfl b .nil (passAt tk σ) I1 (.cons rfl .nil) q)
end
end G
set_option Elab.async false
set_option linter.all false
set_option maxRecDepth 100000
namespace G
open PySem PySem.Spec PyProof.Rows L2
/-! ### an own exception class over any built-in one that the facts know -/
namespace OX
open PySem.HandSPX PySem.W PySem.Calls Builtin Builtin.ObjectAttr
def RefsT (tl l : List Value) : Prop := ∃ cs : List Addr, l = cs.map Value.ref ++ tl
theorem RefsT.cons {tl l : List Value} (h : RefsT tl l) (c : Addr) : RefsT tl (.ref c :: l) := let ⟨cs, e⟩ := h; ⟨c :: cs, by rw [e]; rfl⟩
theorem RefsT.has {tl l : List Value} (h : RefsT tl l) (X : String) : l.contains (.type X) = tl.contains (.type X) := by
  obtain ⟨cs, rfl⟩ := h
  induction cs with
  | nil => rfl
  | cons c cs ih => rw [List.map_cons, List.cons_append, List.contains_cons, ih]; rfl
theorem RefsT.pass {tl l : List Value} {self : Value} (h : RefsT tl l) (ht : refuseLoop self "__setattr__" tl = pure ()) : refuseLoop self "__setattr__" l = pure () := by
  obtain ⟨cs, rfl⟩ := h
  induction cs with
  | nil => exact ht
  | cons c cs ih => rw [List.map_cons, List.cons_append, refuseLoop_ref]; exact ih
theorem osa_first {prog : Program} {w : World} {A : Around} {R : Result → Shared → Prop} {hp : Heap} {g : Array GenState} {d : Drawn} {t : Nat} {os : OsState} {K : W.Frag} {name : Str} {tk : Tok} {v : Value} {x C : Addr} {fv : Array Value} {cd : ClassData} {tl : List Value}
    (X : K.In hp) (hx : hp.get? x = some { cls := .ref C, data := .fields fv }) (hcd : W.clsIn K C = some cd) (hm : RefsT tl cd.mro) (hps : ∀ self, refuseLoop self "__setattr__" tl = pure ()) (hto : tl.contains (.type "object") = true) (hh : cd.hasDict = true) (ha : W.findIn K (.ref C) name = some none)
    (hq : ∀ h' tk' dx, (∀ b o, b ≠ x → hp.get? b = some o → h'.get? b = some o) → hp.objs.size ≤ dx → dx ≠ x → h'.get? x = some { cls := .ref C, dict := some dx, data := .fields fv } →
      h'.Ns1 dx (fun y => if y = name then some v else none) → R (.ok (.ret .none)) ⟨h', g, d, tk', os⟩) :
    codeAny (model prog w) A (.call (.builtin "object.__setattr__") ⟨[.ref x, .str name tk, v], []⟩) R ⟨hp, g, d, t, os⟩ := by
  have I : W.InstAt hp x { cls := .ref C, data := .fields fv } C none := ⟨hx, rfl, rfl, trivial⟩
  have SF := F.store_object
  have hob : cd.mro.contains (.type "object") = true := (hm.has "object").trans hto
  have ne : cd.mro.isEmpty = false := by
    cases h : cd.mro with
    | nil => rw [h] at hob; cases hob
    | cons _ _ => rfl
  have hxs : x ≠ hp.objs.size := Nat.ne_of_lt (Heap.lt_size hx)
  have sub : W.Looks (model prog w) hp (isInstance (.ref x) (.type "object")) true := I.type.andThen (W.looks_mroIn X (by unfold W.mroIn; rw [hcd, Option.bind_some, if_neg (by rw [ne]; decide), hob]))
  refine codeAny_call_builtin SF.slot.plain SF.entry (@W.check_slot (model prog w) _ _ ⟨hp, g, d, t, os⟩ "object.__setattr__" "object" "__setattr__" (.ref x) [.str name tk, v] [] _ SF.kind SF.split sub (SF.args (.ref x) (.str name tk) v) ?_)
  have hmr : W.Looks (model prog w) hp (mroOf (.ref C)) cd.mro := (W.looks_clsIn X hcd).andThen .now
  have L3 : W.Looks (model prog w) hp (storeTaker? none) none := .now
  have hcls : W.Looks (model prog w) hp (classData C) cd := W.looks_clsIn X hcd
  rw [W.osa_eq, refuse_eq]
  refine wpAny_bind (wpAny_bind (I.type.at (wpAny_bind (hmr.at ?_))))
  rw [hm.pass (hps _)]
  refine wpAny_pure (wpAny_bind (I.type.at (wpAny_bind ((W.looks_findIn X ha).at (wpAny_bind (L3.at ?_))))))
  show wpAny _ _ (storeInOwnDict (.ref x) (.ref C) (.str name tk) name v false) _ _ _
  obtain ⟨nm, bs, mro, ns, qn, hd, sn, sb, ab, col, del⟩ := cd
  dsimp only at hh
  subst hh
  unfold storeInOwnDict ownDictForStores
  repeat (first | with_reducible refine store_in_new ?_ ?_ | with_reducible refine wpAny_loadPart_at hx ?_ | with_reducible refine hcls.at ?_ | wp_step)
  · exact ⟨_, #[], _, (Heap.get?_update_ne _ _ _ _ hxs.symm).trans (Heap.get?_push_at rfl rfl), rfl, fun e he => absurd he (by simp), fun _ => rfl⟩
  · intro h' tk' hn' hs
    have hx₁ : (hp.push { cls := .type "dict", data := .dict #[] }).get? x = some { cls := .ref C, data := .fields fv } := Heap.get?_push_of_some _ hx
    refine hq h' tk' hp.objs.size (fun b o hb ho => ?_) (Nat.le_refl _) hxs.symm ?_ hn'
    · exact (hs.2 b (Nat.ne_of_lt (Heap.lt_size ho))).trans ((Heap.get?_update_ne _ _ _ _ hb).trans (Heap.get?_push_of_some _ ho))
    · exact (hs.2 x hxs).trans (Heap.get?_update_self _ hx₁ rfl)
end OX
structure OexA (K : PySem.W.Frag) (C : Addr) : Prop where
  cls : ∃ B newId initId tl nm q N bs bm sn sub ab col dd k0 k1 k2 k3 k5, K.lookup C = some (excClassObj nm q C N bs bm true sn sub ab col dd k0 k1 k2 k3 k5 newId) ∧ OX.RefsT tl bm ∧ ExcBaseFacts B newId initId tl ∧ (∀ self, PySem.refuseLoop self "__setattr__" tl = pure ()) ∧ tl.contains (.type "object") = true
  sa : PySem.W.findIn K (.ref C) "__setattr__" = some (some (.builtin "object.__setattr__"))
  exC : PySem.W.subIn K (.ref C) (.type "BaseException") = some true
  tyC : PySem.W.typeIn K (.ref C) = some (.type "type")
  kC : PySem.W.keepIn K (.ref C) = true
section
variable {X : Cx} {pins : List (Addr × Obj)} {σ : L2.St} {H : Hp} {s : Shared} {a C dx : Addr} {f : Str} {y : V} {u : Value} {fs : List (Str × V)} {Q : Unit → Shared → Prop} {E : Value → Shared → Prop} {A : Around}
theorem ost_first (T : OexA X.K C) (I : Inv X pins σ H s) (e : H a = some (exo a C none)) (hno : PySem.W.findIn X.K (.ref C) f = some none) (ry : RelV y u)
    (h : ∀ dx s', H dx = none → dx ≠ a → Inv X pins σ (upd (upd H dx (exd dx [(f, y)])) a (exo a C (some dx))) s' → Q () s') : wpAny (model X.prog X.w) A (setAttr (.ref a) f u) Q E s := by
  obtain ⟨B, ni, ii, tl, nm, q, N, bs, bm, sn, sub, ab, col, dd, k0, k1, k2, k3, k5, hC, hbm, FB, hps, hto⟩ := T.cls
  have hcl : PySem.W.clsIn X.K C = some { name := nm, bases := bs, mro := .ref C :: bm, ns := N, qualname := q, hasDict := true, slotNames := sn, subclasses := sub, abstract := ab, collection := col, hasDel := false } := by unfold PySem.W.clsIn; rw [hC] <;> rfl
  obtain ⟨t1, ho⟩ := exo_at I.hok e
  obtain ⟨hp, g, d, t, os⟩ := s
  refine PySem.W.set_plain I.kIn (ox := { cls := .ref C, dict := none, data := .fields #[.ref t1, .none, .none, .none, .bool false, .none] }) (od := none) ⟨ho, rfl, rfl, trivial⟩ T.sa ?_
  refine OX.osa_first I.kIn ho hcl (hbm.cons C) hps hto rfl hno (fun h' tk' dx k dn dne hx hn => ?_)
  have hnd : H dx = none := I.hok.fresh dn
  have nd : ∀ {b : Addr} {o : Obj}, hp.get? b = some o → b ≠ dx := fun {b o} q => Nat.ne_of_lt (Nat.lt_of_lt_of_le (Heap.lt_size q) dn)
  have na : ∀ {b : Addr}, H b = none → b ≠ a := fun {b} n z => by
    rw [z, e] at n
    cases n
  have U : Un X.fs [] H (upd (upd H dx (exd dx [(f, y)])) a (exo a C (some dx))) hp h' := {
    keep := fun b o q n _ _ => k b o (na n) q
    slot := fun b o q n _ _ => ⟨o.slots, k b o (na n) q⟩
    free := fun b o q n _ => by rw [upd_ne (na n), upd_ne (nd q)]; exact n
    there := fun b o q _ => by
      by_cases hb : b = a
      · exact ⟨_, by rw [hb]; exact hx⟩
      · exact ⟨o, k b o hb q⟩
    tups := fun b xs q => by rw [upd_ne (at_ne e q exo_tup), upd_ne (ne_of_none q hnd)]; exact q
    frzs := fun b o v q => by rw [upd_ne (at_ne e q exo_frz), upd_ne (ne_of_none q hnd)]; exact q
    tbls := fun b ps q => ⟨#[], by rw [upd_ne (at_ne e q exo_tbl), upd_ne (ne_of_none q hnd), q]; simp⟩ }
  refine h dx _ hnd dne (I.un (t' := tk') U fun b o q => ?_)
  by_cases hb : b = a
  · subst hb
    rw [upd_same] at q
    cases q
    exact exo_ok hx
  · rw [upd_ne hb] at q
    by_cases hd : b = dx
    · subst hd
      rw [upd_same] at q
      cases q
      exact exd_ok hn (relO_put (fs := []) ry fun g => True.intro)
    · rw [upd_ne hd] at q
      exact (I.hok b o q).stay (fun c v hc z => k c v (by
          rcases hc with hc | hc
          · rw [hc]
            exact hb
          · exact at_ne e hc exo_own) z)
        (fun c hc => by rw [upd_ne (at_ne e hc exo_own), upd_ne (ne_of_none hc hnd)]; exact hc) (fun c xs hc => by rw [upd_ne (at_ne e hc exo_tup), upd_ne (ne_of_none hc hnd)]; exact hc)
end
def tOsA (K : PySem.W.Frag) (f : Str) (to te : TE) : TS := fun D σ H => te σ H fun y H1 => to σ H1 fun x H2 => ∃ a C : Addr, x = .ref a ∧ OexA K C ∧ PySem.W.findIn K (.ref C) f = some none ∧
  H2 a = some (exo a C none) ∧ ∀ dx, H2 dx = none → dx ≠ a → D.nx σ (upd (upd H2 dx (exd dx [(f, y)])) a (exo a C (some dx)))
section
variable {X : Cx} {o e : Expr} {es : List Expr} {to te : TE} {ta : TA} {f : Str} {p p' p1 p2 pos : Pos}
theorem ps_osA (ho : PE X o to) (he : PE X e te) (hs : swapsWith e (some (.Attribute o f p')) pos.line X.env = pure false := by rfl) : PS X (.Assign [.Attribute o f p'] e pos) (tOsA X.K f to te) := by
  refine ⟨fun pins s σ H D I h => ?_⟩
  refine plainObj_wpAny_Assign_Attribute (thn (he.run pins s σ H _ I h) fun v s1 ⟨y, H1, I1, r1, q1⟩ => thn (ho.run pins s1 σ H1 _ I1 q1) fun u s2 ⟨x, H2, I2, r2, a, C, ex, T, hno, ea, q⟩ => ?_) hs
  subst ex
  obtain rfl : u = Value.ref a := r2
  exact ost_first T I2 ea hno r1 fun dx s' n ne J => ⟨σ, _, J, q dx n ne⟩
theorem pmk_oexA {CX : CXT} {x : Str} {C fI : Addr} {k : Nat} {fd : FuncData} {ps : List Str} {sp : Sp} {ds : List Value} {dvs : List V} (T : OexA X.K C) (iC : PySem.W.findIn X.K (.ref C) "__init__" = some (some (.ref fI))) (tI : PySem.W.typeIn X.K (.ref fI) = some (.type "function"))
    (F1 : FnOk X.prog X.w X.K X.mg X.base CX k fI fd ps sp) (hr : Room (k + 1) X.A) (hb : Binds X.K fd ps ds) (hd : Vals dvs ds) (hx : Passes CX X (fun _ _ _ => False)) (hg : Gl X x) (hm : X.mg x = some (.ref C)) (ha : PA X (e :: es) ta)
    (hdb : (x == ("__debug__" : Str)) = false := by decide) (he : starEach (e :: es) X.env = (false, eval e X.env) :: starEach es X.env := by rfl) (hpl : (backTo pos (starEach es X.env)).any (·.1) = false := by rfl) :
    PMk X (.Call (.Name x p) (e :: es) [] pos) (tMkO C sp dvs ta) := by
  intro pins s σ H Q I h
  obtain ⟨B, ni, ii, tl, nm, q, N, bs, bm, sn, sub, ab, col, dd, k0, k1, k2, k3, k5, hC, hbm, FB, hps, hto⟩ := T.cls
  refine wpAny_Call_Name_kw (ld_glob I hg hm ?_ hdb)
  refine PySem.W.callWith_K (h₀ := X.base) I.ok.mod.kin T.kC (thn (ha.run pos pins s σ H _ I h) fun us s1 ⟨vs, H1, I1, r1, hz, q1⟩ => ⟨I1.kIn, ?_⟩) he hpl
  show wpAny _ _ (call (.ref C) us) _ _ _
  obtain ⟨hp, g, dr, tk, os⟩ := s1
  have hsz : hp.objs.size ≤ hp.objs.size + 1 := Nat.le_succ _
  have hn : H1 (hp.objs.size + 1) = none := I1.hok.fresh hsz
  have hq := q1 (hp.objs.size + 1) hn
  have kk : ∀ b o, hp.get? b = some o → ((hp.push (PySem.W.kdv_tup us)).push (PySem.HandSPX.excO C hp.objs.size)).get? b = some o := fun b o e => Heap.get?_push_of_some _ (Heap.get?_push_of_some _ e)
  have hget : ((hp.push (PySem.W.kdv_tup us)).push (PySem.HandSPX.excO C hp.objs.size)).get? (hp.objs.size + 1) = some (PySem.HandSPX.excO C hp.objs.size) := by heap_get
  have I2 : Inv X pins σ (upd H1 (hp.objs.size + 1) (exo (hp.objs.size + 1) C none)) ⟨(hp.push (PySem.W.kdv_tup us)).push (PySem.HandSPX.excO C hp.objs.size), g, dr, tk, os⟩ :=
    I1.laid (t' := tk) (a := hp.objs.size + 1) (o := exo (hp.objs.size + 1) C none) (h' := (hp.push (PySem.W.kdv_tup us)).push (PySem.HandSPX.excO C hp.objs.size)) kk hsz (exo_ok hget)
  have r2 : Vals (V.ref (hp.objs.size + 1) :: (vs ++ dvs)) (Value.ref (hp.objs.size + 1) :: (us ++ ds)) := .cons rfl (r1.append hd)
  have hl : (Value.ref (hp.objs.size + 1) :: us ++ ds).length = ps.length := by
    have e := r2.length
    rw [F1.len _ _ _ _ hq] at e
    exact e.symm
  have hus : us.length ≤ sizeLine := by
    rw [← Paired.length r1, sizeLine_eq]
    omega
  refine wpAny_call (PySem.HandSPX.call_own FB (fun Y => hbm.has Y) (I1.kIn _ _ hC) (PySem.W.looks_findIn I1.kIn iC) (fun self => PySem.W.bind_fn I1.kIn self tI) hus
    (codeAny_mono (F1.run _ X.stack _ _ ⟨Value.ref (hp.objs.size + 1) :: us, []⟩ (Value.ref (hp.objs.size + 1) :: (us ++ ds)) _ _ (fun _ _ _ => False) (hr.make C us []) (I2.env0.make C us []) (hb _ (Value.ref (hp.objs.size + 1) :: us) I2.kIn hl) r2 hq) fun r s' hq' => ?_))
  cases r with
  | error er => exact hx pins σ _ _ er s' I2 hq'
  | ok fl =>
    cases fl with
    | ret u =>
      obtain ⟨v, H2, os2, bare2, un2, hok2, rv, ev, d, fs, ea, ed, hd1, q2⟩ := hq'
      subst ev
      obtain ⟨h2, g2, d2, t2, os'⟩ := s'
      exact ⟨rv, mk_end (raises_own T.exC T.tyC) I1 hsz kk un2 hok2 os2 bare2 ea ed hd1 q2⟩
    | next => exact False.elim hq'
    | brk => exact False.elim hq'
    | cont => exact False.elim hq'
end
/-! ### own exceptions with one field -/
/-- what __init__(self, f): self.f = f keeps -/
def spIni (C : Addr) (f : Str) : Sp := fun vs H Q _ => ∃ a v, vs = [.ref a, v] ∧ H a = some (exo a C none) ∧ ∀ dx, H dx = none → dx ≠ a → Q .non (upd (upd H dx (exd dx [(f, v)])) a (exo a C (some dx)))
/-- the class named x, at C, with the field f -/
structure Oex (P : Program) (w : World) (K : PySem.W.Frag) (mg : Str → Option Value) (base : Heap) (x : Str) (C : Addr) (f : Str) : Prop where
  T : OexA K C
  xf : XfC K C
  ec : ExcC K C
  no : PySem.W.findIn K (.ref C) f = some none
  hm : mg x = some (.ref C)
  ini : ∃ (fI : Addr) (fd : FuncData), PySem.W.findIn K (.ref C) "__init__" = some (some (.ref fI)) ∧ PySem.W.typeIn K (.ref fI) = some (.type "function") ∧ FnOk P w K mg base CX0 1 fI fd ["self", f] (spIni C f) ∧ Binds K fd ["self", f] []
def tX (C : Addr) (f : Str) (ta : TA) : L2.St → Hp → XK → Prop := fun σ H Q => ta σ H fun vs H1 => ∃ v, vs = [v] ∧ ∀ d, H1 d = none → Q (.ref C) (some d) (upd H1 d (.xd [(f, v)]))
theorem upd_xd {H : Hp} {a d C : Addr} {o1 o2 o3 o : HO} (ha : H a = none) (hd : d ≠ a) : upd (del (upd (upd (upd H a o1) d o2) a o3) a) d o = upd H d o := by
  funext b
  by_cases h1 : b = d
  · subst h1
    rw [upd_same, upd_same]
  · rw [upd_ne h1, upd_ne h1]
    by_cases h2 : b = a
    · subst h2
      rw [del_same, ha]
    · rw [del_ne h2, upd_ne h2, upd_ne h1, upd_ne h2]
def tCutA (t : TA) : TA := fun σ H Q => ∃ M : List V → Hp → Prop, t σ H M ∧ ∀ vs H', M vs H' → Q vs H'
theorem pa_cut {X : Cx} {es : List Expr} {t : TA} (h : PA X es t) : PA X es (tCutA t) :=
  ⟨fun pos pins s σ H Q I ⟨M, hm, hu⟩ => wpAny_mono (h.run pos pins s σ H M I hm) (fun us s1 ⟨vs, H1, I1, r, q⟩ => ⟨vs, H1, I1, r, hu _ _ q⟩) fun _ _ z => z⟩
section
variable {X : Cx} {x f : Str} {C : Addr} {j : Nat} {e : Expr} {ta : TA} {p pos : Pos}
theorem pmk_x (T : Oex X.prog X.w X.K X.mg X.base x C f) (hr : Room j X.A) (hk : 2 ≤ j) (hg : Gl X x) (ha : PA X [e] ta)
    (hdb : (x == ("__debug__" : Str)) = false := by decide) (he : starEach [e] X.env = (false, eval e X.env) :: starEach [] X.env := by rfl) (hpl : (backTo pos (starEach [] X.env)).any (·.1) = false := by rfl) :
    PMk X (.Call (.Name x p) [e] [] pos) (tX C f ta) := by
  obtain ⟨fI, fd, i1, i2, F, b⟩ := T.ini
  intro pins s σ H Q I h
  refine pmk_oexA (dvs := []) (ds := []) T.T i1 i2 F (hr.mono hk) b .nil (fun _ _ _ _ _ _ _ z => (show False from z).elim) hg T.hm (pa_cut ha) hdb he hpl pins s σ H Q I ⟨_, h, fun vs H1 hq => ?_⟩
  obtain ⟨v, rfl, q⟩ := hq
  refine ⟨by simp, fun a hn => ⟨a, v, rfl, upd_same, fun dx h1 h2 => ⟨rfl, dx, [(f, v)], upd_same, by rw [upd_ne h2, upd_same], by rwa [upd_ne h2] at h1, ?_⟩⟩⟩
  rw [upd_xd (C := C) hn h2]
  rw [upd_ne h2] at h1
  exact q dx h1
/-- its __init__, by its text -/
theorem ok_ini {P : Program} {w : World} {K : PySem.W.Frag} {mg : Str → Option Value} {base : Heap} {qual : Str} {st : Stmt} {fI : Addr} {fd : FuncData} {f : Str} {p1 p2 p3 pos : Pos} (F : Fun K "__init__" qual st fI fd) (S : FnScope ["self", f] ["self", f] (defScope st))
    (hb : defBody st = [.Assign [.Attribute (.Name "self" p1) f p2] (.Name f p3) pos]) (T : OexA K C) (no : PySem.W.findIn K (.ref C) f = some none) (h0 : Vis (defScope st) "self") (h1 : Vis (defScope st) f) (hd : (f == ("__debug__" : Str)) = false) (hc : (f == ("__classdict__" : Str)) = false) : FnOk P w K mg base CX0 1 fI fd ["self", f] (spIni C f) := by
  refine F.ok S (fun vs H Q E ⟨a, v, e, _⟩ => by rw [e]; rfl) fun cdv A outer s H vs Q E hr ⟨a, v, e, ha, q⟩ => ?_
  rw [hb, e]
  exact ⟨_, pss_one (ps_osA (pe_var (i := 0) rfl h0) (pe_var (i := 1) rfl h1 hd hc)), ⟨v, rfl, .ref a, rfl, a, C, rfl, T, no, ha, q⟩⟩
/-! ### in an except suite: e's field, what e is -/
theorem pe_xfS {a C : Addr} {oe : Obj} {cls : Value} {d : Option Addr} {pn : List (Addr × Obj)} {te : TE} {n : Str} (T : Oex X.prog X.w X.K X.mg X.base x C n)
    (hz : Zc cls d oe) (hf : ∃ vs, oe.data = .fields vs) (he : PE (X.suite a ((a, oe) :: pn)) e te) (hb : attributeBase e n X.env (eval e X.env) = eval e X.env := by rfl) :
    PE (X.suite a ((a, oe) :: pn)) (.Attribute e n pos) (tXf a cls d C n te) := pe_xf T.xf T.no hz hf he hb
def rIsX (K : PySem.W.Frag) (cls : Value) (d : Option Addr) (D a : Addr) : List V → Hp → VK → Prop := fun xs H Q => cls = .ref D ∧ ∃ (dd : Addr) (fs : List (Str × V)) (c : V) (cv : Value) (b : Bool), d = some dd ∧ H dd = some (.xd fs) ∧ xs = [.ref a, c] ∧ ClsV c cv ∧ PySem.W.kitOne K (.ref D) cv = some b ∧ Q (.bl b) H
theorem call_isX {a D : Addr} {oe : Obj} {cls : Value} {d : Option Addr} {pn : List (Addr × Obj)} (C : ExcC X.K D) (hz : Zc cls d oe) (hf : ∃ vs, oe.data = .fields vs) : CallR (X.suite a ((a, oe) :: pn)) (.builtin "isinstance") (rIsX X.K cls d D a) := by
  intro pins s σ H xs us Q I r h
  obtain ⟨rfl, dd, fs, c, cv, b, rfl, hd, rfl, hcv, e, q⟩ := h
  obtain ⟨u1, u2, rfl, rx, rt⟩ := vals2 r
  cases rx
  have ec := hcv.eq rt
  subst ec
  obtain ⟨hget, _⟩ := I.pin (a, oe) (List.mem_append.mpr (.inl List.mem_cons_self))
  obtain ⟨vs, hv⟩ := hf
  obtain ⟨mA, hns, hr⟩ := (show ObjOk X.prog X.w H s.heap dd (.xd fs) from I.hok dd _ hd)
  obtain ⟨od, ho, hl⟩ := lookIn_ns hns
  have J : PySem.W.InstAt s.heap a oe D (some od) := ⟨hget, hz.1, by unfold PySem.W.notCls; rw [hv] <;> rfl, by rw [hz.2]; exact ho⟩
  obtain ⟨cd, hc, _⟩ := PySem.W.any_some C.hd
  exact PySem.W.kia_one (PySem.W.kitx_exc (by rw [hc]; rfl) C.hg C.hk C.hs C.ha C.hn C.ht C.hm) I.kIn J e (fun z => nomatch z) fun tk => ⟨.bl b, H, I.kept (t' := tk) fun _ _ z => z, rfl, q⟩
end
end G
set_option Elab.async false
set_option linter.all false
set_option maxRecDepth 100000
namespace G
open PySem PySem.Spec PyProof.Rows L2
/-! ### operators by an own class's methods -/
theorem cmpBack {v : V} {u : Value} {s : Shared} {Q : Value → Shared → Prop} (r : RelV v u) (h : Q u s) : PySem.W.CmpBack Q u s := by
  cases v with
  | non => cases (show u = Value.none from r); exact h
  | bl b => cases (show u = Value.bool b from r); exact h
  | int i => obtain ⟨t, rfl⟩ := (show ∃ t, u = Value.int i t from r); exact h
  | str i => obtain ⟨t, rfl⟩ := (show ∃ t, u = Value.str i t from r); exact h
  | byt i => obtain ⟨t, rfl⟩ := (show ∃ t, u = Value.bytes i t from r); exact h
  | flt i => obtain ⟨t, rfl⟩ := (show ∃ t, u = Value.float i t from r); exact h
  | ref a => cases (show u = Value.ref a from r); exact h
  | ty n => cases (show u = Value.type n from r); exact h
abbrev E0' : L2.St → XK := fun _ _ _ _ => False
section
variable {X : Cx} {k j : Nat} {C : Addr} {m : Str} {sp : Sp} {ps : List Str}
/-- x op y, x an instance of C -/
def rOpI (K : PySem.W.Frag) (C : Addr) (sp : Sp) : R2 := fun x y H Q => ∃ a dx fs t, x = .ref a ∧ H a = some (.ins C dx fs) ∧ TyX K H y t ∧ PySem.W.notFirst K C t = true ∧ sp [x, y] H Q (fun _ _ _ => False)
theorem cmp_opI {op : CmpOp} (c : MetG X.prog X.w X.K X.mg X.base false k C (cmpInfo op).2.1 sp ps) (hr : Room j X.A) (hk : k ≤ j) (hop : compareOp op = richCompare op) : OpR X (compareOp op) (rOpI X.K C sp) := by
  intro pins s σ H x y v u Q I rx ry h
  obtain ⟨f, fd, hc, M, hf, F, b⟩ := c.ex
  obtain ⟨a, dx, fs, t, rfl, ha, ty, hn, q⟩ := h
  cases (show v = Value.ref a from rx)
  obtain ⟨P, Z, p, _⟩ := kit_of I ry ty
  obtain ⟨mA, O, _⟩ := ins_get I.hok ha
  obtain ⟨od, J, _⟩ := O.look
  obtain ⟨m', hF⟩ := I.fr
  rw [hop]
  refine PySem.W.cmp_K (tb := t) hr.units0 hF I.ok.mod.kin J (Z.ty _ _ I.kIn p) hn M.at_ M.fn ?_
  exact wpAny_mono (run_at (E := E0') (dvs := []) (ds := []) (A1 := X.A) (vs := [.ref a, y]) F (hr.mono hk) (fun e => nomatch e) rfl b .nil (passAt takes0 σ) I (.cons rfl (.cons ry .nil)) q) (fun u' s' ⟨v', H', I', r', q'⟩ => cmpBack r' ⟨v', H', I', r', q'⟩) fun _ _ z => z
theorem eq_opI (c : MetG X.prog X.w X.K X.mg X.base false k C "__eq__" sp ps) (hr : Room j X.A) (hk : k ≤ j) : OpR X (compareOp .Eq) (rOpI X.K C sp) := cmp_opI (op := .Eq) c hr hk rfl
theorem le_opI (c : MetG X.prog X.w X.K X.mg X.base false k C "__le__" sp ps) (hr : Room j X.A) (hk : k ≤ j) : OpR X (compareOp .LtE) (rOpI X.K C sp) := cmp_opI (op := .LtE) c hr hk rfl
/-- x + y, two instances of C -/
def rAddI (C : Addr) (sp : Sp) : R2 := fun x y H Q => ∃ a dx fs b dy gs, x = .ref a ∧ H a = some (.ins C dx fs) ∧ y = .ref b ∧ H b = some (.ins C dy gs) ∧ sp [x, y] H Q (fun _ _ _ => False)
theorem bin_opI {op : Operator} (c : MetG X.prog X.w X.K X.mg X.base false k C (PySem.dunder op.info.2) sp ps) (hs : PySem.W.selfFirst X.K C = true) (hr : Room j X.A) (hk : k ≤ j) : OpR X (binaryOp op) (rAddI C sp) := by
  intro pins s σ H x y v u Q I rx ry h
  obtain ⟨f, fd, hc, M, hf, F, b⟩ := c.ex
  obtain ⟨a, dx, fs, b', dy, gs, rfl, ha, rfl, hb, q⟩ := h
  cases (show v = Value.ref a from rx)
  cases (show u = Value.ref b' from ry)
  obtain ⟨mA, O, _⟩ := ins_get I.hok ha
  obtain ⟨od, J, _⟩ := O.look
  obtain ⟨mB, O', _⟩ := ins_get I.hok hb
  obtain ⟨od', J', _⟩ := O'.look
  obtain ⟨m', hF⟩ := I.fr
  refine PySem.W.binop_K hF I.ok.mod.kin J J'.type hs M.at_ M.fn ?_
  exact wpAny_mono (run_at (E := E0') (dvs := []) (ds := []) (A1 := X.A) (vs := [.ref a, .ref b']) F (hr.mono hk) (fun e => nomatch e) rfl b .nil (passAt takes0 σ) I (.cons rfl (.cons rfl .nil)) q) (fun u' s' ⟨v', H', I', r', q'⟩ => cmpBack r' ⟨v', H', I', r', q'⟩) fun _ _ z => z
theorem add_opI (c : MetG X.prog X.w X.K X.mg X.base false k C "__add__" sp ps) (hs : PySem.W.selfFirst X.K C = true) (hr : Room j X.A) (hk : k ≤ j) : OpR X (binaryOp .Add) (rAddI C sp) := bin_opI (op := .Add) c hs hr hk
/-- len(x) -/
def rLenI (C : Addr) (sp : Sp) : List V → Hp → VK → Prop := fun xs H Q => ∃ a dx fs, xs = [.ref a] ∧ H a = some (.ins C dx fs) ∧ sp [.ref a] H (fun v H' => ∃ n : Nat, v = .int n ∧ n < 2 ^ 63 ∧ Q (.int n) H') (fun _ _ _ => False)
theorem len_I (c : MetG X.prog X.w X.K X.mg X.base false k C "__len__" sp ps) (hr : Room j X.A) (hk : k + 1 ≤ j) : CallR X (.builtin "len") (rLenI C sp) := by
  intro pins s σ H xs us Q I r h
  obtain ⟨f, fd, hc, M, hf, F, b⟩ := c.ex
  obtain ⟨a, dx, fs, rfl, ha, q⟩ := h
  obtain ⟨u, rfl, ru⟩ := vals1 r
  cases (show u = Value.ref a from ru)
  obtain ⟨mA, O, _⟩ := ins_get I.hok ha
  obtain ⟨od, J, _⟩ := O.look
  obtain ⟨m', hF⟩ := I.fr
  refine PySem.W.len_K hF I.ok.mod.kin J M.at_ M.fn ?_
  refine wpAny_mono (run_at (E := E0') (dvs := []) (ds := []) (A1 := X.A.in1) (vs := [.ref a]) F ((hr.mono hk).in1) (fun e => nomatch e) rfl b .nil (passAt takes0 σ) I (.cons rfl .nil) q) (fun u' s' ⟨v', H', I', r', n, e1, e2, q'⟩ => ?_) fun _ _ z => z
  subst e1
  obtain ⟨t, rfl⟩ := r'
  exact ⟨⟨by omega, by omega⟩, ⟨.int n, H', I'.tok _, ⟨_, rfl⟩, q'⟩⟩
/-- y in x, x an instance -/
def rInI (C : Addr) (sp : Sp) (neg : Bool) : R2 := fun y x H Q => ∃ a dx fs, x = .ref a ∧ H a = some (.ins C dx fs) ∧ sp [x, y] H (fun v H' => ∃ b : Bool, v = .bl b ∧ Q (.bl (if neg then !b else b)) H') (fun _ _ _ => False)
theorem in_opI (c : MetG X.prog X.w X.K X.mg X.base false k C "__contains__" sp ps) (hr : Room j X.A) (hk : k ≤ j) : OpR X (compareOp .In) (rInI C sp false) := by
  intro pins s σ H y x v u Q I ry rx h
  obtain ⟨f, fd, hc, M, hf, F, b⟩ := c.ex
  obtain ⟨a, dx, fs, rfl, ha, q⟩ := h
  cases (show u = Value.ref a from rx)
  obtain ⟨mA, O, _⟩ := ins_get I.hok ha
  obtain ⟨od, J, _⟩ := O.look
  obtain ⟨m', hF⟩ := I.fr
  refine PySem.W.in_K hF I.ok.mod.kin J M.at_ M.fn ?_
  refine wpAny_mono (run_at (E := E0') (dvs := []) (ds := []) (A1 := X.A) (vs := [.ref a, y]) F (hr.mono hk) (fun e => nomatch e) rfl b .nil (passAt takes0 σ) I (.cons rfl (.cons ry .nil)) q) (fun u' s' ⟨v', H', I', r', n, e1, q'⟩ => ?_) fun _ _ z => z
  subst e1
  cases r'
  exact wpAny_truthy_bool ⟨.bl n, H', I', rfl, q'⟩
theorem notIn_opI (c : MetG X.prog X.w X.K X.mg X.base false k C "__contains__" sp ps) (hr : Room j X.A) (hk : k ≤ j) : OpR X (compareOp .NotIn) (rInI C sp true) := by
  intro pins s σ H y x v u Q I ry rx h
  obtain ⟨f, fd, hc, M, hf, F, b⟩ := c.ex
  obtain ⟨a, dx, fs, rfl, ha, q⟩ := h
  cases (show u = Value.ref a from rx)
  obtain ⟨mA, O, _⟩ := ins_get I.hok ha
  obtain ⟨od, J, _⟩ := O.look
  obtain ⟨m', hF⟩ := I.fr
  refine PySem.W.notIn_K hF I.ok.mod.kin J M.at_ M.fn ?_
  refine wpAny_mono (run_at (E := E0') (dvs := []) (ds := []) (A1 := X.A) (vs := [.ref a, y]) F (hr.mono hk) (fun e => nomatch e) rfl b .nil (passAt takes0 σ) I (.cons rfl (.cons ry .nil)) q) (fun u' s' ⟨v', H', I', r', n, e1, q'⟩ => ?_) fun _ _ z => z
  subst e1
  cases r'
  exact wpAny_truthy_bool ⟨.bl (!n), H', I', rfl, q'⟩
/-- x != y by x's __eq__ and object's __ne__ -/
theorem ifBound_blt {M : Model} {A : Around} {E : Value → Shared → Prop} {s : Shared} {K : PySem.W.Frag} {x C : Addr} {ox : Obj} {od : Option Obj} {name : Str} {id T : String} {args : List Value} {Q : Option Value → Shared → Prop} (X : K.In s.heap) (I : PySem.W.InstAt s.heap x ox C od)
    (hs : PySem.W.findIn K (.ref C) name = some (some (.builtin id))) (sl : Slot T name id)
    (h : wpAny M A (call (.builtin id) (.ref x :: args)) (fun v => Q (some v)) E s) : wpAny M A (callSpecialIfBound? (.ref x) name args) Q E s := by
  simp only [callSpecialIfBound?, bindSpecialIfBound?]
  refine wpAny_holding (wpAny_bind (wpAny_bind (wpAny_bind (I.type.here ((PySem.W.looks_findIn X hs).here ?_)))))
  refine wpAny_bind (wpAny_askSetting (wpAny_ite ?_))
  have fin : wpAny M A (call (.builtin id) ([.ref x] ++ args) >>= fun v => pure (some v)) Q E s := wpAny_bind (wpAny_mono h (fun v s' h' => wpAny_pure h') fun _ _ h' => h')
  split
  · rw [sl.bind (.ref x)]
    exact wpAny_bind (wpAny_pure (wpAny_pure (by exact fin)))
  · rw [sl.bind (.ref x)]
    exact wpAny_tryCatch (wpAny_bind (wpAny_pure (wpAny_pure (by exact fin))))
def rNeI (K : PySem.W.Frag) (C : Addr) (sp : Sp) : R2 := fun x y H Q => ∃ a dx fs t, x = .ref a ∧ H a = some (.ins C dx fs) ∧ TyX K H y t ∧ PySem.W.notFirst K C t = true ∧ sp [x, y] H (fun v H' => ∃ b : Bool, v = .bl b ∧ Q (.bl (!b)) H') (fun _ _ _ => False)
theorem ne_opI (c : MetG X.prog X.w X.K X.mg X.base false k C "__eq__" sp ps) (hne : PySem.W.findIn X.K (.ref C) "__ne__" = some (some (.builtin "object.__ne__"))) (ho : PySem.W.mroIn X.K C (.type "object") = some true) (hr : Room j X.A) (hk : k + 1 ≤ j) : OpR X (compareOp .NotEq) (rNeI X.K C sp) := by
  intro pins s σ H x y v u Q I rx ry h
  obtain ⟨f, fd, hc, M, hf, F, b⟩ := c.ex
  obtain ⟨a, dx, fs, t, rfl, ha, ty, hn, q⟩ := h
  cases (show v = Value.ref a from rx)
  obtain ⟨P, Z, p, _⟩ := kit_of I ry ty
  obtain ⟨mA, O, _⟩ := ins_get I.hok ha
  obtain ⟨od, J, _⟩ := O.look
  obtain ⟨m', hF⟩ := I.fr
  have X1 := I.kIn
  have hu := hr.units
  have body : wpAny (model X.prog X.w) X.A.in1 (Builtin.«object.__ne__» ⟨[.ref a, u], []⟩) (fun fin s' => ∃ v', fin = .done (.ret v') ∧ PySem.W.CmpBack (EP X pins σ Q) v' s') X.xe s := by
    unfold Builtin.«object.__ne__»
    refine wpAny_bind (wpAny_of_eq (a := ((Value.ref a : Value), [u])) (by first | rfl | (simp only [slotArgs]; rfl)) ?_)
    refine wpAny_bind (wpAny_cRoomFor (by show X.A.units + 1 < _; omega) ?_)
    refine wpAny_bind (PySem.W.ifBound_K X1 J M.at_ M.fn ?_)
    refine wpAny_mono (run_at (E := E0') (dvs := []) (ds := []) (A1 := X.A.in1) (vs := [.ref a, y]) F ((hr.mono hk).in1) (fun e => nomatch e) rfl b .nil (passAt takes0 σ) I (.cons rfl (.cons ry .nil)) q) (fun u' s' ⟨v', H', I', r', n, e1, q'⟩ => ?_) fun _ _ z => z
    subst e1
    cases r'
    refine wpAny_bind (m := truthy (.bool n)) (wpAny_truthy_bool ?_)
    exact wpAny_pure ⟨_, rfl, ⟨.bl (!n), H', I', rfl, q'⟩⟩
  have one : wpAny (model X.prog X.w) X.A (tryCompare (.ref a) "__ne__" u) (fun r s' => ∃ v, r = some v ∧ EP X pins σ Q v s') X.xe s := by
    have sub : PySem.W.Looks (model X.prog X.w) s.heap (isInstance (.ref a) (.type "object")) true := J.type.andThen (PySem.W.looks_mroIn X1 ho)
    unfold tryCompare
    refine wpAny_bind (ifBound_blt X1 J hne PySem.F.cmp_object.ne (wpAny_call (codeAny_call_builtin PySem.F.cmp_object.ne.plain PySem.F.cmpEntry_ne (PySem.W.check_slot PySem.F.cmpKind_ne PySem.F.cmpSplit_ne sub (PySem.F.cmpArgs_ne _ _) (wpAny_mono body (fun fin s' hv => ?_) fun _ _ z => z)))))
    obtain ⟨v', rfl, hv⟩ := hv
    cases v' <;> first | exact hv.elim | exact wpAny_pure ⟨_, rfl, hv⟩
  show wpAny _ _ (richCompare .NotEq _ _) _ _ _
  unfold richCompare
  simp only [oneThing_ref]
  refine wpAny_holding (wpAny_bind (wpAny_cRoomFor hr.units0 ?_))
  refine wpAny_bind (J.type.here (wpAny_bind ((Z.ty _ _ I.kIn p).here ?_)))
  split
  · rename_i q
    have e : PySem.W.subIn X.K t (.ref C) = some false := by
      rcases Bool.or_eq_true_iff.mp hn with e | e
      · rw [beq_iff_eq.mp e] at q; simp at q
      · exact beq_iff_eq.mp e
    refine wpAny_bind ((PySem.W.looks_subIn X1 e).here ?_)
    simp only [Bool.false_eq_true, if_false]
    refine wpAny_bind (wpAny_mono one (fun r s' z => ?_) fun _ _ e => e)
    obtain ⟨v, rfl, hq⟩ := z
    exact wpAny_pure hq
  · refine wpAny_bind (wpAny_pure ?_)
    simp only [Bool.false_eq_true, if_false]
    refine wpAny_bind (wpAny_mono one (fun r s' z => ?_) fun _ _ e => e)
    obtain ⟨v, rfl, hq⟩ := z
    exact wpAny_pure hq
/-- x[y], x an instance -/
def tIxI (C : Addr) (sp : Sp) (E : L2.St → XK) (ta tb : TE) : TE := fun σ H Q => ta σ H fun x H1 => tb σ H1 fun y H2 => ∃ a dx fs, x = .ref a ∧ H2 a = some (.ins C dx fs) ∧ sp [x, y] H2 Q (E σ)
theorem pe_ixI {W : WX} {a b : Expr} {ta tb : TE} {pos : Pos} (c : MetG X.prog X.w X.K X.mg X.base false k C "__getitem__" sp ps) (hr : Room j X.A) (hk : k + 1 ≤ j) (tk : Takes X W) (ha : PE X a ta) (hb : PE X b tb)
    (hsl : ∀ o i, subscripted b true o i = runValue (.builtin "lifetime.subscript" ⟨[o, i], []⟩) := by intro _ _; with_unfolding_all rfl) : PE X (.Subscript a b pos) (tIxI C sp (WE W) ta tb) := by
  obtain ⟨f, fd, hc, M, hf, F, bb⟩ := c.ex
  refine ⟨fun pins s σ H Q I h => ?_⟩
  refine Subscript_ (binT ha hb I h fun v u s2 x y H2 I2 rx ry q => ?_)
  obtain ⟨p, dx, fs, rfl, hp, q⟩ := q
  cases (show v = Value.ref p from rx)
  obtain ⟨mA, O, _⟩ := ins_get I2.hok hp
  obtain ⟨od, J, _⟩ := O.look
  obtain ⟨m', hF⟩ := I2.fr
  refine PySem.W.sub_K hF I2.ok.mod.kin J M.at_ hf M.fn ?_ (hsl _ _)
  exact run_at (dvs := []) (ds := []) (A1 := X.A.in1) (vs := [.ref p, y]) F ((hr.mono hk).in1) (fun e => nomatch e) rfl bb .nil (passAt tk σ) I2 (.cons rfl (.cons ry .nil)) q
end
end G
set_option Elab.async false
set_option linter.all false
set_option maxRecDepth 100000
namespace G
open PySem PySem.Spec PyProof.Rows L2
/-! ### repr -/
def rRepr (K : PySem.W.Frag) : List V → Hp → VK → Prop := fun xs H Q => ∃ x d, xs = [x] ∧ Dp K H x d ∧ d.showable = true ∧ d.hasDict = false ∧ d.shown.length ≤ sizeLine ∧ d.depth ≤ 50 ∧ Q (.str d.shown) H
theorem gRepr {X : Cx} (hg : X.A.guards = some []) (hu : X.A.units + 64 < cLine) : CallR X (.builtin "repr") (rRepr X.K) := by
  intro pins s σ H xs us Q I r h
  obtain ⟨x, d, rfl, hd, h1, h2, h3, h4, q⟩ := h
  obtain ⟨u, rfl, ru⟩ := vals1 r
  obtain ⟨as, rd⟩ := Dp.reads I d x u hd ru
  have nd : d.hasDict = true → sysModules ∉ as := fun e => by rw [h2] at e; cases e
  have big : ∀ a, u = .ref a → wpAny (model X.prog X.w) X.A (call (.builtin "repr") [u]) (EP X pins σ Q) X.xe s := fun a e => by
    subst e
    refine repr_of_reads' rd h1 nd hg (by omega) (fun _ _ e => e) (fun h' t tk hk => ⟨.str d.shown, H, I.kept (t' := tk) hk, ⟨_, rfl⟩, q⟩) h3
  cases rd with
  | none => exact PySem.P.repr_of_none ⟨.str _, H, I.tok _, ⟨_, rfl⟩, q⟩
  | bool b => exact PySem.P.repr_of_bool ⟨.str _, H, I.tok _, ⟨_, rfl⟩, q⟩
  | int i t => exact PySem.P.repr_of_int (by simpa [PyData.showable] using h1) ⟨.str _, H, I.tok _, ⟨_, rfl⟩, q⟩
  | str x t => exact PySem.P.repr_of_str ⟨.str _, H, I.tok _, ⟨_, rfl⟩, q⟩ (by simpa only [PyData.shown] using h3)
  | list a1 a2 a3 a4 => exact big _ rfl
  | tuple a1 a2 a3 a4 => exact big _ rfl
  | dict a1 a2 a3 a4 a5 => exact big _ rfl
/-- .. of a dict of flat values -/
def flatD : V → PyData
  | .bl b => .bool b
  | .int i => .int i
  | .str x => .str x
  | _ => .none
def keyD : Key → PyData
  | .inl i => .int i
  | .inr x => .str x
abbrev dictD (kvs : List (Key × V)) : PyData := .dict (kvs.map fun kv => (keyD kv.1, flatD kv.2))
theorem flat_reads {h : Heap} {v : V} {u : Value} (hf : flatV v = true) (r : RelV v u) : Reads h u (flatD v) [] := by
  cases v with
  | non => cases r; exact .none
  | bl b => cases r; exact .bool b
  | int i => obtain ⟨t, rfl⟩ := r; exact .int i t
  | str x => obtain ⟨t, rfl⟩ := r; exact .str x t
  | byt b => cases hf
  | flt b => cases hf
  | ref b => cases hf
  | ty b => cases hf
theorem key_reads {h : Heap} {k : Key} {u : Value} (r : keyIs k u = true) : Reads h u (keyD k) [] := by
  rcases keyIs_shape r with ⟨i, t, rfl, rfl⟩ | ⟨x, t, rfl, rfl⟩
  · exact .int i t
  · exact .str x t
theorem pairs_reads {P : Program} {w : World} {h : Heap} : ∀ {es : List DictEntry} {kvs : List (Key × V)} {vs : List (Key × Value)}, Pairs (mixKind P w) es vs → KV kvs vs → kvs.all (fun kv => flatV kv.2) = true →
    ReadsAll h (es.map (·.key)) ((kvs.map fun kv => (keyD kv.1, flatD kv.2)).map (·.1)) [] ∧ ReadsAll h (es.map (·.val)) ((kvs.map fun kv => (keyD kv.1, flatD kv.2)).map (·.2)) []
  | _, _, _, .nil, .nil, _ => ⟨.nil, .nil⟩
  | _, _, _, .cons h1 h2 hr, .cons ⟨e, rv⟩ kr, hf => by
    rw [List.all_cons, Bool.and_eq_true] at hf
    obtain ⟨q1, q2⟩ := pairs_reads (h := h) hr kr hf.2
    rw [← e] at h1
    rw [← h2] at rv
    exact ⟨.cons (key_reads h1) q1, .cons (flat_reads hf.1 rv) q2⟩
def rReprD : List V → Hp → VK → Prop := fun xs H Q => ∃ a kvs, xs = [.ref a] ∧ H a = some (.dK kvs) ∧ kvs.all (fun kv => flatV kv.2) = true ∧ (dictD kvs).showable = true ∧ (dictD kvs).shown.length ≤ sizeLine ∧ (dictD kvs).depth ≤ 50 ∧ Q (.str (dictD kvs).shown) H
theorem gReprD {X : Cx} (hg : X.A.guards = some []) (hu : X.A.units + 64 < cLine) : CallR X (.builtin "repr") rReprD := by
  intro pins s σ H xs us Q I r h
  obtain ⟨a, kvs, rfl, ha, hf, h1, h3, h4, q⟩ := h
  obtain ⟨u, rfl, ru⟩ := vals1 r
  cases (show u = Value.ref a from ru)
  obtain ⟨hz, hn, vs, kv, o, es, ep, e1, e2, e3, e4, e5, e6⟩ := (show ObjOk X.prog X.w H s.heap a (.dK kvs) from I.hok a _ ha)
  obtain ⟨q1, q2⟩ := pairs_reads (h := s.heap) e5 kv hf
  have rd : Reads s.heap (.ref a) (dictD kvs) [a] := .dict e1 e2.1 e3 q1 q2
  have nd : sysModules ∉ [a] := fun m => by
    rw [List.mem_singleton] at m
    rw [← m] at hn
    simp at hn
  refine repr_of_reads' rd h1 (fun _ => nd) hg (by omega) (fun _ _ e => e) (fun h' t tk hk => ⟨.str (dictD kvs).shown, H, I.kept (t' := tk) hk, ⟨_, rfl⟩, q⟩) h3
def rReprA (K : PySem.W.Frag) : List V → Hp → VK → Prop := fun xs H Q => rRepr K xs H Q ∨ rReprD xs H Q
theorem kRepr {X : Cx} {K : PySem.W.Frag} (hK : X.K = K) (hg : X.A.guards = some []) (hu : X.A.units + 64 < cLine) : CallR X (.builtin "repr") (rReprA K) := by
  subst hK
  exact CallR.or (gRepr hg hu) (gReprD hg hu)
end G
set_option Elab.async false
set_option linter.all false
set_option maxRecDepth 100000
namespace G
open PySem PySem.Spec PyProof.Rows L2
/-! ### the end, for a law's def that promises by Fg -/
/-- what a call of the law's def must come to -/
abbrev LawEnd (P : Program) (w : World) (fa a : Addr) (s : Shared) : Prop :=
  codeAny (model P w) callerA (.call (.ref fa) ⟨[.ref a], []⟩) (fun r s' => r = .ok (.ret (.bool true)) ∧ OldK s.heap s'.heap ∧ s'.os = s.os ∧ AllBare s'.gens) s
section
variable {P : Program} {w : World} {K : PySem.W.Frag} {mg mb : Str → Option Value} {g : Bool} {k : Nat} {fa a : Addr} {fd : FuncData} {x : Str} {sp : Sp} {s : Shared} {H : Hp} {us : List Value} {ns : List Int}
/-- from an abstract heap that tracks at most the script at a (frozen) -/
theorem end_at (kin : K.In s.heap) (hns : s.heap.Ns mainGlobals mg) (hb : s.heap.Ns builtinsNs mb) (hbb : ∀ x : Str, x ≠ "__name__" → mb x = bootBuiltins x) (hlim : s.heap.NoLimit) (hg : s.gens = #[])
    (hdat : ∀ o, s.heap.get? a = some o → ∀ es ep, o.data ≠ .dict es ep) (hr : Room k callerA)
    (F : ∀ base : Heap, K.In base → base.Ns mainGlobals mg → Fg P w K mg base g k fa fd [x] sp) (hbind : ∀ (s : Shared) (u : Value), BindsTo s fd ⟨[u], []⟩ [(x, u)])
    (hO : Only H) (hok : HOk P w H s.heap) (hA : ∀ b, b ≠ a → H b = none) (hK : H a ≠ none → K.lookup a = none) (q : sp [.ref a] H (fun v _ => v = .bl true) fun _ _ _ => False) : LawEnd P w fa a s := by
  have dict_free : ∀ b o es ep, s.heap.get? b = some o → o.data = .dict es ep → H b = none := fun b o es ep e d => hA b fun z => hdat o (z ▸ e) es ep d
  have keepNs : ∀ {b : Addr} {m : Str → Option Value}, s.heap.Ns b m → (hidT s.heap H).Ns b m := fun {b m} ⟨o, es, ep, e, d, r⟩ => ⟨o, es, ep, hidT_get e (dict_free b o es ep e d), d, r⟩
  have keepK : K.In (hidT s.heap H) := fun b o e => hidT_get (kin b o e) (Decidable.byContradiction fun z => by
    by_cases hba : b = a
    · subst hba
      rw [hK z] at e
      cases e
    · exact z (hA b hba))
  obtain ⟨mc, l1, l2⟩ := hlim
  have e0 : Env0 P w K mg (hidT s.heap H) callerA [] s H := ⟨rfl, ⟨keepK, keepNs hns, ⟨mb, keepNs hb, hbb⟩, ⟨mc, keepNs l1, l2⟩⟩, fun b o e => of_hidT e, Nat.le_of_eq (hidT_size _ _), trivial, fun b z => absurd (show b ∈ ([] : List Addr) from z) (by simp), hok, .of_eq hg⟩
  refine codeAny_mono ((F _ keepK (keepNs hns)).go callerA [] s H ⟨[.ref a], []⟩ [.ref a] [.ref a] _ _ hr (fun _ => rfl) e0 (hbind s (.ref a)) (.cons rfl .nil) q) fun r s' h => ?_
  match r, h with
  | .error e, h =>
    obtain ⟨_, _, _, _, _, _, _, _, _, _, _, _, z⟩ := h
    exact z.elim
  | .ok .next, h => exact False.elim h
  | .ok .brk, h => exact False.elim h
  | .ok .cont, h => exact False.elim h
  | .ok (.ret u), ⟨v, H', os, bare, un, hok', rv, ev⟩ =>
    have ev' : v = .bl true := ev
    subst ev'
    obtain rfl : u = Value.bool true := rv
    refine ⟨rfl, OldK.of_keep fun b o e => ?_, os, bare⟩
    rcases hO b with z | ⟨ob, xs, z⟩
    · exact un.keep b o e z (fun m => absurd (show b ∈ ([] : List Addr) from m) (by simp)) (by simp)
    · have c1 := (hok b _ z).1
      have c2 := (hok' b _ (un.frzs b ob _ z)).1
      rw [e] at c1
      cases c1
      exact c2
theorem law_callG (kin : K.In s.heap) (hns : s.heap.Ns mainGlobals mg) (hb : s.heap.Ns builtinsNs mb) (hbb : ∀ x : Str, x ≠ "__name__" → mb x = bootBuiltins x) (hlim : s.heap.NoLimit) (hg : s.gens = #[])
    (ha : s.heap.get? a = some { cls := .type "list", data := .seq us.toArray }) (hi : IntsAre us ns) (hl : ns.length ≤ sizeLine) (hr : Room k callerA)
    (F : ∀ base : Heap, K.In base → base.Ns mainGlobals mg → Fg P w K mg base g k fa fd [x] sp) (hbind : ∀ (s : Shared) (u : Value), BindsTo s fd ⟨[u], []⟩ [(x, u)])
    (hsp : ∀ H : Hp, SqL K H a (ns.map V.int) → sp [.ref a] H (fun v _ => v = .bl true) fun _ _ _ => False) : LawEnd P w fa a s := by
  have rv := vals_ints hi
  have hdat : ∀ o, s.heap.get? a = some o → ∀ es ep, o.data ≠ .dict es ep := fun o e es ep d => by
    rw [ha] at e
    cases e
    have d' : Data.seq us.toArray _ = Data.dict es ep := d
    cases d'
  cases hk : K.lookup a with
  | some o =>
    have e := kin a o hk
    rw [ha] at e
    cases e
    exact end_at (H := fun _ => none) kin hns hb hbb hlim hg hdat hr F hbind (fun _ => .inl rfl) (fun b u z => nomatch z) (fun _ _ => rfl) (fun z => absurd rfl z)
      (hsp _ (.inr ⟨_, us.toArray, _, hk, rfl, rfl, rfl, by rw [List.size_toArray, hi.length]; exact hl, by simpa using rv⟩))
  | none =>
    refine end_at (H := upd (fun _ => none) a (.frz { cls := .type "list", data := .seq us.toArray } (.lst (ns.map V.int)))) kin hns hb hbb hlim hg hdat hr F hbind (fun b => ?_) (fun b u z => ?_) (fun b hb => upd_ne hb) (fun _ => hk) (hsp _ (.inl (.inr ⟨_, upd_same⟩)))
    · by_cases hb : b = a
      · exact .inr ⟨_, _, by rw [hb]; exact upd_same⟩
      · exact .inl (upd_ne hb)
    · by_cases hb : b = a
      · subst hb
        rw [upd_same] at z
        cases z
        exact ⟨ha, by rw [List.length_map]; exact hl, us, _, rv, ha⟩
      · rw [upd_ne hb] at z
        cases z
end
theorem walk_ofG {l : PySem.W.OpenLaw} {n k : Nat} {q : Program} {loose : List Str} {XP : (Str → Option Value) → Heap → Prop} {YP : World → Heap → Prop} {d : DefRec} {K : Params → PySem.W.Frag} {g : Bool} {sp : PySem.W.Frag → Sp} {x : Str}
    (hn : l.most = some n) (hn2 : n ≤ sizeLine) (hdf : d.params.defaults = []) (hr : Room k callerA) (hY : ∀ (w : World) (h : Heap), YP w h → (K w.params).In h)
    (F : ∀ (w : World) (mg : Str → Option Value) (fa : Addr) (h : Heap), (K w.params).In h → h.Ns mainGlobals mg → mg d.name = some (.ref fa) →
      ∃ fd : FuncData, (∀ (s : Shared) (u : Value), BindsTo s fd ⟨[u], []⟩ [(x, u)]) ∧ ∀ base : Heap, (K w.params).In base → base.Ns mainGlobals mg → Fg l.prog w (K w.params) mg base g k fa fd [x] (sp (K w.params)))
    (hsp : ∀ (K : PySem.W.Frag) (H : Hp) (a : Addr) (ns : List Int), ns.length ≤ n → (∀ z ∈ ns, Builtin.Int.intBits z ≤ 1048576) → SqL K H a (ns.map V.int) → sp K [.ref a] H (fun v _ => v = .bl true) fun _ _ _ => False) :
    PySem.W.WalkO q loose XP YP l.row.toRowW d [] (fun f vs => PySem.call f vs) := by
  refine Att.attach_callB hn hdf fun w s₀ s₁ mg mb fa o pm cd doc a vs ns G Y ho hd hcd hmg hobj hints hlen hbits hg => ?_
  have kin := hY w _ Y
  obtain ⟨fd, hb, hF⟩ := F w mg fa _ kin G.T.g hmg
  exact law_callG kin G.T.g G.T.b G.T.builtins G.T.nolimit hg hobj hints (Nat.le_trans hlen hn2) hr hF hb fun H hS => hsp _ H a ns hlen hbits hS
end G
set_option Elab.async false
set_option linter.all false
set_option maxRecDepth 100000
namespace G
open PySem PySem.Spec PyProof.Rows L2
/-! ### isinstance with own classes -/
theorem kit_ownT {K : PySem.W.Frag} {t : Value} {C : Addr} (hc : PySem.W.isClsIn K C = true) (ht : PySem.W.typeIn K (.ref C) = some (.type "type")) (hs : PySem.W.subIn K t (.ref C) = some true) : PySem.W.kitOne K t (.ref C) = some true := by
  unfold PySem.W.kitOne
  split
  · rfl
  · unfold PySem.W.kitCls
    dsimp only
    rw [show (PySem.W.clsIn K C).isSome = true from hc, ht, hs]
    rfl
theorem kit_ownF {K : PySem.W.Frag} {T : String} {C : Addr} {r : Bool} (hc : PySem.W.isClsIn K C = true) (ht : PySem.W.typeIn K (.ref C) = some (.type "type")) (hs : PySem.W.subIn K (.type T) (.ref C) = some r) : PySem.W.kitOne K (.type T) (.ref C) = some r := by
  unfold PySem.W.kitOne
  rw [if_neg (by simp)]
  unfold PySem.W.kitCls
  dsimp only
  rw [show (PySem.W.clsIn K C).isSome = true from hc, ht, hs]
  rfl
theorem kit_self {K : PySem.W.Frag} {C : Addr} : PySem.W.kitOne K (.ref C) (.ref C) = some true := if_pos (by simp)
theorem kit_blt {K : PySem.W.Frag} {T : String} {C : Addr} {r : Bool} (hm : PySem.W.kitMeta T = true) (hs : PySem.W.subIn K (.ref C) (.type T) = some r) : PySem.W.kitOne K (.ref C) (.type T) = some r := by
  unfold PySem.W.kitOne
  rw [if_neg (by simp)]
  unfold PySem.W.kitCls
  dsimp only
  rw [hm, hs]
  rfl
theorem nf_self {K : PySem.W.Frag} {C : Addr} : PySem.W.notFirst K C (.ref C) = true := by unfold PySem.W.notFirst; simp
theorem nf_of {K : PySem.W.Frag} {C : Addr} {t : Value} (h : PySem.W.subIn K t (.ref C) = some false) : PySem.W.notFirst K C t = true := by unfold PySem.W.notFirst; rw [h]; simp
theorem kEqU {X : Cx} {K : PySem.W.Frag} (hK : X.K = K) (hu : X.A.units + 64 < cLine) : OpR X (compareOp .Eq) (rEqA K) := by subst hK; exact op_eq.or (op_eqD hu)
theorem kNeU {X : Cx} {K : PySem.W.Frag} (hK : X.K = K) (hu : X.A.units + 64 < cLine) : OpR X (compareOp .NotEq) (rNeA K) := by subst hK; exact op_ne.or (op_neD hu)
/-! ### defs, methods, classes of the text -/
abbrev BodyN (P : Program) (w : World) (K : PySem.W.Frag) (mg : Str → Option Value) (base : Heap) (g : Bool) (k : Nat) (N : List Str) (qual : Str) (st : Stmt) (f : Addr) (sp : Sp) : Prop :=
  ∀ (cdv : Value) (A : Around) (outer : List Env) (s : Shared) (H : Hp) (vs : List V) (Q : VK) (E : XK), Room k (A.deeper (envOfC qual (defScope st) s.heap.objs.size f cdv)) →
    (g = true → (A.deeper (envOfC qual (defScope st) s.heap.objs.size f cdv)).guards = some []) → sp vs H Q E →
    ∃ t, PSs (cxOf (L2.CX P w) P w K mg base N qual (defScope st) f cdv A outer s H E).nox (defBody st) t ∧ t { nx := fun _ H' => Q .non H', rt := Q } (start N vs) H
abbrev BodyX (P : Program) (w : World) (K : PySem.W.Frag) (mg : Str → Option Value) (base : Heap) (g : Bool) (k : Nat) (N : List Str) (qual : Str) (st : Stmt) (f : Addr) (sp : Sp) : Prop :=
  ∀ (cdv : Value) (A : Around) (outer : List Env) (s : Shared) (H : Hp) (vs : List V) (Q : VK) (E : XK), Room k (A.deeper (envOfC qual (defScope st) s.heap.objs.size f cdv)) →
    (g = true → (A.deeper (envOfC qual (defScope st) s.heap.objs.size f cdv)).guards = some []) → sp vs H Q E →
    ∃ t, PSs (cxOf (L2.CX P w) P w K mg base N qual (defScope st) f cdv A outer s H E) (defBody st) t ∧ t { nx := fun _ H' => Q .non H', rt := Q } (start N vs) H
structure Dm (K : PySem.W.Frag) (C : Addr) (m qual : Str) (st : Stmt) (ps : List Str) : Prop where
  ex : ∃ (f : Addr) (fd : FuncData), Cls K C ∧ Meth K C m f ∧ PySem.W.fnIn K f = true ∧ Fun K m qual st f fd ∧ Binds K fd ps []
structure Dk (K : PySem.W.Frag) (mg : Str → Option Value) (x : Str) (C : Addr) (qual : Str) (st : Stmt) (dvs : List V) : Prop where
  ex : ∃ (f : Addr) (fd : FuncData), Mk K C f ∧ mg x = some (.ref C) ∧ FunD K "__init__" qual (defArgs st) (defBody st) (defScope st) dvs [] f fd
structure Ini (P : Program) (w : World) (K : PySem.W.Frag) (mg : Str → Option Value) (base : Heap) (k : Nat) (x : Str) (C : Addr) (qual : Str) (st : Stmt) (dvs : List V) (ps : List Str) (sp : Sp) : Prop where
  ex : ∃ (f : Addr) (fd : FuncData), Mk K C f ∧ mg x = some (.ref C) ∧ FunD K "__init__" qual (defArgs st) (defBody st) (defScope st) dvs [] f fd ∧ Fg P w K mg base false k f fd ps sp
section
variable {P : Program} {w : World} {K : PySem.W.Frag} {mg : Str → Option Value} {base : Heap} {g : Bool} {x qual m : Str} {st : Stmt} {N ps : List Str} {k : Nat} {sp : Sp} {C : Addr} {dvs : List V}
theorem kbn_of {fd : FuncData} (b : Binds K fd ps []) : KBn K fd ps ps.length [] (fun us _ => us) (fun vs _ => vs) :=
  ⟨fun s us ws X l1 l2 => by
    have h := b s us X (by rw [List.append_nil]; exact l1)
    rw [List.append_nil] at h
    exact h, fun r _ => r⟩
theorem Dd.calG (F : Dd K mg x st ps) (S : FnScope N ps (defScope st)) (len : ∀ vs H Q E, sp vs H Q E → vs.length = ps.length) (hbody : ∀ f, BodyN P w K mg base g k N x st f sp) : CalG P w K mg base g (k + 1) x sp ps.length [] (fun vs _ => vs) := by
  obtain ⟨f, fd, F1, hm, b⟩ := F.ex
  exact ⟨f, fd, ps, _, fg_of F1 S len fun cdv A outer s H vs Q E hr hg h => let ⟨t, h1, h2⟩ := hbody f cdv A outer s H vs Q E hr hg h; ⟨t, h1.nox, h2⟩, hm, F1.kp, kbn_of b⟩
theorem Dd.calX (F : Dd K mg x st ps) (S : FnScope N ps (defScope st)) (len : ∀ vs H Q E, sp vs H Q E → vs.length = ps.length) (hbody : ∀ f, BodyX P w K mg base g k N x st f sp) : CalG P w K mg base g (k + 1) x sp ps.length [] (fun vs _ => vs) := by
  obtain ⟨f, fd, F1, hm, b⟩ := F.ex
  exact ⟨f, fd, ps, _, fg_of F1 S len (hbody f), hm, F1.kp, kbn_of b⟩
theorem Dd.lawG {fa : Addr} (F : Dd K mg x st ps) (S : FnScope N ps (defScope st)) (hfa : mg x = some (.ref fa)) (len : ∀ vs H Q E, sp vs H Q E → vs.length = ps.length) (hbody : ∀ base f, BodyN P w K mg base g k N x st f sp) :
    ∃ fd : FuncData, (∃ (kV doc pm : Value) (an : Option Addr) (cdv ct : Value), fd = PySem.W.fnOf x x (defArgs st) (defBody st) (defScope st) .none kV doc pm an cdv ct) ∧ ∀ base : Heap, Fg P w K mg base g (k + 1) fa fd ps sp := by
  obtain ⟨f, fd, F1, hm, b⟩ := F.ex
  have e := hfa.symm.trans hm
  cases e
  refine ⟨fd, ?_, fun base => fg_of F1 S len fun cdv A outer s H vs Q E hr hg h => let ⟨t, h1, h2⟩ := hbody base fa cdv A outer s H vs Q E hr hg h; ⟨t, h1.nox, h2⟩⟩
  obtain ⟨oc, od, kV, doc, pm, an, cdv, ct, osl, rfl, lk, hcd⟩ := F1.ex
  exact ⟨kV, doc, pm, an, cdv, ct, rfl⟩
theorem Dm.metX (F : Dm K C m qual st ps) (S : FnScope N ps (defScope st)) (len : ∀ vs H Q E, sp vs H Q E → vs.length = ps.length) (hbody : ∀ f, BodyX P w K mg base g k N qual st f sp) : MetG P w K mg base g (k + 1) C m sp ps := by
  obtain ⟨f, fd, c, M, hf, F1, b⟩ := F.ex
  exact ⟨f, fd, c, M, hf, fg_of F1 S len (hbody f), b⟩
theorem Dm.met (F : Dm K C m qual st ps) (S : FnScope N ps (defScope st)) (len : ∀ vs H Q E, sp vs H Q E → vs.length = ps.length) (hbody : ∀ f, BodyN P w K mg base g k N qual st f sp) : MetG P w K mg base g (k + 1) C m sp ps :=
  F.metX S len fun f cdv A outer s H vs Q E hr hg h => let ⟨t, h1, h2⟩ := hbody f cdv A outer s H vs Q E hr hg h; ⟨t, h1.nox, h2⟩
theorem Dk.ini (F : Dk K mg x C qual st dvs) (S : FnScope N ps (defScope st)) (len : ∀ vs H Q E, sp vs H Q E → vs.length = ps.length) (hbody : ∀ f, BodyX P w K mg base false k N qual st f sp) : Ini P w K mg base (k + 1) x C qual st dvs ps sp := by
  obtain ⟨f, fd, M, hm, F1⟩ := F.ex
  exact ⟨f, fd, M, hm, F1, Fg.of (F1.ok S len fun cdv A outer s H vs Q E hr h => hbody f cdv A outer s H vs Q E hr (fun e => nomatch e) h)⟩
theorem Ini.mak {n : Nat} {ks : List Str} {gV : List V → List V → List V} (F : Ini P w K mg base k x C qual st dvs ps sp) (b : ∀ f fd, FunD K "__init__" qual (defArgs st) (defBody st) (defScope st) dvs [] f fd → ∃ gg, KBn K fd ps (n + 1) ks gg gV) : MakG P w K mg base k x C sp n ks gV := by
  obtain ⟨f, fd, M, hm, F1, G⟩ := F.ex
  obtain ⟨gg, kb⟩ := b f fd F1
  exact ⟨f, fd, ps, gg, M, G, hm, kb⟩
end
end G
set_option Elab.async false
set_option linter.all false
set_option maxRecDepth 100000
namespace G
open PySem PySem.Spec PyProof.Rows L2
/-! ### sequences, kinds -/
/-- a list or a tuple -/
def Sq (K : PySem.W.Frag) (H : Hp) (v : V) (xs : List V) : Prop := ∃ p, v = .ref p ∧ (SqL K H p xs ∨ SqT K H p xs)
theorem Sq.l {K : PySem.W.Frag} {H : Hp} {p : Addr} {xs : List V} (h : SqL K H p xs) : Sq K H (.ref p) xs := ⟨p, rfl, .inl h⟩
theorem Sq.t {K : PySem.W.Frag} {H : Hp} {p : Addr} {xs : List V} (h : SqT K H p xs) : Sq K H (.ref p) xs := ⟨p, rfl, .inr h⟩
theorem Sq.mono {K : PySem.W.Frag} {H H' : Hp} {v : V} {xs : List V} (e : Ex H H') (h : Sq K H v xs) : Sq K H' v xs := by
  obtain ⟨p, rfl, h⟩ := h
  exact ⟨p, rfl, h.elim (fun h => .inl (sqL_mono e h)) fun h => .inr (sqT_mono e h)⟩
theorem tyL {K : PySem.W.Frag} {H : Hp} {p : Addr} {xs : List V} (h : SqL K H p xs) : TyX K H (.ref p) (.type "list") := by
  rcases h with (h | ⟨o, h⟩) | ⟨o, its, n, h1, h2, h3, h4⟩
  · exact .base (.lst h)
  · exact .base (.frz h)
  · exact .kList h1 h2
theorem tyT {K : PySem.W.Frag} {H : Hp} {p : Addr} {xs : List V} (h : SqT K H p xs) : TyX K H (.ref p) (.type "tuple") := by
  rcases h with (h | ⟨o, h⟩) | ⟨o, its, n, h1, h2, h3⟩
  · exact .base (.tup h)
  · exact .fTuple h
  · exact .kTuple h1 h2
theorem l_tupSq {K : PySem.W.Frag} {H : Hp} {v : V} {xs : List V} {Q : VK} (hs : Sq K H v xs) (q : ∀ p H', Ex H H' → SqT K H' p xs → Q (.ref p) H') : rTupA K [v] H Q := by
  obtain ⟨p, rfl, h | h⟩ := hs
  · exact ⟨xs, .inl ⟨h, fun l hl => q l _ (Ex.new hl) (.of upd_same)⟩⟩
  · exact ⟨xs, .inr ⟨h, q p H (Ex.refl H) h⟩⟩
theorem sqT_but {K : PySem.W.Frag} {H H' : Hp} {x p C dx : Addr} {fs : List (Str × V)} {xs : List V} (b : But x H H') (hx : H x = some (.ins C dx fs)) (h : SqT K H p xs) : SqT K H' p xs := by
  rcases h with (h | ⟨o, h⟩) | h
  · exact .inl (.inl (b _ _ (fun z => by rw [z, hx] at h; cases h) h))
  · exact .inl (.inr ⟨o, b _ _ (fun z => by rw [z, hx] at h; cases h) h⟩)
  · exact .inr h
theorem sqL_but {K : PySem.W.Frag} {H H' : Hp} {x p C dx : Addr} {fs : List (Str × V)} {xs : List V} (b : But x H H') (hx : H x = some (.ins C dx fs)) (h : SqL K H p xs) : SqL K H' p xs := by
  rcases h with (h | ⟨o, h⟩) | h
  · exact .inl (.inl (b _ _ (fun z => by rw [z, hx] at h; cases h) h))
  · exact .inl (.inr ⟨o, b _ _ (fun z => by rw [z, hx] at h; cases h) h⟩)
  · exact .inr h
theorem Sq.but {K : PySem.W.Frag} {H H' : Hp} {x C dx : Addr} {fs : List (Str × V)} {v : V} {xs : List V} (b : But x H H') (hx : H x = some (.ins C dx fs)) (h : Sq K H v xs) : Sq K H' v xs := by
  obtain ⟨p, rfl, h⟩ := h
  exact ⟨p, rfl, h.elim (fun h => .inl (sqL_but b hx h)) fun h => .inr (sqT_but b hx h)⟩
/-- an int, no bool -/
def isI : V → Bool
  | .int _ => true
  | _ => false
def isB : V → Bool
  | .bl _ => true
  | _ => false
/-- a value whose kind is known -/
def Kd (K : PySem.W.Frag) (H : Hp) (x : V) : Prop := flatV x = true ∨ ∃ p T, x = .ref p ∧ TyX K H x (.type T) ∧ (T = "list" ∨ T = "tuple" ∨ T = "dict")
theorem Kd.l {K : PySem.W.Frag} {H : Hp} {p : Addr} {xs : List V} (h : SqL K H p xs) : Kd K H (.ref p) := .inr ⟨p, _, rfl, tyL h, .inl rfl⟩
theorem Kd.t {K : PySem.W.Frag} {H : Hp} {p : Addr} {xs : List V} (h : SqT K H p xs) : Kd K H (.ref p) := .inr ⟨p, _, rfl, tyT h, .inr (.inl rfl)⟩
theorem Kd.d {K : PySem.W.Frag} {H : Hp} {p : Addr} {kvs : List (Key × V)} (h : H p = some (.dK kvs)) : Kd K H (.ref p) := .inr ⟨p, _, rfl, .base (.dK h), .inr (.inr rfl)⟩
/-- its type, and what isinstance says of it with int, with bool -/
theorem Kd.is {K : PySem.W.Frag} {H : Hp} {x : V} (h : Kd K H x) : ∃ t, TyX K H x t ∧ (∃ b, PySem.W.kitOne K t (.type "int") = some b ∧ isI x = (b && !isB x)) ∧ PySem.W.kitOne K t (.type "bool") = some (isB x) ∧ (isI x = true → PySem.W.kitOne K t (.type "int") = some true) := by
  rcases h with h | ⟨p, T, rfl, ty, rfl | rfl | rfl⟩
  · cases x with
    | non => exact ⟨_, .base .non, ⟨false, kt_NoneType_int, rfl⟩, kt_NoneType_bool, fun e => nomatch e⟩
    | bl b => exact ⟨_, .base (.bl b), ⟨true, kt_bool_int, rfl⟩, kt_bool_bool, fun e => nomatch e⟩
    | int i => exact ⟨_, .base (.int i), ⟨true, kt_int_int, rfl⟩, kt_int_bool, fun _ => kt_int_int⟩
    | str z => exact ⟨_, .base (.str z), ⟨false, kt_str_int, rfl⟩, kt_str_bool, fun e => nomatch e⟩
    | byt b => cases h
    | flt b => cases h
    | ref b => cases h
    | ty b => cases h
  · exact ⟨_, ty, ⟨false, kt_list_int, rfl⟩, kt_list_bool, fun e => nomatch e⟩
  · exact ⟨_, ty, ⟨false, kt_tuple_int, rfl⟩, kt_tuple_bool, fun e => nomatch e⟩
  · exact ⟨_, ty, ⟨false, kt_dict_int, rfl⟩, kt_dict_bool, fun e => nomatch e⟩
theorem Kd.mono {K : PySem.W.Frag} {H H' : Hp} {x : V} (e : Ex H H') (h : Kd K H x) : Kd K H' x := by
  rcases h with h | ⟨p, T, rfl, ty, hT⟩
  · exact .inl h
  · refine .inr ⟨p, T, rfl, ?_, hT⟩
    generalize hx : V.ref p = x at ty
    generalize ht : Value.type T = t at ty
    cases ty with
    | base b =>
      cases b with
      | lst h => exact .base (.lst (e _ _ h))
      | frz h => exact .base (.frz (e _ _ h))
      | tup h => exact .base (.tup (e _ _ h))
      | dK h => exact .base (.dK (e _ _ h))
      | dT h => exact .base (.dT (e _ _ h))
      | non => cases hx
      | bl _ => cases hx
      | int _ => cases hx
      | str _ => cases hx
      | flt _ => cases hx
      | ins => cases ht
    | byt _ => cases hx
    | set h => exact .set (e _ _ h)
    | kList h c => exact .kList h c
    | kTuple h c => exact .kTuple h c
    | kDict h c => exact .kDict h c
    | fTuple h => exact .fTuple (e _ _ h)
    | fDict h => exact .fDict (e _ _ h)
/-! ### [f(x) for x in xs] -/
section
variable {K : PySem.W.Frag} {xs : List V} {f : V → V} {i : Nat} {vs : List Nat} {σ : L2.St} {H : Hp} {te : TE} {Q : VK} {v : V}
theorem lc_turn {DD : Addr} (hD : H DD = none) (hlen : xs.length ≤ 1000) (hw : ∀ x, wipe ((wipe σ vs).set i (some x)) vs = wipe σ vs)
    (hte : ∀ x ∈ xs, ∀ H' R, Ex H H' → (∀ H'', Ex H' H'' → R (f x) H'') → te ((wipe σ vs).set i (some x)) H' R) (j : Nat) (x : V) (H' : Hp) (hj : xs[j]? = some x) (hp : Ex H H' ∧ H' DD = some (.lst ((xs.take j).map f))) :
    gName i x (wipe σ vs) H' fun σ2 H2 => wipe σ2 vs = wipe σ vs ∧ tYes σ2 H2 fun b H3 =>
      if b = true then te σ2 H3 fun y H4 => ∃ acc, H4 DD = some (.lst acc) ∧ acc.length < sizeLine ∧ Ex H (upd H4 DD (.lst (acc ++ [y]))) ∧ upd H4 DD (.lst (acc ++ [y])) DD = some (.lst ((xs.take (j + 1)).map f)) else Ex H H3 ∧ H3 DD = some (.lst ((xs.take (j + 1)).map f)) := by
  refine ⟨hw x, i_yes ?_⟩
  rw [if_pos rfl]
  refine hte x (List.mem_of_getElem? hj) H' _ hp.1 fun H'' e => ⟨_, e _ _ hp.2, ?_, (hp.1.trans e).mut hD, ?_⟩
  · rw [List.length_map, List.length_take]
    exact szl (by omega)
  · rw [upd_same, take_succ hj, List.map_append]
    rfl
theorem lc_mapL {a : Addr} (hs : SqL K H a xs) (hlen : xs.length ≤ 1000) (hw : ∀ x, wipe ((wipe σ vs).set i (some x)) vs = wipe σ vs)
    (hte : ∀ x ∈ xs, ∀ H' R, Ex H H' → (∀ H'', Ex H' H'' → R (f x) H'') → te ((wipe σ vs).set i (some x)) H' R) (hQ : ∀ D H', H D = none → Ex H H' → H' D = some (.lst (xs.map f)) → Q (.ref D) H') : lcB (Itl K a) (gName i) tYes te vs σ Q H := by
  intro DD hD
  refine lc_list (xs := xs) (fun j H' => Ex H H' ∧ H' DD = some (.lst ((xs.take j).map f))) ⟨Ex.new hD, upd_same⟩ (fun _ H' _ p => sqL_mono p.1 hs) (fun j x H' hj hp => lc_turn hD hlen hw hte j x H' hj hp) (fun H' p => hQ DD H' hD p.1 (by rw [p.2, List.take_length]))
theorem lc_mapT {a : Addr} (hs : SqT K H a xs) (hlen : xs.length ≤ 1000) (hw : ∀ x, wipe ((wipe σ vs).set i (some x)) vs = wipe σ vs)
    (hte : ∀ x ∈ xs, ∀ H' R, Ex H H' → (∀ H'', Ex H' H'' → R (f x) H'') → te ((wipe σ vs).set i (some x)) H' R) (hQ : ∀ D H', H D = none → Ex H H' → H' D = some (.lst (xs.map f)) → Q (.ref D) H') : lcB (Itt K a) (gName i) tYes te vs σ Q H := by
  intro DD hD
  refine lc_tup (xs := xs) (fun j H' => Ex H H' ∧ H' DD = some (.lst ((xs.take j).map f))) ⟨Ex.new hD, upd_same⟩ (fun _ H' _ p => sqT_mono p.1 hs) (fun j x H' hj hp => lc_turn hD hlen hw hte j x H' hj hp) (fun H' p => hQ DD H' hD p.1 (by rw [p.2, List.take_length]))
/-- .. over a variable that holds a list or a tuple -/
theorem lc_var {k : Nat} (hv : σ[k]? = some (some v)) (hs : Sq K H v xs) (hlen : xs.length ≤ 1000) (hw : ∀ x, wipe ((wipe σ vs).set i (some x)) vs = wipe σ vs)
    (hte : ∀ x ∈ xs, ∀ H' R, Ex H H' → (∀ H'', Ex H' H'' → R (f x) H'') → te ((wipe σ vs).set i (some x)) H' R) (hQ : ∀ D H', H D = none → Ex H H' → H' D = some (.lst (xs.map f)) → Q (.ref D) H') : iAny K (tVar k) σ H fun J H1 => lcB J (gName i) tYes te vs σ Q H1 := by
  obtain ⟨p, rfl, h | h⟩ := hs
  · exact i_anyL ⟨_, hv, p, rfl, ⟨_, h⟩, lc_mapL h hlen hw hte hQ⟩
  · exact i_anyT ⟨_, hv, p, rfl, ⟨_, h⟩, lc_mapT h hlen hw hte hQ⟩
end
/-! ### the law's own draws, the list of the script's numbers at L -/
structure Dl (H : Hp) (st L : Addr) (b : Nat) : Prop where
  ex : ∃ (ns : List Int) (a c : Int), H st = some (.lst [.ref L, .int a, .int c]) ∧ H L = some (.lst (ns.map V.int)) ∧ st ≠ L ∧ 0 ≤ c ∧ c ≤ (b : Int)
theorem Dl.up {H : Hp} {st L : Addr} {b b' : Nat} (d : Dl H st L b) (h : b ≤ b') : Dl H st L b' := by
  obtain ⟨ns, a, c, h1, h2, h3, h4, h5⟩ := d.ex
  exact ⟨ns, a, c, h1, h2, h3, h4, by omega⟩
theorem Dl.mono {H H' : Hp} {st L : Addr} {b : Nat} (d : Dl H st L b) (e : Ex H H') : Dl H' st L b := by
  obtain ⟨ns, a, c, h1, h2, h3, h4, h5⟩ := d.ex
  exact ⟨ns, a, c, e _ _ h1, e _ _ h2, h3, h4, h5⟩
/-- what is written apart from them leaves them -/
theorem Dl.put {H : Hp} {st L p : Addr} {b : Nat} {o : HO} (d : Dl H st L b) (h1 : p ≠ st) (h2 : p ≠ L) : Dl (upd H p o) st L b := by
  obtain ⟨ns, a, c, g1, g2, g3, g4, g5⟩ := d.ex
  exact ⟨ns, a, c, by rw [upd_ne h1.symm]; exact g1, by rw [upd_ne h2.symm]; exact g2, g3, g4, g5⟩
theorem Dl.ne {H : Hp} {st L p : Addr} {b : Nat} (d : Dl H st L b) (h : H p = none) : p ≠ st ∧ p ≠ L := by
  obtain ⟨ns, a, c, h1, h2, _⟩ := d.ex
  exact ⟨(ne_of_none h1 h).symm, (ne_of_none h2 h).symm⟩
def spOpenL (K : PySem.W.Frag) : Sp := fun vs H Q _ => ∃ (a : Addr) (ns : List Int), vs = [.ref a] ∧ SqL K H a (ns.map V.int) ∧ ns.length ≤ 63 ∧ ∀ (st L : Addr) (H' : Hp), H st = none → H L = none → Dl H' st L 0 → Ex H H' → Q (.ref st) H'
def spDrawL : Sp := fun vs H Q _ => ∃ (st L : Addr) (n : Int) (b : Nat), vs = [.ref st, .int n] ∧ 0 < n ∧ n ≤ 10 ^ 18 ∧ Dl H st L b ∧ b < 2 ^ 60 ∧
  ∀ (r : Int) (H' : Hp), 0 ≤ r → r < n → Dl H' st L (b + 1) → But st H H' → Q (.int r) H'
theorem drawL {st L : Addr} {n : Int} {b : Nat} {H : Hp} {Q : VK} {E : XK} (hd : Dl H st L b) (hn : 0 < n) (hn2 : n ≤ 10 ^ 18) (hb : b < 2 ^ 60) (q : ∀ r H', 0 ≤ r → r < n → Dl H' st L (b + 1) → But st H H' → Q (.int r) H') : spDrawL ([.ref st, .int n] ++ []) H Q E :=
  ⟨st, L, n, b, rfl, hn, hn2, hd, hb, q⟩
theorem But.put {st p : Addr} {H H' : Hp} {o : HO} (e : But st H H') (h : H p = none) : But st H (upd H' p o) := fun a u n ha => by
  rw [upd_ne (ne_of_none ha h)]
  exact e a u n ha
theorem But.free {st p : Addr} {H H' : Hp} (e : But st H H') (hp : p ≠ st) (h : H' p = none) : H p = none := by
  cases q : H p with
  | none => rfl
  | some o =>
    rw [e _ _ hp q] at h
    cases h
theorem Dl.ins_ne {st L p C dx : Addr} {H : Hp} {b : Nat} {fs : List (Str × V)} (d : Dl H st L b) (h : H p = some (.ins C dx fs)) : p ≠ st := by
  obtain ⟨ns, a, c, h1, _⟩ := d.ex
  intro z
  rw [z, h1] at h
  cases h
theorem sqT_dl {K : PySem.W.Frag} {H H' : Hp} {st L p : Addr} {b : Nat} {xs : List V} (d : Dl H st L b) (e : But st H H') (h : SqT K H p xs) : SqT K H' p xs := by
  obtain ⟨ns, a, c, h1, _⟩ := d.ex
  rcases h with (h | ⟨o, h⟩) | h
  · exact .inl (.inl (e _ _ (fun z => by rw [z, h1] at h; cases h) h))
  · exact .inl (.inr ⟨o, e _ _ (fun z => by rw [z, h1] at h; cases h) h⟩)
  · exact .inr h
/-! ### steps for what is new -/
section
variable {K : PySem.W.Frag} {σ : L2.St} {H : Hp} {Q : VK} {t tz : TA} {ta tb te to : TE} {D : Ends}
theorem i_mkS {C : Addr} {n m : Nat} {sp : Sp} {gV : List V → List V → List V} {E : L2.St → XK} (q : t σ H fun vs H1 => tz σ H1 fun zs H2 => vs.length = n ∧ zs.length = m ∧ ∀ x dx, H2 x = none → H2 dx = none → dx ≠ x →
  sp (gV (.ref x :: vs) zs) (upd (upd H2 dx (.own x)) x (.ins C dx [])) (fun v H3 => v = .non ∧ Q (.ref x) H3) (E σ)) : tMkS C n m sp gV E t tz σ H Q := q
theorem i_cS {n m : Nat} {sp : Sp} {gV : List V → List V → List V} {E : L2.St → XK} (q : t σ H fun vs H1 => tz σ H1 fun zs H2 => vs.length = n ∧ zs.length = m ∧ sp (gV vs zs) H2 Q (E σ)) : tCS n m sp gV E t tz σ H Q := q
theorem i_fld {f : Str} (q : ta σ H fun x H1 => ∃ a C dx fs v, x = .ref a ∧ H1 a = some (.ins C dx fs) ∧ Cls K C ∧ NoAttr K C f ∧ fs.lookup f = some v ∧ Q v H1) : tFld K ta f σ H Q := q
theorem i_sFld {f : Str} (q : tb σ H fun y H1 => ta σ H1 fun x H2 => ∃ a C dx fs, x = .ref a ∧ H2 a = some (.ins C dx fs) ∧ Cls K C ∧ NoAttr K C f ∧ fs.length < 1000 ∧ D.nx σ (upd H2 a (.ins C dx (putF f y fs)))) : sFld K ta tb f D σ H := q
theorem i_tX {C : Addr} {f : Str} {QX : XK} (q : t σ H fun vs H1 => ∃ v, vs = [v] ∧ ∀ d, H1 d = none → QX (.ref C) (some d) (upd H1 d (.xd [(f, v)]))) : tX C f t σ H QX := q
theorem l_len2 {vs zs : List V} {n m : Nat} {R : Prop} (h1 : vs.length = n) (h2 : zs.length = m) (q : R) : vs.length = n ∧ zs.length = m ∧ R := ⟨h1, h2, q⟩
end
end G
set_option Elab.async false
set_option linter.all false
set_option maxRecDepth 100000
namespace G
open PySem PySem.Spec PyProof.Rows L2
theorem l_addL {K : PySem.W.Frag} {H : Hp} {a b : Addr} {xs ys : List V} {Q : VK} (h1 : H a = some (.lst xs)) (h2 : H b = some (.lst ys)) (hl : xs.length + ys.length ≤ 100000) (q : ∀ p, H p = none → Q (.ref p) (upd H p (.lst (xs ++ ys)))) : rAdd K (.ref a) (.ref b) H Q :=
  .inl ⟨a, b, xs, ys, rfl, rfl, h1, h2, sz hl, q⟩
theorem cut_map {α : Type} (f : α → V) (ns : List α) (lo hi : Option Int) : ∃ A : List α, cutV (ns.map f) lo hi = A.map f ∧ (∀ n ∈ A, n ∈ ns) ∧ A.length ≤ ns.length := by
  refine ⟨_, cutV_map f ns lo hi, fun n hn => List.mem_of_mem_drop (List.mem_of_mem_take hn), ?_⟩
  rw [List.length_take, List.length_drop]
  omega
theorem cut_lo (xs : List V) (k : Nat) (h : k ≤ xs.length) : cutV xs none (some (k : Int)) = xs.take k := by
  unfold cutV
  rw [HT.sIx_none, HT.sIx_nat, Nat.min_eq_left h, List.drop_zero, Nat.sub_zero]
theorem cut_hi (xs : List V) (k : Nat) (h : k ≤ xs.length) : cutV xs (some (k : Int)) none = xs.drop k := by
  unfold cutV
  rw [HT.sIx_none, HT.sIx_nat, Nat.min_eq_left h, List.take_of_length_le]
  rw [List.length_drop]
  exact Nat.le_refl _
/-! ### a dict of the written part, its keys texts -/
/-- at d: a written dict; m z: what stands at the key z -/
structure Wd (K : PySem.W.Frag) (w : World) (d : Addr) (m : Str → Option V) : Prop where
  ex : ∃ (es : Array DictEntry) (n : Nat), K.lookup d = some ⟨.type "dict", none, .dict es n, #[]⟩ ∧ PySem.W.KeysLit w.params es.toList ∧ (d == sysModules) = false ∧ ∀ z, RelO (m z) (findBy Value.isStrOf es z)
theorem wd_find : ∀ {es : List DictEntry} {kvs : List (Str × V)}, Paired (fun (e : DictEntry) (kv : Str × V) => (∃ t, e.key = .str kv.1 t) ∧ RelV kv.2 e.val) es kvs → ∀ z, RelO (kvs.lookup z) ((es.find? fun e => Value.isStrOf z e.key).map (·.val))
  | _, _, .nil, z => True.intro
  | e :: es, kv :: kvs, .cons ⟨⟨t, h1⟩, h2⟩ r, z => by
    obtain ⟨k, v⟩ := kv
    rw [lookup_put, List.find?_cons, h1]
    by_cases hz : z = k
    · subst hz
      rw [if_pos rfl, show Value.isStrOf z (.str z t) = true from beq_self_eq_true z]
      exact h2
    · rw [if_neg hz, show Value.isStrOf z (.str k t) = false from ?_]
      · exact wd_find r z
      · exact beq_eq_false_iff_ne.mpr fun e => hz e.symm
theorem wd_mk {K : PySem.W.Frag} {w : World} {d : Addr} {kvs : List (Str × V)} {es : List DictEntry} {n : Nat} (hl : K.lookup d = some ⟨.type "dict", none, .dict es.toArray n, #[]⟩) (hk : PySem.W.KeysLit w.params es) (hs : (d == sysModules) = false)
    (hp : Paired (fun (e : DictEntry) (kv : Str × V) => (∃ t, e.key = .str kv.1 t) ∧ RelV kv.2 e.val) es kvs) : Wd K w d (fun z => kvs.lookup z) :=
  ⟨es.toArray, n, hl, hk, hs, fun z => by unfold findBy; rw [List.find?_toArray]; exact wd_find hp z⟩
section
variable {X : Cx} {d : Addr} {m : Str → Option V}
theorem wd_in (D : Wd X.K X.w d m) : OpR X (compareOp .In) (fun x y H Q => ∃ z : Str, x = .str z ∧ y = .ref d ∧ Q (.bl (m z).isSome) H) := by
  intro pins s σ H x y v u Q I rx ry h
  obtain ⟨es, n, h1, h2, h3, h4⟩ := D.ex
  obtain ⟨z, rfl, rfl, q⟩ := h
  obtain ⟨t, rfl⟩ := rx
  cases ry
  refine wpAny_in_of (PySem.strKind_is X.prog X.w z t) h3 (PySem.W.mapOf_K (prog := X.prog) I.kIn h1 h2) ?_
  rw [← (h4 z).isSome_eq]
  exact ⟨.bl _, H, I.tok _, rfl, q⟩
theorem wd_notIn (D : Wd X.K X.w d m) : OpR X (compareOp .NotIn) (fun x y H Q => ∃ z : Str, x = .str z ∧ y = .ref d ∧ Q (.bl (!(m z).isSome)) H) := by
  intro pins s σ H x y v u Q I rx ry h
  obtain ⟨es, n, h1, h2, h3, h4⟩ := D.ex
  obtain ⟨z, rfl, rfl, q⟩ := h
  obtain ⟨t, rfl⟩ := rx
  cases ry
  refine wpAny_notIn_of (PySem.strKind_is X.prog X.w z t) h3 (PySem.W.mapOf_K (prog := X.prog) I.kIn h1 h2) ?_
  rw [← (h4 z).isSome_eq]
  exact ⟨.bl _, H, I.tok _, rfl, q⟩
theorem wd_ix (D : Wd X.K X.w d m) : IxR X (fun x y H Q => ∃ z v, x = .ref d ∧ y = .str z ∧ m z = some v ∧ Q v H) := by
  intro value slice pins s σ H x y v u Q I rx ry h hs
  obtain ⟨es, n, h1, h2, h3, h4⟩ := D.ex
  obtain ⟨z, r, rfl, rfl, e, q⟩ := h
  obtain rfl : v = Value.ref d := rx
  obtain ⟨t, rfl⟩ := ry
  have hm := PySem.W.mapOf_K (prog := X.prog) (w := X.w) I.kIn h1 h2
  have h5 := h4 z
  rw [e] at h5
  obtain ⟨u0, hu, ru⟩ := RelO.some_of h5
  exact tail_any hm.typeIs slot_dict_getitem.lookup (wpAny_getItem_of (strKind_is X.prog X.w z t) hm hu ⟨r, H, I.tok _, ru, q⟩) hs
/-- d.get(y, x) -/
def tWget (d : Addr) (m : Str → Option V) (td ty tx : TE) : TE := fun σ H Q => td σ H fun x H1 => x = .ref d ∧ ty σ H1 fun y H2 => tx σ H2 fun z H3 => ∃ k : Str, y = .str k ∧ Q ((m k).getD z) H3
theorem pe_wget {o e f : Expr} {td ty tx : TE} {apos cpos : Pos} (D : Wd X.K X.w d m) (ho : PE X o td) (he : PE X e ty) (hf : PE X f tx) (mm : M2 X o "get" apos e f cpos) : PE X (.Call (.Attribute o "get" apos) [e, f] [] cpos) (tWget d m td ty tx) := by
  obtain ⟨es, n, h1, h2, h3, h4⟩ := D.ex
  refine ⟨fun pins s σ H Q I h => ?_⟩
  refine wpAny_Call_method mm.base mm.few mm.line PySem.F.plainAttrs_dict PySem.F.slot_dict_get PySem.F.type_dict_get (thn (ho.run pins s σ H _ I h) fun u s1 ⟨x, H1, I1, rx, ex, q1⟩ => ?_)
  subst ex
  obtain rfl : u = Value.ref d := rx
  refine ⟨(PySem.W.mapOf_K (prog := X.prog) (w := X.w) I1.kIn h1 h2).typeIs, fun b q => ?_, ?_⟩
  · cases q
    exact ⟨_, I1.kIn _ _ h1, rfl⟩
  rw [mm.trees]
  refine Calls.callWith_builtin rfl (Calls.evalArgs_plain (Calls.spliced_cons (thn (he.run pins s1 σ H1 _ I1 q1) fun iv s2 ⟨y, H2, I2, ry, q2⟩ =>
    Calls.spliced_cons (thn (hf.run pins s2 σ H2 _ I2 q2) fun fv s3 ⟨z, H3, I3, rz, k, ek, q3⟩ => Calls.spliced_nil ?_))))
  subst ek
  obtain ⟨t, rfl⟩ := ry
  have hm := PySem.W.mapOf_K (prog := X.prog) (w := X.w) I3.kIn h1 h2
  exact call_meetsIn PySem.F.slot_dict_get hm.typeIs PySem.F.entry_dict_get (PySem.F.args_dict_get_3 _ _ _) (meets_dict_get_default (strKind X.prog X.w) d (strKind_is X.prog X.w k t) h3 fv) ⟨_, hm, ⟨_, H3, I3.tok _, (h4 k).getD rz, q3⟩⟩
end
/-! ### a text so many times -/
def rMulS : R2 := fun x y H Q => ∃ z n, x = .str z ∧ y = .int n ∧ MulOk z n ∧ Q (.str (Txt.mul z n)) H
theorem gMulS {X : Cx} : OpR X (binaryOp .Mult) rMulS := by
  intro pins s σ H x y v u Q I rx ry h
  obtain ⟨z, n, rfl, rfl, hok, q⟩ := h
  obtain ⟨t, rfl⟩ := rx
  obtain ⟨t', rfl⟩ := ry
  exact SB.mul hok fun t' k => ⟨.str (Txt.mul z n), H, I.tok _, ⟨_, rfl⟩, q⟩
end G
set_option Elab.async false
set_option linter.all false
set_option maxRecDepth 100000
namespace G
open PySem PySem.Spec PyProof.Rows L2
section
variable {X : Cx} {g : Bool} {k j : Nat} {f C : Addr} {fd : FuncData} {ps : List Str} {sp : Sp} {ds : List Value} {dvs : List V} {E : L2.St → XK} {pins : List (Addr × Obj)} {σ : L2.St} {H : Hp} {s : Shared} {Q : VK}
/-- a call's code, from around A1 -/
theorem code_at {A1 : Around} {us : List Value} {vs : List V} {R : Result → Shared → Prop} (F : Fg X.prog X.w X.K X.mg X.base g k f fd ps sp) (hr : Room k A1) (hg : g = true → A1.guards = some []) (hf : A1.frames = X.A.frames) (hb : Binds X.K fd ps ds) (hd : Vals dvs ds)
    (hx : PassesAt (L2.CX X.prog X.w) X σ (E σ)) (I : Inv X pins σ H s) (r : Vals vs us) (h : sp (vs ++ dvs) H Q (E σ)) (ok : ∀ u s', EP X pins σ Q u s' → R (.ok (.ret u)) s') (er : ∀ e s', X.xe e s' → R (.error e) s') :
    codeAny (model X.prog X.w) A1 (.call (.ref f) ⟨us, []⟩) R s := by
  have e := I.env0
  have e0 : Env0 X.prog X.w X.K X.mg X.base A1 X.stack s H := ⟨by rw [hf]; exact e.frames, e.mod, e.bs, e.bsz, e.funs, e.frf, e.hok, e.bare⟩
  have r2 := Vals.append r hd
  have hl : (us ++ ds).length = ps.length := by rw [← r2.length]; exact F.len _ _ _ _ h
  refine codeAny_mono (F.go A1 X.stack s H ⟨us, []⟩ _ _ Q (E σ) hr hg e0 (hb s us I.kIn hl) r2 h) fun r s' hq => ?_
  cases r with
  | error e => exact er e s' (hx pins H s e s' I hq)
  | ok fl =>
    cases fl with
    | ret u => exact ok u s' (I.after hq)
    | next => exact False.elim hq
    | brk => exact False.elim hq
    | cont => exact False.elim hq
end
/-! ### a property, read and set -/
structure PrpG (P : Program) (w : World) (K : PySem.W.Frag) (mg : Str → Option Value) (base : Heap) (k : Nat) (C : Addr) (f : Str) (sp : Sp) : Prop where
  ex : ∃ (p g : Addr) (fd : FuncData), Cls K C ∧ PropOf K C f p g ∧ FnOk P w K mg base CX0 k g fd ["self"] sp ∧ Binds K fd ["self"] []
/-- the property's record, its getter and its setter -/
structure Dp1 (K : PySem.W.Frag) (C : Addr) (f qual : Str) (st : Stmt) : Prop where
  ex : ∃ (p g : Addr) (fd : FuncData), Cls K C ∧ PropOf K C f p g ∧ Fun K f qual st g fd ∧ Binds K fd ["self"] []
structure Dp2 (K : PySem.W.Frag) (C : Addr) (f qual : Str) (st : Stmt) (ps : List Str) : Prop where
  ex : ∃ (p g : Addr) (fd : FuncData) (a : Value) (rest : List Value), Cls K C ∧ PySem.W.takerIn K C f = some (some (.ref p)) ∧ PySem.W.typeIn K (.ref p) = some (.type "property") ∧ PySem.W.recIn K p "property" = some (a :: .ref g :: rest) ∧ Fun K f qual st g fd ∧ Binds K fd ps []
structure StpG (P : Program) (w : World) (K : PySem.W.Frag) (mg : Str → Option Value) (base : Heap) (k : Nat) (C : Addr) (f : Str) (sp : Sp) (ps : List Str) : Prop where
  ex : ∃ (p g : Addr) (fd : FuncData) (a : Value) (rest : List Value), Cls K C ∧ PySem.W.takerIn K C f = some (some (.ref p)) ∧ PySem.W.typeIn K (.ref p) = some (.type "property") ∧ PySem.W.recIn K p "property" = some (a :: .ref g :: rest) ∧ Fg P w K mg base false k g fd ps sp ∧ Binds K fd ps []
def sStp (C : Addr) (sp : Sp) (E : L2.St → XK) (ta tv : TE) : TS := fun D σ H => tv σ H fun y H1 => ta σ H1 fun x H2 => ∃ a dx fs, x = .ref a ∧ H2 a = some (.ins C dx fs) ∧ sp [.ref a, y] H2 (fun _ H3 => D.nx σ H3) (E σ)
section
variable {P : Program} {w : World} {K : PySem.W.Frag} {mg : Str → Option Value} {base : Heap} {k : Nat} {C : Addr} {f qual : Str} {st : Stmt} {N ps : List Str} {sp : Sp}
theorem Dp1.prp (F : Dp1 K C f qual st) (S : FnScope N ["self"] (defScope st)) (len : ∀ vs H Q E, sp vs H Q E → vs.length = 1)
    (hbody : ∀ (fa : Addr) (cdv : Value) (A : Around) (outer : List Env) (s : Shared) (H : Hp) (vs : List V) (Q : VK) (E : XK), Room k (A.deeper (envOfC qual (defScope st) s.heap.objs.size fa cdv)) → sp vs H Q E →
      ∃ t, PSs (cxOf CX0 P w K mg base N qual (defScope st) fa cdv A outer s H E).nox (defBody st) t ∧ t { nx := fun _ H' => Q .non H', rt := Q } (start N vs) H) : PrpG P w K mg base (k + 1) C f sp := by
  obtain ⟨p, g, fd, c, hp, F1, b⟩ := F.ex
  exact ⟨p, g, fd, c, hp, F1.ok S len (hbody g), b⟩
theorem Dp2.stp (F : Dp2 K C f qual st ps) (S : FnScope N ps (defScope st)) (len : ∀ vs H Q E, sp vs H Q E → vs.length = ps.length) (hbody : ∀ f, BodyX P w K mg base false k N qual st f sp) : StpG P w K mg base (k + 1) C f sp ps := by
  obtain ⟨p, g, fd, a, rest, c, h1, h2, h3, F1, b⟩ := F.ex
  exact ⟨p, g, fd, a, rest, c, h1, h2, h3, fg_of F1 S len (hbody g), b⟩
end
section
variable {X : Cx} {k j : Nat} {C : Addr} {f : Str} {sp : Sp} {ps : List Str} {W : WX} {e o value : Expr} {ta tv te : TE} {pos pos' : Pos}
theorem pe_prp (c : PrpG X.prog X.w X.K X.mg X.base k C f sp) (hr : Room j X.A) (hk : k + 1 ≤ j) (he : PE X e ta) (hab : attributeBase e f X.env (eval e X.env) = eval e X.env := by rfl) : PE X (.Attribute e f pos) (tProp C sp [] (fun _ _ _ => False) ta) := by
  obtain ⟨p, g, fd, hc, hp, F, b⟩ := c.ex
  exact pe_prop he hc hp F (hr.mono hk) b .nil (fun _ _ _ _ _ _ _ z => (show False from z).elim) hab
theorem ps_stp (c : StpG X.prog X.w X.K X.mg X.base k C f sp ps) (hr : Room j X.A) (hk : k + 2 ≤ j) (tk : Takes X W) (ha : PE X o ta) (hv : PE X value tv) (hs : swapsWith value (some (.Attribute o f pos')) pos.line X.env = pure false) : PS X (.Assign [.Attribute o f pos'] value pos) (sStp C sp (WE W) ta tv) := by
  obtain ⟨p, g, fd, av, rest, hc, h1, h2, h3, F, b⟩ := c.ex
  refine ⟨fun pins s σ H D I h => plainObj_wpAny_Assign_Attribute (thn (hv.run pins s σ H _ I h) fun u s1 ⟨y, H1, I1, ry, q⟩ => thn (ha.run pins s1 σ H1 _ I1 q) fun ov s2 ⟨x, H2, I2, rx, a, dx, fs, ex, ea, q2⟩ => ?_) hs⟩
  subst ex
  obtain rfl : ov = Value.ref a := rx
  obtain ⟨mA, O, _⟩ := ins_get I2.hok ea
  obtain ⟨od, J, _⟩ := O.look
  obtain ⟨m', hF⟩ := I2.fr
  refine PySem.W.set_prop hF I2.ok.mod.kin J hc.sa hc.po h1 h2 h3 ?_
  exact code_at (ds := []) (dvs := []) (us := [.ref a, u]) (vs := [.ref a, y]) F (hr.mono hk).in1.in1 (fun e => nomatch e) rfl b .nil (passAt tk σ) (I2.tok _) (.cons rfl (.cons ry .nil)) q2 (fun u' s' ⟨v', H', I', r', q'⟩ => ⟨σ, H', I', q'⟩) fun _ _ z => z
/-! ### x += e by x's __iadd__ -/
def sIad (i : Nat) (C : Addr) (sp : Sp) (E : L2.St → XK) (te : TE) : TS := fun D σ H => ∃ v, σ[i]? = some (some v) ∧ te σ H fun y H1 => ∃ a dx fs, v = .ref a ∧ H1 a = some (.ins C dx fs) ∧ sp [.ref a, y] H1 (fun z H2 => D.nx (σ.set i (some z)) H2) (E σ)
theorem ps_iad {i : Nat} {x : Str} (c : MetG X.prog X.w X.K X.mg X.base false k C "__iadd__" sp ps) (hs : PySem.W.selfFirst X.K C = true) (hr : Room j X.A) (hk : k ≤ j) (tk : Takes X W) (hN : X.N.Nodup) (hi : X.N[i]? = some x) (hx : Loc X.env.scope x) (he : PE X e te)
    (hf : X.fn x = true ∨ X.env.scope.names.lookup x = some .local := by first | exact .inl rfl | exact .inr rfl | assumption) : PS X (.AugAssign (.Name x pos') .Add e pos) (sIad i C sp (WE W) te) := by
  obtain ⟨f, fd, hc, M, hfn, F, b⟩ := c.ex
  refine ⟨fun pins s σ H D I h => ?_⟩
  obtain ⟨v, e1, h⟩ := h
  obtain ⟨m, hn, hl⟩ := I.loc
  obtain ⟨u, r, l⟩ := hl i x v hi e1 (hx.elim (fun z => .inl z) fun z => .inr (.inl z))
  refine wpAny_AugAssign_Name ?_
  have go : wpAny (model X.prog X.w) X.A (eval e X.env) (fun w2 s₂ => wpAny (model X.prog X.w) X.A (inplaceOp .Add u w2) (fun r s₃ => wpAny (model X.prog X.w) X.A (storeName X.env x r) (fun _ => SP X pins D .next) X.xe s₃) X.xe s₂) X.xe s := by
    refine thn (he.run pins s σ H _ I h) fun w2 s1 ⟨y, H1, I1, r1, a, dx, fs, ex, ea, q1⟩ => ?_
    subst ex
    obtain rfl : u = Value.ref a := r
    obtain ⟨mA, O, _⟩ := ins_get I1.hok ea
    obtain ⟨od, J, _⟩ := O.look
    obtain ⟨m', hF⟩ := I1.fr
    refine PySem.W.ksp_inplace hF I1.ok.mod.kin J hs M.at_ M.fn ?_
    refine wpAny_mono (run_at (dvs := []) (ds := []) (A1 := X.A) (vs := [.ref a, y]) F (hr.mono hk) (fun e => nomatch e) rfl b .nil (passAt tk σ) I1 (.cons rfl (.cons r1 .nil)) q1) (fun u' s' ⟨v', H', I', r', q'⟩ => ?_) fun _ _ z => z
    exact cmpBack r' (store_ok I' hN hi hx r' (fun s3 I3 => ⟨_, H', I3, q'⟩) hf)
  rcases l with ⟨hk, hm⟩ | ⟨hk, c, hc, hcell⟩
  · exact wpAny_loadName_local I.ok.kind hk hn hm go
  · rcases hk with hk | hk
    · exact wpAny_loadName_cell I.ok.kind hk hc hcell go
    · rcases hx with k | k
      all_goals
        have z : X.env.scope.names.lookup x = some .free := hk
        rw [k] at z
        cases z
/-! ### f(), f an instance -/
structure CloG (P : Program) (w : World) (K : PySem.W.Frag) (mg : Str → Option Value) (base : Heap) (k : Nat) (C : Addr) (sp : Sp) : Prop where
  ex : ∃ (g : Addr) (fd : FuncData), StX.CallO K C g ∧ Fg P w K mg base false k g fd ["self"] sp ∧ Binds K fd ["self"] []
def tCO (C : Addr) (sp : Sp) (E : L2.St → XK) (tf : TE) : TE := fun σ H Q => tf σ H fun y H1 => ∃ a dx fs, y = V.ref a ∧ H1 a = some (.ins C dx fs) ∧ sp [V.ref a] H1 Q (E σ)
theorem pe_cO {fe : Expr} {tf : TE} (c : CloG X.prog X.w X.K X.mg X.base k C sp) (hr : Room j X.A) (hk : k ≤ j) (tk : Takes X W) (hf : PE X fe tf)
    (ht : eval (.Call fe [] [] pos) X.env = (do callWith pos (← eval fe X.env) [] (backTo pos (starEach [] X.env)) (backToKw pos (keywordEach [] X.env))) := by rfl) : PE X (.Call fe [] [] pos) (tCO C sp (WE W) tf) := by
  obtain ⟨g, fd, hc, F, b⟩ := c.ex
  refine ⟨fun pins s σ H Q I h => Call_ (thn (hf.run pins s σ H _ I h) fun u s1 ⟨y, H1, I1, ry, a, dx, fs, ey, ha, q⟩ => ?_) ht⟩
  subst ey
  obtain rfl : u = Value.ref a := ry
  obtain ⟨ox, od, J, hd⟩ := StX.insC_at (X := X) I1 (.inr ⟨dx, fs, ha⟩)
  refine StX.callO_of (args := []) rfl (evalArgs_nil3 ⟨⟨C, ox, od, J, hd⟩, ?_⟩)
  refine wpAny_call (PySem.W.kco_code I1.kIn J hd hc.at_ hc.fn hc.fi ?_)
  exact code_at (ds := []) (dvs := []) (us := [.ref a]) (vs := [.ref a]) F (hr.mono hk) (fun e => nomatch e) rfl b .nil (passAt tk σ) I1 (.cons rfl .nil) q (fun u' s' z => z) fun _ _ z => z
theorem MetG.clo {P : Program} {w : World} {K : PySem.W.Frag} {mg : Str → Option Value} {base : Heap} (c : MetG P w K mg base false k C "__call__" sp ["self"]) : CloG P w K mg base k C sp := by
  obtain ⟨f, fd, hc, M, hf, F, b⟩ := c.ex
  exact ⟨f, fd, ⟨M.at_, M.fn, hf⟩, F, b⟩
end
theorem kRev {X : Cx} {K : PySem.W.Frag} {e : Expr} {te : TE} {k : Nat} {p1 p2 p3 pos : Pos} (hK : X.K = K) (he : PE X e te) : PE X (.Subscript e (.Slice none none (some (.UnaryOp .USub (.Constant (.int 1) k p1) p2)) p3) pos) (tRevL K te) := by subst hK; exact pe_revL he
/-! steps -/
section
variable {K : PySem.W.Frag} {σ : L2.St} {H : Hp} {Q : VK} {ta tv te tf : TE} {D : Ends} {C : Addr} {sp : Sp} {E : L2.St → XK}
theorem i_stp (q : tv σ H fun y H1 => ta σ H1 fun x H2 => ∃ a dx fs, x = .ref a ∧ H2 a = some (.ins C dx fs) ∧ sp [.ref a, y] H2 (fun _ H3 => D.nx σ H3) (E σ)) : sStp C sp E ta tv D σ H := q
theorem i_iad {i : Nat} {v : V} (hv : σ[i]? = some (some v)) (q : te σ H fun y H1 => ∃ a dx fs, v = .ref a ∧ H1 a = some (.ins C dx fs) ∧ sp [.ref a, y] H1 (fun z H2 => D.nx (σ.set i (some z)) H2) (E σ)) : sIad i C sp E te D σ H := ⟨v, hv, q⟩
theorem i_cO (q : tf σ H fun y H1 => ∃ a dx fs, y = V.ref a ∧ H1 a = some (.ins C dx fs) ∧ sp [V.ref a] H1 Q (E σ)) : tCO C sp E tf σ H Q := q
theorem i_prp {dvs : List V} {E : XK} (q : ta σ H fun x H1 => ∃ a dx fs, x = .ref a ∧ H1 a = some (.ins C dx fs) ∧ sp (.ref a :: dvs) H1 Q E) : tProp C sp dvs E ta σ H Q := q
theorem i_mtS {m : Str} {t : TA} (q : ta σ H fun x H1 => ∃ a dx fs, x = .ref a ∧ H1 a = some (.ins C dx fs) ∧ fs.lookup m = none ∧ t σ H1 fun vs H2 => sp (.ref a :: vs) H2 Q (E σ)) : tMtS C m sp E ta t σ H Q := q
theorem i_fldaug {f : Str} {rd : V → V → Hp → VK → Prop} (q : ta σ H fun x H1 => ∃ a C dx fs v, x = .ref a ∧ H1 a = some (.ins C dx fs) ∧ Cls K C ∧ NoAttr K C f ∧ fs.lookup f = some v ∧
  tv σ H1 fun y H2 => rd v y H2 fun z H3 => ∃ dx' fs', H3 a = some (.ins C dx' fs') ∧ fs'.length < 1000 ∧ D.nx σ (upd H3 a (.ins C dx' (putF f z fs')))) : sFldAug K ta tv rd f D σ H := q
theorem i_par {i j : Nat} {t : TA} (q : t σ H fun vs H1 => ∃ v w, vs = [v, w] ∧ D.nx ((σ.set i (some v)).set j (some w)) H1) : tPar i j t D σ H := q
theorem i_par3 {i j l : Nat} {t : TA} (q : t σ H fun vs H1 => ∃ u v w, vs = [u, v, w] ∧ D.nx (((σ.set i (some u)).set j (some v)).set l (some w)) H1) : tPar3 i j l t D σ H := q
theorem i_revL (q : te σ H fun x H1 => ∃ a xs, x = .ref a ∧ SqL K H1 a xs ∧ ∀ p, H1 p = none → Q (.ref p) (upd H1 p (.lst xs.reverse))) : tRevL K te σ H Q := q
theorem l_slT {a : Addr} {xs : List V} {lo hi : Option Int} (h : SqT K H a xs) (q : ∀ p H', G.Ex H H' → SqT K H' p (cutV xs lo hi) → Q (.ref p) H') : rSlG K (.ref a) lo hi H Q := by
  refine .inr ⟨a, xs, rfl, h, fun ⟨h1, h2⟩ => q a H (Ex.refl H) ?_, fun _ p hp => q p _ (Ex.new hp) (.of upd_same)⟩
  rw [show cutV xs lo hi = xs by unfold cutV; rw [h1, h2, List.drop_zero, Nat.sub_zero, List.take_length]]
  exact h
theorem cut_take (xs : List V) (k : Nat) : cutV xs none (some (k : Int)) = xs.take k := by
  unfold cutV
  rw [HT.sIx_none, HT.sIx_nat, List.drop_zero, Nat.sub_zero, List.take_eq_take_iff]
  omega
end
end G
set_option Elab.async false
set_option linter.all false
set_option maxRecDepth 100000
namespace G
open PySem PySem.Spec PyProof.Rows L2
/-! ### for i, (x, y) in enumerate(zip(s, t)), s and t tuples -/
section
variable {prog : Program} {w : World} {A : Around} {E : Value → Shared → Prop} {s : Shared}
abbrev IsZp (h : Heap) (zz ti to : Addr) (f0 : Value) (f1 : Bool) : Prop :=
  h.get? zz = some { cls := .type "zip", dict := none, data := .fields #[f0, .bool f1, .bool false, .ref ti, .ref to], slots := #[] }
/-- nothing was given out, or the tuple at some place -/
def F0 (v : Value) : Prop := v = .none ∨ ∃ T : Addr, v = rawInt T
theorem dead_none {a : Addr} {Q : Option Obj → Shared → Prop} (ho : s.heap.get? a = none) (h : Q none s) : wpAny (model prog w) A (loadIfAlive a) Q E s := by
  have h' : Q (s.heap.get? a) s := by
    rw [ho]
    exact h
  exact fun _ _ _ => h'
theorem zp_own {zz ti to : Addr} {f0 : Value} {f1 : Bool} {Q : Bool → Shared → Prop} (hz : IsZp s.heap zz ti to f0 f1) (hf : F0 f0) (k1 : Q true s)
    (k2 : ∀ h' f, IsZp h' zz ti to f0 f → Heap.SameBut zz s.heap h' → Q false { s with heap := h' }) : wpAny (model prog w) A (Builtin.SmallTypes.ownedTupleIsFree (.ref zz)) Q E s := by
  unfold Builtin.SmallTypes.ownedTupleIsFree
  refine wpAny_bind (wpAny_field hz rfl (x := f0) rfl ?_)
  rcases hf with rfl | ⟨T, rfl⟩
  · exact wpAny_pure k1
  · show wpAny _ _ (loadIfAlive ((T : Int).toNat) >>= _) _ _ _
    rw [Int.toNat_natCast]
    cases hT : s.heap.get? T with
    | none =>
      refine wpAny_bind (dead_none hT ?_)
      exact wpAny_pure k1
    | some oT =>
      refine wpAny_bind (PySem.W.kdx_alive hT ?_)
      simp only [Option.isNone_some, Bool.false_eq_true, if_false]
      refine wpAny_bind (wpAny_field hz rfl (x := .bool f1) rfl ?_)
      cases f1 with
      | true =>
        rw [if_neg (show ¬ ((Value.bool true != Value.bool true) = true) from fun h => Bool.noConfusion h)]
        exact wpAny_pure (k2 s.heap true hz (Heap.SameBut.refl _ _))
      | false =>
        rw [if_pos (show (Value.bool false != Value.bool true) = true by rfl)]
        exact wpAny_bind (wpAny_setField_rec hz (by simp) fun h9 hz9 hs9 => wpAny_pure (k2 h9 true hz9 hs9))
theorem zp_item {zz ti to i1 i2 l1 l2 : Addr} {f0 : Value} {f1 : Bool} {k : Nat} {xs ys : Array Value} {x y a b : Value} {Q : Value → Shared → Prop} (D : ZipApart zz ti to i1 i2 l1 l2) (hz : IsZp s.heap zz ti to f0 f1) (hf : F0 f0)
    (hti : IsPair s.heap ti (.ref i1) (.ref i2)) (hto : IsPair s.heap to a b) (h1 : s.heap.IsTupleIter i1 l1 k) (h2 : s.heap.IsTupleIter i2 l2 k) (hl1 : s.heap.IsTuple l1 xs) (hl2 : s.heap.IsTuple l2 ys) (hx : xs[k]? = some x) (hy : ys[k]? = some y)
    (hQ : ∀ h' g0 g1, F0 g0 → IsZp h' zz ti to g0 g1 → (∃ u v, IsPair h' to u v) → h'.IsTupleIter i1 l1 (k + 1) → h'.IsTupleIter i2 l2 (k + 1) → IsPair h' s.heap.objs.size x y → h'.objs.size = s.heap.objs.size + 1 →
      (∀ c o, c ≠ zz → c ≠ to → c ≠ i1 → c ≠ i2 → s.heap.get? c = some o → h'.get? c = some o) → Q (.ref s.heap.objs.size) { s with heap := h' }) :
    wpAny (model prog w) A (Builtin.«zip.__next__» ⟨[.ref zz], []⟩) (fun fin s' => ∃ v, fin = .done (.ret v) ∧ Q v s') E s := by
  show wpAny _ _ (field (.ref zz) 2 >>= _) _ _ _
  refine wpAny_bind (wpAny_field hz rfl (x := .bool false) rfl ?_)
  show wpAny _ _ (field (.ref zz) 3 >>= _) _ _ _
  refine wpAny_bind (wpAny_field hz rfl (x := .ref ti) rfl ?_)
  refine wpAny_bind (wpAny_seqItems hti rfl ?_)
  show wpAny _ _ (Builtin.SmallTypes.ownedTupleIsFree (.ref zz) >>= _) _ _ _
  refine wpAny_bind (zp_own hz hf ?_ fun m1 f9 z1 s1 => ?_)
  · simp only [if_true]
    refine wpAny_bind (wpAny_rule ?_)
    refine wpAny_bind (wpAny_field hz rfl (x := .ref to) rfl ?_)
    refine wpAny_bind (wpAny_setField_rec hz (by simp) fun m1 z1 s1 => ?_)
    replace z1 : IsZp m1 zz ti to .ellipsis f1 := z1
    refine wpAny_bind ?_
    simp only [List.zipIdx_cons, List.zipIdx_nil, List.forIn_cons, List.forIn_nil]
    refine wpAny_bind (wpAny_bind (wpAny_onRaise ?_))
    show wpAny _ _ (Builtin.SmallTypes.nextOf (.ref i1) >>= _) _ _ _
    refine wpAny_bind (RZ.nextOf_tuple_item (h1.extBut s1.extBut D.i1z) (hl1.extBut s1.extBut D.l1z) hx fun m2 a2 s2 => wpAny_pure ?_)
    have t2 : IsPair m2 to a b := s2.extBut _ _ D.TOi1 (s1.extBut _ _ D.TOz hto)
    refine wpAny_bind (wpAny_seqItems t2 rfl ?_)
    refine wpAny_bind (wpAny_updateSeq_pair t2 fun m3 t3 s3 => ?_)
    replace t3 : IsPair m3 to x b := t3
    refine wpAny_bind (wpAny_letGo (wpAny_pure ?_))
    refine wpAny_bind (wpAny_bind (wpAny_onRaise ?_))
    show wpAny _ _ (Builtin.SmallTypes.nextOf (.ref i2) >>= _) _ _ _
    refine wpAny_bind (RZ.nextOf_tuple_item (((h2.extBut s1.extBut D.i2z).extBut s2.extBut D.i12.symm).extBut s3.extBut D.TOi2.symm)
      (((hl2.extBut s1.extBut D.l2z).extBut s2.extBut D.l2i1).extBut s3.extBut D.l2TO) hy fun m4 b4 s4 => wpAny_pure ?_)
    have t4 : IsPair m4 to x b := s4.extBut _ _ D.TOi2 t3
    refine wpAny_bind (wpAny_seqItems t4 rfl ?_)
    refine wpAny_bind (wpAny_updateSeq_pair t4 fun m5 t5 s5 => ?_)
    replace t5 : IsPair m5 to x y := t5
    refine wpAny_bind (wpAny_letGo (wpAny_pure (wpAny_pure ?_)))
    refine wpAny_bind (wpAny_seqItems t5 rfl ?_)
    refine wpAny_bind (wpAny_newTuple ?_)
    have hsz : m5.objs.size = s.heap.objs.size := by rw [s5.1, s4.1, s3.1, s2.1, s1.1]
    have z5 : IsZp m5 zz ti to .ellipsis f1 := s5.extBut _ _ D.TOz.symm (s4.extBut _ _ D.i2z.symm (s3.extBut _ _ D.TOz.symm (s2.extBut _ _ D.i1z.symm z1)))
    have k5 : ∀ c o, c ≠ zz → c ≠ to → c ≠ i1 → c ≠ i2 → s.heap.get? c = some o → m5.get? c = some o := fun c o c1 c2 c3 c4 e =>
      s5.extBut _ _ c2 (s4.extBut _ _ c4 (s3.extBut _ _ c2 (s2.extBut _ _ c3 (s1.extBut _ _ c1 e))))
    have a5 : m5.IsTupleIter i1 l1 (k + 1) := ((a2.extBut s3.extBut D.TOi1.symm).extBut s4.extBut D.i12).extBut s5.extBut D.TOi1.symm
    have b5 : m5.IsTupleIter i2 l2 (k + 1) := b4.extBut s5.extBut D.TOi2.symm
    have zlt : zz < m5.objs.size := Heap.lt_size z5
    show wpAny _ _ (Builtin.SmallTypes.ownedTupleHandOut (.ref zz) (.ref m5.objs.size) >>= _) _ _ _
    refine wpAny_bind ?_
    unfold Builtin.SmallTypes.ownedTupleHandOut
    have z6 : IsZp (m5.push { cls := .type "tuple", data := .seq #[x, y] }) zz ti to .ellipsis f1 := Heap.get?_push_of_some _ z5
    refine wpAny_bind (wpAny_setField_rec z6 (by simp) fun m7 z7 s7 => ?_)
    replace z7 : IsZp m7 zz ti to (rawInt m5.objs.size) f1 := z7
    refine wpAny_setField_rec z7 (by simp) fun m8 z8 s8 => ?_
    replace z8 : IsZp m8 zz ti to (rawInt m5.objs.size) false := z8
    have up : ∀ c o, c ≠ zz → m5.get? c = some o → m8.get? c = some o := fun c o c1 e => s8.extBut _ _ c1 (s7.extBut _ _ c1 (Heap.get?_push_of_some _ e))
    have p8 : IsPair m8 m5.objs.size x y := s8.extBut _ _ (Nat.ne_of_gt zlt) (s7.extBut _ _ (Nat.ne_of_gt zlt) (Heap.get?_push_size _ rfl))
    have n8 : m8.objs.size = m5.objs.size + 1 := by rw [s8.1, s7.1, Heap.size_push]
    rw [hsz] at z8 p8 n8
    refine wpAny_pure ⟨_, rfl, ?_⟩
    show Q (.ref m5.objs.size) _
    rw [hsz]
    exact hQ m8 _ _ (.inr ⟨_, rfl⟩) z8 ⟨_, _, up _ _ D.TOz t5⟩ (a5.at fun o e => up _ o D.i1z e) (b5.at fun o e => up _ o D.i2z e) p8 n8 fun c o c1 c2 c3 c4 e => up c o c1 (k5 c o c1 c2 c3 c4 e)
  · simp only [Bool.false_eq_true, if_false]
    refine wpAny_bind ?_
    rw [← Array.forIn_toList]
    simp only [List.forIn_cons, List.forIn_nil]
    refine wpAny_bind (wpAny_bind (wpAny_holding ?_))
    show wpAny _ _ (Builtin.SmallTypes.nextOf (.ref i1) >>= _) _ _ _
    refine wpAny_bind (RZ.nextOf_tuple_item (s := { s with heap := m1 }) (h1.extBut s1.extBut D.i1z) (hl1.extBut s1.extBut D.l1z) hx fun m2 a2 s2 => wpAny_pure ?_)
    refine wpAny_pure ?_
    refine wpAny_bind (wpAny_bind (wpAny_holding ?_))
    show wpAny _ _ (Builtin.SmallTypes.nextOf (.ref i2) >>= _) _ _ _
    refine wpAny_bind (RZ.nextOf_tuple_item (s := { s with heap := m2 }) ((h2.extBut s1.extBut D.i2z).extBut s2.extBut D.i12.symm) ((hl2.extBut s1.extBut D.l2z).extBut s2.extBut D.l2i1) hy fun m3 b3 s3 => wpAny_pure ?_)
    refine wpAny_pure (wpAny_pure ?_)
    show wpAny _ _ (newTuple [x, y] >>= _) _ _ _
    refine wpAny_bind (wpAny_newTuple ?_)
    have hsz : m3.objs.size = s.heap.objs.size := by rw [s3.1, s2.1, s1.1]
    have z3 : IsZp m3 zz ti to f0 f9 := s3.extBut _ _ D.i2z.symm (s2.extBut _ _ D.i1z.symm z1)
    have k3 : ∀ c o, c ≠ zz → c ≠ i1 → c ≠ i2 → s.heap.get? c = some o → m3.get? c = some o := fun c o c1 c2 c3 e => s3.extBut _ _ c3 (s2.extBut _ _ c2 (s1.extBut _ _ c1 e))
    have a3 : m3.IsTupleIter i1 l1 (k + 1) := a2.extBut s3.extBut D.i12
    refine wpAny_pure ⟨_, rfl, ?_⟩
    show Q (.ref m3.objs.size) _
    have p4 : IsPair (m3.push { cls := .type "tuple", data := .seq #[x, y] }) m3.objs.size x y := Heap.get?_push_size _ rfl
    have n4 : (m3.push { cls := .type "tuple", data := .seq #[x, y] }).objs.size = m3.objs.size + 1 := Heap.size_push ..
    rw [hsz] at p4 n4 ⊢
    exact hQ _ _ _ hf (Heap.get?_push_of_some _ z3) ⟨_, _, Heap.get?_push_of_some _ (k3 _ _ D.TOz D.TOi1 D.TOi2 hto)⟩ (a3.at fun o e => Heap.get?_push_of_some _ e) (b3.at fun o e => Heap.get?_push_of_some _ e) p4 n4
      fun c o c1 _ c3 c4 e => Heap.get?_push_of_some _ (k3 c o c1 c3 c4 e)
theorem zp_end {zz ti to i1 i2 l1 l2 : Addr} {f0 : Value} {f1 : Bool} {k : Nat} {xs ys : Array Value} {a b : Value} {Q : Fin → Shared → Prop} (hh : A.handled = none) (D : ZipApart zz ti to i1 i2 l1 l2) (hz : IsZp s.heap zz ti to f0 f1) (hf : F0 f0)
    (hti : IsPair s.heap ti (.ref i1) (.ref i2)) (hto : IsPair s.heap to a b) (h1 : s.heap.IsTupleIter i1 l1 k) (h2 : s.heap.IsTupleIter i2 l2 k) (hl1 : s.heap.IsTuple l1 xs) (hl2 : s.heap.IsTuple l2 ys) (hend : xs[k]? = none ∨ ys[k]? = none)
    (hE : ∀ h' e, (∀ c o, c ≠ zz → c ≠ to → c ≠ i1 → c ≠ i2 → s.heap.get? c = some o → h'.get? c = some o) → (∃ o, h'.get? e = some o ∧ o.cls = .type "StopIteration") → E (.ref e) { s with heap := h' }) :
    wpAny (model prog w) A (Builtin.«zip.__next__» ⟨[.ref zz], []⟩) Q E s := by
  show wpAny _ _ (field (.ref zz) 2 >>= _) _ _ _
  refine wpAny_bind (wpAny_field hz rfl (x := .bool false) rfl ?_)
  show wpAny _ _ (field (.ref zz) 3 >>= _) _ _ _
  refine wpAny_bind (wpAny_field hz rfl (x := .ref ti) rfl ?_)
  refine wpAny_bind (wpAny_seqItems hti rfl ?_)
  show wpAny _ _ (Builtin.SmallTypes.ownedTupleIsFree (.ref zz) >>= _) _ _ _
  refine wpAny_bind (zp_own hz hf ?_ fun m1 f9 z1 s1 => ?_)
  · simp only [if_true]
    refine wpAny_bind (wpAny_rule ?_)
    refine wpAny_bind (wpAny_field hz rfl (x := .ref to) rfl ?_)
    refine wpAny_bind (wpAny_setField_rec hz (by simp) fun m1 z1 s1 => ?_)
    replace z1 : IsZp m1 zz ti to .ellipsis f1 := z1
    refine wpAny_bind ?_
    simp only [List.zipIdx_cons, List.zipIdx_nil, List.forIn_cons, List.forIn_nil]
    refine wpAny_bind (wpAny_bind (wpAny_onRaise ?_))
    show wpAny _ _ (Builtin.SmallTypes.nextOf (.ref i1) >>= _) _ _ _
    cases hx : xs[k]? with
    | none =>
      refine wpAny_bind (RZ.nextOf_tuple_end hh (h1.extBut s1.extBut D.i1z) (hl1.extBut s1.extBut D.l1z) hx fun m2 e s2 he => ?_)
      obtain ⟨oe, hoe, hce⟩ := he
      have z2 : IsZp m2 zz ti to .ellipsis f1 := s2 _ _ D.i1z.symm z1
      have hez : e ≠ zz := fun q => by subst q; rw [z2] at hoe; cases hoe; simp at hce
      refine wpAny_setField_rec z2 (by simp) fun m3 _ s3 => hE m3 e (fun c o c1 _ c3 _ q => s3.extBut _ _ c1 (s2 _ _ c3 (s1.extBut _ _ c1 q))) ⟨oe, s3.extBut _ _ hez hoe, hce⟩
    | some x =>
      have hy : ys[k]? = none := by rcases hend with h | h; rw [hx] at h; cases h; exact h
      refine wpAny_bind (RZ.nextOf_tuple_item (h1.extBut s1.extBut D.i1z) (hl1.extBut s1.extBut D.l1z) hx fun m2 a2 s2 => wpAny_pure ?_)
      have t2 : IsPair m2 to a b := s2.extBut _ _ D.TOi1 (s1.extBut _ _ D.TOz hto)
      refine wpAny_bind (wpAny_seqItems t2 rfl ?_)
      refine wpAny_bind (wpAny_updateSeq_pair t2 fun m3 t3 s3 => ?_)
      refine wpAny_bind (wpAny_letGo (wpAny_pure ?_))
      refine wpAny_bind (wpAny_bind (wpAny_onRaise ?_))
      show wpAny _ _ (Builtin.SmallTypes.nextOf (.ref i2) >>= _) _ _ _
      refine wpAny_bind (RZ.nextOf_tuple_end hh (((h2.extBut s1.extBut D.i2z).extBut s2.extBut D.i12.symm).extBut s3.extBut D.TOi2.symm)
        (((hl2.extBut s1.extBut D.l2z).extBut s2.extBut D.l2i1).extBut s3.extBut D.l2TO) hy fun m4 e s4 he => ?_)
      obtain ⟨oe, hoe, hce⟩ := he
      have z4 : IsZp m4 zz ti to .ellipsis f1 := s4 _ _ D.i2z.symm (s3.extBut _ _ D.TOz.symm (s2.extBut _ _ D.i1z.symm z1))
      have hez : e ≠ zz := fun q => by subst q; rw [z4] at hoe; cases hoe; simp at hce
      refine wpAny_setField_rec z4 (by simp) fun m5 _ s5 => hE m5 e (fun c o c1 c2 c3 c4 q => s5.extBut _ _ c1 (s4 _ _ c4 (s3.extBut _ _ c2 (s2.extBut _ _ c3 (s1.extBut _ _ c1 q))))) ⟨oe, s5.extBut _ _ hez hoe, hce⟩
  · simp only [Bool.false_eq_true, if_false]
    refine wpAny_bind ?_
    rw [← Array.forIn_toList]
    simp only [List.forIn_cons, List.forIn_nil]
    refine wpAny_bind (wpAny_bind (wpAny_holding ?_))
    show wpAny _ _ (Builtin.SmallTypes.nextOf (.ref i1) >>= _) _ _ _
    cases hx : xs[k]? with
    | none =>
      refine wpAny_bind (RZ.nextOf_tuple_end (s := { s with heap := m1 }) hh (h1.extBut s1.extBut D.i1z) (hl1.extBut s1.extBut D.l1z) hx fun m2 e s2 he => ?_)
      exact hE m2 e (fun c o c1 _ c3 _ q => s2 _ _ c3 (s1.extBut _ _ c1 q)) he
    | some x =>
      have hy : ys[k]? = none := by rcases hend with h | h; rw [hx] at h; cases h; exact h
      refine wpAny_bind (RZ.nextOf_tuple_item (s := { s with heap := m1 }) (h1.extBut s1.extBut D.i1z) (hl1.extBut s1.extBut D.l1z) hx fun m2 a2 s2 => wpAny_pure ?_)
      refine wpAny_pure ?_
      refine wpAny_bind (wpAny_bind (wpAny_holding ?_))
      show wpAny _ _ (Builtin.SmallTypes.nextOf (.ref i2) >>= _) _ _ _
      refine wpAny_bind (RZ.nextOf_tuple_end (s := { s with heap := m2 }) hh ((h2.extBut s1.extBut D.i2z).extBut s2.extBut D.i12.symm) ((hl2.extBut s1.extBut D.l2z).extBut s2.extBut D.l2i1) hy fun m3 e s3 he => ?_)
      exact hE m3 e (fun c o c1 _ c3 c4 q => s3 _ _ c4 (s2.extBut _ _ c3 (s1.extBut _ _ c1 q))) he
/-- enumerate's next, whatever it goes over -/
theorem en_item {e it : Addr} {i : Nat} {old : Value} {Q : Option Value → Shared → Prop} (he : IsEnum s.heap e it i old)
    (hn : wpAny (model prog w) A.in1 (Builtin.SmallTypes.nextOf (.ref it)) (fun x s1 => ∃ m, s1 = { s with heap := m } ∧ IsEnum m e it i old ∧ ∀ h', IsEnumOut h' e it ((i : Int) + 1) x m.objs.size →
      h'.get? m.objs.size = some { cls := .type "tuple", data := .seq #[.int i s.toks, x] } → h'.objs.size = m.objs.size + 1 → (∀ b o, b ≠ e → m.get? b = some o → h'.get? b = some o) →
      Q (some (.ref m.objs.size)) { s with heap := h', toks := s.toks + 1 }) (fun _ _ => False) s) : wpAny (model prog w) A (pyNext (.ref e)) Q E s := by
  have hT : s.TypeIs (.ref e) "enumerate" := ⟨_, he, rfl⟩
  obtain ⟨hp, g, d, tk, os⟩ := s
  unfold pyNext
  refine wpAny_bind (wpAny_attempt (wpAny_callSpecial?_slot (name := Str.ofString "__next__") hT F.slot_enumerate_next (wpAny_call_entry F.slot_enumerate_next hT F.entry_enumerate_next ?_ (F.args_enumerate_next_1 _))))
  show wpAny _ _ (field (.ref e) 2 >>= _) _ _ _
  refine wpAny_bind (wpAny_field he rfl (x := .ref it) rfl ?_)
  refine wpAny_bind (wpAny_mono hn (fun x s1 q => ?_) fun _ _ q => q.elim)
  obtain ⟨m1, rfl, e1, hQ⟩ := q
  show wpAny _ _ (field (.ref e) 3 >>= _) _ _ ⟨m1, g, d, tk, os⟩
  refine wpAny_bind (wpAny_field e1 rfl (x := rawInt i) rfl ?_)
  show wpAny _ _ (field (.ref e) 4 >>= _) _ _ ⟨m1, g, d, tk, os⟩
  refine wpAny_bind (wpAny_field e1 rfl (x := .none) rfl ?_)
  show wpAny _ _ (mkInt i >>= _) _ _ ⟨m1, g, d, tk, os⟩
  refine wpAny_bind (wpAny_mkInt ?_)
  show wpAny _ _ (setField (.ref e) 3 (rawInt ((i : Int) + 1)) >>= _) _ _ ⟨m1, g, d, tk + 1, os⟩
  refine wpAny_bind (wpAny_setField_rec e1 (by simp) fun m2 e2 s2 => ?_)
  replace s2 : Heap.SameBut e m1 m2 := s2
  replace e2 : IsEnum m2 e it ((i : Int) + 1) old := e2
  show wpAny _ _ (setField (.ref e) 4 .none >>= _) _ _ ⟨m2, g, d, tk + 1, os⟩
  refine wpAny_bind (wpAny_setField_rec e2 (by simp) fun m3 e3 s3 => ?_)
  replace s3 : Heap.SameBut e m2 m3 := s3
  replace e3 : IsEnum m3 e it ((i : Int) + 1) old := e3
  show wpAny _ _ (newTuple [.int i tk, x] >>= _) _ _ ⟨m3, g, d, tk + 1, os⟩
  refine wpAny_bind (wpAny_newTuple ?_)
  have e4 : IsEnum (m3.push { cls := .type "tuple", data := .seq #[.int i tk, x] }) e it ((i : Int) + 1) old := Heap.get?_push_of_some _ e3
  generalize h4 : m3.push { cls := .type "tuple", data := .seq #[.int i tk, x] } = m4 at e4
  have hsz : m3.objs.size = m1.objs.size := by rw [s3.1, s2.1]
  have hel : e < m1.objs.size := Heap.lt_size e1
  have t4 : m4.get? m1.objs.size = some { cls := .type "tuple", data := .seq #[.int i tk, x] } := by rw [← h4, ← hsz]; exact Heap.get?_push_size _ rfl
  have n4 : m4.objs.size = m1.objs.size + 1 := by rw [← h4, Heap.size_push, hsz]
  have k4 : ∀ b o, b ≠ e → m1.get? b = some o → m4.get? b = some o := fun b o hbe hb => by
    rw [← h4]; exact Heap.get?_push_of_some _ (s3.extBut b o hbe (s2.extBut b o hbe hb))
  show wpAny _ _ (Builtin.SmallTypes.ownedTupleIsFree (.ref e) >>= _) _ _ ⟨m4, g, d, tk + 1, os⟩
  rw [hsz]
  clear h4 e3 s3 e2 s2 hsz m3 m2
  refine wpAny_bind ?_
  unfold Builtin.SmallTypes.ownedTupleIsFree
  refine wpAny_bind (wpAny_field e4 rfl (x := .none) rfl (wpAny_pure ?_))
  simp only [if_true]
  refine wpAny_bind (wpAny_rule ?_)
  refine wpAny_bind (wpAny_field e4 rfl (x := old) rfl ?_)
  refine wpAny_bind (wpAny_setField_rec e4 (by simp) fun m5 e5 s5 => ?_)
  replace s5 : Heap.SameBut e m4 m5 := s5
  replace e5 : IsEnum m5 e it ((i : Int) + 1) x := e5
  show wpAny _ _ (Builtin.SmallTypes.ownedTupleHandOut (.ref e) (.ref m1.objs.size) >>= _) _ _ ⟨m5, g, d, tk + 1, os⟩
  refine wpAny_bind ?_
  unfold Builtin.SmallTypes.ownedTupleHandOut
  refine wpAny_bind (wpAny_setField_rec e5 (by simp) fun m6 e6 s6 => ?_)
  replace s6 : Heap.SameBut e m5 m6 := s6
  replace e6 : IsEnumOut m6 e it ((i : Int) + 1) x m1.objs.size := e6
  refine wpAny_setField_rec e6 (by simp) fun m7 e7 s7 => ?_
  replace s7 : Heap.SameBut e m6 m7 := s7
  replace e7 : IsEnumOut m7 e it ((i : Int) + 1) x m1.objs.size := e7
  refine wpAny_bind (wpAny_letGo (wpAny_pure ⟨_, rfl, wpAny_pure (hQ m7 e7 ?_ ?_ ?_)⟩))
  · exact s7.extBut _ _ (Nat.ne_of_gt hel) (s6.extBut _ _ (Nat.ne_of_gt hel) (s5.extBut _ _ (Nat.ne_of_gt hel) t4))
  · rw [s7.1, s6.1, s5.1, n4]
  · exact fun b o hbe hb => s7.extBut b o hbe (s6.extBut b o hbe (s5.extBut b o hbe (k4 b o hbe hb)))
theorem en_end {e it : Addr} {i : Nat} {old : Value} {Q : Option Value → Shared → Prop} (he : IsEnum s.heap e it i old)
    (hn : ∀ R : Value → Shared → Prop, wpAny (model prog w) A.in1 (Builtin.SmallTypes.nextOf (.ref it)) R (fun x s1 => ∃ m a, x = .ref a ∧ s1 = { s with heap := m } ∧ (∃ o, m.get? a = some o ∧ o.cls = .type "StopIteration") ∧ Q none { s with heap := m }) s) :
    wpAny (model prog w) A (pyNext (.ref e)) Q E s := by
  have hT : s.TypeIs (.ref e) "enumerate" := ⟨_, he, rfl⟩
  unfold pyNext
  refine wpAny_bind (wpAny_attempt (wpAny_callSpecial?_slot (name := Str.ofString "__next__") hT F.slot_enumerate_next (wpAny_call_entry F.slot_enumerate_next hT F.entry_enumerate_next ?_ (F.args_enumerate_next_1 _))))
  show wpAny _ _ (field (.ref e) 2 >>= _) _ _ _
  refine wpAny_bind (wpAny_field he rfl (x := .ref it) rfl ?_)
  refine wpAny_bind (wpAny_mono (hn _) (fun _ _ q => q) fun x s1 q => ?_)
  obtain ⟨m, a, rfl, rfl, ⟨o, ho, hc⟩, q⟩ := q
  refine wpAny_bind (wpAny_isInstance (T := "StopIteration") (b := true) ⟨o, ho, hc⟩ isSubtype_stop ?_)
  exact wpAny_pure q
theorem meets_enumZ (zz : Addr) (fs : Array Value) :
    Meets (Builtin.«enumerate.__new__» ⟨[.type "enumerate", .ref zz], []⟩) (fun _ R s => s.heap.get? zz = some { cls := .type "zip", dict := none, data := .fields fs, slots := #[] } ∧ (∃ a b c, fs = #[a, .bool false, .bool false, .ref b, .ref c]) ∧
      R (.ok (.ret (.ref s.heap.objs.size))) { s with heap := s.heap.push { cls := .type "enumerate", data := .fields #[.none, .bool false, .ref zz, rawInt 0, .none, .none] } }) :=
  .of_wp fun prog w A R s h => by
    obtain ⟨hp, g, d, tk, os⟩ := s
    obtain ⟨hl, ⟨a, b, c, rfl⟩, h⟩ := h
    have hsub := sub_enumerate
    have hZ : IsZip (Shared.heap ⟨hp, g, d, tk, os⟩) zz b c a := hl
    wp_walk using AutoSeq1.wpAny_loadPart' hl
    refine wpAny_stack_any fun st => wpAny_pure ?_
    split
    · rename_i c _ _ _ _ _
      cases (c == Value.type "enumerate")
      · wp_walk using AutoSeq1.wpAny_loadPart' hl, wpAny_pyIter_zip hZ
        exact ⟨_, rfl, h⟩
      · wp_walk using AutoSeq1.wpAny_loadPart' hl, wpAny_pyIter_zip hZ
        exact ⟨_, rfl, h⟩
    · wp_walk using AutoSeq1.wpAny_loadPart' hl, wpAny_pyIter_zip hZ
      exact ⟨_, rfl, h⟩
theorem call_enumZ {zz ti to : Addr} {f0 : Value} {Q : Value → Shared → Prop} (hz : IsZip s.heap zz ti to f0)
    (h : ∀ h', IsEnum h' s.heap.objs.size zz 0 .none → h'.objs.size = s.heap.objs.size + 1 → (∀ b o, s.heap.get? b = some o → h'.get? b = some o) → Q (.ref s.heap.objs.size) { s with heap := h' }) :
    wpAny (model prog w) A (call (.type "enumerate") [.ref zz]) Q E s := by
  refine callType_new F.called_enumerate (by decide) (F.typeCall_enumerate_1 _) (F.newCall_enumerate_1 _) (fun obj => F.args_object_init_2 obj _) F.entry_enumerate_new (meets_enumZ zz _) ⟨hz, ⟨_, _, _, rfl⟩, ?_⟩
  have he : IsEnum (s.heap.push { cls := .type "enumerate", data := .fields #[.none, .bool false, .ref zz, rawInt 0, .none, .none] }) s.heap.objs.size zz 0 .none := Heap.get?_push_size _ rfl
  exact ⟨⟨_, he, rfl⟩, h _ he (Heap.size_push ..) fun b o q => Heap.get?_push_of_some _ q⟩
end
/-- the tuples at a and b: (i, (x, y)) in new pairs -/
def Itez (K : PySem.W.Frag) (a b : Addr) : It :=
  ⟨fun i H => ∃ (xs ys : List V) (x y : V), SqT K H a xs ∧ SqT K H b ys ∧ xs[i]? = some x ∧ ys[i]? = some y,
    fun i H v H' => ∃ T U x y, v = .ref U ∧ H T = none ∧ H U = none ∧ T ≠ U ∧ H' = upd (upd H T (.tup [x, y])) U (.tup [.int (i : Nat), .ref T]) ∧ (∀ xs, SqT K H a xs → xs[i]? = some x) ∧ ∀ ys, SqT K H b ys → ys[i]? = some y,
    fun i H => ∃ xs ys : List V, SqT K H a xs ∧ SqT K H b ys ∧ (xs.length ≤ i ∨ ys.length ≤ i)⟩
theorem in1_hd {A : Around} (h : A.handled = none) : A.in1.handled = none := h
theorem turn_ez {P : Program} {w : World} {K : PySem.W.Frag} {elts : List Expr} {kk : Nat} {tpos : Pos} {a b e zz ti to i1 i2 : Addr} (D : ZipApart zz ti to i1 i2 a b) (hne : e ∉ [zz, ti, to, i1, i2]) (hea : e ≠ a) (heb : e ≠ b) :
    Turn P w K (.Tuple elts kk tpos) (Itez K a b) [e, zz, ti, to, i1, i2] e (fun i h => (∃ old, IsEnum h e zz ((i : Nat) : Int) old) ∧ (∃ g0 g1, F0 g0 ∧ IsZp h zz ti to g0 g1) ∧ IsPair h ti (.ref i1) (.ref i2) ∧ (∃ x y, IsPair h to x y) ∧ h.IsTupleIter i1 a i ∧ h.IsTupleIter i2 b i) where
  mem := by simp
  obj := fun i h st c hc => by
    obtain ⟨⟨old, he⟩, ⟨g0, g1, _, hz⟩, hTI, ⟨x, y, hTO⟩, ⟨o1, e1, _, d1⟩, ⟨o2, e2, _, d2⟩⟩ := st
    have e' : c = e ∨ c = zz ∨ c = ti ∨ c = to ∨ c = i1 ∨ c = i2 := by simpa using hc
    rcases e' with q | q | q | q | q | q
    · rw [q]; exact ⟨_, he, fun v q => nomatch q⟩
    · rw [q]; exact ⟨_, hz, fun v q => nomatch q⟩
    · rw [q]; exact ⟨_, hTI, fun v q => nomatch q⟩
    · rw [q]; exact ⟨_, hTO, fun v q => nomatch q⟩
    · rw [q]; exact ⟨o1, e1, fun v q => by rw [d1] at q; cases q⟩
    · rw [q]; exact ⟨o2, e2, fun v q => by rw [d2] at q; cases q⟩
  keep := fun i h h' st k => by
    obtain ⟨⟨old, he⟩, ⟨g0, g1, hg, hz⟩, hTI, ⟨x, y, hTO⟩, h1, h2⟩ := st
    exact ⟨⟨old, k e (by simp) _ he⟩, ⟨g0, g1, hg, k zz (by simp) _ hz⟩, k ti (by simp) _ hTI, ⟨x, y, k to (by simp) _ hTO⟩, h1.at fun o q => k i1 (by simp) o q, h2.at fun o q => k i2 (by simp) o q⟩
  item := by
    intro X hP hw hK hc i pins s σ H E I hf st hg
    subst hP hw hK
    obtain ⟨⟨old, he⟩, ⟨g0, g1, hg0, hz⟩, hTI, ⟨x0, y0, hTO⟩, h1, h2⟩ := st
    obtain ⟨xs, ys, x, y, hqx, hqy, hx, hy⟩ := hg
    obtain ⟨its, rv, p, _⟩ := I.tuple hqx
    obtain ⟨its2, rv2, p2, _⟩ := I.tuple hqy
    obtain ⟨u, hu, ru⟩ := rv.get hx
    obtain ⟨u2, hu2, ru2⟩ := rv2.get hy
    have n1 : e ≠ zz := fun z => hne (by simp [z])
    have n2 : e ≠ ti := fun z => hne (by simp [z])
    have n3 : e ≠ to := fun z => hne (by simp [z])
    have n4 : e ≠ i1 := fun z => hne (by simp [z])
    have n5 : e ≠ i2 := fun z => hne (by simp [z])
    have hel : e < s.heap.objs.size := Heap.lt_size he
    have hTz : s.TypeIs (.ref zz) "zip" := ⟨_, hz, rfl⟩
    have lt : ∀ c ∈ [e, zz, ti, to, i1, i2], c < s.heap.objs.size := fun c hcm => by
      have e' : c = e ∨ c = zz ∨ c = ti ∨ c = to ∨ c = i1 ∨ c = i2 := by simpa using hcm
      rcases e' with q | q | q | q | q | q
      · rw [q]; exact hel
      · rw [q]; exact Heap.lt_size hz
      · rw [q]; exact Heap.lt_size hTI
      · rw [q]; exact Heap.lt_size hTO
      · rw [q]; obtain ⟨_, e1, _⟩ := h1; exact Heap.lt_size e1
      · rw [q]; obtain ⟨_, e2, _⟩ := h2; exact Heap.lt_size e2
    refine en_item he ?_
    unfold Builtin.SmallTypes.nextOf
    refine wpAny_bind (wpAny_callSpecial?_slot (name := Str.ofString "__next__") hTz F.slot_zip_next (wpAny_call_entry F.slot_zip_next hTz F.entry_zip_next ?_ (F.args_zip_next_1 _)))
    refine zp_item D hz hg0 hTI hTO h1 h2 p p2 (x := u) (y := u2) (by simpa using hu) (by simpa using hu2) fun m f0' f1' hf0 z' TO' h1' h2' hT hsz hk => wpAny_pure ?_
    refine ⟨m, rfl, hk _ _ n1 n3 n4 n5 he, fun h' ho hU hsz' hk' => ?_⟩
    have new : ObjOk X.prog X.w (upd H s.heap.objs.size (.tup [x, y])) m s.heap.objs.size (.tup [x, y]) :=
      ⟨by show 2 ≤ sizeLine; decide, [u, u2], .cons ru (.cons ru2 .nil), ⟨_, hT, rfl, _, rfl⟩⟩
    have I1 : Inv X pins σ (upd H s.heap.objs.size (.tup [x, y])) { s with heap := m } :=
      I.turnedNew (t' := s.toks) (ch := [e, zz, ti, to, i1, i2]) (fun c o hb q => hk c o (fun q' => hb (by simp [q'])) (fun q' => hb (by simp [q'])) (fun q' => hb (by simp [q'])) (fun q' => hb (by simp [q'])) q) hf (Nat.le_refl _) new
    have hf1 : ∀ c ∈ [e, zz, ti, to, i1, i2], FpOk X pins (upd H s.heap.objs.size (.tup [x, y])) c := fun c hcm => by
      refine ⟨?_, (hf c hcm).2⟩
      rw [upd_ne (Nat.ne_of_lt (lt c hcm))]
      exact (hf c hcm).1
    refine ⟨_, rfl, wpAny_letOwnedTupleGo_enum (s := { s with heap := h', toks := s.toks + 1 }) ho fun h'' he' sb => ?_⟩
    have nU : ∀ {c : Addr}, c < m.objs.size → c ≠ m.objs.size := fun h => Nat.ne_of_lt h
    have hem : e < m.objs.size := by rw [hsz]; exact Nat.lt_succ_of_lt hel
    have hU2 : h''.get? m.objs.size = some { cls := .type "tuple", data := .seq #[.int i s.toks, .ref s.heap.objs.size] } := (sb.2 _ (Nat.ne_of_gt hem)).trans hU
    have kk2 : ∀ c o, c ≠ e → m.get? c = some o → h''.get? c = some o := fun c o hb q => (sb.2 c hb).trans (hk' c o hb q)
    have new2 : ObjOk X.prog X.w (upd (upd H s.heap.objs.size (.tup [x, y])) m.objs.size (.tup [.int (i : Nat), .ref s.heap.objs.size])) h'' m.objs.size (.tup [.int (i : Nat), .ref s.heap.objs.size]) :=
      ⟨by show 2 ≤ sizeLine; decide, [.int i s.toks, .ref s.heap.objs.size], .cons ⟨_, rfl⟩ (.cons rfl .nil), ⟨_, hU2, rfl, _, rfl⟩⟩
    have I2 : Inv X pins σ (upd (upd H s.heap.objs.size (.tup [x, y])) m.objs.size (.tup [.int (i : Nat), .ref s.heap.objs.size])) { s with heap := h'', toks := s.toks + 1 } :=
      I1.turnedNew (t' := s.toks + 1) (ch := [e, zz, ti, to, i1, i2]) (fun c o hb q => kk2 c o (fun q' => hb (by simp [q'])) q) hf1 (Nat.le_refl _) new2
    refine ⟨.ref m.objs.size, _, I2, rfl, ⟨s.heap.objs.size, m.objs.size, x, y, rfl, I.hok.fresh (Nat.le_refl _), I.hok.fresh (by rw [hsz]; exact Nat.le_succ _), by rw [hsz]; exact Nat.ne_of_lt (Nat.lt_succ_self _), rfl, fun l hl => by rw [I.tuple_inj hl hqx]; exact hx, fun l hl => by rw [I.tuple_inj hl hqy]; exact hy⟩, ⟨⟨.ref s.heap.objs.size, ?_⟩, ⟨f0', f1', hf0, ?_⟩, ?_, ?_, ?_, ?_⟩, fun c hcm => ?_⟩
    · have e1 : ((i + 1 : Nat) : Int) = (i : Int) + 1 := by omega
      rw [e1]; exact he'
    · exact kk2 _ _ n1.symm z'
    · exact kk2 _ _ n2.symm (hk _ _ D.TIz D.TITO D.TIi1 D.TIi2 hTI)
    · obtain ⟨u9, v9, q⟩ := TO'
      exact ⟨u9, v9, kk2 _ _ n3.symm q⟩
    · exact h1'.at fun o q => kk2 _ _ n4.symm q
    · exact h2'.at fun o q => kk2 _ _ n5.symm q
    · have h9 := lt c hcm
      rw [upd_ne (by rw [hsz]; exact Nat.ne_of_lt (Nat.lt_succ_of_lt h9)), upd_ne (Nat.ne_of_lt h9)]
      exact (hf c hcm).1
  done := by
    intro X hP hw hK hc i pins s σ H E I hf st hg
    subst hP hw hK
    obtain ⟨⟨old, he⟩, ⟨g0, g1, hg0, hz⟩, hTI, ⟨x0, y0, hTO⟩, h1, h2⟩ := st
    obtain ⟨xs, ys, hqx, hqy, hend⟩ := hg
    obtain ⟨its, rv, p, _⟩ := I.tuple hqx
    obtain ⟨its2, rv2, p2, _⟩ := I.tuple hqy
    have l1 := rv.length
    have l2 := rv2.length
    have hq : its.toArray[i]? = none ∨ its2.toArray[i]? = none := by
      rcases hend with q | q
      · exact .inl (by simp; omega)
      · exact .inr (by simp; omega)
    have hTz : s.TypeIs (.ref zz) "zip" := ⟨_, hz, rfl⟩
    refine en_end he fun R => ?_
    unfold Builtin.SmallTypes.nextOf
    refine wpAny_bind (wpAny_callSpecial?_slot (name := Str.ofString "__next__") hTz F.slot_zip_next (wpAny_call_entry F.slot_zip_next hTz F.entry_zip_next ?_ (F.args_zip_next_1 _)))
    exact zp_end (in1_hd (in1_hd (I.ok.hd hc))) D hz hg0 hTI hTO h1 h2 p p2 hq fun h' a' hk ho => ⟨h', a', rfl, rfl, ho, rfl, I.turnedL (t' := s.toks) (ch := [e, zz, ti, to, i1, i2]) (fun c o hb q =>
      hk c o (fun q' => hb (by simp [q'])) (fun q' => hb (by simp [q'])) (fun q' => hb (by simp [q'])) (fun q' => hb (by simp [q'])) q) hf⟩
  self := fun A i s Q E st h => let ⟨⟨_, he⟩, _⟩ := st; wpAny_pyIter_enum he h
def iEz (K : PySem.W.Frag) (ta : TA) : TI := fun σ H R => ta σ H fun vs H1 => ∃ a b xs ys, vs = [.ref a, .ref b] ∧ SqT K H1 a xs ∧ SqT K H1 b ys ∧ R (Itez K a b) H1
theorem pi_ez {X : Cx} {e e2 : Expr} {ta : TA} {p pos p' pos' tpos : Pos} {elts : List Expr} {kk : Nat} (hg : Gl X "zip") (hm : X.mg "zip" = none) (hg' : Gl X "enumerate") (hm' : X.mg "enumerate" = none) (ha : PA X [e, e2] ta)
    (hs : starEach [e, e2] X.env = (false, eval e X.env) :: starEach [e2] X.env := by rfl) (hpl : (backTo pos (starEach [e2] X.env)).any (·.1) = false := by rfl)
    (hs' : starEach [Expr.Call (.Name "zip" p) [e, e2] [] pos] X.env = [(false, eval (.Call (.Name "zip" p) [e, e2] [] pos) X.env)] := by rfl) :
    PI X (.Tuple elts kk tpos) (.Call (.Name "enumerate" p') [.Call (.Name "zip" p) [e, e2] [] pos] [] pos') (iEz X.K ta) := by
  refine ⟨fun pins s σ H R I h => ?_⟩
  refine Call_ (ld_blt I hg' hm' boot_enumerate (PyProof.Rows.callWith_type1 ?_ hs' rfl))
  rw [hs']
  show wpAny _ _ (spliced [(false, eval (.Call (.Name "zip" p) [e, e2] [] pos) X.env)]) _ _ s
  refine Calls.spliced_cons ?_
  refine Call_ (ld_blt I hg hm PyProof.Rows.boot_zip (PyProof.Rows.callWith_type1 (thn (ha.run pos pins s σ H _ I h) fun us s1 ⟨vs, H1, I1, r1, q1⟩ => ?_) hs hpl))
  obtain ⟨a, b, xs, ys, ex, hqx, hqy, q⟩ := q1
  subst ex
  cases r1 with
  | cons r rr =>
    cases rr with
    | cons r' rr =>
      cases rr
      cases r
      cases r'
      obtain ⟨its, rv, p1, _⟩ := I1.tuple hqx
      obtain ⟨its2, rv2, p2, _⟩ := I1.tuple hqy
      have la : a < s1.heap.objs.size := p1.lt
      have lb : b < s1.heap.objs.size := p2.lt
      refine RZ.call_zipT p1 p2 fun h' hz hTI hTO h1 h2 hsz hk => ?_
      refine Calls.spliced_nil ?_
      refine call_enumZ (s := { s1 with heap := h' }) hz fun h'' he hsz' hk' => wpAny_pyIter_enum (s := { s1 with heap := h'' }) he ?_
      have I2 : Inv X pins σ H1 { s1 with heap := h'' } := I1.kept (t' := s1.toks) fun b o q => hk' b o (hk b o q)
      have e5 : h'.objs.size = s1.heap.objs.size + 5 := hsz
      refine ⟨h'.objs.size, [h'.objs.size, s1.heap.objs.size + 4, s1.heap.objs.size + 2, s1.heap.objs.size + 3, s1.heap.objs.size, s1.heap.objs.size + 1], _, _, H1, rfl, I2, turn_ez (PySem.W.ktu_apart s1.heap.objs.size a b la lb) (by rw [e5]; simp) (by rw [e5]; exact Nat.ne_of_gt (Nat.lt_add_right 5 la)) (by rw [e5]; exact Nat.ne_of_gt (Nat.lt_add_right 5 lb)),
        ⟨⟨_, he⟩, ⟨_, _, .inl rfl, hk' _ _ hz⟩, hk' _ _ hTI, ⟨_, _, hk' _ _ hTO⟩, h1.at fun o q => hk' _ _ q, h2.at fun o q => hk' _ _ q⟩, fun c hcm => ?_, q⟩
      have e' : c = h'.objs.size ∨ c = s1.heap.objs.size + 4 ∨ c = s1.heap.objs.size + 2 ∨ c = s1.heap.objs.size + 3 ∨ c = s1.heap.objs.size ∨ c = s1.heap.objs.size + 1 := by simpa using hcm
      have hle : s1.heap.objs.size ≤ c := by
        rw [e5] at e'
        rcases e' with q | q | q | q | q | q
        all_goals first | (rw [q]; exact Nat.le_add_right _ _) | (rw [q]; exact Nat.le_refl _)
      exact I1.fpOk hle (I1.hok.fresh hle)
theorem kEz {X : Cx} {K : PySem.W.Frag} {e e2 : Expr} {ta : TA} {p pos p' pos' tpos : Pos} {elts : List Expr} {kk : Nat} (hK : X.K = K) (hg : Gl X "zip") (hm : X.mg "zip" = none) (hg' : Gl X "enumerate") (hm' : X.mg "enumerate" = none) (ha : PA X [e, e2] ta)
    (hs : starEach [e, e2] X.env = (false, eval e X.env) :: starEach [e2] X.env := by rfl) (hpl : (backTo pos (starEach [e2] X.env)).any (·.1) = false := by rfl)
    (hs' : starEach [Expr.Call (.Name "zip" p) [e, e2] [] pos] X.env = [(false, eval (.Call (.Name "zip" p) [e, e2] [] pos) X.env)] := by rfl) :
    PI X (.Tuple elts kk tpos) (.Call (.Name "enumerate" p') [.Call (.Name "zip" p) [e, e2] [] pos] [] pos') (iEz K ta) := by
  subst hK
  exact pi_ez hg hm hg' hm' ha hs hpl hs'
/-- a loop over them: what holds between the turns -/
theorem for_ez {K : PySem.W.Frag} {a b : Addr} {xs ys : List V} {g : TG} {u : TS} {D : Ends} {σ : L2.St} {H : Hp} {n : Nat} (hn : n = min xs.length ys.length) (Pv : Nat → L2.St → Hp → Prop) (h0 : Pv 0 σ H) (hq : ∀ i σ H, Pv i σ H → SqT K H a xs ∧ SqT K H b ys)
    (hs : ∀ i x y σ H T U, xs[i]? = some x → ys[i]? = some y → Pv i σ H → H T = none → H U = none → T ≠ U →
      g (.ref U) σ (upd (upd H T (.tup [x, y])) U (.tup [.int (i : Nat), .ref T])) fun σ2 H2 => u { D with nx := Pv (i + 1), ct := Pv (i + 1), bk := D.nx } σ2 H2) (hd : ∀ σ H, Pv n σ H → D.nx σ H) : forB (Itez K a b) g u D σ H := by
  refine ⟨fun i m σ H => m = n - i ∧ i ≤ n ∧ Pv i σ H, ⟨n, rfl, Nat.zero_le _, h0⟩, ?_⟩
  rintro i m σ H ⟨rfl, hi, p⟩
  obtain ⟨hx, hy⟩ := hq i σ H p
  by_cases hlt : i < n
  · have l1 : i < xs.length := by omega
    have l2 : i < ys.length := by omega
    refine .inr ⟨⟨xs, ys, xs[i], ys[i], hx, hy, List.getElem?_eq_getElem l1, List.getElem?_eq_getElem l2⟩, Pv (i + 1), fun σ' H' p' => ⟨n - (i + 1), by omega, rfl, hlt, p'⟩, fun v H' y => ?_⟩
    obtain ⟨T, U, x, y', rfl, hT, hU, hne, rfl, e1, e2⟩ := y
    exact hs i x y' σ H T U (e1 xs hx) (e2 ys hy) p hT hU hne
  · have e : i = n := by omega
    subst e
    exact .inl ⟨⟨xs, ys, hx, hy, by omega⟩, hd σ H p⟩
theorem gT2 {K : PySem.W.Frag} {g1 g2 : TG} {a : Addr} {x y : V} {σ : L2.St} {H : Hp} {R : L2.St → Hp → Prop} (h : SqT K H a [x, y]) (q : g1 x σ H fun σ1 H1 => g2 y σ1 H1 fun σ2 H2 => gNil [] σ2 H2 R) : gTup K 2 (gCons g1 (gCons g2 gNil)) (.ref a) σ H R :=
  ⟨a, [x, y], rfl, h, rfl, x, [y], rfl, by
    have e : (fun σ' H' => gCons g2 gNil [y] σ' H' R) = fun σ1 H1 => gCons g2 gNil [y] σ1 H1 R := rfl
    refine (?_ : g1 x σ H fun σ' H' => gCons g2 gNil [y] σ' H' R)
    have z : (fun σ1 H1 => g2 y σ1 H1 fun σ2 H2 => gNil [] σ2 H2 R) = fun σ' H' => gCons g2 gNil [y] σ' H' R := by
      funext σ1 H1
      exact propext ⟨fun h => ⟨y, [], rfl, h⟩, fun ⟨v, r, e, h⟩ => by cases e; exact h⟩
    rw [← z]
    exact q⟩
theorem i_ez {K : PySem.W.Frag} {ta : TA} {σ : L2.St} {H : Hp} {R : It → Hp → Prop} (q : ta σ H fun vs H1 => ∃ a b xs ys, vs = [.ref a, .ref b] ∧ SqT K H1 a xs ∧ SqT K H1 b ys ∧ R (Itez K a b) H1) : iEz K ta σ H R := q
end G
namespace K
open PySem PySem.Spec PyProof.Rows L2 G TL
local macro_rules | `(tactic| walk_at "side") => `(tactic| focus (first | assumption | exact rfl | omega | decide))
local macro_rules | `(tactic| walk_at "ty") => `(tactic| focus (first | exact .base (.str _) | exact .base (.int _) | exact .base (.bl _) | exact .base .non | exact .base (.lst (by assumption)) | exact .base (.tup (by assumption)) | exact .base (.dK (by assumption)) | assumption))
local macro_rules | `(tactic| walk_at "kt") => `(tactic| focus (with_reducible first | exact kt_NoneType_str | exact kt_NoneType_int | exact kt_NoneType_bool | exact kt_NoneType_tuple | exact kt_NoneType_list | exact kt_NoneType_dict | exact kt_bool_str | exact kt_bool_int | exact kt_bool_bool | exact kt_bool_tuple | exact kt_bool_list | exact kt_bool_dict | exact kt_int_str | exact kt_int_int | exact kt_int_bool | exact kt_int_tuple | exact kt_int_list | exact kt_int_dict | exact kt_str_str | exact kt_str_int | exact kt_str_bool | exact kt_str_tuple | exact kt_str_list | exact kt_str_dict | exact kt_list_str | exact kt_list_int | exact kt_list_bool | exact kt_list_tuple | exact kt_list_list | exact kt_list_dict | exact kt_tuple_str | exact kt_tuple_int | exact kt_tuple_bool | exact kt_tuple_tuple | exact kt_tuple_list | exact kt_tuple_dict | exact kt_dict_str | exact kt_dict_int | exact kt_dict_bool | exact kt_dict_tuple | exact kt_dict_list | exact kt_dict_dict | assumption))
local macro_rules | `(tactic| walk_at "1") => `(tactic| first
  | (with_reducible refine i_seq ?_)
  | (with_reducible refine iteT ?_)
  | (with_reducible refine iteF ?_)
  | (with_reducible refine iteNF ?_)
  | (with_reducible refine iteNT ?_)
  | (with_reducible refine i_asg ?_)
  | (with_reducible refine i_op ?_)
  | (with_reducible refine i_c ?_)
  | ((with_reducible apply i_var); (exact rfl))
  | (with_reducible refine i_cb ?_)
  | (with_reducible refine i_cons ?_)
  | (with_reducible refine i_nil ?_)
  | (with_reducible refine i_test ?_)
  | (with_reducible refine i_b ?_)
  | (with_reducible refine i_bl ?_)
  | (with_reducible refine i_name ?_)
  | (with_reducible refine i_ifS ?_)
  | (with_reducible refine i_next ?_)
  | (with_reducible refine i_ret ?_)
  | (with_reducible refine i_drop ?_)
  | (with_reducible refine i_lst ?_)
  | (with_reducible refine i_tup ?_)
  | (with_reducible refine i_and ?_)
  | (with_reducible refine i_or ?_)
  | (with_reducible refine i_not ?_)
  | (with_reducible refine i_andV ?_)
  | (with_reducible refine i_orV ?_)
  | (with_reducible refine i_notV ?_)
  | (with_reducible refine i_if ?_)
  | (with_reducible refine i_chain ?_)
  | (with_reducible refine i_un ?_)
  | (with_reducible refine i_neg ?_)
  | (with_reducible refine i_sub ?_)
  | (with_reducible refine i_sl ?_)
  | (with_reducible refine i_noP ?_)
  | (with_reducible refine i_part ?_)
  | (with_reducible refine i_int ?_)
  | (with_reducible refine i_bm ?_)
  | (with_reducible refine i_strT ?_)
  | (with_reducible refine i_yes ?_)
  | (with_reducible refine i_call ?_)
  | ((with_reducible refine i_len ?_ ?_); (focus (exact sz (by simp))))
  | (with_reducible refine i_lc ?_)
  | (with_reducible refine i_for ?_)
  | (with_reducible refine i_rng1 ?_)
  | (with_reducible refine i_rng2 ?_)
  | (with_reducible refine l_addI ?_)
  | (with_reducible refine l_subI ?_)
  | (with_reducible refine l_cmp ?_)
  | (with_reducible refine l_eqI ?_)
  | (with_reducible refine l_eqS ?_)
  | (with_reducible refine l_eqB ?_)
  | (with_reducible refine l_neI ?_)
  | (with_reducible refine l_neS ?_)
  | (with_reducible refine l_neB ?_)
  | (with_reducible refine l_isN ?_)
  | (with_reducible refine l_isNotN ?_)
  | (with_reducible refine l_isB ?_)
  | (with_reducible refine l_isNotB ?_)
  | (with_reducible refine l_intI ?_)
  | (with_reducible refine l_intB ?_)
  | (with_reducible refine l_inC ?_)
  | (refine ⟨_, _, rfl, rfl, sz (by first | omega | simp; omega), ?_⟩)
  | ((with_reducible refine l_pow ?_ ?_); (focus (exact ⟨by decide, by decide, by decide⟩)))
  | ((with_reducible refine l_mul ?_ ?_); (focus (first | assumption | exact Or.inl (Or.inl ⟨by omega, by omega⟩) | exact Or.inl (Or.inr ⟨by omega, by omega⟩))))
  | ((with_reducible refine l_div ?_ ?_); (focus (first | assumption | exact ⟨by decide, by decide⟩)))
  | ((with_reducible apply l_setL); (assumption); (exact rfl))
  | ((with_reducible refine l_mod ?_ ?_); (walk_at "side"))
  | ((with_reducible apply l_ixL); (assumption); (exact rfl))
  | ((with_reducible refine l_lenS ?_ ?_); (focus (first | assumption | exact sz (by omega) | exact sz (by simp; omega))))
  | ((with_reducible refine l_slS ?_ ?_); (focus (first | assumption | exact sz (by omega))))
  | ((with_reducible apply l_isi); (walk_at "ty"); (walk_at "kt"))
  | ((with_reducible apply l_lenL); (assumption)))
local macro_rules | `(tactic| walk_at "go") => `(tactic| repeat (walk_at "1"))
local macro_rules | `(tactic| walk_at "1") => `(tactic| first
  | (with_reducible refine i_mkS ?_)
  | (with_reducible refine i_cS ?_)
  | (with_reducible refine i_fld ?_)
  | (with_reducible refine i_sFld ?_)
  | (with_reducible refine i_tX ?_)
  | (with_reducible refine l_len2 rfl rfl ?_))
local macro_rules | `(tactic| walk_at "1") => `(tactic| first
  | (with_reducible refine i_stp ?_)
  | ((with_reducible apply i_iad); (exact rfl))
  | (with_reducible refine i_cO ?_)
  | (with_reducible refine i_prp ?_)
  | (with_reducible refine i_mtS ?_)
  | (with_reducible refine i_fldaug ?_)
  | (with_reducible refine i_par ?_)
  | (with_reducible refine i_par3 ?_)
  | (with_reducible refine i_revL ?_))
section
variable {P : Program} {w : World} {K : PySem.W.Frag} {mg : Str → Option Value} {base : Heap}
def topS (i : Nat) : Stmt := PySem.Challenge.pw_roundrules_k22_logs.main.body.getD i (.Pass ⟨0, 0, 0, 0⟩)
abbrev s_NoEntry___init__ : Stmt := inClass (topS 1) 0
theorem sc_NoEntry___init__ : FnScope ["self", "index"] ["self", "index"] (defScope s_NoEntry___init__) := ⟨rfl, rfl, rfl, by decide +kernel, rfl, by decide +kernel, by decide +kernel⟩
abbrev s_is_integer : Stmt := topS 3
theorem sc_is_integer : FnScope ["value"] ["value"] (defScope s_is_integer) := ⟨rfl, rfl, rfl, by decide +kernel, rfl, by decide +kernel, by decide +kernel⟩
abbrev s_Log___init__ : Stmt := inClass (topS 6) 0
theorem sc_Log___init__ : FnScope ["self", "entries"] ["self", "entries"] (defScope s_Log___init__) := ⟨rfl, rfl, rfl, by decide +kernel, rfl, by decide +kernel, by decide +kernel⟩
abbrev s_Log___getitem__ : Stmt := inClass (topS 6) 1
theorem sc_Log___getitem__ : FnScope ["self", "at"] ["self", "at"] (defScope s_Log___getitem__) := ⟨rfl, rfl, rfl, by decide +kernel, rfl, by decide +kernel, by decide +kernel⟩
abbrev s_Log___iter__ : Stmt := inClass (topS 6) 2
theorem sc_Log___iter__ : FnScope ["self"] ["self"] (defScope s_Log___iter__) := ⟨rfl, rfl, rfl, by decide +kernel, rfl, by decide +kernel, by decide +kernel⟩
abbrev s_Log___len__ : Stmt := inClass (topS 6) 3
theorem sc_Log___len__ : FnScope ["self"] ["self"] (defScope s_Log___len__) := ⟨rfl, rfl, rfl, by decide +kernel, rfl, by decide +kernel, by decide +kernel⟩
abbrev s_Log___eq__ : Stmt := inClass (topS 6) 4
theorem sc_Log___eq__ : FnScope ["self", "other"] ["self", "other"] (defScope s_Log___eq__) := ⟨rfl, rfl, rfl, by decide +kernel, rfl, by decide +kernel, by decide +kernel⟩
abbrev s_Log___le__ : Stmt := inClass (topS 6) 5
theorem sc_Log___le__ : FnScope ["self", "other"] ["self", "other"] (defScope s_Log___le__) := ⟨rfl, rfl, rfl, by decide +kernel, rfl, by decide +kernel, by decide +kernel⟩
abbrev s_Log_how : Stmt := inClass (topS 6) 6
theorem sc_Log_how : FnScope ["self", "word"] ["self"] (defScope s_Log_how) := ⟨rfl, rfl, rfl, by decide +kernel, rfl, by decide +kernel, by decide +kernel⟩
abbrev s_Log_unlike : Stmt := inClass (topS 6) 7
theorem sc_Log_unlike : FnScope ["self", "other", "index", "one", "two"] ["self", "other"] (defScope s_Log_unlike) := ⟨rfl, rfl, rfl, by decide +kernel, rfl, by decide +kernel, by decide +kernel⟩
abbrev s__law_pool : Stmt := topS 8
theorem sc__law_pool : FnScope ["_law_script", "_law_k", "_law_cell", "_law_great", "_law_seed"] ["_law_script", "_law_k"] (defScope s__law_pool) := ⟨rfl, rfl, rfl, by decide +kernel, rfl, by decide +kernel, by decide +kernel⟩
abbrev s__law_take : Stmt := topS 9
theorem sc__law_take : FnScope ["_law_pool_here", "_law_many", "_law_found"] ["_law_pool_here", "_law_many"] (defScope s__law_take) := ⟨rfl, rfl, rfl, by decide +kernel, rfl, by decide +kernel, by decide +kernel⟩
abbrev s__law_entries : Stmt := topS 10
theorem sc__law_entries : FnScope ["_law_pool_here", "_law_some", "_law_turn"] ["_law_pool_here"] (defScope s__law_entries) := ⟨rfl, rfl, rfl, by decide +kernel, rfl, by decide +kernel, by decide +kernel⟩
abbrev s__law_refused : Stmt := topS 11
theorem sc__law_refused : FnScope ["_law_log", "_law_at", "_law_found", "e"] ["_law_log", "_law_at"] (defScope s__law_refused) := ⟨rfl, rfl, rfl, by decide +kernel, rfl, by decide +kernel, by decide +kernel⟩
abbrev s__law_unlike : Stmt := topS 12
theorem sc__law_unlike : FnScope ["_law_one", "_law_other", "_law_at"] ["_law_one", "_law_other"] (defScope s__law_unlike) := ⟨rfl, rfl, rfl, by decide +kernel, rfl, by decide +kernel, by decide +kernel⟩
abbrev s__law_right : Stmt := topS 13
theorem sc__law_right : FnScope ["_law_one", "_law_other", "_law_log", "_law_second", "_law_kept", "_law_at", "_law_odd"] ["_law_one", "_law_other"] (defScope s__law_right) := ⟨rfl, rfl, rfl, by decide +kernel, rfl, by decide +kernel, by decide +kernel⟩
abbrev s_law : Stmt := topS 14
theorem sc_law : FnScope ["_law_script", "_law_k", "_law_pool_here", "_law_one", "_law_cut", "_law_other", "_law_word"] ["_law_script"] (defScope s_law) := ⟨rfl, rfl, rfl, by decide +kernel, rfl, by decide +kernel, by decide +kernel⟩
/-- what the top has written -/
structure Tp (K : PySem.W.Frag) (mg : Str → Option Value) (a_ENDS C_NoEntry C_Log : Addr) : Prop where
  m_LookupError : mg "LookupError" = none
  m_ValueError : mg "ValueError" = none
  m_abs : mg "abs" = none
  m_bool : mg "bool" = none
  m_enumerate : mg "enumerate" = none
  m_int : mg "int" = none
  m_isinstance : mg "isinstance" = none
  m_len : mg "len" = none
  m_list : mg "list" = none
  m_max : mg "max" = none
  m_min : mg "min" = none
  m_range : mg "range" = none
  m_repr : mg "repr" = none
  m_tuple : mg "tuple" = none
  m_zip : mg "zip" = none
  c_ENDS : ∃ u, mg "ENDS" = some u ∧ RelV (.ref a_ENDS) u
  t_ENDS : ∀ H : Hp, SqT K H a_ENDS [.str "ended", .str "refused", .str "short", .str "open"]
  k_NoEntry : ∃ u, mg "NoEntry" = some u ∧ RelV (.ref C_NoEntry) u
  x_NoEntry : ∀ (P : Program) (w : World) (base : Heap), Oex P w K mg base "NoEntry" C_NoEntry "index"
  k_Log : ∃ u, mg "Log" = some u ∧ RelV (.ref C_Log) u
  cl_Log : Cls K C_Log
  n_Log_own_entries : NoAttr K C_Log "own_entries"
  ty_Log : ∀ (H : Hp) (a dx : Addr) (fs : List (Str × V)), H a = some (.ins C_Log dx fs) → TyX K H (.ref a) (.ref C_Log)
  sf_Log : PySem.W.selfFirst K C_Log = true
  ne_Log : PySem.W.findIn K (.ref C_Log) "__ne__" = some (some (.builtin "object.__ne__"))
  ob_Log : PySem.W.mroIn K C_Log (.type "object") = some true
  nf_Log_NoneType : PySem.W.subIn K (.type "NoneType") (.ref C_Log) = some false
  kt_Log_NoneType : PySem.W.kitOne K (.type "NoneType") (.ref C_Log) = some false
  nf_Log_list : PySem.W.subIn K (.type "list") (.ref C_Log) = some false
  kt_Log_list : PySem.W.kitOne K (.type "list") (.ref C_Log) = some false
  nf_Log_tuple : PySem.W.subIn K (.type "tuple") (.ref C_Log) = some false
  kt_Log_tuple : PySem.W.kitOne K (.type "tuple") (.ref C_Log) = some false
  nf_Log_str : PySem.W.subIn K (.type "str") (.ref C_Log) = some false
  kt_Log_str : PySem.W.kitOne K (.type "str") (.ref C_Log) = some false
  nf_Log_int : PySem.W.subIn K (.type "int") (.ref C_Log) = some false
  kt_Log_int : PySem.W.kitOne K (.type "int") (.ref C_Log) = some false
  nf_Log_bool : PySem.W.subIn K (.type "bool") (.ref C_Log) = some false
  kt_Log_bool : PySem.W.kitOne K (.type "bool") (.ref C_Log) = some false
  nf_Log_dict : PySem.W.subIn K (.type "dict") (.ref C_Log) = some false
  kt_Log_dict : PySem.W.kitOne K (.type "dict") (.ref C_Log) = some false
  i_Log : Dk K mg "Log" C_Log "Log.__init__" s_Log___init__ []
  p_Log_how : Dp1 K C_Log "how" "Log.how" s_Log_how
  m_Log___getitem__ : Dm K C_Log "__getitem__" "Log.__getitem__" s_Log___getitem__ ["self", "at"]
  m_Log___iter__ : Dm K C_Log "__iter__" "Log.__iter__" s_Log___iter__ ["self"]
  m_Log___len__ : Dm K C_Log "__len__" "Log.__len__" s_Log___len__ ["self"]
  m_Log___eq__ : Dm K C_Log "__eq__" "Log.__eq__" s_Log___eq__ ["self", "other"]
  m_Log___le__ : Dm K C_Log "__le__" "Log.__le__" s_Log___le__ ["self", "other"]
  m_Log_unlike : Dm K C_Log "unlike" "Log.unlike" s_Log_unlike ["self", "other"]
  kx_NoEntry_LookupError : PySem.W.kitOne K (.ref C_NoEntry) (.type "LookupError") = some true
  kx_NoEntry_ValueError : PySem.W.kitOne K (.ref C_NoEntry) (.type "ValueError") = some false
  xm_NoEntry : PySem.W.exmOne K (.ref C_NoEntry) (.ref C_NoEntry) = some true
  d_is_integer : Dd K mg "is_integer" s_is_integer ["value"]
  d__law_pool : Dd K mg "_law_pool" s__law_pool ["_law_script", "_law_k"]
  d__law_take : Dd K mg "_law_take" s__law_take ["_law_pool_here", "_law_many"]
  d__law_entries : Dd K mg "_law_entries" s__law_entries ["_law_pool_here"]
  d__law_refused : Dd K mg "_law_refused" s__law_refused ["_law_log", "_law_at"]
  d__law_unlike : Dd K mg "_law_unlike" s__law_unlike ["_law_one", "_law_other"]
  d__law_right : Dd K mg "_law_right" s__law_right ["_law_one", "_law_other"]
  d_law : Dd K mg "law" s_law ["_law_script"]
end
end K
namespace K
open PySem PySem.Spec PyProof.Rows L2 G TL
local macro_rules | `(tactic| walk_at "side") => `(tactic| focus (first | assumption | exact rfl | omega | decide))
local macro_rules | `(tactic| walk_at "ty") => `(tactic| focus (first | exact .base (.str _) | exact .base (.int _) | exact .base (.bl _) | exact .base .non | exact .base (.lst (by assumption)) | exact .base (.tup (by assumption)) | exact .base (.dK (by assumption)) | assumption))
local macro_rules | `(tactic| walk_at "kt") => `(tactic| focus (with_reducible first | exact kt_NoneType_str | exact kt_NoneType_int | exact kt_NoneType_bool | exact kt_NoneType_tuple | exact kt_NoneType_list | exact kt_NoneType_dict | exact kt_bool_str | exact kt_bool_int | exact kt_bool_bool | exact kt_bool_tuple | exact kt_bool_list | exact kt_bool_dict | exact kt_int_str | exact kt_int_int | exact kt_int_bool | exact kt_int_tuple | exact kt_int_list | exact kt_int_dict | exact kt_str_str | exact kt_str_int | exact kt_str_bool | exact kt_str_tuple | exact kt_str_list | exact kt_str_dict | exact kt_list_str | exact kt_list_int | exact kt_list_bool | exact kt_list_tuple | exact kt_list_list | exact kt_list_dict | exact kt_tuple_str | exact kt_tuple_int | exact kt_tuple_bool | exact kt_tuple_tuple | exact kt_tuple_list | exact kt_tuple_dict | exact kt_dict_str | exact kt_dict_int | exact kt_dict_bool | exact kt_dict_tuple | exact kt_dict_list | exact kt_dict_dict | assumption))
local macro_rules | `(tactic| walk_at "1") => `(tactic| first
  | (with_reducible refine i_seq ?_)
  | (with_reducible refine iteT ?_)
  | (with_reducible refine iteF ?_)
  | (with_reducible refine iteNF ?_)
  | (with_reducible refine iteNT ?_)
  | (with_reducible refine i_asg ?_)
  | (with_reducible refine i_op ?_)
  | (with_reducible refine i_c ?_)
  | ((with_reducible apply i_var); (exact rfl))
  | (with_reducible refine i_cb ?_)
  | (with_reducible refine i_cons ?_)
  | (with_reducible refine i_nil ?_)
  | (with_reducible refine i_test ?_)
  | (with_reducible refine i_b ?_)
  | (with_reducible refine i_bl ?_)
  | (with_reducible refine i_name ?_)
  | (with_reducible refine i_ifS ?_)
  | (with_reducible refine i_next ?_)
  | (with_reducible refine i_ret ?_)
  | (with_reducible refine i_drop ?_)
  | (with_reducible refine i_lst ?_)
  | (with_reducible refine i_tup ?_)
  | (with_reducible refine i_and ?_)
  | (with_reducible refine i_or ?_)
  | (with_reducible refine i_not ?_)
  | (with_reducible refine i_andV ?_)
  | (with_reducible refine i_orV ?_)
  | (with_reducible refine i_notV ?_)
  | (with_reducible refine i_if ?_)
  | (with_reducible refine i_chain ?_)
  | (with_reducible refine i_un ?_)
  | (with_reducible refine i_neg ?_)
  | (with_reducible refine i_sub ?_)
  | (with_reducible refine i_sl ?_)
  | (with_reducible refine i_noP ?_)
  | (with_reducible refine i_part ?_)
  | (with_reducible refine i_int ?_)
  | (with_reducible refine i_bm ?_)
  | (with_reducible refine i_strT ?_)
  | (with_reducible refine i_yes ?_)
  | (with_reducible refine i_call ?_)
  | ((with_reducible refine i_len ?_ ?_); (focus (exact sz (by simp))))
  | (with_reducible refine i_lc ?_)
  | (with_reducible refine i_for ?_)
  | (with_reducible refine i_rng1 ?_)
  | (with_reducible refine i_rng2 ?_)
  | (with_reducible refine l_addI ?_)
  | (with_reducible refine l_subI ?_)
  | (with_reducible refine l_cmp ?_)
  | (with_reducible refine l_eqI ?_)
  | (with_reducible refine l_eqS ?_)
  | (with_reducible refine l_eqB ?_)
  | (with_reducible refine l_neI ?_)
  | (with_reducible refine l_neS ?_)
  | (with_reducible refine l_neB ?_)
  | (with_reducible refine l_isN ?_)
  | (with_reducible refine l_isNotN ?_)
  | (with_reducible refine l_isB ?_)
  | (with_reducible refine l_isNotB ?_)
  | (with_reducible refine l_intI ?_)
  | (with_reducible refine l_intB ?_)
  | (with_reducible refine l_inC ?_)
  | (refine ⟨_, _, rfl, rfl, sz (by first | omega | simp; omega), ?_⟩)
  | ((with_reducible refine l_pow ?_ ?_); (focus (exact ⟨by decide, by decide, by decide⟩)))
  | ((with_reducible refine l_mul ?_ ?_); (focus (first | assumption | exact Or.inl (Or.inl ⟨by omega, by omega⟩) | exact Or.inl (Or.inr ⟨by omega, by omega⟩))))
  | ((with_reducible refine l_div ?_ ?_); (focus (first | assumption | exact ⟨by decide, by decide⟩)))
  | ((with_reducible apply l_setL); (assumption); (exact rfl))
  | ((with_reducible refine l_mod ?_ ?_); (walk_at "side"))
  | ((with_reducible apply l_ixL); (assumption); (exact rfl))
  | ((with_reducible refine l_lenS ?_ ?_); (focus (first | assumption | exact sz (by omega) | exact sz (by simp; omega))))
  | ((with_reducible refine l_slS ?_ ?_); (focus (first | assumption | exact sz (by omega))))
  | ((with_reducible apply l_isi); (walk_at "ty"); (walk_at "kt"))
  | ((with_reducible apply l_lenL); (assumption)))
local macro_rules | `(tactic| walk_at "go") => `(tactic| repeat (walk_at "1"))
local macro_rules | `(tactic| walk_at "1") => `(tactic| first
  | (with_reducible refine i_mkS ?_)
  | (with_reducible refine i_cS ?_)
  | (with_reducible refine i_fld ?_)
  | (with_reducible refine i_sFld ?_)
  | (with_reducible refine i_tX ?_)
  | (with_reducible refine l_len2 rfl rfl ?_))
local macro_rules | `(tactic| walk_at "1") => `(tactic| first
  | (with_reducible refine i_stp ?_)
  | ((with_reducible apply i_iad); (exact rfl))
  | (with_reducible refine i_cO ?_)
  | (with_reducible refine i_prp ?_)
  | (with_reducible refine i_mtS ?_)
  | (with_reducible refine i_fldaug ?_)
  | (with_reducible refine i_par ?_)
  | (with_reducible refine i_par3 ?_)
  | (with_reducible refine i_revL ?_))
section
variable {P : Program} {w : World} {K : PySem.W.Frag} {mg : Str → Option Value} {base : Heap}
theorem sqT_butL {H H' : Hp} {x p : Addr} {zs xs : List V} (b : But x H H') (hx : H x = some (.lst zs)) (h : SqT K H p xs) : SqT K H' p xs := by
  rcases h with (h | ⟨o, h⟩) | h
  · exact .inl (.inl (b _ _ (fun z => by rw [z, hx] at h; cases h) h))
  · exact .inl (.inr ⟨o, b _ _ (fun z => by rw [z, hx] at h; cases h) h⟩)
  · exact .inr h
theorem l_ixT' {H : Hp} {p : Addr} {xs : List V} {i : Int} {x : V} {Q : VK} (h : SqT K H p xs) (e : atI xs i = some x) (q : Q x H) : rIxA K (.ref p) (.int i) H Q := ⟨xs, x, .inr h, e, q⟩
theorem atI_last {xs : List V} {n : Nat} {x : V} (h : xs[n]? = some x) (hl : xs.length = n + 1) : atI xs (-1) = some x := by
  unfold atI ixN
  rw [if_neg (by decide), if_pos (by omega), hl]
  rw [show (-1 + ((n + 1 : Nat) : Int)).toNat = n by omega]
  exact h
/-! entries: tuples of flat values -/
def dE (fs : List V) : PyData := .tuple (fs.map flatD)
def eqE (fs gs : List V) : Bool := PyData.eqvAll (fs.map flatD) (gs.map flatD)
def Fl (fs : List V) : Prop := ∀ x ∈ fs, flatV x = true ∧ (flatD x).canLay0 = true
theorem dp_flat {H : Hp} {x : V} (h : flatV x = true) : Dp K H x (flatD x) := by
  cases x with
  | non => exact .non
  | bl b => exact .bl b
  | int i => exact .int i
  | str z => exact .str z
  | byt b => cases h
  | flt b => cases h
  | ref b => cases h
  | ty b => cases h
theorem flatD_depth (x : V) : (flatD x).depth = 0 := by cases x <;> simp [flatD, PyData.depth]
theorem dp_flats {H : Hp} : ∀ {fs : List V}, (∀ x ∈ fs, flatV x = true) → DpAll K H fs (fs.map flatD)
  | [], _ => .nil
  | x :: xs, h => .cons (dp_flat (h x List.mem_cons_self)) (dp_flats fun y hy => h y (List.mem_cons_of_mem _ hy))
theorem lay_all : ∀ {ds : List PyData}, (∀ d ∈ ds, d.canLay0 = true) → PyData.canLayAll0 ds = true
  | [], _ => by simp [PyData.canLayAll0]
  | d :: ds, h => by rw [PyData.canLayAll0, h d List.mem_cons_self, lay_all fun y hy => h y (List.mem_cons_of_mem _ hy)]; rfl
theorem depth_all {n : Nat} : ∀ {ds : List PyData}, (∀ d ∈ ds, d.depth ≤ n) → PyData.depthAll ds ≤ n
  | [], _ => by simp [PyData.depthAll]
  | d :: ds, h => by
    rw [PyData.depthAll]
    exact Nat.max_le.mpr ⟨h d List.mem_cons_self, depth_all fun y hy => h y (List.mem_cons_of_mem _ hy)⟩
theorem dE_lay {fs : List V} (h : Fl fs) : (dE fs).canLay0 = true := by
  unfold dE
  rw [PyData.canLay0]
  refine lay_all fun d hd => ?_
  obtain ⟨x, hx, rfl⟩ := List.mem_map.mp hd
  exact (h x hx).2
theorem dE_depth (fs : List V) : (dE fs).depth ≤ 1 := by
  unfold dE
  rw [PyData.depth]
  have := depth_all (n := 0) (ds := fs.map flatD) fun d hd => by
    obtain ⟨x, hx, rfl⟩ := List.mem_map.mp hd
    rw [flatD_depth]
    exact Nat.le_refl _
  omega
theorem dE_sh {fs : List V} (h : Fl fs) : SeqAt.shaped (dE fs) = true := by
  unfold SeqAt.shaped
  have := dE_depth fs
  rw [dE_lay h, decide_eq_true (by omega)]
  rfl
theorem dEs_lay {es : List (List V)} (h : ∀ fs ∈ es, Fl fs) : PyData.canLayAll0 (es.map dE) = true := lay_all fun d hd => by
  obtain ⟨x, hx, rfl⟩ := List.mem_map.mp hd
  exact dE_lay (h x hx)
theorem dEs_depth (es : List (List V)) : PyData.depthAll (es.map dE) ≤ 1 := depth_all fun d hd => by
  obtain ⟨x, hx, rfl⟩ := List.mem_map.mp hd
  exact dE_depth x
theorem dEs_shT {es : List (List V)} (h : ∀ fs ∈ es, Fl fs) : SeqAt.shaped (.tuple (es.map dE)) = true := by
  unfold SeqAt.shaped
  have := dEs_depth es
  rw [PyData.canLay0, dEs_lay h, PyData.depth, decide_eq_true (by omega)]
  rfl
theorem dEs_shL {es : List (List V)} (h : ∀ fs ∈ es, Fl fs) : SeqAt.shaped (.list (es.map dE)) = true := by
  unfold SeqAt.shaped
  have := dEs_depth es
  rw [PyData.canLay0, dEs_lay h, PyData.depth, decide_eq_true (by omega)]
  rfl
theorem eqE_comm (fs gs : List V) : eqE fs gs = eqE gs fs := PySem.W.eqvAll_comm _ _
def eqS (es gs : List (List V)) : Bool := PyData.eqvAll (es.map dE) (gs.map dE)
theorem eqS_refl {es : List (List V)} (h : ∀ fs ∈ es, Fl fs) : eqS es es = true := PySem.SeqAt.eqvAll_refl _ (dEs_lay h)
/-- the entry at v -/
def At (K : PySem.W.Frag) (H : Hp) (v : V) (fs : List V) : Prop := ∃ p, v = .ref p ∧ SqT K H p fs
inductive Ats (K : PySem.W.Frag) (H : Hp) : List V → List (List V) → Prop where
  | nil : Ats K H [] []
  | cons {v : V} {fs : List V} {vs : List V} {es : List (List V)} : At K H v fs → Ats K H vs es → Ats K H (v :: vs) (fs :: es)
theorem At.mono {H H' : Hp} {v : V} {fs : List V} (h : At K H v fs) (e : Ex H H') : At K H' v fs := by
  obtain ⟨p, rfl, h⟩ := h
  exact ⟨p, rfl, sqT_mono e h⟩
theorem Ats.mono {H H' : Hp} (e : Ex H H') : ∀ {vs : List V} {es : List (List V)}, Ats K H vs es → Ats K H' vs es
  | _, _, .nil => .nil
  | _, _, .cons a b => .cons (a.mono e) (Ats.mono e b)
theorem Ats.butL {H H' : Hp} {x : Addr} {zs : List V} (b : But x H H') (hx : H x = some (.lst zs)) : ∀ {vs : List V} {es : List (List V)}, Ats K H vs es → Ats K H' vs es
  | _, _, .nil => .nil
  | _, _, .cons ⟨p, e, h⟩ r => .cons ⟨p, e, sqT_butL b hx h⟩ (Ats.butL b hx r)
theorem Ats.length {H : Hp} : ∀ {vs : List V} {es : List (List V)}, Ats K H vs es → vs.length = es.length
  | _, _, .nil => rfl
  | _, _, .cons _ r => by rw [List.length_cons, List.length_cons, Ats.length r]
theorem Ats.dp {H : Hp} : ∀ {vs : List V} {es : List (List V)}, Ats K H vs es → (∀ fs ∈ es, Fl fs) → DpAll K H vs (es.map dE)
  | _, _, .nil, _ => .nil
  | _, _, .cons ⟨p, e, h⟩ r, hf => by
    subst e
    exact .cons (.tup h (dp_flats fun x hx => (hf _ List.mem_cons_self x hx).1)) (Ats.dp r fun fs h => hf fs (List.mem_cons_of_mem _ h))
theorem Ats.app {H : Hp} : ∀ {vs ws : List V} {es gs : List (List V)}, Ats K H vs es → Ats K H ws gs → Ats K H (vs ++ ws) (es ++ gs)
  | _, _, _, _, .nil, h => h
  | _, _, _, _, .cons a b, h => .cons a (Ats.app b h)
theorem Ats.take {H : Hp} : ∀ {vs : List V} {es : List (List V)} (k : Nat), Ats K H vs es → Ats K H (vs.take k) (es.take k)
  | _, _, 0, _ => .nil
  | _, _, _ + 1, .nil => .nil
  | _, _, k + 1, .cons a b => .cons a (Ats.take k b)
theorem Ats.get {H : Hp} : ∀ {vs : List V} {es : List (List V)} {i : Nat} {v : V}, Ats K H vs es → vs[i]? = some v → ∃ fs, es[i]? = some fs ∧ At K H v fs
  | _, _, 0, _, .cons a b, h => ⟨_, rfl, by cases h; exact a⟩
  | _, _, i + 1, _, .cons a b, h => by
    obtain ⟨fs, h1, h2⟩ := Ats.get b (i := i) h
    exact ⟨fs, h1, h2⟩
def unl : List (List V) → List (List V) → Nat → Option Nat
  | x :: xs, y :: ys, i => if eqE x y = true then unl xs ys (i + 1) else some i
  | _, _, _ => none
theorem unl_comm : ∀ (es gs : List (List V)) (i : Nat), unl es gs i = unl gs es i
  | [], [], _ => rfl
  | [], _ :: _, _ => rfl
  | _ :: _, [], _ => rfl
  | x :: xs, y :: ys, i => by rw [unl, unl, eqE_comm x y, unl_comm xs ys]
def optV : Option Nat → V
  | none => .non
  | some i => .int i
theorem optV_scal (o : Option Nat) : scal (optV o) (optV o) = true := by cases o <;> rfl
theorem drop_at {α : Type} {xs : List α} {i : Nat} {x : α} (h : xs[i]? = some x) : xs.drop i = x :: xs.drop (i + 1) := by
  have hi : i < xs.length := by
    rcases Nat.lt_or_ge i xs.length with h' | h'
    · exact h'
    · rw [List.getElem?_eq_none h'] at h
      cases h
  rw [List.drop_eq_getElem_cons hi]
  rw [List.getElem?_eq_getElem hi] at h
  rw [Option.some.inj h]
section
variable {H : Hp} {x y : V} {d e : PyData} {b : Bool} {Q : VK}
theorem l_eqD (h1 : Dp K H x d) (h2 : Dp K H y e) (s1 : SeqAt.shaped d = true) (s2 : SeqAt.shaped e = true) (hb : PyData.eqv d e = b) (q : Q (.bl b) H) : rEqA K x y H Q := .inr ⟨d, e, h1, h2, s1, s2, by rw [hb]; exact q⟩
theorem l_neD (h1 : Dp K H x d) (h2 : Dp K H y e) (s1 : SeqAt.shaped d = true) (s2 : SeqAt.shaped e = true) (hb : PyData.eqv d e = b) (q : Q (.bl (!b)) H) : rNeA K x y H Q := .inr ⟨d, e, h1, h2, s1, s2, by rw [hb]; exact q⟩
end
theorem ne_at {H : Hp} {x y : V} {fs gs : List V} {Q : VK} (h1 : At K H x fs) (h2 : At K H y gs) (f1 : Fl fs) (f2 : Fl gs) (q : Q (.bl (!eqE fs gs)) H) : rNeA K x y H Q := by
  obtain ⟨p, rfl, h1⟩ := h1
  obtain ⟨p', rfl, h2⟩ := h2
  exact l_neD (d := dE fs) (e := dE gs) (.tup h1 (dp_flats fun x hx => (f1 x hx).1)) (.tup h2 (dp_flats fun x hx => (f2 x hx).1)) (dE_sh f1) (dE_sh f2) (by unfold dE; rw [PyData.eqv]; rfl) q
theorem i_ixI {C : Addr} {sp : Sp} {E : L2.St → XK} {ta tb : TE} {σ : L2.St} {H : Hp} {Q : VK} (q : ta σ H fun x H1 => tb σ H1 fun y H2 => ∃ a dx fs, x = .ref a ∧ H2 a = some (.ins C dx fs) ∧ sp [x, y] H2 Q (E σ)) : tIxI C sp E ta tb σ H Q := q
/-! class Log -/
def lgF (t : Addr) : List (Str × V) := putF "own_entries" (.ref t) []
theorem lk_own {t : Addr} : (lgF t).lookup ("own_entries" : Str) = some (V.ref t) := rfl
def LogAt (K : PySem.W.Frag) (C : Addr) (H : Hp) (v : V) (es : List (List V)) : Prop := ∃ x dx t vs, v = .ref x ∧ H x = some (.ins C dx (lgF t)) ∧ SqT K H t vs ∧ Ats K H vs es ∧ (∀ fs ∈ es, Fl fs) ∧ es.length ≤ 100
theorem LogAt.mono {C : Addr} {H H' : Hp} {v : V} {es : List (List V)} (h : LogAt K C H v es) (e : Ex H H') : LogAt K C H' v es := by
  obtain ⟨x, dx, t, vs, rfl, h1, h2, h3, h4⟩ := h
  exact ⟨x, dx, t, vs, rfl, e _ _ h1, sqT_mono e h2, h3.mono e, h4⟩
theorem LogAt.butL {C : Addr} {H H' : Hp} {x : Addr} {zs : List V} {v : V} {es : List (List V)} (h : LogAt K C H v es) (hx : H x = some (.lst zs)) (b : But x H H') : LogAt K C H' v es := by
  obtain ⟨y, dx, t, vs, rfl, h1, h2, h3, h4⟩ := h
  exact ⟨y, dx, t, vs, rfl, b _ _ (fun z => by rw [z, hx] at h1; cases h1) h1, sqT_butL b hx h2, h3.butL b hx, h4⟩
def spInt (K : PySem.W.Frag) : Sp := fun vs H Q _ => ∃ x, vs = [x] ∧ Kd K H x ∧ Q (.bl (isI x)) H
theorem ok_int {a_ENDS C_NoEntry C_Log : Addr} (T : Tp K mg a_ENDS C_NoEntry C_Log) : Cal P w K mg base 1 "is_integer" (spInt K) [] := by
  refine T.d_is_integer.cal sc_is_integer (fun vs H Q E h => ?_) (fun f cdv A outer s H vs Q E hr h => ?_)
  · obtain ⟨x, rfl, _⟩ := h
    rfl
  · obtain ⟨x, rfl, hk, q⟩ := h
    have sc := sc_is_integer
    refine ⟨_, 
    (pss_one (ps_ret (pe_and (pe_callB (kIsi (K := K) rfl) (by rfl) T.m_isinstance (by decide +kernel) (pa_cons (pv 0) (pa_cons (gTy (n := "int") (by rfl) T.m_int (by decide +kernel)) pa_nil))) (pe_one (pe_not (pe_callB (kIsi (K := K) rfl) (by rfl) T.m_isinstance (by decide +kernel) (pa_cons (pv 0) (pa_cons (gTy (n := "bool") (by rfl) T.m_bool (by decide +kernel)) pa_nil)))))))), ?_⟩
    try rw [cxK]
    refine i_start (τ := [some x]) rfl ?_
    obtain ⟨t, ty, ⟨b, e1, e2⟩, e3, _⟩ := hk.is
    walk_at "go"
    refine i_iteB (fun eb => ?_) (fun eb => ?_)
    · walk_at "go"
      rw [e2, eb] at q
      exact q
    · rw [e2, eb] at q
      exact q
def spLog (K : PySem.W.Frag) (C : Addr) : Sp := fun vs H Q _ => ∃ x dx en ws, vs = [.ref x, en] ∧ H x = some (.ins C dx []) ∧ Sq K H en ws ∧ ∀ H' t, But x H H' → H' x = some (.ins C dx (lgF t)) → SqT K H' t ws → Q .non H'
theorem ok_log {a_ENDS C_NoEntry C_Log : Addr} (T : Tp K mg a_ENDS C_NoEntry C_Log) : Ini P w K mg base 1 "Log" C_Log "Log.__init__" s_Log___init__ [] ["self", "entries"] (spLog K C_Log) := by
  refine T.i_Log.ini sc_Log___init__ (fun vs H Q E h => ?_) (fun f cdv A outer s H vs Q E hr _ h => ?_)
  · obtain ⟨x, dx, en, ws, rfl, _⟩ := h
    rfl
  · obtain ⟨x, dx, en, ws, rfl, hx, hs, q⟩ := h
    have sc := sc_Log___init__
    refine ⟨_, 
    (pss_one (ps_fld (pv 0) (pe_callTy (k_tuple (K := K) rfl) (by rfl) T.m_tuple (by decide +kernel) (pa_cons (pv 1) pa_nil)) rfl)), ?_⟩
    try rw [cxK]
    refine i_start (τ := [some (.ref x), some en]) rfl ?_
    walk_at "go"
    refine l_tupSq hs fun p H3 e3 hp => ?_
    have hx3 := e3 _ _ hx
    walk_at "go"
    refine ⟨x, C_Log, dx, [], rfl, hx3, T.cl_Log, T.n_Log_own_entries, by decide, ?_⟩
    have b3 : But x H3 (upd H3 x (.ins C_Log dx (lgF p))) := (But.refl H3).mut
    exact q _ p (e3.but.trans b3) upd_same (sqT_but b3 hx3 hp)
theorem mk_Log_1 {a_ENDS C_NoEntry C_Log : Addr} (T : Tp K mg a_ENDS C_NoEntry C_Log) : MakG P w K mg base 1 "Log" C_Log (spLog K C_Log) 1 [] (fun vs _ => vs) :=
  (ok_log T).mak fun f fd F => ⟨_, kbn_of (ps := ["self", "entries"]) (F.bindsN fun kV doc pm an cdv ct us hl => match us, hl with | [_, _], _ => rfl)⟩
theorem ex_made {H H' : Hp} {x dx : Addr} {o u : HO} (hx : H x = none) (hdx : H dx = none) (b : But x (upd (upd H dx o) x u) H') : Ex H H' := fun a w ha => by
  have h1 := ne_of_none ha hx
  have h2 := ne_of_none ha hdx
  exact b a w h1 (by rw [upd_ne h1, upd_ne h2]; exact ha)
theorem ex_new2 {H : Hp} {x dx : Addr} {o u : HO} (hx : H x = none) (hdx : H dx = none) : Ex H (upd (upd H dx o) x u) := fun a w ha => by
  rw [upd_ne (ne_of_none ha hx), upd_ne (ne_of_none ha hdx)]
  exact ha
theorem log_new {C : Addr} {H : Hp} {en : V} {ws : List V} {es : List (List V)} {Q : Addr → Hp → Prop} {E : XK} (hs : Sq K H en ws) (ha : Ats K H ws es) (hf : ∀ fs ∈ es, Fl fs) (hl : es.length ≤ 100) (q : ∀ x H', Ex H H' → LogAt K C H' (.ref x) es → Q x H') :
    ∀ x dx, H x = none → H dx = none → dx ≠ x → spLog K C [.ref x, en] (upd (upd H dx (.own x)) x (.ins C dx [])) (fun v H3 => v = .non ∧ Q x H3) E := by
  intro x dx hx hdx hne
  have e := ex_new2 (o := HO.own x) (u := HO.ins C dx []) hx hdx
  refine ⟨x, dx, en, ws, rfl, upd_same, hs.mono e, fun H' t b hx' ht => ⟨rfl, q _ _ (ex_made hx hdx b) ⟨x, dx, t, ws, rfl, hx', ht, ha.mono (ex_made hx hdx b), hf, hl⟩⟩⟩
theorem fld_own {a_ENDS C_NoEntry C_Log : Addr} (T : Tp K mg a_ENDS C_NoEntry C_Log) {H : Hp} {v : V} {es : List (List V)} {R : V → Prop} (h : LogAt K C_Log H v es) (q : ∀ t vs, SqT K H t vs → Ats K H vs es → R (.ref t)) : ∃ a C dx fs v', v = .ref a ∧ H a = some (.ins C dx fs) ∧ Cls K C ∧ NoAttr K C "own_entries" ∧ fs.lookup ("own_entries" : Str) = some v' ∧ R v' := by
  obtain ⟨x, dx, t, vs, rfl, hx, h1, h2, _⟩ := h
  exact ⟨x, C_Log, dx, _, _, rfl, hx, T.cl_Log, T.n_Log_own_entries, lk_own, q t vs h1 h2⟩
/-- log[at] -/
def spItm (K : PySem.W.Frag) (C CB : Addr) : Sp := fun vs H Q E => ∃ v es at_, vs = [v, at_] ∧ LogAt K C H v es ∧ ((∃ i : Nat, at_ = .int i ∧ ∃ fs, es[i]? = some fs ∧ ∀ u, At K H u fs → Q u H) ∨
  (Kd K H at_ ∧ (∀ i : Int, at_ = .int i → i < 0 ∨ (es.length : Int) ≤ i) ∧ ∀ d, H d = none → E (.ref CB) (some d) (upd H d (.xd [("index", at_)]))))
theorem ok_itm {a_ENDS C_NoEntry C_Log : Addr} (T : Tp K mg a_ENDS C_NoEntry C_Log) : MetG P w K mg base false 3 C_Log "__getitem__" (spItm K C_Log C_NoEntry) ["self", "at"] := by
  have c_is_integer : Cal P w K mg base 1 "is_integer" (spInt K) [] := ok_int T
  refine T.m_Log___getitem__.metX sc_Log___getitem__ (fun vs H Q E h => ?_) (fun f cdv A outer s H vs Q E hr _ h => ?_)
  · obtain ⟨v, es, at_, rfl, _⟩ := h
    rfl
  · obtain ⟨v, es, at_, rfl, hL, h⟩ := h
    have sc := sc_Log___getitem__
    refine ⟨_, 
    (pss_cons (ps_if (pt_cut (PW.pt (pw_or (pt_not (kTruth (K := K) rfl (pe_c c_is_integer hr (by decide) (by rfl) (pa_cons (pv 1) pa_nil)) (by intro _; rfl))) (pw_or1 (pt_not (pt_chain gLe gLt (pe_int) (pv 1) (pe_callB (kLen (K := K) rfl) (by rfl) T.m_len PySem.boot_len (pa_cons (pe_fld (pv 0) rfl) pa_nil)))))))) (
      (pss_one (ps_raise rfl (takes_of rfl rfl rfl rfl) (pmk_x (T.x_NoEntry P w base) hr (by decide) (by rfl) (pa_cons (pv 1) pa_nil))))) (pss_nil))
    (pss_one (ps_ret (pe_ix (kIx (K := K) rfl) (pe_fld (pv 0) rfl) (pv 1) (fun _ _ => rfl))))), ?_⟩
    try rw [cxK]
    refine i_start (τ := [some v, some at_]) rfl ?_
    walk_at "go"
    rcases h with ⟨i, rfl, fs, hi, q⟩ | ⟨hk, hn, q⟩
    · have hlt : i < es.length := by
        rcases Nat.lt_or_ge i es.length with h' | h'
        · exact h'
        · rw [List.getElem?_eq_none h'] at hi
          cases hi
      refine i_isT false ?_ ?_
      · walk_at "go"
        refine ⟨_, rfl, .inl rfl, true, by simp [TruV, isI], ?_⟩
        walk_at "go"
        refine i_ite (fun h0 => ?_) (fun h0 => ?_)
        · walk_at "go"
          refine fld_own T hL fun t vs ht ha => ?_
          walk_at "go"
          refine ⟨_, .inr ht, ?_⟩
          have := ha.length
          walk_at "go"
          exact ⟨by rw [decide_eq_true (by omega)]; rfl, rfl⟩
        · exact absurd (show (0 : Int) ≤ (i : Int) by omega) h0
      walk_at "go"
      refine fld_own T hL fun t vs ht ha => ?_
      walk_at "go"
      have hl := ha.length
      obtain ⟨u, hu⟩ : ∃ u, vs[i]? = some u := ⟨_, List.getElem?_eq_getElem (by omega)⟩
      obtain ⟨fs', h1, h2⟩ := ha.get hu
      rw [hi] at h1
      cases h1
      exact l_ixT' ht (atI_nat hu) (q u h2)
    · refine i_isT true ?_ ?_
      · walk_at "go"
        refine ⟨_, rfl, hk, isI at_, by simp [TruV], ?_⟩
        cases at_ with
        | int i =>
          simp only [isI]
          walk_at "go"
          refine i_ite (fun h0 => ?_) (fun h => ?_)
          · walk_at "go"
            refine fld_own T hL fun t vs ht ha => ?_
            walk_at "go"
            refine ⟨_, .inr ht, ?_⟩
            have := ha.length
            have := hn i rfl
            walk_at "go"
            exact ⟨by rw [decide_eq_false (by omega)]; rfl, rfl⟩
          · walk_at "go"
            exact ⟨rfl, rfl⟩
        | _ =>
          simp only [isI]
          walk_at "go"
          first | exact ⟨True.intro, rfl⟩ | exact ⟨rfl, rfl⟩ | trivial
      walk_at "go"
      exact ⟨at_, rfl, q⟩
/-- len(log) -/
def spLenL (K : PySem.W.Frag) (C : Addr) : Sp := fun vs H Q _ => ∃ v es, vs = [v] ∧ LogAt K C H v es ∧ Q (.int es.length) H
theorem ok_len {a_ENDS C_NoEntry C_Log : Addr} (T : Tp K mg a_ENDS C_NoEntry C_Log) : MetG P w K mg base false 1 C_Log "__len__" (spLenL K C_Log) ["self"] := by
  refine T.m_Log___len__.met sc_Log___len__ (fun vs H Q E h => ?_) (fun f cdv A outer s H vs Q E hr _ h => ?_)
  · obtain ⟨v, es, rfl, _⟩ := h
    rfl
  · obtain ⟨v, es, rfl, hL, q⟩ := h
    have sc := sc_Log___len__
    refine ⟨_, 
    (pss_one (ps_ret (pe_callB (kLen (K := K) rfl) (by rfl) T.m_len PySem.boot_len (pa_cons (pe_fld (pv 0) rfl) pa_nil)))), ?_⟩
    try rw [cxK]
    refine i_start (τ := [some v]) rfl ?_
    walk_at "go"
    refine fld_own T hL fun t vs ht ha => ?_
    walk_at "go"
    refine ⟨_, .inr ht, ?_⟩
    rw [ha.length]
    exact q
/-- log == other -/
def spEqL (K : PySem.W.Frag) (C : Addr) : Sp := fun vs H Q _ => ∃ v y es, vs = [v, y] ∧ LogAt K C H v es ∧ ((∃ gs, LogAt K C H y gs ∧ Q (.bl (eqS es gs)) H) ∨ ((∃ p xs, y = .ref p ∧ SqL K H p xs) ∧ Q (.bl false) H) ∨ (y = .non ∧ Q (.bl false) H))
theorem ok_eq {a_ENDS C_NoEntry C_Log : Addr} (T : Tp K mg a_ENDS C_NoEntry C_Log) : MetG P w K mg base false 1 C_Log "__eq__" (spEqL K C_Log) ["self", "other"] := by
  refine T.m_Log___eq__.met sc_Log___eq__ (fun vs H Q E h => ?_) (fun f cdv A outer s H vs Q E hr _ h => ?_)
  · obtain ⟨v, y, es, rfl, _⟩ := h
    rfl
  · obtain ⟨v, y, es, rfl, hL, h⟩ := h
    have sc := sc_Log___eq__
    refine ⟨_, 
    (pss_one (ps_ret (pe_and (pe_callB (kIsi (K := K) rfl) (by rfl) T.m_isinstance (by decide +kernel) (pa_cons (pv 1) (pa_cons (pe_gc (by rfl) T.k_Log) pa_nil))) (pe_one (pe_cmpR (kEq (K := K) rfl hr) (pe_fld (pv 0) rfl) (pe_fld (pv 1) rfl) (nomark _)))))), ?_⟩
    try rw [cxK]
    refine i_start (τ := [some v, some y]) rfl ?_
    walk_at "go"
    rcases h with ⟨gs, hG, q⟩ | ⟨⟨p, xs, rfl, hs⟩, q⟩ | ⟨rfl, q⟩
    · have hG' := hG
      obtain ⟨b, dy, t', ws, rfl, hy, _, _, f2, _⟩ := hG'
      refine .inl ⟨_, _, _, _, true, rfl, .own _, T.ty_Log _ _ _ _ hy, kit_self, ?_⟩
      walk_at "go"
      refine fld_own T hL fun t vs ht ha => ?_
      walk_at "go"
      refine fld_own T hG fun t' ws ht' ha' => ?_
      have f1 : ∀ fs ∈ es, Fl fs := by obtain ⟨_, _, _, _, _, _, _, _, f1, _⟩ := hL; exact f1
      exact l_eqD (.tup ht (ha.dp f1)) (.tup ht' (ha'.dp f2)) (dEs_shT f1) (dEs_shT f2) (by rw [PyData.eqv]; rfl) q
    · refine .inl ⟨_, _, _, _, false, rfl, .own _, tyL hs, T.kt_Log_list, ?_⟩
      walk_at "go"
      exact q
    · refine .inl ⟨_, _, _, _, false, rfl, .own _, .base .non, T.kt_Log_NoneType, ?_⟩
      walk_at "go"
      exact q
section
variable {H : Hp} {x y : V} {es gs : List (List V)} {Q : VK}
theorem eq_LL {a_ENDS C_NoEntry C_Log : Addr} (T : Tp K mg a_ENDS C_NoEntry C_Log) (h1 : LogAt K C_Log H x es) (h2 : LogAt K C_Log H y gs) (q : Q (.bl (eqS es gs)) H) : rOpI K C_Log (spEqL K C_Log) x y H Q := by
  have g1 := h1
  have g2 := h2
  obtain ⟨a, dx, t, vs, rfl, hx, _⟩ := h1
  obtain ⟨b, dy, t', ws, rfl, hy, _⟩ := h2
  exact ⟨a, dx, _, _, rfl, hx, T.ty_Log _ _ _ _ hy, nf_self, _, _, es, rfl, g1, .inl ⟨gs, g2, q⟩⟩
theorem ne_LS {a_ENDS C_NoEntry C_Log : Addr} (T : Tp K mg a_ENDS C_NoEntry C_Log) {p : Addr} {xs : List V} (h1 : LogAt K C_Log H x es) (h2 : SqL K H p xs) (q : Q (.bl true) H) : rNeI K C_Log (spEqL K C_Log) x (.ref p) H Q := by
  have g1 := h1
  obtain ⟨a, dx, t, vs, rfl, hx, _⟩ := h1
  exact ⟨a, dx, _, _, rfl, hx, tyL h2, nf_of T.nf_Log_list, _, _, es, rfl, g1, .inr (.inl ⟨⟨p, xs, rfl, h2⟩, _, rfl, q⟩)⟩
theorem eq_LN {a_ENDS C_NoEntry C_Log : Addr} (T : Tp K mg a_ENDS C_NoEntry C_Log) (h1 : LogAt K C_Log H x es) (q : Q (.bl false) H) : rOpI K C_Log (spEqL K C_Log) x .non H Q := by
  have g1 := h1
  obtain ⟨a, dx, t, vs, rfl, hx, _⟩ := h1
  exact ⟨a, dx, _, _, rfl, hx, .base .non, nf_of T.nf_Log_NoneType, _, _, es, rfl, g1, .inr (.inr ⟨rfl, q⟩)⟩
end
/-- log <= other -/
def spLe (K : PySem.W.Frag) (C : Addr) : Sp := fun vs H Q _ => ∃ v y es gs, vs = [v, y] ∧ LogAt K C H v es ∧ LogAt K C H y gs ∧ ∀ H', Ex H H' → Q (.bl (eqS es (gs.take es.length))) H'
theorem ok_le {a_ENDS C_NoEntry C_Log : Addr} (T : Tp K mg a_ENDS C_NoEntry C_Log) : MetG P w K mg base false 1 C_Log "__le__" (spLe K C_Log) ["self", "other"] := by
  refine T.m_Log___le__.met sc_Log___le__ (fun vs H Q E h => ?_) (fun f cdv A outer s H vs Q E hr _ h => ?_)
  · obtain ⟨v, y, es, gs, rfl, _⟩ := h
    rfl
  · obtain ⟨v, y, es, gs, rfl, hL, hG, q⟩ := h
    have sc := sc_Log___le__
    refine ⟨_, 
    (pss_one (ps_ret (pe_cmpR (kEq (K := K) rfl hr) (pe_fld (pv 0) rfl) (pe_slice (kSl (K := K) rfl) (pe_fld (pv 1) rfl) po_none (po_some (pe_callB (kLen (K := K) rfl) (by rfl) T.m_len PySem.boot_len (pa_cons (pe_fld (pv 0) rfl) pa_nil)))) (nomark _)))), ?_⟩
    try rw [cxK]
    refine i_start (τ := [some v, some y]) rfl ?_
    walk_at "go"
    refine fld_own T hL fun t vs ht ha => ?_
    walk_at "go"
    refine fld_own T hG fun t' ws ht' ha' => ?_
    walk_at "go"
    refine fld_own T hL fun t2 vs2 ht2 ha2 => ?_
    walk_at "go"
    refine ⟨_, .inr ht2, ?_⟩
    walk_at "go"
    refine l_slT ht' fun t3 H3 e3 ht3 => ?_
    rw [ha2.length, cut_take] at ht3
    have f1 : ∀ fs ∈ es, Fl fs := by obtain ⟨_, _, _, _, _, _, _, _, f1, _⟩ := hL; exact f1
    have f2 : ∀ fs ∈ gs, Fl fs := by obtain ⟨_, _, _, _, _, _, _, _, f1, _⟩ := hG; exact f1
    have f3 : ∀ fs ∈ gs.take es.length, Fl fs := fun fs h => f2 fs (List.mem_of_mem_take h)
    exact l_eqD (.tup (sqT_mono e3 ht) ((ha.mono e3).dp f1)) (.tup ht3 (((ha'.take es.length).mono e3).dp f3)) (dEs_shT f1) (dEs_shT f3) (by rw [PyData.eqv]; rfl) (q H3 e3)
theorem le_LL {a_ENDS C_NoEntry C_Log : Addr} (T : Tp K mg a_ENDS C_NoEntry C_Log) {H : Hp} {x y : V} {es gs : List (List V)} {Q : VK} (h1 : LogAt K C_Log H x es) (h2 : LogAt K C_Log H y gs) (q : ∀ H', Ex H H' → Q (.bl (eqS es (gs.take es.length))) H') : rOpI K C_Log (spLe K C_Log) x y H Q := by
  have g1 := h1
  have g2 := h2
  obtain ⟨a, dx, t, vs, rfl, hx, _⟩ := h1
  obtain ⟨b, dy, t', ws, rfl, hy, _⟩ := h2
  exact ⟨a, dx, _, _, rfl, hx, T.ty_Log _ _ _ _ hy, nf_self, _, _, es, gs, rfl, g1, g2, q⟩
/-- log.how -/
abbrev endsV : List V := [.str "ended", .str "refused", .str "short", .str "open"]
def spHow (K : PySem.W.Frag) (C : Addr) : Sp := fun vs H Q _ => ∃ v es, vs = [v] ∧ LogAt K C H v es ∧ ((es = [] ∧ ∀ H', Ex H H' → Q (.str "cut") H') ∨ (∃ es' z r, es = es' ++ [V.str z :: r] ∧ ∀ H', Ex H H' → Q (.str (if inV (.str z) endsV = true then z else "cut")) H'))
theorem ok_how {a_ENDS C_NoEntry C_Log : Addr} (T : Tp K mg a_ENDS C_NoEntry C_Log) : PrpG P w K mg base 1 C_Log "how" (spHow K C_Log) := by
  refine T.p_Log_how.prp sc_Log_how (fun vs H Q E h => ?_) (fun f cdv A outer s H vs Q E hr h => ?_)
  · obtain ⟨v, es, rfl, _⟩ := h
    rfl
  · obtain ⟨v, es, rfl, hL, h⟩ := h
    have sc := sc_Log_how
    refine ⟨_, 
    (pss_cons (ps_set (i := 1) sc.nd rfl (by first | exact Or.inl rfl | exact Or.inr rfl) (pe_cut (pe_ifExp (pt_cmpR (kNe (K := K) rfl hr) (pe_fld (pv 0) rfl) (pe_tup (pa_nil)) (nomark _)) (pe_ix (kIx (K := K) rfl) (pe_ix (kIx (K := K) rfl) (pe_fld (pv 0) rfl) (pe_un un_neg (pe_int)) (fun _ _ => rfl)) (pe_int) (fun _ _ => rfl)) (pe_str))))
    (pss_one (ps_ret (pe_cut (pe_ifExp (pt_cmpR (kIn (K := K) rfl hr) (pv 1) (pe_gc (by rfl) T.c_ENDS) (by rfl)) (pv 1) (pe_str)))))), ?_⟩
    try rw [cxK]
    refine i_start (τ := [some v, none]) rfl ?_
    have f1 : ∀ fs ∈ es, Fl fs := by obtain ⟨_, _, _, _, _, _, _, _, f1, _⟩ := hL; exact f1
    walk_at "go"
    rcases h with ⟨rfl, q⟩ | ⟨es', z, r, rfl, q⟩
    · refine i_cutE (fun x H' => x = .str "cut" ∧ Ex H H') ?_ ?_
      · walk_at "go"
        refine fld_own T hL fun t vs ht ha => ?_
        walk_at "go"
        intro p hp
        refine l_neD (b := true) (.tup (sqT_mono (Ex.new hp) ht) ((ha.mono (Ex.new hp)).dp f1)) (.tup (.of upd_same) .nil) (dEs_shT f1) (dEs_shT f1) (by simp [PyData.eqv, PyData.eqvAll]) ?_
        walk_at "go"
        exact ⟨rfl, Ex.new hp⟩
      rintro _ H1 ⟨rfl, e1⟩
      walk_at "go"
      refine i_isE (.str "cut") ?_ ?_
      · walk_at "go"
        refine l_inT (T.t_ENDS _) rfl rfl ?_
        rw [show inV (V.str "cut") endsV = false by decide]
        walk_at "go"
        exact ⟨rfl, rfl⟩
      exact q _ e1
    · refine i_cutE (fun x H' => x = .str z ∧ Ex H H') ?_ ?_
      · walk_at "go"
        refine fld_own T hL fun t vs ht ha => ?_
        walk_at "go"
        intro p hp
        refine l_neD (b := false) (.tup (sqT_mono (Ex.new hp) ht) ((ha.mono (Ex.new hp)).dp f1)) (.tup (.of upd_same) .nil) (dEs_shT f1) (dEs_shT (es := []) (fun _ h => nomatch h)) (by cases es' <;> simp [PyData.eqv, PyData.eqvAll]) ?_
        walk_at "go"
        refine fld_own T (hL.mono (Ex.new hp)) fun t vs ht ha => ?_
        walk_at "go"
        have hl := ha.length
        rw [List.length_append] at hl
        obtain ⟨u, hu⟩ : ∃ u, vs[es'.length]? = some u := ⟨_, List.getElem?_eq_getElem (by rw [hl]; simp)⟩
        obtain ⟨fs', h1, p', rfl, h2⟩ := ha.get hu
        rw [List.getElem?_append_right (Nat.le_refl _), Nat.sub_self] at h1
        cases h1
        refine l_ixT' ht (atI_last hu (by simpa using hl)) ?_
        walk_at "go"
        refine l_ixT' (i := ((0 : Nat) : Int)) h2 (atI_nat rfl) ?_
        exact ⟨rfl, Ex.new hp⟩
      rintro _ H1 ⟨rfl, e1⟩
      walk_at "go"
      refine i_isE (.str (if inV (.str z) endsV = true then z else "cut")) ?_ ?_
      · walk_at "go"
        refine l_inT (T.t_ENDS _) rfl rfl ?_
        walk_at "go"
        by_cases hz : inV (.str z) endsV = true
        · rw [if_pos hz, if_pos hz]
          walk_at "go"
          exact ⟨rfl, rfl⟩
        · rw [if_neg hz, if_neg hz]
          walk_at "go"
          exact ⟨rfl, rfl⟩
      exact q _ e1
/-- log.unlike(other) -/
def spUnl (K : PySem.W.Frag) (C : Addr) : Sp := fun vs H Q _ => ∃ v y es gs, vs = [v, y] ∧ LogAt K C H v es ∧ LogAt K C H y gs ∧ ∀ H', Ex H H' → Q (optV (unl es gs 0)) H'
theorem ok_unl {a_ENDS C_NoEntry C_Log : Addr} (T : Tp K mg a_ENDS C_NoEntry C_Log) : MetG P w K mg base false 1 C_Log "unlike" (spUnl K C_Log) ["self", "other"] := by
  refine T.m_Log_unlike.met sc_Log_unlike (fun vs H Q E h => ?_) (fun f cdv A outer s H vs Q E hr _ h => ?_)
  · obtain ⟨v, y, es, gs, rfl, _⟩ := h
    rfl
  · obtain ⟨v, y, es, gs, rfl, hL, hG, q⟩ := h
    have sc := sc_Log_unlike
    refine ⟨_, 
    (pss_cons (ps_for PassesOwn.never rfl (kEz (K := K) rfl (by rfl) T.m_zip (by rfl) T.m_enumerate (pa_cons (pe_fld (pv 0) rfl) (pa_cons (pe_fld (pv 1) rfl) pa_nil))) (kTup (K := K) (n := 2) rfl (by rfl) (pgs_cons (pg_name (i := 2) sc.nd rfl (by first | exact Or.inl rfl | exact Or.inr rfl)) (pgs_cons (kTup (K := K) (n := 2) rfl (by rfl) (pgs_cons (pg_name (i := 3) sc.nd rfl (by first | exact Or.inl rfl | exact Or.inr rfl)) (pgs_cons (pg_name (i := 4) sc.nd rfl (by first | exact Or.inl rfl | exact Or.inr rfl)) (pgs_nil)))) (pgs_nil)))) (
      (pss_one (ps_if (pt_cmpR (kNe (K := K) rfl hr) (pv 3) (pv 4) (nomark _)) (
        (pss_one (ps_ret (pv 2)))) (pss_nil)))))
    (pss_one (ps_ret (pe_non)))), ?_⟩
    try rw [cxK]
    refine i_start (τ := [some v, some y, none, none, none]) rfl ?_
    have f1 : ∀ fs ∈ es, Fl fs := by obtain ⟨_, _, _, _, _, _, _, _, f1, _⟩ := hL; exact f1
    have f2 : ∀ fs ∈ gs, Fl fs := by obtain ⟨_, _, _, _, _, _, _, _, f1, _⟩ := hG; exact f1
    walk_at "go"
    refine i_ez ?_
    walk_at "go"
    refine fld_own T hL fun t vs ht ha => ?_
    walk_at "go"
    refine fld_own T hG fun t' ws ht' ha' => ?_
    walk_at "go"
    refine ⟨t, t', vs, ws, rfl, ht, ht', ?_⟩
    refine for_ez (n := min vs.length ws.length) rfl (fun i σ H' => Ex H H' ∧ (∃ a b c, σ = [some v, some y, a, b, c]) ∧ unl es gs 0 = unl (es.drop i) (gs.drop i) i) ⟨Ex.refl H, ⟨_, _, _, rfl⟩, rfl⟩ (fun i σ H' h => ⟨sqT_mono h.1 ht, sqT_mono h.1 ht'⟩) ?_ ?_
    · rintro i x y' σ H' T1 U hx hy ⟨e1, ⟨a, b, c, rfl⟩, hu⟩ hT hU hne
      obtain ⟨fs, h1, h2⟩ := ha.get hx
      obtain ⟨gs', h3, h4⟩ := ha'.get hy
      have e2 : Ex H' (upd (upd H' T1 (.tup [x, y'])) U (.tup [.int (i : Nat), .ref T1])) := fun a w ha => by
        rw [upd_ne (ne_of_none ha hU), upd_ne (ne_of_none ha hT)]
        exact ha
      have e3 := e1.trans e2
      refine gT2 (.of upd_same) ?_
      walk_at "go"
      refine gT2 (.of (by rw [upd_ne hne, upd_same])) ?_
      walk_at "go"
      refine ⟨rfl, rfl, ?_⟩
      walk_at "go"
      refine ne_at (h2.mono e3) (h4.mono e3) (f1 _ (List.mem_of_getElem? h1)) (f2 _ (List.mem_of_getElem? h3)) ?_
      rw [drop_at h1, drop_at h3, unl] at hu
      walk_at "go"
      refine i_iteBN (fun hb => ?_) (fun hb => ?_)
      · walk_at "go"
        rw [hb, if_neg Bool.false_ne_true] at hu
        have := q _ e3
        rw [hu] at this
        exact this
      · walk_at "go"
        rw [hb, if_pos rfl] at hu
        exact ⟨e3, ⟨_, _, _, rfl⟩, hu⟩
    · rintro σ H' ⟨e1, ⟨a, b, c, rfl⟩, hu⟩
      walk_at "go"
      have hn : unl (es.drop (min vs.length ws.length)) (gs.drop (min vs.length ws.length)) (min vs.length ws.length) = none := by
        rw [ha.length, ha'.length]
        rcases Nat.le_total es.length gs.length with h | h
        · rw [Nat.min_eq_left h, List.drop_length]
          cases gs.drop es.length <;> rfl
        · rw [Nat.min_eq_right h, List.drop_length]
          cases es.drop gs.length <;> rfl
      rw [hn] at hu
      have := q _ e1
      rw [hu] at this
      exact this
end
end K
namespace K
open PySem PySem.Spec PyProof.Rows L2 G TL
local macro_rules | `(tactic| walk_at "side") => `(tactic| focus (first | assumption | exact rfl | omega | decide))
local macro_rules | `(tactic| walk_at "ty") => `(tactic| focus (first | exact .base (.str _) | exact .base (.int _) | exact .base (.bl _) | exact .base .non | exact .base (.lst (by assumption)) | exact .base (.tup (by assumption)) | exact .base (.dK (by assumption)) | assumption))
local macro_rules | `(tactic| walk_at "kt") => `(tactic| focus (with_reducible first | exact kt_NoneType_str | exact kt_NoneType_int | exact kt_NoneType_bool | exact kt_NoneType_tuple | exact kt_NoneType_list | exact kt_NoneType_dict | exact kt_bool_str | exact kt_bool_int | exact kt_bool_bool | exact kt_bool_tuple | exact kt_bool_list | exact kt_bool_dict | exact kt_int_str | exact kt_int_int | exact kt_int_bool | exact kt_int_tuple | exact kt_int_list | exact kt_int_dict | exact kt_str_str | exact kt_str_int | exact kt_str_bool | exact kt_str_tuple | exact kt_str_list | exact kt_str_dict | exact kt_list_str | exact kt_list_int | exact kt_list_bool | exact kt_list_tuple | exact kt_list_list | exact kt_list_dict | exact kt_tuple_str | exact kt_tuple_int | exact kt_tuple_bool | exact kt_tuple_tuple | exact kt_tuple_list | exact kt_tuple_dict | exact kt_dict_str | exact kt_dict_int | exact kt_dict_bool | exact kt_dict_tuple | exact kt_dict_list | exact kt_dict_dict | assumption))
local macro_rules | `(tactic| walk_at "1") => `(tactic| first
  | (with_reducible refine i_seq ?_)
  | (with_reducible refine iteT ?_)
  | (with_reducible refine iteF ?_)
  | (with_reducible refine iteNF ?_)
  | (with_reducible refine iteNT ?_)
  | (with_reducible refine i_asg ?_)
  | (with_reducible refine i_op ?_)
  | (with_reducible refine i_c ?_)
  | ((with_reducible apply i_var); (exact rfl))
  | (with_reducible refine i_cb ?_)
  | (with_reducible refine i_cons ?_)
  | (with_reducible refine i_nil ?_)
  | (with_reducible refine i_test ?_)
  | (with_reducible refine i_b ?_)
  | (with_reducible refine i_bl ?_)
  | (with_reducible refine i_name ?_)
  | (with_reducible refine i_ifS ?_)
  | (with_reducible refine i_next ?_)
  | (with_reducible refine i_ret ?_)
  | (with_reducible refine i_drop ?_)
  | (with_reducible refine i_lst ?_)
  | (with_reducible refine i_tup ?_)
  | (with_reducible refine i_and ?_)
  | (with_reducible refine i_or ?_)
  | (with_reducible refine i_not ?_)
  | (with_reducible refine i_andV ?_)
  | (with_reducible refine i_orV ?_)
  | (with_reducible refine i_notV ?_)
  | (with_reducible refine i_if ?_)
  | (with_reducible refine i_chain ?_)
  | (with_reducible refine i_un ?_)
  | (with_reducible refine i_neg ?_)
  | (with_reducible refine i_sub ?_)
  | (with_reducible refine i_sl ?_)
  | (with_reducible refine i_noP ?_)
  | (with_reducible refine i_part ?_)
  | (with_reducible refine i_int ?_)
  | (with_reducible refine i_bm ?_)
  | (with_reducible refine i_strT ?_)
  | (with_reducible refine i_yes ?_)
  | (with_reducible refine i_call ?_)
  | ((with_reducible refine i_len ?_ ?_); (focus (exact sz (by simp))))
  | (with_reducible refine i_lc ?_)
  | (with_reducible refine i_for ?_)
  | (with_reducible refine i_rng1 ?_)
  | (with_reducible refine i_rng2 ?_)
  | (with_reducible refine l_addI ?_)
  | (with_reducible refine l_subI ?_)
  | (with_reducible refine l_cmp ?_)
  | (with_reducible refine l_eqI ?_)
  | (with_reducible refine l_eqS ?_)
  | (with_reducible refine l_eqB ?_)
  | (with_reducible refine l_neI ?_)
  | (with_reducible refine l_neS ?_)
  | (with_reducible refine l_neB ?_)
  | (with_reducible refine l_isN ?_)
  | (with_reducible refine l_isNotN ?_)
  | (with_reducible refine l_isB ?_)
  | (with_reducible refine l_isNotB ?_)
  | (with_reducible refine l_intI ?_)
  | (with_reducible refine l_intB ?_)
  | (with_reducible refine l_inC ?_)
  | (refine ⟨_, _, rfl, rfl, sz (by first | omega | simp; omega), ?_⟩)
  | ((with_reducible refine l_pow ?_ ?_); (focus (exact ⟨by decide, by decide, by decide⟩)))
  | ((with_reducible refine l_mul ?_ ?_); (focus (first | assumption | exact Or.inl (Or.inl ⟨by omega, by omega⟩) | exact Or.inl (Or.inr ⟨by omega, by omega⟩))))
  | ((with_reducible refine l_div ?_ ?_); (focus (first | assumption | exact ⟨by decide, by decide⟩)))
  | ((with_reducible apply l_setL); (assumption); (exact rfl))
  | ((with_reducible refine l_mod ?_ ?_); (walk_at "side"))
  | ((with_reducible apply l_ixL); (assumption); (exact rfl))
  | ((with_reducible refine l_lenS ?_ ?_); (focus (first | assumption | exact sz (by omega) | exact sz (by simp; omega))))
  | ((with_reducible refine l_slS ?_ ?_); (focus (first | assumption | exact sz (by omega))))
  | ((with_reducible apply l_isi); (walk_at "ty"); (walk_at "kt"))
  | ((with_reducible apply l_lenL); (assumption)))
local macro_rules | `(tactic| walk_at "go") => `(tactic| repeat (walk_at "1"))
local macro_rules | `(tactic| walk_at "1") => `(tactic| first
  | (with_reducible refine i_mkS ?_)
  | (with_reducible refine i_cS ?_)
  | (with_reducible refine i_fld ?_)
  | (with_reducible refine i_sFld ?_)
  | (with_reducible refine i_tX ?_)
  | (with_reducible refine l_len2 rfl rfl ?_))
local macro_rules | `(tactic| walk_at "1") => `(tactic| first
  | (with_reducible refine i_stp ?_)
  | ((with_reducible apply i_iad); (exact rfl))
  | (with_reducible refine i_cO ?_)
  | (with_reducible refine i_prp ?_)
  | (with_reducible refine i_mtS ?_)
  | (with_reducible refine i_fldaug ?_)
  | (with_reducible refine i_par ?_)
  | (with_reducible refine i_par3 ?_)
  | (with_reducible refine i_revL ?_))
section
variable {P : Program} {w : World} {K : PySem.W.Frag} {mg : Str → Option Value} {base : Heap}
/-- the pool of a cell -/
def Po (H : Hp) (p : Addr) : Prop := ∃ a b : Int, H p = some (.lst [.int a, .int b]) ∧ 0 ≤ b ∧ b < 2147483647
theorem Po.mono {H H' : Hp} {p : Addr} (h : Po H p) (e : Ex H H') : Po H' p := by
  obtain ⟨a, b, h, r⟩ := h
  exact ⟨a, b, e _ _ h, r⟩
theorem Po.ne {H : Hp} {p q : Addr} (h : Po H p) (hq : H q = none) : q ≠ p := by
  obtain ⟨a, b, h, _⟩ := h
  exact (ne_of_none h hq).symm
theorem Po.put {H : Hp} {p q : Addr} {o : HO} (h : Po H p) (n : q ≠ p) : Po (upd H q o) p := by
  obtain ⟨a, b, h, r⟩ := h
  exact ⟨a, b, by rw [upd_ne n.symm]; exact h, r⟩
theorem Po.ins_ne {H : Hp} {p q C dx : Addr} {fs : List (Str × V)} (h : Po H p) (hq : H q = some (.ins C dx fs)) : q ≠ p := by
  obtain ⟨a, b, h, _⟩ := h
  intro z
  rw [z, h] at hq
  cases hq
theorem Po.sqT {H H' : Hp} {p q : Addr} {xs : List V} (h : Po H p) (e : But p H H') (hq : SqT K H q xs) : SqT K H' q xs := by
  obtain ⟨a, b, h, _⟩ := h
  exact sqT_butL e h hq
def spPool (K : PySem.W.Frag) : Sp := fun vs H Q _ => ∃ (a : Addr) (ns : List Int) (k : Nat), vs = [.ref a, .int k] ∧ SqL K H a (ns.map V.int) ∧ k < 64 ∧ ∀ p H', H p = none → Ex H H' → Po H' p → Q (.ref p) H'
set_option maxHeartbeats 2000000 in
theorem ok_pool {a_ENDS C_NoEntry C_Log : Addr} (T : Tp K mg a_ENDS C_NoEntry C_Log) : Cal P w K mg base 1 "_law_pool" (spPool K) [] := by
  refine T.d__law_pool.cal sc__law_pool (fun vs H Q E h => ?_) (fun f cdv A outer s H vs Q E hr h => ?_)
  · obtain ⟨a, ns, k, rfl, _⟩ := h
    rfl
  · obtain ⟨a, ns, k, rfl, hS, hk, q⟩ := h
    have sc := sc__law_pool
    refine ⟨_, 
    (pss_cons (ps_set (i := 2) sc.nd rfl (by first | exact Or.inl rfl | exact Or.inr rfl) (pe_int))
    (pss_cut (ps_if (pt_cmpR gLt (pv 1) (pe_callB (kLen (K := K) rfl) (by rfl) T.m_len PySem.boot_len (pa_cons (pv 0) pa_nil)) (nomark _)) (
      (pss_one (ps_set (i := 2) sc.nd rfl (by first | exact Or.inl rfl | exact Or.inr rfl) (pe_ix (kIx (K := K) rfl) (pv 0) (pv 1) (fun _ _ => rfl))))) (pss_nil))
    (pss_cons (ps_set (i := 3) sc.nd rfl (by first | exact Or.inl rfl | exact Or.inr rfl) (pe_callB call_abs (by rfl) T.m_abs (by decide +kernel) (pa_cons (pv 2) pa_nil)))
    (pss_cons (ps_set (i := 4) sc.nd rfl (by first | exact Or.inl rfl | exact Or.inr rfl) (pe_op gMod (pe_callTy g_int (by rfl) T.m_int (by decide +kernel) (pa_cons (pe_op gPow (pe_op (kAdd (K := K) rfl) (pe_op (kAdd (K := K) rfl) (pe_op (kAdd (K := K) rfl) (pe_op gMod (pe_callTy g_int (by rfl) T.m_int (by decide +kernel) (pa_cons (pv 2) pa_nil)) (pe_int)) (pe_op gMul (pe_op gMul (pe_int) (pv 1)) (pv 1))) (pe_op gMul (pe_int) (pv 1))) (pe_int)) (pe_int)) pa_nil)) (pe_int)))
    (pss_one (ps_ret (pe_lst (pa_cons (pe_op gMul (pv 3) (pe_callTy g_int (by rfl) T.m_int (by decide +kernel) (pa_cons (pe_cmpR gGe (pv 3) (pe_op gPow (pe_int) (pe_int)) (nomark _)) pa_nil))) (pa_cons (pv 4) pa_nil))))))))), ?_⟩
    try rw [cxK]
    refine i_start (τ := [some (.ref a), some (.int k), none, none, none]) rfl ?_
    walk_at "go"
    refine ⟨fun σ H' => ∃ z : Int, σ = [some (.ref a), some (.int k), some (.int z), none, none] ∧ H' = H, ?_, ?_⟩
    · walk_at "go"
      refine ⟨_, .inl hS, ?_⟩
      walk_at "go"
      refine i_ite (fun h => ?_) (fun h => ?_)
      · walk_at "go"
        obtain ⟨z, hz⟩ := at_ints (ns := ns) (i := (k : Int)) (by omega) (by simpa using h)
        refine ⟨_, _, .inl hS, hz, ?_⟩
        walk_at "go"
        exact ⟨z, rfl, rfl⟩
      · walk_at "go"
        exact ⟨0, rfl, rfl⟩
    · rintro σ H' ⟨z, rfl, rfl⟩
      walk_at "go"
      refine ⟨z, rfl, ?_⟩
      walk_at "go"
      have h2 : (104729 * (k : Int) * k) = ((104729 * k * k : Nat) : Int) := by simp
      have h3 : 104729 * k * k ≤ 104729 * 63 * 63 := Nat.mul_le_mul (Nat.mul_le_mul (Nat.le_refl _) (by omega)) (by omega)
      have h4 := Int.emod_nonneg z (show (2147483629 : Int) ≠ 0 by decide)
      have h5 := Int.emod_lt_of_pos z (show (0 : Int) < 2147483629 by decide)
      rw [h2]
      refine l_pow ⟨by decide, by decide, by omega⟩ ?_
      walk_at "go"
      intro p hp
      exact q p _ hp (Ex.new hp) ⟨_, _, upd_same, Int.emod_nonneg _ (by decide), Int.emod_lt_of_pos _ (by decide)⟩
def spTake : Sp := fun vs H Q _ => ∃ (p : Addr) (n : Int), vs = [.ref p, .int n] ∧ 0 < n ∧ n ≤ 2000000000000000000000000000000 ∧ Po H p ∧ ∀ r H', 0 ≤ r → r < n → Po H' p → But p H H' → Q (.int r) H'
theorem take {p : Addr} {n : Int} {H : Hp} {Q : VK} {E : XK} (hp : Po H p) (hn : 0 < n) (hn2 : n ≤ 2000000000000000000000000000000) (q : ∀ r H', 0 ≤ r → r < n → Po H' p → But p H H' → Q (.int r) H') : spTake ([.ref p, .int n] ++ []) H Q E :=
  ⟨p, n, rfl, hn, hn2, hp, q⟩
theorem ok_take {a_ENDS C_NoEntry C_Log : Addr} (T : Tp K mg a_ENDS C_NoEntry C_Log) : Cal P w K mg base 1 "_law_take" spTake [] := by
  refine T.d__law_take.cal sc__law_take (fun vs H Q E h => ?_) (fun f cdv A outer s H vs Q E hr h => ?_)
  · obtain ⟨p, n, rfl, _⟩ := h
    rfl
  · obtain ⟨p, n, rfl, hn, hn2, ⟨a, b, hp, b0, b1⟩, q⟩ := h
    have sc := sc__law_take
    refine ⟨_, 
    (pss_cons (ps_if (pt_cmpR gGt (pe_ix (kIx (K := K) rfl) (pv 0) (pe_int) (fun _ _ => rfl)) (pe_int) (nomark _)) (
      (pss_cons (ps_set (i := 2) sc.nd rfl (by first | exact Or.inl rfl | exact Or.inr rfl) (pe_op gMod (pe_callTy g_int (by rfl) T.m_int (by decide +kernel) (pa_cons (pe_ix (kIx (K := K) rfl) (pv 0) (pe_int) (fun _ _ => rfl)) pa_nil)) (pv 1)))
      (pss_cons (ps_asg (pe_op gDiv (pe_ix (kIx (K := K) rfl) (pv 0) (pe_int) (fun _ _ => rfl)) (pv 1)) (pg_sub (pv 0) (pe_int) set_list))
      (pss_one (ps_ret (pv 2)))))) (pss_nil))
    (pss_cons (ps_asg (pe_op gMod (pe_callTy g_int (by rfl) T.m_int (by decide +kernel) (pa_cons (pe_op (kAdd (K := K) rfl) (pe_op gMul (pe_ix (kIx (K := K) rfl) (pv 0) (pe_int) (fun _ _ => rfl)) (pe_int)) (pe_int)) pa_nil)) (pe_int)) (pg_sub (pv 0) (pe_int) set_list))
    (pss_one (ps_ret (pe_op gMod (pe_callTy g_int (by rfl) T.m_int (by decide +kernel) (pa_cons (pe_op gDiv (pe_op gMod (pe_callTy g_int (by rfl) T.m_int (by decide +kernel) (pa_cons (pe_op gMul (pe_ix (kIx (K := K) rfl) (pv 0) (pe_int) (fun _ _ => rfl)) (pe_ix (kIx (K := K) rfl) (pv 0) (pe_int) (fun _ _ => rfl))) pa_nil)) (pe_int)) (pe_int)) pa_nil)) (pv 1)))))), ?_⟩
    try rw [cxK]
    refine i_start (τ := [some (.ref p), some (.int n), none]) rfl ?_
    have hdv : CDivW a n := wide_div (b := 128) hn (by omega) (by decide) (by decide)
    walk_at "go"
    refine i_ite (fun h => ?_) (fun h => ?_)
    · walk_at "go"
      exact q _ _ (Int.emod_nonneg _ (by omega)) (Int.emod_lt_of_pos _ hn) ⟨_, b, upd_same, b0, b1⟩ (But.refl H).mut
    · walk_at "go"
      have c0 : 0 ≤ (b * 48271 + 11) % 2147483647 := Int.emod_nonneg _ (by decide)
      have c1 : (b * 48271 + 11) % 2147483647 < 2147483647 := Int.emod_lt_of_pos _ (by decide)
      have hw : upd H p (HO.lst ([V.int a, V.int b].set (Int.toNat 1) (V.int ((b * 48271 + 11) % 2147483647)))) p = some (.lst [.int a, .int ((b * 48271 + 11) % 2147483647)]) := upd_same
      have hB : But p H (upd H p (HO.lst ([V.int a, V.int b].set (Int.toNat 1) (V.int ((b * 48271 + 11) % 2147483647))))) := (But.refl H).mut
      generalize upd H p (HO.lst ([V.int a, V.int b].set (Int.toNat 1) (V.int ((b * 48271 + 11) % 2147483647)))) = H1 at hw hB ⊢
      generalize (b * 48271 + 11) % 2147483647 = c at c0 c1 hw
      refine l_ixL hw rfl ?_
      walk_at "go"
      exact q _ _ (Int.emod_nonneg _ (by omega)) (Int.emod_lt_of_pos _ hn) ⟨_, c, hw, c0, c1⟩ hB
end
end K
namespace K
open PySem PySem.Spec PyProof.Rows L2 G TL
local macro_rules | `(tactic| walk_at "side") => `(tactic| focus (first | assumption | exact rfl | omega | decide))
local macro_rules | `(tactic| walk_at "ty") => `(tactic| focus (first | exact .base (.str _) | exact .base (.int _) | exact .base (.bl _) | exact .base .non | exact .base (.lst (by assumption)) | exact .base (.tup (by assumption)) | exact .base (.dK (by assumption)) | assumption))
local macro_rules | `(tactic| walk_at "kt") => `(tactic| focus (with_reducible first | exact kt_NoneType_str | exact kt_NoneType_int | exact kt_NoneType_bool | exact kt_NoneType_tuple | exact kt_NoneType_list | exact kt_NoneType_dict | exact kt_bool_str | exact kt_bool_int | exact kt_bool_bool | exact kt_bool_tuple | exact kt_bool_list | exact kt_bool_dict | exact kt_int_str | exact kt_int_int | exact kt_int_bool | exact kt_int_tuple | exact kt_int_list | exact kt_int_dict | exact kt_str_str | exact kt_str_int | exact kt_str_bool | exact kt_str_tuple | exact kt_str_list | exact kt_str_dict | exact kt_list_str | exact kt_list_int | exact kt_list_bool | exact kt_list_tuple | exact kt_list_list | exact kt_list_dict | exact kt_tuple_str | exact kt_tuple_int | exact kt_tuple_bool | exact kt_tuple_tuple | exact kt_tuple_list | exact kt_tuple_dict | exact kt_dict_str | exact kt_dict_int | exact kt_dict_bool | exact kt_dict_tuple | exact kt_dict_list | exact kt_dict_dict | assumption))
local macro_rules | `(tactic| walk_at "1") => `(tactic| first
  | (with_reducible refine i_seq ?_)
  | (with_reducible refine iteT ?_)
  | (with_reducible refine iteF ?_)
  | (with_reducible refine iteNF ?_)
  | (with_reducible refine iteNT ?_)
  | (with_reducible refine i_asg ?_)
  | (with_reducible refine i_op ?_)
  | (with_reducible refine i_c ?_)
  | ((with_reducible apply i_var); (exact rfl))
  | (with_reducible refine i_cb ?_)
  | (with_reducible refine i_cons ?_)
  | (with_reducible refine i_nil ?_)
  | (with_reducible refine i_test ?_)
  | (with_reducible refine i_b ?_)
  | (with_reducible refine i_bl ?_)
  | (with_reducible refine i_name ?_)
  | (with_reducible refine i_ifS ?_)
  | (with_reducible refine i_next ?_)
  | (with_reducible refine i_ret ?_)
  | (with_reducible refine i_drop ?_)
  | (with_reducible refine i_lst ?_)
  | (with_reducible refine i_tup ?_)
  | (with_reducible refine i_and ?_)
  | (with_reducible refine i_or ?_)
  | (with_reducible refine i_not ?_)
  | (with_reducible refine i_andV ?_)
  | (with_reducible refine i_orV ?_)
  | (with_reducible refine i_notV ?_)
  | (with_reducible refine i_if ?_)
  | (with_reducible refine i_chain ?_)
  | (with_reducible refine i_un ?_)
  | (with_reducible refine i_neg ?_)
  | (with_reducible refine i_sub ?_)
  | (with_reducible refine i_sl ?_)
  | (with_reducible refine i_noP ?_)
  | (with_reducible refine i_part ?_)
  | (with_reducible refine i_int ?_)
  | (with_reducible refine i_bm ?_)
  | (with_reducible refine i_strT ?_)
  | (with_reducible refine i_yes ?_)
  | (with_reducible refine i_call ?_)
  | ((with_reducible refine i_len ?_ ?_); (focus (exact sz (by simp))))
  | (with_reducible refine i_lc ?_)
  | (with_reducible refine i_for ?_)
  | (with_reducible refine i_rng1 ?_)
  | (with_reducible refine i_rng2 ?_)
  | (with_reducible refine l_addI ?_)
  | (with_reducible refine l_subI ?_)
  | (with_reducible refine l_cmp ?_)
  | (with_reducible refine l_eqI ?_)
  | (with_reducible refine l_eqS ?_)
  | (with_reducible refine l_eqB ?_)
  | (with_reducible refine l_neI ?_)
  | (with_reducible refine l_neS ?_)
  | (with_reducible refine l_neB ?_)
  | (with_reducible refine l_isN ?_)
  | (with_reducible refine l_isNotN ?_)
  | (with_reducible refine l_isB ?_)
  | (with_reducible refine l_isNotB ?_)
  | (with_reducible refine l_intI ?_)
  | (with_reducible refine l_intB ?_)
  | (with_reducible refine l_inC ?_)
  | (refine ⟨_, _, rfl, rfl, sz (by first | omega | simp; omega), ?_⟩)
  | ((with_reducible refine l_pow ?_ ?_); (focus (exact ⟨by decide, by decide, by decide⟩)))
  | ((with_reducible refine l_mul ?_ ?_); (focus (first | assumption | exact Or.inl (Or.inl ⟨by omega, by omega⟩) | exact Or.inl (Or.inr ⟨by omega, by omega⟩))))
  | ((with_reducible refine l_div ?_ ?_); (focus (first | assumption | exact ⟨by decide, by decide⟩)))
  | ((with_reducible apply l_setL); (assumption); (exact rfl))
  | ((with_reducible refine l_mod ?_ ?_); (walk_at "side"))
  | ((with_reducible apply l_ixL); (assumption); (exact rfl))
  | ((with_reducible refine l_lenS ?_ ?_); (focus (first | assumption | exact sz (by omega) | exact sz (by simp; omega))))
  | ((with_reducible refine l_slS ?_ ?_); (focus (first | assumption | exact sz (by omega))))
  | ((with_reducible apply l_isi); (walk_at "ty"); (walk_at "kt"))
  | ((with_reducible apply l_lenL); (assumption)))
local macro_rules | `(tactic| walk_at "go") => `(tactic| repeat (walk_at "1"))
local macro_rules | `(tactic| walk_at "1") => `(tactic| first
  | (with_reducible refine i_mkS ?_)
  | (with_reducible refine i_cS ?_)
  | (with_reducible refine i_fld ?_)
  | (with_reducible refine i_sFld ?_)
  | (with_reducible refine i_tX ?_)
  | (with_reducible refine l_len2 rfl rfl ?_))
local macro_rules | `(tactic| walk_at "1") => `(tactic| first
  | (with_reducible refine i_stp ?_)
  | ((with_reducible apply i_iad); (exact rfl))
  | (with_reducible refine i_cO ?_)
  | (with_reducible refine i_prp ?_)
  | (with_reducible refine i_mtS ?_)
  | (with_reducible refine i_fldaug ?_)
  | (with_reducible refine i_par ?_)
  | (with_reducible refine i_par3 ?_)
  | (with_reducible refine i_revL ?_))
section
variable {P : Program} {w : World} {K : PySem.W.Frag} {mg : Str → Option Value} {base : Heap}
def Shw (K : PySem.W.Frag) (H : Hp) (v : V) (z : Str) : Prop := ∀ (H' : Hp) (Q : VK), Ex H H' → Q (.str z) H' → rReprA K [v] H' Q
theorem Shw.mono {H H' : Hp} {v : V} {z : Str} (h : Shw K H v z) (e : Ex H H') : Shw K H' v z := fun H2 Q e2 q => h H2 Q (e.trans e2) q
/-- an item that is shown in a few signs -/
structure Lf (d : PyData) : Prop where
  sh : d.showable = true
  nd : d.hasDict = false
  ln : d.shown.length ≤ 600
  dp : d.depth ≤ 2
theorem lf_all : ∀ {xs : List PyData}, (∀ d ∈ xs, Lf d) → PyData.showableAll xs = true ∧ PyData.hasDictAll xs = false ∧ ((PyData.shownAll xs).map (·.length)).sum ≤ 600 * xs.length ∧ (PyData.shownAll xs).length = xs.length ∧ PyData.depthAll xs ≤ 2
  | [], _ => by simp [PyData.showableAll, PyData.hasDictAll, PyData.shownAll, PyData.depthAll]
  | x :: xs, h => by
    obtain ⟨h1, h2, h3, h4⟩ := h x List.mem_cons_self
    obtain ⟨g1, g2, g3, g4, g5⟩ := lf_all fun d hd => h d (List.mem_cons_of_mem _ hd)
    rw [PyData.showableAll, PyData.hasDictAll, PyData.shownAll, PyData.depthAll, h1, h2, g1, g2]
    simp only [List.map_cons, List.sum_cons, List.length_cons, Bool.and_self, Bool.or_self, true_and]
    exact ⟨by omega, by omega, Nat.max_le.mpr ⟨h4, g5⟩⟩
theorem shw_dp {H : Hp} {v : V} {d : PyData} (h : Dp K H v d) (h1 : d.showable = true) (h2 : d.hasDict = false) (h3 : d.shown.length ≤ 100000) (h4 : d.depth ≤ 50) : Shw K H v d.shown :=
  fun H' Q e q => .inl ⟨v, d, rfl, dp_mono e d v h, h1, h2, sz h3, h4, q⟩
theorem shw_list {H : Hp} {v : V} {xs : List PyData} (h : Dp K H v (.list xs)) (hl : ∀ d ∈ xs, Lf d) (hn : xs.length ≤ 100) : Shw K H v (PyData.list xs).shown := by
  obtain ⟨g1, g2, g3, g4, g5⟩ := lf_all hl
  refine shw_dp h (by rw [PyData.showable]; exact g1) (by rw [PyData.hasDict]; exact g2) ?_ (by rw [PyData.depth]; omega)
  have := listText_len_le (PyData.shownAll xs)
  rw [PyData.shown]
  omega
theorem shw_tup {H : Hp} {v : V} {xs : List PyData} (h : Dp K H v (.tuple xs)) (hl : ∀ d ∈ xs, Lf d) (hn : xs.length ≤ 100) : Shw K H v (PyData.tuple xs).shown := by
  obtain ⟨g1, g2, g3, g4, g5⟩ := lf_all hl
  refine shw_dp h (by rw [PyData.showable]; exact g1) (by rw [PyData.hasDict]; exact g2) ?_ (by rw [PyData.depth]; omega)
  have := tupleText_len_le (PyData.shownAll xs)
  rw [PyData.shown]
  omega
theorem lf_int {i : Int} (h : i.natAbs < 10 ^ 39) : Lf (.int i) := by
  have e := int_text_length_le10 (k := 39) (by decide) h
  refine ⟨?_, rfl, ?_, by simp [PyData.depth]⟩
  · rw [PyData.showable]
    refine decide_eq_true ?_
    by_cases h0 : i.natAbs = 0
    · rw [h0]
      decide
    · have h1 : i.natAbs.log2 < 130 := (Nat.log2_lt h0).mpr (Nat.lt_trans h (by decide))
      omega
  · rw [PyData.shown, PySem.ofString_length]
    omega
theorem lf_bl (b : Bool) : Lf (.bool b) := by
  cases b <;> exact ⟨rfl, rfl, by decide, by simp [PyData.depth]⟩
theorem lf_non : Lf .none := ⟨rfl, rfl, by decide, by simp [PyData.depth]⟩
theorem lf_ints {ns : List Int} (h : ∀ n ∈ ns, n.natAbs < 10 ^ 39) : ∀ d ∈ ns.map PyData.int, Lf d := fun d hd => by
  obtain ⟨n, hn, rfl⟩ := List.mem_map.mp hd
  exact lf_int (h n hn)
theorem lf_bls {bs : List Bool} : ∀ d ∈ bs.map PyData.bool, Lf d := fun d hd => by
  obtain ⟨n, hn, rfl⟩ := List.mem_map.mp hd
  exact lf_bl n
theorem dp_append {H : Hp} : ∀ {xs ys : List V} {ds es : List PyData}, DpAll K H xs ds → DpAll K H ys es → DpAll K H (xs ++ ys) (ds ++ es)
  | _, _, _, _, .nil, h => h
  | _, _, _, _, .cons a b, h => .cons a (dp_append b h)
end
end K
namespace K
open PySem PySem.Spec PyProof.Rows L2 G TL
local macro_rules | `(tactic| walk_at "side") => `(tactic| focus (first | assumption | exact rfl | omega | decide))
local macro_rules | `(tactic| walk_at "ty") => `(tactic| focus (first | exact .base (.str _) | exact .base (.int _) | exact .base (.bl _) | exact .base .non | exact .base (.lst (by assumption)) | exact .base (.tup (by assumption)) | exact .base (.dK (by assumption)) | assumption))
local macro_rules | `(tactic| walk_at "kt") => `(tactic| focus (with_reducible first | exact kt_NoneType_str | exact kt_NoneType_int | exact kt_NoneType_bool | exact kt_NoneType_tuple | exact kt_NoneType_list | exact kt_NoneType_dict | exact kt_bool_str | exact kt_bool_int | exact kt_bool_bool | exact kt_bool_tuple | exact kt_bool_list | exact kt_bool_dict | exact kt_int_str | exact kt_int_int | exact kt_int_bool | exact kt_int_tuple | exact kt_int_list | exact kt_int_dict | exact kt_str_str | exact kt_str_int | exact kt_str_bool | exact kt_str_tuple | exact kt_str_list | exact kt_str_dict | exact kt_list_str | exact kt_list_int | exact kt_list_bool | exact kt_list_tuple | exact kt_list_list | exact kt_list_dict | exact kt_tuple_str | exact kt_tuple_int | exact kt_tuple_bool | exact kt_tuple_tuple | exact kt_tuple_list | exact kt_tuple_dict | exact kt_dict_str | exact kt_dict_int | exact kt_dict_bool | exact kt_dict_tuple | exact kt_dict_list | exact kt_dict_dict | assumption))
local macro_rules | `(tactic| walk_at "1") => `(tactic| first
  | (with_reducible refine i_seq ?_)
  | (with_reducible refine iteT ?_)
  | (with_reducible refine iteF ?_)
  | (with_reducible refine iteNF ?_)
  | (with_reducible refine iteNT ?_)
  | (with_reducible refine i_asg ?_)
  | (with_reducible refine i_op ?_)
  | (with_reducible refine i_c ?_)
  | ((with_reducible apply i_var); (exact rfl))
  | (with_reducible refine i_cb ?_)
  | (with_reducible refine i_cons ?_)
  | (with_reducible refine i_nil ?_)
  | (with_reducible refine i_test ?_)
  | (with_reducible refine i_b ?_)
  | (with_reducible refine i_bl ?_)
  | (with_reducible refine i_name ?_)
  | (with_reducible refine i_ifS ?_)
  | (with_reducible refine i_next ?_)
  | (with_reducible refine i_ret ?_)
  | (with_reducible refine i_drop ?_)
  | (with_reducible refine i_lst ?_)
  | (with_reducible refine i_tup ?_)
  | (with_reducible refine i_and ?_)
  | (with_reducible refine i_or ?_)
  | (with_reducible refine i_not ?_)
  | (with_reducible refine i_andV ?_)
  | (with_reducible refine i_orV ?_)
  | (with_reducible refine i_notV ?_)
  | (with_reducible refine i_if ?_)
  | (with_reducible refine i_chain ?_)
  | (with_reducible refine i_un ?_)
  | (with_reducible refine i_neg ?_)
  | (with_reducible refine i_sub ?_)
  | (with_reducible refine i_sl ?_)
  | (with_reducible refine i_noP ?_)
  | (with_reducible refine i_part ?_)
  | (with_reducible refine i_int ?_)
  | (with_reducible refine i_bm ?_)
  | (with_reducible refine i_strT ?_)
  | (with_reducible refine i_yes ?_)
  | (with_reducible refine i_call ?_)
  | ((with_reducible refine i_len ?_ ?_); (focus (exact sz (by simp))))
  | (with_reducible refine i_lc ?_)
  | (with_reducible refine i_for ?_)
  | (with_reducible refine i_rng1 ?_)
  | (with_reducible refine i_rng2 ?_)
  | (with_reducible refine l_addI ?_)
  | (with_reducible refine l_subI ?_)
  | (with_reducible refine l_cmp ?_)
  | (with_reducible refine l_eqI ?_)
  | (with_reducible refine l_eqS ?_)
  | (with_reducible refine l_eqB ?_)
  | (with_reducible refine l_neI ?_)
  | (with_reducible refine l_neS ?_)
  | (with_reducible refine l_neB ?_)
  | (with_reducible refine l_isN ?_)
  | (with_reducible refine l_isNotN ?_)
  | (with_reducible refine l_isB ?_)
  | (with_reducible refine l_isNotB ?_)
  | (with_reducible refine l_intI ?_)
  | (with_reducible refine l_intB ?_)
  | (with_reducible refine l_inC ?_)
  | (refine ⟨_, _, rfl, rfl, sz (by first | omega | simp; omega), ?_⟩)
  | ((with_reducible refine l_pow ?_ ?_); (focus (exact ⟨by decide, by decide, by decide⟩)))
  | ((with_reducible refine l_mul ?_ ?_); (focus (first | assumption | exact Or.inl (Or.inl ⟨by omega, by omega⟩) | exact Or.inl (Or.inr ⟨by omega, by omega⟩))))
  | ((with_reducible refine l_div ?_ ?_); (focus (first | assumption | exact ⟨by decide, by decide⟩)))
  | ((with_reducible apply l_setL); (assumption); (exact rfl))
  | ((with_reducible refine l_mod ?_ ?_); (walk_at "side"))
  | ((with_reducible apply l_ixL); (assumption); (exact rfl))
  | ((with_reducible refine l_lenS ?_ ?_); (focus (first | assumption | exact sz (by omega) | exact sz (by simp; omega))))
  | ((with_reducible refine l_slS ?_ ?_); (focus (first | assumption | exact sz (by omega))))
  | ((with_reducible apply l_isi); (walk_at "ty"); (walk_at "kt"))
  | ((with_reducible apply l_lenL); (assumption)))
local macro_rules | `(tactic| walk_at "go") => `(tactic| repeat (walk_at "1"))
local macro_rules | `(tactic| walk_at "1") => `(tactic| first
  | (with_reducible refine i_mkS ?_)
  | (with_reducible refine i_cS ?_)
  | (with_reducible refine i_fld ?_)
  | (with_reducible refine i_sFld ?_)
  | (with_reducible refine i_tX ?_)
  | (with_reducible refine l_len2 rfl rfl ?_))
local macro_rules | `(tactic| walk_at "1") => `(tactic| first
  | (with_reducible refine i_stp ?_)
  | ((with_reducible apply i_iad); (exact rfl))
  | (with_reducible refine i_cO ?_)
  | (with_reducible refine i_prp ?_)
  | (with_reducible refine i_mtS ?_)
  | (with_reducible refine i_fldaug ?_)
  | (with_reducible refine i_par ?_)
  | (with_reducible refine i_par3 ?_)
  | (with_reducible refine i_revL ?_))
section
variable {P : Program} {w : World} {K : PySem.W.Frag} {mg : Str → Option Value} {base : Heap}
/-- the law's entries: no end -/
def Ok1 (fs : List V) : Prop := Fl fs ∧ ∃ z r, fs = V.str z :: r ∧ inV (.str z) endsV = false
def menu : List (List V) := [[.str "say", .str "x"], [.str "say", .str "x", .int 4], [.str "ask", .str "t", .bl true], [.str "enter", .str "i", .int (-2)], [.str "leave", .str "i"]]
theorem fl_of {fs : List V} (h : fs.all (fun x => flatV x && (flatD x).canLay0) = true) : Fl fs := fun x hx => by
  have := List.all_eq_true.mp h x hx
  rwa [Bool.and_eq_true] at this
theorem ok_menu : ∀ fs ∈ menu, Ok1 fs := by
  intro fs h
  simp only [menu, List.mem_cons, List.not_mem_nil, or_false] at h
  rcases h with rfl | rfl | rfl | rfl | rfl
  all_goals exact ⟨fl_of (by decide +kernel), _, _, rfl, by decide +kernel⟩
def spEnt (K : PySem.W.Frag) : Sp := fun vs H Q _ => ∃ p, vs = [.ref p] ∧ Po H p ∧ ∀ q vs es H', H q = none → q ≠ p → Po H' p → But p H H' → H' q = some (.lst vs) → Ats K H' vs es → (∀ fs ∈ es, Ok1 fs) → es.length ≤ 9 → Q (.ref q) H'
theorem ok_ent {a_ENDS C_NoEntry C_Log : Addr} (T : Tp K mg a_ENDS C_NoEntry C_Log) : CalG P w K mg base false 2 "_law_entries" (spEnt K) 1 [] (fun vs _ => vs) := by
  have c__law_take : Cal P w K mg base 1 "_law_take" spTake [] := ok_take T
  refine T.d__law_entries.calG sc__law_entries (fun vs H Q E h => ?_) (fun f cdv A outer s H vs Q E hr _ h => ?_)
  · obtain ⟨p, rfl, _⟩ := h
    rfl
  · obtain ⟨p, rfl, hp, q⟩ := h
    have sc := sc__law_entries
    refine ⟨_, 
    (pss_cons (ps_set (i := 1) sc.nd rfl (by first | exact Or.inl rfl | exact Or.inr rfl) (pe_lst (pa_cons (pe_tup (pa_cons (pe_str) (pa_cons (pe_str) pa_nil))) (pa_cons (pe_tup (pa_cons (pe_str) (pa_cons (pe_str) (pa_cons (pe_int) pa_nil)))) (pa_cons (pe_tup (pa_cons (pe_str) (pa_cons (pe_str) (pa_cons (pe_bl) pa_nil)))) (pa_cons (pe_tup (pa_cons (pe_str) (pa_cons (pe_str) (pa_cons (pe_un un_neg (pe_int)) pa_nil)))) (pa_cons (pe_tup (pa_cons (pe_str) (pa_cons (pe_str) pa_nil))) pa_nil)))))))
    (pss_one (ps_ret (pe_lc (own := [("_law_turn", 2)]) (by rfl) sc.nd (pi_range1 (by rfl) T.m_range (pa_cons (pe_c c__law_take hr (by decide) (by rfl) (pa_cons (pv 0) (pa_cons (pe_int) pa_nil))) pa_nil)) (blkOk_by (N := ["_law_pool_here", "_law_some", "_law_turn"]) (sc := defScope s__law_entries) (by decide +kernel)) (fun _ _ _ _ _ => pg_name (i := 2) sc.nd rfl (by first | exact Or.inl rfl | exact Or.inr rfl)) (fun _ _ _ _ _ => pts_nil) (fun _ _ _ _ _ => pe_ix (kIx (K := K) rfl) (pv 1) (pe_c c__law_take hr (by decide) (by rfl) (pa_cons (pv 0) (pa_cons (pe_int) pa_nil))) (fun _ _ => rfl)))))), ?_⟩
    try rw [cxK]
    refine i_start (τ := [some (.ref p), none, none]) rfl ?_
    walk_at "go"
    intro a1 h1
    have e1 : Ex H (upd H a1 (HO.tup [V.str "say", V.str "x"])) := Ex.new h1
    have w1 : (upd H a1 (HO.tup [V.str "say", V.str "x"])) a1 = some (HO.tup [V.str "say", V.str "x"]) := upd_same
    generalize (upd H a1 (HO.tup [V.str "say", V.str "x"])) = H1 at e1 w1 ⊢
    walk_at "go"
    intro a2 h2
    have e2 : Ex H1 (upd H1 a2 (HO.tup [V.str "say", V.str "x", V.int 4])) := Ex.new h2
    have w2 : (upd H1 a2 (HO.tup [V.str "say", V.str "x", V.int 4])) a2 = some (HO.tup [V.str "say", V.str "x", V.int 4]) := upd_same
    generalize (upd H1 a2 (HO.tup [V.str "say", V.str "x", V.int 4])) = H2 at e2 w2 ⊢
    walk_at "go"
    intro a3 h3
    have e3 : Ex H2 (upd H2 a3 (HO.tup [V.str "ask", V.str "t", V.bl true])) := Ex.new h3
    have w3 : (upd H2 a3 (HO.tup [V.str "ask", V.str "t", V.bl true])) a3 = some (HO.tup [V.str "ask", V.str "t", V.bl true]) := upd_same
    generalize (upd H2 a3 (HO.tup [V.str "ask", V.str "t", V.bl true])) = H3 at e3 w3 ⊢
    walk_at "go"
    intro a4 h4
    have e4 : Ex H3 (upd H3 a4 (HO.tup [V.str "enter", V.str "i", V.int (-2)])) := Ex.new h4
    have w4 : (upd H3 a4 (HO.tup [V.str "enter", V.str "i", V.int (-2)])) a4 = some (HO.tup [V.str "enter", V.str "i", V.int (-2)]) := upd_same
    generalize (upd H3 a4 (HO.tup [V.str "enter", V.str "i", V.int (-2)])) = H4 at e4 w4 ⊢
    walk_at "go"
    intro a5 h5
    have e5 : Ex H4 (upd H4 a5 (HO.tup [V.str "leave", V.str "i"])) := Ex.new h5
    have w5 : (upd H4 a5 (HO.tup [V.str "leave", V.str "i"])) a5 = some (HO.tup [V.str "leave", V.str "i"]) := upd_same
    generalize (upd H4 a5 (HO.tup [V.str "leave", V.str "i"])) = H5 at e5 w5 ⊢
    walk_at "go"
    intro l hl
    have e6 : Ex H5 (upd H5 l (HO.lst [V.ref a1, V.ref a2, V.ref a3, V.ref a4, V.ref a5])) := Ex.new hl
    have w6 : (upd H5 l (HO.lst [V.ref a1, V.ref a2, V.ref a3, V.ref a4, V.ref a5])) l = some (HO.lst [V.ref a1, V.ref a2, V.ref a3, V.ref a4, V.ref a5]) := upd_same
    generalize (upd H5 l (HO.lst [V.ref a1, V.ref a2, V.ref a3, V.ref a4, V.ref a5])) = H6 at e6 w6 ⊢
    have e06 := e1.trans (e2.trans (e3.trans (e4.trans (e5.trans e6))))
    have hm : Ats K H6 [V.ref a1, V.ref a2, V.ref a3, V.ref a4, V.ref a5] menu :=
      .cons ⟨_, rfl, .of ((e2.trans (e3.trans (e4.trans (e5.trans e6)))) _ _ w1)⟩ (.cons ⟨_, rfl, .of ((e3.trans (e4.trans (e5.trans e6))) _ _ w2)⟩ (.cons ⟨_, rfl, .of ((e4.trans (e5.trans e6)) _ _ w3)⟩ (.cons ⟨_, rfl, .of ((e5.trans e6) _ _ w4)⟩ (.cons ⟨_, rfl, .of (e6 _ _ w5)⟩ .nil))))
    have nl : l ≠ p := by
      obtain ⟨x, y, hp', _⟩ := hp
      exact (ne_of_none ((e1.trans (e2.trans (e3.trans (e4.trans e5)))) _ _ hp') hl).symm
    clear w1 w2 w3 w4 w5
    walk_at "go"
    refine take (hp.mono e06) (by decide) (by decide) fun r H7 r0 r1 p7 b7 => ?_
    walk_at "go"
    refine ⟨r, rfl, by omega, by omega, ?_⟩
    intro pn hpn
    have n1 := p7.ne hpn
    have b07 : But p H H7 := e06.but.trans b7
    have h0n := b07.free n1 hpn
    have hm7 : Ats K H7 [V.ref a1, V.ref a2, V.ref a3, V.ref a4, V.ref a5] menu := by
      obtain ⟨x, y, hp', _⟩ := hp.mono e06
      exact hm.butL b7 hp'
    have w7 := b7 _ _ nl w6
    have lpn : l ≠ pn := ne_of_none w7 hpn
    refine lc_range (fun i H' => ∃ vs es, H' pn = some (.lst vs) ∧ Ats K H' vs es ∧ (∀ fs ∈ es, Ok1 fs) ∧ es.length = i ∧ Po H' p ∧ But p H H' ∧ H' l = some (.lst [V.ref a1, V.ref a2, V.ref a3, V.ref a4, V.ref a5]) ∧ Ats K H' [V.ref a1, V.ref a2, V.ref a3, V.ref a4, V.ref a5] menu)
      ⟨[], [], upd_same, .nil, (fun _ h => nomatch h), rfl, p7.mono (Ex.new hpn), b07.put h0n, Ex.new hpn _ _ w7, hm7.mono (Ex.new hpn)⟩ ?_ ?_
    · rintro i H' hi ⟨vs, es, hl', ha, ho, hn, hd, hB, hw, hM⟩
      have hi6 : i < 10 := by omega
      refine ⟨rfl, ?_⟩
      walk_at "go"
      refine take hd (by decide) (by decide) fun r' H8 r0' r1' p8 b8 => ?_
      obtain ⟨u, hu, hat⟩ := at_list (xs := [V.ref a1, V.ref a2, V.ref a3, V.ref a4, V.ref a5]) r0' r1'
      have hw8 := b8 _ _ nl hw
      obtain ⟨x, y, hp', _⟩ := hd
      have hM8 := hM.butL b8 hp'
      have ha8 := ha.butL b8 hp'
      have hl8 := b8 _ _ n1 hl'
      refine l_ixL hw8 hat ?_
      obtain ⟨j, hj⟩ := List.mem_iff_getElem?.mp hu
      obtain ⟨fs, hfs, hA⟩ := hM8.get hj
      have hlen := ha8.length
      have bu : But pn H8 (upd H8 pn (.lst (vs ++ [u]))) := (But.refl H8).mut
      refine ⟨_, hl8, szl (by omega), vs ++ [u], es ++ [fs], upd_same, (ha8.butL bu hl8).app (.cons ?_ .nil), ?_, by simp [hn], p8.put n1, (hB.trans b8).put h0n, by rw [upd_ne lpn]; exact hw8, hM8.butL bu hl8⟩
      · obtain ⟨p9, e9, h9⟩ := hA
        exact ⟨p9, e9, sqT_butL bu hl8 h9⟩
      · intro gs hgs
        rcases List.mem_append.mp hgs with h | h
        · exact ho gs h
        · rw [List.mem_singleton] at h
          rw [h]
          exact ok_menu _ (List.mem_of_getElem? hfs)
    rintro H8 ⟨vs, es, hl', ha, ho, hn, hd, hB, _, _⟩
    exact q pn vs es H8 h0n n1 hd hB hl' ha ho (by omega)
/-- repr of what is no index -/
def spRef (K : PySem.W.Frag) (C : Addr) : Sp := fun vs H Q _ => ∃ v es at_ z, vs = [v, at_] ∧ LogAt K C H v es ∧ Kd K H at_ ∧ (∀ i : Int, at_ = .int i → i < 0 ∨ (es.length : Int) ≤ i) ∧ Shw K H at_ z ∧ ∀ H', Ex H H' → Q (.bl true) H'
theorem ok_ref {a_ENDS C_NoEntry C_Log : Addr} (T : Tp K mg a_ENDS C_NoEntry C_Log) : CalG P w K mg base true 5 "_law_refused" (spRef K C_Log) 2 [] (fun vs _ => vs) := by
  have c_Log___getitem__ := ok_itm (P := P) (w := w) (base := base) T
  refine T.d__law_refused.calG sc__law_refused (fun vs H Q E h => ?_) (fun f cdv A outer s H vs Q E hr gd h => ?_)
  · obtain ⟨v, es, at_, z, rfl, _⟩ := h
    rfl
  · obtain ⟨v, es, at_, z, rfl, hL, hk, hn, hz, k⟩ := h
    have sc := sc__law_refused
    refine ⟨_, 
    (pss_cons (ps_try_as (i := 3) rfl rfl sc.nd rfl (by rfl) ⟨by rfl, by decide, Or.inl (T.x_NoEntry P w base).hm⟩ takes0 (fun W pn xe tk pw => 
        (pss_one (ps_set (i := 2) sc.nd rfl (by first | exact Or.inl rfl | exact Or.inr rfl) (pe_ixI c_Log___getitem__ hr (by decide) tk (pv 0) (pv 1))))) (fun a oe cls d pn hz hf => 
        (pss_one (ps_ret (pe_and (pe_cmpR (kEqU (K := K) rfl hr.units) (pe_callB (kRepr (K := K) rfl (gd rfl) hr.units) (by rfl) T.m_repr (by decide +kernel) (pa_cons (pe_xfS (T.x_NoEntry P w base) hz hf (pv 3)) pa_nil)) (pe_callB (kRepr (K := K) rfl (gd rfl) hr.units) (by rfl) T.m_repr (by decide +kernel) (pa_cons (pv 1) pa_nil)) (nomark _)) (pe_and (pe_callB (call_isX (T.x_NoEntry P w base).ec hz hf) (by rfl) T.m_isinstance (by decide +kernel) (pa_cons (pv 3) (pa_cons (gTy (n := "LookupError") (by rfl) T.m_LookupError (by decide +kernel)) pa_nil))) (pe_one (pe_not (pe_callB (call_isX (T.x_NoEntry P w base).ec hz hf) (by rfl) T.m_isinstance (by decide +kernel) (pa_cons (pv 3) (pa_cons (gTy (n := "ValueError") (by rfl) T.m_ValueError (by decide +kernel)) pa_nil)))))))))))
    (pss_one (ps_ret (pe_cmpR gIs (pv 2) (pe_bl) (nomark _))))), ?_⟩
    try rw [cxK]
    refine i_start (τ := [some (v), some (at_), none, none]) rfl ?_
    walk_at "go"
    have hL' := hL
    obtain ⟨x, dx, t, vs, rfl, hx, _⟩ := hL'
    refine i_ixI ?_
    walk_at "go"
    refine ⟨x, dx, _, rfl, hx, _, es, at_, rfl, hL, .inr ⟨hk, hn, fun d hd => ?_⟩⟩
    have e2 : ∀ y, Ex H (upd H d (.xd [("index", y)])) := fun y => Ex.new hd
    refine ⟨true, T.xm_NoEntry, fun _ a ha => ?_, fun e => nomatch e⟩
    walk_at "go"
    refine i_var rfl ⟨rfl, rfl, d, _, _, rfl, upd_same, rfl, ?_⟩
    walk_at "go"
    refine hz _ _ (e2 _) ?_
    walk_at "go"
    refine hz _ _ (e2 _) ?_
    walk_at "go"
    rw [decide_eq_true rfl]
    walk_at "go"
    refine ⟨rfl, d, _, _, _, true, rfl, upd_same, rfl, .ty _, T.kx_NoEntry_LookupError, ?_⟩
    walk_at "go"
    refine ⟨rfl, d, _, _, _, false, rfl, upd_same, rfl, .ty _, T.kx_NoEntry_ValueError, ?_⟩
    walk_at "go"
    exact k _ (e2 _)
def spUn (K : PySem.W.Frag) : Sp := fun vs H Q _ => ∃ p q us ws es gs, vs = [.ref p, .ref q] ∧ SqL K H p us ∧ SqL K H q ws ∧ Ats K H us es ∧ Ats K H ws gs ∧ (∀ fs ∈ es, Fl fs) ∧ (∀ fs ∈ gs, Fl fs) ∧ es.length ≤ 100 ∧ Q (optV (unl es gs 0)) H
theorem ok_un {a_ENDS C_NoEntry C_Log : Addr} (T : Tp K mg a_ENDS C_NoEntry C_Log) : CalG P w K mg base false 1 "_law_unlike" (spUn K) 2 [] (fun vs _ => vs) := by
  refine T.d__law_unlike.calG sc__law_unlike (fun vs H Q E h => ?_) (fun f cdv A outer s H vs Q E hr _ h => ?_)
  · obtain ⟨p, q, us, ws, es, gs, rfl, _⟩ := h
    rfl
  · obtain ⟨p, q, us, ws, es, gs, rfl, h1, h2, a1, a2, f1, f2, hl, k⟩ := h
    have sc := sc__law_unlike
    refine ⟨_, 
    (pss_cons (ps_for PassesOwn.never rfl (pi_range1 (by rfl) T.m_range (pa_cons (pe_callB (kLen (K := K) rfl) (by rfl) T.m_len PySem.boot_len (pa_cons (pv 0) pa_nil)) pa_nil)) (pg_name (i := 2) sc.nd rfl (by first | exact Or.inl rfl | exact Or.inr rfl)) (
      (pss_one (ps_if (pt_cut (PW.pt (pw_and (pt_cmpR gLt (pv 2) (pe_callB (kLen (K := K) rfl) (by rfl) T.m_len PySem.boot_len (pa_cons (pv 1) pa_nil)) (nomark _)) (pw_and1 (pt_cmpR (kNe (K := K) rfl hr) (pe_ix (kIx (K := K) rfl) (pv 0) (pv 2) (fun _ _ => rfl)) (pe_ix (kIx (K := K) rfl) (pv 1) (pv 2) (fun _ _ => rfl)) (nomark _)))))) (
        (pss_one (ps_ret (pv 2)))) (pss_nil)))))
    (pss_one (ps_ret (pe_non)))), ?_⟩
    try rw [cxK]
    refine i_start (τ := [some (.ref p), some (.ref q), none]) rfl ?_
    have l1 := a1.length
    have l2 := a2.length
    walk_at "go"
    refine ⟨_, .inl h1, ?_⟩
    walk_at "go"
    refine ⟨_, rfl, by omega, by omega, ?_⟩
    refine for_rng (fun i σ H' => H' = H ∧ (∃ a, σ = [some (.ref p), some (.ref q), a]) ∧ unl es gs 0 = unl (es.drop i) (gs.drop i) i) ⟨rfl, ⟨_, rfl⟩, rfl⟩ ?_ ?_
    · rintro i σ H' hi ⟨rfl, ⟨a, rfl⟩, hu⟩
      have hi1 : i < es.length := by
        rw [← l1]
        simpa using hi
      walk_at "go"
      rw [Int.zero_add]
      obtain ⟨x, hx⟩ : ∃ x, us[i]? = some x := ⟨_, List.getElem?_eq_getElem (by omega)⟩
      obtain ⟨fs, g1, g2⟩ := a1.get hx
      by_cases hlt : i < gs.length
      · obtain ⟨y, hy⟩ : ∃ y, ws[i]? = some y := ⟨_, List.getElem?_eq_getElem (by omega)⟩
        obtain ⟨fs', g3, g4⟩ := a2.get hy
        refine i_isT (!eqE fs fs') ?_ ?_
        · walk_at "go"
          refine ⟨_, .inl h2, ?_⟩
          walk_at "go"
          rw [decide_eq_true (show (i : Int) < (ws.length : Int) by omega)]
          walk_at "go"
          refine ⟨_, _, .inl h1, atI_nat hx, ?_⟩
          walk_at "go"
          refine ⟨_, _, .inl h2, atI_nat hy, ?_⟩
          refine ne_at g2 g4 (f1 _ (List.mem_of_getElem? g1)) (f2 _ (List.mem_of_getElem? g3)) ?_
          exact ⟨_, rfl, rfl, rfl⟩
        rw [drop_at g1, drop_at g3, unl] at hu
        refine i_iteBN (fun hb => ?_) (fun hb => ?_)
        · walk_at "go"
          rw [hb, if_neg Bool.false_ne_true] at hu
          rw [hu] at k
          exact k
        · walk_at "go"
          rw [hb, if_pos rfl] at hu
          exact ⟨rfl, ⟨_, rfl⟩, hu⟩
      · refine i_isT false ?_ ?_
        · walk_at "go"
          refine ⟨_, .inl h2, ?_⟩
          walk_at "go"
          rw [decide_eq_false (show ¬ (i : Int) < (ws.length : Int) by omega)]
          walk_at "go"
          exact ⟨rfl, rfl⟩
        walk_at "go"
        rw [List.drop_of_length_le (show gs.length ≤ i by omega)] at hu
        refine ⟨rfl, ⟨_, rfl⟩, ?_⟩
        rw [List.drop_of_length_le (show gs.length ≤ i + 1 by omega), hu]
        cases es.drop i <;> cases es.drop (i + 1) <;> rfl
    · rintro σ H' ⟨rfl, ⟨a, rfl⟩, hu⟩
      walk_at "go"
      have hn : unl (es.drop (Int.toNat us.length)) (gs.drop (Int.toNat us.length)) (Int.toNat us.length) = none := by
        rw [List.drop_of_length_le (show es.length ≤ Int.toNat us.length by omega)]
        cases gs.drop (Int.toNat us.length) <;> rfl
      rw [hn] at hu
      rw [hu] at k
      exact k
end
end K
namespace K
open PySem PySem.Spec PyProof.Rows L2 G TL
local macro_rules | `(tactic| walk_at "side") => `(tactic| focus (first | assumption | exact rfl | omega | decide))
local macro_rules | `(tactic| walk_at "ty") => `(tactic| focus (first | exact .base (.str _) | exact .base (.int _) | exact .base (.bl _) | exact .base .non | exact .base (.lst (by assumption)) | exact .base (.tup (by assumption)) | exact .base (.dK (by assumption)) | assumption))
local macro_rules | `(tactic| walk_at "kt") => `(tactic| focus (with_reducible first | exact kt_NoneType_str | exact kt_NoneType_int | exact kt_NoneType_bool | exact kt_NoneType_tuple | exact kt_NoneType_list | exact kt_NoneType_dict | exact kt_bool_str | exact kt_bool_int | exact kt_bool_bool | exact kt_bool_tuple | exact kt_bool_list | exact kt_bool_dict | exact kt_int_str | exact kt_int_int | exact kt_int_bool | exact kt_int_tuple | exact kt_int_list | exact kt_int_dict | exact kt_str_str | exact kt_str_int | exact kt_str_bool | exact kt_str_tuple | exact kt_str_list | exact kt_str_dict | exact kt_list_str | exact kt_list_int | exact kt_list_bool | exact kt_list_tuple | exact kt_list_list | exact kt_list_dict | exact kt_tuple_str | exact kt_tuple_int | exact kt_tuple_bool | exact kt_tuple_tuple | exact kt_tuple_list | exact kt_tuple_dict | exact kt_dict_str | exact kt_dict_int | exact kt_dict_bool | exact kt_dict_tuple | exact kt_dict_list | exact kt_dict_dict | assumption))
local macro_rules | `(tactic| walk_at "1") => `(tactic| first
  | (with_reducible refine i_seq ?_)
  | (with_reducible refine iteT ?_)
  | (with_reducible refine iteF ?_)
  | (with_reducible refine iteNF ?_)
  | (with_reducible refine iteNT ?_)
  | (with_reducible refine i_asg ?_)
  | (with_reducible refine i_op ?_)
  | (with_reducible refine i_c ?_)
  | ((with_reducible apply i_var); (exact rfl))
  | (with_reducible refine i_cb ?_)
  | (with_reducible refine i_cons ?_)
  | (with_reducible refine i_nil ?_)
  | (with_reducible refine i_test ?_)
  | (with_reducible refine i_b ?_)
  | (with_reducible refine i_bl ?_)
  | (with_reducible refine i_name ?_)
  | (with_reducible refine i_ifS ?_)
  | (with_reducible refine i_next ?_)
  | (with_reducible refine i_ret ?_)
  | (with_reducible refine i_drop ?_)
  | (with_reducible refine i_lst ?_)
  | (with_reducible refine i_tup ?_)
  | (with_reducible refine i_and ?_)
  | (with_reducible refine i_or ?_)
  | (with_reducible refine i_not ?_)
  | (with_reducible refine i_andV ?_)
  | (with_reducible refine i_orV ?_)
  | (with_reducible refine i_notV ?_)
  | (with_reducible refine i_if ?_)
  | (with_reducible refine i_chain ?_)
  | (with_reducible refine i_un ?_)
  | (with_reducible refine i_neg ?_)
  | (with_reducible refine i_sub ?_)
  | (with_reducible refine i_sl ?_)
  | (with_reducible refine i_noP ?_)
  | (with_reducible refine i_part ?_)
  | (with_reducible refine i_int ?_)
  | (with_reducible refine i_bm ?_)
  | (with_reducible refine i_strT ?_)
  | (with_reducible refine i_yes ?_)
  | (with_reducible refine i_call ?_)
  | ((with_reducible refine i_len ?_ ?_); (focus (exact sz (by simp))))
  | (with_reducible refine i_lc ?_)
  | (with_reducible refine i_for ?_)
  | (with_reducible refine i_rng1 ?_)
  | (with_reducible refine i_rng2 ?_)
  | (with_reducible refine l_addI ?_)
  | (with_reducible refine l_subI ?_)
  | (with_reducible refine l_cmp ?_)
  | (with_reducible refine l_eqI ?_)
  | (with_reducible refine l_eqS ?_)
  | (with_reducible refine l_eqB ?_)
  | (with_reducible refine l_neI ?_)
  | (with_reducible refine l_neS ?_)
  | (with_reducible refine l_neB ?_)
  | (with_reducible refine l_isN ?_)
  | (with_reducible refine l_isNotN ?_)
  | (with_reducible refine l_isB ?_)
  | (with_reducible refine l_isNotB ?_)
  | (with_reducible refine l_intI ?_)
  | (with_reducible refine l_intB ?_)
  | (with_reducible refine l_inC ?_)
  | (refine ⟨_, _, rfl, rfl, sz (by first | omega | simp; omega), ?_⟩)
  | ((with_reducible refine l_pow ?_ ?_); (focus (exact ⟨by decide, by decide, by decide⟩)))
  | ((with_reducible refine l_mul ?_ ?_); (focus (first | assumption | exact Or.inl (Or.inl ⟨by omega, by omega⟩) | exact Or.inl (Or.inr ⟨by omega, by omega⟩))))
  | ((with_reducible refine l_div ?_ ?_); (focus (first | assumption | exact ⟨by decide, by decide⟩)))
  | ((with_reducible apply l_setL); (assumption); (exact rfl))
  | ((with_reducible refine l_mod ?_ ?_); (walk_at "side"))
  | ((with_reducible apply l_ixL); (assumption); (exact rfl))
  | ((with_reducible refine l_lenS ?_ ?_); (focus (first | assumption | exact sz (by omega) | exact sz (by simp; omega))))
  | ((with_reducible refine l_slS ?_ ?_); (focus (first | assumption | exact sz (by omega))))
  | ((with_reducible apply l_isi); (walk_at "ty"); (walk_at "kt"))
  | ((with_reducible apply l_lenL); (assumption)))
local macro_rules | `(tactic| walk_at "go") => `(tactic| repeat (walk_at "1"))
local macro_rules | `(tactic| walk_at "1") => `(tactic| first
  | (with_reducible refine i_mkS ?_)
  | (with_reducible refine i_cS ?_)
  | (with_reducible refine i_fld ?_)
  | (with_reducible refine i_sFld ?_)
  | (with_reducible refine i_tX ?_)
  | (with_reducible refine l_len2 rfl rfl ?_))
local macro_rules | `(tactic| walk_at "1") => `(tactic| first
  | (with_reducible refine i_stp ?_)
  | ((with_reducible apply i_iad); (exact rfl))
  | (with_reducible refine i_cO ?_)
  | (with_reducible refine i_prp ?_)
  | (with_reducible refine i_mtS ?_)
  | (with_reducible refine i_fldaug ?_)
  | (with_reducible refine i_par ?_)
  | (with_reducible refine i_par3 ?_)
  | (with_reducible refine i_revL ?_))
section
variable {P : Program} {w : World} {K : PySem.W.Frag} {mg : Str → Option Value} {base : Heap}
theorem shw_flat {H : Hp} {v : V} (hv : flatV v = true) (h : Lf (flatD v)) : ∃ z, Shw K H v z := ⟨_, shw_dp (dp_flat hv) h.sh h.nd (by have := h.ln; omega) (by have := h.dp; omega)⟩
theorem lf_zero : Lf (.str "0") := ⟨by decide +kernel, rfl, by decide +kernel, by simp [PyData.depth]⟩
def spRight (K : PySem.W.Frag) : Sp := fun vs H Q _ => ∃ p q us ws es gs, vs = [.ref p, .ref q] ∧ H p = some (.lst us) ∧ H q = some (.lst ws) ∧ q ≠ p ∧ Ats K H us es ∧ Ats K H ws gs ∧ (∀ fs ∈ es, Fl fs) ∧ (∀ fs ∈ gs, Fl fs) ∧ es.length ≤ 50 ∧ gs.length ≤ 50 ∧ ∀ H', But p H H' → Q (.bl true) H'
set_option maxHeartbeats 4000000 in
theorem ok_right {a_ENDS C_NoEntry C_Log : Addr} (T : Tp K mg a_ENDS C_NoEntry C_Log) : CalG P w K mg base true 6 "_law_right" (spRight K) 2 [] (fun vs _ => vs) := by
  have c_Log_1 := mk_Log_1 (P := P) (w := w) (base := base) T
  have c_Log___getitem__ := ok_itm (P := P) (w := w) (base := base) T
  have c_Log___len__ := ok_len (P := P) (w := w) (base := base) T
  have c_Log___eq__ := ok_eq (P := P) (w := w) (base := base) T
  have c_Log___le__ := ok_le (P := P) (w := w) (base := base) T
  have c_Log_unlike := ok_unl (P := P) (w := w) (base := base) T
  have c__law_refused := ok_ref (P := P) (w := w) (base := base) T
  have c__law_unlike := ok_un (P := P) (w := w) (base := base) T
  refine T.d__law_right.calG sc__law_right (fun vs H Q E h => ?_) (fun f cdv A outer s H vs Q E hr gd h => ?_)
  · obtain ⟨p, q, us, ws, es, gs, rfl, _⟩ := h
    rfl
  · obtain ⟨p, q, us, ws, es, gs, rfl, hp, hq, hne, a1, a2, f1, f2, l1, l2, k⟩ := h
    have sc := sc__law_right
    refine ⟨_, 
    (pss_cons (ps_asg (pe_tup (pa_cons (pe_mkS c_Log_1 hr (by decide) takes0 (by rfl) (pa_cons (pv 0) pa_nil)) (pa_cons (pe_mkS c_Log_1 hr (by decide) takes0 (by rfl) (pa_cons (pe_callTy (k_tuple (K := K) rfl) (by rfl) T.m_tuple (by decide +kernel) (pa_cons (pv 1) pa_nil)) pa_nil)) pa_nil))) (kTup (K := K) (n := 2) rfl (by rfl) (pgs_cons (pg_name (i := 2) sc.nd rfl (by first | exact Or.inl rfl | exact Or.inr rfl)) (pgs_cons (pg_name (i := 3) sc.nd rfl (by first | exact Or.inl rfl | exact Or.inr rfl)) (pgs_nil)))))
    (pss_cons (ps_set (i := 4) sc.nd rfl (by first | exact Or.inl rfl | exact Or.inr rfl) (pe_callTy (k_list (K := K) rfl) (by rfl) T.m_list (by decide +kernel) (pa_cons (pv 0) pa_nil)))
    (pss_cons (ps_expr (kBm (K := K) rfl PySem.F.plainAttrs_list PySem.F.slot_list_append PySem.F.type_list_append mt_append (pv 0) (pa_cons (pe_non) pa_nil)))
    (pss_cons (ps_if (pt_cut (PW.pt (pw_or (pt_cmpR (kNe (K := K) rfl hr) (pe_callB (len_I c_Log___len__ hr (by decide)) (by rfl) T.m_len PySem.boot_len (pa_cons (pv 2) pa_nil)) (pe_callB (kLen (K := K) rfl) (by rfl) T.m_len PySem.boot_len (pa_cons (pv 4) pa_nil)) (nomark _)) (pw_or1 (pt_cmpR (kNe (K := K) rfl hr) (pe_lc (own := [("_law_at", 5)]) (by rfl) sc.nd (pi_range1 (by rfl) T.m_range (pa_cons (pe_callB (kLen (K := K) rfl) (by rfl) T.m_len PySem.boot_len (pa_cons (pv 4) pa_nil)) pa_nil)) (blkOk_by (N := ["_law_one", "_law_other", "_law_log", "_law_second", "_law_kept", "_law_at", "_law_odd"]) (sc := defScope s__law_right) (by decide +kernel)) (fun _ _ _ _ _ => pg_name (i := 5) sc.nd rfl (by first | exact Or.inl rfl | exact Or.inr rfl)) (fun _ _ _ _ _ => pts_nil) (fun _ _ _ _ _ => pe_ixI c_Log___getitem__ hr (by decide) takes0 (pv 2) (pv 5))) (pv 4) (nomark _)))))) (
      (pss_one (ps_ret (pe_bl)))) (pss_nil))
    (pss_cons (ps_for PassesOwn.never rfl (kIT (K := K) rfl (pe_lst (pa_cons (pe_un un_neg (pe_int)) (pa_cons (pe_callB (kLen (K := K) rfl) (by rfl) T.m_len PySem.boot_len (pa_cons (pv 4) pa_nil)) (pa_cons (pe_bl) (pa_cons (pe_str) (pa_cons (pe_non) (pa_cons (pe_tup (pa_cons (pe_int) pa_nil)) (pa_cons (pe_lst (pa_nil)) (pa_cons (pe_op gPow (pe_int) (pe_int)) pa_nil)))))))))) (pg_name (i := 6) sc.nd rfl (by first | exact Or.inl rfl | exact Or.inr rfl)) (
      (pss_one (ps_if (pt_not (kTruth (K := K) rfl (pe_cS c__law_refused hr (by decide) (fun _ => gd rfl) takes0 (by rfl) (pa_cons (pv 2) (pa_cons (pv 6) pa_nil))) (by intro _; rfl))) (
        (pss_one (ps_ret (pe_bl)))) (pss_nil)))))
    (pss_cons (ps_if (pt_cut (PW.pt (pw_or (pt_cmpR (kNe (K := K) rfl hr) (pe_mtS c_Log_unlike hr (by decide) (fun e => nomatch e) takes0 (pv 2) (pa_cons (pv 3) pa_nil)) (pe_cS c__law_unlike hr (by decide) (fun e => nomatch e) takes0 (by rfl) (pa_cons (pv 4) (pa_cons (pv 1) pa_nil))) (nomark _)) (pw_or1 (pt_cmpR (kNe (K := K) rfl hr) (pe_mtS c_Log_unlike hr (by decide) (fun e => nomatch e) takes0 (pv 3) (pa_cons (pv 2) pa_nil)) (pe_cS c__law_unlike hr (by decide) (fun e => nomatch e) takes0 (by rfl) (pa_cons (pv 4) (pa_cons (pv 1) pa_nil))) (nomark _)))))) (
      (pss_one (ps_ret (pe_bl)))) (pss_nil))
    (pss_cons (ps_if (pt_cut (PW.pt (pw_or (pt_cmpR (kNe (K := K) rfl hr) (pe_cmpR (le_opI c_Log___le__ hr (by decide)) (pv 2) (pv 3) (nomark _)) (pe_cmpR (kEq (K := K) rfl hr) (pv 4) (pe_slice (kSl (K := K) rfl) (pv 1) po_none (po_some (pe_callB (kLen (K := K) rfl) (by rfl) T.m_len PySem.boot_len (pa_cons (pv 4) pa_nil)))) (nomark _)) (nomark _)) (pw_or1 (pt_cmpR (kNe (K := K) rfl hr) (pe_cmpR (eq_opI c_Log___eq__ hr (by decide)) (pv 2) (pv 3) (nomark _)) (pe_cmpR (kEq (K := K) rfl hr) (pv 4) (pv 1) (nomark _)) (nomark _)))))) (
      (pss_one (ps_ret (pe_bl)))) (pss_nil))
    (pss_one (ps_ret (pe_and (pe_cmpR (eq_opI c_Log___eq__ hr (by decide)) (pv 2) (pe_mkS c_Log_1 hr (by decide) takes0 (by rfl) (pa_cons (pv 4) pa_nil)) (nomark _)) (pe_and (pe_cmpR (ne_opI c_Log___eq__ T.ne_Log T.ob_Log hr (by decide)) (pv 2) (pv 4) (nomark _)) (pe_one (pe_not (pe_cmpR (eq_opI c_Log___eq__ hr (by decide)) (pv 2) (pe_non) (nomark _))))))))))))))), ?_⟩
    try rw [cxK]
    refine i_start (τ := [some (.ref p), some (.ref q), none, none, none, none, none]) rfl ?_
    walk_at "go"
    refine log_new (.l (.of hp)) a1 f1 (by omega) fun x1 H1 e1 g1 => ?_
    walk_at "go"
    refine l_tupSq (.l (.of (e1 _ _ hq))) fun t0 H2 e2 ht0 => ?_
    walk_at "go"
    refine log_new (.t ht0) (a2.mono (e1.trans e2)) f2 (by omega) fun x2 H3 e3 g2 => ?_
    walk_at "go"
    intro tp htp
    have e3' : Ex H3 (upd H3 tp (.tup [.ref x1, .ref x2])) := Ex.new htp
    have w3' : (upd H3 tp (.tup [.ref x1, .ref x2])) tp = some (.tup [.ref x1, .ref x2]) := upd_same
    generalize (upd H3 tp (.tup [.ref x1, .ref x2])) = H3' at e3' w3' ⊢
    refine gT2 (.of w3') ?_
    replace g2 := g2.mono e3'
    replace e3 := e3.trans e3'
    clear e3' w3' htp
    have e13 := e2.trans e3
    have e03 := e1.trans e13
    walk_at "go"
    refine ⟨rfl, ?_⟩
    walk_at "go"
    refine ⟨_, .inl (.of (e03 _ _ hp)), fun kp hkp => ?_⟩
    have e4 : Ex H3' (upd H3' kp (.lst us)) := Ex.new hkp
    have w4 : (upd H3' kp (.lst us)) kp = some (.lst us) := upd_same
    generalize (upd H3' kp (.lst us)) = H4 at e4 w4 ⊢
    have e04 := e03.trans e4
    have nkp : kp ≠ p := (ne_of_none (e03 _ _ hp) hkp).symm
    have hp4 := e04 _ _ hp
    walk_at "go"
    refine ⟨.inl ⟨rfl, _, .of hp4⟩, ?_⟩
    walk_at "go"
    have la := a1.length
    refine ⟨p, _, _, rfl, rfl, hp4, szl (by omega), ?_⟩
    have ba : But p H4 (upd H4 p (.lst (us ++ [.non]))) := (But.refl H4).mut
    have hk0 := ba _ _ nkp w4
    have hq0 := ba _ _ hne (e04 _ _ hq)
    have g10 := (g1.mono (e13.trans e4)).butL hp4 ba
    have g20 := (g2.mono e4).butL hp4 ba
    have a10 := (a1.mono e04).butL ba hp4
    have a20 := (a2.mono e04).butL ba hp4
    have b0 := e04.but.trans ba
    generalize (upd H4 p (.lst (us ++ [.non]))) = G0 at ba hk0 hq0 g10 g20 a10 a20 b0 ⊢
    clear ba e04 e4 w4 hkp e03 e13 g1 g2 ht0 e3 e2 e1 nkp hp4
    replace k : ∀ H', Ex G0 H' → Q (.bl true) H' := fun H' e => k H' (b0.trans e.but)
    have lb := a2.length
    walk_at "go"
    refine i_cutT (fun b H' => b = false ∧ Ex G0 H') ?_ ?_
    · walk_at "go"
      have g10' := g10
      obtain ⟨xx, dx, t, vs, exx, hxx, _⟩ := g10'
      cases exx
      refine ⟨x1, dx, _, rfl, hxx, _, es, rfl, g10, es.length, rfl, by omega, ?_⟩
      walk_at "go"
      rw [la, decide_eq_true (show (es.length : Int) = (es.length : Int) from rfl)]
      walk_at "go"
      refine ⟨_, rfl, by omega, by omega, ?_⟩
      intro D hD
      refine lc_range (fun i H' => Ex G0 H' ∧ ∃ vs, H' D = some (.lst vs) ∧ Ats K H' vs (es.take i)) ⟨Ex.new hD, [], upd_same, .nil⟩ ?_ ?_
      · rintro i H' hi ⟨eH, vs', hv, ha⟩
        have hi' : i < es.length := by
          rw [la] at hi
          simpa using hi
        refine ⟨rfl, ?_⟩
        refine i_yes ?_
        rw [if_pos rfl]
        refine i_ixI ?_
        walk_at "go"
        refine ⟨x1, dx, _, rfl, eH _ _ hxx, _, es, _, rfl, g10.mono eH, .inl ⟨i, by rw [Int.zero_add], es[i], List.getElem?_eq_getElem hi', fun u hu => ?_⟩⟩
        have hlen := ha.length
        have bu : But D H' (upd H' D (.lst (vs' ++ [u]))) := (But.refl H').mut
        refine ⟨_, hv, szl (by rw [hlen, List.length_take]; omega), eH.mut hD, vs' ++ [u], upd_same, ?_⟩
        rw [take_succ (List.getElem?_eq_getElem hi')]
        refine (ha.butL bu hv).app (.cons ?_ .nil)
        obtain ⟨p9, e9, h9⟩ := hu
        exact ⟨p9, e9, sqT_butL bu hv h9⟩
      rintro H' ⟨eH, vs', hv, ha⟩
      rw [show es.take (Int.toNat us.length) = es by rw [la]; exact List.take_of_length_le (by simp)] at ha
      walk_at "go"
      refine l_neD (.lst (.of hv) (ha.dp f1)) (.lst (.of (eH _ _ hk0)) ((a10.mono eH).dp f1)) (dEs_shL f1) (dEs_shL f1) (b := true) (by rw [PyData.eqv]; exact eqS_refl f1) ?_
      exact ⟨_, rfl, rfl, eH⟩
    rintro _ G1 ⟨rfl, e1⟩
    walk_at "go"
    refine i_anyL ?_
    walk_at "go"
    refine ⟨_, .inl (.of (e1 _ _ hk0)), ?_⟩
    walk_at "go"
    intro z0 hz0
    have e2 : Ex G1 (upd G1 z0 (HO.tup [V.int 0])) := Ex.new hz0
    have wz : (upd G1 z0 (HO.tup [V.int 0])) z0 = some (HO.tup [V.int 0]) := upd_same
    generalize (upd G1 z0 (HO.tup [V.int 0])) = G2 at e2 wz ⊢
    walk_at "go"
    intro z1 hz1
    have e3 : Ex G2 (upd G2 z1 (HO.lst [])) := Ex.new hz1
    have wn : (upd G2 z1 (HO.lst [])) z1 = some (HO.lst []) := upd_same
    generalize (upd G2 z1 (HO.lst [])) = G3 at e3 wn ⊢
    walk_at "go"
    generalize hod : [V.int (-1), V.int us.length, V.bl true, V.str "0", V.non, V.ref z0, V.ref z1, V.int (10 ^ Int.toNat 30)] = odds
    intro od hod'
    have e4 : Ex G3 (upd G3 od (.lst odds)) := Ex.new hod'
    have w4 : (upd G3 od (.lst odds)) od = some (.lst odds) := upd_same
    generalize (upd G3 od (.lst odds)) = G4 at e4 w4 ⊢
    have e04 := e1.trans (e2.trans (e3.trans e4))
    have wz4 := (e3.trans e4) _ _ wz
    have wn4 := e4 _ _ wn
    refine ⟨od, rfl, ⟨_, .of w4⟩, ?_⟩
    have hodd : ∀ x ∈ odds, Kd K G4 x ∧ (∀ i : Int, x = .int i → i < 0 ∨ (es.length : Int) ≤ i) ∧ ∃ z, Shw K G4 x z := by
      intro x hx
      rw [← hod] at hx
      simp only [List.mem_cons, List.not_mem_nil, or_false] at hx
      rcases hx with rfl | rfl | rfl | rfl | rfl | rfl | rfl | rfl
      · exact ⟨.inl rfl, fun i h => by cases h; exact .inl (by decide), shw_flat rfl (lf_int (by decide))⟩
      · exact ⟨.inl rfl, fun i h => by cases h; exact .inr (by omega), shw_flat rfl (lf_int (by simp; omega))⟩
      · exact ⟨.inl rfl, (fun i h => nomatch h), shw_flat rfl (lf_bl true)⟩
      · exact ⟨.inl rfl, (fun i h => nomatch h), shw_flat rfl lf_zero⟩
      · exact ⟨.inl rfl, (fun i h => nomatch h), shw_flat rfl lf_non⟩
      · exact ⟨.t (.of wz4), (fun i h => nomatch h), _, shw_tup (.tup (.of wz4) (.cons (.int 0) .nil)) (fun d hd => by rw [List.mem_singleton] at hd; rw [hd]; exact lf_int (by decide)) (by simp)⟩
      · exact ⟨.l (.of wn4), (fun i h => nomatch h), _, shw_list (.lst (.of wn4) .nil) (fun d hd => nomatch hd) (by simp)⟩
      · exact ⟨.inl rfl, fun i h => by cases h; exact .inr (by have : (50 : Int) ≤ 10 ^ Int.toNat 30 := by decide
                                                               omega), shw_flat rfl (lf_int (by decide))⟩
    refine for_lst (K := K) (xs := odds) (fun i σ H' => Ex G4 H' ∧ ∃ a b, σ = [some (.ref p), some (.ref q), some (.ref x1), some (.ref x2), some (.ref kp), a, b]) ⟨Ex.refl G4, _, _, rfl⟩ (fun i σ H' _ h => .of (h.1 _ _ w4)) ?_ ?_
    · rintro i x σ H' hx ⟨eH, a, b, rfl⟩
      obtain ⟨hk, hi, z, hz⟩ := hodd x (List.mem_of_getElem? hx)
      walk_at "go"
      refine ⟨_, es, x, z, rfl, g10.mono (e04.trans eH), hk.mono eH, hi, hz.mono eH, fun H'' e'' => ⟨true, by simp [TruV], ?_⟩⟩
      walk_at "go"
      exact ⟨eH.trans e'', _, _, rfl⟩
    rintro σ G5 ⟨e5, a, b, rfl⟩
    replace e5 := e04.trans e5
    clear e04 wz4 wn4 e4 w4 hodd hod hod' e3 wn hz1 e2 wz hz0 e1
    walk_at "go"
    have hlk : ∀ t, (lgF t).lookup ("unlike" : Str) = none := fun t => rfl
    refine i_cutT (fun b H' => b = false ∧ Ex G0 H') ?_ ?_
    · walk_at "go"
      have g10' := g10.mono e5
      have g10'' := g10'
      obtain ⟨xx, dx, t, vs, exx, hxx, _⟩ := g10''
      cases exx
      refine ⟨x1, dx, _, rfl, hxx, hlk t, ?_⟩
      walk_at "go"
      refine ⟨_, _, es, gs, rfl, g10', g20.mono e5, fun H6 e6 => ?_⟩
      have e06 := e5.trans e6
      walk_at "go"
      refine ⟨kp, q, us, ws, es, gs, rfl, .of (e06 _ _ hk0), .of (e06 _ _ hq0), a10.mono e06, a20.mono e06, f1, f2, by omega, ?_⟩
      refine l_neSelf (optV_scal _) ?_
      walk_at "go"
      have g20' := g20.mono e06
      have g20'' := g20'
      obtain ⟨yy, dy, t2, vs2, eyy, hyy, _⟩ := g20''
      cases eyy
      refine ⟨x2, dy, _, rfl, hyy, hlk t2, ?_⟩
      walk_at "go"
      refine ⟨_, _, gs, es, rfl, g20', g10.mono e06, fun H7 e7 => ?_⟩
      have e07 := e06.trans e7
      walk_at "go"
      refine ⟨kp, q, us, ws, es, gs, rfl, .of (e07 _ _ hk0), .of (e07 _ _ hq0), a10.mono e07, a20.mono e07, f1, f2, by omega, ?_⟩
      rw [unl_comm gs es]
      refine l_neSelf (optV_scal _) ?_
      exact ⟨_, rfl, rfl, e07⟩
    rintro _ G6 ⟨rfl, e6⟩
    walk_at "go"
    refine i_cutT (fun b H' => b = false ∧ Ex G0 H') ?_ ?_
    · walk_at "go"
      refine le_LL T (g10.mono e6) (g20.mono e6) fun H7 e7 => ?_
      have e07 := e6.trans e7
      walk_at "go"
      refine ⟨_, .inl (.of (e07 _ _ hk0)), ?_⟩
      walk_at "go"
      refine l_slL (.of (e07 _ _ hq0)) fun s1 hs1 => ?_
      rw [cut_take]
      have e8 : Ex H7 (upd H7 s1 (.lst (ws.take us.length))) := Ex.new hs1
      have w8 : (upd H7 s1 (.lst (ws.take us.length))) s1 = some (.lst (ws.take us.length)) := upd_same
      generalize (upd H7 s1 (.lst (ws.take us.length))) = H8 at e8 w8 ⊢
      have e08 := e07.trans e8
      have f3 : ∀ fs ∈ gs.take us.length, Fl fs := fun fs h => f2 fs (List.mem_of_mem_take h)
      refine l_eqD (.lst (.of (e08 _ _ hk0)) ((a10.mono e08).dp f1)) (.lst (.of w8) (((a20.take us.length).mono e08).dp f3)) (dEs_shL f1) (dEs_shL f3) (b := eqS es (gs.take es.length)) (by rw [PyData.eqv, la]; rfl) ?_
      walk_at "go"
      rw [decide_eq_true rfl]
      walk_at "go"
      refine eq_LL T (g10.mono e08) (g20.mono e08) ?_
      walk_at "go"
      refine l_eqD (.lst (.of (e08 _ _ hk0)) ((a10.mono e08).dp f1)) (.lst (.of (e08 _ _ hq0)) ((a20.mono e08).dp f2)) (dEs_shL f1) (dEs_shL f2) (b := eqS es gs) (by rw [PyData.eqv]; rfl) ?_
      walk_at "go"
      rw [decide_eq_true rfl]
      exact ⟨rfl, e08⟩
    rintro _ G7 ⟨rfl, e7⟩
    walk_at "go"
    refine log_new (.l (.of (e7 _ _ hk0))) (a10.mono e7) f1 (by omega) fun x3 H8 e8 g3 => ?_
    have e08 := e7.trans e8
    refine eq_LL T (g10.mono e08) g3 ?_
    rw [eqS_refl f1]
    walk_at "go"
    refine ne_LS T (g10.mono e08) (.of (e08 _ _ hk0)) ?_
    walk_at "go"
    refine eq_LN T (g10.mono e08) ?_
    walk_at "go"
    exact k _ e08
end
end K
namespace K
open PySem PySem.Spec PyProof.Rows L2 G TL
local macro_rules | `(tactic| walk_at "side") => `(tactic| focus (first | assumption | exact rfl | omega | decide))
local macro_rules | `(tactic| walk_at "ty") => `(tactic| focus (first | exact .base (.str _) | exact .base (.int _) | exact .base (.bl _) | exact .base .non | exact .base (.lst (by assumption)) | exact .base (.tup (by assumption)) | exact .base (.dK (by assumption)) | assumption))
local macro_rules | `(tactic| walk_at "kt") => `(tactic| focus (with_reducible first | exact kt_NoneType_str | exact kt_NoneType_int | exact kt_NoneType_bool | exact kt_NoneType_tuple | exact kt_NoneType_list | exact kt_NoneType_dict | exact kt_bool_str | exact kt_bool_int | exact kt_bool_bool | exact kt_bool_tuple | exact kt_bool_list | exact kt_bool_dict | exact kt_int_str | exact kt_int_int | exact kt_int_bool | exact kt_int_tuple | exact kt_int_list | exact kt_int_dict | exact kt_str_str | exact kt_str_int | exact kt_str_bool | exact kt_str_tuple | exact kt_str_list | exact kt_str_dict | exact kt_list_str | exact kt_list_int | exact kt_list_bool | exact kt_list_tuple | exact kt_list_list | exact kt_list_dict | exact kt_tuple_str | exact kt_tuple_int | exact kt_tuple_bool | exact kt_tuple_tuple | exact kt_tuple_list | exact kt_tuple_dict | exact kt_dict_str | exact kt_dict_int | exact kt_dict_bool | exact kt_dict_tuple | exact kt_dict_list | exact kt_dict_dict | assumption))
local macro_rules | `(tactic| walk_at "1") => `(tactic| first
  | (with_reducible refine i_seq ?_)
  | (with_reducible refine iteT ?_)
  | (with_reducible refine iteF ?_)
  | (with_reducible refine iteNF ?_)
  | (with_reducible refine iteNT ?_)
  | (with_reducible refine i_asg ?_)
  | (with_reducible refine i_op ?_)
  | (with_reducible refine i_c ?_)
  | ((with_reducible apply i_var); (exact rfl))
  | (with_reducible refine i_cb ?_)
  | (with_reducible refine i_cons ?_)
  | (with_reducible refine i_nil ?_)
  | (with_reducible refine i_test ?_)
  | (with_reducible refine i_b ?_)
  | (with_reducible refine i_bl ?_)
  | (with_reducible refine i_name ?_)
  | (with_reducible refine i_ifS ?_)
  | (with_reducible refine i_next ?_)
  | (with_reducible refine i_ret ?_)
  | (with_reducible refine i_drop ?_)
  | (with_reducible refine i_lst ?_)
  | (with_reducible refine i_tup ?_)
  | (with_reducible refine i_and ?_)
  | (with_reducible refine i_or ?_)
  | (with_reducible refine i_not ?_)
  | (with_reducible refine i_andV ?_)
  | (with_reducible refine i_orV ?_)
  | (with_reducible refine i_notV ?_)
  | (with_reducible refine i_if ?_)
  | (with_reducible refine i_chain ?_)
  | (with_reducible refine i_un ?_)
  | (with_reducible refine i_neg ?_)
  | (with_reducible refine i_sub ?_)
  | (with_reducible refine i_sl ?_)
  | (with_reducible refine i_noP ?_)
  | (with_reducible refine i_part ?_)
  | (with_reducible refine i_int ?_)
  | (with_reducible refine i_bm ?_)
  | (with_reducible refine i_strT ?_)
  | (with_reducible refine i_yes ?_)
  | (with_reducible refine i_call ?_)
  | ((with_reducible refine i_len ?_ ?_); (focus (exact sz (by simp))))
  | (with_reducible refine i_lc ?_)
  | (with_reducible refine i_for ?_)
  | (with_reducible refine i_rng1 ?_)
  | (with_reducible refine i_rng2 ?_)
  | (with_reducible refine l_addI ?_)
  | (with_reducible refine l_subI ?_)
  | (with_reducible refine l_cmp ?_)
  | (with_reducible refine l_eqI ?_)
  | (with_reducible refine l_eqS ?_)
  | (with_reducible refine l_eqB ?_)
  | (with_reducible refine l_neI ?_)
  | (with_reducible refine l_neS ?_)
  | (with_reducible refine l_neB ?_)
  | (with_reducible refine l_isN ?_)
  | (with_reducible refine l_isNotN ?_)
  | (with_reducible refine l_isB ?_)
  | (with_reducible refine l_isNotB ?_)
  | (with_reducible refine l_intI ?_)
  | (with_reducible refine l_intB ?_)
  | (with_reducible refine l_inC ?_)
  | (refine ⟨_, _, rfl, rfl, sz (by first | omega | simp; omega), ?_⟩)
  | ((with_reducible refine l_pow ?_ ?_); (focus (exact ⟨by decide, by decide, by decide⟩)))
  | ((with_reducible refine l_mul ?_ ?_); (focus (first | assumption | exact Or.inl (Or.inl ⟨by omega, by omega⟩) | exact Or.inl (Or.inr ⟨by omega, by omega⟩))))
  | ((with_reducible refine l_div ?_ ?_); (focus (first | assumption | exact ⟨by decide, by decide⟩)))
  | ((with_reducible apply l_setL); (assumption); (exact rfl))
  | ((with_reducible refine l_mod ?_ ?_); (walk_at "side"))
  | ((with_reducible apply l_ixL); (assumption); (exact rfl))
  | ((with_reducible refine l_lenS ?_ ?_); (focus (first | assumption | exact sz (by omega) | exact sz (by simp; omega))))
  | ((with_reducible refine l_slS ?_ ?_); (focus (first | assumption | exact sz (by omega))))
  | ((with_reducible apply l_isi); (walk_at "ty"); (walk_at "kt"))
  | ((with_reducible apply l_lenL); (assumption)))
local macro_rules | `(tactic| walk_at "go") => `(tactic| repeat (walk_at "1"))
local macro_rules | `(tactic| walk_at "1") => `(tactic| first
  | (with_reducible refine i_mkS ?_)
  | (with_reducible refine i_cS ?_)
  | (with_reducible refine i_fld ?_)
  | (with_reducible refine i_sFld ?_)
  | (with_reducible refine i_tX ?_)
  | (with_reducible refine l_len2 rfl rfl ?_))
local macro_rules | `(tactic| walk_at "1") => `(tactic| first
  | (with_reducible refine i_stp ?_)
  | ((with_reducible apply i_iad); (exact rfl))
  | (with_reducible refine i_cO ?_)
  | (with_reducible refine i_prp ?_)
  | (with_reducible refine i_mtS ?_)
  | (with_reducible refine i_fldaug ?_)
  | (with_reducible refine i_par ?_)
  | (with_reducible refine i_par3 ?_)
  | (with_reducible refine i_revL ?_))
section
variable {P : Program} {w : World} {K : PySem.W.Frag} {mg : Str → Option Value} {base : Heap}
theorem Ex.but' {p : Addr} {H H1 H2 : Hp} (e : Ex H H1) (b : But p H1 H2) (h : H p = none) : Ex H H2 := fun a o ha => b a o (ne_of_none ha h) (e a o ha)
/-- a list of entries -/
def Oth (K : PySem.W.Frag) (H : Hp) (v : V) : Prop := ∃ a vs gs, v = .ref a ∧ H a = some (.lst vs) ∧ Ats K H vs gs ∧ (∀ fs ∈ gs, Fl fs) ∧ gs.length ≤ 50
theorem Oth.mono {H H' : Hp} {v : V} (h : Oth K H v) (e : Ex H H') : Oth K H' v := by
  obtain ⟨a, vs, gs, rfl, h1, h2, h3⟩ := h
  exact ⟨a, vs, gs, rfl, e _ _ h1, h2.mono e, h3⟩
theorem how_of {a_ENDS C_NoEntry C_Log : Addr} (T : Tp K mg a_ENDS C_NoEntry C_Log) {H : Hp} {x : Addr} {es : List (List V)} {Q : VK} {E : XK} (hL : LogAt K C_Log H (.ref x) es) (h : (es = [] ∧ ∀ H', Ex H H' → Q (.str "cut") H') ∨ (∃ es' z r, es = es' ++ [V.str z :: r] ∧ ∀ H', Ex H H' → Q (.str (if inV (.str z) endsV = true then z else "cut")) H')) :
    ∃ a dx fs, V.ref x = .ref a ∧ H a = some (.ins C_Log dx fs) ∧ spHow K C_Log (.ref a :: []) H Q E := by
  have hL' := hL
  obtain ⟨a, dx, t, vs, ea, hx, _⟩ := hL'
  cases ea
  exact ⟨x, dx, _, rfl, hx, _, es, rfl, hL, h⟩
theorem how_cut {a_ENDS C_NoEntry C_Log : Addr} (T : Tp K mg a_ENDS C_NoEntry C_Log) {H : Hp} {x : Addr} {es : List (List V)} {Q : VK} {E : XK} (hL : LogAt K C_Log H (.ref x) es) (ho : ∀ fs ∈ es, Ok1 fs) (q : ∀ H', Ex H H' → Q (.str "cut") H') :
    ∃ a dx fs, V.ref x = .ref a ∧ H a = some (.ins C_Log dx fs) ∧ spHow K C_Log (.ref a :: []) H Q E := by
  refine how_of T hL ?_
  rcases List.eq_nil_or_concat es with h | ⟨es', fs, h⟩
  · exact .inl ⟨h, q⟩
  · rw [List.concat_eq_append] at h
    obtain ⟨_, z, r, e, hz⟩ := ho fs (by rw [h]; simp)
    refine .inr ⟨es', z, r, by rw [h, e], ?_⟩
    rw [if_neg (by rw [hz]; exact Bool.false_ne_true)]
    exact q
def spLaw (K : PySem.W.Frag) : Sp := fun vs H Q _ => ∃ (a : Addr) (ns : List Int), vs = [.ref a] ∧ SqL K H a (ns.map V.int) ∧ ns.length ≤ 63 ∧ ∀ H', Q (.bl true) H'
set_option maxHeartbeats 4000000 in
theorem ok_law {a_ENDS C_NoEntry C_Log : Addr} (T : Tp K mg a_ENDS C_NoEntry C_Log) {fa : Addr} (hfa : mg "law" = some (.ref fa)) : ∃ fd : FuncData, (∃ (kV doc pm : Value) (an : Option Addr) (cdv ct : Value), fd = PySem.W.fnOf "law" "law" (defArgs s_law) (defBody s_law) (defScope s_law) .none kV doc pm an cdv ct) ∧ ∀ base : Heap, Fg P w K mg base true 9 fa fd ["_law_script"] (spLaw K) := by
  refine T.d_law.lawG sc_law hfa (fun vs H Q E h => ?_) (fun base f cdv A outer s H vs Q E hr gd h => ?_)
  · obtain ⟨a, ns, rfl, _⟩ := h
    rfl
  · obtain ⟨a, script, rfl, hS, hl, fin⟩ := h
    have sc := sc_law
    have c__law_pool : Cal P w K mg base 1 "_law_pool" (spPool K) [] := ok_pool T
    have c__law_take : Cal P w K mg base 1 "_law_take" spTake [] := ok_take T
    have c_Log_1 := mk_Log_1 (P := P) (w := w) (base := base) T
    have c_Log___len__ := ok_len (P := P) (w := w) (base := base) T
    have c_Log_how := ok_how (P := P) (w := w) (base := base) T
    have c__law_entries := ok_ent (P := P) (w := w) (base := base) T
    have c__law_right := ok_right (P := P) (w := w) (base := base) T
    refine ⟨_, 
    (pss_cons (ps_for PassesOwn.never rfl (pi_range1 (by rfl) T.m_range (pa_cons (pe_callB (call_max2 rfl) (by rfl) T.m_max (by decide +kernel) (pa_cons (pe_int) (pa_cons (pe_callB (call_min2 rfl) (by rfl) T.m_min (by decide +kernel) (pa_cons (pe_callB (kLen (K := K) rfl) (by rfl) T.m_len PySem.boot_len (pa_cons (pv 0) pa_nil)) (pa_cons (pe_int) pa_nil))) pa_nil))) pa_nil)) (pg_name (i := 1) sc.nd rfl (by first | exact Or.inl rfl | exact Or.inr rfl)) (
      (pss_cons (ps_set (i := 2) sc.nd rfl (by first | exact Or.inl rfl | exact Or.inr rfl) (pe_c c__law_pool hr (by decide) (by rfl) (pa_cons (pv 0) (pa_cons (pv 1) pa_nil))))
      (pss_cons (ps_set (i := 3) sc.nd rfl (by first | exact Or.inl rfl | exact Or.inr rfl) (pe_cS c__law_entries hr (by decide) (fun e => nomatch e) takes0 (by rfl) (pa_cons (pv 2) pa_nil)))
      (pss_cons (ps_set (i := 4) sc.nd rfl (by first | exact Or.inl rfl | exact Or.inr rfl) (pe_c c__law_take hr (by decide) (by rfl) (pa_cons (pv 2) (pa_cons (pe_op (kAdd (K := K) rfl) (pe_callB (kLen (K := K) rfl) (by rfl) T.m_len PySem.boot_len (pa_cons (pv 3) pa_nil)) (pe_int)) pa_nil))))
      (pss_cons (ps_for PassesOwn.never rfl (kIT (K := K) rfl (pe_lst (pa_cons (pe_cS c__law_entries hr (by decide) (fun e => nomatch e) takes0 (by rfl) (pa_cons (pv 2) pa_nil)) (pa_cons (pe_callTy (k_list (K := K) rfl) (by rfl) T.m_list (by decide +kernel) (pa_cons (pv 3) pa_nil)) (pa_cons (pe_slice (kSl (K := K) rfl) (pv 3) po_none (po_some (pv 4))) (pa_cons (pe_op (kAdd (K := K) rfl) (pe_slice (kSl (K := K) rfl) (pv 3) po_none (po_some (pv 4))) (pe_cS c__law_entries hr (by decide) (fun e => nomatch e) takes0 (by rfl) (pa_cons (pv 2) pa_nil))) (pa_cons (pe_op (kAdd (K := K) rfl) (pv 3) (pe_lst (pa_cons (pe_tup (pa_cons (pe_str) (pa_cons (pe_str) pa_nil))) pa_nil))) pa_nil))))))) (pg_name (i := 5) sc.nd rfl (by first | exact Or.inl rfl | exact Or.inr rfl)) (
        (pss_one (ps_if (pt_cut (PW.pt (pw_or (pt_not (kTruth (K := K) rfl (pe_cS c__law_right hr (by decide) (fun _ => gd rfl) takes0 (by rfl) (pa_cons (pe_callTy (k_list (K := K) rfl) (by rfl) T.m_list (by decide +kernel) (pa_cons (pv 3) pa_nil)) (pa_cons (pv 5) pa_nil))) (by intro _; rfl))) (pw_or1 (pt_not (kTruth (K := K) rfl (pe_cS c__law_right hr (by decide) (fun _ => gd rfl) takes0 (by rfl) (pa_cons (pe_callTy (k_list (K := K) rfl) (by rfl) T.m_list (by decide +kernel) (pa_cons (pv 5) pa_nil)) (pa_cons (pe_callTy (k_list (K := K) rfl) (by rfl) T.m_list (by decide +kernel) (pa_cons (pv 3) pa_nil)) pa_nil))) (by intro _; rfl))))))) (
          (pss_one (ps_ret (pe_bl)))) (pss_nil)))))
      (pss_cons (ps_for PassesOwn.never rfl (kIT (K := K) rfl (pe_lst (pa_cons (pe_str) (pa_cons (pe_str) (pa_cons (pe_str) (pa_cons (pe_str) pa_nil)))))) (pg_name (i := 6) sc.nd rfl (by first | exact Or.inl rfl | exact Or.inr rfl)) (
        (pss_one (ps_if (pt_cut (PW.pt (pw_or (pt_cmpR (kNe (K := K) rfl hr) (pe_prp c_Log_how hr (by decide) (pe_mkS c_Log_1 hr (by decide) takes0 (by rfl) (pa_cons (pe_op (kAdd (K := K) rfl) (pv 3) (pe_lst (pa_cons (pe_tup (pa_cons (pv 6) (pa_cons (pe_str) pa_nil))) pa_nil))) pa_nil))) (pv 6) (nomark _)) (pw_or1 (pt_cmpR (kNe (K := K) rfl hr) (pe_prp c_Log_how hr (by decide) (pe_mkS c_Log_1 hr (by decide) takes0 (by rfl) (pa_cons (pe_op (kAdd (K := K) rfl) (pe_lst (pa_cons (pe_tup (pa_cons (pv 6) pa_nil)) pa_nil)) (pv 3)) pa_nil))) (pe_cut (pe_ifExp (pt_cmpR (kEq (K := K) rfl hr) (pv 3) (pe_lst (pa_nil)) (nomark _)) (pv 6) (pe_str))) (nomark _)))))) (
          (pss_one (ps_ret (pe_bl)))) (pss_nil)))))
      (pss_one (ps_if (pt_cut (PW.pt (pw_or (pt_cmpR (kNe (K := K) rfl hr) (pe_prp c_Log_how hr (by decide) (pe_mkS c_Log_1 hr (by decide) takes0 (by rfl) (pa_cons (pv 3) pa_nil))) (pe_str) (nomark _)) (pw_or1 (pt_cmpR (kNe (K := K) rfl hr) (pe_callB (len_I c_Log___len__ hr (by decide)) (by rfl) T.m_len PySem.boot_len (pa_cons (pe_mkS c_Log_1 hr (by decide) takes0 (by rfl) (pa_cons (pe_lst (pa_nil)) pa_nil)) pa_nil)) (pe_int) (nomark _)))))) (
        (pss_one (ps_ret (pe_bl)))) (pss_nil))))))))))
    (pss_one (ps_ret (pe_bl)))), ?_⟩
    try rw [cxK]
    refine i_start (τ := [some (.ref a), none, none, none, none, none, none]) rfl ?_
    walk_at "go"
    refine ⟨_, .inl hS, ?_⟩
    walk_at "go"
    refine ⟨_, _, rfl, ?_⟩
    walk_at "go"
    refine ⟨_, _, rfl, ?_⟩
    walk_at "go"
    refine ⟨_, rfl, by split <;> omega, by split <;> omega, ?_⟩
    refine for_rng (fun i σ H' => ∃ v1 v2 v3 v4 v5 v6, σ = [some (.ref a), v1, v2, v3, v4, v5, v6] ∧ Ex H H') ⟨_, _, _, _, _, _, rfl, Ex.refl H⟩ ?_ ?_
    · rintro i σ H0 hi ⟨v1, v2, v3, v4, v5, v6, rfl, e0⟩
      have hi5 : i < 64 := by
        simp only [List.length_map] at hi
        split at hi <;> split at hi <;> omega
      walk_at "go"
      refine ⟨a, script, i, by rw [Int.zero_add]; rfl, sqL_mono e0 hS, hi5, fun p H1 hp1 e1 po1 => ?_⟩
      have hp0 := e0.free hp1
      have e01 := e0.trans e1
      walk_at "go"
      refine ⟨p, rfl, po1, fun q1 us es H2 nq1 dq1 po2 b2 hq1 ha1 ok1 le1 => ?_⟩
      have lu := ha1.length
      walk_at "go"
      refine take po2 (by omega) (by omega) fun r H3 r0 r1 po3 b3 => ?_
      have pl2 := po2
      obtain ⟨px, py, hpl2, _⟩ := pl2
      have hq3 := b3 _ _ dq1 hq1
      have ha3 := ha1.butL b3 hpl2
      have e03 := Ex.but' (Ex.but' e01 b2 hp0) b3 hp0
      clear b2 b3 hq1 ha1 hpl2 e01 e1 hp1 po1 po2
      obtain ⟨cu, rfl⟩ := Int.eq_ofNat_of_zero_le r0
      walk_at "go"
      refine i_anyL ?_
      walk_at "go"
      refine ⟨p, rfl, po3, fun q2 us2 gs2 H4 nq2 dq2 po4 b4 hq2 ha2 ok2 le2 => ?_⟩
      have pl3 := po3
      obtain ⟨px3, py3, hpl3, _⟩ := pl3
      have hq4 := b4 _ _ dq1 hq3
      have ha4 := ha3.butL b4 hpl3
      have e04 := Ex.but' e03 b4 hp0
      clear b4 hq3 ha3 hpl3 po3 e03
      walk_at "go"
      refine ⟨_, .inl (.of hq4), fun q3 hq3 => ?_⟩
      have e5 : Ex H4 (upd H4 q3 (.lst us)) := Ex.new hq3
      have w5 : (upd H4 q3 (.lst us)) q3 = some (.lst us) := upd_same
      generalize (upd H4 q3 (.lst us)) = H5 at e5 w5 ⊢
      walk_at "go"
      refine l_slL (.of (e5 _ _ hq4)) fun q4 hq4' => ?_
      rw [show cutV us none (some (cu : Int)) = us.take cu from cut_take us cu]
      have e6 : Ex H5 (upd H5 q4 (.lst (us.take cu))) := Ex.new hq4'
      have w6 : (upd H5 q4 (.lst (us.take cu))) q4 = some (.lst (us.take cu)) := upd_same
      generalize (upd H5 q4 (.lst (us.take cu))) = H6 at e6 w6 ⊢
      have e46 := e5.trans e6
      walk_at "go"
      refine l_slL (.of (e46 _ _ hq4)) fun q5 hq5 => ?_
      rw [show cutV us none (some (cu : Int)) = us.take cu from cut_take us cu]
      have e7 : Ex H6 (upd H6 q5 (.lst (us.take cu))) := Ex.new hq5
      have w7 : (upd H6 q5 (.lst (us.take cu))) q5 = some (.lst (us.take cu)) := upd_same
      generalize (upd H6 q5 (.lst (us.take cu))) = H7 at e7 w7 ⊢
      have e47 := e46.trans e7
      have po7 := po4.mono e47
      walk_at "go"
      refine ⟨p, rfl, po7, fun q6 us6 gs6 H8 nq6 dq6 po8 b8 hq6 ha6 ok6 le6 => ?_⟩
      have pl7 := po7
      obtain ⟨px7, py7, hpl7, _⟩ := pl7
      have nn : ∀ {x : Addr} {o : HO}, H7 x = some o → x ≠ p → H8 x = some o := fun h n => b8 _ _ n h
      have npo : ∀ {x : Addr} {G : Hp}, Po G p → G x = none → x ≠ p := fun h n => h.ne n
      have d3 := npo po4 hq3
      have d4 := npo (po4.mono e5) hq4'
      have d5 := npo (po4.mono e46) hq5
      have g1 := nn (e47 _ _ hq4) dq1
      have g2 := nn (e47 _ _ hq2) dq2
      have g3 := nn ((e6.trans e7) _ _ w5) d3
      have g4 := nn (e7 _ _ w6) d4
      have g5 := nn w7 d5
      have A1 := (ha4.mono e47).butL b8 hpl7
      have A2 := (ha2.mono e47).butL b8 hpl7
      have e08 := Ex.but' (e04.trans e47) b8 hp0
      clear nn npo hpl7 b8 po7 e47 e46 e5 e6 e7 w5 w6 w7 hq4 ha4 hq2 ha2 hq3 hq4' hq5 e04 po4
      walk_at "go"
      have lu6 := ha6.length
      have lu2 := A2.length
      refine l_addL g5 hq6 (by rw [List.length_take]; omega) fun q7 hq7 => ?_
      have e9 : Ex H8 (upd H8 q7 (.lst (us.take cu ++ us6))) := Ex.new hq7
      have w9 : (upd H8 q7 (.lst (us.take cu ++ us6))) q7 = some (.lst (us.take cu ++ us6)) := upd_same
      generalize (upd H8 q7 (.lst (us.take cu ++ us6))) = H9 at e9 w9 ⊢
      walk_at "go"
      intro t8 ht8
      have e10 : Ex H9 (upd H9 t8 (HO.tup [V.str "open", V.str "t"])) := Ex.new ht8
      have w10 : (upd H9 t8 (HO.tup [V.str "open", V.str "t"])) t8 = some (HO.tup [V.str "open", V.str "t"]) := upd_same
      generalize (upd H9 t8 (HO.tup [V.str "open", V.str "t"])) = H10 at e10 w10 ⊢
      walk_at "go"
      intro q8 hq8
      have e11 : Ex H10 (upd H10 q8 (HO.lst [V.ref t8])) := Ex.new hq8
      have w11 : (upd H10 q8 (HO.lst [V.ref t8])) q8 = some (HO.lst [V.ref t8]) := upd_same
      generalize (upd H10 q8 (HO.lst [V.ref t8])) = H11 at e11 w11 ⊢
      walk_at "go"
      have e811 := e9.trans (e10.trans e11)
      refine l_addL (e811 _ _ g1) w11 (by simp; omega) fun q9 hq9 => ?_
      have e12 : Ex H11 (upd H11 q9 (.lst (us ++ [V.ref t8]))) := Ex.new hq9
      have w12 : (upd H11 q9 (.lst (us ++ [V.ref t8]))) q9 = some (.lst (us ++ [V.ref t8])) := upd_same
      generalize (upd H11 q9 (.lst (us ++ [V.ref t8]))) = H12 at e12 w12 ⊢
      walk_at "go"
      intro l10 hl10
      have e13 : Ex H12 (upd H12 l10 (.lst [V.ref q2, V.ref q3, V.ref q4, V.ref q7, V.ref q9])) := Ex.new hl10
      have w13 : (upd H12 l10 (.lst [V.ref q2, V.ref q3, V.ref q4, V.ref q7, V.ref q9])) l10 = some (.lst [V.ref q2, V.ref q3, V.ref q4, V.ref q7, V.ref q9]) := upd_same
      generalize (upd H12 l10 (.lst [V.ref q2, V.ref q3, V.ref q4, V.ref q7, V.ref q9])) = G at e13 w13 ⊢
      have e1113 := e12.trans e13
      have e1013 := e11.trans e1113
      have e913 := e10.trans e1013
      have e8G := e9.trans e913
      have e0G := e08.trans e8G
      have f1 : ∀ fs ∈ es, Fl fs := fun fs h => (ok1 fs h).1
      have hoth : ∀ x ∈ [V.ref q2, V.ref q3, V.ref q4, V.ref q7, V.ref q9], Oth K G x := by
        intro x hx
        simp only [List.mem_cons, List.not_mem_nil, or_false] at hx
        rcases hx with rfl | rfl | rfl | rfl | rfl
        · exact ⟨_, _, _, rfl, e8G _ _ g2, A2.mono e8G, fun fs h => (ok2 fs h).1, by omega⟩
        · exact ⟨_, _, _, rfl, e8G _ _ g3, A1.mono e8G, f1, by omega⟩
        · exact ⟨_, _, _, rfl, e8G _ _ g4, (A1.take cu).mono e8G, fun fs h => f1 fs (List.mem_of_mem_take h), by rw [List.length_take]; omega⟩
        · refine ⟨_, _, _, rfl, e913 _ _ w9, ((A1.take cu).mono e8G).app (ha6.mono e8G), fun fs h => ?_, by rw [List.length_append, List.length_take]; omega⟩
          rcases List.mem_append.mp h with h | h
          · exact f1 fs (List.mem_of_mem_take h)
          · exact (ok6 fs h).1
        · refine ⟨_, _, es ++ [[V.str "open", V.str "t"]], rfl, e13 _ _ w12, (A1.mono e8G).app (.cons ⟨t8, rfl, .of (e1013 _ _ w10)⟩ .nil), fun fs h => ?_, by simp; omega⟩
          rcases List.mem_append.mp h with h | h
          · exact f1 fs h
          · rw [List.mem_singleton] at h
            rw [h]
            exact fl_of (by decide +kernel)
      have hG1 := e8G _ _ g1
      have AG := A1.mono e8G
      clear e913 e1013 e1113 e12 w12 e11 w11 e10 w10 e9 w9 e811 g1 g2 g3 g4 g5 A1 A2 e8G e13
      refine ⟨l10, rfl, ⟨_, .of w13⟩, ?_⟩
      refine for_lst (K := K) (xs := [V.ref q2, V.ref q3, V.ref q4, V.ref q7, V.ref q9]) (fun _ σ H' => Ex G H' ∧ ∃ v5 v6, σ = [some (.ref a), some (.int (0 + i)), some (.ref p), some (.ref q1), some (.int cu), v5, v6]) ⟨Ex.refl G, _, _, rfl⟩ (fun _ σ H' _ h => .of (h.1 _ _ w13)) ?_ ?_
      · rintro j x σ J0 hj ⟨eJ, v5, v6, rfl⟩
        obtain ⟨ax, vx, gx, rfl, hx1, hx2, hx3, hx4⟩ := hoth x (List.mem_of_getElem? hj)
        walk_at "go"
        refine i_cutT (fun b H' => b = false ∧ Ex G H') ?_ ?_
        · walk_at "go"
          refine ⟨_, .inl (.of (eJ _ _ hG1)), fun n1 hn1 => ?_⟩
          have ee1 : Ex J0 (upd J0 n1 (.lst us)) := Ex.new hn1
          have ww1 : (upd J0 n1 (.lst us)) n1 = some (.lst us) := upd_same
          generalize (upd J0 n1 (.lst us)) = J1 at ee1 ww1 ⊢
          have eJ1 := eJ.trans ee1
          walk_at "go"
          refine ⟨n1, ax, us, vx, es, gx, rfl, ww1, eJ1 _ _ hx1, ne_of_none (eJ _ _ hx1) hn1, AG.mono eJ1, hx2.mono eJ1, f1, hx3, by omega, by omega, fun J2 bJ => ⟨true, by simp [TruV], ?_⟩⟩
          have eJ2 := Ex.but' eJ1 bJ (eJ.free hn1)
          walk_at "go"
          refine ⟨_, .inl (.of (eJ2 _ _ hx1)), fun n2 hn2 => ?_⟩
          have ee3 : Ex J2 (upd J2 n2 (.lst vx)) := Ex.new hn2
          have ww3 : (upd J2 n2 (.lst vx)) n2 = some (.lst vx) := upd_same
          generalize (upd J2 n2 (.lst vx)) = J3 at ee3 ww3 ⊢
          have eJ3 := eJ2.trans ee3
          walk_at "go"
          refine ⟨_, .inl (.of (eJ3 _ _ hG1)), fun n3 hn3 => ?_⟩
          have ee4 : Ex J3 (upd J3 n3 (.lst us)) := Ex.new hn3
          have ww4 : (upd J3 n3 (.lst us)) n3 = some (.lst us) := upd_same
          generalize (upd J3 n3 (.lst us)) = J4 at ee4 ww4 ⊢
          have eJ4 := eJ3.trans ee4
          walk_at "go"
          refine ⟨n2, n3, vx, us, gx, es, rfl, ee4 _ _ ww3, ww4, (ne_of_none ww3 hn3).symm, hx2.mono eJ4, AG.mono eJ4, hx3, f1, by omega, by omega, fun J5 bJ' => ⟨true, by simp [TruV], rfl, ?_⟩⟩
          exact Ex.but' eJ4 bJ' (eJ2.free hn2)
        rintro _ J1 ⟨rfl, e1⟩
        walk_at "go"
        exact ⟨e1, _, _, rfl⟩
      rintro σ G1 ⟨eG, v5, v6, rfl⟩
      replace e0G := e0G.trans eG
      replace hG1 := eG _ _ hG1
      replace AG := AG.mono eG
      clear eG hoth w13 hl10
      walk_at "go"
      refine i_anyL ?_
      walk_at "go"
      intro wl hwl
      have ew : Ex G1 (upd G1 wl (.lst endsV)) := Ex.new hwl
      have ww : (upd G1 wl (.lst endsV)) wl = some (.lst endsV) := upd_same
      generalize (upd G1 wl (.lst endsV)) = G2 at ew ww ⊢
      replace e0G := e0G.trans ew
      replace hG1 := ew _ _ hG1
      replace AG := AG.mono ew
      refine ⟨wl, rfl, ⟨_, .of ww⟩, ?_⟩
      refine for_lst (K := K) (xs := endsV) (fun _ σ H' => Ex G2 H' ∧ ∃ v5 v6, σ = [some (.ref a), some (.int (0 + i)), some (.ref p), some (.ref q1), some (.int cu), v5, v6]) ⟨Ex.refl G2, _, _, rfl⟩ (fun _ σ H' _ h => .of (h.1 _ _ ww)) ?_ ?_
      · rintro j x σ J0 hj ⟨eJ, v5, v6, rfl⟩
        obtain ⟨z, rfl, hz, fz, fz'⟩ : ∃ z, x = .str z ∧ inV (.str z) endsV = true ∧ Fl [.str z, .str "x"] ∧ Fl [.str z] := by
          have hx := List.mem_of_getElem? hj
          simp only [List.mem_cons, List.not_mem_nil, or_false] at hx
          rcases hx with rfl | rfl | rfl | rfl
          all_goals exact ⟨_, rfl, by decide +kernel, fl_of (by decide +kernel), fl_of (by decide +kernel)⟩
        walk_at "go"
        refine i_cutT (fun b H' => b = false ∧ Ex G2 H') ?_ ?_
        · walk_at "go"
          intro t1 ht1
          have e1 : Ex J0 (upd J0 t1 (HO.tup [V.str z, V.str "x"])) := Ex.new ht1
          have w1 : (upd J0 t1 (HO.tup [V.str z, V.str "x"])) t1 = some (HO.tup [V.str z, V.str "x"]) := upd_same
          generalize (upd J0 t1 (HO.tup [V.str z, V.str "x"])) = J1 at e1 w1 ⊢
          walk_at "go"
          intro q1' hq1'
          have e2 : Ex J1 (upd J1 q1' (HO.lst [V.ref t1])) := Ex.new hq1'
          have w2 : (upd J1 q1' (HO.lst [V.ref t1])) q1' = some (HO.lst [V.ref t1]) := upd_same
          generalize (upd J1 q1' (HO.lst [V.ref t1])) = J2 at e2 w2 ⊢
          have eJ2 := eJ.trans (e1.trans e2)
          walk_at "go"
          refine l_addL (eJ2 _ _ hG1) w2 (by simp; omega) fun q2' hq2' => ?_
          have e3 : Ex J2 (upd J2 q2' (.lst (us ++ [V.ref t1]))) := Ex.new hq2'
          have w3 : (upd J2 q2' (.lst (us ++ [V.ref t1]))) q2' = some (.lst (us ++ [V.ref t1])) := upd_same
          generalize (upd J2 q2' (.lst (us ++ [V.ref t1]))) = J3 at e3 w3 ⊢
          have eJ3 := eJ2.trans e3
          walk_at "go"
          refine log_new (es := es ++ [[V.str z, V.str "x"]]) (.l (.of w3)) ((AG.mono eJ3).app (.cons ⟨t1, rfl, .of ((e2.trans e3) _ _ w1)⟩ .nil)) (fun fs h => ?_) (by simp; omega) fun x1 J4 e4 g4 => ?_
          · rcases List.mem_append.mp h with h | h
            · exact f1 fs h
            · rw [List.mem_singleton] at h
              rw [h]
              exact fz
          have eJ4 := eJ3.trans e4
          refine how_of T g4 (.inr ⟨es, z, _, rfl, fun J5 e5 => ?_⟩)
          have eJ5 := eJ4.trans e5
          rw [if_pos hz]
          walk_at "go"
          rw [decide_eq_true rfl]
          walk_at "go"
          intro t2 ht2
          have e6 : Ex J5 (upd J5 t2 (HO.tup [V.str z])) := Ex.new ht2
          have w6 : (upd J5 t2 (HO.tup [V.str z])) t2 = some (HO.tup [V.str z]) := upd_same
          generalize (upd J5 t2 (HO.tup [V.str z])) = J6 at e6 w6 ⊢
          walk_at "go"
          intro q3' hq3'
          have e7 : Ex J6 (upd J6 q3' (HO.lst [V.ref t2])) := Ex.new hq3'
          have w7 : (upd J6 q3' (HO.lst [V.ref t2])) q3' = some (HO.lst [V.ref t2]) := upd_same
          generalize (upd J6 q3' (HO.lst [V.ref t2])) = J7 at e7 w7 ⊢
          have eJ7 := eJ5.trans (e6.trans e7)
          walk_at "go"
          refine l_addL w7 (eJ7 _ _ hG1) (by simp; omega) fun q4' hq4' => ?_
          have e8 : Ex J7 (upd J7 q4' (.lst ([V.ref t2] ++ us))) := Ex.new hq4'
          have w8 : (upd J7 q4' (.lst ([V.ref t2] ++ us))) q4' = some (.lst ([V.ref t2] ++ us)) := upd_same
          generalize (upd J7 q4' (.lst ([V.ref t2] ++ us))) = J8 at e8 w8 ⊢
          have eJ8 := eJ7.trans e8
          walk_at "go"
          refine log_new (es := [[V.str z]] ++ es) (.l (.of w8)) (Ats.app (.cons ⟨t2, rfl, .of ((e7.trans e8) _ _ w6)⟩ .nil) (AG.mono eJ8)) (fun fs h => ?_) (by simp; omega) fun x2 J9 e9 g9 => ?_
          · rcases List.mem_append.mp h with h | h
            · rw [List.mem_singleton] at h
              rw [h]
              exact fz'
            · exact f1 fs h
          have eJ9 := eJ8.trans e9
          have last : ∀ J10, Ex J9 J10 → ∀ v, (v = if es = [] then z else "cut") → tCutE (tIf (tTest (tOp (rEqA K) (tVar 3) (tLst tNil))) (tVar 6) (tC (V.str "cut"))) [some (V.ref a), some (V.int (0 + i)), some (V.ref p), some (V.ref q1), some (V.int cu), v5, some (V.str z)] J10 fun y H2 => rNeA K (V.str v) y H2 fun x H' => ∃ k, x = V.bl k ∧ k = false ∧ Ex G2 H' := by
            intro J10 e10 v hv
            have eJ10 := eJ9.trans e10
            refine i_cutE (fun y H' => y = .str v ∧ Ex G2 H') ?_ ?_
            · walk_at "go"
              intro q5' hq5'
              have e11 : Ex J10 (upd J10 q5' (HO.lst [])) := Ex.new hq5'
              have w11 : (upd J10 q5' (HO.lst [])) q5' = some (HO.lst []) := upd_same
              generalize (upd J10 q5' (HO.lst [])) = J11 at e11 w11 ⊢
              have eJ11 := eJ10.trans e11
              refine l_eqD (.lst (.of (eJ11 _ _ hG1)) ((AG.mono eJ11).dp f1)) (.lst (.of w11) .nil) (dEs_shL f1) (dEs_shL (es := []) (fun _ h => nomatch h)) (b := decide (es = [])) (by cases es <;> simp [PyData.eqv, PyData.eqvAll]) ?_
              walk_at "go"
              refine i_ite (fun h => ?_) (fun h => ?_)
              · walk_at "go"
                rw [if_pos h] at hv
                exact ⟨by rw [hv], eJ11⟩
              · walk_at "go"
                rw [if_neg h] at hv
                exact ⟨by rw [hv], eJ11⟩
            rintro _ J12 ⟨rfl, e12⟩
            refine l_neSelf rfl ?_
            exact ⟨_, rfl, rfl, e12⟩
          rcases List.eq_nil_or_concat es with h | ⟨es', fs, h⟩
          · refine how_of T g9 (.inr ⟨[], z, [], by rw [h]; rfl, fun J10 e10 => ?_⟩)
            rw [if_pos hz]
            walk_at "go"
            exact last J10 e10 z (by rw [if_pos h])
          · rw [List.concat_eq_append] at h
            obtain ⟨_, z', r', e', hz'⟩ := ok1 fs (by rw [h]; simp)
            refine how_of T g9 (.inr ⟨[[V.str z]] ++ es', z', r', by rw [h, e', List.append_assoc], fun J10 e10 => ?_⟩)
            rw [if_neg (by rw [hz']; exact Bool.false_ne_true)]
            walk_at "go"
            exact last J10 e10 "cut" (by rw [if_neg (by rw [h]; simp)])
        rintro _ J1 ⟨rfl, e1⟩
        walk_at "go"
        exact ⟨e1, _, _, rfl⟩
      rintro σ G3 ⟨eG, v5, v6, rfl⟩
      replace e0G := e0G.trans eG
      replace hG1 := eG _ _ hG1
      replace AG := AG.mono eG
      clear eG ww ew hwl
      walk_at "go"
      refine i_cutT (fun b H' => b = false ∧ Ex G3 H') ?_ ?_
      · walk_at "go"
        refine log_new (.l (.of hG1)) AG f1 (by omega) fun x1 J1 e1 g1 => ?_
        refine how_cut T g1 ok1 fun J2 e2 => ?_
        walk_at "go"
        rw [decide_eq_true rfl]
        walk_at "go"
        intro n1 hn1
        have e3 : Ex J2 (upd J2 n1 (HO.lst [])) := Ex.new hn1
        have w3 : (upd J2 n1 (HO.lst [])) n1 = some (HO.lst []) := upd_same
        generalize (upd J2 n1 (HO.lst [])) = J3 at e3 w3 ⊢
        walk_at "go"
        refine log_new (es := []) (.l (.of w3)) .nil (fun _ h => nomatch h) (by simp) fun x2 J4 e4 g4 => ?_
        have g4' := g4
        obtain ⟨xx, dx, t, vs, exx, hxx, _⟩ := g4'
        cases exx
        refine ⟨x2, dx, _, rfl, hxx, _, [], rfl, g4, 0, rfl, by omega, ?_⟩
        walk_at "go"
        exact ⟨rfl, e1.trans (e2.trans (e3.trans e4))⟩
      rintro _ G4 ⟨rfl, e4⟩
      walk_at "go"
      exact ⟨_, _, _, _, _, _, rfl, e0G.trans e4⟩
    rintro σ H' ⟨v1, v2, v3, v4, v5, v6, rfl, _⟩
    walk_at "go"
    exact fin _
theorem law_mk {fa : Addr} (hfa : mg "law" = some (.ref fa)) (hT : ∃ a_ENDS C_NoEntry C_Log : Addr, Tp K mg a_ENDS C_NoEntry C_Log) :
    ∃ fd : FuncData, (∀ (s : Shared) (u : Value), BindsTo s fd ⟨[u], []⟩ [("_law_script", u)]) ∧ ∀ base : Heap, K.In base → base.Ns mainGlobals mg → Fg P w K mg base true 9 fa fd ["_law_script"] (spLaw K) := by
  obtain ⟨a_ENDS, C_NoEntry, C_Log, T⟩ := hT
  obtain ⟨fd, ⟨kV, doc, pm, an, cdv, ct, rfl⟩, hF⟩ := ok_law (P := P) (w := w) T hfa
  exact ⟨_, fun s v => .of_eq rfl, fun base _ _ => hF base⟩
end
end K
namespace K
open PySem PySem.Spec PyProof.Rows L2 G TL
local macro_rules | `(tactic| walk_at "side") => `(tactic| focus (first | assumption | exact rfl | omega | decide))
local macro_rules | `(tactic| walk_at "ty") => `(tactic| focus (first | exact .base (.str _) | exact .base (.int _) | exact .base (.bl _) | exact .base .non | exact .base (.lst (by assumption)) | exact .base (.tup (by assumption)) | exact .base (.dK (by assumption)) | assumption))
local macro_rules | `(tactic| walk_at "kt") => `(tactic| focus (with_reducible first | exact kt_NoneType_str | exact kt_NoneType_int | exact kt_NoneType_bool | exact kt_NoneType_tuple | exact kt_NoneType_list | exact kt_NoneType_dict | exact kt_bool_str | exact kt_bool_int | exact kt_bool_bool | exact kt_bool_tuple | exact kt_bool_list | exact kt_bool_dict | exact kt_int_str | exact kt_int_int | exact kt_int_bool | exact kt_int_tuple | exact kt_int_list | exact kt_int_dict | exact kt_str_str | exact kt_str_int | exact kt_str_bool | exact kt_str_tuple | exact kt_str_list | exact kt_str_dict | exact kt_list_str | exact kt_list_int | exact kt_list_bool | exact kt_list_tuple | exact kt_list_list | exact kt_list_dict | exact kt_tuple_str | exact kt_tuple_int | exact kt_tuple_bool | exact kt_tuple_tuple | exact kt_tuple_list | exact kt_tuple_dict | exact kt_dict_str | exact kt_dict_int | exact kt_dict_bool | exact kt_dict_tuple | exact kt_dict_list | exact kt_dict_dict | assumption))
local macro_rules | `(tactic| walk_at "1") => `(tactic| first
  | (with_reducible refine i_seq ?_)
  | (with_reducible refine iteT ?_)
  | (with_reducible refine iteF ?_)
  | (with_reducible refine iteNF ?_)
  | (with_reducible refine iteNT ?_)
  | (with_reducible refine i_asg ?_)
  | (with_reducible refine i_op ?_)
  | (with_reducible refine i_c ?_)
  | ((with_reducible apply i_var); (exact rfl))
  | (with_reducible refine i_cb ?_)
  | (with_reducible refine i_cons ?_)
  | (with_reducible refine i_nil ?_)
  | (with_reducible refine i_test ?_)
  | (with_reducible refine i_b ?_)
  | (with_reducible refine i_bl ?_)
  | (with_reducible refine i_name ?_)
  | (with_reducible refine i_ifS ?_)
  | (with_reducible refine i_next ?_)
  | (with_reducible refine i_ret ?_)
  | (with_reducible refine i_drop ?_)
  | (with_reducible refine i_lst ?_)
  | (with_reducible refine i_tup ?_)
  | (with_reducible refine i_and ?_)
  | (with_reducible refine i_or ?_)
  | (with_reducible refine i_not ?_)
  | (with_reducible refine i_andV ?_)
  | (with_reducible refine i_orV ?_)
  | (with_reducible refine i_notV ?_)
  | (with_reducible refine i_if ?_)
  | (with_reducible refine i_chain ?_)
  | (with_reducible refine i_un ?_)
  | (with_reducible refine i_neg ?_)
  | (with_reducible refine i_sub ?_)
  | (with_reducible refine i_sl ?_)
  | (with_reducible refine i_noP ?_)
  | (with_reducible refine i_part ?_)
  | (with_reducible refine i_int ?_)
  | (with_reducible refine i_bm ?_)
  | (with_reducible refine i_strT ?_)
  | (with_reducible refine i_yes ?_)
  | (with_reducible refine i_call ?_)
  | ((with_reducible refine i_len ?_ ?_); (focus (exact sz (by simp))))
  | (with_reducible refine i_lc ?_)
  | (with_reducible refine i_for ?_)
  | (with_reducible refine i_rng1 ?_)
  | (with_reducible refine i_rng2 ?_)
  | (with_reducible refine l_addI ?_)
  | (with_reducible refine l_subI ?_)
  | (with_reducible refine l_cmp ?_)
  | (with_reducible refine l_eqI ?_)
  | (with_reducible refine l_eqS ?_)
  | (with_reducible refine l_eqB ?_)
  | (with_reducible refine l_neI ?_)
  | (with_reducible refine l_neS ?_)
  | (with_reducible refine l_neB ?_)
  | (with_reducible refine l_isN ?_)
  | (with_reducible refine l_isNotN ?_)
  | (with_reducible refine l_isB ?_)
  | (with_reducible refine l_isNotB ?_)
  | (with_reducible refine l_intI ?_)
  | (with_reducible refine l_intB ?_)
  | (with_reducible refine l_inC ?_)
  | (refine ⟨_, _, rfl, rfl, sz (by first | omega | simp; omega), ?_⟩)
  | ((with_reducible refine l_pow ?_ ?_); (focus (exact ⟨by decide, by decide, by decide⟩)))
  | ((with_reducible refine l_mul ?_ ?_); (focus (first | assumption | exact Or.inl (Or.inl ⟨by omega, by omega⟩) | exact Or.inl (Or.inr ⟨by omega, by omega⟩))))
  | ((with_reducible refine l_div ?_ ?_); (focus (first | assumption | exact ⟨by decide, by decide⟩)))
  | ((with_reducible apply l_setL); (assumption); (exact rfl))
  | ((with_reducible refine l_mod ?_ ?_); (walk_at "side"))
  | ((with_reducible apply l_ixL); (assumption); (exact rfl))
  | ((with_reducible refine l_lenS ?_ ?_); (focus (first | assumption | exact sz (by omega) | exact sz (by simp; omega))))
  | ((with_reducible refine l_slS ?_ ?_); (focus (first | assumption | exact sz (by omega))))
  | ((with_reducible apply l_isi); (walk_at "ty"); (walk_at "kt"))
  | ((with_reducible apply l_lenL); (assumption)))
local macro_rules | `(tactic| walk_at "go") => `(tactic| repeat (walk_at "1"))
local macro_rules | `(tactic| walk_at "1") => `(tactic| first
  | (with_reducible refine i_mkS ?_)
  | (with_reducible refine i_cS ?_)
  | (with_reducible refine i_fld ?_)
  | (with_reducible refine i_sFld ?_)
  | (with_reducible refine i_tX ?_)
  | (with_reducible refine l_len2 rfl rfl ?_))
local macro_rules | `(tactic| walk_at "1") => `(tactic| first
  | (with_reducible refine i_stp ?_)
  | ((with_reducible apply i_iad); (exact rfl))
  | (with_reducible refine i_cO ?_)
  | (with_reducible refine i_prp ?_)
  | (with_reducible refine i_mtS ?_)
  | (with_reducible refine i_fldaug ?_)
  | (with_reducible refine i_par ?_)
  | (with_reducible refine i_par3 ?_)
  | (with_reducible refine i_revL ?_))
section
variable {P : Program} {w : World} {K : PySem.W.Frag} {mg : Str → Option Value} {base : Heap}
theorem all_mk {K : PySem.W.Frag} {h : Heap} {mg : Str → Option Value} {fa : Addr} (X : K.In h) (G : h.Ns mainGlobals mg) (hfa : mg "law" = some (.ref fa))
    {a_ENDS : Addr} {dd_ENDS : Option Addr} {n_ENDS : Nat} {sl_ENDS : Array (Option Value)} {tk_ENDS_0 tk_ENDS_1 tk_ENDS_2 tk_ENDS_3 : Tok}
    {C_NoEntry : Addr}
    {nm_NoEntry qn_NoEntry : Str} {N_NoEntry : Addr} {bs_NoEntry : List Value} {sn_NoEntry : List Str} {su_NoEntry : List Value} {ab_NoEntry : Bool} {co_NoEntry : Option Bool} {dd_NoEntry : Option Addr} {x0_NoEntry x1_NoEntry x2_NoEntry x3_NoEntry x5_NoEntry : Option Value}
    {f_NoEntry___init__ : Addr} {od_NoEntry___init__ an_NoEntry___init__ : Option Addr} {sl_NoEntry___init__ : Array (Option Value)} {oc_NoEntry___init__ kV_NoEntry___init__ dc_NoEntry___init__ pm_NoEntry___init__ cd_NoEntry___init__ ct_NoEntry___init__ : Value}
    {C_Log : Addr}
    {f_Log___init__ : Addr} {od_Log___init__ an_Log___init__ : Option Addr} {sl_Log___init__ : Array (Option Value)} {oc_Log___init__ kV_Log___init__ dc_Log___init__ pm_Log___init__ cd_Log___init__ ct_Log___init__ : Value}
    {p_Log_how : Addr} {r_Log_how : List Value}
    {f_Log_how : Addr} {od_Log_how an_Log_how : Option Addr} {sl_Log_how : Array (Option Value)} {oc_Log_how kV_Log_how dc_Log_how pm_Log_how cd_Log_how ct_Log_how : Value}
    {f_Log___getitem__ : Addr} {od_Log___getitem__ an_Log___getitem__ : Option Addr} {sl_Log___getitem__ : Array (Option Value)} {oc_Log___getitem__ kV_Log___getitem__ dc_Log___getitem__ pm_Log___getitem__ cd_Log___getitem__ ct_Log___getitem__ : Value}
    {f_Log___iter__ : Addr} {od_Log___iter__ an_Log___iter__ : Option Addr} {sl_Log___iter__ : Array (Option Value)} {oc_Log___iter__ kV_Log___iter__ dc_Log___iter__ pm_Log___iter__ cd_Log___iter__ ct_Log___iter__ : Value}
    {f_Log___len__ : Addr} {od_Log___len__ an_Log___len__ : Option Addr} {sl_Log___len__ : Array (Option Value)} {oc_Log___len__ kV_Log___len__ dc_Log___len__ pm_Log___len__ cd_Log___len__ ct_Log___len__ : Value}
    {f_Log___eq__ : Addr} {od_Log___eq__ an_Log___eq__ : Option Addr} {sl_Log___eq__ : Array (Option Value)} {oc_Log___eq__ kV_Log___eq__ dc_Log___eq__ pm_Log___eq__ cd_Log___eq__ ct_Log___eq__ : Value}
    {f_Log___le__ : Addr} {od_Log___le__ an_Log___le__ : Option Addr} {sl_Log___le__ : Array (Option Value)} {oc_Log___le__ kV_Log___le__ dc_Log___le__ pm_Log___le__ cd_Log___le__ ct_Log___le__ : Value}
    {f_Log_unlike : Addr} {od_Log_unlike an_Log_unlike : Option Addr} {sl_Log_unlike : Array (Option Value)} {oc_Log_unlike kV_Log_unlike dc_Log_unlike pm_Log_unlike cd_Log_unlike ct_Log_unlike : Value}
    {f_is_integer : Addr} {od_is_integer an_is_integer : Option Addr} {sl_is_integer : Array (Option Value)} {oc_is_integer kV_is_integer dc_is_integer pm_is_integer cd_is_integer ct_is_integer : Value}
    {f__law_pool : Addr} {od__law_pool an__law_pool : Option Addr} {sl__law_pool : Array (Option Value)} {oc__law_pool kV__law_pool dc__law_pool pm__law_pool cd__law_pool ct__law_pool : Value}
    {f__law_take : Addr} {od__law_take an__law_take : Option Addr} {sl__law_take : Array (Option Value)} {oc__law_take kV__law_take dc__law_take pm__law_take cd__law_take ct__law_take : Value}
    {f__law_entries : Addr} {od__law_entries an__law_entries : Option Addr} {sl__law_entries : Array (Option Value)} {oc__law_entries kV__law_entries dc__law_entries pm__law_entries cd__law_entries ct__law_entries : Value}
    {f__law_refused : Addr} {od__law_refused an__law_refused : Option Addr} {sl__law_refused : Array (Option Value)} {oc__law_refused kV__law_refused dc__law_refused pm__law_refused cd__law_refused ct__law_refused : Value}
    {f__law_unlike : Addr} {od__law_unlike an__law_unlike : Option Addr} {sl__law_unlike : Array (Option Value)} {oc__law_unlike kV__law_unlike dc__law_unlike pm__law_unlike cd__law_unlike ct__law_unlike : Value}
    {f__law_right : Addr} {od__law_right an__law_right : Option Addr} {sl__law_right : Array (Option Value)} {oc__law_right kV__law_right dc__law_right pm__law_right cd__law_right ct__law_right : Value}
    {f_law : Addr} {od_law an_law : Option Addr} {sl_law : Array (Option Value)} {oc_law kV_law dc_law pm_law cd_law ct_law : Value}
    (z_LookupError : PySem.W.nsIn K mainGlobals "LookupError" = some none)
    (z_ValueError : PySem.W.nsIn K mainGlobals "ValueError" = some none)
    (z_abs : PySem.W.nsIn K mainGlobals "abs" = some none)
    (z_bool : PySem.W.nsIn K mainGlobals "bool" = some none)
    (z_enumerate : PySem.W.nsIn K mainGlobals "enumerate" = some none)
    (z_int : PySem.W.nsIn K mainGlobals "int" = some none)
    (z_isinstance : PySem.W.nsIn K mainGlobals "isinstance" = some none)
    (z_len : PySem.W.nsIn K mainGlobals "len" = some none)
    (z_list : PySem.W.nsIn K mainGlobals "list" = some none)
    (z_max : PySem.W.nsIn K mainGlobals "max" = some none)
    (z_min : PySem.W.nsIn K mainGlobals "min" = some none)
    (z_range : PySem.W.nsIn K mainGlobals "range" = some none)
    (z_repr : PySem.W.nsIn K mainGlobals "repr" = some none)
    (z_tuple : PySem.W.nsIn K mainGlobals "tuple" = some none)
    (z_zip : PySem.W.nsIn K mainGlobals "zip" = some none)
    (g_ENDS : PySem.W.nsIn K mainGlobals "ENDS" = some (some (.ref a_ENDS)))
    (l_ENDS : K.lookup a_ENDS = some ⟨.type "tuple", dd_ENDS, .seq #[.str "ended" tk_ENDS_0, .str "refused" tk_ENDS_1, .str "short" tk_ENDS_2, .str "open" tk_ENDS_3] n_ENDS, sl_ENDS⟩)
    (g_NoEntry : PySem.W.nsIn K mainGlobals "NoEntry" = some (some (.ref C_NoEntry)))
    (ic_NoEntry : PySem.W.isClsIn K C_NoEntry = true)
    (tt_NoEntry : PySem.W.typeIn K (.ref C_NoEntry) = some (.type "type"))
    (xl_NoEntry : K.lookup C_NoEntry = some (excClassObj nm_NoEntry qn_NoEntry C_NoEntry N_NoEntry bs_NoEntry [.type "LookupError", .type "Exception", .type "BaseException", .type "object"] true sn_NoEntry su_NoEntry ab_NoEntry co_NoEntry dd_NoEntry x0_NoEntry x1_NoEntry x2_NoEntry x3_NoEntry x5_NoEntry "LookupError.__new__"))
    (sa_NoEntry : PySem.W.findIn K (.ref C_NoEntry) "__setattr__" = some (some (.builtin "object.__setattr__")))
    (ga_NoEntry : PySem.W.findIn K (.ref C_NoEntry) "__getattribute__" = some (some (.builtin "BaseException.__getattribute__")))
    (gg_NoEntry : PySem.W.findIn K (.ref C_NoEntry) "__getattr__" = some none)
    (nb_NoEntry : PySem.W.findIn K (.ref C_NoEntry) "index" = some none)
    (kC_NoEntry : PySem.W.keepIn K (.ref C_NoEntry) = true)
    (eC_NoEntry : PySem.W.subIn K (.ref C_NoEntry) (.type "BaseException") = some true)
    (tC_NoEntry : PySem.W.typeIn K (.ref C_NoEntry) = some (.type "type"))
    (hC_NoEntry : PySem.W.hasDictIn K C_NoEntry = true)
    (cc_NoEntry : PySem.W.findIn K (.ref C_NoEntry) "__class__" = some (some (.builtin "object.__class__")))
    (mo_NoEntry : PySem.W.mroIn K C_NoEntry (.type "object") = some true)
    (a_NoEntry___init__ : PySem.W.findIn K (.ref C_NoEntry) "__init__" = some (some (.ref f_NoEntry___init__)))
    (l_NoEntry___init__ : K.lookup f_NoEntry___init__ = some ⟨oc_NoEntry___init__, od_NoEntry___init__, .func (PySem.W.fnOf "__init__" "NoEntry.__init__" (defArgs s_NoEntry___init__) (defBody s_NoEntry___init__) (defScope s_NoEntry___init__) .none kV_NoEntry___init__ dc_NoEntry___init__ pm_NoEntry___init__ an_NoEntry___init__ cd_NoEntry___init__ ct_NoEntry___init__), sl_NoEntry___init__⟩)
    (c_NoEntry___init__ : PySem.W.codeIn K cd_NoEntry___init__ "NoEntry.__init__" = true)
    (k_NoEntry___init__ : PySem.W.keepIn K (.ref f_NoEntry___init__) = true)
    (ty_NoEntry___init__ : PySem.W.typeIn K (.ref f_NoEntry___init__) = some (.type "function"))
    (g_Log : PySem.W.nsIn K mainGlobals "Log" = some (some (.ref C_Log)))
    (ic_Log : PySem.W.isClsIn K C_Log = true)
    (tt_Log : PySem.W.typeIn K (.ref C_Log) = some (.type "type"))
    (pg_Log : PySem.W.plainGet K C_Log Str.empty = true)
    (hd_Log : PySem.W.hasDictIn K C_Log = true)
    (po_Log : PySem.W.plainOver K C_Log = true)
    (sa_Log : PySem.W.findIn K (.ref C_Log) "__setattr__" = some (some (.builtin "object.__setattr__")))
    (kC_Log : PySem.W.keepIn K (.ref C_Log) = true)
    (mk_Log : PySem.W.makesIn K C_Log = true)
    (cc_Log : PySem.W.findIn K (.ref C_Log) "__class__" = some (some (.builtin "object.__class__")))
    (mo_Log : PySem.W.mroIn K C_Log (.type "object") = some true)
    (sf_Log : PySem.W.selfFirst K C_Log = true)
    (ne_Log : PySem.W.findIn K (.ref C_Log) "__ne__" = some (some (.builtin "object.__ne__")))
    (nb_Log_own_entries : PySem.W.findIn K (.ref C_Log) "own_entries" = some none)
    (nf_Log_NoneType : PySem.W.subIn K (.type "NoneType") (.ref C_Log) = some false)
    (nf_Log_list : PySem.W.subIn K (.type "list") (.ref C_Log) = some false)
    (nf_Log_tuple : PySem.W.subIn K (.type "tuple") (.ref C_Log) = some false)
    (nf_Log_str : PySem.W.subIn K (.type "str") (.ref C_Log) = some false)
    (nf_Log_int : PySem.W.subIn K (.type "int") (.ref C_Log) = some false)
    (nf_Log_bool : PySem.W.subIn K (.type "bool") (.ref C_Log) = some false)
    (nf_Log_dict : PySem.W.subIn K (.type "dict") (.ref C_Log) = some false)
    (a_Log___init__ : PySem.W.findIn K (.ref C_Log) "__init__" = some (some (.ref f_Log___init__)))
    (l_Log___init__ : K.lookup f_Log___init__ = some ⟨oc_Log___init__, od_Log___init__, .func (PySem.W.fnOf "__init__" "Log.__init__" (defArgs s_Log___init__) (defBody s_Log___init__) (defScope s_Log___init__) .none kV_Log___init__ dc_Log___init__ pm_Log___init__ an_Log___init__ cd_Log___init__ ct_Log___init__), sl_Log___init__⟩)
    (c_Log___init__ : PySem.W.codeIn K cd_Log___init__ "Log.__init__" = true)
    (k_Log___init__ : PySem.W.keepIn K (.ref f_Log___init__) = true)
    (if_Log___init__ : PySem.W.isFn K (.ref f_Log___init__) = true)
    (a_Log_how : PySem.W.findIn K (.ref C_Log) "how" = some (some (.ref p_Log_how)))
    (pr_Log_how : PySem.W.recIn K p_Log_how "property" = some (.ref f_Log_how :: r_Log_how))
    (l_Log_how : K.lookup f_Log_how = some ⟨oc_Log_how, od_Log_how, .func (PySem.W.fnOf "how" "Log.how" (defArgs s_Log_how) (defBody s_Log_how) (defScope s_Log_how) .none kV_Log_how dc_Log_how pm_Log_how an_Log_how cd_Log_how ct_Log_how), sl_Log_how⟩)
    (c_Log_how : PySem.W.codeIn K cd_Log_how "Log.how" = true)
    (k_Log_how : PySem.W.keepIn K (.ref f_Log_how) = true)
    (pt_Log_how : PySem.W.specialIn K (.ref p_Log_how) "__get__" = some (some (.builtin "property.__get__")))
    (pk_Log_how : PySem.W.takesIn K (.ref p_Log_how) = some true)
    (a_Log___getitem__ : PySem.W.findIn K (.ref C_Log) "__getitem__" = some (some (.ref f_Log___getitem__)))
    (l_Log___getitem__ : K.lookup f_Log___getitem__ = some ⟨oc_Log___getitem__, od_Log___getitem__, .func (PySem.W.fnOf "__getitem__" "Log.__getitem__" (defArgs s_Log___getitem__) (defBody s_Log___getitem__) (defScope s_Log___getitem__) .none kV_Log___getitem__ dc_Log___getitem__ pm_Log___getitem__ an_Log___getitem__ cd_Log___getitem__ ct_Log___getitem__), sl_Log___getitem__⟩)
    (c_Log___getitem__ : PySem.W.codeIn K cd_Log___getitem__ "Log.__getitem__" = true)
    (k_Log___getitem__ : PySem.W.keepIn K (.ref f_Log___getitem__) = true)
    (if_Log___getitem__ : PySem.W.isFn K (.ref f_Log___getitem__) = true)
    (fi_Log___getitem__ : PySem.W.fnIn K f_Log___getitem__ = true)
    (a_Log___iter__ : PySem.W.findIn K (.ref C_Log) "__iter__" = some (some (.ref f_Log___iter__)))
    (l_Log___iter__ : K.lookup f_Log___iter__ = some ⟨oc_Log___iter__, od_Log___iter__, .func (PySem.W.fnOf "__iter__" "Log.__iter__" (defArgs s_Log___iter__) (defBody s_Log___iter__) (defScope s_Log___iter__) .none kV_Log___iter__ dc_Log___iter__ pm_Log___iter__ an_Log___iter__ cd_Log___iter__ ct_Log___iter__), sl_Log___iter__⟩)
    (c_Log___iter__ : PySem.W.codeIn K cd_Log___iter__ "Log.__iter__" = true)
    (k_Log___iter__ : PySem.W.keepIn K (.ref f_Log___iter__) = true)
    (if_Log___iter__ : PySem.W.isFn K (.ref f_Log___iter__) = true)
    (fi_Log___iter__ : PySem.W.fnIn K f_Log___iter__ = true)
    (a_Log___len__ : PySem.W.findIn K (.ref C_Log) "__len__" = some (some (.ref f_Log___len__)))
    (l_Log___len__ : K.lookup f_Log___len__ = some ⟨oc_Log___len__, od_Log___len__, .func (PySem.W.fnOf "__len__" "Log.__len__" (defArgs s_Log___len__) (defBody s_Log___len__) (defScope s_Log___len__) .none kV_Log___len__ dc_Log___len__ pm_Log___len__ an_Log___len__ cd_Log___len__ ct_Log___len__), sl_Log___len__⟩)
    (c_Log___len__ : PySem.W.codeIn K cd_Log___len__ "Log.__len__" = true)
    (k_Log___len__ : PySem.W.keepIn K (.ref f_Log___len__) = true)
    (if_Log___len__ : PySem.W.isFn K (.ref f_Log___len__) = true)
    (fi_Log___len__ : PySem.W.fnIn K f_Log___len__ = true)
    (a_Log___eq__ : PySem.W.findIn K (.ref C_Log) "__eq__" = some (some (.ref f_Log___eq__)))
    (l_Log___eq__ : K.lookup f_Log___eq__ = some ⟨oc_Log___eq__, od_Log___eq__, .func (PySem.W.fnOf "__eq__" "Log.__eq__" (defArgs s_Log___eq__) (defBody s_Log___eq__) (defScope s_Log___eq__) .none kV_Log___eq__ dc_Log___eq__ pm_Log___eq__ an_Log___eq__ cd_Log___eq__ ct_Log___eq__), sl_Log___eq__⟩)
    (c_Log___eq__ : PySem.W.codeIn K cd_Log___eq__ "Log.__eq__" = true)
    (k_Log___eq__ : PySem.W.keepIn K (.ref f_Log___eq__) = true)
    (if_Log___eq__ : PySem.W.isFn K (.ref f_Log___eq__) = true)
    (fi_Log___eq__ : PySem.W.fnIn K f_Log___eq__ = true)
    (a_Log___le__ : PySem.W.findIn K (.ref C_Log) "__le__" = some (some (.ref f_Log___le__)))
    (l_Log___le__ : K.lookup f_Log___le__ = some ⟨oc_Log___le__, od_Log___le__, .func (PySem.W.fnOf "__le__" "Log.__le__" (defArgs s_Log___le__) (defBody s_Log___le__) (defScope s_Log___le__) .none kV_Log___le__ dc_Log___le__ pm_Log___le__ an_Log___le__ cd_Log___le__ ct_Log___le__), sl_Log___le__⟩)
    (c_Log___le__ : PySem.W.codeIn K cd_Log___le__ "Log.__le__" = true)
    (k_Log___le__ : PySem.W.keepIn K (.ref f_Log___le__) = true)
    (if_Log___le__ : PySem.W.isFn K (.ref f_Log___le__) = true)
    (fi_Log___le__ : PySem.W.fnIn K f_Log___le__ = true)
    (a_Log_unlike : PySem.W.findIn K (.ref C_Log) "unlike" = some (some (.ref f_Log_unlike)))
    (l_Log_unlike : K.lookup f_Log_unlike = some ⟨oc_Log_unlike, od_Log_unlike, .func (PySem.W.fnOf "unlike" "Log.unlike" (defArgs s_Log_unlike) (defBody s_Log_unlike) (defScope s_Log_unlike) .none kV_Log_unlike dc_Log_unlike pm_Log_unlike an_Log_unlike cd_Log_unlike ct_Log_unlike), sl_Log_unlike⟩)
    (c_Log_unlike : PySem.W.codeIn K cd_Log_unlike "Log.unlike" = true)
    (k_Log_unlike : PySem.W.keepIn K (.ref f_Log_unlike) = true)
    (if_Log_unlike : PySem.W.isFn K (.ref f_Log_unlike) = true)
    (fi_Log_unlike : PySem.W.fnIn K f_Log_unlike = true)
    (z_get : PySem.W.specialIn K (.builtin "object.__class__") "__get__" = some (some (.builtin "getset_descriptor.__get__")))
    (z_tak : PySem.W.takesIn K (.builtin "object.__class__") = some true)
    (sx_NoEntry_LookupError : PySem.W.subIn K (.ref C_NoEntry) (.type "LookupError") = some true)
    (sx_NoEntry_ValueError : PySem.W.subIn K (.ref C_NoEntry) (.type "ValueError") = some false)
    (xs_NoEntry : PySem.W.subIn K (.ref C_NoEntry) (.ref C_NoEntry) = some true)
    (a_is_integer : PySem.W.nsIn K mainGlobals "is_integer" = some (some (.ref f_is_integer)))
    (l_is_integer : K.lookup f_is_integer = some ⟨oc_is_integer, od_is_integer, .func (PySem.W.fnOf "is_integer" "is_integer" (defArgs s_is_integer) (defBody s_is_integer) (defScope s_is_integer) .none kV_is_integer dc_is_integer pm_is_integer an_is_integer cd_is_integer ct_is_integer), sl_is_integer⟩)
    (c_is_integer : PySem.W.codeIn K cd_is_integer "is_integer" = true)
    (k_is_integer : PySem.W.keepIn K (.ref f_is_integer) = true)
    (a__law_pool : PySem.W.nsIn K mainGlobals "_law_pool" = some (some (.ref f__law_pool)))
    (l__law_pool : K.lookup f__law_pool = some ⟨oc__law_pool, od__law_pool, .func (PySem.W.fnOf "_law_pool" "_law_pool" (defArgs s__law_pool) (defBody s__law_pool) (defScope s__law_pool) .none kV__law_pool dc__law_pool pm__law_pool an__law_pool cd__law_pool ct__law_pool), sl__law_pool⟩)
    (c__law_pool : PySem.W.codeIn K cd__law_pool "_law_pool" = true)
    (k__law_pool : PySem.W.keepIn K (.ref f__law_pool) = true)
    (a__law_take : PySem.W.nsIn K mainGlobals "_law_take" = some (some (.ref f__law_take)))
    (l__law_take : K.lookup f__law_take = some ⟨oc__law_take, od__law_take, .func (PySem.W.fnOf "_law_take" "_law_take" (defArgs s__law_take) (defBody s__law_take) (defScope s__law_take) .none kV__law_take dc__law_take pm__law_take an__law_take cd__law_take ct__law_take), sl__law_take⟩)
    (c__law_take : PySem.W.codeIn K cd__law_take "_law_take" = true)
    (k__law_take : PySem.W.keepIn K (.ref f__law_take) = true)
    (a__law_entries : PySem.W.nsIn K mainGlobals "_law_entries" = some (some (.ref f__law_entries)))
    (l__law_entries : K.lookup f__law_entries = some ⟨oc__law_entries, od__law_entries, .func (PySem.W.fnOf "_law_entries" "_law_entries" (defArgs s__law_entries) (defBody s__law_entries) (defScope s__law_entries) .none kV__law_entries dc__law_entries pm__law_entries an__law_entries cd__law_entries ct__law_entries), sl__law_entries⟩)
    (c__law_entries : PySem.W.codeIn K cd__law_entries "_law_entries" = true)
    (k__law_entries : PySem.W.keepIn K (.ref f__law_entries) = true)
    (a__law_refused : PySem.W.nsIn K mainGlobals "_law_refused" = some (some (.ref f__law_refused)))
    (l__law_refused : K.lookup f__law_refused = some ⟨oc__law_refused, od__law_refused, .func (PySem.W.fnOf "_law_refused" "_law_refused" (defArgs s__law_refused) (defBody s__law_refused) (defScope s__law_refused) .none kV__law_refused dc__law_refused pm__law_refused an__law_refused cd__law_refused ct__law_refused), sl__law_refused⟩)
    (c__law_refused : PySem.W.codeIn K cd__law_refused "_law_refused" = true)
    (k__law_refused : PySem.W.keepIn K (.ref f__law_refused) = true)
    (a__law_unlike : PySem.W.nsIn K mainGlobals "_law_unlike" = some (some (.ref f__law_unlike)))
    (l__law_unlike : K.lookup f__law_unlike = some ⟨oc__law_unlike, od__law_unlike, .func (PySem.W.fnOf "_law_unlike" "_law_unlike" (defArgs s__law_unlike) (defBody s__law_unlike) (defScope s__law_unlike) .none kV__law_unlike dc__law_unlike pm__law_unlike an__law_unlike cd__law_unlike ct__law_unlike), sl__law_unlike⟩)
    (c__law_unlike : PySem.W.codeIn K cd__law_unlike "_law_unlike" = true)
    (k__law_unlike : PySem.W.keepIn K (.ref f__law_unlike) = true)
    (a__law_right : PySem.W.nsIn K mainGlobals "_law_right" = some (some (.ref f__law_right)))
    (l__law_right : K.lookup f__law_right = some ⟨oc__law_right, od__law_right, .func (PySem.W.fnOf "_law_right" "_law_right" (defArgs s__law_right) (defBody s__law_right) (defScope s__law_right) .none kV__law_right dc__law_right pm__law_right an__law_right cd__law_right ct__law_right), sl__law_right⟩)
    (c__law_right : PySem.W.codeIn K cd__law_right "_law_right" = true)
    (k__law_right : PySem.W.keepIn K (.ref f__law_right) = true)
    (a_law : PySem.W.nsIn K mainGlobals "law" = some (some (.ref f_law)))
    (l_law : K.lookup f_law = some ⟨oc_law, od_law, .func (PySem.W.fnOf "law" "law" (defArgs s_law) (defBody s_law) (defScope s_law) .none kV_law dc_law pm_law an_law cd_law ct_law), sl_law⟩)
    (c_law : PySem.W.codeIn K cd_law "law" = true)
    (k_law : PySem.W.keepIn K (.ref f_law) = true) :
    ∃ a_ENDS : Addr, ∃ C_NoEntry : Addr, ∃ C_Log : Addr, Tp K mg a_ENDS C_NoEntry C_Log := by
  exact ⟨a_ENDS, ⟨C_NoEntry, ⟨C_Log, {
    m_LookupError := PySem.W.mg_none_of X G z_LookupError,
    m_ValueError := PySem.W.mg_none_of X G z_ValueError,
    m_abs := PySem.W.mg_none_of X G z_abs,
    m_bool := PySem.W.mg_none_of X G z_bool,
    m_enumerate := PySem.W.mg_none_of X G z_enumerate,
    m_int := PySem.W.mg_none_of X G z_int,
    m_isinstance := PySem.W.mg_none_of X G z_isinstance,
    m_len := PySem.W.mg_none_of X G z_len,
    m_list := PySem.W.mg_none_of X G z_list,
    m_max := PySem.W.mg_none_of X G z_max,
    m_min := PySem.W.mg_none_of X G z_min,
    m_range := PySem.W.mg_none_of X G z_range,
    m_repr := PySem.W.mg_none_of X G z_repr,
    m_tuple := PySem.W.mg_none_of X G z_tuple,
    m_zip := PySem.W.mg_none_of X G z_zip,
    c_ENDS := ⟨_, PySem.W.mg_of X G g_ENDS, rfl⟩,
    t_ENDS := fun _ => Or.inr ⟨_, _, _, l_ENDS, rfl, rfl, sz (by simp), .cons ⟨_, rfl⟩ (.cons ⟨_, rfl⟩ (.cons ⟨_, rfl⟩ (.cons ⟨_, rfl⟩ (.nil))))⟩,
    k_NoEntry := ⟨_, PySem.W.mg_of X G g_NoEntry, rfl⟩,
    x_NoEntry := fun P w base => (have T0 : OexA K C_NoEntry := ⟨⟨_, _, _, _, _, _, _, _, _, _, _, _, _, _, _, _, _, _, _, xl_NoEntry, ⟨[], by rfl⟩, PySem.F.excBase_LookupError, fun self => PySem.F.store_LookupError.passes self, by decide +kernel⟩, sa_NoEntry, eC_NoEntry, tC_NoEntry, kC_NoEntry⟩; ⟨T0, ⟨ga_NoEntry, gg_NoEntry, eC_NoEntry, hC_NoEntry⟩, ⟨ga_NoEntry, gg_NoEntry, eC_NoEntry, hC_NoEntry, cc_NoEntry, z_get, z_tak, mo_NoEntry⟩, nb_NoEntry, PySem.W.mg_of X G g_NoEntry, ⟨_, _, a_NoEntry___init__, ty_NoEntry___init__, ok_ini (fun_mk (st := s_NoEntry___init__) l_NoEntry___init__ c_NoEntry___init__ k_NoEntry___init__) sc_NoEntry___init__ rfl T0 nb_NoEntry (by first | exact Or.inl rfl) (by first | exact Or.inl rfl) (by decide) (by decide), (fun_mk (st := s_NoEntry___init__) l_NoEntry___init__ c_NoEntry___init__ k_NoEntry___init__).binds (ps := ["self", "index"]) fun _ _ _ _ _ _ us hl => match us, hl with | [_, _], _ => rfl⟩⟩),
    k_Log := ⟨_, PySem.W.mg_of X G g_Log, rfl⟩,
    cl_Log := ⟨pg_Log, hd_Log, po_Log, sa_Log⟩,
    n_Log_own_entries := nb_Log_own_entries,
    ty_Log := fun H a dx fs e => .base (.ins e ⟨pg_Log, hd_Log, po_Log, sa_Log⟩ cc_Log z_get z_tak mo_Log),
    sf_Log := sf_Log,
    ne_Log := ne_Log,
    ob_Log := mo_Log,
    nf_Log_NoneType := nf_Log_NoneType,
    kt_Log_NoneType := kit_ownF ic_Log tt_Log nf_Log_NoneType,
    nf_Log_list := nf_Log_list,
    kt_Log_list := kit_ownF ic_Log tt_Log nf_Log_list,
    nf_Log_tuple := nf_Log_tuple,
    kt_Log_tuple := kit_ownF ic_Log tt_Log nf_Log_tuple,
    nf_Log_str := nf_Log_str,
    kt_Log_str := kit_ownF ic_Log tt_Log nf_Log_str,
    nf_Log_int := nf_Log_int,
    kt_Log_int := kit_ownF ic_Log tt_Log nf_Log_int,
    nf_Log_bool := nf_Log_bool,
    kt_Log_bool := kit_ownF ic_Log tt_Log nf_Log_bool,
    nf_Log_dict := nf_Log_dict,
    kt_Log_dict := kit_ownF ic_Log tt_Log nf_Log_dict,
    i_Log := ⟨_, _, ⟨mk_Log, a_Log___init__, if_Log___init__, kC_Log⟩, PySem.W.mg_of X G g_Log, ⟨⟨_, _, _, _, _, _, _, _, _, _, rfl, l_Log___init__, c_Log___init__, Or.inl ⟨rfl, rfl⟩, Or.inl rfl⟩, k_Log___init__⟩⟩,
    p_Log_how := ⟨_, _, _, ⟨pg_Log, hd_Log, po_Log, sa_Log⟩, ⟨a_Log_how, pt_Log_how, pk_Log_how, _, pr_Log_how⟩, fun_mk (st := s_Log_how) l_Log_how c_Log_how k_Log_how, (fun_mk (st := s_Log_how) l_Log_how c_Log_how k_Log_how).binds (ps := ["self"]) fun _ _ _ _ _ _ us hl => match us, hl with | [_], _ => rfl⟩,
    m_Log___getitem__ := ⟨_, _, ⟨pg_Log, hd_Log, po_Log, sa_Log⟩, ⟨a_Log___getitem__, if_Log___getitem__, k_Log___getitem__⟩, fi_Log___getitem__, fun_mk (st := s_Log___getitem__) l_Log___getitem__ c_Log___getitem__ k_Log___getitem__, (fun_mk (st := s_Log___getitem__) l_Log___getitem__ c_Log___getitem__ k_Log___getitem__).binds (ps := ["self", "at"]) fun _ _ _ _ _ _ us hl => match us, hl with | [_, _], _ => rfl⟩,
    m_Log___iter__ := ⟨_, _, ⟨pg_Log, hd_Log, po_Log, sa_Log⟩, ⟨a_Log___iter__, if_Log___iter__, k_Log___iter__⟩, fi_Log___iter__, fun_mk (st := s_Log___iter__) l_Log___iter__ c_Log___iter__ k_Log___iter__, (fun_mk (st := s_Log___iter__) l_Log___iter__ c_Log___iter__ k_Log___iter__).binds (ps := ["self"]) fun _ _ _ _ _ _ us hl => match us, hl with | [_], _ => rfl⟩,
    m_Log___len__ := ⟨_, _, ⟨pg_Log, hd_Log, po_Log, sa_Log⟩, ⟨a_Log___len__, if_Log___len__, k_Log___len__⟩, fi_Log___len__, fun_mk (st := s_Log___len__) l_Log___len__ c_Log___len__ k_Log___len__, (fun_mk (st := s_Log___len__) l_Log___len__ c_Log___len__ k_Log___len__).binds (ps := ["self"]) fun _ _ _ _ _ _ us hl => match us, hl with | [_], _ => rfl⟩,
    m_Log___eq__ := ⟨_, _, ⟨pg_Log, hd_Log, po_Log, sa_Log⟩, ⟨a_Log___eq__, if_Log___eq__, k_Log___eq__⟩, fi_Log___eq__, fun_mk (st := s_Log___eq__) l_Log___eq__ c_Log___eq__ k_Log___eq__, (fun_mk (st := s_Log___eq__) l_Log___eq__ c_Log___eq__ k_Log___eq__).binds (ps := ["self", "other"]) fun _ _ _ _ _ _ us hl => match us, hl with | [_, _], _ => rfl⟩,
    m_Log___le__ := ⟨_, _, ⟨pg_Log, hd_Log, po_Log, sa_Log⟩, ⟨a_Log___le__, if_Log___le__, k_Log___le__⟩, fi_Log___le__, fun_mk (st := s_Log___le__) l_Log___le__ c_Log___le__ k_Log___le__, (fun_mk (st := s_Log___le__) l_Log___le__ c_Log___le__ k_Log___le__).binds (ps := ["self", "other"]) fun _ _ _ _ _ _ us hl => match us, hl with | [_, _], _ => rfl⟩,
    m_Log_unlike := ⟨_, _, ⟨pg_Log, hd_Log, po_Log, sa_Log⟩, ⟨a_Log_unlike, if_Log_unlike, k_Log_unlike⟩, fi_Log_unlike, fun_mk (st := s_Log_unlike) l_Log_unlike c_Log_unlike k_Log_unlike, (fun_mk (st := s_Log_unlike) l_Log_unlike c_Log_unlike k_Log_unlike).binds (ps := ["self", "other"]) fun _ _ _ _ _ _ us hl => match us, hl with | [_, _], _ => rfl⟩,
    kx_NoEntry_LookupError := kit_blt (by decide +kernel) sx_NoEntry_LookupError,
    kx_NoEntry_ValueError := kit_blt (by decide +kernel) sx_NoEntry_ValueError,
    xm_NoEntry := PySem.W.exm_ref eC_NoEntry hC_NoEntry tt_NoEntry xs_NoEntry,
    d_is_integer := ⟨_, _, fun_mk (st := s_is_integer) l_is_integer c_is_integer k_is_integer, PySem.W.mg_of X G a_is_integer, (fun_mk (st := s_is_integer) l_is_integer c_is_integer k_is_integer).binds (ps := ["value"]) fun _ _ _ _ _ _ us hl => match us, hl with | [_], _ => rfl⟩,
    d__law_pool := ⟨_, _, fun_mk (st := s__law_pool) l__law_pool c__law_pool k__law_pool, PySem.W.mg_of X G a__law_pool, (fun_mk (st := s__law_pool) l__law_pool c__law_pool k__law_pool).binds (ps := ["_law_script", "_law_k"]) fun _ _ _ _ _ _ us hl => match us, hl with | [_, _], _ => rfl⟩,
    d__law_take := ⟨_, _, fun_mk (st := s__law_take) l__law_take c__law_take k__law_take, PySem.W.mg_of X G a__law_take, (fun_mk (st := s__law_take) l__law_take c__law_take k__law_take).binds (ps := ["_law_pool_here", "_law_many"]) fun _ _ _ _ _ _ us hl => match us, hl with | [_, _], _ => rfl⟩,
    d__law_entries := ⟨_, _, fun_mk (st := s__law_entries) l__law_entries c__law_entries k__law_entries, PySem.W.mg_of X G a__law_entries, (fun_mk (st := s__law_entries) l__law_entries c__law_entries k__law_entries).binds (ps := ["_law_pool_here"]) fun _ _ _ _ _ _ us hl => match us, hl with | [_], _ => rfl⟩,
    d__law_refused := ⟨_, _, fun_mk (st := s__law_refused) l__law_refused c__law_refused k__law_refused, PySem.W.mg_of X G a__law_refused, (fun_mk (st := s__law_refused) l__law_refused c__law_refused k__law_refused).binds (ps := ["_law_log", "_law_at"]) fun _ _ _ _ _ _ us hl => match us, hl with | [_, _], _ => rfl⟩,
    d__law_unlike := ⟨_, _, fun_mk (st := s__law_unlike) l__law_unlike c__law_unlike k__law_unlike, PySem.W.mg_of X G a__law_unlike, (fun_mk (st := s__law_unlike) l__law_unlike c__law_unlike k__law_unlike).binds (ps := ["_law_one", "_law_other"]) fun _ _ _ _ _ _ us hl => match us, hl with | [_, _], _ => rfl⟩,
    d__law_right := ⟨_, _, fun_mk (st := s__law_right) l__law_right c__law_right k__law_right, PySem.W.mg_of X G a__law_right, (fun_mk (st := s__law_right) l__law_right c__law_right k__law_right).binds (ps := ["_law_one", "_law_other"]) fun _ _ _ _ _ _ us hl => match us, hl with | [_, _], _ => rfl⟩,
    d_law := ⟨_, _, fun_mk (st := s_law) l_law c_law k_law, PySem.W.mg_of X G a_law, (fun_mk (st := s_law) l_law c_law k_law).binds (ps := ["_law_script"]) fun _ _ _ _ _ _ us hl => match us, hl with | [_], _ => rfl⟩ }⟩⟩⟩
end
end K
open PySem PySem.W PyProof.Rows
set_option maxHeartbeats 0 in
theorem PySem.Challenge.cw_roundrules_k22_logs_holds : PySem.Challenge.rw_roundrules_k22_logs.Holds := by
  w_on; o_law; k_head; (case hw => w_witness2)
  k_fill
  refine G.walk_ofG (l := PySem.Challenge.rw_roundrules_k22_logs) (n := 63) (k := 9) (g := true) (x := "_law_script") (sp := K.spLaw) rfl (by decide) rfl ⟨rfl, by decide, by decide⟩ (fun w h Y => PySem.W.kIn_of Y) ?F (fun _ _ a ns hl _ hS => ⟨a, ns, rfl, hS, hl, fun _ => rfl⟩)
  case F =>
    intro w mg fa h KX G hmg
    refine' K.law_mk hmg (K.all_mk KX G hmg ?z_LookupError ?z_ValueError ?z_abs ?z_bool ?z_enumerate ?z_int ?z_isinstance ?z_len ?z_list ?z_max ?z_min ?z_range ?z_repr ?z_tuple ?z_zip ?g_ENDS ?l_ENDS ?g_NoEntry ?ic_NoEntry ?tt_NoEntry ?xl_NoEntry ?sa_NoEntry ?ga_NoEntry ?gg_NoEntry ?nb_NoEntry ?kC_NoEntry ?eC_NoEntry ?tC_NoEntry ?hC_NoEntry ?cc_NoEntry ?mo_NoEntry ?a_NoEntry___init__ ?l_NoEntry___init__ ?c_NoEntry___init__ ?k_NoEntry___init__ ?ty_NoEntry___init__ ?g_Log ?ic_Log ?tt_Log ?pg_Log ?hd_Log ?po_Log ?sa_Log ?kC_Log ?mk_Log ?cc_Log ?mo_Log ?sf_Log ?ne_Log ?nb_Log_own_entries ?nf_Log_NoneType ?nf_Log_list ?nf_Log_tuple ?nf_Log_str ?nf_Log_int ?nf_Log_bool ?nf_Log_dict ?a_Log___init__ ?l_Log___init__ ?c_Log___init__ ?k_Log___init__ ?if_Log___init__ ?a_Log_how ?pr_Log_how ?l_Log_how ?c_Log_how ?k_Log_how ?pt_Log_how ?pk_Log_how ?a_Log___getitem__ ?l_Log___getitem__ ?c_Log___getitem__ ?k_Log___getitem__ ?if_Log___getitem__ ?fi_Log___getitem__ ?a_Log___iter__ ?l_Log___iter__ ?c_Log___iter__ ?k_Log___iter__ ?if_Log___iter__ ?fi_Log___iter__ ?a_Log___len__ ?l_Log___len__ ?c_Log___len__ ?k_Log___len__ ?if_Log___len__ ?fi_Log___len__ ?a_Log___eq__ ?l_Log___eq__ ?c_Log___eq__ ?k_Log___eq__ ?if_Log___eq__ ?fi_Log___eq__ ?a_Log___le__ ?l_Log___le__ ?c_Log___le__ ?k_Log___le__ ?if_Log___le__ ?fi_Log___le__ ?a_Log_unlike ?l_Log_unlike ?c_Log_unlike ?k_Log_unlike ?if_Log_unlike ?fi_Log_unlike ?z_get ?z_tak ?sx_NoEntry_LookupError ?sx_NoEntry_ValueError ?xs_NoEntry ?a_is_integer ?l_is_integer ?c_is_integer ?k_is_integer ?a__law_pool ?l__law_pool ?c__law_pool ?k__law_pool ?a__law_take ?l__law_take ?c__law_take ?k__law_take ?a__law_entries ?l__law_entries ?c__law_entries ?k__law_entries ?a__law_refused ?l__law_refused ?c__law_refused ?k__law_refused ?a__law_unlike ?l__law_unlike ?c__law_unlike ?k__law_unlike ?a__law_right ?l__law_right ?c__law_right ?k__law_right ?a_law ?l_law ?c_law ?k_law)
    (case z_LookupError => k_is); (case z_ValueError => k_is); (case z_abs => k_is); (case z_bool => k_is); (case z_enumerate => k_is); (case z_int => k_is); (case z_isinstance => k_is); (case z_len => k_is); (case z_list => k_is); (case z_max => k_is); (case z_min => k_is); (case z_range => k_is); (case z_repr => k_is); (case z_tuple => k_is); (case z_zip => k_is); (case g_ENDS => k_is); (case l_ENDS => k_is); (case g_NoEntry => k_is); (case ic_NoEntry => k_is); (case tt_NoEntry => k_is); (case xl_NoEntry => k_is); (case sa_NoEntry => k_is); (case ga_NoEntry => k_is); (case gg_NoEntry => k_is); (case nb_NoEntry => k_is); (case kC_NoEntry => k_is); (case eC_NoEntry => k_is); (case tC_NoEntry => k_is); (case hC_NoEntry => k_is); (case cc_NoEntry => k_is); (case mo_NoEntry => k_is); (case a_NoEntry___init__ => k_is); (case l_NoEntry___init__ => k_is); (case c_NoEntry___init__ => k_is); (case k_NoEntry___init__ => k_is); (case ty_NoEntry___init__ => k_is); (case g_Log => k_is); (case ic_Log => k_is); (case tt_Log => k_is); (case pg_Log => k_is); (case hd_Log => k_is); (case po_Log => k_is); (case sa_Log => k_is); (case kC_Log => k_is); (case mk_Log => k_is); (case cc_Log => k_is); (case mo_Log => k_is); (case sf_Log => k_is); (case ne_Log => k_is); (case nb_Log_own_entries => k_is); (case nf_Log_NoneType => k_is); (case nf_Log_list => k_is); (case nf_Log_tuple => k_is); (case nf_Log_str => k_is); (case nf_Log_int => k_is); (case nf_Log_bool => k_is); (case nf_Log_dict => k_is); (case a_Log___init__ => k_is); (case l_Log___init__ => k_is); (case c_Log___init__ => k_is); (case k_Log___init__ => k_is); (case if_Log___init__ => k_is); (case a_Log_how => k_is); (case pr_Log_how => k_is); (case l_Log_how => k_is); (case c_Log_how => k_is); (case k_Log_how => k_is); (case pt_Log_how => k_is); (case pk_Log_how => k_is); (case a_Log___getitem__ => k_is); (case l_Log___getitem__ => k_is); (case c_Log___getitem__ => k_is); (case k_Log___getitem__ => k_is); (case if_Log___getitem__ => k_is); (case fi_Log___getitem__ => k_is); (case a_Log___iter__ => k_is); (case l_Log___iter__ => k_is); (case c_Log___iter__ => k_is); (case k_Log___iter__ => k_is); (case if_Log___iter__ => k_is); (case fi_Log___iter__ => k_is); (case a_Log___len__ => k_is); (case l_Log___len__ => k_is); (case c_Log___len__ => k_is); (case k_Log___len__ => k_is); (case if_Log___len__ => k_is); (case fi_Log___len__ => k_is); (case a_Log___eq__ => k_is); (case l_Log___eq__ => k_is); (case c_Log___eq__ => k_is); (case k_Log___eq__ => k_is); (case if_Log___eq__ => k_is); (case fi_Log___eq__ => k_is); (case a_Log___le__ => k_is); (case l_Log___le__ => k_is); (case c_Log___le__ => k_is); (case k_Log___le__ => k_is); (case if_Log___le__ => k_is); (case fi_Log___le__ => k_is); (case a_Log_unlike => k_is); (case l_Log_unlike => k_is); (case c_Log_unlike => k_is); (case k_Log_unlike => k_is); (case if_Log_unlike => k_is); (case fi_Log_unlike => k_is); (case z_get => k_is); (case z_tak => k_is); (case sx_NoEntry_LookupError => k_is); (case sx_NoEntry_ValueError => k_is); (case xs_NoEntry => k_is); (case a_is_integer => k_is); (case l_is_integer => k_is); (case c_is_integer => k_is); (case k_is_integer => k_is); (case a__law_pool => k_is); (case l__law_pool => k_is); (case c__law_pool => k_is); (case k__law_pool => k_is); (case a__law_take => k_is); (case l__law_take => k_is); (case c__law_take => k_is); (case k__law_take => k_is); (case a__law_entries => k_is); (case l__law_entries => k_is); (case c__law_entries => k_is); (case k__law_entries => k_is); (case a__law_refused => k_is); (case l__law_refused => k_is); (case c__law_refused => k_is); (case k__law_refused => k_is); (case a__law_unlike => k_is); (case l__law_unlike => k_is); (case c__law_unlike => k_is); (case k__law_unlike => k_is); (case a__law_right => k_is); (case l__law_right => k_is); (case c__law_right => k_is); (case k__law_right => k_is); (case a_law => k_is); (case l_law => k_is); (case c_law => k_is); (case k_law => k_is)
