import PyProof.Rows.All
import Wide.All
import OpenK.AllK
import Wide.FinOn
import HandS.ForMost
import HandS.IsInst
import HandS.StrMore
import HandS.Style
import HandS.Deep
import HandS.Wide
import HandS.TupAny
import HandS.ExcInit
import HandS.ExcField
import HandS.ExcIs
import HandS.ExcOwn
import HandS.WordsExc
import HandS.CallSlots
import HandS.Property
import HandS.MakeKw
import HandS.MakeKwOnly
import KE.KExcIs
import HandS.Ends
import HandS.EndBits
import HandS.More
import HandS.Dict
import HandS.Star
import KE.KOpsOwn
import HandS.Zip
import HandS.DictComp
import KE.GoesMore
import KE.GoesZip
import KE.KDictIter
import KE.KDictOf
import HandS.Keys
import HandS.WordsDict
import HandS.Codes
import PySem.Challenge.RW_roundrules_k74_notes_of_rules_and_marks
set_option Elab.async false
set_option linter.all false
set_option maxRecDepth 100000
namespace G
open PySem PySem.Spec PyProof.Rows L2
theorem sz {n : Nat} (h : n ≤ 100000) : n ≤ sizeLine := Nat.le_trans h (by decide)
theorem szl {n : Nat} (h : n < 100000) : n < sizeLine := Nat.lt_of_lt_of_le h (by decide)
section
variable {X : Cx}
/-! ### rules that leave the kind open -/
def rAdd (K : PySem.W.Frag) : R2 := fun x y H Q => match x, y with
  | .int i, .int j => Q (.int (i + j)) H
  | .str i, .str j => i.length + j.length ≤ sizeLine ∧ Q (.str (i ++ j)) H
  | .ref a, .ref b => rCat (.ref a) (.ref b) H Q ∨ rCatA K (.ref a) (.ref b) H Q
  | _, _ => False
theorem gAdd : OpR X (binaryOp .Add) (rAdd X.K) := by
  intro pins s σ H x y v u Q I rx ry h
  cases x <;> cases y <;> first
    | exact h.elim
    | exact op_add pins s σ H _ _ v u Q I rx ry ⟨_, _, rfl, rfl, h⟩
    | exact op_add_str pins s σ H _ _ v u Q I rx ry ⟨_, _, rfl, rfl, h.1, h.2⟩
    | exact op_cat.or op_catA pins s σ H _ _ v u Q I rx ry h
def rSub : R2 := fun x y H Q => match x, y with
  | .int i, .int j => Q (.int (i - j)) H
  | _, _ => False
theorem gSub' : OpR X (binaryOp .Sub) rSub := by
  intro pins s σ H x y v u Q I rx ry h
  cases x <;> cases y <;> first
    | exact h.elim
    | exact op_sub pins s σ H _ _ v u Q I rx ry ⟨_, _, rfl, rfl, h⟩
def rMul : R2 := fun x y H Q => match x, y with
  | .int i, .int j => (CMul i j ∨ CMulW i j) ∧ Q (.int (i * j)) H
  | _, _ => False
theorem gMul : OpR X (binaryOp .Mult) rMul := by
  intro pins s σ H x y v u Q I rx ry h
  cases x <;> cases y <;> first
    | exact h.elim
    | (rcases h with ⟨h | h, q⟩
       · exact op_mul pins s σ H _ _ v u Q I rx ry ⟨_, _, rfl, rfl, h, q⟩
       · exact op_mulW pins s σ H _ _ v u Q I rx ry ⟨_, _, rfl, rfl, h, q⟩)
def rDiv : R2 := fun x y H Q => match x, y with
  | .int i, .int j => CDivW i j ∧ Q (.int (i / j)) H
  | _, _ => False
theorem gDiv : OpR X (binaryOp .FloorDiv) rDiv := by
  intro pins s σ H x y v u Q I rx ry h
  cases x <;> cases y <;> first
    | exact h.elim
    | exact op_fdivW pins s σ H _ _ v u Q I rx ry ⟨_, _, rfl, rfl, h.1, h.2⟩
def rMod : R2 := fun x y H Q => match x, y with
  | .int i, .int j => 0 < j ∧ Q (.int (i % j)) H
  | _, _ => False
theorem gMod : OpR X (binaryOp .Mod) rMod := by
  intro pins s σ H x y v u Q I rx ry h
  cases x <;> cases y <;> first
    | exact h.elim
    | exact op_mod pins s σ H _ _ v u Q I rx ry ⟨_, _, rfl, rfl, h.1, h.2⟩
def rPow : R2 := fun x y H Q => match x, y with
  | .int i, .int j => CPow i j ∧ Q (.int (i ^ j.toNat)) H
  | _, _ => False
theorem gPow : OpR X (binaryOp .Pow) rPow := by
  intro pins s σ H x y v u Q I rx ry h
  cases x <;> cases y <;> first
    | exact h.elim
    | exact op_pow pins s σ H _ _ v u Q I rx ry ⟨_, _, rfl, rfl, h.1, h.2⟩
def rCmp (g : Int → Int → Bool) : R2 := fun x y H Q => match x, y with
  | .int i, .int j => Q (.bl (g i j)) H
  | _, _ => False
theorem cmp_of {f : Value → Value → Sem Value} {g : Int → Int → Bool} (ho : OpR X f (rI0 fun i j => .bl (g i j))) : OpR X f (rCmp g) := by
  intro pins s σ H x y v u Q I rx ry h
  cases x <;> cases y <;> first
    | exact h.elim
    | exact ho pins s σ H _ _ v u Q I rx ry ⟨_, _, rfl, rfl, h⟩
theorem gLt : OpR X (compareOp .Lt) (rCmp fun i j => decide (i < j)) := cmp_of op_lt
theorem gLe : OpR X (compareOp .LtE) (rCmp fun i j => decide (i ≤ j)) := cmp_of op_le
theorem gGt : OpR X (compareOp .Gt) (rCmp fun i j => decide (j < i)) := cmp_of op_gt
theorem gGe : OpR X (compareOp .GtE) (rCmp fun i j => decide (j ≤ i)) := cmp_of op_ge
def rEqA (K : PySem.W.Frag) : R2 := fun x y H Q => rEq x y H Q ∨ rEqD K x y H Q
def rNeA (K : PySem.W.Frag) : R2 := fun x y H Q => rNe x y H Q ∨ rNeD K x y H Q
theorem gEq {k : Nat} (hr : Room k X.A) : OpR X (compareOp .Eq) (rEqA X.K) := op_eq.or (op_eqD hr.units)
theorem gNe {k : Nat} (hr : Room k X.A) : OpR X (compareOp .NotEq) (rNeA X.K) := op_ne.or (op_neD hr.units)
def rIsA : R2 := fun x y H Q => (y = .non ∧ Q (.bl (decide (x = .non))) H) ∨ rIsB x y H Q
def rIsNotA : R2 := fun x y H Q => (y = .non ∧ Q (.bl (!decide (x = .non))) H) ∨ rNotB x y H Q
theorem gIs : OpR X (compareOp .Is) rIsA := op_isN.or op_isBl
theorem gIsNot : OpR X (compareOp .IsNot) rIsNotA := op_notN.or op_notBl
def rInA (K : PySem.W.Frag) : R2 := fun x y H Q => (∃ (c : Nat) (z : Str), x = .str ⟨#[c]⟩ ∧ y = .str z ∧ Q (.bl (decide (c ∈ z.cps.toList))) H) ∨ rIn K false x y H Q ∨ rInD K x y H Q
def rNotInA (K : PySem.W.Frag) : R2 := fun x y H Q => (∃ (c : Nat) (z : Str), x = .str ⟨#[c]⟩ ∧ y = .str z ∧ Q (.bl (!decide (c ∈ z.cps.toList))) H) ∨ rIn K true x y H Q ∨ rNotInD K x y H Q
theorem u65 {k : Nat} {A : Around} (hr : Room k A) : A.units + 65 < cLine := by
  have := hr.un
  omega
theorem gIn {k : Nat} (hr : Room k X.A) : OpR X (compareOp .In) (rInA X.K) := op_in_sign.or (op_in_seq.or (op_inD (u65 hr)))
theorem gNotIn {k : Nat} (hr : Room k X.A) : OpR X (compareOp .NotIn) (rNotInA X.K) := op_notIn_sign.or (op_notIn_seq.or (op_notInD (u65 hr)))
def rSlG (K : PySem.W.Frag) : V → Option Int → Option Int → Hp → VK → Prop := fun x lo hi H Q => match x with
  | .str z => z.length ≤ sizeLine ∧ Q (.str (cutS z lo hi)) H
  | .ref a => rSlL K (.ref a) lo hi H Q ∨ rSlA K (.ref a) lo hi H Q
  | _ => False
theorem gSl : SlR X (rSlG X.K) := by
  intro pins s σ H x v vl vu lo hi sl Q I rx hs pl pu h
  cases x <;> first
    | exact h.elim
    | exact sl_str pins s σ H _ v vl vu lo hi sl Q I rx hs pl pu ⟨_, rfl, h.1, h.2⟩
    | exact sl_list.or sl_tupA pins s σ H _ v vl vu lo hi sl Q I rx hs pl pu h
theorem CallR.or {f : Value} {r r' : List V → Hp → VK → Prop} (h : CallR X f r) (h' : CallR X f r') : CallR X f (fun xs H Q => r xs H Q ∨ r' xs H Q) := by
  intro pins s σ H xs us Q I rv q
  rcases q with q | q
  · exact h pins s σ H xs us Q I rv q
  · exact h' pins s σ H xs us Q I rv q
def rLen (K : PySem.W.Frag) : List V → Hp → VK → Prop := fun xs H Q => match xs with
  | [.str y] => y.length ≤ sizeLine ∧ Q (.int y.length) H
  | [.ref p] => ∃ xs, (SqL K H p xs ∨ SqT K H p xs) ∧ Q (.int xs.length) H
  | _ => False
theorem gLen : CallR X (.builtin "len") (rLen X.K) := by
  intro pins s σ H xs us Q I rv h
  match xs, rv, h with
  | [.str y], rv, h => exact call_len pins s σ H _ us Q I rv ⟨_, _, rfl, ⟨h.1, rfl⟩, h.2⟩
  | [.ref p], rv, h =>
    obtain ⟨xs, h1 | h1, q⟩ := h
    · exact call_len pins s σ H _ us Q I rv ⟨_, _, rfl, .inl ⟨_, h1, rfl⟩, q⟩
    · exact call_len pins s σ H _ us Q I rv ⟨_, _, rfl, .inr ⟨_, h1, rfl⟩, q⟩
def rIsiA (K : PySem.W.Frag) : List V → Hp → VK → Prop := fun xs H Q => rIsi K xs H Q ∨ rIsiT K xs H Q
theorem gIsi : CallR X (.builtin "isinstance") (rIsiA X.K) := CallR.or call_isi call_isiT
def rIntA : List V → Hp → VK → Prop := fun xs H Q => match xs with
  | [.int i] => Q (.int i) H
  | [.bl k] => Q (.int (if k then 1 else 0)) H
  | [.str a] => ∃ n, PySem.intText? a = some n ∧ a.length ≤ 640 ∧ Q (.int n) H
  | _ => False
theorem g_int : CallR X (.type "int") rIntA := by
  intro pins s σ H xs us Q I rv h
  match xs, rv, h with
  | [.int i], rv, h => exact call_int1 pins s σ H _ us Q I rv (.inl ⟨_, rfl, h⟩)
  | [.bl i], rv, h => exact call_int1 pins s σ H _ us Q I rv (.inr ⟨_, rfl, h⟩)
  | [.str i], rv, ⟨n, h1, h2, q⟩ => exact call_int_str pins s σ H _ us Q I rv ⟨_, n, rfl, h1, h2, q⟩
def rStrA : List V → Hp → VK → Prop := fun xs H Q => match xs with
  | [.int i] => i.natAbs.log2 < 1920 ∧ Q (.str (toString i)) H
  | _ => False
theorem g_str : CallR X (.type "str") rStrA := by
  intro pins s σ H xs us Q I rv h
  match xs, rv, h with
  | [.int i], rv, h => exact call_str_int pins s σ H _ us Q I rv ⟨_, rfl, h.1, h.2⟩
def rListA (K : PySem.W.Frag) : List V → Hp → VK → Prop := fun xs H Q => match xs with
  | [.ref p] => ∃ ys, (SqL K H p ys ∨ SqT K H p ys) ∧ ∀ l, H l = none → Q (.ref l) (upd H l (.lst ys))
  | _ => False
theorem g_list : CallR X (.type "list") (rListA X.K) := by
  intro pins s σ H xs us Q I rv h
  match xs, rv, h with
  | [.ref i], rv, ⟨ys, h, q⟩ => exact call_list_of pins s σ H _ us Q I rv ⟨_, _, rfl, h, q⟩
def rTupA (K : PySem.W.Frag) : List V → Hp → VK → Prop := fun xs H Q => match xs with
  | [.ref p] => ∃ ys, (SqL K H p ys ∧ ∀ l, H l = none → Q (.ref l) (upd H l (.tup ys))) ∨ (SqT K H p ys ∧ Q (.ref p) H)
  | _ => False
theorem g_tuple : CallR X (.type "tuple") (rTupA X.K) := by
  intro pins s σ H xs us Q I rv h
  match xs, rv, h with
  | [.ref i], rv, ⟨ys, h⟩ => exact call_tuple_of pins s σ H _ us Q I rv ⟨_, _, rfl, h⟩
def rIxA (K : PySem.W.Frag) : R2 := fun x y H Q => match x, y with
  | .ref p, .int i => ∃ xs v, (SqL K H p xs ∨ SqT K H p xs) ∧ atI xs i = some v ∧ Q v H
  | .str z, .int i => z.length ≤ sizeLine ∧ ∃ c, atI z.cps.toList i = some c ∧ Q (.str ⟨#[c]⟩) H
  | _, _ => False
theorem gIx : IxR X (rIxA X.K) := by
  intro value slice pins s σ H x y v u Q I rx ry h hs
  cases x <;> cases y <;> first
    | exact h.elim
    | (obtain ⟨xs, v', h1 | h1, h2, q⟩ := h
       · exact ix_list value slice pins s σ H _ _ v u Q I rx ry ⟨_, _, _, _, rfl, rfl, h1, h2, q⟩ hs
       · exact ix_tup value slice pins s σ H _ _ v u Q I rx ry ⟨_, _, _, _, rfl, rfl, h1, h2, q⟩ hs)
    | (obtain ⟨h1, c, h2, q⟩ := h
       exact ix_str value slice pins s σ H _ _ v u Q I rx ry ⟨_, _, _, rfl, rfl, h1, h2, q⟩ hs)
/-- a built-in type's name -/
theorem gTy {x : Str} {n : String} {pos : Pos} (hg : Gl X x) (hm : X.mg x = none) (hv : bootBuiltins x = some (.type n)) (hn : x ≠ "__name__" := by decide) (hd : (x == ("__debug__" : Str)) = false := by decide) : PE X (.Name x pos) (tC (.ty n)) :=
  pe_bltn (v := .ty n) hg hm hv rfl hn hd
/-- what is walked: a list, a tuple, a text -/
def iAny (K : PySem.W.Frag) (te : TE) : TI := fun σ H R => iList K te σ H R ∨ iTup K te σ H R ∨ iStr te σ H R
theorem IT {tg e : Expr} {te : TE} (he : PE X e te) : PI X tg e (iAny X.K te) := by
  refine ⟨fun pins s σ H R I h => ?_⟩
  rcases h with h | h | h
  · exact (pi_list he).run pins s σ H R I h
  · exact (pi_tup he).run pins s σ H R I h
  · exact (pi_str he).run pins s σ H R I h
/-- a statement, then the rest, with a word between them -/
def tCut (t u : TS) : TS := fun D σ H => ∃ Mid : L2.St → Hp → Prop, t { D with nx := Mid } σ H ∧ ∀ σ' H', Mid σ' H' → u D σ' H'
theorem pss_cut {st : Stmt} {rest : List Stmt} {t u : TS} (h1 : PS X st t) (h2 : PSs X rest u) : PSs X (st :: rest) (tCut t u) := by
  refine ⟨fun pins s σ H D I h => ?_⟩
  obtain ⟨Mid, hm, hu⟩ := h
  refine wpAny_execs_cons (thn (h1.run pins s σ H { D with nx := Mid } I hm) fun f s1 q => ?_)
  cases f with
  | next =>
    obtain ⟨σ', H', I', q⟩ := q
    exact h2.run pins s1 σ' H' D I' (hu σ' H' q)
  | ret v => exact q
  | brk => exact q
  | cont => exact q
/-- an expression, a test, with a word behind it -/
def tCutE (t : TE) : TE := fun σ H Q => ∃ M : VK, t σ H M ∧ ∀ v H', M v H' → Q v H'
def tCutT (t : TT) : TT := fun σ H Q => ∃ M : Bool → Hp → Prop, t σ H M ∧ ∀ v H', M v H' → Q v H'
theorem pe_cut {e : Expr} {t : TE} (h : PE X e t) : PE X e (tCutE t) := by
  refine ⟨fun pins s σ H Q I ⟨M, hm, hu⟩ => thn (h.run pins s σ H M I hm) fun u s1 ⟨v, H1, I1, r, q⟩ => ⟨v, H1, I1, r, hu v H1 q⟩⟩
theorem pt_cut {e : Expr} {t : TT} (h : PT X e t) : PT X e (tCutT t) := by
  refine ⟨fun pins s σ H Q I ⟨M, hm, hu⟩ => thn (h.run pins s σ H M I hm) fun u s1 ⟨H1, I1, q⟩ => ⟨H1, I1, hu _ H1 q⟩⟩
theorem i_cutE {t : TE} {σ : L2.St} {H : Hp} {Q : VK} (M : VK) (hm : t σ H M) (hu : ∀ v H', M v H' → Q v H') : tCutE t σ H Q := ⟨M, hm, hu⟩
theorem i_cutT {t : TT} {σ : L2.St} {H : Hp} {Q : Bool → Hp → Prop} (M : Bool → Hp → Prop) (hm : t σ H M) (hu : ∀ v H', M v H' → Q v H') : tCutT t σ H Q := ⟨M, hm, hu⟩
/-- .. whose answer is b, leaving the heap -/
theorem i_isT {t : TT} {σ : L2.St} {H : Hp} {Q : Bool → Hp → Prop} (b : Bool) (hm : t σ H fun v H' => v = b ∧ H' = H) (hu : Q b H) : tCutT t σ H Q := ⟨_, hm, fun v H' ⟨e1, e2⟩ => by rw [e1, e2]; exact hu⟩
theorem i_isE {t : TE} {σ : L2.St} {H : Hp} {Q : VK} (x : V) (hm : t σ H fun v H' => v = x ∧ H' = H) (hu : Q x H) : tCutE t σ H Q := ⟨_, hm, fun v H' ⟨e1, e2⟩ => by rw [e1, e2]; exact hu⟩
theorem cut_seq {t u : TS} {D : Ends} {σ : L2.St} {H : Hp} (h : t { D with nx := u D } σ H) : tCut t u D σ H := ⟨u D, h, fun _ _ q => q⟩
end
/-! the same, the written part by its name (inside a comprehension) -/
section
variable {X : Cx} {K : PySem.W.Frag}
theorem kAdd (hK : X.K = K) : OpR X (binaryOp .Add) (rAdd K) := by subst hK; exact gAdd
theorem kEq {k : Nat} (hK : X.K = K) (hr : Room k X.A) : OpR X (compareOp .Eq) (rEqA K) := by subst hK; exact gEq hr
theorem kNe {k : Nat} (hK : X.K = K) (hr : Room k X.A) : OpR X (compareOp .NotEq) (rNeA K) := by subst hK; exact gNe hr
theorem kIn {k : Nat} (hK : X.K = K) (hr : Room k X.A) : OpR X (compareOp .In) (rInA K) := by subst hK; exact gIn hr
theorem kNotIn {k : Nat} (hK : X.K = K) (hr : Room k X.A) : OpR X (compareOp .NotIn) (rNotInA K) := by subst hK; exact gNotIn hr
theorem kSl (hK : X.K = K) : SlR X (rSlG K) := by subst hK; exact gSl
theorem kLen (hK : X.K = K) : CallR X (.builtin "len") (rLen K) := by subst hK; exact gLen
theorem kIsi (hK : X.K = K) : CallR X (.builtin "isinstance") (rIsiA K) := by subst hK; exact gIsi
theorem k_list (hK : X.K = K) : CallR X (.type "list") (rListA K) := by subst hK; exact g_list
theorem k_tuple (hK : X.K = K) : CallR X (.type "tuple") (rTupA K) := by subst hK; exact g_tuple
theorem kIx (hK : X.K = K) : IxR X (rIxA K) := by subst hK; exact gIx
theorem kIT {tg e : Expr} {te : TE} (hK : X.K = K) (he : PE X e te) : PI X tg e (iAny K te) := by subst hK; exact IT he
theorem kTruth {a : Expr} {ta : TE} (hK : X.K = K) (ha : PE X a ta) (he : ∀ whole, isTrue a X.env whole = (do let v ← whole; standAt a.pos; holding [v] (truthy v))) : PT X a (fun σ H Q => ta σ H fun x H' => ∃ k, TruV K x H' k ∧ Q k H') := by
  subst hK
  exact pt_truth ha he
theorem kBm {o e : Expr} {es : List Expr} {to : TE} {t : TA} {name : Str} {apos cpos : Pos} {T id : String} {r : V → List V → Hp → VK → Prop} (hK : X.K = K) (pa : PlainAttrs T) (slot : Slot T name id) (hty : typeOf (.builtin id) = pure (.type "method_descriptor")) (hm : MtR X id r) (ho : PE X o to) (ha : PA X (e :: es) t)
    (hbase : attributeBase o name X.env (eval o X.env) = eval o X.env := by rfl)
    (hfew : ((backTo cpos (starEach (e :: es) X.env)).all (fun x => !x.1) && (backToKw cpos (keywordEach [] X.env)).all (fun x => x.1.isSome)
      && decide ((e :: es).length + ([] : List Keyword).length + (if ([] : List Keyword).isEmpty then 0 else 1) < 30)) = true := by rfl)
    (hline : (apos.endLine == cpos.line) = true := by rfl) (hs : starEach (e :: es) X.env = (false, eval e X.env) :: starEach es X.env := by rfl) (hplain : (backTo cpos (starEach es X.env)).any (·.1) = false := by rfl) :
    PE X (.Call (.Attribute o name apos) (e :: es) [] cpos) (tBM K T r to t) := by
  subst hK
  exact pe_bm pa slot hty hm ho ha hbase hfew hline hs hplain
theorem kBm0 {o : Expr} {to : TE} {name : Str} {apos cpos : Pos} {T id : String} {r : V → List V → Hp → VK → Prop} (hK : X.K = K) (pa : PlainAttrs T) (slot : Slot T name id) (hty : typeOf (.builtin id) = pure (.type "method_descriptor")) (hm : MtR X id r) (ho : PE X o to)
    (hbase : attributeBase o name X.env (eval o X.env) = eval o X.env := by rfl) (hline : (apos.endLine == cpos.line) = true := by rfl) : PE X (.Call (.Attribute o name apos) [] [] cpos) (tBM0 K T r to) := by
  subst hK
  exact pe_bm0 pa slot hty hm ho hbase hline
theorem kTup {es : List Expr} {k : Nat} {t : TGs} {n : Nat} {pos : Pos} (hK : X.K = K) (hc : X.calm = true) (h : PGs X es t)
    (hn : (assignEach es X.env).length = n := by rfl) (hst : (assignEach es X.env).findIdx? (·.1) = none := by rfl) : PG X (.Tuple es k pos) (gTup K n t) := by
  subst hK
  exact pg_tup hc h hn hst
end
/-! ### a def by its name -/
structure Cal (P : Program) (w : World) (K : PySem.W.Frag) (mg : Str → Option Value) (base : Heap) (k : Nat) (x : Str) (sp : Sp) (dvs : List V) : Prop where
  ex : ∃ (f : Addr) (fd : FuncData) (ps : List Str) (ds : List Value), FnOk P w K mg base CX0 k f fd ps sp ∧ mg x = some (.ref f) ∧ PySem.W.keepIn K (.ref f) = true ∧ Binds K fd ps ds ∧ Vals dvs ds
/-- a def of the text: where it stands, how its arguments bind -/
structure Dd (K : PySem.W.Frag) (mg : Str → Option Value) (x : Str) (st : Stmt) (ps : List Str) : Prop where
  ex : ∃ (f : Addr) (fd : FuncData), Fun K x x st f fd ∧ mg x = some (.ref f) ∧ Binds K fd ps []
section
variable {P : Program} {w : World} {K : PySem.W.Frag} {mg : Str → Option Value} {base : Heap}
/-- the rule for a def -/
theorem Dd.cal {x : Str} {st : Stmt} {N ps : List Str} {k : Nat} {sp : Sp} (F : Dd K mg x st ps) (S : FnScope N ps (defScope st)) (len : ∀ vs H Q E, sp vs H Q E → vs.length = ps.length)
    (hbody : ∀ (f : Addr) (cdv : Value) (A : Around) (outer : List Env) (s : Shared) (H : Hp) (vs : List V) (Q : VK) (E : XK), Room k (A.deeper (envOfC x (defScope st) s.heap.objs.size f cdv)) → sp vs H Q E →
      ∃ t, PSs (cxOf CX0 P w K mg base N x (defScope st) f cdv A outer s H E).nox (defBody st) t ∧ t { nx := fun _ H' => Q .non H', rt := Q } (start N vs) H) : Cal P w K mg base (k + 1) x sp [] := by
  obtain ⟨f, fd, F1, hm, b⟩ := F.ex
  exact ⟨f, fd, ps, [], F1.ok S len (fun cdv A outer s H vs Q E hr h => hbody f cdv A outer s H vs Q E hr h), hm, F1.kp, b, .nil⟩
/-- the law itself -/
theorem Dd.law {x : Str} {st : Stmt} {N ps : List Str} {k : Nat} {sp : Sp} {fa : Addr} (F : Dd K mg x st ps) (S : FnScope N ps (defScope st)) (hfa : mg x = some (.ref fa)) (len : ∀ vs H Q E, sp vs H Q E → vs.length = ps.length)
    (hbody : ∀ (base : Heap) (f : Addr) (cdv : Value) (A : Around) (outer : List Env) (s : Shared) (H : Hp) (vs : List V) (Q : VK) (E : XK), Room k (A.deeper (envOfC x (defScope st) s.heap.objs.size f cdv)) → sp vs H Q E →
      ∃ t, PSs (cxOf CX0 P w K mg base N x (defScope st) f cdv A outer s H E).nox (defBody st) t ∧ t { nx := fun _ H' => Q .non H', rt := Q } (start N vs) H) :
    ∃ fd : FuncData, (∃ (kV doc pm : Value) (an : Option Addr) (cdv ct : Value), fd = PySem.W.fnOf x x (defArgs st) (defBody st) (defScope st) .none kV doc pm an cdv ct) ∧ ∀ base : Heap, FnOk P w K mg base CX0 (k + 1) fa fd ps sp := by
  obtain ⟨f, fd, F1, hm, b⟩ := F.ex
  have e := hfa.symm.trans hm
  cases e
  refine ⟨fd, ?_, fun base => F1.ok S len (fun cdv A outer s H vs Q E hr h => hbody base fa cdv A outer s H vs Q E hr h)⟩
  obtain ⟨oc, od, kV, doc, pm, an, cdv, ct, osl, rfl, lk, hcd⟩ := F1.ex
  exact ⟨kV, doc, pm, an, cdv, ct, rfl⟩
theorem cxK {CX : CXT} {N : List Str} {x : Str} {sc : Scope} {f : Addr} {cdv : Value} {A : Around} {outer : List Env} {s : Shared} {H : Hp} {E : XK} : (cxOf CX P w K mg base N x sc f cdv A outer s H E).nox.K = K := rfl
end
section
variable {X : Cx} {k j : Nat} {x : Str} {sp : Sp} {dvs : List V} {p pos : Pos} {e : Expr} {es : List Expr} {t : TA}
theorem pe_c (c : Cal X.prog X.w X.K X.mg X.base k x sp dvs) (hr : Room j X.A) (hk : k ≤ j) (hg : Gl X x) (ha : PA X (e :: es) t)
    (hdb : (x == ("__debug__" : Str)) = false := by decide) (he : starEach (e :: es) X.env = (false, eval e X.env) :: starEach es X.env := by rfl) (hpl : (backTo pos (starEach es X.env)).any (·.1) = false := by rfl) :
    PE X (.Call (.Name x p) (e :: es) [] pos) (tCall sp dvs E0 t) := by
  obtain ⟨f, fd, ps, ds, F, hm, kp, b, d⟩ := c.ex
  exact pe_call F (hr.mono hk) hg hm kp b d pass0 ha hdb he hpl
theorem pe_call0C (c : Cal X.prog X.w X.K X.mg X.base k x sp dvs) (hr : Room j X.A) (hk : k ≤ j) (hg : Gl X x)
    (hdb : (x == ("__debug__" : Str)) = false := by decide) : PE X (.Call (.Name x p) [] [] pos) (tCall sp dvs E0 tNil) := by
  obtain ⟨f, fd, ps, ds, F, hm, kp, b, d⟩ := c.ex
  exact pe_call0 F (hr.mono hk) hg hm kp b d pass0 hdb
theorem pe_gc {v : V} (hg : Gl X x) (h : ∃ u, X.mg x = some u ∧ RelV v u) (hd : (x == ("__debug__" : Str)) = false := by decide) : PE X (.Name x pos) (tC v) := by
  obtain ⟨u, hm, r⟩ := h
  exact pe_glob hg hm r hd
end
/-! ### readings, one step each -/
section
variable {K : PySem.W.Frag} {σ : L2.St} {H : Hp} {ta tb te tc to : TE} {t tr : TA} {tt tu : TT} {Q : VK} {QA : List V → Hp → Prop} {QB : Bool → Hp → Prop} {D : Ends} {u v : TS} {r r' : R2} {rc : List V → Hp → VK → Prop} {g : TG}
theorem i_var {i : Nat} {x : V} (h : σ[i]? = some (some x)) (q : Q x H) : tVar i σ H Q := ⟨x, h, q⟩
theorem i_c {x : V} (q : Q x H) : tC x σ H Q := q
theorem i_op (q : ta σ H fun x H1 => tb σ H1 fun y H2 => r x y H2 Q) : tOp r ta tb σ H Q := q
theorem i_un {ru : V → Hp → VK → Prop} (q : ta σ H fun x H1 => ru x H1 Q) : tUn ru ta σ H Q := q
theorem i_neg {i : Int} (q : Q (.int (-i)) H) : rU (fun i => .int (-i)) (.int i) H Q := ⟨i, rfl, q⟩
theorem i_cb (q : t σ H fun vs H1 => rc vs H1 Q) : tCB rc t σ H Q := q
theorem i_cons (q : ta σ H fun x H1 => tr σ H1 fun xs H2 => QA (x :: xs) H2) : tCons ta tr σ H QA := q
theorem i_nil (q : QA [] H) : tNil σ H QA := q
theorem i_test (q : te σ H fun x H' => ∃ k, x = .bl k ∧ QB k H') : tTest te σ H QB := q
theorem i_b (q : te σ H fun x H' => ∃ k, x = .bl k ∧ QB k H') : tB te σ H QB := q
theorem i_bl {b : Bool} {R : Bool → Prop} (q : R b) : ∃ k, V.bl b = .bl k ∧ R k := ⟨b, rfl, q⟩
theorem i_and (q : tt σ H fun c H1 => if c = true then tu σ H1 QB else QB false H1) : tAnd tt tu σ H QB := q
theorem i_or (q : tt σ H fun c H1 => if c = true then QB true H1 else tu σ H1 QB) : tOr tt tu σ H QB := q
theorem i_not (q : tt σ H fun c H1 => QB (!c) H1) : tNot tt σ H QB := q
theorem i_andV (q : ta σ H fun x H1 => ∃ c, x = .bl c ∧ if c = true then tb σ H1 Q else Q (.bl false) H1) : tAndV ta tb σ H Q := q
theorem i_orV (q : ta σ H fun x H1 => ∃ c, x = .bl c ∧ if c = true then Q (.bl true) H1 else tb σ H1 Q) : tOrV ta tb σ H Q := q
theorem i_notV (q : ta σ H fun x H1 => ∃ c, x = .bl c ∧ Q (.bl (!c)) H1) : tNotV ta σ H Q := q
theorem i_if (q : tt σ H fun c H1 => if c = true then ta σ H1 Q else tb σ H1 Q) : tIf tt ta tb σ H Q := q
theorem i_chain (q : ta σ H fun x H1 => tb σ H1 fun y H2 => r x y H2 fun z H3 => ∃ k, z = .bl k ∧ (if k = true then tc σ H3 fun w' H4 => r' y w' H4 Q else Q (.bl false) H3)) : tChain r r' ta tb tc σ H Q := q
theorem i_seq (q : u { D with nx := v D } σ H) : tSeq u v D σ H := q
theorem i_next (q : D.nx σ H) : tNext D σ H := q
theorem i_lst (q : t σ H fun xs H1 => xs.length ≤ sizeLine ∧ ∀ p, H1 p = none → Q (.ref p) (upd H1 p (.lst xs))) : tLst t σ H Q := q
theorem i_tup (q : t σ H fun xs H1 => xs.length ≤ sizeLine ∧ ∀ p, H1 p = none → Q (.ref p) (upd H1 p (.tup xs))) : tTup t σ H Q := q
theorem i_drop (q : te σ H fun _ H1 => D.nx σ H1) : tDrop te D σ H := q
theorem i_ret (q : te σ H D.rt) : tRet te D σ H := q
theorem i_ifS (q : tt σ H fun b H1 => if b = true then u D σ H1 else v D σ H1) : tIfS tt u v D σ H := q
theorem i_call {sp : Sp} {dvs : List V} {E : XK} (q : t σ H fun vs H1 => sp (vs ++ dvs) H1 Q E) : tCall sp dvs E t σ H Q := q
theorem i_asg (q : te σ H fun x H1 => g x σ H1 D.nx) : tAsg te g D σ H := q
theorem i_name {i : Nat} {x : V} {R : L2.St → Hp → Prop} (q : R (σ.set i (some x)) H) : gName i x σ H R := q
theorem i_start {N : List Str} {vs : List V} {τ : L2.St} {t : TS} (e : start N vs = τ) (q : t D τ H) : t D (start N vs) H := by
  subst e
  exact q
theorem i_sub {ti : TE} {ts : TSet} {x : V} {R : L2.St → Hp → Prop} (q : to σ H fun o H1 => ti σ H1 fun i H2 => ts o i x H2 fun H3 => R σ H3) : L2.gSub to ti ts x σ H R := q
theorem i_sl {rs : V → Option Int → Option Int → Hp → VK → Prop} {tl th : TO} (q : te σ H fun x H1 => tl σ H1 fun l H2 => th σ H2 fun u H3 => rs x l u H3 Q) : tSl rs te tl th σ H Q := q
theorem i_noP {QO : Option Int → Hp → Prop} (q : QO none H) : tNoPart σ H QO := q
theorem i_part {QO : Option Int → Hp → Prop} (q : te σ H fun x H1 => ∃ i, x = .int i ∧ QO (some i) H1) : tPart te σ H QO := q
theorem i_int {i : Int} {R : Int → Prop} (q : R i) : ∃ k, V.int i = .int k ∧ R k := ⟨i, rfl, q⟩
theorem i_bm {T : String} {rm : V → List V → Hp → VK → Prop} (q : to σ H fun x H1 => tyV K T x H1 ∧ t σ H1 fun xs H2 => rm x xs H2 Q) : tBM K T rm to t σ H Q := q
theorem i_strT {z : Str} {R : Prop} (q : R) : tyV K "str" (.str z) H ∧ R := ⟨rfl, q⟩
theorem i_yes {QB : Bool → Hp → Prop} (q : QB true H) : tYes σ H QB := q
theorem i_ite {p A B : Prop} [Decidable p] (h1 : p → A) (h2 : ¬ p → B) : if decide p = true then A else B := by
  by_cases h : p
  · rw [if_pos (decide_eq_true h)]
    exact h1 h
  · rw [if_neg (by rw [decide_eq_false h]; exact Bool.false_ne_true)]
    exact h2 h
theorem i_iteN {p A B : Prop} [Decidable p] (h1 : ¬ p → A) (h2 : p → B) : if (!decide p) = true then A else B := by
  by_cases h : p
  · rw [decide_eq_true h]
    exact iteF (h2 h)
  · rw [decide_eq_false h]
    exact iteT (h1 h)
theorem i_iteB {b : Bool} {A B : Prop} (h1 : b = true → A) (h2 : b = false → B) : if b = true then A else B := by
  cases b with
  | true => exact iteT (h1 rfl)
  | false => exact iteF (h2 rfl)
theorem i_iteBN {b : Bool} {A B : Prop} (h1 : b = false → A) (h2 : b = true → B) : if (!b) = true then A else B := by
  cases b with
  | true => exact iteF (h2 rfl)
  | false => exact iteT (h1 rfl)
/-- a comprehension's turns -/
def lcB (J : It) (g : TG) (tt : TT) (te : TE) (vs : List Nat) (σ : L2.St) (Q : VK) (H1 : Hp) : Prop := ∀ D, H1 D = none → ∃ W : Nat → Nat → Hp → Prop, (∃ m, W 0 m (upd H1 D (.lst []))) ∧ ∀ i m H, W i m H →
  (J.stop i H ∧ Q (.ref D) H) ∨ (J.go i H ∧ ∃ Nx : Hp → Prop, (∀ H', Nx H' → ∃ m', m' < m ∧ W (i + 1) m' H') ∧ ∀ x H', J.yld i H x H' → g x (wipe σ vs) H' fun σ2 H2 => wipe σ2 vs = wipe σ vs ∧ tt σ2 H2 fun b H3 =>
    if b = true then te σ2 H3 fun y H4 => ∃ acc, H4 D = some (.lst acc) ∧ acc.length < sizeLine ∧ Nx (upd H4 D (.lst (acc ++ [y]))) else Nx H3)
/-- a loop's turns -/
def forB (J : It) (g : TG) (tb : TS) (D : Ends) (σ : L2.St) (H1 : Hp) : Prop := ∃ W : Nat → Nat → L2.St → Hp → Prop, (∃ m, W 0 m σ H1) ∧ ∀ i m σ H, W i m σ H →
  (J.stop i H ∧ D.nx σ H) ∨ (J.go i H ∧ ∃ N : L2.St → Hp → Prop, (∀ σ' H', N σ' H' → ∃ m', m' < m ∧ W (i + 1) m' σ' H') ∧ ∀ x H', J.yld i H x H' → g x σ H' fun σ2 H2 => tb { D with nx := N, ct := N, bk := D.nx } σ2 H2)
theorem i_lc {wi : TI} {vs : List Nat} (q : wi σ H fun J H1 => lcB J g tt te vs σ Q H1) : tLc wi g tt te vs σ H Q := q
theorem i_for {wi : TI} (q : wi σ H fun J H1 => forB J g u D σ H1) : tFor wi g u D σ H := q
theorem i_anyL {R : It → Hp → Prop} (q : te σ H fun x H1 => ∃ a, x = .ref a ∧ (∃ xs, SqL K H1 a xs) ∧ R (Itl K a) H1) : iAny K te σ H R := .inl q
theorem i_anyT {R : It → Hp → Prop} (q : te σ H fun x H1 => ∃ a, x = .ref a ∧ (∃ xs, SqT K H1 a xs) ∧ R (Itt K a) H1) : iAny K te σ H R := .inr (.inl q)
theorem i_anyS {R : It → Hp → Prop} (q : te σ H fun v H1 => ∃ x, v = .str x ∧ R (Its x) H1) : iAny K te σ H R := .inr (.inr q)
theorem i_rng1 {R : It → Hp → Prop} (q : t σ H fun vs H1 => ∃ j : Int, vs = [.int j] ∧ -(2 ^ 62) ≤ j ∧ j < 2 ^ 62 ∧ R (Itr 0 j.toNat) H1) : iRng1 t σ H R := q
theorem i_rng2 {R : It → Hp → Prop} (q : t σ H fun vs H1 => ∃ i j : Int, vs = [.int i, .int j] ∧ (-(2 ^ 62) ≤ i ∧ i < 2 ^ 62 ∧ -(2 ^ 62) ≤ j ∧ j < 2 ^ 62) ∧ R (Itr i (j - i).toNat) H1) : iRng2 t σ H R := q
theorem l_rng1 {j : Int} {R : It → Hp → Prop} (h1 : -(2 ^ 62) ≤ j) (h2 : j < 2 ^ 62) (q : R (Itr 0 j.toNat) H) : ∃ k : Int, [V.int j] = [.int k] ∧ -(2 ^ 62) ≤ k ∧ k < 2 ^ 62 ∧ R (Itr 0 k.toNat) H := ⟨j, rfl, h1, h2, q⟩
/-- a range: what holds between the turns -/
theorem for_rng {n : Nat} {lo : Int} (Pv : Nat → L2.St → Hp → Prop) (h0 : Pv 0 σ H)
    (hs : ∀ i σ H, i < n → Pv i σ H → g (.int (lo + i)) σ H fun σ2 H2 => u { D with nx := Pv (i + 1), ct := Pv (i + 1), bk := D.nx } σ2 H2) (hd : ∀ σ H, Pv n σ H → D.nx σ H) : forB (Itr lo n) g u D σ H := for_range Pv h0 hs hd
theorem for_lst {a : Addr} {xs : List V} (Pv : Nat → L2.St → Hp → Prop) (h0 : Pv 0 σ H) (hl : ∀ i σ H, i ≤ xs.length → Pv i σ H → SqL K H a xs)
    (hs : ∀ i x σ H, xs[i]? = some x → Pv i σ H → g x σ H fun σ2 H2 => u { D with nx := Pv (i + 1), ct := Pv (i + 1), bk := D.nx } σ2 H2) (hd : ∀ σ H, Pv xs.length σ H → D.nx σ H) : forB (Itl K a) g u D σ H := for_list Pv h0 hl hs hd
/-- a text, sign by sign -/
theorem lc_text {x : Str} {vs : List Nat} {DD : Addr} (hD : H DD = none) (Pv : Nat → Hp → Prop) (h0 : Pv 0 (upd H DD (.lst [])))
    (hs : ∀ i c H, x.cps.toList[i]? = some c → Pv i H → g (.str ⟨#[c]⟩) (wipe σ vs) H fun σ2 H2 => wipe σ2 vs = wipe σ vs ∧ tt σ2 H2 fun b H3 =>
      if b = true then te σ2 H3 fun y H4 => ∃ acc, H4 DD = some (.lst acc) ∧ acc.length < sizeLine ∧ Pv (i + 1) (upd H4 DD (.lst (acc ++ [y]))) else Pv (i + 1) H3) (hd : ∀ H, Pv x.cps.toList.length H → Q (.ref DD) H) :
    ∃ W : Nat → Nat → Hp → Prop, (∃ m, W 0 m (upd H DD (.lst []))) ∧ ∀ i m H, W i m H →
      ((Its x).stop i H ∧ Q (.ref DD) H) ∨ ((Its x).go i H ∧ ∃ Nx : Hp → Prop, (∀ H', Nx H' → ∃ m', m' < m ∧ W (i + 1) m' H') ∧ ∀ v H', (Its x).yld i H v H' → g v (wipe σ vs) H' fun σ2 H2 => wipe σ2 vs = wipe σ vs ∧ tt σ2 H2 fun b H3 =>
        if b = true then te σ2 H3 fun y H4 => ∃ acc, H4 DD = some (.lst acc) ∧ acc.length < sizeLine ∧ Nx (upd H4 DD (.lst (acc ++ [y]))) else Nx H3) := by
  have el : x.cps.toList.length = x.cps.size := Array.length_toList
  refine ⟨fun i m H => m = x.cps.size - i ∧ i ≤ x.cps.size ∧ Pv i H, ⟨x.cps.size, by simp, Nat.zero_le _, h0⟩, ?_⟩
  rintro i m H ⟨rfl, hi, p⟩
  by_cases hlt : i < x.cps.size
  · refine .inr ⟨hlt, Pv (i + 1), fun H' p' => ⟨x.cps.size - (i + 1), by omega, rfl, hlt, p'⟩, fun v H' y => ?_⟩
    obtain ⟨rfl, c, hc, rfl⟩ := y
    exact hs i c H' (by rw [Array.getElem?_toList]; exact hc) p
  · have e : i = x.cps.size := by omega
    subst e
    exact .inl ⟨Nat.le_refl _, hd H (by rw [el]; exact p)⟩
theorem i_len {xs : List V} {R : Prop} (h : xs.length ≤ sizeLine) (q : R) : xs.length ≤ sizeLine ∧ R := ⟨h, q⟩
theorem iteNF {A B : Prop} (h : A) : if (!false) = true then A else B := h
theorem iteNT {A B : Prop} (h : B) : if (!true) = true then A else B := h
/-! leaves -/
theorem l_inT {x : V} {p : Addr} {xs : List V} (h : SqT K H p xs) (hx : flatV x = true) (ha : xs.all flatV = true) (q : Q (.bl (inV x xs)) H) : rInA K x (.ref p) H Q := .inr (.inl ⟨p, xs, rfl, .inr h, hx, ha, q⟩)
theorem l_inL {x : V} {p : Addr} {xs : List V} (h : SqL K H p xs) (hx : flatV x = true) (ha : xs.all flatV = true) (q : Q (.bl (inV x xs)) H) : rInA K x (.ref p) H Q := .inr (.inl ⟨p, xs, rfl, .inl h, hx, ha, q⟩)
theorem l_notInT {x : V} {p : Addr} {xs : List V} (h : SqT K H p xs) (hx : flatV x = true) (ha : xs.all flatV = true) (q : Q (.bl (!inV x xs)) H) : rNotInA K x (.ref p) H Q := .inr (.inl ⟨p, xs, rfl, .inr h, hx, ha, q⟩)
theorem l_notInL {x : V} {p : Addr} {xs : List V} (h : SqL K H p xs) (hx : flatV x = true) (ha : xs.all flatV = true) (q : Q (.bl (!inV x xs)) H) : rNotInA K x (.ref p) H Q := .inr (.inl ⟨p, xs, rfl, .inl h, hx, ha, q⟩)
theorem l_inC {c : Nat} {z : Str} (q : Q (.bl (decide (c ∈ z.cps.toList))) H) : rInA K (.str ⟨#[c]⟩) (.str z) H Q := .inl ⟨c, z, rfl, rfl, q⟩
theorem l_str1 {g : Str → Str → V} {a b : Str} (h : a.length ≤ sizeLine) (q : Q (g a b) H) : ∃ a' b', V.str a = .str a' ∧ [V.str b] = [.str b'] ∧ a'.length ≤ sizeLine ∧ Q (g a' b') H := ⟨a, b, rfl, rfl, h, q⟩
theorem l_addI {i j : Int} (q : Q (.int (i + j)) H) : rAdd K (.int i) (.int j) H Q := q
theorem l_addS {i j : Str} (h : i.length + j.length ≤ sizeLine) (q : Q (.str (i ++ j)) H) : rAdd K (.str i) (.str j) H Q := ⟨h, q⟩
theorem l_subI {i j : Int} (q : Q (.int (i - j)) H) : rSub (.int i) (.int j) H Q := q
theorem l_mul {i j : Int} (h : CMul i j ∨ CMulW i j) (q : Q (.int (i * j)) H) : rMul (.int i) (.int j) H Q := ⟨h, q⟩
theorem l_div {i j : Int} (h : CDivW i j) (q : Q (.int (i / j)) H) : rDiv (.int i) (.int j) H Q := ⟨h, q⟩
theorem l_mod {i j : Int} (h : 0 < j) (q : Q (.int (i % j)) H) : rMod (.int i) (.int j) H Q := ⟨h, q⟩
theorem l_pow {i j : Int} (h : CPow i j) (q : Q (.int (i ^ j.toNat)) H) : rPow (.int i) (.int j) H Q := ⟨h, q⟩
theorem l_cmp {gg : Int → Int → Bool} {i j : Int} (q : Q (.bl (gg i j)) H) : rCmp gg (.int i) (.int j) H Q := q
theorem l_eqI {i j : Int} (q : Q (.bl (decide (i = j))) H) : rEqA K (.int i) (.int j) H Q := .inl ⟨rfl, by rw [show decide (V.int i = V.int j) = decide (i = j) by simp]; exact q⟩
theorem l_eqS {i j : Str} (q : Q (.bl (decide (i = j))) H) : rEqA K (.str i) (.str j) H Q := .inl ⟨rfl, by rw [show decide (V.str i = V.str j) = decide (i = j) by simp]; exact q⟩
theorem l_eqB {i j : Bool} (q : Q (.bl (decide (i = j))) H) : rEqA K (.bl i) (.bl j) H Q := .inl ⟨rfl, by rw [show decide (V.bl i = V.bl j) = decide (i = j) by simp]; exact q⟩
theorem l_neI {i j : Int} (q : Q (.bl (!decide (i = j))) H) : rNeA K (.int i) (.int j) H Q := .inl ⟨rfl, by rw [show decide (V.int i = V.int j) = decide (i = j) by simp]; exact q⟩
theorem l_neS {i j : Str} (q : Q (.bl (!decide (i = j))) H) : rNeA K (.str i) (.str j) H Q := .inl ⟨rfl, by rw [show decide (V.str i = V.str j) = decide (i = j) by simp]; exact q⟩
theorem l_neB {i j : Bool} (q : Q (.bl (!decide (i = j))) H) : rNeA K (.bl i) (.bl j) H Q := .inl ⟨rfl, by rw [show decide (V.bl i = V.bl j) = decide (i = j) by simp]; exact q⟩
theorem l_neSelf {x : V} (h : scal x x = true) (q : Q (.bl false) H) : rNeA K x x H Q := .inl ⟨h, by rw [decide_eq_true rfl]; exact q⟩
theorem l_eqSelf {x : V} (h : scal x x = true) (q : Q (.bl true) H) : rEqA K x x H Q := .inl ⟨h, by rw [decide_eq_true rfl]; exact q⟩
theorem l_isN {x : V} (q : Q (.bl (decide (x = .non))) H) : rIsA x .non H Q := .inl ⟨rfl, q⟩
theorem l_isNotN {x : V} (q : Q (.bl (!decide (x = .non))) H) : rIsNotA x .non H Q := .inl ⟨rfl, q⟩
theorem l_isB {x y : Bool} (q : Q (.bl (decide (x = y))) H) : rIsA (.bl x) (.bl y) H Q := .inr ⟨x, y, rfl, rfl, q⟩
theorem l_isNotB {x y : Bool} (q : Q (.bl (!decide (x = y))) H) : rIsNotA (.bl x) (.bl y) H Q := .inr ⟨x, y, rfl, rfl, q⟩
theorem l_intI {i : Int} (q : Q (.int i) H) : rIntA [.int i] H Q := q
theorem l_intB {k : Bool} (q : Q (.int (if k then 1 else 0)) H) : rIntA [.bl k] H Q := q
theorem l_intS {a : Str} {n : Int} (h : PySem.intText? a = some n) (h2 : a.length ≤ 640) (q : Q (.int n) H) : rIntA [.str a] H Q := ⟨n, h, h2, q⟩
theorem l_strI {i : Int} (h : i.natAbs.log2 < 1920) (q : Q (.str (toString i)) H) : rStrA [.int i] H Q := ⟨h, q⟩
theorem l_lenS {y : Str} (h : y.length ≤ sizeLine) (q : Q (.int y.length) H) : rLen K [.str y] H Q := ⟨h, q⟩
theorem l_lenL {p : Addr} {xs : List V} (h : H p = some (.lst xs)) (q : Q (.int xs.length) H) : rLen K [.ref p] H Q := ⟨xs, .inl (SqL.of h), q⟩
theorem l_lenT {p : Addr} {xs : List V} (h : H p = some (.tup xs)) (q : Q (.int xs.length) H) : rLen K [.ref p] H Q := ⟨xs, .inr (SqT.of h), q⟩
theorem l_ixL {p : Addr} {xs : List V} {i : Int} {x : V} (h : H p = some (.lst xs)) (e : atI xs i = some x) (q : Q x H) : rIxA K (.ref p) (.int i) H Q := ⟨xs, x, .inl (SqL.of h), e, q⟩
theorem l_ixT {p : Addr} {xs : List V} {i : Int} {x : V} (h : H p = some (.tup xs)) (e : atI xs i = some x) (q : Q x H) : rIxA K (.ref p) (.int i) H Q := ⟨xs, x, .inr (SqT.of h), e, q⟩
theorem l_ixS {z : Str} {i : Int} {c : Nat} (h : z.length ≤ sizeLine) (e : atI z.cps.toList i = some c) (q : Q (.str ⟨#[c]⟩) H) : rIxA K (.str z) (.int i) H Q := ⟨h, c, e, q⟩
theorem l_slS {z : Str} {lo hi : Option Int} (h : z.length ≤ sizeLine) (q : Q (.str (cutS z lo hi)) H) : rSlG K (.str z) lo hi H Q := ⟨h, q⟩
theorem l_slL {a : Addr} {xs : List V} {lo hi : Option Int} (h : SqL K H a xs) (q : ∀ p, H p = none → Q (.ref p) (upd H p (.lst (cutV xs lo hi)))) : rSlG K (.ref a) lo hi H Q := .inl ⟨a, xs, rfl, h, q⟩
theorem l_setL {p : Addr} {xs : List V} {k : Int} {j : Nat} {x : V} {R : Hp → Prop} (h : H p = some (.lst xs)) (e : ixN xs.length k = some j) (q : R (upd H p (.lst (xs.set j x)))) : rSetL (.ref p) (.int k) x H R := ⟨p, xs, k, j, rfl, rfl, h, e, q⟩
theorem l_isi {x : V} {n : String} {tv : Value} {b : Bool} (ty : TyX K H x tv) (e : PySem.W.kitOne K tv (.type n) = some b) (q : Q (.bl b) H) : rIsiA K [x, .ty n] H Q := .inl ⟨x, .ty n, tv, .type n, b, rfl, .ty n, ty, e, q⟩
end
/-! isinstance of the plain kinds -/
theorem kt_NoneType_str {K : PySem.W.Frag} : PySem.W.kitOne K (.type "NoneType") (.type "str") = some false := kit_ty (by decide +kernel)
theorem kt_NoneType_int {K : PySem.W.Frag} : PySem.W.kitOne K (.type "NoneType") (.type "int") = some false := kit_ty (by decide +kernel)
theorem kt_NoneType_bool {K : PySem.W.Frag} : PySem.W.kitOne K (.type "NoneType") (.type "bool") = some false := kit_ty (by decide +kernel)
theorem kt_NoneType_tuple {K : PySem.W.Frag} : PySem.W.kitOne K (.type "NoneType") (.type "tuple") = some false := kit_ty (by decide +kernel)
theorem kt_NoneType_list {K : PySem.W.Frag} : PySem.W.kitOne K (.type "NoneType") (.type "list") = some false := kit_ty (by decide +kernel)
theorem kt_NoneType_dict {K : PySem.W.Frag} : PySem.W.kitOne K (.type "NoneType") (.type "dict") = some false := kit_ty (by decide +kernel)
theorem kt_bool_str {K : PySem.W.Frag} : PySem.W.kitOne K (.type "bool") (.type "str") = some false := kit_ty (by decide +kernel)
theorem kt_bool_int {K : PySem.W.Frag} : PySem.W.kitOne K (.type "bool") (.type "int") = some true := kit_ty (by decide +kernel)
theorem kt_bool_bool {K : PySem.W.Frag} : PySem.W.kitOne K (.type "bool") (.type "bool") = some true := kit_ty (by decide +kernel)
theorem kt_bool_tuple {K : PySem.W.Frag} : PySem.W.kitOne K (.type "bool") (.type "tuple") = some false := kit_ty (by decide +kernel)
theorem kt_bool_list {K : PySem.W.Frag} : PySem.W.kitOne K (.type "bool") (.type "list") = some false := kit_ty (by decide +kernel)
theorem kt_bool_dict {K : PySem.W.Frag} : PySem.W.kitOne K (.type "bool") (.type "dict") = some false := kit_ty (by decide +kernel)
theorem kt_int_str {K : PySem.W.Frag} : PySem.W.kitOne K (.type "int") (.type "str") = some false := kit_ty (by decide +kernel)
theorem kt_int_int {K : PySem.W.Frag} : PySem.W.kitOne K (.type "int") (.type "int") = some true := kit_ty (by decide +kernel)
theorem kt_int_bool {K : PySem.W.Frag} : PySem.W.kitOne K (.type "int") (.type "bool") = some false := kit_ty (by decide +kernel)
theorem kt_int_tuple {K : PySem.W.Frag} : PySem.W.kitOne K (.type "int") (.type "tuple") = some false := kit_ty (by decide +kernel)
theorem kt_int_list {K : PySem.W.Frag} : PySem.W.kitOne K (.type "int") (.type "list") = some false := kit_ty (by decide +kernel)
theorem kt_int_dict {K : PySem.W.Frag} : PySem.W.kitOne K (.type "int") (.type "dict") = some false := kit_ty (by decide +kernel)
theorem kt_str_str {K : PySem.W.Frag} : PySem.W.kitOne K (.type "str") (.type "str") = some true := kit_ty (by decide +kernel)
theorem kt_str_int {K : PySem.W.Frag} : PySem.W.kitOne K (.type "str") (.type "int") = some false := kit_ty (by decide +kernel)
theorem kt_str_bool {K : PySem.W.Frag} : PySem.W.kitOne K (.type "str") (.type "bool") = some false := kit_ty (by decide +kernel)
theorem kt_str_tuple {K : PySem.W.Frag} : PySem.W.kitOne K (.type "str") (.type "tuple") = some false := kit_ty (by decide +kernel)
theorem kt_str_list {K : PySem.W.Frag} : PySem.W.kitOne K (.type "str") (.type "list") = some false := kit_ty (by decide +kernel)
theorem kt_str_dict {K : PySem.W.Frag} : PySem.W.kitOne K (.type "str") (.type "dict") = some false := kit_ty (by decide +kernel)
theorem kt_list_str {K : PySem.W.Frag} : PySem.W.kitOne K (.type "list") (.type "str") = some false := kit_ty (by decide +kernel)
theorem kt_list_int {K : PySem.W.Frag} : PySem.W.kitOne K (.type "list") (.type "int") = some false := kit_ty (by decide +kernel)
theorem kt_list_bool {K : PySem.W.Frag} : PySem.W.kitOne K (.type "list") (.type "bool") = some false := kit_ty (by decide +kernel)
theorem kt_list_tuple {K : PySem.W.Frag} : PySem.W.kitOne K (.type "list") (.type "tuple") = some false := kit_ty (by decide +kernel)
theorem kt_list_list {K : PySem.W.Frag} : PySem.W.kitOne K (.type "list") (.type "list") = some true := kit_ty (by decide +kernel)
theorem kt_list_dict {K : PySem.W.Frag} : PySem.W.kitOne K (.type "list") (.type "dict") = some false := kit_ty (by decide +kernel)
theorem kt_tuple_str {K : PySem.W.Frag} : PySem.W.kitOne K (.type "tuple") (.type "str") = some false := kit_ty (by decide +kernel)
theorem kt_tuple_int {K : PySem.W.Frag} : PySem.W.kitOne K (.type "tuple") (.type "int") = some false := kit_ty (by decide +kernel)
theorem kt_tuple_bool {K : PySem.W.Frag} : PySem.W.kitOne K (.type "tuple") (.type "bool") = some false := kit_ty (by decide +kernel)
theorem kt_tuple_tuple {K : PySem.W.Frag} : PySem.W.kitOne K (.type "tuple") (.type "tuple") = some true := kit_ty (by decide +kernel)
theorem kt_tuple_list {K : PySem.W.Frag} : PySem.W.kitOne K (.type "tuple") (.type "list") = some false := kit_ty (by decide +kernel)
theorem kt_tuple_dict {K : PySem.W.Frag} : PySem.W.kitOne K (.type "tuple") (.type "dict") = some false := kit_ty (by decide +kernel)
theorem kt_dict_str {K : PySem.W.Frag} : PySem.W.kitOne K (.type "dict") (.type "str") = some false := kit_ty (by decide +kernel)
theorem kt_dict_int {K : PySem.W.Frag} : PySem.W.kitOne K (.type "dict") (.type "int") = some false := kit_ty (by decide +kernel)
theorem kt_dict_bool {K : PySem.W.Frag} : PySem.W.kitOne K (.type "dict") (.type "bool") = some false := kit_ty (by decide +kernel)
theorem kt_dict_tuple {K : PySem.W.Frag} : PySem.W.kitOne K (.type "dict") (.type "tuple") = some false := kit_ty (by decide +kernel)
theorem kt_dict_list {K : PySem.W.Frag} : PySem.W.kitOne K (.type "dict") (.type "list") = some false := kit_ty (by decide +kernel)
theorem kt_dict_dict {K : PySem.W.Frag} : PySem.W.kitOne K (.type "dict") (.type "dict") = some true := kit_ty (by decide +kernel)
/-- all that was known stands -/
def Ex (H H' : Hp) : Prop := ∀ a o, H a = some o → H' a = some o
theorem Ex.refl (H : Hp) : Ex H H := fun _ _ h => h
theorem Ex.trans {H H1 H2 : Hp} (a : Ex H H1) (b : Ex H1 H2) : Ex H H2 := fun x o h => b x o (a x o h)
theorem Ex.new {H : Hp} {p : Addr} {o : HO} (h : H p = none) : Ex H (upd H p o) := fun a u e => by
  rw [upd_ne (ne_of_none e h)]
  exact e
theorem Ex.mut {H H' : Hp} {p : Addr} {o : HO} (e : Ex H H') (h : H p = none) : Ex H (upd H' p o) := fun a u ha => by
  rw [upd_ne (ne_of_none ha h)]
  exact e a u ha
theorem Ex.free {H H' : Hp} (e : Ex H H') {l : Addr} (h : H' l = Option.none) : H l = Option.none := by
  cases q : H l with
  | none => rfl
  | some o =>
    rw [e l o q] at h
    cases h
/-- all but the object at st stands -/
def But (st : Addr) (H H' : Hp) : Prop := ∀ a o, a ≠ st → H a = some o → H' a = some o
theorem But.refl {st : Addr} (H : Hp) : But st H H := fun _ _ _ h => h
theorem But.trans {st : Addr} {H H1 H2 : Hp} (a : But st H H1) (b : But st H1 H2) : But st H H2 := fun x o n h => b x o n (a x o n h)
theorem Ex.but {st : Addr} {H H' : Hp} (e : Ex H H') : But st H H' := fun a o _ h => e a o h
theorem But.mut {st : Addr} {H H' : Hp} {o : HO} (e : But st H H') : But st H (upd H' st o) := fun a u n h => by
  rw [upd_ne n]
  exact e a u n h
/-! ### data -/
theorem rd_mono {H H' : Hp} {a : Addr} {u : HO} (e : Ex H H') (h : Rd H a u) : Rd H' a u := by
  rcases h with h | ⟨o, h⟩
  · exact Or.inl (e a _ h)
  · exact Or.inr ⟨o, e a _ h⟩
theorem sqL_mono {K : PySem.W.Frag} {H H' : Hp} {a : Addr} {xs : List V} (e : Ex H H') (h : SqL K H a xs) : SqL K H' a xs := by
  rcases h with h | h
  · exact Or.inl (rd_mono e h)
  · exact Or.inr h
theorem sqT_mono {K : PySem.W.Frag} {H H' : Hp} {a : Addr} {xs : List V} (e : Ex H H') (h : SqT K H a xs) : SqT K H' a xs := by
  rcases h with h | h
  · exact Or.inl (rd_mono e h)
  · exact Or.inr h
mutual
theorem dp_mono {K : PySem.W.Frag} {H H' : Hp} (e : Ex H H') : ∀ (d : PyData) (v : V), Dp K H v d → Dp K H' v d
  | .none, _, .non => .non
  | .bool _, _, .bl b => .bl b
  | .int _, _, .int b => .int b
  | .str _, _, .str b => .str b
  | .list ds, _, .lst h1 h2 => .lst (sqL_mono e h1) (dpAll_mono e ds _ h2)
  | .tuple ds, _, .tup h1 h2 => .tup (sqT_mono e h1) (dpAll_mono e ds _ h2)
theorem dpAll_mono {K : PySem.W.Frag} {H H' : Hp} (e : Ex H H') : ∀ (ds : List PyData) (vs : List V), DpAll K H vs ds → DpAll K H' vs ds
  | [], _, .nil => .nil
  | d :: ds, _, .cons h1 h2 => .cons (dp_mono e d _ h1) (dpAll_mono e ds _ h2)
end
theorem dp_ints {K : PySem.W.Frag} {H : Hp} : ∀ ns : List Int, DpAll K H (ns.map V.int) (ns.map PyData.int)
  | [] => .nil
  | n :: ns => .cons (.int n) (dp_ints ns)
theorem lay_ints : ∀ ns : List Int, PyData.canLayAll0 (ns.map PyData.int) = true
  | [] => by simp [PyData.canLayAll0]
  | n :: ns => by
    rw [List.map_cons, PyData.canLayAll0, lay_ints ns]
    simp [PyData.canLay0]
theorem depth_ints : ∀ ns : List Int, PyData.depthAll (ns.map PyData.int) ≤ 1
  | [] => by simp [PyData.depthAll]
  | n :: ns => by
    have := depth_ints ns
    rw [List.map_cons, PyData.depthAll]
    simp [PyData.depth]
    exact this
theorem sh_ints (ns : List Int) : SeqAt.shaped (.list (ns.map PyData.int)) = true := by
  unfold SeqAt.shaped
  have h := depth_ints ns
  rw [PyData.canLay0, lay_ints ns, PyData.depth]
  simp
  omega
theorem at_ints {ns : List Int} {i : Int} (h0 : 0 ≤ i) (h1 : i < (ns.length : Int)) : ∃ z, atI (ns.map V.int) i = some (.int z) := by
  obtain ⟨j, rfl⟩ := Int.eq_ofNat_of_zero_le h0
  have hj : j < ns.length := by omega
  exact ⟨ns[j], atI_nat (by rw [List.getElem?_map, List.getElem?_eq_getElem hj]; rfl)⟩
theorem l_neNil {K : PySem.W.Frag} {H : Hp} {Q : VK} {p q : Addr} {ns : List Int} (hp : H p = some (.lst (ns.map V.int))) (hq : H q = some (.lst [])) (k : Q (.bl (!decide (ns = []))) H) : rNeA K (.ref p) (.ref q) H Q := by
  refine .inr ⟨.list (ns.map .int), .list [], .lst (SqL.of hp) (dp_ints ns), .lst (SqL.of hq) .nil, sh_ints ns, sh_ints [], ?_⟩
  have e : PyData.eqv (.list (ns.map .int)) (.list []) = decide (ns = []) := by
    cases ns <;> simp [PyData.eqv, PyData.eqvAll]
  rw [e]
  exact k
/-! ### the law's own draws -/
structure Dr (H : Hp) (st : Addr) (b : Nat) : Prop where
  ex : ∃ (L : Addr) (ns : List Int) (a c : Int), H st = some (.lst [.ref L, .int a, .int c]) ∧ H L = some (.lst (ns.map V.int)) ∧ st ≠ L ∧ 0 ≤ c ∧ c ≤ (b : Int)
theorem Dr.mono {H H' : Hp} {st : Addr} {b b' : Nat} (d : Dr H st b) (e : Ex H H') (h : b ≤ b') : Dr H' st b' := by
  obtain ⟨L, ns, a, c, h1, h2, h3, h4, h5⟩ := d.ex
  exact ⟨L, ns, a, c, e _ _ h1, e _ _ h2, h3, h4, by omega⟩
theorem Dr.up {H : Hp} {st : Addr} {b b' : Nat} (d : Dr H st b) (h : b ≤ b') : Dr H st b' := d.mono (Ex.refl H) h
/-- _law_open(script) -/
def spOpen (K : PySem.W.Frag) : Sp := fun vs H Q _ => ∃ (a : Addr) (ns : List Int), vs = [.ref a] ∧ SqL K H a (ns.map V.int) ∧ ns.length ≤ 63 ∧ ∀ (st : Addr) (H' : Hp), H st = none → Dr H' st 0 → Ex H H' → Q (.ref st) H'
/-- _law_draw(state, many): any number below many -/
def spDraw : Sp := fun vs H Q _ => ∃ (st : Addr) (n : Int) (b : Nat), vs = [.ref st, .int n] ∧ 0 < n ∧ n ≤ 10 ^ 18 ∧ Dr H st b ∧ b < 2 ^ 60 ∧
  ∀ (r : Int) (H' : Hp), 0 ≤ r → r < n → Dr H' st (b + 1) → But st H H' → Q (.int r) H'
theorem draw {st : Addr} {n : Int} {b : Nat} {H : Hp} {Q : VK} {E : XK} (hd : Dr H st b) (hn : 0 < n) (hn2 : n ≤ 10 ^ 18) (hb : b < 2 ^ 60) (q : ∀ r H', 0 ≤ r → r < n → Dr H' st (b + 1) → But st H H' → Q (.int r) H') : spDraw ([.ref st, .int n] ++ []) H Q E :=
  ⟨st, n, b, rfl, hn, hn2, hd, hb, q⟩
theorem Dr.ne {H : Hp} {st p : Addr} {b : Nat} (d : Dr H st b) (h : H p = none) : p ≠ st := by
  obtain ⟨L, ns, a, c, h1, _⟩ := d.ex
  exact (ne_of_none h1 h).symm
theorem at_str {z : Str} {i : Int} (h0 : 0 ≤ i) (h1 : i < (z.length : Int)) : ∃ c, c ∈ z.cps.toList ∧ atI z.cps.toList i = some c := by
  obtain ⟨j, rfl⟩ := Int.eq_ofNat_of_zero_le h0
  have hj : j < z.cps.toList.length := by
    rw [Array.length_toList]
    show j < z.length
    omega
  exact ⟨z.cps.toList[j], List.getElem_mem hj, atI_nat (List.getElem?_eq_getElem hj)⟩
theorem at_map {α : Type} {f : α → V} {xs : List α} {i : Int} (h0 : 0 ≤ i) (h1 : i < (xs.length : Int)) : ∃ z, z ∈ xs ∧ atI (xs.map f) i = some (f z) := by
  obtain ⟨j, rfl⟩ := Int.eq_ofNat_of_zero_le h0
  have hj : j < xs.length := by omega
  exact ⟨xs[j], List.getElem_mem hj, atI_nat (by rw [List.getElem?_map, List.getElem?_eq_getElem hj]; rfl)⟩
theorem at_list {xs : List V} {i : Int} (h0 : 0 ≤ i) (h1 : i < (xs.length : Int)) : ∃ z, z ∈ xs ∧ atI xs i = some z := by
  obtain ⟨z, h, e⟩ := at_map (f := id) h0 h1
  rw [List.map_id] at e
  exact ⟨z, h, e⟩
theorem cutV_map {α : Type} (f : α → V) (xs : List α) (lo hi : Option Int) : cutV (xs.map f) lo hi = ((xs.drop (HT.sIx xs.length 0 lo)).take (HT.sIx xs.length xs.length hi - HT.sIx xs.length 0 lo)).map f := by
  unfold cutV
  rw [List.length_map, ← List.map_drop, ← List.map_take]
theorem map_at {α : Type} {f : α → V} {xs : List α} {i : Nat} {x : V} (h : (xs.map f)[i]? = some x) : ∃ z, xs[i]? = some z ∧ x = f z := by
  rw [List.getElem?_map] at h
  cases e : xs[i]? with
  | none =>
    rw [e] at h
    cases h
  | some z =>
    rw [e] at h
    exact ⟨z, rfl, (Option.some.inj h).symm⟩
theorem take_succ {α : Type} {xs : List α} {i : Nat} {z : α} (h : xs[i]? = some z) : xs.take (i + 1) = xs.take i ++ [z] := by
  rw [List.take_add_one, h]
  rfl
end G
set_option Elab.async false
set_option linter.all false
set_option maxRecDepth 100000
namespace G
open PySem PySem.Spec PyProof.Rows L2
/-! ### defs that may raise, and defs that ask that nothing is being shown (repr) around them -/
/-- a def's promise; g: it is called only where no repr is under way -/
structure Fg (P : Program) (w : World) (K : PySem.W.Frag) (mg : Str → Option Value) (base : Heap) (g : Bool) (k : Nat) (f : Addr) (fd : FuncData) (ps : List Str) (sp : Sp) : Prop where
  len : ∀ vs H Q E, sp vs H Q E → vs.length = ps.length
  go : ∀ (A : Around) (outer : List Env) (s : Shared) (H : Hp) (args : Args) (us : List Value) (vs : List V) (Q : VK) (E : XK), Room k A → (g = true → A.guards = some []) → Env0 P w K mg base A outer s H → BindsTo s fd args (ps.zip us) → Vals vs us →
    sp vs H Q E → codeAny (model P w) A (.call (.ref f) args) (CR (L2.CX P w) outer P w H s Q E) s
section
variable {P : Program} {w : World} {K : PySem.W.Frag} {mg : Str → Option Value} {base : Heap} {g : Bool} {k j : Nat} {f : Addr} {fd : FuncData} {ps : List Str} {sp : Sp}
theorem Fg.of (F : FnOk P w K mg base (L2.CX P w) k f fd ps sp) : Fg P w K mg base g k f fd ps sp := ⟨F.len, fun A outer s H args us vs Q E hr _ => F.run A outer s H args us vs Q E hr⟩
theorem cr_of0 {outer : List Env} {H : Hp} {s : Shared} {Q : VK} {E : XK} {r : Result} {s' : Shared} (h : CR CX0 outer P w H s Q E r s') : CR (L2.CX P w) outer P w H s Q E r s' := by
  cases r with
  | error e => exact (show False from h).elim
  | ok fl => cases fl <;> exact h
theorem Fg.of0 (F : FnOk P w K mg base CX0 k f fd ps sp) : Fg P w K mg base g k f fd ps sp :=
  ⟨F.len, fun A outer s H args us vs Q E hr _ e0 hb r h => codeAny_mono (F.run A outer s H args us vs Q E hr e0 hb r h) fun _ _ z => cr_of0 z⟩
theorem Fg.mono (F : Fg P w K mg base g j f fd ps sp) (h : j ≤ k) : Fg P w K mg base g k f fd ps sp := ⟨F.len, fun A outer s H args us vs Q E hr => F.go A outer s H args us vs Q E (hr.mono h)⟩
end
/-- the rule for a def's body -/
theorem fg_of {P : Program} {w : World} {K : PySem.W.Frag} {mg : Str → Option Value} {base : Heap} {g : Bool} {x qual : Str} {st : Stmt} {f : Addr} {fd : FuncData} {N ps : List Str} {k : Nat} {sp : Sp} (F : Fun K x qual st f fd) (S : FnScope N ps (defScope st))
    (len : ∀ vs H Q E, sp vs H Q E → vs.length = ps.length)
    (hbody : ∀ (cdv : Value) (A : Around) (outer : List Env) (s : Shared) (H : Hp) (vs : List V) (Q : VK) (E : XK), Room k (A.deeper (envOfC qual (defScope st) s.heap.objs.size f cdv)) →
      (g = true → (A.deeper (envOfC qual (defScope st) s.heap.objs.size f cdv)).guards = some []) → sp vs H Q E →
      ∃ t, PSs (cxOf (L2.CX P w) P w K mg base N qual (defScope st) f cdv A outer s H E) (defBody st) t ∧ t { nx := fun _ H' => Q .non H', rt := Q } (start N vs) H) : Fg P w K mg base g (k + 1) f fd ps sp := by
  obtain ⟨oc, od, kV, doc, pm, an, cdv, ct, osl, rfl, lk, hcd⟩ := F.ex
  refine ⟨len, fun A outer s H args us vs Q E hr hg e0 hb r hsp => ?_⟩
  have bk : ∀ b o, base.get? b = some o → s.heap.get? b = some o := fun b o e => (e0.bs b o e).1
  have kx := e0.mod.kin.keeps bk
  have kinds : ∀ y ∈ ps.zip us, (defScope st).names.lookup y.1 = some .local ∨ ((defScope st).names.lookup y.1 = some .cell ∧ ((cellsFrom (s.heap.objs.size + 1) (defScope st).names []).lookup y.1).isSome = true) := by
    rintro ⟨n, v⟩ hy
    have hn := S.par n (List.of_mem_zip hy).1
    exact hn.imp id fun z => ⟨z, PySem.W.cellsFrom_some _ _ _ (.inl z)⟩
  refine codeAny_call_function hr.depth (kx _ _ lk) rfl S.co S.gen rfl (PySem.W.codeRec_of kx hcd) (hb _ _ _ _ (wpAny_newFunctionEnv_cells S.kind kinds fun env he s1 z => ?_))
  subst he
  refine ⟨(e0.mod.nolimit.keeps bk).keeps z.toInCall.keep, codeAny_func ?_⟩
  obtain ⟨t, ht, hq⟩ := hbody cdv A outer s H vs Q E (hr.deeper _) (fun e => hg e) hsp
  have I : Inv (cxOf (L2.CX P w) P w K mg base N qual (defScope st) f cdv A outer s H E) [] (start N vs) H s1 := inv_start S hr.hd e0 (len _ _ _ _ hsp) r z
  refine wpAny_mono (ht.run [] s1 _ H _ I hq) (fun fl s' hs => ?_) fun e s' hs => hs
  have fin : ∀ {σ' : L2.St} {H' : Hp} {v : V} {u : Value}, Inv (cxOf (L2.CX P w) P w K mg base N qual (defScope st) f cdv A outer s H E) [] σ' H' s' → RelV v u → Q v H' → CE outer P w H s Q u s' :=
    fun {σ' H' v u} J rv q => ⟨v, H', J.os, J.bare, J.base, J.hok, rv, q⟩
  cases fl with
  | ret u => exact let ⟨v, σ', H', J, rv, q⟩ := hs; fin J rv q
  | next => exact let ⟨σ', H', J, q⟩ := hs; fin (v := V.non) (u := Value.none) J rfl q
  | brk => exact let ⟨_, _, _, q⟩ := hs; q.elim
  | cont => exact let ⟨_, _, _, q⟩ := hs; q.elim
/-! ### calls, with a wish for what is raised at the slots as they stand -/
section
variable {X : Cx} {g : Bool} {k : Nat} {f C : Addr} {fd : FuncData} {ps : List Str} {sp : Sp} {ds : List Value} {dvs : List V} {E : L2.St → XK} {pins : List (Addr × Obj)} {σ : L2.St} {H : Hp} {s : Shared} {Q : VK}
/-- a call from around A1 (the caller's, or one room deeper) -/
theorem run_at {A1 : Around} {us : List Value} {vs : List V} (F : Fg X.prog X.w X.K X.mg X.base g k f fd ps sp) (hr : Room k A1) (hg : g = true → A1.guards = some []) (hf : A1.frames = X.A.frames) (hb : Binds X.K fd ps ds) (hd : Vals dvs ds)
    (hx : PassesAt (L2.CX X.prog X.w) X σ (E σ)) (I : Inv X pins σ H s) (r : Vals vs us) (h : sp (vs ++ dvs) H Q (E σ)) : wpAny (model X.prog X.w) A1 (call (.ref f) us) (EP X pins σ Q) X.xe s := by
  have e := I.env0
  have e0 : Env0 X.prog X.w X.K X.mg X.base A1 X.stack s H := ⟨by rw [hf]; exact e.frames, e.mod, e.bs, e.bsz, e.funs, e.frf, e.hok, e.bare⟩
  have r2 := Vals.append r hd
  have hl : (us ++ ds).length = ps.length := by rw [← r2.length]; exact F.len _ _ _ _ h
  refine wpAny_call (codeAny_mono (F.go A1 X.stack s H ⟨us, []⟩ _ _ Q (E σ) hr hg e0 (hb s us I.kIn hl) r2 h) fun r s' hq => ?_)
  cases r with
  | error e => exact hx pins H s e s' I hq
  | ok fl =>
    cases fl with
    | ret u => exact I.after hq
    | next => exact False.elim hq
    | brk => exact False.elim hq
    | cont => exact False.elim hq
/-- a new instance, then its __init__ (n + 1 values by place, keywords ks) -/
theorem make_at {n : Nat} {ks : List Str} {gg : List Value → List Value → List Value} {gV : List V → List V → List V} {us ws : List Value} {vs zs : List V} (M : Mk X.K C f) (F : Fg X.prog X.w X.K X.mg X.base false k f fd ps sp) (hr : Room (k + 1) X.A)
    (hb : KBn X.K fd ps (n + 1) ks gg gV) (hx : PassesAt (L2.CX X.prog X.w) X σ (E σ)) (I : Inv X pins σ H s) (r : Vals vs us) (rz : Vals zs ws) (l1 : vs.length = n) (l2 : zs.length = ks.length)
    (h : ∀ x dx, H x = none → H dx = none → dx ≠ x → sp (gV (.ref x :: vs) zs) (upd (upd H dx (.own x)) x (.ins C dx [])) (fun v H2 => v = .non ∧ Q (.ref x) H2) (E σ)) :
    wpAny (model X.prog X.w) X.A (call (.ref C) us (ks.zip ws)) (EP X pins σ Q) X.xe s := by
  have I2 := Inv.made (C := C) I
  have hq := h (s.heap.objs.size + 1) s.heap.objs.size (I.hok.fresh (Nat.le_succ _)) (I.hok.fresh (Nat.le_refl _)) (Nat.ne_of_lt (Nat.lt_succ_self _))
  have r1 : Vals (V.ref (s.heap.objs.size + 1) :: vs) (Value.ref (s.heap.objs.size + 1) :: us) := .cons rfl r
  have n1 : (Value.ref (s.heap.objs.size + 1) :: us).length = n + 1 := r1.length.symm.trans (congrArg (· + 1) l1)
  refine wpAny_call (make_map (f := f) I.kIn M.makes M.init (beq_iff_eq.mp M.fn) (codeAny_mono (F.go _ X.stack _ _ ⟨Value.ref (s.heap.objs.size + 1) :: us, ks.zip ws⟩ _ _ _ (E σ) (hr.make C us (ks.zip ws))
    (fun e => nomatch e) (I2.env0.make C us (ks.zip ws)) (hb.to _ _ ws I2.kIn n1 (rz.length.symm.trans l2)) (hb.rel r1 rz) hq) fun r s' hq' => ?_))
  cases r with
  | error e => exact hx pins _ _ e s' I2 hq'
  | ok fl =>
    cases fl with
    | ret u =>
      obtain ⟨v, H', I3, rv, ev, q3⟩ := I2.after hq'
      subst ev
      exact ⟨rv, ⟨V.ref (s.heap.objs.size + 1), H', I3, rfl, q3⟩⟩
    | next => exact False.elim hq'
    | brk => exact False.elim hq'
    | cont => exact False.elim hq'
/-- a def called with n values by place and keywords ks -/
theorem call_at {n : Nat} {ks : List Str} {gg : List Value → List Value → List Value} {gV : List V → List V → List V} {A1 : Around} {us ws : List Value} {vs zs : List V} (F : Fg X.prog X.w X.K X.mg X.base g k f fd ps sp) (hr : Room k A1) (hg : g = true → A1.guards = some [])
    (hf : A1.frames = X.A.frames) (hb : KBn X.K fd ps n ks gg gV) (hx : PassesAt (L2.CX X.prog X.w) X σ (E σ)) (I : Inv X pins σ H s) (r : Vals vs us) (rz : Vals zs ws) (l1 : vs.length = n) (l2 : zs.length = ks.length)
    (h : sp (gV vs zs) H Q (E σ)) : wpAny (model X.prog X.w) A1 (call (.ref f) us (ks.zip ws)) (EP X pins σ Q) X.xe s := by
  have e := I.env0
  have e0 : Env0 X.prog X.w X.K X.mg X.base A1 X.stack s H := ⟨by rw [hf]; exact e.frames, e.mod, e.bs, e.bsz, e.funs, e.frf, e.hok, e.bare⟩
  refine wpAny_call (codeAny_mono (F.go A1 X.stack s H ⟨us, ks.zip ws⟩ _ _ Q (E σ) hr hg e0 (hb.to s us ws I.kIn (r.length.symm.trans l1) (rz.length.symm.trans l2)) (hb.rel r rz) h) fun r s' hq => ?_)
  cases r with
  | error e => exact hx pins H s e s' I hq
  | ok fl =>
    cases fl with
    | ret u => exact I.after hq
    | next => exact False.elim hq
    | brk => exact False.elim hq
    | cont => exact False.elim hq
end
/-! ### defs, classes, methods by their names -/
structure CalG (P : Program) (w : World) (K : PySem.W.Frag) (mg : Str → Option Value) (base : Heap) (g : Bool) (k : Nat) (x : Str) (sp : Sp) (n : Nat) (ks : List Str) (gV : List V → List V → List V) : Prop where
  ex : ∃ (f : Addr) (fd : FuncData) (ps : List Str) (gg : List Value → List Value → List Value), Fg P w K mg base g k f fd ps sp ∧ mg x = some (.ref f) ∧ PySem.W.keepIn K (.ref f) = true ∧ KBn K fd ps n ks gg gV
structure MakG (P : Program) (w : World) (K : PySem.W.Frag) (mg : Str → Option Value) (base : Heap) (k : Nat) (x : Str) (C : Addr) (sp : Sp) (n : Nat) (ks : List Str) (gV : List V → List V → List V) : Prop where
  ex : ∃ (f : Addr) (fd : FuncData) (ps : List Str) (gg : List Value → List Value → List Value), Mk K C f ∧ Fg P w K mg base false k f fd ps sp ∧ mg x = some (.ref C) ∧ KBn K fd ps (n + 1) ks gg gV
structure MetG (P : Program) (w : World) (K : PySem.W.Frag) (mg : Str → Option Value) (base : Heap) (g : Bool) (k : Nat) (C : Addr) (m : Str) (sp : Sp) (ps : List Str) : Prop where
  ex : ∃ (f : Addr) (fd : FuncData), Cls K C ∧ Meth K C m f ∧ PySem.W.fnIn K f = true ∧ Fg P w K mg base g k f fd ps sp ∧ Binds K fd ps []
def tCS (n m : Nat) (sp : Sp) (gV : List V → List V → List V) (E : L2.St → XK) (t tk : TA) : TE := fun σ H Q => t σ H fun vs H1 => tk σ H1 fun zs H2 => vs.length = n ∧ zs.length = m ∧ sp (gV vs zs) H2 Q (E σ)
def tMkS (C : Addr) (n m : Nat) (sp : Sp) (gV : List V → List V → List V) (E : L2.St → XK) (t tk : TA) : TE := fun σ H Q => t σ H fun vs H1 => tk σ H1 fun zs H2 => vs.length = n ∧ zs.length = m ∧ ∀ x dx, H2 x = none → H2 dx = none → dx ≠ x →
  sp (gV (.ref x :: vs) zs) (upd (upd H2 dx (.own x)) x (.ins C dx [])) (fun v H3 => v = .non ∧ Q (.ref x) H3) (E σ)
def tMtS (C : Addr) (m : Str) (sp : Sp) (E : L2.St → XK) (ta : TE) (t : TA) : TE := fun σ H Q => ta σ H fun x H1 => ∃ a dx fs, x = .ref a ∧ H1 a = some (.ins C dx fs) ∧ fs.lookup m = none ∧ t σ H1 fun vs H2 => sp (.ref a :: vs) H2 Q (E σ)
section
variable {X : Cx} {g : Bool} {k j n : Nat} {C : Addr} {x m : Str} {sp : Sp} {ps ks : List Str} {W : WX} {gV : List V → List V → List V} {p pos apos : Pos} {e o : Expr} {es : List Expr} {kws : List Keyword} {ta : TE} {t tz : TA}
theorem pe_cS (c : CalG X.prog X.w X.K X.mg X.base g k x sp n [] gV) (hr : Room j X.A) (hk : k ≤ j) (gd : g = true → X.A.guards = some []) (tk : Takes X W) (hg : Gl X x) (ha : PA X (e :: es) t)
    (hdb : (x == ("__debug__" : Str)) = false := by decide) (he : starEach (e :: es) X.env = (false, eval e X.env) :: starEach es X.env := by rfl) (hpl : (backTo pos (starEach es X.env)).any (·.1) = false := by rfl) :
    PE X (.Call (.Name x p) (e :: es) [] pos) (tCS n 0 sp gV (WE W) t tNil) := by
  obtain ⟨f, fd, ps, gg, F, hm, kp, b⟩ := c.ex
  refine ⟨fun pins s σ H Q I h => wpAny_Call_Name_kw (ld_glob I hg hm ?_ hdb)⟩
  refine PySem.W.callWith_K (h₀ := X.base) I.ok.mod.kin kp (thn (ha.run pos pins s σ H _ I h) fun us s1 ⟨vs, H1, I1, r, l1, l2, q⟩ => ⟨I1.kIn, ?_⟩) he hpl
  exact call_at (ws := []) (zs := []) F (hr.mono hk) gd rfl b (passAt tk σ) I1 r .nil l1 rfl q
theorem pe_cS0 (c : CalG X.prog X.w X.K X.mg X.base g k x sp 0 [] gV) (hr : Room j X.A) (hk : k ≤ j) (gd : g = true → X.A.guards = some []) (tk : Takes X W) (hg : Gl X x)
    (hdb : (x == ("__debug__" : Str)) = false := by decide) : PE X (.Call (.Name x p) [] [] pos) (tCS 0 0 sp gV (WE W) tNil tNil) := by
  obtain ⟨f, fd, ps, gg, F, hm, kp, b⟩ := c.ex
  refine ⟨fun pins s σ H Q I h => wpAny_Call_Name_kw (ld_glob I hg hm ?_ hdb)⟩
  exact PySem.W.callWith_K0 I.kIn kp (call_at (us := []) (vs := []) (ws := []) (zs := []) F (hr.mono hk) gd rfl b (passAt tk σ) I .nil .nil rfl rfl h.2.2)
theorem pe_cSK (c : CalG X.prog X.w X.K X.mg X.base g k x sp n ks gV) (hr : Room j X.A) (hk : k ≤ j) (gd : g = true → X.A.guards = some []) (tk : Takes X W) (hg : Gl X x) (ha : PA X (e :: es) t) (hkw : PK X kws tz)
    (hall : (backToKw pos (keywordEach kws X.env)).all (·.1.isSome) = true := by rfl) (hks : (backToKw pos (keywordEach kws X.env)).filterMap (·.1) = ks := by rfl) (hdb : (x == ("__debug__" : Str)) = false := by decide)
    (he : starEach (e :: es) X.env = (false, eval e X.env) :: starEach es X.env := by rfl) (hpl : ((backTo pos (starEach (e :: es) X.env)).any (·.1) || (backToKw pos (keywordEach kws X.env)).any (·.1.isNone)) = false := by rfl) :
    PE X (.Call (.Name x p) (e :: es) kws pos) (tCS n ks.length sp gV (WE W) t tz) := by
  obtain ⟨f, fd, ps, gg, F, hm, kp, b⟩ := c.ex
  refine ⟨fun pins s σ H Q I h => wpAny_Call_Name_kw (ld_glob I hg hm ?_ hdb)⟩
  refine PySem.W.callWith_KW (h₀ := X.base) I.ok.mod.kin kp hall (thn (ha.run pos pins s σ H _ I h) fun us s1 ⟨vs, H1, I1, r, q⟩ => ?_) hpl he
  refine thn (hkw.run pos pins s1 σ H1 _ I1 q) fun ws s2 ⟨zs, H2, I2, rz, l1, l2, q2⟩ => ⟨I2.kIn, ?_⟩
  rw [hks]
  exact call_at F (hr.mono hk) gd rfl b (passAt tk σ) I2 r rz l1 l2 q2
theorem pe_mkS (c : MakG X.prog X.w X.K X.mg X.base k x C sp n [] gV) (hr : Room j X.A) (hk : k + 1 ≤ j) (tk : Takes X W) (hg : Gl X x) (ha : PA X (e :: es) t)
    (hdb : (x == ("__debug__" : Str)) = false := by decide) (he : starEach (e :: es) X.env = (false, eval e X.env) :: starEach es X.env := by rfl) (hpl : (backTo pos (starEach es X.env)).any (·.1) = false := by rfl) :
    PE X (.Call (.Name x p) (e :: es) [] pos) (tMkS C n 0 sp gV (WE W) t tNil) := by
  obtain ⟨f, fd, ps, gg, M, F, hm, b⟩ := c.ex
  refine ⟨fun pins s σ H Q I h => wpAny_Call_Name_kw (ld_glob I hg hm ?_ hdb)⟩
  refine PySem.W.callWith_K (h₀ := X.base) I.ok.mod.kin M.kp (thn (ha.run pos pins s σ H _ I h) fun us s1 ⟨vs, H1, I1, r, l1, l2, q⟩ => ⟨I1.kIn, ?_⟩) he hpl
  exact make_at (ws := []) (zs := []) M F (hr.mono hk) b (passAt tk σ) I1 r .nil l1 rfl q
theorem pe_mkS0 (c : MakG X.prog X.w X.K X.mg X.base k x C sp 0 [] gV) (hr : Room j X.A) (hk : k + 1 ≤ j) (tk : Takes X W) (hg : Gl X x)
    (hdb : (x == ("__debug__" : Str)) = false := by decide) : PE X (.Call (.Name x p) [] [] pos) (tMkS C 0 0 sp gV (WE W) tNil tNil) := by
  obtain ⟨f, fd, ps, gg, M, F, hm, b⟩ := c.ex
  refine ⟨fun pins s σ H Q I h => wpAny_Call_Name_kw (ld_glob I hg hm ?_ hdb)⟩
  exact PySem.W.callWith_K0 I.kIn M.kp (make_at (us := []) (vs := []) (ws := []) (zs := []) M F (hr.mono hk) b (passAt tk σ) I .nil .nil rfl rfl h.2.2)
theorem pe_mkSK (c : MakG X.prog X.w X.K X.mg X.base k x C sp n ks gV) (hr : Room j X.A) (hk : k + 1 ≤ j) (tk : Takes X W) (hg : Gl X x) (ha : PA X (e :: es) t) (hkw : PK X kws tz)
    (hall : (backToKw pos (keywordEach kws X.env)).all (·.1.isSome) = true := by rfl) (hks : (backToKw pos (keywordEach kws X.env)).filterMap (·.1) = ks := by rfl) (hdb : (x == ("__debug__" : Str)) = false := by decide)
    (he : starEach (e :: es) X.env = (false, eval e X.env) :: starEach es X.env := by rfl) (hpl : ((backTo pos (starEach (e :: es) X.env)).any (·.1) || (backToKw pos (keywordEach kws X.env)).any (·.1.isNone)) = false := by rfl) :
    PE X (.Call (.Name x p) (e :: es) kws pos) (tMkS C n ks.length sp gV (WE W) t tz) := by
  obtain ⟨f, fd, ps, gg, M, F, hm, b⟩ := c.ex
  refine ⟨fun pins s σ H Q I h => wpAny_Call_Name_kw (ld_glob I hg hm ?_ hdb)⟩
  refine PySem.W.callWith_KW (h₀ := X.base) I.ok.mod.kin M.kp hall (thn (ha.run pos pins s σ H _ I h) fun us s1 ⟨vs, H1, I1, r, q⟩ => ?_) hpl he
  refine thn (hkw.run pos pins s1 σ H1 _ I1 q) fun ws s2 ⟨zs, H2, I2, rz, l1, l2, q2⟩ => ⟨I2.kIn, ?_⟩
  rw [hks]
  exact make_at M F (hr.mono hk) b (passAt tk σ) I2 r rz l1 l2 q2
theorem pe_mkSK0 (c : MakG X.prog X.w X.K X.mg X.base k x C sp 0 ks gV) (hr : Room j X.A) (hk : k + 1 ≤ j) (tk : Takes X W) (hg : Gl X x) (hkw : PK X kws tz)
    (hall : (backToKw pos (keywordEach kws X.env)).all (·.1.isSome) = true := by rfl) (hks : (backToKw pos (keywordEach kws X.env)).filterMap (·.1) = ks := by rfl) (hdb : (x == ("__debug__" : Str)) = false := by decide)
    (hpl : ((backTo pos (starEach [] X.env)).any (·.1) || (backToKw pos (keywordEach kws X.env)).any (·.1.isNone)) = false := by rfl) :
    PE X (.Call (.Name x p) [] kws pos) (tMkS C 0 ks.length sp gV (WE W) tNil tz) := by
  obtain ⟨f, fd, ps, gg, M, F, hm, b⟩ := c.ex
  refine ⟨fun pins s σ H Q I h => wpAny_Call_Name_kw (ld_glob I hg hm ?_ hdb)⟩
  refine PySem.W.callWith_KW0 (h₀ := X.base) I.ok.mod.kin M.kp hall ?_ hpl
  refine thn (hkw.run pos pins s σ H _ I h) fun ws s2 ⟨zs, H2, I2, rz, l1, l2, q2⟩ => ⟨I2.kIn, ?_⟩
  rw [hks]
  exact make_at (us := []) (vs := []) M F (hr.mono hk) b (passAt tk σ) I2 .nil rz rfl l2 q2
theorem pe_mtS {pl : Sem Bool} (c : MetG X.prog X.w X.K X.mg X.base g k C m sp ps) (hr : Room j X.A) (hk : k ≤ j) (gd : g = true → X.A.guards = some []) (tk : Takes X W) (he : PE X o ta) (ha : PA X (e :: es) t)
    (hst : starEach (e :: es) X.env = (false, eval e X.env) :: starEach es X.env := by rfl) (hpl : (backTo pos (starEach es X.env)).any (·.1) = false := by rfl)
    (ht : eval (.Call (.Attribute o m apos) (e :: es) [] pos) X.env = (do
      let ov ← eval o X.env
      standAt apos.atName
      let (f, first) ← holding [ov] (getMethod ov m pl)
      callWith pos f first (backTo pos (starEach (e :: es) X.env)) (backToKw pos (keywordEach [] X.env))) := by rfl) :
    PE X (.Call (.Attribute o m apos) (e :: es) [] pos) (tMtS C m sp (WE W) ta t) := by
  obtain ⟨f, fd, hc, hm, _, F, b⟩ := c.ex
  refine ⟨fun pins s σ H Q I h => PySem.W.methodCall_KW (pl := pl) (thn (he.run pins s σ H _ I h) fun u s1 ⟨x, H1, I1, rx, a, dx, fs, ex, ea, l, q⟩ => ?_) ht⟩
  subst ex
  obtain rfl : u = Value.ref a := rx
  refine getmeth_ok I1 ea hc hm l ?_
  refine PySem.W.callWith_K (first := [.ref a]) (h₀ := X.base) I.ok.mod.kin hm.kp (thn (ha.run pos pins s1 σ H1 _ I1 q) fun us s2 ⟨vs, H2, I2, r, q2⟩ => ⟨I2.kIn, ?_⟩) hst hpl
  exact run_at (us := .ref a :: us) (vs := .ref a :: vs) (ds := []) (dvs := []) F (hr.mono hk) gd rfl b .nil (passAt tk σ) I2 (.cons rfl r) (by rw [List.append_nil]; exact q2)
theorem pe_mtS0 {pl : Sem Bool} (c : MetG X.prog X.w X.K X.mg X.base g k C m sp ps) (hr : Room j X.A) (hk : k ≤ j) (gd : g = true → X.A.guards = some []) (tk : Takes X W) (he : PE X o ta)
    (ht : eval (.Call (.Attribute o m apos) [] [] pos) X.env = (do
      let ov ← eval o X.env
      standAt apos.atName
      let (f, first) ← holding [ov] (getMethod ov m pl)
      callWith pos f first (backTo pos (starEach [] X.env)) (backToKw pos (keywordEach [] X.env))) := by rfl) :
    PE X (.Call (.Attribute o m apos) [] [] pos) (tMtS C m sp (WE W) ta tNil) := by
  obtain ⟨f, fd, hc, hm, _, F, b⟩ := c.ex
  refine ⟨fun pins s σ H Q I h => PySem.W.methodCall_KW (pl := pl) (thn (he.run pins s σ H _ I h) fun u s1 ⟨x, H1, I1, rx, a, dx, fs, ex, ea, l, q⟩ => ?_) ht⟩
  subst ex
  obtain rfl : u = Value.ref a := rx
  refine getmeth_ok I1 ea hc hm l ?_
  exact PySem.W.callWith_K0 (first := [.ref a]) I1.kIn hm.kp (run_at (us := [.ref a]) (vs := [.ref a]) (ds := []) (dvs := []) F (hr.mono hk) gd rfl b .nil (passAt tk σ) I1 (.cons rfl .nil) q)
end
end G
set_option Elab.async false
set_option linter.all false
set_option maxRecDepth 100000
namespace G
open PySem PySem.Spec PyProof.Rows L2
/-! ### own exceptions with one field -/
/-- what __init__(self, f): self.f = f keeps -/
def spIni (C : Addr) (f : Str) : Sp := fun vs H Q _ => ∃ a v, vs = [.ref a, v] ∧ H a = some (exo a C none) ∧ ∀ dx, H dx = none → dx ≠ a → Q .non (upd (upd H dx (exd dx [(f, v)])) a (exo a C (some dx)))
/-- the class named x, at C, with the field f -/
structure Oex (P : Program) (w : World) (K : PySem.W.Frag) (mg : Str → Option Value) (base : Heap) (x : Str) (C : Addr) (f : Str) : Prop where
  T : OexC K C
  xf : XfC K C
  ec : ExcC K C
  no : PySem.W.findIn K (.ref C) f = some none
  hm : mg x = some (.ref C)
  ini : ∃ (fI : Addr) (fd : FuncData), PySem.W.findIn K (.ref C) "__init__" = some (some (.ref fI)) ∧ PySem.W.typeIn K (.ref fI) = some (.type "function") ∧ FnOk P w K mg base CX0 1 fI fd ["self", f] (spIni C f) ∧ Binds K fd ["self", f] []
def tX (C : Addr) (f : Str) (ta : TA) : L2.St → Hp → XK → Prop := fun σ H Q => ta σ H fun vs H1 => ∃ v, vs = [v] ∧ ∀ d, H1 d = none → Q (.ref C) (some d) (upd H1 d (.xd [(f, v)]))
theorem upd_xd {H : Hp} {a d C : Addr} {o1 o2 o3 o : HO} (ha : H a = none) (hd : d ≠ a) : upd (del (upd (upd (upd H a o1) d o2) a o3) a) d o = upd H d o := by
  funext b
  by_cases h1 : b = d
  · subst h1
    rw [upd_same, upd_same]
  · rw [upd_ne h1, upd_ne h1]
    by_cases h2 : b = a
    · subst h2
      rw [del_same, ha]
    · rw [del_ne h2, upd_ne h2, upd_ne h1, upd_ne h2]
def tCutA (t : TA) : TA := fun σ H Q => ∃ M : List V → Hp → Prop, t σ H M ∧ ∀ vs H', M vs H' → Q vs H'
theorem pa_cut {X : Cx} {es : List Expr} {t : TA} (h : PA X es t) : PA X es (tCutA t) :=
  ⟨fun pos pins s σ H Q I ⟨M, hm, hu⟩ => wpAny_mono (h.run pos pins s σ H M I hm) (fun us s1 ⟨vs, H1, I1, r, q⟩ => ⟨vs, H1, I1, r, hu _ _ q⟩) fun _ _ z => z⟩
section
variable {X : Cx} {x f : Str} {C : Addr} {j : Nat} {e : Expr} {ta : TA} {p pos : Pos}
theorem pmk_x (T : Oex X.prog X.w X.K X.mg X.base x C f) (hr : Room j X.A) (hk : 2 ≤ j) (hg : Gl X x) (ha : PA X [e] ta)
    (hdb : (x == ("__debug__" : Str)) = false := by decide) (he : starEach [e] X.env = (false, eval e X.env) :: starEach [] X.env := by rfl) (hpl : (backTo pos (starEach [] X.env)).any (·.1) = false := by rfl) :
    PMk X (.Call (.Name x p) [e] [] pos) (tX C f ta) := by
  obtain ⟨fI, fd, i1, i2, F, b⟩ := T.ini
  intro pins s σ H Q I h
  refine pmk_oex (dvs := []) (ds := []) T.T i1 i2 F (hr.mono hk) b .nil (fun _ _ _ _ _ _ _ z => (show False from z).elim) hg T.hm (pa_cut ha) hdb he hpl pins s σ H Q I ⟨_, h, fun vs H1 hq => ?_⟩
  obtain ⟨v, rfl, q⟩ := hq
  refine ⟨by simp, fun a hn => ⟨a, v, rfl, upd_same, fun dx h1 h2 => ⟨rfl, dx, [(f, v)], upd_same, by rw [upd_ne h2, upd_same], by rwa [upd_ne h2] at h1, ?_⟩⟩⟩
  rw [upd_xd (C := C) hn h2]
  rw [upd_ne h2] at h1
  exact q dx h1
/-- its __init__, by its text -/
theorem ok_ini {P : Program} {w : World} {K : PySem.W.Frag} {mg : Str → Option Value} {base : Heap} {qual : Str} {st : Stmt} {fI : Addr} {fd : FuncData} {f : Str} {p1 p2 p3 pos : Pos} (F : Fun K "__init__" qual st fI fd) (S : FnScope ["self", f] ["self", f] (defScope st))
    (hb : defBody st = [.Assign [.Attribute (.Name "self" p1) f p2] (.Name f p3) pos]) (T : OexC K C) (no : PySem.W.findIn K (.ref C) f = some none) (h0 : Vis (defScope st) "self") (h1 : Vis (defScope st) f) (hd : (f == ("__debug__" : Str)) = false) (hc : (f == ("__classdict__" : Str)) = false) : FnOk P w K mg base CX0 1 fI fd ["self", f] (spIni C f) := by
  refine F.ok S (fun vs H Q E ⟨a, v, e, _⟩ => by rw [e]; rfl) fun cdv A outer s H vs Q E hr ⟨a, v, e, ha, q⟩ => ?_
  rw [hb, e]
  exact ⟨_, pss_one (ps_ost (pe_var (i := 0) rfl h0) (pe_var (i := 1) rfl h1 hd hc)), ⟨v, rfl, .ref a, rfl, a, C, rfl, T, no, .inl ⟨ha, q⟩⟩⟩
/-! ### in an except suite: e's field, what e is -/
theorem pe_xfS {a C : Addr} {oe : Obj} {cls : Value} {d : Option Addr} {pn : List (Addr × Obj)} {te : TE} {n : Str} (T : Oex X.prog X.w X.K X.mg X.base x C n)
    (hz : Zc cls d oe) (hf : ∃ vs, oe.data = .fields vs) (he : PE (X.suite a ((a, oe) :: pn)) e te) (hb : attributeBase e n X.env (eval e X.env) = eval e X.env := by rfl) :
    PE (X.suite a ((a, oe) :: pn)) (.Attribute e n pos) (tXf a cls d C n te) := pe_xf T.xf T.no hz hf he hb
def rIsX (K : PySem.W.Frag) (cls : Value) (d : Option Addr) (D a : Addr) : List V → Hp → VK → Prop := fun xs H Q => cls = .ref D ∧ ∃ (dd : Addr) (fs : List (Str × V)) (c : V) (cv : Value) (b : Bool), d = some dd ∧ H dd = some (.xd fs) ∧ xs = [.ref a, c] ∧ ClsV c cv ∧ PySem.W.kitOne K (.ref D) cv = some b ∧ Q (.bl b) H
theorem call_isX {a D : Addr} {oe : Obj} {cls : Value} {d : Option Addr} {pn : List (Addr × Obj)} (C : ExcC X.K D) (hz : Zc cls d oe) (hf : ∃ vs, oe.data = .fields vs) : CallR (X.suite a ((a, oe) :: pn)) (.builtin "isinstance") (rIsX X.K cls d D a) := by
  intro pins s σ H xs us Q I r h
  obtain ⟨rfl, dd, fs, c, cv, b, rfl, hd, rfl, hcv, e, q⟩ := h
  obtain ⟨u1, u2, rfl, rx, rt⟩ := vals2 r
  cases rx
  have ec := hcv.eq rt
  subst ec
  obtain ⟨hget, _⟩ := I.pin (a, oe) (List.mem_append.mpr (.inl List.mem_cons_self))
  obtain ⟨vs, hv⟩ := hf
  obtain ⟨mA, hns, hr⟩ := (show ObjOk X.prog X.w H s.heap dd (.xd fs) from I.hok dd _ hd)
  obtain ⟨od, ho, hl⟩ := lookIn_ns hns
  have J : PySem.W.InstAt s.heap a oe D (some od) := ⟨hget, hz.1, by unfold PySem.W.notCls; rw [hv] <;> rfl, by rw [hz.2]; exact ho⟩
  obtain ⟨cd, hc, _⟩ := PySem.W.any_some C.hd
  exact PySem.W.kia_one (PySem.W.kitx_exc (by rw [hc]; rfl) C.hg C.hk C.hs C.ha C.hn C.ht C.hm) I.kIn J e (fun z => nomatch z) fun tk => ⟨.bl b, H, I.kept (t' := tk) fun _ _ z => z, rfl, q⟩
end
end G
set_option Elab.async false
set_option linter.all false
set_option maxRecDepth 100000
namespace G
open PySem PySem.Spec PyProof.Rows L2
/-! ### operators by an own class's methods -/
theorem cmpBack {v : V} {u : Value} {s : Shared} {Q : Value → Shared → Prop} (r : RelV v u) (h : Q u s) : PySem.W.CmpBack Q u s := by
  cases v with
  | non => cases (show u = Value.none from r); exact h
  | bl b => cases (show u = Value.bool b from r); exact h
  | int i => obtain ⟨t, rfl⟩ := (show ∃ t, u = Value.int i t from r); exact h
  | str i => obtain ⟨t, rfl⟩ := (show ∃ t, u = Value.str i t from r); exact h
  | byt i => obtain ⟨t, rfl⟩ := (show ∃ t, u = Value.bytes i t from r); exact h
  | flt i => obtain ⟨t, rfl⟩ := (show ∃ t, u = Value.float i t from r); exact h
  | ref a => cases (show u = Value.ref a from r); exact h
  | ty n => cases (show u = Value.type n from r); exact h
abbrev E0' : L2.St → XK := fun _ _ _ _ => False
section
variable {X : Cx} {k j : Nat} {C : Addr} {m : Str} {sp : Sp} {ps : List Str}
/-- x op y, x an instance of C -/
def rOpI (K : PySem.W.Frag) (C : Addr) (sp : Sp) : R2 := fun x y H Q => ∃ a dx fs t, x = .ref a ∧ H a = some (.ins C dx fs) ∧ TyX K H y t ∧ PySem.W.notFirst K C t = true ∧ sp [x, y] H Q (fun _ _ _ => False)
theorem cmp_opI {op : CmpOp} (c : MetG X.prog X.w X.K X.mg X.base false k C (cmpInfo op).2.1 sp ps) (hr : Room j X.A) (hk : k ≤ j) (hop : compareOp op = richCompare op) : OpR X (compareOp op) (rOpI X.K C sp) := by
  intro pins s σ H x y v u Q I rx ry h
  obtain ⟨f, fd, hc, M, hf, F, b⟩ := c.ex
  obtain ⟨a, dx, fs, t, rfl, ha, ty, hn, q⟩ := h
  cases (show v = Value.ref a from rx)
  obtain ⟨P, Z, p, _⟩ := kit_of I ry ty
  obtain ⟨mA, O, _⟩ := ins_get I.hok ha
  obtain ⟨od, J, _⟩ := O.look
  obtain ⟨m', hF⟩ := I.fr
  rw [hop]
  refine PySem.W.cmp_K (tb := t) hr.units0 hF I.ok.mod.kin J (Z.ty _ _ I.kIn p) hn M.at_ M.fn ?_
  exact wpAny_mono (run_at (E := E0') (dvs := []) (ds := []) (A1 := X.A) (vs := [.ref a, y]) F (hr.mono hk) (fun e => nomatch e) rfl b .nil (passAt takes0 σ) I (.cons rfl (.cons ry .nil)) q) (fun u' s' ⟨v', H', I', r', q'⟩ => cmpBack r' ⟨v', H', I', r', q'⟩) fun _ _ z => z
theorem eq_opI (c : MetG X.prog X.w X.K X.mg X.base false k C "__eq__" sp ps) (hr : Room j X.A) (hk : k ≤ j) : OpR X (compareOp .Eq) (rOpI X.K C sp) := cmp_opI (op := .Eq) c hr hk rfl
theorem le_opI (c : MetG X.prog X.w X.K X.mg X.base false k C "__le__" sp ps) (hr : Room j X.A) (hk : k ≤ j) : OpR X (compareOp .LtE) (rOpI X.K C sp) := cmp_opI (op := .LtE) c hr hk rfl
/-- x + y, two instances of C -/
def rAddI (C : Addr) (sp : Sp) : R2 := fun x y H Q => ∃ a dx fs b dy gs, x = .ref a ∧ H a = some (.ins C dx fs) ∧ y = .ref b ∧ H b = some (.ins C dy gs) ∧ sp [x, y] H Q (fun _ _ _ => False)
theorem bin_opI {op : Operator} (c : MetG X.prog X.w X.K X.mg X.base false k C (PySem.dunder op.info.2) sp ps) (hs : PySem.W.selfFirst X.K C = true) (hr : Room j X.A) (hk : k ≤ j) : OpR X (binaryOp op) (rAddI C sp) := by
  intro pins s σ H x y v u Q I rx ry h
  obtain ⟨f, fd, hc, M, hf, F, b⟩ := c.ex
  obtain ⟨a, dx, fs, b', dy, gs, rfl, ha, rfl, hb, q⟩ := h
  cases (show v = Value.ref a from rx)
  cases (show u = Value.ref b' from ry)
  obtain ⟨mA, O, _⟩ := ins_get I.hok ha
  obtain ⟨od, J, _⟩ := O.look
  obtain ⟨mB, O', _⟩ := ins_get I.hok hb
  obtain ⟨od', J', _⟩ := O'.look
  obtain ⟨m', hF⟩ := I.fr
  refine PySem.W.binop_K hF I.ok.mod.kin J J'.type hs M.at_ M.fn ?_
  exact wpAny_mono (run_at (E := E0') (dvs := []) (ds := []) (A1 := X.A) (vs := [.ref a, .ref b']) F (hr.mono hk) (fun e => nomatch e) rfl b .nil (passAt takes0 σ) I (.cons rfl (.cons rfl .nil)) q) (fun u' s' ⟨v', H', I', r', q'⟩ => cmpBack r' ⟨v', H', I', r', q'⟩) fun _ _ z => z
theorem add_opI (c : MetG X.prog X.w X.K X.mg X.base false k C "__add__" sp ps) (hs : PySem.W.selfFirst X.K C = true) (hr : Room j X.A) (hk : k ≤ j) : OpR X (binaryOp .Add) (rAddI C sp) := bin_opI (op := .Add) c hs hr hk
/-- len(x) -/
def rLenI (C : Addr) (sp : Sp) : List V → Hp → VK → Prop := fun xs H Q => ∃ a dx fs, xs = [.ref a] ∧ H a = some (.ins C dx fs) ∧ sp [.ref a] H (fun v H' => ∃ n : Nat, v = .int n ∧ n < 2 ^ 63 ∧ Q (.int n) H') (fun _ _ _ => False)
theorem len_I (c : MetG X.prog X.w X.K X.mg X.base false k C "__len__" sp ps) (hr : Room j X.A) (hk : k + 1 ≤ j) : CallR X (.builtin "len") (rLenI C sp) := by
  intro pins s σ H xs us Q I r h
  obtain ⟨f, fd, hc, M, hf, F, b⟩ := c.ex
  obtain ⟨a, dx, fs, rfl, ha, q⟩ := h
  obtain ⟨u, rfl, ru⟩ := vals1 r
  cases (show u = Value.ref a from ru)
  obtain ⟨mA, O, _⟩ := ins_get I.hok ha
  obtain ⟨od, J, _⟩ := O.look
  obtain ⟨m', hF⟩ := I.fr
  refine PySem.W.len_K hF I.ok.mod.kin J M.at_ M.fn ?_
  refine wpAny_mono (run_at (E := E0') (dvs := []) (ds := []) (A1 := X.A.in1) (vs := [.ref a]) F ((hr.mono hk).in1) (fun e => nomatch e) rfl b .nil (passAt takes0 σ) I (.cons rfl .nil) q) (fun u' s' ⟨v', H', I', r', n, e1, e2, q'⟩ => ?_) fun _ _ z => z
  subst e1
  obtain ⟨t, rfl⟩ := r'
  exact ⟨⟨by omega, by omega⟩, ⟨.int n, H', I'.tok _, ⟨_, rfl⟩, q'⟩⟩
/-- y in x, x an instance -/
def rInI (C : Addr) (sp : Sp) (neg : Bool) : R2 := fun y x H Q => ∃ a dx fs, x = .ref a ∧ H a = some (.ins C dx fs) ∧ sp [x, y] H (fun v H' => ∃ b : Bool, v = .bl b ∧ Q (.bl (if neg then !b else b)) H') (fun _ _ _ => False)
theorem in_opI (c : MetG X.prog X.w X.K X.mg X.base false k C "__contains__" sp ps) (hr : Room j X.A) (hk : k ≤ j) : OpR X (compareOp .In) (rInI C sp false) := by
  intro pins s σ H y x v u Q I ry rx h
  obtain ⟨f, fd, hc, M, hf, F, b⟩ := c.ex
  obtain ⟨a, dx, fs, rfl, ha, q⟩ := h
  cases (show u = Value.ref a from rx)
  obtain ⟨mA, O, _⟩ := ins_get I.hok ha
  obtain ⟨od, J, _⟩ := O.look
  obtain ⟨m', hF⟩ := I.fr
  refine PySem.W.in_K hF I.ok.mod.kin J M.at_ M.fn ?_
  refine wpAny_mono (run_at (E := E0') (dvs := []) (ds := []) (A1 := X.A) (vs := [.ref a, y]) F (hr.mono hk) (fun e => nomatch e) rfl b .nil (passAt takes0 σ) I (.cons rfl (.cons ry .nil)) q) (fun u' s' ⟨v', H', I', r', n, e1, q'⟩ => ?_) fun _ _ z => z
  subst e1
  cases r'
  exact wpAny_truthy_bool ⟨.bl n, H', I', rfl, q'⟩
theorem notIn_opI (c : MetG X.prog X.w X.K X.mg X.base false k C "__contains__" sp ps) (hr : Room j X.A) (hk : k ≤ j) : OpR X (compareOp .NotIn) (rInI C sp true) := by
  intro pins s σ H y x v u Q I ry rx h
  obtain ⟨f, fd, hc, M, hf, F, b⟩ := c.ex
  obtain ⟨a, dx, fs, rfl, ha, q⟩ := h
  cases (show u = Value.ref a from rx)
  obtain ⟨mA, O, _⟩ := ins_get I.hok ha
  obtain ⟨od, J, _⟩ := O.look
  obtain ⟨m', hF⟩ := I.fr
  refine PySem.W.notIn_K hF I.ok.mod.kin J M.at_ M.fn ?_
  refine wpAny_mono (run_at (E := E0') (dvs := []) (ds := []) (A1 := X.A) (vs := [.ref a, y]) F (hr.mono hk) (fun e => nomatch e) rfl b .nil (passAt takes0 σ) I (.cons rfl (.cons ry .nil)) q) (fun u' s' ⟨v', H', I', r', n, e1, q'⟩ => ?_) fun _ _ z => z
  subst e1
  cases r'
  exact wpAny_truthy_bool ⟨.bl (!n), H', I', rfl, q'⟩
/-- x != y by x's __eq__ and object's __ne__ -/
theorem ifBound_blt {M : Model} {A : Around} {E : Value → Shared → Prop} {s : Shared} {K : PySem.W.Frag} {x C : Addr} {ox : Obj} {od : Option Obj} {name : Str} {id T : String} {args : List Value} {Q : Option Value → Shared → Prop} (X : K.In s.heap) (I : PySem.W.InstAt s.heap x ox C od)
    (hs : PySem.W.findIn K (.ref C) name = some (some (.builtin id))) (sl : Slot T name id)
    (h : wpAny M A (call (.builtin id) (.ref x :: args)) (fun v => Q (some v)) E s) : wpAny M A (callSpecialIfBound? (.ref x) name args) Q E s := by
  simp only [callSpecialIfBound?, bindSpecialIfBound?]
  refine wpAny_holding (wpAny_bind (wpAny_bind (wpAny_bind (I.type.here ((PySem.W.looks_findIn X hs).here ?_)))))
  refine wpAny_bind (wpAny_askSetting (wpAny_ite ?_))
  have fin : wpAny M A (call (.builtin id) ([.ref x] ++ args) >>= fun v => pure (some v)) Q E s := wpAny_bind (wpAny_mono h (fun v s' h' => wpAny_pure h') fun _ _ h' => h')
  split
  · rw [sl.bind (.ref x)]
    exact wpAny_bind (wpAny_pure (wpAny_pure (by exact fin)))
  · rw [sl.bind (.ref x)]
    exact wpAny_tryCatch (wpAny_bind (wpAny_pure (wpAny_pure (by exact fin))))
def rNeI (K : PySem.W.Frag) (C : Addr) (sp : Sp) : R2 := fun x y H Q => ∃ a dx fs t, x = .ref a ∧ H a = some (.ins C dx fs) ∧ TyX K H y t ∧ PySem.W.notFirst K C t = true ∧ sp [x, y] H (fun v H' => ∃ b : Bool, v = .bl b ∧ Q (.bl (!b)) H') (fun _ _ _ => False)
theorem ne_opI (c : MetG X.prog X.w X.K X.mg X.base false k C "__eq__" sp ps) (hne : PySem.W.findIn X.K (.ref C) "__ne__" = some (some (.builtin "object.__ne__"))) (ho : PySem.W.mroIn X.K C (.type "object") = some true) (hr : Room j X.A) (hk : k + 1 ≤ j) : OpR X (compareOp .NotEq) (rNeI X.K C sp) := by
  intro pins s σ H x y v u Q I rx ry h
  obtain ⟨f, fd, hc, M, hf, F, b⟩ := c.ex
  obtain ⟨a, dx, fs, t, rfl, ha, ty, hn, q⟩ := h
  cases (show v = Value.ref a from rx)
  obtain ⟨P, Z, p, _⟩ := kit_of I ry ty
  obtain ⟨mA, O, _⟩ := ins_get I.hok ha
  obtain ⟨od, J, _⟩ := O.look
  obtain ⟨m', hF⟩ := I.fr
  have X1 := I.kIn
  have hu := hr.units
  have body : wpAny (model X.prog X.w) X.A.in1 (Builtin.«object.__ne__» ⟨[.ref a, u], []⟩) (fun fin s' => ∃ v', fin = .done (.ret v') ∧ PySem.W.CmpBack (EP X pins σ Q) v' s') X.xe s := by
    unfold Builtin.«object.__ne__»
    refine wpAny_bind (wpAny_of_eq (a := ((Value.ref a : Value), [u])) (by first | rfl | (simp only [slotArgs]; rfl)) ?_)
    refine wpAny_bind (wpAny_cRoomFor (by show X.A.units + 1 < _; omega) ?_)
    refine wpAny_bind (PySem.W.ifBound_K X1 J M.at_ M.fn ?_)
    refine wpAny_mono (run_at (E := E0') (dvs := []) (ds := []) (A1 := X.A.in1) (vs := [.ref a, y]) F ((hr.mono hk).in1) (fun e => nomatch e) rfl b .nil (passAt takes0 σ) I (.cons rfl (.cons ry .nil)) q) (fun u' s' ⟨v', H', I', r', n, e1, q'⟩ => ?_) fun _ _ z => z
    subst e1
    cases r'
    refine wpAny_bind (m := truthy (.bool n)) (wpAny_truthy_bool ?_)
    exact wpAny_pure ⟨_, rfl, ⟨.bl (!n), H', I', rfl, q'⟩⟩
  have one : wpAny (model X.prog X.w) X.A (tryCompare (.ref a) "__ne__" u) (fun r s' => ∃ v, r = some v ∧ EP X pins σ Q v s') X.xe s := by
    have sub : PySem.W.Looks (model X.prog X.w) s.heap (isInstance (.ref a) (.type "object")) true := J.type.andThen (PySem.W.looks_mroIn X1 ho)
    unfold tryCompare
    refine wpAny_bind (ifBound_blt X1 J hne PySem.F.cmp_object.ne (wpAny_call (codeAny_call_builtin PySem.F.cmp_object.ne.plain PySem.F.cmpEntry_ne (PySem.W.check_slot PySem.F.cmpKind_ne PySem.F.cmpSplit_ne sub (PySem.F.cmpArgs_ne _ _) (wpAny_mono body (fun fin s' hv => ?_) fun _ _ z => z)))))
    obtain ⟨v', rfl, hv⟩ := hv
    cases v' <;> first | exact hv.elim | exact wpAny_pure ⟨_, rfl, hv⟩
  show wpAny _ _ (richCompare .NotEq _ _) _ _ _
  unfold richCompare
  simp only [oneThing_ref]
  refine wpAny_holding (wpAny_bind (wpAny_cRoomFor hr.units0 ?_))
  refine wpAny_bind (J.type.here (wpAny_bind ((Z.ty _ _ I.kIn p).here ?_)))
  split
  · rename_i q
    have e : PySem.W.subIn X.K t (.ref C) = some false := by
      rcases Bool.or_eq_true_iff.mp hn with e | e
      · rw [beq_iff_eq.mp e] at q; simp at q
      · exact beq_iff_eq.mp e
    refine wpAny_bind ((PySem.W.looks_subIn X1 e).here ?_)
    simp only [Bool.false_eq_true, if_false]
    refine wpAny_bind (wpAny_mono one (fun r s' z => ?_) fun _ _ e => e)
    obtain ⟨v, rfl, hq⟩ := z
    exact wpAny_pure hq
  · refine wpAny_bind (wpAny_pure ?_)
    simp only [Bool.false_eq_true, if_false]
    refine wpAny_bind (wpAny_mono one (fun r s' z => ?_) fun _ _ e => e)
    obtain ⟨v, rfl, hq⟩ := z
    exact wpAny_pure hq
/-- x[y], x an instance -/
def tIxI (C : Addr) (sp : Sp) (E : L2.St → XK) (ta tb : TE) : TE := fun σ H Q => ta σ H fun x H1 => tb σ H1 fun y H2 => ∃ a dx fs, x = .ref a ∧ H2 a = some (.ins C dx fs) ∧ sp [x, y] H2 Q (E σ)
theorem pe_ixI {W : WX} {a b : Expr} {ta tb : TE} {pos : Pos} (c : MetG X.prog X.w X.K X.mg X.base false k C "__getitem__" sp ps) (hr : Room j X.A) (hk : k + 1 ≤ j) (tk : Takes X W) (ha : PE X a ta) (hb : PE X b tb)
    (hsl : ∀ o i, subscripted b true o i = runValue (.builtin "lifetime.subscript" ⟨[o, i], []⟩) := by intro _ _; with_unfolding_all rfl) : PE X (.Subscript a b pos) (tIxI C sp (WE W) ta tb) := by
  obtain ⟨f, fd, hc, M, hf, F, bb⟩ := c.ex
  refine ⟨fun pins s σ H Q I h => ?_⟩
  refine Subscript_ (binT ha hb I h fun v u s2 x y H2 I2 rx ry q => ?_)
  obtain ⟨p, dx, fs, rfl, hp, q⟩ := q
  cases (show v = Value.ref p from rx)
  obtain ⟨mA, O, _⟩ := ins_get I2.hok hp
  obtain ⟨od, J, _⟩ := O.look
  obtain ⟨m', hF⟩ := I2.fr
  refine PySem.W.sub_K hF I2.ok.mod.kin J M.at_ hf M.fn ?_ (hsl _ _)
  exact run_at (dvs := []) (ds := []) (A1 := X.A.in1) (vs := [.ref p, y]) F ((hr.mono hk).in1) (fun e => nomatch e) rfl bb .nil (passAt tk σ) I2 (.cons rfl (.cons ry .nil)) q
end
end G
set_option Elab.async false
set_option linter.all false
set_option maxRecDepth 100000
namespace G
open PySem PySem.Spec PyProof.Rows L2
/-! ### repr -/
def rRepr (K : PySem.W.Frag) : List V → Hp → VK → Prop := fun xs H Q => ∃ x d, xs = [x] ∧ Dp K H x d ∧ d.showable = true ∧ d.hasDict = false ∧ d.shown.length ≤ sizeLine ∧ d.depth ≤ 50 ∧ Q (.str d.shown) H
theorem gRepr {X : Cx} (hg : X.A.guards = some []) (hu : X.A.units + 64 < cLine) : CallR X (.builtin "repr") (rRepr X.K) := by
  intro pins s σ H xs us Q I r h
  obtain ⟨x, d, rfl, hd, h1, h2, h3, h4, q⟩ := h
  obtain ⟨u, rfl, ru⟩ := vals1 r
  obtain ⟨as, rd⟩ := Dp.reads I d x u hd ru
  have nd : d.hasDict = true → sysModules ∉ as := fun e => by rw [h2] at e; cases e
  have big : ∀ a, u = .ref a → wpAny (model X.prog X.w) X.A (call (.builtin "repr") [u]) (EP X pins σ Q) X.xe s := fun a e => by
    subst e
    refine repr_of_reads' rd h1 nd hg (by omega) (fun _ _ e => e) (fun h' t tk hk => ⟨.str d.shown, H, I.kept (t' := tk) hk, ⟨_, rfl⟩, q⟩) h3
  cases rd with
  | none => exact PySem.P.repr_of_none ⟨.str _, H, I.tok _, ⟨_, rfl⟩, q⟩
  | bool b => exact PySem.P.repr_of_bool ⟨.str _, H, I.tok _, ⟨_, rfl⟩, q⟩
  | int i t => exact PySem.P.repr_of_int (by simpa [PyData.showable] using h1) ⟨.str _, H, I.tok _, ⟨_, rfl⟩, q⟩
  | str x t => exact PySem.P.repr_of_str ⟨.str _, H, I.tok _, ⟨_, rfl⟩, q⟩ (by simpa only [PyData.shown] using h3)
  | list a1 a2 a3 a4 => exact big _ rfl
  | tuple a1 a2 a3 a4 => exact big _ rfl
  | dict a1 a2 a3 a4 a5 => exact big _ rfl
/-- .. of a dict of flat values -/
def flatD : V → PyData
  | .bl b => .bool b
  | .int i => .int i
  | .str x => .str x
  | _ => .none
def keyD : Key → PyData
  | .inl i => .int i
  | .inr x => .str x
abbrev dictD (kvs : List (Key × V)) : PyData := .dict (kvs.map fun kv => (keyD kv.1, flatD kv.2))
theorem flat_reads {h : Heap} {v : V} {u : Value} (hf : flatV v = true) (r : RelV v u) : Reads h u (flatD v) [] := by
  cases v with
  | non => cases r; exact .none
  | bl b => cases r; exact .bool b
  | int i => obtain ⟨t, rfl⟩ := r; exact .int i t
  | str x => obtain ⟨t, rfl⟩ := r; exact .str x t
  | byt b => cases hf
  | flt b => cases hf
  | ref b => cases hf
  | ty b => cases hf
theorem key_reads {h : Heap} {k : Key} {u : Value} (r : keyIs k u = true) : Reads h u (keyD k) [] := by
  rcases keyIs_shape r with ⟨i, t, rfl, rfl⟩ | ⟨x, t, rfl, rfl⟩
  · exact .int i t
  · exact .str x t
theorem pairs_reads {P : Program} {w : World} {h : Heap} : ∀ {es : List DictEntry} {kvs : List (Key × V)} {vs : List (Key × Value)}, Pairs (mixKind P w) es vs → KV kvs vs → kvs.all (fun kv => flatV kv.2) = true →
    ReadsAll h (es.map (·.key)) ((kvs.map fun kv => (keyD kv.1, flatD kv.2)).map (·.1)) [] ∧ ReadsAll h (es.map (·.val)) ((kvs.map fun kv => (keyD kv.1, flatD kv.2)).map (·.2)) []
  | _, _, _, .nil, .nil, _ => ⟨.nil, .nil⟩
  | _, _, _, .cons h1 h2 hr, .cons ⟨e, rv⟩ kr, hf => by
    rw [List.all_cons, Bool.and_eq_true] at hf
    obtain ⟨q1, q2⟩ := pairs_reads (h := h) hr kr hf.2
    rw [← e] at h1
    rw [← h2] at rv
    exact ⟨.cons (key_reads h1) q1, .cons (flat_reads hf.1 rv) q2⟩
def rReprD : List V → Hp → VK → Prop := fun xs H Q => ∃ a kvs, xs = [.ref a] ∧ H a = some (.dK kvs) ∧ kvs.all (fun kv => flatV kv.2) = true ∧ (dictD kvs).showable = true ∧ (dictD kvs).shown.length ≤ sizeLine ∧ (dictD kvs).depth ≤ 50 ∧ Q (.str (dictD kvs).shown) H
theorem gReprD {X : Cx} (hg : X.A.guards = some []) (hu : X.A.units + 64 < cLine) : CallR X (.builtin "repr") rReprD := by
  intro pins s σ H xs us Q I r h
  obtain ⟨a, kvs, rfl, ha, hf, h1, h3, h4, q⟩ := h
  obtain ⟨u, rfl, ru⟩ := vals1 r
  cases (show u = Value.ref a from ru)
  obtain ⟨hz, hn, vs, kv, o, es, ep, e1, e2, e3, e4, e5, e6⟩ := (show ObjOk X.prog X.w H s.heap a (.dK kvs) from I.hok a _ ha)
  obtain ⟨q1, q2⟩ := pairs_reads (h := s.heap) e5 kv hf
  have rd : Reads s.heap (.ref a) (dictD kvs) [a] := .dict e1 e2.1 e3 q1 q2
  have nd : sysModules ∉ [a] := fun m => by
    rw [List.mem_singleton] at m
    rw [← m] at hn
    simp at hn
  refine repr_of_reads' rd h1 (fun _ => nd) hg (by omega) (fun _ _ e => e) (fun h' t tk hk => ⟨.str (dictD kvs).shown, H, I.kept (t' := tk) hk, ⟨_, rfl⟩, q⟩) h3
def rReprA (K : PySem.W.Frag) : List V → Hp → VK → Prop := fun xs H Q => rRepr K xs H Q ∨ rReprD xs H Q
theorem kRepr {X : Cx} {K : PySem.W.Frag} (hK : X.K = K) (hg : X.A.guards = some []) (hu : X.A.units + 64 < cLine) : CallR X (.builtin "repr") (rReprA K) := by
  subst hK
  exact CallR.or (gRepr hg hu) (gReprD hg hu)
end G
set_option Elab.async false
set_option linter.all false
set_option maxRecDepth 100000
namespace G
open PySem PySem.Spec PyProof.Rows L2
/-! ### the end, for a law's def that promises by Fg -/
/-- what a call of the law's def must come to -/
abbrev LawEnd (P : Program) (w : World) (fa a : Addr) (s : Shared) : Prop :=
  codeAny (model P w) callerA (.call (.ref fa) ⟨[.ref a], []⟩) (fun r s' => r = .ok (.ret (.bool true)) ∧ OldK s.heap s'.heap ∧ s'.os = s.os ∧ AllBare s'.gens) s
section
variable {P : Program} {w : World} {K : PySem.W.Frag} {mg mb : Str → Option Value} {g : Bool} {k : Nat} {fa a : Addr} {fd : FuncData} {x : Str} {sp : Sp} {s : Shared} {H : Hp} {us : List Value} {ns : List Int}
/-- from an abstract heap that tracks at most the script at a (frozen) -/
theorem end_at (kin : K.In s.heap) (hns : s.heap.Ns mainGlobals mg) (hb : s.heap.Ns builtinsNs mb) (hbb : ∀ x : Str, x ≠ "__name__" → mb x = bootBuiltins x) (hlim : s.heap.NoLimit) (hg : s.gens = #[])
    (hdat : ∀ o, s.heap.get? a = some o → ∀ es ep, o.data ≠ .dict es ep) (hr : Room k callerA)
    (F : ∀ base : Heap, K.In base → base.Ns mainGlobals mg → Fg P w K mg base g k fa fd [x] sp) (hbind : ∀ (s : Shared) (u : Value), BindsTo s fd ⟨[u], []⟩ [(x, u)])
    (hO : Only H) (hok : HOk P w H s.heap) (hA : ∀ b, b ≠ a → H b = none) (hK : H a ≠ none → K.lookup a = none) (q : sp [.ref a] H (fun v _ => v = .bl true) fun _ _ _ => False) : LawEnd P w fa a s := by
  have dict_free : ∀ b o es ep, s.heap.get? b = some o → o.data = .dict es ep → H b = none := fun b o es ep e d => hA b fun z => hdat o (z ▸ e) es ep d
  have keepNs : ∀ {b : Addr} {m : Str → Option Value}, s.heap.Ns b m → (hidT s.heap H).Ns b m := fun {b m} ⟨o, es, ep, e, d, r⟩ => ⟨o, es, ep, hidT_get e (dict_free b o es ep e d), d, r⟩
  have keepK : K.In (hidT s.heap H) := fun b o e => hidT_get (kin b o e) (Decidable.byContradiction fun z => by
    by_cases hba : b = a
    · subst hba
      rw [hK z] at e
      cases e
    · exact z (hA b hba))
  obtain ⟨mc, l1, l2⟩ := hlim
  have e0 : Env0 P w K mg (hidT s.heap H) callerA [] s H := ⟨rfl, ⟨keepK, keepNs hns, ⟨mb, keepNs hb, hbb⟩, ⟨mc, keepNs l1, l2⟩⟩, fun b o e => of_hidT e, Nat.le_of_eq (hidT_size _ _), trivial, fun b z => absurd (show b ∈ ([] : List Addr) from z) (by simp), hok, .of_eq hg⟩
  refine codeAny_mono ((F _ keepK (keepNs hns)).go callerA [] s H ⟨[.ref a], []⟩ [.ref a] [.ref a] _ _ hr (fun _ => rfl) e0 (hbind s (.ref a)) (.cons rfl .nil) q) fun r s' h => ?_
  match r, h with
  | .error e, h =>
    obtain ⟨_, _, _, _, _, _, _, _, _, _, _, _, z⟩ := h
    exact z.elim
  | .ok .next, h => exact False.elim h
  | .ok .brk, h => exact False.elim h
  | .ok .cont, h => exact False.elim h
  | .ok (.ret u), ⟨v, H', os, bare, un, hok', rv, ev⟩ =>
    have ev' : v = .bl true := ev
    subst ev'
    obtain rfl : u = Value.bool true := rv
    refine ⟨rfl, OldK.of_keep fun b o e => ?_, os, bare⟩
    rcases hO b with z | ⟨ob, xs, z⟩
    · exact un.keep b o e z (fun m => absurd (show b ∈ ([] : List Addr) from m) (by simp)) (by simp)
    · have c1 := (hok b _ z).1
      have c2 := (hok' b _ (un.frzs b ob _ z)).1
      rw [e] at c1
      cases c1
      exact c2
theorem law_callG (kin : K.In s.heap) (hns : s.heap.Ns mainGlobals mg) (hb : s.heap.Ns builtinsNs mb) (hbb : ∀ x : Str, x ≠ "__name__" → mb x = bootBuiltins x) (hlim : s.heap.NoLimit) (hg : s.gens = #[])
    (ha : s.heap.get? a = some { cls := .type "list", data := .seq us.toArray }) (hi : IntsAre us ns) (hl : ns.length ≤ sizeLine) (hr : Room k callerA)
    (F : ∀ base : Heap, K.In base → base.Ns mainGlobals mg → Fg P w K mg base g k fa fd [x] sp) (hbind : ∀ (s : Shared) (u : Value), BindsTo s fd ⟨[u], []⟩ [(x, u)])
    (hsp : ∀ H : Hp, SqL K H a (ns.map V.int) → sp [.ref a] H (fun v _ => v = .bl true) fun _ _ _ => False) : LawEnd P w fa a s := by
  have rv := vals_ints hi
  have hdat : ∀ o, s.heap.get? a = some o → ∀ es ep, o.data ≠ .dict es ep := fun o e es ep d => by
    rw [ha] at e
    cases e
    have d' : Data.seq us.toArray _ = Data.dict es ep := d
    cases d'
  cases hk : K.lookup a with
  | some o =>
    have e := kin a o hk
    rw [ha] at e
    cases e
    exact end_at (H := fun _ => none) kin hns hb hbb hlim hg hdat hr F hbind (fun _ => .inl rfl) (fun b u z => nomatch z) (fun _ _ => rfl) (fun z => absurd rfl z)
      (hsp _ (.inr ⟨_, us.toArray, _, hk, rfl, rfl, rfl, by rw [List.size_toArray, hi.length]; exact hl, by simpa using rv⟩))
  | none =>
    refine end_at (H := upd (fun _ => none) a (.frz { cls := .type "list", data := .seq us.toArray } (.lst (ns.map V.int)))) kin hns hb hbb hlim hg hdat hr F hbind (fun b => ?_) (fun b u z => ?_) (fun b hb => upd_ne hb) (fun _ => hk) (hsp _ (.inl (.inr ⟨_, upd_same⟩)))
    · by_cases hb : b = a
      · exact .inr ⟨_, _, by rw [hb]; exact upd_same⟩
      · exact .inl (upd_ne hb)
    · by_cases hb : b = a
      · subst hb
        rw [upd_same] at z
        cases z
        exact ⟨ha, by rw [List.length_map]; exact hl, us, _, rv, ha⟩
      · rw [upd_ne hb] at z
        cases z
end
theorem walk_ofG {l : PySem.W.OpenLaw} {n k : Nat} {q : Program} {loose : List Str} {XP : (Str → Option Value) → Heap → Prop} {YP : World → Heap → Prop} {d : DefRec} {K : Params → PySem.W.Frag} {g : Bool} {sp : PySem.W.Frag → Sp} {x : Str}
    (hn : l.most = some n) (hn2 : n ≤ sizeLine) (hdf : d.params.defaults = []) (hr : Room k callerA) (hY : ∀ (w : World) (h : Heap), YP w h → (K w.params).In h)
    (F : ∀ (w : World) (mg : Str → Option Value) (fa : Addr) (h : Heap), (K w.params).In h → h.Ns mainGlobals mg → mg d.name = some (.ref fa) →
      ∃ fd : FuncData, (∀ (s : Shared) (u : Value), BindsTo s fd ⟨[u], []⟩ [(x, u)]) ∧ ∀ base : Heap, (K w.params).In base → base.Ns mainGlobals mg → Fg l.prog w (K w.params) mg base g k fa fd [x] (sp (K w.params)))
    (hsp : ∀ (K : PySem.W.Frag) (H : Hp) (a : Addr) (ns : List Int), ns.length ≤ n → (∀ z ∈ ns, Builtin.Int.intBits z ≤ 1048576) → SqL K H a (ns.map V.int) → sp K [.ref a] H (fun v _ => v = .bl true) fun _ _ _ => False) :
    PySem.W.WalkO q loose XP YP l.row.toRowW d [] (fun f vs => PySem.call f vs) := by
  refine Att.attach_callB hn hdf fun w s₀ s₁ mg mb fa o pm cd doc a vs ns G Y ho hd hcd hmg hobj hints hlen hbits hg => ?_
  have kin := hY w _ Y
  obtain ⟨fd, hb, hF⟩ := F w mg fa _ kin G.T.g hmg
  exact law_callG kin G.T.g G.T.b G.T.builtins G.T.nolimit hg hobj hints (Nat.le_trans hlen hn2) hr hF hb fun H hS => hsp _ H a ns hlen hbits hS
end G
set_option Elab.async false
set_option linter.all false
set_option maxRecDepth 100000
namespace G
open PySem PySem.Spec PyProof.Rows L2
/-! ### isinstance with own classes -/
theorem kit_ownT {K : PySem.W.Frag} {t : Value} {C : Addr} (hc : PySem.W.isClsIn K C = true) (ht : PySem.W.typeIn K (.ref C) = some (.type "type")) (hs : PySem.W.subIn K t (.ref C) = some true) : PySem.W.kitOne K t (.ref C) = some true := by
  unfold PySem.W.kitOne
  split
  · rfl
  · unfold PySem.W.kitCls
    dsimp only
    rw [show (PySem.W.clsIn K C).isSome = true from hc, ht, hs]
    rfl
theorem kit_ownF {K : PySem.W.Frag} {T : String} {C : Addr} {r : Bool} (hc : PySem.W.isClsIn K C = true) (ht : PySem.W.typeIn K (.ref C) = some (.type "type")) (hs : PySem.W.subIn K (.type T) (.ref C) = some r) : PySem.W.kitOne K (.type T) (.ref C) = some r := by
  unfold PySem.W.kitOne
  rw [if_neg (by simp)]
  unfold PySem.W.kitCls
  dsimp only
  rw [show (PySem.W.clsIn K C).isSome = true from hc, ht, hs]
  rfl
theorem kit_self {K : PySem.W.Frag} {C : Addr} : PySem.W.kitOne K (.ref C) (.ref C) = some true := if_pos (by simp)
theorem kit_blt {K : PySem.W.Frag} {T : String} {C : Addr} {r : Bool} (hm : PySem.W.kitMeta T = true) (hs : PySem.W.subIn K (.ref C) (.type T) = some r) : PySem.W.kitOne K (.ref C) (.type T) = some r := by
  unfold PySem.W.kitOne
  rw [if_neg (by simp)]
  unfold PySem.W.kitCls
  dsimp only
  rw [hm, hs]
  rfl
theorem nf_self {K : PySem.W.Frag} {C : Addr} : PySem.W.notFirst K C (.ref C) = true := by unfold PySem.W.notFirst; simp
theorem nf_of {K : PySem.W.Frag} {C : Addr} {t : Value} (h : PySem.W.subIn K t (.ref C) = some false) : PySem.W.notFirst K C t = true := by unfold PySem.W.notFirst; rw [h]; simp
theorem kEqU {X : Cx} {K : PySem.W.Frag} (hK : X.K = K) (hu : X.A.units + 64 < cLine) : OpR X (compareOp .Eq) (rEqA K) := by subst hK; exact op_eq.or (op_eqD hu)
theorem kNeU {X : Cx} {K : PySem.W.Frag} (hK : X.K = K) (hu : X.A.units + 64 < cLine) : OpR X (compareOp .NotEq) (rNeA K) := by subst hK; exact op_ne.or (op_neD hu)
/-! ### defs, methods, classes of the text -/
abbrev BodyN (P : Program) (w : World) (K : PySem.W.Frag) (mg : Str → Option Value) (base : Heap) (g : Bool) (k : Nat) (N : List Str) (qual : Str) (st : Stmt) (f : Addr) (sp : Sp) : Prop :=
  ∀ (cdv : Value) (A : Around) (outer : List Env) (s : Shared) (H : Hp) (vs : List V) (Q : VK) (E : XK), Room k (A.deeper (envOfC qual (defScope st) s.heap.objs.size f cdv)) →
    (g = true → (A.deeper (envOfC qual (defScope st) s.heap.objs.size f cdv)).guards = some []) → sp vs H Q E →
    ∃ t, PSs (cxOf (L2.CX P w) P w K mg base N qual (defScope st) f cdv A outer s H E).nox (defBody st) t ∧ t { nx := fun _ H' => Q .non H', rt := Q } (start N vs) H
abbrev BodyX (P : Program) (w : World) (K : PySem.W.Frag) (mg : Str → Option Value) (base : Heap) (g : Bool) (k : Nat) (N : List Str) (qual : Str) (st : Stmt) (f : Addr) (sp : Sp) : Prop :=
  ∀ (cdv : Value) (A : Around) (outer : List Env) (s : Shared) (H : Hp) (vs : List V) (Q : VK) (E : XK), Room k (A.deeper (envOfC qual (defScope st) s.heap.objs.size f cdv)) →
    (g = true → (A.deeper (envOfC qual (defScope st) s.heap.objs.size f cdv)).guards = some []) → sp vs H Q E →
    ∃ t, PSs (cxOf (L2.CX P w) P w K mg base N qual (defScope st) f cdv A outer s H E) (defBody st) t ∧ t { nx := fun _ H' => Q .non H', rt := Q } (start N vs) H
structure Dm (K : PySem.W.Frag) (C : Addr) (m qual : Str) (st : Stmt) (ps : List Str) : Prop where
  ex : ∃ (f : Addr) (fd : FuncData), Cls K C ∧ Meth K C m f ∧ PySem.W.fnIn K f = true ∧ Fun K m qual st f fd ∧ Binds K fd ps []
structure Dk (K : PySem.W.Frag) (mg : Str → Option Value) (x : Str) (C : Addr) (qual : Str) (st : Stmt) (dvs : List V) : Prop where
  ex : ∃ (f : Addr) (fd : FuncData), Mk K C f ∧ mg x = some (.ref C) ∧ FunD K "__init__" qual (defArgs st) (defBody st) (defScope st) dvs [] f fd
structure Ini (P : Program) (w : World) (K : PySem.W.Frag) (mg : Str → Option Value) (base : Heap) (k : Nat) (x : Str) (C : Addr) (qual : Str) (st : Stmt) (dvs : List V) (ps : List Str) (sp : Sp) : Prop where
  ex : ∃ (f : Addr) (fd : FuncData), Mk K C f ∧ mg x = some (.ref C) ∧ FunD K "__init__" qual (defArgs st) (defBody st) (defScope st) dvs [] f fd ∧ Fg P w K mg base false k f fd ps sp
section
variable {P : Program} {w : World} {K : PySem.W.Frag} {mg : Str → Option Value} {base : Heap} {g : Bool} {x qual m : Str} {st : Stmt} {N ps : List Str} {k : Nat} {sp : Sp} {C : Addr} {dvs : List V}
theorem kbn_of {fd : FuncData} (b : Binds K fd ps []) : KBn K fd ps ps.length [] (fun us _ => us) (fun vs _ => vs) :=
  ⟨fun s us ws X l1 l2 => by
    have h := b s us X (by rw [List.append_nil]; exact l1)
    rw [List.append_nil] at h
    exact h, fun r _ => r⟩
theorem Dd.calG (F : Dd K mg x st ps) (S : FnScope N ps (defScope st)) (len : ∀ vs H Q E, sp vs H Q E → vs.length = ps.length) (hbody : ∀ f, BodyN P w K mg base g k N x st f sp) : CalG P w K mg base g (k + 1) x sp ps.length [] (fun vs _ => vs) := by
  obtain ⟨f, fd, F1, hm, b⟩ := F.ex
  exact ⟨f, fd, ps, _, fg_of F1 S len fun cdv A outer s H vs Q E hr hg h => let ⟨t, h1, h2⟩ := hbody f cdv A outer s H vs Q E hr hg h; ⟨t, h1.nox, h2⟩, hm, F1.kp, kbn_of b⟩
theorem Dd.calX (F : Dd K mg x st ps) (S : FnScope N ps (defScope st)) (len : ∀ vs H Q E, sp vs H Q E → vs.length = ps.length) (hbody : ∀ f, BodyX P w K mg base g k N x st f sp) : CalG P w K mg base g (k + 1) x sp ps.length [] (fun vs _ => vs) := by
  obtain ⟨f, fd, F1, hm, b⟩ := F.ex
  exact ⟨f, fd, ps, _, fg_of F1 S len (hbody f), hm, F1.kp, kbn_of b⟩
theorem Dd.lawG {fa : Addr} (F : Dd K mg x st ps) (S : FnScope N ps (defScope st)) (hfa : mg x = some (.ref fa)) (len : ∀ vs H Q E, sp vs H Q E → vs.length = ps.length) (hbody : ∀ base f, BodyN P w K mg base g k N x st f sp) :
    ∃ fd : FuncData, (∃ (kV doc pm : Value) (an : Option Addr) (cdv ct : Value), fd = PySem.W.fnOf x x (defArgs st) (defBody st) (defScope st) .none kV doc pm an cdv ct) ∧ ∀ base : Heap, Fg P w K mg base g (k + 1) fa fd ps sp := by
  obtain ⟨f, fd, F1, hm, b⟩ := F.ex
  have e := hfa.symm.trans hm
  cases e
  refine ⟨fd, ?_, fun base => fg_of F1 S len fun cdv A outer s H vs Q E hr hg h => let ⟨t, h1, h2⟩ := hbody base fa cdv A outer s H vs Q E hr hg h; ⟨t, h1.nox, h2⟩⟩
  obtain ⟨oc, od, kV, doc, pm, an, cdv, ct, osl, rfl, lk, hcd⟩ := F1.ex
  exact ⟨kV, doc, pm, an, cdv, ct, rfl⟩
theorem Dm.metX (F : Dm K C m qual st ps) (S : FnScope N ps (defScope st)) (len : ∀ vs H Q E, sp vs H Q E → vs.length = ps.length) (hbody : ∀ f, BodyX P w K mg base g k N qual st f sp) : MetG P w K mg base g (k + 1) C m sp ps := by
  obtain ⟨f, fd, c, M, hf, F1, b⟩ := F.ex
  exact ⟨f, fd, c, M, hf, fg_of F1 S len (hbody f), b⟩
theorem Dm.met (F : Dm K C m qual st ps) (S : FnScope N ps (defScope st)) (len : ∀ vs H Q E, sp vs H Q E → vs.length = ps.length) (hbody : ∀ f, BodyN P w K mg base g k N qual st f sp) : MetG P w K mg base g (k + 1) C m sp ps :=
  F.metX S len fun f cdv A outer s H vs Q E hr hg h => let ⟨t, h1, h2⟩ := hbody f cdv A outer s H vs Q E hr hg h; ⟨t, h1.nox, h2⟩
theorem Dk.ini (F : Dk K mg x C qual st dvs) (S : FnScope N ps (defScope st)) (len : ∀ vs H Q E, sp vs H Q E → vs.length = ps.length) (hbody : ∀ f, BodyX P w K mg base false k N qual st f sp) : Ini P w K mg base (k + 1) x C qual st dvs ps sp := by
  obtain ⟨f, fd, M, hm, F1⟩ := F.ex
  exact ⟨f, fd, M, hm, F1, Fg.of (F1.ok S len fun cdv A outer s H vs Q E hr h => hbody f cdv A outer s H vs Q E hr (fun e => nomatch e) h)⟩
theorem Ini.mak {n : Nat} {ks : List Str} {gV : List V → List V → List V} (F : Ini P w K mg base k x C qual st dvs ps sp) (b : ∀ f fd, FunD K "__init__" qual (defArgs st) (defBody st) (defScope st) dvs [] f fd → ∃ gg, KBn K fd ps (n + 1) ks gg gV) : MakG P w K mg base k x C sp n ks gV := by
  obtain ⟨f, fd, M, hm, F1, G⟩ := F.ex
  obtain ⟨gg, kb⟩ := b f fd F1
  exact ⟨f, fd, ps, gg, M, G, hm, kb⟩
end
end G
set_option Elab.async false
set_option linter.all false
set_option maxRecDepth 100000
namespace G
open PySem PySem.Spec PyProof.Rows L2
/-! ### sequences, kinds -/
/-- a list or a tuple -/
def Sq (K : PySem.W.Frag) (H : Hp) (v : V) (xs : List V) : Prop := ∃ p, v = .ref p ∧ (SqL K H p xs ∨ SqT K H p xs)
theorem Sq.l {K : PySem.W.Frag} {H : Hp} {p : Addr} {xs : List V} (h : SqL K H p xs) : Sq K H (.ref p) xs := ⟨p, rfl, .inl h⟩
theorem Sq.t {K : PySem.W.Frag} {H : Hp} {p : Addr} {xs : List V} (h : SqT K H p xs) : Sq K H (.ref p) xs := ⟨p, rfl, .inr h⟩
theorem Sq.mono {K : PySem.W.Frag} {H H' : Hp} {v : V} {xs : List V} (e : Ex H H') (h : Sq K H v xs) : Sq K H' v xs := by
  obtain ⟨p, rfl, h⟩ := h
  exact ⟨p, rfl, h.elim (fun h => .inl (sqL_mono e h)) fun h => .inr (sqT_mono e h)⟩
theorem tyL {K : PySem.W.Frag} {H : Hp} {p : Addr} {xs : List V} (h : SqL K H p xs) : TyX K H (.ref p) (.type "list") := by
  rcases h with (h | ⟨o, h⟩) | ⟨o, its, n, h1, h2, h3, h4⟩
  · exact .base (.lst h)
  · exact .base (.frz h)
  · exact .kList h1 h2
theorem tyT {K : PySem.W.Frag} {H : Hp} {p : Addr} {xs : List V} (h : SqT K H p xs) : TyX K H (.ref p) (.type "tuple") := by
  rcases h with (h | ⟨o, h⟩) | ⟨o, its, n, h1, h2, h3⟩
  · exact .base (.tup h)
  · exact .fTuple h
  · exact .kTuple h1 h2
theorem l_tupSq {K : PySem.W.Frag} {H : Hp} {v : V} {xs : List V} {Q : VK} (hs : Sq K H v xs) (q : ∀ p H', Ex H H' → SqT K H' p xs → Q (.ref p) H') : rTupA K [v] H Q := by
  obtain ⟨p, rfl, h | h⟩ := hs
  · exact ⟨xs, .inl ⟨h, fun l hl => q l _ (Ex.new hl) (.of upd_same)⟩⟩
  · exact ⟨xs, .inr ⟨h, q p H (Ex.refl H) h⟩⟩
theorem sqT_but {K : PySem.W.Frag} {H H' : Hp} {x p C dx : Addr} {fs : List (Str × V)} {xs : List V} (b : But x H H') (hx : H x = some (.ins C dx fs)) (h : SqT K H p xs) : SqT K H' p xs := by
  rcases h with (h | ⟨o, h⟩) | h
  · exact .inl (.inl (b _ _ (fun z => by rw [z, hx] at h; cases h) h))
  · exact .inl (.inr ⟨o, b _ _ (fun z => by rw [z, hx] at h; cases h) h⟩)
  · exact .inr h
theorem sqL_but {K : PySem.W.Frag} {H H' : Hp} {x p C dx : Addr} {fs : List (Str × V)} {xs : List V} (b : But x H H') (hx : H x = some (.ins C dx fs)) (h : SqL K H p xs) : SqL K H' p xs := by
  rcases h with (h | ⟨o, h⟩) | h
  · exact .inl (.inl (b _ _ (fun z => by rw [z, hx] at h; cases h) h))
  · exact .inl (.inr ⟨o, b _ _ (fun z => by rw [z, hx] at h; cases h) h⟩)
  · exact .inr h
theorem Sq.but {K : PySem.W.Frag} {H H' : Hp} {x C dx : Addr} {fs : List (Str × V)} {v : V} {xs : List V} (b : But x H H') (hx : H x = some (.ins C dx fs)) (h : Sq K H v xs) : Sq K H' v xs := by
  obtain ⟨p, rfl, h⟩ := h
  exact ⟨p, rfl, h.elim (fun h => .inl (sqL_but b hx h)) fun h => .inr (sqT_but b hx h)⟩
/-- an int, no bool -/
def isI : V → Bool
  | .int _ => true
  | _ => false
def isB : V → Bool
  | .bl _ => true
  | _ => false
/-- a value whose kind is known -/
def Kd (K : PySem.W.Frag) (H : Hp) (x : V) : Prop := flatV x = true ∨ ∃ p T, x = .ref p ∧ TyX K H x (.type T) ∧ (T = "list" ∨ T = "tuple" ∨ T = "dict")
theorem Kd.l {K : PySem.W.Frag} {H : Hp} {p : Addr} {xs : List V} (h : SqL K H p xs) : Kd K H (.ref p) := .inr ⟨p, _, rfl, tyL h, .inl rfl⟩
theorem Kd.t {K : PySem.W.Frag} {H : Hp} {p : Addr} {xs : List V} (h : SqT K H p xs) : Kd K H (.ref p) := .inr ⟨p, _, rfl, tyT h, .inr (.inl rfl)⟩
theorem Kd.d {K : PySem.W.Frag} {H : Hp} {p : Addr} {kvs : List (Key × V)} (h : H p = some (.dK kvs)) : Kd K H (.ref p) := .inr ⟨p, _, rfl, .base (.dK h), .inr (.inr rfl)⟩
/-- its type, and what isinstance says of it with int, with bool -/
theorem Kd.is {K : PySem.W.Frag} {H : Hp} {x : V} (h : Kd K H x) : ∃ t, TyX K H x t ∧ (∃ b, PySem.W.kitOne K t (.type "int") = some b ∧ isI x = (b && !isB x)) ∧ PySem.W.kitOne K t (.type "bool") = some (isB x) ∧ (isI x = true → PySem.W.kitOne K t (.type "int") = some true) := by
  rcases h with h | ⟨p, T, rfl, ty, rfl | rfl | rfl⟩
  · cases x with
    | non => exact ⟨_, .base .non, ⟨false, kt_NoneType_int, rfl⟩, kt_NoneType_bool, fun e => nomatch e⟩
    | bl b => exact ⟨_, .base (.bl b), ⟨true, kt_bool_int, rfl⟩, kt_bool_bool, fun e => nomatch e⟩
    | int i => exact ⟨_, .base (.int i), ⟨true, kt_int_int, rfl⟩, kt_int_bool, fun _ => kt_int_int⟩
    | str z => exact ⟨_, .base (.str z), ⟨false, kt_str_int, rfl⟩, kt_str_bool, fun e => nomatch e⟩
    | byt b => cases h
    | flt b => cases h
    | ref b => cases h
    | ty b => cases h
  · exact ⟨_, ty, ⟨false, kt_list_int, rfl⟩, kt_list_bool, fun e => nomatch e⟩
  · exact ⟨_, ty, ⟨false, kt_tuple_int, rfl⟩, kt_tuple_bool, fun e => nomatch e⟩
  · exact ⟨_, ty, ⟨false, kt_dict_int, rfl⟩, kt_dict_bool, fun e => nomatch e⟩
theorem Kd.mono {K : PySem.W.Frag} {H H' : Hp} {x : V} (e : Ex H H') (h : Kd K H x) : Kd K H' x := by
  rcases h with h | ⟨p, T, rfl, ty, hT⟩
  · exact .inl h
  · refine .inr ⟨p, T, rfl, ?_, hT⟩
    generalize hx : V.ref p = x at ty
    generalize ht : Value.type T = t at ty
    cases ty with
    | base b =>
      cases b with
      | lst h => exact .base (.lst (e _ _ h))
      | frz h => exact .base (.frz (e _ _ h))
      | tup h => exact .base (.tup (e _ _ h))
      | dK h => exact .base (.dK (e _ _ h))
      | dT h => exact .base (.dT (e _ _ h))
      | non => cases hx
      | bl _ => cases hx
      | int _ => cases hx
      | str _ => cases hx
      | flt _ => cases hx
      | ins => cases ht
    | byt _ => cases hx
    | set h => exact .set (e _ _ h)
    | kList h c => exact .kList h c
    | kTuple h c => exact .kTuple h c
    | kDict h c => exact .kDict h c
    | fTuple h => exact .fTuple (e _ _ h)
    | fDict h => exact .fDict (e _ _ h)
/-! ### [f(x) for x in xs] -/
section
variable {K : PySem.W.Frag} {xs : List V} {f : V → V} {i : Nat} {vs : List Nat} {σ : L2.St} {H : Hp} {te : TE} {Q : VK} {v : V}
theorem lc_turn {DD : Addr} (hD : H DD = none) (hlen : xs.length ≤ 1000) (hw : ∀ x, wipe ((wipe σ vs).set i (some x)) vs = wipe σ vs)
    (hte : ∀ x ∈ xs, ∀ H' R, Ex H H' → (∀ H'', Ex H' H'' → R (f x) H'') → te ((wipe σ vs).set i (some x)) H' R) (j : Nat) (x : V) (H' : Hp) (hj : xs[j]? = some x) (hp : Ex H H' ∧ H' DD = some (.lst ((xs.take j).map f))) :
    gName i x (wipe σ vs) H' fun σ2 H2 => wipe σ2 vs = wipe σ vs ∧ tYes σ2 H2 fun b H3 =>
      if b = true then te σ2 H3 fun y H4 => ∃ acc, H4 DD = some (.lst acc) ∧ acc.length < sizeLine ∧ Ex H (upd H4 DD (.lst (acc ++ [y]))) ∧ upd H4 DD (.lst (acc ++ [y])) DD = some (.lst ((xs.take (j + 1)).map f)) else Ex H H3 ∧ H3 DD = some (.lst ((xs.take (j + 1)).map f)) := by
  refine ⟨hw x, i_yes ?_⟩
  rw [if_pos rfl]
  refine hte x (List.mem_of_getElem? hj) H' _ hp.1 fun H'' e => ⟨_, e _ _ hp.2, ?_, (hp.1.trans e).mut hD, ?_⟩
  · rw [List.length_map, List.length_take]
    exact szl (by omega)
  · rw [upd_same, take_succ hj, List.map_append]
    rfl
theorem lc_mapL {a : Addr} (hs : SqL K H a xs) (hlen : xs.length ≤ 1000) (hw : ∀ x, wipe ((wipe σ vs).set i (some x)) vs = wipe σ vs)
    (hte : ∀ x ∈ xs, ∀ H' R, Ex H H' → (∀ H'', Ex H' H'' → R (f x) H'') → te ((wipe σ vs).set i (some x)) H' R) (hQ : ∀ D H', H D = none → Ex H H' → H' D = some (.lst (xs.map f)) → Q (.ref D) H') : lcB (Itl K a) (gName i) tYes te vs σ Q H := by
  intro DD hD
  refine lc_list (xs := xs) (fun j H' => Ex H H' ∧ H' DD = some (.lst ((xs.take j).map f))) ⟨Ex.new hD, upd_same⟩ (fun _ H' _ p => sqL_mono p.1 hs) (fun j x H' hj hp => lc_turn hD hlen hw hte j x H' hj hp) (fun H' p => hQ DD H' hD p.1 (by rw [p.2, List.take_length]))
theorem lc_mapT {a : Addr} (hs : SqT K H a xs) (hlen : xs.length ≤ 1000) (hw : ∀ x, wipe ((wipe σ vs).set i (some x)) vs = wipe σ vs)
    (hte : ∀ x ∈ xs, ∀ H' R, Ex H H' → (∀ H'', Ex H' H'' → R (f x) H'') → te ((wipe σ vs).set i (some x)) H' R) (hQ : ∀ D H', H D = none → Ex H H' → H' D = some (.lst (xs.map f)) → Q (.ref D) H') : lcB (Itt K a) (gName i) tYes te vs σ Q H := by
  intro DD hD
  refine lc_tup (xs := xs) (fun j H' => Ex H H' ∧ H' DD = some (.lst ((xs.take j).map f))) ⟨Ex.new hD, upd_same⟩ (fun _ H' _ p => sqT_mono p.1 hs) (fun j x H' hj hp => lc_turn hD hlen hw hte j x H' hj hp) (fun H' p => hQ DD H' hD p.1 (by rw [p.2, List.take_length]))
/-- .. over a variable that holds a list or a tuple -/
theorem lc_var {k : Nat} (hv : σ[k]? = some (some v)) (hs : Sq K H v xs) (hlen : xs.length ≤ 1000) (hw : ∀ x, wipe ((wipe σ vs).set i (some x)) vs = wipe σ vs)
    (hte : ∀ x ∈ xs, ∀ H' R, Ex H H' → (∀ H'', Ex H' H'' → R (f x) H'') → te ((wipe σ vs).set i (some x)) H' R) (hQ : ∀ D H', H D = none → Ex H H' → H' D = some (.lst (xs.map f)) → Q (.ref D) H') : iAny K (tVar k) σ H fun J H1 => lcB J (gName i) tYes te vs σ Q H1 := by
  obtain ⟨p, rfl, h | h⟩ := hs
  · exact i_anyL ⟨_, hv, p, rfl, ⟨_, h⟩, lc_mapL h hlen hw hte hQ⟩
  · exact i_anyT ⟨_, hv, p, rfl, ⟨_, h⟩, lc_mapT h hlen hw hte hQ⟩
end
/-! ### the law's own draws, the list of the script's numbers at L -/
structure Dl (H : Hp) (st L : Addr) (b : Nat) : Prop where
  ex : ∃ (ns : List Int) (a c : Int), H st = some (.lst [.ref L, .int a, .int c]) ∧ H L = some (.lst (ns.map V.int)) ∧ st ≠ L ∧ 0 ≤ c ∧ c ≤ (b : Int)
theorem Dl.up {H : Hp} {st L : Addr} {b b' : Nat} (d : Dl H st L b) (h : b ≤ b') : Dl H st L b' := by
  obtain ⟨ns, a, c, h1, h2, h3, h4, h5⟩ := d.ex
  exact ⟨ns, a, c, h1, h2, h3, h4, by omega⟩
theorem Dl.mono {H H' : Hp} {st L : Addr} {b : Nat} (d : Dl H st L b) (e : Ex H H') : Dl H' st L b := by
  obtain ⟨ns, a, c, h1, h2, h3, h4, h5⟩ := d.ex
  exact ⟨ns, a, c, e _ _ h1, e _ _ h2, h3, h4, h5⟩
/-- what is written apart from them leaves them -/
theorem Dl.put {H : Hp} {st L p : Addr} {b : Nat} {o : HO} (d : Dl H st L b) (h1 : p ≠ st) (h2 : p ≠ L) : Dl (upd H p o) st L b := by
  obtain ⟨ns, a, c, g1, g2, g3, g4, g5⟩ := d.ex
  exact ⟨ns, a, c, by rw [upd_ne h1.symm]; exact g1, by rw [upd_ne h2.symm]; exact g2, g3, g4, g5⟩
theorem Dl.ne {H : Hp} {st L p : Addr} {b : Nat} (d : Dl H st L b) (h : H p = none) : p ≠ st ∧ p ≠ L := by
  obtain ⟨ns, a, c, h1, h2, _⟩ := d.ex
  exact ⟨(ne_of_none h1 h).symm, (ne_of_none h2 h).symm⟩
def spOpenL (K : PySem.W.Frag) : Sp := fun vs H Q _ => ∃ (a : Addr) (ns : List Int), vs = [.ref a] ∧ SqL K H a (ns.map V.int) ∧ ns.length ≤ 63 ∧ ∀ (st L : Addr) (H' : Hp), H st = none → H L = none → Dl H' st L 0 → Ex H H' → Q (.ref st) H'
def spDrawL : Sp := fun vs H Q _ => ∃ (st L : Addr) (n : Int) (b : Nat), vs = [.ref st, .int n] ∧ 0 < n ∧ n ≤ 10 ^ 18 ∧ Dl H st L b ∧ b < 2 ^ 60 ∧
  ∀ (r : Int) (H' : Hp), 0 ≤ r → r < n → Dl H' st L (b + 1) → But st H H' → Q (.int r) H'
theorem drawL {st L : Addr} {n : Int} {b : Nat} {H : Hp} {Q : VK} {E : XK} (hd : Dl H st L b) (hn : 0 < n) (hn2 : n ≤ 10 ^ 18) (hb : b < 2 ^ 60) (q : ∀ r H', 0 ≤ r → r < n → Dl H' st L (b + 1) → But st H H' → Q (.int r) H') : spDrawL ([.ref st, .int n] ++ []) H Q E :=
  ⟨st, L, n, b, rfl, hn, hn2, hd, hb, q⟩
theorem But.put {st p : Addr} {H H' : Hp} {o : HO} (e : But st H H') (h : H p = none) : But st H (upd H' p o) := fun a u n ha => by
  rw [upd_ne (ne_of_none ha h)]
  exact e a u n ha
theorem But.free {st p : Addr} {H H' : Hp} (e : But st H H') (hp : p ≠ st) (h : H' p = none) : H p = none := by
  cases q : H p with
  | none => rfl
  | some o =>
    rw [e _ _ hp q] at h
    cases h
theorem Dl.ins_ne {st L p C dx : Addr} {H : Hp} {b : Nat} {fs : List (Str × V)} (d : Dl H st L b) (h : H p = some (.ins C dx fs)) : p ≠ st := by
  obtain ⟨ns, a, c, h1, _⟩ := d.ex
  intro z
  rw [z, h1] at h
  cases h
theorem sqT_dl {K : PySem.W.Frag} {H H' : Hp} {st L p : Addr} {b : Nat} {xs : List V} (d : Dl H st L b) (e : But st H H') (h : SqT K H p xs) : SqT K H' p xs := by
  obtain ⟨ns, a, c, h1, _⟩ := d.ex
  rcases h with (h | ⟨o, h⟩) | h
  · exact .inl (.inl (e _ _ (fun z => by rw [z, h1] at h; cases h) h))
  · exact .inl (.inr ⟨o, e _ _ (fun z => by rw [z, h1] at h; cases h) h⟩)
  · exact .inr h
/-! ### steps for what is new -/
section
variable {K : PySem.W.Frag} {σ : L2.St} {H : Hp} {Q : VK} {t tz : TA} {ta tb te to : TE} {D : Ends}
theorem i_mkS {C : Addr} {n m : Nat} {sp : Sp} {gV : List V → List V → List V} {E : L2.St → XK} (q : t σ H fun vs H1 => tz σ H1 fun zs H2 => vs.length = n ∧ zs.length = m ∧ ∀ x dx, H2 x = none → H2 dx = none → dx ≠ x →
  sp (gV (.ref x :: vs) zs) (upd (upd H2 dx (.own x)) x (.ins C dx [])) (fun v H3 => v = .non ∧ Q (.ref x) H3) (E σ)) : tMkS C n m sp gV E t tz σ H Q := q
theorem i_cS {n m : Nat} {sp : Sp} {gV : List V → List V → List V} {E : L2.St → XK} (q : t σ H fun vs H1 => tz σ H1 fun zs H2 => vs.length = n ∧ zs.length = m ∧ sp (gV vs zs) H2 Q (E σ)) : tCS n m sp gV E t tz σ H Q := q
theorem i_fld {f : Str} (q : ta σ H fun x H1 => ∃ a C dx fs v, x = .ref a ∧ H1 a = some (.ins C dx fs) ∧ Cls K C ∧ NoAttr K C f ∧ fs.lookup f = some v ∧ Q v H1) : tFld K ta f σ H Q := q
theorem i_sFld {f : Str} (q : tb σ H fun y H1 => ta σ H1 fun x H2 => ∃ a C dx fs, x = .ref a ∧ H2 a = some (.ins C dx fs) ∧ Cls K C ∧ NoAttr K C f ∧ fs.length < 1000 ∧ D.nx σ (upd H2 a (.ins C dx (putF f y fs)))) : sFld K ta tb f D σ H := q
theorem i_tX {C : Addr} {f : Str} {QX : XK} (q : t σ H fun vs H1 => ∃ v, vs = [v] ∧ ∀ d, H1 d = none → QX (.ref C) (some d) (upd H1 d (.xd [(f, v)]))) : tX C f t σ H QX := q
theorem l_len2 {vs zs : List V} {n m : Nat} {R : Prop} (h1 : vs.length = n) (h2 : zs.length = m) (q : R) : vs.length = n ∧ zs.length = m ∧ R := ⟨h1, h2, q⟩
end
end G
set_option Elab.async false
set_option linter.all false
set_option maxRecDepth 100000
namespace G
open PySem PySem.Spec PyProof.Rows L2
theorem l_addL {K : PySem.W.Frag} {H : Hp} {a b : Addr} {xs ys : List V} {Q : VK} (h1 : H a = some (.lst xs)) (h2 : H b = some (.lst ys)) (hl : xs.length + ys.length ≤ 100000) (q : ∀ p, H p = none → Q (.ref p) (upd H p (.lst (xs ++ ys)))) : rAdd K (.ref a) (.ref b) H Q :=
  .inl ⟨a, b, xs, ys, rfl, rfl, h1, h2, sz hl, q⟩
theorem cut_map {α : Type} (f : α → V) (ns : List α) (lo hi : Option Int) : ∃ A : List α, cutV (ns.map f) lo hi = A.map f ∧ (∀ n ∈ A, n ∈ ns) ∧ A.length ≤ ns.length := by
  refine ⟨_, cutV_map f ns lo hi, fun n hn => List.mem_of_mem_drop (List.mem_of_mem_take hn), ?_⟩
  rw [List.length_take, List.length_drop]
  omega
theorem cut_lo (xs : List V) (k : Nat) (h : k ≤ xs.length) : cutV xs none (some (k : Int)) = xs.take k := by
  unfold cutV
  rw [HT.sIx_none, HT.sIx_nat, Nat.min_eq_left h, List.drop_zero, Nat.sub_zero]
theorem cut_hi (xs : List V) (k : Nat) (h : k ≤ xs.length) : cutV xs (some (k : Int)) none = xs.drop k := by
  unfold cutV
  rw [HT.sIx_none, HT.sIx_nat, Nat.min_eq_left h, List.take_of_length_le]
  rw [List.length_drop]
  exact Nat.le_refl _
/-! ### a dict of the written part, its keys texts -/
/-- at d: a written dict; m z: what stands at the key z -/
structure Wd (K : PySem.W.Frag) (w : World) (d : Addr) (m : Str → Option V) : Prop where
  ex : ∃ (es : Array DictEntry) (n : Nat), K.lookup d = some ⟨.type "dict", none, .dict es n, #[]⟩ ∧ PySem.W.KeysLit w.params es.toList ∧ (d == sysModules) = false ∧ ∀ z, RelO (m z) (findBy Value.isStrOf es z)
theorem wd_find : ∀ {es : List DictEntry} {kvs : List (Str × V)}, Paired (fun (e : DictEntry) (kv : Str × V) => (∃ t, e.key = .str kv.1 t) ∧ RelV kv.2 e.val) es kvs → ∀ z, RelO (kvs.lookup z) ((es.find? fun e => Value.isStrOf z e.key).map (·.val))
  | _, _, .nil, z => True.intro
  | e :: es, kv :: kvs, .cons ⟨⟨t, h1⟩, h2⟩ r, z => by
    obtain ⟨k, v⟩ := kv
    rw [lookup_put, List.find?_cons, h1]
    by_cases hz : z = k
    · subst hz
      rw [if_pos rfl, show Value.isStrOf z (.str z t) = true from beq_self_eq_true z]
      exact h2
    · rw [if_neg hz, show Value.isStrOf z (.str k t) = false from ?_]
      · exact wd_find r z
      · exact beq_eq_false_iff_ne.mpr fun e => hz e.symm
theorem wd_mk {K : PySem.W.Frag} {w : World} {d : Addr} {kvs : List (Str × V)} {es : List DictEntry} {n : Nat} (hl : K.lookup d = some ⟨.type "dict", none, .dict es.toArray n, #[]⟩) (hk : PySem.W.KeysLit w.params es) (hs : (d == sysModules) = false)
    (hp : Paired (fun (e : DictEntry) (kv : Str × V) => (∃ t, e.key = .str kv.1 t) ∧ RelV kv.2 e.val) es kvs) : Wd K w d (fun z => kvs.lookup z) :=
  ⟨es.toArray, n, hl, hk, hs, fun z => by unfold findBy; rw [List.find?_toArray]; exact wd_find hp z⟩
section
variable {X : Cx} {d : Addr} {m : Str → Option V}
theorem wd_in (D : Wd X.K X.w d m) : OpR X (compareOp .In) (fun x y H Q => ∃ z : Str, x = .str z ∧ y = .ref d ∧ Q (.bl (m z).isSome) H) := by
  intro pins s σ H x y v u Q I rx ry h
  obtain ⟨es, n, h1, h2, h3, h4⟩ := D.ex
  obtain ⟨z, rfl, rfl, q⟩ := h
  obtain ⟨t, rfl⟩ := rx
  cases ry
  refine wpAny_in_of (PySem.strKind_is X.prog X.w z t) h3 (PySem.W.mapOf_K (prog := X.prog) I.kIn h1 h2) ?_
  rw [← (h4 z).isSome_eq]
  exact ⟨.bl _, H, I.tok _, rfl, q⟩
theorem wd_notIn (D : Wd X.K X.w d m) : OpR X (compareOp .NotIn) (fun x y H Q => ∃ z : Str, x = .str z ∧ y = .ref d ∧ Q (.bl (!(m z).isSome)) H) := by
  intro pins s σ H x y v u Q I rx ry h
  obtain ⟨es, n, h1, h2, h3, h4⟩ := D.ex
  obtain ⟨z, rfl, rfl, q⟩ := h
  obtain ⟨t, rfl⟩ := rx
  cases ry
  refine wpAny_notIn_of (PySem.strKind_is X.prog X.w z t) h3 (PySem.W.mapOf_K (prog := X.prog) I.kIn h1 h2) ?_
  rw [← (h4 z).isSome_eq]
  exact ⟨.bl _, H, I.tok _, rfl, q⟩
theorem wd_ix (D : Wd X.K X.w d m) : IxR X (fun x y H Q => ∃ z v, x = .ref d ∧ y = .str z ∧ m z = some v ∧ Q v H) := by
  intro value slice pins s σ H x y v u Q I rx ry h hs
  obtain ⟨es, n, h1, h2, h3, h4⟩ := D.ex
  obtain ⟨z, r, rfl, rfl, e, q⟩ := h
  obtain rfl : v = Value.ref d := rx
  obtain ⟨t, rfl⟩ := ry
  have hm := PySem.W.mapOf_K (prog := X.prog) (w := X.w) I.kIn h1 h2
  have h5 := h4 z
  rw [e] at h5
  obtain ⟨u0, hu, ru⟩ := RelO.some_of h5
  exact tail_any hm.typeIs slot_dict_getitem.lookup (wpAny_getItem_of (strKind_is X.prog X.w z t) hm hu ⟨r, H, I.tok _, ru, q⟩) hs
/-- d.get(y, x) -/
def tWget (d : Addr) (m : Str → Option V) (td ty tx : TE) : TE := fun σ H Q => td σ H fun x H1 => x = .ref d ∧ ty σ H1 fun y H2 => tx σ H2 fun z H3 => ∃ k : Str, y = .str k ∧ Q ((m k).getD z) H3
theorem pe_wget {o e f : Expr} {td ty tx : TE} {apos cpos : Pos} (D : Wd X.K X.w d m) (ho : PE X o td) (he : PE X e ty) (hf : PE X f tx) (mm : M2 X o "get" apos e f cpos) : PE X (.Call (.Attribute o "get" apos) [e, f] [] cpos) (tWget d m td ty tx) := by
  obtain ⟨es, n, h1, h2, h3, h4⟩ := D.ex
  refine ⟨fun pins s σ H Q I h => ?_⟩
  refine wpAny_Call_method mm.base mm.few mm.line PySem.F.plainAttrs_dict PySem.F.slot_dict_get PySem.F.type_dict_get (thn (ho.run pins s σ H _ I h) fun u s1 ⟨x, H1, I1, rx, ex, q1⟩ => ?_)
  subst ex
  obtain rfl : u = Value.ref d := rx
  refine ⟨(PySem.W.mapOf_K (prog := X.prog) (w := X.w) I1.kIn h1 h2).typeIs, fun b q => ?_, ?_⟩
  · cases q
    exact ⟨_, I1.kIn _ _ h1, rfl⟩
  rw [mm.trees]
  refine Calls.callWith_builtin rfl (Calls.evalArgs_plain (Calls.spliced_cons (thn (he.run pins s1 σ H1 _ I1 q1) fun iv s2 ⟨y, H2, I2, ry, q2⟩ =>
    Calls.spliced_cons (thn (hf.run pins s2 σ H2 _ I2 q2) fun fv s3 ⟨z, H3, I3, rz, k, ek, q3⟩ => Calls.spliced_nil ?_))))
  subst ek
  obtain ⟨t, rfl⟩ := ry
  have hm := PySem.W.mapOf_K (prog := X.prog) (w := X.w) I3.kIn h1 h2
  exact call_meetsIn PySem.F.slot_dict_get hm.typeIs PySem.F.entry_dict_get (PySem.F.args_dict_get_3 _ _ _) (meets_dict_get_default (strKind X.prog X.w) d (strKind_is X.prog X.w k t) h3 fv) ⟨_, hm, ⟨_, H3, I3.tok _, (h4 k).getD rz, q3⟩⟩
end
/-! ### a text so many times -/
def rMulS : R2 := fun x y H Q => ∃ z n, x = .str z ∧ y = .int n ∧ MulOk z n ∧ Q (.str (Txt.mul z n)) H
theorem gMulS {X : Cx} : OpR X (binaryOp .Mult) rMulS := by
  intro pins s σ H x y v u Q I rx ry h
  obtain ⟨z, n, rfl, rfl, hok, q⟩ := h
  obtain ⟨t, rfl⟩ := rx
  obtain ⟨t', rfl⟩ := ry
  exact SB.mul hok fun t' k => ⟨.str (Txt.mul z n), H, I.tok _, ⟨_, rfl⟩, q⟩
end G
set_option Elab.async false
set_option linter.all false
set_option maxRecDepth 100000
namespace G
open PySem PySem.Spec PyProof.Rows L2
section
variable {X : Cx} {g : Bool} {k j : Nat} {f C : Addr} {fd : FuncData} {ps : List Str} {sp : Sp} {ds : List Value} {dvs : List V} {E : L2.St → XK} {pins : List (Addr × Obj)} {σ : L2.St} {H : Hp} {s : Shared} {Q : VK}
/-- a call's code, from around A1 -/
theorem code_at {A1 : Around} {us : List Value} {vs : List V} {R : Result → Shared → Prop} (F : Fg X.prog X.w X.K X.mg X.base g k f fd ps sp) (hr : Room k A1) (hg : g = true → A1.guards = some []) (hf : A1.frames = X.A.frames) (hb : Binds X.K fd ps ds) (hd : Vals dvs ds)
    (hx : PassesAt (L2.CX X.prog X.w) X σ (E σ)) (I : Inv X pins σ H s) (r : Vals vs us) (h : sp (vs ++ dvs) H Q (E σ)) (ok : ∀ u s', EP X pins σ Q u s' → R (.ok (.ret u)) s') (er : ∀ e s', X.xe e s' → R (.error e) s') :
    codeAny (model X.prog X.w) A1 (.call (.ref f) ⟨us, []⟩) R s := by
  have e := I.env0
  have e0 : Env0 X.prog X.w X.K X.mg X.base A1 X.stack s H := ⟨by rw [hf]; exact e.frames, e.mod, e.bs, e.bsz, e.funs, e.frf, e.hok, e.bare⟩
  have r2 := Vals.append r hd
  have hl : (us ++ ds).length = ps.length := by rw [← r2.length]; exact F.len _ _ _ _ h
  refine codeAny_mono (F.go A1 X.stack s H ⟨us, []⟩ _ _ Q (E σ) hr hg e0 (hb s us I.kIn hl) r2 h) fun r s' hq => ?_
  cases r with
  | error e => exact er e s' (hx pins H s e s' I hq)
  | ok fl =>
    cases fl with
    | ret u => exact ok u s' (I.after hq)
    | next => exact False.elim hq
    | brk => exact False.elim hq
    | cont => exact False.elim hq
end
/-! ### a property, read and set -/
structure PrpG (P : Program) (w : World) (K : PySem.W.Frag) (mg : Str → Option Value) (base : Heap) (k : Nat) (C : Addr) (f : Str) (sp : Sp) : Prop where
  ex : ∃ (p g : Addr) (fd : FuncData), Cls K C ∧ PropOf K C f p g ∧ FnOk P w K mg base CX0 k g fd ["self"] sp ∧ Binds K fd ["self"] []
/-- the property's record, its getter and its setter -/
structure Dp1 (K : PySem.W.Frag) (C : Addr) (f qual : Str) (st : Stmt) : Prop where
  ex : ∃ (p g : Addr) (fd : FuncData), Cls K C ∧ PropOf K C f p g ∧ Fun K f qual st g fd ∧ Binds K fd ["self"] []
structure Dp2 (K : PySem.W.Frag) (C : Addr) (f qual : Str) (st : Stmt) (ps : List Str) : Prop where
  ex : ∃ (p g : Addr) (fd : FuncData) (a : Value) (rest : List Value), Cls K C ∧ PySem.W.takerIn K C f = some (some (.ref p)) ∧ PySem.W.typeIn K (.ref p) = some (.type "property") ∧ PySem.W.recIn K p "property" = some (a :: .ref g :: rest) ∧ Fun K f qual st g fd ∧ Binds K fd ps []
structure StpG (P : Program) (w : World) (K : PySem.W.Frag) (mg : Str → Option Value) (base : Heap) (k : Nat) (C : Addr) (f : Str) (sp : Sp) (ps : List Str) : Prop where
  ex : ∃ (p g : Addr) (fd : FuncData) (a : Value) (rest : List Value), Cls K C ∧ PySem.W.takerIn K C f = some (some (.ref p)) ∧ PySem.W.typeIn K (.ref p) = some (.type "property") ∧ PySem.W.recIn K p "property" = some (a :: .ref g :: rest) ∧ Fg P w K mg base false k g fd ps sp ∧ Binds K fd ps []
def sStp (C : Addr) (sp : Sp) (E : L2.St → XK) (ta tv : TE) : TS := fun D σ H => tv σ H fun y H1 => ta σ H1 fun x H2 => ∃ a dx fs, x = .ref a ∧ H2 a = some (.ins C dx fs) ∧ sp [.ref a, y] H2 (fun _ H3 => D.nx σ H3) (E σ)
section
variable {P : Program} {w : World} {K : PySem.W.Frag} {mg : Str → Option Value} {base : Heap} {k : Nat} {C : Addr} {f qual : Str} {st : Stmt} {N ps : List Str} {sp : Sp}
theorem Dp1.prp (F : Dp1 K C f qual st) (S : FnScope N ["self"] (defScope st)) (len : ∀ vs H Q E, sp vs H Q E → vs.length = 1)
    (hbody : ∀ (fa : Addr) (cdv : Value) (A : Around) (outer : List Env) (s : Shared) (H : Hp) (vs : List V) (Q : VK) (E : XK), Room k (A.deeper (envOfC qual (defScope st) s.heap.objs.size fa cdv)) → sp vs H Q E →
      ∃ t, PSs (cxOf CX0 P w K mg base N qual (defScope st) fa cdv A outer s H E).nox (defBody st) t ∧ t { nx := fun _ H' => Q .non H', rt := Q } (start N vs) H) : PrpG P w K mg base (k + 1) C f sp := by
  obtain ⟨p, g, fd, c, hp, F1, b⟩ := F.ex
  exact ⟨p, g, fd, c, hp, F1.ok S len (hbody g), b⟩
theorem Dp2.stp (F : Dp2 K C f qual st ps) (S : FnScope N ps (defScope st)) (len : ∀ vs H Q E, sp vs H Q E → vs.length = ps.length) (hbody : ∀ f, BodyX P w K mg base false k N qual st f sp) : StpG P w K mg base (k + 1) C f sp ps := by
  obtain ⟨p, g, fd, a, rest, c, h1, h2, h3, F1, b⟩ := F.ex
  exact ⟨p, g, fd, a, rest, c, h1, h2, h3, fg_of F1 S len (hbody g), b⟩
end
section
variable {X : Cx} {k j : Nat} {C : Addr} {f : Str} {sp : Sp} {ps : List Str} {W : WX} {e o value : Expr} {ta tv te : TE} {pos pos' : Pos}
theorem pe_prp (c : PrpG X.prog X.w X.K X.mg X.base k C f sp) (hr : Room j X.A) (hk : k + 1 ≤ j) (he : PE X e ta) (hab : attributeBase e f X.env (eval e X.env) = eval e X.env := by rfl) : PE X (.Attribute e f pos) (tProp C sp [] (fun _ _ _ => False) ta) := by
  obtain ⟨p, g, fd, hc, hp, F, b⟩ := c.ex
  exact pe_prop he hc hp F (hr.mono hk) b .nil (fun _ _ _ _ _ _ _ z => (show False from z).elim) hab
theorem ps_stp (c : StpG X.prog X.w X.K X.mg X.base k C f sp ps) (hr : Room j X.A) (hk : k + 2 ≤ j) (tk : Takes X W) (ha : PE X o ta) (hv : PE X value tv) (hs : swapsWith value (some (.Attribute o f pos')) pos.line X.env = pure false) : PS X (.Assign [.Attribute o f pos'] value pos) (sStp C sp (WE W) ta tv) := by
  obtain ⟨p, g, fd, av, rest, hc, h1, h2, h3, F, b⟩ := c.ex
  refine ⟨fun pins s σ H D I h => plainObj_wpAny_Assign_Attribute (thn (hv.run pins s σ H _ I h) fun u s1 ⟨y, H1, I1, ry, q⟩ => thn (ha.run pins s1 σ H1 _ I1 q) fun ov s2 ⟨x, H2, I2, rx, a, dx, fs, ex, ea, q2⟩ => ?_) hs⟩
  subst ex
  obtain rfl : ov = Value.ref a := rx
  obtain ⟨mA, O, _⟩ := ins_get I2.hok ea
  obtain ⟨od, J, _⟩ := O.look
  obtain ⟨m', hF⟩ := I2.fr
  refine PySem.W.set_prop hF I2.ok.mod.kin J hc.sa hc.po h1 h2 h3 ?_
  exact code_at (ds := []) (dvs := []) (us := [.ref a, u]) (vs := [.ref a, y]) F (hr.mono hk).in1.in1 (fun e => nomatch e) rfl b .nil (passAt tk σ) (I2.tok _) (.cons rfl (.cons ry .nil)) q2 (fun u' s' ⟨v', H', I', r', q'⟩ => ⟨σ, H', I', q'⟩) fun _ _ z => z
/-! ### x += e by x's __iadd__ -/
def sIad (i : Nat) (C : Addr) (sp : Sp) (E : L2.St → XK) (te : TE) : TS := fun D σ H => ∃ v, σ[i]? = some (some v) ∧ te σ H fun y H1 => ∃ a dx fs, v = .ref a ∧ H1 a = some (.ins C dx fs) ∧ sp [.ref a, y] H1 (fun z H2 => D.nx (σ.set i (some z)) H2) (E σ)
theorem ps_iad {i : Nat} {x : Str} (c : MetG X.prog X.w X.K X.mg X.base false k C "__iadd__" sp ps) (hs : PySem.W.selfFirst X.K C = true) (hr : Room j X.A) (hk : k ≤ j) (tk : Takes X W) (hN : X.N.Nodup) (hi : X.N[i]? = some x) (hx : Loc X.env.scope x) (he : PE X e te)
    (hf : X.fn x = true ∨ X.env.scope.names.lookup x = some .local := by first | exact .inl rfl | exact .inr rfl | assumption) : PS X (.AugAssign (.Name x pos') .Add e pos) (sIad i C sp (WE W) te) := by
  obtain ⟨f, fd, hc, M, hfn, F, b⟩ := c.ex
  refine ⟨fun pins s σ H D I h => ?_⟩
  obtain ⟨v, e1, h⟩ := h
  obtain ⟨m, hn, hl⟩ := I.loc
  obtain ⟨u, r, l⟩ := hl i x v hi e1 (hx.elim (fun z => .inl z) fun z => .inr (.inl z))
  refine wpAny_AugAssign_Name ?_
  have go : wpAny (model X.prog X.w) X.A (eval e X.env) (fun w2 s₂ => wpAny (model X.prog X.w) X.A (inplaceOp .Add u w2) (fun r s₃ => wpAny (model X.prog X.w) X.A (storeName X.env x r) (fun _ => SP X pins D .next) X.xe s₃) X.xe s₂) X.xe s := by
    refine thn (he.run pins s σ H _ I h) fun w2 s1 ⟨y, H1, I1, r1, a, dx, fs, ex, ea, q1⟩ => ?_
    subst ex
    obtain rfl : u = Value.ref a := r
    obtain ⟨mA, O, _⟩ := ins_get I1.hok ea
    obtain ⟨od, J, _⟩ := O.look
    obtain ⟨m', hF⟩ := I1.fr
    refine PySem.W.ksp_inplace hF I1.ok.mod.kin J hs M.at_ M.fn ?_
    refine wpAny_mono (run_at (dvs := []) (ds := []) (A1 := X.A) (vs := [.ref a, y]) F (hr.mono hk) (fun e => nomatch e) rfl b .nil (passAt tk σ) I1 (.cons rfl (.cons r1 .nil)) q1) (fun u' s' ⟨v', H', I', r', q'⟩ => ?_) fun _ _ z => z
    exact cmpBack r' (store_ok I' hN hi hx r' (fun s3 I3 => ⟨_, H', I3, q'⟩) hf)
  rcases l with ⟨hk, hm⟩ | ⟨hk, c, hc, hcell⟩
  · exact wpAny_loadName_local I.ok.kind hk hn hm go
  · rcases hk with hk | hk
    · exact wpAny_loadName_cell I.ok.kind hk hc hcell go
    · rcases hx with k | k
      all_goals
        have z : X.env.scope.names.lookup x = some .free := hk
        rw [k] at z
        cases z
/-! ### f(), f an instance -/
structure CloG (P : Program) (w : World) (K : PySem.W.Frag) (mg : Str → Option Value) (base : Heap) (k : Nat) (C : Addr) (sp : Sp) : Prop where
  ex : ∃ (g : Addr) (fd : FuncData), StX.CallO K C g ∧ Fg P w K mg base false k g fd ["self"] sp ∧ Binds K fd ["self"] []
def tCO (C : Addr) (sp : Sp) (E : L2.St → XK) (tf : TE) : TE := fun σ H Q => tf σ H fun y H1 => ∃ a dx fs, y = V.ref a ∧ H1 a = some (.ins C dx fs) ∧ sp [V.ref a] H1 Q (E σ)
theorem pe_cO {fe : Expr} {tf : TE} (c : CloG X.prog X.w X.K X.mg X.base k C sp) (hr : Room j X.A) (hk : k ≤ j) (tk : Takes X W) (hf : PE X fe tf)
    (ht : eval (.Call fe [] [] pos) X.env = (do callWith pos (← eval fe X.env) [] (backTo pos (starEach [] X.env)) (backToKw pos (keywordEach [] X.env))) := by rfl) : PE X (.Call fe [] [] pos) (tCO C sp (WE W) tf) := by
  obtain ⟨g, fd, hc, F, b⟩ := c.ex
  refine ⟨fun pins s σ H Q I h => Call_ (thn (hf.run pins s σ H _ I h) fun u s1 ⟨y, H1, I1, ry, a, dx, fs, ey, ha, q⟩ => ?_) ht⟩
  subst ey
  obtain rfl : u = Value.ref a := ry
  obtain ⟨ox, od, J, hd⟩ := StX.insC_at (X := X) I1 (.inr ⟨dx, fs, ha⟩)
  refine StX.callO_of (args := []) rfl (evalArgs_nil3 ⟨⟨C, ox, od, J, hd⟩, ?_⟩)
  refine wpAny_call (PySem.W.kco_code I1.kIn J hd hc.at_ hc.fn hc.fi ?_)
  exact code_at (ds := []) (dvs := []) (us := [.ref a]) (vs := [.ref a]) F (hr.mono hk) (fun e => nomatch e) rfl b .nil (passAt tk σ) I1 (.cons rfl .nil) q (fun u' s' z => z) fun _ _ z => z
theorem MetG.clo {P : Program} {w : World} {K : PySem.W.Frag} {mg : Str → Option Value} {base : Heap} (c : MetG P w K mg base false k C "__call__" sp ["self"]) : CloG P w K mg base k C sp := by
  obtain ⟨f, fd, hc, M, hf, F, b⟩ := c.ex
  exact ⟨f, fd, ⟨M.at_, M.fn, hf⟩, F, b⟩
end
theorem kRev {X : Cx} {K : PySem.W.Frag} {e : Expr} {te : TE} {k : Nat} {p1 p2 p3 pos : Pos} (hK : X.K = K) (he : PE X e te) : PE X (.Subscript e (.Slice none none (some (.UnaryOp .USub (.Constant (.int 1) k p1) p2)) p3) pos) (tRevL K te) := by subst hK; exact pe_revL he
/-! steps -/
section
variable {K : PySem.W.Frag} {σ : L2.St} {H : Hp} {Q : VK} {ta tv te tf : TE} {D : Ends} {C : Addr} {sp : Sp} {E : L2.St → XK}
theorem i_stp (q : tv σ H fun y H1 => ta σ H1 fun x H2 => ∃ a dx fs, x = .ref a ∧ H2 a = some (.ins C dx fs) ∧ sp [.ref a, y] H2 (fun _ H3 => D.nx σ H3) (E σ)) : sStp C sp E ta tv D σ H := q
theorem i_iad {i : Nat} {v : V} (hv : σ[i]? = some (some v)) (q : te σ H fun y H1 => ∃ a dx fs, v = .ref a ∧ H1 a = some (.ins C dx fs) ∧ sp [.ref a, y] H1 (fun z H2 => D.nx (σ.set i (some z)) H2) (E σ)) : sIad i C sp E te D σ H := ⟨v, hv, q⟩
theorem i_cO (q : tf σ H fun y H1 => ∃ a dx fs, y = V.ref a ∧ H1 a = some (.ins C dx fs) ∧ sp [V.ref a] H1 Q (E σ)) : tCO C sp E tf σ H Q := q
theorem i_prp {dvs : List V} {E : XK} (q : ta σ H fun x H1 => ∃ a dx fs, x = .ref a ∧ H1 a = some (.ins C dx fs) ∧ sp (.ref a :: dvs) H1 Q E) : tProp C sp dvs E ta σ H Q := q
theorem i_mtS {m : Str} {t : TA} (q : ta σ H fun x H1 => ∃ a dx fs, x = .ref a ∧ H1 a = some (.ins C dx fs) ∧ fs.lookup m = none ∧ t σ H1 fun vs H2 => sp (.ref a :: vs) H2 Q (E σ)) : tMtS C m sp E ta t σ H Q := q
theorem i_fldaug {f : Str} {rd : V → V → Hp → VK → Prop} (q : ta σ H fun x H1 => ∃ a C dx fs v, x = .ref a ∧ H1 a = some (.ins C dx fs) ∧ Cls K C ∧ NoAttr K C f ∧ fs.lookup f = some v ∧
  tv σ H1 fun y H2 => rd v y H2 fun z H3 => ∃ dx' fs', H3 a = some (.ins C dx' fs') ∧ fs'.length < 1000 ∧ D.nx σ (upd H3 a (.ins C dx' (putF f z fs')))) : sFldAug K ta tv rd f D σ H := q
theorem i_par {i j : Nat} {t : TA} (q : t σ H fun vs H1 => ∃ v w, vs = [v, w] ∧ D.nx ((σ.set i (some v)).set j (some w)) H1) : tPar i j t D σ H := q
theorem i_par3 {i j l : Nat} {t : TA} (q : t σ H fun vs H1 => ∃ u v w, vs = [u, v, w] ∧ D.nx (((σ.set i (some u)).set j (some v)).set l (some w)) H1) : tPar3 i j l t D σ H := q
theorem i_revL (q : te σ H fun x H1 => ∃ a xs, x = .ref a ∧ SqL K H1 a xs ∧ ∀ p, H1 p = none → Q (.ref p) (upd H1 p (.lst xs.reverse))) : tRevL K te σ H Q := q
theorem l_slT {a : Addr} {xs : List V} {lo hi : Option Int} (h : SqT K H a xs) (q : ∀ p H', G.Ex H H' → SqT K H' p (cutV xs lo hi) → Q (.ref p) H') : rSlG K (.ref a) lo hi H Q := by
  refine .inr ⟨a, xs, rfl, h, fun ⟨h1, h2⟩ => q a H (Ex.refl H) ?_, fun _ p hp => q p _ (Ex.new hp) (.of upd_same)⟩
  rw [show cutV xs lo hi = xs by unfold cutV; rw [h1, h2, List.drop_zero, Nat.sub_zero, List.take_length]]
  exact h
theorem cut_take (xs : List V) (k : Nat) : cutV xs none (some (k : Int)) = xs.take k := by
  unfold cutV
  rw [HT.sIx_none, HT.sIx_nat, List.drop_zero, Nat.sub_zero, List.take_eq_take_iff]
  omega
end
end G
set_option Elab.async false
set_option linter.all false
set_option maxRecDepth 100000
namespace G
open PySem PySem.Spec PyProof.Rows L2
/-! ### the keys of a written dict, walked -/
structure Wk (K : PySem.W.Frag) (w : World) (d : Addr) (ks : List Str) : Prop where
  ex : ∃ (es : Array DictEntry) (n : Nat), K.lookup d = some ⟨.type "dict", none, .dict es n, #[]⟩ ∧ PySem.W.KeysLit w.params es.toList ∧ (d == sysModules) = false ∧ Paired (fun (e : DictEntry) (k : Str) => ∃ t, e.key = .str k t) es.toList ks ∧ ks.Nodup
theorem wk_mk {K : PySem.W.Frag} {w : World} {d : Addr} {ks : List Str} {es : List DictEntry} {n : Nat} (hl : K.lookup d = some ⟨.type "dict", none, .dict es.toArray n, #[]⟩) (hk : PySem.W.KeysLit w.params es) (hs : (d == sysModules) = false)
    (hp : Paired (fun (e : DictEntry) (k : Str) => ∃ t, e.key = .str k t) es ks) (hn : ks.Nodup) : Wk K w d ks := ⟨es.toArray, n, hl, hk, hs, hp, hn⟩
theorem pairs_of {prog : Program} {w : World} : ∀ {es : List DictEntry} {ks : List Str}, Paired (fun (e : DictEntry) (k : Str) => ∃ t, e.key = .str k t) es ks → ∃ kvs : List (Str × Value), kvs.map (·.1) = ks ∧ Pairs (strKind prog w) es kvs
  | _, _, .nil => ⟨[], rfl, .nil⟩
  | e :: es, k :: ks, .cons ⟨t, h⟩ r => by
    obtain ⟨kvs, h1, h2⟩ := pairs_of (prog := prog) (w := w) r
    exact ⟨(k, e.val) :: kvs, by rw [List.map_cons, h1], .cons (by rw [h]; exact strKind_is prog w k t) rfl h2⟩
/-- what the heap has of it -/
theorem Wk.at {K : PySem.W.Frag} {w : World} {d : Addr} {ks : List Str} (W : Wk K w d ks) (prog : Program) : ∃ (n : Nat) (o : Obj) (kvs : List (Str × Value)), kvs.map (·.1) = ks ∧ o.ExactDict ∧ (∃ es, o.data = .dict es n ∧ es.size = ks.length) ∧ (d == sysModules) = false ∧ o.cls = .type "dict" ∧
    ∀ h : Heap, (K.In h → h.get? d = some o) ∧ (h.get? d = some o → h.DictAt (strKind prog w) d kvs n) := by
  obtain ⟨es, n, hl, hk, hs, hp, hn⟩ := W.ex
  obtain ⟨kvs, h1, h2⟩ := pairs_of (prog := prog) (w := w) hp
  refine ⟨n, _, kvs, h1, ⟨rfl, rfl, rfl⟩, ⟨es, rfl, ?_⟩, hs, rfl, fun h => ⟨fun X => X _ _ hl, fun e => ⟨_, es, e, ⟨rfl, rfl, rfl⟩, rfl, fun en he => ?_, h2, by rw [h1]; exact hn⟩⟩⟩
  · rw [← h1, List.length_map, ← h2.length, Array.length_toList]
  · obtain ⟨x, t, e1, e2⟩ := hk.all en (Array.mem_toList_iff.mpr he)
    exact ⟨x, by rw [e1]; exact strKind_is prog w x t, e2⟩
section
variable {prog : Program} {w : World} {A : Around} {E : Value → Shared → Prop} {s : Shared}
theorem key_end {it d : Addr} {i n ep : Nat} {od : Obj} {es : Array DictEntry} {Q : Value → Shared → Prop} (hh : A.handled = none) (hit : s.heap.IsKeyIter it d i n ep) (hod : s.heap.get? d = some od) (hdd : od.data = .dict es ep) (hsz : es.size = n) (hge : n ≤ i)
    (hE : ∀ h' e, Heap.ExtBut it s.heap h' → (∃ o, h'.get? e = some o ∧ o.cls = .type "StopIteration") → E (.ref e) { s with heap := h' }) : wpAny (model prog w) A (Builtin.SmallTypes.nextOf (.ref it)) Q E s := by
  obtain ⟨o, ho, hc, hd⟩ := id hit
  have hown : Builtin.Dict_items.ownsTuple "dict_keyiterator" = false := by decide
  have hge' : es.size ≤ i := by omega
  unfold Builtin.SmallTypes.nextOf
  refine wpAny_bind (wpAny_callSpecial?_slot (name := Str.ofString "__next__") hit.typeIs F.slot_dict_keyiterator_next (wpAny_call_entry F.slot_dict_keyiterator_next hit.typeIs F.entry_dict_keyiterator_next ?_ (F.args_dict_keyiterator_next_1 _)))
  refine wpAny_bind (wpAny_pure (wpAny_bind (wpAny_bind ?_)))
  first | refine wpAny_bind (wpAny_typeNameOfWhole_keyiter hit.typeIs (wpAny_pure (wpAny_bind (wpAny_fieldsOf ho hd ?_)))) | refine wpAny_bind (wpAny_typeNameOf_keyiter hit.typeIs (wpAny_pure (wpAny_bind (wpAny_fieldsOf ho hd ?_))))
  simp only [hown, Bool.false_eq_true, if_false]
  show wpAny _ _ (if (Value.ref d == Value.none) = true then _ else _) _ _ _
  rw [if_neg (show ¬ (Value.ref d == Value.none) = true from Bool.false_ne_true)]
  refine wpAny_bind (wpAny_pure (wpAny_bind (wpAny_dictEntries hod hdd ?_)))
  rw [if_neg (by simp [hsz])]
  refine wpAny_bind (wpAny_pure (wpAny_bind (wpAny_dictEpoch hod hdd ?_)))
  rw [if_neg (by simp only [bne_self_eq_false]; decide)]
  refine wpAny_pure ?_
  simp only [show ¬ ((i : Int) < 0) from by omega, if_false, Int.toNat_natCast, Array.getElem?_eq_none hge']
  refine wpAny_bind ?_
  first | refine wpAny_bind (wpAny_typeNameOfWhole_keyiter hit.typeIs (wpAny_pure ?_)) | (refine wpAny_bind (wpAny_typeNameOf_keyiter hit.typeIs (wpAny_pure ?_)))
  show wpAny _ _ (setField (.ref it) 0 .none >>= _) _ _ _
  refine wpAny_bind (wpAny_setField ho hd (by simp) (show wpAny _ _ (newExc (.type "StopIteration") [] >>= _) _ _ _ from wpAny_bind ?_))
  simp only [newExc, newTuple]
  refine wpAny_bind (wpAny_newObj_type (wpAny_bind (m := firstArgMember _ _) (wpAny_of_eq (a := Value.none) (by first | rfl | (simp only [firstArgMember]; rfl)) (wpAny_newObj_type ?_ (by size_fits)))) (by size_fits))
  simp only [raiseNew]
  refine wpAny_bind (wpAny_handled ?_)
  rw [show A.in1.handled = none from hh]
  refine wpAny_bind (wpAny_pure (wpAny_throw (hE _ _ (((Heap.SameBut.update ..).extBut.push _).push _) ⟨_, Heap.get?_push_size _ rfl, rfl⟩)))
theorem draws_keys {kvs : List (Str × Value)} {ep : Nat} {o : Obj} (hh : A.handled = none) (it d : Addr) (hne : d ≠ it) (hdt : ∃ es, o.data = .dict es ep ∧ es.size = kvs.length) (hA : ∀ h : Heap, h.get? d = some o → h.DictAt (strKind prog w) d kvs ep) :
    Draws prog w A it [it, d] kvs.length (fun i v => ∃ k x, kvs[i]? = some (k, x) ∧ (strKind prog w).is k v = true) (fun i h => h.IsKeyIter it d i kvs.length ep ∧ h.get? d = some o) where
  live := fun _ _ st => let ⟨o, ho, _⟩ := st.1; ⟨o, ho⟩
  frame := fun _ _ _ st hk => ⟨let ⟨oi, e, c, dd⟩ := st.1; ⟨oi, hk it (by simp) oi e, c, dd⟩, hk d (by simp) o st.2⟩
  item := fun i s Q E hi st hQ => by
    obtain ⟨⟨k, x⟩, hkv⟩ : ∃ p, kvs[i]? = some p := ⟨kvs[i], List.getElem?_eq_getElem hi⟩
    unfold Builtin.SmallTypes.nextOf
    refine wpAny_bind (PySem.W.kdk_special st.1 (hA _ st.2) hkv fun key h' hk hit' hs => ?_)
    exact wpAny_pure (hQ key h' s.toks ⟨k, x, hkv, hk⟩ ⟨hit', (hs.2 d hne).trans st.2⟩ hs)
  done := fun s Q E st hE => by
    obtain ⟨es, h1, h2⟩ := hdt
    exact key_end hh st.1 st.2 h1 h2 (Nat.le_refl _) hE
theorem begins_keys {d : Addr} {o : Obj} {es : Array DictEntry} {ep : Nat} (hs : (d == sysModules) = false) (hc : o.ExactDict) (hdt : o.data = .dict es ep) :
    Begins (.ref d) { cls := .type "dict_keyiterator", data := .fields #[.ref d, .int 0 0, .int es.size 0, .int ep 0] } fun h => h.get? d = some o where
  iter := fun prog w A E s Q ho h => iter_keys hs ho hc hdt h
  keeps := fun h h' x hk => hk d o x
  free := rfl
end
/-! ### for k in d, d written -/
def Itw (ks : List Str) : It := ⟨fun i _ => i < ks.length, fun i H x H' => H' = H ∧ ∃ k, ks[i]? = some k ∧ x = .str k, fun i _ => ks.length ≤ i⟩
theorem turn_wk {P : Program} {w : World} {K : PySem.W.Frag} {tg : Expr} {d : Addr} {ks : List Str} {n : Nat} {o : Obj} {kvs : List (Str × Value)} (h1 : kvs.map (·.1) = ks) (hdt : ∃ es, o.data = .dict es n ∧ es.size = ks.length)
    (hA : ∀ h : Heap, (K.In h → h.get? d = some o) ∧ (h.get? d = some o → h.DictAt (strKind P w) d kvs n)) (it : Addr) : Turn P w K tg (Itw ks) [it] it (fun i h => h.IsKeyIter it d i kvs.length n) where
  mem := by simp
  obj := fun i h st b hb => by
    obtain rfl : b = it := by simpa using hb
    obtain ⟨oi, e, c, dd⟩ := st
    exact ⟨oi, e, fun v z => by rw [dd] at z; cases z⟩
  keep := fun i h h' st k => let ⟨oi, e, c, dd⟩ := st; ⟨oi, k it (by simp) oi e, c, dd⟩
  item := by
    intro X hP hw hK hc i pins s σ H E I hf st hg
    subst hP hw hK
    obtain ⟨f0, f1, f2, f3, f4, f5⟩ := hf it (by simp)
    have hl : kvs.length = ks.length := by rw [← h1, List.length_map]
    obtain ⟨⟨k, v⟩, hkv⟩ : ∃ p, kvs[i]? = some p := ⟨kvs[i]'(by rw [hl]; exact hg), List.getElem?_eq_getElem _⟩
    refine wpAny_pyNext_dict_item st ((hA _).2 ((hA _).1 I.kIn)) hkv fun key h' hkey st' sb => ?_
    have I1 : Inv X pins σ H { s with heap := h' } := I.turned (t' := s.toks) (fun b ob hb e => (sb.2 b hb).trans e) f0 f1 f3 f4 f5
    obtain ⟨oi, e, c, dd⟩ := id st'
    have hks : ks[i]? = some k := by rw [← h1, List.getElem?_map, hkv]; rfl
    have rk : RelV (.str k) key := relV_key (k := .inr k) (show keyIs (.inr k) key = true from hkey)
    exact ⟨key, rfl, go_of (s := { s with heap := h' }) e c dd (by decide) ⟨.str k, H, I1, rk, ⟨rfl, k, hks, rfl⟩, st', fun b hb => (hf b hb).1⟩⟩
  done := by
    intro X hP hw hK hc i pins s σ H E I hf st hg
    subst hP hw hK
    obtain ⟨f0, f1, f2, f3, f4, f5⟩ := hf it (by simp)
    have hl : kvs.length = ks.length := by rw [← h1, List.length_map]
    obtain ⟨es, d1, d2⟩ := hdt
    exact next_key_end (I.ok.hd hc) st ((hA _).1 I.kIn) d1 (d2.trans hl.symm) (by rw [hl]; exact hg) fun h' eb => ⟨rfl, I.turned (t' := s.toks) (fun b ob hb e => eb b ob hb e) f0 f1 f3 f4 f5⟩
  self := fun A i s Q E st h => wpAny_pyIter_keyiter st h
def iWk (d : Addr) (ks : List Str) (te : TE) : TI := fun σ H R => te σ H fun x H1 => x = .ref d ∧ R (Itw ks) H1
theorem pi_wk {X : Cx} {tg e : Expr} {te : TE} {d : Addr} {ks : List Str} (W : Wk X.K X.w d ks) (he : PE X e te) : PI X tg e (iWk d ks te) := by
  obtain ⟨n, o, kvs, h1, hx, ⟨es, d1, d2⟩, hs, hc, hA⟩ := W.at X.prog
  refine ⟨fun pins s σ H R I h => thn (he.run pins s σ H _ I h) fun u s1 ⟨x, H1, I1, rx, ex, q⟩ => ?_⟩
  subst ex
  obtain rfl : u = Value.ref d := rx
  have hl : kvs.length = ks.length := by rw [← h1, List.length_map]
  refine iter_keys hs ((hA _).1 I1.kIn) hx d1 (pi_one (tk := s1.toks) I1 _ (turn_wk (P := X.prog) (w := X.w) (K := X.K) h1 ⟨es, d1, d2⟩ hA _) ⟨_, Heap.get?_push_size _ rfl, rfl, ?_⟩ q)
  rw [hl, ← d2] <;> rfl
/-! ### zip(d, xs), d written, xs a list -/
def Itzw (K : PySem.W.Frag) (ks : List Str) (b : Addr) : It :=
  ⟨fun i H => i < ks.length ∧ ∃ (ys : List V) (y : V), SqL K H b ys ∧ ys[i]? = some y,
    fun i H v H' => ∃ T k y, v = .ref T ∧ H T = none ∧ H' = upd H T (.tup [.str k, y]) ∧ ks[i]? = some k ∧ ∀ ys, SqL K H b ys → ys[i]? = some y,
    fun i H => i = ks.length ∧ ∃ ys : List V, SqL K H b ys ∧ i ≤ ys.length⟩
theorem turn_zw {P : Program} {w : World} {K : PySem.W.Frag} {elts : List Expr} {kk : Nat} {tpos : Pos} {d b z TI TO i1 i2 : Addr} {ks : List Str} {n : Nat} {o : Obj} {kvs : List (Str × Value)} (h1 : kvs.map (·.1) = ks) (hdt : ∃ es, o.data = .dict es n ∧ es.size = ks.length)
    (hA : ∀ h : Heap, (K.In h → h.get? d = some o) ∧ (h.get? d = some o → h.DictAt (strKind P w) d kvs n)) (D : ZipApart z TI TO i1 i2 d b) :
    Turn P w K (.Tuple elts kk tpos) (Itzw K ks b) [z, TI, TO, i1, i2] z (fun i h => IsZip h z TI TO .none ∧ IsTupOf2 h TI (.ref i1) (.ref i2) ∧ (∃ x y, IsTupOf2 h TO x y) ∧ h.IsKeyIter i1 d i kvs.length n ∧ h.IsListIter i2 b i) where
  mem := by simp
  obj := fun i h st c hc => by
    obtain ⟨hz, hTI, ⟨x, y, hTO⟩, ⟨o1, e1, _, d1⟩, ⟨o2, e2, _, d2⟩⟩ := st
    simp only [List.mem_cons, List.not_mem_nil, or_false] at hc
    rcases hc with rfl | rfl | rfl | rfl | rfl
    · exact ⟨_, hz, fun v q => nomatch q⟩
    · exact ⟨_, hTI, fun v q => nomatch q⟩
    · exact ⟨_, hTO, fun v q => nomatch q⟩
    · exact ⟨o1, e1, fun v q => by rw [d1] at q; cases q⟩
    · exact ⟨o2, e2, fun v q => by rw [d2] at q; cases q⟩
  keep := fun i h h' st k => by
    obtain ⟨hz, hTI, ⟨x, y, hTO⟩, ⟨oi, e, c, dd⟩, h2⟩ := st
    exact ⟨k z (by simp) _ hz, k TI (by simp) _ hTI, ⟨x, y, k TO (by simp) _ hTO⟩, ⟨oi, k i1 (by simp) oi e, c, dd⟩, h2.at fun o q => k i2 (by simp) o q⟩
  item := by
    intro X hP hw hK hc i pins s σ H E I hf st hg
    subst hP hw hK
    obtain ⟨hz, hTI, ⟨x0, y0, hTO⟩, hk1, hk2⟩ := st
    obtain ⟨hi, ys, y, hqy, hy⟩ := hg
    obtain ⟨its, rv, p, _⟩ := I.list hqy
    have hl : kvs.length = ks.length := by rw [← h1, List.length_map]
    have hzl : z < s.heap.objs.size := Heap.lt_size hz
    have hh : X.A.in1.handled = none := I.ok.hd hc
    obtain ⟨es, dd1, dd2⟩ := hdt
    have lr := rv.length
    have hiy : i < its.toArray.size := by
      rw [List.size_toArray, ← lr]
      exact (List.getElem?_eq_some_iff.mp hy).1
    have S : ZipSep2 z TI TO i1 i2 [i1, d] [i2, b] := {
      TIz := D.TIz, TOz := D.TOz, TITO := D.TITO, TIi1 := D.TIi1, TIi2 := D.TIi2, mem1 := by simp, mem2 := by simp,
      zf1 := by simp [D.i1z.symm, D.l1z.symm], Tf1 := by simp [D.TOi1, D.l1TO.symm], zf2 := by simp [D.i2z.symm, D.l2z.symm], Tf2 := by simp [D.TOi2, D.l2TO.symm],
      sep1_2 := by simp [D.i12, D.l2i1.symm], sep2_1 := by simp [D.i12.symm, D.l1i2.symm] }
    refine wpAny_pyNext_zipD2_item S (draws_keys (o := o) hh i1 d D.l1i1 ⟨es, dd1, dd2.trans hl.symm⟩ fun h => (hA h).2) (Draws.list hh i2 b D.l2i2 its.toArray) hz hTI hTO ⟨hk1, (hA _).1 I.kIn⟩ ⟨hk2, p.isList⟩ (by rw [hl]; exact hi) hiy fun x1 x2 h' tk P1 P2 z' TO' st1 st2 hT hsz hk => ?_
    obtain ⟨k, xv, hkv, his⟩ := P1
    have hks : ks[i]? = some k := by rw [← h1, List.getElem?_map, hkv]; rfl
    have rk : RelV (.str k) x1 := relV_key (k := .inr k) (show keyIs (.inr k) x1 = true from his)
    obtain ⟨u, hu, ru⟩ := rv.get hy
    have e2 : x2 = u := by
      rw [List.getElem?_toArray, hu] at P2
      exact (Option.some.inj P2).symm
    subst e2
    refine ⟨_, rfl, wpAny_letOwnedTupleGo_zip (s := { s with heap := h', toks := tk }) z' fun h'' z'' sb => ?_⟩
    have hT2 : h''.get? s.heap.objs.size = some { cls := .type "tuple", data := .seq #[x1, x2] } := (sb.2 _ (Nat.ne_of_gt hzl)).trans hT
    have new : ObjOk X.prog X.w (upd H s.heap.objs.size (.tup [.str k, y])) h'' s.heap.objs.size (.tup [.str k, y]) := ⟨by show 2 ≤ sizeLine; decide, [x1, x2], .cons rk (.cons ru .nil), ⟨_, hT2, rfl, _, rfl⟩⟩
    have I1 : Inv X pins σ (upd H s.heap.objs.size (.tup [.str k, y])) { s with heap := h'', toks := tk } :=
      I.turnedNew (t' := tk) (ch := [z, TI, TO, i1, i2]) (fun c o hb q => (sb.2 c (fun q' => hb (by simp [q']))).trans (hk c o (fun q' => hb (by simp [q'])) (fun q' => hb (by simp [q'])) (fun q' => hb (by simp [q'])) (fun q' => hb (by simp [q'])) q)) hf (Nat.le_refl _) new
    refine ⟨.ref s.heap.objs.size, _, I1, rfl, ⟨_, k, y, rfl, I.hok.fresh (Nat.le_refl _), rfl, hks, fun l hl' => by rw [I.list_inj hl' hqy]; exact hy⟩, ⟨z'', ?_, ⟨x1, x2, ?_⟩, ?_, ?_⟩, fun c hcm => ?_⟩
    · exact (sb.2 _ D.TIz).trans (hk _ _ D.TIz D.TITO D.TIi1 D.TIi2 hTI)
    · exact (sb.2 _ D.TOz).trans TO'
    · obtain ⟨oi, e, c, dd⟩ := st1.1
      exact ⟨oi, (sb.2 _ D.i1z).trans e, c, dd⟩
    · exact st2.1.at fun o q => (sb.2 _ D.i2z).trans q
    · have hlt : c < s.heap.objs.size := by
        simp only [List.mem_cons, List.not_mem_nil, or_false] at hcm
        rcases hcm with q | q | q | q | q <;> rw [q]
        · exact hzl
        · exact Heap.lt_size hTI
        · exact Heap.lt_size hTO
        · obtain ⟨_, e1, _⟩ := hk1; exact Heap.lt_size e1
        · obtain ⟨_, e2, _⟩ := hk2; exact Heap.lt_size e2
      rw [upd_ne (Nat.ne_of_lt hlt)]
      exact (hf c hcm).1
  done := by
    intro X hP hw hK hc i pins s σ H E I hf st hg
    subst hP hw hK
    obtain ⟨hz, hTI, ⟨x0, y0, hTO⟩, hk1, hk2⟩ := st
    obtain ⟨hi, ys, hqy, hy⟩ := hg
    obtain ⟨its, rv, p, _⟩ := I.list hqy
    have hl : kvs.length = ks.length := by rw [← h1, List.length_map]
    have hh : X.A.in1.handled = none := I.ok.hd hc
    obtain ⟨es, dd1, dd2⟩ := hdt
    have lr := rv.length
    have S : ZipSep2 z TI TO i1 i2 [i1, d] [i2, b] := {
      TIz := D.TIz, TOz := D.TOz, TITO := D.TITO, TIi1 := D.TIi1, TIi2 := D.TIi2, mem1 := by simp, mem2 := by simp,
      zf1 := by simp [D.i1z.symm, D.l1z.symm], Tf1 := by simp [D.TOi1, D.l1TO.symm], zf2 := by simp [D.i2z.symm, D.l2z.symm], Tf2 := by simp [D.TOi2, D.l2TO.symm],
      sep1_2 := by simp [D.i12, D.l2i1.symm], sep2_1 := by simp [D.i12.symm, D.l1i2.symm] }
    refine wpAny_pyNext_zipD2_end S (draws_keys (o := o) hh i1 d D.l1i1 ⟨es, dd1, dd2.trans hl.symm⟩ fun h => (hA h).2) (Draws.list hh i2 b D.l2i2 its.toArray) hz hTI hTO ⟨hk1, (hA _).1 I.kIn⟩ ⟨hk2, p.isList⟩ (by omega) (by rw [List.size_toArray, ← lr]; exact hy) (.inl (by omega)) fun h' tk hk => ?_
    exact ⟨rfl, I.turnedL (t' := tk) (ch := [z, TI, TO, i1, i2]) (fun c o hb q => hk c o (fun q' => hb (by simp [q'])) (fun q' => hb (by simp [q'])) (fun q' => hb (by simp [q'])) (fun q' => hb (by simp [q'])) q) hf⟩
  self := fun A i s Q E st h => wpAny_pyIter_zip st.1 h
def iZw (K : PySem.W.Frag) (d : Addr) (ks : List Str) (ta : TA) : TI := fun σ H R => ta σ H fun vs H1 => ∃ b ys, vs = [.ref d, .ref b] ∧ SqL K H1 b ys ∧ R (Itzw K ks b) H1
theorem pi_zw {X : Cx} {e e2 : Expr} {ta : TA} {p pos tpos : Pos} {elts : List Expr} {kk : Nat} {d : Addr} {ks : List Str} (W : Wk X.K X.w d ks) (hg : Gl X "zip") (hm : X.mg "zip" = none) (ha : PA X [e, e2] ta)
    (hs : starEach [e, e2] X.env = (false, eval e X.env) :: starEach [e2] X.env := by rfl) (hpl : (backTo pos (starEach [e2] X.env)).any (·.1) = false := by rfl) : PI X (.Tuple elts kk tpos) (.Call (.Name "zip" p) [e, e2] [] pos) (iZw X.K d ks ta) := by
  obtain ⟨n, o, kvs, h1, hx, ⟨es, d1, d2⟩, hsys, hc, hA⟩ := W.at X.prog
  refine ⟨fun pins s σ H R I h => Call_ (ld_blt I hg hm PyProof.Rows.boot_zip (PyProof.Rows.callWith_type1 (thn (ha.run pos pins s σ H _ I h) fun us s1 ⟨vs, H1, I1, r1, q1⟩ => ?_) hs hpl))⟩
  obtain ⟨b, ys, ex, hqy, q⟩ := q1
  subst ex
  obtain ⟨u1, u2, rfl, ra, rb⟩ := vals2 r1
  cases (show u1 = Value.ref d from ra)
  cases (show u2 = Value.ref b from rb)
  have hl : kvs.length = ks.length := by rw [← h1, List.length_map]
  obtain ⟨its, rv, p2, _⟩ := I1.list hqy
  have gd := (hA _).1 I1.kIn
  refine zip_begins2 (begins_keys hsys hx d1) (begins_list b its.toArray) gd p2.isList fun h' hz hTI hTO g1 g2 hsz hk => wpAny_pyIter_zip hz ?_
  have I2 : Inv X pins σ H1 { s1 with heap := h' } := I1.kept (t' := s1.toks) hk
  refine ⟨s1.heap.objs.size + 4, [s1.heap.objs.size + 4, s1.heap.objs.size + 2, s1.heap.objs.size + 3, s1.heap.objs.size, s1.heap.objs.size + 1], _, _, H1, rfl, I2, turn_zw (P := X.prog) (w := X.w) (K := X.K) h1 ⟨es, d1, d2⟩ hA (PySem.W.ktu_apart s1.heap.objs.size d b (Heap.lt_size gd) p2.lt), ⟨hz, hTI, ⟨_, _, hTO⟩, ⟨_, g1, rfl, ?_⟩, ⟨_, g2, rfl, rfl⟩⟩, fun c hcm => ?_, q⟩
  · rw [hl, ← d2] <;> rfl
  · have hle : s1.heap.objs.size ≤ c := by
      simp only [List.mem_cons, List.not_mem_nil, or_false] at hcm
      rcases hcm with q | q | q | q | q <;> (rw [q]; first | exact Nat.le_add_right _ _ | exact Nat.le_refl _)
    exact I1.fpOk hle (I1.hok.fresh hle)
section
variable {K : PySem.W.Frag} {b : Addr} {ks : List Str} {ys : List V} {g : TG} {tb : TS} {D : Ends} {σ : L2.St} {H : Hp}
/-- for k, y in zip(d, ys): as many as d has -/
theorem for_zw (hl : ks.length = ys.length) (Pv : Nat → L2.St → Hp → Prop) (h0 : Pv 0 σ H) (hq : ∀ i σ H, Pv i σ H → SqL K H b ys)
    (hs : ∀ (i : Nat) (k : Str) (y : V) (T : Addr) (σ : L2.St) (H : Hp), ks[i]? = some k → ys[i]? = some y → Pv i σ H → H T = none → g (.ref T) σ (upd H T (.tup [.str k, y])) fun σ2 H2 => tb { D with nx := Pv (i + 1), ct := Pv (i + 1), bk := D.nx } σ2 H2)
    (hd : ∀ σ H, Pv ks.length σ H → D.nx σ H) :
    ∃ W : Nat → Nat → L2.St → Hp → Prop, (∃ m, W 0 m σ H) ∧ ∀ i m σ H, W i m σ H →
      ((Itzw K ks b).stop i H ∧ D.nx σ H) ∨ ((Itzw K ks b).go i H ∧ ∃ N : L2.St → Hp → Prop, (∀ σ' H', N σ' H' → ∃ m', m' < m ∧ W (i + 1) m' σ' H') ∧ ∀ v H', (Itzw K ks b).yld i H v H' → g v σ H' fun σ2 H2 => tb { D with nx := N, ct := N, bk := D.nx } σ2 H2) := by
  refine ⟨fun i m σ H => m = ks.length - i ∧ i ≤ ks.length ∧ Pv i σ H, ⟨ks.length, rfl, Nat.zero_le _, h0⟩, ?_⟩
  rintro i m σ H ⟨rfl, hi, p⟩
  have qy := hq i σ H p
  by_cases hlt : i < ks.length
  · have hy : ys[i]? = some (ys[i]'(by omega)) := List.getElem?_eq_getElem _
    refine .inr ⟨⟨hlt, ys, _, qy, hy⟩, Pv (i + 1), fun σ' H' p' => ⟨ks.length - (i + 1), by omega, rfl, hlt, p'⟩, fun v H' yl => ?_⟩
    obtain ⟨T, k, y', rfl, hT, rfl, f1, f2⟩ := yl
    exact hs i k y' T σ H f1 (f2 ys qy) p hT
  · obtain rfl : i = ks.length := by omega
    exact .inl ⟨⟨rfl, ys, qy, by omega⟩, hd σ H p⟩
theorem dc_zw {tt : TT} {tk tv : TE} {vs : List Nat} {H1 : Hp} {E : Addr} {Qd : Hp → Prop} (hl : ks.length = ys.length) (Pv : Nat → Hp → Prop) (h0 : Pv 0 (upd H1 E (.dK []))) (hq : ∀ i H, Pv i H → SqL K H b ys)
    (hs : ∀ i k y T H, ks[i]? = some k → ys[i]? = some y → Pv i H → H T = none → g (.ref T) (wipe σ vs) (upd H T (.tup [.str k, y])) fun σ2 H2 => wipe σ2 vs = wipe σ vs ∧ tt σ2 H2 fun b H3 =>
      if b = true then tk σ2 H3 fun y H4 => tv σ2 H4 fun z H5 => ∃ kvs k, y = kV k ∧ H5 E = some (.dK kvs) ∧ kvs.length < sizeLine ∧ Pv (i + 1) (upd H5 E (.dK (putK kvs k z))) else Pv (i + 1) H3) (hd : ∀ H, Pv ks.length H → Qd H) :
    ∃ W : Nat → Nat → Hp → Prop, (∃ m, W 0 m (upd H1 E (.dK []))) ∧ ∀ i m H, W i m H →
      ((Itzw K ks b).stop i H ∧ Qd H) ∨ ((Itzw K ks b).go i H ∧ ∃ Nx : Hp → Prop, (∀ H', Nx H' → ∃ m', m' < m ∧ W (i + 1) m' H') ∧ ∀ x H', (Itzw K ks b).yld i H x H' → g x (wipe σ vs) H' fun σ2 H2 => wipe σ2 vs = wipe σ vs ∧ tt σ2 H2 fun b H3 =>
        if b = true then tk σ2 H3 fun y H4 => tv σ2 H4 fun z H5 => ∃ kvs k, y = kV k ∧ H5 E = some (.dK kvs) ∧ kvs.length < sizeLine ∧ Nx (upd H5 E (.dK (putK kvs k z))) else Nx H3) := by
  refine ⟨fun i m H => m = ks.length - i ∧ i ≤ ks.length ∧ Pv i H, ⟨ks.length, rfl, Nat.zero_le _, h0⟩, ?_⟩
  rintro i m H ⟨rfl, hi, p⟩
  have qy := hq i H p
  by_cases hlt : i < ks.length
  · have hy : ys[i]? = some (ys[i]'(by omega)) := List.getElem?_eq_getElem _
    refine .inr ⟨⟨hlt, ys, _, qy, hy⟩, Pv (i + 1), fun H' p' => ⟨ks.length - (i + 1), by omega, rfl, hlt, p'⟩, fun v H' yl => ?_⟩
    obtain ⟨T, k, y', rfl, hT, rfl, f1, f2⟩ := yl
    exact hs i k y' T H f1 (f2 ys qy) p hT
  · obtain rfl : i = ks.length := by omega
    exact .inl ⟨⟨rfl, ys, qy, by omega⟩, hd H p⟩
/-- [.. for k in d], d written -/
theorem lc_wk {te : TE} {f : Str → V} {j : Nat} {vs : List Nat} {Q : VK} (hlen : ks.length ≤ 1000) (hw : ∀ x, wipe ((wipe σ vs).set j (some x)) vs = wipe σ vs)
    (hte : ∀ k ∈ ks, ∀ H' R, G.Ex H H' → (∀ H'', G.Ex H' H'' → R (f k) H'') → te ((wipe σ vs).set j (some (.str k))) H' R) (hQ : ∀ D H', H D = none → G.Ex H H' → H' D = some (.lst (ks.map f)) → Q (.ref D) H') : lcB (Itw ks) (gName j) tYes te vs σ Q H := by
  intro D hD
  refine ⟨fun i m H' => m = ks.length - i ∧ i ≤ ks.length ∧ G.Ex H H' ∧ H' D = some (.lst ((ks.take i).map f)), ⟨ks.length, rfl, Nat.zero_le _, Ex.new hD, upd_same⟩, ?_⟩
  rintro i m H' ⟨rfl, hi, e, h⟩
  by_cases hlt : i < ks.length
  · refine .inr ⟨hlt, fun H2 => G.Ex H H2 ∧ H2 D = some (.lst ((ks.take (i + 1)).map f)), fun H2 p => ⟨ks.length - (i + 1), by omega, rfl, hlt, p⟩, fun x H2 y => ?_⟩
    obtain ⟨rfl, k, hk, rfl⟩ := y
    refine ⟨hw _, i_yes ?_⟩
    rw [if_pos rfl]
    refine hte k (List.mem_of_getElem? hk) H2 _ e fun H3 e3 => ⟨_, e3 _ _ h, ?_, (e.trans e3).mut hD, ?_⟩
    · rw [List.length_map, List.length_take]
      exact szl (by omega)
    · rw [upd_same, take_succ hk, List.map_append]
      rfl
  · obtain rfl : i = ks.length := by omega
    exact .inl ⟨Nat.le_refl _, hQ D H' hD e (by rw [h, List.take_length])⟩
end
end G
set_option Elab.async false
set_option linter.all false
set_option maxRecDepth 100000
namespace G
open PySem PySem.Spec PyProof.Rows L2
section
variable {prog : Program} {w : World} {A : Around} {E : Value → Shared → Prop} {s : Shared}
theorem idx_none {K : Type} [DecidableEq K] {knd : KeyKind prog w K} {es : Array DictEntry} {kvs : List (K × Value)} {k : K} (hp : Pairs knd es.toList kvs) (hnot : k ∉ kvs.map (·.1)) : (es.findIdx? fun e => knd.is k e.key) = none := by
  have hl : (es.toList.findIdx? fun e => knd.is k e.key) = kvs.findIdx? fun kv => decide (kv.1 = k) := hp.findIdx k
  have h0 : (kvs.findIdx? fun kv => decide (kv.1 = k)) = none := by
    rw [List.findIdx?_eq_none_iff]
    intro kv hkv
    exact decide_eq_false fun e => hnot (List.mem_map.mpr ⟨kv, hkv, e⟩)
  rw [h0] at hl
  obtain ⟨l⟩ := es
  simpa using hl
theorem find_none {K : Type} [DecidableEq K] {knd : KeyKind prog w K} {d : Addr} {kvs : List (K × Value)} {k : K} {key : Value} {Q : Option Nat → Shared → Prop} (hkey : knd.is k key = true) (hm : s.heap.DictOf knd d kvs) (hnot : k ∉ kvs.map (·.1)) (h : Q none s) :
    wpAny (model prog w) A (dictFind d key (knd.hash k)) Q E s := by
  obtain ⟨o, es, ep, ho, hc, hd, hk, hp, hn⟩ := hm
  refine wpAny_dictFind_of hkey ho hd hk ?_
  rw [idx_none hp hnot]
  exact h
theorem put_new {K : Type} [DecidableEq K] {knd : KeyKind prog w K} {d : Addr} {kvs : List (K × Value)} {k : K} {key v : Value} {Q : Unit → Shared → Prop} (hkey : knd.is k key = true) (hm : s.heap.DictOf knd d kvs) (hnot : k ∉ kvs.map (·.1)) (hsz : kvs.length ≤ 1000)
    (hQ : ∀ h', h'.DictOf knd d (kvs ++ [(k, v)]) → Heap.SameBut d s.heap h' → Q () { s with heap := h' }) : wpAny (model prog w) A (dictPut d (knd.hash k) key v) Q E s := by
  unfold dictPut
  refine wpAny_bind (find_none hkey hm hnot ?_)
  obtain ⟨o, es, ep, ho, hc, hd, hk, hp, hn⟩ := hm
  have hes : es.size ≤ sizeLine := by
    have e1 := hp.length
    rw [Array.length_toList] at e1
    exact sz (by omega)
  refine wpAny_updateDictKeys (hz := hes) ho hd (hQ _ ⟨_, _, ep + 1, Heap.get?_update_self _ ho (Obj.isFreed_of_dict (Obj.data_mapDictKeys hd _)), hc.mapDictKeys _, Obj.data_mapDictKeys hd _, hk.push hkey _, ?_, ?_⟩ (Heap.SameBut.update ..))
  · have z := hp.append hkey (knd.hash k) v
    obtain ⟨l⟩ := es
    simpa using z
  · rw [List.map_append, List.nodup_append]
    refine ⟨hn, by simp, fun a ha b hb => ?_⟩
    rw [List.map_cons, List.map_nil, List.mem_singleton] at hb
    exact fun e => hnot ((e.trans hb : a = k) ▸ ha)
theorem merge_map {K : Type} [DecidableEq K] {knd : KeyKind prog w K} {d o : Addr} {more : List (K × Value)} {Q : Unit → Shared → Prop} (hdo : d ≠ o) (hoS : (o == sysModules) = false) (hd : s.heap.DictOf knd d []) (ho : s.heap.DictOf knd o more)
    (hr : ∀ k a, knd.is k (.ref a) = false) (hsz : more.length ≤ 1000) (hQ : ∀ h', h'.DictOf knd d more → Heap.SameBut d s.heap h' → Q () { s with heap := h' }) : wpAny (model prog w) A (mergeMapping d (.ref o) true) Q E s := by
  obtain ⟨od, esd, epd, hod, hcd, hdd, hkd, hpd, hnd⟩ := id hd
  obtain ⟨oo, eso, epo, hoo, hco, hdo', hko, hpo, hno⟩ := id ho
  unfold mergeMapping
  refine wpAny_bind (m := isInstance (.ref o) (.type "dict")) (wpAny_isInstance ho.typeIs isSubtype_dict_dict ?_)
  simp only [if_true]
  refine wpAny_bind (wpAny_specialOf ho.typeIs F.slot_dict_iter.lookup (wpAny_bind (wpAny_pure ?_)))
  simp only [beq_self_eq_true]
  rw [if_neg (by rw [hoS]; exact Bool.false_ne_true)]
  have esz : esd.isEmpty = true := by
    have e1 := hpd.length
    rw [Array.length_toList] at e1
    rw [Array.isEmpty_iff_size_eq_zero]
    exact e1
  have lo := hpo.length
  rw [Array.length_toList] at lo
  refine wpAny_bind (wpAny_dictEntries hod hdd ?_)
  rw [if_pos esz]
  refine wpAny_bind (wpAny_dictEntries hoo hdo' (wpAny_bind ?_))
  rw [← Array.forIn_toList]
  refine wpAny_forIn_list _ (fun rest _ s' => s' = s ∧ ∀ e ∈ rest, e ∈ eso.toList) _ ?_ ?_ _ _ ⟨rfl, fun _ h => h⟩
  · rintro e rest b s' ⟨rfl, hm⟩
    obtain ⟨k', hk', _⟩ := hko e (Array.mem_toList_iff.mp (hm e List.mem_cons_self))
    cases hkk : e.key with
    | ref a =>
      rw [hkk, hr] at hk'
      cases hk'
    | _ => exact wpAny_pure ⟨rfl, fun x hx => hm x (List.mem_cons_of_mem _ hx)⟩
  rintro _ s' ⟨rfl, _⟩
  refine wpAny_bind (wpAny_dictEntries hoo hdo' (wpAny_bind (wpAny_dictEpoch hoo hdo' (wpAny_bind ?_))))
  rw [List.range_eq_range']
  refine wpAny_forIn_list _ (fun rest _ s2 => ∃ h' i, s2 = { s' with heap := h' } ∧ rest = List.range' i (eso.size - i) ∧ i ≤ eso.size ∧ h'.DictOf knd d (more.take i) ∧ h'.get? o = some oo ∧ Heap.SameBut d s'.heap h') _ ?_ ?_ _ _ ⟨s'.heap, 0, rfl, rfl, Nat.zero_le _, hd, hoo, Heap.SameBut.refl _ _⟩
  · rintro x rest b s2 ⟨h', i, rfl, hr', hi, hd', hoo', hs'⟩
    have hlt : i < eso.size := by
      rcases Nat.lt_or_ge i eso.size with h | h
      · exact h
      · rw [Nat.sub_eq_zero_of_le h] at hr'
        cases hr'
    obtain ⟨rfl, hrest⟩ : x = i ∧ rest = List.range' (i + 1) (eso.size - (i + 1)) := by
      rw [show eso.size - i = (eso.size - (i + 1)) + 1 by omega, List.range'_succ] at hr'
      exact ⟨(List.cons.inj hr').1, (List.cons.inj hr').2⟩
    obtain ⟨⟨k, v⟩, hkv⟩ : ∃ p, more[x]? = some p := ⟨more[x]'(by omega), List.getElem?_eq_getElem _⟩
    have hge := hpo.get? (e := eso[x]) (by simp [hlt]) hkv
    obtain ⟨k', hk', hh'⟩ := hko eso[x] (Array.getElem_mem hlt)
    have ek : k' = k := knd.inj _ _ _ hk' hge.1
    subst ek
    have hnot : k' ∉ (more.take x).map (·.1) := fun hm => by
      rw [List.map_take] at hm
      obtain ⟨j, hj⟩ := List.mem_iff_getElem?.mp hm
      rw [List.getElem?_take] at hj
      split at hj
      · rename_i hjx
        have hx2 : (more.map (·.1))[x]? = some k' := by rw [List.getElem?_map, hkv]; rfl
        have hj2 : j < (more.map (·.1)).length := (List.getElem?_eq_some_iff.mp hj).1
        have := (List.getElem?_inj hj2 hno).mp (hj.trans hx2.symm)
        omega
      · cases hj
    refine wpAny_bind (wpAny_dictEntries hoo' hdo' ?_)
    rw [Array.getElem?_eq_getElem hlt]
    refine wpAny_bind (wpAny_holding ?_)
    rw [hh']
    refine wpAny_bind (find_none hge.1 hd' hnot ?_)
    refine put_new hge.1 hd' hnot (by rw [List.length_take]; omega) fun h2 hd2 hs2 => ?_
    have ho2 : h2.get? o = some oo := (hs2.2 o hdo.symm).trans hoo'
    refine wpAny_bind (wpAny_dictEpoch ho2 hdo' ?_)
    rw [if_neg (by simp)]
    refine wpAny_pure ⟨h2, x + 1, rfl, hrest, hlt, ?_, ho2, hs'.trans hs2⟩
    rw [hge.2] at hd2
    rw [take_succ hkv]
    exact hd2
  · rintro _ s2 ⟨h', i, rfl, hr', hi, hd', hoo', hs'⟩
    have : i = eso.size := by
      rcases Nat.lt_or_ge i eso.size with h | h
      · rw [show eso.size - i = (eso.size - (i + 1)) + 1 by omega, List.range'_succ] at hr'
        cases hr'
      · omega
    subst this
    rw [lo, List.take_length] at hd'
    exact wpAny_pure (hQ h' hd' hs')
theorem kws_in {f : Value} {d : Addr} {o : Obj} {es : Array DictEntry} {ep : Nat} {Q : List (Str × Value) → Shared → Prop} (ho : s.heap.get? d = some o) (hd : o.data = .dict es ep) (ks : List (Str × Value)) (hp : Paired (fun (e : DictEntry) (k : Str × Value) => (∃ t, e.key = .str k.1 t) ∧ e.val = k.2) es.toList ks) (h : Q ks s) :
    wpAny (model prog w) A (keywordsIn f d) Q E s := by
  unfold keywordsIn
  refine wpAny_bind (wpAny_dictEntries ho hd (wpAny_bind ?_))
  rw [← Array.forIn_toList]
  refine wpAny_forIn_list _ (fun rest kw s' => s' = s ∧ ∃ todo, ks = kw ++ todo ∧ Paired (fun (e : DictEntry) (k : Str × Value) => (∃ t, e.key = .str k.1 t) ∧ e.val = k.2) rest todo) _ ?_ ?_ _ _ ⟨rfl, ks, rfl, hp⟩
  · rintro e rest kw s' ⟨rfl, todo, rfl, hq⟩
    cases hq with
    | @cons _ k _ todo h1 h2 =>
      obtain ⟨⟨t, hk⟩, hv⟩ := h1
      simp only [hk]
      refine wpAny_pure ⟨rfl, todo, ?_, h2⟩
      rw [hv, List.append_assoc]
      rfl
  · rintro kw s' ⟨rfl, todo, rfl, hq⟩
    cases hq
    rw [List.append_nil] at h
    exact wpAny_pure h
theorem merged_kw {K : Type} [DecidableEq K] {knd : KeyKind prog w K} {f : Value} {x : Sem Value} {Q : Addr → Shared → Prop} (hr : ∀ k a, knd.is k (.ref a) = false)
    (h : wpAny (model prog w) A x (fun v s1 => ∃ o more, v = .ref o ∧ s.heap.objs.size ≠ o ∧ (o == sysModules) = false ∧ s1.heap.DictOf knd s.heap.objs.size [] ∧ s1.heap.DictOf knd o more ∧ more.length ≤ 1000 ∧
      ∀ h', h'.DictOf knd s.heap.objs.size more → Heap.SameBut s.heap.objs.size s1.heap h' → Q s.heap.objs.size { s1 with heap := h' }) E { s with heap := s.heap.push { cls := .type "dict", data := .dict #[] } }) : wpAny (model prog w) A (mergedKeywords f [(none, x)]) Q E s := by
  unfold mergedKeywords
  refine wpAny_bind (wpAny_alloc (wpAny_bind (wpAny_holding ?_)))
  refine wpAny_bind (wpAny_forIn_list _ (fun rest g s' => (rest = [(none, x)] ∧ g = [] ∧ s' = { s with heap := s.heap.push { cls := .type "dict", data := .dict #[] } }) ∨ (rest = [] ∧ g = [] ∧ Q s.heap.objs.size s')) _ ?_ ?_ _ _ (.inl ⟨rfl, rfl, rfl⟩))
  · rintro y rest g s' (⟨hy, rfl, rfl⟩ | ⟨hy, _, _⟩)
    · cases hy
      refine wpAny_bind (wpAny_pure ?_)
      refine wpAny_bind (wpAny_mono h (fun v s1 hv => ?_) fun _ _ z => z)
      obtain ⟨o, more, rfl, h1, h2, h3, h4, h5, q⟩ := hv
      refine wpAny_bind (wpAny_onRaise (wpAny_holding (wpAny_tryCatch (wpAny_onRaise (merge_map h1 h2 h3 h4 hr h5 fun h' hd' hs' => ?_)))))
      exact wpAny_pure (.inr ⟨rfl, rfl, q h' hd' hs'⟩)
    · cases hy
  · rintro g s' (⟨hy, rfl, rfl⟩ | ⟨_, rfl, q⟩)
    · cases hy
    · exact wpAny_pure (wpAny_pure q)
theorem args_kw {f : Value} {x : Sem Value} {Q : Args → Shared → Prop} (h : wpAny (model prog w) A (mergedKeywords f [(none, x)]) (fun d s1 => wpAny (model prog w) A (keywordsIn f d) (fun kw s2 => Q ⟨[], kw⟩ s2) E s1) E s) : wpAny (model prog w) A (evalArgs f true [] [(none, x)]) Q E s := by
  unfold evalArgs
  refine wpAny_bind (Calls.spliced_nil (wpAny_bind (wpAny_pure (wpAny_holding ?_))))
  refine wpAny_bind (wpAny_mono h (fun d s1 hd => ?_) fun _ _ z => z)
  refine wpAny_bind (wpAny_pure (wpAny_bind (wpAny_holding (wpAny_mono hd (fun kw s2 q => wpAny_pure q) fun _ _ z => z))))
end
/-! ### C(**d) -/
theorem mix_ref {P : Program} {w : World} (k : Key) (a : Addr) : (mixKind P w).is k (.ref a) = false := by
  cases k <;> rfl
theorem call_star {prog : Program} {w : World} {A : Around} {E : Value → Shared → Prop} {s : Shared} {K : PySem.W.Frag} {f : Value} {pos : Pos} {x : Sem Value} {Q : Value → Shared → Prop} (hk : PySem.W.keepIn K f = true)
    (h : wpAny (model prog w) A (evalArgs f true [] [(none, x)]) (fun a s1 => K.In s1.heap ∧ wpAny (model prog w) A (call f ([] ++ a.pos) a.kw) Q E s1) E s) : wpAny (model prog w) A (callWith pos f [] [] [(none, x)]) Q E s := by
  unfold callWith
  refine wpAny_bind (wpAny_holding (wpAny_mono h (fun a s₁ h₁ => wpAny_bind (wpAny_standAt ?_)) fun _ _ z => z))
  obtain ⟨k, hk', L⟩ := PySem.W.keeps_K (M := model prog w) hk _ h₁.1
  have tail : ∀ {t : Sem Value}, wpAny (model prog w) A t Q E s₁ → wpAny (model prog w) A (t >>= fun r => holding [r] point >>= fun _ => pure r) Q E s₁ :=
    fun ht => wpAny_bind (wpAny_mono ht (fun r s₂ hr => wpAny_bind (wpAny_holding (wpAny_point (wpAny_pure hr)))) fun _ _ z => z)
  refine wpAny_bind (L.here ?_)
  have marked (mk : Value) : wpAny (model prog w) A (callMarked mk f ([] ++ a.pos) a.kw) Q E s₁ := by
    unfold callMarked
    exact Calls.wpAny_keep h₁.2
  rcases hk' with rfl | rfl | rfl
  · exact tail (marked _)
  · exact tail (wpAny_operateT h₁.2)
  · exact tail (wpAny_operateT h₁.2)
/-- the dict's pairs: the names, their values -/
def kwV (ks : List Str) (zs : List V) : List (Key × V) := (ks.map Sum.inr).zip zs
theorem kwV_vals {P : Program} {w : World} : ∀ {ks : List Str} {zs : List V} {vs : List (Key × Value)} {es : List DictEntry}, zs.length = ks.length → KV (kwV ks zs) vs → Pairs (mixKind P w) es vs → ∃ ws : List Value, Vals zs ws ∧ Paired (fun (e : DictEntry) (k : Str × Value) => (∃ t, e.key = .str k.1 t) ∧ e.val = k.2) es (ks.zip ws)
  | [], [], _, _, _, .nil, .nil => ⟨[], .nil, .nil⟩
  | k :: ks, z :: zs, q :: vs, e :: es, hl, .cons ⟨h1, h2⟩ hr, .cons g1 g2 gr => by
    obtain ⟨ws, r1, r2⟩ := kwV_vals (ks := ks) (zs := zs) (by simpa using hl) hr gr
    rw [← h1] at g1
    have rk : RelV (.str k) e.key := relV_key (k := .inr k) (show keyIs (.inr k) e.key = true from g1)
    exact ⟨q.2 :: ws, .cons h2 r1, .cons ⟨rk, g2⟩ r2⟩
def tMkX (C : Addr) (ks : List Str) (sp : Sp) (gV : List V → List V → List V) (E : L2.St → XK) (te : TE) : TE := fun σ H Q => te σ H fun v H1 => ∃ a zs, v = .ref a ∧ H1 a = some (.dK (kwV ks zs)) ∧ zs.length = ks.length ∧ ∀ x dx, H1 x = none → H1 dx = none → dx ≠ x →
  sp (gV [.ref x] zs) (upd (upd H1 dx (.own x)) x (.ins C dx [])) (fun v H3 => v = .non ∧ Q (.ref x) H3) (E σ)
theorem pe_mkX {X : Cx} {k j : Nat} {C : Addr} {x : Str} {sp : Sp} {ks : List Str} {W : WX} {gV : List V → List V → List V} {p pos kp : Pos} {e : Expr} {te : TE} (c : MakG X.prog X.w X.K X.mg X.base k x C sp 0 ks gV) (hr : Room j X.A) (hk : k + 1 ≤ j) (hks : ks.length ≤ 100) (tk : Takes X W) (hg : Gl X x) (he : PE X e te)
    (hdb : (x == ("__debug__" : Str)) = false := by decide) : PE X (.Call (.Name x p) [] [⟨none, e, kp⟩] pos) (tMkX C ks sp gV (WE W) te) := by
  obtain ⟨f, fd, ps, gg, M, F, hm, b⟩ := c.ex
  refine ⟨fun pins s σ H Q I h => wpAny_Call_Name_kw (ld_glob I hg hm ?_ hdb)⟩
  show wpAny _ _ (callWith pos (.ref C) [] [] [(none, do let v ← eval e X.env; standAt pos; pure v)]) _ _ _
  refine call_star M.kp (args_kw (merged_kw (knd := mixKind X.prog X.w) mix_ref ?_))
  have kk : ∀ b o, s.heap.get? b = some o → (s.heap.push { cls := .type "dict", data := .dict #[] }).get? b = some o := fun b o e => Heap.get?_push_of_some _ e
  have I0 : Inv X pins σ H { s with heap := s.heap.push { cls := .type "dict", data := .dict #[] } } := I.kept (t' := s.toks) kk
  have hfresh := I.hok.fresh (Nat.le_refl s.heap.objs.size)
  have fp := I.fpOk (Nat.le_refl s.heap.objs.size) hfresh
  have hnew : (s.heap.push { cls := .type "dict", data := .dict #[] }).get? s.heap.objs.size = some { cls := .type "dict", data := .dict #[] } := Heap.get?_push_size _ rfl
  have Ip := Inv.pinned (fp := [s.heap.objs.size]) I0 (fun b hb => by rw [List.mem_singleton.mp hb]; exact fp) (fun b hb => by rw [List.mem_singleton.mp hb]; exact ⟨_, hnew, fun v z => nomatch z⟩)
  refine wpAny_bind (thn (he.run _ _ σ H _ Ip h) fun u s1 ⟨v, H1, I1, rv, a, zs, ev, ha, hl, q⟩ => wpAny_bind (wpAny_standAt (wpAny_pure ?_)))
  subst ev
  obtain rfl : u = Value.ref a := rv
  obtain ⟨_, ya, va, ra, da⟩ := (show ObjOk X.prog X.w H1 s1.heap a (.dK (kwV ks zs)) from I1.hok a _ ha)
  have pin := I1.pin (s.heap.objs.size, { cls := .type "dict", data := .dict #[] }) (List.mem_append_right _ (List.mem_append_right _ (mem_pinsAt (List.mem_singleton.mpr rfl) hnew)))
  have hda : s.heap.objs.size ≠ a := fun z => by
    have := pin.2.1
    rw [z, ha] at this
    cases this
  obtain ⟨f0, f1, f2, f3, f4, f5⟩ := fp
  have lva : va.length = ks.length := by
    rw [← ra.length, kwV, List.length_zip, List.length_map, hl, Nat.min_self]
  refine ⟨a, va, rfl, hda, ya, ?_, da, by omega, fun h' hd' hs' => ?_⟩
  · exact ⟨_, #[], 0, pin.1, ⟨rfl, rfl, rfl⟩, rfl, fun e he => absurd he (by simp), .nil, by simp⟩
  · obtain ⟨o, es, ep, ho, hc, hdt, hkk, hpp, hn⟩ := id hd'
    obtain ⟨ws, r1, r2⟩ := kwV_vals hl ra hpp
    refine kws_in ho hdt (ks.zip ws) r2 ?_
    have I2 : Inv X pins σ H1 { s1 with heap := h' } := (Inv.unpinned I1).turned (t' := s1.toks) (fun b ob hb e => (hs'.2 b hb).trans e) pin.2.1 f1 f3 f4 f5
    exact ⟨I2.kIn, make_at (us := []) (vs := []) M F (hr.mono hk) b (passAt tk σ) I2 .nil r1 rfl hl q⟩
theorem i_mkX {C : Addr} {ks : List Str} {sp : Sp} {gV : List V → List V → List V} {E : L2.St → XK} {te : TE} {σ : L2.St} {H : Hp} {Q : VK} (q : te σ H fun v H1 => ∃ a zs, v = .ref a ∧ H1 a = some (.dK (kwV ks zs)) ∧ zs.length = ks.length ∧ ∀ x dx, H1 x = none → H1 dx = none → dx ≠ x →
  sp (gV [.ref x] zs) (upd (upd H1 dx (.own x)) x (.ins C dx [])) (fun v H3 => v = .non ∧ Q (.ref x) H3) (E σ)) : tMkX C ks sp gV E te σ H Q := q
end G
set_option Elab.async false
set_option linter.all false
set_option maxRecDepth 100000
namespace G
open PySem PySem.Spec PyProof.Rows L2
theorem u1 {k : Nat} {A : Around} (hr : Room k A) : A.units + 1 < cLine := by
  have := hr.un
  omega
theorem u0 {k : Nat} {A : Around} (hr : Room k A) : A.units < cLine := by
  have := hr.un
  omega
/-! ### C.m(), m a staticmethod -/
structure Dst (K : PySem.W.Frag) (C : Addr) (m qual : Str) (st : Stmt) : Prop where
  ex : ∃ (p f : Addr) (fd : FuncData) (rest : List Value), PySem.W.specialIn K (.ref C) "__getattribute__" = some (some (.builtin "type.__getattribute__")) ∧ PySem.W.typeIn K (.ref C) = some (.type "type") ∧ PySem.W.readsIn K C (.type "type") = true ∧
    PySem.W.findCls K (.ref C) (.type "type") m = some (.get (.builtin "staticmethod.__get__") (.ref p) .none (.ref C)) ∧ PySem.W.recIn K p "staticmethod" = some (.ref f :: rest) ∧ Fun K m qual st f fd ∧ Binds K fd [] []
structure StmG (P : Program) (w : World) (K : PySem.W.Frag) (mg : Str → Option Value) (base : Heap) (g : Bool) (k : Nat) (C : Addr) (m : Str) (sp : Sp) : Prop where
  ex : ∃ (p f : Addr) (fd : FuncData) (rest : List Value), PySem.W.specialIn K (.ref C) "__getattribute__" = some (some (.builtin "type.__getattribute__")) ∧ PySem.W.typeIn K (.ref C) = some (.type "type") ∧ PySem.W.readsIn K C (.type "type") = true ∧
    PySem.W.findCls K (.ref C) (.type "type") m = some (.get (.builtin "staticmethod.__get__") (.ref p) .none (.ref C)) ∧ PySem.W.recIn K p "staticmethod" = some (.ref f :: rest) ∧ PySem.W.keepIn K (.ref f) = true ∧ Fg P w K mg base g k f fd [] sp ∧ Binds K fd [] []
theorem Dst.stm {P : Program} {w : World} {K : PySem.W.Frag} {mg : Str → Option Value} {base : Heap} {g : Bool} {k : Nat} {C : Addr} {m qual : Str} {st : Stmt} {N : List Str} {sp : Sp} (F : Dst K C m qual st) (S : FnScope N [] (defScope st)) (len : ∀ vs H Q E, sp vs H Q E → vs.length = 0) (hbody : ∀ f, BodyN P w K mg base g k N qual st f sp) : StmG P w K mg base g (k + 1) C m sp := by
  obtain ⟨p, f, fd, rest, h1, h2, h3, h4, h5, F1, b⟩ := F.ex
  exact ⟨p, f, fd, rest, h1, h2, h3, h4, h5, F1.kp, fg_of F1 S len fun cdv A outer s H vs Q E hr hg h => let ⟨t, h1, h2⟩ := hbody f cdv A outer s H vs Q E hr hg h; ⟨t, h1.nox, h2⟩, b⟩
def tSm (C : Addr) (sp : Sp) (E : L2.St → XK) (ta : TE) : TE := fun σ H Q => ta σ H fun x H1 => x = .ref C ∧ sp [] H1 Q (E σ)
section
variable {X : Cx} {g : Bool} {k j : Nat} {C : Addr} {m : Str} {sp : Sp} {W : WX} {o : Expr} {ta : TE} {pos apos : Pos} {pl : Sem Bool}
theorem pe_sm (c : StmG X.prog X.w X.K X.mg X.base g k C m sp) (hr : Room j X.A) (hk : k ≤ j) (gd : g = true → X.A.guards = some []) (tk : Takes X W) (he : PE X o ta)
    (ht : eval (.Call (.Attribute o m apos) [] [] pos) X.env = (do
      let ov ← eval o X.env
      standAt apos.atName
      let (f, first) ← holding [ov] (getMethod ov m pl)
      callWith pos f first (backTo pos (starEach [] X.env)) (backToKw pos (keywordEach [] X.env))) := by rfl) : PE X (.Call (.Attribute o m apos) [] [] pos) (tSm C sp (WE W) ta) := by
  obtain ⟨p, f, fd, rest, h1, h2, h3, h4, h5, kp, F, b⟩ := c.ex
  refine ⟨fun pins s σ H Q I h => PySem.W.methodCall_KW (pl := pl) (thn (he.run pins s σ H _ I h) fun u s1 ⟨x, H1, I1, rx, ex, q⟩ => ?_) ht⟩
  subst ex
  obtain rfl : u = Value.ref C := rx
  obtain ⟨m', hF⟩ := I1.fr
  refine PySem.W.method_of_cls hF I1.ok.mod.kin h1 (PySem.W.cls_sm hF I1.ok.mod.kin h2 h3 h4 h5 rfl ?_)
  have I2 := I1.tok (s1.toks + 1)
  exact PySem.W.callWith_K0 (first := []) I2.kIn kp (run_at (us := []) (vs := []) (ds := []) (dvs := []) F (hr.mono hk) gd rfl b .nil (passAt tk σ) I2 .nil q)
theorem i_sm {E : L2.St → XK} {σ : L2.St} {H : Hp} {Q : VK} (q : ta σ H fun x H1 => x = .ref C ∧ sp [] H1 Q (E σ)) : tSm C sp E ta σ H Q := q
end
/-! ### == of two dicts with the same names -/
def rEqKw : R2 := fun x y H Q => ∃ a b ks, ∃ zs ys : List Str, x = .ref a ∧ y = .ref b ∧ H a = some (.dK (kwV ks (zs.map V.str))) ∧ H b = some (.dK (kwV ks (ys.map V.str))) ∧ zs.length = ks.length ∧ ys.length = ks.length ∧ ks.Nodup ∧ Q (.bl (decide (zs = ys))) H
theorem val_kw : ∀ {ks : List Str} {ys : List V} {vb : List (Key × Value)}, KV (kwV ks ys) vb → ks.Nodup → ∀ (i : Nat) (k : Str) (y : V), ks[i]? = some k → ys[i]? = some y → ∃ u, valueAt vb (Sum.inr k) = some u ∧ RelV y u
  | [], _, _, _, _, i, k, y, h, _ => by simp at h
  | _ :: _, [], _, _, _, i, k, y, _, h => by simp at h
  | k0 :: ks, y0 :: ys, q :: vb, .cons ⟨h1, h2⟩ hr, nd, i, k, y, hk, hy => by
    obtain ⟨q1, q2⟩ := q
    cases (show Sum.inr k0 = q1 from h1)
    cases i with
    | zero =>
      cases (show some k0 = some k from hk)
      cases (show some y0 = some y from hy)
      exact ⟨q2, by simp [valueAt], h2⟩
    | succ i =>
      rw [List.nodup_cons] at nd
      have hk' : ks[i]? = some k := hk
      have ne : k0 ≠ k := fun z => nd.1 (z ▸ List.mem_of_getElem? hk')
      obtain ⟨u, hu, ru⟩ := val_kw hr nd.2 i k y hk' hy
      refine ⟨u, ?_, ru⟩
      rw [← hu]
      unfold valueAt
      rw [List.find?_cons_of_neg]
      simp [ne]
theorem hits_kw {A : Around} {s : Shared} {ks0 : List Str} {ys0 : List Str} {vb : List (Key × Value)} (rb : KV (kwV ks0 (ys0.map V.str)) vb) (nd : ks0.Nodup) (hl0 : ys0.length = ks0.length) : ∀ {ks zs ys : List Str} {va : List (Key × Value)} (n : Nat), ks0.drop n = ks → ys0.drop n = ys → zs.length = ks.length → KV (kwV ks (zs.map V.str)) va → PySem.W.KeqHits A s vb va (decide (zs = ys))
  | [], [], ys, _, n, hk, hy, _, .nil => by
    have : ys = [] := by
      rw [← hy, List.drop_eq_nil_iff, hl0]
      exact List.drop_eq_nil_iff.mp hk
    subst this
    exact .nil
  | k :: ks, z :: zs, ys, q :: va, n, hk, hy, hl, .cons ⟨h1, h2⟩ hr => by
    obtain ⟨q1, q2⟩ := q
    cases (show Sum.inr k = q1 from h1)
    have hkn : ks0[n]? = some k := by
      have : (ks0.drop n)[0]? = some k := by rw [hk]; rfl
      rwa [List.getElem?_drop, Nat.add_zero] at this
    have hlt : n < ys0.length := by rw [hl0]; exact (List.getElem?_eq_some_iff.mp hkn).1
    have hyn : ys0[n]? = some ys0[n] := List.getElem?_eq_getElem hlt
    obtain ⟨u, hu, ru⟩ := val_kw rb nd n k (.str ys0[n]) hkn (by rw [List.getElem?_map, hyn]; rfl)
    have hys : ys = ys0[n] :: ys0.drop (n + 1) := by rw [← hy]; exact List.drop_eq_getElem_cons hlt
    have ih := hits_kw (A := A) (s := s) rb nd hl0 (ks := ks) (zs := zs) (ys := ys0.drop (n + 1)) (va := va) (n + 1) (by rw [← List.drop_drop, hk]; rfl) rfl (by simpa using hl) hr
    obtain ⟨t, rfl⟩ := (show ∃ t, q2 = Value.str z t from h2)
    obtain ⟨t', rfl⟩ := (show ∃ t, u = Value.str ys0[n] t from ru)
    have e : decide (z :: zs = ys) = ((z == ys0[n]) && decide (zs = ys0.drop (n + 1))) := by
      rw [hys, Bool.eq_iff_iff, decide_eq_true_iff, Bool.and_eq_true, beq_iff_eq, decide_eq_true_iff, List.cons.injEq]
    rw [e]
    exact .hit hu (SeqAt.EqAt.str_str z t ys0[n] t') ih
theorem op_eqKw {X : Cx} (hu : X.A.units < cLine) : OpR X (compareOp .Eq) rEqKw := by
  intro pins s σ H x y v u Q I rx ry h
  obtain ⟨a, b, ks, zs, ys, rfl, rfl, ea, eb, l1, l2, nd, q⟩ := h
  obtain rfl : v = Value.ref a := rx
  obtain rfl : u = Value.ref b := ry
  obtain ⟨_, ya, va, ra, da⟩ := (show ObjOk X.prog X.w H s.heap a (.dK (kwV ks (zs.map V.str))) from I.hok a _ ea)
  obtain ⟨_, yb, vb, rb, db⟩ := (show ObjOk X.prog X.w H s.heap b (.dK (kwV ks (ys.map V.str))) from I.hok b _ eb)
  have hl : va.length = vb.length := by
    rw [← ra.length, ← rb.length, kwV, kwV, List.length_zip, List.length_zip, List.length_map, List.length_map, List.length_map, l1, l2]
  exact PySem.W.keq_eq (knd := mixKind X.prog X.w) (r := decide (zs = ys)) ya yb da db hu (fun _ => hits_kw rb nd l2 0 rfl rfl l1 ra) (fin_bl I q (by simp [hl]))
/-! ### a class whose __init__ takes keywords alone -/
structure Dkk (K : PySem.W.Frag) (mg : Str → Option Value) (x : Str) (C : Addr) (qual : Str) (st : Stmt) (kws : List (Str × V)) : Prop where
  ex : ∃ (f : Addr) (fd : FuncData), Mk K C f ∧ mg x = some (.ref C) ∧ FunD K "__init__" qual (defArgs st) (defBody st) (defScope st) [] kws f fd
structure Inik (P : Program) (w : World) (K : PySem.W.Frag) (mg : Str → Option Value) (base : Heap) (k : Nat) (x : Str) (C : Addr) (qual : Str) (st : Stmt) (kws : List (Str × V)) (ps : List Str) (sp : Sp) : Prop where
  ex : ∃ (f : Addr) (fd : FuncData), Mk K C f ∧ mg x = some (.ref C) ∧ FunD K "__init__" qual (defArgs st) (defBody st) (defScope st) [] kws f fd ∧ Fg P w K mg base false k f fd ps sp
section
variable {P : Program} {w : World} {K : PySem.W.Frag} {mg : Str → Option Value} {base : Heap} {x qual : Str} {st : Stmt} {N ps : List Str} {k : Nat} {sp : Sp} {C : Addr} {kws : List (Str × V)}
theorem Dkk.ini (F : Dkk K mg x C qual st kws) (S : FnScope N ps (defScope st)) (len : ∀ vs H Q E, sp vs H Q E → vs.length = ps.length) (hbody : ∀ f, BodyX P w K mg base false k N qual st f sp) : Inik P w K mg base (k + 1) x C qual st kws ps sp := by
  obtain ⟨f, fd, M, hm, F1⟩ := F.ex
  exact ⟨f, fd, M, hm, F1, Fg.of (F1.ok S len fun cdv A outer s H vs Q E hr h => hbody f cdv A outer s H vs Q E hr (fun e => nomatch e) h)⟩
theorem Inik.mak {n : Nat} {ks : List Str} {gV : List V → List V → List V} (F : Inik P w K mg base k x C qual st kws ps sp) (b : ∀ f fd, FunD K "__init__" qual (defArgs st) (defBody st) (defScope st) [] kws f fd → ∃ gg, KBn K fd ps (n + 1) ks gg gV) : MakG P w K mg base k x C sp n ks gV := by
  obtain ⟨f, fd, M, hm, F1, G⟩ := F.ex
  obtain ⟨gg, kb⟩ := b f fd F1
  exact ⟨f, fd, ps, gg, M, G, hm, kb⟩
end
section
variable {σ : L2.St} {H : Hp} {Q : VK} {td ty tv : TE} {D : Ends}
theorem i_dget (q : td σ H fun x H1 => ty σ H1 fun y H2 => ∃ a v, x = .ref a ∧ DGet H2 a y (some v) ∧ Q v H2) : tDGet td ty σ H Q := q
theorem i_dput (q : tv σ H fun v H1 => td σ H1 fun x H2 => ty σ H2 fun y H3 => ∃ a H4, x = .ref a ∧ DPut H3 a y v H4 ∧ D.nx σ H4) : sDPut td ty tv D σ H := q
end
theorem ex_made {H H' : Hp} {x dx : Addr} {o u : HO} (hx : H x = none) (hdx : H dx = none) (b : But x (upd (upd H dx o) x u) H') : G.Ex H H' := fun a w ha => by
  have h1 := ne_of_none ha hx
  have h2 := ne_of_none ha hdx
  exact b a w h1 (by rw [upd_ne h1, upd_ne h2]; exact ha)
end G
set_option Elab.async false
set_option linter.all false
set_option maxRecDepth 100000
namespace G
open PySem PySem.Spec PyProof.Rows L2
/-- len(d), d written -/
theorem call_lenW {X : Cx} {d : Addr} {ks : List Str} (W : Wk X.K X.w d ks) (hn : ks.length < 1000 := by decide) : CallR X (.builtin "len") (fun xs H Q => xs = [V.ref d] ∧ Q (.int ks.length) H) := by
  intro pins s σ H xs us Q I r h
  obtain ⟨rfl, q⟩ := h
  obtain ⟨u, rfl, ru⟩ := vals1 r
  cases ru
  obtain ⟨n, o, kvs, h1, hx, ⟨es, d1, d2⟩, hs, hc, hA⟩ := W.at X.prog
  have hl : kvs.length = ks.length := by rw [← h1, List.length_map]
  refine call_len_dict hs ((hA _).2 ((hA _).1 I.kIn)).dictOf (by omega) ?_
  rw [hl]
  exact ⟨.int ks.length, H, I.tok _, ⟨_, rfl⟩, q⟩
section
variable {to : TE} {σ : L2.St} {H : Hp} {Q : VK}
theorem i_m0 {r : V → List V → Hp → VK → Prop} (q : to σ H fun x H1 => (∃ a, x = .str a) ∧ r x [] H1 Q) : tM0 r to σ H Q := q
end
section
variable {ks : List Str} {te : TE} {vs : List Nat} {σ : L2.St} {H : Hp} {j : Nat} {Q : VK}
/-- [.. for k in d], d written; with what holds on the way -/
theorem lc_wkG (Pv : Nat → Addr → Hp → Prop) (hw : ∀ x, wipe ((wipe σ vs).set j (some x)) vs = wipe σ vs) (h0 : ∀ D, H D = none → Pv 0 D (upd H D (.lst [])))
    (hs : ∀ (i : Nat) (k : Str) (D : Addr) (H' : Hp), ks[i]? = some k → H D = none → Pv i D H' → te ((wipe σ vs).set j (some (.str k))) H' fun y H2 => ∃ xs, H2 D = some (.lst xs) ∧ xs.length < sizeLine ∧ Pv (i + 1) D (upd H2 D (.lst (xs ++ [y]))))
    (hd : ∀ D H', H D = none → Pv ks.length D H' → Q (.ref D) H') : lcB (Itw ks) (gName j) tYes te vs σ Q H := by
  intro D hD
  refine ⟨fun i m H' => m = ks.length - i ∧ i ≤ ks.length ∧ Pv i D H', ⟨ks.length, rfl, Nat.zero_le _, h0 D hD⟩, ?_⟩
  rintro i m H' ⟨rfl, hi, h⟩
  by_cases hlt : i < ks.length
  · refine .inr ⟨hlt, fun H2 => Pv (i + 1) D H2, fun H2 p => ⟨ks.length - (i + 1), by omega, rfl, hlt, p⟩, fun x H2 y => ?_⟩
    obtain ⟨rfl, k, hk, rfl⟩ := y
    refine ⟨hw _, i_yes ?_⟩
    rw [if_pos rfl]
    exact hs i k D H2 hk hD h
  · obtain rfl : i = ks.length := by omega
    exact .inl ⟨Nat.le_refl _, hd D H' hD h⟩
end
end G
namespace K
open PySem PySem.Spec PyProof.Rows L2 G TL
local macro_rules | `(tactic| walk_at "side") => `(tactic| focus (first | assumption | exact rfl | omega | decide))
local macro_rules | `(tactic| walk_at "ty") => `(tactic| focus (first | exact .base (.str _) | exact .base (.int _) | exact .base (.bl _) | exact .base .non | exact .base (.lst (by assumption)) | exact .base (.tup (by assumption)) | exact .base (.dK (by assumption)) | assumption))
local macro_rules | `(tactic| walk_at "kt") => `(tactic| focus (with_reducible first | exact kt_NoneType_str | exact kt_NoneType_int | exact kt_NoneType_bool | exact kt_NoneType_tuple | exact kt_NoneType_list | exact kt_NoneType_dict | exact kt_bool_str | exact kt_bool_int | exact kt_bool_bool | exact kt_bool_tuple | exact kt_bool_list | exact kt_bool_dict | exact kt_int_str | exact kt_int_int | exact kt_int_bool | exact kt_int_tuple | exact kt_int_list | exact kt_int_dict | exact kt_str_str | exact kt_str_int | exact kt_str_bool | exact kt_str_tuple | exact kt_str_list | exact kt_str_dict | exact kt_list_str | exact kt_list_int | exact kt_list_bool | exact kt_list_tuple | exact kt_list_list | exact kt_list_dict | exact kt_tuple_str | exact kt_tuple_int | exact kt_tuple_bool | exact kt_tuple_tuple | exact kt_tuple_list | exact kt_tuple_dict | exact kt_dict_str | exact kt_dict_int | exact kt_dict_bool | exact kt_dict_tuple | exact kt_dict_list | exact kt_dict_dict | assumption))
local macro_rules | `(tactic| walk_at "1") => `(tactic| first
  | (with_reducible refine i_seq ?_)
  | (with_reducible refine iteT ?_)
  | (with_reducible refine iteF ?_)
  | (with_reducible refine iteNF ?_)
  | (with_reducible refine iteNT ?_)
  | (with_reducible refine i_asg ?_)
  | (with_reducible refine i_op ?_)
  | (with_reducible refine i_c ?_)
  | ((with_reducible apply i_var); (exact rfl))
  | (with_reducible refine i_cb ?_)
  | (with_reducible refine i_cons ?_)
  | (with_reducible refine i_nil ?_)
  | (with_reducible refine i_test ?_)
  | (with_reducible refine i_b ?_)
  | (with_reducible refine i_bl ?_)
  | (with_reducible refine i_name ?_)
  | (with_reducible refine i_ifS ?_)
  | (with_reducible refine i_next ?_)
  | (with_reducible refine i_ret ?_)
  | (with_reducible refine i_drop ?_)
  | (with_reducible refine i_lst ?_)
  | (with_reducible refine i_tup ?_)
  | (with_reducible refine i_and ?_)
  | (with_reducible refine i_or ?_)
  | (with_reducible refine i_not ?_)
  | (with_reducible refine i_andV ?_)
  | (with_reducible refine i_orV ?_)
  | (with_reducible refine i_notV ?_)
  | (with_reducible refine i_if ?_)
  | (with_reducible refine i_chain ?_)
  | (with_reducible refine i_un ?_)
  | (with_reducible refine i_neg ?_)
  | (with_reducible refine i_sub ?_)
  | (with_reducible refine i_sl ?_)
  | (with_reducible refine i_noP ?_)
  | (with_reducible refine i_part ?_)
  | (with_reducible refine i_int ?_)
  | (with_reducible refine i_bm ?_)
  | (with_reducible refine i_strT ?_)
  | (with_reducible refine i_yes ?_)
  | (with_reducible refine i_call ?_)
  | ((with_reducible refine i_len ?_ ?_); (focus (exact sz (by simp))))
  | (with_reducible refine i_lc ?_)
  | (with_reducible refine i_for ?_)
  | (with_reducible refine i_rng1 ?_)
  | (with_reducible refine i_rng2 ?_)
  | (with_reducible refine l_addI ?_)
  | (with_reducible refine l_subI ?_)
  | (with_reducible refine l_cmp ?_)
  | (with_reducible refine l_eqI ?_)
  | (with_reducible refine l_eqS ?_)
  | (with_reducible refine l_eqB ?_)
  | (with_reducible refine l_neI ?_)
  | (with_reducible refine l_neS ?_)
  | (with_reducible refine l_neB ?_)
  | (with_reducible refine l_isN ?_)
  | (with_reducible refine l_isNotN ?_)
  | (with_reducible refine l_isB ?_)
  | (with_reducible refine l_isNotB ?_)
  | (with_reducible refine l_intI ?_)
  | (with_reducible refine l_intB ?_)
  | (with_reducible refine l_inC ?_)
  | (refine ⟨_, _, rfl, rfl, sz (by first | omega | simp; omega), ?_⟩)
  | ((with_reducible refine l_pow ?_ ?_); (focus (exact ⟨by decide, by decide, by decide⟩)))
  | ((with_reducible refine l_mul ?_ ?_); (focus (first | assumption | exact Or.inl (Or.inl ⟨by omega, by omega⟩) | exact Or.inl (Or.inr ⟨by omega, by omega⟩))))
  | ((with_reducible refine l_div ?_ ?_); (focus (first | assumption | exact ⟨by decide, by decide⟩)))
  | ((with_reducible apply l_setL); (assumption); (exact rfl))
  | ((with_reducible refine l_mod ?_ ?_); (walk_at "side"))
  | ((with_reducible apply l_ixL); (assumption); (exact rfl))
  | ((with_reducible refine l_lenS ?_ ?_); (focus (first | assumption | exact sz (by omega) | exact sz (by simp; omega))))
  | ((with_reducible refine l_slS ?_ ?_); (focus (first | assumption | exact sz (by omega))))
  | ((with_reducible apply l_isi); (walk_at "ty"); (walk_at "kt"))
  | ((with_reducible apply l_lenL); (assumption)))
local macro_rules | `(tactic| walk_at "go") => `(tactic| repeat (walk_at "1"))
local macro_rules | `(tactic| walk_at "1") => `(tactic| first
  | (with_reducible refine i_mkS ?_)
  | (with_reducible refine i_cS ?_)
  | (with_reducible refine i_fld ?_)
  | (with_reducible refine i_sFld ?_)
  | (with_reducible refine i_tX ?_)
  | (with_reducible refine l_len2 rfl rfl ?_))
local macro_rules | `(tactic| walk_at "1") => `(tactic| first
  | (with_reducible refine i_stp ?_)
  | ((with_reducible apply i_iad); (exact rfl))
  | (with_reducible refine i_cO ?_)
  | (with_reducible refine i_prp ?_)
  | (with_reducible refine i_mtS ?_)
  | (with_reducible refine i_fldaug ?_)
  | (with_reducible refine i_par ?_)
  | (with_reducible refine i_par3 ?_)
  | (with_reducible refine i_revL ?_))
local macro_rules | `(tactic| walk_at "1") => `(tactic| first
  | (with_reducible refine i_dget ?_)
  | (with_reducible refine i_dput ?_)
  | (with_reducible refine i_sm ?_)
  | (with_reducible refine i_mkX ?_))
section
variable {P : Program} {w : World} {K : PySem.W.Frag} {mg : Str → Option Value} {base : Heap}
def topS (i : Nat) : Stmt := PySem.Challenge.pw_roundrules_k74_notes_of_rules_and_marks.main.body.getD i (.Pass ⟨0, 0, 0, 0⟩)
abbrev s__wall : Stmt := topS 0
theorem sc__wall : FnScope ["k"] ["k"] (defScope s__wall) := ⟨rfl, rfl, rfl, by decide +kernel, rfl, by decide +kernel, by decide +kernel⟩
abbrev s_BadSwitch___init__ : Stmt := inClass (topS 3) 0
theorem sc_BadSwitch___init__ : FnScope ["self", "name"] ["self", "name"] (defScope s_BadSwitch___init__) := ⟨rfl, rfl, rfl, by decide +kernel, rfl, by decide +kernel, by decide +kernel⟩
abbrev s_BadNote___init__ : Stmt := inClass (topS 4) 0
theorem sc_BadNote___init__ : FnScope ["self", "value"] ["self", "value"] (defScope s_BadNote___init__) := ⟨rfl, rfl, rfl, by decide +kernel, rfl, by decide +kernel, by decide +kernel⟩
abbrev s_is_name : Stmt := topS 8
theorem sc_is_name : FnScope ["value"] ["value"] (defScope s_is_name) := ⟨rfl, rfl, rfl, by decide +kernel, rfl, by decide +kernel, by decide +kernel⟩
abbrev s_is_word : Stmt := topS 11
theorem sc_is_word : FnScope ["name", "value"] ["name", "value"] (defScope s_is_word) := ⟨rfl, rfl, rfl, by decide +kernel, rfl, by decide +kernel, by decide +kernel⟩
abbrev s_Rule___init__ : Stmt := inClass (topS 12) 0
theorem sc_Rule___init__ : FnScope ["self", "bound", "test", "variable", "limit", "after", "cell", "skip", "words", "name", "value"] ["self", "bound", "test", "variable", "limit", "after", "cell", "skip"] (defScope s_Rule___init__) := ⟨rfl, rfl, rfl, by decide +kernel, rfl, by decide +kernel, by decide +kernel⟩
abbrev s_Rule_counting : Stmt := inClass (topS 12) 1
theorem sc_Rule_counting : FnScope [] [] (defScope s_Rule_counting) := ⟨rfl, rfl, rfl, by decide +kernel, rfl, by decide +kernel, by decide +kernel⟩
abbrev s_Rule_testing : Stmt := inClass (topS 12) 2
theorem sc_Rule_testing : FnScope [] [] (defScope s_Rule_testing) := ⟨rfl, rfl, rfl, by decide +kernel, rfl, by decide +kernel, by decide +kernel⟩
abbrev s_Rule_closed : Stmt := inClass (topS 12) 3
theorem sc_Rule_closed : FnScope [] [] (defScope s_Rule_closed) := ⟨rfl, rfl, rfl, by decide +kernel, rfl, by decide +kernel, by decide +kernel⟩
abbrev s_Rule_trailing : Stmt := inClass (topS 12) 4
theorem sc_Rule_trailing : FnScope [] [] (defScope s_Rule_trailing) := ⟨rfl, rfl, rfl, by decide +kernel, rfl, by decide +kernel, by decide +kernel⟩
abbrev s_Rule___getitem__ : Stmt := inClass (topS 12) 5
theorem sc_Rule___getitem__ : FnScope ["self", "name"] ["self", "name"] (defScope s_Rule___getitem__) := ⟨rfl, rfl, rfl, by decide +kernel, rfl, by decide +kernel, by decide +kernel⟩
abbrev s_Rule___iter__ : Stmt := inClass (topS 12) 6
theorem sc_Rule___iter__ : FnScope ["self"] ["self"] (defScope s_Rule___iter__) := ⟨rfl, rfl, rfl, by decide +kernel, rfl, by decide +kernel, by decide +kernel⟩
abbrev s_Rule___eq__ : Stmt := inClass (topS 12) 7
theorem sc_Rule___eq__ : FnScope ["self", "other"] ["self", "other"] (defScope s_Rule___eq__) := ⟨rfl, rfl, rfl, by decide +kernel, rfl, by decide +kernel, by decide +kernel⟩
abbrev s_Rule_changed : Stmt := inClass (topS 12) 8
theorem sc_Rule_changed : FnScope ["self", "name", "word"] ["self", "name", "word"] (defScope s_Rule_changed) := ⟨rfl, rfl, rfl, by decide +kernel, rfl, by decide +kernel, by decide +kernel⟩
abbrev s_note_words : Stmt := topS 14
theorem sc_note_words : FnScope ["value"] ["value"] (defScope s_note_words) := ⟨rfl, rfl, rfl, by decide +kernel, rfl, by decide +kernel, by decide +kernel⟩
abbrev s_write_rule : Stmt := topS 15
theorem sc_write_rule : FnScope ["rule", "name"] ["rule"] (defScope s_write_rule) := ⟨rfl, rfl, rfl, by decide +kernel, rfl, by decide +kernel, by decide +kernel⟩
abbrev s_read_rule : Stmt := topS 16
theorem sc_read_rule : FnScope ["line", "words", "chosen", "name", "word"] ["line"] (defScope s_read_rule) := ⟨rfl, rfl, rfl, by decide +kernel, rfl, by decide +kernel, by decide +kernel⟩
abbrev s_write_mark : Stmt := topS 17
theorem sc_write_mark : FnScope ["mark"] ["mark"] (defScope s_write_mark) := ⟨rfl, rfl, rfl, by decide +kernel, rfl, by decide +kernel, by decide +kernel⟩
abbrev s_read_mark : Stmt := topS 18
theorem sc_read_mark : FnScope ["line", "words"] ["line"] (defScope s_read_mark) := ⟨rfl, rfl, rfl, by decide +kernel, rfl, by decide +kernel, by decide +kernel⟩
abbrev s__law_open : Stmt := topS 20
theorem sc__law_open : FnScope ["_law_script", "_law_one"] ["_law_script"] (defScope s__law_open) := ⟨rfl, rfl, rfl, by decide +kernel, rfl, by decide +kernel, by decide +kernel⟩
abbrev s__law_draw : Stmt := topS 21
theorem sc__law_draw : FnScope ["_law_state", "_law_many", "_law_drawn", "_law_first", "_law_value"] ["_law_state", "_law_many"] (defScope s__law_draw) := ⟨rfl, rfl, rfl, by decide +kernel, rfl, by decide +kernel, by decide +kernel⟩
abbrev s__law_word : Stmt := topS 22
theorem sc__law_word : FnScope ["_law_state", "_law_endings", "_law_word_here", "_law_turn"] ["_law_state", "_law_endings"] (defScope s__law_word) := ⟨rfl, rfl, rfl, by decide +kernel, rfl, by decide +kernel, by decide +kernel⟩
abbrev s__law_table : Stmt := topS 24
theorem sc__law_table : FnScope [] [] (defScope s__law_table) := ⟨rfl, rfl, rfl, by decide +kernel, rfl, by decide +kernel, by decide +kernel⟩
abbrev s__law_refused : Stmt := topS 25
theorem sc__law_refused : FnScope ["_law_kind", "_law_value", "_law_told", "e"] ["_law_kind", "_law_value"] (defScope s__law_refused) := ⟨rfl, rfl, rfl, by decide +kernel, rfl, by decide +kernel, by decide +kernel⟩
abbrev s__law_spoilt : Stmt := topS 26
theorem sc__law_spoilt : FnScope ["_law_state", "_law_line", "_law_words", "_law_at", "_law_kind"] ["_law_state", "_law_line"] (defScope s__law_spoilt) := ⟨rfl, rfl, rfl, by decide +kernel, rfl, by decide +kernel, by decide +kernel⟩
abbrev s_law : Stmt := topS 27
theorem sc_law : FnScope ["_law_script", "_law_state", "_law_words", "_law_row", "_law_rule", "_law_line", "_law_mark", "_law_note", "_law_turn", "_law_value", "_law_odd"] ["_law_script"] (defScope s_law) := ⟨rfl, rfl, rfl, by decide +kernel, rfl, by decide +kernel, by decide +kernel⟩
/-- what the top has written -/
structure Tp (K : PySem.W.Frag) (mg : Str → Option Value) (w : World) (a_KEYWORDS a_SWITCHES v_SWITCHES_0 v_SWITCHES_1 v_SWITCHES_2 v_SWITCHES_3 v_SWITCHES_4 v_SWITCHES_5 v_SWITCHES_6 C_RoundError C_BadSwitch C_BadNote C_Rule : Addr) : Prop where
  m_int : mg "int" = none
  m_isinstance : mg "isinstance" = none
  m_len : mg "len" = none
  m_range : mg "range" = none
  m_repr : mg "repr" = none
  m_str : mg "str" = none
  m_tuple : mg "tuple" = none
  m_zip : mg "zip" = none
  c_LETTERS : ∃ u, mg "LETTERS" = some u ∧ RelV (.str "abcdefghijklmnopqrstuvwxyz") u
  c_KEYWORDS : ∃ u, mg "KEYWORDS" = some u ∧ RelV (.ref a_KEYWORDS) u
  t_KEYWORDS : ∀ H : Hp, SqT K H a_KEYWORDS [.str "loop", .str "from", .str "read", .str "to", .str "below", .str "by", .str "say", .str "add", .str "widen", .str "ask", .str "else", .str "break", .str "next", .str "make", .str "call"]
  c_SWITCHES : ∃ u, mg "SWITCHES" = some u ∧ RelV (.ref a_SWITCHES) u
  wk_SWITCHES : Wk K w a_SWITCHES ["bound", "test", "variable", "limit", "after", "cell", "skip"]
  w_SWITCHES : Wd K w a_SWITCHES (fun z => ([("bound", V.ref v_SWITCHES_0), ("test", V.ref v_SWITCHES_1), ("variable", V.ref v_SWITCHES_2), ("limit", V.ref v_SWITCHES_3), ("after", V.ref v_SWITCHES_4), ("cell", V.ref v_SWITCHES_5), ("skip", V.ref v_SWITCHES_6)] : List (Str × V)).lookup z)
  tv_SWITCHES_0 : ∀ H : Hp, SqT K H v_SWITCHES_0 [.str "once", .str "anew"]
  tv_SWITCHES_1 : ∀ H : Hp, SqT K H v_SWITCHES_1 [.str "first", .str "last"]
  tv_SWITCHES_2 : ∀ H : Hp, SqT K H v_SWITCHES_2 [.str "shared", .str "hidden", .str "shut"]
  tv_SWITCHES_3 : ∀ H : Hp, SqT K H v_SWITCHES_3 [.str "out", .str "in"]
  tv_SWITCHES_4 : ∀ H : Hp, SqT K H v_SWITCHES_4 [.str "last", .str "beyond", .str "old", .str "gone"]
  tv_SWITCHES_5 : ∀ H : Hp, SqT K H v_SWITCHES_5 [.str "one", .str "round"]
  tv_SWITCHES_6 : ∀ H : Hp, SqT K H v_SWITCHES_6 [.str "step", .str "stay"]
  k_RoundError : ∃ u, mg "RoundError" = some u ∧ RelV (.ref C_RoundError) u
  k_BadSwitch : ∃ u, mg "BadSwitch" = some u ∧ RelV (.ref C_BadSwitch) u
  x_BadSwitch : ∀ (P : Program) (w : World) (base : Heap), Oex P w K mg base "BadSwitch" C_BadSwitch "name"
  k_BadNote : ∃ u, mg "BadNote" = some u ∧ RelV (.ref C_BadNote) u
  x_BadNote : ∀ (P : Program) (w : World) (base : Heap), Oex P w K mg base "BadNote" C_BadNote "value"
  k_Rule : ∃ u, mg "Rule" = some u ∧ RelV (.ref C_Rule) u
  cl_Rule : Cls K C_Rule
  n_Rule_bound : NoAttr K C_Rule "bound"
  n_Rule_test : NoAttr K C_Rule "test"
  n_Rule_variable : NoAttr K C_Rule "variable"
  n_Rule_limit : NoAttr K C_Rule "limit"
  n_Rule_after : NoAttr K C_Rule "after"
  n_Rule_cell : NoAttr K C_Rule "cell"
  n_Rule_skip : NoAttr K C_Rule "skip"
  n_Rule_words : NoAttr K C_Rule "words"
  ty_Rule : ∀ (H : Hp) (a dx : Addr) (fs : List (Str × V)), H a = some (.ins C_Rule dx fs) → TyX K H (.ref a) (.ref C_Rule)
  sf_Rule : PySem.W.selfFirst K C_Rule = true
  ne_Rule : PySem.W.findIn K (.ref C_Rule) "__ne__" = some (some (.builtin "object.__ne__"))
  ob_Rule : PySem.W.mroIn K C_Rule (.type "object") = some true
  nf_Rule_NoneType : PySem.W.subIn K (.type "NoneType") (.ref C_Rule) = some false
  kt_Rule_NoneType : PySem.W.kitOne K (.type "NoneType") (.ref C_Rule) = some false
  nf_Rule_list : PySem.W.subIn K (.type "list") (.ref C_Rule) = some false
  kt_Rule_list : PySem.W.kitOne K (.type "list") (.ref C_Rule) = some false
  nf_Rule_tuple : PySem.W.subIn K (.type "tuple") (.ref C_Rule) = some false
  kt_Rule_tuple : PySem.W.kitOne K (.type "tuple") (.ref C_Rule) = some false
  nf_Rule_str : PySem.W.subIn K (.type "str") (.ref C_Rule) = some false
  kt_Rule_str : PySem.W.kitOne K (.type "str") (.ref C_Rule) = some false
  nf_Rule_int : PySem.W.subIn K (.type "int") (.ref C_Rule) = some false
  kt_Rule_int : PySem.W.kitOne K (.type "int") (.ref C_Rule) = some false
  nf_Rule_bool : PySem.W.subIn K (.type "bool") (.ref C_Rule) = some false
  kt_Rule_bool : PySem.W.kitOne K (.type "bool") (.ref C_Rule) = some false
  nf_Rule_dict : PySem.W.subIn K (.type "dict") (.ref C_Rule) = some false
  kt_Rule_dict : PySem.W.kitOne K (.type "dict") (.ref C_Rule) = some false
  i_Rule : Dkk K mg "Rule" C_Rule "Rule.__init__" s_Rule___init__ [("bound", .str "once"), ("test", .str "first"), ("variable", .str "shared"), ("limit", .str "in"), ("after", .str "last"), ("cell", .str "one"), ("skip", .str "step")]
  sm_Rule_counting : Dst K C_Rule "counting" "Rule.counting" s_Rule_counting
  sm_Rule_testing : Dst K C_Rule "testing" "Rule.testing" s_Rule_testing
  sm_Rule_closed : Dst K C_Rule "closed" "Rule.closed" s_Rule_closed
  sm_Rule_trailing : Dst K C_Rule "trailing" "Rule.trailing" s_Rule_trailing
  m_Rule___getitem__ : Dm K C_Rule "__getitem__" "Rule.__getitem__" s_Rule___getitem__ ["self", "name"]
  m_Rule___iter__ : Dm K C_Rule "__iter__" "Rule.__iter__" s_Rule___iter__ ["self"]
  m_Rule___eq__ : Dm K C_Rule "__eq__" "Rule.__eq__" s_Rule___eq__ ["self", "other"]
  m_Rule_changed : Dm K C_Rule "changed" "Rule.changed" s_Rule_changed ["self", "name", "word"]
  kx_BadNote_RoundError : PySem.W.kitOne K (.ref C_BadNote) (.ref C_RoundError) = some true
  xm_BadNote : PySem.W.exmOne K (.ref C_BadNote) (.ref C_BadNote) = some true
  d__wall : Dd K mg "_wall" s__wall ["k"]
  d_is_name : Dd K mg "is_name" s_is_name ["value"]
  d_is_word : Dd K mg "is_word" s_is_word ["name", "value"]
  d_note_words : Dd K mg "note_words" s_note_words ["value"]
  d_write_rule : Dd K mg "write_rule" s_write_rule ["rule"]
  d_read_rule : Dd K mg "read_rule" s_read_rule ["line"]
  d_write_mark : Dd K mg "write_mark" s_write_mark ["mark"]
  d_read_mark : Dd K mg "read_mark" s_read_mark ["line"]
  d__law_open : Dd K mg "_law_open" s__law_open ["_law_script"]
  d__law_draw : Dd K mg "_law_draw" s__law_draw ["_law_state", "_law_many"]
  d__law_word : Dd K mg "_law_word" s__law_word ["_law_state", "_law_endings"]
  d__law_table : Dd K mg "_law_table" s__law_table []
  d__law_refused : Dd K mg "_law_refused" s__law_refused ["_law_kind", "_law_value"]
  d__law_spoilt : Dd K mg "_law_spoilt" s__law_spoilt ["_law_state", "_law_line"]
  d_law : Dd K mg "law" s_law ["_law_script"]
end
end K
namespace K
open PySem PySem.Spec PyProof.Rows L2 G TL
local macro_rules | `(tactic| walk_at "side") => `(tactic| focus (first | assumption | exact rfl | omega | decide))
local macro_rules | `(tactic| walk_at "ty") => `(tactic| focus (first | exact .base (.str _) | exact .base (.int _) | exact .base (.bl _) | exact .base .non | exact .base (.lst (by assumption)) | exact .base (.tup (by assumption)) | exact .base (.dK (by assumption)) | assumption))
local macro_rules | `(tactic| walk_at "kt") => `(tactic| focus (with_reducible first | exact kt_NoneType_str | exact kt_NoneType_int | exact kt_NoneType_bool | exact kt_NoneType_tuple | exact kt_NoneType_list | exact kt_NoneType_dict | exact kt_bool_str | exact kt_bool_int | exact kt_bool_bool | exact kt_bool_tuple | exact kt_bool_list | exact kt_bool_dict | exact kt_int_str | exact kt_int_int | exact kt_int_bool | exact kt_int_tuple | exact kt_int_list | exact kt_int_dict | exact kt_str_str | exact kt_str_int | exact kt_str_bool | exact kt_str_tuple | exact kt_str_list | exact kt_str_dict | exact kt_list_str | exact kt_list_int | exact kt_list_bool | exact kt_list_tuple | exact kt_list_list | exact kt_list_dict | exact kt_tuple_str | exact kt_tuple_int | exact kt_tuple_bool | exact kt_tuple_tuple | exact kt_tuple_list | exact kt_tuple_dict | exact kt_dict_str | exact kt_dict_int | exact kt_dict_bool | exact kt_dict_tuple | exact kt_dict_list | exact kt_dict_dict | assumption))
local macro_rules | `(tactic| walk_at "1") => `(tactic| first
  | (with_reducible refine i_seq ?_)
  | (with_reducible refine iteT ?_)
  | (with_reducible refine iteF ?_)
  | (with_reducible refine iteNF ?_)
  | (with_reducible refine iteNT ?_)
  | (with_reducible refine i_asg ?_)
  | (with_reducible refine i_op ?_)
  | (with_reducible refine i_c ?_)
  | ((with_reducible apply i_var); (exact rfl))
  | (with_reducible refine i_cb ?_)
  | (with_reducible refine i_cons ?_)
  | (with_reducible refine i_nil ?_)
  | (with_reducible refine i_test ?_)
  | (with_reducible refine i_b ?_)
  | (with_reducible refine i_bl ?_)
  | (with_reducible refine i_name ?_)
  | (with_reducible refine i_ifS ?_)
  | (with_reducible refine i_next ?_)
  | (with_reducible refine i_ret ?_)
  | (with_reducible refine i_drop ?_)
  | (with_reducible refine i_lst ?_)
  | (with_reducible refine i_tup ?_)
  | (with_reducible refine i_and ?_)
  | (with_reducible refine i_or ?_)
  | (with_reducible refine i_not ?_)
  | (with_reducible refine i_andV ?_)
  | (with_reducible refine i_orV ?_)
  | (with_reducible refine i_notV ?_)
  | (with_reducible refine i_if ?_)
  | (with_reducible refine i_chain ?_)
  | (with_reducible refine i_un ?_)
  | (with_reducible refine i_neg ?_)
  | (with_reducible refine i_sub ?_)
  | (with_reducible refine i_sl ?_)
  | (with_reducible refine i_noP ?_)
  | (with_reducible refine i_part ?_)
  | (with_reducible refine i_int ?_)
  | (with_reducible refine i_bm ?_)
  | (with_reducible refine i_strT ?_)
  | (with_reducible refine i_yes ?_)
  | (with_reducible refine i_call ?_)
  | ((with_reducible refine i_len ?_ ?_); (focus (exact sz (by simp))))
  | (with_reducible refine i_lc ?_)
  | (with_reducible refine i_for ?_)
  | (with_reducible refine i_rng1 ?_)
  | (with_reducible refine i_rng2 ?_)
  | (with_reducible refine l_addI ?_)
  | (with_reducible refine l_subI ?_)
  | (with_reducible refine l_cmp ?_)
  | (with_reducible refine l_eqI ?_)
  | (with_reducible refine l_eqS ?_)
  | (with_reducible refine l_eqB ?_)
  | (with_reducible refine l_neI ?_)
  | (with_reducible refine l_neS ?_)
  | (with_reducible refine l_neB ?_)
  | (with_reducible refine l_isN ?_)
  | (with_reducible refine l_isNotN ?_)
  | (with_reducible refine l_isB ?_)
  | (with_reducible refine l_isNotB ?_)
  | (with_reducible refine l_intI ?_)
  | (with_reducible refine l_intB ?_)
  | (with_reducible refine l_inC ?_)
  | (refine ⟨_, _, rfl, rfl, sz (by first | omega | simp; omega), ?_⟩)
  | ((with_reducible refine l_pow ?_ ?_); (focus (exact ⟨by decide, by decide, by decide⟩)))
  | ((with_reducible refine l_mul ?_ ?_); (focus (first | assumption | exact Or.inl (Or.inl ⟨by omega, by omega⟩) | exact Or.inl (Or.inr ⟨by omega, by omega⟩))))
  | ((with_reducible refine l_div ?_ ?_); (focus (first | assumption | exact ⟨by decide, by decide⟩)))
  | ((with_reducible apply l_setL); (assumption); (exact rfl))
  | ((with_reducible refine l_mod ?_ ?_); (walk_at "side"))
  | ((with_reducible apply l_ixL); (assumption); (exact rfl))
  | ((with_reducible refine l_lenS ?_ ?_); (focus (first | assumption | exact sz (by omega) | exact sz (by simp; omega))))
  | ((with_reducible refine l_slS ?_ ?_); (focus (first | assumption | exact sz (by omega))))
  | ((with_reducible apply l_isi); (walk_at "ty"); (walk_at "kt"))
  | ((with_reducible apply l_lenL); (assumption)))
local macro_rules | `(tactic| walk_at "go") => `(tactic| repeat (walk_at "1"))
local macro_rules | `(tactic| walk_at "1") => `(tactic| first
  | (with_reducible refine i_mkS ?_)
  | (with_reducible refine i_cS ?_)
  | (with_reducible refine i_fld ?_)
  | (with_reducible refine i_sFld ?_)
  | (with_reducible refine i_tX ?_)
  | (with_reducible refine l_len2 rfl rfl ?_))
local macro_rules | `(tactic| walk_at "1") => `(tactic| first
  | (with_reducible refine i_stp ?_)
  | ((with_reducible apply i_iad); (exact rfl))
  | (with_reducible refine i_cO ?_)
  | (with_reducible refine i_prp ?_)
  | (with_reducible refine i_mtS ?_)
  | (with_reducible refine i_fldaug ?_)
  | (with_reducible refine i_par ?_)
  | (with_reducible refine i_par3 ?_)
  | (with_reducible refine i_revL ?_))
local macro_rules | `(tactic| walk_at "1") => `(tactic| first
  | (with_reducible refine i_dget ?_)
  | (with_reducible refine i_dput ?_)
  | (with_reducible refine i_sm ?_)
  | (with_reducible refine i_mkX ?_))
section
variable {P : Program} {w : World} {K : PySem.W.Frag} {mg : Str → Option Value} {base : Heap}
set_option maxHeartbeats 2000000 in
theorem ok_open {a_KEYWORDS a_SWITCHES v_SWITCHES_0 v_SWITCHES_1 v_SWITCHES_2 v_SWITCHES_3 v_SWITCHES_4 v_SWITCHES_5 v_SWITCHES_6 C_RoundError C_BadSwitch C_BadNote C_Rule : Addr} (T : Tp K mg w a_KEYWORDS a_SWITCHES v_SWITCHES_0 v_SWITCHES_1 v_SWITCHES_2 v_SWITCHES_3 v_SWITCHES_4 v_SWITCHES_5 v_SWITCHES_6 C_RoundError C_BadSwitch C_BadNote C_Rule) : Cal P w K mg base 1 "_law_open" (spOpenL K) [] := by
  refine T.d__law_open.cal sc__law_open (fun vs H Q E h => ?_) (fun f cdv A outer s H vs Q E hr h => ?_)
  · obtain ⟨a, ns, rfl, _⟩ := h
    rfl
  · obtain ⟨a, ns, rfl, hS, hl, q⟩ := h
    have sc := sc__law_open
    refine ⟨_, 
    (pss_one (ps_ret (pe_lst (pa_cons (pe_lc (own := [("_law_one", 1)]) (by rfl) sc.nd (kIT (K := K) rfl (pe_slice (kSl (K := K) rfl) (pv 0) po_none (po_some (pe_int)))) (blkOk_by (N := ["_law_script", "_law_one"]) (sc := defScope s__law_open) (by decide +kernel)) (fun _ _ _ _ _ => pg_name (i := 1) sc.nd rfl (by first | exact Or.inl rfl | exact Or.inr rfl)) (fun _ _ _ _ _ => pts_nil) (fun _ _ _ _ _ => pe_callTy g_int (by rfl) T.m_int (by decide +kernel) (pa_cons (pv 1) pa_nil))) (pa_cons (pe_int) (pa_cons (pe_int) pa_nil)))))), ?_⟩
    try rw [cxK]
    refine i_start (τ := [some (.ref a), none]) rfl ?_
    walk_at "go"
    refine i_anyL ?_
    walk_at "go"
    refine l_slL hS (fun p hp => ?_)
    rw [cutV_map]
    generalize hzs : ((ns.drop (HT.sIx ns.length 0 none)).take (HT.sIx ns.length ns.length (some 63) - HT.sIx ns.length 0 none)) = zs
    have hp1 : upd H p (.lst (zs.map V.int)) p = some (.lst (zs.map V.int)) := upd_same
    have hzl : zs.length ≤ 63 := by
      rw [← hzs, List.length_take, List.length_drop]
      omega
    refine ⟨p, rfl, ⟨_, SqL.of hp1⟩, fun D hD => lc_list (K := K) (a := p) (xs := zs.map V.int) (fun i H' => H' p = some (.lst (zs.map V.int)) ∧ H' D = some (.lst ((zs.take i).map V.int)) ∧ Ex H H') ?_ ?_ ?_ ?_⟩
    · exact ⟨Ex.new hD _ _ hp1, upd_same, (Ex.new hp).trans (Ex.new hD)⟩
    · rintro i H' _ ⟨h1, h2, h3⟩
      exact SqL.of h1
    · rintro i x H' hx ⟨h1, h2, h3⟩
      obtain ⟨z, hz, rfl⟩ := map_at hx
      walk_at "go"
      refine ⟨rfl, ?_⟩
      walk_at "go"
      have nD : H D = none := (Ex.new hp).free hD
      have npD : p ≠ D := ne_of_none hp1 hD
      refine ⟨_, h2, szl (by rw [List.length_map, List.length_take]; omega), by rw [upd_ne npD]; exact h1, ?_, h3.mut nD⟩
      rw [upd_same, take_succ hz]
      simp
    · rintro H' ⟨h1, h2, h3⟩
      walk_at "go"
      intro st hst
      rw [List.length_map, List.take_length] at h2
      exact q st D _ (h3.free hst) ((Ex.new hp).free hD) ⟨zs, 0, 0, upd_same, Ex.new hst _ _ h2, (ne_of_none h2 hst).symm, by omega, by omega⟩ (h3.trans (Ex.new hst))
set_option maxHeartbeats 2000000 in
theorem ok_draw {a_KEYWORDS a_SWITCHES v_SWITCHES_0 v_SWITCHES_1 v_SWITCHES_2 v_SWITCHES_3 v_SWITCHES_4 v_SWITCHES_5 v_SWITCHES_6 C_RoundError C_BadSwitch C_BadNote C_Rule : Addr} (T : Tp K mg w a_KEYWORDS a_SWITCHES v_SWITCHES_0 v_SWITCHES_1 v_SWITCHES_2 v_SWITCHES_3 v_SWITCHES_4 v_SWITCHES_5 v_SWITCHES_6 C_RoundError C_BadSwitch C_BadNote C_Rule) : Cal P w K mg base 1 "_law_draw" spDrawL [] := by
  refine T.d__law_draw.cal sc__law_draw (fun vs H Q E h => ?_) (fun f cdv A outer s H vs Q E hr h => ?_)
  · obtain ⟨st, L, n, b, rfl, _⟩ := h
    rfl
  · obtain ⟨st, L, n, b, rfl, hn, hn2, ⟨ns, a, c, hst, hL, hne, hc0, hcb⟩, hb, q⟩ := h
    have sc := sc__law_draw
    refine ⟨_, 
    (pss_cut (ps_if (pt_cmpR gLe (pe_ix (kIx (K := K) rfl) (pv 0) (pe_int) (fun _ _ => rfl)) (pe_int) (nomark _)) (
      (pss_cons (ps_set (i := 2) sc.nd rfl (by first | exact Or.inl rfl | exact Or.inr rfl) (pe_int))
      (pss_cut (ps_if (pt_cmpR (kNe (K := K) rfl hr) (pe_ix (kIx (K := K) rfl) (pv 0) (pe_int) (fun _ _ => rfl)) (pe_lst (pa_nil)) (nomark _)) (
        (pss_one (ps_set (i := 2) sc.nd rfl (by first | exact Or.inl rfl | exact Or.inr rfl) (pe_ix (kIx (K := K) rfl) (pe_ix (kIx (K := K) rfl) (pv 0) (pe_int) (fun _ _ => rfl)) (pe_op gMod (pe_callTy g_int (by rfl) T.m_int (by decide +kernel) (pa_cons (pe_ix (kIx (K := K) rfl) (pv 0) (pe_int) (fun _ _ => rfl)) pa_nil)) (pe_callB (kLen (K := K) rfl) (by rfl) T.m_len PySem.boot_len (pa_cons (pe_ix (kIx (K := K) rfl) (pv 0) (pe_int) (fun _ _ => rfl)) pa_nil))) (fun _ _ => rfl))))) (pss_nil))
      (pss_cons (ps_asg (pe_op (kAdd (K := K) rfl) (pe_ix (kIx (K := K) rfl) (pv 0) (pe_int) (fun _ _ => rfl)) (pe_int)) (pg_sub (pv 0) (pe_int) set_list))
      (pss_cons (ps_if (pt_cmpR gLt (pv 2) (pe_op gPow (pe_int) (pe_int)) (nomark _)) (
        (pss_cons (ps_set (i := 3) sc.nd rfl (by first | exact Or.inl rfl | exact Or.inr rfl) (pe_op gMod (pe_callTy g_int (by rfl) T.m_int (by decide +kernel) (pa_cons (pe_op (kAdd (K := K) rfl) (pe_op (kAdd (K := K) rfl) (pe_op gMul (pv 2) (pe_int)) (pe_op gMul (pe_ix (kIx (K := K) rfl) (pv 0) (pe_int) (fun _ _ => rfl)) (pe_int))) (pe_int)) pa_nil)) (pe_int)))
        (pss_one (ps_ret (pe_op gMod (pe_op gDiv (pe_op gMod (pe_callTy g_int (by rfl) T.m_int (by decide +kernel) (pa_cons (pe_op (kAdd (K := K) rfl) (pe_op gMul (pv 3) (pe_int)) (pe_op gMul (pe_op gMul (pe_ix (kIx (K := K) rfl) (pv 0) (pe_int) (fun _ _ => rfl)) (pe_ix (kIx (K := K) rfl) (pv 0) (pe_int) (fun _ _ => rfl))) (pe_int))) pa_nil)) (pe_int)) (pe_int)) (pv 1)))))) (pss_nil))
      (pss_one (ps_asg (pv 2) (pg_sub (pv 0) (pe_int) set_list)))))))) (pss_nil))
    (pss_cons (ps_set (i := 4) sc.nd rfl (by first | exact Or.inl rfl | exact Or.inr rfl) (pe_op gMod (pe_callTy g_int (by rfl) T.m_int (by decide +kernel) (pa_cons (pe_ix (kIx (K := K) rfl) (pv 0) (pe_int) (fun _ _ => rfl)) pa_nil)) (pv 1)))
    (pss_cons (ps_asg (pe_op gDiv (pe_callTy g_int (by rfl) T.m_int (by decide +kernel) (pa_cons (pe_ix (kIx (K := K) rfl) (pv 0) (pe_int) (fun _ _ => rfl)) pa_nil)) (pv 1)) (pg_sub (pv 0) (pe_int) set_list))
    (pss_one (ps_ret (pv 4)))))), ?_⟩
    try rw [cxK]
    refine i_start (τ := [some (.ref st), some (.int n), none, none, none]) rfl ?_
    refine ⟨fun σ H' => ∃ (v2 v3 v4 : Option V) (a' c' : Int), σ = [some (.ref st), some (.int n), v2, v3, v4] ∧ H' st = some (.lst [.ref L, .int a', .int c']) ∧ H' L = some (.lst (ns.map V.int)) ∧ 0 ≤ c' ∧ c' ≤ (b : Int) + 1 ∧ But st H H', ?_, ?_⟩
    · walk_at "go"
      refine i_ite (fun ha => ?_) (fun ha => ?_)
      · walk_at "go"
        refine ⟨fun σ H' => ∃ (z : Int), σ = [some (.ref st), some (.int n), some (.int z), none, none] ∧ H' st = some (.lst [.ref L, .int a, .int c]) ∧ H' L = some (.lst (ns.map V.int)) ∧ But st H H', ?_, ?_⟩
        · walk_at "go"
          intro p hp
          have hst1 : upd H p (.lst []) st = some (.lst [.ref L, .int a, .int c]) := Ex.new hp _ _ hst
          have hL1 : upd H p (.lst []) L = some (.lst (ns.map V.int)) := Ex.new hp _ _ hL
          refine l_neNil hL1 upd_same ?_
          walk_at "go"
          refine i_iteN (fun h0 => ?_) (fun h0 => ?_)
          · have hl : 0 < ((ns.map V.int).length : Int) := by
              rw [List.length_map]
              have := List.length_pos_iff.mpr h0
              omega
            walk_at "go"
            obtain ⟨z, hz⟩ := at_ints (ns := ns) (i := c % ((ns.map V.int).length : Int)) (Int.emod_nonneg _ (by omega)) (by
              have := Int.emod_lt_of_pos c hl
              rw [List.length_map] at this ⊢
              exact this)
            refine l_ixL hL1 hz ?_
            walk_at "go"
            exact ⟨z, rfl, hst1, hL1, (Ex.new hp).but⟩
          · walk_at "go"
            exact ⟨0, rfl, hst1, hL1, (Ex.new hp).but⟩
        · rintro σ H' ⟨z, rfl, h1, h2, h5⟩
          walk_at "go"
          have h1' : upd H' st (.lst [.ref L, .int a, .int (c + 1)]) st = some (.lst [.ref L, .int a, .int (c + 1)]) := upd_same
          have h2' : upd H' st (.lst [.ref L, .int a, .int (c + 1)]) L = some (.lst (ns.map V.int)) := by
            rw [upd_ne hne.symm]
            exact h2
          refine i_ite (fun hz => ?_) (fun hz => ?_)
          · walk_at "go"
            exact q _ _ (Int.emod_nonneg _ (by omega)) (Int.emod_lt_of_pos _ hn) ⟨ns, _, _, h1', h2', hne, by omega, by omega⟩ h5.mut
          · walk_at "go"
            exact ⟨_, _, _, _, _, rfl, upd_same, by rw [upd_ne hne.symm]; exact h2', by omega, by omega, h5.mut.mut⟩
      · walk_at "go"
        exact ⟨_, _, _, _, _, rfl, hst, hL, hc0, by omega, But.refl H⟩
    · rintro σ H' ⟨v2, v3, v4, a', c', rfl, h1, h2, h3, h4, h5⟩
      have hdv : CDivW a' n := wide_div (b := 64) hn (by omega) (by decide) (by decide)
      walk_at "go"
      exact q _ _ (Int.emod_nonneg _ (by omega)) (Int.emod_lt_of_pos _ hn) ⟨ns, _, _, upd_same, by rw [upd_ne hne.symm]; exact h2, hne, h3, by omega⟩ h5.mut
end
end K
namespace K
open PySem PySem.Spec PyProof.Rows L2 G TL
local macro_rules | `(tactic| walk_at "side") => `(tactic| focus (first | assumption | exact rfl | omega | decide))
local macro_rules | `(tactic| walk_at "ty") => `(tactic| focus (first | exact .base (.str _) | exact .base (.int _) | exact .base (.bl _) | exact .base .non | exact .base (.lst (by assumption)) | exact .base (.tup (by assumption)) | exact .base (.dK (by assumption)) | assumption))
local macro_rules | `(tactic| walk_at "kt") => `(tactic| focus (with_reducible first | exact kt_NoneType_str | exact kt_NoneType_int | exact kt_NoneType_bool | exact kt_NoneType_tuple | exact kt_NoneType_list | exact kt_NoneType_dict | exact kt_bool_str | exact kt_bool_int | exact kt_bool_bool | exact kt_bool_tuple | exact kt_bool_list | exact kt_bool_dict | exact kt_int_str | exact kt_int_int | exact kt_int_bool | exact kt_int_tuple | exact kt_int_list | exact kt_int_dict | exact kt_str_str | exact kt_str_int | exact kt_str_bool | exact kt_str_tuple | exact kt_str_list | exact kt_str_dict | exact kt_list_str | exact kt_list_int | exact kt_list_bool | exact kt_list_tuple | exact kt_list_list | exact kt_list_dict | exact kt_tuple_str | exact kt_tuple_int | exact kt_tuple_bool | exact kt_tuple_tuple | exact kt_tuple_list | exact kt_tuple_dict | exact kt_dict_str | exact kt_dict_int | exact kt_dict_bool | exact kt_dict_tuple | exact kt_dict_list | exact kt_dict_dict | assumption))
local macro_rules | `(tactic| walk_at "1") => `(tactic| first
  | (with_reducible refine i_seq ?_)
  | (with_reducible refine iteT ?_)
  | (with_reducible refine iteF ?_)
  | (with_reducible refine iteNF ?_)
  | (with_reducible refine iteNT ?_)
  | (with_reducible refine i_asg ?_)
  | (with_reducible refine i_op ?_)
  | (with_reducible refine i_c ?_)
  | ((with_reducible apply i_var); (exact rfl))
  | (with_reducible refine i_cb ?_)
  | (with_reducible refine i_cons ?_)
  | (with_reducible refine i_nil ?_)
  | (with_reducible refine i_test ?_)
  | (with_reducible refine i_b ?_)
  | (with_reducible refine i_bl ?_)
  | (with_reducible refine i_name ?_)
  | (with_reducible refine i_ifS ?_)
  | (with_reducible refine i_next ?_)
  | (with_reducible refine i_ret ?_)
  | (with_reducible refine i_drop ?_)
  | (with_reducible refine i_lst ?_)
  | (with_reducible refine i_tup ?_)
  | (with_reducible refine i_and ?_)
  | (with_reducible refine i_or ?_)
  | (with_reducible refine i_not ?_)
  | (with_reducible refine i_andV ?_)
  | (with_reducible refine i_orV ?_)
  | (with_reducible refine i_notV ?_)
  | (with_reducible refine i_if ?_)
  | (with_reducible refine i_chain ?_)
  | (with_reducible refine i_un ?_)
  | (with_reducible refine i_neg ?_)
  | (with_reducible refine i_sub ?_)
  | (with_reducible refine i_sl ?_)
  | (with_reducible refine i_noP ?_)
  | (with_reducible refine i_part ?_)
  | (with_reducible refine i_int ?_)
  | (with_reducible refine i_bm ?_)
  | (with_reducible refine i_strT ?_)
  | (with_reducible refine i_yes ?_)
  | (with_reducible refine i_call ?_)
  | ((with_reducible refine i_len ?_ ?_); (focus (exact sz (by simp))))
  | (with_reducible refine i_lc ?_)
  | (with_reducible refine i_for ?_)
  | (with_reducible refine i_rng1 ?_)
  | (with_reducible refine i_rng2 ?_)
  | (with_reducible refine l_addI ?_)
  | (with_reducible refine l_subI ?_)
  | (with_reducible refine l_cmp ?_)
  | (with_reducible refine l_eqI ?_)
  | (with_reducible refine l_eqS ?_)
  | (with_reducible refine l_eqB ?_)
  | (with_reducible refine l_neI ?_)
  | (with_reducible refine l_neS ?_)
  | (with_reducible refine l_neB ?_)
  | (with_reducible refine l_isN ?_)
  | (with_reducible refine l_isNotN ?_)
  | (with_reducible refine l_isB ?_)
  | (with_reducible refine l_isNotB ?_)
  | (with_reducible refine l_intI ?_)
  | (with_reducible refine l_intB ?_)
  | (with_reducible refine l_inC ?_)
  | (refine ⟨_, _, rfl, rfl, sz (by first | omega | simp; omega), ?_⟩)
  | ((with_reducible refine l_pow ?_ ?_); (focus (exact ⟨by decide, by decide, by decide⟩)))
  | ((with_reducible refine l_mul ?_ ?_); (focus (first | assumption | exact Or.inl (Or.inl ⟨by omega, by omega⟩) | exact Or.inl (Or.inr ⟨by omega, by omega⟩))))
  | ((with_reducible refine l_div ?_ ?_); (focus (first | assumption | exact ⟨by decide, by decide⟩)))
  | ((with_reducible apply l_setL); (assumption); (exact rfl))
  | ((with_reducible refine l_mod ?_ ?_); (walk_at "side"))
  | ((with_reducible apply l_ixL); (assumption); (exact rfl))
  | ((with_reducible refine l_lenS ?_ ?_); (focus (first | assumption | exact sz (by omega) | exact sz (by simp; omega))))
  | ((with_reducible refine l_slS ?_ ?_); (focus (first | assumption | exact sz (by omega))))
  | ((with_reducible apply l_isi); (walk_at "ty"); (walk_at "kt"))
  | ((with_reducible apply l_lenL); (assumption)))
local macro_rules | `(tactic| walk_at "go") => `(tactic| repeat (walk_at "1"))
local macro_rules | `(tactic| walk_at "1") => `(tactic| first
  | (with_reducible refine i_mkS ?_)
  | (with_reducible refine i_cS ?_)
  | (with_reducible refine i_fld ?_)
  | (with_reducible refine i_sFld ?_)
  | (with_reducible refine i_tX ?_)
  | (with_reducible refine l_len2 rfl rfl ?_))
local macro_rules | `(tactic| walk_at "1") => `(tactic| first
  | (with_reducible refine i_stp ?_)
  | ((with_reducible apply i_iad); (exact rfl))
  | (with_reducible refine i_cO ?_)
  | (with_reducible refine i_prp ?_)
  | (with_reducible refine i_mtS ?_)
  | (with_reducible refine i_fldaug ?_)
  | (with_reducible refine i_par ?_)
  | (with_reducible refine i_par3 ?_)
  | (with_reducible refine i_revL ?_))
local macro_rules | `(tactic| walk_at "1") => `(tactic| first
  | (with_reducible refine i_dget ?_)
  | (with_reducible refine i_dput ?_)
  | (with_reducible refine i_sm ?_)
  | (with_reducible refine i_mkX ?_))
section
variable {P : Program} {w : World} {K : PySem.W.Frag} {mg : Str → Option Value} {base : Heap}
abbrev SW : List Str := ["bound", "test", "variable", "limit", "after", "cell", "skip"]
def WT : List (Str × List Str) := [("bound", ["once", "anew"]), ("test", ["first", "last"]), ("variable", ["shared", "hidden", "shut"]), ("limit", ["out", "in"]), ("after", ["last", "beyond", "old", "gone"]), ("cell", ["one", "round"]), ("skip", ["step", "stay"])]
def wordsOf (n : Str) : Option (List Str) := WT.lookup n
def okW (n : Str) : V → Bool
  | .str z => ((wordsOf n).getD []).contains z
  | _ => false
def isS : V → Bool
  | .str _ => true
  | _ => false
theorem kd_str {H : Hp} {x : V} (h : Kd K H x) : ∃ t, TyX K H x t ∧ PySem.W.kitOne K t (.type "str") = some (isS x) := by
  rcases h with h | ⟨p, T, rfl, ty, rfl | rfl | rfl⟩
  · cases x with
    | non => exact ⟨_, .base .non, kt_NoneType_str⟩
    | bl b => exact ⟨_, .base (.bl b), kt_bool_str⟩
    | int i => exact ⟨_, .base (.int i), kt_int_str⟩
    | str z => exact ⟨_, .base (.str z), kt_str_str⟩
    | byt b => cases h
    | flt b => cases h
    | ref b => cases h
    | ty b => cases h
  · exact ⟨_, ty, kt_list_str⟩
  · exact ⟨_, ty, kt_tuple_str⟩
  · exact ⟨_, ty, kt_dict_str⟩
theorem inV_strs (z : Str) : ∀ l : List Str, inV (.str z) (l.map V.str) = l.contains z
  | [] => rfl
  | a :: l => by
    have ih := inV_strs z l
    unfold inV at ih ⊢
    rw [List.map_cons, List.any_cons, ih, List.contains_cons]
    show (a == z || _) = _
    rw [Bool.beq_comm]
theorem flat_strs : ∀ l : List Str, (l.map V.str).all flatV = true
  | [] => rfl
  | a :: l => by
    rw [List.map_cons, List.all_cons, flat_strs l]
    rfl
theorem mem_lookup {α : Type} : ∀ {l : List (Str × α)} {n : Str} {v : α}, l.lookup n = some v → (n, v) ∈ l
  | [], _, _, h => by cases h
  | (k, x) :: l, n, v, h => by
    rw [List.lookup_cons] at h
    by_cases e : n = k
    · subst e
      simp at h
      subst h
      exact List.mem_cons_self
    · rw [beq_eq_false_iff_ne.mpr e] at h
      exact List.mem_cons_of_mem _ (mem_lookup h)
theorem sw_at {a_KEYWORDS a_SWITCHES v_SWITCHES_0 v_SWITCHES_1 v_SWITCHES_2 v_SWITCHES_3 v_SWITCHES_4 v_SWITCHES_5 v_SWITCHES_6 C_RoundError C_BadSwitch C_BadNote C_Rule : Addr} (T : Tp K mg w a_KEYWORDS a_SWITCHES v_SWITCHES_0 v_SWITCHES_1 v_SWITCHES_2 v_SWITCHES_3 v_SWITCHES_4 v_SWITCHES_5 v_SWITCHES_6 C_RoundError C_BadSwitch C_BadNote C_Rule) {n : Str} {ws : List Str} (h : wordsOf n = some ws) : ∃ a, ([("bound", V.ref v_SWITCHES_0), ("test", V.ref v_SWITCHES_1), ("variable", V.ref v_SWITCHES_2), ("limit", V.ref v_SWITCHES_3), ("after", V.ref v_SWITCHES_4), ("cell", V.ref v_SWITCHES_5), ("skip", V.ref v_SWITCHES_6)] : List (Str × V)).lookup n = some (.ref a) ∧ ∀ H, SqT K H a (ws.map V.str) := by
  have hm := mem_lookup h
  simp only [WT, List.mem_cons, List.not_mem_nil, or_false, Prod.mk.injEq] at hm
  rcases hm with ⟨rfl, rfl⟩ | ⟨rfl, rfl⟩ | ⟨rfl, rfl⟩ | ⟨rfl, rfl⟩ | ⟨rfl, rfl⟩ | ⟨rfl, rfl⟩ | ⟨rfl, rfl⟩
  · exact ⟨_, rfl, T.tv_SWITCHES_0⟩
  · exact ⟨_, rfl, T.tv_SWITCHES_1⟩
  · exact ⟨_, rfl, T.tv_SWITCHES_2⟩
  · exact ⟨_, rfl, T.tv_SWITCHES_3⟩
  · exact ⟨_, rfl, T.tv_SWITCHES_4⟩
  · exact ⟨_, rfl, T.tv_SWITCHES_5⟩
  · exact ⟨_, rfl, T.tv_SWITCHES_6⟩
theorem sw_some {n : Str} {a0 a1 a2 a3 a4 a5 a6 : V} : (([("bound", a0), ("test", a1), ("variable", a2), ("limit", a3), ("after", a4), ("cell", a5), ("skip", a6)] : List (Str × V)).lookup n).isSome = decide (n ∈ SW) := by
  rw [Bool.eq_iff_iff, decide_eq_true_iff]
  simp only [lookup_put, SW, List.mem_cons, List.not_mem_nil, or_false]
  constructor
  · intro h
    repeat' split at h
    all_goals first | (rename_i e; simp [e]; done) | (cases h)
  · rintro (rfl | rfl | rfl | rfl | rfl | rfl | rfl) <;> rfl
theorem words_some {n : Str} (h : n ∈ SW) : ∃ ws, wordsOf n = some ws := by
  simp only [SW, List.mem_cons, List.not_mem_nil, or_false] at h
  rcases h with rfl | rfl | rfl | rfl | rfl | rfl | rfl <;> exact ⟨_, rfl⟩
def spIsW (K : PySem.W.Frag) : Sp := fun vs H Q _ => ∃ n v, vs = [.str n, v] ∧ n ∈ SW ∧ Kd K H v ∧ Q (.bl (okW n v)) H
theorem ok_isw {a_KEYWORDS a_SWITCHES v_SWITCHES_0 v_SWITCHES_1 v_SWITCHES_2 v_SWITCHES_3 v_SWITCHES_4 v_SWITCHES_5 v_SWITCHES_6 C_RoundError C_BadSwitch C_BadNote C_Rule : Addr} (T : Tp K mg w a_KEYWORDS a_SWITCHES v_SWITCHES_0 v_SWITCHES_1 v_SWITCHES_2 v_SWITCHES_3 v_SWITCHES_4 v_SWITCHES_5 v_SWITCHES_6 C_RoundError C_BadSwitch C_BadNote C_Rule) : Cal P w K mg base 1 "is_word" (spIsW K) [] := by
  refine T.d_is_word.cal sc_is_word (fun vs H Q E h => ?_) (fun f cdv A outer s H vs Q E hr h => ?_)
  · obtain ⟨n, v, rfl, _⟩ := h
    rfl
  · obtain ⟨n, v, rfl, hn, hk, q⟩ := h
    have sc := sc_is_word
    refine ⟨_, 
    (pss_one (ps_ret (pe_and (pe_callB (kIsi (K := K) rfl) (by rfl) T.m_isinstance (by decide +kernel) (pa_cons (pv 1) (pa_cons (gTy (n := "str") (by rfl) T.m_str (by decide +kernel)) pa_nil))) (pe_one (pe_cmpR (kIn (K := K) rfl hr) (pv 1) (pe_ix (wd_ix T.w_SWITCHES) (pe_gc (by rfl) T.c_SWITCHES) (pv 0) (fun _ _ => rfl)) (by rfl)))))), ?_⟩
    try rw [cxK]
    refine i_start (τ := [some (.str n), some v]) rfl ?_
    obtain ⟨t, ty, e⟩ := kd_str hk
    obtain ⟨ws, hws⟩ := words_some hn
    obtain ⟨a, ha, hsq⟩ := sw_at T hws
    walk_at "go"
    refine i_iteB (fun eb => ?_) (fun eb => ?_)
    · cases v with
      | str z =>
        walk_at "go"
        refine ⟨n, _, rfl, rfl, ha, ?_⟩
        refine l_inT (hsq _) rfl (flat_strs ws) ?_
        rw [inV_strs]
        rw [show okW n (.str z) = ws.contains z by unfold okW; rw [hws]; rfl] at q
        exact q
      | _ => cases eb
    · rw [show okW n v = false by cases v <;> first | rfl | cases eb] at q
      exact q
/-! the class Rule -/
def firstBad : List Str → List V → Option Str
  | n :: ns, v :: vs => if okW n v then firstBad ns vs else some n
  | _, _ => none
/-- words for all switches -/
structure OkR (zs : List Str) : Prop where
  len : zs.length = 7
  ok : firstBad SW (zs.map V.str) = none
def ruF (zs : List V) (p : Addr) : List (Str × V) := SW.zip zs ++ [(("words" : Str), V.ref p)]
def RuleAt (C : Addr) (H : Hp) (v : V) (zs : List Str) : Prop := ∃ x dx p, v = .ref x ∧ H x = some (.ins C dx (ruF (zs.map V.str) p)) ∧ H p = some (.dK (kwV SW (zs.map V.str))) ∧ OkR zs
theorem RuleAt.mono {C : Addr} {H H' : Hp} {v : V} {zs : List Str} (h : RuleAt C H v zs) (e : Ex H H') : RuleAt C H' v zs := by
  obtain ⟨x, dx, p, rfl, h1, h2, h3⟩ := h
  exact ⟨x, dx, p, rfl, e _ _ h1, e _ _ h2, h3⟩
theorem bad_strs : ∀ {ns : List Str} {vs : List V}, vs.length = ns.length → firstBad ns vs = none → ∃ zs : List Str, vs = zs.map V.str
  | [], [], _, _ => ⟨[], rfl⟩
  | n :: ns, v :: vs, hl, h => by
    unfold firstBad at h
    split at h
    · rename_i hv
      obtain ⟨zs, rfl⟩ := bad_strs (by simpa using hl) h
      cases v with
      | str z => exact ⟨z :: zs, rfl⟩
      | _ => cases hv
    · cases h
theorem bad_drop {ns : List Str} {vs : List V} {n : Str} {v : V} (i : Nat) (hn : ns[i]? = some n) (hv : vs[i]? = some v) : firstBad (ns.drop i) (vs.drop i) = if okW n v then firstBad (ns.drop (i + 1)) (vs.drop (i + 1)) else some n := by
  obtain ⟨h1, e1⟩ := List.getElem?_eq_some_iff.mp hn
  obtain ⟨h2, e2⟩ := List.getElem?_eq_some_iff.mp hv
  rw [List.drop_eq_getElem_cons h1, List.drop_eq_getElem_cons h2, e1, e2]
  rfl
theorem putK_new {kvs : List (Key × V)} {k : Key} {v : V} (h : k ∉ kvs.map (·.1)) : putK kvs k v = kvs ++ [(k, v)] := by
  unfold putK
  rw [if_neg]
  rw [List.any_eq_true]
  rintro ⟨kv, hm, he⟩
  exact h (List.mem_map.mpr ⟨kv, hm, of_decide_eq_true he⟩)
theorem kw_take {ks : List Str} {zs : List V} {k : Str} {z : V} (i : Nat) (nd : ks.Nodup) (hk : ks[i]? = some k) (hz : zs[i]? = some z) : putK (kwV (ks.take i) (zs.take i)) (.inr k) z = kwV (ks.take (i + 1)) (zs.take (i + 1)) := by
  have li : i < ks.length := (List.getElem?_eq_some_iff.mp hk).1
  have lz : i < zs.length := (List.getElem?_eq_some_iff.mp hz).1
  rw [putK_new, take_succ hk, take_succ hz]
  · unfold kwV
    rw [List.map_append, List.zip_append (by rw [List.length_map, List.length_take, List.length_take]; omega)]
    rfl
  · intro hm
    unfold kwV at hm
    have h2 : (Sum.inr k : Key) ∈ (ks.take i).map Sum.inr := by
      obtain ⟨p, hp, e⟩ := List.mem_map.mp hm
      rw [← e]
      exact (List.of_mem_zip (a := p.1) (b := p.2) hp).1
    obtain ⟨k', hk', e⟩ := List.mem_map.mp h2
    cases e
    obtain ⟨j, hj⟩ := List.mem_iff_getElem?.mp hk'
    rw [List.getElem?_take] at hj
    split at hj
    · have hj2 : j < ks.length := (List.getElem?_eq_some_iff.mp hj).1
      have := (List.getElem?_inj hj2 nd).mp (hj.trans hk.symm)
      omega
    · cases hj
def spRule (K : PySem.W.Frag) (C CB : Addr) : Sp := fun vs H Q E => ∃ x dx ws, vs = .ref x :: ws ∧ ws.length = 7 ∧ H x = some (.ins C dx []) ∧ (∀ v ∈ ws, Kd K H v) ∧
  ((firstBad SW ws = none ∧ ∀ H' p, But x H H' → H' x = some (.ins C dx (ruF ws p)) → H' p = some (.dK (kwV SW ws)) → Q .non H') ∨
   (∃ n, firstBad SW ws = some n ∧ ∀ H' d, Ex H H' → H' d = none → E (.ref CB) (some d) (upd H' d (.xd [("name", .str n)]))))
theorem pair2 {i j : Nat} {Tt : Addr} {a b : V} {σ : L2.St} {H : Hp} {Q : L2.St → Hp → Prop} (h : SqT K H Tt [a, b]) (q : Q ((σ.set i (some a)).set j (some b)) H) : gTup K 2 (gCons (gName i) (gCons (gName j) gNil)) (.ref Tt) σ H Q := ⟨Tt, _, rfl, h, rfl, _, _, rfl, _, _, rfl, rfl, q⟩
theorem sw_nd : SW.Nodup := by decide
set_option maxHeartbeats 4000000 in
theorem ok_rini {a_KEYWORDS a_SWITCHES v_SWITCHES_0 v_SWITCHES_1 v_SWITCHES_2 v_SWITCHES_3 v_SWITCHES_4 v_SWITCHES_5 v_SWITCHES_6 C_RoundError C_BadSwitch C_BadNote C_Rule : Addr} (T : Tp K mg w a_KEYWORDS a_SWITCHES v_SWITCHES_0 v_SWITCHES_1 v_SWITCHES_2 v_SWITCHES_3 v_SWITCHES_4 v_SWITCHES_5 v_SWITCHES_6 C_RoundError C_BadSwitch C_BadNote C_Rule) : Inik P w K mg base 3 "Rule" C_Rule "Rule.__init__" s_Rule___init__ [("bound", .str "once"), ("test", .str "first"), ("variable", .str "shared"), ("limit", .str "in"), ("after", .str "last"), ("cell", .str "one"), ("skip", .str "step")] ["self", "bound", "test", "variable", "limit", "after", "cell", "skip"] (spRule K C_Rule C_BadSwitch) := by
  have c_is_word : Cal P w K mg base 1 "is_word" (spIsW K) [] := ok_isw T
  refine T.i_Rule.ini sc_Rule___init__ (fun vs H Q E h => ?_) (fun f cdv A outer s H vs Q E hr _ h => ?_)
  · obtain ⟨x, dx, ws, rfl, hl, _⟩ := h
    rw [List.length_cons, hl]
    rfl
  · obtain ⟨x, dx, ws, rfl, hl, hx, hkd, h⟩ := h
    have sc := sc_Rule___init__
    refine ⟨_, 
    (pss_cons (ps_set (i := 8) sc.nd rfl (by first | exact Or.inl rfl | exact Or.inr rfl) (pe_lst (pa_cons (pv 1) (pa_cons (pv 2) (pa_cons (pv 3) (pa_cons (pv 4) (pa_cons (pv 5) (pa_cons (pv 6) (pa_cons (pv 7) pa_nil)))))))))
    (pss_cons (ps_for (passes_of rfl) rfl (pi_zw T.wk_SWITCHES (by rfl) T.m_zip (pa_cons (pe_gc (by rfl) T.c_SWITCHES) (pa_cons (pv 8) pa_nil))) (kTup (K := K) (n := 2) rfl (by rfl) (pgs_cons (pg_name (i := 9) sc.nd rfl (by first | exact Or.inl rfl | exact Or.inr rfl)) (pgs_cons (pg_name (i := 10) sc.nd rfl (by first | exact Or.inl rfl | exact Or.inr rfl)) (pgs_nil)))) (
      (pss_one (ps_if (pt_not (kTruth (K := K) rfl (pe_c c_is_word hr (by decide) (by rfl) (pa_cons (pv 9) (pa_cons (pv 10) pa_nil))) (by intro _; rfl))) (
        (pss_one (ps_raise rfl (takes_of rfl rfl rfl rfl) (pmk_x (T.x_BadSwitch P w base) hr (by decide) (by rfl) (pa_cons (pv 9) pa_nil))))) (pss_nil)))))
    (pss_cons (ps_fld (pv 0) (pv 1) rfl)
    (pss_cons (ps_fld (pv 0) (pv 2) rfl)
    (pss_cons (ps_fld (pv 0) (pv 3) rfl)
    (pss_cons (ps_fld (pv 0) (pv 4) rfl)
    (pss_cons (ps_fld (pv 0) (pv 5) rfl)
    (pss_cons (ps_fld (pv 0) (pv 6) rfl)
    (pss_cons (ps_fld (pv 0) (pv 7) rfl)
    (pss_one (ps_fld (pv 0) (pe_dc (own := [("name", 9), ("value", 10)]) (by rfl) sc.nd (pi_zw T.wk_SWITCHES (by rfl) T.m_zip (pa_cons (pe_gc (by rfl) T.c_SWITCHES) (pa_cons (pv 8) pa_nil))) (blkOk_by (N := ["self", "bound", "test", "variable", "limit", "after", "cell", "skip", "words", "name", "value"]) (sc := defScope s_Rule___init__) (by decide +kernel)) (fun _ _ _ _ _ => kTup (K := K) (n := 2) rfl (by rfl) (pgs_cons (pg_name (i := 9) sc.nd rfl (by first | exact Or.inl rfl | exact Or.inr rfl)) (pgs_cons (pg_name (i := 10) sc.nd rfl (by first | exact Or.inl rfl | exact Or.inr rfl)) (pgs_nil)))) (fun _ _ _ _ _ => pts_nil) (fun _ _ _ _ _ => pv 9) (fun _ _ _ _ _ => pv 10)) rfl))))))))))), ?_⟩
    try rw [cxK]
    match ws, hl with
    | [w0, w1, w2, w3, w4, w5, w6], _ =>
    refine i_start (τ := [some (.ref x), some w0, some w1, some w2, some w3, some w4, some w5, some w6, none, none, none]) rfl ?_
    walk_at "go"
    intro wl hwl
    have e0 : Ex H (upd H wl (.lst [w0, w1, w2, w3, w4, w5, w6])) := Ex.new hwl
    have hw0 : (upd H wl (.lst [w0, w1, w2, w3, w4, w5, w6])) wl = some (.lst [w0, w1, w2, w3, w4, w5, w6]) := upd_same
    generalize (upd H wl (.lst [w0, w1, w2, w3, w4, w5, w6])) = H1 at e0 hw0 ⊢
    generalize hws : [w0, w1, w2, w3, w4, w5, w6] = ws at hkd h hw0 ⊢
    have hl : ws.length = 7 := by rw [← hws]; rfl
    walk_at "go"
    refine i_cons (i_c (i_cons (i_var rfl (i_nil ⟨wl, ws, rfl, .of hw0, ?_⟩))))
    refine for_zw (K := K) (b := wl) (ks := SW) (ys := ws) (by rw [hl]; rfl) (fun i σ H' => ∃ v9 v10, σ = [some (.ref x), some w0, some w1, some w2, some w3, some w4, some w5, some w6, some (.ref wl), v9, v10] ∧ Ex H1 H' ∧ firstBad (SW.drop i) (ws.drop i) = firstBad SW ws) ⟨_, _, rfl, Ex.refl H1, rfl⟩ (fun i σ H' ⟨_, _, _, e, _⟩ => .of (e _ _ hw0)) ?_ ?_
    · rintro i k y Tt σ H' hk hy ⟨v9, v10, rfl, e, hf⟩ hT
      have eT : Ex H' (upd H' Tt (.tup [.str k, y])) := Ex.new hT
      rw [bad_drop i hk hy] at hf
      refine pair2 (.of upd_same) ?_
      walk_at "go"
      refine ⟨k, y, rfl, List.mem_of_getElem? hk, (hkd y (List.mem_of_getElem? hy)).mono (e0.trans (e.trans eT)), okW k y, by simp [TruV], ?_⟩
      cases hb : okW k y with
      | true =>
        rw [hb] at hf
        walk_at "go"
        exact ⟨_, _, rfl, e.trans eT, hf⟩
      | false =>
        rw [hb] at hf
        walk_at "go"
        refine ⟨_, rfl, fun d hd => ?_⟩
        rcases h with ⟨h, _⟩ | ⟨n, h, q⟩
        · rw [← hf] at h
          cases h
        · rw [← hf] at h
          cases h
          exact q _ d (e0.trans (e.trans eT)) hd
    rintro σ H2 ⟨v9, v10, rfl, e, hf⟩
    have hnone : firstBad SW ws = none := by
      rw [← hf]
      rfl
    rcases h with ⟨_, q⟩ | ⟨n, h, _⟩
    rotate_left
    · rw [hnone] at h
      cases h
    have hx2 := (e0.trans e) _ _ hx
    have hw2 := e _ _ hw0
    have xw : wl ≠ x := (ne_of_none hx hwl).symm
    have b2 : But x H H2 := (e0.trans e).but
    clear hw0 hf e e0 hkd hwl
    walk_at "go"
    refine ⟨x, C_Rule, dx, [], rfl, hx2, T.cl_Rule, T.n_Rule_bound, by decide, ?_⟩
    walk_at "go"
    refine ⟨x, C_Rule, dx, _, rfl, upd_same, T.cl_Rule, T.n_Rule_test, (show (1 : Nat) < 1000 by decide), ?_⟩
    rw [upd_upd]
    walk_at "go"
    refine ⟨x, C_Rule, dx, _, rfl, upd_same, T.cl_Rule, T.n_Rule_variable, (show (2 : Nat) < 1000 by decide), ?_⟩
    rw [upd_upd]
    walk_at "go"
    refine ⟨x, C_Rule, dx, _, rfl, upd_same, T.cl_Rule, T.n_Rule_limit, (show (3 : Nat) < 1000 by decide), ?_⟩
    rw [upd_upd]
    walk_at "go"
    refine ⟨x, C_Rule, dx, _, rfl, upd_same, T.cl_Rule, T.n_Rule_after, (show (4 : Nat) < 1000 by decide), ?_⟩
    rw [upd_upd]
    walk_at "go"
    refine ⟨x, C_Rule, dx, _, rfl, upd_same, T.cl_Rule, T.n_Rule_cell, (show (5 : Nat) < 1000 by decide), ?_⟩
    rw [upd_upd]
    walk_at "go"
    refine ⟨x, C_Rule, dx, _, rfl, upd_same, T.cl_Rule, T.n_Rule_skip, (show (6 : Nat) < 1000 by decide), ?_⟩
    rw [upd_upd]
    have hfs : putF "skip" w6 (putF "cell" w5 (putF "after" w4 (putF "limit" w3 (putF "variable" w2 (putF "test" w1 (putF "bound" w0 [])))))) = SW.zip ws := by rw [← hws]; rfl
    rw [hfs]
    have hx3 : (upd H2 x (.ins C_Rule dx (SW.zip ws))) x = some (.ins C_Rule dx (SW.zip ws)) := upd_same
    have hw3 : (upd H2 x (.ins C_Rule dx (SW.zip ws))) wl = some (.lst ws) := by rw [upd_ne xw]; exact hw2
    have b3 : But x H (upd H2 x (.ins C_Rule dx (SW.zip ws))) := b2.mut
    generalize (upd H2 x (.ins C_Rule dx (SW.zip ws))) = H3 at hx3 hw3 b3 ⊢
    walk_at "go"
    show iZw K a_SWITCHES SW (tCons (tC (V.ref a_SWITCHES)) (tCons (tVar 8) tNil)) _ _ _
    refine i_cons (i_c (i_cons (i_var rfl (i_nil ⟨wl, ws, rfl, .of hw3, fun D hD => ?_⟩))))
    refine dc_zw (K := K) (b := wl) (ks := SW) (ys := ws) (by rw [hl]; rfl) (fun i H' => Ex H3 H' ∧ H' D = some (.dK (kwV (SW.take i) (ws.take i)))) ⟨Ex.new hD, upd_same⟩ (fun i H' p => .of (p.1 _ _ hw3)) ?_ ?_
    · rintro i k y Tt H' hk hy ⟨e, hd⟩ hT
      have eT : Ex H' (upd H' Tt (.tup [.str k, y])) := Ex.new hT
      refine pair2 (.of upd_same) ?_
      walk_at "go"
      refine ⟨rfl, ?_⟩
      walk_at "go"
      refine ⟨_, .inr k, rfl, eT _ _ hd, szl ?_, (e.trans eT).mut hD, ?_⟩
      · unfold kwV
        rw [List.length_zip, List.length_map, List.length_take, List.length_take, hl]
        omega
      · rw [upd_same, kw_take i sw_nd hk hy]
    · rintro H' ⟨e, hd⟩
      have hx4 := e _ _ hx3
      walk_at "go"
      refine ⟨x, C_Rule, dx, _, rfl, hx4, T.cl_Rule, T.n_Rule_words, by rw [List.length_zip, hl]; decide, ?_⟩
      have Dx : D ≠ x := (ne_of_none hx3 hD).symm
      refine q _ D ((b3.trans e.but).mut) ?_ ?_
      · rw [upd_same]
        congr 2
        rw [← hws]
        rfl
      · rw [upd_ne Dx, hd, List.take_length, show ws.take SW.length = ws from List.take_of_length_le (by rw [hl]; decide)]
end
end K
namespace K
open PySem PySem.Spec PyProof.Rows L2 G TL
local macro_rules | `(tactic| walk_at "side") => `(tactic| focus (first | assumption | exact rfl | omega | decide))
local macro_rules | `(tactic| walk_at "ty") => `(tactic| focus (first | exact .base (.str _) | exact .base (.int _) | exact .base (.bl _) | exact .base .non | exact .base (.lst (by assumption)) | exact .base (.tup (by assumption)) | exact .base (.dK (by assumption)) | assumption))
local macro_rules | `(tactic| walk_at "kt") => `(tactic| focus (with_reducible first | exact kt_NoneType_str | exact kt_NoneType_int | exact kt_NoneType_bool | exact kt_NoneType_tuple | exact kt_NoneType_list | exact kt_NoneType_dict | exact kt_bool_str | exact kt_bool_int | exact kt_bool_bool | exact kt_bool_tuple | exact kt_bool_list | exact kt_bool_dict | exact kt_int_str | exact kt_int_int | exact kt_int_bool | exact kt_int_tuple | exact kt_int_list | exact kt_int_dict | exact kt_str_str | exact kt_str_int | exact kt_str_bool | exact kt_str_tuple | exact kt_str_list | exact kt_str_dict | exact kt_list_str | exact kt_list_int | exact kt_list_bool | exact kt_list_tuple | exact kt_list_list | exact kt_list_dict | exact kt_tuple_str | exact kt_tuple_int | exact kt_tuple_bool | exact kt_tuple_tuple | exact kt_tuple_list | exact kt_tuple_dict | exact kt_dict_str | exact kt_dict_int | exact kt_dict_bool | exact kt_dict_tuple | exact kt_dict_list | exact kt_dict_dict | assumption))
local macro_rules | `(tactic| walk_at "1") => `(tactic| first
  | (with_reducible refine i_seq ?_)
  | (with_reducible refine iteT ?_)
  | (with_reducible refine iteF ?_)
  | (with_reducible refine iteNF ?_)
  | (with_reducible refine iteNT ?_)
  | (with_reducible refine i_asg ?_)
  | (with_reducible refine i_op ?_)
  | (with_reducible refine i_c ?_)
  | ((with_reducible apply i_var); (exact rfl))
  | (with_reducible refine i_cb ?_)
  | (with_reducible refine i_cons ?_)
  | (with_reducible refine i_nil ?_)
  | (with_reducible refine i_test ?_)
  | (with_reducible refine i_b ?_)
  | (with_reducible refine i_bl ?_)
  | (with_reducible refine i_name ?_)
  | (with_reducible refine i_ifS ?_)
  | (with_reducible refine i_next ?_)
  | (with_reducible refine i_ret ?_)
  | (with_reducible refine i_drop ?_)
  | (with_reducible refine i_lst ?_)
  | (with_reducible refine i_tup ?_)
  | (with_reducible refine i_and ?_)
  | (with_reducible refine i_or ?_)
  | (with_reducible refine i_not ?_)
  | (with_reducible refine i_andV ?_)
  | (with_reducible refine i_orV ?_)
  | (with_reducible refine i_notV ?_)
  | (with_reducible refine i_if ?_)
  | (with_reducible refine i_chain ?_)
  | (with_reducible refine i_un ?_)
  | (with_reducible refine i_neg ?_)
  | (with_reducible refine i_sub ?_)
  | (with_reducible refine i_sl ?_)
  | (with_reducible refine i_noP ?_)
  | (with_reducible refine i_part ?_)
  | (with_reducible refine i_int ?_)
  | (with_reducible refine i_bm ?_)
  | (with_reducible refine i_strT ?_)
  | (with_reducible refine i_yes ?_)
  | (with_reducible refine i_call ?_)
  | ((with_reducible refine i_len ?_ ?_); (focus (exact sz (by simp))))
  | (with_reducible refine i_lc ?_)
  | (with_reducible refine i_for ?_)
  | (with_reducible refine i_rng1 ?_)
  | (with_reducible refine i_rng2 ?_)
  | (with_reducible refine l_addI ?_)
  | (with_reducible refine l_subI ?_)
  | (with_reducible refine l_cmp ?_)
  | (with_reducible refine l_eqI ?_)
  | (with_reducible refine l_eqS ?_)
  | (with_reducible refine l_eqB ?_)
  | (with_reducible refine l_neI ?_)
  | (with_reducible refine l_neS ?_)
  | (with_reducible refine l_neB ?_)
  | (with_reducible refine l_isN ?_)
  | (with_reducible refine l_isNotN ?_)
  | (with_reducible refine l_isB ?_)
  | (with_reducible refine l_isNotB ?_)
  | (with_reducible refine l_intI ?_)
  | (with_reducible refine l_intB ?_)
  | (with_reducible refine l_inC ?_)
  | (refine ⟨_, _, rfl, rfl, sz (by first | omega | simp; omega), ?_⟩)
  | ((with_reducible refine l_pow ?_ ?_); (focus (exact ⟨by decide, by decide, by decide⟩)))
  | ((with_reducible refine l_mul ?_ ?_); (focus (first | assumption | exact Or.inl (Or.inl ⟨by omega, by omega⟩) | exact Or.inl (Or.inr ⟨by omega, by omega⟩))))
  | ((with_reducible refine l_div ?_ ?_); (focus (first | assumption | exact ⟨by decide, by decide⟩)))
  | ((with_reducible apply l_setL); (assumption); (exact rfl))
  | ((with_reducible refine l_mod ?_ ?_); (walk_at "side"))
  | ((with_reducible apply l_ixL); (assumption); (exact rfl))
  | ((with_reducible refine l_lenS ?_ ?_); (focus (first | assumption | exact sz (by omega) | exact sz (by simp; omega))))
  | ((with_reducible refine l_slS ?_ ?_); (focus (first | assumption | exact sz (by omega))))
  | ((with_reducible apply l_isi); (walk_at "ty"); (walk_at "kt"))
  | ((with_reducible apply l_lenL); (assumption)))
local macro_rules | `(tactic| walk_at "go") => `(tactic| repeat (walk_at "1"))
local macro_rules | `(tactic| walk_at "1") => `(tactic| first
  | (with_reducible refine i_mkS ?_)
  | (with_reducible refine i_cS ?_)
  | (with_reducible refine i_fld ?_)
  | (with_reducible refine i_sFld ?_)
  | (with_reducible refine i_tX ?_)
  | (with_reducible refine l_len2 rfl rfl ?_))
local macro_rules | `(tactic| walk_at "1") => `(tactic| first
  | (with_reducible refine i_stp ?_)
  | ((with_reducible apply i_iad); (exact rfl))
  | (with_reducible refine i_cO ?_)
  | (with_reducible refine i_prp ?_)
  | (with_reducible refine i_mtS ?_)
  | (with_reducible refine i_fldaug ?_)
  | (with_reducible refine i_par ?_)
  | (with_reducible refine i_par3 ?_)
  | (with_reducible refine i_revL ?_))
local macro_rules | `(tactic| walk_at "1") => `(tactic| first
  | (with_reducible refine i_dget ?_)
  | (with_reducible refine i_dput ?_)
  | (with_reducible refine i_sm ?_)
  | (with_reducible refine i_mkX ?_))
section
variable {P : Program} {w : World} {K : PySem.W.Frag} {mg : Str → Option Value} {base : Heap}
theorem rule_new {C CB : Addr} {H : Hp} {zs : List Str} {Q : Addr → Hp → Prop} {E : XK} (hz : OkR zs) (q : ∀ x H', Ex H H' → RuleAt C H' (.ref x) zs → Q x H') :
    ∀ x dx, H x = none → H dx = none → dx ≠ x → spRule K C CB (.ref x :: zs.map V.str) (upd (upd H dx (.own x)) x (.ins C dx [])) (fun v H3 => v = .non ∧ Q x H3) E := by
  intro x dx hx hdx hne
  refine ⟨x, dx, zs.map V.str, rfl, by rw [List.length_map, hz.len], upd_same, fun v hv => ?_, .inl ⟨hz.ok, fun H' p b h1 h2 => ⟨rfl, q x H' (ex_made hx hdx b) ⟨x, dx, p, rfl, h1, h2, hz⟩⟩⟩⟩
  obtain ⟨z, _, rfl⟩ := List.mem_map.mp hv
  exact .inl rfl
theorem mk_Rule_all {a_KEYWORDS a_SWITCHES v_SWITCHES_0 v_SWITCHES_1 v_SWITCHES_2 v_SWITCHES_3 v_SWITCHES_4 v_SWITCHES_5 v_SWITCHES_6 C_RoundError C_BadSwitch C_BadNote C_Rule : Addr} (T : Tp K mg w a_KEYWORDS a_SWITCHES v_SWITCHES_0 v_SWITCHES_1 v_SWITCHES_2 v_SWITCHES_3 v_SWITCHES_4 v_SWITCHES_5 v_SWITCHES_6 C_RoundError C_BadSwitch C_BadNote C_Rule) : MakG P w K mg base 3 "Rule" C_Rule (spRule K C_Rule C_BadSwitch) 0 SW (fun vs zs => vs ++ zs) :=
  (ok_rini T).mak fun f fd F => by
    obtain ⟨mv, h⟩ := F.kbinds0 (ps := ["self", "bound", "test", "variable", "limit", "after", "cell", "skip"]) 1 SW [] (fun us _ ws => us ++ ws) (by simp) (by simp) (fun a _ c => a.append c) (fun D doc pm an cdv ct us mv ws l1 l2 l3 => match us, mv, ws, l1, l2, l3 with | [_], [], [_, _, _, _, _, _, _], _, _, _ => rfl)
    exact ⟨_, h⟩
theorem valV_kw : ∀ {ks : List Str} {zs : List V} {i : Nat} {k : Str} {z : V}, ks.Nodup → ks[i]? = some k → zs[i]? = some z → valV (kwV ks zs) (Sum.inr k) = some z
  | [], _, _, _, _, _, h, _ => by simp at h
  | _ :: _, [], _, _, _, _, _, h => by simp at h
  | k0 :: ks, z0 :: zs, 0, k, z, _, hk, hz => by
    cases (show some k0 = some k from hk)
    cases (show some z0 = some z from hz)
    exact valV_pos rfl
  | k0 :: ks, z0 :: zs, i + 1, k, z, nd, hk, hz => by
    rw [List.nodup_cons] at nd
    have hk' : ks[i]? = some k := hk
    have ne : k0 ≠ k := fun e => nd.1 (e ▸ List.mem_of_getElem? hk')
    show valV ((Sum.inr k0, z0) :: kwV ks zs) _ = _
    rw [valV_neg (fun e => ne (Sum.inr.inj e))]
    exact valV_kw nd.2 hk' hz
theorem sw_ix {n : Str} (h : n ∈ SW) : ∃ i : Nat, SW[i]? = some n := List.mem_iff_getElem?.mp h
theorem lk_words {zs : List Str} {p : Addr} (h : zs.length = 7) : (ruF (zs.map V.str) p).lookup ("words" : Str) = some (V.ref p) := by
  match zs, h with
  | [_, _, _, _, _, _, _], _ => rfl
def spItem (K : PySem.W.Frag) (C CB : Addr) : Sp := fun vs H Q E => ∃ v y zs, vs = [v, y] ∧ RuleAt C H v zs ∧ Kd K H y ∧
  ((∃ (i : Nat) (n z : Str), y = .str n ∧ SW[i]? = some n ∧ zs[i]? = some z ∧ Q (.str z) H) ∨ ((∀ n ∈ SW, y ≠ .str n) ∧ ∀ d, H d = none → E (.ref CB) (some d) (upd H d (.xd [("name", y)]))))
theorem ok_item {a_KEYWORDS a_SWITCHES v_SWITCHES_0 v_SWITCHES_1 v_SWITCHES_2 v_SWITCHES_3 v_SWITCHES_4 v_SWITCHES_5 v_SWITCHES_6 C_RoundError C_BadSwitch C_BadNote C_Rule : Addr} (T : Tp K mg w a_KEYWORDS a_SWITCHES v_SWITCHES_0 v_SWITCHES_1 v_SWITCHES_2 v_SWITCHES_3 v_SWITCHES_4 v_SWITCHES_5 v_SWITCHES_6 C_RoundError C_BadSwitch C_BadNote C_Rule) : MetG P w K mg base false 3 C_Rule "__getitem__" (spItem K C_Rule C_BadSwitch) ["self", "name"] := by
  refine T.m_Rule___getitem__.metX sc_Rule___getitem__ (fun vs H Q E h => ?_) (fun f cdv A outer s H vs Q E hr _ h => ?_)
  · obtain ⟨v, y, zs, rfl, _⟩ := h
    rfl
  · obtain ⟨v, y, zs, rfl, ⟨x, dx, p, rfl, hx, hp, hz⟩, hk, h⟩ := h
    have sc := sc_Rule___getitem__
    refine ⟨_, 
    (pss_cons (ps_if (pt_cut (PW.pt (pw_or (pt_not (pt_val (pe_callB (kIsi (K := K) rfl) (by rfl) T.m_isinstance (by decide +kernel) (pa_cons (pv 1) (pa_cons (gTy (n := "str") (by rfl) T.m_str (by decide +kernel)) pa_nil))))) (pw_or1 (pt_cmpR (wd_notIn T.w_SWITCHES) (pv 1) (pe_gc (by rfl) T.c_SWITCHES) (by rfl)))))) (
      (pss_one (ps_raise rfl (takes_of rfl rfl rfl rfl) (pmk_x (T.x_BadSwitch P w base) hr (by decide) (by rfl) (pa_cons (pv 1) pa_nil))))) (pss_nil))
    (pss_one (ps_ret (pe_dget (u1 hr) (pe_fld (pv 0) rfl) (pv 1) (fun _ _ => rfl))))), ?_⟩
    try rw [cxK]
    refine i_start (τ := [some (.ref x), some y]) rfl ?_
    obtain ⟨t, ty, e⟩ := kd_str hk
    walk_at "go"
    rcases h with ⟨i, n, z, rfl, hn, hzi, q⟩ | ⟨hno, q⟩
    · refine i_cutT (fun b H' => b = false ∧ H' = H) ?_ ?_
      · walk_at "go"
        refine ⟨n, rfl, rfl, ?_⟩
        rw [sw_some, decide_eq_true (List.mem_of_getElem? hn)]
        walk_at "go"
        exact ⟨rfl, rfl⟩
      rintro _ _ ⟨rfl, rfl⟩
      walk_at "go"
      refine ⟨x, C_Rule, dx, _, _, rfl, hx, T.cl_Rule, T.n_Rule_words, lk_words hz.len, ?_⟩
      walk_at "go"
      refine ⟨p, .str z, rfl, .inl ⟨_, .inr n, .inl hp, rfl, (valV_kw sw_nd hn (by rw [List.getElem?_map, hzi]; rfl)).symm⟩, ?_⟩
      exact q
    · refine i_cutT (fun b H' => b = true ∧ H' = H) ?_ ?_
      · walk_at "go"
        refine i_iteBN (fun eb => ?_) (fun eb => ?_)
        · exact ⟨rfl, rfl⟩
        · cases y with
          | str n =>
            walk_at "go"
            refine ⟨n, rfl, rfl, ?_⟩
            rw [sw_some, decide_eq_false (fun hm => hno n hm rfl)]
            walk_at "go"
            exact ⟨rfl, rfl⟩
          | _ => cases eb
      rintro _ _ ⟨rfl, rfl⟩
      walk_at "go"
      exact ⟨_, rfl, q⟩
end
end K
namespace K
open PySem PySem.Spec PyProof.Rows L2 G TL
local macro_rules | `(tactic| walk_at "side") => `(tactic| focus (first | assumption | exact rfl | omega | decide))
local macro_rules | `(tactic| walk_at "ty") => `(tactic| focus (first | exact .base (.str _) | exact .base (.int _) | exact .base (.bl _) | exact .base .non | exact .base (.lst (by assumption)) | exact .base (.tup (by assumption)) | exact .base (.dK (by assumption)) | assumption))
local macro_rules | `(tactic| walk_at "kt") => `(tactic| focus (with_reducible first | exact kt_NoneType_str | exact kt_NoneType_int | exact kt_NoneType_bool | exact kt_NoneType_tuple | exact kt_NoneType_list | exact kt_NoneType_dict | exact kt_bool_str | exact kt_bool_int | exact kt_bool_bool | exact kt_bool_tuple | exact kt_bool_list | exact kt_bool_dict | exact kt_int_str | exact kt_int_int | exact kt_int_bool | exact kt_int_tuple | exact kt_int_list | exact kt_int_dict | exact kt_str_str | exact kt_str_int | exact kt_str_bool | exact kt_str_tuple | exact kt_str_list | exact kt_str_dict | exact kt_list_str | exact kt_list_int | exact kt_list_bool | exact kt_list_tuple | exact kt_list_list | exact kt_list_dict | exact kt_tuple_str | exact kt_tuple_int | exact kt_tuple_bool | exact kt_tuple_tuple | exact kt_tuple_list | exact kt_tuple_dict | exact kt_dict_str | exact kt_dict_int | exact kt_dict_bool | exact kt_dict_tuple | exact kt_dict_list | exact kt_dict_dict | assumption))
local macro_rules | `(tactic| walk_at "1") => `(tactic| first
  | (with_reducible refine i_seq ?_)
  | (with_reducible refine iteT ?_)
  | (with_reducible refine iteF ?_)
  | (with_reducible refine iteNF ?_)
  | (with_reducible refine iteNT ?_)
  | (with_reducible refine i_asg ?_)
  | (with_reducible refine i_op ?_)
  | (with_reducible refine i_c ?_)
  | ((with_reducible apply i_var); (exact rfl))
  | (with_reducible refine i_cb ?_)
  | (with_reducible refine i_cons ?_)
  | (with_reducible refine i_nil ?_)
  | (with_reducible refine i_test ?_)
  | (with_reducible refine i_b ?_)
  | (with_reducible refine i_bl ?_)
  | (with_reducible refine i_name ?_)
  | (with_reducible refine i_ifS ?_)
  | (with_reducible refine i_next ?_)
  | (with_reducible refine i_ret ?_)
  | (with_reducible refine i_drop ?_)
  | (with_reducible refine i_lst ?_)
  | (with_reducible refine i_tup ?_)
  | (with_reducible refine i_and ?_)
  | (with_reducible refine i_or ?_)
  | (with_reducible refine i_not ?_)
  | (with_reducible refine i_andV ?_)
  | (with_reducible refine i_orV ?_)
  | (with_reducible refine i_notV ?_)
  | (with_reducible refine i_if ?_)
  | (with_reducible refine i_chain ?_)
  | (with_reducible refine i_un ?_)
  | (with_reducible refine i_neg ?_)
  | (with_reducible refine i_sub ?_)
  | (with_reducible refine i_sl ?_)
  | (with_reducible refine i_noP ?_)
  | (with_reducible refine i_part ?_)
  | (with_reducible refine i_int ?_)
  | (with_reducible refine i_bm ?_)
  | (with_reducible refine i_strT ?_)
  | (with_reducible refine i_yes ?_)
  | (with_reducible refine i_call ?_)
  | ((with_reducible refine i_len ?_ ?_); (focus (exact sz (by simp))))
  | (with_reducible refine i_lc ?_)
  | (with_reducible refine i_for ?_)
  | (with_reducible refine i_rng1 ?_)
  | (with_reducible refine i_rng2 ?_)
  | (with_reducible refine l_addI ?_)
  | (with_reducible refine l_subI ?_)
  | (with_reducible refine l_cmp ?_)
  | (with_reducible refine l_eqI ?_)
  | (with_reducible refine l_eqS ?_)
  | (with_reducible refine l_eqB ?_)
  | (with_reducible refine l_neI ?_)
  | (with_reducible refine l_neS ?_)
  | (with_reducible refine l_neB ?_)
  | (with_reducible refine l_isN ?_)
  | (with_reducible refine l_isNotN ?_)
  | (with_reducible refine l_isB ?_)
  | (with_reducible refine l_isNotB ?_)
  | (with_reducible refine l_intI ?_)
  | (with_reducible refine l_intB ?_)
  | (with_reducible refine l_inC ?_)
  | (refine ⟨_, _, rfl, rfl, sz (by first | omega | simp; omega), ?_⟩)
  | ((with_reducible refine l_pow ?_ ?_); (focus (exact ⟨by decide, by decide, by decide⟩)))
  | ((with_reducible refine l_mul ?_ ?_); (focus (first | assumption | exact Or.inl (Or.inl ⟨by omega, by omega⟩) | exact Or.inl (Or.inr ⟨by omega, by omega⟩))))
  | ((with_reducible refine l_div ?_ ?_); (focus (first | assumption | exact ⟨by decide, by decide⟩)))
  | ((with_reducible apply l_setL); (assumption); (exact rfl))
  | ((with_reducible refine l_mod ?_ ?_); (walk_at "side"))
  | ((with_reducible apply l_ixL); (assumption); (exact rfl))
  | ((with_reducible refine l_lenS ?_ ?_); (focus (first | assumption | exact sz (by omega) | exact sz (by simp; omega))))
  | ((with_reducible refine l_slS ?_ ?_); (focus (first | assumption | exact sz (by omega))))
  | ((with_reducible apply l_isi); (walk_at "ty"); (walk_at "kt"))
  | ((with_reducible apply l_lenL); (assumption)))
local macro_rules | `(tactic| walk_at "go") => `(tactic| repeat (walk_at "1"))
local macro_rules | `(tactic| walk_at "1") => `(tactic| first
  | (with_reducible refine i_mkS ?_)
  | (with_reducible refine i_cS ?_)
  | (with_reducible refine i_fld ?_)
  | (with_reducible refine i_sFld ?_)
  | (with_reducible refine i_tX ?_)
  | (with_reducible refine l_len2 rfl rfl ?_))
local macro_rules | `(tactic| walk_at "1") => `(tactic| first
  | (with_reducible refine i_stp ?_)
  | ((with_reducible apply i_iad); (exact rfl))
  | (with_reducible refine i_cO ?_)
  | (with_reducible refine i_prp ?_)
  | (with_reducible refine i_mtS ?_)
  | (with_reducible refine i_fldaug ?_)
  | (with_reducible refine i_par ?_)
  | (with_reducible refine i_par3 ?_)
  | (with_reducible refine i_revL ?_))
local macro_rules | `(tactic| walk_at "1") => `(tactic| first
  | (with_reducible refine i_dget ?_)
  | (with_reducible refine i_dput ?_)
  | (with_reducible refine i_sm ?_)
  | (with_reducible refine i_mkX ?_))
section
variable {P : Program} {w : World} {K : PySem.W.Frag} {mg : Str → Option Value} {base : Heap}
theorem bad_none : ∀ {ns : List Str} {vs : List V}, vs.length = ns.length → (firstBad ns vs = none ↔ ∀ (i : Nat) (n : Str) (v : V), ns[i]? = some n → vs[i]? = some v → okW n v = true)
  | [], [], _ => ⟨fun _ i n v h => by simp at h, fun _ => rfl⟩
  | n :: ns, v :: vs, hl => by
    have ih := bad_none (ns := ns) (vs := vs) (by simpa using hl)
    unfold firstBad
    constructor
    · intro h i n' v' hn hv
      split at h
      · rename_i hb
        cases i with
        | zero =>
          cases (show some n = some n' from hn)
          cases (show some v = some v' from hv)
          exact hb
        | succ i => exact ih.mp h i n' v' hn hv
      · cases h
    · intro h
      rw [if_pos (h 0 n v rfl rfl)]
      exact ih.mpr fun i n' v' hn hv => h (i + 1) n' v' hn hv
theorem OkR.at {zs : List Str} (h : OkR zs) {i : Nat} {n z : Str} (hn : SW[i]? = some n) (hz : zs[i]? = some z) : okW n (.str z) = true :=
  (bad_none (by rw [List.length_map, h.len]; rfl)).mp h.ok i n (.str z) hn (by rw [List.getElem?_map, hz]; rfl)
theorem okR_of {zs : List Str} (hl : zs.length = 7) (h : ∀ (i : Nat) (n z : Str), SW[i]? = some n → zs[i]? = some z → okW n (.str z) = true) : OkR zs := by
  refine ⟨hl, (bad_none (by rw [List.length_map, hl]; rfl)).mpr fun i n v hn hv => ?_⟩
  rw [List.getElem?_map] at hv
  cases hz : zs[i]? with
  | none => rw [hz] at hv; cases hv
  | some z =>
    rw [hz] at hv
    cases hv
    exact h i n z hn hz
theorem OkR.set {zs : List Str} (h : OkR zs) {i : Nat} {n z : Str} (hn : SW[i]? = some n) (hz : okW n (.str z) = true) : OkR (zs.set i z) := by
  refine okR_of (by rw [List.length_set, h.len]) fun j m y hm hy => ?_
  rw [List.getElem?_set] at hy
  split at hy
  · rename_i e
    subst e
    split at hy
    · cases hy
      rw [hn] at hm
      cases hm
      exact hz
    · cases hy
  · exact h.at hm hy
def spEqR (K : PySem.W.Frag) (C : Addr) : Sp := fun vs H Q _ => ∃ v y zs, vs = [v, y] ∧ RuleAt C H v zs ∧ ((∃ ys, RuleAt C H y ys ∧ Q (.bl (decide (zs = ys))) H) ∨ (∃ xs, Sq K H y xs ∧ Q (.bl false) H))
theorem ok_reqR {a_KEYWORDS a_SWITCHES v_SWITCHES_0 v_SWITCHES_1 v_SWITCHES_2 v_SWITCHES_3 v_SWITCHES_4 v_SWITCHES_5 v_SWITCHES_6 C_RoundError C_BadSwitch C_BadNote C_Rule : Addr} (T : Tp K mg w a_KEYWORDS a_SWITCHES v_SWITCHES_0 v_SWITCHES_1 v_SWITCHES_2 v_SWITCHES_3 v_SWITCHES_4 v_SWITCHES_5 v_SWITCHES_6 C_RoundError C_BadSwitch C_BadNote C_Rule) : MetG P w K mg base false 1 C_Rule "__eq__" (spEqR K C_Rule) ["self", "other"] := by
  refine T.m_Rule___eq__.met sc_Rule___eq__ (fun vs H Q E h => ?_) (fun f cdv A outer s H vs Q E hr _ h => ?_)
  · obtain ⟨v, y, zs, rfl, _⟩ := h
    rfl
  · obtain ⟨v, y, zs, rfl, ⟨x, dx, p, rfl, hx, hp, hz⟩, h⟩ := h
    have sc := sc_Rule___eq__
    refine ⟨_, 
    (pss_one (ps_ret (pe_and (pe_callB (kIsi (K := K) rfl) (by rfl) T.m_isinstance (by decide +kernel) (pa_cons (pv 1) (pa_cons (pe_gc (by rfl) T.k_Rule) pa_nil))) (pe_one (pe_cmpR (op_eqKw (u0 hr)) (pe_fld (pv 0) rfl) (pe_fld (pv 1) rfl) (nomark _)))))), ?_⟩
    try rw [cxK]
    refine i_start (τ := [some (.ref x), some y]) rfl ?_
    walk_at "go"
    rcases h with ⟨ys, ⟨x2, dx2, p2, rfl, hx2, hp2, hy⟩, k⟩ | ⟨xs, hs, k⟩
    · refine .inl ⟨_, _, _, _, true, rfl, .own _, T.ty_Rule _ _ _ _ hx2, kit_self, ?_⟩
      walk_at "go"
      refine ⟨x, C_Rule, dx, _, _, rfl, hx, T.cl_Rule, T.n_Rule_words, lk_words hz.len, ?_⟩
      walk_at "go"
      refine ⟨x2, C_Rule, dx2, _, _, rfl, hx2, T.cl_Rule, T.n_Rule_words, lk_words hy.len, ?_⟩
      exact ⟨p, p2, SW, zs, ys, rfl, rfl, hp, hp2, hz.len, hy.len, sw_nd, k⟩
    · obtain ⟨a, rfl, hs | hs⟩ := hs
      · refine .inl ⟨_, _, _, _, false, rfl, .own _, tyL hs, T.kt_Rule_list, ?_⟩
        walk_at "go"
        exact k
      · refine .inl ⟨_, _, _, _, false, rfl, .own _, tyT hs, T.kt_Rule_tuple, ?_⟩
        walk_at "go"
        exact k
section
variable {H : Hp} {x y : V} {zs ys : List Str} {Q : VK}
theorem eq_RR {a_KEYWORDS a_SWITCHES v_SWITCHES_0 v_SWITCHES_1 v_SWITCHES_2 v_SWITCHES_3 v_SWITCHES_4 v_SWITCHES_5 v_SWITCHES_6 C_RoundError C_BadSwitch C_BadNote C_Rule : Addr} (T : Tp K mg w a_KEYWORDS a_SWITCHES v_SWITCHES_0 v_SWITCHES_1 v_SWITCHES_2 v_SWITCHES_3 v_SWITCHES_4 v_SWITCHES_5 v_SWITCHES_6 C_RoundError C_BadSwitch C_BadNote C_Rule) (h1 : RuleAt C_Rule H x zs) (h2 : RuleAt C_Rule H y ys) (q : Q (.bl (decide (zs = ys))) H) : rOpI K C_Rule (spEqR K C_Rule) x y H Q := by
  have g1 := h1
  have g2 := h2
  obtain ⟨a, dx, p, rfl, hx, _, _⟩ := h1
  obtain ⟨b, dy, p2, rfl, hy, _, _⟩ := h2
  exact ⟨a, dx, _, _, rfl, hx, T.ty_Rule _ _ _ _ hy, nf_self, _, _, zs, rfl, g1, .inl ⟨ys, g2, q⟩⟩
theorem ne_RR {a_KEYWORDS a_SWITCHES v_SWITCHES_0 v_SWITCHES_1 v_SWITCHES_2 v_SWITCHES_3 v_SWITCHES_4 v_SWITCHES_5 v_SWITCHES_6 C_RoundError C_BadSwitch C_BadNote C_Rule : Addr} (T : Tp K mg w a_KEYWORDS a_SWITCHES v_SWITCHES_0 v_SWITCHES_1 v_SWITCHES_2 v_SWITCHES_3 v_SWITCHES_4 v_SWITCHES_5 v_SWITCHES_6 C_RoundError C_BadSwitch C_BadNote C_Rule) (h1 : RuleAt C_Rule H x zs) (h2 : RuleAt C_Rule H y ys) (q : Q (.bl (!decide (zs = ys))) H) : rNeI K C_Rule (spEqR K C_Rule) x y H Q := by
  have g1 := h1
  have g2 := h2
  obtain ⟨a, dx, p, rfl, hx, _, _⟩ := h1
  obtain ⟨b, dy, p2, rfl, hy, _, _⟩ := h2
  exact ⟨a, dx, _, _, rfl, hx, T.ty_Rule _ _ _ _ hy, nf_self, _, _, zs, rfl, g1, .inl ⟨ys, g2, _, rfl, q⟩⟩
theorem eq_RL {a_KEYWORDS a_SWITCHES v_SWITCHES_0 v_SWITCHES_1 v_SWITCHES_2 v_SWITCHES_3 v_SWITCHES_4 v_SWITCHES_5 v_SWITCHES_6 C_RoundError C_BadSwitch C_BadNote C_Rule : Addr} (T : Tp K mg w a_KEYWORDS a_SWITCHES v_SWITCHES_0 v_SWITCHES_1 v_SWITCHES_2 v_SWITCHES_3 v_SWITCHES_4 v_SWITCHES_5 v_SWITCHES_6 C_RoundError C_BadSwitch C_BadNote C_Rule) {p : Addr} {xs : List V} (h1 : RuleAt C_Rule H x zs) (h2 : SqL K H p xs) (q : Q (.bl false) H) : rOpI K C_Rule (spEqR K C_Rule) x (.ref p) H Q := by
  have g1 := h1
  obtain ⟨a, dx, p', rfl, hx, _, _⟩ := h1
  exact ⟨a, dx, _, _, rfl, hx, tyL h2, nf_of T.nf_Rule_list, _, _, zs, rfl, g1, .inr ⟨xs, .l h2, q⟩⟩
end
end
end K
namespace K
open PySem PySem.Spec PyProof.Rows L2 G TL
local macro_rules | `(tactic| walk_at "side") => `(tactic| focus (first | assumption | exact rfl | omega | decide))
local macro_rules | `(tactic| walk_at "ty") => `(tactic| focus (first | exact .base (.str _) | exact .base (.int _) | exact .base (.bl _) | exact .base .non | exact .base (.lst (by assumption)) | exact .base (.tup (by assumption)) | exact .base (.dK (by assumption)) | assumption))
local macro_rules | `(tactic| walk_at "kt") => `(tactic| focus (with_reducible first | exact kt_NoneType_str | exact kt_NoneType_int | exact kt_NoneType_bool | exact kt_NoneType_tuple | exact kt_NoneType_list | exact kt_NoneType_dict | exact kt_bool_str | exact kt_bool_int | exact kt_bool_bool | exact kt_bool_tuple | exact kt_bool_list | exact kt_bool_dict | exact kt_int_str | exact kt_int_int | exact kt_int_bool | exact kt_int_tuple | exact kt_int_list | exact kt_int_dict | exact kt_str_str | exact kt_str_int | exact kt_str_bool | exact kt_str_tuple | exact kt_str_list | exact kt_str_dict | exact kt_list_str | exact kt_list_int | exact kt_list_bool | exact kt_list_tuple | exact kt_list_list | exact kt_list_dict | exact kt_tuple_str | exact kt_tuple_int | exact kt_tuple_bool | exact kt_tuple_tuple | exact kt_tuple_list | exact kt_tuple_dict | exact kt_dict_str | exact kt_dict_int | exact kt_dict_bool | exact kt_dict_tuple | exact kt_dict_list | exact kt_dict_dict | assumption))
local macro_rules | `(tactic| walk_at "1") => `(tactic| first
  | (with_reducible refine i_seq ?_)
  | (with_reducible refine iteT ?_)
  | (with_reducible refine iteF ?_)
  | (with_reducible refine iteNF ?_)
  | (with_reducible refine iteNT ?_)
  | (with_reducible refine i_asg ?_)
  | (with_reducible refine i_op ?_)
  | (with_reducible refine i_c ?_)
  | ((with_reducible apply i_var); (exact rfl))
  | (with_reducible refine i_cb ?_)
  | (with_reducible refine i_cons ?_)
  | (with_reducible refine i_nil ?_)
  | (with_reducible refine i_test ?_)
  | (with_reducible refine i_b ?_)
  | (with_reducible refine i_bl ?_)
  | (with_reducible refine i_name ?_)
  | (with_reducible refine i_ifS ?_)
  | (with_reducible refine i_next ?_)
  | (with_reducible refine i_ret ?_)
  | (with_reducible refine i_drop ?_)
  | (with_reducible refine i_lst ?_)
  | (with_reducible refine i_tup ?_)
  | (with_reducible refine i_and ?_)
  | (with_reducible refine i_or ?_)
  | (with_reducible refine i_not ?_)
  | (with_reducible refine i_andV ?_)
  | (with_reducible refine i_orV ?_)
  | (with_reducible refine i_notV ?_)
  | (with_reducible refine i_if ?_)
  | (with_reducible refine i_chain ?_)
  | (with_reducible refine i_un ?_)
  | (with_reducible refine i_neg ?_)
  | (with_reducible refine i_sub ?_)
  | (with_reducible refine i_sl ?_)
  | (with_reducible refine i_noP ?_)
  | (with_reducible refine i_part ?_)
  | (with_reducible refine i_int ?_)
  | (with_reducible refine i_bm ?_)
  | (with_reducible refine i_strT ?_)
  | (with_reducible refine i_yes ?_)
  | (with_reducible refine i_call ?_)
  | ((with_reducible refine i_len ?_ ?_); (focus (exact sz (by simp))))
  | (with_reducible refine i_lc ?_)
  | (with_reducible refine i_for ?_)
  | (with_reducible refine i_rng1 ?_)
  | (with_reducible refine i_rng2 ?_)
  | (with_reducible refine l_addI ?_)
  | (with_reducible refine l_subI ?_)
  | (with_reducible refine l_cmp ?_)
  | (with_reducible refine l_eqI ?_)
  | (with_reducible refine l_eqS ?_)
  | (with_reducible refine l_eqB ?_)
  | (with_reducible refine l_neI ?_)
  | (with_reducible refine l_neS ?_)
  | (with_reducible refine l_neB ?_)
  | (with_reducible refine l_isN ?_)
  | (with_reducible refine l_isNotN ?_)
  | (with_reducible refine l_isB ?_)
  | (with_reducible refine l_isNotB ?_)
  | (with_reducible refine l_intI ?_)
  | (with_reducible refine l_intB ?_)
  | (with_reducible refine l_inC ?_)
  | (refine ⟨_, _, rfl, rfl, sz (by first | omega | simp; omega), ?_⟩)
  | ((with_reducible refine l_pow ?_ ?_); (focus (exact ⟨by decide, by decide, by decide⟩)))
  | ((with_reducible refine l_mul ?_ ?_); (focus (first | assumption | exact Or.inl (Or.inl ⟨by omega, by omega⟩) | exact Or.inl (Or.inr ⟨by omega, by omega⟩))))
  | ((with_reducible refine l_div ?_ ?_); (focus (first | assumption | exact ⟨by decide, by decide⟩)))
  | ((with_reducible apply l_setL); (assumption); (exact rfl))
  | ((with_reducible refine l_mod ?_ ?_); (walk_at "side"))
  | ((with_reducible apply l_ixL); (assumption); (exact rfl))
  | ((with_reducible refine l_lenS ?_ ?_); (focus (first | assumption | exact sz (by omega) | exact sz (by simp; omega))))
  | ((with_reducible refine l_slS ?_ ?_); (focus (first | assumption | exact sz (by omega))))
  | ((with_reducible apply l_isi); (walk_at "ty"); (walk_at "kt"))
  | ((with_reducible apply l_lenL); (assumption)))
local macro_rules | `(tactic| walk_at "go") => `(tactic| repeat (walk_at "1"))
local macro_rules | `(tactic| walk_at "1") => `(tactic| first
  | (with_reducible refine i_mkS ?_)
  | (with_reducible refine i_cS ?_)
  | (with_reducible refine i_fld ?_)
  | (with_reducible refine i_sFld ?_)
  | (with_reducible refine i_tX ?_)
  | (with_reducible refine l_len2 rfl rfl ?_))
local macro_rules | `(tactic| walk_at "1") => `(tactic| first
  | (with_reducible refine i_stp ?_)
  | ((with_reducible apply i_iad); (exact rfl))
  | (with_reducible refine i_cO ?_)
  | (with_reducible refine i_prp ?_)
  | (with_reducible refine i_mtS ?_)
  | (with_reducible refine i_fldaug ?_)
  | (with_reducible refine i_par ?_)
  | (with_reducible refine i_par3 ?_)
  | (with_reducible refine i_revL ?_))
local macro_rules | `(tactic| walk_at "1") => `(tactic| first
  | (with_reducible refine i_dget ?_)
  | (with_reducible refine i_dput ?_)
  | (with_reducible refine i_sm ?_)
  | (with_reducible refine i_mkX ?_))
section
variable {P : Program} {w : World} {K : PySem.W.Frag} {mg : Str → Option Value} {base : Heap}
/-- the law's table, new -/
def TabAt (H0 H : Hp) (a : Addr) : Prop := ∃ rs : List Addr, H a = some (.lst (rs.map V.ref)) ∧ H0 a = none ∧ rs.length = 7 ∧ ∀ (i : Nat) (r : Addr), rs[i]? = some r → ∃ n ws w, WT[i]? = some (n, ws) ∧ H r = some (.lst [.str n, .ref w]) ∧ H w = some (.lst (ws.map V.str)) ∧ H0 r = none ∧ H0 w = none
def spTab : Sp := fun vs H Q _ => vs = [] ∧ ∀ a H', Ex H H' → TabAt H H' a → Q (.ref a) H'
theorem ok_tab {a_KEYWORDS a_SWITCHES v_SWITCHES_0 v_SWITCHES_1 v_SWITCHES_2 v_SWITCHES_3 v_SWITCHES_4 v_SWITCHES_5 v_SWITCHES_6 C_RoundError C_BadSwitch C_BadNote C_Rule : Addr} (T : Tp K mg w a_KEYWORDS a_SWITCHES v_SWITCHES_0 v_SWITCHES_1 v_SWITCHES_2 v_SWITCHES_3 v_SWITCHES_4 v_SWITCHES_5 v_SWITCHES_6 C_RoundError C_BadSwitch C_BadNote C_Rule) : Cal P w K mg base 1 "_law_table" spTab [] := by
  refine T.d__law_table.cal sc__law_table (fun vs H Q E h => ?_) (fun f cdv A outer s H vs Q E hr h => ?_)
  · obtain ⟨rfl, _⟩ := h
    rfl
  · obtain ⟨rfl, q⟩ := h
    have sc := sc__law_table
    refine ⟨_, 
    (pss_one (ps_ret (pe_lst (pa_cons (pe_lst (pa_cons (pe_str) (pa_cons (pe_lst (pa_cons (pe_str) (pa_cons (pe_str) pa_nil))) pa_nil))) (pa_cons (pe_lst (pa_cons (pe_str) (pa_cons (pe_lst (pa_cons (pe_str) (pa_cons (pe_str) pa_nil))) pa_nil))) (pa_cons (pe_lst (pa_cons (pe_str) (pa_cons (pe_lst (pa_cons (pe_str) (pa_cons (pe_str) (pa_cons (pe_str) pa_nil)))) pa_nil))) (pa_cons (pe_lst (pa_cons (pe_str) (pa_cons (pe_lst (pa_cons (pe_str) (pa_cons (pe_str) pa_nil))) pa_nil))) (pa_cons (pe_lst (pa_cons (pe_str) (pa_cons (pe_lst (pa_cons (pe_str) (pa_cons (pe_str) (pa_cons (pe_str) (pa_cons (pe_str) pa_nil))))) pa_nil))) (pa_cons (pe_lst (pa_cons (pe_str) (pa_cons (pe_lst (pa_cons (pe_str) (pa_cons (pe_str) pa_nil))) pa_nil))) (pa_cons (pe_lst (pa_cons (pe_str) (pa_cons (pe_lst (pa_cons (pe_str) (pa_cons (pe_str) pa_nil))) pa_nil))) pa_nil)))))))))), ?_⟩
    try rw [cxK]
    refine i_start (τ := []) rfl ?_
    walk_at "go"
    intro w0 hw0
    have a0 : Ex H (upd H w0 (.lst [.str "once", .str "anew"])) := Ex.new hw0
    have x0 : (upd H w0 (.lst [.str "once", .str "anew"])) w0 = some (.lst [.str "once", .str "anew"]) := upd_same
    generalize (upd H w0 (.lst [.str "once", .str "anew"])) = A0 at a0 x0 ⊢
    walk_at "go"
    intro r0 hr0
    have a1 : Ex A0 (upd A0 r0 (.lst [.str "bound", .ref w0])) := Ex.new hr0
    have x1 : (upd A0 r0 (.lst [.str "bound", .ref w0])) r0 = some (.lst [.str "bound", .ref w0]) := upd_same
    generalize (upd A0 r0 (.lst [.str "bound", .ref w0])) = A1 at a1 x1 ⊢
    walk_at "go"
    intro w1 hw1
    have a2 : Ex A1 (upd A1 w1 (.lst [.str "first", .str "last"])) := Ex.new hw1
    have x2 : (upd A1 w1 (.lst [.str "first", .str "last"])) w1 = some (.lst [.str "first", .str "last"]) := upd_same
    generalize (upd A1 w1 (.lst [.str "first", .str "last"])) = A2 at a2 x2 ⊢
    walk_at "go"
    intro r1 hr1
    have a3 : Ex A2 (upd A2 r1 (.lst [.str "test", .ref w1])) := Ex.new hr1
    have x3 : (upd A2 r1 (.lst [.str "test", .ref w1])) r1 = some (.lst [.str "test", .ref w1]) := upd_same
    generalize (upd A2 r1 (.lst [.str "test", .ref w1])) = A3 at a3 x3 ⊢
    walk_at "go"
    intro w2 hw2
    have a4 : Ex A3 (upd A3 w2 (.lst [.str "shared", .str "hidden", .str "shut"])) := Ex.new hw2
    have x4 : (upd A3 w2 (.lst [.str "shared", .str "hidden", .str "shut"])) w2 = some (.lst [.str "shared", .str "hidden", .str "shut"]) := upd_same
    generalize (upd A3 w2 (.lst [.str "shared", .str "hidden", .str "shut"])) = A4 at a4 x4 ⊢
    walk_at "go"
    intro r2 hr2
    have a5 : Ex A4 (upd A4 r2 (.lst [.str "variable", .ref w2])) := Ex.new hr2
    have x5 : (upd A4 r2 (.lst [.str "variable", .ref w2])) r2 = some (.lst [.str "variable", .ref w2]) := upd_same
    generalize (upd A4 r2 (.lst [.str "variable", .ref w2])) = A5 at a5 x5 ⊢
    walk_at "go"
    intro w3 hw3
    have a6 : Ex A5 (upd A5 w3 (.lst [.str "out", .str "in"])) := Ex.new hw3
    have x6 : (upd A5 w3 (.lst [.str "out", .str "in"])) w3 = some (.lst [.str "out", .str "in"]) := upd_same
    generalize (upd A5 w3 (.lst [.str "out", .str "in"])) = A6 at a6 x6 ⊢
    walk_at "go"
    intro r3 hr3
    have a7 : Ex A6 (upd A6 r3 (.lst [.str "limit", .ref w3])) := Ex.new hr3
    have x7 : (upd A6 r3 (.lst [.str "limit", .ref w3])) r3 = some (.lst [.str "limit", .ref w3]) := upd_same
    generalize (upd A6 r3 (.lst [.str "limit", .ref w3])) = A7 at a7 x7 ⊢
    walk_at "go"
    intro w4 hw4
    have a8 : Ex A7 (upd A7 w4 (.lst [.str "last", .str "beyond", .str "old", .str "gone"])) := Ex.new hw4
    have x8 : (upd A7 w4 (.lst [.str "last", .str "beyond", .str "old", .str "gone"])) w4 = some (.lst [.str "last", .str "beyond", .str "old", .str "gone"]) := upd_same
    generalize (upd A7 w4 (.lst [.str "last", .str "beyond", .str "old", .str "gone"])) = A8 at a8 x8 ⊢
    walk_at "go"
    intro r4 hr4
    have a9 : Ex A8 (upd A8 r4 (.lst [.str "after", .ref w4])) := Ex.new hr4
    have x9 : (upd A8 r4 (.lst [.str "after", .ref w4])) r4 = some (.lst [.str "after", .ref w4]) := upd_same
    generalize (upd A8 r4 (.lst [.str "after", .ref w4])) = A9 at a9 x9 ⊢
    walk_at "go"
    intro w5 hw5
    have a10 : Ex A9 (upd A9 w5 (.lst [.str "one", .str "round"])) := Ex.new hw5
    have x10 : (upd A9 w5 (.lst [.str "one", .str "round"])) w5 = some (.lst [.str "one", .str "round"]) := upd_same
    generalize (upd A9 w5 (.lst [.str "one", .str "round"])) = A10 at a10 x10 ⊢
    walk_at "go"
    intro r5 hr5
    have a11 : Ex A10 (upd A10 r5 (.lst [.str "cell", .ref w5])) := Ex.new hr5
    have x11 : (upd A10 r5 (.lst [.str "cell", .ref w5])) r5 = some (.lst [.str "cell", .ref w5]) := upd_same
    generalize (upd A10 r5 (.lst [.str "cell", .ref w5])) = A11 at a11 x11 ⊢
    walk_at "go"
    intro w6 hw6
    have a12 : Ex A11 (upd A11 w6 (.lst [.str "step", .str "stay"])) := Ex.new hw6
    have x12 : (upd A11 w6 (.lst [.str "step", .str "stay"])) w6 = some (.lst [.str "step", .str "stay"]) := upd_same
    generalize (upd A11 w6 (.lst [.str "step", .str "stay"])) = A12 at a12 x12 ⊢
    walk_at "go"
    intro r6 hr6
    have a13 : Ex A12 (upd A12 r6 (.lst [.str "skip", .ref w6])) := Ex.new hr6
    have x13 : (upd A12 r6 (.lst [.str "skip", .ref w6])) r6 = some (.lst [.str "skip", .ref w6]) := upd_same
    generalize (upd A12 r6 (.lst [.str "skip", .ref w6])) = A13 at a13 x13 ⊢
    walk_at "go"
    intro tb htb
    have a14 : Ex A13 (upd A13 tb (.lst [.ref r0, .ref r1, .ref r2, .ref r3, .ref r4, .ref r5, .ref r6])) := Ex.new htb
    have x14 : (upd A13 tb (.lst [.ref r0, .ref r1, .ref r2, .ref r3, .ref r4, .ref r5, .ref r6])) tb = some (.lst [.ref r0, .ref r1, .ref r2, .ref r3, .ref r4, .ref r5, .ref r6]) := upd_same
    generalize (upd A13 tb (.lst [.ref r0, .ref r1, .ref r2, .ref r3, .ref r4, .ref r5, .ref r6])) = A14 at a14 x14 ⊢
    have g13 := a14
    have g12 := a13.trans g13
    have g11 := a12.trans g12
    have g10 := a11.trans g11
    have g9 := a10.trans g10
    have g8 := a9.trans g9
    have g7 := a8.trans g8
    have g6 := a7.trans g7
    have g5 := a6.trans g6
    have g4 := a5.trans g5
    have g3 := a4.trans g4
    have g2 := a3.trans g3
    have g1 := a2.trans g2
    have g0 := a1.trans g1
    have gH := a0.trans g0
    have f0 := Ex.refl H
    have f1 := f0.trans a0
    have f2 := f1.trans a1
    have f3 := f2.trans a2
    have f4 := f3.trans a3
    have f5 := f4.trans a4
    have f6 := f5.trans a5
    have f7 := f6.trans a6
    have f8 := f7.trans a7
    have f9 := f8.trans a8
    have f10 := f9.trans a9
    have f11 := f10.trans a10
    have f12 := f11.trans a11
    have f13 := f12.trans a12
    have f14 := f13.trans a13
    refine q tb A14 gH ⟨[r0, r1, r2, r3, r4, r5, r6], x14, f14.free htb, rfl, fun i r hi => ?_⟩
    match i, hi with
    | 0, hi =>
      cases hi
      exact ⟨_, _, w0, rfl, g1 _ _ x1, g0 _ _ x0, f1.free hr0, f0.free hw0⟩
    | 1, hi =>
      cases hi
      exact ⟨_, _, w1, rfl, g3 _ _ x3, g2 _ _ x2, f3.free hr1, f2.free hw1⟩
    | 2, hi =>
      cases hi
      exact ⟨_, _, w2, rfl, g5 _ _ x5, g4 _ _ x4, f5.free hr2, f4.free hw2⟩
    | 3, hi =>
      cases hi
      exact ⟨_, _, w3, rfl, g7 _ _ x7, g6 _ _ x6, f7.free hr3, f6.free hw3⟩
    | 4, hi =>
      cases hi
      exact ⟨_, _, w4, rfl, g9 _ _ x9, g8 _ _ x8, f9.free hr4, f8.free hw4⟩
    | 5, hi =>
      cases hi
      exact ⟨_, _, w5, rfl, g11 _ _ x11, g10 _ _ x10, f11.free hr5, f10.free hw5⟩
    | 6, hi =>
      cases hi
      exact ⟨_, _, w6, rfl, g13 _ _ x13, g12 _ _ x12, f13.free hr6, f12.free hw6⟩
    | n + 7, hi => simp at hi
theorem wt_at {i : Nat} {n : Str} {ws : List Str} (h : WT[i]? = some (n, ws)) : SW[i]? = some n ∧ wordsOf n = some ws ∧ 0 < ws.length ∧ ws.length ≤ 4 := by
  match i, h with
  | 0, h => cases h; exact ⟨rfl, rfl, by decide, by decide⟩
  | 1, h => cases h; exact ⟨rfl, rfl, by decide, by decide⟩
  | 2, h => cases h; exact ⟨rfl, rfl, by decide, by decide⟩
  | 3, h => cases h; exact ⟨rfl, rfl, by decide, by decide⟩
  | 4, h => cases h; exact ⟨rfl, rfl, by decide, by decide⟩
  | 5, h => cases h; exact ⟨rfl, rfl, by decide, by decide⟩
  | 6, h => cases h; exact ⟨rfl, rfl, by decide, by decide⟩
  | k + 7, h => simp [WT] at h
theorem okW_of {n z : Str} {ws : List Str} (h : wordsOf n = some ws) (hz : z ∈ ws) : okW n (.str z) = true := by
  unfold okW
  rw [h]
  exact List.contains_iff_mem.mpr hz
theorem okW_str {n z : Str} (h : okW n (.str z) = true) : PyData.strOk z = true := by
  unfold okW at h
  cases hw : wordsOf n with
  | none => rw [hw] at h; cases h
  | some ws =>
    rw [hw] at h
    have hz : z ∈ ws := List.contains_iff_mem.mp h
    have hm := mem_lookup hw
    have all : ∀ p ∈ WT, ∀ y ∈ p.2, PyData.strOk y = true := by decide +kernel
    exact all _ hm z hz
theorem OkR.strs {zs : List Str} (h : OkR zs) : ∀ z ∈ zs, PyData.strOk z = true := fun z hz => by
  obtain ⟨i, hi⟩ := List.mem_iff_getElem?.mp hz
  have li := (List.getElem?_eq_some_iff.mp hi).1
  rw [h.len] at li
  have hn : SW[i]? = some (SW[i]'(by simpa using li)) := List.getElem?_eq_getElem _
  exact okW_str (h.at hn hi)
theorem TabAt.mono {H0 H H' : Hp} {a : Addr} (h : TabAt H0 H a) (e : Ex H H') : TabAt H0 H' a := by
  obtain ⟨rs, h1, h2, h3, h4⟩ := h
  exact ⟨rs, e _ _ h1, h2, h3, fun i r hi => let ⟨n, ws, w, g1, g2, g3, g4, g5⟩ := h4 i r hi; ⟨n, ws, w, g1, e _ _ g2, e _ _ g3, g4, g5⟩⟩
end
end K
namespace K
open PySem PySem.Spec PyProof.Rows L2 G TL
local macro_rules | `(tactic| walk_at "side") => `(tactic| focus (first | assumption | exact rfl | omega | decide))
local macro_rules | `(tactic| walk_at "ty") => `(tactic| focus (first | exact .base (.str _) | exact .base (.int _) | exact .base (.bl _) | exact .base .non | exact .base (.lst (by assumption)) | exact .base (.tup (by assumption)) | exact .base (.dK (by assumption)) | assumption))
local macro_rules | `(tactic| walk_at "kt") => `(tactic| focus (with_reducible first | exact kt_NoneType_str | exact kt_NoneType_int | exact kt_NoneType_bool | exact kt_NoneType_tuple | exact kt_NoneType_list | exact kt_NoneType_dict | exact kt_bool_str | exact kt_bool_int | exact kt_bool_bool | exact kt_bool_tuple | exact kt_bool_list | exact kt_bool_dict | exact kt_int_str | exact kt_int_int | exact kt_int_bool | exact kt_int_tuple | exact kt_int_list | exact kt_int_dict | exact kt_str_str | exact kt_str_int | exact kt_str_bool | exact kt_str_tuple | exact kt_str_list | exact kt_str_dict | exact kt_list_str | exact kt_list_int | exact kt_list_bool | exact kt_list_tuple | exact kt_list_list | exact kt_list_dict | exact kt_tuple_str | exact kt_tuple_int | exact kt_tuple_bool | exact kt_tuple_tuple | exact kt_tuple_list | exact kt_tuple_dict | exact kt_dict_str | exact kt_dict_int | exact kt_dict_bool | exact kt_dict_tuple | exact kt_dict_list | exact kt_dict_dict | assumption))
local macro_rules | `(tactic| walk_at "1") => `(tactic| first
  | (with_reducible refine i_seq ?_)
  | (with_reducible refine iteT ?_)
  | (with_reducible refine iteF ?_)
  | (with_reducible refine iteNF ?_)
  | (with_reducible refine iteNT ?_)
  | (with_reducible refine i_asg ?_)
  | (with_reducible refine i_op ?_)
  | (with_reducible refine i_c ?_)
  | ((with_reducible apply i_var); (exact rfl))
  | (with_reducible refine i_cb ?_)
  | (with_reducible refine i_cons ?_)
  | (with_reducible refine i_nil ?_)
  | (with_reducible refine i_test ?_)
  | (with_reducible refine i_b ?_)
  | (with_reducible refine i_bl ?_)
  | (with_reducible refine i_name ?_)
  | (with_reducible refine i_ifS ?_)
  | (with_reducible refine i_next ?_)
  | (with_reducible refine i_ret ?_)
  | (with_reducible refine i_drop ?_)
  | (with_reducible refine i_lst ?_)
  | (with_reducible refine i_tup ?_)
  | (with_reducible refine i_and ?_)
  | (with_reducible refine i_or ?_)
  | (with_reducible refine i_not ?_)
  | (with_reducible refine i_andV ?_)
  | (with_reducible refine i_orV ?_)
  | (with_reducible refine i_notV ?_)
  | (with_reducible refine i_if ?_)
  | (with_reducible refine i_chain ?_)
  | (with_reducible refine i_un ?_)
  | (with_reducible refine i_neg ?_)
  | (with_reducible refine i_sub ?_)
  | (with_reducible refine i_sl ?_)
  | (with_reducible refine i_noP ?_)
  | (with_reducible refine i_part ?_)
  | (with_reducible refine i_int ?_)
  | (with_reducible refine i_bm ?_)
  | (with_reducible refine i_strT ?_)
  | (with_reducible refine i_yes ?_)
  | (with_reducible refine i_call ?_)
  | ((with_reducible refine i_len ?_ ?_); (focus (exact sz (by simp))))
  | (with_reducible refine i_lc ?_)
  | (with_reducible refine i_for ?_)
  | (with_reducible refine i_rng1 ?_)
  | (with_reducible refine i_rng2 ?_)
  | (with_reducible refine l_addI ?_)
  | (with_reducible refine l_subI ?_)
  | (with_reducible refine l_cmp ?_)
  | (with_reducible refine l_eqI ?_)
  | (with_reducible refine l_eqS ?_)
  | (with_reducible refine l_eqB ?_)
  | (with_reducible refine l_neI ?_)
  | (with_reducible refine l_neS ?_)
  | (with_reducible refine l_neB ?_)
  | (with_reducible refine l_isN ?_)
  | (with_reducible refine l_isNotN ?_)
  | (with_reducible refine l_isB ?_)
  | (with_reducible refine l_isNotB ?_)
  | (with_reducible refine l_intI ?_)
  | (with_reducible refine l_intB ?_)
  | (with_reducible refine l_inC ?_)
  | (refine ⟨_, _, rfl, rfl, sz (by first | omega | simp; omega), ?_⟩)
  | ((with_reducible refine l_pow ?_ ?_); (focus (exact ⟨by decide, by decide, by decide⟩)))
  | ((with_reducible refine l_mul ?_ ?_); (focus (first | assumption | exact Or.inl (Or.inl ⟨by omega, by omega⟩) | exact Or.inl (Or.inr ⟨by omega, by omega⟩))))
  | ((with_reducible refine l_div ?_ ?_); (focus (first | assumption | exact ⟨by decide, by decide⟩)))
  | ((with_reducible apply l_setL); (assumption); (exact rfl))
  | ((with_reducible refine l_mod ?_ ?_); (walk_at "side"))
  | ((with_reducible apply l_ixL); (assumption); (exact rfl))
  | ((with_reducible refine l_lenS ?_ ?_); (focus (first | assumption | exact sz (by omega) | exact sz (by simp; omega))))
  | ((with_reducible refine l_slS ?_ ?_); (focus (first | assumption | exact sz (by omega))))
  | ((with_reducible apply l_isi); (walk_at "ty"); (walk_at "kt"))
  | ((with_reducible apply l_lenL); (assumption)))
local macro_rules | `(tactic| walk_at "go") => `(tactic| repeat (walk_at "1"))
local macro_rules | `(tactic| walk_at "1") => `(tactic| first
  | (with_reducible refine i_mkS ?_)
  | (with_reducible refine i_cS ?_)
  | (with_reducible refine i_fld ?_)
  | (with_reducible refine i_sFld ?_)
  | (with_reducible refine i_tX ?_)
  | (with_reducible refine l_len2 rfl rfl ?_))
local macro_rules | `(tactic| walk_at "1") => `(tactic| first
  | (with_reducible refine i_stp ?_)
  | ((with_reducible apply i_iad); (exact rfl))
  | (with_reducible refine i_cO ?_)
  | (with_reducible refine i_prp ?_)
  | (with_reducible refine i_mtS ?_)
  | (with_reducible refine i_fldaug ?_)
  | (with_reducible refine i_par ?_)
  | (with_reducible refine i_par3 ?_)
  | (with_reducible refine i_revL ?_))
local macro_rules | `(tactic| walk_at "1") => `(tactic| first
  | (with_reducible refine i_dget ?_)
  | (with_reducible refine i_dput ?_)
  | (with_reducible refine i_sm ?_)
  | (with_reducible refine i_mkX ?_))
section
variable {P : Program} {w : World} {K : PySem.W.Frag} {mg : Str → Option Value} {base : Heap}
/-- repr(v) is z -/
def Shw (K : PySem.W.Frag) (H : Hp) (v : V) (z : Str) : Prop := ∀ (H' : Hp) (Q : VK), Ex H H' → Q (.str z) H' → rReprA K [v] H' Q
theorem Shw.mono {H H' : Hp} {v : V} {z : Str} (h : Shw K H v z) (e : Ex H H') : Shw K H' v z := fun H2 Q e2 q => h H2 Q (e.trans e2) q
/-- an item that is shown in a few signs -/
structure Lf (d : PyData) : Prop where
  sh : d.showable = true
  nd : d.hasDict = false
  ln : d.shown.length ≤ 600
  dp : d.depth ≤ 2
theorem lf_all : ∀ {xs : List PyData}, (∀ d ∈ xs, Lf d) → PyData.showableAll xs = true ∧ PyData.hasDictAll xs = false ∧ ((PyData.shownAll xs).map (·.length)).sum ≤ 600 * xs.length ∧ (PyData.shownAll xs).length = xs.length ∧ PyData.depthAll xs ≤ 2
  | [], _ => by simp [PyData.showableAll, PyData.hasDictAll, PyData.shownAll, PyData.depthAll]
  | x :: xs, h => by
    obtain ⟨h1, h2, h3, h4⟩ := h x List.mem_cons_self
    obtain ⟨g1, g2, g3, g4, g5⟩ := lf_all fun d hd => h d (List.mem_cons_of_mem _ hd)
    rw [PyData.showableAll, PyData.hasDictAll, PyData.shownAll, PyData.depthAll, h1, h2, g1, g2]
    simp only [List.map_cons, List.sum_cons, List.length_cons, Bool.and_self, Bool.or_self, true_and]
    exact ⟨by omega, by omega, Nat.max_le.mpr ⟨h4, g5⟩⟩
theorem shw_dp {H : Hp} {v : V} {d : PyData} (h : Dp K H v d) (h1 : d.showable = true) (h2 : d.hasDict = false) (h3 : d.shown.length ≤ 100000) (h4 : d.depth ≤ 50) : Shw K H v d.shown :=
  fun H' Q e q => .inl ⟨v, d, rfl, dp_mono e d v h, h1, h2, sz h3, h4, q⟩
theorem shw_list {H : Hp} {v : V} {xs : List PyData} (h : Dp K H v (.list xs)) (hl : ∀ d ∈ xs, Lf d) (hn : xs.length ≤ 100) : Shw K H v (PyData.list xs).shown := by
  obtain ⟨g1, g2, g3, g4, g5⟩ := lf_all hl
  refine shw_dp h (by rw [PyData.showable]; exact g1) (by rw [PyData.hasDict]; exact g2) ?_ (by rw [PyData.depth]; omega)
  have := listText_len_le (PyData.shownAll xs)
  rw [PyData.shown]
  omega
theorem shw_tup {H : Hp} {v : V} {xs : List PyData} (h : Dp K H v (.tuple xs)) (hl : ∀ d ∈ xs, Lf d) (hn : xs.length ≤ 100) : Shw K H v (PyData.tuple xs).shown := by
  obtain ⟨g1, g2, g3, g4, g5⟩ := lf_all hl
  refine shw_dp h (by rw [PyData.showable]; exact g1) (by rw [PyData.hasDict]; exact g2) ?_ (by rw [PyData.depth]; omega)
  have := tupleText_len_le (PyData.shownAll xs)
  rw [PyData.shown]
  omega
theorem lf_int {i : Int} (h : i.natAbs < 10 ^ 39) : Lf (.int i) := by
  have e := int_text_length_le10 (k := 39) (by decide) h
  refine ⟨?_, rfl, ?_, by simp [PyData.depth]⟩
  · rw [PyData.showable]
    refine decide_eq_true ?_
    by_cases h0 : i.natAbs = 0
    · rw [h0]
      decide
    · have h1 : i.natAbs.log2 < 130 := (Nat.log2_lt h0).mpr (Nat.lt_trans h (by decide))
      omega
  · rw [PyData.shown, PySem.ofString_length]
    omega
theorem lf_bl (b : Bool) : Lf (.bool b) := by
  cases b <;> exact ⟨rfl, rfl, by decide, by simp [PyData.depth]⟩
theorem lf_non : Lf .none := ⟨rfl, rfl, by decide, by simp [PyData.depth]⟩
theorem lf_ints {ns : List Int} (h : ∀ n ∈ ns, n.natAbs < 10 ^ 39) : ∀ d ∈ ns.map PyData.int, Lf d := fun d hd => by
  obtain ⟨n, hn, rfl⟩ := List.mem_map.mp hd
  exact lf_int (h n hn)
theorem lf_bls {bs : List Bool} : ∀ d ∈ bs.map PyData.bool, Lf d := fun d hd => by
  obtain ⟨n, hn, rfl⟩ := List.mem_map.mp hd
  exact lf_bl n
theorem dp_append {H : Hp} : ∀ {xs ys : List V} {ds es : List PyData}, DpAll K H xs ds → DpAll K H ys es → DpAll K H (xs ++ ys) (ds ++ es)
  | _, _, _, _, .nil, h => h
  | _, _, _, _, .cons a b, h => .cons a (dp_append b h)
end
end K
namespace K
open PySem PySem.Spec PyProof.Rows L2 G TL
local macro_rules | `(tactic| walk_at "side") => `(tactic| focus (first | assumption | exact rfl | omega | decide))
local macro_rules | `(tactic| walk_at "ty") => `(tactic| focus (first | exact .base (.str _) | exact .base (.int _) | exact .base (.bl _) | exact .base .non | exact .base (.lst (by assumption)) | exact .base (.tup (by assumption)) | exact .base (.dK (by assumption)) | assumption))
local macro_rules | `(tactic| walk_at "kt") => `(tactic| focus (with_reducible first | exact kt_NoneType_str | exact kt_NoneType_int | exact kt_NoneType_bool | exact kt_NoneType_tuple | exact kt_NoneType_list | exact kt_NoneType_dict | exact kt_bool_str | exact kt_bool_int | exact kt_bool_bool | exact kt_bool_tuple | exact kt_bool_list | exact kt_bool_dict | exact kt_int_str | exact kt_int_int | exact kt_int_bool | exact kt_int_tuple | exact kt_int_list | exact kt_int_dict | exact kt_str_str | exact kt_str_int | exact kt_str_bool | exact kt_str_tuple | exact kt_str_list | exact kt_str_dict | exact kt_list_str | exact kt_list_int | exact kt_list_bool | exact kt_list_tuple | exact kt_list_list | exact kt_list_dict | exact kt_tuple_str | exact kt_tuple_int | exact kt_tuple_bool | exact kt_tuple_tuple | exact kt_tuple_list | exact kt_tuple_dict | exact kt_dict_str | exact kt_dict_int | exact kt_dict_bool | exact kt_dict_tuple | exact kt_dict_list | exact kt_dict_dict | assumption))
local macro_rules | `(tactic| walk_at "1") => `(tactic| first
  | (with_reducible refine i_seq ?_)
  | (with_reducible refine iteT ?_)
  | (with_reducible refine iteF ?_)
  | (with_reducible refine iteNF ?_)
  | (with_reducible refine iteNT ?_)
  | (with_reducible refine i_asg ?_)
  | (with_reducible refine i_op ?_)
  | (with_reducible refine i_c ?_)
  | ((with_reducible apply i_var); (exact rfl))
  | (with_reducible refine i_cb ?_)
  | (with_reducible refine i_cons ?_)
  | (with_reducible refine i_nil ?_)
  | (with_reducible refine i_test ?_)
  | (with_reducible refine i_b ?_)
  | (with_reducible refine i_bl ?_)
  | (with_reducible refine i_name ?_)
  | (with_reducible refine i_ifS ?_)
  | (with_reducible refine i_next ?_)
  | (with_reducible refine i_ret ?_)
  | (with_reducible refine i_drop ?_)
  | (with_reducible refine i_lst ?_)
  | (with_reducible refine i_tup ?_)
  | (with_reducible refine i_and ?_)
  | (with_reducible refine i_or ?_)
  | (with_reducible refine i_not ?_)
  | (with_reducible refine i_andV ?_)
  | (with_reducible refine i_orV ?_)
  | (with_reducible refine i_notV ?_)
  | (with_reducible refine i_if ?_)
  | (with_reducible refine i_chain ?_)
  | (with_reducible refine i_un ?_)
  | (with_reducible refine i_neg ?_)
  | (with_reducible refine i_sub ?_)
  | (with_reducible refine i_sl ?_)
  | (with_reducible refine i_noP ?_)
  | (with_reducible refine i_part ?_)
  | (with_reducible refine i_int ?_)
  | (with_reducible refine i_bm ?_)
  | (with_reducible refine i_strT ?_)
  | (with_reducible refine i_yes ?_)
  | (with_reducible refine i_call ?_)
  | ((with_reducible refine i_len ?_ ?_); (focus (exact sz (by simp))))
  | (with_reducible refine i_lc ?_)
  | (with_reducible refine i_for ?_)
  | (with_reducible refine i_rng1 ?_)
  | (with_reducible refine i_rng2 ?_)
  | (with_reducible refine l_addI ?_)
  | (with_reducible refine l_subI ?_)
  | (with_reducible refine l_cmp ?_)
  | (with_reducible refine l_eqI ?_)
  | (with_reducible refine l_eqS ?_)
  | (with_reducible refine l_eqB ?_)
  | (with_reducible refine l_neI ?_)
  | (with_reducible refine l_neS ?_)
  | (with_reducible refine l_neB ?_)
  | (with_reducible refine l_isN ?_)
  | (with_reducible refine l_isNotN ?_)
  | (with_reducible refine l_isB ?_)
  | (with_reducible refine l_isNotB ?_)
  | (with_reducible refine l_intI ?_)
  | (with_reducible refine l_intB ?_)
  | (with_reducible refine l_inC ?_)
  | (refine ⟨_, _, rfl, rfl, sz (by first | omega | simp; omega), ?_⟩)
  | ((with_reducible refine l_pow ?_ ?_); (focus (exact ⟨by decide, by decide, by decide⟩)))
  | ((with_reducible refine l_mul ?_ ?_); (focus (first | assumption | exact Or.inl (Or.inl ⟨by omega, by omega⟩) | exact Or.inl (Or.inr ⟨by omega, by omega⟩))))
  | ((with_reducible refine l_div ?_ ?_); (focus (first | assumption | exact ⟨by decide, by decide⟩)))
  | ((with_reducible apply l_setL); (assumption); (exact rfl))
  | ((with_reducible refine l_mod ?_ ?_); (walk_at "side"))
  | ((with_reducible apply l_ixL); (assumption); (exact rfl))
  | ((with_reducible refine l_lenS ?_ ?_); (focus (first | assumption | exact sz (by omega) | exact sz (by simp; omega))))
  | ((with_reducible refine l_slS ?_ ?_); (focus (first | assumption | exact sz (by omega))))
  | ((with_reducible apply l_isi); (walk_at "ty"); (walk_at "kt"))
  | ((with_reducible apply l_lenL); (assumption)))
local macro_rules | `(tactic| walk_at "go") => `(tactic| repeat (walk_at "1"))
local macro_rules | `(tactic| walk_at "1") => `(tactic| first
  | (with_reducible refine i_mkS ?_)
  | (with_reducible refine i_cS ?_)
  | (with_reducible refine i_fld ?_)
  | (with_reducible refine i_sFld ?_)
  | (with_reducible refine i_tX ?_)
  | (with_reducible refine l_len2 rfl rfl ?_))
local macro_rules | `(tactic| walk_at "1") => `(tactic| first
  | (with_reducible refine i_stp ?_)
  | ((with_reducible apply i_iad); (exact rfl))
  | (with_reducible refine i_cO ?_)
  | (with_reducible refine i_prp ?_)
  | (with_reducible refine i_mtS ?_)
  | (with_reducible refine i_fldaug ?_)
  | (with_reducible refine i_par ?_)
  | (with_reducible refine i_par3 ?_)
  | (with_reducible refine i_revL ?_))
local macro_rules | `(tactic| walk_at "1") => `(tactic| first
  | (with_reducible refine i_dget ?_)
  | (with_reducible refine i_dput ?_)
  | (with_reducible refine i_sm ?_)
  | (with_reducible refine i_mkX ?_))
section
variable {P : Program} {w : World} {K : PySem.W.Frag} {mg : Str → Option Value} {base : Heap}
theorem lay_strs : ∀ ns : List Str, (∀ z ∈ ns, PyData.strOk z = true) → PyData.canLayAll0 (ns.map PyData.str) = true
  | [], _ => rfl
  | n :: ns, h => by
    rw [List.map_cons, PyData.canLayAll0, lay_strs ns fun z hz => h z (List.mem_cons_of_mem _ hz), PyData.canLay0, h n List.mem_cons_self]
    rfl
theorem depth_strs : ∀ ns : List Str, PyData.depthAll (ns.map PyData.str) ≤ 1
  | [] => by rw [List.map_nil, PyData.depthAll]; omega
  | n :: ns => by
    have := depth_strs ns
    rw [List.map_cons, PyData.depthAll, PyData.depth]
    omega
theorem sh_strs (ns : List Str) (h : ∀ z ∈ ns, PyData.strOk z = true) : SeqAt.shaped (.list (ns.map PyData.str)) = true := by
  unfold SeqAt.shaped
  have h1 := depth_strs ns
  rw [PyData.canLay0, lay_strs ns h, PyData.depth]
  simp
  omega
theorem dp_strs {H : Hp} : ∀ ns : List Str, DpAll K H (ns.map V.str) (ns.map PyData.str)
  | [] => .nil
  | n :: ns => .cons (.str n) (dp_strs ns)
theorem eqv_strs : ∀ ns ms : List Str, PyData.eqvAll (ns.map .str) (ms.map .str) = decide (ns = ms)
  | [], [] => rfl
  | [], m :: ms => by simp [PyData.eqvAll]
  | n :: ns, [] => by simp [PyData.eqvAll]
  | n :: ns, m :: ms => by
    rw [List.map_cons, List.map_cons, PyData.eqvAll, eqv_strs ns ms, PyData.eqv]
    by_cases h : n = m
    · subst h; simp
    · simp [h]
theorem eqv_lS (ns ms : List Str) : PyData.eqv (.list (ns.map .str)) (.list (ms.map .str)) = decide (ns = ms) := by rw [PyData.eqv, eqv_strs]
section
variable {H : Hp} {x y : V} {d e : PyData} {b : Bool} {Q : VK}
theorem l_eqD (h1 : Dp K H x d) (h2 : Dp K H y e) (s1 : SeqAt.shaped d = true) (s2 : SeqAt.shaped e = true) (hb : PyData.eqv d e = b) (q : Q (.bl b) H) : rEqA K x y H Q := .inr ⟨d, e, h1, h2, s1, s2, by rw [hb]; exact q⟩
theorem l_neD (h1 : Dp K H x d) (h2 : Dp K H y e) (s1 : SeqAt.shaped d = true) (s2 : SeqAt.shaped e = true) (hb : PyData.eqv d e = b) (q : Q (.bl (!b)) H) : rNeA K x y H Q := .inr ⟨d, e, h1, h2, s1, s2, by rw [hb]; exact q⟩
theorem eq_strs {p r : Addr} {zs ys : List Str} (h1 : H p = some (.lst (zs.map V.str))) (h2 : H r = some (.lst (ys.map V.str))) (s1 : ∀ z ∈ zs, PyData.strOk z = true) (s2 : ∀ z ∈ ys, PyData.strOk z = true) (q : Q (.bl (decide (zs = ys))) H) : rEqA K (.ref p) (.ref r) H Q :=
  l_eqD (.lst (.of h1) (dp_strs zs)) (.lst (.of h2) (dp_strs ys)) (sh_strs _ s1) (sh_strs _ s2) (eqv_lS zs ys) q
end
section
variable {H : Hp} {Q : VK}
theorem e_slL {a : Addr} {xs : List V} {lo hi : Option Int} (h : H a = some (.lst xs)) (q : ∀ p H', H p = none → Ex H H' → H' p = some (.lst (cutV xs lo hi)) → Q (.ref p) H') : rSlG K (.ref a) lo hi H Q :=
  l_slL (.of h) fun p hp => q p _ hp (Ex.new hp) upd_same
theorem e_addL {a b : Addr} {xs ys : List V} (h1 : H a = some (.lst xs)) (h2 : H b = some (.lst ys)) (hl : xs.length + ys.length ≤ 100000) (q : ∀ p H', H p = none → Ex H H' → H' p = some (.lst (xs ++ ys)) → Q (.ref p) H') : rAdd K (.ref a) (.ref b) H Q :=
  l_addL h1 h2 hl fun p hp => q p _ hp (Ex.new hp) upd_same
end
theorem set_cut {α : Type} : ∀ (xs : List α) (i : Nat) (x : α), i < xs.length → xs.take i ++ [x] ++ xs.drop (i + 1) = xs.set i x
  | a :: xs, 0, x, _ => rfl
  | a :: xs, i + 1, x, h => by
    have := set_cut xs i x (by simpa using h)
    show a :: (xs.take i ++ [x] ++ xs.drop (i + 1)) = a :: xs.set i x
    rw [this]
theorem cut_hi' (xs : List V) (i : Nat) (h : i < xs.length) : cutV xs (some ((i : Int) + 1)) none = xs.drop (i + 1) := by
  rw [show (i : Int) + 1 = ((i + 1 : Nat) : Int) by omega]
  exact cut_hi xs (i + 1) (by omega)
def KW : List Str := ["loop", "from", "read", "to", "below", "by", "say", "add", "widen", "ask", "else", "break", "next", "make", "call"]
def letters : Str := "abcdefghijklmnopqrstuvwxyz"
/-- what is a name -/
def nameOk (z : Str) : Bool := decide ((1 : Int) ≤ z.length) && decide ((z.length : Int) ≤ 8) && z.cps.toList.all (fun c => decide (c ∈ letters.cps.toList)) && !KW.contains z
theorem sub_len (x : Str) (lo hi : Nat) (h : lo ≤ hi) (h2 : hi ≤ x.length) : (Builtin.Str.strSub x lo hi).length = hi - lo := by
  unfold Builtin.Str.strSub
  simp [Str.length] at h2 ⊢
  omega
theorem str_nil (x : Str) : x = "" ↔ x.length = 0 := by
  constructor
  · intro h
    rw [h]
    rfl
  · intro h
    refine ext_tl ?_
    rw [len_tl] at h
    rw [List.length_eq_zero_iff.mp h]
    rfl
theorem mem_getD (x : Str) {c : Nat} (h : c ∈ x.cps.toList) : ∃ k, k < x.length ∧ x.cps.getD k 0 = c := by
  obtain ⟨k, e⟩ := List.mem_iff_getElem?.mp h
  have hk := (List.getElem?_eq_some_iff.mp e).1
  refine ⟨k, by rw [len_tl]; exact hk, ?_⟩
  rw [← getD_list, List.getD, e]
  rfl
theorem getD_mem (x : Str) {k : Nat} (h : k < x.length) : x.cps.getD k 0 ∈ x.cps.toList := by
  rw [len_tl] at h
  rw [← getD_list, List.getD, List.getElem?_eq_getElem h]
  exact List.getElem_mem h
/-- x.strip(signs) == '' -/
theorem strip_nil (x y : Str) : Txt.stripChars x y = "" ↔ ∀ c ∈ x.cps.toList, c ∈ y.cps.toList := by
  unfold Txt.stripChars
  rw [PyProof.Rows.stripBy_eq, str_nil]
  obtain ⟨h1, h2, h3⟩ := lo_facts (y.cps.contains) x
  generalize stripLo y.cps.contains true x = lo at h1 h2 h3
  obtain ⟨h4, h5, h6, h7⟩ := hi_facts (y.cps.contains) x lo h1
  generalize stripHi y.cps.contains true x lo = hi at h4 h5 h6 h7
  rw [sub_len x lo hi h4 h5]
  have mem : ∀ c, y.cps.contains c = true ↔ c ∈ y.cps.toList := fun c => by simp
  constructor
  · intro h c hc
    have e : lo = hi := by omega
    subst e
    obtain ⟨k, hk, rfl⟩ := mem_getD x hc
    rw [← mem]
    by_cases h8 : k < lo
    · exact h2 k h8
    · exact h6 k (by omega) hk
  · intro h
    rcases h3 with h3 | h3
    · omega
    · have hl : ¬ lo < x.length := by
        intro hl
        have := (mem _).mpr (h _ (getD_mem x hl))
        rw [h3] at this
        cases this
      omega
theorem all_in (x y : Str) : x.cps.toList.all (fun c => decide (c ∈ y.cps.toList)) = decide (Txt.stripChars x y = "") := by
  rw [Bool.eq_iff_iff, List.all_eq_true, decide_eq_true_iff, strip_nil]
  simp
def spIsName (K : PySem.W.Frag) : Sp := fun vs H Q _ => ∃ x, vs = [x] ∧ ((∃ z, x = .str z ∧ z.length ≤ 1000 ∧ Q (.bl (nameOk z)) H) ∨ ((∃ t, TyX K H x t ∧ PySem.W.kitOne K t (.type "str") = some false) ∧ Q (.bl false) H))
set_option maxHeartbeats 2000000 in
theorem ok_is_name {a_KEYWORDS a_SWITCHES v_SWITCHES_0 v_SWITCHES_1 v_SWITCHES_2 v_SWITCHES_3 v_SWITCHES_4 v_SWITCHES_5 v_SWITCHES_6 C_RoundError C_BadSwitch C_BadNote C_Rule : Addr} (T : Tp K mg w a_KEYWORDS a_SWITCHES v_SWITCHES_0 v_SWITCHES_1 v_SWITCHES_2 v_SWITCHES_3 v_SWITCHES_4 v_SWITCHES_5 v_SWITCHES_6 C_RoundError C_BadSwitch C_BadNote C_Rule) : Cal P w K mg base 1 "is_name" (spIsName K) [] := by
  refine T.d_is_name.cal sc_is_name (fun vs H Q E h => ?_) (fun f cdv A outer s H vs Q E hr h => ?_)
  · obtain ⟨x, rfl, _⟩ := h
    rfl
  · obtain ⟨x, rfl, h⟩ := h
    have sc := sc_is_name
    refine ⟨_, 
    (pss_cons (ps_if (pt_cut (PW.pt (pw_or (pt_not (pt_val (pe_callB (kIsi (K := K) rfl) (by rfl) T.m_isinstance (by decide +kernel) (pa_cons (pv 0) (pa_cons (gTy (n := "str") (by rfl) T.m_str (by decide +kernel)) pa_nil))))) (pw_or1 (pt_cmpR (kIn (K := K) rfl hr) (pv 0) (pe_gc (by rfl) T.c_KEYWORDS) (by rfl)))))) (
      (pss_one (ps_ret (pe_bl)))) (pss_nil))
    (pss_one (ps_ret (pe_and (pe_chain gLe gLe (pe_int) (pe_callB (kLen (K := K) rfl) (by rfl) T.m_len PySem.boot_len (pa_cons (pv 0) pa_nil)) (pe_int)) (pe_one (pe_cmpR (kEq (K := K) rfl hr) (kBm (K := K) rfl PySem.F.plainAttrs_str PySem.F.slot_str_strip PySem.F.type_str_strip mt_stripChars (pv 0) (pa_cons (pe_gc (by rfl) T.c_LETTERS) pa_nil)) (pe_str) (nomark _))))))), ?_⟩
    try rw [cxK]
    refine i_start (τ := [some x]) rfl ?_
    rcases h with ⟨z, rfl, hz, q⟩ | ⟨⟨t, h1, h2⟩, q⟩
    · walk_at "go"
      refine i_isT (KW.contains z) ?_ ?_
      · walk_at "go"
        refine l_inT (T.t_KEYWORDS H) rfl (flat_strs KW) ?_
        walk_at "go"
        exact ⟨inV_strs z KW, rfl⟩
      refine i_iteB (fun hk => ?_) (fun hk => ?_)
      · walk_at "go"
        rw [show nameOk z = false by unfold nameOk; rw [hk]; simp] at q
        exact q
      · walk_at "go"
        have e : nameOk z = (decide ((1 : Int) ≤ z.length) && decide ((z.length : Int) ≤ 8) && decide (Txt.stripChars z letters = "")) := by
          unfold nameOk
          rw [hk, all_in]
          simp
        rw [e] at q
        refine i_ite (fun h1 => ?_) (fun h1 => ?_)
        · walk_at "go"
          refine i_ite (fun h2 => ?_) (fun h2 => ?_)
          · walk_at "go"
            rw [decide_eq_true h1, decide_eq_true h2] at q
            exact q
          · rw [decide_eq_true h1, decide_eq_false h2] at q
            exact q
        · walk_at "go"
          rw [decide_eq_false h1] at q
          exact q
    · walk_at "go"
      refine i_isT true ?_ ?_
      · walk_at "go"
        exact ⟨rfl, rfl⟩
      walk_at "go"
      exact q
theorem sum_le {l : List Str} {B : Nat} : (∀ x ∈ l, x.length ≤ B) → (l.map (·.length)).sum ≤ B * l.length := by
  induction l with
  | nil => intro _; simp
  | cons a l ih =>
    intro h
    have h1 := h a List.mem_cons_self
    have h2 := ih fun x hx => h x (List.mem_cons_of_mem _ hx)
    rw [List.map_cons, List.sum_cons, List.length_cons, Nat.mul_add]
    omega
/-- a word of a line -/
structure Wo (w : Str) : Prop where
  len : w.length ≤ 41
  ch : ∀ c ∈ tl w, c < 128 ∧ c ≠ 32
theorem joinL_ch {s : Nat} {p : Nat → Prop} (hs : p s) : ∀ ws : List (List Nat), (∀ w ∈ ws, ∀ c ∈ w, p c) → ∀ c ∈ joinL [s] ws, p c
  | [], _, c, hc => by cases hc
  | [w], h, c, hc => h w (List.mem_singleton.mpr rfl) c hc
  | w :: v :: r, h, c, hc => by
    rw [joinL] at hc
    rcases List.mem_append.mp hc with hc | hc
    · exact h w List.mem_cons_self c hc
    · rcases List.mem_append.mp hc with hc | hc
      · rw [List.mem_singleton.mp hc]
        exact hs
      · exact joinL_ch hs (v :: r) (fun w' hw => h w' (List.mem_cons_of_mem _ hw)) c hc
theorem join_fine {ws : List Str} (hne : ws ≠ []) (hl : ws.length ≤ 100) (h : ∀ w ∈ ws, Wo w) : Txt.split (Txt.join " " ws) " " = ws ∧ (Txt.join " " ws).length ≤ 5000 ∧ ∀ c ∈ (Txt.join " " ws).cps.toList, c < 16 ^ 8 := by
  refine ⟨split_join (s := 32) (S := []) (by decide +kernel) (by decide +kernel) hne fun p hp hc => ((h p hp).ch 32 hc).2 rfl, ?_, ?_⟩
  · rw [join_eq]
    cases ws with
    | nil => exact absurd rfl hne
    | cons a l =>
      rw [len_join_cons]
      have := sum_le fun x hx => (h x hx).len
      rw [show ((" " : Str)).length = 1 by decide +kernel]
      simp only [List.length_cons] at hl this
      omega
  · rw [join_eq]
    intro c hc
    have hc' : c ∈ tl (Str.join " " ws) := hc
    rw [tl_join, show tl (" " : Str) = [32] by decide +kernel] at hc'
    have := joinL_ch (p := fun c => c < 128) (by decide) (ws.map tl) (fun w hw c hc => by
      obtain ⟨v, hv, rfl⟩ := List.mem_map.mp hw
      exact ((h v hv).ch c hc).1) c hc'
    have h2 : (128 : Nat) ≤ 16 ^ 8 := by decide
    omega
theorem shw_str {H : Hp} {z : Str} (h : ∀ c ∈ z.cps.toList, c < 16 ^ 8) (hl : z.length ≤ 9000) : Shw K H (.str z) (reprText z) :=
  shw_dp (.str z) rfl rfl (by rw [PyData.shown]; have := PySem.StrLaws.reprText_len z h; omega) (by simp [PyData.depth])
def spNw (K : PySem.W.Frag) (CB : Addr) : Sp := fun vs H Q E => ∃ x, vs = [x] ∧ ((∃ z, x = .str z ∧ z.length ≤ 90000 ∧ ∀ p, H p = none → Q (.ref p) (upd H p (.lst ((Txt.split z " ").map V.str)))) ∨
  ((∃ t, TyX K H x t ∧ PySem.W.kitOne K t (.type "str") = some false) ∧ ∀ d, H d = none → E (.ref CB) (some d) (upd H d (.xd [("value", x)]))))
theorem ok_nw {a_KEYWORDS a_SWITCHES v_SWITCHES_0 v_SWITCHES_1 v_SWITCHES_2 v_SWITCHES_3 v_SWITCHES_4 v_SWITCHES_5 v_SWITCHES_6 C_RoundError C_BadSwitch C_BadNote C_Rule : Addr} (T : Tp K mg w a_KEYWORDS a_SWITCHES v_SWITCHES_0 v_SWITCHES_1 v_SWITCHES_2 v_SWITCHES_3 v_SWITCHES_4 v_SWITCHES_5 v_SWITCHES_6 C_RoundError C_BadSwitch C_BadNote C_Rule) : CalG P w K mg base false 3 "note_words" (spNw K C_BadNote) 1 [] (fun vs _ => vs) := by
  refine T.d_note_words.calX sc_note_words (fun vs H Q E h => ?_) (fun f cdv A outer s H vs Q E hr gd h => ?_)
  · obtain ⟨x, rfl, _⟩ := h
    rfl
  · obtain ⟨x, rfl, h⟩ := h
    have sc := sc_note_words
    refine ⟨_, 
    (pss_cons (ps_if (pt_not (pt_val (pe_callB (kIsi (K := K) rfl) (by rfl) T.m_isinstance (by decide +kernel) (pa_cons (pv 0) (pa_cons (gTy (n := "str") (by rfl) T.m_str (by decide +kernel)) pa_nil))))) (
      (pss_one (ps_raise rfl (takes_of rfl rfl rfl rfl) (pmk_x (T.x_BadNote P w base) hr (by decide) (by rfl) (pa_cons (pv 0) pa_nil))))) (pss_nil))
    (pss_one (ps_ret (pe_split (pv 0) (pe_str))))), ?_⟩
    try rw [cxK]
    refine i_start (τ := [some x]) rfl ?_
    rcases h with ⟨z, rfl, hz, q⟩ | ⟨⟨t, ty, hk⟩, q⟩
    · walk_at "go"
      refine i_var rfl ⟨⟨z, rfl⟩, i_c ⟨z, _, rfl, rfl, by decide, sz (by omega), q⟩⟩
    · walk_at "go"
      exact ⟨x, rfl, q⟩
end
end K
namespace K
open PySem PySem.Spec PyProof.Rows L2 G TL
local macro_rules | `(tactic| walk_at "side") => `(tactic| focus (first | assumption | exact rfl | omega | decide))
local macro_rules | `(tactic| walk_at "ty") => `(tactic| focus (first | exact .base (.str _) | exact .base (.int _) | exact .base (.bl _) | exact .base .non | exact .base (.lst (by assumption)) | exact .base (.tup (by assumption)) | exact .base (.dK (by assumption)) | assumption))
local macro_rules | `(tactic| walk_at "kt") => `(tactic| focus (with_reducible first | exact kt_NoneType_str | exact kt_NoneType_int | exact kt_NoneType_bool | exact kt_NoneType_tuple | exact kt_NoneType_list | exact kt_NoneType_dict | exact kt_bool_str | exact kt_bool_int | exact kt_bool_bool | exact kt_bool_tuple | exact kt_bool_list | exact kt_bool_dict | exact kt_int_str | exact kt_int_int | exact kt_int_bool | exact kt_int_tuple | exact kt_int_list | exact kt_int_dict | exact kt_str_str | exact kt_str_int | exact kt_str_bool | exact kt_str_tuple | exact kt_str_list | exact kt_str_dict | exact kt_list_str | exact kt_list_int | exact kt_list_bool | exact kt_list_tuple | exact kt_list_list | exact kt_list_dict | exact kt_tuple_str | exact kt_tuple_int | exact kt_tuple_bool | exact kt_tuple_tuple | exact kt_tuple_list | exact kt_tuple_dict | exact kt_dict_str | exact kt_dict_int | exact kt_dict_bool | exact kt_dict_tuple | exact kt_dict_list | exact kt_dict_dict | assumption))
local macro_rules | `(tactic| walk_at "1") => `(tactic| first
  | (with_reducible refine i_seq ?_)
  | (with_reducible refine iteT ?_)
  | (with_reducible refine iteF ?_)
  | (with_reducible refine iteNF ?_)
  | (with_reducible refine iteNT ?_)
  | (with_reducible refine i_asg ?_)
  | (with_reducible refine i_op ?_)
  | (with_reducible refine i_c ?_)
  | ((with_reducible apply i_var); (exact rfl))
  | (with_reducible refine i_cb ?_)
  | (with_reducible refine i_cons ?_)
  | (with_reducible refine i_nil ?_)
  | (with_reducible refine i_test ?_)
  | (with_reducible refine i_b ?_)
  | (with_reducible refine i_bl ?_)
  | (with_reducible refine i_name ?_)
  | (with_reducible refine i_ifS ?_)
  | (with_reducible refine i_next ?_)
  | (with_reducible refine i_ret ?_)
  | (with_reducible refine i_drop ?_)
  | (with_reducible refine i_lst ?_)
  | (with_reducible refine i_tup ?_)
  | (with_reducible refine i_and ?_)
  | (with_reducible refine i_or ?_)
  | (with_reducible refine i_not ?_)
  | (with_reducible refine i_andV ?_)
  | (with_reducible refine i_orV ?_)
  | (with_reducible refine i_notV ?_)
  | (with_reducible refine i_if ?_)
  | (with_reducible refine i_chain ?_)
  | (with_reducible refine i_un ?_)
  | (with_reducible refine i_neg ?_)
  | (with_reducible refine i_sub ?_)
  | (with_reducible refine i_sl ?_)
  | (with_reducible refine i_noP ?_)
  | (with_reducible refine i_part ?_)
  | (with_reducible refine i_int ?_)
  | (with_reducible refine i_bm ?_)
  | (with_reducible refine i_strT ?_)
  | (with_reducible refine i_yes ?_)
  | (with_reducible refine i_call ?_)
  | ((with_reducible refine i_len ?_ ?_); (focus (exact sz (by simp))))
  | (with_reducible refine i_lc ?_)
  | (with_reducible refine i_for ?_)
  | (with_reducible refine i_rng1 ?_)
  | (with_reducible refine i_rng2 ?_)
  | (with_reducible refine l_addI ?_)
  | (with_reducible refine l_subI ?_)
  | (with_reducible refine l_cmp ?_)
  | (with_reducible refine l_eqI ?_)
  | (with_reducible refine l_eqS ?_)
  | (with_reducible refine l_eqB ?_)
  | (with_reducible refine l_neI ?_)
  | (with_reducible refine l_neS ?_)
  | (with_reducible refine l_neB ?_)
  | (with_reducible refine l_isN ?_)
  | (with_reducible refine l_isNotN ?_)
  | (with_reducible refine l_isB ?_)
  | (with_reducible refine l_isNotB ?_)
  | (with_reducible refine l_intI ?_)
  | (with_reducible refine l_intB ?_)
  | (with_reducible refine l_inC ?_)
  | (refine ⟨_, _, rfl, rfl, sz (by first | omega | simp; omega), ?_⟩)
  | ((with_reducible refine l_pow ?_ ?_); (focus (exact ⟨by decide, by decide, by decide⟩)))
  | ((with_reducible refine l_mul ?_ ?_); (focus (first | assumption | exact Or.inl (Or.inl ⟨by omega, by omega⟩) | exact Or.inl (Or.inr ⟨by omega, by omega⟩))))
  | ((with_reducible refine l_div ?_ ?_); (focus (first | assumption | exact ⟨by decide, by decide⟩)))
  | ((with_reducible apply l_setL); (assumption); (exact rfl))
  | ((with_reducible refine l_mod ?_ ?_); (walk_at "side"))
  | ((with_reducible apply l_ixL); (assumption); (exact rfl))
  | ((with_reducible refine l_lenS ?_ ?_); (focus (first | assumption | exact sz (by omega) | exact sz (by simp; omega))))
  | ((with_reducible refine l_slS ?_ ?_); (focus (first | assumption | exact sz (by omega))))
  | ((with_reducible apply l_isi); (walk_at "ty"); (walk_at "kt"))
  | ((with_reducible apply l_lenL); (assumption)))
local macro_rules | `(tactic| walk_at "go") => `(tactic| repeat (walk_at "1"))
local macro_rules | `(tactic| walk_at "1") => `(tactic| first
  | (with_reducible refine i_mkS ?_)
  | (with_reducible refine i_cS ?_)
  | (with_reducible refine i_fld ?_)
  | (with_reducible refine i_sFld ?_)
  | (with_reducible refine i_tX ?_)
  | (with_reducible refine l_len2 rfl rfl ?_))
local macro_rules | `(tactic| walk_at "1") => `(tactic| first
  | (with_reducible refine i_stp ?_)
  | ((with_reducible apply i_iad); (exact rfl))
  | (with_reducible refine i_cO ?_)
  | (with_reducible refine i_prp ?_)
  | (with_reducible refine i_mtS ?_)
  | (with_reducible refine i_fldaug ?_)
  | (with_reducible refine i_par ?_)
  | (with_reducible refine i_par3 ?_)
  | (with_reducible refine i_revL ?_))
local macro_rules | `(tactic| walk_at "1") => `(tactic| first
  | (with_reducible refine i_dget ?_)
  | (with_reducible refine i_dput ?_)
  | (with_reducible refine i_sm ?_)
  | (with_reducible refine i_mkX ?_))
section
variable {P : Program} {w : World} {K : PySem.W.Frag} {mg : Str → Option Value} {base : Heap}
def Low (w : Str) : Prop := ∀ c ∈ tl w, c ∈ tl letters
theorem wt_words : ∀ p ∈ WT, ∀ z ∈ p.2, z.length ≤ 41 ∧ z.length ≠ 0 ∧ (∀ c ∈ tl z, c < 128 ∧ c ≠ 32) ∧ ∀ c ∈ tl z, c ∈ tl letters := by decide +kernel
theorem okW_mem {n z : Str} (h : okW n (.str z) = true) : ∃ ws, (n, ws) ∈ WT ∧ z ∈ ws := by
  unfold okW at h
  cases hw : wordsOf n with
  | none => rw [hw] at h; cases h
  | some ws =>
    rw [hw] at h
    exact ⟨ws, mem_lookup hw, List.contains_iff_mem.mp h⟩
theorem okW_wo {n z : Str} (h : okW n (.str z) = true) : Wo z ∧ Low z ∧ z.length ≠ 0 := by
  obtain ⟨ws, h1, h2⟩ := okW_mem h
  obtain ⟨g1, g2, g3, g4⟩ := wt_words _ h1 z h2
  exact ⟨⟨g1, g3⟩, g4, g2⟩
theorem OkR.wo {zs : List Str} (h : OkR zs) : ∀ z ∈ zs, Wo z ∧ Low z ∧ z.length ≠ 0 := fun z hz => by
  obtain ⟨i, hi⟩ := List.mem_iff_getElem?.mp hz
  have li := (List.getElem?_eq_some_iff.mp hi).1
  rw [h.len] at li
  have hn : SW[i]? = some (SW[i]'(by simpa using li)) := List.getElem?_eq_getElem _
  exact okW_wo (h.at hn hi)
def spWrR (C : Addr) : Sp := fun vs H Q _ => ∃ v zs, vs = [v] ∧ RuleAt C H v zs ∧ ∀ H', Ex H H' → Q (.str (Txt.join " " zs)) H'
theorem ok_wr {a_KEYWORDS a_SWITCHES v_SWITCHES_0 v_SWITCHES_1 v_SWITCHES_2 v_SWITCHES_3 v_SWITCHES_4 v_SWITCHES_5 v_SWITCHES_6 C_RoundError C_BadSwitch C_BadNote C_Rule : Addr} (T : Tp K mg w a_KEYWORDS a_SWITCHES v_SWITCHES_0 v_SWITCHES_1 v_SWITCHES_2 v_SWITCHES_3 v_SWITCHES_4 v_SWITCHES_5 v_SWITCHES_6 C_RoundError C_BadSwitch C_BadNote C_Rule) : CalG P w K mg base false 5 "write_rule" (spWrR C_Rule) 1 [] (fun vs _ => vs) := by
  have c_Rule___getitem__ := ok_item (P := P) (w := w) (base := base) T
  refine T.d_write_rule.calG sc_write_rule (fun vs H Q E h => ?_) (fun f cdv A outer s H vs Q E hr _ h => ?_)
  · obtain ⟨v, zs, rfl, _⟩ := h
    rfl
  · obtain ⟨v, zs, rfl, hv, q⟩ := h
    have sc := sc_write_rule
    refine ⟨_, 
    (pss_one (ps_ret (pe_join (pe_str) (pe_lc (own := [("name", 1)]) (by rfl) sc.nd (pi_wk T.wk_SWITCHES (pe_gc (by rfl) T.c_SWITCHES)) (blkOk_by (N := ["rule", "name"]) (sc := defScope s_write_rule) (by decide +kernel)) (fun _ _ _ _ _ => pg_name (i := 1) sc.nd rfl (by first | exact Or.inl rfl | exact Or.inr rfl)) (fun _ _ _ _ _ => pts_nil) (fun _ _ _ _ _ => pe_ixI c_Rule___getitem__ hr (by decide) takes0 (pv 0) (pv 1)))))), ?_⟩
    try rw [cxK]
    refine i_start (τ := [some (v), none]) rfl ?_
    have hl : zs.length = 7 ∧ OkR zs := by
      obtain ⟨_, _, _, _, _, _, hz⟩ := hv
      exact ⟨hz.len, hz⟩
    walk_at "go"
    refine i_c ⟨⟨_, rfl⟩, ?_⟩
    refine i_lc ?_
    refine ⟨rfl, ?_⟩
    refine lc_wkG (fun i D H' => Ex H H' ∧ H' D = some (.lst ((zs.take i).map V.str))) (fun _ => rfl) (fun D hD => ⟨Ex.new hD, upd_same⟩) ?_ ?_
    · rintro i k D H' hk hD ⟨e, hd⟩
      have li : i < 7 := (List.getElem?_eq_some_iff.mp hk).1
      have hzi : zs[i]? = some (zs[i]'(by omega)) := List.getElem?_eq_getElem _
      have hv2 := hv.mono e
      have hv3 := hv2
      obtain ⟨x, dx, pw, rfl, hx, _, _⟩ := hv3
      refine i_var rfl (i_var rfl ⟨x, dx, _, rfl, hx, _, _, zs, rfl, hv2, .inl rfl, .inl ⟨i, k, _, rfl, hk, hzi, ?_⟩⟩)
      refine ⟨_, hd, szl (by rw [List.length_map, List.length_take]; omega), e.mut hD, ?_⟩
      rw [upd_same, take_succ hzi, List.map_append]
      rfl
    rintro D H' hD ⟨e, hd⟩
    replace hd : H' D = some (.lst ((zs.take 7).map V.str)) := hd
    rw [List.take_of_length_le (Nat.le_of_eq hl.1)] at hd
    have hs := sum_le fun x hx => (hl.2.wo x hx).1.len
    refine ⟨_, D, zs, rfl, rfl, .inl (.of hd), ?_, q _ e⟩
    rw [show ((" " : Str)).length = 1 by decide +kernel]
    omega
def ruleB (ws : List Str) : Bool := decide (ws.length = 7) && (firstBad SW (ws.map V.str)).isNone
def spRdR (K : PySem.W.Frag) (C CB : Addr) : Sp := fun vs H Q E => ∃ x, vs = [x] ∧
  (((∃ t, TyX K H x t ∧ PySem.W.kitOne K t (.type "str") = some false) ∧ ∀ H' d, Ex H H' → H' d = none → E (.ref CB) (some d) (upd H' d (.xd [("value", x)]))) ∨
   (∃ z, x = .str z ∧ z.length ≤ 90000 ∧ (Txt.split z " ").length ≤ 900 ∧
     ((ruleB (Txt.split z " ") = false ∧ ∀ H' d, Ex H H' → H' d = none → E (.ref CB) (some d) (upd H' d (.xd [("value", x)]))) ∨
      (OkR (Txt.split z " ") ∧ ∀ v H', Ex H H' → RuleAt C H' v (Txt.split z " ") → Q v H'))))
set_option maxHeartbeats 2000000 in
theorem ok_rdR {a_KEYWORDS a_SWITCHES v_SWITCHES_0 v_SWITCHES_1 v_SWITCHES_2 v_SWITCHES_3 v_SWITCHES_4 v_SWITCHES_5 v_SWITCHES_6 C_RoundError C_BadSwitch C_BadNote C_Rule : Addr} (T : Tp K mg w a_KEYWORDS a_SWITCHES v_SWITCHES_0 v_SWITCHES_1 v_SWITCHES_2 v_SWITCHES_3 v_SWITCHES_4 v_SWITCHES_5 v_SWITCHES_6 C_RoundError C_BadSwitch C_BadNote C_Rule) : CalG P w K mg base false 6 "read_rule" (spRdR K C_Rule C_BadNote) 1 [] (fun vs _ => vs) := by
  have c_note_words := ok_nw (P := P) (w := w) (base := base) T
  have c_is_word : Cal P w K mg base 1 "is_word" (spIsW K) [] := ok_isw T
  have c_Rule_kw := mk_Rule_all (P := P) (w := w) (base := base) T
  refine T.d_read_rule.calX sc_read_rule (fun vs H Q E h => ?_) (fun f cdv A outer s H vs Q E hr gd h => ?_)
  · obtain ⟨x, rfl, _⟩ := h
    rfl
  · obtain ⟨x, rfl, h⟩ := h
    have sc := sc_read_rule
    refine ⟨_, 
    (pss_cons (ps_set (i := 1) sc.nd rfl (by first | exact Or.inl rfl | exact Or.inr rfl) (pe_cS c_note_words hr (by decide) (fun e => nomatch e) (takes_of rfl rfl rfl rfl) (by rfl) (pa_cons (pv 0) pa_nil)))
    (pss_cons (ps_if (pt_cmpR (kNe (K := K) rfl hr) (pe_callB (kLen (K := K) rfl) (by rfl) T.m_len PySem.boot_len (pa_cons (pv 1) pa_nil)) (pe_callB (call_lenW T.wk_SWITCHES) (by rfl) T.m_len PySem.boot_len (pa_cons (pe_gc (by rfl) T.c_SWITCHES) pa_nil)) (nomark _)) (
      (pss_one (ps_raise rfl (takes_of rfl rfl rfl rfl) (pmk_x (T.x_BadNote P w base) hr (by decide) (by rfl) (pa_cons (pv 0) pa_nil))))) (pss_nil))
    (pss_cons (ps_set (i := 2) sc.nd rfl (by first | exact Or.inl rfl | exact Or.inr rfl) (pe_dnewK))
    (pss_cons (ps_for (passes_of rfl) rfl (pi_zw T.wk_SWITCHES (by rfl) T.m_zip (pa_cons (pe_gc (by rfl) T.c_SWITCHES) (pa_cons (pv 1) pa_nil))) (kTup (K := K) (n := 2) rfl (by rfl) (pgs_cons (pg_name (i := 3) sc.nd rfl (by first | exact Or.inl rfl | exact Or.inr rfl)) (pgs_cons (pg_name (i := 4) sc.nd rfl (by first | exact Or.inl rfl | exact Or.inr rfl)) (pgs_nil)))) (
      (pss_cons (ps_if (pt_not (kTruth (K := K) rfl (pe_c c_is_word hr (by decide) (by rfl) (pa_cons (pv 3) (pa_cons (pv 4) pa_nil))) (by intro _; rfl))) (
        (pss_one (ps_raise rfl (takes_of rfl rfl rfl rfl) (pmk_x (T.x_BadNote P w base) hr (by decide) (by rfl) (pa_cons (pv 0) pa_nil))))) (pss_nil))
      (pss_one (ps_dput (u1 hr) (pv 2) (pv 3) (pv 4) rfl)))))
    (pss_one (ps_ret (pe_mkX c_Rule_kw hr (by decide) (by decide) (takes_of rfl rfl rfl rfl) (by rfl) (pv 2)))))))), ?_⟩
    try rw [cxK]
    refine i_start (τ := [some (x), none, none, none, none]) rfl ?_
    rcases h with ⟨hk, q⟩ | ⟨z, rfl, hz, hn, h⟩
    · walk_at "go"
      exact ⟨x, rfl, .inr ⟨hk, fun d hd => q H d (Ex.refl H) hd⟩⟩
    · walk_at "go"
      refine ⟨_, rfl, .inl ⟨z, rfl, hz, fun p hp => ?_⟩⟩
      generalize Txt.split z " " = ws at hn h ⊢
      have e1 : Ex H (upd H p (.lst (ws.map V.str))) := Ex.new hp
      have hP : (upd H p (.lst (ws.map V.str))) p = some (.lst (ws.map V.str)) := upd_same
      generalize (upd H p (.lst (ws.map V.str))) = H1 at e1 hP ⊢
      walk_at "go"
      refine ⟨rfl, ?_⟩
      walk_at "go"
      rw [List.length_map]
      rw [show (([("bound" : Str), "test", "variable", "limit", "after", "cell", "skip"].length : Nat) : Int) = 7 from rfl]
      by_cases hl : ws.length = 7
      rotate_left
      · rw [decide_eq_false (by omega)]
        walk_at "go"
        refine ⟨_, rfl, fun d hd => ?_⟩
        rcases h with ⟨_, q⟩ | ⟨hok, _⟩
        · exact q H1 d e1 hd
        · exact absurd hok.len hl
      · rw [decide_eq_true (by omega)]
        walk_at "go"
        intro D hD
        have pD : p ≠ D := ne_of_none hP hD
        have e2 : Ex H1 (upd H1 D (.dK [])) := Ex.new hD
        have hl2 : (ws.map V.str).length = 7 := by rw [List.length_map, hl]
        walk_at "go"
        refine i_cons (i_c (i_cons (i_var rfl (i_nil ⟨p, ws.map V.str, rfl, .of (e2 _ _ hP), ?_⟩))))
        refine for_zw (K := K) (b := p) (ks := SW) (ys := ws.map V.str) (by rw [hl2]; rfl) (fun i σ H' => ∃ v3 v4, σ = [some (.str z), some (.ref p), some (.ref D), v3, v4] ∧ Ex H1 H' ∧ H' D = some (.dK (kwV (SW.take i) ((ws.map V.str).take i))) ∧ firstBad (SW.drop i) ((ws.map V.str).drop i) = firstBad SW (ws.map V.str)) ⟨_, _, rfl, e2, upd_same, rfl⟩ (fun i σ H' ⟨_, _, _, e, _⟩ => .of (e _ _ hP)) ?_ ?_
        · rintro i k y Tt σ H' hk hy ⟨v3, v4, rfl, e, hd, hf⟩ hT
          have eT : Ex H' (upd H' Tt (.tup [.str k, y])) := Ex.new hT
          rw [bad_drop i hk hy] at hf
          obtain ⟨zw, hzw, rfl⟩ := map_at hy
          refine pair2 (.of upd_same) ?_
          walk_at "go"
          refine ⟨k, .str zw, rfl, List.mem_of_getElem? hk, .inl rfl, okW k (.str zw), by simp [TruV], ?_⟩
          cases hb : okW k (.str zw) with
          | true =>
            rw [hb] at hf
            walk_at "go"
            refine ⟨D, _, rfl, .inl ⟨_, .inr k, eT _ _ hd, rfl, szl ?_, rfl⟩, ?_⟩
            · unfold kwV
              rw [List.length_zip, List.length_map, List.length_take, List.length_take, hl2]
              omega
            · exact ⟨_, _, rfl, (e.trans eT).mut hD, by rw [upd_same, kw_take i sw_nd hk hy], hf⟩
          | false =>
            rw [hb] at hf
            walk_at "go"
            refine ⟨_, rfl, fun d hd => ?_⟩
            rcases h with ⟨_, q⟩ | ⟨hok, _⟩
            · exact q _ d (e1.trans (e.trans eT)) hd
            · rw [hok.ok] at hf
              cases hf
        rintro σ H2 ⟨v3, v4, rfl, e, hd, hf⟩
        have hok : OkR ws := ⟨hl, by rw [← hf]; rfl⟩
        rcases h with ⟨hb, _⟩ | ⟨_, q⟩
        · exfalso
          unfold ruleB at hb
          rw [decide_eq_true hl, hok.ok] at hb
          cases hb
        rw [show SW.take SW.length = SW from rfl, show (ws.map V.str).take SW.length = ws.map V.str from List.take_of_length_le (Nat.le_of_eq hl2)] at hd
        walk_at "go"
        refine ⟨D, ws.map V.str, rfl, hd, hl2, ?_⟩
        exact rule_new hok fun x' H' e' h' => q (.ref x') H' (e1.trans (e.trans e')) h'
def markB : List Str → Bool
  | [a, b, c] => nameOk a && decide (b ∈ SW) && okW b (.str c)
  | _ => false
theorem markB_3 (a b c : Str) : markB [a, b, c] = (nameOk a && decide (b ∈ SW) && okW b (.str c)) := rfl
def spWrM (K : PySem.W.Frag) : Sp := fun vs H Q _ => ∃ p zs, vs = [.ref p] ∧ SqT K H p (zs.map V.str) ∧ zs.length ≤ 100 ∧ (∀ z ∈ zs, Wo z) ∧ Q (.str (Txt.join " " zs)) H
theorem ok_wrM {a_KEYWORDS a_SWITCHES v_SWITCHES_0 v_SWITCHES_1 v_SWITCHES_2 v_SWITCHES_3 v_SWITCHES_4 v_SWITCHES_5 v_SWITCHES_6 C_RoundError C_BadSwitch C_BadNote C_Rule : Addr} (T : Tp K mg w a_KEYWORDS a_SWITCHES v_SWITCHES_0 v_SWITCHES_1 v_SWITCHES_2 v_SWITCHES_3 v_SWITCHES_4 v_SWITCHES_5 v_SWITCHES_6 C_RoundError C_BadSwitch C_BadNote C_Rule) : Cal P w K mg base 1 "write_mark" (spWrM K) [] := by
  refine T.d_write_mark.cal sc_write_mark (fun vs H Q E h => ?_) (fun f cdv A outer s H vs Q E hr h => ?_)
  · obtain ⟨p, zs, rfl, _⟩ := h
    rfl
  · obtain ⟨p, zs, rfl, hp, hl, hw, q⟩ := h
    have sc := sc_write_mark
    refine ⟨_, 
    (pss_one (ps_ret (pe_join (pe_str) (pv 0)))), ?_⟩
    try rw [cxK]
    refine i_start (τ := [some (.ref p)]) rfl ?_
    walk_at "go"
    have hs := sum_le fun x hx => (hw x hx).len
    refine i_c ⟨⟨_, rfl⟩, i_var rfl ⟨_, p, zs, rfl, rfl, .inr hp, ?_, q⟩⟩
    rw [show ((" " : Str)).length = 1 by decide +kernel]
    omega
def spRdM (K : PySem.W.Frag) (CB : Addr) : Sp := fun vs H Q E => ∃ x, vs = [x] ∧
  (((∃ t, TyX K H x t ∧ PySem.W.kitOne K t (.type "str") = some false) ∧ ∀ H' d, Ex H H' → H' d = none → E (.ref CB) (some d) (upd H' d (.xd [("value", x)]))) ∨
   (∃ z, x = .str z ∧ z.length ≤ 90000 ∧ (Txt.split z " ").length ≤ 900 ∧ (∀ w ∈ Txt.split z " ", w.length ≤ 1000) ∧
     ((markB (Txt.split z " ") = false ∧ ∀ H' d, Ex H H' → H' d = none → E (.ref CB) (some d) (upd H' d (.xd [("value", x)]))) ∨
      (markB (Txt.split z " ") = true ∧ ∀ p H', Ex H H' → H' p = some (.tup ((Txt.split z " ").map V.str)) → Q (.ref p) H'))))
set_option maxHeartbeats 2000000 in
theorem ok_rdM {a_KEYWORDS a_SWITCHES v_SWITCHES_0 v_SWITCHES_1 v_SWITCHES_2 v_SWITCHES_3 v_SWITCHES_4 v_SWITCHES_5 v_SWITCHES_6 C_RoundError C_BadSwitch C_BadNote C_Rule : Addr} (T : Tp K mg w a_KEYWORDS a_SWITCHES v_SWITCHES_0 v_SWITCHES_1 v_SWITCHES_2 v_SWITCHES_3 v_SWITCHES_4 v_SWITCHES_5 v_SWITCHES_6 C_RoundError C_BadSwitch C_BadNote C_Rule) : CalG P w K mg base false 6 "read_mark" (spRdM K C_BadNote) 1 [] (fun vs _ => vs) := by
  have c_note_words := ok_nw (P := P) (w := w) (base := base) T
  have c_is_word : Cal P w K mg base 1 "is_word" (spIsW K) [] := ok_isw T
  have c_is_name : Cal P w K mg base 1 "is_name" (spIsName K) [] := ok_is_name T
  refine T.d_read_mark.calX sc_read_mark (fun vs H Q E h => ?_) (fun f cdv A outer s H vs Q E hr gd h => ?_)
  · obtain ⟨x, rfl, _⟩ := h
    rfl
  · obtain ⟨x, rfl, h⟩ := h
    have sc := sc_read_mark
    refine ⟨_, 
    (pss_cons (ps_set (i := 1) sc.nd rfl (by first | exact Or.inl rfl | exact Or.inr rfl) (pe_cS c_note_words hr (by decide) (fun e => nomatch e) (takes_of rfl rfl rfl rfl) (by rfl) (pa_cons (pv 0) pa_nil)))
    (pss_cons (ps_if (pt_cut (PW.pt (pw_or (pt_cmpR (kNe (K := K) rfl hr) (pe_callB (kLen (K := K) rfl) (by rfl) T.m_len PySem.boot_len (pa_cons (pv 1) pa_nil)) (pe_int) (nomark _)) (pw_or (pt_not (kTruth (K := K) rfl (pe_c c_is_name hr (by decide) (by rfl) (pa_cons (pe_ix (kIx (K := K) rfl) (pv 1) (pe_int) (fun _ _ => rfl)) pa_nil)) (by intro _; rfl))) (pw_or (pt_cmpR (wd_notIn T.w_SWITCHES) (pe_ix (kIx (K := K) rfl) (pv 1) (pe_int) (fun _ _ => rfl)) (pe_gc (by rfl) T.c_SWITCHES) (by rfl)) (pw_or1 (pt_not (kTruth (K := K) rfl (pe_c c_is_word hr (by decide) (by rfl) (pa_cons (pe_ix (kIx (K := K) rfl) (pv 1) (pe_int) (fun _ _ => rfl)) (pa_cons (pe_ix (kIx (K := K) rfl) (pv 1) (pe_int) (fun _ _ => rfl)) pa_nil))) (by intro _; rfl))))))))) (
      (pss_one (ps_raise rfl (takes_of rfl rfl rfl rfl) (pmk_x (T.x_BadNote P w base) hr (by decide) (by rfl) (pa_cons (pv 0) pa_nil))))) (pss_nil))
    (pss_one (ps_ret (pe_callTy (k_tuple (K := K) rfl) (by rfl) T.m_tuple (by decide +kernel) (pa_cons (pv 1) pa_nil)))))), ?_⟩
    try rw [cxK]
    refine i_start (τ := [some (x), none]) rfl ?_
    rcases h with ⟨hk, q⟩ | ⟨z, rfl, hz, hn, hlw, h⟩
    · walk_at "go"
      exact ⟨x, rfl, .inr ⟨hk, fun d hd => q H d (Ex.refl H) hd⟩⟩
    · walk_at "go"
      refine ⟨_, rfl, .inl ⟨z, rfl, hz, fun p hp => ?_⟩⟩
      generalize Txt.split z " " = ws at hn h hlw ⊢
      have e1 : Ex H (upd H p (.lst (ws.map V.str))) := Ex.new hp
      have hP : (upd H p (.lst (ws.map V.str))) p = some (.lst (ws.map V.str)) := upd_same
      generalize (upd H p (.lst (ws.map V.str))) = H1 at e1 hP ⊢
      walk_at "go"
      refine i_cutT (fun b H' => b = !markB ws ∧ H' = H1) ?_ ?_
      · walk_at "go"
        rw [List.length_map]
        match ws, hP, hlw with
        | [a, b, c], hP, hlw =>
          rw [decide_eq_true (show (([a, b, c].length : Nat) : Int) = 3 from rfl)]
          walk_at "go"
          refine ⟨_, rfl, .inl ⟨a, rfl, hlw a List.mem_cons_self, nameOk a, by simp [TruV], ?_⟩⟩
          show if (!nameOk a) = true then _ else _
          cases ha : nameOk a with
          | false =>
            walk_at "go"
            exact ⟨by rw [markB_3, ha]; rfl, rfl⟩
          | true =>
            walk_at "go"
            refine ⟨b, rfl, rfl, ?_⟩
            rw [sw_some]
            by_cases hb : b ∈ SW
            · rw [decide_eq_true hb]
              walk_at "go"
              refine ⟨b, .str c, rfl, hb, .inl rfl, okW b (.str c), by simp [TruV], ?_⟩
              exact ⟨by rw [markB_3, ha, decide_eq_true hb]; rfl, rfl⟩
            · rw [decide_eq_false hb]
              walk_at "go"
              exact ⟨by rw [markB_3, ha, decide_eq_false hb]; rfl, rfl⟩
        | [], _, _ => walk_at "go"; exact ⟨rfl, rfl⟩
        | [_], _, _ => walk_at "go"; exact ⟨rfl, rfl⟩
        | [_, _], _, _ => walk_at "go"; exact ⟨rfl, rfl⟩
        | _ :: _ :: _ :: _ :: _, _, _ =>
          rw [decide_eq_false (by simp; omega)]
          walk_at "go"
          exact ⟨rfl, rfl⟩
      rintro _ _ ⟨rfl, rfl⟩
      rcases h with ⟨hb, q⟩ | ⟨hb, q⟩
      · rw [hb]
        walk_at "go"
        exact ⟨_, rfl, fun d hd => q _ d e1 hd⟩
      · rw [hb]
        walk_at "go"
        refine ⟨_, .inl ⟨.of hP, fun l hl => ?_⟩⟩
        exact q l _ (e1.trans (Ex.new hl)) upd_same
end
end K
namespace K
open PySem PySem.Spec PyProof.Rows L2 G TL
local macro_rules | `(tactic| walk_at "side") => `(tactic| focus (first | assumption | exact rfl | omega | decide))
local macro_rules | `(tactic| walk_at "ty") => `(tactic| focus (first | exact .base (.str _) | exact .base (.int _) | exact .base (.bl _) | exact .base .non | exact .base (.lst (by assumption)) | exact .base (.tup (by assumption)) | exact .base (.dK (by assumption)) | assumption))
local macro_rules | `(tactic| walk_at "kt") => `(tactic| focus (with_reducible first | exact kt_NoneType_str | exact kt_NoneType_int | exact kt_NoneType_bool | exact kt_NoneType_tuple | exact kt_NoneType_list | exact kt_NoneType_dict | exact kt_bool_str | exact kt_bool_int | exact kt_bool_bool | exact kt_bool_tuple | exact kt_bool_list | exact kt_bool_dict | exact kt_int_str | exact kt_int_int | exact kt_int_bool | exact kt_int_tuple | exact kt_int_list | exact kt_int_dict | exact kt_str_str | exact kt_str_int | exact kt_str_bool | exact kt_str_tuple | exact kt_str_list | exact kt_str_dict | exact kt_list_str | exact kt_list_int | exact kt_list_bool | exact kt_list_tuple | exact kt_list_list | exact kt_list_dict | exact kt_tuple_str | exact kt_tuple_int | exact kt_tuple_bool | exact kt_tuple_tuple | exact kt_tuple_list | exact kt_tuple_dict | exact kt_dict_str | exact kt_dict_int | exact kt_dict_bool | exact kt_dict_tuple | exact kt_dict_list | exact kt_dict_dict | assumption))
local macro_rules | `(tactic| walk_at "1") => `(tactic| first
  | (with_reducible refine i_seq ?_)
  | (with_reducible refine iteT ?_)
  | (with_reducible refine iteF ?_)
  | (with_reducible refine iteNF ?_)
  | (with_reducible refine iteNT ?_)
  | (with_reducible refine i_asg ?_)
  | (with_reducible refine i_op ?_)
  | (with_reducible refine i_c ?_)
  | ((with_reducible apply i_var); (exact rfl))
  | (with_reducible refine i_cb ?_)
  | (with_reducible refine i_cons ?_)
  | (with_reducible refine i_nil ?_)
  | (with_reducible refine i_test ?_)
  | (with_reducible refine i_b ?_)
  | (with_reducible refine i_bl ?_)
  | (with_reducible refine i_name ?_)
  | (with_reducible refine i_ifS ?_)
  | (with_reducible refine i_next ?_)
  | (with_reducible refine i_ret ?_)
  | (with_reducible refine i_drop ?_)
  | (with_reducible refine i_lst ?_)
  | (with_reducible refine i_tup ?_)
  | (with_reducible refine i_and ?_)
  | (with_reducible refine i_or ?_)
  | (with_reducible refine i_not ?_)
  | (with_reducible refine i_andV ?_)
  | (with_reducible refine i_orV ?_)
  | (with_reducible refine i_notV ?_)
  | (with_reducible refine i_if ?_)
  | (with_reducible refine i_chain ?_)
  | (with_reducible refine i_un ?_)
  | (with_reducible refine i_neg ?_)
  | (with_reducible refine i_sub ?_)
  | (with_reducible refine i_sl ?_)
  | (with_reducible refine i_noP ?_)
  | (with_reducible refine i_part ?_)
  | (with_reducible refine i_int ?_)
  | (with_reducible refine i_bm ?_)
  | (with_reducible refine i_strT ?_)
  | (with_reducible refine i_yes ?_)
  | (with_reducible refine i_call ?_)
  | ((with_reducible refine i_len ?_ ?_); (focus (exact sz (by simp))))
  | (with_reducible refine i_lc ?_)
  | (with_reducible refine i_for ?_)
  | (with_reducible refine i_rng1 ?_)
  | (with_reducible refine i_rng2 ?_)
  | (with_reducible refine l_addI ?_)
  | (with_reducible refine l_subI ?_)
  | (with_reducible refine l_cmp ?_)
  | (with_reducible refine l_eqI ?_)
  | (with_reducible refine l_eqS ?_)
  | (with_reducible refine l_eqB ?_)
  | (with_reducible refine l_neI ?_)
  | (with_reducible refine l_neS ?_)
  | (with_reducible refine l_neB ?_)
  | (with_reducible refine l_isN ?_)
  | (with_reducible refine l_isNotN ?_)
  | (with_reducible refine l_isB ?_)
  | (with_reducible refine l_isNotB ?_)
  | (with_reducible refine l_intI ?_)
  | (with_reducible refine l_intB ?_)
  | (with_reducible refine l_inC ?_)
  | (refine ⟨_, _, rfl, rfl, sz (by first | omega | simp; omega), ?_⟩)
  | ((with_reducible refine l_pow ?_ ?_); (focus (exact ⟨by decide, by decide, by decide⟩)))
  | ((with_reducible refine l_mul ?_ ?_); (focus (first | assumption | exact Or.inl (Or.inl ⟨by omega, by omega⟩) | exact Or.inl (Or.inr ⟨by omega, by omega⟩))))
  | ((with_reducible refine l_div ?_ ?_); (focus (first | assumption | exact ⟨by decide, by decide⟩)))
  | ((with_reducible apply l_setL); (assumption); (exact rfl))
  | ((with_reducible refine l_mod ?_ ?_); (walk_at "side"))
  | ((with_reducible apply l_ixL); (assumption); (exact rfl))
  | ((with_reducible refine l_lenS ?_ ?_); (focus (first | assumption | exact sz (by omega) | exact sz (by simp; omega))))
  | ((with_reducible refine l_slS ?_ ?_); (focus (first | assumption | exact sz (by omega))))
  | ((with_reducible apply l_isi); (walk_at "ty"); (walk_at "kt"))
  | ((with_reducible apply l_lenL); (assumption)))
local macro_rules | `(tactic| walk_at "go") => `(tactic| repeat (walk_at "1"))
local macro_rules | `(tactic| walk_at "1") => `(tactic| first
  | (with_reducible refine i_mkS ?_)
  | (with_reducible refine i_cS ?_)
  | (with_reducible refine i_fld ?_)
  | (with_reducible refine i_sFld ?_)
  | (with_reducible refine i_tX ?_)
  | (with_reducible refine l_len2 rfl rfl ?_))
local macro_rules | `(tactic| walk_at "1") => `(tactic| first
  | (with_reducible refine i_stp ?_)
  | ((with_reducible apply i_iad); (exact rfl))
  | (with_reducible refine i_cO ?_)
  | (with_reducible refine i_prp ?_)
  | (with_reducible refine i_mtS ?_)
  | (with_reducible refine i_fldaug ?_)
  | (with_reducible refine i_par ?_)
  | (with_reducible refine i_par3 ?_)
  | (with_reducible refine i_revL ?_))
local macro_rules | `(tactic| walk_at "1") => `(tactic| first
  | (with_reducible refine i_dget ?_)
  | (with_reducible refine i_dput ?_)
  | (with_reducible refine i_sm ?_)
  | (with_reducible refine i_mkX ?_))
section
variable {P : Program} {w : World} {K : PySem.W.Frag} {mg : Str → Option Value} {base : Heap}
theorem nameOk_low {z : Str} (h : nameOk z = true) : Low z ∧ z.length ≤ 8 ∧ z.length ≠ 0 := by
  unfold nameOk at h
  simp only [Bool.and_eq_true, decide_eq_true_eq, List.all_eq_true] at h
  obtain ⟨⟨⟨h1, h2⟩, h3⟩, _⟩ := h
  exact ⟨fun c hc => h3 c hc, by omega, by omega⟩
theorem low_ch : ∀ c ∈ tl letters, 97 ≤ c ∧ c ≤ 122 := by decide +kernel
theorem sw_low : ∀ z ∈ SW, z.length ≤ 8 ∧ z.length ≠ 0 ∧ ∀ c ∈ tl z, c ∈ tl letters := by decide +kernel
theorem Low.wo {z : Str} (h : Low z) (hl : z.length ≤ 41) : Wo z := ⟨hl, fun c hc => by
  have := low_ch c (h c hc)
  omega⟩
def Bd (n : Nat) (ws : List Str) : Prop := ws.length ≠ n ∨ ∃ w ∈ ws, ¬ Low w
theorem rule_bd {ws : List Str} (h : Bd 7 ws) : ruleB ws = false := by
  cases hb : ruleB ws with
  | false => rfl
  | true =>
    unfold ruleB at hb
    rw [Bool.and_eq_true, decide_eq_true_eq] at hb
    have hok : OkR ws := ⟨hb.1, by
      cases hf : firstBad SW (ws.map V.str) with
      | none => rfl
      | some n => rw [hf] at hb; cases hb.2⟩
    rcases h with h | ⟨w, hw, hn⟩
    · exact absurd hb.1 h
    · exact absurd (hok.wo w hw).2.1 hn
theorem mark_bd {ws : List Str} (h : Bd 3 ws) : markB ws = false := by
  match ws, h with
  | [a, b, c], h =>
    rw [markB_3]
    cases ha : nameOk a with
    | false => rfl
    | true =>
      by_cases hb : b ∈ SW
      · cases hc : okW b (.str c) with
        | false => rw [Bool.and_false]
        | true =>
          rcases h with h | ⟨w, hw, hn⟩
          · exact absurd rfl h
          · exfalso
            apply hn
            rcases List.mem_cons.mp hw with rfl | hw
            · exact (nameOk_low ha).1
            · rcases List.mem_cons.mp hw with rfl | hw
              · exact (sw_low _ hb).2.2
              · cases List.mem_singleton.mp hw
                exact (okW_wo hc).2.1
      · rw [decide_eq_false hb]
        rfl
  | [], _ => rfl
  | [_], _ => rfl
  | [_, _], _ => rfl
  | _ :: _ :: _ :: _ :: _, _ => rfl
/-- a word with its signs raised -/
theorem up_of {z : Str} (h : Low z) : tl (Txt.upper z) = (tl z).map (· - 32) := by
  have e := SX.upper_S (a := tl z) (by
    rw [List.all_eq_true]
    intro c hc
    have := low_ch c (h c hc)
    exact decide_eq_true (by omega))
  rw [show SX.S (tl z) = z from SX.S_tl z] at e
  rw [e, tl_mk]
  refine List.map_congr_left fun c hc => ?_
  have := low_ch c (h c hc)
  unfold PyProof.Rows.up1
  rw [if_pos (by omega)]
theorem up_wo {z : Str} (h : Low z) (hl : z.length ≤ 30) (hn : z.length ≠ 0) : Wo (Txt.upper z) ∧ ¬ Low (Txt.upper z) := by
  have e := up_of h
  refine ⟨⟨by rw [len_tl, e, List.length_map, ← len_tl]; omega, fun c hc => ?_⟩, fun hL => ?_⟩
  · rw [e] at hc
    obtain ⟨d, hd, rfl⟩ := List.mem_map.mp hc
    have := low_ch d (h d hd)
    omega
  · cases ht : tl z with
    | nil => rw [len_tl, ht] at hn; exact hn rfl
    | cons c r =>
      have h1 := low_ch c (h c (by rw [ht]; exact List.mem_cons_self))
      have h2 := low_ch (c - 32) (hL _ (by rw [e, ht]; exact List.mem_cons_self))
      omega
theorem add_wo {z o : Str} (h : Low z) (hl : z.length ≤ 30) (ho : o ∈ (["9", "\n", "~"] : List Str)) : Wo (z ++ o) ∧ ¬ Low (z ++ o) := by
  have all : ∀ o ∈ (["9", "\n", "~"] : List Str), o.length = 1 ∧ (∀ c ∈ tl o, c < 128 ∧ c ≠ 32) ∧ ∃ c ∈ tl o, c ∉ tl letters := by decide +kernel
  obtain ⟨h1, h2, c, h3, h4⟩ := all o ho
  refine ⟨⟨by rw [len_tl, tl_append, List.length_append, ← len_tl, ← len_tl]; omega, fun c hc => ?_⟩, fun hL => ?_⟩
  · rw [tl_append] at hc
    rcases List.mem_append.mp hc with hc | hc
    · have := low_ch c (h c hc)
      omega
    · exact h2 c hc
  · exact h4 (hL c (by rw [tl_append]; exact List.mem_append.mpr (.inr h3)))
theorem wo_nil : Wo "" := ⟨by decide +kernel, by decide +kernel⟩
theorem joinL_app {S x : List Nat} : ∀ (A : List (List Nat)) (p : List Nat), joinL S (A ++ [p]) ++ x = joinL S (A ++ [p ++ x])
  | [], p => rfl
  | [a], p => by
    show a ++ (S ++ p) ++ x = a ++ (S ++ (p ++ x))
    simp
  | a :: b :: r, p => by
    have := joinL_app (S := S) (x := x) (b :: r) p
    show a ++ (S ++ joinL S (b :: r ++ [p])) ++ x = a ++ (S ++ joinL S (b :: r ++ [p ++ x]))
    rw [← this]
    simp
theorem joinL_snoc {S : List Nat} : ∀ (A : List (List Nat)), A ≠ [] → joinL S A ++ S = joinL S (A ++ [[]])
  | [], h => absurd rfl h
  | [a], _ => by
    show a ++ S = a ++ (S ++ [])
    simp
  | a :: b :: r, _ => by
    have := joinL_snoc (S := S) (b :: r) (by simp)
    show a ++ (S ++ joinL S (b :: r)) ++ S = a ++ (S ++ joinL S (b :: r ++ [[]]))
    rw [← this]
    simp
theorem join_app (A : List Str) (p x : Str) : Txt.join " " (A ++ [p]) ++ x = Txt.join " " (A ++ [p ++ x]) := by
  refine ext_tl ?_
  rw [join_eq, join_eq, tl_append, tl_join, tl_join, List.map_append, List.map_append]
  show joinL _ (A.map tl ++ [tl p]) ++ tl x = joinL _ (A.map tl ++ [tl (p ++ x)])
  rw [joinL_app, tl_append]
theorem join_snoc (A : List Str) (h : A ≠ []) : Txt.join " " A ++ " " = Txt.join " " (A ++ [("" : Str)]) := by
  refine ext_tl ?_
  rw [join_eq, join_eq, tl_append, tl_join, tl_join, List.map_append]
  exact joinL_snoc (A.map tl) (by simpa using h)
/-- a word of the law's line -/
structure Lw (z : Str) : Prop where
  low : Low z
  len : z.length ≤ 30
  ne : z.length ≠ 0
theorem Lw.wo {z : Str} (h : Lw z) : Wo z := h.low.wo (Nat.le_trans h.len (by decide))
/-- a line spoilt -/
structure Spo (n : Nat) (ws : List Str) : Prop where
  ne : ws ≠ []
  len : ws.length ≤ 100
  wo : ∀ w ∈ ws, Wo w
  bd : Bd n ws
theorem spo_mid {A B M : List Str} {ws : List Str} (hw : ∀ w ∈ ws, Lw w) (hA : ∀ w ∈ A, w ∈ ws) (hB : ∀ w ∈ B, w ∈ ws) (hM : ∀ w ∈ M, Wo w) (hl : (A ++ M ++ B).length ≤ 100) (hn : A ++ M ++ B ≠ []) (hb : (A ++ M ++ B).length ≠ ws.length ∨ ∃ w ∈ M, ¬ Low w) : Spo ws.length (A ++ M ++ B) := by
  refine ⟨hn, hl, fun w h => ?_, ?_⟩
  · rcases List.mem_append.mp h with h | h
    · rcases List.mem_append.mp h with h | h
      · exact (hw w (hA w h)).wo
      · exact hM w h
    · exact (hw w (hB w h)).wo
  · rcases hb with h | ⟨w, h1, h2⟩
    · exact .inl h
    · exact .inr ⟨w, List.mem_append.mpr (.inl (List.mem_append.mpr (.inr h1))), h2⟩
end
end K
namespace K
open PySem PySem.Spec PyProof.Rows L2 G TL
local macro_rules | `(tactic| walk_at "side") => `(tactic| focus (first | assumption | exact rfl | omega | decide))
local macro_rules | `(tactic| walk_at "ty") => `(tactic| focus (first | exact .base (.str _) | exact .base (.int _) | exact .base (.bl _) | exact .base .non | exact .base (.lst (by assumption)) | exact .base (.tup (by assumption)) | exact .base (.dK (by assumption)) | assumption))
local macro_rules | `(tactic| walk_at "kt") => `(tactic| focus (with_reducible first | exact kt_NoneType_str | exact kt_NoneType_int | exact kt_NoneType_bool | exact kt_NoneType_tuple | exact kt_NoneType_list | exact kt_NoneType_dict | exact kt_bool_str | exact kt_bool_int | exact kt_bool_bool | exact kt_bool_tuple | exact kt_bool_list | exact kt_bool_dict | exact kt_int_str | exact kt_int_int | exact kt_int_bool | exact kt_int_tuple | exact kt_int_list | exact kt_int_dict | exact kt_str_str | exact kt_str_int | exact kt_str_bool | exact kt_str_tuple | exact kt_str_list | exact kt_str_dict | exact kt_list_str | exact kt_list_int | exact kt_list_bool | exact kt_list_tuple | exact kt_list_list | exact kt_list_dict | exact kt_tuple_str | exact kt_tuple_int | exact kt_tuple_bool | exact kt_tuple_tuple | exact kt_tuple_list | exact kt_tuple_dict | exact kt_dict_str | exact kt_dict_int | exact kt_dict_bool | exact kt_dict_tuple | exact kt_dict_list | exact kt_dict_dict | assumption))
local macro_rules | `(tactic| walk_at "1") => `(tactic| first
  | (with_reducible refine i_seq ?_)
  | (with_reducible refine iteT ?_)
  | (with_reducible refine iteF ?_)
  | (with_reducible refine iteNF ?_)
  | (with_reducible refine iteNT ?_)
  | (with_reducible refine i_asg ?_)
  | (with_reducible refine i_op ?_)
  | (with_reducible refine i_c ?_)
  | ((with_reducible apply i_var); (exact rfl))
  | (with_reducible refine i_cb ?_)
  | (with_reducible refine i_cons ?_)
  | (with_reducible refine i_nil ?_)
  | (with_reducible refine i_test ?_)
  | (with_reducible refine i_b ?_)
  | (with_reducible refine i_bl ?_)
  | (with_reducible refine i_name ?_)
  | (with_reducible refine i_ifS ?_)
  | (with_reducible refine i_next ?_)
  | (with_reducible refine i_ret ?_)
  | (with_reducible refine i_drop ?_)
  | (with_reducible refine i_lst ?_)
  | (with_reducible refine i_tup ?_)
  | (with_reducible refine i_and ?_)
  | (with_reducible refine i_or ?_)
  | (with_reducible refine i_not ?_)
  | (with_reducible refine i_andV ?_)
  | (with_reducible refine i_orV ?_)
  | (with_reducible refine i_notV ?_)
  | (with_reducible refine i_if ?_)
  | (with_reducible refine i_chain ?_)
  | (with_reducible refine i_un ?_)
  | (with_reducible refine i_neg ?_)
  | (with_reducible refine i_sub ?_)
  | (with_reducible refine i_sl ?_)
  | (with_reducible refine i_noP ?_)
  | (with_reducible refine i_part ?_)
  | (with_reducible refine i_int ?_)
  | (with_reducible refine i_bm ?_)
  | (with_reducible refine i_strT ?_)
  | (with_reducible refine i_yes ?_)
  | (with_reducible refine i_call ?_)
  | ((with_reducible refine i_len ?_ ?_); (focus (exact sz (by simp))))
  | (with_reducible refine i_lc ?_)
  | (with_reducible refine i_for ?_)
  | (with_reducible refine i_rng1 ?_)
  | (with_reducible refine i_rng2 ?_)
  | (with_reducible refine l_addI ?_)
  | (with_reducible refine l_subI ?_)
  | (with_reducible refine l_cmp ?_)
  | (with_reducible refine l_eqI ?_)
  | (with_reducible refine l_eqS ?_)
  | (with_reducible refine l_eqB ?_)
  | (with_reducible refine l_neI ?_)
  | (with_reducible refine l_neS ?_)
  | (with_reducible refine l_neB ?_)
  | (with_reducible refine l_isN ?_)
  | (with_reducible refine l_isNotN ?_)
  | (with_reducible refine l_isB ?_)
  | (with_reducible refine l_isNotB ?_)
  | (with_reducible refine l_intI ?_)
  | (with_reducible refine l_intB ?_)
  | (with_reducible refine l_inC ?_)
  | (refine ⟨_, _, rfl, rfl, sz (by first | omega | simp; omega), ?_⟩)
  | ((with_reducible refine l_pow ?_ ?_); (focus (exact ⟨by decide, by decide, by decide⟩)))
  | ((with_reducible refine l_mul ?_ ?_); (focus (first | assumption | exact Or.inl (Or.inl ⟨by omega, by omega⟩) | exact Or.inl (Or.inr ⟨by omega, by omega⟩))))
  | ((with_reducible refine l_div ?_ ?_); (focus (first | assumption | exact ⟨by decide, by decide⟩)))
  | ((with_reducible apply l_setL); (assumption); (exact rfl))
  | ((with_reducible refine l_mod ?_ ?_); (walk_at "side"))
  | ((with_reducible apply l_ixL); (assumption); (exact rfl))
  | ((with_reducible refine l_lenS ?_ ?_); (focus (first | assumption | exact sz (by omega) | exact sz (by simp; omega))))
  | ((with_reducible refine l_slS ?_ ?_); (focus (first | assumption | exact sz (by omega))))
  | ((with_reducible apply l_isi); (walk_at "ty"); (walk_at "kt"))
  | ((with_reducible apply l_lenL); (assumption)))
local macro_rules | `(tactic| walk_at "go") => `(tactic| repeat (walk_at "1"))
local macro_rules | `(tactic| walk_at "1") => `(tactic| first
  | (with_reducible refine i_mkS ?_)
  | (with_reducible refine i_cS ?_)
  | (with_reducible refine i_fld ?_)
  | (with_reducible refine i_sFld ?_)
  | (with_reducible refine i_tX ?_)
  | (with_reducible refine l_len2 rfl rfl ?_))
local macro_rules | `(tactic| walk_at "1") => `(tactic| first
  | (with_reducible refine i_stp ?_)
  | ((with_reducible apply i_iad); (exact rfl))
  | (with_reducible refine i_cO ?_)
  | (with_reducible refine i_prp ?_)
  | (with_reducible refine i_mtS ?_)
  | (with_reducible refine i_fldaug ?_)
  | (with_reducible refine i_par ?_)
  | (with_reducible refine i_par3 ?_)
  | (with_reducible refine i_revL ?_))
local macro_rules | `(tactic| walk_at "1") => `(tactic| first
  | (with_reducible refine i_dget ?_)
  | (with_reducible refine i_dput ?_)
  | (with_reducible refine i_sm ?_)
  | (with_reducible refine i_mkX ?_))
section
variable {P : Program} {w : World} {K : PySem.W.Frag} {mg : Str → Option Value} {base : Heap}
def spSp : Sp := fun vs H Q _ => ∃ (st L : Addr) (b : Nat) (z : Str) (ws : List Str), vs = [.ref st, .str z] ∧ Dl H st L b ∧ b < 2 ^ 59 ∧ z = Txt.join " " ws ∧ 2 ≤ ws.length ∧ ws.length ≤ 7 ∧ (∀ w ∈ ws, Lw w) ∧
  ∀ vs H', Spo ws.length vs → Dl H' st L (b + 3) → But st H H' → Q (.str (Txt.join " " vs)) H'
theorem join_ok {H : Hp} {p : Addr} {ws : List Str} {Q : VK} (h : H p = some (.lst (ws.map V.str))) (hl : ws.length ≤ 100) (hw : ∀ w ∈ ws, Wo w) (q : Q (.str (Txt.join " " ws)) H) :
    ∃ a p', ∃ ys : List Str, V.str " " = .str a ∧ [V.ref p] = [V.ref p'] ∧ (SqL K H p' (ys.map V.str) ∨ SqT K H p' (ys.map V.str)) ∧ (ys.map (·.length)).sum + ys.length * a.length ≤ 16777216 ∧ Q (.str (Txt.join a ys)) H := by
  have hs := sum_le fun x hx => (hw x hx).len
  refine ⟨_, p, ws, rfl, rfl, .inl (.of h), ?_, q⟩
  rw [show ((" " : Str)).length = 1 by decide +kernel]
  omega
theorem rd_mid {H : Hp} {σ : L2.St} {a p i : Nat} {r : Addr} {ws M : List Str} {ta : TA} {Q : VK} (hs : σ[a]? = some (some (.int (i : Int)))) (hp : σ[p]? = some (some (.ref r))) (hr : H r = some (.lst (ws.map V.str))) (hi : i < ws.length) (hx : ws.length ≤ 7) (hM : M.length ≤ 7)
    (hta : ∀ H' R, Ex H H' → R (M.map V.str) H' → ta σ H' R) (q : ∀ D H', Ex H H' → H' D = some (.lst ((ws.take i ++ M ++ ws.drop (i + 1)).map V.str)) → Q (.ref D) H') :
    tOp (G.rAdd K) (tOp (G.rAdd K) (tSl (rSlG K) (tVar p) tNoPart (tPart (tVar a))) (tLst ta)) (tSl (rSlG K) (tVar p) (tPart (tOp (G.rAdd K) (tVar a) (tC (V.int 1)))) tNoPart) σ H Q := by
  have lw : (ws.map V.str).length = ws.length := List.length_map ..
  walk_at "go"
  refine i_var hp ?_
  walk_at "go"
  refine i_var hs ?_
  walk_at "go"
  refine e_slL hr fun p1 H1 h1 e1 w1 => ?_
  rw [cut_lo _ _ (by omega), ← List.map_take] at w1
  walk_at "go"
  refine hta _ _ e1 ⟨sz (by rw [List.length_map]; omega), fun p2 h2 => ?_⟩
  have e2 : Ex H1 (upd H1 p2 (.lst (M.map V.str))) := Ex.new h2
  have w2 : (upd H1 p2 (.lst (M.map V.str))) p2 = some (.lst (M.map V.str)) := upd_same
  generalize (upd H1 p2 (.lst (M.map V.str))) = H2 at e2 w2 ⊢
  refine e_addL (e2 _ _ w1) w2 (by simp; omega) fun p4 H4 h4 e4 w4 => ?_
  have e24 := e2.trans e4
  walk_at "go"
  refine i_var hp ?_
  walk_at "go"
  refine i_var hs ?_
  walk_at "go"
  refine e_slL ((e1.trans e24) _ _ hr) fun p5 H5 h5 e5 w5 => ?_
  rw [cut_hi' _ _ (by omega), ← List.map_drop] at w5
  refine e_addL (e5 _ _ w4) w5 (by simp; omega) fun p6 H6 h6 e6 w6 => ?_
  rw [← List.map_append, ← List.map_append] at w6
  exact q p6 H6 (e1.trans (e24.trans (e5.trans e6))) w6
set_option maxHeartbeats 4000000 in
theorem ok_sp {a_KEYWORDS a_SWITCHES v_SWITCHES_0 v_SWITCHES_1 v_SWITCHES_2 v_SWITCHES_3 v_SWITCHES_4 v_SWITCHES_5 v_SWITCHES_6 C_RoundError C_BadSwitch C_BadNote C_Rule : Addr} (T : Tp K mg w a_KEYWORDS a_SWITCHES v_SWITCHES_0 v_SWITCHES_1 v_SWITCHES_2 v_SWITCHES_3 v_SWITCHES_4 v_SWITCHES_5 v_SWITCHES_6 C_RoundError C_BadSwitch C_BadNote C_Rule) : Cal P w K mg base 2 "_law_spoilt" spSp [] := by
  have c__law_draw : Cal P w K mg base 1 "_law_draw" spDrawL [] := ok_draw T
  refine T.d__law_spoilt.cal sc__law_spoilt (fun vs H Q E h => ?_) (fun f cdv A outer s H vs Q E hr h => ?_)
  · obtain ⟨st, L, b, z, ws, rfl, _⟩ := h
    rfl
  · obtain ⟨st, L, b, z, ws, rfl, hd, hb, hz, l2, l7, hw, q⟩ := h
    have sc := sc__law_spoilt
    refine ⟨_, 
    (pss_cons (ps_set (i := 2) sc.nd rfl (by first | exact Or.inl rfl | exact Or.inr rfl) (pe_split (pv 1) (pe_str)))
    (pss_cons (ps_set (i := 3) sc.nd rfl (by first | exact Or.inl rfl | exact Or.inr rfl) (pe_c c__law_draw hr (by decide) (by rfl) (pa_cons (pv 0) (pa_cons (pe_callB (kLen (K := K) rfl) (by rfl) T.m_len PySem.boot_len (pa_cons (pv 2) pa_nil)) pa_nil))))
    (pss_cons (ps_set (i := 4) sc.nd rfl (by first | exact Or.inl rfl | exact Or.inr rfl) (pe_c c__law_draw hr (by decide) (by rfl) (pa_cons (pv 0) (pa_cons (pe_int) pa_nil))))
    (pss_cons (ps_if (pt_cmpR (kEq (K := K) rfl hr) (pv 4) (pe_int) (nomark _)) (
      (pss_one (ps_ret (pe_join (pe_str) (pe_op (kAdd (K := K) rfl) (pe_slice (kSl (K := K) rfl) (pv 2) po_none (po_some (pv 3))) (pe_slice (kSl (K := K) rfl) (pv 2) (po_some (pe_op (kAdd (K := K) rfl) (pv 3) (pe_int))) po_none)))))) (pss_nil))
    (pss_cons (ps_if (pt_cmpR (kEq (K := K) rfl hr) (pv 4) (pe_int) (nomark _)) (
      (pss_one (ps_ret (pe_join (pe_str) (pe_op (kAdd (K := K) rfl) (pe_op (kAdd (K := K) rfl) (pe_slice (kSl (K := K) rfl) (pv 2) po_none (po_some (pv 3))) (pe_lst (pa_cons (pe_ix (kIx (K := K) rfl) (pv 2) (pv 3) (fun _ _ => rfl)) (pa_cons (pe_ix (kIx (K := K) rfl) (pv 2) (pv 3) (fun _ _ => rfl)) pa_nil)))) (pe_slice (kSl (K := K) rfl) (pv 2) (po_some (pe_op (kAdd (K := K) rfl) (pv 3) (pe_int))) po_none)))))) (pss_nil))
    (pss_cons (ps_if (pt_cmpR (kEq (K := K) rfl hr) (pv 4) (pe_int) (nomark _)) (
      (pss_one (ps_ret (pe_join (pe_str) (pe_op (kAdd (K := K) rfl) (pe_op (kAdd (K := K) rfl) (pe_slice (kSl (K := K) rfl) (pv 2) po_none (po_some (pv 3))) (pe_lst (pa_cons (pe_str) (pa_cons (pe_ix (kIx (K := K) rfl) (pv 2) (pv 3) (fun _ _ => rfl)) pa_nil)))) (pe_slice (kSl (K := K) rfl) (pv 2) (po_some (pe_op (kAdd (K := K) rfl) (pv 3) (pe_int))) po_none)))))) (pss_nil))
    (pss_cons (ps_if (pt_cmpR (kEq (K := K) rfl hr) (pv 4) (pe_int) (nomark _)) (
      (pss_one (ps_ret (pe_join (pe_str) (pe_op (kAdd (K := K) rfl) (pe_op (kAdd (K := K) rfl) (pe_slice (kSl (K := K) rfl) (pv 2) po_none (po_some (pv 3))) (pe_lst (pa_cons (pe_upper (pe_ix (kIx (K := K) rfl) (pv 2) (pv 3) (fun _ _ => rfl))) pa_nil))) (pe_slice (kSl (K := K) rfl) (pv 2) (po_some (pe_op (kAdd (K := K) rfl) (pv 3) (pe_int))) po_none)))))) (pss_nil))
    (pss_cons (ps_if (pt_cmpR (kEq (K := K) rfl hr) (pv 4) (pe_int) (nomark _)) (
      (pss_one (ps_ret (pe_op (kAdd (K := K) rfl) (pv 1) (pe_ix (kIx (K := K) rfl) (pe_lst (pa_cons (pe_str) (pa_cons (pe_str) (pa_cons (pe_str) pa_nil)))) (pe_c c__law_draw hr (by decide) (by rfl) (pa_cons (pv 0) (pa_cons (pe_int) pa_nil))) (fun _ _ => rfl)))))) (pss_nil))
    (pss_one (ps_ret (pe_join (pe_str) (pe_op (kAdd (K := K) rfl) (pe_op (kAdd (K := K) rfl) (pe_slice (kSl (K := K) rfl) (pv 2) po_none (po_some (pv 3))) (pe_lst (pa_cons (pe_op (kAdd (K := K) rfl) (pe_ix (kIx (K := K) rfl) (pv 2) (pv 3) (fun _ _ => rfl)) (pe_str)) pa_nil))) (pe_slice (kSl (K := K) rfl) (pv 2) (po_some (pe_op (kAdd (K := K) rfl) (pv 3) (pe_int))) po_none))))))))))))), ?_⟩
    try rw [cxK]
    refine i_start (τ := [some (.ref st), some (.str z), none, none, none]) rfl ?_
    have hne : ws ≠ [] := fun e => by rw [e] at l2; simp at l2
    obtain ⟨f1, f2, f3⟩ := join_fine hne (by omega) (fun w hw' => (hw w hw').wo)
    rw [← hz] at f1 f2 f3
    walk_at "go"
    refine i_var rfl ⟨⟨z, rfl⟩, i_c ⟨z, _, rfl, rfl, by decide, sz (by omega), fun p0 hp0 => ?_⟩⟩
    rw [f1]
    have e1 : Ex H (upd H p0 (.lst (ws.map V.str))) := Ex.new hp0
    have w1 : (upd H p0 (.lst (ws.map V.str))) p0 = some (.lst (ws.map V.str)) := upd_same
    generalize (upd H p0 (.lst (ws.map V.str))) = H1 at e1 w1 ⊢
    have n0 := (hd.ne hp0).1
    have hD1 := hd.mono e1
    walk_at "go"
    rw [List.length_map]
    refine drawL hD1 (by omega) (by omega) (by omega) fun r H2 r0 r1 hD2 b2 => ?_
    obtain ⟨i, rfl⟩ := Int.eq_ofNat_of_zero_le r0
    have li : i < ws.length := by omega
    replace w1 := b2 _ _ n0 w1
    have b02 := e1.but.trans b2
    clear b2 e1 hD1 r0 r1
    walk_at "go"
    refine drawL hD2 (by decide) (by decide) (by omega) fun k H3 k0 k1 hD3 b3 => ?_
    replace w1 := b3 _ _ n0 w1
    have b03 := b02.trans b3
    clear b02 b3 hD2
    obtain ⟨wi, hwi⟩ : ∃ w, ws[i]? = some w := ⟨_, List.getElem?_eq_getElem li⟩
    have hwm := List.mem_of_getElem? hwi
    have at1 : atI (ws.map V.str) (i : Int) = some (.str wi) := atI_nat (by rw [List.getElem?_map, hwi]; rfl)
    have lw : (ws.map V.str).length = ws.length := List.length_map ..
    have cu1 : cutV (ws.map V.str) none (some (i : Int)) = (ws.take i).map V.str := by rw [cut_lo _ _ (by omega), List.map_take]
    have cu2 : cutV (ws.map V.str) (some ((i : Int) + 1)) none = (ws.drop (i + 1)).map V.str := by rw [cut_hi' _ _ (by omega), List.map_drop]
    walk_at "go"
    have hT : ∀ w ∈ ws.take i, w ∈ ws := fun w h => List.mem_of_mem_take h
    have hB : ∀ w ∈ ws.drop (i + 1), w ∈ ws := fun w h => List.mem_of_mem_drop h
    have lT : (ws.take i).length = i := by rw [List.length_take]; omega
    have lB : (ws.drop (i + 1)).length = ws.length - (i + 1) := List.length_drop ..
    have lwi := hw wi hwm
    refine i_iteB (fun eb => ?_) (fun eb => ?_)
    · walk_at "go"
      refine i_c ⟨⟨_, rfl⟩, ?_⟩
      walk_at "go"
      refine e_slL w1 fun p1 H4 h4 e4 w4 => ?_
      rw [cu1] at w4
      walk_at "go"
      refine e_slL (e4 _ _ w1) fun p2 H5 h5 e5 w5 => ?_
      rw [cu2] at w5
      refine e_addL (e5 _ _ w4) w5 (by simp; omega) fun p3 H6 h6 e6 w6 => ?_
      rw [← List.map_append] at w6
      have e36 := e4.trans (e5.trans e6)
      have sp : Spo ws.length (ws.take i ++ [] ++ ws.drop (i + 1)) := spo_mid hw hT hB (fun w h => nomatch h) (by simp; omega) (fun e => by
        have h := congrArg List.length e
        rw [List.length_append, List.length_append, lT, lB] at h
        have h2 : i + 0 + (ws.length - (i + 1)) = 0 := h
        omega) (.inl (by simp; omega))
      rw [List.append_nil] at sp
      exact join_ok w6 sp.len sp.wo (q _ _ sp ((hD3.mono e36).up (by omega)) (b03.trans e36.but))
    walk_at "go"
    refine i_iteB (fun eb => ?_) (fun eb => ?_)
    · walk_at "go"
      refine i_c ⟨⟨_, rfl⟩, ?_⟩
      refine rd_mid (M := [wi, wi]) rfl rfl w1 li l7 (by simp) (fun H' R e k => ?_) fun D H4 e w4 => ?_
      · walk_at "go"
        refine l_ixL (e _ _ w1) at1 ?_
        walk_at "go"
        refine l_ixL (e _ _ w1) at1 ?_
        exact k
      have sp : Spo ws.length (ws.take i ++ [wi, wi] ++ ws.drop (i + 1)) := spo_mid hw hT hB (fun w h => by simp at h; rw [h]; exact lwi.wo) (by simp; omega) (by simp) (.inl (by simp; omega))
      exact join_ok w4 sp.len sp.wo (q _ _ sp ((hD3.mono e).up (by omega)) (b03.trans e.but))
    walk_at "go"
    refine i_iteB (fun eb => ?_) (fun eb => ?_)
    · walk_at "go"
      refine i_c ⟨⟨_, rfl⟩, ?_⟩
      refine rd_mid (M := [("" : Str), wi]) rfl rfl w1 li l7 (by simp) (fun H' R e k => ?_) fun D H4 e w4 => ?_
      · walk_at "go"
        refine l_ixL (e _ _ w1) at1 ?_
        exact k
      have sp : Spo ws.length (ws.take i ++ [("" : Str), wi] ++ ws.drop (i + 1)) := spo_mid hw hT hB (fun w h => by simp at h; rcases h with rfl | rfl; exact wo_nil; exact lwi.wo) (by simp; omega) (by simp) (.inl (by simp; omega))
      exact join_ok w4 sp.len sp.wo (q _ _ sp ((hD3.mono e).up (by omega)) (b03.trans e.but))
    walk_at "go"
    refine i_iteB (fun eb => ?_) (fun eb => ?_)
    · walk_at "go"
      refine i_c ⟨⟨_, rfl⟩, ?_⟩
      obtain ⟨u1, u2⟩ := up_wo lwi.low lwi.len lwi.ne
      refine rd_mid (M := [Txt.upper wi]) rfl rfl w1 li l7 (by simp) (fun H' R e k => ?_) fun D H4 e w4 => ?_
      · walk_at "go"
        refine i_m0 ?_
        walk_at "go"
        refine l_ixL (e _ _ w1) at1 ⟨⟨_, rfl⟩, wi, rfl, rfl, ?_, k⟩
        have := lwi.len
        omega
      have sp : Spo ws.length (ws.take i ++ [Txt.upper wi] ++ ws.drop (i + 1)) := spo_mid hw hT hB (fun w h => by simp at h; rw [h]; exact u1) (by simp; omega) (by simp) (.inr ⟨_, List.mem_singleton.mpr rfl, u2⟩)
      exact join_ok w4 sp.len sp.wo (q _ _ sp ((hD3.mono e).up (by omega)) (b03.trans e.but))
    walk_at "go"
    refine i_iteB (fun eb => ?_) (fun eb => ?_)
    · walk_at "go"
      intro p1 h1
      have e4 : Ex H3 (upd H3 p1 (.lst [.str "\n", .str " ", .str "~"])) := Ex.new h1
      have w4 : (upd H3 p1 (.lst [.str "\n", .str " ", .str "~"])) p1 = some (.lst [.str "\n", .str " ", .str "~"]) := upd_same
      generalize (upd H3 p1 (.lst [.str "\n", .str " ", .str "~"])) = H4 at e4 w4 ⊢
      walk_at "go"
      have n1 := (hD3.ne h1).1
      refine drawL (hD3.mono e4) (by decide) (by decide) (by omega) fun j H5 j0 j1 hD5 b5 => ?_
      have b05 := b03.trans (e4.but.trans b5)
      have j3 : j = 0 ∨ j = 1 ∨ j = 2 := by omega
      have hlast : ∃ A w, ws = A ++ [w] := by
        rcases List.eq_nil_or_concat ws with h | ⟨A, w, h⟩
        · exact absurd h hne
        · exact ⟨A, w, by rw [h, List.concat_eq_append]⟩
      obtain ⟨A, wl, hA⟩ := hlast
      have lwl := hw wl (by rw [hA]; simp)
      have hAm : ∀ w ∈ A, w ∈ ws := fun w h => by rw [hA]; exact List.mem_append.mpr (.inl h)
      have lA : A.length + 1 = ws.length := by rw [hA]; simp
      have odd : ∀ o ∈ (["9", "\n", "~"] : List Str), ∃ vs, Spo ws.length vs ∧ z ++ o = Txt.join " " vs := fun o ho => by
        obtain ⟨u1, u2⟩ := add_wo lwl.low lwl.len ho
        refine ⟨A ++ [wl ++ o] ++ [], spo_mid hw hAm (fun w h => nomatch h) (fun w h => by simp at h; rw [h]; exact u1) (by simp; omega) (by simp) (.inr ⟨_, List.mem_singleton.mpr rfl, u2⟩), ?_⟩
        rw [hz, hA, join_app, List.append_nil]
      rcases j3 with rfl | rfl | rfl
      · refine l_ixL (b5 _ _ n1 w4) rfl ?_
        refine l_addS (sz (by rw [show (("\n" : Str)).length = 1 by decide +kernel]; omega)) ?_
        obtain ⟨vs, sp, e⟩ := odd "\n" (by decide +kernel)
        rw [e]
        exact q _ _ sp (hD5.up (by omega)) b05
      · refine l_ixL (b5 _ _ n1 w4) rfl ?_
        refine l_addS (sz (by rw [show ((" " : Str)).length = 1 by decide +kernel]; omega)) ?_
        have sp : Spo ws.length (ws ++ [("" : Str)] ++ []) := spo_mid hw (fun w h => h) (fun w h => nomatch h) (fun w h => by simp at h; rw [h]; exact wo_nil) (by simp; omega) (by simp) (.inl (by simp))
        rw [hz, join_snoc ws hne]
        rw [List.append_nil] at sp
        exact q _ _ sp (hD5.up (by omega)) b05
      · refine l_ixL (b5 _ _ n1 w4) rfl ?_
        refine l_addS (sz (by rw [show (("~" : Str)).length = 1 by decide +kernel]; omega)) ?_
        obtain ⟨vs, sp, e⟩ := odd "~" (by decide +kernel)
        rw [e]
        exact q _ _ sp (hD5.up (by omega)) b05
    walk_at "go"
    refine i_c ⟨⟨_, rfl⟩, ?_⟩
    obtain ⟨u1, u2⟩ := add_wo (o := "9") lwi.low lwi.len (by decide +kernel)
    refine rd_mid (M := [wi ++ "9"]) rfl rfl w1 li l7 (by simp) (fun H' R e k => ?_) fun D H4 e w4 => ?_
    · walk_at "go"
      refine l_ixL (e _ _ w1) at1 ?_
      walk_at "go"
      refine l_addS (sz (by rw [show (("9" : Str)).length = 1 by decide +kernel]; have := lwi.len; omega)) ?_
      exact k
    have sp : Spo ws.length (ws.take i ++ [wi ++ "9"] ++ ws.drop (i + 1)) := spo_mid hw hT hB (fun w h => by simp at h; rw [h]; exact u1) (by simp; omega) (by simp) (.inr ⟨_, List.mem_singleton.mpr rfl, u2⟩)
    exact join_ok w4 sp.len sp.wo (q _ _ sp ((hD3.mono e).up (by omega)) (b03.trans e.but))
end
end K
namespace K
open PySem PySem.Spec PyProof.Rows L2 G TL
local macro_rules | `(tactic| walk_at "side") => `(tactic| focus (first | assumption | exact rfl | omega | decide))
local macro_rules | `(tactic| walk_at "ty") => `(tactic| focus (first | exact .base (.str _) | exact .base (.int _) | exact .base (.bl _) | exact .base .non | exact .base (.lst (by assumption)) | exact .base (.tup (by assumption)) | exact .base (.dK (by assumption)) | assumption))
local macro_rules | `(tactic| walk_at "kt") => `(tactic| focus (with_reducible first | exact kt_NoneType_str | exact kt_NoneType_int | exact kt_NoneType_bool | exact kt_NoneType_tuple | exact kt_NoneType_list | exact kt_NoneType_dict | exact kt_bool_str | exact kt_bool_int | exact kt_bool_bool | exact kt_bool_tuple | exact kt_bool_list | exact kt_bool_dict | exact kt_int_str | exact kt_int_int | exact kt_int_bool | exact kt_int_tuple | exact kt_int_list | exact kt_int_dict | exact kt_str_str | exact kt_str_int | exact kt_str_bool | exact kt_str_tuple | exact kt_str_list | exact kt_str_dict | exact kt_list_str | exact kt_list_int | exact kt_list_bool | exact kt_list_tuple | exact kt_list_list | exact kt_list_dict | exact kt_tuple_str | exact kt_tuple_int | exact kt_tuple_bool | exact kt_tuple_tuple | exact kt_tuple_list | exact kt_tuple_dict | exact kt_dict_str | exact kt_dict_int | exact kt_dict_bool | exact kt_dict_tuple | exact kt_dict_list | exact kt_dict_dict | assumption))
local macro_rules | `(tactic| walk_at "1") => `(tactic| first
  | (with_reducible refine i_seq ?_)
  | (with_reducible refine iteT ?_)
  | (with_reducible refine iteF ?_)
  | (with_reducible refine iteNF ?_)
  | (with_reducible refine iteNT ?_)
  | (with_reducible refine i_asg ?_)
  | (with_reducible refine i_op ?_)
  | (with_reducible refine i_c ?_)
  | ((with_reducible apply i_var); (exact rfl))
  | (with_reducible refine i_cb ?_)
  | (with_reducible refine i_cons ?_)
  | (with_reducible refine i_nil ?_)
  | (with_reducible refine i_test ?_)
  | (with_reducible refine i_b ?_)
  | (with_reducible refine i_bl ?_)
  | (with_reducible refine i_name ?_)
  | (with_reducible refine i_ifS ?_)
  | (with_reducible refine i_next ?_)
  | (with_reducible refine i_ret ?_)
  | (with_reducible refine i_drop ?_)
  | (with_reducible refine i_lst ?_)
  | (with_reducible refine i_tup ?_)
  | (with_reducible refine i_and ?_)
  | (with_reducible refine i_or ?_)
  | (with_reducible refine i_not ?_)
  | (with_reducible refine i_andV ?_)
  | (with_reducible refine i_orV ?_)
  | (with_reducible refine i_notV ?_)
  | (with_reducible refine i_if ?_)
  | (with_reducible refine i_chain ?_)
  | (with_reducible refine i_un ?_)
  | (with_reducible refine i_neg ?_)
  | (with_reducible refine i_sub ?_)
  | (with_reducible refine i_sl ?_)
  | (with_reducible refine i_noP ?_)
  | (with_reducible refine i_part ?_)
  | (with_reducible refine i_int ?_)
  | (with_reducible refine i_bm ?_)
  | (with_reducible refine i_strT ?_)
  | (with_reducible refine i_yes ?_)
  | (with_reducible refine i_call ?_)
  | ((with_reducible refine i_len ?_ ?_); (focus (exact sz (by simp))))
  | (with_reducible refine i_lc ?_)
  | (with_reducible refine i_for ?_)
  | (with_reducible refine i_rng1 ?_)
  | (with_reducible refine i_rng2 ?_)
  | (with_reducible refine l_addI ?_)
  | (with_reducible refine l_subI ?_)
  | (with_reducible refine l_cmp ?_)
  | (with_reducible refine l_eqI ?_)
  | (with_reducible refine l_eqS ?_)
  | (with_reducible refine l_eqB ?_)
  | (with_reducible refine l_neI ?_)
  | (with_reducible refine l_neS ?_)
  | (with_reducible refine l_neB ?_)
  | (with_reducible refine l_isN ?_)
  | (with_reducible refine l_isNotN ?_)
  | (with_reducible refine l_isB ?_)
  | (with_reducible refine l_isNotB ?_)
  | (with_reducible refine l_intI ?_)
  | (with_reducible refine l_intB ?_)
  | (with_reducible refine l_inC ?_)
  | (refine ⟨_, _, rfl, rfl, sz (by first | omega | simp; omega), ?_⟩)
  | ((with_reducible refine l_pow ?_ ?_); (focus (exact ⟨by decide, by decide, by decide⟩)))
  | ((with_reducible refine l_mul ?_ ?_); (focus (first | assumption | exact Or.inl (Or.inl ⟨by omega, by omega⟩) | exact Or.inl (Or.inr ⟨by omega, by omega⟩))))
  | ((with_reducible refine l_div ?_ ?_); (focus (first | assumption | exact ⟨by decide, by decide⟩)))
  | ((with_reducible apply l_setL); (assumption); (exact rfl))
  | ((with_reducible refine l_mod ?_ ?_); (walk_at "side"))
  | ((with_reducible apply l_ixL); (assumption); (exact rfl))
  | ((with_reducible refine l_lenS ?_ ?_); (focus (first | assumption | exact sz (by omega) | exact sz (by simp; omega))))
  | ((with_reducible refine l_slS ?_ ?_); (focus (first | assumption | exact sz (by omega))))
  | ((with_reducible apply l_isi); (walk_at "ty"); (walk_at "kt"))
  | ((with_reducible apply l_lenL); (assumption)))
local macro_rules | `(tactic| walk_at "go") => `(tactic| repeat (walk_at "1"))
local macro_rules | `(tactic| walk_at "1") => `(tactic| first
  | (with_reducible refine i_mkS ?_)
  | (with_reducible refine i_cS ?_)
  | (with_reducible refine i_fld ?_)
  | (with_reducible refine i_sFld ?_)
  | (with_reducible refine i_tX ?_)
  | (with_reducible refine l_len2 rfl rfl ?_))
local macro_rules | `(tactic| walk_at "1") => `(tactic| first
  | (with_reducible refine i_stp ?_)
  | ((with_reducible apply i_iad); (exact rfl))
  | (with_reducible refine i_cO ?_)
  | (with_reducible refine i_prp ?_)
  | (with_reducible refine i_mtS ?_)
  | (with_reducible refine i_fldaug ?_)
  | (with_reducible refine i_par ?_)
  | (with_reducible refine i_par3 ?_)
  | (with_reducible refine i_revL ?_))
local macro_rules | `(tactic| walk_at "1") => `(tactic| first
  | (with_reducible refine i_dget ?_)
  | (with_reducible refine i_dput ?_)
  | (with_reducible refine i_sm ?_)
  | (with_reducible refine i_mkX ?_))
section
variable {P : Program} {w : World} {K : PySem.W.Frag} {mg : Str → Option Value} {base : Heap}
def ends : Str := "abcfghijqrsuvxz"
theorem ends_low : ∀ c ∈ tl ends, c ∈ tl letters := by decide +kernel
theorem kw_ends : ∀ k ∈ KW, ∀ c ∈ tl ends, (tl k).getLast? ≠ some c := by decide +kernel
theorem one_tl (c : Nat) : tl (⟨#[c]⟩ : Str) = [c] := rfl
theorem low_add {z : Str} {c : Nat} (h : Low z) (hc : c ∈ tl letters) : Low (z ++ ⟨#[c]⟩) := fun d hd => by
  rw [tl_append, one_tl] at hd
  rcases List.mem_append.mp hd with hd | hd
  · exact h d hd
  · rw [List.mem_singleton.mp hd]
    exact hc
theorem add_len (z : Str) (c : Nat) : (z ++ ⟨#[c]⟩ : Str).length = z.length + 1 := by
  rw [len_tl, tl_append, one_tl, List.length_append, ← len_tl]
  rfl
theorem name_of {z : Str} {c : Nat} (h : Low z) (hl : z.length ≤ 7) (hc : c ∈ tl ends) : nameOk (z ++ ⟨#[c]⟩) = true := by
  have hL := low_add h (ends_low c hc)
  have hlen := add_len z c
  unfold nameOk
  rw [decide_eq_true (by omega), decide_eq_true (by omega), show ((z ++ ⟨#[c]⟩ : Str).cps.toList.all fun c => decide (c ∈ letters.cps.toList)) = true from List.all_eq_true.mpr fun d hd => decide_eq_true (hL d hd)]
  have : KW.contains (z ++ ⟨#[c]⟩) = false := by
    cases hk : KW.contains (z ++ ⟨#[c]⟩) with
    | false => rfl
    | true =>
      exfalso
      have hm := List.contains_iff_mem.mp hk
      refine kw_ends _ hm c hc ?_
      rw [tl_append, one_tl, List.getLast?_append]
      rfl
  rw [this]
  rfl
def spWord : Sp := fun vs H Q _ => ∃ (st L : Addr) (b : Nat), vs = [.ref st, .str ends] ∧ Dl H st L b ∧ b < 2 ^ 59 ∧ ∀ z H', nameOk z = true → Dl H' st L (b + 20) → But st H H' → Q (.str z) H'
theorem at_in {xs : List Nat} {i : Int} (h0 : 0 ≤ i) (h1 : i < (xs.length : Int)) : ∃ c, c ∈ xs ∧ atI xs i = some c := by
  obtain ⟨j, rfl⟩ := Int.eq_ofNat_of_zero_le h0
  have hj : j < xs.length := by omega
  exact ⟨xs[j], List.getElem_mem hj, atI_nat (List.getElem?_eq_getElem hj)⟩
set_option maxHeartbeats 2000000 in
theorem ok_word {a_KEYWORDS a_SWITCHES v_SWITCHES_0 v_SWITCHES_1 v_SWITCHES_2 v_SWITCHES_3 v_SWITCHES_4 v_SWITCHES_5 v_SWITCHES_6 C_RoundError C_BadSwitch C_BadNote C_Rule : Addr} (T : Tp K mg w a_KEYWORDS a_SWITCHES v_SWITCHES_0 v_SWITCHES_1 v_SWITCHES_2 v_SWITCHES_3 v_SWITCHES_4 v_SWITCHES_5 v_SWITCHES_6 C_RoundError C_BadSwitch C_BadNote C_Rule) : Cal P w K mg base 2 "_law_word" spWord [] := by
  have c__law_draw : Cal P w K mg base 1 "_law_draw" spDrawL [] := ok_draw T
  refine T.d__law_word.cal sc__law_word (fun vs H Q E h => ?_) (fun f cdv A outer s H vs Q E hr h => ?_)
  · obtain ⟨st, L, b, rfl, _⟩ := h
    rfl
  · obtain ⟨st, L, b, rfl, hd, hb, q⟩ := h
    have sc := sc__law_word
    refine ⟨_, 
    (pss_cons (ps_set (i := 2) sc.nd rfl (by first | exact Or.inl rfl | exact Or.inr rfl) (pe_str))
    (pss_cons (ps_for PassesOwn.never rfl (pi_range1 (by rfl) T.m_range (pa_cons (pe_c c__law_draw hr (by decide) (by rfl) (pa_cons (pv 0) (pa_cons (pe_int) pa_nil))) pa_nil)) (pg_name (i := 3) sc.nd rfl (by first | exact Or.inl rfl | exact Or.inr rfl)) (
      (pss_one (ps_set (i := 2) sc.nd rfl (by first | exact Or.inl rfl | exact Or.inr rfl) (pe_op (kAdd (K := K) rfl) (pv 2) (pe_ix (kIx (K := K) rfl) (pe_str) (pe_c c__law_draw hr (by decide) (by rfl) (pa_cons (pv 0) (pa_cons (pe_int) pa_nil))) (fun _ _ => rfl)))))))
    (pss_one (ps_ret (pe_op (kAdd (K := K) rfl) (pv 2) (pe_ix (kIx (K := K) rfl) (pv 1) (pe_c c__law_draw hr (by decide) (by rfl) (pa_cons (pv 0) (pa_cons (pe_callB (kLen (K := K) rfl) (by rfl) T.m_len PySem.boot_len (pa_cons (pv 1) pa_nil)) pa_nil))) (fun _ _ => rfl))))))), ?_⟩
    try rw [cxK]
    refine i_start (τ := [some (.ref st), some (.str ends), none, none]) rfl ?_
    walk_at "go"
    refine drawL hd (by decide) (by decide) (by omega) fun r H1 r0 r1 hD1 b1 => ?_
    walk_at "go"
    refine ⟨r, rfl, by omega, by omega, ?_⟩
    obtain ⟨n, rfl⟩ := Int.eq_ofNat_of_zero_le r0
    have hn : n < 8 := by omega
    refine for_rng (fun i σ H' => ∃ (z : Str) (v3 : Option V), σ = [some (.ref st), some (.str ends), some (.str z), v3] ∧ Low z ∧ z.length ≤ i ∧ Dl H' st L (b + 1 + i) ∧ But st H H') ⟨"", none, rfl, (fun c hc => nomatch hc), Nat.le_refl _, hD1.up (by omega), b1⟩ ?_ ?_
    · rintro i σ J hi ⟨z, v3, rfl, hL, hl, hD, hB⟩
      have hi8 : i < 8 := by have : i < n := hi; omega
      walk_at "go"
      refine drawL hD (by decide) (by decide) (by omega) fun r' J2 r0' r1' hD2 b2 => ?_
      obtain ⟨c, hc, ec⟩ := at_in (xs := tl letters) r0' (by rw [show (tl letters).length = 26 by decide +kernel]; exact r1')
      refine l_ixS (by decide +kernel) ec ?_
      refine l_addS (sz (by rw [show ((⟨#[c]⟩ : Str)).length = 1 from rfl]; omega)) ?_
      walk_at "go"
      exact ⟨_, _, rfl, low_add hL hc, by rw [add_len]; omega, hD2.up (by omega), hB.trans b2⟩
    rintro σ J ⟨z, v3, rfl, hL, hl, hD, hB⟩
    have hl7 : z.length ≤ 7 := by have : z.length ≤ n := hl; omega
    walk_at "go"
    refine l_lenS (by decide +kernel) ?_
    walk_at "go"
    refine drawL hD (by decide +kernel) (by decide +kernel) (by have : n < 8 := hn; omega) fun r' J2 r0' r1' hD2 b2 => ?_
    obtain ⟨c, hc, ec⟩ := at_in (xs := tl ends) r0' (by rw [show (tl ends).length = 15 by decide +kernel]; exact r1')
    refine l_ixS (by decide +kernel) ec ?_
    refine l_addS (sz (by rw [show ((⟨#[c]⟩ : Str)).length = 1 from rfl]; omega)) ?_
    exact q _ _ (name_of hL hl7 hc) (hD2.up (by have : n < 8 := hn; omega)) (hB.trans b2)
structure Fit (z : Str) : Prop where
  len : z.length ≤ 9000
  sh : ∀ c ∈ z.cps.toList, c < 16 ^ 8
  many : (Txt.split z " ").length ≤ 900
  ws : ∀ w ∈ Txt.split z " ", w.length ≤ 1000
def spRef (K : PySem.W.Frag) : Sp := fun vs H Q _ => ∃ (k : Int) (x : V) (z : Str), vs = [.int k, x] ∧ (k = 0 ∨ k = 1) ∧ Shw K H x z ∧ ((∃ t, TyX K H x t ∧ PySem.W.kitOne K t (.type "str") = some false) ∨
  (∃ y, x = .str y ∧ Fit y ∧ (k = 0 → ruleB (Txt.split y " ") = false) ∧ (k = 1 → markB (Txt.split y " ") = false))) ∧ ∀ H', Ex H H' → Q (.bl true) H'
set_option maxHeartbeats 2000000 in
theorem ok_ref {a_KEYWORDS a_SWITCHES v_SWITCHES_0 v_SWITCHES_1 v_SWITCHES_2 v_SWITCHES_3 v_SWITCHES_4 v_SWITCHES_5 v_SWITCHES_6 C_RoundError C_BadSwitch C_BadNote C_Rule : Addr} (T : Tp K mg w a_KEYWORDS a_SWITCHES v_SWITCHES_0 v_SWITCHES_1 v_SWITCHES_2 v_SWITCHES_3 v_SWITCHES_4 v_SWITCHES_5 v_SWITCHES_6 C_RoundError C_BadSwitch C_BadNote C_Rule) : CalG P w K mg base true 7 "_law_refused" (spRef K) 2 [] (fun vs _ => vs) := by
  have c_read_rule := ok_rdR (P := P) (w := w) (base := base) T
  have c_read_mark := ok_rdM (P := P) (w := w) (base := base) T
  refine T.d__law_refused.calG sc__law_refused (fun vs H Q E h => ?_) (fun f cdv A outer s H vs Q E hr gd h => ?_)
  · obtain ⟨k, x, z, rfl, _⟩ := h
    rfl
  · obtain ⟨k, x, z, rfl, hk, hz, h, q⟩ := h
    have sc := sc__law_refused
    refine ⟨_, 
    (pss_cons (ps_try_as (i := 3) rfl rfl sc.nd rfl (by rfl) ⟨by rfl, by decide, Or.inl (T.x_BadNote P w base).hm⟩ takes0 (fun W pn xe tk pw => 
        (pss_one (ps_if (pt_cmpR (kEq (K := K) rfl hr) (pv 0) (pe_int) (nomark _)) (
          (pss_one (ps_set (i := 2) sc.nd rfl (by first | exact Or.inl rfl | exact Or.inr rfl) (pe_cS c_read_rule hr (by decide) (fun e => nomatch e) tk (by rfl) (pa_cons (pv 1) pa_nil))))) (
          (pss_one (ps_set (i := 2) sc.nd rfl (by first | exact Or.inl rfl | exact Or.inr rfl) (pe_cS c_read_mark hr (by decide) (fun e => nomatch e) tk (by rfl) (pa_cons (pv 1) pa_nil)))))))) (fun a oe cls d pn hz hf => 
        (pss_one (ps_ret (pe_and (pe_cmpR (kEqU (K := K) rfl hr.units) (pe_callB (kRepr (K := K) rfl (gd rfl) hr.units) (by rfl) T.m_repr (by decide +kernel) (pa_cons (pe_xfS (T.x_BadNote P w base) hz hf (pv 3)) pa_nil)) (pe_callB (kRepr (K := K) rfl (gd rfl) hr.units) (by rfl) T.m_repr (by decide +kernel) (pa_cons (pv 1) pa_nil)) (nomark _)) (pe_one (pe_callB (call_isX (T.x_BadNote P w base).ec hz hf) (by rfl) T.m_isinstance (by decide +kernel) (pa_cons (pv 3) (pa_cons (pe_gc (by rfl) T.k_RoundError) pa_nil)))))))))
    (pss_one (ps_ret (pe_and (pe_cmpR gIs (pv 2) (pe_non) (nomark _)) (pe_one (pe_bl)))))), ?_⟩
    try rw [cxK]
    refine i_start (τ := [some (.int k), some (x), none, none]) rfl ?_
    walk_at "go"
    rcases hk with rfl | rfl
    · rw [decide_eq_true (rfl : (0 : Int) = 0)]
      walk_at "go"
      refine ⟨x, rfl, ?_⟩
      rcases h with hk | ⟨y, rfl, hy, h0, _⟩
      rotate_left
      refine .inr ⟨y, rfl, Nat.le_trans hy.len (by decide), hy.many, .inl ⟨h0 rfl, ?_⟩⟩
      rotate_left
      refine .inl ⟨hk, ?_⟩
      all_goals
        intro H' d he hn'
        have e2 : ∀ y, Ex H (upd H' d (.xd [("value", y)])) := fun y => he.trans (Ex.new hn')
        refine ⟨true, T.xm_BadNote, fun _ a ha => ?_, fun e => nomatch e⟩
        walk_at "go"
        refine i_var rfl ⟨rfl, rfl, d, _, _, rfl, upd_same, rfl, ?_⟩
        walk_at "go"
        refine hz _ _ (e2 _) ?_
        walk_at "go"
        refine hz _ _ (e2 _) ?_
        walk_at "go"
        rw [decide_eq_true rfl]
        walk_at "go"
        refine ⟨rfl, d, _, _, _, true, rfl, upd_same, rfl, .own _, T.kx_BadNote_RoundError, ?_⟩
        exact q _ (e2 _)
    · rw [decide_eq_false (by decide : ¬ (1 : Int) = 0)]
      walk_at "go"
      refine ⟨x, rfl, ?_⟩
      rcases h with hk | ⟨y, rfl, hy, _, h1⟩
      rotate_left
      refine .inr ⟨y, rfl, Nat.le_trans hy.len (by decide), hy.many, hy.ws, .inl ⟨h1 rfl, ?_⟩⟩
      rotate_left
      refine .inl ⟨hk, ?_⟩
      all_goals
        intro H' d he hn'
        have e2 : ∀ y, Ex H (upd H' d (.xd [("value", y)])) := fun y => he.trans (Ex.new hn')
        refine ⟨true, T.xm_BadNote, fun _ a ha => ?_, fun e => nomatch e⟩
        walk_at "go"
        refine i_var rfl ⟨rfl, rfl, d, _, _, rfl, upd_same, rfl, ?_⟩
        walk_at "go"
        refine hz _ _ (e2 _) ?_
        walk_at "go"
        refine hz _ _ (e2 _) ?_
        walk_at "go"
        rw [decide_eq_true rfl]
        walk_at "go"
        refine ⟨rfl, d, _, _, _, true, rfl, upd_same, rfl, .own _, T.kx_BadNote_RoundError, ?_⟩
        exact q _ (e2 _)
end
end K
namespace K
open PySem PySem.Spec PyProof.Rows L2 G TL
local macro_rules | `(tactic| walk_at "side") => `(tactic| focus (first | assumption | exact rfl | omega | decide))
local macro_rules | `(tactic| walk_at "ty") => `(tactic| focus (first | exact .base (.str _) | exact .base (.int _) | exact .base (.bl _) | exact .base .non | exact .base (.lst (by assumption)) | exact .base (.tup (by assumption)) | exact .base (.dK (by assumption)) | assumption))
local macro_rules | `(tactic| walk_at "kt") => `(tactic| focus (with_reducible first | exact kt_NoneType_str | exact kt_NoneType_int | exact kt_NoneType_bool | exact kt_NoneType_tuple | exact kt_NoneType_list | exact kt_NoneType_dict | exact kt_bool_str | exact kt_bool_int | exact kt_bool_bool | exact kt_bool_tuple | exact kt_bool_list | exact kt_bool_dict | exact kt_int_str | exact kt_int_int | exact kt_int_bool | exact kt_int_tuple | exact kt_int_list | exact kt_int_dict | exact kt_str_str | exact kt_str_int | exact kt_str_bool | exact kt_str_tuple | exact kt_str_list | exact kt_str_dict | exact kt_list_str | exact kt_list_int | exact kt_list_bool | exact kt_list_tuple | exact kt_list_list | exact kt_list_dict | exact kt_tuple_str | exact kt_tuple_int | exact kt_tuple_bool | exact kt_tuple_tuple | exact kt_tuple_list | exact kt_tuple_dict | exact kt_dict_str | exact kt_dict_int | exact kt_dict_bool | exact kt_dict_tuple | exact kt_dict_list | exact kt_dict_dict | assumption))
local macro_rules | `(tactic| walk_at "1") => `(tactic| first
  | (with_reducible refine i_seq ?_)
  | (with_reducible refine iteT ?_)
  | (with_reducible refine iteF ?_)
  | (with_reducible refine iteNF ?_)
  | (with_reducible refine iteNT ?_)
  | (with_reducible refine i_asg ?_)
  | (with_reducible refine i_op ?_)
  | (with_reducible refine i_c ?_)
  | ((with_reducible apply i_var); (exact rfl))
  | (with_reducible refine i_cb ?_)
  | (with_reducible refine i_cons ?_)
  | (with_reducible refine i_nil ?_)
  | (with_reducible refine i_test ?_)
  | (with_reducible refine i_b ?_)
  | (with_reducible refine i_bl ?_)
  | (with_reducible refine i_name ?_)
  | (with_reducible refine i_ifS ?_)
  | (with_reducible refine i_next ?_)
  | (with_reducible refine i_ret ?_)
  | (with_reducible refine i_drop ?_)
  | (with_reducible refine i_lst ?_)
  | (with_reducible refine i_tup ?_)
  | (with_reducible refine i_and ?_)
  | (with_reducible refine i_or ?_)
  | (with_reducible refine i_not ?_)
  | (with_reducible refine i_andV ?_)
  | (with_reducible refine i_orV ?_)
  | (with_reducible refine i_notV ?_)
  | (with_reducible refine i_if ?_)
  | (with_reducible refine i_chain ?_)
  | (with_reducible refine i_un ?_)
  | (with_reducible refine i_neg ?_)
  | (with_reducible refine i_sub ?_)
  | (with_reducible refine i_sl ?_)
  | (with_reducible refine i_noP ?_)
  | (with_reducible refine i_part ?_)
  | (with_reducible refine i_int ?_)
  | (with_reducible refine i_bm ?_)
  | (with_reducible refine i_strT ?_)
  | (with_reducible refine i_yes ?_)
  | (with_reducible refine i_call ?_)
  | ((with_reducible refine i_len ?_ ?_); (focus (exact sz (by simp))))
  | (with_reducible refine i_lc ?_)
  | (with_reducible refine i_for ?_)
  | (with_reducible refine i_rng1 ?_)
  | (with_reducible refine i_rng2 ?_)
  | (with_reducible refine l_addI ?_)
  | (with_reducible refine l_subI ?_)
  | (with_reducible refine l_cmp ?_)
  | (with_reducible refine l_eqI ?_)
  | (with_reducible refine l_eqS ?_)
  | (with_reducible refine l_eqB ?_)
  | (with_reducible refine l_neI ?_)
  | (with_reducible refine l_neS ?_)
  | (with_reducible refine l_neB ?_)
  | (with_reducible refine l_isN ?_)
  | (with_reducible refine l_isNotN ?_)
  | (with_reducible refine l_isB ?_)
  | (with_reducible refine l_isNotB ?_)
  | (with_reducible refine l_intI ?_)
  | (with_reducible refine l_intB ?_)
  | (with_reducible refine l_inC ?_)
  | (refine ⟨_, _, rfl, rfl, sz (by first | omega | simp; omega), ?_⟩)
  | ((with_reducible refine l_pow ?_ ?_); (focus (exact ⟨by decide, by decide, by decide⟩)))
  | ((with_reducible refine l_mul ?_ ?_); (focus (first | assumption | exact Or.inl (Or.inl ⟨by omega, by omega⟩) | exact Or.inl (Or.inr ⟨by omega, by omega⟩))))
  | ((with_reducible refine l_div ?_ ?_); (focus (first | assumption | exact ⟨by decide, by decide⟩)))
  | ((with_reducible apply l_setL); (assumption); (exact rfl))
  | ((with_reducible refine l_mod ?_ ?_); (walk_at "side"))
  | ((with_reducible apply l_ixL); (assumption); (exact rfl))
  | ((with_reducible refine l_lenS ?_ ?_); (focus (first | assumption | exact sz (by omega) | exact sz (by simp; omega))))
  | ((with_reducible refine l_slS ?_ ?_); (focus (first | assumption | exact sz (by omega))))
  | ((with_reducible apply l_isi); (walk_at "ty"); (walk_at "kt"))
  | ((with_reducible apply l_lenL); (assumption)))
local macro_rules | `(tactic| walk_at "go") => `(tactic| repeat (walk_at "1"))
local macro_rules | `(tactic| walk_at "1") => `(tactic| first
  | (with_reducible refine i_mkS ?_)
  | (with_reducible refine i_cS ?_)
  | (with_reducible refine i_fld ?_)
  | (with_reducible refine i_sFld ?_)
  | (with_reducible refine i_tX ?_)
  | (with_reducible refine l_len2 rfl rfl ?_))
local macro_rules | `(tactic| walk_at "1") => `(tactic| first
  | (with_reducible refine i_stp ?_)
  | ((with_reducible apply i_iad); (exact rfl))
  | (with_reducible refine i_cO ?_)
  | (with_reducible refine i_prp ?_)
  | (with_reducible refine i_mtS ?_)
  | (with_reducible refine i_fldaug ?_)
  | (with_reducible refine i_par ?_)
  | (with_reducible refine i_par3 ?_)
  | (with_reducible refine i_revL ?_))
local macro_rules | `(tactic| walk_at "1") => `(tactic| first
  | (with_reducible refine i_dget ?_)
  | (with_reducible refine i_dput ?_)
  | (with_reducible refine i_sm ?_)
  | (with_reducible refine i_mkX ?_))
section
variable {P : Program} {w : World} {K : PySem.W.Frag} {mg : Str → Option Value} {base : Heap}
/-- [row[1][draw(state, len(row[1]))] for row in table()] -/
theorem rd_words {H : Hp} {σ : L2.St} {j s : Nat} {vs : List Nat} {st L : Addr} {b : Nat} {Q : VK} (hd : Dl H st L b) (hb : b < 2 ^ 50) (hw : ∀ x, wipe ((wipe σ vs).set j (some x)) vs = wipe σ vs)
    (hj : ∀ x, ((wipe σ vs).set j (some x))[j]? = some (some x)) (hs : ∀ x, ((wipe σ vs).set j (some x))[s]? = some (some (.ref st)))
    (q : ∀ p zs H', OkR zs → H p = none → H' p = some (.lst (zs.map V.str)) → Dl H' st L (b + 7) → But st H H' → Q (.ref p) H') :
    iAny K (tCall spTab [] E0 tNil) σ H fun J H1 => lcB J (gName j) tYes (tOp (rIxA K) (tOp (rIxA K) (tVar j) (tC (V.int 1))) (tCall spDrawL [] E0 (tCons (tVar s) (tCons (tCB (G.rLen K) (tCons (tOp (rIxA K) (tVar j) (tC (V.int 1))) tNil)) tNil)))) vs σ Q H1 := by
  refine i_anyL ?_
  walk_at "go"
  refine ⟨rfl, fun a H1 e1 ht => ?_⟩
  obtain ⟨rs, ha, hna, hlr, hrow⟩ := ht
  have d1 := hd.mono e1
  have na := (hd.ne hna).1
  refine ⟨a, rfl, ⟨_, .of ha⟩, fun D hD => ?_⟩
  obtain ⟨nD, nDL⟩ := d1.ne hD
  refine lc_list (K := K) (a := a) (xs := rs.map V.ref) (fun i H' => ∃ zs : List Str, H' D = some (.lst (zs.map V.str)) ∧ zs.length = i ∧ (∀ (j : Nat) (n z : Str), SW[j]? = some n → zs[j]? = some z → okW n (.str z) = true) ∧ Dl H' st L (b + i) ∧ But st H1 H') ⟨[], upd_same, rfl, fun j n z _ h => by simp at h, d1.mono (Ex.new hD), (Ex.new hD).but⟩ (fun i H' _ ⟨_, _, _, _, _, hB⟩ => .of (hB _ _ na ha)) ?_ ?_
  · rintro i x H' hx ⟨zs, hl, hn, hok, hd', hB⟩
    obtain ⟨r, hri, rfl⟩ := map_at hx
    obtain ⟨n, ws, wa, hw1, hw2, hw3, hw4, hw5⟩ := hrow i r hri
    obtain ⟨s1, s2, s3, s4⟩ := wt_at hw1
    have nr := (hd.ne hw4).1
    have nw := (hd.ne hw5).1
    have li : i < 7 := by rw [← hlr]; exact (List.getElem?_eq_some_iff.mp hri).1
    refine ⟨hw _, ?_⟩
    walk_at "go"
    refine i_var (hj _) (i_c ?_)
    refine l_ixL (hB _ _ nr hw2) rfl ?_
    walk_at "go"
    refine i_var (hs _) ?_
    walk_at "go"
    refine i_var (hj _) (i_c ?_)
    refine l_ixL (hB _ _ nr hw2) rfl ?_
    walk_at "go"
    refine l_lenL (hB _ _ nw hw3) ?_
    walk_at "go"
    refine drawL hd' (by rw [List.length_map]; omega) (by rw [List.length_map]; omega) (by omega) fun k H2 k0 k1 hd2 b2 => ?_
    rw [List.length_map] at k1
    obtain ⟨z, hz, ez⟩ := at_map (f := V.str) (xs := ws) k0 k1
    refine l_ixL (b2 _ _ nw (hB _ _ nw hw3)) ez ?_
    refine ⟨_, b2 _ _ nD hl, szl (by simp; omega), zs ++ [z], ?_, by simp [hn], fun j m y hm hy => ?_, (hd2.put nD nDL).up (by omega), (hB.trans b2).put hD⟩
    · rw [upd_same, List.map_append]
      rfl
    · by_cases hj : j < zs.length
      · rw [List.getElem?_append_left hj] at hy
        exact hok j m y hm hy
      · rw [List.getElem?_append_right (by omega)] at hy
        have hj0 : j - zs.length = 0 := by
          by_cases h0 : j - zs.length = 0
          · exact h0
          · rw [List.getElem?_eq_none (by simp; omega)] at hy
            cases hy
        rw [hj0] at hy
        cases hy
        have : j = i := by omega
        subst this
        rw [s1] at hm
        cases hm
        exact okW_of s2 hz
  · rintro H' ⟨zs, hl, hn, hok, hd', hB⟩
    rw [List.length_map, hlr] at hn
    rw [List.length_map, hlr] at hd'
    exact q D zs H' (okR_of hn hok) (e1.free hD) hl hd' (e1.but.trans hB)
theorem rd_rule {C CB : Addr} {H : Hp} {z : Str} {zs : List Str} {Q : VK} {E : XK} (hz : z = Txt.join " " zs) (hok : OkR zs) (q : ∀ v H', Ex H H' → RuleAt C H' v zs → Q v H') : spRdR K C CB [.str z] H Q E := by
  obtain ⟨f1, f2, f3⟩ := join_fine (ws := zs) (fun e => by have := hok.len; rw [e] at this; cases this) (by rw [hok.len]; decide) (fun w hw => (hok.wo w hw).1)
  subst hz
  refine ⟨_, rfl, .inr ⟨_, rfl, by omega, by rw [f1, hok.len]; decide, .inr ?_⟩⟩
  rw [f1]
  exact ⟨hok, q⟩
theorem wt_len : ∀ p ∈ WT, ∀ z ∈ p.2, z.length ≤ 30 := by decide +kernel
theorem okW_lw {n z : Str} (h : okW n (.str z) = true) : Lw z := by
  obtain ⟨ws, h1, h2⟩ := okW_mem h
  obtain ⟨_, g2, g3⟩ := okW_wo h
  exact ⟨g2, wt_len _ h1 z h2, g3⟩
theorem OkR.lw {zs : List Str} (h : OkR zs) : ∀ z ∈ zs, Lw z := fun z hz => by
  obtain ⟨i, hi⟩ := List.mem_iff_getElem?.mp hz
  have li := (List.getElem?_eq_some_iff.mp hi).1
  rw [h.len] at li
  have hn : SW[i]? = some (SW[i]'(by simpa using li)) := List.getElem?_eq_getElem _
  exact okW_lw (h.at hn hi)
theorem i_joinV {i : Nat} {p : Addr} {ws : List Str} {σ : L2.St} {H : Hp} {Q : VK} (hv : σ[i]? = some (some (.ref p))) (h : SqL K H p (ws.map V.str) ∨ SqT K H p (ws.map V.str)) (hl : ws.length ≤ 100) (hw : ∀ w ∈ ws, Wo w) (q : Q (.str (Txt.join " " ws)) H) :
    tM1 (fun x xs H Q => ∃ a p, ∃ ys : List Str, x = .str a ∧ xs = [.ref p] ∧ (SqL K H p (ys.map V.str) ∨ SqT K H p (ys.map V.str)) ∧ (ys.map (·.length)).sum + ys.length * a.length ≤ 16777216 ∧ Q (.str (Txt.join a ys)) H) (tC (.str " ")) (tVar i) σ H Q := by
  have hs := sum_le fun x hx => (hw x hx).len
  refine i_c ⟨⟨_, rfl⟩, i_var hv ⟨_, p, ws, rfl, rfl, h, ?_, q⟩⟩
  rw [show ((" " : Str)).length = 1 by decide +kernel]
  omega
theorem wo_ok {w : Str} (h : Wo w) : PyData.strOk w = true := by
  unfold PyData.strOk
  rw [← Array.all_toList, List.all_eq_true]
  intro c hc
  have := (h.ch c hc).1
  exact decide_eq_true (by omega)
theorem lf_str {w : Str} (h : Wo w) : Lf (.str w) := by
  refine ⟨rfl, rfl, ?_, by simp [PyData.depth]⟩
  have := PySem.StrLaws.reprText_len w fun c hc => Nat.lt_trans (h.ch c hc).1 (by decide)
  have := h.len
  rw [PyData.shown]
  omega
theorem lf_strs {ws : List Str} (h : ∀ w ∈ ws, Wo w) : ∀ d ∈ ws.map PyData.str, Lf d := fun d hd => by
  obtain ⟨n, hn, rfl⟩ := List.mem_map.mp hd
  exact lf_str (h n hn)
/-- a line of n words -/
structure Lin (n : Nat) (z : Str) (ws : List Str) : Prop where
  eq : z = Txt.join " " ws
  lw : ∀ w ∈ ws, Lw w
  len : ws.length = n
  lo : 2 ≤ n
  hi : n ≤ 7
theorem Lin.split {n : Nat} {z : Str} {ws : List Str} (h : Lin n z ws) : Txt.split z " " = ws ∧ z.length ≤ 5000 ∧ ∀ c ∈ z.cps.toList, c < 16 ^ 8 := by
  have h1 := h.len
  have h2 := h.lo
  have h3 := h.hi
  rw [h.eq]
  exact join_fine (fun e => by rw [e] at h1; simp at h1; omega) (by omega) (fun w hw => (h.lw w hw).wo)
theorem Lin.fit {n : Nat} {z : Str} {ws : List Str} (h : Lin n z ws) : Fit z := by
  obtain ⟨f1, f2, f3⟩ := h.split
  have h1 := h.len
  have h3 := h.hi
  exact ⟨by omega, f3, by rw [f1]; omega, fun w hw => by rw [f1] at hw; have := (h.lw w hw).len; omega⟩
theorem Spo.fit {n : Nat} {ws : List Str} (h : Spo n ws) : Fit (Txt.join " " ws) ∧ Txt.split (Txt.join " " ws) " " = ws := by
  obtain ⟨f1, f2, f3⟩ := join_fine h.ne h.len h.wo
  exact ⟨⟨by omega, f3, by rw [f1]; have := h.len; omega, fun w hw => by rw [f1] at hw; have := (h.wo w hw).len; omega⟩, f1⟩
theorem Fit.shw {H : Hp} {z : Str} (h : Fit z) : Shw K H (.str z) (reprText z) := shw_str h.sh h.len
theorem rd_mark {CB : Addr} {H : Hp} {z : Str} {ws : List Str} {Q : VK} {E : XK} (hz : Lin 3 z ws) (hb : markB ws = true) (q : ∀ p H', Ex H H' → H' p = some (.tup (ws.map V.str)) → Q (.ref p) H') : spRdM K CB [.str z] H Q E := by
  obtain ⟨f1, f2, f3⟩ := hz.split
  have hf := hz.fit
  refine ⟨_, rfl, .inr ⟨_, rfl, by omega, hf.many, hf.ws, .inr ?_⟩⟩
  rw [f1]
  exact ⟨hb, q⟩
end
end K
namespace K
open PySem PySem.Spec PyProof.Rows L2 G TL
local macro_rules | `(tactic| walk_at "side") => `(tactic| focus (first | assumption | exact rfl | omega | decide))
local macro_rules | `(tactic| walk_at "ty") => `(tactic| focus (first | exact .base (.str _) | exact .base (.int _) | exact .base (.bl _) | exact .base .non | exact .base (.lst (by assumption)) | exact .base (.tup (by assumption)) | exact .base (.dK (by assumption)) | assumption))
local macro_rules | `(tactic| walk_at "kt") => `(tactic| focus (with_reducible first | exact kt_NoneType_str | exact kt_NoneType_int | exact kt_NoneType_bool | exact kt_NoneType_tuple | exact kt_NoneType_list | exact kt_NoneType_dict | exact kt_bool_str | exact kt_bool_int | exact kt_bool_bool | exact kt_bool_tuple | exact kt_bool_list | exact kt_bool_dict | exact kt_int_str | exact kt_int_int | exact kt_int_bool | exact kt_int_tuple | exact kt_int_list | exact kt_int_dict | exact kt_str_str | exact kt_str_int | exact kt_str_bool | exact kt_str_tuple | exact kt_str_list | exact kt_str_dict | exact kt_list_str | exact kt_list_int | exact kt_list_bool | exact kt_list_tuple | exact kt_list_list | exact kt_list_dict | exact kt_tuple_str | exact kt_tuple_int | exact kt_tuple_bool | exact kt_tuple_tuple | exact kt_tuple_list | exact kt_tuple_dict | exact kt_dict_str | exact kt_dict_int | exact kt_dict_bool | exact kt_dict_tuple | exact kt_dict_list | exact kt_dict_dict | assumption))
local macro_rules | `(tactic| walk_at "1") => `(tactic| first
  | (with_reducible refine i_seq ?_)
  | (with_reducible refine iteT ?_)
  | (with_reducible refine iteF ?_)
  | (with_reducible refine iteNF ?_)
  | (with_reducible refine iteNT ?_)
  | (with_reducible refine i_asg ?_)
  | (with_reducible refine i_op ?_)
  | (with_reducible refine i_c ?_)
  | ((with_reducible apply i_var); (exact rfl))
  | (with_reducible refine i_cb ?_)
  | (with_reducible refine i_cons ?_)
  | (with_reducible refine i_nil ?_)
  | (with_reducible refine i_test ?_)
  | (with_reducible refine i_b ?_)
  | (with_reducible refine i_bl ?_)
  | (with_reducible refine i_name ?_)
  | (with_reducible refine i_ifS ?_)
  | (with_reducible refine i_next ?_)
  | (with_reducible refine i_ret ?_)
  | (with_reducible refine i_drop ?_)
  | (with_reducible refine i_lst ?_)
  | (with_reducible refine i_tup ?_)
  | (with_reducible refine i_and ?_)
  | (with_reducible refine i_or ?_)
  | (with_reducible refine i_not ?_)
  | (with_reducible refine i_andV ?_)
  | (with_reducible refine i_orV ?_)
  | (with_reducible refine i_notV ?_)
  | (with_reducible refine i_if ?_)
  | (with_reducible refine i_chain ?_)
  | (with_reducible refine i_un ?_)
  | (with_reducible refine i_neg ?_)
  | (with_reducible refine i_sub ?_)
  | (with_reducible refine i_sl ?_)
  | (with_reducible refine i_noP ?_)
  | (with_reducible refine i_part ?_)
  | (with_reducible refine i_int ?_)
  | (with_reducible refine i_bm ?_)
  | (with_reducible refine i_strT ?_)
  | (with_reducible refine i_yes ?_)
  | (with_reducible refine i_call ?_)
  | ((with_reducible refine i_len ?_ ?_); (focus (exact sz (by simp))))
  | (with_reducible refine i_lc ?_)
  | (with_reducible refine i_for ?_)
  | (with_reducible refine i_rng1 ?_)
  | (with_reducible refine i_rng2 ?_)
  | (with_reducible refine l_addI ?_)
  | (with_reducible refine l_subI ?_)
  | (with_reducible refine l_cmp ?_)
  | (with_reducible refine l_eqI ?_)
  | (with_reducible refine l_eqS ?_)
  | (with_reducible refine l_eqB ?_)
  | (with_reducible refine l_neI ?_)
  | (with_reducible refine l_neS ?_)
  | (with_reducible refine l_neB ?_)
  | (with_reducible refine l_isN ?_)
  | (with_reducible refine l_isNotN ?_)
  | (with_reducible refine l_isB ?_)
  | (with_reducible refine l_isNotB ?_)
  | (with_reducible refine l_intI ?_)
  | (with_reducible refine l_intB ?_)
  | (with_reducible refine l_inC ?_)
  | (refine ⟨_, _, rfl, rfl, sz (by first | omega | simp; omega), ?_⟩)
  | ((with_reducible refine l_pow ?_ ?_); (focus (exact ⟨by decide, by decide, by decide⟩)))
  | ((with_reducible refine l_mul ?_ ?_); (focus (first | assumption | exact Or.inl (Or.inl ⟨by omega, by omega⟩) | exact Or.inl (Or.inr ⟨by omega, by omega⟩))))
  | ((with_reducible refine l_div ?_ ?_); (focus (first | assumption | exact ⟨by decide, by decide⟩)))
  | ((with_reducible apply l_setL); (assumption); (exact rfl))
  | ((with_reducible refine l_mod ?_ ?_); (walk_at "side"))
  | ((with_reducible apply l_ixL); (assumption); (exact rfl))
  | ((with_reducible refine l_lenS ?_ ?_); (focus (first | assumption | exact sz (by omega) | exact sz (by simp; omega))))
  | ((with_reducible refine l_slS ?_ ?_); (focus (first | assumption | exact sz (by omega))))
  | ((with_reducible apply l_isi); (walk_at "ty"); (walk_at "kt"))
  | ((with_reducible apply l_lenL); (assumption)))
local macro_rules | `(tactic| walk_at "go") => `(tactic| repeat (walk_at "1"))
local macro_rules | `(tactic| walk_at "1") => `(tactic| first
  | (with_reducible refine i_mkS ?_)
  | (with_reducible refine i_cS ?_)
  | (with_reducible refine i_fld ?_)
  | (with_reducible refine i_sFld ?_)
  | (with_reducible refine i_tX ?_)
  | (with_reducible refine l_len2 rfl rfl ?_))
local macro_rules | `(tactic| walk_at "1") => `(tactic| first
  | (with_reducible refine i_stp ?_)
  | ((with_reducible apply i_iad); (exact rfl))
  | (with_reducible refine i_cO ?_)
  | (with_reducible refine i_prp ?_)
  | (with_reducible refine i_mtS ?_)
  | (with_reducible refine i_fldaug ?_)
  | (with_reducible refine i_par ?_)
  | (with_reducible refine i_par3 ?_)
  | (with_reducible refine i_revL ?_))
local macro_rules | `(tactic| walk_at "1") => `(tactic| first
  | (with_reducible refine i_dget ?_)
  | (with_reducible refine i_dput ?_)
  | (with_reducible refine i_sm ?_)
  | (with_reducible refine i_mkX ?_))
section
variable {P : Program} {w : World} {K : PySem.W.Frag} {mg : Str → Option Value} {base : Heap}
def spLaw (K : PySem.W.Frag) : Sp := fun vs H Q _ => ∃ (a : Addr) (ns : List Int), vs = [.ref a] ∧ SqL K H a (ns.map V.int) ∧ ns.length ≤ 63 ∧ ∀ H', Q (.bl true) H'
theorem RuleAt.dl {C : Addr} {H H' : Hp} {v : V} {zs : List Str} {st L : Addr} {b : Nat} (h : RuleAt C H v zs) (d : Dl H st L b) (e : But st H H') : RuleAt C H' v zs := by
  obtain ⟨x, dx, p, rfl, h1, h2, h3⟩ := h
  refine ⟨x, dx, p, rfl, e _ _ (d.ins_ne h1) h1, e _ _ (fun q => ?_) h2, h3⟩
  obtain ⟨ns, a, c, g1, _⟩ := d.ex
  rw [q, g1] at h2
  cases h2
theorem sh_tS (ns : List Str) (h : ∀ z ∈ ns, PyData.strOk z = true) : SeqAt.shaped (.tuple (ns.map PyData.str)) = true := by
  unfold SeqAt.shaped
  have h1 := depth_strs ns
  rw [PyData.canLay0, lay_strs ns h, PyData.depth]
  simp
  omega
theorem eqv_tS (ns ms : List Str) : PyData.eqv (.tuple (ns.map .str)) (.tuple (ms.map .str)) = decide (ns = ms) := by rw [PyData.eqv, eqv_strs]
set_option maxHeartbeats 4000000 in
theorem ok_law {a_KEYWORDS a_SWITCHES v_SWITCHES_0 v_SWITCHES_1 v_SWITCHES_2 v_SWITCHES_3 v_SWITCHES_4 v_SWITCHES_5 v_SWITCHES_6 C_RoundError C_BadSwitch C_BadNote C_Rule : Addr} (T : Tp K mg w a_KEYWORDS a_SWITCHES v_SWITCHES_0 v_SWITCHES_1 v_SWITCHES_2 v_SWITCHES_3 v_SWITCHES_4 v_SWITCHES_5 v_SWITCHES_6 C_RoundError C_BadSwitch C_BadNote C_Rule) {fa : Addr} (hfa : mg "law" = some (.ref fa)) : ∃ fd : FuncData, (∃ (kV doc pm : Value) (an : Option Addr) (cdv ct : Value), fd = PySem.W.fnOf "law" "law" (defArgs s_law) (defBody s_law) (defScope s_law) .none kV doc pm an cdv ct) ∧ ∀ base : Heap, Fg P w K mg base true 12 fa fd ["_law_script"] (spLaw K) := by
  refine T.d_law.lawG sc_law hfa (fun vs H Q E h => ?_) (fun base f cdv A outer s H vs Q E hr gd h => ?_)
  · obtain ⟨a, ns, rfl, _⟩ := h
    rfl
  · obtain ⟨a, script, rfl, hS, hl, fin⟩ := h
    have sc := sc_law
    have c__law_open : Cal P w K mg base 1 "_law_open" (spOpenL K) [] := ok_open T
    have c__law_draw : Cal P w K mg base 1 "_law_draw" spDrawL [] := ok_draw T
    have c__law_table : Cal P w K mg base 1 "_law_table" spTab [] := ok_tab T
    have c__law_word : Cal P w K mg base 2 "_law_word" spWord [] := ok_word T
    have c__law_spoilt : Cal P w K mg base 2 "_law_spoilt" spSp [] := ok_sp T
    have c_write_mark : Cal P w K mg base 1 "write_mark" (spWrM K) [] := ok_wrM T
    have c_write_rule := ok_wr (P := P) (w := w) (base := base) T
    have c_read_rule := ok_rdR (P := P) (w := w) (base := base) T
    have c_read_mark := ok_rdM (P := P) (w := w) (base := base) T
    have c__law_refused := ok_ref (P := P) (w := w) (base := base) T
    have c_Rule_0_bound_test_variable_limit_after_cell_skip := mk_Rule_all (P := P) (w := w) (base := base) T
    have c_Rule___eq__ := ok_reqR (P := P) (w := w) (base := base) T
    refine ⟨_, 
    (pss_cons (ps_set (i := 1) sc.nd rfl (by first | exact Or.inl rfl | exact Or.inr rfl) (pe_c c__law_open hr (by decide) (by rfl) (pa_cons (pv 0) pa_nil)))
    (pss_cons (ps_setLc (i := 2) (own := [("_law_row", 3)]) (by rfl) sc.nd rfl rfl (sw_true rfl rfl rfl (by decide +kernel)) (kIT (K := K) rfl (pe_call0C c__law_table hr (by decide) (by rfl))) (blkOk_by (N := ["_law_script", "_law_state", "_law_words", "_law_row", "_law_rule", "_law_line", "_law_mark", "_law_note", "_law_turn", "_law_value", "_law_odd"]) (sc := defScope s_law) (by decide +kernel)) (fun _ _ _ _ _ => pg_name (i := 3) sc.nd rfl (by first | exact Or.inl rfl | exact Or.inr rfl)) (fun _ _ _ _ _ => pts_nil) (fun _ _ _ _ _ => pe_ix (kIx (K := K) rfl) (pe_ix (kIx (K := K) rfl) (pv 3) (pe_int) (fun _ _ => rfl)) (pe_c c__law_draw hr (by decide) (by rfl) (pa_cons (pv 1) (pa_cons (pe_callB (kLen (K := K) rfl) (by rfl) T.m_len PySem.boot_len (pa_cons (pe_ix (kIx (K := K) rfl) (pv 3) (pe_int) (fun _ _ => rfl)) pa_nil)) pa_nil))) (fun _ _ => rfl)))
    (pss_cons (ps_set (i := 4) sc.nd rfl (by first | exact Or.inl rfl | exact Or.inr rfl) (pe_mkSK0 c_Rule_0_bound_test_variable_limit_after_cell_skip hr (by decide) takes0 (by rfl) (pk_cons (pe_ix (kIx (K := K) rfl) (pv 2) (pe_int) (fun _ _ => rfl)) (pk_cons (pe_ix (kIx (K := K) rfl) (pv 2) (pe_int) (fun _ _ => rfl)) (pk_cons (pe_ix (kIx (K := K) rfl) (pv 2) (pe_int) (fun _ _ => rfl)) (pk_cons (pe_ix (kIx (K := K) rfl) (pv 2) (pe_int) (fun _ _ => rfl)) (pk_cons (pe_ix (kIx (K := K) rfl) (pv 2) (pe_int) (fun _ _ => rfl)) (pk_cons (pe_ix (kIx (K := K) rfl) (pv 2) (pe_int) (fun _ _ => rfl)) (pk_cons (pe_ix (kIx (K := K) rfl) (pv 2) (pe_int) (fun _ _ => rfl)) (pk_nil))))))))))
    (pss_cons (ps_set (i := 5) sc.nd rfl (by first | exact Or.inl rfl | exact Or.inr rfl) (pe_join (pe_str) (pv 2)))
    (pss_cons (ps_if (pt_cut (PW.pt (pw_or (pt_cmpR (kNe (K := K) rfl hr) (pe_cS c_write_rule hr (by decide) (fun e => nomatch e) takes0 (by rfl) (pa_cons (pv 4) pa_nil)) (pv 5) (nomark _)) (pw_or (pt_cmpR (ne_opI c_Rule___eq__ T.ne_Rule T.ob_Rule hr (by decide)) (pe_cS c_read_rule hr (by decide) (fun e => nomatch e) takes0 (by rfl) (pa_cons (pv 5) pa_nil)) (pv 4) (nomark _)) (pw_or1 (pt_not (pt_val (pe_callB (kIsi (K := K) rfl) (by rfl) T.m_isinstance (by decide +kernel) (pa_cons (pe_cS c_read_rule hr (by decide) (fun e => nomatch e) takes0 (by rfl) (pa_cons (pv 5) pa_nil)) (pa_cons (pe_gc (by rfl) T.k_Rule) pa_nil)))))))))) (
      (pss_one (ps_ret (pe_bl)))) (pss_nil))
    (pss_cons (ps_set (i := 3) sc.nd rfl (by first | exact Or.inl rfl | exact Or.inr rfl) (pe_ix (kIx (K := K) rfl) (pe_call0C c__law_table hr (by decide) (by rfl)) (pe_c c__law_draw hr (by decide) (by rfl) (pa_cons (pv 1) (pa_cons (pe_int) pa_nil))) (fun _ _ => rfl)))
    (pss_cons (ps_set (i := 6) sc.nd rfl (by first | exact Or.inl rfl | exact Or.inr rfl) (pe_tup (pa_cons (pe_c c__law_word hr (by decide) (by rfl) (pa_cons (pv 1) (pa_cons (pe_str) pa_nil))) (pa_cons (pe_ix (kIx (K := K) rfl) (pv 3) (pe_int) (fun _ _ => rfl)) (pa_cons (pe_ix (kIx (K := K) rfl) (pe_ix (kIx (K := K) rfl) (pv 3) (pe_int) (fun _ _ => rfl)) (pe_c c__law_draw hr (by decide) (by rfl) (pa_cons (pv 1) (pa_cons (pe_callB (kLen (K := K) rfl) (by rfl) T.m_len PySem.boot_len (pa_cons (pe_ix (kIx (K := K) rfl) (pv 3) (pe_int) (fun _ _ => rfl)) pa_nil)) pa_nil))) (fun _ _ => rfl)) pa_nil)))))
    (pss_cons (ps_set (i := 7) sc.nd rfl (by first | exact Or.inl rfl | exact Or.inr rfl) (pe_join (pe_str) (pv 6)))
    (pss_cons (ps_if (pt_cut (PW.pt (pw_or (pt_cmpR (kNe (K := K) rfl hr) (pe_c c_write_mark hr (by decide) (by rfl) (pa_cons (pv 6) pa_nil)) (pv 7) (nomark _)) (pw_or (pt_cmpR (kNe (K := K) rfl hr) (pe_cS c_read_mark hr (by decide) (fun e => nomatch e) takes0 (by rfl) (pa_cons (pv 7) pa_nil)) (pv 6) (nomark _)) (pw_or1 (pt_not (pt_val (pe_callB (kIsi (K := K) rfl) (by rfl) T.m_isinstance (by decide +kernel) (pa_cons (pe_cS c_read_mark hr (by decide) (fun e => nomatch e) takes0 (by rfl) (pa_cons (pv 7) pa_nil)) (pa_cons (gTy (n := "tuple") (by rfl) T.m_tuple (by decide +kernel)) pa_nil)))))))))) (
      (pss_one (ps_ret (pe_bl)))) (pss_nil))
    (pss_cons (ps_for PassesOwn.never rfl (pi_range1 (by rfl) T.m_range (pa_cons (pe_int) pa_nil)) (pg_name (i := 8) sc.nd rfl (by first | exact Or.inl rfl | exact Or.inr rfl)) (
      (pss_one (ps_if (pt_cut (PW.pt (pw_or (pt_not (kTruth (K := K) rfl (pe_cS c__law_refused hr (by decide) (fun _ => gd rfl) takes0 (by rfl) (pa_cons (pe_int) (pa_cons (pe_c c__law_spoilt hr (by decide) (by rfl) (pa_cons (pv 1) (pa_cons (pv 5) pa_nil))) pa_nil))) (by intro _; rfl))) (pw_or1 (pt_not (kTruth (K := K) rfl (pe_cS c__law_refused hr (by decide) (fun _ => gd rfl) takes0 (by rfl) (pa_cons (pe_int) (pa_cons (pe_c c__law_spoilt hr (by decide) (by rfl) (pa_cons (pv 1) (pa_cons (pv 7) pa_nil))) pa_nil))) (by intro _; rfl))))))) (
        (pss_one (ps_ret (pe_bl)))) (pss_nil)))))
    (pss_cons (ps_for PassesOwn.never rfl (kIT (K := K) rfl (pe_lst (pa_cons (pe_non) (pa_cons (pe_int) (pa_cons (pe_bl) (pa_cons (pe_str) (pa_cons (pe_str) (pa_cons (pv 2) (pa_cons (pv 6) (pa_cons (pe_lst (pa_cons (pe_str) (pa_cons (pe_str) (pa_cons (pe_str) pa_nil)))) pa_nil)))))))))) (pg_name (i := 9) sc.nd rfl (by first | exact Or.inl rfl | exact Or.inr rfl)) (
      (pss_one (ps_if (pt_cut (PW.pt (pw_or (pt_not (kTruth (K := K) rfl (pe_cS c__law_refused hr (by decide) (fun _ => gd rfl) takes0 (by rfl) (pa_cons (pe_int) (pa_cons (pv 9) pa_nil))) (by intro _; rfl))) (pw_or1 (pt_not (kTruth (K := K) rfl (pe_cS c__law_refused hr (by decide) (fun _ => gd rfl) takes0 (by rfl) (pa_cons (pe_int) (pa_cons (pv 9) pa_nil))) (by intro _; rfl))))))) (
        (pss_one (ps_ret (pe_bl)))) (pss_nil)))))
    (pss_cons (ps_set (i := 10) sc.nd rfl (by first | exact Or.inl rfl | exact Or.inr rfl) (pe_lst (pa_cons (pe_str) (pa_cons (pe_str) (pa_cons (pe_str) (pa_cons (pe_str) (pa_cons (pe_str) (pa_cons (pe_str) pa_nil))))))))
    (pss_cons (ps_for PassesOwn.never rfl (kIT (K := K) rfl (pe_op (kAdd (K := K) rfl) (pv 10) (pe_lst (pa_cons (pv 5) pa_nil)))) (pg_name (i := 9) sc.nd rfl (by first | exact Or.inl rfl | exact Or.inr rfl)) (
      (pss_one (ps_if (pt_not (kTruth (K := K) rfl (pe_cS c__law_refused hr (by decide) (fun _ => gd rfl) takes0 (by rfl) (pa_cons (pe_int) (pa_cons (pv 9) pa_nil))) (by intro _; rfl))) (
        (pss_one (ps_ret (pe_bl)))) (pss_nil)))))
    (pss_one (ps_ret (pe_and (pe_cS c__law_refused hr (by decide) (fun _ => gd rfl) takes0 (by rfl) (pa_cons (pe_int) (pa_cons (pv 7) pa_nil))) (pe_one (pe_cmpR (eq_opI c_Rule___eq__ hr (by decide)) (pe_cS c_read_rule hr (by decide) (fun e => nomatch e) takes0 (by rfl) (pa_cons (pv 5) pa_nil)) (pv 4) (nomark _))))))))))))))))))), ?_⟩
    try rw [cxK]
    refine i_start (τ := [some (.ref a), none, none, none, none, none, none, none, none, none, none]) rfl ?_
    walk_at "go"
    refine ⟨a, script, rfl, hS, hl, fun st L H0 _ _ hD0 _ => ?_⟩
    walk_at "go"
    refine rd_words hD0 (by decide) (fun _ => rfl) (fun _ => rfl) (fun _ => rfl) fun pw zs H1 hz hpw w1 hD1 _ => ?_
    have nw := (hD0.ne hpw).1
    have hlz := hz.len
    clear hD0
    obtain ⟨z0, z1, z2, z3, z4, z5, z6, hzs⟩ : ∃ z0 z1 z2 z3 z4 z5 z6 : Str, zs = [z0, z1, z2, z3, z4, z5, z6] := by
      match zs, hz.len with
      | [_, _, _, _, _, _, _], _ => exact ⟨_, _, _, _, _, _, _, rfl⟩
    have w1' : H1 pw = some (.lst [.str z0, .str z1, .str z2, .str z3, .str z4, .str z5, .str z6]) := by rw [w1, hzs]; rfl
    walk_at "go"
    have rn := fun {Q : Addr → Hp → Prop} {E : XK} => rule_new (K := K) (C := C_Rule) (CB := C_BadSwitch) (H := H1) (Q := Q) (E := E) hz
    rw [hzs] at rn
    refine rn fun v H2 e2 hv => ?_
    rw [← hzs] at hv
    clear rn w1'
    replace w1 := e2 _ _ w1
    replace hD1 := hD1.mono e2
    walk_at "go"
    refine i_joinV rfl (.inl (.of w1)) (by omega) (fun w hw => (hz.wo w hw).1) ?_
    have hlin : Lin 7 (Txt.join " " zs) zs := ⟨rfl, hz.lw, hlz, by decide, by decide⟩
    generalize hline : Txt.join " " zs = line at hlin ⊢
    walk_at "go"
    refine i_cutT (fun b H' => b = false ∧ Ex H2 H') ?_ ?_
    · walk_at "go"
      refine ⟨_, zs, rfl, hv, fun H3 e3 => ?_⟩
      rw [hline]
      walk_at "go"
      rw [decide_eq_true (rfl : line = line)]
      walk_at "go"
      refine rd_rule hline.symm hz fun v2 H4 e4 hv2 => ?_
      have e34 := e3.trans e4
      walk_at "go"
      refine ne_RR T hv2 (hv.mono e34) ?_
      rw [decide_eq_true (rfl : zs = zs)]
      walk_at "go"
      refine rd_rule hline.symm hz fun v3 H5 e5 hv3 => ?_
      obtain ⟨x3, dx3, p3, rfl, hx3, _, _⟩ := hv3
      walk_at "go"
      refine .inl ⟨_, _, _, _, true, rfl, .own _, T.ty_Rule _ _ _ _ hx3, kit_self, ?_⟩
      walk_at "go"
      exact ⟨rfl, e34.trans e5⟩
    rintro _ H3 ⟨rfl, e3⟩
    replace hv := hv.mono e3
    replace w1 := e3 _ _ w1
    replace hD1 := hD1.mono e3
    clear e2 e3
    walk_at "go"
    refine ⟨rfl, fun tb H4 e4 ht => ?_⟩
    obtain ⟨rs, hta, hnt, hlr, hrow⟩ := ht
    have nt := (hD1.ne hnt).1
    have hD4 := hD1.mono e4
    replace hv := hv.mono e4
    replace w1 := e4 _ _ w1
    walk_at "go"
    refine drawL hD4 (by decide) (by decide) (by decide) fun r H5 r0 r1 hD5 b5 => ?_
    obtain ⟨i, rfl⟩ := Int.eq_ofNat_of_zero_le r0
    have li : i < rs.length := by omega
    have hri : rs[i]? = some (rs[i]'li) := List.getElem?_eq_getElem _
    generalize rs[i] = ra at hri
    obtain ⟨n, ws, wa, hw1, hw2, hw3, hw4, hw5⟩ := hrow i ra hri
    obtain ⟨s1, s2, s3, s4⟩ := wt_at hw1
    have nr := (hD1.ne hw4).1
    have nwa := (hD1.ne hw5).1
    refine l_ixL (b5 _ _ nt hta) (atI_nat (by rw [List.getElem?_map, hri]; rfl)) ?_
    replace hv := hv.dl hD4 b5
    replace w1 := b5 _ _ nw w1
    replace hw2 := b5 _ _ nr hw2
    replace hw3 := b5 _ _ nwa hw3
    clear hrow hta b5 e4 hD4 hD1 r0 r1
    walk_at "go"
    refine ⟨st, L, _, rfl, hD5, by decide, fun nm H6 hnm hD6 b6 => ?_⟩
    replace hv := hv.dl hD5 b6
    replace w1 := b6 _ _ nw w1
    replace hw2 := b6 _ _ nr hw2
    replace hw3 := b6 _ _ nwa hw3
    clear b6 hD5
    walk_at "go"
    refine drawL hD6 (by rw [List.length_map]; omega) (by rw [List.length_map]; omega) (by omega) fun k H7 k0 k1 hD7 b7 => ?_
    rw [List.length_map] at k1
    obtain ⟨c, hc, ec⟩ := at_map (f := V.str) (xs := ws) k0 k1
    refine l_ixL (b7 _ _ nwa hw3) ec ?_
    replace hv := hv.dl hD6 b7
    replace w1 := b7 _ _ nw w1
    clear hw2 hw3 b7 hD6 k0 k1
    walk_at "go"
    intro tm htm
    have e8 : Ex H7 (upd H7 tm (.tup [.str nm, .str n, .str c])) := Ex.new htm
    have w8 : (upd H7 tm (.tup [.str nm, .str n, .str c])) tm = some (.tup [.str nm, .str n, .str c]) := upd_same
    generalize (upd H7 tm (.tup [.str nm, .str n, .str c])) = H8 at e8 w8 ⊢
    replace w8 : H8 tm = some (.tup ([nm, n, c].map V.str)) := w8
    have nm8 := (hD7.ne htm).1
    replace hv := hv.mono e8
    replace w1 := e8 _ _ w1
    have hD8 := hD7.mono e8
    clear e8 hD7 htm
    have hmk : markB [nm, n, c] = true := by rw [markB_3, hnm, decide_eq_true (List.mem_of_getElem? s1), okW_of s2 hc]; rfl
    have hlm : Lin 3 (Txt.join " " [nm, n, c]) [nm, n, c] := ⟨rfl, fun w hw => by
      simp only [List.mem_cons, List.not_mem_nil, or_false] at hw
      rcases hw with rfl | rfl | rfl
      · obtain ⟨g1, g2, g3⟩ := nameOk_low hnm
        exact ⟨g1, by omega, g3⟩
      · obtain ⟨g1, g2, g3⟩ := sw_low _ (List.mem_of_getElem? s1)
        exact ⟨g3, by omega, g2⟩
      · exact okW_lw (okW_of s2 hc), rfl, by decide, by decide⟩
    have oks : ∀ w ∈ [nm, n, c], PyData.strOk w = true := fun w hw => wo_ok (hlm.lw w hw).wo
    walk_at "go"
    refine i_joinV rfl (.inr (.of w8)) (by simp) (fun w hw => (hlm.lw w hw).wo) ?_
    clear hnm s1 s2 hc
    generalize hms : [nm, n, c] = ms at hlm hmk w8 oks ⊢
    generalize hnote : Txt.join " " ms = note at hlm ⊢
    walk_at "go"
    refine i_cutT (fun b H' => b = false ∧ Ex H8 H') ?_ ?_
    · walk_at "go"
      refine ⟨tm, ms, rfl, .of w8, by have := hlm.len; omega, fun w hw => (hlm.lw w hw).wo, ?_⟩
      rw [hnote]
      walk_at "go"
      rw [decide_eq_true (rfl : note = note)]
      walk_at "go"
      refine rd_mark hlm hmk fun p9 H9 e9 w9 => ?_
      walk_at "go"
      refine l_neD (.tup (.of w9) (dp_strs ms)) (.tup (.of (e9 _ _ w8)) (dp_strs ms)) (sh_tS _ oks) (sh_tS _ oks) (eqv_tS ms ms) ?_
      rw [decide_eq_true (rfl : ms = ms)]
      walk_at "go"
      refine rd_mark hlm hmk fun p10 H10 e10 w10 => ?_
      walk_at "go"
      exact ⟨rfl, e9.trans e10⟩
    rintro _ H9 ⟨rfl, e9⟩
    replace hv := hv.mono e9
    replace w1 := e9 _ _ w1
    replace w8 := e9 _ _ w8
    replace hD8 := hD8.mono e9
    clear e9
    walk_at "go"
    refine ⟨3, rfl, by decide, by decide, ?_⟩
    refine for_rng (fun i σ H' => ∃ v8, σ = [some (.ref a), some (.ref st), some (.ref pw), some (.ref ra), some (.ref v), some (.str line), some (.ref tm), some (.str note), v8, none, none] ∧ Dl H' st L (1000 + 10 * i) ∧ H' pw = some (.lst (zs.map V.str)) ∧ H' tm = some (.tup (ms.map V.str)) ∧ RuleAt C_Rule H' (.ref v) zs) ⟨_, rfl, hD8.up (by omega), w1, w8, hv⟩ ?_ ?_
    · rintro i σ J hi ⟨v8, rfl, hD, w1, w8, hv⟩
      have hi3 : i < 3 := hi
      walk_at "go"
      refine i_cutT (fun b H' => b = false ∧ Dl H' st L (1000 + 10 * (i + 1)) ∧ H' pw = some (.lst (zs.map V.str)) ∧ H' tm = some (.tup (ms.map V.str)) ∧ RuleAt C_Rule H' (.ref v) zs) ?_ ?_
      · walk_at "go"
        refine ⟨st, L, _, _, zs, rfl, hD, by omega, hlin.eq, by omega, by omega, hz.lw, fun vs J1 sp hD1 b1 => ?_⟩
        walk_at "go"
        obtain ⟨ft, es⟩ := sp.fit
        refine ⟨0, _, _, rfl, .inl rfl, ft.shw, .inr ⟨_, rfl, ft, fun _ => by rw [es]; exact rule_bd (by rw [← hlz]; exact sp.bd), fun e => nomatch e⟩, fun J2 e2 => ⟨true, by simp [TruV], ?_⟩⟩
        walk_at "go"
        refine ⟨st, L, _, _, ms, rfl, hD1.mono e2, by omega, hlm.eq, by have := hlm.len; omega, by have := hlm.len; omega, hlm.lw, fun vs2 J3 sp2 hD3 b3 => ?_⟩
        walk_at "go"
        obtain ⟨ft2, es2⟩ := sp2.fit
        refine ⟨1, _, _, rfl, .inr rfl, ft2.shw, .inr ⟨_, rfl, ft2, (fun e => nomatch e), fun _ => by rw [es2]; exact mark_bd (by rw [← hlm.len]; exact sp2.bd)⟩, fun J4 e4 => ⟨true, by simp [TruV], ?_⟩⟩
        have bb := (b1.trans e2.but).trans (b3.trans e4.but)
        exact ⟨rfl, (hD3.mono e4).up (by omega), bb _ _ nw w1, bb _ _ nm8 w8, hv.dl hD bb⟩
      rintro _ J1 ⟨rfl, hD1, w1', w8', hv'⟩
      walk_at "go"
      exact ⟨_, rfl, hD1, w1', w8', hv'⟩
    rintro σ J ⟨v8, rfl, hD, w1', w8', hv'⟩
    clear w1 w8 hv hD8
    walk_at "go"
    refine i_anyL ?_
    walk_at "go"
    intro q1 hq1
    have e1 : Ex J (upd J q1 (.lst [.str "i", .str "bound", .str "once"])) := Ex.new hq1
    have x1 : (upd J q1 (.lst [.str "i", .str "bound", .str "once"])) q1 = some (.lst [.str "i", .str "bound", .str "once"]) := upd_same
    generalize (upd J q1 (.lst [.str "i", .str "bound", .str "once"])) = J1 at e1 x1 ⊢
    walk_at "go"
    intro q2 hq2
    have e2 : Ex J1 (upd J1 q2 (.lst [.non, .int 0, .bl true, .str "", .str "/", .ref pw, .ref tm, .ref q1])) := Ex.new hq2
    have x2 : (upd J1 q2 (.lst [.non, .int 0, .bl true, .str "", .str "/", .ref pw, .ref tm, .ref q1])) q2 = some (.lst [.non, .int 0, .bl true, .str "", .str "/", .ref pw, .ref tm, .ref q1]) := upd_same
    generalize (upd J1 q2 (.lst [.non, .int 0, .bl true, .str "", .str "/", .ref pw, .ref tm, .ref q1])) = J2 at e2 x2 ⊢
    have e02 := e1.trans e2
    have w1 := e02 _ _ w1'
    have w8 := e02 _ _ w8'
    have hv := hv'.mono e02
    replace x1 : J2 q1 = some (.lst ((["i", "bound", "once"] : List Str).map V.str)) := e2 _ _ x1
    clear w1' w8' hv' e1 e2 e02 hD
    have vals : ∀ x ∈ [V.non, .int 0, .bl true, .str "", .str "/", .ref pw, .ref tm, .ref q1], ∃ z, Shw K J2 x z ∧ ((Kd K J2 x ∧ isS x = false) ∨ (∃ y, x = .str y ∧ Fit y ∧ ruleB (Txt.split y " ") = false ∧ markB (Txt.split y " ") = false)) := fun x hx => by
      simp only [List.mem_cons, List.not_mem_nil, or_false] at hx
      rcases hx with rfl | rfl | rfl | rfl | rfl | rfl | rfl | rfl
      · exact ⟨_, shw_dp .non rfl rfl (by decide) (by decide), .inl ⟨.inl rfl, rfl⟩⟩
      · exact ⟨_, shw_dp (.int 0) rfl rfl (by decide) (by decide), .inl ⟨.inl rfl, rfl⟩⟩
      · exact ⟨_, shw_dp (.bl true) rfl rfl (by decide) (by decide), .inl ⟨.inl rfl, rfl⟩⟩
      · exact ⟨_, shw_dp (.str _) rfl rfl (by decide +kernel) (by decide), .inr ⟨_, rfl, ⟨by decide +kernel, by decide +kernel, by decide +kernel, by decide +kernel⟩, by decide +kernel, by decide +kernel⟩⟩
      · exact ⟨_, shw_dp (.str _) rfl rfl (by decide +kernel) (by decide), .inr ⟨_, rfl, ⟨by decide +kernel, by decide +kernel, by decide +kernel, by decide +kernel⟩, by decide +kernel, by decide +kernel⟩⟩
      · exact ⟨_, shw_list (.lst (.of w1) (dp_strs zs)) (lf_strs fun w hw => (hz.wo w hw).1) (by rw [List.length_map]; omega), .inl ⟨.l (.of w1), rfl⟩⟩
      · exact ⟨_, shw_tup (.tup (.of w8) (dp_strs ms)) (lf_strs fun w hw => (hlm.lw w hw).wo) (by rw [List.length_map, hlm.len]; decide), .inl ⟨.t (.of w8), rfl⟩⟩
      · exact ⟨_, shw_dp (d := .list (([("i" : Str), "bound", "once"]).map .str)) (.lst (.of x1) (dp_strs _)) (by decide) (by decide) (by decide +kernel) (by decide), .inl ⟨.l (.of x1), rfl⟩⟩
    refine ⟨q2, rfl, ⟨_, .of x2⟩, ?_⟩
    refine for_lst (xs := [V.non, .int 0, .bl true, .str "", .str "/", .ref pw, .ref tm, .ref q1]) (fun _ σ H' => ∃ v9, σ = [some (.ref a), some (.ref st), some (.ref pw), some (.ref ra), some (.ref v), some (.str line), some (.ref tm), some (.str note), v8, v9, none] ∧ Ex J2 H') ⟨_, rfl, Ex.refl _⟩ (fun _ _ _ _ ⟨_, _, e⟩ => .of (e _ _ x2)) ?_ ?_
    · rintro j x σ J3 hj ⟨v9, rfl, e⟩
      obtain ⟨z, hz1, hz2⟩ := vals x (List.mem_of_getElem? hj)
      walk_at "go"
      refine i_cutT (fun b H' => b = false ∧ Ex J2 H') ?_ ?_
      · walk_at "go"
        refine ⟨0, x, z, rfl, .inl rfl, hz1.mono e, ?_, fun J4 e4 => ⟨true, by simp [TruV], ?_⟩⟩
        · rcases hz2 with ⟨h1, h2⟩ | ⟨y, h1, h2, h3, h4⟩
          · obtain ⟨t, g1, g2⟩ := kd_str (h1.mono e)
            rw [h2] at g2
            exact .inl ⟨t, g1, g2⟩
          · exact .inr ⟨y, h1, h2, fun _ => h3, fun _ => h4⟩
        walk_at "go"
        refine ⟨1, x, z, rfl, .inr rfl, hz1.mono (e.trans e4), ?_, fun J5 e5 => ⟨true, by simp [TruV], ?_⟩⟩
        · rcases hz2 with ⟨h1, h2⟩ | ⟨y, h1, h2, h3, h4⟩
          · obtain ⟨t, g1, g2⟩ := kd_str (h1.mono (e.trans e4))
            rw [h2] at g2
            exact .inl ⟨t, g1, g2⟩
          · exact .inr ⟨y, h1, h2, fun _ => h3, fun _ => h4⟩
        exact ⟨rfl, e.trans (e4.trans e5)⟩
      rintro _ J4 ⟨rfl, e4⟩
      walk_at "go"
      exact ⟨_, rfl, e4⟩
    rintro σ J3 ⟨v9, rfl, e⟩
    replace hv := hv.mono e
    clear vals w1 w8 x1 x2 e
    walk_at "go"
    intro q3 hq3
    have e4 : Ex J3 (upd J3 q3 (.lst [.str "loop bound once", .str "Abc bound once", .str "abcdefghi bound once", .str "i bound first", .str "i bounds once", .str "i once bound"])) := Ex.new hq3
    have x3 : (upd J3 q3 (.lst [.str "loop bound once", .str "Abc bound once", .str "abcdefghi bound once", .str "i bound first", .str "i bounds once", .str "i once bound"])) q3 = some (.lst [.str "loop bound once", .str "Abc bound once", .str "abcdefghi bound once", .str "i bound first", .str "i bounds once", .str "i once bound"]) := upd_same
    generalize (upd J3 q3 (.lst [.str "loop bound once", .str "Abc bound once", .str "abcdefghi bound once", .str "i bound first", .str "i bounds once", .str "i once bound"])) = J4 at e4 x3 ⊢
    replace hv := hv.mono e4
    walk_at "go"
    refine i_anyL ?_
    walk_at "go"
    intro q4 hq4
    have e5 : Ex J4 (upd J4 q4 (.lst [.str line])) := Ex.new hq4
    have x4 : (upd J4 q4 (.lst [.str line])) q4 = some (.lst [.str line]) := upd_same
    generalize (upd J4 q4 (.lst [.str line])) = J5 at e5 x4 ⊢
    refine e_addL (e5 _ _ x3) x4 (by simp) fun q5 J6 hq5 e6 x5 => ?_
    replace hv := hv.mono (e5.trans e6)
    clear e4 e5 e6 x3 x4
    have vals : ∀ x ∈ [V.str "loop bound once", .str "Abc bound once", .str "abcdefghi bound once", .str "i bound first", .str "i bounds once", .str "i once bound"] ++ [.str line], ∃ y, x = .str y ∧ Fit y ∧ markB (Txt.split y " ") = false := fun x hx => by
      have lit : ∀ z ∈ (["loop bound once", "Abc bound once", "abcdefghi bound once", "i bound first", "i bounds once", "i once bound"] : List Str), z.length ≤ 9000 ∧ (∀ c ∈ z.cps.toList, c < 16 ^ 8) ∧ (Txt.split z " ").length ≤ 900 ∧ (∀ w ∈ Txt.split z " ", w.length ≤ 1000) ∧ markB (Txt.split z " ") = false := by decide +kernel
      rcases List.mem_append.mp hx with hx | hx
      · obtain ⟨z, hzm, rfl⟩ : ∃ z ∈ (["loop bound once", "Abc bound once", "abcdefghi bound once", "i bound first", "i bounds once", "i once bound"] : List Str), x = .str z := by
          simp only [List.mem_cons, List.not_mem_nil, or_false] at hx
          rcases hx with rfl | rfl | rfl | rfl | rfl | rfl
          all_goals exact ⟨_, by decide, rfl⟩
        obtain ⟨g1, g2, g3, g4, g5⟩ := lit z hzm
        exact ⟨z, rfl, ⟨g1, g2, g3, g4⟩, g5⟩
      · cases List.mem_singleton.mp hx
        refine ⟨line, rfl, hlin.fit, ?_⟩
        rw [hlin.split.1]
        exact mark_bd (.inl (by rw [hlz]; decide))
    refine ⟨q5, rfl, ⟨_, .of x5⟩, ?_⟩
    refine for_lst (xs := [V.str "loop bound once", .str "Abc bound once", .str "abcdefghi bound once", .str "i bound first", .str "i bounds once", .str "i once bound"] ++ [.str line]) (fun _ σ H' => ∃ v9, σ = [some (.ref a), some (.ref st), some (.ref pw), some (.ref ra), some (.ref v), some (.str line), some (.ref tm), some (.str note), v8, v9, some (.ref q3)] ∧ Ex J6 H') ⟨_, rfl, Ex.refl _⟩ (fun _ _ _ _ ⟨_, _, e⟩ => .of (e _ _ x5)) ?_ ?_
    · rintro j x σ J7 hj ⟨v9, rfl, e⟩
      obtain ⟨y, rfl, ft, hm⟩ := vals x (List.mem_of_getElem? hj)
      walk_at "go"
      refine ⟨1, _, _, rfl, .inr rfl, ft.shw, .inr ⟨y, rfl, ft, (fun e => nomatch e), fun _ => hm⟩, fun J8 e8 => ⟨true, by simp [TruV], ?_⟩⟩
      walk_at "go"
      exact ⟨_, rfl, e.trans e8⟩
    rintro σ J7 ⟨v9', rfl, e⟩
    replace hv := hv.mono e
    clear e vals
    walk_at "go"
    refine ⟨0, _, _, rfl, .inl rfl, hlm.fit.shw, .inr ⟨_, rfl, hlm.fit, fun _ => ?_, fun e => nomatch e⟩, fun J8 e8 => ?_⟩
    · rw [hlm.split.1]
      exact rule_bd (.inl (by rw [hlm.len]; decide))
    walk_at "go"
    refine rd_rule hline.symm hz fun v2 J9 e9 hv2 => ?_
    walk_at "go"
    refine eq_RR T hv2 (hv.mono (e8.trans e9)) ?_
    rw [decide_eq_true (rfl : zs = zs)]
    exact fin _
theorem law_mk {fa : Addr} (hfa : mg "law" = some (.ref fa)) (hT : ∃ a_KEYWORDS a_SWITCHES v_SWITCHES_0 v_SWITCHES_1 v_SWITCHES_2 v_SWITCHES_3 v_SWITCHES_4 v_SWITCHES_5 v_SWITCHES_6 C_RoundError C_BadSwitch C_BadNote C_Rule : Addr, Tp K mg w a_KEYWORDS a_SWITCHES v_SWITCHES_0 v_SWITCHES_1 v_SWITCHES_2 v_SWITCHES_3 v_SWITCHES_4 v_SWITCHES_5 v_SWITCHES_6 C_RoundError C_BadSwitch C_BadNote C_Rule) :
    ∃ fd : FuncData, (∀ (s : Shared) (u : Value), BindsTo s fd ⟨[u], []⟩ [("_law_script", u)]) ∧ ∀ base : Heap, K.In base → base.Ns mainGlobals mg → Fg P w K mg base true 12 fa fd ["_law_script"] (spLaw K) := by
  obtain ⟨a_KEYWORDS, a_SWITCHES, v_SWITCHES_0, v_SWITCHES_1, v_SWITCHES_2, v_SWITCHES_3, v_SWITCHES_4, v_SWITCHES_5, v_SWITCHES_6, C_RoundError, C_BadSwitch, C_BadNote, C_Rule, T⟩ := hT
  obtain ⟨fd, ⟨kV, doc, pm, an, cdv, ct, rfl⟩, hF⟩ := ok_law (P := P) (w := w) T hfa
  exact ⟨_, fun s v => .of_eq rfl, fun base _ _ => hF base⟩
end
end K
namespace K
open PySem PySem.Spec PyProof.Rows L2 G TL
local macro_rules | `(tactic| walk_at "side") => `(tactic| focus (first | assumption | exact rfl | omega | decide))
local macro_rules | `(tactic| walk_at "ty") => `(tactic| focus (first | exact .base (.str _) | exact .base (.int _) | exact .base (.bl _) | exact .base .non | exact .base (.lst (by assumption)) | exact .base (.tup (by assumption)) | exact .base (.dK (by assumption)) | assumption))
local macro_rules | `(tactic| walk_at "kt") => `(tactic| focus (with_reducible first | exact kt_NoneType_str | exact kt_NoneType_int | exact kt_NoneType_bool | exact kt_NoneType_tuple | exact kt_NoneType_list | exact kt_NoneType_dict | exact kt_bool_str | exact kt_bool_int | exact kt_bool_bool | exact kt_bool_tuple | exact kt_bool_list | exact kt_bool_dict | exact kt_int_str | exact kt_int_int | exact kt_int_bool | exact kt_int_tuple | exact kt_int_list | exact kt_int_dict | exact kt_str_str | exact kt_str_int | exact kt_str_bool | exact kt_str_tuple | exact kt_str_list | exact kt_str_dict | exact kt_list_str | exact kt_list_int | exact kt_list_bool | exact kt_list_tuple | exact kt_list_list | exact kt_list_dict | exact kt_tuple_str | exact kt_tuple_int | exact kt_tuple_bool | exact kt_tuple_tuple | exact kt_tuple_list | exact kt_tuple_dict | exact kt_dict_str | exact kt_dict_int | exact kt_dict_bool | exact kt_dict_tuple | exact kt_dict_list | exact kt_dict_dict | assumption))
local macro_rules | `(tactic| walk_at "1") => `(tactic| first
  | (with_reducible refine i_seq ?_)
  | (with_reducible refine iteT ?_)
  | (with_reducible refine iteF ?_)
  | (with_reducible refine iteNF ?_)
  | (with_reducible refine iteNT ?_)
  | (with_reducible refine i_asg ?_)
  | (with_reducible refine i_op ?_)
  | (with_reducible refine i_c ?_)
  | ((with_reducible apply i_var); (exact rfl))
  | (with_reducible refine i_cb ?_)
  | (with_reducible refine i_cons ?_)
  | (with_reducible refine i_nil ?_)
  | (with_reducible refine i_test ?_)
  | (with_reducible refine i_b ?_)
  | (with_reducible refine i_bl ?_)
  | (with_reducible refine i_name ?_)
  | (with_reducible refine i_ifS ?_)
  | (with_reducible refine i_next ?_)
  | (with_reducible refine i_ret ?_)
  | (with_reducible refine i_drop ?_)
  | (with_reducible refine i_lst ?_)
  | (with_reducible refine i_tup ?_)
  | (with_reducible refine i_and ?_)
  | (with_reducible refine i_or ?_)
  | (with_reducible refine i_not ?_)
  | (with_reducible refine i_andV ?_)
  | (with_reducible refine i_orV ?_)
  | (with_reducible refine i_notV ?_)
  | (with_reducible refine i_if ?_)
  | (with_reducible refine i_chain ?_)
  | (with_reducible refine i_un ?_)
  | (with_reducible refine i_neg ?_)
  | (with_reducible refine i_sub ?_)
  | (with_reducible refine i_sl ?_)
  | (with_reducible refine i_noP ?_)
  | (with_reducible refine i_part ?_)
  | (with_reducible refine i_int ?_)
  | (with_reducible refine i_bm ?_)
  | (with_reducible refine i_strT ?_)
  | (with_reducible refine i_yes ?_)
  | (with_reducible refine i_call ?_)
  | ((with_reducible refine i_len ?_ ?_); (focus (exact sz (by simp))))
  | (with_reducible refine i_lc ?_)
  | (with_reducible refine i_for ?_)
  | (with_reducible refine i_rng1 ?_)
  | (with_reducible refine i_rng2 ?_)
  | (with_reducible refine l_addI ?_)
  | (with_reducible refine l_subI ?_)
  | (with_reducible refine l_cmp ?_)
  | (with_reducible refine l_eqI ?_)
  | (with_reducible refine l_eqS ?_)
  | (with_reducible refine l_eqB ?_)
  | (with_reducible refine l_neI ?_)
  | (with_reducible refine l_neS ?_)
  | (with_reducible refine l_neB ?_)
  | (with_reducible refine l_isN ?_)
  | (with_reducible refine l_isNotN ?_)
  | (with_reducible refine l_isB ?_)
  | (with_reducible refine l_isNotB ?_)
  | (with_reducible refine l_intI ?_)
  | (with_reducible refine l_intB ?_)
  | (with_reducible refine l_inC ?_)
  | (refine ⟨_, _, rfl, rfl, sz (by first | omega | simp; omega), ?_⟩)
  | ((with_reducible refine l_pow ?_ ?_); (focus (exact ⟨by decide, by decide, by decide⟩)))
  | ((with_reducible refine l_mul ?_ ?_); (focus (first | assumption | exact Or.inl (Or.inl ⟨by omega, by omega⟩) | exact Or.inl (Or.inr ⟨by omega, by omega⟩))))
  | ((with_reducible refine l_div ?_ ?_); (focus (first | assumption | exact ⟨by decide, by decide⟩)))
  | ((with_reducible apply l_setL); (assumption); (exact rfl))
  | ((with_reducible refine l_mod ?_ ?_); (walk_at "side"))
  | ((with_reducible apply l_ixL); (assumption); (exact rfl))
  | ((with_reducible refine l_lenS ?_ ?_); (focus (first | assumption | exact sz (by omega) | exact sz (by simp; omega))))
  | ((with_reducible refine l_slS ?_ ?_); (focus (first | assumption | exact sz (by omega))))
  | ((with_reducible apply l_isi); (walk_at "ty"); (walk_at "kt"))
  | ((with_reducible apply l_lenL); (assumption)))
local macro_rules | `(tactic| walk_at "go") => `(tactic| repeat (walk_at "1"))
local macro_rules | `(tactic| walk_at "1") => `(tactic| first
  | (with_reducible refine i_mkS ?_)
  | (with_reducible refine i_cS ?_)
  | (with_reducible refine i_fld ?_)
  | (with_reducible refine i_sFld ?_)
  | (with_reducible refine i_tX ?_)
  | (with_reducible refine l_len2 rfl rfl ?_))
local macro_rules | `(tactic| walk_at "1") => `(tactic| first
  | (with_reducible refine i_stp ?_)
  | ((with_reducible apply i_iad); (exact rfl))
  | (with_reducible refine i_cO ?_)
  | (with_reducible refine i_prp ?_)
  | (with_reducible refine i_mtS ?_)
  | (with_reducible refine i_fldaug ?_)
  | (with_reducible refine i_par ?_)
  | (with_reducible refine i_par3 ?_)
  | (with_reducible refine i_revL ?_))
local macro_rules | `(tactic| walk_at "1") => `(tactic| first
  | (with_reducible refine i_dget ?_)
  | (with_reducible refine i_dput ?_)
  | (with_reducible refine i_sm ?_)
  | (with_reducible refine i_mkX ?_))
section
variable {P : Program} {w : World} {K : PySem.W.Frag} {mg : Str → Option Value} {base : Heap}
theorem all_mk {w : World} {K : PySem.W.Frag} {h : Heap} {mg : Str → Option Value} {fa : Addr} (X : K.In h) (G : h.Ns mainGlobals mg) (hfa : mg "law" = some (.ref fa))
    {tk_LETTERS : Tok}
    {a_KEYWORDS : Addr} {dd_KEYWORDS : Option Addr} {n_KEYWORDS : Nat} {sl_KEYWORDS : Array (Option Value)} {tk_KEYWORDS_0 tk_KEYWORDS_1 tk_KEYWORDS_2 tk_KEYWORDS_3 tk_KEYWORDS_4 tk_KEYWORDS_5 tk_KEYWORDS_6 tk_KEYWORDS_7 tk_KEYWORDS_8 tk_KEYWORDS_9 tk_KEYWORDS_10 tk_KEYWORDS_11 tk_KEYWORDS_12 tk_KEYWORDS_13 tk_KEYWORDS_14 : Tok}
    {a_SWITCHES : Addr} {n_SWITCHES : Nat}
    {tk_SWITCHES_0 : Tok}
    {v_SWITCHES_0 : Addr} {dd_SWITCHES_0 : Option Addr} {nn_SWITCHES_0 : Nat} {sl_SWITCHES_0 : Array (Option Value)} {tk_SWITCHES_0_0 : Tok} {tk_SWITCHES_0_1 : Tok}
    {tk_SWITCHES_1 : Tok}
    {v_SWITCHES_1 : Addr} {dd_SWITCHES_1 : Option Addr} {nn_SWITCHES_1 : Nat} {sl_SWITCHES_1 : Array (Option Value)} {tk_SWITCHES_1_0 : Tok} {tk_SWITCHES_1_1 : Tok}
    {tk_SWITCHES_2 : Tok}
    {v_SWITCHES_2 : Addr} {dd_SWITCHES_2 : Option Addr} {nn_SWITCHES_2 : Nat} {sl_SWITCHES_2 : Array (Option Value)} {tk_SWITCHES_2_0 : Tok} {tk_SWITCHES_2_1 : Tok} {tk_SWITCHES_2_2 : Tok}
    {tk_SWITCHES_3 : Tok}
    {v_SWITCHES_3 : Addr} {dd_SWITCHES_3 : Option Addr} {nn_SWITCHES_3 : Nat} {sl_SWITCHES_3 : Array (Option Value)} {tk_SWITCHES_3_0 : Tok} {tk_SWITCHES_3_1 : Tok}
    {tk_SWITCHES_4 : Tok}
    {v_SWITCHES_4 : Addr} {dd_SWITCHES_4 : Option Addr} {nn_SWITCHES_4 : Nat} {sl_SWITCHES_4 : Array (Option Value)} {tk_SWITCHES_4_0 : Tok} {tk_SWITCHES_4_1 : Tok} {tk_SWITCHES_4_2 : Tok} {tk_SWITCHES_4_3 : Tok}
    {tk_SWITCHES_5 : Tok}
    {v_SWITCHES_5 : Addr} {dd_SWITCHES_5 : Option Addr} {nn_SWITCHES_5 : Nat} {sl_SWITCHES_5 : Array (Option Value)} {tk_SWITCHES_5_0 : Tok} {tk_SWITCHES_5_1 : Tok}
    {tk_SWITCHES_6 : Tok}
    {v_SWITCHES_6 : Addr} {dd_SWITCHES_6 : Option Addr} {nn_SWITCHES_6 : Nat} {sl_SWITCHES_6 : Array (Option Value)} {tk_SWITCHES_6_0 : Tok} {tk_SWITCHES_6_1 : Tok}
    {C_RoundError : Addr}
    {C_BadSwitch : Addr}
    {nm_BadSwitch qn_BadSwitch : Str} {N_BadSwitch : Addr} {bs_BadSwitch : List Value} {sn_BadSwitch : List Str} {su_BadSwitch : List Value} {ab_BadSwitch : Bool} {co_BadSwitch : Option Bool} {dd_BadSwitch : Option Addr} {x0_BadSwitch x1_BadSwitch x2_BadSwitch x3_BadSwitch x5_BadSwitch : Option Value}
    {f_BadSwitch___init__ : Addr} {od_BadSwitch___init__ an_BadSwitch___init__ : Option Addr} {sl_BadSwitch___init__ : Array (Option Value)} {oc_BadSwitch___init__ kV_BadSwitch___init__ dc_BadSwitch___init__ pm_BadSwitch___init__ cd_BadSwitch___init__ ct_BadSwitch___init__ : Value}
    {C_BadNote : Addr}
    {nm_BadNote qn_BadNote : Str} {N_BadNote : Addr} {bs_BadNote : List Value} {sn_BadNote : List Str} {su_BadNote : List Value} {ab_BadNote : Bool} {co_BadNote : Option Bool} {dd_BadNote : Option Addr} {x0_BadNote x1_BadNote x2_BadNote x3_BadNote x5_BadNote : Option Value}
    {f_BadNote___init__ : Addr} {od_BadNote___init__ an_BadNote___init__ : Option Addr} {sl_BadNote___init__ : Array (Option Value)} {oc_BadNote___init__ kV_BadNote___init__ dc_BadNote___init__ pm_BadNote___init__ cd_BadNote___init__ ct_BadNote___init__ : Value}
    {C_Rule : Addr}
    {D_Rule : Addr} {kt_Rule_bound : Tok} {kt_Rule_test : Tok} {kt_Rule_variable : Tok} {kt_Rule_limit : Tok} {kt_Rule_after : Tok} {kt_Rule_cell : Tok} {kt_Rule_skip : Tok}
    {f_Rule___init__ : Addr} {od_Rule___init__ an_Rule___init__ : Option Addr} {sl_Rule___init__ : Array (Option Value)} {oc_Rule___init__ dc_Rule___init__ pm_Rule___init__ cd_Rule___init__ ct_Rule___init__ : Value}
    {p_Rule_counting : Addr} {r_Rule_counting : List Value}
    {f_Rule_counting : Addr} {od_Rule_counting an_Rule_counting : Option Addr} {sl_Rule_counting : Array (Option Value)} {oc_Rule_counting kV_Rule_counting dc_Rule_counting pm_Rule_counting cd_Rule_counting ct_Rule_counting : Value}
    {p_Rule_testing : Addr} {r_Rule_testing : List Value}
    {f_Rule_testing : Addr} {od_Rule_testing an_Rule_testing : Option Addr} {sl_Rule_testing : Array (Option Value)} {oc_Rule_testing kV_Rule_testing dc_Rule_testing pm_Rule_testing cd_Rule_testing ct_Rule_testing : Value}
    {p_Rule_closed : Addr} {r_Rule_closed : List Value}
    {f_Rule_closed : Addr} {od_Rule_closed an_Rule_closed : Option Addr} {sl_Rule_closed : Array (Option Value)} {oc_Rule_closed kV_Rule_closed dc_Rule_closed pm_Rule_closed cd_Rule_closed ct_Rule_closed : Value}
    {p_Rule_trailing : Addr} {r_Rule_trailing : List Value}
    {f_Rule_trailing : Addr} {od_Rule_trailing an_Rule_trailing : Option Addr} {sl_Rule_trailing : Array (Option Value)} {oc_Rule_trailing kV_Rule_trailing dc_Rule_trailing pm_Rule_trailing cd_Rule_trailing ct_Rule_trailing : Value}
    {f_Rule___getitem__ : Addr} {od_Rule___getitem__ an_Rule___getitem__ : Option Addr} {sl_Rule___getitem__ : Array (Option Value)} {oc_Rule___getitem__ kV_Rule___getitem__ dc_Rule___getitem__ pm_Rule___getitem__ cd_Rule___getitem__ ct_Rule___getitem__ : Value}
    {f_Rule___iter__ : Addr} {od_Rule___iter__ an_Rule___iter__ : Option Addr} {sl_Rule___iter__ : Array (Option Value)} {oc_Rule___iter__ kV_Rule___iter__ dc_Rule___iter__ pm_Rule___iter__ cd_Rule___iter__ ct_Rule___iter__ : Value}
    {f_Rule___eq__ : Addr} {od_Rule___eq__ an_Rule___eq__ : Option Addr} {sl_Rule___eq__ : Array (Option Value)} {oc_Rule___eq__ kV_Rule___eq__ dc_Rule___eq__ pm_Rule___eq__ cd_Rule___eq__ ct_Rule___eq__ : Value}
    {f_Rule_changed : Addr} {od_Rule_changed an_Rule_changed : Option Addr} {sl_Rule_changed : Array (Option Value)} {oc_Rule_changed kV_Rule_changed dc_Rule_changed pm_Rule_changed cd_Rule_changed ct_Rule_changed : Value}
    {f__wall : Addr} {od__wall an__wall : Option Addr} {sl__wall : Array (Option Value)} {oc__wall kV__wall dc__wall pm__wall cd__wall ct__wall : Value}
    {f_is_name : Addr} {od_is_name an_is_name : Option Addr} {sl_is_name : Array (Option Value)} {oc_is_name kV_is_name dc_is_name pm_is_name cd_is_name ct_is_name : Value}
    {f_is_word : Addr} {od_is_word an_is_word : Option Addr} {sl_is_word : Array (Option Value)} {oc_is_word kV_is_word dc_is_word pm_is_word cd_is_word ct_is_word : Value}
    {f_note_words : Addr} {od_note_words an_note_words : Option Addr} {sl_note_words : Array (Option Value)} {oc_note_words kV_note_words dc_note_words pm_note_words cd_note_words ct_note_words : Value}
    {f_write_rule : Addr} {od_write_rule an_write_rule : Option Addr} {sl_write_rule : Array (Option Value)} {oc_write_rule kV_write_rule dc_write_rule pm_write_rule cd_write_rule ct_write_rule : Value}
    {f_read_rule : Addr} {od_read_rule an_read_rule : Option Addr} {sl_read_rule : Array (Option Value)} {oc_read_rule kV_read_rule dc_read_rule pm_read_rule cd_read_rule ct_read_rule : Value}
    {f_write_mark : Addr} {od_write_mark an_write_mark : Option Addr} {sl_write_mark : Array (Option Value)} {oc_write_mark kV_write_mark dc_write_mark pm_write_mark cd_write_mark ct_write_mark : Value}
    {f_read_mark : Addr} {od_read_mark an_read_mark : Option Addr} {sl_read_mark : Array (Option Value)} {oc_read_mark kV_read_mark dc_read_mark pm_read_mark cd_read_mark ct_read_mark : Value}
    {f__law_open : Addr} {od__law_open an__law_open : Option Addr} {sl__law_open : Array (Option Value)} {oc__law_open kV__law_open dc__law_open pm__law_open cd__law_open ct__law_open : Value}
    {f__law_draw : Addr} {od__law_draw an__law_draw : Option Addr} {sl__law_draw : Array (Option Value)} {oc__law_draw kV__law_draw dc__law_draw pm__law_draw cd__law_draw ct__law_draw : Value}
    {f__law_word : Addr} {od__law_word an__law_word : Option Addr} {sl__law_word : Array (Option Value)} {oc__law_word kV__law_word dc__law_word pm__law_word cd__law_word ct__law_word : Value}
    {f__law_table : Addr} {od__law_table an__law_table : Option Addr} {sl__law_table : Array (Option Value)} {oc__law_table kV__law_table dc__law_table pm__law_table cd__law_table ct__law_table : Value}
    {f__law_refused : Addr} {od__law_refused an__law_refused : Option Addr} {sl__law_refused : Array (Option Value)} {oc__law_refused kV__law_refused dc__law_refused pm__law_refused cd__law_refused ct__law_refused : Value}
    {f__law_spoilt : Addr} {od__law_spoilt an__law_spoilt : Option Addr} {sl__law_spoilt : Array (Option Value)} {oc__law_spoilt kV__law_spoilt dc__law_spoilt pm__law_spoilt cd__law_spoilt ct__law_spoilt : Value}
    {f_law : Addr} {od_law an_law : Option Addr} {sl_law : Array (Option Value)} {oc_law kV_law dc_law pm_law cd_law ct_law : Value}
    (z_int : PySem.W.nsIn K mainGlobals "int" = some none)
    (z_isinstance : PySem.W.nsIn K mainGlobals "isinstance" = some none)
    (z_len : PySem.W.nsIn K mainGlobals "len" = some none)
    (z_range : PySem.W.nsIn K mainGlobals "range" = some none)
    (z_repr : PySem.W.nsIn K mainGlobals "repr" = some none)
    (z_str : PySem.W.nsIn K mainGlobals "str" = some none)
    (z_tuple : PySem.W.nsIn K mainGlobals "tuple" = some none)
    (z_zip : PySem.W.nsIn K mainGlobals "zip" = some none)
    (c_LETTERS : PySem.W.nsIn K mainGlobals "LETTERS" = some (some (.str "abcdefghijklmnopqrstuvwxyz" tk_LETTERS)))
    (g_KEYWORDS : PySem.W.nsIn K mainGlobals "KEYWORDS" = some (some (.ref a_KEYWORDS)))
    (l_KEYWORDS : K.lookup a_KEYWORDS = some ⟨.type "tuple", dd_KEYWORDS, .seq #[.str "loop" tk_KEYWORDS_0, .str "from" tk_KEYWORDS_1, .str "read" tk_KEYWORDS_2, .str "to" tk_KEYWORDS_3, .str "below" tk_KEYWORDS_4, .str "by" tk_KEYWORDS_5, .str "say" tk_KEYWORDS_6, .str "add" tk_KEYWORDS_7, .str "widen" tk_KEYWORDS_8, .str "ask" tk_KEYWORDS_9, .str "else" tk_KEYWORDS_10, .str "break" tk_KEYWORDS_11, .str "next" tk_KEYWORDS_12, .str "make" tk_KEYWORDS_13, .str "call" tk_KEYWORDS_14] n_KEYWORDS, sl_KEYWORDS⟩)
    (g_SWITCHES : PySem.W.nsIn K mainGlobals "SWITCHES" = some (some (.ref a_SWITCHES)))
    (l_SWITCHES : K.lookup a_SWITCHES = some ⟨.type "dict", none, .dict #[⟨PyData.keyHash w.params "bound", .str "bound" tk_SWITCHES_0, .ref v_SWITCHES_0⟩, ⟨PyData.keyHash w.params "test", .str "test" tk_SWITCHES_1, .ref v_SWITCHES_1⟩, ⟨PyData.keyHash w.params "variable", .str "variable" tk_SWITCHES_2, .ref v_SWITCHES_2⟩, ⟨PyData.keyHash w.params "limit", .str "limit" tk_SWITCHES_3, .ref v_SWITCHES_3⟩, ⟨PyData.keyHash w.params "after", .str "after" tk_SWITCHES_4, .ref v_SWITCHES_4⟩, ⟨PyData.keyHash w.params "cell", .str "cell" tk_SWITCHES_5, .ref v_SWITCHES_5⟩, ⟨PyData.keyHash w.params "skip", .str "skip" tk_SWITCHES_6, .ref v_SWITCHES_6⟩] n_SWITCHES, #[]⟩)
    (s_SWITCHES : (a_SWITCHES == sysModules) = false)
    (lv_SWITCHES_0 : K.lookup v_SWITCHES_0 = some ⟨.type "tuple", dd_SWITCHES_0, .seq #[.str "once" tk_SWITCHES_0_0, .str "anew" tk_SWITCHES_0_1] nn_SWITCHES_0, sl_SWITCHES_0⟩)
    (lv_SWITCHES_1 : K.lookup v_SWITCHES_1 = some ⟨.type "tuple", dd_SWITCHES_1, .seq #[.str "first" tk_SWITCHES_1_0, .str "last" tk_SWITCHES_1_1] nn_SWITCHES_1, sl_SWITCHES_1⟩)
    (lv_SWITCHES_2 : K.lookup v_SWITCHES_2 = some ⟨.type "tuple", dd_SWITCHES_2, .seq #[.str "shared" tk_SWITCHES_2_0, .str "hidden" tk_SWITCHES_2_1, .str "shut" tk_SWITCHES_2_2] nn_SWITCHES_2, sl_SWITCHES_2⟩)
    (lv_SWITCHES_3 : K.lookup v_SWITCHES_3 = some ⟨.type "tuple", dd_SWITCHES_3, .seq #[.str "out" tk_SWITCHES_3_0, .str "in" tk_SWITCHES_3_1] nn_SWITCHES_3, sl_SWITCHES_3⟩)
    (lv_SWITCHES_4 : K.lookup v_SWITCHES_4 = some ⟨.type "tuple", dd_SWITCHES_4, .seq #[.str "last" tk_SWITCHES_4_0, .str "beyond" tk_SWITCHES_4_1, .str "old" tk_SWITCHES_4_2, .str "gone" tk_SWITCHES_4_3] nn_SWITCHES_4, sl_SWITCHES_4⟩)
    (lv_SWITCHES_5 : K.lookup v_SWITCHES_5 = some ⟨.type "tuple", dd_SWITCHES_5, .seq #[.str "one" tk_SWITCHES_5_0, .str "round" tk_SWITCHES_5_1] nn_SWITCHES_5, sl_SWITCHES_5⟩)
    (lv_SWITCHES_6 : K.lookup v_SWITCHES_6 = some ⟨.type "tuple", dd_SWITCHES_6, .seq #[.str "step" tk_SWITCHES_6_0, .str "stay" tk_SWITCHES_6_1] nn_SWITCHES_6, sl_SWITCHES_6⟩)
    (g_RoundError : PySem.W.nsIn K mainGlobals "RoundError" = some (some (.ref C_RoundError)))
    (ic_RoundError : PySem.W.isClsIn K C_RoundError = true)
    (tt_RoundError : PySem.W.typeIn K (.ref C_RoundError) = some (.type "type"))
    (g_BadSwitch : PySem.W.nsIn K mainGlobals "BadSwitch" = some (some (.ref C_BadSwitch)))
    (ic_BadSwitch : PySem.W.isClsIn K C_BadSwitch = true)
    (tt_BadSwitch : PySem.W.typeIn K (.ref C_BadSwitch) = some (.type "type"))
    (xl_BadSwitch : K.lookup C_BadSwitch = some (excClassObj nm_BadSwitch qn_BadSwitch C_BadSwitch N_BadSwitch bs_BadSwitch [.ref C_RoundError, .type "ValueError", .type "Exception", .type "BaseException", .type "object"] true sn_BadSwitch su_BadSwitch ab_BadSwitch co_BadSwitch dd_BadSwitch x0_BadSwitch x1_BadSwitch x2_BadSwitch x3_BadSwitch x5_BadSwitch "ValueError.__new__"))
    (sa_BadSwitch : PySem.W.findIn K (.ref C_BadSwitch) "__setattr__" = some (some (.builtin "object.__setattr__")))
    (ga_BadSwitch : PySem.W.findIn K (.ref C_BadSwitch) "__getattribute__" = some (some (.builtin "BaseException.__getattribute__")))
    (gg_BadSwitch : PySem.W.findIn K (.ref C_BadSwitch) "__getattr__" = some none)
    (nb_BadSwitch : PySem.W.findIn K (.ref C_BadSwitch) "name" = some none)
    (kC_BadSwitch : PySem.W.keepIn K (.ref C_BadSwitch) = true)
    (eC_BadSwitch : PySem.W.subIn K (.ref C_BadSwitch) (.type "BaseException") = some true)
    (tC_BadSwitch : PySem.W.typeIn K (.ref C_BadSwitch) = some (.type "type"))
    (hC_BadSwitch : PySem.W.hasDictIn K C_BadSwitch = true)
    (cc_BadSwitch : PySem.W.findIn K (.ref C_BadSwitch) "__class__" = some (some (.builtin "object.__class__")))
    (mo_BadSwitch : PySem.W.mroIn K C_BadSwitch (.type "object") = some true)
    (a_BadSwitch___init__ : PySem.W.findIn K (.ref C_BadSwitch) "__init__" = some (some (.ref f_BadSwitch___init__)))
    (l_BadSwitch___init__ : K.lookup f_BadSwitch___init__ = some ⟨oc_BadSwitch___init__, od_BadSwitch___init__, .func (PySem.W.fnOf "__init__" "BadSwitch.__init__" (defArgs s_BadSwitch___init__) (defBody s_BadSwitch___init__) (defScope s_BadSwitch___init__) .none kV_BadSwitch___init__ dc_BadSwitch___init__ pm_BadSwitch___init__ an_BadSwitch___init__ cd_BadSwitch___init__ ct_BadSwitch___init__), sl_BadSwitch___init__⟩)
    (c_BadSwitch___init__ : PySem.W.codeIn K cd_BadSwitch___init__ "BadSwitch.__init__" = true)
    (k_BadSwitch___init__ : PySem.W.keepIn K (.ref f_BadSwitch___init__) = true)
    (ty_BadSwitch___init__ : PySem.W.typeIn K (.ref f_BadSwitch___init__) = some (.type "function"))
    (g_BadNote : PySem.W.nsIn K mainGlobals "BadNote" = some (some (.ref C_BadNote)))
    (ic_BadNote : PySem.W.isClsIn K C_BadNote = true)
    (tt_BadNote : PySem.W.typeIn K (.ref C_BadNote) = some (.type "type"))
    (xl_BadNote : K.lookup C_BadNote = some (excClassObj nm_BadNote qn_BadNote C_BadNote N_BadNote bs_BadNote [.ref C_RoundError, .type "ValueError", .type "Exception", .type "BaseException", .type "object"] true sn_BadNote su_BadNote ab_BadNote co_BadNote dd_BadNote x0_BadNote x1_BadNote x2_BadNote x3_BadNote x5_BadNote "ValueError.__new__"))
    (sa_BadNote : PySem.W.findIn K (.ref C_BadNote) "__setattr__" = some (some (.builtin "object.__setattr__")))
    (ga_BadNote : PySem.W.findIn K (.ref C_BadNote) "__getattribute__" = some (some (.builtin "BaseException.__getattribute__")))
    (gg_BadNote : PySem.W.findIn K (.ref C_BadNote) "__getattr__" = some none)
    (nb_BadNote : PySem.W.findIn K (.ref C_BadNote) "value" = some none)
    (kC_BadNote : PySem.W.keepIn K (.ref C_BadNote) = true)
    (eC_BadNote : PySem.W.subIn K (.ref C_BadNote) (.type "BaseException") = some true)
    (tC_BadNote : PySem.W.typeIn K (.ref C_BadNote) = some (.type "type"))
    (hC_BadNote : PySem.W.hasDictIn K C_BadNote = true)
    (cc_BadNote : PySem.W.findIn K (.ref C_BadNote) "__class__" = some (some (.builtin "object.__class__")))
    (mo_BadNote : PySem.W.mroIn K C_BadNote (.type "object") = some true)
    (a_BadNote___init__ : PySem.W.findIn K (.ref C_BadNote) "__init__" = some (some (.ref f_BadNote___init__)))
    (l_BadNote___init__ : K.lookup f_BadNote___init__ = some ⟨oc_BadNote___init__, od_BadNote___init__, .func (PySem.W.fnOf "__init__" "BadNote.__init__" (defArgs s_BadNote___init__) (defBody s_BadNote___init__) (defScope s_BadNote___init__) .none kV_BadNote___init__ dc_BadNote___init__ pm_BadNote___init__ an_BadNote___init__ cd_BadNote___init__ ct_BadNote___init__), sl_BadNote___init__⟩)
    (c_BadNote___init__ : PySem.W.codeIn K cd_BadNote___init__ "BadNote.__init__" = true)
    (k_BadNote___init__ : PySem.W.keepIn K (.ref f_BadNote___init__) = true)
    (ty_BadNote___init__ : PySem.W.typeIn K (.ref f_BadNote___init__) = some (.type "function"))
    (g_Rule : PySem.W.nsIn K mainGlobals "Rule" = some (some (.ref C_Rule)))
    (ic_Rule : PySem.W.isClsIn K C_Rule = true)
    (tt_Rule : PySem.W.typeIn K (.ref C_Rule) = some (.type "type"))
    (pg_Rule : PySem.W.plainGet K C_Rule Str.empty = true)
    (hd_Rule : PySem.W.hasDictIn K C_Rule = true)
    (po_Rule : PySem.W.plainOver K C_Rule = true)
    (sa_Rule : PySem.W.findIn K (.ref C_Rule) "__setattr__" = some (some (.builtin "object.__setattr__")))
    (kC_Rule : PySem.W.keepIn K (.ref C_Rule) = true)
    (mk_Rule : PySem.W.makesIn K C_Rule = true)
    (cc_Rule : PySem.W.findIn K (.ref C_Rule) "__class__" = some (some (.builtin "object.__class__")))
    (mo_Rule : PySem.W.mroIn K C_Rule (.type "object") = some true)
    (sf_Rule : PySem.W.selfFirst K C_Rule = true)
    (ne_Rule : PySem.W.findIn K (.ref C_Rule) "__ne__" = some (some (.builtin "object.__ne__")))
    (nb_Rule_bound : PySem.W.findIn K (.ref C_Rule) "bound" = some none)
    (nb_Rule_test : PySem.W.findIn K (.ref C_Rule) "test" = some none)
    (nb_Rule_variable : PySem.W.findIn K (.ref C_Rule) "variable" = some none)
    (nb_Rule_limit : PySem.W.findIn K (.ref C_Rule) "limit" = some none)
    (nb_Rule_after : PySem.W.findIn K (.ref C_Rule) "after" = some none)
    (nb_Rule_cell : PySem.W.findIn K (.ref C_Rule) "cell" = some none)
    (nb_Rule_skip : PySem.W.findIn K (.ref C_Rule) "skip" = some none)
    (nb_Rule_words : PySem.W.findIn K (.ref C_Rule) "words" = some none)
    (nf_Rule_NoneType : PySem.W.subIn K (.type "NoneType") (.ref C_Rule) = some false)
    (nf_Rule_list : PySem.W.subIn K (.type "list") (.ref C_Rule) = some false)
    (nf_Rule_tuple : PySem.W.subIn K (.type "tuple") (.ref C_Rule) = some false)
    (nf_Rule_str : PySem.W.subIn K (.type "str") (.ref C_Rule) = some false)
    (nf_Rule_int : PySem.W.subIn K (.type "int") (.ref C_Rule) = some false)
    (nf_Rule_bool : PySem.W.subIn K (.type "bool") (.ref C_Rule) = some false)
    (nf_Rule_dict : PySem.W.subIn K (.type "dict") (.ref C_Rule) = some false)
    (a_Rule___init__ : PySem.W.findIn K (.ref C_Rule) "__init__" = some (some (.ref f_Rule___init__)))
    (l_Rule___init__ : K.lookup f_Rule___init__ = some ⟨oc_Rule___init__, od_Rule___init__, .func (PySem.W.fnOf "__init__" "Rule.__init__" (defArgs s_Rule___init__) (defBody s_Rule___init__) (defScope s_Rule___init__) .none (.ref D_Rule) dc_Rule___init__ pm_Rule___init__ an_Rule___init__ cd_Rule___init__ ct_Rule___init__), sl_Rule___init__⟩)
    (c_Rule___init__ : PySem.W.codeIn K cd_Rule___init__ "Rule.__init__" = true)
    (k_Rule___init__ : PySem.W.keepIn K (.ref f_Rule___init__) = true)
    (kd_Rule_bound : PySem.W.nsIn K D_Rule "bound" = some (some (.str "once" kt_Rule_bound)))
    (kd_Rule_test : PySem.W.nsIn K D_Rule "test" = some (some (.str "first" kt_Rule_test)))
    (kd_Rule_variable : PySem.W.nsIn K D_Rule "variable" = some (some (.str "shared" kt_Rule_variable)))
    (kd_Rule_limit : PySem.W.nsIn K D_Rule "limit" = some (some (.str "in" kt_Rule_limit)))
    (kd_Rule_after : PySem.W.nsIn K D_Rule "after" = some (some (.str "last" kt_Rule_after)))
    (kd_Rule_cell : PySem.W.nsIn K D_Rule "cell" = some (some (.str "one" kt_Rule_cell)))
    (kd_Rule_skip : PySem.W.nsIn K D_Rule "skip" = some (some (.str "step" kt_Rule_skip)))
    (if_Rule___init__ : PySem.W.isFn K (.ref f_Rule___init__) = true)
    (gaT_Rule : PySem.W.specialIn K (.ref C_Rule) "__getattribute__" = some (some (.builtin "type.__getattribute__")))
    (rdT_Rule : PySem.W.readsIn K C_Rule (.type "type") = true)
    (a_Rule_counting : PySem.W.findCls K (.ref C_Rule) (.type "type") "counting" = some (.get (.builtin "staticmethod.__get__") (.ref p_Rule_counting) .none (.ref C_Rule)))
    (pr_Rule_counting : PySem.W.recIn K p_Rule_counting "staticmethod" = some (.ref f_Rule_counting :: r_Rule_counting))
    (l_Rule_counting : K.lookup f_Rule_counting = some ⟨oc_Rule_counting, od_Rule_counting, .func (PySem.W.fnOf "counting" "Rule.counting" (defArgs s_Rule_counting) (defBody s_Rule_counting) (defScope s_Rule_counting) .none kV_Rule_counting dc_Rule_counting pm_Rule_counting an_Rule_counting cd_Rule_counting ct_Rule_counting), sl_Rule_counting⟩)
    (c_Rule_counting : PySem.W.codeIn K cd_Rule_counting "Rule.counting" = true)
    (k_Rule_counting : PySem.W.keepIn K (.ref f_Rule_counting) = true)
    (a_Rule_testing : PySem.W.findCls K (.ref C_Rule) (.type "type") "testing" = some (.get (.builtin "staticmethod.__get__") (.ref p_Rule_testing) .none (.ref C_Rule)))
    (pr_Rule_testing : PySem.W.recIn K p_Rule_testing "staticmethod" = some (.ref f_Rule_testing :: r_Rule_testing))
    (l_Rule_testing : K.lookup f_Rule_testing = some ⟨oc_Rule_testing, od_Rule_testing, .func (PySem.W.fnOf "testing" "Rule.testing" (defArgs s_Rule_testing) (defBody s_Rule_testing) (defScope s_Rule_testing) .none kV_Rule_testing dc_Rule_testing pm_Rule_testing an_Rule_testing cd_Rule_testing ct_Rule_testing), sl_Rule_testing⟩)
    (c_Rule_testing : PySem.W.codeIn K cd_Rule_testing "Rule.testing" = true)
    (k_Rule_testing : PySem.W.keepIn K (.ref f_Rule_testing) = true)
    (a_Rule_closed : PySem.W.findCls K (.ref C_Rule) (.type "type") "closed" = some (.get (.builtin "staticmethod.__get__") (.ref p_Rule_closed) .none (.ref C_Rule)))
    (pr_Rule_closed : PySem.W.recIn K p_Rule_closed "staticmethod" = some (.ref f_Rule_closed :: r_Rule_closed))
    (l_Rule_closed : K.lookup f_Rule_closed = some ⟨oc_Rule_closed, od_Rule_closed, .func (PySem.W.fnOf "closed" "Rule.closed" (defArgs s_Rule_closed) (defBody s_Rule_closed) (defScope s_Rule_closed) .none kV_Rule_closed dc_Rule_closed pm_Rule_closed an_Rule_closed cd_Rule_closed ct_Rule_closed), sl_Rule_closed⟩)
    (c_Rule_closed : PySem.W.codeIn K cd_Rule_closed "Rule.closed" = true)
    (k_Rule_closed : PySem.W.keepIn K (.ref f_Rule_closed) = true)
    (a_Rule_trailing : PySem.W.findCls K (.ref C_Rule) (.type "type") "trailing" = some (.get (.builtin "staticmethod.__get__") (.ref p_Rule_trailing) .none (.ref C_Rule)))
    (pr_Rule_trailing : PySem.W.recIn K p_Rule_trailing "staticmethod" = some (.ref f_Rule_trailing :: r_Rule_trailing))
    (l_Rule_trailing : K.lookup f_Rule_trailing = some ⟨oc_Rule_trailing, od_Rule_trailing, .func (PySem.W.fnOf "trailing" "Rule.trailing" (defArgs s_Rule_trailing) (defBody s_Rule_trailing) (defScope s_Rule_trailing) .none kV_Rule_trailing dc_Rule_trailing pm_Rule_trailing an_Rule_trailing cd_Rule_trailing ct_Rule_trailing), sl_Rule_trailing⟩)
    (c_Rule_trailing : PySem.W.codeIn K cd_Rule_trailing "Rule.trailing" = true)
    (k_Rule_trailing : PySem.W.keepIn K (.ref f_Rule_trailing) = true)
    (a_Rule___getitem__ : PySem.W.findIn K (.ref C_Rule) "__getitem__" = some (some (.ref f_Rule___getitem__)))
    (l_Rule___getitem__ : K.lookup f_Rule___getitem__ = some ⟨oc_Rule___getitem__, od_Rule___getitem__, .func (PySem.W.fnOf "__getitem__" "Rule.__getitem__" (defArgs s_Rule___getitem__) (defBody s_Rule___getitem__) (defScope s_Rule___getitem__) .none kV_Rule___getitem__ dc_Rule___getitem__ pm_Rule___getitem__ an_Rule___getitem__ cd_Rule___getitem__ ct_Rule___getitem__), sl_Rule___getitem__⟩)
    (c_Rule___getitem__ : PySem.W.codeIn K cd_Rule___getitem__ "Rule.__getitem__" = true)
    (k_Rule___getitem__ : PySem.W.keepIn K (.ref f_Rule___getitem__) = true)
    (if_Rule___getitem__ : PySem.W.isFn K (.ref f_Rule___getitem__) = true)
    (fi_Rule___getitem__ : PySem.W.fnIn K f_Rule___getitem__ = true)
    (a_Rule___iter__ : PySem.W.findIn K (.ref C_Rule) "__iter__" = some (some (.ref f_Rule___iter__)))
    (l_Rule___iter__ : K.lookup f_Rule___iter__ = some ⟨oc_Rule___iter__, od_Rule___iter__, .func (PySem.W.fnOf "__iter__" "Rule.__iter__" (defArgs s_Rule___iter__) (defBody s_Rule___iter__) (defScope s_Rule___iter__) .none kV_Rule___iter__ dc_Rule___iter__ pm_Rule___iter__ an_Rule___iter__ cd_Rule___iter__ ct_Rule___iter__), sl_Rule___iter__⟩)
    (c_Rule___iter__ : PySem.W.codeIn K cd_Rule___iter__ "Rule.__iter__" = true)
    (k_Rule___iter__ : PySem.W.keepIn K (.ref f_Rule___iter__) = true)
    (if_Rule___iter__ : PySem.W.isFn K (.ref f_Rule___iter__) = true)
    (fi_Rule___iter__ : PySem.W.fnIn K f_Rule___iter__ = true)
    (a_Rule___eq__ : PySem.W.findIn K (.ref C_Rule) "__eq__" = some (some (.ref f_Rule___eq__)))
    (l_Rule___eq__ : K.lookup f_Rule___eq__ = some ⟨oc_Rule___eq__, od_Rule___eq__, .func (PySem.W.fnOf "__eq__" "Rule.__eq__" (defArgs s_Rule___eq__) (defBody s_Rule___eq__) (defScope s_Rule___eq__) .none kV_Rule___eq__ dc_Rule___eq__ pm_Rule___eq__ an_Rule___eq__ cd_Rule___eq__ ct_Rule___eq__), sl_Rule___eq__⟩)
    (c_Rule___eq__ : PySem.W.codeIn K cd_Rule___eq__ "Rule.__eq__" = true)
    (k_Rule___eq__ : PySem.W.keepIn K (.ref f_Rule___eq__) = true)
    (if_Rule___eq__ : PySem.W.isFn K (.ref f_Rule___eq__) = true)
    (fi_Rule___eq__ : PySem.W.fnIn K f_Rule___eq__ = true)
    (a_Rule_changed : PySem.W.findIn K (.ref C_Rule) "changed" = some (some (.ref f_Rule_changed)))
    (l_Rule_changed : K.lookup f_Rule_changed = some ⟨oc_Rule_changed, od_Rule_changed, .func (PySem.W.fnOf "changed" "Rule.changed" (defArgs s_Rule_changed) (defBody s_Rule_changed) (defScope s_Rule_changed) .none kV_Rule_changed dc_Rule_changed pm_Rule_changed an_Rule_changed cd_Rule_changed ct_Rule_changed), sl_Rule_changed⟩)
    (c_Rule_changed : PySem.W.codeIn K cd_Rule_changed "Rule.changed" = true)
    (k_Rule_changed : PySem.W.keepIn K (.ref f_Rule_changed) = true)
    (if_Rule_changed : PySem.W.isFn K (.ref f_Rule_changed) = true)
    (fi_Rule_changed : PySem.W.fnIn K f_Rule_changed = true)
    (z_get : PySem.W.specialIn K (.builtin "object.__class__") "__get__" = some (some (.builtin "getset_descriptor.__get__")))
    (z_tak : PySem.W.takesIn K (.builtin "object.__class__") = some true)
    (sx_BadNote_RoundError : PySem.W.subIn K (.ref C_BadNote) (.ref C_RoundError) = some true)
    (xs_BadNote : PySem.W.subIn K (.ref C_BadNote) (.ref C_BadNote) = some true)
    (a__wall : PySem.W.nsIn K mainGlobals "_wall" = some (some (.ref f__wall)))
    (l__wall : K.lookup f__wall = some ⟨oc__wall, od__wall, .func (PySem.W.fnOf "_wall" "_wall" (defArgs s__wall) (defBody s__wall) (defScope s__wall) .none kV__wall dc__wall pm__wall an__wall cd__wall ct__wall), sl__wall⟩)
    (c__wall : PySem.W.codeIn K cd__wall "_wall" = true)
    (k__wall : PySem.W.keepIn K (.ref f__wall) = true)
    (a_is_name : PySem.W.nsIn K mainGlobals "is_name" = some (some (.ref f_is_name)))
    (l_is_name : K.lookup f_is_name = some ⟨oc_is_name, od_is_name, .func (PySem.W.fnOf "is_name" "is_name" (defArgs s_is_name) (defBody s_is_name) (defScope s_is_name) .none kV_is_name dc_is_name pm_is_name an_is_name cd_is_name ct_is_name), sl_is_name⟩)
    (c_is_name : PySem.W.codeIn K cd_is_name "is_name" = true)
    (k_is_name : PySem.W.keepIn K (.ref f_is_name) = true)
    (a_is_word : PySem.W.nsIn K mainGlobals "is_word" = some (some (.ref f_is_word)))
    (l_is_word : K.lookup f_is_word = some ⟨oc_is_word, od_is_word, .func (PySem.W.fnOf "is_word" "is_word" (defArgs s_is_word) (defBody s_is_word) (defScope s_is_word) .none kV_is_word dc_is_word pm_is_word an_is_word cd_is_word ct_is_word), sl_is_word⟩)
    (c_is_word : PySem.W.codeIn K cd_is_word "is_word" = true)
    (k_is_word : PySem.W.keepIn K (.ref f_is_word) = true)
    (a_note_words : PySem.W.nsIn K mainGlobals "note_words" = some (some (.ref f_note_words)))
    (l_note_words : K.lookup f_note_words = some ⟨oc_note_words, od_note_words, .func (PySem.W.fnOf "note_words" "note_words" (defArgs s_note_words) (defBody s_note_words) (defScope s_note_words) .none kV_note_words dc_note_words pm_note_words an_note_words cd_note_words ct_note_words), sl_note_words⟩)
    (c_note_words : PySem.W.codeIn K cd_note_words "note_words" = true)
    (k_note_words : PySem.W.keepIn K (.ref f_note_words) = true)
    (a_write_rule : PySem.W.nsIn K mainGlobals "write_rule" = some (some (.ref f_write_rule)))
    (l_write_rule : K.lookup f_write_rule = some ⟨oc_write_rule, od_write_rule, .func (PySem.W.fnOf "write_rule" "write_rule" (defArgs s_write_rule) (defBody s_write_rule) (defScope s_write_rule) .none kV_write_rule dc_write_rule pm_write_rule an_write_rule cd_write_rule ct_write_rule), sl_write_rule⟩)
    (c_write_rule : PySem.W.codeIn K cd_write_rule "write_rule" = true)
    (k_write_rule : PySem.W.keepIn K (.ref f_write_rule) = true)
    (a_read_rule : PySem.W.nsIn K mainGlobals "read_rule" = some (some (.ref f_read_rule)))
    (l_read_rule : K.lookup f_read_rule = some ⟨oc_read_rule, od_read_rule, .func (PySem.W.fnOf "read_rule" "read_rule" (defArgs s_read_rule) (defBody s_read_rule) (defScope s_read_rule) .none kV_read_rule dc_read_rule pm_read_rule an_read_rule cd_read_rule ct_read_rule), sl_read_rule⟩)
    (c_read_rule : PySem.W.codeIn K cd_read_rule "read_rule" = true)
    (k_read_rule : PySem.W.keepIn K (.ref f_read_rule) = true)
    (a_write_mark : PySem.W.nsIn K mainGlobals "write_mark" = some (some (.ref f_write_mark)))
    (l_write_mark : K.lookup f_write_mark = some ⟨oc_write_mark, od_write_mark, .func (PySem.W.fnOf "write_mark" "write_mark" (defArgs s_write_mark) (defBody s_write_mark) (defScope s_write_mark) .none kV_write_mark dc_write_mark pm_write_mark an_write_mark cd_write_mark ct_write_mark), sl_write_mark⟩)
    (c_write_mark : PySem.W.codeIn K cd_write_mark "write_mark" = true)
    (k_write_mark : PySem.W.keepIn K (.ref f_write_mark) = true)
    (a_read_mark : PySem.W.nsIn K mainGlobals "read_mark" = some (some (.ref f_read_mark)))
    (l_read_mark : K.lookup f_read_mark = some ⟨oc_read_mark, od_read_mark, .func (PySem.W.fnOf "read_mark" "read_mark" (defArgs s_read_mark) (defBody s_read_mark) (defScope s_read_mark) .none kV_read_mark dc_read_mark pm_read_mark an_read_mark cd_read_mark ct_read_mark), sl_read_mark⟩)
    (c_read_mark : PySem.W.codeIn K cd_read_mark "read_mark" = true)
    (k_read_mark : PySem.W.keepIn K (.ref f_read_mark) = true)
    (a__law_open : PySem.W.nsIn K mainGlobals "_law_open" = some (some (.ref f__law_open)))
    (l__law_open : K.lookup f__law_open = some ⟨oc__law_open, od__law_open, .func (PySem.W.fnOf "_law_open" "_law_open" (defArgs s__law_open) (defBody s__law_open) (defScope s__law_open) .none kV__law_open dc__law_open pm__law_open an__law_open cd__law_open ct__law_open), sl__law_open⟩)
    (c__law_open : PySem.W.codeIn K cd__law_open "_law_open" = true)
    (k__law_open : PySem.W.keepIn K (.ref f__law_open) = true)
    (a__law_draw : PySem.W.nsIn K mainGlobals "_law_draw" = some (some (.ref f__law_draw)))
    (l__law_draw : K.lookup f__law_draw = some ⟨oc__law_draw, od__law_draw, .func (PySem.W.fnOf "_law_draw" "_law_draw" (defArgs s__law_draw) (defBody s__law_draw) (defScope s__law_draw) .none kV__law_draw dc__law_draw pm__law_draw an__law_draw cd__law_draw ct__law_draw), sl__law_draw⟩)
    (c__law_draw : PySem.W.codeIn K cd__law_draw "_law_draw" = true)
    (k__law_draw : PySem.W.keepIn K (.ref f__law_draw) = true)
    (a__law_word : PySem.W.nsIn K mainGlobals "_law_word" = some (some (.ref f__law_word)))
    (l__law_word : K.lookup f__law_word = some ⟨oc__law_word, od__law_word, .func (PySem.W.fnOf "_law_word" "_law_word" (defArgs s__law_word) (defBody s__law_word) (defScope s__law_word) .none kV__law_word dc__law_word pm__law_word an__law_word cd__law_word ct__law_word), sl__law_word⟩)
    (c__law_word : PySem.W.codeIn K cd__law_word "_law_word" = true)
    (k__law_word : PySem.W.keepIn K (.ref f__law_word) = true)
    (a__law_table : PySem.W.nsIn K mainGlobals "_law_table" = some (some (.ref f__law_table)))
    (l__law_table : K.lookup f__law_table = some ⟨oc__law_table, od__law_table, .func (PySem.W.fnOf "_law_table" "_law_table" (defArgs s__law_table) (defBody s__law_table) (defScope s__law_table) .none kV__law_table dc__law_table pm__law_table an__law_table cd__law_table ct__law_table), sl__law_table⟩)
    (c__law_table : PySem.W.codeIn K cd__law_table "_law_table" = true)
    (k__law_table : PySem.W.keepIn K (.ref f__law_table) = true)
    (a__law_refused : PySem.W.nsIn K mainGlobals "_law_refused" = some (some (.ref f__law_refused)))
    (l__law_refused : K.lookup f__law_refused = some ⟨oc__law_refused, od__law_refused, .func (PySem.W.fnOf "_law_refused" "_law_refused" (defArgs s__law_refused) (defBody s__law_refused) (defScope s__law_refused) .none kV__law_refused dc__law_refused pm__law_refused an__law_refused cd__law_refused ct__law_refused), sl__law_refused⟩)
    (c__law_refused : PySem.W.codeIn K cd__law_refused "_law_refused" = true)
    (k__law_refused : PySem.W.keepIn K (.ref f__law_refused) = true)
    (a__law_spoilt : PySem.W.nsIn K mainGlobals "_law_spoilt" = some (some (.ref f__law_spoilt)))
    (l__law_spoilt : K.lookup f__law_spoilt = some ⟨oc__law_spoilt, od__law_spoilt, .func (PySem.W.fnOf "_law_spoilt" "_law_spoilt" (defArgs s__law_spoilt) (defBody s__law_spoilt) (defScope s__law_spoilt) .none kV__law_spoilt dc__law_spoilt pm__law_spoilt an__law_spoilt cd__law_spoilt ct__law_spoilt), sl__law_spoilt⟩)
    (c__law_spoilt : PySem.W.codeIn K cd__law_spoilt "_law_spoilt" = true)
    (k__law_spoilt : PySem.W.keepIn K (.ref f__law_spoilt) = true)
    (a_law : PySem.W.nsIn K mainGlobals "law" = some (some (.ref f_law)))
    (l_law : K.lookup f_law = some ⟨oc_law, od_law, .func (PySem.W.fnOf "law" "law" (defArgs s_law) (defBody s_law) (defScope s_law) .none kV_law dc_law pm_law an_law cd_law ct_law), sl_law⟩)
    (c_law : PySem.W.codeIn K cd_law "law" = true)
    (k_law : PySem.W.keepIn K (.ref f_law) = true) :
    ∃ a_KEYWORDS : Addr, ∃ a_SWITCHES : Addr, ∃ v_SWITCHES_0 : Addr, ∃ v_SWITCHES_1 : Addr, ∃ v_SWITCHES_2 : Addr, ∃ v_SWITCHES_3 : Addr, ∃ v_SWITCHES_4 : Addr, ∃ v_SWITCHES_5 : Addr, ∃ v_SWITCHES_6 : Addr, ∃ C_RoundError : Addr, ∃ C_BadSwitch : Addr, ∃ C_BadNote : Addr, ∃ C_Rule : Addr, Tp K mg w a_KEYWORDS a_SWITCHES v_SWITCHES_0 v_SWITCHES_1 v_SWITCHES_2 v_SWITCHES_3 v_SWITCHES_4 v_SWITCHES_5 v_SWITCHES_6 C_RoundError C_BadSwitch C_BadNote C_Rule := by
  exact ⟨a_KEYWORDS, ⟨a_SWITCHES, ⟨v_SWITCHES_0, ⟨v_SWITCHES_1, ⟨v_SWITCHES_2, ⟨v_SWITCHES_3, ⟨v_SWITCHES_4, ⟨v_SWITCHES_5, ⟨v_SWITCHES_6, ⟨C_RoundError, ⟨C_BadSwitch, ⟨C_BadNote, ⟨C_Rule, {
    m_int := PySem.W.mg_none_of X G z_int,
    m_isinstance := PySem.W.mg_none_of X G z_isinstance,
    m_len := PySem.W.mg_none_of X G z_len,
    m_range := PySem.W.mg_none_of X G z_range,
    m_repr := PySem.W.mg_none_of X G z_repr,
    m_str := PySem.W.mg_none_of X G z_str,
    m_tuple := PySem.W.mg_none_of X G z_tuple,
    m_zip := PySem.W.mg_none_of X G z_zip,
    c_LETTERS := ⟨_, PySem.W.mg_of X G c_LETTERS, ⟨_, rfl⟩⟩,
    c_KEYWORDS := ⟨_, PySem.W.mg_of X G g_KEYWORDS, rfl⟩,
    t_KEYWORDS := fun _ => Or.inr ⟨_, _, _, l_KEYWORDS, rfl, rfl, sz (by simp), .cons ⟨_, rfl⟩ (.cons ⟨_, rfl⟩ (.cons ⟨_, rfl⟩ (.cons ⟨_, rfl⟩ (.cons ⟨_, rfl⟩ (.cons ⟨_, rfl⟩ (.cons ⟨_, rfl⟩ (.cons ⟨_, rfl⟩ (.cons ⟨_, rfl⟩ (.cons ⟨_, rfl⟩ (.cons ⟨_, rfl⟩ (.cons ⟨_, rfl⟩ (.cons ⟨_, rfl⟩ (.cons ⟨_, rfl⟩ (.cons ⟨_, rfl⟩ (.nil)))))))))))))))⟩,
    tv_SWITCHES_0 := fun _ => Or.inr ⟨_, _, _, lv_SWITCHES_0, rfl, rfl, sz (by simp), .cons ⟨_, rfl⟩ (.cons ⟨_, rfl⟩ (.nil))⟩,
    tv_SWITCHES_1 := fun _ => Or.inr ⟨_, _, _, lv_SWITCHES_1, rfl, rfl, sz (by simp), .cons ⟨_, rfl⟩ (.cons ⟨_, rfl⟩ (.nil))⟩,
    tv_SWITCHES_2 := fun _ => Or.inr ⟨_, _, _, lv_SWITCHES_2, rfl, rfl, sz (by simp), .cons ⟨_, rfl⟩ (.cons ⟨_, rfl⟩ (.cons ⟨_, rfl⟩ (.nil)))⟩,
    tv_SWITCHES_3 := fun _ => Or.inr ⟨_, _, _, lv_SWITCHES_3, rfl, rfl, sz (by simp), .cons ⟨_, rfl⟩ (.cons ⟨_, rfl⟩ (.nil))⟩,
    tv_SWITCHES_4 := fun _ => Or.inr ⟨_, _, _, lv_SWITCHES_4, rfl, rfl, sz (by simp), .cons ⟨_, rfl⟩ (.cons ⟨_, rfl⟩ (.cons ⟨_, rfl⟩ (.cons ⟨_, rfl⟩ (.nil))))⟩,
    tv_SWITCHES_5 := fun _ => Or.inr ⟨_, _, _, lv_SWITCHES_5, rfl, rfl, sz (by simp), .cons ⟨_, rfl⟩ (.cons ⟨_, rfl⟩ (.nil))⟩,
    tv_SWITCHES_6 := fun _ => Or.inr ⟨_, _, _, lv_SWITCHES_6, rfl, rfl, sz (by simp), .cons ⟨_, rfl⟩ (.cons ⟨_, rfl⟩ (.nil))⟩,
    c_SWITCHES := ⟨_, PySem.W.mg_of X G g_SWITCHES, rfl⟩,
    wk_SWITCHES := wk_mk l_SWITCHES ⟨⟨_, _, rfl, rfl⟩, ⟨_, _, rfl, rfl⟩, ⟨_, _, rfl, rfl⟩, ⟨_, _, rfl, rfl⟩, ⟨_, _, rfl, rfl⟩, ⟨_, _, rfl, rfl⟩, ⟨_, _, rfl, rfl⟩, True.intro⟩ s_SWITCHES (.cons ⟨_, rfl⟩ (.cons ⟨_, rfl⟩ (.cons ⟨_, rfl⟩ (.cons ⟨_, rfl⟩ (.cons ⟨_, rfl⟩ (.cons ⟨_, rfl⟩ (.cons ⟨_, rfl⟩ (.nil)))))))) (by decide),
    w_SWITCHES := wd_mk l_SWITCHES ⟨⟨_, _, rfl, rfl⟩, ⟨_, _, rfl, rfl⟩, ⟨_, _, rfl, rfl⟩, ⟨_, _, rfl, rfl⟩, ⟨_, _, rfl, rfl⟩, ⟨_, _, rfl, rfl⟩, ⟨_, _, rfl, rfl⟩, True.intro⟩ s_SWITCHES (.cons ⟨⟨_, rfl⟩, rfl⟩ (.cons ⟨⟨_, rfl⟩, rfl⟩ (.cons ⟨⟨_, rfl⟩, rfl⟩ (.cons ⟨⟨_, rfl⟩, rfl⟩ (.cons ⟨⟨_, rfl⟩, rfl⟩ (.cons ⟨⟨_, rfl⟩, rfl⟩ (.cons ⟨⟨_, rfl⟩, rfl⟩ (.nil)))))))),
    k_RoundError := ⟨_, PySem.W.mg_of X G g_RoundError, rfl⟩,
    k_BadSwitch := ⟨_, PySem.W.mg_of X G g_BadSwitch, rfl⟩,
    x_BadSwitch := fun P w base => (have T0 : OexC K C_BadSwitch := ⟨⟨_, _, _, _, _, _, _, _, _, _, _, _, _, _, _, xl_BadSwitch, by rfl⟩, sa_BadSwitch, eC_BadSwitch, tC_BadSwitch, kC_BadSwitch⟩; ⟨T0, ⟨ga_BadSwitch, gg_BadSwitch, eC_BadSwitch, hC_BadSwitch⟩, ⟨ga_BadSwitch, gg_BadSwitch, eC_BadSwitch, hC_BadSwitch, cc_BadSwitch, z_get, z_tak, mo_BadSwitch⟩, nb_BadSwitch, PySem.W.mg_of X G g_BadSwitch, ⟨_, _, a_BadSwitch___init__, ty_BadSwitch___init__, ok_ini (fun_mk (st := s_BadSwitch___init__) l_BadSwitch___init__ c_BadSwitch___init__ k_BadSwitch___init__) sc_BadSwitch___init__ rfl T0 nb_BadSwitch (by first | exact Or.inl rfl) (by first | exact Or.inl rfl) (by decide) (by decide), (fun_mk (st := s_BadSwitch___init__) l_BadSwitch___init__ c_BadSwitch___init__ k_BadSwitch___init__).binds (ps := ["self", "name"]) fun _ _ _ _ _ _ us hl => match us, hl with | [_, _], _ => rfl⟩⟩),
    k_BadNote := ⟨_, PySem.W.mg_of X G g_BadNote, rfl⟩,
    x_BadNote := fun P w base => (have T0 : OexC K C_BadNote := ⟨⟨_, _, _, _, _, _, _, _, _, _, _, _, _, _, _, xl_BadNote, by rfl⟩, sa_BadNote, eC_BadNote, tC_BadNote, kC_BadNote⟩; ⟨T0, ⟨ga_BadNote, gg_BadNote, eC_BadNote, hC_BadNote⟩, ⟨ga_BadNote, gg_BadNote, eC_BadNote, hC_BadNote, cc_BadNote, z_get, z_tak, mo_BadNote⟩, nb_BadNote, PySem.W.mg_of X G g_BadNote, ⟨_, _, a_BadNote___init__, ty_BadNote___init__, ok_ini (fun_mk (st := s_BadNote___init__) l_BadNote___init__ c_BadNote___init__ k_BadNote___init__) sc_BadNote___init__ rfl T0 nb_BadNote (by first | exact Or.inl rfl) (by first | exact Or.inl rfl) (by decide) (by decide), (fun_mk (st := s_BadNote___init__) l_BadNote___init__ c_BadNote___init__ k_BadNote___init__).binds (ps := ["self", "value"]) fun _ _ _ _ _ _ us hl => match us, hl with | [_, _], _ => rfl⟩⟩),
    k_Rule := ⟨_, PySem.W.mg_of X G g_Rule, rfl⟩,
    cl_Rule := ⟨pg_Rule, hd_Rule, po_Rule, sa_Rule⟩,
    n_Rule_bound := nb_Rule_bound,
    n_Rule_test := nb_Rule_test,
    n_Rule_variable := nb_Rule_variable,
    n_Rule_limit := nb_Rule_limit,
    n_Rule_after := nb_Rule_after,
    n_Rule_cell := nb_Rule_cell,
    n_Rule_skip := nb_Rule_skip,
    n_Rule_words := nb_Rule_words,
    ty_Rule := fun H a dx fs e => .base (.ins e ⟨pg_Rule, hd_Rule, po_Rule, sa_Rule⟩ cc_Rule z_get z_tak mo_Rule),
    sf_Rule := sf_Rule,
    ne_Rule := ne_Rule,
    ob_Rule := mo_Rule,
    nf_Rule_NoneType := nf_Rule_NoneType,
    kt_Rule_NoneType := kit_ownF ic_Rule tt_Rule nf_Rule_NoneType,
    nf_Rule_list := nf_Rule_list,
    kt_Rule_list := kit_ownF ic_Rule tt_Rule nf_Rule_list,
    nf_Rule_tuple := nf_Rule_tuple,
    kt_Rule_tuple := kit_ownF ic_Rule tt_Rule nf_Rule_tuple,
    nf_Rule_str := nf_Rule_str,
    kt_Rule_str := kit_ownF ic_Rule tt_Rule nf_Rule_str,
    nf_Rule_int := nf_Rule_int,
    kt_Rule_int := kit_ownF ic_Rule tt_Rule nf_Rule_int,
    nf_Rule_bool := nf_Rule_bool,
    kt_Rule_bool := kit_ownF ic_Rule tt_Rule nf_Rule_bool,
    nf_Rule_dict := nf_Rule_dict,
    kt_Rule_dict := kit_ownF ic_Rule tt_Rule nf_Rule_dict,
    i_Rule := ⟨_, _, ⟨mk_Rule, a_Rule___init__, if_Rule___init__, kC_Rule⟩, PySem.W.mg_of X G g_Rule, ⟨⟨_, _, _, _, _, _, _, _, _, _, rfl, l_Rule___init__, c_Rule___init__, Or.inl ⟨rfl, rfl⟩, Or.inr ⟨_, rfl, fun q hq => by simp only [List.mem_cons, List.not_mem_nil, or_false] at hq; exact hq.elim (fun e => e ▸ ⟨_, kd_Rule_bound, ⟨_, rfl⟩⟩) (fun z => z.elim (fun e => e ▸ ⟨_, kd_Rule_test, ⟨_, rfl⟩⟩) (fun z => z.elim (fun e => e ▸ ⟨_, kd_Rule_variable, ⟨_, rfl⟩⟩) (fun z => z.elim (fun e => e ▸ ⟨_, kd_Rule_limit, ⟨_, rfl⟩⟩) (fun z => z.elim (fun e => e ▸ ⟨_, kd_Rule_after, ⟨_, rfl⟩⟩) (fun z => z.elim (fun e => e ▸ ⟨_, kd_Rule_cell, ⟨_, rfl⟩⟩) (fun e => e ▸ ⟨_, kd_Rule_skip, ⟨_, rfl⟩⟩))))))⟩⟩, k_Rule___init__⟩⟩,
    sm_Rule_counting := ⟨_, _, _, _, gaT_Rule, tt_Rule, rdT_Rule, a_Rule_counting, pr_Rule_counting, fun_mk (st := s_Rule_counting) l_Rule_counting c_Rule_counting k_Rule_counting, (fun_mk (st := s_Rule_counting) l_Rule_counting c_Rule_counting k_Rule_counting).binds (ps := []) fun _ _ _ _ _ _ us hl => match us, hl with | [], _ => rfl⟩,
    sm_Rule_testing := ⟨_, _, _, _, gaT_Rule, tt_Rule, rdT_Rule, a_Rule_testing, pr_Rule_testing, fun_mk (st := s_Rule_testing) l_Rule_testing c_Rule_testing k_Rule_testing, (fun_mk (st := s_Rule_testing) l_Rule_testing c_Rule_testing k_Rule_testing).binds (ps := []) fun _ _ _ _ _ _ us hl => match us, hl with | [], _ => rfl⟩,
    sm_Rule_closed := ⟨_, _, _, _, gaT_Rule, tt_Rule, rdT_Rule, a_Rule_closed, pr_Rule_closed, fun_mk (st := s_Rule_closed) l_Rule_closed c_Rule_closed k_Rule_closed, (fun_mk (st := s_Rule_closed) l_Rule_closed c_Rule_closed k_Rule_closed).binds (ps := []) fun _ _ _ _ _ _ us hl => match us, hl with | [], _ => rfl⟩,
    sm_Rule_trailing := ⟨_, _, _, _, gaT_Rule, tt_Rule, rdT_Rule, a_Rule_trailing, pr_Rule_trailing, fun_mk (st := s_Rule_trailing) l_Rule_trailing c_Rule_trailing k_Rule_trailing, (fun_mk (st := s_Rule_trailing) l_Rule_trailing c_Rule_trailing k_Rule_trailing).binds (ps := []) fun _ _ _ _ _ _ us hl => match us, hl with | [], _ => rfl⟩,
    m_Rule___getitem__ := ⟨_, _, ⟨pg_Rule, hd_Rule, po_Rule, sa_Rule⟩, ⟨a_Rule___getitem__, if_Rule___getitem__, k_Rule___getitem__⟩, fi_Rule___getitem__, fun_mk (st := s_Rule___getitem__) l_Rule___getitem__ c_Rule___getitem__ k_Rule___getitem__, (fun_mk (st := s_Rule___getitem__) l_Rule___getitem__ c_Rule___getitem__ k_Rule___getitem__).binds (ps := ["self", "name"]) fun _ _ _ _ _ _ us hl => match us, hl with | [_, _], _ => rfl⟩,
    m_Rule___iter__ := ⟨_, _, ⟨pg_Rule, hd_Rule, po_Rule, sa_Rule⟩, ⟨a_Rule___iter__, if_Rule___iter__, k_Rule___iter__⟩, fi_Rule___iter__, fun_mk (st := s_Rule___iter__) l_Rule___iter__ c_Rule___iter__ k_Rule___iter__, (fun_mk (st := s_Rule___iter__) l_Rule___iter__ c_Rule___iter__ k_Rule___iter__).binds (ps := ["self"]) fun _ _ _ _ _ _ us hl => match us, hl with | [_], _ => rfl⟩,
    m_Rule___eq__ := ⟨_, _, ⟨pg_Rule, hd_Rule, po_Rule, sa_Rule⟩, ⟨a_Rule___eq__, if_Rule___eq__, k_Rule___eq__⟩, fi_Rule___eq__, fun_mk (st := s_Rule___eq__) l_Rule___eq__ c_Rule___eq__ k_Rule___eq__, (fun_mk (st := s_Rule___eq__) l_Rule___eq__ c_Rule___eq__ k_Rule___eq__).binds (ps := ["self", "other"]) fun _ _ _ _ _ _ us hl => match us, hl with | [_, _], _ => rfl⟩,
    m_Rule_changed := ⟨_, _, ⟨pg_Rule, hd_Rule, po_Rule, sa_Rule⟩, ⟨a_Rule_changed, if_Rule_changed, k_Rule_changed⟩, fi_Rule_changed, fun_mk (st := s_Rule_changed) l_Rule_changed c_Rule_changed k_Rule_changed, (fun_mk (st := s_Rule_changed) l_Rule_changed c_Rule_changed k_Rule_changed).binds (ps := ["self", "name", "word"]) fun _ _ _ _ _ _ us hl => match us, hl with | [_, _, _], _ => rfl⟩,
    kx_BadNote_RoundError := kit_ownT ic_RoundError tt_RoundError sx_BadNote_RoundError,
    xm_BadNote := PySem.W.exm_ref eC_BadNote hC_BadNote tt_BadNote xs_BadNote,
    d__wall := ⟨_, _, fun_mk (st := s__wall) l__wall c__wall k__wall, PySem.W.mg_of X G a__wall, (fun_mk (st := s__wall) l__wall c__wall k__wall).binds (ps := ["k"]) fun _ _ _ _ _ _ us hl => match us, hl with | [_], _ => rfl⟩,
    d_is_name := ⟨_, _, fun_mk (st := s_is_name) l_is_name c_is_name k_is_name, PySem.W.mg_of X G a_is_name, (fun_mk (st := s_is_name) l_is_name c_is_name k_is_name).binds (ps := ["value"]) fun _ _ _ _ _ _ us hl => match us, hl with | [_], _ => rfl⟩,
    d_is_word := ⟨_, _, fun_mk (st := s_is_word) l_is_word c_is_word k_is_word, PySem.W.mg_of X G a_is_word, (fun_mk (st := s_is_word) l_is_word c_is_word k_is_word).binds (ps := ["name", "value"]) fun _ _ _ _ _ _ us hl => match us, hl with | [_, _], _ => rfl⟩,
    d_note_words := ⟨_, _, fun_mk (st := s_note_words) l_note_words c_note_words k_note_words, PySem.W.mg_of X G a_note_words, (fun_mk (st := s_note_words) l_note_words c_note_words k_note_words).binds (ps := ["value"]) fun _ _ _ _ _ _ us hl => match us, hl with | [_], _ => rfl⟩,
    d_write_rule := ⟨_, _, fun_mk (st := s_write_rule) l_write_rule c_write_rule k_write_rule, PySem.W.mg_of X G a_write_rule, (fun_mk (st := s_write_rule) l_write_rule c_write_rule k_write_rule).binds (ps := ["rule"]) fun _ _ _ _ _ _ us hl => match us, hl with | [_], _ => rfl⟩,
    d_read_rule := ⟨_, _, fun_mk (st := s_read_rule) l_read_rule c_read_rule k_read_rule, PySem.W.mg_of X G a_read_rule, (fun_mk (st := s_read_rule) l_read_rule c_read_rule k_read_rule).binds (ps := ["line"]) fun _ _ _ _ _ _ us hl => match us, hl with | [_], _ => rfl⟩,
    d_write_mark := ⟨_, _, fun_mk (st := s_write_mark) l_write_mark c_write_mark k_write_mark, PySem.W.mg_of X G a_write_mark, (fun_mk (st := s_write_mark) l_write_mark c_write_mark k_write_mark).binds (ps := ["mark"]) fun _ _ _ _ _ _ us hl => match us, hl with | [_], _ => rfl⟩,
    d_read_mark := ⟨_, _, fun_mk (st := s_read_mark) l_read_mark c_read_mark k_read_mark, PySem.W.mg_of X G a_read_mark, (fun_mk (st := s_read_mark) l_read_mark c_read_mark k_read_mark).binds (ps := ["line"]) fun _ _ _ _ _ _ us hl => match us, hl with | [_], _ => rfl⟩,
    d__law_open := ⟨_, _, fun_mk (st := s__law_open) l__law_open c__law_open k__law_open, PySem.W.mg_of X G a__law_open, (fun_mk (st := s__law_open) l__law_open c__law_open k__law_open).binds (ps := ["_law_script"]) fun _ _ _ _ _ _ us hl => match us, hl with | [_], _ => rfl⟩,
    d__law_draw := ⟨_, _, fun_mk (st := s__law_draw) l__law_draw c__law_draw k__law_draw, PySem.W.mg_of X G a__law_draw, (fun_mk (st := s__law_draw) l__law_draw c__law_draw k__law_draw).binds (ps := ["_law_state", "_law_many"]) fun _ _ _ _ _ _ us hl => match us, hl with | [_, _], _ => rfl⟩,
    d__law_word := ⟨_, _, fun_mk (st := s__law_word) l__law_word c__law_word k__law_word, PySem.W.mg_of X G a__law_word, (fun_mk (st := s__law_word) l__law_word c__law_word k__law_word).binds (ps := ["_law_state", "_law_endings"]) fun _ _ _ _ _ _ us hl => match us, hl with | [_, _], _ => rfl⟩,
    d__law_table := ⟨_, _, fun_mk (st := s__law_table) l__law_table c__law_table k__law_table, PySem.W.mg_of X G a__law_table, (fun_mk (st := s__law_table) l__law_table c__law_table k__law_table).binds (ps := []) fun _ _ _ _ _ _ us hl => match us, hl with | [], _ => rfl⟩,
    d__law_refused := ⟨_, _, fun_mk (st := s__law_refused) l__law_refused c__law_refused k__law_refused, PySem.W.mg_of X G a__law_refused, (fun_mk (st := s__law_refused) l__law_refused c__law_refused k__law_refused).binds (ps := ["_law_kind", "_law_value"]) fun _ _ _ _ _ _ us hl => match us, hl with | [_, _], _ => rfl⟩,
    d__law_spoilt := ⟨_, _, fun_mk (st := s__law_spoilt) l__law_spoilt c__law_spoilt k__law_spoilt, PySem.W.mg_of X G a__law_spoilt, (fun_mk (st := s__law_spoilt) l__law_spoilt c__law_spoilt k__law_spoilt).binds (ps := ["_law_state", "_law_line"]) fun _ _ _ _ _ _ us hl => match us, hl with | [_, _], _ => rfl⟩,
    d_law := ⟨_, _, fun_mk (st := s_law) l_law c_law k_law, PySem.W.mg_of X G a_law, (fun_mk (st := s_law) l_law c_law k_law).binds (ps := ["_law_script"]) fun _ _ _ _ _ _ us hl => match us, hl with | [_], _ => rfl⟩ }⟩⟩⟩⟩⟩⟩⟩⟩⟩⟩⟩⟩⟩
end
end K
open PySem PySem.W PyProof.Rows
set_option maxHeartbeats 0 in
theorem PySem.Challenge.cw_roundrules_k74_notes_of_rules_and_marks_holds : PySem.Challenge.rw_roundrules_k74_notes_of_rules_and_marks.Holds := by
  w_on; o_law; k_head; (case hw => w_witness2)
  k_fill
  refine G.walk_ofG (l := PySem.Challenge.rw_roundrules_k74_notes_of_rules_and_marks) (n := 63) (k := 12) (g := true) (x := "_law_script") (sp := K.spLaw) rfl (by decide) rfl ⟨rfl, by decide, by decide⟩ (fun w h Y => PySem.W.kIn_of Y) ?F (fun _ _ a ns hl _ hS => ⟨a, ns, rfl, hS, hl, fun _ => rfl⟩)
  case F =>
    intro w mg fa h KX G hmg
    refine' K.law_mk hmg (K.all_mk (w := w) KX G hmg ?z_int ?z_isinstance ?z_len ?z_range ?z_repr ?z_str ?z_tuple ?z_zip ?c_LETTERS ?g_KEYWORDS ?l_KEYWORDS ?g_SWITCHES ?l_SWITCHES ?s_SWITCHES ?lv_SWITCHES_0 ?lv_SWITCHES_1 ?lv_SWITCHES_2 ?lv_SWITCHES_3 ?lv_SWITCHES_4 ?lv_SWITCHES_5 ?lv_SWITCHES_6 ?g_RoundError ?ic_RoundError ?tt_RoundError ?g_BadSwitch ?ic_BadSwitch ?tt_BadSwitch ?xl_BadSwitch ?sa_BadSwitch ?ga_BadSwitch ?gg_BadSwitch ?nb_BadSwitch ?kC_BadSwitch ?eC_BadSwitch ?tC_BadSwitch ?hC_BadSwitch ?cc_BadSwitch ?mo_BadSwitch ?a_BadSwitch___init__ ?l_BadSwitch___init__ ?c_BadSwitch___init__ ?k_BadSwitch___init__ ?ty_BadSwitch___init__ ?g_BadNote ?ic_BadNote ?tt_BadNote ?xl_BadNote ?sa_BadNote ?ga_BadNote ?gg_BadNote ?nb_BadNote ?kC_BadNote ?eC_BadNote ?tC_BadNote ?hC_BadNote ?cc_BadNote ?mo_BadNote ?a_BadNote___init__ ?l_BadNote___init__ ?c_BadNote___init__ ?k_BadNote___init__ ?ty_BadNote___init__ ?g_Rule ?ic_Rule ?tt_Rule ?pg_Rule ?hd_Rule ?po_Rule ?sa_Rule ?kC_Rule ?mk_Rule ?cc_Rule ?mo_Rule ?sf_Rule ?ne_Rule ?nb_Rule_bound ?nb_Rule_test ?nb_Rule_variable ?nb_Rule_limit ?nb_Rule_after ?nb_Rule_cell ?nb_Rule_skip ?nb_Rule_words ?nf_Rule_NoneType ?nf_Rule_list ?nf_Rule_tuple ?nf_Rule_str ?nf_Rule_int ?nf_Rule_bool ?nf_Rule_dict ?a_Rule___init__ ?l_Rule___init__ ?c_Rule___init__ ?k_Rule___init__ ?kd_Rule_bound ?kd_Rule_test ?kd_Rule_variable ?kd_Rule_limit ?kd_Rule_after ?kd_Rule_cell ?kd_Rule_skip ?if_Rule___init__ ?gaT_Rule ?rdT_Rule ?a_Rule_counting ?pr_Rule_counting ?l_Rule_counting ?c_Rule_counting ?k_Rule_counting ?a_Rule_testing ?pr_Rule_testing ?l_Rule_testing ?c_Rule_testing ?k_Rule_testing ?a_Rule_closed ?pr_Rule_closed ?l_Rule_closed ?c_Rule_closed ?k_Rule_closed ?a_Rule_trailing ?pr_Rule_trailing ?l_Rule_trailing ?c_Rule_trailing ?k_Rule_trailing ?a_Rule___getitem__ ?l_Rule___getitem__ ?c_Rule___getitem__ ?k_Rule___getitem__ ?if_Rule___getitem__ ?fi_Rule___getitem__ ?a_Rule___iter__ ?l_Rule___iter__ ?c_Rule___iter__ ?k_Rule___iter__ ?if_Rule___iter__ ?fi_Rule___iter__ ?a_Rule___eq__ ?l_Rule___eq__ ?c_Rule___eq__ ?k_Rule___eq__ ?if_Rule___eq__ ?fi_Rule___eq__ ?a_Rule_changed ?l_Rule_changed ?c_Rule_changed ?k_Rule_changed ?if_Rule_changed ?fi_Rule_changed ?z_get ?z_tak ?sx_BadNote_RoundError ?xs_BadNote ?a__wall ?l__wall ?c__wall ?k__wall ?a_is_name ?l_is_name ?c_is_name ?k_is_name ?a_is_word ?l_is_word ?c_is_word ?k_is_word ?a_note_words ?l_note_words ?c_note_words ?k_note_words ?a_write_rule ?l_write_rule ?c_write_rule ?k_write_rule ?a_read_rule ?l_read_rule ?c_read_rule ?k_read_rule ?a_write_mark ?l_write_mark ?c_write_mark ?k_write_mark ?a_read_mark ?l_read_mark ?c_read_mark ?k_read_mark ?a__law_open ?l__law_open ?c__law_open ?k__law_open ?a__law_draw ?l__law_draw ?c__law_draw ?k__law_draw ?a__law_word ?l__law_word ?c__law_word ?k__law_word ?a__law_table ?l__law_table ?c__law_table ?k__law_table ?a__law_refused ?l__law_refused ?c__law_refused ?k__law_refused ?a__law_spoilt ?l__law_spoilt ?c__law_spoilt ?k__law_spoilt ?a_law ?l_law ?c_law ?k_law)
    (case z_int => k_is); (case z_isinstance => k_is); (case z_len => k_is); (case z_range => k_is); (case z_repr => k_is); (case z_str => k_is); (case z_tuple => k_is); (case z_zip => k_is); (case c_LETTERS => k_is); (case g_KEYWORDS => k_is); (case l_KEYWORDS => k_is); (case g_SWITCHES => k_is); (case l_SWITCHES => k_is); (case s_SWITCHES => first | rfl | decide | k_is); (case lv_SWITCHES_0 => k_is); (case lv_SWITCHES_1 => k_is); (case lv_SWITCHES_2 => k_is); (case lv_SWITCHES_3 => k_is); (case lv_SWITCHES_4 => k_is); (case lv_SWITCHES_5 => k_is); (case lv_SWITCHES_6 => k_is); (case g_RoundError => k_is); (case ic_RoundError => k_is); (case tt_RoundError => k_is); (case g_BadSwitch => k_is); (case ic_BadSwitch => k_is); (case tt_BadSwitch => k_is); (case xl_BadSwitch => k_is); (case sa_BadSwitch => k_is); (case ga_BadSwitch => k_is); (case gg_BadSwitch => k_is); (case nb_BadSwitch => k_is); (case kC_BadSwitch => k_is); (case eC_BadSwitch => k_is); (case tC_BadSwitch => k_is); (case hC_BadSwitch => k_is); (case cc_BadSwitch => k_is); (case mo_BadSwitch => k_is); (case a_BadSwitch___init__ => k_is); (case l_BadSwitch___init__ => k_is); (case c_BadSwitch___init__ => k_is); (case k_BadSwitch___init__ => k_is); (case ty_BadSwitch___init__ => k_is); (case g_BadNote => k_is); (case ic_BadNote => k_is); (case tt_BadNote => k_is); (case xl_BadNote => k_is); (case sa_BadNote => k_is); (case ga_BadNote => k_is); (case gg_BadNote => k_is); (case nb_BadNote => k_is); (case kC_BadNote => k_is); (case eC_BadNote => k_is); (case tC_BadNote => k_is); (case hC_BadNote => k_is); (case cc_BadNote => k_is); (case mo_BadNote => k_is); (case a_BadNote___init__ => k_is); (case l_BadNote___init__ => k_is); (case c_BadNote___init__ => k_is); (case k_BadNote___init__ => k_is); (case ty_BadNote___init__ => k_is); (case g_Rule => k_is); (case ic_Rule => k_is); (case tt_Rule => k_is); (case pg_Rule => k_is); (case hd_Rule => k_is); (case po_Rule => k_is); (case sa_Rule => k_is); (case kC_Rule => k_is); (case mk_Rule => k_is); (case cc_Rule => k_is); (case mo_Rule => k_is); (case sf_Rule => k_is); (case ne_Rule => k_is); (case nb_Rule_bound => k_is); (case nb_Rule_test => k_is); (case nb_Rule_variable => k_is); (case nb_Rule_limit => k_is); (case nb_Rule_after => k_is); (case nb_Rule_cell => k_is); (case nb_Rule_skip => k_is); (case nb_Rule_words => k_is); (case nf_Rule_NoneType => k_is); (case nf_Rule_list => k_is); (case nf_Rule_tuple => k_is); (case nf_Rule_str => k_is); (case nf_Rule_int => k_is); (case nf_Rule_bool => k_is); (case nf_Rule_dict => k_is); (case a_Rule___init__ => k_is); (case l_Rule___init__ => k_is); (case c_Rule___init__ => k_is); (case k_Rule___init__ => k_is); (case kd_Rule_bound => k_is); (case kd_Rule_test => k_is); (case kd_Rule_variable => k_is); (case kd_Rule_limit => k_is); (case kd_Rule_after => k_is); (case kd_Rule_cell => k_is); (case kd_Rule_skip => k_is); (case if_Rule___init__ => k_is); (case gaT_Rule => k_is); (case rdT_Rule => k_is); (case a_Rule_counting => k_is); (case pr_Rule_counting => k_is); (case l_Rule_counting => k_is); (case c_Rule_counting => k_is); (case k_Rule_counting => k_is); (case a_Rule_testing => k_is); (case pr_Rule_testing => k_is); (case l_Rule_testing => k_is); (case c_Rule_testing => k_is); (case k_Rule_testing => k_is); (case a_Rule_closed => k_is); (case pr_Rule_closed => k_is); (case l_Rule_closed => k_is); (case c_Rule_closed => k_is); (case k_Rule_closed => k_is); (case a_Rule_trailing => k_is); (case pr_Rule_trailing => k_is); (case l_Rule_trailing => k_is); (case c_Rule_trailing => k_is); (case k_Rule_trailing => k_is); (case a_Rule___getitem__ => k_is); (case l_Rule___getitem__ => k_is); (case c_Rule___getitem__ => k_is); (case k_Rule___getitem__ => k_is); (case if_Rule___getitem__ => k_is); (case fi_Rule___getitem__ => k_is); (case a_Rule___iter__ => k_is); (case l_Rule___iter__ => k_is); (case c_Rule___iter__ => k_is); (case k_Rule___iter__ => k_is); (case if_Rule___iter__ => k_is); (case fi_Rule___iter__ => k_is); (case a_Rule___eq__ => k_is); (case l_Rule___eq__ => k_is); (case c_Rule___eq__ => k_is); (case k_Rule___eq__ => k_is); (case if_Rule___eq__ => k_is); (case fi_Rule___eq__ => k_is); (case a_Rule_changed => k_is); (case l_Rule_changed => k_is); (case c_Rule_changed => k_is); (case k_Rule_changed => k_is); (case if_Rule_changed => k_is); (case fi_Rule_changed => k_is); (case z_get => k_is); (case z_tak => k_is); (case sx_BadNote_RoundError => k_is); (case xs_BadNote => k_is); (case a__wall => k_is); (case l__wall => k_is); (case c__wall => k_is); (case k__wall => k_is); (case a_is_name => k_is); (case l_is_name => k_is); (case c_is_name => k_is); (case k_is_name => k_is); (case a_is_word => k_is); (case l_is_word => k_is); (case c_is_word => k_is); (case k_is_word => k_is); (case a_note_words => k_is); (case l_note_words => k_is); (case c_note_words => k_is); (case k_note_words => k_is); (case a_write_rule => k_is); (case l_write_rule => k_is); (case c_write_rule => k_is); (case k_write_rule => k_is); (case a_read_rule => k_is); (case l_read_rule => k_is); (case c_read_rule => k_is); (case k_read_rule => k_is); (case a_write_mark => k_is); (case l_write_mark => k_is); (case c_write_mark => k_is); (case k_write_mark => k_is); (case a_read_mark => k_is); (case l_read_mark => k_is); (case c_read_mark => k_is); (case k_read_mark => k_is); (case a__law_open => k_is); (case l__law_open => k_is); (case c__law_open => k_is); (case k__law_open => k_is); (case a__law_draw => k_is); (case l__law_draw => k_is); (case c__law_draw => k_is); (case k__law_draw => k_is); (case a__law_word => k_is); (case l__law_word => k_is); (case c__law_word => k_is); (case k__law_word => k_is); (case a__law_table => k_is); (case l__law_table => k_is); (case c__law_table => k_is); (case k__law_table => k_is); (case a__law_refused => k_is); (case l__law_refused => k_is); (case c__law_refused => k_is); (case k__law_refused => k_is); (case a__law_spoilt => k_is); (case l__law_spoilt => k_is); (case c__law_spoilt => k_is); (case k__law_spoilt => k_is); (case a_law => k_is); (case l_law => k_is); (case c_law => k_is); (case k_law => k_is)
