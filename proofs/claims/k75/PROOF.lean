import PyProof.Rows.All
import Wide.All
import OpenK.AllK
import Wide.FinOn
import HandS.ForMost
import HandS.IsInst
import HandS.StrMore
import HandS.Style
import HandS.Deep
import HandS.Wide
import HandS.TupAny
import HandS.ExcInit
import HandS.ExcField
import HandS.ExcIs
import HandS.ExcOwn
import HandS.WordsExc
import HandS.CallSlots
import HandS.Property
import HandS.MakeKw
import HandS.MakeKwOnly
import KE.KExcIs
import HandS.Ends
import HandS.EndBits
import HandS.More
import HandS.Dict
import PySem.Challenge.RW_roundrules_k75_notes_of_plays
set_option Elab.async false
set_option linter.all false
set_option maxRecDepth 100000
namespace G
open PySem PySem.Spec PyProof.Rows L2
theorem sz {n : Nat} (h : n ≤ 100000) : n ≤ sizeLine := Nat.le_trans h (by decide)
theorem szl {n : Nat} (h : n < 100000) : n < sizeLine := Nat.lt_of_lt_of_le h (by decide)
section
variable {X : Cx}
/-! ### rules that leave the kind open -/
def rAdd (K : PySem.W.Frag) : R2 := fun x y H Q => match x, y with
  | .int i, .int j => Q (.int (i + j)) H
  | .str i, .str j => i.length + j.length ≤ sizeLine ∧ Q (.str (i ++ j)) H
  | .ref a, .ref b => rCat (.ref a) (.ref b) H Q ∨ rCatA K (.ref a) (.ref b) H Q
  | _, _ => False
theorem gAdd : OpR X (binaryOp .Add) (rAdd X.K) := by
  intro pins s σ H x y v u Q I rx ry h
  cases x <;> cases y <;> first
    | exact h.elim
    | exact op_add pins s σ H _ _ v u Q I rx ry ⟨_, _, rfl, rfl, h⟩
    | exact op_add_str pins s σ H _ _ v u Q I rx ry ⟨_, _, rfl, rfl, h.1, h.2⟩
    | exact op_cat.or op_catA pins s σ H _ _ v u Q I rx ry h
def rSub : R2 := fun x y H Q => match x, y with
  | .int i, .int j => Q (.int (i - j)) H
  | _, _ => False
theorem gSub' : OpR X (binaryOp .Sub) rSub := by
  intro pins s σ H x y v u Q I rx ry h
  cases x <;> cases y <;> first
    | exact h.elim
    | exact op_sub pins s σ H _ _ v u Q I rx ry ⟨_, _, rfl, rfl, h⟩
def rMul : R2 := fun x y H Q => match x, y with
  | .int i, .int j => (CMul i j ∨ CMulW i j) ∧ Q (.int (i * j)) H
  | _, _ => False
theorem gMul : OpR X (binaryOp .Mult) rMul := by
  intro pins s σ H x y v u Q I rx ry h
  cases x <;> cases y <;> first
    | exact h.elim
    | (rcases h with ⟨h | h, q⟩
       · exact op_mul pins s σ H _ _ v u Q I rx ry ⟨_, _, rfl, rfl, h, q⟩
       · exact op_mulW pins s σ H _ _ v u Q I rx ry ⟨_, _, rfl, rfl, h, q⟩)
def rDiv : R2 := fun x y H Q => match x, y with
  | .int i, .int j => CDivW i j ∧ Q (.int (i / j)) H
  | _, _ => False
theorem gDiv : OpR X (binaryOp .FloorDiv) rDiv := by
  intro pins s σ H x y v u Q I rx ry h
  cases x <;> cases y <;> first
    | exact h.elim
    | exact op_fdivW pins s σ H _ _ v u Q I rx ry ⟨_, _, rfl, rfl, h.1, h.2⟩
def rMod : R2 := fun x y H Q => match x, y with
  | .int i, .int j => 0 < j ∧ Q (.int (i % j)) H
  | _, _ => False
theorem gMod : OpR X (binaryOp .Mod) rMod := by
  intro pins s σ H x y v u Q I rx ry h
  cases x <;> cases y <;> first
    | exact h.elim
    | exact op_mod pins s σ H _ _ v u Q I rx ry ⟨_, _, rfl, rfl, h.1, h.2⟩
def rPow : R2 := fun x y H Q => match x, y with
  | .int i, .int j => CPow i j ∧ Q (.int (i ^ j.toNat)) H
  | _, _ => False
theorem gPow : OpR X (binaryOp .Pow) rPow := by
  intro pins s σ H x y v u Q I rx ry h
  cases x <;> cases y <;> first
    | exact h.elim
    | exact op_pow pins s σ H _ _ v u Q I rx ry ⟨_, _, rfl, rfl, h.1, h.2⟩
def rCmp (g : Int → Int → Bool) : R2 := fun x y H Q => match x, y with
  | .int i, .int j => Q (.bl (g i j)) H
  | _, _ => False
theorem cmp_of {f : Value → Value → Sem Value} {g : Int → Int → Bool} (ho : OpR X f (rI0 fun i j => .bl (g i j))) : OpR X f (rCmp g) := by
  intro pins s σ H x y v u Q I rx ry h
  cases x <;> cases y <;> first
    | exact h.elim
    | exact ho pins s σ H _ _ v u Q I rx ry ⟨_, _, rfl, rfl, h⟩
theorem gLt : OpR X (compareOp .Lt) (rCmp fun i j => decide (i < j)) := cmp_of op_lt
theorem gLe : OpR X (compareOp .LtE) (rCmp fun i j => decide (i ≤ j)) := cmp_of op_le
theorem gGt : OpR X (compareOp .Gt) (rCmp fun i j => decide (j < i)) := cmp_of op_gt
theorem gGe : OpR X (compareOp .GtE) (rCmp fun i j => decide (j ≤ i)) := cmp_of op_ge
def rEqA (K : PySem.W.Frag) : R2 := fun x y H Q => rEq x y H Q ∨ rEqD K x y H Q
def rNeA (K : PySem.W.Frag) : R2 := fun x y H Q => rNe x y H Q ∨ rNeD K x y H Q
theorem gEq {k : Nat} (hr : Room k X.A) : OpR X (compareOp .Eq) (rEqA X.K) := op_eq.or (op_eqD hr.units)
theorem gNe {k : Nat} (hr : Room k X.A) : OpR X (compareOp .NotEq) (rNeA X.K) := op_ne.or (op_neD hr.units)
def rIsA : R2 := fun x y H Q => (y = .non ∧ Q (.bl (decide (x = .non))) H) ∨ rIsB x y H Q
def rIsNotA : R2 := fun x y H Q => (y = .non ∧ Q (.bl (!decide (x = .non))) H) ∨ rNotB x y H Q
theorem gIs : OpR X (compareOp .Is) rIsA := op_isN.or op_isBl
theorem gIsNot : OpR X (compareOp .IsNot) rIsNotA := op_notN.or op_notBl
def rInA (K : PySem.W.Frag) : R2 := fun x y H Q => (∃ (c : Nat) (z : Str), x = .str ⟨#[c]⟩ ∧ y = .str z ∧ Q (.bl (decide (c ∈ z.cps.toList))) H) ∨ rIn K false x y H Q ∨ rInD K x y H Q
def rNotInA (K : PySem.W.Frag) : R2 := fun x y H Q => (∃ (c : Nat) (z : Str), x = .str ⟨#[c]⟩ ∧ y = .str z ∧ Q (.bl (!decide (c ∈ z.cps.toList))) H) ∨ rIn K true x y H Q ∨ rNotInD K x y H Q
theorem u65 {k : Nat} {A : Around} (hr : Room k A) : A.units + 65 < cLine := by
  have := hr.un
  omega
theorem gIn {k : Nat} (hr : Room k X.A) : OpR X (compareOp .In) (rInA X.K) := op_in_sign.or (op_in_seq.or (op_inD (u65 hr)))
theorem gNotIn {k : Nat} (hr : Room k X.A) : OpR X (compareOp .NotIn) (rNotInA X.K) := op_notIn_sign.or (op_notIn_seq.or (op_notInD (u65 hr)))
def rSlG (K : PySem.W.Frag) : V → Option Int → Option Int → Hp → VK → Prop := fun x lo hi H Q => match x with
  | .str z => z.length ≤ sizeLine ∧ Q (.str (cutS z lo hi)) H
  | .ref a => rSlL K (.ref a) lo hi H Q ∨ rSlA K (.ref a) lo hi H Q
  | _ => False
theorem gSl : SlR X (rSlG X.K) := by
  intro pins s σ H x v vl vu lo hi sl Q I rx hs pl pu h
  cases x <;> first
    | exact h.elim
    | exact sl_str pins s σ H _ v vl vu lo hi sl Q I rx hs pl pu ⟨_, rfl, h.1, h.2⟩
    | exact sl_list.or sl_tupA pins s σ H _ v vl vu lo hi sl Q I rx hs pl pu h
theorem CallR.or {f : Value} {r r' : List V → Hp → VK → Prop} (h : CallR X f r) (h' : CallR X f r') : CallR X f (fun xs H Q => r xs H Q ∨ r' xs H Q) := by
  intro pins s σ H xs us Q I rv q
  rcases q with q | q
  · exact h pins s σ H xs us Q I rv q
  · exact h' pins s σ H xs us Q I rv q
def rLen (K : PySem.W.Frag) : List V → Hp → VK → Prop := fun xs H Q => match xs with
  | [.str y] => y.length ≤ sizeLine ∧ Q (.int y.length) H
  | [.ref p] => ∃ xs, (SqL K H p xs ∨ SqT K H p xs) ∧ Q (.int xs.length) H
  | _ => False
theorem gLen : CallR X (.builtin "len") (rLen X.K) := by
  intro pins s σ H xs us Q I rv h
  match xs, rv, h with
  | [.str y], rv, h => exact call_len pins s σ H _ us Q I rv ⟨_, _, rfl, ⟨h.1, rfl⟩, h.2⟩
  | [.ref p], rv, h =>
    obtain ⟨xs, h1 | h1, q⟩ := h
    · exact call_len pins s σ H _ us Q I rv ⟨_, _, rfl, .inl ⟨_, h1, rfl⟩, q⟩
    · exact call_len pins s σ H _ us Q I rv ⟨_, _, rfl, .inr ⟨_, h1, rfl⟩, q⟩
def rIsiA (K : PySem.W.Frag) : List V → Hp → VK → Prop := fun xs H Q => rIsi K xs H Q ∨ rIsiT K xs H Q
theorem gIsi : CallR X (.builtin "isinstance") (rIsiA X.K) := CallR.or call_isi call_isiT
def rIntA : List V → Hp → VK → Prop := fun xs H Q => match xs with
  | [.int i] => Q (.int i) H
  | [.bl k] => Q (.int (if k then 1 else 0)) H
  | [.str a] => ∃ n, PySem.intText? a = some n ∧ a.length ≤ 640 ∧ Q (.int n) H
  | _ => False
theorem g_int : CallR X (.type "int") rIntA := by
  intro pins s σ H xs us Q I rv h
  match xs, rv, h with
  | [.int i], rv, h => exact call_int1 pins s σ H _ us Q I rv (.inl ⟨_, rfl, h⟩)
  | [.bl i], rv, h => exact call_int1 pins s σ H _ us Q I rv (.inr ⟨_, rfl, h⟩)
  | [.str i], rv, ⟨n, h1, h2, q⟩ => exact call_int_str pins s σ H _ us Q I rv ⟨_, n, rfl, h1, h2, q⟩
def rStrA : List V → Hp → VK → Prop := fun xs H Q => match xs with
  | [.int i] => i.natAbs.log2 < 1920 ∧ Q (.str (toString i)) H
  | _ => False
theorem g_str : CallR X (.type "str") rStrA := by
  intro pins s σ H xs us Q I rv h
  match xs, rv, h with
  | [.int i], rv, h => exact call_str_int pins s σ H _ us Q I rv ⟨_, rfl, h.1, h.2⟩
def rListA (K : PySem.W.Frag) : List V → Hp → VK → Prop := fun xs H Q => match xs with
  | [.ref p] => ∃ ys, (SqL K H p ys ∨ SqT K H p ys) ∧ ∀ l, H l = none → Q (.ref l) (upd H l (.lst ys))
  | _ => False
theorem g_list : CallR X (.type "list") (rListA X.K) := by
  intro pins s σ H xs us Q I rv h
  match xs, rv, h with
  | [.ref i], rv, ⟨ys, h, q⟩ => exact call_list_of pins s σ H _ us Q I rv ⟨_, _, rfl, h, q⟩
def rTupA (K : PySem.W.Frag) : List V → Hp → VK → Prop := fun xs H Q => match xs with
  | [.ref p] => ∃ ys, (SqL K H p ys ∧ ∀ l, H l = none → Q (.ref l) (upd H l (.tup ys))) ∨ (SqT K H p ys ∧ Q (.ref p) H)
  | _ => False
theorem g_tuple : CallR X (.type "tuple") (rTupA X.K) := by
  intro pins s σ H xs us Q I rv h
  match xs, rv, h with
  | [.ref i], rv, ⟨ys, h⟩ => exact call_tuple_of pins s σ H _ us Q I rv ⟨_, _, rfl, h⟩
def rIxA (K : PySem.W.Frag) : R2 := fun x y H Q => match x, y with
  | .ref p, .int i => ∃ xs v, (SqL K H p xs ∨ SqT K H p xs) ∧ atI xs i = some v ∧ Q v H
  | .str z, .int i => z.length ≤ sizeLine ∧ ∃ c, atI z.cps.toList i = some c ∧ Q (.str ⟨#[c]⟩) H
  | _, _ => False
theorem gIx : IxR X (rIxA X.K) := by
  intro value slice pins s σ H x y v u Q I rx ry h hs
  cases x <;> cases y <;> first
    | exact h.elim
    | (obtain ⟨xs, v', h1 | h1, h2, q⟩ := h
       · exact ix_list value slice pins s σ H _ _ v u Q I rx ry ⟨_, _, _, _, rfl, rfl, h1, h2, q⟩ hs
       · exact ix_tup value slice pins s σ H _ _ v u Q I rx ry ⟨_, _, _, _, rfl, rfl, h1, h2, q⟩ hs)
    | (obtain ⟨h1, c, h2, q⟩ := h
       exact ix_str value slice pins s σ H _ _ v u Q I rx ry ⟨_, _, _, rfl, rfl, h1, h2, q⟩ hs)
/-- a built-in type's name -/
theorem gTy {x : Str} {n : String} {pos : Pos} (hg : Gl X x) (hm : X.mg x = none) (hv : bootBuiltins x = some (.type n)) (hn : x ≠ "__name__" := by decide) (hd : (x == ("__debug__" : Str)) = false := by decide) : PE X (.Name x pos) (tC (.ty n)) :=
  pe_bltn (v := .ty n) hg hm hv rfl hn hd
/-- what is walked: a list, a tuple, a text -/
def iAny (K : PySem.W.Frag) (te : TE) : TI := fun σ H R => iList K te σ H R ∨ iTup K te σ H R ∨ iStr te σ H R
theorem IT {tg e : Expr} {te : TE} (he : PE X e te) : PI X tg e (iAny X.K te) := by
  refine ⟨fun pins s σ H R I h => ?_⟩
  rcases h with h | h | h
  · exact (pi_list he).run pins s σ H R I h
  · exact (pi_tup he).run pins s σ H R I h
  · exact (pi_str he).run pins s σ H R I h
/-- a statement, then the rest, with a word between them -/
def tCut (t u : TS) : TS := fun D σ H => ∃ Mid : L2.St → Hp → Prop, t { D with nx := Mid } σ H ∧ ∀ σ' H', Mid σ' H' → u D σ' H'
theorem pss_cut {st : Stmt} {rest : List Stmt} {t u : TS} (h1 : PS X st t) (h2 : PSs X rest u) : PSs X (st :: rest) (tCut t u) := by
  refine ⟨fun pins s σ H D I h => ?_⟩
  obtain ⟨Mid, hm, hu⟩ := h
  refine wpAny_execs_cons (thn (h1.run pins s σ H { D with nx := Mid } I hm) fun f s1 q => ?_)
  cases f with
  | next =>
    obtain ⟨σ', H', I', q⟩ := q
    exact h2.run pins s1 σ' H' D I' (hu σ' H' q)
  | ret v => exact q
  | brk => exact q
  | cont => exact q
/-- an expression, a test, with a word behind it -/
def tCutE (t : TE) : TE := fun σ H Q => ∃ M : VK, t σ H M ∧ ∀ v H', M v H' → Q v H'
def tCutT (t : TT) : TT := fun σ H Q => ∃ M : Bool → Hp → Prop, t σ H M ∧ ∀ v H', M v H' → Q v H'
theorem pe_cut {e : Expr} {t : TE} (h : PE X e t) : PE X e (tCutE t) := by
  refine ⟨fun pins s σ H Q I ⟨M, hm, hu⟩ => thn (h.run pins s σ H M I hm) fun u s1 ⟨v, H1, I1, r, q⟩ => ⟨v, H1, I1, r, hu v H1 q⟩⟩
theorem pt_cut {e : Expr} {t : TT} (h : PT X e t) : PT X e (tCutT t) := by
  refine ⟨fun pins s σ H Q I ⟨M, hm, hu⟩ => thn (h.run pins s σ H M I hm) fun u s1 ⟨H1, I1, q⟩ => ⟨H1, I1, hu _ H1 q⟩⟩
theorem i_cutE {t : TE} {σ : L2.St} {H : Hp} {Q : VK} (M : VK) (hm : t σ H M) (hu : ∀ v H', M v H' → Q v H') : tCutE t σ H Q := ⟨M, hm, hu⟩
theorem i_cutT {t : TT} {σ : L2.St} {H : Hp} {Q : Bool → Hp → Prop} (M : Bool → Hp → Prop) (hm : t σ H M) (hu : ∀ v H', M v H' → Q v H') : tCutT t σ H Q := ⟨M, hm, hu⟩
/-- .. whose answer is b, leaving the heap -/
theorem i_isT {t : TT} {σ : L2.St} {H : Hp} {Q : Bool → Hp → Prop} (b : Bool) (hm : t σ H fun v H' => v = b ∧ H' = H) (hu : Q b H) : tCutT t σ H Q := ⟨_, hm, fun v H' ⟨e1, e2⟩ => by rw [e1, e2]; exact hu⟩
theorem i_isE {t : TE} {σ : L2.St} {H : Hp} {Q : VK} (x : V) (hm : t σ H fun v H' => v = x ∧ H' = H) (hu : Q x H) : tCutE t σ H Q := ⟨_, hm, fun v H' ⟨e1, e2⟩ => by rw [e1, e2]; exact hu⟩
theorem cut_seq {t u : TS} {D : Ends} {σ : L2.St} {H : Hp} (h : t { D with nx := u D } σ H) : tCut t u D σ H := ⟨u D, h, fun _ _ q => q⟩
end
/-! the same, the written part by its name (inside a comprehension) -/
section
variable {X : Cx} {K : PySem.W.Frag}
theorem kAdd (hK : X.K = K) : OpR X (binaryOp .Add) (rAdd K) := by subst hK; exact gAdd
theorem kEq {k : Nat} (hK : X.K = K) (hr : Room k X.A) : OpR X (compareOp .Eq) (rEqA K) := by subst hK; exact gEq hr
theorem kNe {k : Nat} (hK : X.K = K) (hr : Room k X.A) : OpR X (compareOp .NotEq) (rNeA K) := by subst hK; exact gNe hr
theorem kIn {k : Nat} (hK : X.K = K) (hr : Room k X.A) : OpR X (compareOp .In) (rInA K) := by subst hK; exact gIn hr
theorem kNotIn {k : Nat} (hK : X.K = K) (hr : Room k X.A) : OpR X (compareOp .NotIn) (rNotInA K) := by subst hK; exact gNotIn hr
theorem kSl (hK : X.K = K) : SlR X (rSlG K) := by subst hK; exact gSl
theorem kLen (hK : X.K = K) : CallR X (.builtin "len") (rLen K) := by subst hK; exact gLen
theorem kIsi (hK : X.K = K) : CallR X (.builtin "isinstance") (rIsiA K) := by subst hK; exact gIsi
theorem k_list (hK : X.K = K) : CallR X (.type "list") (rListA K) := by subst hK; exact g_list
theorem k_tuple (hK : X.K = K) : CallR X (.type "tuple") (rTupA K) := by subst hK; exact g_tuple
theorem kIx (hK : X.K = K) : IxR X (rIxA K) := by subst hK; exact gIx
theorem kIT {tg e : Expr} {te : TE} (hK : X.K = K) (he : PE X e te) : PI X tg e (iAny K te) := by subst hK; exact IT he
theorem kTruth {a : Expr} {ta : TE} (hK : X.K = K) (ha : PE X a ta) (he : ∀ whole, isTrue a X.env whole = (do let v ← whole; standAt a.pos; holding [v] (truthy v))) : PT X a (fun σ H Q => ta σ H fun x H' => ∃ k, TruV K x H' k ∧ Q k H') := by
  subst hK
  exact pt_truth ha he
theorem kBm {o e : Expr} {es : List Expr} {to : TE} {t : TA} {name : Str} {apos cpos : Pos} {T id : String} {r : V → List V → Hp → VK → Prop} (hK : X.K = K) (pa : PlainAttrs T) (slot : Slot T name id) (hty : typeOf (.builtin id) = pure (.type "method_descriptor")) (hm : MtR X id r) (ho : PE X o to) (ha : PA X (e :: es) t)
    (hbase : attributeBase o name X.env (eval o X.env) = eval o X.env := by rfl)
    (hfew : ((backTo cpos (starEach (e :: es) X.env)).all (fun x => !x.1) && (backToKw cpos (keywordEach [] X.env)).all (fun x => x.1.isSome)
      && decide ((e :: es).length + ([] : List Keyword).length + (if ([] : List Keyword).isEmpty then 0 else 1) < 30)) = true := by rfl)
    (hline : (apos.endLine == cpos.line) = true := by rfl) (hs : starEach (e :: es) X.env = (false, eval e X.env) :: starEach es X.env := by rfl) (hplain : (backTo cpos (starEach es X.env)).any (·.1) = false := by rfl) :
    PE X (.Call (.Attribute o name apos) (e :: es) [] cpos) (tBM K T r to t) := by
  subst hK
  exact pe_bm pa slot hty hm ho ha hbase hfew hline hs hplain
theorem kBm0 {o : Expr} {to : TE} {name : Str} {apos cpos : Pos} {T id : String} {r : V → List V → Hp → VK → Prop} (hK : X.K = K) (pa : PlainAttrs T) (slot : Slot T name id) (hty : typeOf (.builtin id) = pure (.type "method_descriptor")) (hm : MtR X id r) (ho : PE X o to)
    (hbase : attributeBase o name X.env (eval o X.env) = eval o X.env := by rfl) (hline : (apos.endLine == cpos.line) = true := by rfl) : PE X (.Call (.Attribute o name apos) [] [] cpos) (tBM0 K T r to) := by
  subst hK
  exact pe_bm0 pa slot hty hm ho hbase hline
theorem kTup {es : List Expr} {k : Nat} {t : TGs} {n : Nat} {pos : Pos} (hK : X.K = K) (hc : X.calm = true) (h : PGs X es t)
    (hn : (assignEach es X.env).length = n := by rfl) (hst : (assignEach es X.env).findIdx? (·.1) = none := by rfl) : PG X (.Tuple es k pos) (gTup K n t) := by
  subst hK
  exact pg_tup hc h hn hst
end
/-! ### a def by its name -/
structure Cal (P : Program) (w : World) (K : PySem.W.Frag) (mg : Str → Option Value) (base : Heap) (k : Nat) (x : Str) (sp : Sp) (dvs : List V) : Prop where
  ex : ∃ (f : Addr) (fd : FuncData) (ps : List Str) (ds : List Value), FnOk P w K mg base CX0 k f fd ps sp ∧ mg x = some (.ref f) ∧ PySem.W.keepIn K (.ref f) = true ∧ Binds K fd ps ds ∧ Vals dvs ds
/-- a def of the text: where it stands, how its arguments bind -/
structure Dd (K : PySem.W.Frag) (mg : Str → Option Value) (x : Str) (st : Stmt) (ps : List Str) : Prop where
  ex : ∃ (f : Addr) (fd : FuncData), Fun K x x st f fd ∧ mg x = some (.ref f) ∧ Binds K fd ps []
section
variable {P : Program} {w : World} {K : PySem.W.Frag} {mg : Str → Option Value} {base : Heap}
/-- the rule for a def -/
theorem Dd.cal {x : Str} {st : Stmt} {N ps : List Str} {k : Nat} {sp : Sp} (F : Dd K mg x st ps) (S : FnScope N ps (defScope st)) (len : ∀ vs H Q E, sp vs H Q E → vs.length = ps.length)
    (hbody : ∀ (f : Addr) (cdv : Value) (A : Around) (outer : List Env) (s : Shared) (H : Hp) (vs : List V) (Q : VK) (E : XK), Room k (A.deeper (envOfC x (defScope st) s.heap.objs.size f cdv)) → sp vs H Q E →
      ∃ t, PSs (cxOf CX0 P w K mg base N x (defScope st) f cdv A outer s H E).nox (defBody st) t ∧ t { nx := fun _ H' => Q .non H', rt := Q } (start N vs) H) : Cal P w K mg base (k + 1) x sp [] := by
  obtain ⟨f, fd, F1, hm, b⟩ := F.ex
  exact ⟨f, fd, ps, [], F1.ok S len (fun cdv A outer s H vs Q E hr h => hbody f cdv A outer s H vs Q E hr h), hm, F1.kp, b, .nil⟩
/-- the law itself -/
theorem Dd.law {x : Str} {st : Stmt} {N ps : List Str} {k : Nat} {sp : Sp} {fa : Addr} (F : Dd K mg x st ps) (S : FnScope N ps (defScope st)) (hfa : mg x = some (.ref fa)) (len : ∀ vs H Q E, sp vs H Q E → vs.length = ps.length)
    (hbody : ∀ (base : Heap) (f : Addr) (cdv : Value) (A : Around) (outer : List Env) (s : Shared) (H : Hp) (vs : List V) (Q : VK) (E : XK), Room k (A.deeper (envOfC x (defScope st) s.heap.objs.size f cdv)) → sp vs H Q E →
      ∃ t, PSs (cxOf CX0 P w K mg base N x (defScope st) f cdv A outer s H E).nox (defBody st) t ∧ t { nx := fun _ H' => Q .non H', rt := Q } (start N vs) H) :
    ∃ fd : FuncData, (∃ (kV doc pm : Value) (an : Option Addr) (cdv ct : Value), fd = PySem.W.fnOf x x (defArgs st) (defBody st) (defScope st) .none kV doc pm an cdv ct) ∧ ∀ base : Heap, FnOk P w K mg base CX0 (k + 1) fa fd ps sp := by
  obtain ⟨f, fd, F1, hm, b⟩ := F.ex
  have e := hfa.symm.trans hm
  cases e
  refine ⟨fd, ?_, fun base => F1.ok S len (fun cdv A outer s H vs Q E hr h => hbody base fa cdv A outer s H vs Q E hr h)⟩
  obtain ⟨oc, od, kV, doc, pm, an, cdv, ct, osl, rfl, lk, hcd⟩ := F1.ex
  exact ⟨kV, doc, pm, an, cdv, ct, rfl⟩
theorem cxK {CX : CXT} {N : List Str} {x : Str} {sc : Scope} {f : Addr} {cdv : Value} {A : Around} {outer : List Env} {s : Shared} {H : Hp} {E : XK} : (cxOf CX P w K mg base N x sc f cdv A outer s H E).nox.K = K := rfl
end
section
variable {X : Cx} {k j : Nat} {x : Str} {sp : Sp} {dvs : List V} {p pos : Pos} {e : Expr} {es : List Expr} {t : TA}
theorem pe_c (c : Cal X.prog X.w X.K X.mg X.base k x sp dvs) (hr : Room j X.A) (hk : k ≤ j) (hg : Gl X x) (ha : PA X (e :: es) t)
    (hdb : (x == ("__debug__" : Str)) = false := by decide) (he : starEach (e :: es) X.env = (false, eval e X.env) :: starEach es X.env := by rfl) (hpl : (backTo pos (starEach es X.env)).any (·.1) = false := by rfl) :
    PE X (.Call (.Name x p) (e :: es) [] pos) (tCall sp dvs E0 t) := by
  obtain ⟨f, fd, ps, ds, F, hm, kp, b, d⟩ := c.ex
  exact pe_call F (hr.mono hk) hg hm kp b d pass0 ha hdb he hpl
theorem pe_call0C (c : Cal X.prog X.w X.K X.mg X.base k x sp dvs) (hr : Room j X.A) (hk : k ≤ j) (hg : Gl X x)
    (hdb : (x == ("__debug__" : Str)) = false := by decide) : PE X (.Call (.Name x p) [] [] pos) (tCall sp dvs E0 tNil) := by
  obtain ⟨f, fd, ps, ds, F, hm, kp, b, d⟩ := c.ex
  exact pe_call0 F (hr.mono hk) hg hm kp b d pass0 hdb
theorem pe_gc {v : V} (hg : Gl X x) (h : ∃ u, X.mg x = some u ∧ RelV v u) (hd : (x == ("__debug__" : Str)) = false := by decide) : PE X (.Name x pos) (tC v) := by
  obtain ⟨u, hm, r⟩ := h
  exact pe_glob hg hm r hd
end
/-! ### readings, one step each -/
section
variable {K : PySem.W.Frag} {σ : L2.St} {H : Hp} {ta tb te tc to : TE} {t tr : TA} {tt tu : TT} {Q : VK} {QA : List V → Hp → Prop} {QB : Bool → Hp → Prop} {D : Ends} {u v : TS} {r r' : R2} {rc : List V → Hp → VK → Prop} {g : TG}
theorem i_var {i : Nat} {x : V} (h : σ[i]? = some (some x)) (q : Q x H) : tVar i σ H Q := ⟨x, h, q⟩
theorem i_c {x : V} (q : Q x H) : tC x σ H Q := q
theorem i_op (q : ta σ H fun x H1 => tb σ H1 fun y H2 => r x y H2 Q) : tOp r ta tb σ H Q := q
theorem i_un {ru : V → Hp → VK → Prop} (q : ta σ H fun x H1 => ru x H1 Q) : tUn ru ta σ H Q := q
theorem i_neg {i : Int} (q : Q (.int (-i)) H) : rU (fun i => .int (-i)) (.int i) H Q := ⟨i, rfl, q⟩
theorem i_cb (q : t σ H fun vs H1 => rc vs H1 Q) : tCB rc t σ H Q := q
theorem i_cons (q : ta σ H fun x H1 => tr σ H1 fun xs H2 => QA (x :: xs) H2) : tCons ta tr σ H QA := q
theorem i_nil (q : QA [] H) : tNil σ H QA := q
theorem i_test (q : te σ H fun x H' => ∃ k, x = .bl k ∧ QB k H') : tTest te σ H QB := q
theorem i_b (q : te σ H fun x H' => ∃ k, x = .bl k ∧ QB k H') : tB te σ H QB := q
theorem i_bl {b : Bool} {R : Bool → Prop} (q : R b) : ∃ k, V.bl b = .bl k ∧ R k := ⟨b, rfl, q⟩
theorem i_and (q : tt σ H fun c H1 => if c = true then tu σ H1 QB else QB false H1) : tAnd tt tu σ H QB := q
theorem i_or (q : tt σ H fun c H1 => if c = true then QB true H1 else tu σ H1 QB) : tOr tt tu σ H QB := q
theorem i_not (q : tt σ H fun c H1 => QB (!c) H1) : tNot tt σ H QB := q
theorem i_andV (q : ta σ H fun x H1 => ∃ c, x = .bl c ∧ if c = true then tb σ H1 Q else Q (.bl false) H1) : tAndV ta tb σ H Q := q
theorem i_orV (q : ta σ H fun x H1 => ∃ c, x = .bl c ∧ if c = true then Q (.bl true) H1 else tb σ H1 Q) : tOrV ta tb σ H Q := q
theorem i_notV (q : ta σ H fun x H1 => ∃ c, x = .bl c ∧ Q (.bl (!c)) H1) : tNotV ta σ H Q := q
theorem i_if (q : tt σ H fun c H1 => if c = true then ta σ H1 Q else tb σ H1 Q) : tIf tt ta tb σ H Q := q
theorem i_chain (q : ta σ H fun x H1 => tb σ H1 fun y H2 => r x y H2 fun z H3 => ∃ k, z = .bl k ∧ (if k = true then tc σ H3 fun w' H4 => r' y w' H4 Q else Q (.bl false) H3)) : tChain r r' ta tb tc σ H Q := q
theorem i_seq (q : u { D with nx := v D } σ H) : tSeq u v D σ H := q
theorem i_next (q : D.nx σ H) : tNext D σ H := q
theorem i_lst (q : t σ H fun xs H1 => xs.length ≤ sizeLine ∧ ∀ p, H1 p = none → Q (.ref p) (upd H1 p (.lst xs))) : tLst t σ H Q := q
theorem i_tup (q : t σ H fun xs H1 => xs.length ≤ sizeLine ∧ ∀ p, H1 p = none → Q (.ref p) (upd H1 p (.tup xs))) : tTup t σ H Q := q
theorem i_drop (q : te σ H fun _ H1 => D.nx σ H1) : tDrop te D σ H := q
theorem i_ret (q : te σ H D.rt) : tRet te D σ H := q
theorem i_ifS (q : tt σ H fun b H1 => if b = true then u D σ H1 else v D σ H1) : tIfS tt u v D σ H := q
theorem i_call {sp : Sp} {dvs : List V} {E : XK} (q : t σ H fun vs H1 => sp (vs ++ dvs) H1 Q E) : tCall sp dvs E t σ H Q := q
theorem i_asg (q : te σ H fun x H1 => g x σ H1 D.nx) : tAsg te g D σ H := q
theorem i_name {i : Nat} {x : V} {R : L2.St → Hp → Prop} (q : R (σ.set i (some x)) H) : gName i x σ H R := q
theorem i_start {N : List Str} {vs : List V} {τ : L2.St} {t : TS} (e : start N vs = τ) (q : t D τ H) : t D (start N vs) H := by
  subst e
  exact q
theorem i_sub {ti : TE} {ts : TSet} {x : V} {R : L2.St → Hp → Prop} (q : to σ H fun o H1 => ti σ H1 fun i H2 => ts o i x H2 fun H3 => R σ H3) : L2.gSub to ti ts x σ H R := q
theorem i_sl {rs : V → Option Int → Option Int → Hp → VK → Prop} {tl th : TO} (q : te σ H fun x H1 => tl σ H1 fun l H2 => th σ H2 fun u H3 => rs x l u H3 Q) : tSl rs te tl th σ H Q := q
theorem i_noP {QO : Option Int → Hp → Prop} (q : QO none H) : tNoPart σ H QO := q
theorem i_part {QO : Option Int → Hp → Prop} (q : te σ H fun x H1 => ∃ i, x = .int i ∧ QO (some i) H1) : tPart te σ H QO := q
theorem i_int {i : Int} {R : Int → Prop} (q : R i) : ∃ k, V.int i = .int k ∧ R k := ⟨i, rfl, q⟩
theorem i_bm {T : String} {rm : V → List V → Hp → VK → Prop} (q : to σ H fun x H1 => tyV K T x H1 ∧ t σ H1 fun xs H2 => rm x xs H2 Q) : tBM K T rm to t σ H Q := q
theorem i_strT {z : Str} {R : Prop} (q : R) : tyV K "str" (.str z) H ∧ R := ⟨rfl, q⟩
theorem i_yes {QB : Bool → Hp → Prop} (q : QB true H) : tYes σ H QB := q
theorem i_ite {p A B : Prop} [Decidable p] (h1 : p → A) (h2 : ¬ p → B) : if decide p = true then A else B := by
  by_cases h : p
  · rw [if_pos (decide_eq_true h)]
    exact h1 h
  · rw [if_neg (by rw [decide_eq_false h]; exact Bool.false_ne_true)]
    exact h2 h
theorem i_iteN {p A B : Prop} [Decidable p] (h1 : ¬ p → A) (h2 : p → B) : if (!decide p) = true then A else B := by
  by_cases h : p
  · rw [decide_eq_true h]
    exact iteF (h2 h)
  · rw [decide_eq_false h]
    exact iteT (h1 h)
theorem i_iteB {b : Bool} {A B : Prop} (h1 : b = true → A) (h2 : b = false → B) : if b = true then A else B := by
  cases b with
  | true => exact iteT (h1 rfl)
  | false => exact iteF (h2 rfl)
theorem i_iteBN {b : Bool} {A B : Prop} (h1 : b = false → A) (h2 : b = true → B) : if (!b) = true then A else B := by
  cases b with
  | true => exact iteF (h2 rfl)
  | false => exact iteT (h1 rfl)
/-- a comprehension's turns -/
def lcB (J : It) (g : TG) (tt : TT) (te : TE) (vs : List Nat) (σ : L2.St) (Q : VK) (H1 : Hp) : Prop := ∀ D, H1 D = none → ∃ W : Nat → Nat → Hp → Prop, (∃ m, W 0 m (upd H1 D (.lst []))) ∧ ∀ i m H, W i m H →
  (J.stop i H ∧ Q (.ref D) H) ∨ (J.go i H ∧ ∃ Nx : Hp → Prop, (∀ H', Nx H' → ∃ m', m' < m ∧ W (i + 1) m' H') ∧ ∀ x H', J.yld i H x H' → g x (wipe σ vs) H' fun σ2 H2 => wipe σ2 vs = wipe σ vs ∧ tt σ2 H2 fun b H3 =>
    if b = true then te σ2 H3 fun y H4 => ∃ acc, H4 D = some (.lst acc) ∧ acc.length < sizeLine ∧ Nx (upd H4 D (.lst (acc ++ [y]))) else Nx H3)
/-- a loop's turns -/
def forB (J : It) (g : TG) (tb : TS) (D : Ends) (σ : L2.St) (H1 : Hp) : Prop := ∃ W : Nat → Nat → L2.St → Hp → Prop, (∃ m, W 0 m σ H1) ∧ ∀ i m σ H, W i m σ H →
  (J.stop i H ∧ D.nx σ H) ∨ (J.go i H ∧ ∃ N : L2.St → Hp → Prop, (∀ σ' H', N σ' H' → ∃ m', m' < m ∧ W (i + 1) m' σ' H') ∧ ∀ x H', J.yld i H x H' → g x σ H' fun σ2 H2 => tb { D with nx := N, ct := N, bk := D.nx } σ2 H2)
theorem i_lc {wi : TI} {vs : List Nat} (q : wi σ H fun J H1 => lcB J g tt te vs σ Q H1) : tLc wi g tt te vs σ H Q := q
theorem i_for {wi : TI} (q : wi σ H fun J H1 => forB J g u D σ H1) : tFor wi g u D σ H := q
theorem i_anyL {R : It → Hp → Prop} (q : te σ H fun x H1 => ∃ a, x = .ref a ∧ (∃ xs, SqL K H1 a xs) ∧ R (Itl K a) H1) : iAny K te σ H R := .inl q
theorem i_anyT {R : It → Hp → Prop} (q : te σ H fun x H1 => ∃ a, x = .ref a ∧ (∃ xs, SqT K H1 a xs) ∧ R (Itt K a) H1) : iAny K te σ H R := .inr (.inl q)
theorem i_anyS {R : It → Hp → Prop} (q : te σ H fun v H1 => ∃ x, v = .str x ∧ R (Its x) H1) : iAny K te σ H R := .inr (.inr q)
theorem i_rng1 {R : It → Hp → Prop} (q : t σ H fun vs H1 => ∃ j : Int, vs = [.int j] ∧ -(2 ^ 62) ≤ j ∧ j < 2 ^ 62 ∧ R (Itr 0 j.toNat) H1) : iRng1 t σ H R := q
theorem i_rng2 {R : It → Hp → Prop} (q : t σ H fun vs H1 => ∃ i j : Int, vs = [.int i, .int j] ∧ (-(2 ^ 62) ≤ i ∧ i < 2 ^ 62 ∧ -(2 ^ 62) ≤ j ∧ j < 2 ^ 62) ∧ R (Itr i (j - i).toNat) H1) : iRng2 t σ H R := q
theorem l_rng1 {j : Int} {R : It → Hp → Prop} (h1 : -(2 ^ 62) ≤ j) (h2 : j < 2 ^ 62) (q : R (Itr 0 j.toNat) H) : ∃ k : Int, [V.int j] = [.int k] ∧ -(2 ^ 62) ≤ k ∧ k < 2 ^ 62 ∧ R (Itr 0 k.toNat) H := ⟨j, rfl, h1, h2, q⟩
/-- a range: what holds between the turns -/
theorem for_rng {n : Nat} {lo : Int} (Pv : Nat → L2.St → Hp → Prop) (h0 : Pv 0 σ H)
    (hs : ∀ i σ H, i < n → Pv i σ H → g (.int (lo + i)) σ H fun σ2 H2 => u { D with nx := Pv (i + 1), ct := Pv (i + 1), bk := D.nx } σ2 H2) (hd : ∀ σ H, Pv n σ H → D.nx σ H) : forB (Itr lo n) g u D σ H := for_range Pv h0 hs hd
theorem for_lst {a : Addr} {xs : List V} (Pv : Nat → L2.St → Hp → Prop) (h0 : Pv 0 σ H) (hl : ∀ i σ H, i ≤ xs.length → Pv i σ H → SqL K H a xs)
    (hs : ∀ i x σ H, xs[i]? = some x → Pv i σ H → g x σ H fun σ2 H2 => u { D with nx := Pv (i + 1), ct := Pv (i + 1), bk := D.nx } σ2 H2) (hd : ∀ σ H, Pv xs.length σ H → D.nx σ H) : forB (Itl K a) g u D σ H := for_list Pv h0 hl hs hd
/-- a text, sign by sign -/
theorem lc_text {x : Str} {vs : List Nat} {DD : Addr} (hD : H DD = none) (Pv : Nat → Hp → Prop) (h0 : Pv 0 (upd H DD (.lst [])))
    (hs : ∀ i c H, x.cps.toList[i]? = some c → Pv i H → g (.str ⟨#[c]⟩) (wipe σ vs) H fun σ2 H2 => wipe σ2 vs = wipe σ vs ∧ tt σ2 H2 fun b H3 =>
      if b = true then te σ2 H3 fun y H4 => ∃ acc, H4 DD = some (.lst acc) ∧ acc.length < sizeLine ∧ Pv (i + 1) (upd H4 DD (.lst (acc ++ [y]))) else Pv (i + 1) H3) (hd : ∀ H, Pv x.cps.toList.length H → Q (.ref DD) H) :
    ∃ W : Nat → Nat → Hp → Prop, (∃ m, W 0 m (upd H DD (.lst []))) ∧ ∀ i m H, W i m H →
      ((Its x).stop i H ∧ Q (.ref DD) H) ∨ ((Its x).go i H ∧ ∃ Nx : Hp → Prop, (∀ H', Nx H' → ∃ m', m' < m ∧ W (i + 1) m' H') ∧ ∀ v H', (Its x).yld i H v H' → g v (wipe σ vs) H' fun σ2 H2 => wipe σ2 vs = wipe σ vs ∧ tt σ2 H2 fun b H3 =>
        if b = true then te σ2 H3 fun y H4 => ∃ acc, H4 DD = some (.lst acc) ∧ acc.length < sizeLine ∧ Nx (upd H4 DD (.lst (acc ++ [y]))) else Nx H3) := by
  have el : x.cps.toList.length = x.cps.size := Array.length_toList
  refine ⟨fun i m H => m = x.cps.size - i ∧ i ≤ x.cps.size ∧ Pv i H, ⟨x.cps.size, by simp, Nat.zero_le _, h0⟩, ?_⟩
  rintro i m H ⟨rfl, hi, p⟩
  by_cases hlt : i < x.cps.size
  · refine .inr ⟨hlt, Pv (i + 1), fun H' p' => ⟨x.cps.size - (i + 1), by omega, rfl, hlt, p'⟩, fun v H' y => ?_⟩
    obtain ⟨rfl, c, hc, rfl⟩ := y
    exact hs i c H' (by rw [Array.getElem?_toList]; exact hc) p
  · have e : i = x.cps.size := by omega
    subst e
    exact .inl ⟨Nat.le_refl _, hd H (by rw [el]; exact p)⟩
theorem i_len {xs : List V} {R : Prop} (h : xs.length ≤ sizeLine) (q : R) : xs.length ≤ sizeLine ∧ R := ⟨h, q⟩
theorem iteNF {A B : Prop} (h : A) : if (!false) = true then A else B := h
theorem iteNT {A B : Prop} (h : B) : if (!true) = true then A else B := h
/-! leaves -/
theorem l_inT {x : V} {p : Addr} {xs : List V} (h : SqT K H p xs) (hx : flatV x = true) (ha : xs.all flatV = true) (q : Q (.bl (inV x xs)) H) : rInA K x (.ref p) H Q := .inr (.inl ⟨p, xs, rfl, .inr h, hx, ha, q⟩)
theorem l_inL {x : V} {p : Addr} {xs : List V} (h : SqL K H p xs) (hx : flatV x = true) (ha : xs.all flatV = true) (q : Q (.bl (inV x xs)) H) : rInA K x (.ref p) H Q := .inr (.inl ⟨p, xs, rfl, .inl h, hx, ha, q⟩)
theorem l_notInT {x : V} {p : Addr} {xs : List V} (h : SqT K H p xs) (hx : flatV x = true) (ha : xs.all flatV = true) (q : Q (.bl (!inV x xs)) H) : rNotInA K x (.ref p) H Q := .inr (.inl ⟨p, xs, rfl, .inr h, hx, ha, q⟩)
theorem l_notInL {x : V} {p : Addr} {xs : List V} (h : SqL K H p xs) (hx : flatV x = true) (ha : xs.all flatV = true) (q : Q (.bl (!inV x xs)) H) : rNotInA K x (.ref p) H Q := .inr (.inl ⟨p, xs, rfl, .inl h, hx, ha, q⟩)
theorem l_inC {c : Nat} {z : Str} (q : Q (.bl (decide (c ∈ z.cps.toList))) H) : rInA K (.str ⟨#[c]⟩) (.str z) H Q := .inl ⟨c, z, rfl, rfl, q⟩
theorem l_str1 {g : Str → Str → V} {a b : Str} (h : a.length ≤ sizeLine) (q : Q (g a b) H) : ∃ a' b', V.str a = .str a' ∧ [V.str b] = [.str b'] ∧ a'.length ≤ sizeLine ∧ Q (g a' b') H := ⟨a, b, rfl, rfl, h, q⟩
theorem l_addI {i j : Int} (q : Q (.int (i + j)) H) : rAdd K (.int i) (.int j) H Q := q
theorem l_addS {i j : Str} (h : i.length + j.length ≤ sizeLine) (q : Q (.str (i ++ j)) H) : rAdd K (.str i) (.str j) H Q := ⟨h, q⟩
theorem l_subI {i j : Int} (q : Q (.int (i - j)) H) : rSub (.int i) (.int j) H Q := q
theorem l_mul {i j : Int} (h : CMul i j ∨ CMulW i j) (q : Q (.int (i * j)) H) : rMul (.int i) (.int j) H Q := ⟨h, q⟩
theorem l_div {i j : Int} (h : CDivW i j) (q : Q (.int (i / j)) H) : rDiv (.int i) (.int j) H Q := ⟨h, q⟩
theorem l_mod {i j : Int} (h : 0 < j) (q : Q (.int (i % j)) H) : rMod (.int i) (.int j) H Q := ⟨h, q⟩
theorem l_pow {i j : Int} (h : CPow i j) (q : Q (.int (i ^ j.toNat)) H) : rPow (.int i) (.int j) H Q := ⟨h, q⟩
theorem l_cmp {gg : Int → Int → Bool} {i j : Int} (q : Q (.bl (gg i j)) H) : rCmp gg (.int i) (.int j) H Q := q
theorem l_eqI {i j : Int} (q : Q (.bl (decide (i = j))) H) : rEqA K (.int i) (.int j) H Q := .inl ⟨rfl, by rw [show decide (V.int i = V.int j) = decide (i = j) by simp]; exact q⟩
theorem l_eqS {i j : Str} (q : Q (.bl (decide (i = j))) H) : rEqA K (.str i) (.str j) H Q := .inl ⟨rfl, by rw [show decide (V.str i = V.str j) = decide (i = j) by simp]; exact q⟩
theorem l_eqB {i j : Bool} (q : Q (.bl (decide (i = j))) H) : rEqA K (.bl i) (.bl j) H Q := .inl ⟨rfl, by rw [show decide (V.bl i = V.bl j) = decide (i = j) by simp]; exact q⟩
theorem l_neI {i j : Int} (q : Q (.bl (!decide (i = j))) H) : rNeA K (.int i) (.int j) H Q := .inl ⟨rfl, by rw [show decide (V.int i = V.int j) = decide (i = j) by simp]; exact q⟩
theorem l_neS {i j : Str} (q : Q (.bl (!decide (i = j))) H) : rNeA K (.str i) (.str j) H Q := .inl ⟨rfl, by rw [show decide (V.str i = V.str j) = decide (i = j) by simp]; exact q⟩
theorem l_neB {i j : Bool} (q : Q (.bl (!decide (i = j))) H) : rNeA K (.bl i) (.bl j) H Q := .inl ⟨rfl, by rw [show decide (V.bl i = V.bl j) = decide (i = j) by simp]; exact q⟩
theorem l_neSelf {x : V} (h : scal x x = true) (q : Q (.bl false) H) : rNeA K x x H Q := .inl ⟨h, by rw [decide_eq_true rfl]; exact q⟩
theorem l_eqSelf {x : V} (h : scal x x = true) (q : Q (.bl true) H) : rEqA K x x H Q := .inl ⟨h, by rw [decide_eq_true rfl]; exact q⟩
theorem l_isN {x : V} (q : Q (.bl (decide (x = .non))) H) : rIsA x .non H Q := .inl ⟨rfl, q⟩
theorem l_isNotN {x : V} (q : Q (.bl (!decide (x = .non))) H) : rIsNotA x .non H Q := .inl ⟨rfl, q⟩
theorem l_isB {x y : Bool} (q : Q (.bl (decide (x = y))) H) : rIsA (.bl x) (.bl y) H Q := .inr ⟨x, y, rfl, rfl, q⟩
theorem l_isNotB {x y : Bool} (q : Q (.bl (!decide (x = y))) H) : rIsNotA (.bl x) (.bl y) H Q := .inr ⟨x, y, rfl, rfl, q⟩
theorem l_intI {i : Int} (q : Q (.int i) H) : rIntA [.int i] H Q := q
theorem l_intB {k : Bool} (q : Q (.int (if k then 1 else 0)) H) : rIntA [.bl k] H Q := q
theorem l_intS {a : Str} {n : Int} (h : PySem.intText? a = some n) (h2 : a.length ≤ 640) (q : Q (.int n) H) : rIntA [.str a] H Q := ⟨n, h, h2, q⟩
theorem l_strI {i : Int} (h : i.natAbs.log2 < 1920) (q : Q (.str (toString i)) H) : rStrA [.int i] H Q := ⟨h, q⟩
theorem l_lenS {y : Str} (h : y.length ≤ sizeLine) (q : Q (.int y.length) H) : rLen K [.str y] H Q := ⟨h, q⟩
theorem l_lenL {p : Addr} {xs : List V} (h : H p = some (.lst xs)) (q : Q (.int xs.length) H) : rLen K [.ref p] H Q := ⟨xs, .inl (SqL.of h), q⟩
theorem l_lenT {p : Addr} {xs : List V} (h : H p = some (.tup xs)) (q : Q (.int xs.length) H) : rLen K [.ref p] H Q := ⟨xs, .inr (SqT.of h), q⟩
theorem l_ixL {p : Addr} {xs : List V} {i : Int} {x : V} (h : H p = some (.lst xs)) (e : atI xs i = some x) (q : Q x H) : rIxA K (.ref p) (.int i) H Q := ⟨xs, x, .inl (SqL.of h), e, q⟩
theorem l_ixT {p : Addr} {xs : List V} {i : Int} {x : V} (h : H p = some (.tup xs)) (e : atI xs i = some x) (q : Q x H) : rIxA K (.ref p) (.int i) H Q := ⟨xs, x, .inr (SqT.of h), e, q⟩
theorem l_ixS {z : Str} {i : Int} {c : Nat} (h : z.length ≤ sizeLine) (e : atI z.cps.toList i = some c) (q : Q (.str ⟨#[c]⟩) H) : rIxA K (.str z) (.int i) H Q := ⟨h, c, e, q⟩
theorem l_slS {z : Str} {lo hi : Option Int} (h : z.length ≤ sizeLine) (q : Q (.str (cutS z lo hi)) H) : rSlG K (.str z) lo hi H Q := ⟨h, q⟩
theorem l_slL {a : Addr} {xs : List V} {lo hi : Option Int} (h : SqL K H a xs) (q : ∀ p, H p = none → Q (.ref p) (upd H p (.lst (cutV xs lo hi)))) : rSlG K (.ref a) lo hi H Q := .inl ⟨a, xs, rfl, h, q⟩
theorem l_setL {p : Addr} {xs : List V} {k : Int} {j : Nat} {x : V} {R : Hp → Prop} (h : H p = some (.lst xs)) (e : ixN xs.length k = some j) (q : R (upd H p (.lst (xs.set j x)))) : rSetL (.ref p) (.int k) x H R := ⟨p, xs, k, j, rfl, rfl, h, e, q⟩
theorem l_isi {x : V} {n : String} {tv : Value} {b : Bool} (ty : TyX K H x tv) (e : PySem.W.kitOne K tv (.type n) = some b) (q : Q (.bl b) H) : rIsiA K [x, .ty n] H Q := .inl ⟨x, .ty n, tv, .type n, b, rfl, .ty n, ty, e, q⟩
end
/-! isinstance of the plain kinds -/
theorem kt_NoneType_str {K : PySem.W.Frag} : PySem.W.kitOne K (.type "NoneType") (.type "str") = some false := kit_ty (by decide +kernel)
theorem kt_NoneType_int {K : PySem.W.Frag} : PySem.W.kitOne K (.type "NoneType") (.type "int") = some false := kit_ty (by decide +kernel)
theorem kt_NoneType_bool {K : PySem.W.Frag} : PySem.W.kitOne K (.type "NoneType") (.type "bool") = some false := kit_ty (by decide +kernel)
theorem kt_NoneType_tuple {K : PySem.W.Frag} : PySem.W.kitOne K (.type "NoneType") (.type "tuple") = some false := kit_ty (by decide +kernel)
theorem kt_NoneType_list {K : PySem.W.Frag} : PySem.W.kitOne K (.type "NoneType") (.type "list") = some false := kit_ty (by decide +kernel)
theorem kt_NoneType_dict {K : PySem.W.Frag} : PySem.W.kitOne K (.type "NoneType") (.type "dict") = some false := kit_ty (by decide +kernel)
theorem kt_bool_str {K : PySem.W.Frag} : PySem.W.kitOne K (.type "bool") (.type "str") = some false := kit_ty (by decide +kernel)
theorem kt_bool_int {K : PySem.W.Frag} : PySem.W.kitOne K (.type "bool") (.type "int") = some true := kit_ty (by decide +kernel)
theorem kt_bool_bool {K : PySem.W.Frag} : PySem.W.kitOne K (.type "bool") (.type "bool") = some true := kit_ty (by decide +kernel)
theorem kt_bool_tuple {K : PySem.W.Frag} : PySem.W.kitOne K (.type "bool") (.type "tuple") = some false := kit_ty (by decide +kernel)
theorem kt_bool_list {K : PySem.W.Frag} : PySem.W.kitOne K (.type "bool") (.type "list") = some false := kit_ty (by decide +kernel)
theorem kt_bool_dict {K : PySem.W.Frag} : PySem.W.kitOne K (.type "bool") (.type "dict") = some false := kit_ty (by decide +kernel)
theorem kt_int_str {K : PySem.W.Frag} : PySem.W.kitOne K (.type "int") (.type "str") = some false := kit_ty (by decide +kernel)
theorem kt_int_int {K : PySem.W.Frag} : PySem.W.kitOne K (.type "int") (.type "int") = some true := kit_ty (by decide +kernel)
theorem kt_int_bool {K : PySem.W.Frag} : PySem.W.kitOne K (.type "int") (.type "bool") = some false := kit_ty (by decide +kernel)
theorem kt_int_tuple {K : PySem.W.Frag} : PySem.W.kitOne K (.type "int") (.type "tuple") = some false := kit_ty (by decide +kernel)
theorem kt_int_list {K : PySem.W.Frag} : PySem.W.kitOne K (.type "int") (.type "list") = some false := kit_ty (by decide +kernel)
theorem kt_int_dict {K : PySem.W.Frag} : PySem.W.kitOne K (.type "int") (.type "dict") = some false := kit_ty (by decide +kernel)
theorem kt_str_str {K : PySem.W.Frag} : PySem.W.kitOne K (.type "str") (.type "str") = some true := kit_ty (by decide +kernel)
theorem kt_str_int {K : PySem.W.Frag} : PySem.W.kitOne K (.type "str") (.type "int") = some false := kit_ty (by decide +kernel)
theorem kt_str_bool {K : PySem.W.Frag} : PySem.W.kitOne K (.type "str") (.type "bool") = some false := kit_ty (by decide +kernel)
theorem kt_str_tuple {K : PySem.W.Frag} : PySem.W.kitOne K (.type "str") (.type "tuple") = some false := kit_ty (by decide +kernel)
theorem kt_str_list {K : PySem.W.Frag} : PySem.W.kitOne K (.type "str") (.type "list") = some false := kit_ty (by decide +kernel)
theorem kt_str_dict {K : PySem.W.Frag} : PySem.W.kitOne K (.type "str") (.type "dict") = some false := kit_ty (by decide +kernel)
theorem kt_list_str {K : PySem.W.Frag} : PySem.W.kitOne K (.type "list") (.type "str") = some false := kit_ty (by decide +kernel)
theorem kt_list_int {K : PySem.W.Frag} : PySem.W.kitOne K (.type "list") (.type "int") = some false := kit_ty (by decide +kernel)
theorem kt_list_bool {K : PySem.W.Frag} : PySem.W.kitOne K (.type "list") (.type "bool") = some false := kit_ty (by decide +kernel)
theorem kt_list_tuple {K : PySem.W.Frag} : PySem.W.kitOne K (.type "list") (.type "tuple") = some false := kit_ty (by decide +kernel)
theorem kt_list_list {K : PySem.W.Frag} : PySem.W.kitOne K (.type "list") (.type "list") = some true := kit_ty (by decide +kernel)
theorem kt_list_dict {K : PySem.W.Frag} : PySem.W.kitOne K (.type "list") (.type "dict") = some false := kit_ty (by decide +kernel)
theorem kt_tuple_str {K : PySem.W.Frag} : PySem.W.kitOne K (.type "tuple") (.type "str") = some false := kit_ty (by decide +kernel)
theorem kt_tuple_int {K : PySem.W.Frag} : PySem.W.kitOne K (.type "tuple") (.type "int") = some false := kit_ty (by decide +kernel)
theorem kt_tuple_bool {K : PySem.W.Frag} : PySem.W.kitOne K (.type "tuple") (.type "bool") = some false := kit_ty (by decide +kernel)
theorem kt_tuple_tuple {K : PySem.W.Frag} : PySem.W.kitOne K (.type "tuple") (.type "tuple") = some true := kit_ty (by decide +kernel)
theorem kt_tuple_list {K : PySem.W.Frag} : PySem.W.kitOne K (.type "tuple") (.type "list") = some false := kit_ty (by decide +kernel)
theorem kt_tuple_dict {K : PySem.W.Frag} : PySem.W.kitOne K (.type "tuple") (.type "dict") = some false := kit_ty (by decide +kernel)
theorem kt_dict_str {K : PySem.W.Frag} : PySem.W.kitOne K (.type "dict") (.type "str") = some false := kit_ty (by decide +kernel)
theorem kt_dict_int {K : PySem.W.Frag} : PySem.W.kitOne K (.type "dict") (.type "int") = some false := kit_ty (by decide +kernel)
theorem kt_dict_bool {K : PySem.W.Frag} : PySem.W.kitOne K (.type "dict") (.type "bool") = some false := kit_ty (by decide +kernel)
theorem kt_dict_tuple {K : PySem.W.Frag} : PySem.W.kitOne K (.type "dict") (.type "tuple") = some false := kit_ty (by decide +kernel)
theorem kt_dict_list {K : PySem.W.Frag} : PySem.W.kitOne K (.type "dict") (.type "list") = some false := kit_ty (by decide +kernel)
theorem kt_dict_dict {K : PySem.W.Frag} : PySem.W.kitOne K (.type "dict") (.type "dict") = some true := kit_ty (by decide +kernel)
/-- all that was known stands -/
def Ex (H H' : Hp) : Prop := ∀ a o, H a = some o → H' a = some o
theorem Ex.refl (H : Hp) : Ex H H := fun _ _ h => h
theorem Ex.trans {H H1 H2 : Hp} (a : Ex H H1) (b : Ex H1 H2) : Ex H H2 := fun x o h => b x o (a x o h)
theorem Ex.new {H : Hp} {p : Addr} {o : HO} (h : H p = none) : Ex H (upd H p o) := fun a u e => by
  rw [upd_ne (ne_of_none e h)]
  exact e
theorem Ex.mut {H H' : Hp} {p : Addr} {o : HO} (e : Ex H H') (h : H p = none) : Ex H (upd H' p o) := fun a u ha => by
  rw [upd_ne (ne_of_none ha h)]
  exact e a u ha
theorem Ex.free {H H' : Hp} (e : Ex H H') {l : Addr} (h : H' l = Option.none) : H l = Option.none := by
  cases q : H l with
  | none => rfl
  | some o =>
    rw [e l o q] at h
    cases h
/-- all but the object at st stands -/
def But (st : Addr) (H H' : Hp) : Prop := ∀ a o, a ≠ st → H a = some o → H' a = some o
theorem But.refl {st : Addr} (H : Hp) : But st H H := fun _ _ _ h => h
theorem But.trans {st : Addr} {H H1 H2 : Hp} (a : But st H H1) (b : But st H1 H2) : But st H H2 := fun x o n h => b x o n (a x o n h)
theorem Ex.but {st : Addr} {H H' : Hp} (e : Ex H H') : But st H H' := fun a o _ h => e a o h
theorem But.mut {st : Addr} {H H' : Hp} {o : HO} (e : But st H H') : But st H (upd H' st o) := fun a u n h => by
  rw [upd_ne n]
  exact e a u n h
/-! ### data -/
theorem rd_mono {H H' : Hp} {a : Addr} {u : HO} (e : Ex H H') (h : Rd H a u) : Rd H' a u := by
  rcases h with h | ⟨o, h⟩
  · exact Or.inl (e a _ h)
  · exact Or.inr ⟨o, e a _ h⟩
theorem sqL_mono {K : PySem.W.Frag} {H H' : Hp} {a : Addr} {xs : List V} (e : Ex H H') (h : SqL K H a xs) : SqL K H' a xs := by
  rcases h with h | h
  · exact Or.inl (rd_mono e h)
  · exact Or.inr h
theorem sqT_mono {K : PySem.W.Frag} {H H' : Hp} {a : Addr} {xs : List V} (e : Ex H H') (h : SqT K H a xs) : SqT K H' a xs := by
  rcases h with h | h
  · exact Or.inl (rd_mono e h)
  · exact Or.inr h
mutual
theorem dp_mono {K : PySem.W.Frag} {H H' : Hp} (e : Ex H H') : ∀ (d : PyData) (v : V), Dp K H v d → Dp K H' v d
  | .none, _, .non => .non
  | .bool _, _, .bl b => .bl b
  | .int _, _, .int b => .int b
  | .str _, _, .str b => .str b
  | .list ds, _, .lst h1 h2 => .lst (sqL_mono e h1) (dpAll_mono e ds _ h2)
  | .tuple ds, _, .tup h1 h2 => .tup (sqT_mono e h1) (dpAll_mono e ds _ h2)
theorem dpAll_mono {K : PySem.W.Frag} {H H' : Hp} (e : Ex H H') : ∀ (ds : List PyData) (vs : List V), DpAll K H vs ds → DpAll K H' vs ds
  | [], _, .nil => .nil
  | d :: ds, _, .cons h1 h2 => .cons (dp_mono e d _ h1) (dpAll_mono e ds _ h2)
end
theorem dp_ints {K : PySem.W.Frag} {H : Hp} : ∀ ns : List Int, DpAll K H (ns.map V.int) (ns.map PyData.int)
  | [] => .nil
  | n :: ns => .cons (.int n) (dp_ints ns)
theorem lay_ints : ∀ ns : List Int, PyData.canLayAll0 (ns.map PyData.int) = true
  | [] => by simp [PyData.canLayAll0]
  | n :: ns => by
    rw [List.map_cons, PyData.canLayAll0, lay_ints ns]
    simp [PyData.canLay0]
theorem depth_ints : ∀ ns : List Int, PyData.depthAll (ns.map PyData.int) ≤ 1
  | [] => by simp [PyData.depthAll]
  | n :: ns => by
    have := depth_ints ns
    rw [List.map_cons, PyData.depthAll]
    simp [PyData.depth]
    exact this
theorem sh_ints (ns : List Int) : SeqAt.shaped (.list (ns.map PyData.int)) = true := by
  unfold SeqAt.shaped
  have h := depth_ints ns
  rw [PyData.canLay0, lay_ints ns, PyData.depth]
  simp
  omega
theorem at_ints {ns : List Int} {i : Int} (h0 : 0 ≤ i) (h1 : i < (ns.length : Int)) : ∃ z, atI (ns.map V.int) i = some (.int z) := by
  obtain ⟨j, rfl⟩ := Int.eq_ofNat_of_zero_le h0
  have hj : j < ns.length := by omega
  exact ⟨ns[j], atI_nat (by rw [List.getElem?_map, List.getElem?_eq_getElem hj]; rfl)⟩
theorem l_neNil {K : PySem.W.Frag} {H : Hp} {Q : VK} {p q : Addr} {ns : List Int} (hp : H p = some (.lst (ns.map V.int))) (hq : H q = some (.lst [])) (k : Q (.bl (!decide (ns = []))) H) : rNeA K (.ref p) (.ref q) H Q := by
  refine .inr ⟨.list (ns.map .int), .list [], .lst (SqL.of hp) (dp_ints ns), .lst (SqL.of hq) .nil, sh_ints ns, sh_ints [], ?_⟩
  have e : PyData.eqv (.list (ns.map .int)) (.list []) = decide (ns = []) := by
    cases ns <;> simp [PyData.eqv, PyData.eqvAll]
  rw [e]
  exact k
/-! ### the law's own draws -/
structure Dr (H : Hp) (st : Addr) (b : Nat) : Prop where
  ex : ∃ (L : Addr) (ns : List Int) (a c : Int), H st = some (.lst [.ref L, .int a, .int c]) ∧ H L = some (.lst (ns.map V.int)) ∧ st ≠ L ∧ 0 ≤ c ∧ c ≤ (b : Int)
theorem Dr.mono {H H' : Hp} {st : Addr} {b b' : Nat} (d : Dr H st b) (e : Ex H H') (h : b ≤ b') : Dr H' st b' := by
  obtain ⟨L, ns, a, c, h1, h2, h3, h4, h5⟩ := d.ex
  exact ⟨L, ns, a, c, e _ _ h1, e _ _ h2, h3, h4, by omega⟩
theorem Dr.up {H : Hp} {st : Addr} {b b' : Nat} (d : Dr H st b) (h : b ≤ b') : Dr H st b' := d.mono (Ex.refl H) h
/-- _law_open(script) -/
def spOpen (K : PySem.W.Frag) : Sp := fun vs H Q _ => ∃ (a : Addr) (ns : List Int), vs = [.ref a] ∧ SqL K H a (ns.map V.int) ∧ ns.length ≤ 63 ∧ ∀ (st : Addr) (H' : Hp), H st = none → Dr H' st 0 → Ex H H' → Q (.ref st) H'
/-- _law_draw(state, many): any number below many -/
def spDraw : Sp := fun vs H Q _ => ∃ (st : Addr) (n : Int) (b : Nat), vs = [.ref st, .int n] ∧ 0 < n ∧ n ≤ 10 ^ 18 ∧ Dr H st b ∧ b < 2 ^ 60 ∧
  ∀ (r : Int) (H' : Hp), 0 ≤ r → r < n → Dr H' st (b + 1) → But st H H' → Q (.int r) H'
theorem draw {st : Addr} {n : Int} {b : Nat} {H : Hp} {Q : VK} {E : XK} (hd : Dr H st b) (hn : 0 < n) (hn2 : n ≤ 10 ^ 18) (hb : b < 2 ^ 60) (q : ∀ r H', 0 ≤ r → r < n → Dr H' st (b + 1) → But st H H' → Q (.int r) H') : spDraw ([.ref st, .int n] ++ []) H Q E :=
  ⟨st, n, b, rfl, hn, hn2, hd, hb, q⟩
theorem Dr.ne {H : Hp} {st p : Addr} {b : Nat} (d : Dr H st b) (h : H p = none) : p ≠ st := by
  obtain ⟨L, ns, a, c, h1, _⟩ := d.ex
  exact (ne_of_none h1 h).symm
theorem at_str {z : Str} {i : Int} (h0 : 0 ≤ i) (h1 : i < (z.length : Int)) : ∃ c, c ∈ z.cps.toList ∧ atI z.cps.toList i = some c := by
  obtain ⟨j, rfl⟩ := Int.eq_ofNat_of_zero_le h0
  have hj : j < z.cps.toList.length := by
    rw [Array.length_toList]
    show j < z.length
    omega
  exact ⟨z.cps.toList[j], List.getElem_mem hj, atI_nat (List.getElem?_eq_getElem hj)⟩
theorem at_map {α : Type} {f : α → V} {xs : List α} {i : Int} (h0 : 0 ≤ i) (h1 : i < (xs.length : Int)) : ∃ z, z ∈ xs ∧ atI (xs.map f) i = some (f z) := by
  obtain ⟨j, rfl⟩ := Int.eq_ofNat_of_zero_le h0
  have hj : j < xs.length := by omega
  exact ⟨xs[j], List.getElem_mem hj, atI_nat (by rw [List.getElem?_map, List.getElem?_eq_getElem hj]; rfl)⟩
theorem at_list {xs : List V} {i : Int} (h0 : 0 ≤ i) (h1 : i < (xs.length : Int)) : ∃ z, z ∈ xs ∧ atI xs i = some z := by
  obtain ⟨z, h, e⟩ := at_map (f := id) h0 h1
  rw [List.map_id] at e
  exact ⟨z, h, e⟩
theorem cutV_map {α : Type} (f : α → V) (xs : List α) (lo hi : Option Int) : cutV (xs.map f) lo hi = ((xs.drop (HT.sIx xs.length 0 lo)).take (HT.sIx xs.length xs.length hi - HT.sIx xs.length 0 lo)).map f := by
  unfold cutV
  rw [List.length_map, ← List.map_drop, ← List.map_take]
theorem map_at {α : Type} {f : α → V} {xs : List α} {i : Nat} {x : V} (h : (xs.map f)[i]? = some x) : ∃ z, xs[i]? = some z ∧ x = f z := by
  rw [List.getElem?_map] at h
  cases e : xs[i]? with
  | none =>
    rw [e] at h
    cases h
  | some z =>
    rw [e] at h
    exact ⟨z, rfl, (Option.some.inj h).symm⟩
theorem take_succ {α : Type} {xs : List α} {i : Nat} {z : α} (h : xs[i]? = some z) : xs.take (i + 1) = xs.take i ++ [z] := by
  rw [List.take_add_one, h]
  rfl
end G
set_option Elab.async false
set_option linter.all false
set_option maxRecDepth 100000
namespace G
open PySem PySem.Spec PyProof.Rows L2
/-! ### defs that may raise, and defs that ask that nothing is being shown (repr) around them -/
/-- a def's promise; g: it is called only where no repr is under way -/
structure Fg (P : Program) (w : World) (K : PySem.W.Frag) (mg : Str → Option Value) (base : Heap) (g : Bool) (k : Nat) (f : Addr) (fd : FuncData) (ps : List Str) (sp : Sp) : Prop where
  len : ∀ vs H Q E, sp vs H Q E → vs.length = ps.length
  go : ∀ (A : Around) (outer : List Env) (s : Shared) (H : Hp) (args : Args) (us : List Value) (vs : List V) (Q : VK) (E : XK), Room k A → (g = true → A.guards = some []) → Env0 P w K mg base A outer s H → BindsTo s fd args (ps.zip us) → Vals vs us →
    sp vs H Q E → codeAny (model P w) A (.call (.ref f) args) (CR (L2.CX P w) outer P w H s Q E) s
section
variable {P : Program} {w : World} {K : PySem.W.Frag} {mg : Str → Option Value} {base : Heap} {g : Bool} {k j : Nat} {f : Addr} {fd : FuncData} {ps : List Str} {sp : Sp}
theorem Fg.of (F : FnOk P w K mg base (L2.CX P w) k f fd ps sp) : Fg P w K mg base g k f fd ps sp := ⟨F.len, fun A outer s H args us vs Q E hr _ => F.run A outer s H args us vs Q E hr⟩
theorem cr_of0 {outer : List Env} {H : Hp} {s : Shared} {Q : VK} {E : XK} {r : Result} {s' : Shared} (h : CR CX0 outer P w H s Q E r s') : CR (L2.CX P w) outer P w H s Q E r s' := by
  cases r with
  | error e => exact (show False from h).elim
  | ok fl => cases fl <;> exact h
theorem Fg.of0 (F : FnOk P w K mg base CX0 k f fd ps sp) : Fg P w K mg base g k f fd ps sp :=
  ⟨F.len, fun A outer s H args us vs Q E hr _ e0 hb r h => codeAny_mono (F.run A outer s H args us vs Q E hr e0 hb r h) fun _ _ z => cr_of0 z⟩
theorem Fg.mono (F : Fg P w K mg base g j f fd ps sp) (h : j ≤ k) : Fg P w K mg base g k f fd ps sp := ⟨F.len, fun A outer s H args us vs Q E hr => F.go A outer s H args us vs Q E (hr.mono h)⟩
end
/-- the rule for a def's body -/
theorem fg_of {P : Program} {w : World} {K : PySem.W.Frag} {mg : Str → Option Value} {base : Heap} {g : Bool} {x qual : Str} {st : Stmt} {f : Addr} {fd : FuncData} {N ps : List Str} {k : Nat} {sp : Sp} (F : Fun K x qual st f fd) (S : FnScope N ps (defScope st))
    (len : ∀ vs H Q E, sp vs H Q E → vs.length = ps.length)
    (hbody : ∀ (cdv : Value) (A : Around) (outer : List Env) (s : Shared) (H : Hp) (vs : List V) (Q : VK) (E : XK), Room k (A.deeper (envOfC qual (defScope st) s.heap.objs.size f cdv)) →
      (g = true → (A.deeper (envOfC qual (defScope st) s.heap.objs.size f cdv)).guards = some []) → sp vs H Q E →
      ∃ t, PSs (cxOf (L2.CX P w) P w K mg base N qual (defScope st) f cdv A outer s H E) (defBody st) t ∧ t { nx := fun _ H' => Q .non H', rt := Q } (start N vs) H) : Fg P w K mg base g (k + 1) f fd ps sp := by
  obtain ⟨oc, od, kV, doc, pm, an, cdv, ct, osl, rfl, lk, hcd⟩ := F.ex
  refine ⟨len, fun A outer s H args us vs Q E hr hg e0 hb r hsp => ?_⟩
  have bk : ∀ b o, base.get? b = some o → s.heap.get? b = some o := fun b o e => (e0.bs b o e).1
  have kx := e0.mod.kin.keeps bk
  have kinds : ∀ y ∈ ps.zip us, (defScope st).names.lookup y.1 = some .local ∨ ((defScope st).names.lookup y.1 = some .cell ∧ ((cellsFrom (s.heap.objs.size + 1) (defScope st).names []).lookup y.1).isSome = true) := by
    rintro ⟨n, v⟩ hy
    have hn := S.par n (List.of_mem_zip hy).1
    exact hn.imp id fun z => ⟨z, PySem.W.cellsFrom_some _ _ _ (.inl z)⟩
  refine codeAny_call_function hr.depth (kx _ _ lk) rfl S.co S.gen rfl (PySem.W.codeRec_of kx hcd) (hb _ _ _ _ (wpAny_newFunctionEnv_cells S.kind kinds fun env he s1 z => ?_))
  subst he
  refine ⟨(e0.mod.nolimit.keeps bk).keeps z.toInCall.keep, codeAny_func ?_⟩
  obtain ⟨t, ht, hq⟩ := hbody cdv A outer s H vs Q E (hr.deeper _) (fun e => hg e) hsp
  have I : Inv (cxOf (L2.CX P w) P w K mg base N qual (defScope st) f cdv A outer s H E) [] (start N vs) H s1 := inv_start S hr.hd e0 (len _ _ _ _ hsp) r z
  refine wpAny_mono (ht.run [] s1 _ H _ I hq) (fun fl s' hs => ?_) fun e s' hs => hs
  have fin : ∀ {σ' : L2.St} {H' : Hp} {v : V} {u : Value}, Inv (cxOf (L2.CX P w) P w K mg base N qual (defScope st) f cdv A outer s H E) [] σ' H' s' → RelV v u → Q v H' → CE outer P w H s Q u s' :=
    fun {σ' H' v u} J rv q => ⟨v, H', J.os, J.bare, J.base, J.hok, rv, q⟩
  cases fl with
  | ret u => exact let ⟨v, σ', H', J, rv, q⟩ := hs; fin J rv q
  | next => exact let ⟨σ', H', J, q⟩ := hs; fin (v := V.non) (u := Value.none) J rfl q
  | brk => exact let ⟨_, _, _, q⟩ := hs; q.elim
  | cont => exact let ⟨_, _, _, q⟩ := hs; q.elim
/-! ### calls, with a wish for what is raised at the slots as they stand -/
section
variable {X : Cx} {g : Bool} {k : Nat} {f C : Addr} {fd : FuncData} {ps : List Str} {sp : Sp} {ds : List Value} {dvs : List V} {E : L2.St → XK} {pins : List (Addr × Obj)} {σ : L2.St} {H : Hp} {s : Shared} {Q : VK}
/-- a call from around A1 (the caller's, or one room deeper) -/
theorem run_at {A1 : Around} {us : List Value} {vs : List V} (F : Fg X.prog X.w X.K X.mg X.base g k f fd ps sp) (hr : Room k A1) (hg : g = true → A1.guards = some []) (hf : A1.frames = X.A.frames) (hb : Binds X.K fd ps ds) (hd : Vals dvs ds)
    (hx : PassesAt (L2.CX X.prog X.w) X σ (E σ)) (I : Inv X pins σ H s) (r : Vals vs us) (h : sp (vs ++ dvs) H Q (E σ)) : wpAny (model X.prog X.w) A1 (call (.ref f) us) (EP X pins σ Q) X.xe s := by
  have e := I.env0
  have e0 : Env0 X.prog X.w X.K X.mg X.base A1 X.stack s H := ⟨by rw [hf]; exact e.frames, e.mod, e.bs, e.bsz, e.funs, e.frf, e.hok, e.bare⟩
  have r2 := Vals.append r hd
  have hl : (us ++ ds).length = ps.length := by rw [← r2.length]; exact F.len _ _ _ _ h
  refine wpAny_call (codeAny_mono (F.go A1 X.stack s H ⟨us, []⟩ _ _ Q (E σ) hr hg e0 (hb s us I.kIn hl) r2 h) fun r s' hq => ?_)
  cases r with
  | error e => exact hx pins H s e s' I hq
  | ok fl =>
    cases fl with
    | ret u => exact I.after hq
    | next => exact False.elim hq
    | brk => exact False.elim hq
    | cont => exact False.elim hq
/-- a new instance, then its __init__ (n + 1 values by place, keywords ks) -/
theorem make_at {n : Nat} {ks : List Str} {gg : List Value → List Value → List Value} {gV : List V → List V → List V} {us ws : List Value} {vs zs : List V} (M : Mk X.K C f) (F : Fg X.prog X.w X.K X.mg X.base false k f fd ps sp) (hr : Room (k + 1) X.A)
    (hb : KBn X.K fd ps (n + 1) ks gg gV) (hx : PassesAt (L2.CX X.prog X.w) X σ (E σ)) (I : Inv X pins σ H s) (r : Vals vs us) (rz : Vals zs ws) (l1 : vs.length = n) (l2 : zs.length = ks.length)
    (h : ∀ x dx, H x = none → H dx = none → dx ≠ x → sp (gV (.ref x :: vs) zs) (upd (upd H dx (.own x)) x (.ins C dx [])) (fun v H2 => v = .non ∧ Q (.ref x) H2) (E σ)) :
    wpAny (model X.prog X.w) X.A (call (.ref C) us (ks.zip ws)) (EP X pins σ Q) X.xe s := by
  have I2 := Inv.made (C := C) I
  have hq := h (s.heap.objs.size + 1) s.heap.objs.size (I.hok.fresh (Nat.le_succ _)) (I.hok.fresh (Nat.le_refl _)) (Nat.ne_of_lt (Nat.lt_succ_self _))
  have r1 : Vals (V.ref (s.heap.objs.size + 1) :: vs) (Value.ref (s.heap.objs.size + 1) :: us) := .cons rfl r
  have n1 : (Value.ref (s.heap.objs.size + 1) :: us).length = n + 1 := r1.length.symm.trans (congrArg (· + 1) l1)
  refine wpAny_call (make_map (f := f) I.kIn M.makes M.init (beq_iff_eq.mp M.fn) (codeAny_mono (F.go _ X.stack _ _ ⟨Value.ref (s.heap.objs.size + 1) :: us, ks.zip ws⟩ _ _ _ (E σ) (hr.make C us (ks.zip ws))
    (fun e => nomatch e) (I2.env0.make C us (ks.zip ws)) (hb.to _ _ ws I2.kIn n1 (rz.length.symm.trans l2)) (hb.rel r1 rz) hq) fun r s' hq' => ?_))
  cases r with
  | error e => exact hx pins _ _ e s' I2 hq'
  | ok fl =>
    cases fl with
    | ret u =>
      obtain ⟨v, H', I3, rv, ev, q3⟩ := I2.after hq'
      subst ev
      exact ⟨rv, ⟨V.ref (s.heap.objs.size + 1), H', I3, rfl, q3⟩⟩
    | next => exact False.elim hq'
    | brk => exact False.elim hq'
    | cont => exact False.elim hq'
/-- a def called with n values by place and keywords ks -/
theorem call_at {n : Nat} {ks : List Str} {gg : List Value → List Value → List Value} {gV : List V → List V → List V} {A1 : Around} {us ws : List Value} {vs zs : List V} (F : Fg X.prog X.w X.K X.mg X.base g k f fd ps sp) (hr : Room k A1) (hg : g = true → A1.guards = some [])
    (hf : A1.frames = X.A.frames) (hb : KBn X.K fd ps n ks gg gV) (hx : PassesAt (L2.CX X.prog X.w) X σ (E σ)) (I : Inv X pins σ H s) (r : Vals vs us) (rz : Vals zs ws) (l1 : vs.length = n) (l2 : zs.length = ks.length)
    (h : sp (gV vs zs) H Q (E σ)) : wpAny (model X.prog X.w) A1 (call (.ref f) us (ks.zip ws)) (EP X pins σ Q) X.xe s := by
  have e := I.env0
  have e0 : Env0 X.prog X.w X.K X.mg X.base A1 X.stack s H := ⟨by rw [hf]; exact e.frames, e.mod, e.bs, e.bsz, e.funs, e.frf, e.hok, e.bare⟩
  refine wpAny_call (codeAny_mono (F.go A1 X.stack s H ⟨us, ks.zip ws⟩ _ _ Q (E σ) hr hg e0 (hb.to s us ws I.kIn (r.length.symm.trans l1) (rz.length.symm.trans l2)) (hb.rel r rz) h) fun r s' hq => ?_)
  cases r with
  | error e => exact hx pins H s e s' I hq
  | ok fl =>
    cases fl with
    | ret u => exact I.after hq
    | next => exact False.elim hq
    | brk => exact False.elim hq
    | cont => exact False.elim hq
end
/-! ### defs, classes, methods by their names -/
structure CalG (P : Program) (w : World) (K : PySem.W.Frag) (mg : Str → Option Value) (base : Heap) (g : Bool) (k : Nat) (x : Str) (sp : Sp) (n : Nat) (ks : List Str) (gV : List V → List V → List V) : Prop where
  ex : ∃ (f : Addr) (fd : FuncData) (ps : List Str) (gg : List Value → List Value → List Value), Fg P w K mg base g k f fd ps sp ∧ mg x = some (.ref f) ∧ PySem.W.keepIn K (.ref f) = true ∧ KBn K fd ps n ks gg gV
structure MakG (P : Program) (w : World) (K : PySem.W.Frag) (mg : Str → Option Value) (base : Heap) (k : Nat) (x : Str) (C : Addr) (sp : Sp) (n : Nat) (ks : List Str) (gV : List V → List V → List V) : Prop where
  ex : ∃ (f : Addr) (fd : FuncData) (ps : List Str) (gg : List Value → List Value → List Value), Mk K C f ∧ Fg P w K mg base false k f fd ps sp ∧ mg x = some (.ref C) ∧ KBn K fd ps (n + 1) ks gg gV
structure MetG (P : Program) (w : World) (K : PySem.W.Frag) (mg : Str → Option Value) (base : Heap) (g : Bool) (k : Nat) (C : Addr) (m : Str) (sp : Sp) (ps : List Str) : Prop where
  ex : ∃ (f : Addr) (fd : FuncData), Cls K C ∧ Meth K C m f ∧ PySem.W.fnIn K f = true ∧ Fg P w K mg base g k f fd ps sp ∧ Binds K fd ps []
def tCS (n m : Nat) (sp : Sp) (gV : List V → List V → List V) (E : L2.St → XK) (t tk : TA) : TE := fun σ H Q => t σ H fun vs H1 => tk σ H1 fun zs H2 => vs.length = n ∧ zs.length = m ∧ sp (gV vs zs) H2 Q (E σ)
def tMkS (C : Addr) (n m : Nat) (sp : Sp) (gV : List V → List V → List V) (E : L2.St → XK) (t tk : TA) : TE := fun σ H Q => t σ H fun vs H1 => tk σ H1 fun zs H2 => vs.length = n ∧ zs.length = m ∧ ∀ x dx, H2 x = none → H2 dx = none → dx ≠ x →
  sp (gV (.ref x :: vs) zs) (upd (upd H2 dx (.own x)) x (.ins C dx [])) (fun v H3 => v = .non ∧ Q (.ref x) H3) (E σ)
def tMtS (C : Addr) (m : Str) (sp : Sp) (E : L2.St → XK) (ta : TE) (t : TA) : TE := fun σ H Q => ta σ H fun x H1 => ∃ a dx fs, x = .ref a ∧ H1 a = some (.ins C dx fs) ∧ fs.lookup m = none ∧ t σ H1 fun vs H2 => sp (.ref a :: vs) H2 Q (E σ)
section
variable {X : Cx} {g : Bool} {k j n : Nat} {C : Addr} {x m : Str} {sp : Sp} {ps ks : List Str} {W : WX} {gV : List V → List V → List V} {p pos apos : Pos} {e o : Expr} {es : List Expr} {kws : List Keyword} {ta : TE} {t tz : TA}
theorem pe_cS (c : CalG X.prog X.w X.K X.mg X.base g k x sp n [] gV) (hr : Room j X.A) (hk : k ≤ j) (gd : g = true → X.A.guards = some []) (tk : Takes X W) (hg : Gl X x) (ha : PA X (e :: es) t)
    (hdb : (x == ("__debug__" : Str)) = false := by decide) (he : starEach (e :: es) X.env = (false, eval e X.env) :: starEach es X.env := by rfl) (hpl : (backTo pos (starEach es X.env)).any (·.1) = false := by rfl) :
    PE X (.Call (.Name x p) (e :: es) [] pos) (tCS n 0 sp gV (WE W) t tNil) := by
  obtain ⟨f, fd, ps, gg, F, hm, kp, b⟩ := c.ex
  refine ⟨fun pins s σ H Q I h => wpAny_Call_Name_kw (ld_glob I hg hm ?_ hdb)⟩
  refine PySem.W.callWith_K (h₀ := X.base) I.ok.mod.kin kp (thn (ha.run pos pins s σ H _ I h) fun us s1 ⟨vs, H1, I1, r, l1, l2, q⟩ => ⟨I1.kIn, ?_⟩) he hpl
  exact call_at (ws := []) (zs := []) F (hr.mono hk) gd rfl b (passAt tk σ) I1 r .nil l1 rfl q
theorem pe_cS0 (c : CalG X.prog X.w X.K X.mg X.base g k x sp 0 [] gV) (hr : Room j X.A) (hk : k ≤ j) (gd : g = true → X.A.guards = some []) (tk : Takes X W) (hg : Gl X x)
    (hdb : (x == ("__debug__" : Str)) = false := by decide) : PE X (.Call (.Name x p) [] [] pos) (tCS 0 0 sp gV (WE W) tNil tNil) := by
  obtain ⟨f, fd, ps, gg, F, hm, kp, b⟩ := c.ex
  refine ⟨fun pins s σ H Q I h => wpAny_Call_Name_kw (ld_glob I hg hm ?_ hdb)⟩
  exact PySem.W.callWith_K0 I.kIn kp (call_at (us := []) (vs := []) (ws := []) (zs := []) F (hr.mono hk) gd rfl b (passAt tk σ) I .nil .nil rfl rfl h.2.2)
theorem pe_cSK (c : CalG X.prog X.w X.K X.mg X.base g k x sp n ks gV) (hr : Room j X.A) (hk : k ≤ j) (gd : g = true → X.A.guards = some []) (tk : Takes X W) (hg : Gl X x) (ha : PA X (e :: es) t) (hkw : PK X kws tz)
    (hall : (backToKw pos (keywordEach kws X.env)).all (·.1.isSome) = true := by rfl) (hks : (backToKw pos (keywordEach kws X.env)).filterMap (·.1) = ks := by rfl) (hdb : (x == ("__debug__" : Str)) = false := by decide)
    (he : starEach (e :: es) X.env = (false, eval e X.env) :: starEach es X.env := by rfl) (hpl : ((backTo pos (starEach (e :: es) X.env)).any (·.1) || (backToKw pos (keywordEach kws X.env)).any (·.1.isNone)) = false := by rfl) :
    PE X (.Call (.Name x p) (e :: es) kws pos) (tCS n ks.length sp gV (WE W) t tz) := by
  obtain ⟨f, fd, ps, gg, F, hm, kp, b⟩ := c.ex
  refine ⟨fun pins s σ H Q I h => wpAny_Call_Name_kw (ld_glob I hg hm ?_ hdb)⟩
  refine PySem.W.callWith_KW (h₀ := X.base) I.ok.mod.kin kp hall (thn (ha.run pos pins s σ H _ I h) fun us s1 ⟨vs, H1, I1, r, q⟩ => ?_) hpl he
  refine thn (hkw.run pos pins s1 σ H1 _ I1 q) fun ws s2 ⟨zs, H2, I2, rz, l1, l2, q2⟩ => ⟨I2.kIn, ?_⟩
  rw [hks]
  exact call_at F (hr.mono hk) gd rfl b (passAt tk σ) I2 r rz l1 l2 q2
theorem pe_mkS (c : MakG X.prog X.w X.K X.mg X.base k x C sp n [] gV) (hr : Room j X.A) (hk : k + 1 ≤ j) (tk : Takes X W) (hg : Gl X x) (ha : PA X (e :: es) t)
    (hdb : (x == ("__debug__" : Str)) = false := by decide) (he : starEach (e :: es) X.env = (false, eval e X.env) :: starEach es X.env := by rfl) (hpl : (backTo pos (starEach es X.env)).any (·.1) = false := by rfl) :
    PE X (.Call (.Name x p) (e :: es) [] pos) (tMkS C n 0 sp gV (WE W) t tNil) := by
  obtain ⟨f, fd, ps, gg, M, F, hm, b⟩ := c.ex
  refine ⟨fun pins s σ H Q I h => wpAny_Call_Name_kw (ld_glob I hg hm ?_ hdb)⟩
  refine PySem.W.callWith_K (h₀ := X.base) I.ok.mod.kin M.kp (thn (ha.run pos pins s σ H _ I h) fun us s1 ⟨vs, H1, I1, r, l1, l2, q⟩ => ⟨I1.kIn, ?_⟩) he hpl
  exact make_at (ws := []) (zs := []) M F (hr.mono hk) b (passAt tk σ) I1 r .nil l1 rfl q
theorem pe_mkS0 (c : MakG X.prog X.w X.K X.mg X.base k x C sp 0 [] gV) (hr : Room j X.A) (hk : k + 1 ≤ j) (tk : Takes X W) (hg : Gl X x)
    (hdb : (x == ("__debug__" : Str)) = false := by decide) : PE X (.Call (.Name x p) [] [] pos) (tMkS C 0 0 sp gV (WE W) tNil tNil) := by
  obtain ⟨f, fd, ps, gg, M, F, hm, b⟩ := c.ex
  refine ⟨fun pins s σ H Q I h => wpAny_Call_Name_kw (ld_glob I hg hm ?_ hdb)⟩
  exact PySem.W.callWith_K0 I.kIn M.kp (make_at (us := []) (vs := []) (ws := []) (zs := []) M F (hr.mono hk) b (passAt tk σ) I .nil .nil rfl rfl h.2.2)
theorem pe_mkSK (c : MakG X.prog X.w X.K X.mg X.base k x C sp n ks gV) (hr : Room j X.A) (hk : k + 1 ≤ j) (tk : Takes X W) (hg : Gl X x) (ha : PA X (e :: es) t) (hkw : PK X kws tz)
    (hall : (backToKw pos (keywordEach kws X.env)).all (·.1.isSome) = true := by rfl) (hks : (backToKw pos (keywordEach kws X.env)).filterMap (·.1) = ks := by rfl) (hdb : (x == ("__debug__" : Str)) = false := by decide)
    (he : starEach (e :: es) X.env = (false, eval e X.env) :: starEach es X.env := by rfl) (hpl : ((backTo pos (starEach (e :: es) X.env)).any (·.1) || (backToKw pos (keywordEach kws X.env)).any (·.1.isNone)) = false := by rfl) :
    PE X (.Call (.Name x p) (e :: es) kws pos) (tMkS C n ks.length sp gV (WE W) t tz) := by
  obtain ⟨f, fd, ps, gg, M, F, hm, b⟩ := c.ex
  refine ⟨fun pins s σ H Q I h => wpAny_Call_Name_kw (ld_glob I hg hm ?_ hdb)⟩
  refine PySem.W.callWith_KW (h₀ := X.base) I.ok.mod.kin M.kp hall (thn (ha.run pos pins s σ H _ I h) fun us s1 ⟨vs, H1, I1, r, q⟩ => ?_) hpl he
  refine thn (hkw.run pos pins s1 σ H1 _ I1 q) fun ws s2 ⟨zs, H2, I2, rz, l1, l2, q2⟩ => ⟨I2.kIn, ?_⟩
  rw [hks]
  exact make_at M F (hr.mono hk) b (passAt tk σ) I2 r rz l1 l2 q2
theorem pe_mkSK0 (c : MakG X.prog X.w X.K X.mg X.base k x C sp 0 ks gV) (hr : Room j X.A) (hk : k + 1 ≤ j) (tk : Takes X W) (hg : Gl X x) (hkw : PK X kws tz)
    (hall : (backToKw pos (keywordEach kws X.env)).all (·.1.isSome) = true := by rfl) (hks : (backToKw pos (keywordEach kws X.env)).filterMap (·.1) = ks := by rfl) (hdb : (x == ("__debug__" : Str)) = false := by decide)
    (hpl : ((backTo pos (starEach [] X.env)).any (·.1) || (backToKw pos (keywordEach kws X.env)).any (·.1.isNone)) = false := by rfl) :
    PE X (.Call (.Name x p) [] kws pos) (tMkS C 0 ks.length sp gV (WE W) tNil tz) := by
  obtain ⟨f, fd, ps, gg, M, F, hm, b⟩ := c.ex
  refine ⟨fun pins s σ H Q I h => wpAny_Call_Name_kw (ld_glob I hg hm ?_ hdb)⟩
  refine PySem.W.callWith_KW0 (h₀ := X.base) I.ok.mod.kin M.kp hall ?_ hpl
  refine thn (hkw.run pos pins s σ H _ I h) fun ws s2 ⟨zs, H2, I2, rz, l1, l2, q2⟩ => ⟨I2.kIn, ?_⟩
  rw [hks]
  exact make_at (us := []) (vs := []) M F (hr.mono hk) b (passAt tk σ) I2 .nil rz rfl l2 q2
theorem pe_mtS {pl : Sem Bool} (c : MetG X.prog X.w X.K X.mg X.base g k C m sp ps) (hr : Room j X.A) (hk : k ≤ j) (gd : g = true → X.A.guards = some []) (tk : Takes X W) (he : PE X o ta) (ha : PA X (e :: es) t)
    (hst : starEach (e :: es) X.env = (false, eval e X.env) :: starEach es X.env := by rfl) (hpl : (backTo pos (starEach es X.env)).any (·.1) = false := by rfl)
    (ht : eval (.Call (.Attribute o m apos) (e :: es) [] pos) X.env = (do
      let ov ← eval o X.env
      standAt apos.atName
      let (f, first) ← holding [ov] (getMethod ov m pl)
      callWith pos f first (backTo pos (starEach (e :: es) X.env)) (backToKw pos (keywordEach [] X.env))) := by rfl) :
    PE X (.Call (.Attribute o m apos) (e :: es) [] pos) (tMtS C m sp (WE W) ta t) := by
  obtain ⟨f, fd, hc, hm, _, F, b⟩ := c.ex
  refine ⟨fun pins s σ H Q I h => PySem.W.methodCall_KW (pl := pl) (thn (he.run pins s σ H _ I h) fun u s1 ⟨x, H1, I1, rx, a, dx, fs, ex, ea, l, q⟩ => ?_) ht⟩
  subst ex
  obtain rfl : u = Value.ref a := rx
  refine getmeth_ok I1 ea hc hm l ?_
  refine PySem.W.callWith_K (first := [.ref a]) (h₀ := X.base) I.ok.mod.kin hm.kp (thn (ha.run pos pins s1 σ H1 _ I1 q) fun us s2 ⟨vs, H2, I2, r, q2⟩ => ⟨I2.kIn, ?_⟩) hst hpl
  exact run_at (us := .ref a :: us) (vs := .ref a :: vs) (ds := []) (dvs := []) F (hr.mono hk) gd rfl b .nil (passAt tk σ) I2 (.cons rfl r) (by rw [List.append_nil]; exact q2)
theorem pe_mtS0 {pl : Sem Bool} (c : MetG X.prog X.w X.K X.mg X.base g k C m sp ps) (hr : Room j X.A) (hk : k ≤ j) (gd : g = true → X.A.guards = some []) (tk : Takes X W) (he : PE X o ta)
    (ht : eval (.Call (.Attribute o m apos) [] [] pos) X.env = (do
      let ov ← eval o X.env
      standAt apos.atName
      let (f, first) ← holding [ov] (getMethod ov m pl)
      callWith pos f first (backTo pos (starEach [] X.env)) (backToKw pos (keywordEach [] X.env))) := by rfl) :
    PE X (.Call (.Attribute o m apos) [] [] pos) (tMtS C m sp (WE W) ta tNil) := by
  obtain ⟨f, fd, hc, hm, _, F, b⟩ := c.ex
  refine ⟨fun pins s σ H Q I h => PySem.W.methodCall_KW (pl := pl) (thn (he.run pins s σ H _ I h) fun u s1 ⟨x, H1, I1, rx, a, dx, fs, ex, ea, l, q⟩ => ?_) ht⟩
  subst ex
  obtain rfl : u = Value.ref a := rx
  refine getmeth_ok I1 ea hc hm l ?_
  exact PySem.W.callWith_K0 (first := [.ref a]) I1.kIn hm.kp (run_at (us := [.ref a]) (vs := [.ref a]) (ds := []) (dvs := []) F (hr.mono hk) gd rfl b .nil (passAt tk σ) I1 (.cons rfl .nil) q)
end
end G
set_option Elab.async false
set_option linter.all false
set_option maxRecDepth 100000
namespace G
open PySem PySem.Spec PyProof.Rows L2
/-! ### own exceptions with one field -/
/-- what __init__(self, f): self.f = f keeps -/
def spIni (C : Addr) (f : Str) : Sp := fun vs H Q _ => ∃ a v, vs = [.ref a, v] ∧ H a = some (exo a C none) ∧ ∀ dx, H dx = none → dx ≠ a → Q .non (upd (upd H dx (exd dx [(f, v)])) a (exo a C (some dx)))
/-- the class named x, at C, with the field f -/
structure Oex (P : Program) (w : World) (K : PySem.W.Frag) (mg : Str → Option Value) (base : Heap) (x : Str) (C : Addr) (f : Str) : Prop where
  T : OexC K C
  xf : XfC K C
  ec : ExcC K C
  no : PySem.W.findIn K (.ref C) f = some none
  hm : mg x = some (.ref C)
  ini : ∃ (fI : Addr) (fd : FuncData), PySem.W.findIn K (.ref C) "__init__" = some (some (.ref fI)) ∧ PySem.W.typeIn K (.ref fI) = some (.type "function") ∧ FnOk P w K mg base CX0 1 fI fd ["self", f] (spIni C f) ∧ Binds K fd ["self", f] []
def tX (C : Addr) (f : Str) (ta : TA) : L2.St → Hp → XK → Prop := fun σ H Q => ta σ H fun vs H1 => ∃ v, vs = [v] ∧ ∀ d, H1 d = none → Q (.ref C) (some d) (upd H1 d (.xd [(f, v)]))
theorem upd_xd {H : Hp} {a d C : Addr} {o1 o2 o3 o : HO} (ha : H a = none) (hd : d ≠ a) : upd (del (upd (upd (upd H a o1) d o2) a o3) a) d o = upd H d o := by
  funext b
  by_cases h1 : b = d
  · subst h1
    rw [upd_same, upd_same]
  · rw [upd_ne h1, upd_ne h1]
    by_cases h2 : b = a
    · subst h2
      rw [del_same, ha]
    · rw [del_ne h2, upd_ne h2, upd_ne h1, upd_ne h2]
def tCutA (t : TA) : TA := fun σ H Q => ∃ M : List V → Hp → Prop, t σ H M ∧ ∀ vs H', M vs H' → Q vs H'
theorem pa_cut {X : Cx} {es : List Expr} {t : TA} (h : PA X es t) : PA X es (tCutA t) :=
  ⟨fun pos pins s σ H Q I ⟨M, hm, hu⟩ => wpAny_mono (h.run pos pins s σ H M I hm) (fun us s1 ⟨vs, H1, I1, r, q⟩ => ⟨vs, H1, I1, r, hu _ _ q⟩) fun _ _ z => z⟩
section
variable {X : Cx} {x f : Str} {C : Addr} {j : Nat} {e : Expr} {ta : TA} {p pos : Pos}
theorem pmk_x (T : Oex X.prog X.w X.K X.mg X.base x C f) (hr : Room j X.A) (hk : 2 ≤ j) (hg : Gl X x) (ha : PA X [e] ta)
    (hdb : (x == ("__debug__" : Str)) = false := by decide) (he : starEach [e] X.env = (false, eval e X.env) :: starEach [] X.env := by rfl) (hpl : (backTo pos (starEach [] X.env)).any (·.1) = false := by rfl) :
    PMk X (.Call (.Name x p) [e] [] pos) (tX C f ta) := by
  obtain ⟨fI, fd, i1, i2, F, b⟩ := T.ini
  intro pins s σ H Q I h
  refine pmk_oex (dvs := []) (ds := []) T.T i1 i2 F (hr.mono hk) b .nil (fun _ _ _ _ _ _ _ z => (show False from z).elim) hg T.hm (pa_cut ha) hdb he hpl pins s σ H Q I ⟨_, h, fun vs H1 hq => ?_⟩
  obtain ⟨v, rfl, q⟩ := hq
  refine ⟨by simp, fun a hn => ⟨a, v, rfl, upd_same, fun dx h1 h2 => ⟨rfl, dx, [(f, v)], upd_same, by rw [upd_ne h2, upd_same], by rwa [upd_ne h2] at h1, ?_⟩⟩⟩
  rw [upd_xd (C := C) hn h2]
  rw [upd_ne h2] at h1
  exact q dx h1
/-- its __init__, by its text -/
theorem ok_ini {P : Program} {w : World} {K : PySem.W.Frag} {mg : Str → Option Value} {base : Heap} {qual : Str} {st : Stmt} {fI : Addr} {fd : FuncData} {f : Str} {p1 p2 p3 pos : Pos} (F : Fun K "__init__" qual st fI fd) (S : FnScope ["self", f] ["self", f] (defScope st))
    (hb : defBody st = [.Assign [.Attribute (.Name "self" p1) f p2] (.Name f p3) pos]) (T : OexC K C) (no : PySem.W.findIn K (.ref C) f = some none) (h0 : Vis (defScope st) "self") (h1 : Vis (defScope st) f) (hd : (f == ("__debug__" : Str)) = false) (hc : (f == ("__classdict__" : Str)) = false) : FnOk P w K mg base CX0 1 fI fd ["self", f] (spIni C f) := by
  refine F.ok S (fun vs H Q E ⟨a, v, e, _⟩ => by rw [e]; rfl) fun cdv A outer s H vs Q E hr ⟨a, v, e, ha, q⟩ => ?_
  rw [hb, e]
  exact ⟨_, pss_one (ps_ost (pe_var (i := 0) rfl h0) (pe_var (i := 1) rfl h1 hd hc)), ⟨v, rfl, .ref a, rfl, a, C, rfl, T, no, .inl ⟨ha, q⟩⟩⟩
/-! ### in an except suite: e's field, what e is -/
theorem pe_xfS {a C : Addr} {oe : Obj} {cls : Value} {d : Option Addr} {pn : List (Addr × Obj)} {te : TE} {n : Str} (T : Oex X.prog X.w X.K X.mg X.base x C n)
    (hz : Zc cls d oe) (hf : ∃ vs, oe.data = .fields vs) (he : PE (X.suite a ((a, oe) :: pn)) e te) (hb : attributeBase e n X.env (eval e X.env) = eval e X.env := by rfl) :
    PE (X.suite a ((a, oe) :: pn)) (.Attribute e n pos) (tXf a cls d C n te) := pe_xf T.xf T.no hz hf he hb
def rIsX (K : PySem.W.Frag) (cls : Value) (d : Option Addr) (D a : Addr) : List V → Hp → VK → Prop := fun xs H Q => cls = .ref D ∧ ∃ (dd : Addr) (fs : List (Str × V)) (c : V) (cv : Value) (b : Bool), d = some dd ∧ H dd = some (.xd fs) ∧ xs = [.ref a, c] ∧ ClsV c cv ∧ PySem.W.kitOne K (.ref D) cv = some b ∧ Q (.bl b) H
theorem call_isX {a D : Addr} {oe : Obj} {cls : Value} {d : Option Addr} {pn : List (Addr × Obj)} (C : ExcC X.K D) (hz : Zc cls d oe) (hf : ∃ vs, oe.data = .fields vs) : CallR (X.suite a ((a, oe) :: pn)) (.builtin "isinstance") (rIsX X.K cls d D a) := by
  intro pins s σ H xs us Q I r h
  obtain ⟨rfl, dd, fs, c, cv, b, rfl, hd, rfl, hcv, e, q⟩ := h
  obtain ⟨u1, u2, rfl, rx, rt⟩ := vals2 r
  cases rx
  have ec := hcv.eq rt
  subst ec
  obtain ⟨hget, _⟩ := I.pin (a, oe) (List.mem_append.mpr (.inl List.mem_cons_self))
  obtain ⟨vs, hv⟩ := hf
  obtain ⟨mA, hns, hr⟩ := (show ObjOk X.prog X.w H s.heap dd (.xd fs) from I.hok dd _ hd)
  obtain ⟨od, ho, hl⟩ := lookIn_ns hns
  have J : PySem.W.InstAt s.heap a oe D (some od) := ⟨hget, hz.1, by unfold PySem.W.notCls; rw [hv] <;> rfl, by rw [hz.2]; exact ho⟩
  obtain ⟨cd, hc, _⟩ := PySem.W.any_some C.hd
  exact PySem.W.kia_one (PySem.W.kitx_exc (by rw [hc]; rfl) C.hg C.hk C.hs C.ha C.hn C.ht C.hm) I.kIn J e (fun z => nomatch z) fun tk => ⟨.bl b, H, I.kept (t' := tk) fun _ _ z => z, rfl, q⟩
end
end G
set_option Elab.async false
set_option linter.all false
set_option maxRecDepth 100000
namespace G
open PySem PySem.Spec PyProof.Rows L2
/-! ### operators by an own class's methods -/
theorem cmpBack {v : V} {u : Value} {s : Shared} {Q : Value → Shared → Prop} (r : RelV v u) (h : Q u s) : PySem.W.CmpBack Q u s := by
  cases v with
  | non => cases (show u = Value.none from r); exact h
  | bl b => cases (show u = Value.bool b from r); exact h
  | int i => obtain ⟨t, rfl⟩ := (show ∃ t, u = Value.int i t from r); exact h
  | str i => obtain ⟨t, rfl⟩ := (show ∃ t, u = Value.str i t from r); exact h
  | byt i => obtain ⟨t, rfl⟩ := (show ∃ t, u = Value.bytes i t from r); exact h
  | flt i => obtain ⟨t, rfl⟩ := (show ∃ t, u = Value.float i t from r); exact h
  | ref a => cases (show u = Value.ref a from r); exact h
  | ty n => cases (show u = Value.type n from r); exact h
abbrev E0' : L2.St → XK := fun _ _ _ _ => False
section
variable {X : Cx} {k j : Nat} {C : Addr} {m : Str} {sp : Sp} {ps : List Str}
/-- x op y, x an instance of C -/
def rOpI (K : PySem.W.Frag) (C : Addr) (sp : Sp) : R2 := fun x y H Q => ∃ a dx fs t, x = .ref a ∧ H a = some (.ins C dx fs) ∧ TyX K H y t ∧ PySem.W.notFirst K C t = true ∧ sp [x, y] H Q (fun _ _ _ => False)
theorem cmp_opI {op : CmpOp} (c : MetG X.prog X.w X.K X.mg X.base false k C (cmpInfo op).2.1 sp ps) (hr : Room j X.A) (hk : k ≤ j) (hop : compareOp op = richCompare op) : OpR X (compareOp op) (rOpI X.K C sp) := by
  intro pins s σ H x y v u Q I rx ry h
  obtain ⟨f, fd, hc, M, hf, F, b⟩ := c.ex
  obtain ⟨a, dx, fs, t, rfl, ha, ty, hn, q⟩ := h
  cases (show v = Value.ref a from rx)
  obtain ⟨P, Z, p, _⟩ := kit_of I ry ty
  obtain ⟨mA, O, _⟩ := ins_get I.hok ha
  obtain ⟨od, J, _⟩ := O.look
  obtain ⟨m', hF⟩ := I.fr
  rw [hop]
  refine PySem.W.cmp_K (tb := t) hr.units0 hF I.ok.mod.kin J (Z.ty _ _ I.kIn p) hn M.at_ M.fn ?_
  exact wpAny_mono (run_at (E := E0') (dvs := []) (ds := []) (A1 := X.A) (vs := [.ref a, y]) F (hr.mono hk) (fun e => nomatch e) rfl b .nil (passAt takes0 σ) I (.cons rfl (.cons ry .nil)) q) (fun u' s' ⟨v', H', I', r', q'⟩ => cmpBack r' ⟨v', H', I', r', q'⟩) fun _ _ z => z
theorem eq_opI (c : MetG X.prog X.w X.K X.mg X.base false k C "__eq__" sp ps) (hr : Room j X.A) (hk : k ≤ j) : OpR X (compareOp .Eq) (rOpI X.K C sp) := cmp_opI (op := .Eq) c hr hk rfl
theorem le_opI (c : MetG X.prog X.w X.K X.mg X.base false k C "__le__" sp ps) (hr : Room j X.A) (hk : k ≤ j) : OpR X (compareOp .LtE) (rOpI X.K C sp) := cmp_opI (op := .LtE) c hr hk rfl
/-- x + y, two instances of C -/
def rAddI (C : Addr) (sp : Sp) : R2 := fun x y H Q => ∃ a dx fs b dy gs, x = .ref a ∧ H a = some (.ins C dx fs) ∧ y = .ref b ∧ H b = some (.ins C dy gs) ∧ sp [x, y] H Q (fun _ _ _ => False)
theorem bin_opI {op : Operator} (c : MetG X.prog X.w X.K X.mg X.base false k C (PySem.dunder op.info.2) sp ps) (hs : PySem.W.selfFirst X.K C = true) (hr : Room j X.A) (hk : k ≤ j) : OpR X (binaryOp op) (rAddI C sp) := by
  intro pins s σ H x y v u Q I rx ry h
  obtain ⟨f, fd, hc, M, hf, F, b⟩ := c.ex
  obtain ⟨a, dx, fs, b', dy, gs, rfl, ha, rfl, hb, q⟩ := h
  cases (show v = Value.ref a from rx)
  cases (show u = Value.ref b' from ry)
  obtain ⟨mA, O, _⟩ := ins_get I.hok ha
  obtain ⟨od, J, _⟩ := O.look
  obtain ⟨mB, O', _⟩ := ins_get I.hok hb
  obtain ⟨od', J', _⟩ := O'.look
  obtain ⟨m', hF⟩ := I.fr
  refine PySem.W.binop_K hF I.ok.mod.kin J J'.type hs M.at_ M.fn ?_
  exact wpAny_mono (run_at (E := E0') (dvs := []) (ds := []) (A1 := X.A) (vs := [.ref a, .ref b']) F (hr.mono hk) (fun e => nomatch e) rfl b .nil (passAt takes0 σ) I (.cons rfl (.cons rfl .nil)) q) (fun u' s' ⟨v', H', I', r', q'⟩ => cmpBack r' ⟨v', H', I', r', q'⟩) fun _ _ z => z
theorem add_opI (c : MetG X.prog X.w X.K X.mg X.base false k C "__add__" sp ps) (hs : PySem.W.selfFirst X.K C = true) (hr : Room j X.A) (hk : k ≤ j) : OpR X (binaryOp .Add) (rAddI C sp) := bin_opI (op := .Add) c hs hr hk
/-- len(x) -/
def rLenI (C : Addr) (sp : Sp) : List V → Hp → VK → Prop := fun xs H Q => ∃ a dx fs, xs = [.ref a] ∧ H a = some (.ins C dx fs) ∧ sp [.ref a] H (fun v H' => ∃ n : Nat, v = .int n ∧ n < 2 ^ 63 ∧ Q (.int n) H') (fun _ _ _ => False)
theorem len_I (c : MetG X.prog X.w X.K X.mg X.base false k C "__len__" sp ps) (hr : Room j X.A) (hk : k + 1 ≤ j) : CallR X (.builtin "len") (rLenI C sp) := by
  intro pins s σ H xs us Q I r h
  obtain ⟨f, fd, hc, M, hf, F, b⟩ := c.ex
  obtain ⟨a, dx, fs, rfl, ha, q⟩ := h
  obtain ⟨u, rfl, ru⟩ := vals1 r
  cases (show u = Value.ref a from ru)
  obtain ⟨mA, O, _⟩ := ins_get I.hok ha
  obtain ⟨od, J, _⟩ := O.look
  obtain ⟨m', hF⟩ := I.fr
  refine PySem.W.len_K hF I.ok.mod.kin J M.at_ M.fn ?_
  refine wpAny_mono (run_at (E := E0') (dvs := []) (ds := []) (A1 := X.A.in1) (vs := [.ref a]) F ((hr.mono hk).in1) (fun e => nomatch e) rfl b .nil (passAt takes0 σ) I (.cons rfl .nil) q) (fun u' s' ⟨v', H', I', r', n, e1, e2, q'⟩ => ?_) fun _ _ z => z
  subst e1
  obtain ⟨t, rfl⟩ := r'
  exact ⟨⟨by omega, by omega⟩, ⟨.int n, H', I'.tok _, ⟨_, rfl⟩, q'⟩⟩
/-- y in x, x an instance -/
def rInI (C : Addr) (sp : Sp) (neg : Bool) : R2 := fun y x H Q => ∃ a dx fs, x = .ref a ∧ H a = some (.ins C dx fs) ∧ sp [x, y] H (fun v H' => ∃ b : Bool, v = .bl b ∧ Q (.bl (if neg then !b else b)) H') (fun _ _ _ => False)
theorem in_opI (c : MetG X.prog X.w X.K X.mg X.base false k C "__contains__" sp ps) (hr : Room j X.A) (hk : k ≤ j) : OpR X (compareOp .In) (rInI C sp false) := by
  intro pins s σ H y x v u Q I ry rx h
  obtain ⟨f, fd, hc, M, hf, F, b⟩ := c.ex
  obtain ⟨a, dx, fs, rfl, ha, q⟩ := h
  cases (show u = Value.ref a from rx)
  obtain ⟨mA, O, _⟩ := ins_get I.hok ha
  obtain ⟨od, J, _⟩ := O.look
  obtain ⟨m', hF⟩ := I.fr
  refine PySem.W.in_K hF I.ok.mod.kin J M.at_ M.fn ?_
  refine wpAny_mono (run_at (E := E0') (dvs := []) (ds := []) (A1 := X.A) (vs := [.ref a, y]) F (hr.mono hk) (fun e => nomatch e) rfl b .nil (passAt takes0 σ) I (.cons rfl (.cons ry .nil)) q) (fun u' s' ⟨v', H', I', r', n, e1, q'⟩ => ?_) fun _ _ z => z
  subst e1
  cases r'
  exact wpAny_truthy_bool ⟨.bl n, H', I', rfl, q'⟩
theorem notIn_opI (c : MetG X.prog X.w X.K X.mg X.base false k C "__contains__" sp ps) (hr : Room j X.A) (hk : k ≤ j) : OpR X (compareOp .NotIn) (rInI C sp true) := by
  intro pins s σ H y x v u Q I ry rx h
  obtain ⟨f, fd, hc, M, hf, F, b⟩ := c.ex
  obtain ⟨a, dx, fs, rfl, ha, q⟩ := h
  cases (show u = Value.ref a from rx)
  obtain ⟨mA, O, _⟩ := ins_get I.hok ha
  obtain ⟨od, J, _⟩ := O.look
  obtain ⟨m', hF⟩ := I.fr
  refine PySem.W.notIn_K hF I.ok.mod.kin J M.at_ M.fn ?_
  refine wpAny_mono (run_at (E := E0') (dvs := []) (ds := []) (A1 := X.A) (vs := [.ref a, y]) F (hr.mono hk) (fun e => nomatch e) rfl b .nil (passAt takes0 σ) I (.cons rfl (.cons ry .nil)) q) (fun u' s' ⟨v', H', I', r', n, e1, q'⟩ => ?_) fun _ _ z => z
  subst e1
  cases r'
  exact wpAny_truthy_bool ⟨.bl (!n), H', I', rfl, q'⟩
/-- x != y by x's __eq__ and object's __ne__ -/
theorem ifBound_blt {M : Model} {A : Around} {E : Value → Shared → Prop} {s : Shared} {K : PySem.W.Frag} {x C : Addr} {ox : Obj} {od : Option Obj} {name : Str} {id T : String} {args : List Value} {Q : Option Value → Shared → Prop} (X : K.In s.heap) (I : PySem.W.InstAt s.heap x ox C od)
    (hs : PySem.W.findIn K (.ref C) name = some (some (.builtin id))) (sl : Slot T name id)
    (h : wpAny M A (call (.builtin id) (.ref x :: args)) (fun v => Q (some v)) E s) : wpAny M A (callSpecialIfBound? (.ref x) name args) Q E s := by
  simp only [callSpecialIfBound?, bindSpecialIfBound?]
  refine wpAny_holding (wpAny_bind (wpAny_bind (wpAny_bind (I.type.here ((PySem.W.looks_findIn X hs).here ?_)))))
  refine wpAny_bind (wpAny_askSetting (wpAny_ite ?_))
  have fin : wpAny M A (call (.builtin id) ([.ref x] ++ args) >>= fun v => pure (some v)) Q E s := wpAny_bind (wpAny_mono h (fun v s' h' => wpAny_pure h') fun _ _ h' => h')
  split
  · rw [sl.bind (.ref x)]
    exact wpAny_bind (wpAny_pure (wpAny_pure (by exact fin)))
  · rw [sl.bind (.ref x)]
    exact wpAny_tryCatch (wpAny_bind (wpAny_pure (wpAny_pure (by exact fin))))
def rNeI (K : PySem.W.Frag) (C : Addr) (sp : Sp) : R2 := fun x y H Q => ∃ a dx fs t, x = .ref a ∧ H a = some (.ins C dx fs) ∧ TyX K H y t ∧ PySem.W.notFirst K C t = true ∧ sp [x, y] H (fun v H' => ∃ b : Bool, v = .bl b ∧ Q (.bl (!b)) H') (fun _ _ _ => False)
theorem ne_opI (c : MetG X.prog X.w X.K X.mg X.base false k C "__eq__" sp ps) (hne : PySem.W.findIn X.K (.ref C) "__ne__" = some (some (.builtin "object.__ne__"))) (ho : PySem.W.mroIn X.K C (.type "object") = some true) (hr : Room j X.A) (hk : k + 1 ≤ j) : OpR X (compareOp .NotEq) (rNeI X.K C sp) := by
  intro pins s σ H x y v u Q I rx ry h
  obtain ⟨f, fd, hc, M, hf, F, b⟩ := c.ex
  obtain ⟨a, dx, fs, t, rfl, ha, ty, hn, q⟩ := h
  cases (show v = Value.ref a from rx)
  obtain ⟨P, Z, p, _⟩ := kit_of I ry ty
  obtain ⟨mA, O, _⟩ := ins_get I.hok ha
  obtain ⟨od, J, _⟩ := O.look
  obtain ⟨m', hF⟩ := I.fr
  have X1 := I.kIn
  have hu := hr.units
  have body : wpAny (model X.prog X.w) X.A.in1 (Builtin.«object.__ne__» ⟨[.ref a, u], []⟩) (fun fin s' => ∃ v', fin = .done (.ret v') ∧ PySem.W.CmpBack (EP X pins σ Q) v' s') X.xe s := by
    unfold Builtin.«object.__ne__»
    refine wpAny_bind (wpAny_of_eq (a := ((Value.ref a : Value), [u])) (by first | rfl | (simp only [slotArgs]; rfl)) ?_)
    refine wpAny_bind (wpAny_cRoomFor (by show X.A.units + 1 < _; omega) ?_)
    refine wpAny_bind (PySem.W.ifBound_K X1 J M.at_ M.fn ?_)
    refine wpAny_mono (run_at (E := E0') (dvs := []) (ds := []) (A1 := X.A.in1) (vs := [.ref a, y]) F ((hr.mono hk).in1) (fun e => nomatch e) rfl b .nil (passAt takes0 σ) I (.cons rfl (.cons ry .nil)) q) (fun u' s' ⟨v', H', I', r', n, e1, q'⟩ => ?_) fun _ _ z => z
    subst e1
    cases r'
    refine wpAny_bind (m := truthy (.bool n)) (wpAny_truthy_bool ?_)
    exact wpAny_pure ⟨_, rfl, ⟨.bl (!n), H', I', rfl, q'⟩⟩
  have one : wpAny (model X.prog X.w) X.A (tryCompare (.ref a) "__ne__" u) (fun r s' => ∃ v, r = some v ∧ EP X pins σ Q v s') X.xe s := by
    have sub : PySem.W.Looks (model X.prog X.w) s.heap (isInstance (.ref a) (.type "object")) true := J.type.andThen (PySem.W.looks_mroIn X1 ho)
    unfold tryCompare
    refine wpAny_bind (ifBound_blt X1 J hne PySem.F.cmp_object.ne (wpAny_call (codeAny_call_builtin PySem.F.cmp_object.ne.plain PySem.F.cmpEntry_ne (PySem.W.check_slot PySem.F.cmpKind_ne PySem.F.cmpSplit_ne sub (PySem.F.cmpArgs_ne _ _) (wpAny_mono body (fun fin s' hv => ?_) fun _ _ z => z)))))
    obtain ⟨v', rfl, hv⟩ := hv
    cases v' <;> first | exact hv.elim | exact wpAny_pure ⟨_, rfl, hv⟩
  show wpAny _ _ (richCompare .NotEq _ _) _ _ _
  unfold richCompare
  simp only [oneThing_ref]
  refine wpAny_holding (wpAny_bind (wpAny_cRoomFor hr.units0 ?_))
  refine wpAny_bind (J.type.here (wpAny_bind ((Z.ty _ _ I.kIn p).here ?_)))
  split
  · rename_i q
    have e : PySem.W.subIn X.K t (.ref C) = some false := by
      rcases Bool.or_eq_true_iff.mp hn with e | e
      · rw [beq_iff_eq.mp e] at q; simp at q
      · exact beq_iff_eq.mp e
    refine wpAny_bind ((PySem.W.looks_subIn X1 e).here ?_)
    simp only [Bool.false_eq_true, if_false]
    refine wpAny_bind (wpAny_mono one (fun r s' z => ?_) fun _ _ e => e)
    obtain ⟨v, rfl, hq⟩ := z
    exact wpAny_pure hq
  · refine wpAny_bind (wpAny_pure ?_)
    simp only [Bool.false_eq_true, if_false]
    refine wpAny_bind (wpAny_mono one (fun r s' z => ?_) fun _ _ e => e)
    obtain ⟨v, rfl, hq⟩ := z
    exact wpAny_pure hq
/-- x[y], x an instance -/
def tIxI (C : Addr) (sp : Sp) (E : L2.St → XK) (ta tb : TE) : TE := fun σ H Q => ta σ H fun x H1 => tb σ H1 fun y H2 => ∃ a dx fs, x = .ref a ∧ H2 a = some (.ins C dx fs) ∧ sp [x, y] H2 Q (E σ)
theorem pe_ixI {W : WX} {a b : Expr} {ta tb : TE} {pos : Pos} (c : MetG X.prog X.w X.K X.mg X.base false k C "__getitem__" sp ps) (hr : Room j X.A) (hk : k + 1 ≤ j) (tk : Takes X W) (ha : PE X a ta) (hb : PE X b tb)
    (hsl : ∀ o i, subscripted b true o i = runValue (.builtin "lifetime.subscript" ⟨[o, i], []⟩) := by intro _ _; with_unfolding_all rfl) : PE X (.Subscript a b pos) (tIxI C sp (WE W) ta tb) := by
  obtain ⟨f, fd, hc, M, hf, F, bb⟩ := c.ex
  refine ⟨fun pins s σ H Q I h => ?_⟩
  refine Subscript_ (binT ha hb I h fun v u s2 x y H2 I2 rx ry q => ?_)
  obtain ⟨p, dx, fs, rfl, hp, q⟩ := q
  cases (show v = Value.ref p from rx)
  obtain ⟨mA, O, _⟩ := ins_get I2.hok hp
  obtain ⟨od, J, _⟩ := O.look
  obtain ⟨m', hF⟩ := I2.fr
  refine PySem.W.sub_K hF I2.ok.mod.kin J M.at_ hf M.fn ?_ (hsl _ _)
  exact run_at (dvs := []) (ds := []) (A1 := X.A.in1) (vs := [.ref p, y]) F ((hr.mono hk).in1) (fun e => nomatch e) rfl bb .nil (passAt tk σ) I2 (.cons rfl (.cons ry .nil)) q
end
end G
set_option Elab.async false
set_option linter.all false
set_option maxRecDepth 100000
namespace G
open PySem PySem.Spec PyProof.Rows L2
/-! ### repr -/
def rRepr (K : PySem.W.Frag) : List V → Hp → VK → Prop := fun xs H Q => ∃ x d, xs = [x] ∧ Dp K H x d ∧ d.showable = true ∧ d.hasDict = false ∧ d.shown.length ≤ sizeLine ∧ d.depth ≤ 50 ∧ Q (.str d.shown) H
theorem gRepr {X : Cx} (hg : X.A.guards = some []) (hu : X.A.units + 64 < cLine) : CallR X (.builtin "repr") (rRepr X.K) := by
  intro pins s σ H xs us Q I r h
  obtain ⟨x, d, rfl, hd, h1, h2, h3, h4, q⟩ := h
  obtain ⟨u, rfl, ru⟩ := vals1 r
  obtain ⟨as, rd⟩ := Dp.reads I d x u hd ru
  have nd : d.hasDict = true → sysModules ∉ as := fun e => by rw [h2] at e; cases e
  have big : ∀ a, u = .ref a → wpAny (model X.prog X.w) X.A (call (.builtin "repr") [u]) (EP X pins σ Q) X.xe s := fun a e => by
    subst e
    refine repr_of_reads' rd h1 nd hg (by omega) (fun _ _ e => e) (fun h' t tk hk => ⟨.str d.shown, H, I.kept (t' := tk) hk, ⟨_, rfl⟩, q⟩) h3
  cases rd with
  | none => exact PySem.P.repr_of_none ⟨.str _, H, I.tok _, ⟨_, rfl⟩, q⟩
  | bool b => exact PySem.P.repr_of_bool ⟨.str _, H, I.tok _, ⟨_, rfl⟩, q⟩
  | int i t => exact PySem.P.repr_of_int (by simpa [PyData.showable] using h1) ⟨.str _, H, I.tok _, ⟨_, rfl⟩, q⟩
  | str x t => exact PySem.P.repr_of_str ⟨.str _, H, I.tok _, ⟨_, rfl⟩, q⟩ (by simpa only [PyData.shown] using h3)
  | list a1 a2 a3 a4 => exact big _ rfl
  | tuple a1 a2 a3 a4 => exact big _ rfl
  | dict a1 a2 a3 a4 a5 => exact big _ rfl
/-- .. of a dict of flat values -/
def flatD : V → PyData
  | .bl b => .bool b
  | .int i => .int i
  | .str x => .str x
  | _ => .none
def keyD : Key → PyData
  | .inl i => .int i
  | .inr x => .str x
abbrev dictD (kvs : List (Key × V)) : PyData := .dict (kvs.map fun kv => (keyD kv.1, flatD kv.2))
theorem flat_reads {h : Heap} {v : V} {u : Value} (hf : flatV v = true) (r : RelV v u) : Reads h u (flatD v) [] := by
  cases v with
  | non => cases r; exact .none
  | bl b => cases r; exact .bool b
  | int i => obtain ⟨t, rfl⟩ := r; exact .int i t
  | str x => obtain ⟨t, rfl⟩ := r; exact .str x t
  | byt b => cases hf
  | flt b => cases hf
  | ref b => cases hf
  | ty b => cases hf
theorem key_reads {h : Heap} {k : Key} {u : Value} (r : keyIs k u = true) : Reads h u (keyD k) [] := by
  rcases keyIs_shape r with ⟨i, t, rfl, rfl⟩ | ⟨x, t, rfl, rfl⟩
  · exact .int i t
  · exact .str x t
theorem pairs_reads {P : Program} {w : World} {h : Heap} : ∀ {es : List DictEntry} {kvs : List (Key × V)} {vs : List (Key × Value)}, Pairs (mixKind P w) es vs → KV kvs vs → kvs.all (fun kv => flatV kv.2) = true →
    ReadsAll h (es.map (·.key)) ((kvs.map fun kv => (keyD kv.1, flatD kv.2)).map (·.1)) [] ∧ ReadsAll h (es.map (·.val)) ((kvs.map fun kv => (keyD kv.1, flatD kv.2)).map (·.2)) []
  | _, _, _, .nil, .nil, _ => ⟨.nil, .nil⟩
  | _, _, _, .cons h1 h2 hr, .cons ⟨e, rv⟩ kr, hf => by
    rw [List.all_cons, Bool.and_eq_true] at hf
    obtain ⟨q1, q2⟩ := pairs_reads (h := h) hr kr hf.2
    rw [← e] at h1
    rw [← h2] at rv
    exact ⟨.cons (key_reads h1) q1, .cons (flat_reads hf.1 rv) q2⟩
def rReprD : List V → Hp → VK → Prop := fun xs H Q => ∃ a kvs, xs = [.ref a] ∧ H a = some (.dK kvs) ∧ kvs.all (fun kv => flatV kv.2) = true ∧ (dictD kvs).showable = true ∧ (dictD kvs).shown.length ≤ sizeLine ∧ (dictD kvs).depth ≤ 50 ∧ Q (.str (dictD kvs).shown) H
theorem gReprD {X : Cx} (hg : X.A.guards = some []) (hu : X.A.units + 64 < cLine) : CallR X (.builtin "repr") rReprD := by
  intro pins s σ H xs us Q I r h
  obtain ⟨a, kvs, rfl, ha, hf, h1, h3, h4, q⟩ := h
  obtain ⟨u, rfl, ru⟩ := vals1 r
  cases (show u = Value.ref a from ru)
  obtain ⟨hz, hn, vs, kv, o, es, ep, e1, e2, e3, e4, e5, e6⟩ := (show ObjOk X.prog X.w H s.heap a (.dK kvs) from I.hok a _ ha)
  obtain ⟨q1, q2⟩ := pairs_reads (h := s.heap) e5 kv hf
  have rd : Reads s.heap (.ref a) (dictD kvs) [a] := .dict e1 e2.1 e3 q1 q2
  have nd : sysModules ∉ [a] := fun m => by
    rw [List.mem_singleton] at m
    rw [← m] at hn
    simp at hn
  refine repr_of_reads' rd h1 (fun _ => nd) hg (by omega) (fun _ _ e => e) (fun h' t tk hk => ⟨.str (dictD kvs).shown, H, I.kept (t' := tk) hk, ⟨_, rfl⟩, q⟩) h3
def rReprA (K : PySem.W.Frag) : List V → Hp → VK → Prop := fun xs H Q => rRepr K xs H Q ∨ rReprD xs H Q
theorem kRepr {X : Cx} {K : PySem.W.Frag} (hK : X.K = K) (hg : X.A.guards = some []) (hu : X.A.units + 64 < cLine) : CallR X (.builtin "repr") (rReprA K) := by
  subst hK
  exact CallR.or (gRepr hg hu) (gReprD hg hu)
end G
set_option Elab.async false
set_option linter.all false
set_option maxRecDepth 100000
namespace G
open PySem PySem.Spec PyProof.Rows L2
/-! ### the end, for a law's def that promises by Fg -/
/-- what a call of the law's def must come to -/
abbrev LawEnd (P : Program) (w : World) (fa a : Addr) (s : Shared) : Prop :=
  codeAny (model P w) callerA (.call (.ref fa) ⟨[.ref a], []⟩) (fun r s' => r = .ok (.ret (.bool true)) ∧ OldK s.heap s'.heap ∧ s'.os = s.os ∧ AllBare s'.gens) s
section
variable {P : Program} {w : World} {K : PySem.W.Frag} {mg mb : Str → Option Value} {g : Bool} {k : Nat} {fa a : Addr} {fd : FuncData} {x : Str} {sp : Sp} {s : Shared} {H : Hp} {us : List Value} {ns : List Int}
/-- from an abstract heap that tracks at most the script at a (frozen) -/
theorem end_at (kin : K.In s.heap) (hns : s.heap.Ns mainGlobals mg) (hb : s.heap.Ns builtinsNs mb) (hbb : ∀ x : Str, x ≠ "__name__" → mb x = bootBuiltins x) (hlim : s.heap.NoLimit) (hg : s.gens = #[])
    (hdat : ∀ o, s.heap.get? a = some o → ∀ es ep, o.data ≠ .dict es ep) (hr : Room k callerA)
    (F : ∀ base : Heap, K.In base → base.Ns mainGlobals mg → Fg P w K mg base g k fa fd [x] sp) (hbind : ∀ (s : Shared) (u : Value), BindsTo s fd ⟨[u], []⟩ [(x, u)])
    (hO : Only H) (hok : HOk P w H s.heap) (hA : ∀ b, b ≠ a → H b = none) (hK : H a ≠ none → K.lookup a = none) (q : sp [.ref a] H (fun v _ => v = .bl true) fun _ _ _ => False) : LawEnd P w fa a s := by
  have dict_free : ∀ b o es ep, s.heap.get? b = some o → o.data = .dict es ep → H b = none := fun b o es ep e d => hA b fun z => hdat o (z ▸ e) es ep d
  have keepNs : ∀ {b : Addr} {m : Str → Option Value}, s.heap.Ns b m → (hidT s.heap H).Ns b m := fun {b m} ⟨o, es, ep, e, d, r⟩ => ⟨o, es, ep, hidT_get e (dict_free b o es ep e d), d, r⟩
  have keepK : K.In (hidT s.heap H) := fun b o e => hidT_get (kin b o e) (Decidable.byContradiction fun z => by
    by_cases hba : b = a
    · subst hba
      rw [hK z] at e
      cases e
    · exact z (hA b hba))
  obtain ⟨mc, l1, l2⟩ := hlim
  have e0 : Env0 P w K mg (hidT s.heap H) callerA [] s H := ⟨rfl, ⟨keepK, keepNs hns, ⟨mb, keepNs hb, hbb⟩, ⟨mc, keepNs l1, l2⟩⟩, fun b o e => of_hidT e, Nat.le_of_eq (hidT_size _ _), trivial, fun b z => absurd (show b ∈ ([] : List Addr) from z) (by simp), hok, .of_eq hg⟩
  refine codeAny_mono ((F _ keepK (keepNs hns)).go callerA [] s H ⟨[.ref a], []⟩ [.ref a] [.ref a] _ _ hr (fun _ => rfl) e0 (hbind s (.ref a)) (.cons rfl .nil) q) fun r s' h => ?_
  match r, h with
  | .error e, h =>
    obtain ⟨_, _, _, _, _, _, _, _, _, _, _, _, z⟩ := h
    exact z.elim
  | .ok .next, h => exact False.elim h
  | .ok .brk, h => exact False.elim h
  | .ok .cont, h => exact False.elim h
  | .ok (.ret u), ⟨v, H', os, bare, un, hok', rv, ev⟩ =>
    have ev' : v = .bl true := ev
    subst ev'
    obtain rfl : u = Value.bool true := rv
    refine ⟨rfl, OldK.of_keep fun b o e => ?_, os, bare⟩
    rcases hO b with z | ⟨ob, xs, z⟩
    · exact un.keep b o e z (fun m => absurd (show b ∈ ([] : List Addr) from m) (by simp)) (by simp)
    · have c1 := (hok b _ z).1
      have c2 := (hok' b _ (un.frzs b ob _ z)).1
      rw [e] at c1
      cases c1
      exact c2
theorem law_callG (kin : K.In s.heap) (hns : s.heap.Ns mainGlobals mg) (hb : s.heap.Ns builtinsNs mb) (hbb : ∀ x : Str, x ≠ "__name__" → mb x = bootBuiltins x) (hlim : s.heap.NoLimit) (hg : s.gens = #[])
    (ha : s.heap.get? a = some { cls := .type "list", data := .seq us.toArray }) (hi : IntsAre us ns) (hl : ns.length ≤ sizeLine) (hr : Room k callerA)
    (F : ∀ base : Heap, K.In base → base.Ns mainGlobals mg → Fg P w K mg base g k fa fd [x] sp) (hbind : ∀ (s : Shared) (u : Value), BindsTo s fd ⟨[u], []⟩ [(x, u)])
    (hsp : ∀ H : Hp, SqL K H a (ns.map V.int) → sp [.ref a] H (fun v _ => v = .bl true) fun _ _ _ => False) : LawEnd P w fa a s := by
  have rv := vals_ints hi
  have hdat : ∀ o, s.heap.get? a = some o → ∀ es ep, o.data ≠ .dict es ep := fun o e es ep d => by
    rw [ha] at e
    cases e
    have d' : Data.seq us.toArray _ = Data.dict es ep := d
    cases d'
  cases hk : K.lookup a with
  | some o =>
    have e := kin a o hk
    rw [ha] at e
    cases e
    exact end_at (H := fun _ => none) kin hns hb hbb hlim hg hdat hr F hbind (fun _ => .inl rfl) (fun b u z => nomatch z) (fun _ _ => rfl) (fun z => absurd rfl z)
      (hsp _ (.inr ⟨_, us.toArray, _, hk, rfl, rfl, rfl, by rw [List.size_toArray, hi.length]; exact hl, by simpa using rv⟩))
  | none =>
    refine end_at (H := upd (fun _ => none) a (.frz { cls := .type "list", data := .seq us.toArray } (.lst (ns.map V.int)))) kin hns hb hbb hlim hg hdat hr F hbind (fun b => ?_) (fun b u z => ?_) (fun b hb => upd_ne hb) (fun _ => hk) (hsp _ (.inl (.inr ⟨_, upd_same⟩)))
    · by_cases hb : b = a
      · exact .inr ⟨_, _, by rw [hb]; exact upd_same⟩
      · exact .inl (upd_ne hb)
    · by_cases hb : b = a
      · subst hb
        rw [upd_same] at z
        cases z
        exact ⟨ha, by rw [List.length_map]; exact hl, us, _, rv, ha⟩
      · rw [upd_ne hb] at z
        cases z
end
theorem walk_ofG {l : PySem.W.OpenLaw} {n k : Nat} {q : Program} {loose : List Str} {XP : (Str → Option Value) → Heap → Prop} {YP : World → Heap → Prop} {d : DefRec} {K : Params → PySem.W.Frag} {g : Bool} {sp : PySem.W.Frag → Sp} {x : Str}
    (hn : l.most = some n) (hn2 : n ≤ sizeLine) (hdf : d.params.defaults = []) (hr : Room k callerA) (hY : ∀ (w : World) (h : Heap), YP w h → (K w.params).In h)
    (F : ∀ (w : World) (mg : Str → Option Value) (fa : Addr) (h : Heap), (K w.params).In h → h.Ns mainGlobals mg → mg d.name = some (.ref fa) →
      ∃ fd : FuncData, (∀ (s : Shared) (u : Value), BindsTo s fd ⟨[u], []⟩ [(x, u)]) ∧ ∀ base : Heap, (K w.params).In base → base.Ns mainGlobals mg → Fg l.prog w (K w.params) mg base g k fa fd [x] (sp (K w.params)))
    (hsp : ∀ (K : PySem.W.Frag) (H : Hp) (a : Addr) (ns : List Int), ns.length ≤ n → (∀ z ∈ ns, Builtin.Int.intBits z ≤ 1048576) → SqL K H a (ns.map V.int) → sp K [.ref a] H (fun v _ => v = .bl true) fun _ _ _ => False) :
    PySem.W.WalkO q loose XP YP l.row.toRowW d [] (fun f vs => PySem.call f vs) := by
  refine Att.attach_callB hn hdf fun w s₀ s₁ mg mb fa o pm cd doc a vs ns G Y ho hd hcd hmg hobj hints hlen hbits hg => ?_
  have kin := hY w _ Y
  obtain ⟨fd, hb, hF⟩ := F w mg fa _ kin G.T.g hmg
  exact law_callG kin G.T.g G.T.b G.T.builtins G.T.nolimit hg hobj hints (Nat.le_trans hlen hn2) hr hF hb fun H hS => hsp _ H a ns hlen hbits hS
end G
set_option Elab.async false
set_option linter.all false
set_option maxRecDepth 100000
namespace G
open PySem PySem.Spec PyProof.Rows L2
/-! ### isinstance with own classes -/
theorem kit_ownT {K : PySem.W.Frag} {t : Value} {C : Addr} (hc : PySem.W.isClsIn K C = true) (ht : PySem.W.typeIn K (.ref C) = some (.type "type")) (hs : PySem.W.subIn K t (.ref C) = some true) : PySem.W.kitOne K t (.ref C) = some true := by
  unfold PySem.W.kitOne
  split
  · rfl
  · unfold PySem.W.kitCls
    dsimp only
    rw [show (PySem.W.clsIn K C).isSome = true from hc, ht, hs]
    rfl
theorem kit_ownF {K : PySem.W.Frag} {T : String} {C : Addr} {r : Bool} (hc : PySem.W.isClsIn K C = true) (ht : PySem.W.typeIn K (.ref C) = some (.type "type")) (hs : PySem.W.subIn K (.type T) (.ref C) = some r) : PySem.W.kitOne K (.type T) (.ref C) = some r := by
  unfold PySem.W.kitOne
  rw [if_neg (by simp)]
  unfold PySem.W.kitCls
  dsimp only
  rw [show (PySem.W.clsIn K C).isSome = true from hc, ht, hs]
  rfl
theorem kit_self {K : PySem.W.Frag} {C : Addr} : PySem.W.kitOne K (.ref C) (.ref C) = some true := if_pos (by simp)
theorem kit_blt {K : PySem.W.Frag} {T : String} {C : Addr} {r : Bool} (hm : PySem.W.kitMeta T = true) (hs : PySem.W.subIn K (.ref C) (.type T) = some r) : PySem.W.kitOne K (.ref C) (.type T) = some r := by
  unfold PySem.W.kitOne
  rw [if_neg (by simp)]
  unfold PySem.W.kitCls
  dsimp only
  rw [hm, hs]
  rfl
theorem nf_self {K : PySem.W.Frag} {C : Addr} : PySem.W.notFirst K C (.ref C) = true := by unfold PySem.W.notFirst; simp
theorem nf_of {K : PySem.W.Frag} {C : Addr} {t : Value} (h : PySem.W.subIn K t (.ref C) = some false) : PySem.W.notFirst K C t = true := by unfold PySem.W.notFirst; rw [h]; simp
theorem kEqU {X : Cx} {K : PySem.W.Frag} (hK : X.K = K) (hu : X.A.units + 64 < cLine) : OpR X (compareOp .Eq) (rEqA K) := by subst hK; exact op_eq.or (op_eqD hu)
theorem kNeU {X : Cx} {K : PySem.W.Frag} (hK : X.K = K) (hu : X.A.units + 64 < cLine) : OpR X (compareOp .NotEq) (rNeA K) := by subst hK; exact op_ne.or (op_neD hu)
/-! ### defs, methods, classes of the text -/
abbrev BodyN (P : Program) (w : World) (K : PySem.W.Frag) (mg : Str → Option Value) (base : Heap) (g : Bool) (k : Nat) (N : List Str) (qual : Str) (st : Stmt) (f : Addr) (sp : Sp) : Prop :=
  ∀ (cdv : Value) (A : Around) (outer : List Env) (s : Shared) (H : Hp) (vs : List V) (Q : VK) (E : XK), Room k (A.deeper (envOfC qual (defScope st) s.heap.objs.size f cdv)) →
    (g = true → (A.deeper (envOfC qual (defScope st) s.heap.objs.size f cdv)).guards = some []) → sp vs H Q E →
    ∃ t, PSs (cxOf (L2.CX P w) P w K mg base N qual (defScope st) f cdv A outer s H E).nox (defBody st) t ∧ t { nx := fun _ H' => Q .non H', rt := Q } (start N vs) H
abbrev BodyX (P : Program) (w : World) (K : PySem.W.Frag) (mg : Str → Option Value) (base : Heap) (g : Bool) (k : Nat) (N : List Str) (qual : Str) (st : Stmt) (f : Addr) (sp : Sp) : Prop :=
  ∀ (cdv : Value) (A : Around) (outer : List Env) (s : Shared) (H : Hp) (vs : List V) (Q : VK) (E : XK), Room k (A.deeper (envOfC qual (defScope st) s.heap.objs.size f cdv)) →
    (g = true → (A.deeper (envOfC qual (defScope st) s.heap.objs.size f cdv)).guards = some []) → sp vs H Q E →
    ∃ t, PSs (cxOf (L2.CX P w) P w K mg base N qual (defScope st) f cdv A outer s H E) (defBody st) t ∧ t { nx := fun _ H' => Q .non H', rt := Q } (start N vs) H
structure Dm (K : PySem.W.Frag) (C : Addr) (m qual : Str) (st : Stmt) (ps : List Str) : Prop where
  ex : ∃ (f : Addr) (fd : FuncData), Cls K C ∧ Meth K C m f ∧ PySem.W.fnIn K f = true ∧ Fun K m qual st f fd ∧ Binds K fd ps []
structure Dk (K : PySem.W.Frag) (mg : Str → Option Value) (x : Str) (C : Addr) (qual : Str) (st : Stmt) (dvs : List V) : Prop where
  ex : ∃ (f : Addr) (fd : FuncData), Mk K C f ∧ mg x = some (.ref C) ∧ FunD K "__init__" qual (defArgs st) (defBody st) (defScope st) dvs [] f fd
structure Ini (P : Program) (w : World) (K : PySem.W.Frag) (mg : Str → Option Value) (base : Heap) (k : Nat) (x : Str) (C : Addr) (qual : Str) (st : Stmt) (dvs : List V) (ps : List Str) (sp : Sp) : Prop where
  ex : ∃ (f : Addr) (fd : FuncData), Mk K C f ∧ mg x = some (.ref C) ∧ FunD K "__init__" qual (defArgs st) (defBody st) (defScope st) dvs [] f fd ∧ Fg P w K mg base false k f fd ps sp
section
variable {P : Program} {w : World} {K : PySem.W.Frag} {mg : Str → Option Value} {base : Heap} {g : Bool} {x qual m : Str} {st : Stmt} {N ps : List Str} {k : Nat} {sp : Sp} {C : Addr} {dvs : List V}
theorem kbn_of {fd : FuncData} (b : Binds K fd ps []) : KBn K fd ps ps.length [] (fun us _ => us) (fun vs _ => vs) :=
  ⟨fun s us ws X l1 l2 => by
    have h := b s us X (by rw [List.append_nil]; exact l1)
    rw [List.append_nil] at h
    exact h, fun r _ => r⟩
theorem Dd.calG (F : Dd K mg x st ps) (S : FnScope N ps (defScope st)) (len : ∀ vs H Q E, sp vs H Q E → vs.length = ps.length) (hbody : ∀ f, BodyN P w K mg base g k N x st f sp) : CalG P w K mg base g (k + 1) x sp ps.length [] (fun vs _ => vs) := by
  obtain ⟨f, fd, F1, hm, b⟩ := F.ex
  exact ⟨f, fd, ps, _, fg_of F1 S len fun cdv A outer s H vs Q E hr hg h => let ⟨t, h1, h2⟩ := hbody f cdv A outer s H vs Q E hr hg h; ⟨t, h1.nox, h2⟩, hm, F1.kp, kbn_of b⟩
theorem Dd.calX (F : Dd K mg x st ps) (S : FnScope N ps (defScope st)) (len : ∀ vs H Q E, sp vs H Q E → vs.length = ps.length) (hbody : ∀ f, BodyX P w K mg base g k N x st f sp) : CalG P w K mg base g (k + 1) x sp ps.length [] (fun vs _ => vs) := by
  obtain ⟨f, fd, F1, hm, b⟩ := F.ex
  exact ⟨f, fd, ps, _, fg_of F1 S len (hbody f), hm, F1.kp, kbn_of b⟩
theorem Dd.lawG {fa : Addr} (F : Dd K mg x st ps) (S : FnScope N ps (defScope st)) (hfa : mg x = some (.ref fa)) (len : ∀ vs H Q E, sp vs H Q E → vs.length = ps.length) (hbody : ∀ base f, BodyN P w K mg base g k N x st f sp) :
    ∃ fd : FuncData, (∃ (kV doc pm : Value) (an : Option Addr) (cdv ct : Value), fd = PySem.W.fnOf x x (defArgs st) (defBody st) (defScope st) .none kV doc pm an cdv ct) ∧ ∀ base : Heap, Fg P w K mg base g (k + 1) fa fd ps sp := by
  obtain ⟨f, fd, F1, hm, b⟩ := F.ex
  have e := hfa.symm.trans hm
  cases e
  refine ⟨fd, ?_, fun base => fg_of F1 S len fun cdv A outer s H vs Q E hr hg h => let ⟨t, h1, h2⟩ := hbody base fa cdv A outer s H vs Q E hr hg h; ⟨t, h1.nox, h2⟩⟩
  obtain ⟨oc, od, kV, doc, pm, an, cdv, ct, osl, rfl, lk, hcd⟩ := F1.ex
  exact ⟨kV, doc, pm, an, cdv, ct, rfl⟩
theorem Dm.metX (F : Dm K C m qual st ps) (S : FnScope N ps (defScope st)) (len : ∀ vs H Q E, sp vs H Q E → vs.length = ps.length) (hbody : ∀ f, BodyX P w K mg base g k N qual st f sp) : MetG P w K mg base g (k + 1) C m sp ps := by
  obtain ⟨f, fd, c, M, hf, F1, b⟩ := F.ex
  exact ⟨f, fd, c, M, hf, fg_of F1 S len (hbody f), b⟩
theorem Dm.met (F : Dm K C m qual st ps) (S : FnScope N ps (defScope st)) (len : ∀ vs H Q E, sp vs H Q E → vs.length = ps.length) (hbody : ∀ f, BodyN P w K mg base g k N qual st f sp) : MetG P w K mg base g (k + 1) C m sp ps :=
  F.metX S len fun f cdv A outer s H vs Q E hr hg h => let ⟨t, h1, h2⟩ := hbody f cdv A outer s H vs Q E hr hg h; ⟨t, h1.nox, h2⟩
theorem Dk.ini (F : Dk K mg x C qual st dvs) (S : FnScope N ps (defScope st)) (len : ∀ vs H Q E, sp vs H Q E → vs.length = ps.length) (hbody : ∀ f, BodyX P w K mg base false k N qual st f sp) : Ini P w K mg base (k + 1) x C qual st dvs ps sp := by
  obtain ⟨f, fd, M, hm, F1⟩ := F.ex
  exact ⟨f, fd, M, hm, F1, Fg.of (F1.ok S len fun cdv A outer s H vs Q E hr h => hbody f cdv A outer s H vs Q E hr (fun e => nomatch e) h)⟩
theorem Ini.mak {n : Nat} {ks : List Str} {gV : List V → List V → List V} (F : Ini P w K mg base k x C qual st dvs ps sp) (b : ∀ f fd, FunD K "__init__" qual (defArgs st) (defBody st) (defScope st) dvs [] f fd → ∃ gg, KBn K fd ps (n + 1) ks gg gV) : MakG P w K mg base k x C sp n ks gV := by
  obtain ⟨f, fd, M, hm, F1, G⟩ := F.ex
  obtain ⟨gg, kb⟩ := b f fd F1
  exact ⟨f, fd, ps, gg, M, G, hm, kb⟩
end
end G
set_option Elab.async false
set_option linter.all false
set_option maxRecDepth 100000
namespace G
open PySem PySem.Spec PyProof.Rows L2
/-! ### sequences, kinds -/
/-- a list or a tuple -/
def Sq (K : PySem.W.Frag) (H : Hp) (v : V) (xs : List V) : Prop := ∃ p, v = .ref p ∧ (SqL K H p xs ∨ SqT K H p xs)
theorem Sq.l {K : PySem.W.Frag} {H : Hp} {p : Addr} {xs : List V} (h : SqL K H p xs) : Sq K H (.ref p) xs := ⟨p, rfl, .inl h⟩
theorem Sq.t {K : PySem.W.Frag} {H : Hp} {p : Addr} {xs : List V} (h : SqT K H p xs) : Sq K H (.ref p) xs := ⟨p, rfl, .inr h⟩
theorem Sq.mono {K : PySem.W.Frag} {H H' : Hp} {v : V} {xs : List V} (e : Ex H H') (h : Sq K H v xs) : Sq K H' v xs := by
  obtain ⟨p, rfl, h⟩ := h
  exact ⟨p, rfl, h.elim (fun h => .inl (sqL_mono e h)) fun h => .inr (sqT_mono e h)⟩
theorem tyL {K : PySem.W.Frag} {H : Hp} {p : Addr} {xs : List V} (h : SqL K H p xs) : TyX K H (.ref p) (.type "list") := by
  rcases h with (h | ⟨o, h⟩) | ⟨o, its, n, h1, h2, h3, h4⟩
  · exact .base (.lst h)
  · exact .base (.frz h)
  · exact .kList h1 h2
theorem tyT {K : PySem.W.Frag} {H : Hp} {p : Addr} {xs : List V} (h : SqT K H p xs) : TyX K H (.ref p) (.type "tuple") := by
  rcases h with (h | ⟨o, h⟩) | ⟨o, its, n, h1, h2, h3⟩
  · exact .base (.tup h)
  · exact .fTuple h
  · exact .kTuple h1 h2
theorem l_tupSq {K : PySem.W.Frag} {H : Hp} {v : V} {xs : List V} {Q : VK} (hs : Sq K H v xs) (q : ∀ p H', Ex H H' → SqT K H' p xs → Q (.ref p) H') : rTupA K [v] H Q := by
  obtain ⟨p, rfl, h | h⟩ := hs
  · exact ⟨xs, .inl ⟨h, fun l hl => q l _ (Ex.new hl) (.of upd_same)⟩⟩
  · exact ⟨xs, .inr ⟨h, q p H (Ex.refl H) h⟩⟩
theorem sqT_but {K : PySem.W.Frag} {H H' : Hp} {x p C dx : Addr} {fs : List (Str × V)} {xs : List V} (b : But x H H') (hx : H x = some (.ins C dx fs)) (h : SqT K H p xs) : SqT K H' p xs := by
  rcases h with (h | ⟨o, h⟩) | h
  · exact .inl (.inl (b _ _ (fun z => by rw [z, hx] at h; cases h) h))
  · exact .inl (.inr ⟨o, b _ _ (fun z => by rw [z, hx] at h; cases h) h⟩)
  · exact .inr h
theorem sqL_but {K : PySem.W.Frag} {H H' : Hp} {x p C dx : Addr} {fs : List (Str × V)} {xs : List V} (b : But x H H') (hx : H x = some (.ins C dx fs)) (h : SqL K H p xs) : SqL K H' p xs := by
  rcases h with (h | ⟨o, h⟩) | h
  · exact .inl (.inl (b _ _ (fun z => by rw [z, hx] at h; cases h) h))
  · exact .inl (.inr ⟨o, b _ _ (fun z => by rw [z, hx] at h; cases h) h⟩)
  · exact .inr h
theorem Sq.but {K : PySem.W.Frag} {H H' : Hp} {x C dx : Addr} {fs : List (Str × V)} {v : V} {xs : List V} (b : But x H H') (hx : H x = some (.ins C dx fs)) (h : Sq K H v xs) : Sq K H' v xs := by
  obtain ⟨p, rfl, h⟩ := h
  exact ⟨p, rfl, h.elim (fun h => .inl (sqL_but b hx h)) fun h => .inr (sqT_but b hx h)⟩
/-- an int, no bool -/
def isI : V → Bool
  | .int _ => true
  | _ => false
def isB : V → Bool
  | .bl _ => true
  | _ => false
/-- a value whose kind is known -/
def Kd (K : PySem.W.Frag) (H : Hp) (x : V) : Prop := flatV x = true ∨ ∃ p T, x = .ref p ∧ TyX K H x (.type T) ∧ (T = "list" ∨ T = "tuple" ∨ T = "dict")
theorem Kd.l {K : PySem.W.Frag} {H : Hp} {p : Addr} {xs : List V} (h : SqL K H p xs) : Kd K H (.ref p) := .inr ⟨p, _, rfl, tyL h, .inl rfl⟩
theorem Kd.t {K : PySem.W.Frag} {H : Hp} {p : Addr} {xs : List V} (h : SqT K H p xs) : Kd K H (.ref p) := .inr ⟨p, _, rfl, tyT h, .inr (.inl rfl)⟩
theorem Kd.d {K : PySem.W.Frag} {H : Hp} {p : Addr} {kvs : List (Key × V)} (h : H p = some (.dK kvs)) : Kd K H (.ref p) := .inr ⟨p, _, rfl, .base (.dK h), .inr (.inr rfl)⟩
/-- its type, and what isinstance says of it with int, with bool -/
theorem Kd.is {K : PySem.W.Frag} {H : Hp} {x : V} (h : Kd K H x) : ∃ t, TyX K H x t ∧ (∃ b, PySem.W.kitOne K t (.type "int") = some b ∧ isI x = (b && !isB x)) ∧ PySem.W.kitOne K t (.type "bool") = some (isB x) ∧ (isI x = true → PySem.W.kitOne K t (.type "int") = some true) := by
  rcases h with h | ⟨p, T, rfl, ty, rfl | rfl | rfl⟩
  · cases x with
    | non => exact ⟨_, .base .non, ⟨false, kt_NoneType_int, rfl⟩, kt_NoneType_bool, fun e => nomatch e⟩
    | bl b => exact ⟨_, .base (.bl b), ⟨true, kt_bool_int, rfl⟩, kt_bool_bool, fun e => nomatch e⟩
    | int i => exact ⟨_, .base (.int i), ⟨true, kt_int_int, rfl⟩, kt_int_bool, fun _ => kt_int_int⟩
    | str z => exact ⟨_, .base (.str z), ⟨false, kt_str_int, rfl⟩, kt_str_bool, fun e => nomatch e⟩
    | byt b => cases h
    | flt b => cases h
    | ref b => cases h
    | ty b => cases h
  · exact ⟨_, ty, ⟨false, kt_list_int, rfl⟩, kt_list_bool, fun e => nomatch e⟩
  · exact ⟨_, ty, ⟨false, kt_tuple_int, rfl⟩, kt_tuple_bool, fun e => nomatch e⟩
  · exact ⟨_, ty, ⟨false, kt_dict_int, rfl⟩, kt_dict_bool, fun e => nomatch e⟩
theorem Kd.mono {K : PySem.W.Frag} {H H' : Hp} {x : V} (e : Ex H H') (h : Kd K H x) : Kd K H' x := by
  rcases h with h | ⟨p, T, rfl, ty, hT⟩
  · exact .inl h
  · refine .inr ⟨p, T, rfl, ?_, hT⟩
    generalize hx : V.ref p = x at ty
    generalize ht : Value.type T = t at ty
    cases ty with
    | base b =>
      cases b with
      | lst h => exact .base (.lst (e _ _ h))
      | frz h => exact .base (.frz (e _ _ h))
      | tup h => exact .base (.tup (e _ _ h))
      | dK h => exact .base (.dK (e _ _ h))
      | dT h => exact .base (.dT (e _ _ h))
      | non => cases hx
      | bl _ => cases hx
      | int _ => cases hx
      | str _ => cases hx
      | flt _ => cases hx
      | ins => cases ht
    | byt _ => cases hx
    | set h => exact .set (e _ _ h)
    | kList h c => exact .kList h c
    | kTuple h c => exact .kTuple h c
    | kDict h c => exact .kDict h c
    | fTuple h => exact .fTuple (e _ _ h)
    | fDict h => exact .fDict (e _ _ h)
/-! ### [f(x) for x in xs] -/
section
variable {K : PySem.W.Frag} {xs : List V} {f : V → V} {i : Nat} {vs : List Nat} {σ : L2.St} {H : Hp} {te : TE} {Q : VK} {v : V}
theorem lc_turn {DD : Addr} (hD : H DD = none) (hlen : xs.length ≤ 1000) (hw : ∀ x, wipe ((wipe σ vs).set i (some x)) vs = wipe σ vs)
    (hte : ∀ x ∈ xs, ∀ H' R, Ex H H' → (∀ H'', Ex H' H'' → R (f x) H'') → te ((wipe σ vs).set i (some x)) H' R) (j : Nat) (x : V) (H' : Hp) (hj : xs[j]? = some x) (hp : Ex H H' ∧ H' DD = some (.lst ((xs.take j).map f))) :
    gName i x (wipe σ vs) H' fun σ2 H2 => wipe σ2 vs = wipe σ vs ∧ tYes σ2 H2 fun b H3 =>
      if b = true then te σ2 H3 fun y H4 => ∃ acc, H4 DD = some (.lst acc) ∧ acc.length < sizeLine ∧ Ex H (upd H4 DD (.lst (acc ++ [y]))) ∧ upd H4 DD (.lst (acc ++ [y])) DD = some (.lst ((xs.take (j + 1)).map f)) else Ex H H3 ∧ H3 DD = some (.lst ((xs.take (j + 1)).map f)) := by
  refine ⟨hw x, i_yes ?_⟩
  rw [if_pos rfl]
  refine hte x (List.mem_of_getElem? hj) H' _ hp.1 fun H'' e => ⟨_, e _ _ hp.2, ?_, (hp.1.trans e).mut hD, ?_⟩
  · rw [List.length_map, List.length_take]
    exact szl (by omega)
  · rw [upd_same, take_succ hj, List.map_append]
    rfl
theorem lc_mapL {a : Addr} (hs : SqL K H a xs) (hlen : xs.length ≤ 1000) (hw : ∀ x, wipe ((wipe σ vs).set i (some x)) vs = wipe σ vs)
    (hte : ∀ x ∈ xs, ∀ H' R, Ex H H' → (∀ H'', Ex H' H'' → R (f x) H'') → te ((wipe σ vs).set i (some x)) H' R) (hQ : ∀ D H', H D = none → Ex H H' → H' D = some (.lst (xs.map f)) → Q (.ref D) H') : lcB (Itl K a) (gName i) tYes te vs σ Q H := by
  intro DD hD
  refine lc_list (xs := xs) (fun j H' => Ex H H' ∧ H' DD = some (.lst ((xs.take j).map f))) ⟨Ex.new hD, upd_same⟩ (fun _ H' _ p => sqL_mono p.1 hs) (fun j x H' hj hp => lc_turn hD hlen hw hte j x H' hj hp) (fun H' p => hQ DD H' hD p.1 (by rw [p.2, List.take_length]))
theorem lc_mapT {a : Addr} (hs : SqT K H a xs) (hlen : xs.length ≤ 1000) (hw : ∀ x, wipe ((wipe σ vs).set i (some x)) vs = wipe σ vs)
    (hte : ∀ x ∈ xs, ∀ H' R, Ex H H' → (∀ H'', Ex H' H'' → R (f x) H'') → te ((wipe σ vs).set i (some x)) H' R) (hQ : ∀ D H', H D = none → Ex H H' → H' D = some (.lst (xs.map f)) → Q (.ref D) H') : lcB (Itt K a) (gName i) tYes te vs σ Q H := by
  intro DD hD
  refine lc_tup (xs := xs) (fun j H' => Ex H H' ∧ H' DD = some (.lst ((xs.take j).map f))) ⟨Ex.new hD, upd_same⟩ (fun _ H' _ p => sqT_mono p.1 hs) (fun j x H' hj hp => lc_turn hD hlen hw hte j x H' hj hp) (fun H' p => hQ DD H' hD p.1 (by rw [p.2, List.take_length]))
/-- .. over a variable that holds a list or a tuple -/
theorem lc_var {k : Nat} (hv : σ[k]? = some (some v)) (hs : Sq K H v xs) (hlen : xs.length ≤ 1000) (hw : ∀ x, wipe ((wipe σ vs).set i (some x)) vs = wipe σ vs)
    (hte : ∀ x ∈ xs, ∀ H' R, Ex H H' → (∀ H'', Ex H' H'' → R (f x) H'') → te ((wipe σ vs).set i (some x)) H' R) (hQ : ∀ D H', H D = none → Ex H H' → H' D = some (.lst (xs.map f)) → Q (.ref D) H') : iAny K (tVar k) σ H fun J H1 => lcB J (gName i) tYes te vs σ Q H1 := by
  obtain ⟨p, rfl, h | h⟩ := hs
  · exact i_anyL ⟨_, hv, p, rfl, ⟨_, h⟩, lc_mapL h hlen hw hte hQ⟩
  · exact i_anyT ⟨_, hv, p, rfl, ⟨_, h⟩, lc_mapT h hlen hw hte hQ⟩
end
/-! ### the law's own draws, the list of the script's numbers at L -/
structure Dl (H : Hp) (st L : Addr) (b : Nat) : Prop where
  ex : ∃ (ns : List Int) (a c : Int), H st = some (.lst [.ref L, .int a, .int c]) ∧ H L = some (.lst (ns.map V.int)) ∧ st ≠ L ∧ 0 ≤ c ∧ c ≤ (b : Int)
theorem Dl.up {H : Hp} {st L : Addr} {b b' : Nat} (d : Dl H st L b) (h : b ≤ b') : Dl H st L b' := by
  obtain ⟨ns, a, c, h1, h2, h3, h4, h5⟩ := d.ex
  exact ⟨ns, a, c, h1, h2, h3, h4, by omega⟩
theorem Dl.mono {H H' : Hp} {st L : Addr} {b : Nat} (d : Dl H st L b) (e : Ex H H') : Dl H' st L b := by
  obtain ⟨ns, a, c, h1, h2, h3, h4, h5⟩ := d.ex
  exact ⟨ns, a, c, e _ _ h1, e _ _ h2, h3, h4, h5⟩
/-- what is written apart from them leaves them -/
theorem Dl.put {H : Hp} {st L p : Addr} {b : Nat} {o : HO} (d : Dl H st L b) (h1 : p ≠ st) (h2 : p ≠ L) : Dl (upd H p o) st L b := by
  obtain ⟨ns, a, c, g1, g2, g3, g4, g5⟩ := d.ex
  exact ⟨ns, a, c, by rw [upd_ne h1.symm]; exact g1, by rw [upd_ne h2.symm]; exact g2, g3, g4, g5⟩
theorem Dl.ne {H : Hp} {st L p : Addr} {b : Nat} (d : Dl H st L b) (h : H p = none) : p ≠ st ∧ p ≠ L := by
  obtain ⟨ns, a, c, h1, h2, _⟩ := d.ex
  exact ⟨(ne_of_none h1 h).symm, (ne_of_none h2 h).symm⟩
def spOpenL (K : PySem.W.Frag) : Sp := fun vs H Q _ => ∃ (a : Addr) (ns : List Int), vs = [.ref a] ∧ SqL K H a (ns.map V.int) ∧ ns.length ≤ 63 ∧ ∀ (st L : Addr) (H' : Hp), H st = none → H L = none → Dl H' st L 0 → Ex H H' → Q (.ref st) H'
def spDrawL : Sp := fun vs H Q _ => ∃ (st L : Addr) (n : Int) (b : Nat), vs = [.ref st, .int n] ∧ 0 < n ∧ n ≤ 10 ^ 18 ∧ Dl H st L b ∧ b < 2 ^ 60 ∧
  ∀ (r : Int) (H' : Hp), 0 ≤ r → r < n → Dl H' st L (b + 1) → But st H H' → Q (.int r) H'
theorem drawL {st L : Addr} {n : Int} {b : Nat} {H : Hp} {Q : VK} {E : XK} (hd : Dl H st L b) (hn : 0 < n) (hn2 : n ≤ 10 ^ 18) (hb : b < 2 ^ 60) (q : ∀ r H', 0 ≤ r → r < n → Dl H' st L (b + 1) → But st H H' → Q (.int r) H') : spDrawL ([.ref st, .int n] ++ []) H Q E :=
  ⟨st, L, n, b, rfl, hn, hn2, hd, hb, q⟩
theorem But.put {st p : Addr} {H H' : Hp} {o : HO} (e : But st H H') (h : H p = none) : But st H (upd H' p o) := fun a u n ha => by
  rw [upd_ne (ne_of_none ha h)]
  exact e a u n ha
theorem But.free {st p : Addr} {H H' : Hp} (e : But st H H') (hp : p ≠ st) (h : H' p = none) : H p = none := by
  cases q : H p with
  | none => rfl
  | some o =>
    rw [e _ _ hp q] at h
    cases h
theorem Dl.ins_ne {st L p C dx : Addr} {H : Hp} {b : Nat} {fs : List (Str × V)} (d : Dl H st L b) (h : H p = some (.ins C dx fs)) : p ≠ st := by
  obtain ⟨ns, a, c, h1, _⟩ := d.ex
  intro z
  rw [z, h1] at h
  cases h
theorem sqT_dl {K : PySem.W.Frag} {H H' : Hp} {st L p : Addr} {b : Nat} {xs : List V} (d : Dl H st L b) (e : But st H H') (h : SqT K H p xs) : SqT K H' p xs := by
  obtain ⟨ns, a, c, h1, _⟩ := d.ex
  rcases h with (h | ⟨o, h⟩) | h
  · exact .inl (.inl (e _ _ (fun z => by rw [z, h1] at h; cases h) h))
  · exact .inl (.inr ⟨o, e _ _ (fun z => by rw [z, h1] at h; cases h) h⟩)
  · exact .inr h
/-! ### steps for what is new -/
section
variable {K : PySem.W.Frag} {σ : L2.St} {H : Hp} {Q : VK} {t tz : TA} {ta tb te to : TE} {D : Ends}
theorem i_mkS {C : Addr} {n m : Nat} {sp : Sp} {gV : List V → List V → List V} {E : L2.St → XK} (q : t σ H fun vs H1 => tz σ H1 fun zs H2 => vs.length = n ∧ zs.length = m ∧ ∀ x dx, H2 x = none → H2 dx = none → dx ≠ x →
  sp (gV (.ref x :: vs) zs) (upd (upd H2 dx (.own x)) x (.ins C dx [])) (fun v H3 => v = .non ∧ Q (.ref x) H3) (E σ)) : tMkS C n m sp gV E t tz σ H Q := q
theorem i_cS {n m : Nat} {sp : Sp} {gV : List V → List V → List V} {E : L2.St → XK} (q : t σ H fun vs H1 => tz σ H1 fun zs H2 => vs.length = n ∧ zs.length = m ∧ sp (gV vs zs) H2 Q (E σ)) : tCS n m sp gV E t tz σ H Q := q
theorem i_fld {f : Str} (q : ta σ H fun x H1 => ∃ a C dx fs v, x = .ref a ∧ H1 a = some (.ins C dx fs) ∧ Cls K C ∧ NoAttr K C f ∧ fs.lookup f = some v ∧ Q v H1) : tFld K ta f σ H Q := q
theorem i_sFld {f : Str} (q : tb σ H fun y H1 => ta σ H1 fun x H2 => ∃ a C dx fs, x = .ref a ∧ H2 a = some (.ins C dx fs) ∧ Cls K C ∧ NoAttr K C f ∧ fs.length < 1000 ∧ D.nx σ (upd H2 a (.ins C dx (putF f y fs)))) : sFld K ta tb f D σ H := q
theorem i_tX {C : Addr} {f : Str} {QX : XK} (q : t σ H fun vs H1 => ∃ v, vs = [v] ∧ ∀ d, H1 d = none → QX (.ref C) (some d) (upd H1 d (.xd [(f, v)]))) : tX C f t σ H QX := q
theorem l_len2 {vs zs : List V} {n m : Nat} {R : Prop} (h1 : vs.length = n) (h2 : zs.length = m) (q : R) : vs.length = n ∧ zs.length = m ∧ R := ⟨h1, h2, q⟩
end
end G
set_option Elab.async false
set_option linter.all false
set_option maxRecDepth 100000
namespace G
open PySem PySem.Spec PyProof.Rows L2
theorem l_addL {K : PySem.W.Frag} {H : Hp} {a b : Addr} {xs ys : List V} {Q : VK} (h1 : H a = some (.lst xs)) (h2 : H b = some (.lst ys)) (hl : xs.length + ys.length ≤ 100000) (q : ∀ p, H p = none → Q (.ref p) (upd H p (.lst (xs ++ ys)))) : rAdd K (.ref a) (.ref b) H Q :=
  .inl ⟨a, b, xs, ys, rfl, rfl, h1, h2, sz hl, q⟩
theorem cut_map {α : Type} (f : α → V) (ns : List α) (lo hi : Option Int) : ∃ A : List α, cutV (ns.map f) lo hi = A.map f ∧ (∀ n ∈ A, n ∈ ns) ∧ A.length ≤ ns.length := by
  refine ⟨_, cutV_map f ns lo hi, fun n hn => List.mem_of_mem_drop (List.mem_of_mem_take hn), ?_⟩
  rw [List.length_take, List.length_drop]
  omega
theorem cut_lo (xs : List V) (k : Nat) (h : k ≤ xs.length) : cutV xs none (some (k : Int)) = xs.take k := by
  unfold cutV
  rw [HT.sIx_none, HT.sIx_nat, Nat.min_eq_left h, List.drop_zero, Nat.sub_zero]
theorem cut_hi (xs : List V) (k : Nat) (h : k ≤ xs.length) : cutV xs (some (k : Int)) none = xs.drop k := by
  unfold cutV
  rw [HT.sIx_none, HT.sIx_nat, Nat.min_eq_left h, List.take_of_length_le]
  rw [List.length_drop]
  exact Nat.le_refl _
/-! ### a dict of the written part, its keys texts -/
/-- at d: a written dict; m z: what stands at the key z -/
structure Wd (K : PySem.W.Frag) (w : World) (d : Addr) (m : Str → Option V) : Prop where
  ex : ∃ (es : Array DictEntry) (n : Nat), K.lookup d = some ⟨.type "dict", none, .dict es n, #[]⟩ ∧ PySem.W.KeysLit w.params es.toList ∧ (d == sysModules) = false ∧ ∀ z, RelO (m z) (findBy Value.isStrOf es z)
theorem wd_find : ∀ {es : List DictEntry} {kvs : List (Str × V)}, Paired (fun (e : DictEntry) (kv : Str × V) => (∃ t, e.key = .str kv.1 t) ∧ RelV kv.2 e.val) es kvs → ∀ z, RelO (kvs.lookup z) ((es.find? fun e => Value.isStrOf z e.key).map (·.val))
  | _, _, .nil, z => True.intro
  | e :: es, kv :: kvs, .cons ⟨⟨t, h1⟩, h2⟩ r, z => by
    obtain ⟨k, v⟩ := kv
    rw [lookup_put, List.find?_cons, h1]
    by_cases hz : z = k
    · subst hz
      rw [if_pos rfl, show Value.isStrOf z (.str z t) = true from beq_self_eq_true z]
      exact h2
    · rw [if_neg hz, show Value.isStrOf z (.str k t) = false from ?_]
      · exact wd_find r z
      · exact beq_eq_false_iff_ne.mpr fun e => hz e.symm
theorem wd_mk {K : PySem.W.Frag} {w : World} {d : Addr} {kvs : List (Str × V)} {es : List DictEntry} {n : Nat} (hl : K.lookup d = some ⟨.type "dict", none, .dict es.toArray n, #[]⟩) (hk : PySem.W.KeysLit w.params es) (hs : (d == sysModules) = false)
    (hp : Paired (fun (e : DictEntry) (kv : Str × V) => (∃ t, e.key = .str kv.1 t) ∧ RelV kv.2 e.val) es kvs) : Wd K w d (fun z => kvs.lookup z) :=
  ⟨es.toArray, n, hl, hk, hs, fun z => by unfold findBy; rw [List.find?_toArray]; exact wd_find hp z⟩
section
variable {X : Cx} {d : Addr} {m : Str → Option V}
theorem wd_in (D : Wd X.K X.w d m) : OpR X (compareOp .In) (fun x y H Q => ∃ z : Str, x = .str z ∧ y = .ref d ∧ Q (.bl (m z).isSome) H) := by
  intro pins s σ H x y v u Q I rx ry h
  obtain ⟨es, n, h1, h2, h3, h4⟩ := D.ex
  obtain ⟨z, rfl, rfl, q⟩ := h
  obtain ⟨t, rfl⟩ := rx
  cases ry
  refine wpAny_in_of (PySem.strKind_is X.prog X.w z t) h3 (PySem.W.mapOf_K (prog := X.prog) I.kIn h1 h2) ?_
  rw [← (h4 z).isSome_eq]
  exact ⟨.bl _, H, I.tok _, rfl, q⟩
theorem wd_notIn (D : Wd X.K X.w d m) : OpR X (compareOp .NotIn) (fun x y H Q => ∃ z : Str, x = .str z ∧ y = .ref d ∧ Q (.bl (!(m z).isSome)) H) := by
  intro pins s σ H x y v u Q I rx ry h
  obtain ⟨es, n, h1, h2, h3, h4⟩ := D.ex
  obtain ⟨z, rfl, rfl, q⟩ := h
  obtain ⟨t, rfl⟩ := rx
  cases ry
  refine wpAny_notIn_of (PySem.strKind_is X.prog X.w z t) h3 (PySem.W.mapOf_K (prog := X.prog) I.kIn h1 h2) ?_
  rw [← (h4 z).isSome_eq]
  exact ⟨.bl _, H, I.tok _, rfl, q⟩
theorem wd_ix (D : Wd X.K X.w d m) : IxR X (fun x y H Q => ∃ z v, x = .ref d ∧ y = .str z ∧ m z = some v ∧ Q v H) := by
  intro value slice pins s σ H x y v u Q I rx ry h hs
  obtain ⟨es, n, h1, h2, h3, h4⟩ := D.ex
  obtain ⟨z, r, rfl, rfl, e, q⟩ := h
  obtain rfl : v = Value.ref d := rx
  obtain ⟨t, rfl⟩ := ry
  have hm := PySem.W.mapOf_K (prog := X.prog) (w := X.w) I.kIn h1 h2
  have h5 := h4 z
  rw [e] at h5
  obtain ⟨u0, hu, ru⟩ := RelO.some_of h5
  exact tail_any hm.typeIs slot_dict_getitem.lookup (wpAny_getItem_of (strKind_is X.prog X.w z t) hm hu ⟨r, H, I.tok _, ru, q⟩) hs
/-- d.get(y, x) -/
def tWget (d : Addr) (m : Str → Option V) (td ty tx : TE) : TE := fun σ H Q => td σ H fun x H1 => x = .ref d ∧ ty σ H1 fun y H2 => tx σ H2 fun z H3 => ∃ k : Str, y = .str k ∧ Q ((m k).getD z) H3
theorem pe_wget {o e f : Expr} {td ty tx : TE} {apos cpos : Pos} (D : Wd X.K X.w d m) (ho : PE X o td) (he : PE X e ty) (hf : PE X f tx) (mm : M2 X o "get" apos e f cpos) : PE X (.Call (.Attribute o "get" apos) [e, f] [] cpos) (tWget d m td ty tx) := by
  obtain ⟨es, n, h1, h2, h3, h4⟩ := D.ex
  refine ⟨fun pins s σ H Q I h => ?_⟩
  refine wpAny_Call_method mm.base mm.few mm.line PySem.F.plainAttrs_dict PySem.F.slot_dict_get PySem.F.type_dict_get (thn (ho.run pins s σ H _ I h) fun u s1 ⟨x, H1, I1, rx, ex, q1⟩ => ?_)
  subst ex
  obtain rfl : u = Value.ref d := rx
  refine ⟨(PySem.W.mapOf_K (prog := X.prog) (w := X.w) I1.kIn h1 h2).typeIs, fun b q => ?_, ?_⟩
  · cases q
    exact ⟨_, I1.kIn _ _ h1, rfl⟩
  rw [mm.trees]
  refine Calls.callWith_builtin rfl (Calls.evalArgs_plain (Calls.spliced_cons (thn (he.run pins s1 σ H1 _ I1 q1) fun iv s2 ⟨y, H2, I2, ry, q2⟩ =>
    Calls.spliced_cons (thn (hf.run pins s2 σ H2 _ I2 q2) fun fv s3 ⟨z, H3, I3, rz, k, ek, q3⟩ => Calls.spliced_nil ?_))))
  subst ek
  obtain ⟨t, rfl⟩ := ry
  have hm := PySem.W.mapOf_K (prog := X.prog) (w := X.w) I3.kIn h1 h2
  exact call_meetsIn PySem.F.slot_dict_get hm.typeIs PySem.F.entry_dict_get (PySem.F.args_dict_get_3 _ _ _) (meets_dict_get_default (strKind X.prog X.w) d (strKind_is X.prog X.w k t) h3 fv) ⟨_, hm, ⟨_, H3, I3.tok _, (h4 k).getD rz, q3⟩⟩
end
/-! ### a text so many times -/
def rMulS : R2 := fun x y H Q => ∃ z n, x = .str z ∧ y = .int n ∧ MulOk z n ∧ Q (.str (Txt.mul z n)) H
theorem gMulS {X : Cx} : OpR X (binaryOp .Mult) rMulS := by
  intro pins s σ H x y v u Q I rx ry h
  obtain ⟨z, n, rfl, rfl, hok, q⟩ := h
  obtain ⟨t, rfl⟩ := rx
  obtain ⟨t', rfl⟩ := ry
  exact SB.mul hok fun t' k => ⟨.str (Txt.mul z n), H, I.tok _, ⟨_, rfl⟩, q⟩
end G
namespace K
open PySem PySem.Spec PyProof.Rows L2 G TL
local macro_rules | `(tactic| walk_at "side") => `(tactic| focus (first | assumption | exact rfl | omega | decide))
local macro_rules | `(tactic| walk_at "ty") => `(tactic| focus (first | exact .base (.str _) | exact .base (.int _) | exact .base (.bl _) | exact .base .non | exact .base (.lst (by assumption)) | exact .base (.tup (by assumption)) | exact .base (.dK (by assumption)) | assumption))
local macro_rules | `(tactic| walk_at "kt") => `(tactic| focus (with_reducible first | exact kt_NoneType_str | exact kt_NoneType_int | exact kt_NoneType_bool | exact kt_NoneType_tuple | exact kt_NoneType_list | exact kt_NoneType_dict | exact kt_bool_str | exact kt_bool_int | exact kt_bool_bool | exact kt_bool_tuple | exact kt_bool_list | exact kt_bool_dict | exact kt_int_str | exact kt_int_int | exact kt_int_bool | exact kt_int_tuple | exact kt_int_list | exact kt_int_dict | exact kt_str_str | exact kt_str_int | exact kt_str_bool | exact kt_str_tuple | exact kt_str_list | exact kt_str_dict | exact kt_list_str | exact kt_list_int | exact kt_list_bool | exact kt_list_tuple | exact kt_list_list | exact kt_list_dict | exact kt_tuple_str | exact kt_tuple_int | exact kt_tuple_bool | exact kt_tuple_tuple | exact kt_tuple_list | exact kt_tuple_dict | exact kt_dict_str | exact kt_dict_int | exact kt_dict_bool | exact kt_dict_tuple | exact kt_dict_list | exact kt_dict_dict | assumption))
local macro_rules | `(tactic| walk_at "1") => `(tactic| first
  | (with_reducible refine i_seq ?_)
  | (with_reducible refine iteT ?_)
  | (with_reducible refine iteF ?_)
  | (with_reducible refine iteNF ?_)
  | (with_reducible refine iteNT ?_)
  | (with_reducible refine i_asg ?_)
  | (with_reducible refine i_op ?_)
  | (with_reducible refine i_c ?_)
  | ((with_reducible apply i_var); (exact rfl))
  | (with_reducible refine i_cb ?_)
  | (with_reducible refine i_cons ?_)
  | (with_reducible refine i_nil ?_)
  | (with_reducible refine i_test ?_)
  | (with_reducible refine i_b ?_)
  | (with_reducible refine i_bl ?_)
  | (with_reducible refine i_name ?_)
  | (with_reducible refine i_ifS ?_)
  | (with_reducible refine i_next ?_)
  | (with_reducible refine i_ret ?_)
  | (with_reducible refine i_drop ?_)
  | (with_reducible refine i_lst ?_)
  | (with_reducible refine i_tup ?_)
  | (with_reducible refine i_and ?_)
  | (with_reducible refine i_or ?_)
  | (with_reducible refine i_not ?_)
  | (with_reducible refine i_andV ?_)
  | (with_reducible refine i_orV ?_)
  | (with_reducible refine i_notV ?_)
  | (with_reducible refine i_if ?_)
  | (with_reducible refine i_chain ?_)
  | (with_reducible refine i_un ?_)
  | (with_reducible refine i_neg ?_)
  | (with_reducible refine i_sub ?_)
  | (with_reducible refine i_sl ?_)
  | (with_reducible refine i_noP ?_)
  | (with_reducible refine i_part ?_)
  | (with_reducible refine i_int ?_)
  | (with_reducible refine i_bm ?_)
  | (with_reducible refine i_strT ?_)
  | (with_reducible refine i_yes ?_)
  | (with_reducible refine i_call ?_)
  | ((with_reducible refine i_len ?_ ?_); (focus (exact sz (by simp))))
  | (with_reducible refine i_lc ?_)
  | (with_reducible refine i_for ?_)
  | (with_reducible refine i_rng1 ?_)
  | (with_reducible refine i_rng2 ?_)
  | (with_reducible refine l_addI ?_)
  | (with_reducible refine l_subI ?_)
  | (with_reducible refine l_cmp ?_)
  | (with_reducible refine l_eqI ?_)
  | (with_reducible refine l_eqS ?_)
  | (with_reducible refine l_eqB ?_)
  | (with_reducible refine l_neI ?_)
  | (with_reducible refine l_neS ?_)
  | (with_reducible refine l_neB ?_)
  | (with_reducible refine l_isN ?_)
  | (with_reducible refine l_isNotN ?_)
  | (with_reducible refine l_isB ?_)
  | (with_reducible refine l_isNotB ?_)
  | (with_reducible refine l_intI ?_)
  | (with_reducible refine l_intB ?_)
  | (with_reducible refine l_inC ?_)
  | (refine ⟨_, _, rfl, rfl, sz (by first | omega | simp; omega), ?_⟩)
  | ((with_reducible refine l_pow ?_ ?_); (focus (exact ⟨by decide, by decide, by decide⟩)))
  | ((with_reducible refine l_mul ?_ ?_); (focus (first | assumption | exact Or.inl (Or.inl ⟨by omega, by omega⟩) | exact Or.inl (Or.inr ⟨by omega, by omega⟩))))
  | ((with_reducible refine l_div ?_ ?_); (focus (first | assumption | exact ⟨by decide, by decide⟩)))
  | ((with_reducible apply l_setL); (assumption); (exact rfl))
  | ((with_reducible refine l_mod ?_ ?_); (walk_at "side"))
  | ((with_reducible apply l_ixL); (assumption); (exact rfl))
  | ((with_reducible refine l_lenS ?_ ?_); (focus (first | assumption | exact sz (by omega) | exact sz (by simp; omega))))
  | ((with_reducible refine l_slS ?_ ?_); (focus (first | assumption | exact sz (by omega))))
  | ((with_reducible apply l_isi); (walk_at "ty"); (walk_at "kt"))
  | ((with_reducible apply l_lenL); (assumption)))
local macro_rules | `(tactic| walk_at "go") => `(tactic| repeat (walk_at "1"))
local macro_rules | `(tactic| walk_at "1") => `(tactic| first
  | (with_reducible refine i_mkS ?_)
  | (with_reducible refine i_cS ?_)
  | (with_reducible refine i_fld ?_)
  | (with_reducible refine i_sFld ?_)
  | (with_reducible refine i_tX ?_)
  | (with_reducible refine l_len2 rfl rfl ?_))
section
variable {P : Program} {w : World} {K : PySem.W.Frag} {mg : Str → Option Value} {base : Heap}
def topS (i : Nat) : Stmt := PySem.Challenge.pw_roundrules_k75_notes_of_plays.main.body.getD i (.Pass ⟨0, 0, 0, 0⟩)
abbrev s_BadPlay___init__ : Stmt := inClass (topS 2) 0
theorem sc_BadPlay___init__ : FnScope ["self", "value"] ["self", "value"] (defScope s_BadPlay___init__) := ⟨rfl, rfl, rfl, by decide +kernel, rfl, by decide +kernel, by decide +kernel⟩
abbrev s_BadNote___init__ : Stmt := inClass (topS 3) 0
theorem sc_BadNote___init__ : FnScope ["self", "value"] ["self", "value"] (defScope s_BadNote___init__) := ⟨rfl, rfl, rfl, by decide +kernel, rfl, by decide +kernel, by decide +kernel⟩
abbrev s_is_integer : Stmt := topS 7
theorem sc_is_integer : FnScope ["value"] ["value"] (defScope s_is_integer) := ⟨rfl, rfl, rfl, by decide +kernel, rfl, by decide +kernel, by decide +kernel⟩
abbrev s_number_of : Stmt := topS 8
theorem sc_number_of : FnScope ["word", "digits"] ["word"] (defScope s_number_of) := ⟨rfl, rfl, rfl, by decide +kernel, rfl, by decide +kernel, by decide +kernel⟩
abbrev s_Play___init__ : Stmt := inClass (topS 10) 0
theorem sc_Play___init__ : FnScope ["self", "numbers", "outcomes", "number", "one"] ["self", "numbers", "outcomes"] (defScope s_Play___init__) := ⟨rfl, rfl, rfl, by decide +kernel, rfl, by decide +kernel, by decide +kernel⟩
abbrev s_Play___add__ : Stmt := inClass (topS 10) 1
theorem sc_Play___add__ : FnScope ["self", "other"] ["self", "other"] (defScope s_Play___add__) := ⟨rfl, rfl, rfl, by decide +kernel, rfl, by decide +kernel, by decide +kernel⟩
abbrev s_Play___eq__ : Stmt := inClass (topS 10) 2
theorem sc_Play___eq__ : FnScope ["self", "other"] ["self", "other"] (defScope s_Play___eq__) := ⟨rfl, rfl, rfl, by decide +kernel, rfl, by decide +kernel, by decide +kernel⟩
abbrev s_note_words : Stmt := topS 14
theorem sc_note_words : FnScope ["value"] ["value"] (defScope s_note_words) := ⟨rfl, rfl, rfl, by decide +kernel, rfl, by decide +kernel, by decide +kernel⟩
abbrev s_note_number : Stmt := topS 15
theorem sc_note_number : FnScope ["word"] ["word"] (defScope s_note_number) := ⟨rfl, rfl, rfl, by decide +kernel, rfl, by decide +kernel, by decide +kernel⟩
abbrev s_outcome_word : Stmt := topS 16
theorem sc_outcome_word : FnScope ["outcome"] ["outcome"] (defScope s_outcome_word) := ⟨rfl, rfl, rfl, by decide +kernel, rfl, by decide +kernel, by decide +kernel⟩
abbrev s_write_play : Stmt := topS 17
theorem sc_write_play : FnScope ["play", "words", "number", "outcome"] ["play"] (defScope s_write_play) := ⟨rfl, rfl, rfl, by decide +kernel, rfl, by decide +kernel, by decide +kernel⟩
abbrev s_read_play : Stmt := topS 18
theorem sc_read_play : FnScope ["line", "words", "at", "numbers", "word", "outcomes"] ["line"] (defScope s_read_play) := ⟨rfl, rfl, rfl, by decide +kernel, rfl, by decide +kernel, by decide +kernel⟩
abbrev s__law_open : Stmt := topS 20
theorem sc__law_open : FnScope ["_law_script", "_law_one"] ["_law_script"] (defScope s__law_open) := ⟨rfl, rfl, rfl, by decide +kernel, rfl, by decide +kernel, by decide +kernel⟩
abbrev s__law_draw : Stmt := topS 21
theorem sc__law_draw : FnScope ["_law_state", "_law_many", "_law_drawn", "_law_first", "_law_value"] ["_law_state", "_law_many"] (defScope s__law_draw) := ⟨rfl, rfl, rfl, by decide +kernel, rfl, by decide +kernel, by decide +kernel⟩
abbrev s__law_number : Stmt := topS 22
theorem sc__law_number : FnScope ["_law_state", "_law_number_here", "_law_turn"] ["_law_state"] (defScope s__law_number) := ⟨rfl, rfl, rfl, by decide +kernel, rfl, by decide +kernel, by decide +kernel⟩
abbrev s__law_refused : Stmt := topS 23
theorem sc__law_refused : FnScope ["_law_value", "_law_play", "e"] ["_law_value"] (defScope s__law_refused) := ⟨rfl, rfl, rfl, by decide +kernel, rfl, by decide +kernel, by decide +kernel⟩
abbrev s__law_spoilt : Stmt := topS 24
theorem sc__law_spoilt : FnScope ["_law_state", "_law_numbers", "_law_outcomes", "_law_kind", "_law_at", "_law_odd"] ["_law_state", "_law_numbers", "_law_outcomes"] (defScope s__law_spoilt) := ⟨rfl, rfl, rfl, by decide +kernel, rfl, by decide +kernel, by decide +kernel⟩
abbrev s_law : Stmt := topS 25
theorem sc_law : FnScope ["_law_script", "_law_state", "_law_numbers", "_law_turn", "_law_outcomes", "_law_play", "_law_words", "_law_number_here", "_law_answers", "_law_outcome", "_law_line", "_law_again", "_law_value"] ["_law_script"] (defScope s_law) := ⟨rfl, rfl, rfl, by decide +kernel, rfl, by decide +kernel, by decide +kernel⟩
/-- what the top has written -/
structure Tp (K : PySem.W.Frag) (mg : Str → Option Value) (w : World) (a_OUTCOMES C_RoundError C_BadPlay C_BadNote C_Play d_Play_0 d_Play_1 : Addr) : Prop where
  m_all : mg "all" = none
  m_bool : mg "bool" = none
  m_int : mg "int" = none
  m_isinstance : mg "isinstance" = none
  m_len : mg "len" = none
  m_list : mg "list" = none
  m_range : mg "range" = none
  m_repr : mg "repr" = none
  m_str : mg "str" = none
  m_tuple : mg "tuple" = none
  c_DIGITS : ∃ u, mg "DIGITS" = some u ∧ RelV (.str "0123456789") u
  c_MOST_DIGITS : ∃ u, mg "MOST_DIGITS" = some u ∧ RelV (.int (40)) u
  c_MOST_FIGURES : ∃ u, mg "MOST_FIGURES" = some u ∧ RelV (.int (40)) u
  c_OUTCOMES : ∃ u, mg "OUTCOMES" = some u ∧ RelV (.ref a_OUTCOMES) u
  w_OUTCOMES : Wd K w a_OUTCOMES (fun z => ([("yes", .bl true), ("no", .bl false)] : List (Str × V)).lookup z)
  k_RoundError : ∃ u, mg "RoundError" = some u ∧ RelV (.ref C_RoundError) u
  k_BadPlay : ∃ u, mg "BadPlay" = some u ∧ RelV (.ref C_BadPlay) u
  x_BadPlay : ∀ (P : Program) (w : World) (base : Heap), Oex P w K mg base "BadPlay" C_BadPlay "value"
  k_BadNote : ∃ u, mg "BadNote" = some u ∧ RelV (.ref C_BadNote) u
  x_BadNote : ∀ (P : Program) (w : World) (base : Heap), Oex P w K mg base "BadNote" C_BadNote "value"
  k_Play : ∃ u, mg "Play" = some u ∧ RelV (.ref C_Play) u
  cl_Play : Cls K C_Play
  n_Play_numbers : NoAttr K C_Play "numbers"
  n_Play_outcomes : NoAttr K C_Play "outcomes"
  ty_Play : ∀ (H : Hp) (a dx : Addr) (fs : List (Str × V)), H a = some (.ins C_Play dx fs) → TyX K H (.ref a) (.ref C_Play)
  sf_Play : PySem.W.selfFirst K C_Play = true
  ne_Play : PySem.W.findIn K (.ref C_Play) "__ne__" = some (some (.builtin "object.__ne__"))
  ob_Play : PySem.W.mroIn K C_Play (.type "object") = some true
  nf_Play_NoneType : PySem.W.subIn K (.type "NoneType") (.ref C_Play) = some false
  kt_Play_NoneType : PySem.W.kitOne K (.type "NoneType") (.ref C_Play) = some false
  nf_Play_list : PySem.W.subIn K (.type "list") (.ref C_Play) = some false
  kt_Play_list : PySem.W.kitOne K (.type "list") (.ref C_Play) = some false
  nf_Play_tuple : PySem.W.subIn K (.type "tuple") (.ref C_Play) = some false
  kt_Play_tuple : PySem.W.kitOne K (.type "tuple") (.ref C_Play) = some false
  nf_Play_str : PySem.W.subIn K (.type "str") (.ref C_Play) = some false
  kt_Play_str : PySem.W.kitOne K (.type "str") (.ref C_Play) = some false
  nf_Play_int : PySem.W.subIn K (.type "int") (.ref C_Play) = some false
  kt_Play_int : PySem.W.kitOne K (.type "int") (.ref C_Play) = some false
  nf_Play_bool : PySem.W.subIn K (.type "bool") (.ref C_Play) = some false
  kt_Play_bool : PySem.W.kitOne K (.type "bool") (.ref C_Play) = some false
  nf_Play_dict : PySem.W.subIn K (.type "dict") (.ref C_Play) = some false
  kt_Play_dict : PySem.W.kitOne K (.type "dict") (.ref C_Play) = some false
  i_Play : Dk K mg "Play" C_Play "Play.__init__" s_Play___init__ [.ref d_Play_0, .ref d_Play_1]
  td_Play_0 : ∀ H : Hp, SqT K H d_Play_0 []
  td_Play_1 : ∀ H : Hp, SqT K H d_Play_1 []
  m_Play___add__ : Dm K C_Play "__add__" "Play.__add__" s_Play___add__ ["self", "other"]
  m_Play___eq__ : Dm K C_Play "__eq__" "Play.__eq__" s_Play___eq__ ["self", "other"]
  xm_BadNote : PySem.W.exmOne K (.ref C_BadNote) (.ref C_BadNote) = some true
  d_is_integer : Dd K mg "is_integer" s_is_integer ["value"]
  d_number_of : Dd K mg "number_of" s_number_of ["word"]
  d_note_words : Dd K mg "note_words" s_note_words ["value"]
  d_note_number : Dd K mg "note_number" s_note_number ["word"]
  d_outcome_word : Dd K mg "outcome_word" s_outcome_word ["outcome"]
  d_write_play : Dd K mg "write_play" s_write_play ["play"]
  d_read_play : Dd K mg "read_play" s_read_play ["line"]
  d__law_open : Dd K mg "_law_open" s__law_open ["_law_script"]
  d__law_draw : Dd K mg "_law_draw" s__law_draw ["_law_state", "_law_many"]
  d__law_number : Dd K mg "_law_number" s__law_number ["_law_state"]
  d__law_refused : Dd K mg "_law_refused" s__law_refused ["_law_value"]
  d__law_spoilt : Dd K mg "_law_spoilt" s__law_spoilt ["_law_state", "_law_numbers", "_law_outcomes"]
  d_law : Dd K mg "law" s_law ["_law_script"]
end
end K
namespace K
open PySem PySem.Spec PyProof.Rows L2 G TL
local macro_rules | `(tactic| walk_at "side") => `(tactic| focus (first | assumption | exact rfl | omega | decide))
local macro_rules | `(tactic| walk_at "ty") => `(tactic| focus (first | exact .base (.str _) | exact .base (.int _) | exact .base (.bl _) | exact .base .non | exact .base (.lst (by assumption)) | exact .base (.tup (by assumption)) | exact .base (.dK (by assumption)) | assumption))
local macro_rules | `(tactic| walk_at "kt") => `(tactic| focus (with_reducible first | exact kt_NoneType_str | exact kt_NoneType_int | exact kt_NoneType_bool | exact kt_NoneType_tuple | exact kt_NoneType_list | exact kt_NoneType_dict | exact kt_bool_str | exact kt_bool_int | exact kt_bool_bool | exact kt_bool_tuple | exact kt_bool_list | exact kt_bool_dict | exact kt_int_str | exact kt_int_int | exact kt_int_bool | exact kt_int_tuple | exact kt_int_list | exact kt_int_dict | exact kt_str_str | exact kt_str_int | exact kt_str_bool | exact kt_str_tuple | exact kt_str_list | exact kt_str_dict | exact kt_list_str | exact kt_list_int | exact kt_list_bool | exact kt_list_tuple | exact kt_list_list | exact kt_list_dict | exact kt_tuple_str | exact kt_tuple_int | exact kt_tuple_bool | exact kt_tuple_tuple | exact kt_tuple_list | exact kt_tuple_dict | exact kt_dict_str | exact kt_dict_int | exact kt_dict_bool | exact kt_dict_tuple | exact kt_dict_list | exact kt_dict_dict | assumption))
local macro_rules | `(tactic| walk_at "1") => `(tactic| first
  | (with_reducible refine i_seq ?_)
  | (with_reducible refine iteT ?_)
  | (with_reducible refine iteF ?_)
  | (with_reducible refine iteNF ?_)
  | (with_reducible refine iteNT ?_)
  | (with_reducible refine i_asg ?_)
  | (with_reducible refine i_op ?_)
  | (with_reducible refine i_c ?_)
  | ((with_reducible apply i_var); (exact rfl))
  | (with_reducible refine i_cb ?_)
  | (with_reducible refine i_cons ?_)
  | (with_reducible refine i_nil ?_)
  | (with_reducible refine i_test ?_)
  | (with_reducible refine i_b ?_)
  | (with_reducible refine i_bl ?_)
  | (with_reducible refine i_name ?_)
  | (with_reducible refine i_ifS ?_)
  | (with_reducible refine i_next ?_)
  | (with_reducible refine i_ret ?_)
  | (with_reducible refine i_drop ?_)
  | (with_reducible refine i_lst ?_)
  | (with_reducible refine i_tup ?_)
  | (with_reducible refine i_and ?_)
  | (with_reducible refine i_or ?_)
  | (with_reducible refine i_not ?_)
  | (with_reducible refine i_andV ?_)
  | (with_reducible refine i_orV ?_)
  | (with_reducible refine i_notV ?_)
  | (with_reducible refine i_if ?_)
  | (with_reducible refine i_chain ?_)
  | (with_reducible refine i_un ?_)
  | (with_reducible refine i_neg ?_)
  | (with_reducible refine i_sub ?_)
  | (with_reducible refine i_sl ?_)
  | (with_reducible refine i_noP ?_)
  | (with_reducible refine i_part ?_)
  | (with_reducible refine i_int ?_)
  | (with_reducible refine i_bm ?_)
  | (with_reducible refine i_strT ?_)
  | (with_reducible refine i_yes ?_)
  | (with_reducible refine i_call ?_)
  | ((with_reducible refine i_len ?_ ?_); (focus (exact sz (by simp))))
  | (with_reducible refine i_lc ?_)
  | (with_reducible refine i_for ?_)
  | (with_reducible refine i_rng1 ?_)
  | (with_reducible refine i_rng2 ?_)
  | (with_reducible refine l_addI ?_)
  | (with_reducible refine l_subI ?_)
  | (with_reducible refine l_cmp ?_)
  | (with_reducible refine l_eqI ?_)
  | (with_reducible refine l_eqS ?_)
  | (with_reducible refine l_eqB ?_)
  | (with_reducible refine l_neI ?_)
  | (with_reducible refine l_neS ?_)
  | (with_reducible refine l_neB ?_)
  | (with_reducible refine l_isN ?_)
  | (with_reducible refine l_isNotN ?_)
  | (with_reducible refine l_isB ?_)
  | (with_reducible refine l_isNotB ?_)
  | (with_reducible refine l_intI ?_)
  | (with_reducible refine l_intB ?_)
  | (with_reducible refine l_inC ?_)
  | (refine ⟨_, _, rfl, rfl, sz (by first | omega | simp; omega), ?_⟩)
  | ((with_reducible refine l_pow ?_ ?_); (focus (exact ⟨by decide, by decide, by decide⟩)))
  | ((with_reducible refine l_mul ?_ ?_); (focus (first | assumption | exact Or.inl (Or.inl ⟨by omega, by omega⟩) | exact Or.inl (Or.inr ⟨by omega, by omega⟩))))
  | ((with_reducible refine l_div ?_ ?_); (focus (first | assumption | exact ⟨by decide, by decide⟩)))
  | ((with_reducible apply l_setL); (assumption); (exact rfl))
  | ((with_reducible refine l_mod ?_ ?_); (walk_at "side"))
  | ((with_reducible apply l_ixL); (assumption); (exact rfl))
  | ((with_reducible refine l_lenS ?_ ?_); (focus (first | assumption | exact sz (by omega) | exact sz (by simp; omega))))
  | ((with_reducible refine l_slS ?_ ?_); (focus (first | assumption | exact sz (by omega))))
  | ((with_reducible apply l_isi); (walk_at "ty"); (walk_at "kt"))
  | ((with_reducible apply l_lenL); (assumption)))
local macro_rules | `(tactic| walk_at "go") => `(tactic| repeat (walk_at "1"))
local macro_rules | `(tactic| walk_at "1") => `(tactic| first
  | (with_reducible refine i_mkS ?_)
  | (with_reducible refine i_cS ?_)
  | (with_reducible refine i_fld ?_)
  | (with_reducible refine i_sFld ?_)
  | (with_reducible refine i_tX ?_)
  | (with_reducible refine l_len2 rfl rfl ?_))
section
variable {P : Program} {w : World} {K : PySem.W.Frag} {mg : Str → Option Value} {base : Heap}
set_option maxHeartbeats 2000000 in
theorem ok_open {a_OUTCOMES C_RoundError C_BadPlay C_BadNote C_Play d_Play_0 d_Play_1 : Addr} (T : Tp K mg w a_OUTCOMES C_RoundError C_BadPlay C_BadNote C_Play d_Play_0 d_Play_1) : Cal P w K mg base 1 "_law_open" (spOpenL K) [] := by
  refine T.d__law_open.cal sc__law_open (fun vs H Q E h => ?_) (fun f cdv A outer s H vs Q E hr h => ?_)
  · obtain ⟨a, ns, rfl, _⟩ := h
    rfl
  · obtain ⟨a, ns, rfl, hS, hl, q⟩ := h
    have sc := sc__law_open
    refine ⟨_, 
    (pss_one (ps_ret (pe_lst (pa_cons (pe_lc (own := [("_law_one", 1)]) (by rfl) sc.nd (kIT (K := K) rfl (pe_slice (kSl (K := K) rfl) (pv 0) po_none (po_some (pe_int)))) (blkOk_by (N := ["_law_script", "_law_one"]) (sc := defScope s__law_open) (by decide +kernel)) (fun _ _ _ _ _ => pg_name (i := 1) sc.nd rfl (by first | exact Or.inl rfl | exact Or.inr rfl)) (fun _ _ _ _ _ => pts_nil) (fun _ _ _ _ _ => pe_callTy g_int (by rfl) T.m_int (by decide +kernel) (pa_cons (pv 1) pa_nil))) (pa_cons (pe_int) (pa_cons (pe_int) pa_nil)))))), ?_⟩
    try rw [cxK]
    refine i_start (τ := [some (.ref a), none]) rfl ?_
    walk_at "go"
    refine i_anyL ?_
    walk_at "go"
    refine l_slL hS (fun p hp => ?_)
    rw [cutV_map]
    generalize hzs : ((ns.drop (HT.sIx ns.length 0 none)).take (HT.sIx ns.length ns.length (some 63) - HT.sIx ns.length 0 none)) = zs
    have hp1 : upd H p (.lst (zs.map V.int)) p = some (.lst (zs.map V.int)) := upd_same
    have hzl : zs.length ≤ 63 := by
      rw [← hzs, List.length_take, List.length_drop]
      omega
    refine ⟨p, rfl, ⟨_, SqL.of hp1⟩, fun D hD => lc_list (K := K) (a := p) (xs := zs.map V.int) (fun i H' => H' p = some (.lst (zs.map V.int)) ∧ H' D = some (.lst ((zs.take i).map V.int)) ∧ Ex H H') ?_ ?_ ?_ ?_⟩
    · exact ⟨Ex.new hD _ _ hp1, upd_same, (Ex.new hp).trans (Ex.new hD)⟩
    · rintro i H' _ ⟨h1, h2, h3⟩
      exact SqL.of h1
    · rintro i x H' hx ⟨h1, h2, h3⟩
      obtain ⟨z, hz, rfl⟩ := map_at hx
      walk_at "go"
      refine ⟨rfl, ?_⟩
      walk_at "go"
      have nD : H D = none := (Ex.new hp).free hD
      have npD : p ≠ D := ne_of_none hp1 hD
      refine ⟨_, h2, szl (by rw [List.length_map, List.length_take]; omega), by rw [upd_ne npD]; exact h1, ?_, h3.mut nD⟩
      rw [upd_same, take_succ hz]
      simp
    · rintro H' ⟨h1, h2, h3⟩
      walk_at "go"
      intro st hst
      rw [List.length_map, List.take_length] at h2
      exact q st D _ (h3.free hst) ((Ex.new hp).free hD) ⟨zs, 0, 0, upd_same, Ex.new hst _ _ h2, (ne_of_none h2 hst).symm, by omega, by omega⟩ (h3.trans (Ex.new hst))
set_option maxHeartbeats 2000000 in
theorem ok_draw {a_OUTCOMES C_RoundError C_BadPlay C_BadNote C_Play d_Play_0 d_Play_1 : Addr} (T : Tp K mg w a_OUTCOMES C_RoundError C_BadPlay C_BadNote C_Play d_Play_0 d_Play_1) : Cal P w K mg base 1 "_law_draw" spDrawL [] := by
  refine T.d__law_draw.cal sc__law_draw (fun vs H Q E h => ?_) (fun f cdv A outer s H vs Q E hr h => ?_)
  · obtain ⟨st, L, n, b, rfl, _⟩ := h
    rfl
  · obtain ⟨st, L, n, b, rfl, hn, hn2, ⟨ns, a, c, hst, hL, hne, hc0, hcb⟩, hb, q⟩ := h
    have sc := sc__law_draw
    refine ⟨_, 
    (pss_cut (ps_if (pt_cmpR gLe (pe_ix (kIx (K := K) rfl) (pv 0) (pe_int) (fun _ _ => rfl)) (pe_int) (nomark _)) (
      (pss_cons (ps_set (i := 2) sc.nd rfl (by first | exact Or.inl rfl | exact Or.inr rfl) (pe_int))
      (pss_cut (ps_if (pt_cmpR (kNe (K := K) rfl hr) (pe_ix (kIx (K := K) rfl) (pv 0) (pe_int) (fun _ _ => rfl)) (pe_lst (pa_nil)) (nomark _)) (
        (pss_one (ps_set (i := 2) sc.nd rfl (by first | exact Or.inl rfl | exact Or.inr rfl) (pe_ix (kIx (K := K) rfl) (pe_ix (kIx (K := K) rfl) (pv 0) (pe_int) (fun _ _ => rfl)) (pe_op gMod (pe_callTy g_int (by rfl) T.m_int (by decide +kernel) (pa_cons (pe_ix (kIx (K := K) rfl) (pv 0) (pe_int) (fun _ _ => rfl)) pa_nil)) (pe_callB (kLen (K := K) rfl) (by rfl) T.m_len PySem.boot_len (pa_cons (pe_ix (kIx (K := K) rfl) (pv 0) (pe_int) (fun _ _ => rfl)) pa_nil))) (fun _ _ => rfl))))) (pss_nil))
      (pss_cons (ps_asg (pe_op (kAdd (K := K) rfl) (pe_ix (kIx (K := K) rfl) (pv 0) (pe_int) (fun _ _ => rfl)) (pe_int)) (pg_sub (pv 0) (pe_int) set_list))
      (pss_cons (ps_if (pt_cmpR gLt (pv 2) (pe_op gPow (pe_int) (pe_int)) (nomark _)) (
        (pss_cons (ps_set (i := 3) sc.nd rfl (by first | exact Or.inl rfl | exact Or.inr rfl) (pe_op gMod (pe_callTy g_int (by rfl) T.m_int (by decide +kernel) (pa_cons (pe_op (kAdd (K := K) rfl) (pe_op (kAdd (K := K) rfl) (pe_op gMul (pv 2) (pe_int)) (pe_op gMul (pe_ix (kIx (K := K) rfl) (pv 0) (pe_int) (fun _ _ => rfl)) (pe_int))) (pe_int)) pa_nil)) (pe_int)))
        (pss_one (ps_ret (pe_op gMod (pe_op gDiv (pe_op gMod (pe_callTy g_int (by rfl) T.m_int (by decide +kernel) (pa_cons (pe_op (kAdd (K := K) rfl) (pe_op gMul (pv 3) (pe_int)) (pe_op gMul (pe_op gMul (pe_ix (kIx (K := K) rfl) (pv 0) (pe_int) (fun _ _ => rfl)) (pe_ix (kIx (K := K) rfl) (pv 0) (pe_int) (fun _ _ => rfl))) (pe_int))) pa_nil)) (pe_int)) (pe_int)) (pv 1)))))) (pss_nil))
      (pss_one (ps_asg (pv 2) (pg_sub (pv 0) (pe_int) set_list)))))))) (pss_nil))
    (pss_cons (ps_set (i := 4) sc.nd rfl (by first | exact Or.inl rfl | exact Or.inr rfl) (pe_op gMod (pe_callTy g_int (by rfl) T.m_int (by decide +kernel) (pa_cons (pe_ix (kIx (K := K) rfl) (pv 0) (pe_int) (fun _ _ => rfl)) pa_nil)) (pv 1)))
    (pss_cons (ps_asg (pe_op gDiv (pe_callTy g_int (by rfl) T.m_int (by decide +kernel) (pa_cons (pe_ix (kIx (K := K) rfl) (pv 0) (pe_int) (fun _ _ => rfl)) pa_nil)) (pv 1)) (pg_sub (pv 0) (pe_int) set_list))
    (pss_one (ps_ret (pv 4)))))), ?_⟩
    try rw [cxK]
    refine i_start (τ := [some (.ref st), some (.int n), none, none, none]) rfl ?_
    refine ⟨fun σ H' => ∃ (v2 v3 v4 : Option V) (a' c' : Int), σ = [some (.ref st), some (.int n), v2, v3, v4] ∧ H' st = some (.lst [.ref L, .int a', .int c']) ∧ H' L = some (.lst (ns.map V.int)) ∧ 0 ≤ c' ∧ c' ≤ (b : Int) + 1 ∧ But st H H', ?_, ?_⟩
    · walk_at "go"
      refine i_ite (fun ha => ?_) (fun ha => ?_)
      · walk_at "go"
        refine ⟨fun σ H' => ∃ (z : Int), σ = [some (.ref st), some (.int n), some (.int z), none, none] ∧ H' st = some (.lst [.ref L, .int a, .int c]) ∧ H' L = some (.lst (ns.map V.int)) ∧ But st H H', ?_, ?_⟩
        · walk_at "go"
          intro p hp
          have hst1 : upd H p (.lst []) st = some (.lst [.ref L, .int a, .int c]) := Ex.new hp _ _ hst
          have hL1 : upd H p (.lst []) L = some (.lst (ns.map V.int)) := Ex.new hp _ _ hL
          refine l_neNil hL1 upd_same ?_
          walk_at "go"
          refine i_iteN (fun h0 => ?_) (fun h0 => ?_)
          · have hl : 0 < ((ns.map V.int).length : Int) := by
              rw [List.length_map]
              have := List.length_pos_iff.mpr h0
              omega
            walk_at "go"
            obtain ⟨z, hz⟩ := at_ints (ns := ns) (i := c % ((ns.map V.int).length : Int)) (Int.emod_nonneg _ (by omega)) (by
              have := Int.emod_lt_of_pos c hl
              rw [List.length_map] at this ⊢
              exact this)
            refine l_ixL hL1 hz ?_
            walk_at "go"
            exact ⟨z, rfl, hst1, hL1, (Ex.new hp).but⟩
          · walk_at "go"
            exact ⟨0, rfl, hst1, hL1, (Ex.new hp).but⟩
        · rintro σ H' ⟨z, rfl, h1, h2, h5⟩
          walk_at "go"
          have h1' : upd H' st (.lst [.ref L, .int a, .int (c + 1)]) st = some (.lst [.ref L, .int a, .int (c + 1)]) := upd_same
          have h2' : upd H' st (.lst [.ref L, .int a, .int (c + 1)]) L = some (.lst (ns.map V.int)) := by
            rw [upd_ne hne.symm]
            exact h2
          refine i_ite (fun hz => ?_) (fun hz => ?_)
          · walk_at "go"
            exact q _ _ (Int.emod_nonneg _ (by omega)) (Int.emod_lt_of_pos _ hn) ⟨ns, _, _, h1', h2', hne, by omega, by omega⟩ h5.mut
          · walk_at "go"
            exact ⟨_, _, _, _, _, rfl, upd_same, by rw [upd_ne hne.symm]; exact h2', by omega, by omega, h5.mut.mut⟩
      · walk_at "go"
        exact ⟨_, _, _, _, _, rfl, hst, hL, hc0, by omega, But.refl H⟩
    · rintro σ H' ⟨v2, v3, v4, a', c', rfl, h1, h2, h3, h4, h5⟩
      have hdv : CDivW a' n := wide_div (b := 64) hn (by omega) (by decide) (by decide)
      walk_at "go"
      exact q _ _ (Int.emod_nonneg _ (by omega)) (Int.emod_lt_of_pos _ hn) ⟨ns, _, _, upd_same, by rw [upd_ne hne.symm]; exact h2, hne, h3, by omega⟩ h5.mut
end
end K
namespace K
open PySem PySem.Spec PyProof.Rows L2 G TL
local macro_rules | `(tactic| walk_at "side") => `(tactic| focus (first | assumption | exact rfl | omega | decide))
local macro_rules | `(tactic| walk_at "ty") => `(tactic| focus (first | exact .base (.str _) | exact .base (.int _) | exact .base (.bl _) | exact .base .non | exact .base (.lst (by assumption)) | exact .base (.tup (by assumption)) | exact .base (.dK (by assumption)) | assumption))
local macro_rules | `(tactic| walk_at "kt") => `(tactic| focus (with_reducible first | exact kt_NoneType_str | exact kt_NoneType_int | exact kt_NoneType_bool | exact kt_NoneType_tuple | exact kt_NoneType_list | exact kt_NoneType_dict | exact kt_bool_str | exact kt_bool_int | exact kt_bool_bool | exact kt_bool_tuple | exact kt_bool_list | exact kt_bool_dict | exact kt_int_str | exact kt_int_int | exact kt_int_bool | exact kt_int_tuple | exact kt_int_list | exact kt_int_dict | exact kt_str_str | exact kt_str_int | exact kt_str_bool | exact kt_str_tuple | exact kt_str_list | exact kt_str_dict | exact kt_list_str | exact kt_list_int | exact kt_list_bool | exact kt_list_tuple | exact kt_list_list | exact kt_list_dict | exact kt_tuple_str | exact kt_tuple_int | exact kt_tuple_bool | exact kt_tuple_tuple | exact kt_tuple_list | exact kt_tuple_dict | exact kt_dict_str | exact kt_dict_int | exact kt_dict_bool | exact kt_dict_tuple | exact kt_dict_list | exact kt_dict_dict | assumption))
local macro_rules | `(tactic| walk_at "1") => `(tactic| first
  | (with_reducible refine i_seq ?_)
  | (with_reducible refine iteT ?_)
  | (with_reducible refine iteF ?_)
  | (with_reducible refine iteNF ?_)
  | (with_reducible refine iteNT ?_)
  | (with_reducible refine i_asg ?_)
  | (with_reducible refine i_op ?_)
  | (with_reducible refine i_c ?_)
  | ((with_reducible apply i_var); (exact rfl))
  | (with_reducible refine i_cb ?_)
  | (with_reducible refine i_cons ?_)
  | (with_reducible refine i_nil ?_)
  | (with_reducible refine i_test ?_)
  | (with_reducible refine i_b ?_)
  | (with_reducible refine i_bl ?_)
  | (with_reducible refine i_name ?_)
  | (with_reducible refine i_ifS ?_)
  | (with_reducible refine i_next ?_)
  | (with_reducible refine i_ret ?_)
  | (with_reducible refine i_drop ?_)
  | (with_reducible refine i_lst ?_)
  | (with_reducible refine i_tup ?_)
  | (with_reducible refine i_and ?_)
  | (with_reducible refine i_or ?_)
  | (with_reducible refine i_not ?_)
  | (with_reducible refine i_andV ?_)
  | (with_reducible refine i_orV ?_)
  | (with_reducible refine i_notV ?_)
  | (with_reducible refine i_if ?_)
  | (with_reducible refine i_chain ?_)
  | (with_reducible refine i_un ?_)
  | (with_reducible refine i_neg ?_)
  | (with_reducible refine i_sub ?_)
  | (with_reducible refine i_sl ?_)
  | (with_reducible refine i_noP ?_)
  | (with_reducible refine i_part ?_)
  | (with_reducible refine i_int ?_)
  | (with_reducible refine i_bm ?_)
  | (with_reducible refine i_strT ?_)
  | (with_reducible refine i_yes ?_)
  | (with_reducible refine i_call ?_)
  | ((with_reducible refine i_len ?_ ?_); (focus (exact sz (by simp))))
  | (with_reducible refine i_lc ?_)
  | (with_reducible refine i_for ?_)
  | (with_reducible refine i_rng1 ?_)
  | (with_reducible refine i_rng2 ?_)
  | (with_reducible refine l_addI ?_)
  | (with_reducible refine l_subI ?_)
  | (with_reducible refine l_cmp ?_)
  | (with_reducible refine l_eqI ?_)
  | (with_reducible refine l_eqS ?_)
  | (with_reducible refine l_eqB ?_)
  | (with_reducible refine l_neI ?_)
  | (with_reducible refine l_neS ?_)
  | (with_reducible refine l_neB ?_)
  | (with_reducible refine l_isN ?_)
  | (with_reducible refine l_isNotN ?_)
  | (with_reducible refine l_isB ?_)
  | (with_reducible refine l_isNotB ?_)
  | (with_reducible refine l_intI ?_)
  | (with_reducible refine l_intB ?_)
  | (with_reducible refine l_inC ?_)
  | (refine ⟨_, _, rfl, rfl, sz (by first | omega | simp; omega), ?_⟩)
  | ((with_reducible refine l_pow ?_ ?_); (focus (exact ⟨by decide, by decide, by decide⟩)))
  | ((with_reducible refine l_mul ?_ ?_); (focus (first | assumption | exact Or.inl (Or.inl ⟨by omega, by omega⟩) | exact Or.inl (Or.inr ⟨by omega, by omega⟩))))
  | ((with_reducible refine l_div ?_ ?_); (focus (first | assumption | exact ⟨by decide, by decide⟩)))
  | ((with_reducible apply l_setL); (assumption); (exact rfl))
  | ((with_reducible refine l_mod ?_ ?_); (walk_at "side"))
  | ((with_reducible apply l_ixL); (assumption); (exact rfl))
  | ((with_reducible refine l_lenS ?_ ?_); (focus (first | assumption | exact sz (by omega) | exact sz (by simp; omega))))
  | ((with_reducible refine l_slS ?_ ?_); (focus (first | assumption | exact sz (by omega))))
  | ((with_reducible apply l_isi); (walk_at "ty"); (walk_at "kt"))
  | ((with_reducible apply l_lenL); (assumption)))
local macro_rules | `(tactic| walk_at "go") => `(tactic| repeat (walk_at "1"))
local macro_rules | `(tactic| walk_at "1") => `(tactic| first
  | (with_reducible refine i_mkS ?_)
  | (with_reducible refine i_cS ?_)
  | (with_reducible refine i_fld ?_)
  | (with_reducible refine i_sFld ?_)
  | (with_reducible refine i_tX ?_)
  | (with_reducible refine l_len2 rfl rfl ?_))
section
variable {P : Program} {w : World} {K : PySem.W.Frag} {mg : Str → Option Value} {base : Heap}
def spInt (K : PySem.W.Frag) : Sp := fun vs H Q _ => ∃ x, vs = [x] ∧ Kd K H x ∧ Q (.bl (isI x)) H
theorem ok_int {a_OUTCOMES C_RoundError C_BadPlay C_BadNote C_Play d_Play_0 d_Play_1 : Addr} (T : Tp K mg w a_OUTCOMES C_RoundError C_BadPlay C_BadNote C_Play d_Play_0 d_Play_1) : Cal P w K mg base 1 "is_integer" (spInt K) [] := by
  refine T.d_is_integer.cal sc_is_integer (fun vs H Q E h => ?_) (fun f cdv A outer s H vs Q E hr h => ?_)
  · obtain ⟨x, rfl, _⟩ := h
    rfl
  · obtain ⟨x, rfl, hk, q⟩ := h
    have sc := sc_is_integer
    refine ⟨_, 
    (pss_one (ps_ret (pe_and (pe_callB (kIsi (K := K) rfl) (by rfl) T.m_isinstance (by decide +kernel) (pa_cons (pv 0) (pa_cons (gTy (n := "int") (by rfl) T.m_int (by decide +kernel)) pa_nil))) (pe_one (pe_not (pe_callB (kIsi (K := K) rfl) (by rfl) T.m_isinstance (by decide +kernel) (pa_cons (pv 0) (pa_cons (gTy (n := "bool") (by rfl) T.m_bool (by decide +kernel)) pa_nil)))))))), ?_⟩
    try rw [cxK]
    refine i_start (τ := [some x]) rfl ?_
    obtain ⟨t, ty, ⟨b, e1, e2⟩, e3, _⟩ := hk.is
    walk_at "go"
    refine i_iteB (fun eb => ?_) (fun eb => ?_)
    · walk_at "go"
      rw [e2, eb] at q
      exact q
    · rw [e2, eb] at q
      exact q
/-- what numbers, outcomes must be -/
def Bad (K : PySem.W.Frag) (H : Hp) (p : V → Bool) (v : V) : Prop := (flatV v = true ∨ ∃ p kvs, v = .ref p ∧ H p = some (.dK kvs)) ∨ ∃ xs, Sq K H v xs ∧ xs.length ≤ 1000 ∧ (∀ x ∈ xs, Kd K H x) ∧ xs.all p = false
theorem Bad.mono {K : PySem.W.Frag} {H H' : Hp} {p : V → Bool} {v : V} (h : Bad K H p v) (e : Ex H H') : Bad K H' p v := by
  rcases h with (h | ⟨a, kvs, rfl, h⟩) | ⟨xs, hs, hl, hk, ha⟩
  · exact .inl (.inl h)
  · exact .inl (.inr ⟨a, kvs, rfl, e _ _ h⟩)
  · exact .inr ⟨xs, hs.mono e, hl, fun x hx => (hk x hx).mono e, ha⟩
def plF (p q : Addr) : List (Str × V) := putF "outcomes" (.ref q) (putF "numbers" (.ref p) [])
def spPlay (K : PySem.W.Frag) (C CB : Addr) : Sp := fun vs H Q E => ∃ x dx no oo, vs = [.ref x, no, oo] ∧ H x = some (.ins C dx []) ∧
  ((∃ (ns : List Int) (bs : List Bool), Sq K H no (ns.map V.int) ∧ Sq K H oo (bs.map V.bl) ∧ ns.length ≤ 1000 ∧ bs.length ≤ 1000 ∧ ∀ H' p q, But x H H' → H' x = some (.ins C dx (plF p q)) → SqT K H' p (ns.map V.int) → SqT K H' q (bs.map V.bl) → Q .non H') ∨
    (Bad K H isI no ∧ ∀ H1 d, Ex H H1 → H1 d = none → E (.ref CB) (some d) (upd H1 d (.xd [("value", no)]))) ∨
    (∃ ns : List Int, Sq K H no (ns.map V.int) ∧ ns.length ≤ 1000 ∧ Bad K H isB oo ∧ ∀ H1 d, Ex H H1 → H1 d = none → E (.ref CB) (some d) (upd H1 d (.xd [("value", oo)]))))
/-- not isinstance(v, (tuple, list)) or not all([.. for x in v]) -/
abbrev tTst (K : PySem.W.Frag) (k i : Nat) (te : TE) (vs : List Nat) : TT := tOr (tNot (tB (tCB (rIsiA K) (tCons (tVar k) (tCons (tTup (tCons (tC (V.ty "tuple")) (tCons (tC (V.ty "list")) tNil))) tNil)))))
  (tNot (tB (tCB (rAll K) (tCons (tLc (iAny K (tVar k)) (gName i) tYes te vs) tNil))))
theorem tst_ty {K : PySem.W.Frag} {H : Hp} {v : V} {T : String} {b : Bool} {p : Addr} {Q : VK} (ty : TyX K (upd H p (.tup [.ty "tuple", .ty "list"])) v (.type T)) (e : PySem.W.kitAny K (.type T) [.type "tuple", .type "list"] = some b) (q : Q (.bl b) (upd H p (.tup [.ty "tuple", .ty "list"]))) : rIsiA K [v, .ref p] (upd H p (.tup [.ty "tuple", .ty "list"])) Q :=
  .inr ⟨v, p, [.ty "tuple", .ty "list"], .type T, _, b, rfl, upd_same, .cons (.ty _) (.cons (.ty _) .nil), ty, e, q⟩
section
variable {k i : Nat} {te : TE} {vs : List Nat} {σ : L2.St} {H : Hp} {QB : Bool → Hp → Prop} {v : V} {xs : List V} {p : V → Bool}
theorem tst_sq (hv : σ[k]? = some (some v)) (hs : Sq K H v xs) (hlen : xs.length ≤ 1000) (hw : ∀ x, wipe ((wipe σ vs).set i (some x)) vs = wipe σ vs)
    (hte : ∀ x ∈ xs, ∀ H' R, Ex H H' → (∀ H'', Ex H' H'' → R (V.bl (p x)) H'') → te ((wipe σ vs).set i (some x)) H' R) (q : ∀ H1, Ex H H1 → QB (!xs.all p) H1) : tTst K k i te vs σ H QB := by
  have go : ∀ p', H p' = none → ∃ T, TyX K (upd H p' (.tup [.ty "tuple", .ty "list"])) v (.type T) ∧ PySem.W.kitAny K (.type T) [.type "tuple", .type "list"] = some true := fun p' hp => by
    obtain ⟨a, rfl, h | h⟩ := hs
    · exact ⟨_, tyL (sqL_mono (Ex.new hp) h), kitAny_cons kt_list_tuple (fun _ => kitAny_cons kt_list_list (fun e => nomatch e) fun _ => rfl) (fun e => nomatch e)⟩
    · exact ⟨_, tyT (sqT_mono (Ex.new hp) h), kitAny_cons kt_tuple_tuple (fun e => nomatch e) fun _ => rfl⟩
  refine i_or (i_not (i_b (i_cb (i_cons (i_var hv (i_cons (i_tup (i_cons (i_c (i_cons (i_c (i_nil (i_len (sz (by simp)) fun p' hp => ?_)))))))))))))
  obtain ⟨T, ty, e⟩ := go p' hp
  refine i_nil (tst_ty ty e (i_bl ?_))
  refine iteNT (i_not (i_b (i_cb (i_cons (i_lc (lc_var (f := fun x => .bl (p x)) hv (hs.mono (Ex.new hp)) hlen hw (fun x hx H' R e => hte x hx H' R ((Ex.new hp).trans e)) fun D H' hD e hl => ?_))))))
  refine i_nil ⟨D, xs.map p, rfl, .of (by rw [hl, List.map_map]; rfl), i_bl ?_⟩
  rw [List.all_map]
  exact q H' ((Ex.new hp).trans e)
theorem tst_no {T : String} (hv : σ[k]? = some (some v)) (ty : ∀ H', Ex H H' → TyX K H' v (.type T)) (hT : PySem.W.kitAny K (.type T) [.type "tuple", .type "list"] = some false) (q : ∀ H1, Ex H H1 → QB true H1) : tTst K k i te vs σ H QB := by
  refine i_or (i_not (i_b (i_cb (i_cons (i_var hv (i_cons (i_tup (i_cons (i_c (i_cons (i_c (i_nil (i_len (sz (by simp)) fun p' hp => ?_)))))))))))))
  exact i_nil (tst_ty (ty _ (Ex.new hp)) hT (i_bl (iteNF (q _ (Ex.new hp)))))
theorem bad_ty (h : flatV v = true ∨ ∃ p kvs, v = .ref p ∧ H p = some (.dK kvs)) : ∃ T, (∀ H', Ex H H' → TyX K H' v (.type T)) ∧ PySem.W.kitAny K (.type T) [.type "tuple", .type "list"] = some false := by
  have mk : ∀ {T : String}, PySem.W.kitOne K (.type T) (.type "tuple") = some false → PySem.W.kitOne K (.type T) (.type "list") = some false → PySem.W.kitAny K (.type T) [.type "tuple", .type "list"] = some false := fun a b => kitAny_cons a (fun _ => kitAny_cons b (fun _ => rfl) fun e => nomatch e) fun e => nomatch e
  rcases h with h | ⟨p, kvs, rfl, h⟩
  · cases v with
    | non => exact ⟨_, fun _ _ => .base .non, mk kt_NoneType_tuple kt_NoneType_list⟩
    | bl b => exact ⟨_, fun _ _ => .base (.bl b), mk kt_bool_tuple kt_bool_list⟩
    | int i => exact ⟨_, fun _ _ => .base (.int i), mk kt_int_tuple kt_int_list⟩
    | str z => exact ⟨_, fun _ _ => .base (.str z), mk kt_str_tuple kt_str_list⟩
    | byt b => cases h
    | flt b => cases h
    | ref b => cases h
    | ty b => cases h
  · exact ⟨_, fun _ e => .base (.dK (e _ _ h)), mk kt_dict_tuple kt_dict_list⟩
theorem tst_bad (hv : σ[k]? = some (some v)) (hb : Bad K H p v) (hw : ∀ x, wipe ((wipe σ vs).set i (some x)) vs = wipe σ vs)
    (hte : ∀ x, Kd K H x → ∀ H' R, Ex H H' → (∀ H'', Ex H' H'' → R (V.bl (p x)) H'') → te ((wipe σ vs).set i (some x)) H' R) (q : ∀ H1, Ex H H1 → QB true H1) : tTst K k i te vs σ H QB := by
  rcases hb with h | ⟨xs, hs, hl, hk, ha⟩
  · obtain ⟨T, ty, e⟩ := bad_ty (K := K) h
    exact tst_no hv ty e q
  · exact tst_sq hv hs hl hw (fun x hx => hte x (hk x hx)) (by rw [ha]; exact q)
end
theorem ok_init {a_OUTCOMES C_RoundError C_BadPlay C_BadNote C_Play d_Play_0 d_Play_1 : Addr} (T : Tp K mg w a_OUTCOMES C_RoundError C_BadPlay C_BadNote C_Play d_Play_0 d_Play_1) : Ini P w K mg base 3 "Play" C_Play "Play.__init__" s_Play___init__ [.ref d_Play_0, .ref d_Play_1] ["self", "numbers", "outcomes"] (spPlay K C_Play C_BadPlay) := by
  have c_is_integer : Cal P w K mg base 1 "is_integer" (spInt K) [] := ok_int T
  refine T.i_Play.ini sc_Play___init__ (fun vs H Q E h => ?_) (fun f cdv A outer s H vs Q E hr _ h => ?_)
  · obtain ⟨x, dx, no, oo, rfl, _⟩ := h
    rfl
  · obtain ⟨x, dx, no, oo, rfl, hx, h⟩ := h
    have sc := sc_Play___init__
    refine ⟨_, 
    (pss_cons (ps_if (pt_cut (PW.pt (pw_or (pt_not (pt_val (pe_callB (kIsi (K := K) rfl) (by rfl) T.m_isinstance (by decide +kernel) (pa_cons (pv 1) (pa_cons (pe_tup (pa_cons (gTy (n := "tuple") (by rfl) T.m_tuple (by decide +kernel)) (pa_cons (gTy (n := "list") (by rfl) T.m_list (by decide +kernel)) pa_nil))) pa_nil))))) (pw_or1 (pt_not (pt_val (pe_callB (cr_all rfl) (by rfl) T.m_all (by decide +kernel) (pa_cons (pe_lc (own := [("number", 3)]) (by rfl) sc.nd (kIT (K := K) rfl (pv 1)) (blkOk_by (N := ["self", "numbers", "outcomes", "number", "one"]) (sc := defScope s_Play___init__) (by decide +kernel)) (fun _ _ _ _ _ => pg_name (i := 3) sc.nd rfl (by first | exact Or.inl rfl | exact Or.inr rfl)) (fun _ _ _ _ _ => pts_nil) (fun _ _ _ _ _ => pe_c c_is_integer hr (by decide) (by rfl) (pa_cons (pv 3) pa_nil))) pa_nil)))))))) (
      (pss_one (ps_raise rfl (takes_of rfl rfl rfl rfl) (pmk_x (T.x_BadPlay P w base) hr (by decide) (by rfl) (pa_cons (pv 1) pa_nil))))) (pss_nil))
    (pss_cons (ps_if (pt_cut (PW.pt (pw_or (pt_not (pt_val (pe_callB (kIsi (K := K) rfl) (by rfl) T.m_isinstance (by decide +kernel) (pa_cons (pv 2) (pa_cons (pe_tup (pa_cons (gTy (n := "tuple") (by rfl) T.m_tuple (by decide +kernel)) (pa_cons (gTy (n := "list") (by rfl) T.m_list (by decide +kernel)) pa_nil))) pa_nil))))) (pw_or1 (pt_not (pt_val (pe_callB (cr_all rfl) (by rfl) T.m_all (by decide +kernel) (pa_cons (pe_lc (own := [("one", 4)]) (by rfl) sc.nd (kIT (K := K) rfl (pv 2)) (blkOk_by (N := ["self", "numbers", "outcomes", "number", "one"]) (sc := defScope s_Play___init__) (by decide +kernel)) (fun _ _ _ _ _ => pg_name (i := 4) sc.nd rfl (by first | exact Or.inl rfl | exact Or.inr rfl)) (fun _ _ _ _ _ => pts_nil) (fun _ _ _ _ _ => pe_callB (kIsi (K := K) rfl) (by rfl) T.m_isinstance (by decide +kernel) (pa_cons (pv 4) (pa_cons (gTy (n := "bool") (by rfl) T.m_bool (by decide +kernel)) pa_nil)))) pa_nil)))))))) (
      (pss_one (ps_raise rfl (takes_of rfl rfl rfl rfl) (pmk_x (T.x_BadPlay P w base) hr (by decide) (by rfl) (pa_cons (pv 2) pa_nil))))) (pss_nil))
    (pss_cons (ps_fld (pv 0) (pe_callTy (k_tuple (K := K) rfl) (by rfl) T.m_tuple (by decide +kernel) (pa_cons (pv 1) pa_nil)) rfl)
    (pss_one (ps_fld (pv 0) (pe_callTy (k_tuple (K := K) rfl) (by rfl) T.m_tuple (by decide +kernel) (pa_cons (pv 2) pa_nil)) rfl))))), ?_⟩
    try rw [cxK]
    refine i_start (τ := [some (.ref x), some no, some oo, none, none]) rfl ?_
    have hwN : ∀ y, wipe ((wipe [some (V.ref x), some no, some oo, none, none] [3]).set 3 (some y)) [3] = wipe [some (V.ref x), some no, some oo, none, none] [3] := fun _ => rfl
    have hwO : ∀ y, wipe ((wipe [some (V.ref x), some no, some oo, none, none] [4]).set 4 (some y)) [4] = wipe [some (V.ref x), some no, some oo, none, none] [4] := fun _ => rfl
    have teN : ∀ (H0 : Hp) (y : V), Kd K H0 y → ∀ H' (R : VK), Ex H0 H' → (∀ H'', Ex H' H'' → R (V.bl (isI y)) H'') → tCall (spInt K) [] E0 (tCons (tVar 3) tNil) ((wipe [some (V.ref x), some no, some oo, none, none] [3]).set 3 (some y)) H' R :=
      fun H0 y hk H' R e r => i_call (i_cons (i_var rfl (i_nil ⟨y, rfl, hk.mono e, r H' (Ex.refl H')⟩)))
    have teO : ∀ (H0 : Hp) (y : V), Kd K H0 y → ∀ H' (R : VK), Ex H0 H' → (∀ H'', Ex H' H'' → R (V.bl (isB y)) H'') → tCB (rIsiA K) (tCons (tVar 4) (tCons (tC (V.ty "bool")) tNil)) ((wipe [some (V.ref x), some no, some oo, none, none] [4]).set 4 (some y)) H' R :=
      fun H0 y hk H' R e r => by
        obtain ⟨t, ty, _, e3, _⟩ := (hk.mono e).is
        exact i_cb (i_cons (i_var rfl (i_cons (i_c (i_nil (l_isi ty e3 (r H' (Ex.refl H'))))))))
    have kI : ∀ (H0 : Hp) (ns : List Int), ∀ y ∈ ns.map V.int, Kd K H0 y := fun H0 ns y hy => by
      obtain ⟨n, _, rfl⟩ := List.mem_map.mp hy
      exact .inl rfl
    have kB : ∀ (H0 : Hp) (bs : List Bool), ∀ y ∈ bs.map V.bl, Kd K H0 y := fun H0 bs y hy => by
      obtain ⟨n, _, rfl⟩ := List.mem_map.mp hy
      exact .inl rfl
    have aI : ∀ ns : List Int, (ns.map V.int).all isI = true := fun ns => by rw [List.all_map]; exact List.all_eq_true.mpr fun _ _ => rfl
    have aB : ∀ bs : List Bool, (bs.map V.bl).all isB = true := fun bs => by rw [List.all_map]; exact List.all_eq_true.mpr fun _ _ => rfl
    walk_at "go"
    rcases h with ⟨ns, bs, hn, ho, l1, l2, q⟩ | ⟨hb, q⟩ | ⟨ns, hn, l1, hb, q⟩
    · refine i_cutT (fun b H1 => b = false ∧ Ex H H1) (tst_sq (p := isI) rfl hn (by simpa using l1) hwN (fun y hy => teN H y (kI H ns y hy)) fun H1 e => ⟨by rw [aI]; rfl, e⟩) ?_
      rintro _ H1 ⟨rfl, e1⟩
      walk_at "go"
      refine i_cutT (fun b H2 => b = false ∧ Ex H1 H2) (tst_sq (p := isB) rfl (ho.mono e1) (by simpa using l2) hwO (fun y hy => teO H1 y (kB H1 bs y hy)) fun H2 e => ⟨by rw [aB]; rfl, e⟩) ?_
      rintro _ H2 ⟨rfl, e2⟩
      walk_at "go"
      refine l_tupSq (hn.mono (e1.trans e2)) fun p H3 e3 hp => ?_
      have e13 := e1.trans (e2.trans e3)
      have hx3 := e13 _ _ hx
      walk_at "go"
      refine ⟨x, C_Play, dx, [], rfl, hx3, T.cl_Play, T.n_Play_numbers, by decide, ?_⟩
      walk_at "go"
      have b3 : But x H3 (upd H3 x (.ins C_Play dx (putF "numbers" (.ref p) []))) := (But.refl H3).mut
      refine l_tupSq ((ho.mono e13).but b3 hx3) fun q' H4 e4 hq => ?_
      walk_at "go"
      refine ⟨x, C_Play, dx, _, rfl, e4 _ _ upd_same, T.cl_Play, T.n_Play_outcomes, by simp [putF], ?_⟩
      walk_at "go"
      have b4 : But x H4 (upd H4 x (.ins C_Play dx (plF p q'))) := (But.refl H4).mut
      refine q _ p q' ((e13.but.trans b3).trans (e4.but.trans b4)) upd_same (sqT_but b4 (e4 _ _ upd_same) (sqT_mono e4 (sqT_but b3 hx3 hp))) (sqT_but b4 (e4 _ _ upd_same) hq)
    · refine i_cutT (fun b H1 => b = true ∧ Ex H H1) (tst_bad (p := isI) rfl hb hwN (teN H) fun H1 e => ⟨rfl, e⟩) ?_
      rintro _ H1 ⟨rfl, e1⟩
      walk_at "go"
      exact ⟨no, rfl, fun d hd => q H1 d e1 hd⟩
    · refine i_cutT (fun b H1 => b = false ∧ Ex H H1) (tst_sq (p := isI) rfl hn (by simpa using l1) hwN (fun y hy => teN H y (kI H ns y hy)) fun H1 e => ⟨by rw [aI]; rfl, e⟩) ?_
      rintro _ H1 ⟨rfl, e1⟩
      walk_at "go"
      refine i_cutT (fun b H2 => b = true ∧ Ex H1 H2) (tst_bad (p := isB) rfl (hb.mono e1) hwO (teO H1) fun H2 e => ⟨rfl, e⟩) ?_
      rintro _ H2 ⟨rfl, e2⟩
      walk_at "go"
      exact ⟨oo, rfl, fun d hd => q H2 d (e1.trans e2) hd⟩
end
end K
namespace K
open PySem PySem.Spec PyProof.Rows L2 G TL
local macro_rules | `(tactic| walk_at "side") => `(tactic| focus (first | assumption | exact rfl | omega | decide))
local macro_rules | `(tactic| walk_at "ty") => `(tactic| focus (first | exact .base (.str _) | exact .base (.int _) | exact .base (.bl _) | exact .base .non | exact .base (.lst (by assumption)) | exact .base (.tup (by assumption)) | exact .base (.dK (by assumption)) | assumption))
local macro_rules | `(tactic| walk_at "kt") => `(tactic| focus (with_reducible first | exact kt_NoneType_str | exact kt_NoneType_int | exact kt_NoneType_bool | exact kt_NoneType_tuple | exact kt_NoneType_list | exact kt_NoneType_dict | exact kt_bool_str | exact kt_bool_int | exact kt_bool_bool | exact kt_bool_tuple | exact kt_bool_list | exact kt_bool_dict | exact kt_int_str | exact kt_int_int | exact kt_int_bool | exact kt_int_tuple | exact kt_int_list | exact kt_int_dict | exact kt_str_str | exact kt_str_int | exact kt_str_bool | exact kt_str_tuple | exact kt_str_list | exact kt_str_dict | exact kt_list_str | exact kt_list_int | exact kt_list_bool | exact kt_list_tuple | exact kt_list_list | exact kt_list_dict | exact kt_tuple_str | exact kt_tuple_int | exact kt_tuple_bool | exact kt_tuple_tuple | exact kt_tuple_list | exact kt_tuple_dict | exact kt_dict_str | exact kt_dict_int | exact kt_dict_bool | exact kt_dict_tuple | exact kt_dict_list | exact kt_dict_dict | assumption))
local macro_rules | `(tactic| walk_at "1") => `(tactic| first
  | (with_reducible refine i_seq ?_)
  | (with_reducible refine iteT ?_)
  | (with_reducible refine iteF ?_)
  | (with_reducible refine iteNF ?_)
  | (with_reducible refine iteNT ?_)
  | (with_reducible refine i_asg ?_)
  | (with_reducible refine i_op ?_)
  | (with_reducible refine i_c ?_)
  | ((with_reducible apply i_var); (exact rfl))
  | (with_reducible refine i_cb ?_)
  | (with_reducible refine i_cons ?_)
  | (with_reducible refine i_nil ?_)
  | (with_reducible refine i_test ?_)
  | (with_reducible refine i_b ?_)
  | (with_reducible refine i_bl ?_)
  | (with_reducible refine i_name ?_)
  | (with_reducible refine i_ifS ?_)
  | (with_reducible refine i_next ?_)
  | (with_reducible refine i_ret ?_)
  | (with_reducible refine i_drop ?_)
  | (with_reducible refine i_lst ?_)
  | (with_reducible refine i_tup ?_)
  | (with_reducible refine i_and ?_)
  | (with_reducible refine i_or ?_)
  | (with_reducible refine i_not ?_)
  | (with_reducible refine i_andV ?_)
  | (with_reducible refine i_orV ?_)
  | (with_reducible refine i_notV ?_)
  | (with_reducible refine i_if ?_)
  | (with_reducible refine i_chain ?_)
  | (with_reducible refine i_un ?_)
  | (with_reducible refine i_neg ?_)
  | (with_reducible refine i_sub ?_)
  | (with_reducible refine i_sl ?_)
  | (with_reducible refine i_noP ?_)
  | (with_reducible refine i_part ?_)
  | (with_reducible refine i_int ?_)
  | (with_reducible refine i_bm ?_)
  | (with_reducible refine i_strT ?_)
  | (with_reducible refine i_yes ?_)
  | (with_reducible refine i_call ?_)
  | ((with_reducible refine i_len ?_ ?_); (focus (exact sz (by simp))))
  | (with_reducible refine i_lc ?_)
  | (with_reducible refine i_for ?_)
  | (with_reducible refine i_rng1 ?_)
  | (with_reducible refine i_rng2 ?_)
  | (with_reducible refine l_addI ?_)
  | (with_reducible refine l_subI ?_)
  | (with_reducible refine l_cmp ?_)
  | (with_reducible refine l_eqI ?_)
  | (with_reducible refine l_eqS ?_)
  | (with_reducible refine l_eqB ?_)
  | (with_reducible refine l_neI ?_)
  | (with_reducible refine l_neS ?_)
  | (with_reducible refine l_neB ?_)
  | (with_reducible refine l_isN ?_)
  | (with_reducible refine l_isNotN ?_)
  | (with_reducible refine l_isB ?_)
  | (with_reducible refine l_isNotB ?_)
  | (with_reducible refine l_intI ?_)
  | (with_reducible refine l_intB ?_)
  | (with_reducible refine l_inC ?_)
  | (refine ⟨_, _, rfl, rfl, sz (by first | omega | simp; omega), ?_⟩)
  | ((with_reducible refine l_pow ?_ ?_); (focus (exact ⟨by decide, by decide, by decide⟩)))
  | ((with_reducible refine l_mul ?_ ?_); (focus (first | assumption | exact Or.inl (Or.inl ⟨by omega, by omega⟩) | exact Or.inl (Or.inr ⟨by omega, by omega⟩))))
  | ((with_reducible refine l_div ?_ ?_); (focus (first | assumption | exact ⟨by decide, by decide⟩)))
  | ((with_reducible apply l_setL); (assumption); (exact rfl))
  | ((with_reducible refine l_mod ?_ ?_); (walk_at "side"))
  | ((with_reducible apply l_ixL); (assumption); (exact rfl))
  | ((with_reducible refine l_lenS ?_ ?_); (focus (first | assumption | exact sz (by omega) | exact sz (by simp; omega))))
  | ((with_reducible refine l_slS ?_ ?_); (focus (first | assumption | exact sz (by omega))))
  | ((with_reducible apply l_isi); (walk_at "ty"); (walk_at "kt"))
  | ((with_reducible apply l_lenL); (assumption)))
local macro_rules | `(tactic| walk_at "go") => `(tactic| repeat (walk_at "1"))
local macro_rules | `(tactic| walk_at "1") => `(tactic| first
  | (with_reducible refine i_mkS ?_)
  | (with_reducible refine i_cS ?_)
  | (with_reducible refine i_fld ?_)
  | (with_reducible refine i_sFld ?_)
  | (with_reducible refine i_tX ?_)
  | (with_reducible refine l_len2 rfl rfl ?_))
section
variable {P : Program} {w : World} {K : PySem.W.Frag} {mg : Str → Option Value} {base : Heap}
theorem l_addT {H : Hp} {a b : Addr} {xs ys : List V} {Q : VK} (h1 : SqT K H a xs) (h2 : SqT K H b ys) (hl : xs.length + ys.length ≤ 100000) (q : ∀ p H', Ex H H' → SqT K H' p (xs ++ ys) → Q (.ref p) H') : rAdd K (.ref a) (.ref b) H Q := by
  refine .inr ⟨a, b, xs, ys, rfl, rfl, h1, h2, sz hl, fun e => ?_, fun _ e => ?_, fun _ _ p hp => q p _ (Ex.new hp) (.of upd_same)⟩
  · subst e
    exact q b H (Ex.refl H) h2
  · subst e
    exact q a H (Ex.refl H) (by rw [List.append_nil]; exact h1)
/-- a play -/
def PlayAt (K : PySem.W.Frag) (C : Addr) (H : Hp) (v : V) (ns : List Int) (bs : List Bool) : Prop := ∃ x dx p q, v = .ref x ∧ H x = some (.ins C dx (plF p q)) ∧ SqT K H p (ns.map V.int) ∧ SqT K H q (bs.map V.bl)
theorem PlayAt.mono {C : Addr} {H H' : Hp} {v : V} {ns : List Int} {bs : List Bool} (h : PlayAt K C H v ns bs) (e : Ex H H') : PlayAt K C H' v ns bs := by
  obtain ⟨x, dx, p, q, rfl, h1, h2, h3⟩ := h
  exact ⟨x, dx, p, q, rfl, e _ _ h1, sqT_mono e h2, sqT_mono e h3⟩
theorem lk_num {p q : Addr} : (plF p q).lookup ("numbers" : Str) = some (V.ref p) := rfl
theorem lk_out {p q : Addr} : (plF p q).lookup ("outcomes" : Str) = some (V.ref q) := rfl
theorem ex_made {H H' : Hp} {x dx : Addr} {o u : HO} (hx : H x = none) (hdx : H dx = none) (b : But x (upd (upd H dx o) x u) H') : Ex H H' := fun a w ha => by
  have h1 := ne_of_none ha hx
  have h2 := ne_of_none ha hdx
  exact b a w h1 (by rw [upd_ne h1, upd_ne h2]; exact ha)
theorem ex_new2 {H : Hp} {x dx : Addr} {o u : HO} (hx : H x = none) (hdx : H dx = none) : Ex H (upd (upd H dx o) x u) := fun a w ha => by
  rw [upd_ne (ne_of_none ha hx), upd_ne (ne_of_none ha hdx)]
  exact ha
theorem play_new {C CB : Addr} {H : Hp} {no oo : V} {ns : List Int} {bs : List Bool} {Q : Addr → Hp → Prop} {E : XK} (hn : Sq K H no (ns.map V.int)) (ho : Sq K H oo (bs.map V.bl)) (l1 : ns.length ≤ 1000) (l2 : bs.length ≤ 1000) (q : ∀ x H', Ex H H' → PlayAt K C H' (.ref x) ns bs → Q x H') :
    ∀ x dx, H x = none → H dx = none → dx ≠ x → spPlay K C CB [.ref x, no, oo] (upd (upd H dx (.own x)) x (.ins C dx [])) (fun v H3 => v = .non ∧ Q x H3) E := by
  intro x dx hx hdx hne
  have e := ex_new2 (o := HO.own x) (u := HO.ins C dx []) hx hdx
  exact ⟨x, dx, no, oo, rfl, upd_same, .inl ⟨ns, bs, hn.mono e, ho.mono e, l1, l2, fun H' p q' b hx' hp hq => ⟨rfl, q _ _ (ex_made hx hdx b) ⟨x, dx, p, q', rfl, hx', hp, hq⟩⟩⟩⟩
theorem play_badN {C CB : Addr} {H : Hp} {no oo : V} {Q : Addr → Hp → Prop} {E : XK} (hb : Bad K H isI no) (q : ∀ H' d, Ex H H' → H' d = none → E (.ref CB) (some d) (upd H' d (.xd [("value", no)]))) :
    ∀ x dx, H x = none → H dx = none → dx ≠ x → spPlay K C CB [.ref x, no, oo] (upd (upd H dx (.own x)) x (.ins C dx [])) (fun v H3 => v = .non ∧ Q x H3) E := by
  intro x dx hx hdx hne
  have e := ex_new2 (o := HO.own x) (u := HO.ins C dx []) hx hdx
  exact ⟨x, dx, no, oo, rfl, upd_same, .inr (.inl ⟨hb.mono e, fun H1 d e1 hd => q H1 d (e.trans e1) hd⟩)⟩
theorem play_badO {C CB : Addr} {H : Hp} {no oo : V} {ns : List Int} {Q : Addr → Hp → Prop} {E : XK} (hn : Sq K H no (ns.map V.int)) (l1 : ns.length ≤ 1000) (hb : Bad K H isB oo) (q : ∀ H' d, Ex H H' → H' d = none → E (.ref CB) (some d) (upd H' d (.xd [("value", oo)]))) :
    ∀ x dx, H x = none → H dx = none → dx ≠ x → spPlay K C CB [.ref x, no, oo] (upd (upd H dx (.own x)) x (.ins C dx [])) (fun v H3 => v = .non ∧ Q x H3) E := by
  intro x dx hx hdx hne
  have e := ex_new2 (o := HO.own x) (u := HO.ins C dx []) hx hdx
  exact ⟨x, dx, no, oo, rfl, upd_same, .inr (.inr ⟨ns, hn.mono e, l1, hb.mono e, fun H1 d e1 hd => q H1 d (e.trans e1) hd⟩)⟩
/-! the ways in which Play is called -/
theorem mk_Play_2 {a_OUTCOMES C_RoundError C_BadPlay C_BadNote C_Play d_Play_0 d_Play_1 : Addr} (T : Tp K mg w a_OUTCOMES C_RoundError C_BadPlay C_BadNote C_Play d_Play_0 d_Play_1) : MakG P w K mg base 3 "Play" C_Play (spPlay K C_Play C_BadPlay) 2 [] (fun vs _ => vs) :=
  (ok_init T).mak fun f fd F => by
    obtain ⟨its, h⟩ := F.kbindsD (ps := ["self", "numbers", "outcomes"]) 3 [] (fun us _ _ => us) (by simp) (fun a _ _ => a) (fun Ta kV doc pm an cdv ct us its ws l1 l2 l3 => match us, its, ws, l1, l2, l3 with | [_, _, _], [_, _], [], _, _, _ => ⟨_, rfl, rfl⟩)
    exact ⟨_, h⟩
theorem mk_Play_0 {a_OUTCOMES C_RoundError C_BadPlay C_BadNote C_Play d_Play_0 d_Play_1 : Addr} (T : Tp K mg w a_OUTCOMES C_RoundError C_BadPlay C_BadNote C_Play d_Play_0 d_Play_1) : MakG P w K mg base 3 "Play" C_Play (spPlay K C_Play C_BadPlay) 0 [] (fun vs _ => vs ++ [.ref d_Play_0, .ref d_Play_1]) :=
  (ok_init T).mak fun f fd F => by
    obtain ⟨its, h⟩ := F.kbindsD (ps := ["self", "numbers", "outcomes"]) 1 [] (fun us its _ => us ++ its) (by simp) (fun a b _ => a.append b) (fun Ta kV doc pm an cdv ct us its ws l1 l2 l3 => match us, its, ws, l1, l2, l3 with | [_], [_, _], [], _, _, _ => ⟨_, rfl, rfl⟩)
    exact ⟨_, h⟩
theorem mk_Play_0_outcomes {a_OUTCOMES C_RoundError C_BadPlay C_BadNote C_Play d_Play_0 d_Play_1 : Addr} (T : Tp K mg w a_OUTCOMES C_RoundError C_BadPlay C_BadNote C_Play d_Play_0 d_Play_1) : MakG P w K mg base 3 "Play" C_Play (spPlay K C_Play C_BadPlay) 0 ["outcomes"] (fun vs zs => vs ++ ([V.ref d_Play_0, V.ref d_Play_1].take 1 ++ zs)) :=
  (ok_init T).mak fun f fd F => by
    obtain ⟨its, h⟩ := F.kbindsD (ps := ["self", "numbers", "outcomes"]) 1 ["outcomes"] (fun us its ws => us ++ (its.take 1 ++ ws)) (by simp) (fun a b c => a.append ((b.take 1).append c)) (fun Ta kV doc pm an cdv ct us its ws l1 l2 l3 => match us, its, ws, l1, l2, l3 with | [_], [_, _], [_], _, _, _ => ⟨_, rfl, rfl⟩)
    exact ⟨_, h⟩
theorem mk_Play_0_numbers {a_OUTCOMES C_RoundError C_BadPlay C_BadNote C_Play d_Play_0 d_Play_1 : Addr} (T : Tp K mg w a_OUTCOMES C_RoundError C_BadPlay C_BadNote C_Play d_Play_0 d_Play_1) : MakG P w K mg base 3 "Play" C_Play (spPlay K C_Play C_BadPlay) 0 ["numbers"] (fun vs zs => vs ++ (zs ++ [V.ref d_Play_0, V.ref d_Play_1].drop 1)) :=
  (ok_init T).mak fun f fd F => by
    obtain ⟨its, h⟩ := F.kbindsD (ps := ["self", "numbers", "outcomes"]) 1 ["numbers"] (fun us its ws => us ++ (ws ++ its.drop 1)) (by simp) (fun a b c => a.append (c.append (b.drop 1))) (fun Ta kV doc pm an cdv ct us its ws l1 l2 l3 => match us, its, ws, l1, l2, l3 with | [_], [_, _], [_], _, _, _ => ⟨_, rfl, rfl⟩)
    exact ⟨_, h⟩
def spAddP (K : PySem.W.Frag) (C : Addr) : Sp := fun vs H Q _ => ∃ v1 v2 ns bs ms cs, vs = [v1, v2] ∧ PlayAt K C H v1 ns bs ∧ PlayAt K C H v2 ms cs ∧ ns.length + ms.length ≤ 1000 ∧ bs.length + cs.length ≤ 1000 ∧ ∀ v H', Ex H H' → PlayAt K C H' v (ns ++ ms) (bs ++ cs) → Q v H'
theorem ok_add {a_OUTCOMES C_RoundError C_BadPlay C_BadNote C_Play d_Play_0 d_Play_1 : Addr} (T : Tp K mg w a_OUTCOMES C_RoundError C_BadPlay C_BadNote C_Play d_Play_0 d_Play_1) : MetG P w K mg base false 5 C_Play "__add__" (spAddP K C_Play) ["self", "other"] := by
  have c_Play_2 := mk_Play_2 (P := P) (w := w) (base := base) T
  refine T.m_Play___add__.met sc_Play___add__ (fun vs H Q E h => ?_) (fun f cdv A outer s H vs Q E hr _ h => ?_)
  · obtain ⟨v1, v2, ns, bs, ms, cs, rfl, _⟩ := h
    rfl
  · obtain ⟨v1, v2, ns, bs, ms, cs, rfl, ⟨x, dx, p, q, rfl, hx, hp, hq⟩, ⟨y, dy, r, t, rfl, hy, hr', ht⟩, l1, l2, k⟩ := h
    have sc := sc_Play___add__
    refine ⟨_, 
    (pss_one (ps_ret (pe_mkS c_Play_2 hr (by decide) takes0 (by rfl) (pa_cons (pe_op (kAdd (K := K) rfl) (pe_fld (pv 0) rfl) (pe_fld (pv 1) rfl)) (pa_cons (pe_op (kAdd (K := K) rfl) (pe_fld (pv 0) rfl) (pe_fld (pv 1) rfl)) pa_nil))))), ?_⟩
    try rw [cxK]
    refine i_start (τ := [some (.ref x), some (.ref y)]) rfl ?_
    walk_at "go"
    refine ⟨x, C_Play, dx, _, _, rfl, hx, T.cl_Play, T.n_Play_numbers, lk_num, ?_⟩
    walk_at "go"
    refine ⟨y, C_Play, dy, _, _, rfl, hy, T.cl_Play, T.n_Play_numbers, lk_num, ?_⟩
    refine l_addT hp hr' (by simp; omega) fun pp H1 e1 h1 => ?_
    walk_at "go"
    refine ⟨x, C_Play, dx, _, _, rfl, e1 _ _ hx, T.cl_Play, T.n_Play_outcomes, lk_out, ?_⟩
    walk_at "go"
    refine ⟨y, C_Play, dy, _, _, rfl, e1 _ _ hy, T.cl_Play, T.n_Play_outcomes, lk_out, ?_⟩
    refine l_addT (sqT_mono e1 hq) (sqT_mono e1 ht) (by simp; omega) fun qq H2 e2 h2 => ?_
    walk_at "go"
    rw [← List.map_append] at h1 h2
    exact play_new (.t (sqT_mono e2 h1)) (.t h2) (by simp; omega) (by simp; omega) fun v H' e h => k (.ref v) H' (e1.trans (e2.trans e)) h
/-! == of plays -/
theorem dp_bls {K : PySem.W.Frag} {H : Hp} : ∀ bs : List Bool, DpAll K H (bs.map V.bl) (bs.map PyData.bool)
  | [] => .nil
  | n :: ns => .cons (.bl n) (dp_bls ns)
theorem lay_bls : ∀ ns : List Bool, PyData.canLayAll0 (ns.map PyData.bool) = true
  | [] => by simp [PyData.canLayAll0]
  | n :: ns => by
    rw [List.map_cons, PyData.canLayAll0, lay_bls ns]
    simp [PyData.canLay0]
theorem depth_bls : ∀ ns : List Bool, PyData.depthAll (ns.map PyData.bool) ≤ 1
  | [] => by simp [PyData.depthAll]
  | n :: ns => by
    have := depth_bls ns
    rw [List.map_cons, PyData.depthAll]
    simp [PyData.depth]
    exact this
theorem eqv_ints : ∀ ns ms : List Int, PyData.eqvAll (ns.map .int) (ms.map .int) = decide (ns = ms)
  | [], [] => by simp [PyData.eqvAll]
  | [], _ :: _ => by simp [PyData.eqvAll]
  | _ :: _, [] => by simp [PyData.eqvAll]
  | n :: ns, m :: ms => by
    rw [List.map_cons, List.map_cons, PyData.eqvAll, eqv_ints ns ms, PyData.eqv]
    by_cases h1 : n = m <;> by_cases h2 : ns = ms <;> simp [h1, h2]
theorem eqv_bls : ∀ ns ms : List Bool, PyData.eqvAll (ns.map .bool) (ms.map .bool) = decide (ns = ms)
  | [], [] => by simp [PyData.eqvAll]
  | [], _ :: _ => by simp [PyData.eqvAll]
  | _ :: _, [] => by simp [PyData.eqvAll]
  | n :: ns, m :: ms => by
    rw [List.map_cons, List.map_cons, PyData.eqvAll, eqv_bls ns ms, PyData.eqv]
    by_cases h1 : n = m <;> by_cases h2 : ns = ms <;> simp [h1, h2]
theorem sh_two (ns : List Int) (bs : List Bool) : SeqAt.shaped (.tuple [.tuple (ns.map .int), .tuple (bs.map .bool)]) = true := by
  unfold SeqAt.shaped
  have h1 := depth_ints ns
  have h2 := depth_bls bs
  simp only [PyData.canLay0, PyData.canLayAll0, lay_ints, lay_bls, PyData.depth, PyData.depthAll]
  simp
  omega
theorem eqv_two (ns ms : List Int) (bs cs : List Bool) : PyData.eqv (.tuple [.tuple (ns.map .int), .tuple (bs.map .bool)]) (.tuple [.tuple (ms.map .int), .tuple (cs.map .bool)]) = (decide (ns = ms) && decide (bs = cs)) := by
  simp [PyData.eqv, PyData.eqvAll, eqv_ints, eqv_bls]
def spEqP (K : PySem.W.Frag) (C : Addr) : Sp := fun vs H Q _ => ∃ v y ns bs, vs = [v, y] ∧ PlayAt K C H v ns bs ∧ ((∃ ms cs, PlayAt K C H y ms cs ∧ ∀ H', Ex H H' → Q (.bl (decide (ns = ms) && decide (bs = cs))) H') ∨ (∃ xs, Sq K H y xs ∧ Q (.bl false) H))
theorem ok_eq {a_OUTCOMES C_RoundError C_BadPlay C_BadNote C_Play d_Play_0 d_Play_1 : Addr} (T : Tp K mg w a_OUTCOMES C_RoundError C_BadPlay C_BadNote C_Play d_Play_0 d_Play_1) : MetG P w K mg base false 1 C_Play "__eq__" (spEqP K C_Play) ["self", "other"] := by
  refine T.m_Play___eq__.met sc_Play___eq__ (fun vs H Q E h => ?_) (fun f cdv A outer s H vs Q E hr _ h => ?_)
  · obtain ⟨v, y, ns, bs, rfl, _⟩ := h
    rfl
  · obtain ⟨v, y, ns, bs, rfl, ⟨x, dx, p, q, rfl, hx, hp, hq⟩, h⟩ := h
    have sc := sc_Play___eq__
    refine ⟨_, 
    (pss_one (ps_ret (pe_and (pe_callB (kIsi (K := K) rfl) (by rfl) T.m_isinstance (by decide +kernel) (pa_cons (pv 1) (pa_cons (pe_gc (by rfl) T.k_Play) pa_nil))) (pe_one (pe_cmpR (kEq (K := K) rfl hr) (pe_tup (pa_cons (pe_fld (pv 0) rfl) (pa_cons (pe_fld (pv 0) rfl) pa_nil))) (pe_tup (pa_cons (pe_fld (pv 1) rfl) (pa_cons (pe_fld (pv 1) rfl) pa_nil))) (nomark _)))))), ?_⟩
    try rw [cxK]
    refine i_start (τ := [some (.ref x), some y]) rfl ?_
    walk_at "go"
    rcases h with ⟨ms, cs, ⟨y, dy, r, t, rfl, hy, hr', ht⟩, k⟩ | ⟨xs, hs, k⟩
    · refine .inl ⟨_, _, _, _, true, rfl, .own _, T.ty_Play _ _ _ _ hy, kit_self, ?_⟩
      walk_at "go"
      refine ⟨x, C_Play, dx, _, _, rfl, hx, T.cl_Play, T.n_Play_numbers, lk_num, ?_⟩
      walk_at "go"
      refine ⟨x, C_Play, dx, _, _, rfl, hx, T.cl_Play, T.n_Play_outcomes, lk_out, ?_⟩
      walk_at "go"
      intro p1 hp1
      have e1 : Ex H (upd H p1 (.tup [.ref p, .ref q])) := Ex.new hp1
      walk_at "go"
      refine ⟨y, C_Play, dy, _, _, rfl, e1 _ _ hy, T.cl_Play, T.n_Play_numbers, lk_num, ?_⟩
      walk_at "go"
      refine ⟨y, C_Play, dy, _, _, rfl, e1 _ _ hy, T.cl_Play, T.n_Play_outcomes, lk_out, ?_⟩
      walk_at "go"
      intro p2 hp2
      have e2 : Ex (upd H p1 (.tup [.ref p, .ref q])) (upd (upd H p1 (.tup [.ref p, .ref q])) p2 (.tup [.ref r, .ref t])) := Ex.new hp2
      have e12 := e1.trans e2
      refine .inr ⟨_, _, .tup (.of (e2 _ _ upd_same)) (.cons (.tup (sqT_mono e12 hp) (dp_ints ns)) (.cons (.tup (sqT_mono e12 hq) (dp_bls bs)) .nil)), .tup (.of upd_same) (.cons (.tup (sqT_mono e12 hr') (dp_ints ms)) (.cons (.tup (sqT_mono e12 ht) (dp_bls cs)) .nil)), sh_two ns bs, sh_two ms cs, ?_⟩
      rw [eqv_two]
      exact k _ e12
    · obtain ⟨a, rfl, hs | hs⟩ := hs
      · refine .inl ⟨_, _, _, _, false, rfl, .own _, tyL hs, T.kt_Play_list, ?_⟩
        walk_at "go"
        exact k
      · refine .inl ⟨_, _, _, _, false, rfl, .own _, tyT hs, T.kt_Play_tuple, ?_⟩
        walk_at "go"
        exact k
section
variable {H : Hp} {x y : V} {ns ms : List Int} {bs cs : List Bool} {Q : VK}
theorem add_PP {C : Addr} (h1 : PlayAt K C H x ns bs) (h2 : PlayAt K C H y ms cs) (l1 : ns.length + ms.length ≤ 1000) (l2 : bs.length + cs.length ≤ 1000) (q : ∀ v H', Ex H H' → PlayAt K C H' v (ns ++ ms) (bs ++ cs) → Q v H') : rAddI C (spAddP K C) x y H Q := by
  have g1 := h1
  have g2 := h2
  obtain ⟨a, dx, p, q', rfl, hx, _, _⟩ := h1
  obtain ⟨b, dy, r, t, rfl, hy, _, _⟩ := h2
  exact ⟨a, dx, _, b, dy, _, rfl, hx, rfl, hy, _, _, ns, bs, ms, cs, rfl, g1, g2, l1, l2, q⟩
theorem eq_PP {a_OUTCOMES C_RoundError C_BadPlay C_BadNote C_Play d_Play_0 d_Play_1 : Addr} (T : Tp K mg w a_OUTCOMES C_RoundError C_BadPlay C_BadNote C_Play d_Play_0 d_Play_1) (h1 : PlayAt K C_Play H x ns bs) (h2 : PlayAt K C_Play H y ms cs) (q : ∀ H', Ex H H' → Q (.bl (decide (ns = ms) && decide (bs = cs))) H') : rOpI K C_Play (spEqP K C_Play) x y H Q := by
  have g1 := h1
  have g2 := h2
  obtain ⟨a, dx, p, q', rfl, hx, _, _⟩ := h1
  obtain ⟨b, dy, r, t, rfl, hy, _, _⟩ := h2
  exact ⟨a, dx, _, _, rfl, hx, T.ty_Play _ _ _ _ hy, nf_self, _, _, ns, bs, rfl, g1, .inl ⟨ms, cs, g2, q⟩⟩
theorem ne_PP {a_OUTCOMES C_RoundError C_BadPlay C_BadNote C_Play d_Play_0 d_Play_1 : Addr} (T : Tp K mg w a_OUTCOMES C_RoundError C_BadPlay C_BadNote C_Play d_Play_0 d_Play_1) (h1 : PlayAt K C_Play H x ns bs) (h2 : PlayAt K C_Play H y ms cs) (q : ∀ H', Ex H H' → Q (.bl (!(decide (ns = ms) && decide (bs = cs)))) H') : rNeI K C_Play (spEqP K C_Play) x y H Q := by
  have g1 := h1
  have g2 := h2
  obtain ⟨a, dx, p, q', rfl, hx, _, _⟩ := h1
  obtain ⟨b, dy, r, t, rfl, hy, _, _⟩ := h2
  exact ⟨a, dx, _, _, rfl, hx, T.ty_Play _ _ _ _ hy, nf_self, _, _, ns, bs, rfl, g1, .inl ⟨ms, cs, g2, fun H' e => ⟨_, rfl, q H' e⟩⟩⟩
theorem eq_PT {a_OUTCOMES C_RoundError C_BadPlay C_BadNote C_Play d_Play_0 d_Play_1 : Addr} (T : Tp K mg w a_OUTCOMES C_RoundError C_BadPlay C_BadNote C_Play d_Play_0 d_Play_1) {p : Addr} {xs : List V} (h1 : PlayAt K C_Play H x ns bs) (h2 : SqT K H p xs) (q : Q (.bl false) H) : rOpI K C_Play (spEqP K C_Play) x (.ref p) H Q := by
  have g1 := h1
  obtain ⟨a, dx, p', q', rfl, hx, _, _⟩ := h1
  exact ⟨a, dx, _, _, rfl, hx, tyT h2, nf_of T.nf_Play_tuple, _, _, ns, bs, rfl, g1, .inr ⟨xs, .t h2, q⟩⟩
end
end
end K
namespace K
open PySem PySem.Spec PyProof.Rows L2 G TL
local macro_rules | `(tactic| walk_at "side") => `(tactic| focus (first | assumption | exact rfl | omega | decide))
local macro_rules | `(tactic| walk_at "ty") => `(tactic| focus (first | exact .base (.str _) | exact .base (.int _) | exact .base (.bl _) | exact .base .non | exact .base (.lst (by assumption)) | exact .base (.tup (by assumption)) | exact .base (.dK (by assumption)) | assumption))
local macro_rules | `(tactic| walk_at "kt") => `(tactic| focus (with_reducible first | exact kt_NoneType_str | exact kt_NoneType_int | exact kt_NoneType_bool | exact kt_NoneType_tuple | exact kt_NoneType_list | exact kt_NoneType_dict | exact kt_bool_str | exact kt_bool_int | exact kt_bool_bool | exact kt_bool_tuple | exact kt_bool_list | exact kt_bool_dict | exact kt_int_str | exact kt_int_int | exact kt_int_bool | exact kt_int_tuple | exact kt_int_list | exact kt_int_dict | exact kt_str_str | exact kt_str_int | exact kt_str_bool | exact kt_str_tuple | exact kt_str_list | exact kt_str_dict | exact kt_list_str | exact kt_list_int | exact kt_list_bool | exact kt_list_tuple | exact kt_list_list | exact kt_list_dict | exact kt_tuple_str | exact kt_tuple_int | exact kt_tuple_bool | exact kt_tuple_tuple | exact kt_tuple_list | exact kt_tuple_dict | exact kt_dict_str | exact kt_dict_int | exact kt_dict_bool | exact kt_dict_tuple | exact kt_dict_list | exact kt_dict_dict | assumption))
local macro_rules | `(tactic| walk_at "1") => `(tactic| first
  | (with_reducible refine i_seq ?_)
  | (with_reducible refine iteT ?_)
  | (with_reducible refine iteF ?_)
  | (with_reducible refine iteNF ?_)
  | (with_reducible refine iteNT ?_)
  | (with_reducible refine i_asg ?_)
  | (with_reducible refine i_op ?_)
  | (with_reducible refine i_c ?_)
  | ((with_reducible apply i_var); (exact rfl))
  | (with_reducible refine i_cb ?_)
  | (with_reducible refine i_cons ?_)
  | (with_reducible refine i_nil ?_)
  | (with_reducible refine i_test ?_)
  | (with_reducible refine i_b ?_)
  | (with_reducible refine i_bl ?_)
  | (with_reducible refine i_name ?_)
  | (with_reducible refine i_ifS ?_)
  | (with_reducible refine i_next ?_)
  | (with_reducible refine i_ret ?_)
  | (with_reducible refine i_drop ?_)
  | (with_reducible refine i_lst ?_)
  | (with_reducible refine i_tup ?_)
  | (with_reducible refine i_and ?_)
  | (with_reducible refine i_or ?_)
  | (with_reducible refine i_not ?_)
  | (with_reducible refine i_andV ?_)
  | (with_reducible refine i_orV ?_)
  | (with_reducible refine i_notV ?_)
  | (with_reducible refine i_if ?_)
  | (with_reducible refine i_chain ?_)
  | (with_reducible refine i_un ?_)
  | (with_reducible refine i_neg ?_)
  | (with_reducible refine i_sub ?_)
  | (with_reducible refine i_sl ?_)
  | (with_reducible refine i_noP ?_)
  | (with_reducible refine i_part ?_)
  | (with_reducible refine i_int ?_)
  | (with_reducible refine i_bm ?_)
  | (with_reducible refine i_strT ?_)
  | (with_reducible refine i_yes ?_)
  | (with_reducible refine i_call ?_)
  | ((with_reducible refine i_len ?_ ?_); (focus (exact sz (by simp))))
  | (with_reducible refine i_lc ?_)
  | (with_reducible refine i_for ?_)
  | (with_reducible refine i_rng1 ?_)
  | (with_reducible refine i_rng2 ?_)
  | (with_reducible refine l_addI ?_)
  | (with_reducible refine l_subI ?_)
  | (with_reducible refine l_cmp ?_)
  | (with_reducible refine l_eqI ?_)
  | (with_reducible refine l_eqS ?_)
  | (with_reducible refine l_eqB ?_)
  | (with_reducible refine l_neI ?_)
  | (with_reducible refine l_neS ?_)
  | (with_reducible refine l_neB ?_)
  | (with_reducible refine l_isN ?_)
  | (with_reducible refine l_isNotN ?_)
  | (with_reducible refine l_isB ?_)
  | (with_reducible refine l_isNotB ?_)
  | (with_reducible refine l_intI ?_)
  | (with_reducible refine l_intB ?_)
  | (with_reducible refine l_inC ?_)
  | (refine ⟨_, _, rfl, rfl, sz (by first | omega | simp; omega), ?_⟩)
  | ((with_reducible refine l_pow ?_ ?_); (focus (exact ⟨by decide, by decide, by decide⟩)))
  | ((with_reducible refine l_mul ?_ ?_); (focus (first | assumption | exact Or.inl (Or.inl ⟨by omega, by omega⟩) | exact Or.inl (Or.inr ⟨by omega, by omega⟩))))
  | ((with_reducible refine l_div ?_ ?_); (focus (first | assumption | exact ⟨by decide, by decide⟩)))
  | ((with_reducible apply l_setL); (assumption); (exact rfl))
  | ((with_reducible refine l_mod ?_ ?_); (walk_at "side"))
  | ((with_reducible apply l_ixL); (assumption); (exact rfl))
  | ((with_reducible refine l_lenS ?_ ?_); (focus (first | assumption | exact sz (by omega) | exact sz (by simp; omega))))
  | ((with_reducible refine l_slS ?_ ?_); (focus (first | assumption | exact sz (by omega))))
  | ((with_reducible apply l_isi); (walk_at "ty"); (walk_at "kt"))
  | ((with_reducible apply l_lenL); (assumption)))
local macro_rules | `(tactic| walk_at "go") => `(tactic| repeat (walk_at "1"))
local macro_rules | `(tactic| walk_at "1") => `(tactic| first
  | (with_reducible refine i_mkS ?_)
  | (with_reducible refine i_cS ?_)
  | (with_reducible refine i_fld ?_)
  | (with_reducible refine i_sFld ?_)
  | (with_reducible refine i_tX ?_)
  | (with_reducible refine l_len2 rfl rfl ?_))
section
variable {P : Program} {w : World} {K : PySem.W.Frag} {mg : Str → Option Value} {base : Heap}
def letters : Str := "abcdefghijklmnopqrstuvwxyz"
def digits : Str := "0123456789"
theorem inV_strs (z : Str) : ∀ l : List Str, inV (.str z) (l.map V.str) = l.contains z
  | [] => rfl
  | a :: l => by
    have ih := inV_strs z l
    unfold inV at ih ⊢
    rw [List.map_cons, List.any_cons, ih, List.contains_cons]
    show (a == z || _) = _
    rw [Bool.beq_comm]
theorem flat_strs : ∀ l : List Str, (l.map V.str).all flatV = true
  | [] => rfl
  | a :: l => by
    rw [List.map_cons, List.all_cons, flat_strs l]
    rfl
theorem sub_len (x : Str) (lo hi : Nat) (h : lo ≤ hi) (h2 : hi ≤ x.length) : (Builtin.Str.strSub x lo hi).length = hi - lo := by
  unfold Builtin.Str.strSub
  simp [Str.length] at h2 ⊢
  omega
theorem str_nil (x : Str) : x = "" ↔ x.length = 0 := by
  constructor
  · intro h
    rw [h]
    rfl
  · intro h
    refine ext_tl ?_
    rw [len_tl] at h
    rw [List.length_eq_zero_iff.mp h]
    rfl
theorem mem_getD (x : Str) {c : Nat} (h : c ∈ x.cps.toList) : ∃ k, k < x.length ∧ x.cps.getD k 0 = c := by
  obtain ⟨k, e⟩ := List.mem_iff_getElem?.mp h
  have hk := (List.getElem?_eq_some_iff.mp e).1
  refine ⟨k, by rw [len_tl]; exact hk, ?_⟩
  rw [← getD_list, List.getD, e]
  rfl
theorem getD_mem (x : Str) {k : Nat} (h : k < x.length) : x.cps.getD k 0 ∈ x.cps.toList := by
  rw [len_tl] at h
  rw [← getD_list, List.getD, List.getElem?_eq_getElem h]
  exact List.getElem_mem h
/-- x.strip(signs) == '' -/
theorem strip_nil (x y : Str) : Txt.stripChars x y = "" ↔ ∀ c ∈ x.cps.toList, c ∈ y.cps.toList := by
  unfold Txt.stripChars
  rw [PyProof.Rows.stripBy_eq, str_nil]
  obtain ⟨h1, h2, h3⟩ := lo_facts (y.cps.contains) x
  generalize stripLo y.cps.contains true x = lo at h1 h2 h3
  obtain ⟨h4, h5, h6, h7⟩ := hi_facts (y.cps.contains) x lo h1
  generalize stripHi y.cps.contains true x lo = hi at h4 h5 h6 h7
  rw [sub_len x lo hi h4 h5]
  have mem : ∀ c, y.cps.contains c = true ↔ c ∈ y.cps.toList := fun c => by simp
  constructor
  · intro h c hc
    have e : lo = hi := by omega
    subst e
    obtain ⟨k, hk, rfl⟩ := mem_getD x hc
    rw [← mem]
    by_cases h8 : k < lo
    · exact h2 k h8
    · exact h6 k (by omega) hk
  · intro h
    rcases h3 with h3 | h3
    · omega
    · have hl : ¬ lo < x.length := by
        intro hl
        have := (mem _).mpr (h _ (getD_mem x hl))
        rw [h3] at this
        cases this
      omega
theorem all_in (x y : Str) : x.cps.toList.all (fun c => decide (c ∈ y.cps.toList)) = decide (Txt.stripChars x y = "") := by
  rw [Bool.eq_iff_iff, List.all_eq_true, decide_eq_true_iff, strip_nil]
  simp
theorem filter_all {α : Type} (p : α → Bool) (l : List α) : decide (((l.filter p).length : Int) = (l.length : Int)) = l.all p := by
  rw [Bool.eq_iff_iff, decide_eq_true_iff, List.all_eq_true]
  rw [show ((l.filter p).length : Int) = (l.length : Int) ↔ (l.filter p).length = l.length by omega]
  rw [List.length_filter_eq_length_iff]
theorem tl_cut1 (z : Str) : tl (cutS z none (some 1)) = (tl z).take 1 := by
  unfold cutS
  rw [show HT.sIx z.length z.length (some 1) = min 1 z.length from HT.sIx_nat z.length z.length 1, HT.sIx_none]
  show ((tl z).drop 0).take (min 1 z.length - 0) = _
  rw [List.drop_zero, Nat.sub_zero, len_tl]
  cases tl z with
  | nil => rfl
  | cons c r =>
    rw [show min 1 (c :: r).length = 1 by rw [List.length_cons]; omega]
theorem tl_cutd (z : Str) : tl (cutS z (some 1) none) = (tl z).drop 1 := by
  unfold cutS
  rw [show HT.sIx z.length 0 (some 1) = min 1 z.length from HT.sIx_nat z.length 0 1, HT.sIx_none]
  show ((tl z).drop (min 1 z.length)).take (z.length - min 1 z.length) = _
  rw [len_tl]
  cases tl z with
  | nil => rfl
  | cons c r =>
    rw [show min 1 (c :: r).length = 1 by rw [List.length_cons]; omega]
    show (r.take (r.length + 1 - 1)) = r
    rw [Nat.add_sub_cancel, List.take_length]
/-- the word without its sign -/
def signless (z : Str) : Str := if cutS z none (some 1) = "-" then cutS z (some 1) none else z
theorem minus_iff (z : Str) : cutS z none (some 1) = "-" ↔ ∃ r, tl z = 45 :: r := by
  constructor
  · intro h
    have e := tl_cut1 z
    rw [h] at e
    cases hz : tl z with
    | nil =>
      rw [hz] at e
      cases e
    | cons c r =>
      rw [hz] at e
      exact ⟨r, by rw [show c = 45 from (List.cons.inj e).1.symm]⟩
  · rintro ⟨r, h⟩
    refine ext_tl ?_
    rw [tl_cut1, h]
    rfl
theorem signless_neg {z : Str} {r : List Nat} (h : tl z = 45 :: r) : tl (signless z) = r := by
  unfold signless
  rw [if_pos ((minus_iff z).mpr ⟨r, h⟩), tl_cutd, h]
  rfl
theorem signless_pos {z : Str} (h : ∀ r, tl z ≠ 45 :: r) : signless z = z := by
  unfold signless
  rw [if_neg fun e => ?_]
  obtain ⟨r, hr⟩ := (minus_iff z).mp e
  exact h r hr
theorem signless_len (z : Str) : (signless z).length ≤ z.length := by
  unfold signless
  split
  · exact cutS_length z _ _
  · exact Nat.le_refl _
/-- nothing but figures, at least one -/
def digOk (d : Str) : Bool := !decide (d = "") && (tl d).all (fun c => decide (c ∈ tl digits))
theorem dig_mem {c : Nat} : c ∈ tl digits ↔ 48 ≤ c ∧ c ≤ 57 := by
  have e : tl digits = [48, 49, 50, 51, 52, 53, 54, 55, 56, 57] := by decide +kernel
  rw [e]
  simp
  omega
theorem digOk_iff (d : Str) : digOk d = true ↔ d ≠ "" ∧ NumText.AllDigits (tl d) := by
  unfold digOk NumText.AllDigits
  rw [Bool.and_eq_true, List.all_eq_true]
  simp only [decide_eq_true_eq, dig_mem, Bool.not_eq_true', decide_eq_false_iff_not]
instance (l : List Nat) : Decidable (∃ r, l = 48 :: r) := match l with
  | [] => .isFalse fun ⟨_, h⟩ => nomatch h
  | c :: r => if h : c = 48 then .isTrue ⟨r, by rw [h]⟩ else .isFalse fun ⟨_, e⟩ => h (List.cons.inj e).1
/-- a leading zero -/
def lead0 (z : Str) : Bool := decide (∃ r, tl (signless z) = 48 :: r) && !decide (z = "0")
def numOf (z : Str) : Option Int := if (digOk (signless z) && decide ((signless z).length ≤ 40) && !lead0 z) = true then PySem.intText? z else none
def dueOf (z : Str) : Option Int := if (digOk (signless z) && !lead0 z) = true then PySem.intText? z else none
def optV : Option Int → V
  | none => .non
  | some n => .int n
theorem int_is {z : Str} (h : digOk (signless z) = true) (hl : z.length ≤ 4300) : ∃ n, PySem.intText? z = some n := by
  obtain ⟨h1, h2⟩ := (digOk_iff _).mp h
  by_cases hm : ∃ r, tl z = 45 :: r
  · obtain ⟨r, hr⟩ := hm
    rw [signless_neg hr] at h2
    have e := signless_neg hr
    refine ⟨_, intText_neg hr h2 (fun z' => h1 ?_) hl⟩
    rw [z'] at e
    exact ext_tl e
  · have e := signless_pos (z := z) fun r hr => hm ⟨r, hr⟩
    rw [e] at h1 h2
    exact ⟨_, intText_digits h2 (fun z' => h1 (ext_tl z')) hl⟩
theorem sign_eq (c d : Nat) : ((⟨#[c]⟩ : Str) = ⟨#[d]⟩) ↔ c = d := by
  constructor
  · intro h
    have e := congrArg tl h
    exact (List.cons.inj e).1
  · intro h
    rw [h]
theorem sign_48 (c : Nat) : ((⟨#[c]⟩ : Str) = "0") ↔ c = 48 := by
  rw [show (("0" : Str)) = ⟨#[48]⟩ by decide +kernel]
  exact sign_eq c 48
theorem digOk_eq (d : Str) : digOk d = (decide ((1 : Int) ≤ d.length) && decide (Txt.stripChars d digits = "")) := by
  unfold digOk
  rw [all_in]
  congr 1
  rw [Bool.eq_iff_iff]
  simp only [Bool.not_eq_true', decide_eq_false_iff_not, decide_eq_true_eq, str_nil]
  omega
theorem digOk_cons {d : Str} (h : digOk d = true) : ∃ c r, tl d = c :: r := by
  have h1 := ((digOk_iff d).mp h).1
  cases e : tl d with
  | nil => exact absurd (ext_tl (y := "") e) h1
  | cons c r => exact ⟨c, r, rfl⟩
theorem lead0_eq {z d : Str} {c : Nat} {r : List Nat} (hd : signless z = d) (hc : tl d = c :: r) : lead0 z = (decide ((⟨#[c]⟩ : Str) = "0") && !decide (z = "0")) := by
  unfold lead0
  rw [hd, hc]
  congr 1
  rw [Bool.eq_iff_iff]
  simp only [decide_eq_true_eq, sign_48]
  constructor
  · rintro ⟨r', e⟩
    exact (List.cons.inj e).1
  · intro e
    exact ⟨r, by rw [e]⟩
def spNumber : Sp := fun vs H Q _ => ∃ z, vs = [.str z] ∧ z.length ≤ 640 ∧ Q (optV (numOf z)) H
set_option maxHeartbeats 2000000 in
theorem ok_number_of {a_OUTCOMES C_RoundError C_BadPlay C_BadNote C_Play d_Play_0 d_Play_1 : Addr} (T : Tp K mg w a_OUTCOMES C_RoundError C_BadPlay C_BadNote C_Play d_Play_0 d_Play_1) : Cal P w K mg base 1 "number_of" spNumber [] := by
  refine T.d_number_of.cal sc_number_of (fun vs H Q E h => ?_) (fun f cdv A outer s H vs Q E hr h => ?_)
  · obtain ⟨x, rfl, _⟩ := h
    rfl
  · obtain ⟨z, rfl, hz, q⟩ := h
    have sc := sc_number_of
    refine ⟨_, 
    (pss_cons (ps_set (i := 1) sc.nd rfl (by first | exact Or.inl rfl | exact Or.inr rfl) (pe_cut (pe_ifExp (pt_cmpR (kEq (K := K) rfl hr) (pe_slice (kSl (K := K) rfl) (pv 0) po_none (po_some (pe_int))) (pe_str) (nomark _)) (pe_slice (kSl (K := K) rfl) (pv 0) (po_some (pe_int)) po_none) (pv 0))))
    (pss_cons (ps_if (pt_cut (PW.pt (pw_or (pt_not (pt_chain gLe gLe (pe_int) (pe_callB (kLen (K := K) rfl) (by rfl) T.m_len PySem.boot_len (pa_cons (pv 1) pa_nil)) (pe_gc (by rfl) T.c_MOST_DIGITS))) (pw_or1 (pt_cmpR (kNe (K := K) rfl hr) (kBm (K := K) rfl PySem.F.plainAttrs_str PySem.F.slot_str_strip PySem.F.type_str_strip mt_stripChars (pv 1) (pa_cons (pe_gc (by rfl) T.c_DIGITS) pa_nil)) (pe_str) (nomark _)))))) (
      (pss_one (ps_ret (pe_non)))) (pss_nil))
    (pss_cons (ps_if (pt_cut (PW.pt (pw_and (pt_cmpR (kNe (K := K) rfl hr) (pv 0) (pe_str) (nomark _)) (pw_and1 (pt_cmpR (kEq (K := K) rfl hr) (pe_ix (kIx (K := K) rfl) (pv 1) (pe_int) (fun _ _ => rfl)) (pe_str) (nomark _)))))) (
      (pss_one (ps_ret (pe_non)))) (pss_nil))
    (pss_one (ps_ret (pe_callTy g_int (by rfl) T.m_int (by decide +kernel) (pa_cons (pv 0) pa_nil))))))), ?_⟩
    try rw [cxK]
    refine i_start (τ := [some (.str z), none]) rfl ?_
    have hd := signless_len z
    walk_at "go"
    refine i_isE (.str (signless z)) ?_ ?_
    · walk_at "go"
      refine i_ite (fun h => ?_) (fun h => ?_)
      · walk_at "go"
        exact ⟨by unfold signless; rw [if_pos h], rfl⟩
      · walk_at "go"
        exact ⟨by unfold signless; rw [if_neg h], rfl⟩
    generalize hdd : signless z = d at hd
    walk_at "go"
    refine i_isT (!(digOk d && decide (d.length ≤ 40))) ?_ ?_
    · rw [digOk_eq]
      walk_at "go"
      refine i_ite (fun h1 => ?_) (fun h1 => ?_)
      · walk_at "go"
        refine i_iteN (fun h2 => ?_) (fun h2 => ?_)
        · exact ⟨by rw [decide_eq_false (show ¬ d.length ≤ 40 by omega)]; simp, rfl⟩
        · walk_at "go"
          exact ⟨by rw [decide_eq_true h1, decide_eq_true (show d.length ≤ 40 by omega), Bool.true_and, Bool.and_true]; rfl, rfl⟩
      · walk_at "go"
        exact ⟨by rw [decide_eq_false h1]; rfl, rfl⟩
    refine i_iteBN (fun h1 => ?_) (fun h1 => ?_)
    · walk_at "go"
      rw [show numOf z = none by unfold numOf; rw [hdd, h1]; rfl] at q
      exact q
    · walk_at "go"
      obtain ⟨h1a, h1b⟩ := Bool.and_eq_true_iff.mp h1
      obtain ⟨c, r, hc⟩ := digOk_cons h1a
      refine i_isT (lead0 z) ?_ ?_
      · walk_at "go"
        refine i_iteN (fun h2 => ?_) (fun h2 => ?_)
        · walk_at "go"
          refine l_ixS (c := c) (sz (by omega)) (by show atI (tl d) 0 = some c; rw [hc]; exact atI_nat (j := 0) rfl) ?_
          walk_at "go"
          exact ⟨by rw [lead0_eq hdd hc, decide_eq_false h2]; simp, rfl⟩
        · exact ⟨by rw [lead0_eq hdd hc, decide_eq_true h2]; simp, rfl⟩
      obtain ⟨n, hn⟩ := int_is (z := z) (by rw [hdd]; exact h1a) (by omega)
      have e : numOf z = if (!lead0 z) = true then some n else none := by
        unfold numOf
        rw [hdd, h1, hn]
        simp
      rw [e] at q
      refine i_iteB (fun h2 => ?_) (fun h2 => ?_)
      · walk_at "go"
        rw [h2] at q
        exact q
      · walk_at "go"
        rw [h2] at q
        exact l_intS hn hz q
/-- how a number is written -/
structure Wr (w : Str) : Prop where
  ex : ∃ n : Nat, (numL n).length ≤ 40 ∧ (tl w = numL n ∨ tl w = 45 :: numL n)
theorem wr_of {n : Int} (h : n.natAbs < 10 ^ 40) : Wr (toString n : String) := by
  refine ⟨n.natAbs, numL_len (by decide) h, ?_⟩
  cases n with
  | ofNat n => exact .inl (tl_num n)
  | negSucc n =>
    right
    show tl (Str.ofString (toString (Int.negSucc n))) = 45 :: numL (n + 1)
    rw [toString_neg (Int.negSucc_lt_zero n), show (0 : Int) - Int.negSucc n = ((n + 1 : Nat) : Int) by omega, ← tl_num, Str.ofString_eq_toList, Str.ofString_eq_toList]
    show ((("-" ++ toString ((n + 1 : Nat) : Int)).toList).map Char.toNat) = 45 :: ((toString ((n + 1 : Nat) : Int)).toList.map Char.toNat)
    rw [String.toList_append]
    rfl
theorem num_sign {n : Nat} {r : List Nat} : numL n ≠ 45 :: r := fun e => by
  have := numL_digits n 45 (by rw [e]; exact List.mem_cons_self ..)
  omega
theorem not_dig {d : Str} {c : Nat} (hc : c ∈ tl d) (h : c < 48 ∨ 57 < c) : digOk d = true → False := fun e => by
  have := ((digOk_iff d).mp e).2 c hc
  omega
theorem Wr.len {w : Str} (h : Wr w) : w.length ≤ 41 := by
  obtain ⟨n, h1, h2 | h2⟩ := h.ex
  · rw [len_tl, h2]; omega
  · rw [len_tl, h2, List.length_cons]; omega
theorem Wr.cons {w : Str} (h : Wr w) : ∃ c r, tl w = c :: r := by
  obtain ⟨n, h1, h2 | h2⟩ := h.ex
  · cases e : numL n with
    | nil => exact absurd e (numL_ne n)
    | cons c r => exact ⟨c, r, h2.trans e⟩
  · exact ⟨_, _, h2⟩
end
end K
namespace K
open PySem PySem.Spec PyProof.Rows L2 G TL
local macro_rules | `(tactic| walk_at "side") => `(tactic| focus (first | assumption | exact rfl | omega | decide))
local macro_rules | `(tactic| walk_at "ty") => `(tactic| focus (first | exact .base (.str _) | exact .base (.int _) | exact .base (.bl _) | exact .base .non | exact .base (.lst (by assumption)) | exact .base (.tup (by assumption)) | exact .base (.dK (by assumption)) | assumption))
local macro_rules | `(tactic| walk_at "kt") => `(tactic| focus (with_reducible first | exact kt_NoneType_str | exact kt_NoneType_int | exact kt_NoneType_bool | exact kt_NoneType_tuple | exact kt_NoneType_list | exact kt_NoneType_dict | exact kt_bool_str | exact kt_bool_int | exact kt_bool_bool | exact kt_bool_tuple | exact kt_bool_list | exact kt_bool_dict | exact kt_int_str | exact kt_int_int | exact kt_int_bool | exact kt_int_tuple | exact kt_int_list | exact kt_int_dict | exact kt_str_str | exact kt_str_int | exact kt_str_bool | exact kt_str_tuple | exact kt_str_list | exact kt_str_dict | exact kt_list_str | exact kt_list_int | exact kt_list_bool | exact kt_list_tuple | exact kt_list_list | exact kt_list_dict | exact kt_tuple_str | exact kt_tuple_int | exact kt_tuple_bool | exact kt_tuple_tuple | exact kt_tuple_list | exact kt_tuple_dict | exact kt_dict_str | exact kt_dict_int | exact kt_dict_bool | exact kt_dict_tuple | exact kt_dict_list | exact kt_dict_dict | assumption))
local macro_rules | `(tactic| walk_at "1") => `(tactic| first
  | (with_reducible refine i_seq ?_)
  | (with_reducible refine iteT ?_)
  | (with_reducible refine iteF ?_)
  | (with_reducible refine iteNF ?_)
  | (with_reducible refine iteNT ?_)
  | (with_reducible refine i_asg ?_)
  | (with_reducible refine i_op ?_)
  | (with_reducible refine i_c ?_)
  | ((with_reducible apply i_var); (exact rfl))
  | (with_reducible refine i_cb ?_)
  | (with_reducible refine i_cons ?_)
  | (with_reducible refine i_nil ?_)
  | (with_reducible refine i_test ?_)
  | (with_reducible refine i_b ?_)
  | (with_reducible refine i_bl ?_)
  | (with_reducible refine i_name ?_)
  | (with_reducible refine i_ifS ?_)
  | (with_reducible refine i_next ?_)
  | (with_reducible refine i_ret ?_)
  | (with_reducible refine i_drop ?_)
  | (with_reducible refine i_lst ?_)
  | (with_reducible refine i_tup ?_)
  | (with_reducible refine i_and ?_)
  | (with_reducible refine i_or ?_)
  | (with_reducible refine i_not ?_)
  | (with_reducible refine i_andV ?_)
  | (with_reducible refine i_orV ?_)
  | (with_reducible refine i_notV ?_)
  | (with_reducible refine i_if ?_)
  | (with_reducible refine i_chain ?_)
  | (with_reducible refine i_un ?_)
  | (with_reducible refine i_neg ?_)
  | (with_reducible refine i_sub ?_)
  | (with_reducible refine i_sl ?_)
  | (with_reducible refine i_noP ?_)
  | (with_reducible refine i_part ?_)
  | (with_reducible refine i_int ?_)
  | (with_reducible refine i_bm ?_)
  | (with_reducible refine i_strT ?_)
  | (with_reducible refine i_yes ?_)
  | (with_reducible refine i_call ?_)
  | ((with_reducible refine i_len ?_ ?_); (focus (exact sz (by simp))))
  | (with_reducible refine i_lc ?_)
  | (with_reducible refine i_for ?_)
  | (with_reducible refine i_rng1 ?_)
  | (with_reducible refine i_rng2 ?_)
  | (with_reducible refine l_addI ?_)
  | (with_reducible refine l_subI ?_)
  | (with_reducible refine l_cmp ?_)
  | (with_reducible refine l_eqI ?_)
  | (with_reducible refine l_eqS ?_)
  | (with_reducible refine l_eqB ?_)
  | (with_reducible refine l_neI ?_)
  | (with_reducible refine l_neS ?_)
  | (with_reducible refine l_neB ?_)
  | (with_reducible refine l_isN ?_)
  | (with_reducible refine l_isNotN ?_)
  | (with_reducible refine l_isB ?_)
  | (with_reducible refine l_isNotB ?_)
  | (with_reducible refine l_intI ?_)
  | (with_reducible refine l_intB ?_)
  | (with_reducible refine l_inC ?_)
  | (refine ⟨_, _, rfl, rfl, sz (by first | omega | simp; omega), ?_⟩)
  | ((with_reducible refine l_pow ?_ ?_); (focus (exact ⟨by decide, by decide, by decide⟩)))
  | ((with_reducible refine l_mul ?_ ?_); (focus (first | assumption | exact Or.inl (Or.inl ⟨by omega, by omega⟩) | exact Or.inl (Or.inr ⟨by omega, by omega⟩))))
  | ((with_reducible refine l_div ?_ ?_); (focus (first | assumption | exact ⟨by decide, by decide⟩)))
  | ((with_reducible apply l_setL); (assumption); (exact rfl))
  | ((with_reducible refine l_mod ?_ ?_); (walk_at "side"))
  | ((with_reducible apply l_ixL); (assumption); (exact rfl))
  | ((with_reducible refine l_lenS ?_ ?_); (focus (first | assumption | exact sz (by omega) | exact sz (by simp; omega))))
  | ((with_reducible refine l_slS ?_ ?_); (focus (first | assumption | exact sz (by omega))))
  | ((with_reducible apply l_isi); (walk_at "ty"); (walk_at "kt"))
  | ((with_reducible apply l_lenL); (assumption)))
local macro_rules | `(tactic| walk_at "go") => `(tactic| repeat (walk_at "1"))
local macro_rules | `(tactic| walk_at "1") => `(tactic| first
  | (with_reducible refine i_mkS ?_)
  | (with_reducible refine i_cS ?_)
  | (with_reducible refine i_fld ?_)
  | (with_reducible refine i_sFld ?_)
  | (with_reducible refine i_tX ?_)
  | (with_reducible refine l_len2 rfl rfl ?_))
section
variable {P : Program} {w : World} {K : PySem.W.Frag} {mg : Str → Option Value} {base : Heap}
def spNw (K : PySem.W.Frag) (CB : Addr) : Sp := fun vs H Q E => ∃ x, vs = [x] ∧ ((∃ z, x = .str z ∧ z.length ≤ 90000 ∧ ∀ p, H p = none → Q (.ref p) (upd H p (.lst ((Txt.split z " ").map V.str)))) ∨
  ((∃ t, TyX K H x t ∧ PySem.W.kitOne K t (.type "str") = some false) ∧ ∀ d, H d = none → E (.ref CB) (some d) (upd H d (.xd [("value", x)]))))
theorem ok_nw {a_OUTCOMES C_RoundError C_BadPlay C_BadNote C_Play d_Play_0 d_Play_1 : Addr} (T : Tp K mg w a_OUTCOMES C_RoundError C_BadPlay C_BadNote C_Play d_Play_0 d_Play_1) : CalG P w K mg base false 3 "note_words" (spNw K C_BadNote) 1 [] (fun vs _ => vs) := by
  refine T.d_note_words.calX sc_note_words (fun vs H Q E h => ?_) (fun f cdv A outer s H vs Q E hr gd h => ?_)
  · obtain ⟨x, rfl, _⟩ := h
    rfl
  · obtain ⟨x, rfl, h⟩ := h
    have sc := sc_note_words
    refine ⟨_, 
    (pss_cons (ps_if (pt_not (pt_val (pe_callB (kIsi (K := K) rfl) (by rfl) T.m_isinstance (by decide +kernel) (pa_cons (pv 0) (pa_cons (gTy (n := "str") (by rfl) T.m_str (by decide +kernel)) pa_nil))))) (
      (pss_one (ps_raise rfl (takes_of rfl rfl rfl rfl) (pmk_x (T.x_BadNote P w base) hr (by decide) (by rfl) (pa_cons (pv 0) pa_nil))))) (pss_nil))
    (pss_one (ps_ret (pe_split (pv 0) (pe_str))))), ?_⟩
    try rw [cxK]
    refine i_start (τ := [some x]) rfl ?_
    rcases h with ⟨z, rfl, hz, q⟩ | ⟨⟨t, ty, hk⟩, q⟩
    · walk_at "go"
      refine i_var rfl ⟨⟨z, rfl⟩, i_c ⟨z, _, rfl, rfl, by decide, sz (by omega), q⟩⟩
    · walk_at "go"
      exact ⟨x, rfl, q⟩
theorem lstrip_lo (z y : Str) : ∃ lo, lo ≤ z.length ∧ (Txt.lstripChars z y).length = z.length - lo ∧ (∀ k, k < lo → y.cps.contains (z.cps.getD k 0) = true) ∧ (lo = z.length ∨ y.cps.contains (z.cps.getD lo 0) = false) := by
  unfold Txt.lstripChars
  rw [PyProof.Rows.stripBy_eq]
  obtain ⟨h1, h2, h3⟩ := lo_facts (y.cps.contains) z
  generalize stripLo y.cps.contains true z = lo at h1 h2 h3
  refine ⟨lo, h1, ?_, h2, h3⟩
  have e : stripHi y.cps.contains false z lo = z.length := by
    first | rfl | simp [stripHi]
  rw [e, sub_len z lo _ h1 (Nat.le_refl _)]
theorem lstrip_len (z y : Str) : (Txt.lstripChars z y).length ≤ z.length := by
  obtain ⟨lo, h1, h2, _⟩ := lstrip_lo z y
  omega
def noteNum (z : Str) : Option Int := if ((Txt.lstripChars z "-").length : Int) > 40 then none else numOf z
def spNn : Sp := fun vs H Q _ => ∃ z, vs = [.str z] ∧ z.length ≤ 640 ∧ Q (optV (noteNum z)) H
theorem ok_nn {a_OUTCOMES C_RoundError C_BadPlay C_BadNote C_Play d_Play_0 d_Play_1 : Addr} (T : Tp K mg w a_OUTCOMES C_RoundError C_BadPlay C_BadNote C_Play d_Play_0 d_Play_1) : Cal P w K mg base 2 "note_number" spNn [] := by
  have c_number_of : Cal P w K mg base 1 "number_of" spNumber [] := ok_number_of T
  refine T.d_note_number.cal sc_note_number (fun vs H Q E h => ?_) (fun f cdv A outer s H vs Q E hr h => ?_)
  · obtain ⟨z, rfl, _⟩ := h
    rfl
  · obtain ⟨z, rfl, hz, q⟩ := h
    have sc := sc_note_number
    refine ⟨_, 
    (pss_cons (ps_if (pt_cmpR gGt (pe_callB (kLen (K := K) rfl) (by rfl) T.m_len PySem.boot_len (pa_cons (kBm (K := K) rfl PySem.F.plainAttrs_str PySem.F.slot_str_lstrip PySem.F.type_str_lstrip mt_lstripChars (pv 0) (pa_cons (pe_str) pa_nil)) pa_nil)) (pe_gc (by rfl) T.c_MOST_FIGURES) (nomark _)) (
      (pss_one (ps_ret (pe_non)))) (pss_nil))
    (pss_one (ps_ret (pe_c c_number_of hr (by decide) (by rfl) (pa_cons (pv 0) pa_nil))))), ?_⟩
    try rw [cxK]
    refine i_start (τ := [some (.str z)]) rfl ?_
    walk_at "go"
    refine l_lenS (sz (Nat.le_trans (lstrip_len z _) (by omega))) ?_
    walk_at "go"
    refine i_ite (fun h => ?_) (fun h => ?_)
    · walk_at "go"
      rw [show noteNum z = none from if_pos h] at q
      exact q
    · walk_at "go"
      rw [show noteNum z = numOf z from if_neg h] at q
      exact ⟨z, rfl, hz, q⟩
def oWord (b : Bool) : Str := if b then "yes" else "no"
def spOw : Sp := fun vs H Q _ => ∃ b, vs = [.bl b] ∧ Q (.str (oWord b)) H
theorem ok_ow {a_OUTCOMES C_RoundError C_BadPlay C_BadNote C_Play d_Play_0 d_Play_1 : Addr} (T : Tp K mg w a_OUTCOMES C_RoundError C_BadPlay C_BadNote C_Play d_Play_0 d_Play_1) : Cal P w K mg base 1 "outcome_word" spOw [] := by
  refine T.d_outcome_word.cal sc_outcome_word (fun vs H Q E h => ?_) (fun f cdv A outer s H vs Q E hr h => ?_)
  · obtain ⟨z, rfl, _⟩ := h
    rfl
  · obtain ⟨b, rfl, q⟩ := h
    have sc := sc_outcome_word
    refine ⟨_, 
    (pss_one (ps_ret (pe_cut (pe_ifExp (kTruth (K := K) rfl (pv 0) (by intro _; rfl)) (pe_str) (pe_str))))), ?_⟩
    try rw [cxK]
    refine i_start (τ := [some (.bl b)]) rfl ?_
    walk_at "go"
    refine i_isE (.str (oWord b)) ?_ q
    walk_at "go"
    refine ⟨b, rfl, i_iteB (fun e => ?_) (fun e => ?_)⟩
    · subst e
      exact ⟨rfl, rfl⟩
    · subst e
      exact ⟨rfl, rfl⟩
end
end K
namespace K
open PySem PySem.Spec PyProof.Rows L2 G TL
local macro_rules | `(tactic| walk_at "side") => `(tactic| focus (first | assumption | exact rfl | omega | decide))
local macro_rules | `(tactic| walk_at "ty") => `(tactic| focus (first | exact .base (.str _) | exact .base (.int _) | exact .base (.bl _) | exact .base .non | exact .base (.lst (by assumption)) | exact .base (.tup (by assumption)) | exact .base (.dK (by assumption)) | assumption))
local macro_rules | `(tactic| walk_at "kt") => `(tactic| focus (with_reducible first | exact kt_NoneType_str | exact kt_NoneType_int | exact kt_NoneType_bool | exact kt_NoneType_tuple | exact kt_NoneType_list | exact kt_NoneType_dict | exact kt_bool_str | exact kt_bool_int | exact kt_bool_bool | exact kt_bool_tuple | exact kt_bool_list | exact kt_bool_dict | exact kt_int_str | exact kt_int_int | exact kt_int_bool | exact kt_int_tuple | exact kt_int_list | exact kt_int_dict | exact kt_str_str | exact kt_str_int | exact kt_str_bool | exact kt_str_tuple | exact kt_str_list | exact kt_str_dict | exact kt_list_str | exact kt_list_int | exact kt_list_bool | exact kt_list_tuple | exact kt_list_list | exact kt_list_dict | exact kt_tuple_str | exact kt_tuple_int | exact kt_tuple_bool | exact kt_tuple_tuple | exact kt_tuple_list | exact kt_tuple_dict | exact kt_dict_str | exact kt_dict_int | exact kt_dict_bool | exact kt_dict_tuple | exact kt_dict_list | exact kt_dict_dict | assumption))
local macro_rules | `(tactic| walk_at "1") => `(tactic| first
  | (with_reducible refine i_seq ?_)
  | (with_reducible refine iteT ?_)
  | (with_reducible refine iteF ?_)
  | (with_reducible refine iteNF ?_)
  | (with_reducible refine iteNT ?_)
  | (with_reducible refine i_asg ?_)
  | (with_reducible refine i_op ?_)
  | (with_reducible refine i_c ?_)
  | ((with_reducible apply i_var); (exact rfl))
  | (with_reducible refine i_cb ?_)
  | (with_reducible refine i_cons ?_)
  | (with_reducible refine i_nil ?_)
  | (with_reducible refine i_test ?_)
  | (with_reducible refine i_b ?_)
  | (with_reducible refine i_bl ?_)
  | (with_reducible refine i_name ?_)
  | (with_reducible refine i_ifS ?_)
  | (with_reducible refine i_next ?_)
  | (with_reducible refine i_ret ?_)
  | (with_reducible refine i_drop ?_)
  | (with_reducible refine i_lst ?_)
  | (with_reducible refine i_tup ?_)
  | (with_reducible refine i_and ?_)
  | (with_reducible refine i_or ?_)
  | (with_reducible refine i_not ?_)
  | (with_reducible refine i_andV ?_)
  | (with_reducible refine i_orV ?_)
  | (with_reducible refine i_notV ?_)
  | (with_reducible refine i_if ?_)
  | (with_reducible refine i_chain ?_)
  | (with_reducible refine i_un ?_)
  | (with_reducible refine i_neg ?_)
  | (with_reducible refine i_sub ?_)
  | (with_reducible refine i_sl ?_)
  | (with_reducible refine i_noP ?_)
  | (with_reducible refine i_part ?_)
  | (with_reducible refine i_int ?_)
  | (with_reducible refine i_bm ?_)
  | (with_reducible refine i_strT ?_)
  | (with_reducible refine i_yes ?_)
  | (with_reducible refine i_call ?_)
  | ((with_reducible refine i_len ?_ ?_); (focus (exact sz (by simp))))
  | (with_reducible refine i_lc ?_)
  | (with_reducible refine i_for ?_)
  | (with_reducible refine i_rng1 ?_)
  | (with_reducible refine i_rng2 ?_)
  | (with_reducible refine l_addI ?_)
  | (with_reducible refine l_subI ?_)
  | (with_reducible refine l_cmp ?_)
  | (with_reducible refine l_eqI ?_)
  | (with_reducible refine l_eqS ?_)
  | (with_reducible refine l_eqB ?_)
  | (with_reducible refine l_neI ?_)
  | (with_reducible refine l_neS ?_)
  | (with_reducible refine l_neB ?_)
  | (with_reducible refine l_isN ?_)
  | (with_reducible refine l_isNotN ?_)
  | (with_reducible refine l_isB ?_)
  | (with_reducible refine l_isNotB ?_)
  | (with_reducible refine l_intI ?_)
  | (with_reducible refine l_intB ?_)
  | (with_reducible refine l_inC ?_)
  | (refine ⟨_, _, rfl, rfl, sz (by first | omega | simp; omega), ?_⟩)
  | ((with_reducible refine l_pow ?_ ?_); (focus (exact ⟨by decide, by decide, by decide⟩)))
  | ((with_reducible refine l_mul ?_ ?_); (focus (first | assumption | exact Or.inl (Or.inl ⟨by omega, by omega⟩) | exact Or.inl (Or.inr ⟨by omega, by omega⟩))))
  | ((with_reducible refine l_div ?_ ?_); (focus (first | assumption | exact ⟨by decide, by decide⟩)))
  | ((with_reducible apply l_setL); (assumption); (exact rfl))
  | ((with_reducible refine l_mod ?_ ?_); (walk_at "side"))
  | ((with_reducible apply l_ixL); (assumption); (exact rfl))
  | ((with_reducible refine l_lenS ?_ ?_); (focus (first | assumption | exact sz (by omega) | exact sz (by simp; omega))))
  | ((with_reducible refine l_slS ?_ ?_); (focus (first | assumption | exact sz (by omega))))
  | ((with_reducible apply l_isi); (walk_at "ty"); (walk_at "kt"))
  | ((with_reducible apply l_lenL); (assumption)))
local macro_rules | `(tactic| walk_at "go") => `(tactic| repeat (walk_at "1"))
local macro_rules | `(tactic| walk_at "1") => `(tactic| first
  | (with_reducible refine i_mkS ?_)
  | (with_reducible refine i_cS ?_)
  | (with_reducible refine i_fld ?_)
  | (with_reducible refine i_sFld ?_)
  | (with_reducible refine i_tX ?_)
  | (with_reducible refine l_len2 rfl rfl ?_))
section
variable {P : Program} {w : World} {K : PySem.W.Frag} {mg : Str → Option Value} {base : Heap}
def nW (n : Int) : Str := (toString n : String)
def lineOf (ns : List Int) (bs : List Bool) : List Str := (ns.map nW ++ [("/" : Str)]) ++ bs.map oWord
def strN : V → V
  | .int n => .str (nW n)
  | _ => .non
def strB : V → V
  | .bl b => .str (oWord b)
  | _ => .non
theorem nW_len {n : Int} (h : n.natAbs < 10 ^ 40) : (nW n).length ≤ 41 := (wr_of h).len
theorem oW_len (b : Bool) : (oWord b).length ≤ 3 := by cases b <;> decide
theorem sum_le {l : List Str} {B : Nat} : (∀ x ∈ l, x.length ≤ B) → (l.map (·.length)).sum ≤ B * l.length := by
  induction l with
  | nil => intro _; simp
  | cons a l ih =>
    intro h
    have h1 := h a List.mem_cons_self
    have h2 := ih fun x hx => h x (List.mem_cons_of_mem _ hx)
    rw [List.map_cons, List.sum_cons, List.length_cons, Nat.mul_add]
    omega
theorem line_len {ns : List Int} {bs : List Bool} (bn : ∀ n ∈ ns, n.natAbs < 10 ^ 40) : ∀ x ∈ lineOf ns bs, x.length ≤ 41 := fun x hx => by
  unfold lineOf at hx
  simp only [List.mem_append, List.mem_map, List.mem_singleton] at hx
  rcases hx with (⟨n, hn, rfl⟩ | rfl) | ⟨b, hb, rfl⟩
  · exact nW_len (bn n hn)
  · decide
  · exact Nat.le_trans (oW_len b) (by decide)
theorem log_of {n : Int} (h : n.natAbs < 10 ^ 40) : n.natAbs.log2 < 1920 := by
  by_cases h0 : n.natAbs = 0
  · rw [h0]
    decide
  · have h1 : n.natAbs.log2 < 140 := (Nat.log2_lt h0).mpr (Nat.lt_trans h (by decide))
    omega
def spWr (K : PySem.W.Frag) (C : Addr) : Sp := fun vs H Q _ => ∃ v ns bs, vs = [v] ∧ PlayAt K C H v ns bs ∧ ns.length ≤ 100 ∧ bs.length ≤ 100 ∧ (∀ n ∈ ns, n.natAbs < 10 ^ 40) ∧ ∀ H', Ex H H' → Q (.str (Txt.join " " (lineOf ns bs))) H'
theorem ok_wr {a_OUTCOMES C_RoundError C_BadPlay C_BadNote C_Play d_Play_0 d_Play_1 : Addr} (T : Tp K mg w a_OUTCOMES C_RoundError C_BadPlay C_BadNote C_Play d_Play_0 d_Play_1) : Cal P w K mg base 2 "write_play" (spWr K C_Play) [] := by
  have c_outcome_word : Cal P w K mg base 1 "outcome_word" spOw [] := ok_ow T
  refine T.d_write_play.cal sc_write_play (fun vs H Q E h => ?_) (fun f cdv A outer s H vs Q E hr h => ?_)
  · obtain ⟨v, ns, bs, rfl, _⟩ := h
    rfl
  · obtain ⟨v, ns, bs, rfl, ⟨x, dx, p, q, rfl, hx, hp, hq⟩, l1, l2, bn, k⟩ := h
    have sc := sc_write_play
    refine ⟨_, 
    (pss_cons (ps_set (i := 1) sc.nd rfl (by first | exact Or.inl rfl | exact Or.inr rfl) (pe_op (kAdd (K := K) rfl) (pe_lc (own := [("number", 2)]) (by rfl) sc.nd (kIT (K := K) rfl (pe_fld (pv 0) rfl)) (blkOk_by (N := ["play", "words", "number", "outcome"]) (sc := defScope s_write_play) (by decide +kernel)) (fun _ _ _ _ _ => pg_name (i := 2) sc.nd rfl (by first | exact Or.inl rfl | exact Or.inr rfl)) (fun _ _ _ _ _ => pts_nil) (fun _ _ _ _ _ => pe_callTy g_str (by rfl) T.m_str (by decide +kernel) (pa_cons (pv 2) pa_nil))) (pe_lst (pa_cons (pe_str) pa_nil))))
    (pss_one (ps_ret (pe_join (pe_str) (pe_op (kAdd (K := K) rfl) (pv 1) (pe_lc (own := [("outcome", 3)]) (by rfl) sc.nd (kIT (K := K) rfl (pe_fld (pv 0) rfl)) (blkOk_by (N := ["play", "words", "number", "outcome"]) (sc := defScope s_write_play) (by decide +kernel)) (fun _ _ _ _ _ => pg_name (i := 3) sc.nd rfl (by first | exact Or.inl rfl | exact Or.inr rfl)) (fun _ _ _ _ _ => pts_nil) (fun _ _ _ _ _ => pe_c c_outcome_word hr (by decide) (by rfl) (pa_cons (pv 3) pa_nil)))))))), ?_⟩
    try rw [cxK]
    refine i_start (τ := [some (.ref x), none, none, none]) rfl ?_
    walk_at "go"
    refine i_anyT (i_fld (i_var rfl ⟨x, C_Play, dx, _, _, rfl, hx, T.cl_Play, T.n_Play_numbers, lk_num, p, rfl, ⟨_, hp⟩, lc_mapT (f := strN) hp (by simp; omega) (fun _ => rfl) (fun y hy H' R e r => ?_) fun D1 H1 hD1 e1 h1 => ?_⟩))
    · obtain ⟨n, hn, rfl⟩ := List.mem_map.mp hy
      exact i_cb (i_cons (i_var rfl (i_nil (l_strI (log_of (bn n hn)) (r H' (Ex.refl H'))))))
    have m1 : (ns.map V.int).map strN = (ns.map nW).map V.str := by rw [List.map_map, List.map_map]; rfl
    rw [m1] at h1
    walk_at "go"
    intro w1 hw1
    have e2 : Ex H1 (upd H1 w1 (.lst [.str "/"])) := Ex.new hw1
    refine l_addL (e2 _ _ h1) upd_same (by simp; omega) fun w2 hw2 => ?_
    have e3 : Ex (upd H1 w1 (.lst [.str "/"])) (upd (upd H1 w1 (.lst [.str "/"])) w2 (.lst ((ns.map nW).map V.str ++ [.str "/"]))) := Ex.new hw2
    have h2 : (upd (upd H1 w1 (.lst [.str "/"])) w2 (.lst ((ns.map nW).map V.str ++ [.str "/"]))) w2 = some (.lst ((ns.map nW).map V.str ++ [.str "/"])) := upd_same
    generalize (upd (upd H1 w1 (.lst [.str "/"])) w2 (.lst ((ns.map nW).map V.str ++ [.str "/"]))) = H2 at e3 h2 ⊢
    have e02 := e1.trans (e2.trans e3)
    walk_at "go"
    refine i_c ⟨⟨_, rfl⟩, ?_⟩
    walk_at "go"
    refine i_anyT (i_fld (i_var rfl ⟨x, C_Play, dx, _, _, rfl, e02 _ _ hx, T.cl_Play, T.n_Play_outcomes, lk_out, q, rfl, ⟨_, sqT_mono e02 hq⟩, lc_mapT (f := strB) (sqT_mono e02 hq) (by simp; omega) (fun _ => rfl) (fun y hy H' R e r => ?_) fun D3 H3 hD3 e4 h3 => ?_⟩))
    · obtain ⟨n, hn, rfl⟩ := List.mem_map.mp hy
      exact i_call (i_cons (i_var rfl (i_nil ⟨n, rfl, r H' (Ex.refl H')⟩)))
    have m2 : (bs.map V.bl).map strB = (bs.map oWord).map V.str := by rw [List.map_map, List.map_map]; rfl
    rw [m2] at h3
    refine l_addL (e4 _ _ h2) h3 (by simp; omega) fun w4 hw4 => ?_
    have hl := line_len (ns := ns) (bs := bs) bn
    have hn : (lineOf ns bs).length ≤ 201 := by unfold lineOf; simp; omega
    have hs := sum_le hl
    refine ⟨_, w4, lineOf ns bs, rfl, rfl, .inl (.of ?_), ?_, k _ (e02.trans (e4.trans (Ex.new hw4)))⟩
    · rw [upd_same]
      unfold lineOf
      simp
    · show _ + _ * 1 ≤ _
      omega
end
end K
namespace K
open PySem PySem.Spec PyProof.Rows L2 G TL
local macro_rules | `(tactic| walk_at "side") => `(tactic| focus (first | assumption | exact rfl | omega | decide))
local macro_rules | `(tactic| walk_at "ty") => `(tactic| focus (first | exact .base (.str _) | exact .base (.int _) | exact .base (.bl _) | exact .base .non | exact .base (.lst (by assumption)) | exact .base (.tup (by assumption)) | exact .base (.dK (by assumption)) | assumption))
local macro_rules | `(tactic| walk_at "kt") => `(tactic| focus (with_reducible first | exact kt_NoneType_str | exact kt_NoneType_int | exact kt_NoneType_bool | exact kt_NoneType_tuple | exact kt_NoneType_list | exact kt_NoneType_dict | exact kt_bool_str | exact kt_bool_int | exact kt_bool_bool | exact kt_bool_tuple | exact kt_bool_list | exact kt_bool_dict | exact kt_int_str | exact kt_int_int | exact kt_int_bool | exact kt_int_tuple | exact kt_int_list | exact kt_int_dict | exact kt_str_str | exact kt_str_int | exact kt_str_bool | exact kt_str_tuple | exact kt_str_list | exact kt_str_dict | exact kt_list_str | exact kt_list_int | exact kt_list_bool | exact kt_list_tuple | exact kt_list_list | exact kt_list_dict | exact kt_tuple_str | exact kt_tuple_int | exact kt_tuple_bool | exact kt_tuple_tuple | exact kt_tuple_list | exact kt_tuple_dict | exact kt_dict_str | exact kt_dict_int | exact kt_dict_bool | exact kt_dict_tuple | exact kt_dict_list | exact kt_dict_dict | assumption))
local macro_rules | `(tactic| walk_at "1") => `(tactic| first
  | (with_reducible refine i_seq ?_)
  | (with_reducible refine iteT ?_)
  | (with_reducible refine iteF ?_)
  | (with_reducible refine iteNF ?_)
  | (with_reducible refine iteNT ?_)
  | (with_reducible refine i_asg ?_)
  | (with_reducible refine i_op ?_)
  | (with_reducible refine i_c ?_)
  | ((with_reducible apply i_var); (exact rfl))
  | (with_reducible refine i_cb ?_)
  | (with_reducible refine i_cons ?_)
  | (with_reducible refine i_nil ?_)
  | (with_reducible refine i_test ?_)
  | (with_reducible refine i_b ?_)
  | (with_reducible refine i_bl ?_)
  | (with_reducible refine i_name ?_)
  | (with_reducible refine i_ifS ?_)
  | (with_reducible refine i_next ?_)
  | (with_reducible refine i_ret ?_)
  | (with_reducible refine i_drop ?_)
  | (with_reducible refine i_lst ?_)
  | (with_reducible refine i_tup ?_)
  | (with_reducible refine i_and ?_)
  | (with_reducible refine i_or ?_)
  | (with_reducible refine i_not ?_)
  | (with_reducible refine i_andV ?_)
  | (with_reducible refine i_orV ?_)
  | (with_reducible refine i_notV ?_)
  | (with_reducible refine i_if ?_)
  | (with_reducible refine i_chain ?_)
  | (with_reducible refine i_un ?_)
  | (with_reducible refine i_neg ?_)
  | (with_reducible refine i_sub ?_)
  | (with_reducible refine i_sl ?_)
  | (with_reducible refine i_noP ?_)
  | (with_reducible refine i_part ?_)
  | (with_reducible refine i_int ?_)
  | (with_reducible refine i_bm ?_)
  | (with_reducible refine i_strT ?_)
  | (with_reducible refine i_yes ?_)
  | (with_reducible refine i_call ?_)
  | ((with_reducible refine i_len ?_ ?_); (focus (exact sz (by simp))))
  | (with_reducible refine i_lc ?_)
  | (with_reducible refine i_for ?_)
  | (with_reducible refine i_rng1 ?_)
  | (with_reducible refine i_rng2 ?_)
  | (with_reducible refine l_addI ?_)
  | (with_reducible refine l_subI ?_)
  | (with_reducible refine l_cmp ?_)
  | (with_reducible refine l_eqI ?_)
  | (with_reducible refine l_eqS ?_)
  | (with_reducible refine l_eqB ?_)
  | (with_reducible refine l_neI ?_)
  | (with_reducible refine l_neS ?_)
  | (with_reducible refine l_neB ?_)
  | (with_reducible refine l_isN ?_)
  | (with_reducible refine l_isNotN ?_)
  | (with_reducible refine l_isB ?_)
  | (with_reducible refine l_isNotB ?_)
  | (with_reducible refine l_intI ?_)
  | (with_reducible refine l_intB ?_)
  | (with_reducible refine l_inC ?_)
  | (refine ⟨_, _, rfl, rfl, sz (by first | omega | simp; omega), ?_⟩)
  | ((with_reducible refine l_pow ?_ ?_); (focus (exact ⟨by decide, by decide, by decide⟩)))
  | ((with_reducible refine l_mul ?_ ?_); (focus (first | assumption | exact Or.inl (Or.inl ⟨by omega, by omega⟩) | exact Or.inl (Or.inr ⟨by omega, by omega⟩))))
  | ((with_reducible refine l_div ?_ ?_); (focus (first | assumption | exact ⟨by decide, by decide⟩)))
  | ((with_reducible apply l_setL); (assumption); (exact rfl))
  | ((with_reducible refine l_mod ?_ ?_); (walk_at "side"))
  | ((with_reducible apply l_ixL); (assumption); (exact rfl))
  | ((with_reducible refine l_lenS ?_ ?_); (focus (first | assumption | exact sz (by omega) | exact sz (by simp; omega))))
  | ((with_reducible refine l_slS ?_ ?_); (focus (first | assumption | exact sz (by omega))))
  | ((with_reducible apply l_isi); (walk_at "ty"); (walk_at "kt"))
  | ((with_reducible apply l_lenL); (assumption)))
local macro_rules | `(tactic| walk_at "go") => `(tactic| repeat (walk_at "1"))
local macro_rules | `(tactic| walk_at "1") => `(tactic| first
  | (with_reducible refine i_mkS ?_)
  | (with_reducible refine i_cS ?_)
  | (with_reducible refine i_fld ?_)
  | (with_reducible refine i_sFld ?_)
  | (with_reducible refine i_tX ?_)
  | (with_reducible refine l_len2 rfl rfl ?_))
section
variable {P : Program} {w : World} {K : PySem.W.Frag} {mg : Str → Option Value} {base : Heap}
def outV (w : Str) : V := (([("yes", .bl true), ("no", .bl false)] : List (Str × V)).lookup w).getD .non
def numV (w : Str) : V := optV (noteNum w)
def numS : V → V
  | .str w => numV w
  | _ => .non
def outS : V → V
  | .str w => outV w
  | _ => .non
/-- what a line is read as -/
def Reads2 (ws : List Str) (ns : List Int) (bs : List Bool) : Prop := ∃ A B : List Str, ws = A ++ ("/" : Str) :: B ∧ ("/" : Str) ∉ A ∧ A.map numV = ns.map V.int ∧ B.map outV = bs.map V.bl
def Fails (ws : List Str) : Prop := ("/" : Str) ∉ ws ∨ ∃ A B : List Str, ws = A ++ ("/" : Str) :: B ∧ ("/" : Str) ∉ A ∧ ((∃ w ∈ A, numV w = .non) ∨ ∃ w ∈ B, outV w = .non)
def spRd (K : PySem.W.Frag) (C CB : Addr) : Sp := fun vs H Q E => ∃ x, vs = [x] ∧
  (((∃ t, TyX K H x t ∧ PySem.W.kitOne K t (.type "str") = some false) ∧ ∀ H' d, Ex H H' → H' d = none → E (.ref CB) (some d) (upd H' d (.xd [("value", x)]))) ∨
   (∃ z, x = .str z ∧ z.length ≤ 90000 ∧ (∀ w ∈ Txt.split z " ", w.length ≤ 640) ∧ (Txt.split z " ").length ≤ 900 ∧
     ((Fails (Txt.split z " ") ∧ ∀ H' d, Ex H H' → H' d = none → E (.ref CB) (some d) (upd H' d (.xd [("value", x)]))) ∨
      ∃ ns bs, Reads2 (Txt.split z " ") ns bs ∧ ∀ v H', Ex H H' → PlayAt K C H' v ns bs → Q v H')))
theorem outV_is (w : Str) : (w = "yes" ∧ outV w = .bl true) ∨ (w = "no" ∧ outV w = .bl false) ∨ (w ≠ "yes" ∧ w ≠ "no" ∧ outV w = .non) := by
  unfold outV
  rw [lookup_put, lookup_put]
  by_cases h1 : w = "yes"
  · exact .inl ⟨h1, by rw [if_pos h1]; rfl⟩
  · rw [if_neg h1]
    by_cases h2 : w = "no"
    · exact .inr (.inl ⟨h2, by rw [if_pos h2]; rfl⟩)
    · exact .inr (.inr ⟨h1, h2, by rw [if_neg h2]; rfl⟩)
theorem flat_num (w : Str) : flatV (numV w) = true := by
  unfold numV
  cases noteNum w <;> rfl
theorem flat_out (w : Str) : flatV (outV w) = true := by
  rcases outV_is w with ⟨_, h⟩ | ⟨_, h⟩ | ⟨_, _, h⟩ <;> rw [h] <;> rfl
theorem flat_both (A B : List Str) : (A.map numV ++ B.map outV).all flatV = true := by
  rw [List.all_eq_true]
  intro x hx
  rcases List.mem_append.mp hx with h | h
  · obtain ⟨w, _, rfl⟩ := List.mem_map.mp h
    exact flat_num w
  · obtain ⟨w, _, rfl⟩ := List.mem_map.mp h
    exact flat_out w
theorem non_in {A B : List Str} (h : (∃ w ∈ A, numV w = .non) ∨ ∃ w ∈ B, outV w = .non) : inV .non (A.map numV ++ B.map outV) = true := by
  unfold inV
  rw [List.any_eq_true]
  rcases h with ⟨w, hw, e⟩ | ⟨w, hw, e⟩
  · exact ⟨_, List.mem_append_left _ (List.mem_map_of_mem hw), by rw [e]; rfl⟩
  · exact ⟨_, List.mem_append_right _ (List.mem_map_of_mem hw), by rw [e]; rfl⟩
theorem non_out (ns : List Int) (bs : List Bool) : inV .non (ns.map V.int ++ bs.map V.bl) = false := by
  unfold inV
  rw [List.any_eq_false]
  intro x hx
  rcases List.mem_append.mp hx with h | h
  · obtain ⟨w, _, rfl⟩ := List.mem_map.mp h
    exact Bool.false_ne_true
  · obtain ⟨w, _, rfl⟩ := List.mem_map.mp h
    exact Bool.false_ne_true
theorem ok_rd {a_OUTCOMES C_RoundError C_BadPlay C_BadNote C_Play d_Play_0 d_Play_1 : Addr} (T : Tp K mg w a_OUTCOMES C_RoundError C_BadPlay C_BadNote C_Play d_Play_0 d_Play_1) : CalG P w K mg base false 6 "read_play" (spRd K C_Play C_BadNote) 1 [] (fun vs _ => vs) := by
  have c_note_words := ok_nw (P := P) (w := w) (base := base) T
  have c_note_number : Cal P w K mg base 2 "note_number" spNn [] := ok_nn T
  have c_Play_2 := mk_Play_2 (P := P) (w := w) (base := base) T
  refine T.d_read_play.calX sc_read_play (fun vs H Q E h => ?_) (fun f cdv A outer s H vs Q E hr gd h => ?_)
  · obtain ⟨x, rfl, _⟩ := h
    rfl
  · obtain ⟨x, rfl, h⟩ := h
    have sc := sc_read_play
    refine ⟨_, 
    (pss_cons (ps_set (i := 1) sc.nd rfl (by first | exact Or.inl rfl | exact Or.inr rfl) (pe_cS c_note_words hr (by decide) (fun e => nomatch e) (takes_of rfl rfl rfl rfl) (by rfl) (pa_cons (pv 0) pa_nil)))
    (pss_cons (ps_if (pt_cmpR (kNotIn (K := K) rfl hr) (pe_str) (pv 1) (by rfl)) (
      (pss_one (ps_raise rfl (takes_of rfl rfl rfl rfl) (pmk_x (T.x_BadNote P w base) hr (by decide) (by rfl) (pa_cons (pv 0) pa_nil))))) (pss_nil))
    (pss_cons (ps_set (i := 2) sc.nd rfl (by first | exact Or.inl rfl | exact Or.inr rfl) (kBm (K := K) rfl PySem.F.plainAttrs_list PySem.F.slot_list_index PySem.F.type_list_index mt_index (pv 1) (pa_cons (pe_str) pa_nil)))
    (pss_cons (ps_setLc (i := 3) (own := [("word", 4)]) (by rfl) sc.nd rfl rfl (sw_true rfl rfl rfl (by decide +kernel)) (kIT (K := K) rfl (pe_slice (kSl (K := K) rfl) (pv 1) po_none (po_some (pv 2)))) (blkOk_by (N := ["line", "words", "at", "numbers", "word", "outcomes"]) (sc := defScope s_read_play) (by decide +kernel)) (fun _ _ _ _ _ => pg_name (i := 4) sc.nd rfl (by first | exact Or.inl rfl | exact Or.inr rfl)) (fun _ _ _ _ _ => pts_nil) (fun _ _ _ _ _ => pe_c c_note_number hr (by decide) (by rfl) (pa_cons (pv 4) pa_nil)))
    (pss_cons (ps_setLc (i := 5) (own := [("word", 4)]) (by rfl) sc.nd rfl rfl (sw_true rfl rfl rfl (by decide +kernel)) (kIT (K := K) rfl (pe_slice (kSl (K := K) rfl) (pv 1) (po_some (pe_op (kAdd (K := K) rfl) (pv 2) (pe_int))) po_none)) (blkOk_by (N := ["line", "words", "at", "numbers", "word", "outcomes"]) (sc := defScope s_read_play) (by decide +kernel)) (fun _ _ _ _ _ => pg_name (i := 4) sc.nd rfl (by first | exact Or.inl rfl | exact Or.inr rfl)) (fun _ _ _ _ _ => pts_nil) (fun _ _ _ _ _ => pe_wget T.w_OUTCOMES (pe_gc (by rfl) T.c_OUTCOMES) (pv 4) (pe_non) ⟨rfl, rfl, rfl, rfl⟩))
    (pss_cons (ps_if (pt_cmpR (kIn (K := K) rfl hr) (pe_non) (pe_op (kAdd (K := K) rfl) (pv 3) (pv 5)) (by rfl)) (
      (pss_one (ps_raise rfl (takes_of rfl rfl rfl rfl) (pmk_x (T.x_BadNote P w base) hr (by decide) (by rfl) (pa_cons (pv 0) pa_nil))))) (pss_nil))
    (pss_one (ps_ret (pe_mkS c_Play_2 hr (by decide) (takes_of rfl rfl rfl rfl) (by rfl) (pa_cons (pv 3) (pa_cons (pv 5) pa_nil))))))))))), ?_⟩
    try rw [cxK]
    refine i_start (τ := [some x, none, none, none, none, none]) rfl ?_
    rcases h with ⟨hk, q⟩ | ⟨z, rfl, hz, hw, hn, h⟩
    · walk_at "go"
      exact ⟨x, rfl, .inr ⟨hk, fun d hd => q H d (Ex.refl H) hd⟩⟩
    · walk_at "go"
      refine ⟨_, rfl, .inl ⟨z, rfl, hz, fun p hp => ?_⟩⟩
      generalize Txt.split z " " = ws at hw hn h ⊢
      have e1 : Ex H (upd H p (.lst (ws.map V.str))) := Ex.new hp
      have hP : (upd H p (.lst (ws.map V.str))) p = some (.lst (ws.map V.str)) := upd_same
      generalize (upd H p (.lst (ws.map V.str))) = H1 at e1 hP ⊢
      walk_at "go"
      refine l_notInL (.of hP) rfl (flat_strs ws) ?_
      rw [inV_strs]
      walk_at "go"
      by_cases hin : ("/" : Str) ∈ ws
      · rw [show ws.contains ("/" : Str) = true from List.contains_iff_mem.mpr hin]
        walk_at "go"
        have h2 : ∃ A B : List Str, ws = A ++ ("/" : Str) :: B ∧ ("/" : Str) ∉ A ∧ ((((∃ w ∈ A, numV w = .non) ∨ ∃ w ∈ B, outV w = .non) ∧ ∀ H' d, Ex H H' → H' d = none → E (.ref C_BadNote) (some d) (upd H' d (.xd [("value", .str z)]))) ∨
            ∃ ns bs, A.map numV = ns.map V.int ∧ B.map outV = bs.map V.bl ∧ ∀ v H', Ex H H' → PlayAt K C_Play H' v ns bs → Q v H') := by
          rcases h with ⟨hf | ⟨A, B, h1, h2, h3⟩, q⟩ | ⟨ns, bs, ⟨A, B, h1, h2, h3, h4⟩, q⟩
          · exact absurd hin hf
          · exact ⟨A, B, h1, h2, .inl ⟨h3, q⟩⟩
          · exact ⟨A, B, h1, h2, .inr ⟨ns, bs, h3, h4, q⟩⟩
        obtain ⟨A, B, rfl, nA, h2⟩ := h2
        have lAB : A.length + B.length + 1 ≤ 900 := by simp at hn; omega
        refine ⟨.inl ⟨rfl, _, .of hP⟩, ?_⟩
        walk_at "go"
        refine ⟨p, _, _, A.length, .str "/", rfl, rfl, .of hP, rfl, flat_strs _, by simp, by decide, fun m z' hm hz' => ?_, ?_⟩
        · rw [List.getElem?_map, List.getElem?_append_left hm] at hz'
          cases ha : A[m]? with
          | none => rw [ha] at hz'; cases hz'
          | some w =>
            rw [ha] at hz'
            cases hz'
            show (w == ("/" : Str)) = false
            exact beq_eq_false_iff_ne.mpr fun e => nA (e ▸ List.mem_of_getElem? ha)
        walk_at "go"
        -- numbers
        refine i_anyL ?_
        walk_at "go"
        refine l_slL (.of hP) fun w1 hw1 => ?_
        rw [cut_lo _ _ (by simp), ← List.map_take, List.take_left]
        have E1 : Ex H1 (upd H1 w1 (.lst (A.map V.str))) := Ex.new hw1
        have W1 : (upd H1 w1 (.lst (A.map V.str))) w1 = some (.lst (A.map V.str)) := upd_same
        generalize (upd H1 w1 (.lst (A.map V.str))) = J1 at E1 W1 ⊢
        refine ⟨w1, rfl, ⟨_, .of W1⟩, lc_mapL (f := numS) (.of W1) (by simp; omega) (fun _ => rfl) (fun y hy H' R e r => ?_) fun D1 J2 hD1 E2 h1 => ?_⟩
        · obtain ⟨n, hn', rfl⟩ := List.mem_map.mp hy
          exact i_call (i_cons (i_var rfl (i_nil ⟨n, rfl, hw n (List.mem_append_left _ hn'), r H' (Ex.refl H')⟩)))
        rw [List.map_map, show (numS ∘ V.str) = numV from rfl] at h1
        have hP2 := (E1.trans E2) _ _ hP
        walk_at "go"
        refine i_anyL ?_
        walk_at "go"
        refine l_slL (.of hP2) fun w3 hw3 => ?_
        rw [show ((A.length : Int) + 1) = ((A.length + 1 : Nat) : Int) by omega, cut_hi _ _ (by simp), ← List.map_drop, show (A ++ ("/" : Str) :: B).drop (A.length + 1) = B by simp]
        have E3 : Ex J2 (upd J2 w3 (.lst (B.map V.str))) := Ex.new hw3
        have W3 : (upd J2 w3 (.lst (B.map V.str))) w3 = some (.lst (B.map V.str)) := upd_same
        generalize (upd J2 w3 (.lst (B.map V.str))) = J3 at E3 W3 ⊢
        refine ⟨w3, rfl, ⟨_, .of W3⟩, lc_mapL (f := outS) (.of W3) (by simp; omega) (fun _ => rfl) (fun y hy H' R e r => ?_) fun D2 J4 hD2 E4 h3 => ?_⟩
        · obtain ⟨n, hn', rfl⟩ := List.mem_map.mp hy
          exact i_c ⟨rfl, i_var rfl (i_c ⟨n, rfl, r H' (Ex.refl H')⟩)⟩
        rw [List.map_map, show (outS ∘ V.str) = outV from rfl] at h3
        have h1' := (E3.trans E4) _ _ h1
        have e04 := e1.trans (E1.trans (E2.trans (E3.trans E4)))
        walk_at "go"
        refine l_addL h1' h3 (by simp; omega) fun w5 hw5 => ?_
        have E5 : Ex J4 (upd J4 w5 (.lst (A.map numV ++ B.map outV))) := Ex.new hw5
        have W5 : (upd J4 w5 (.lst (A.map numV ++ B.map outV))) w5 = some (.lst (A.map numV ++ B.map outV)) := upd_same
        generalize (upd J4 w5 (.lst (A.map numV ++ B.map outV))) = J5 at E5 W5 ⊢
        refine l_inL (.of W5) rfl (flat_both A B) ?_
        rcases h2 with ⟨h2, q⟩ | ⟨ns, bs, hA, hB, q⟩
        · rw [non_in h2]
          walk_at "go"
          exact ⟨_, rfl, fun d hd => q J5 d (e04.trans E5) hd⟩
        · rw [hA, hB, non_out]
          walk_at "go"
          have i1 := E5 _ _ h1'
          have i3 := E5 _ _ h3
          rw [hA] at i1
          rw [hB] at i3
          have n1 : ns.length = A.length := by simpa using (congrArg List.length hA).symm
          have n2 : bs.length = B.length := by simpa using (congrArg List.length hB).symm
          exact play_new (.l (.of i1)) (.l (.of i3)) (by omega) (by omega) fun v H' e hv => q (.ref v) H' (e04.trans (E5.trans e)) hv
      · rw [show ws.contains ("/" : Str) = false from Bool.eq_false_iff.mpr fun e => hin (List.contains_iff_mem.mp e)]
        walk_at "go"
        rcases h with ⟨_, q⟩ | ⟨ns, bs, ⟨A, B, rfl, _⟩, _⟩
        · exact ⟨_, rfl, fun d hd => q H1 d e1 hd⟩
        · exact absurd (by simp) hin
end
end K
namespace K
open PySem PySem.Spec PyProof.Rows L2 G TL
local macro_rules | `(tactic| walk_at "side") => `(tactic| focus (first | assumption | exact rfl | omega | decide))
local macro_rules | `(tactic| walk_at "ty") => `(tactic| focus (first | exact .base (.str _) | exact .base (.int _) | exact .base (.bl _) | exact .base .non | exact .base (.lst (by assumption)) | exact .base (.tup (by assumption)) | exact .base (.dK (by assumption)) | assumption))
local macro_rules | `(tactic| walk_at "kt") => `(tactic| focus (with_reducible first | exact kt_NoneType_str | exact kt_NoneType_int | exact kt_NoneType_bool | exact kt_NoneType_tuple | exact kt_NoneType_list | exact kt_NoneType_dict | exact kt_bool_str | exact kt_bool_int | exact kt_bool_bool | exact kt_bool_tuple | exact kt_bool_list | exact kt_bool_dict | exact kt_int_str | exact kt_int_int | exact kt_int_bool | exact kt_int_tuple | exact kt_int_list | exact kt_int_dict | exact kt_str_str | exact kt_str_int | exact kt_str_bool | exact kt_str_tuple | exact kt_str_list | exact kt_str_dict | exact kt_list_str | exact kt_list_int | exact kt_list_bool | exact kt_list_tuple | exact kt_list_list | exact kt_list_dict | exact kt_tuple_str | exact kt_tuple_int | exact kt_tuple_bool | exact kt_tuple_tuple | exact kt_tuple_list | exact kt_tuple_dict | exact kt_dict_str | exact kt_dict_int | exact kt_dict_bool | exact kt_dict_tuple | exact kt_dict_list | exact kt_dict_dict | assumption))
local macro_rules | `(tactic| walk_at "1") => `(tactic| first
  | (with_reducible refine i_seq ?_)
  | (with_reducible refine iteT ?_)
  | (with_reducible refine iteF ?_)
  | (with_reducible refine iteNF ?_)
  | (with_reducible refine iteNT ?_)
  | (with_reducible refine i_asg ?_)
  | (with_reducible refine i_op ?_)
  | (with_reducible refine i_c ?_)
  | ((with_reducible apply i_var); (exact rfl))
  | (with_reducible refine i_cb ?_)
  | (with_reducible refine i_cons ?_)
  | (with_reducible refine i_nil ?_)
  | (with_reducible refine i_test ?_)
  | (with_reducible refine i_b ?_)
  | (with_reducible refine i_bl ?_)
  | (with_reducible refine i_name ?_)
  | (with_reducible refine i_ifS ?_)
  | (with_reducible refine i_next ?_)
  | (with_reducible refine i_ret ?_)
  | (with_reducible refine i_drop ?_)
  | (with_reducible refine i_lst ?_)
  | (with_reducible refine i_tup ?_)
  | (with_reducible refine i_and ?_)
  | (with_reducible refine i_or ?_)
  | (with_reducible refine i_not ?_)
  | (with_reducible refine i_andV ?_)
  | (with_reducible refine i_orV ?_)
  | (with_reducible refine i_notV ?_)
  | (with_reducible refine i_if ?_)
  | (with_reducible refine i_chain ?_)
  | (with_reducible refine i_un ?_)
  | (with_reducible refine i_neg ?_)
  | (with_reducible refine i_sub ?_)
  | (with_reducible refine i_sl ?_)
  | (with_reducible refine i_noP ?_)
  | (with_reducible refine i_part ?_)
  | (with_reducible refine i_int ?_)
  | (with_reducible refine i_bm ?_)
  | (with_reducible refine i_strT ?_)
  | (with_reducible refine i_yes ?_)
  | (with_reducible refine i_call ?_)
  | ((with_reducible refine i_len ?_ ?_); (focus (exact sz (by simp))))
  | (with_reducible refine i_lc ?_)
  | (with_reducible refine i_for ?_)
  | (with_reducible refine i_rng1 ?_)
  | (with_reducible refine i_rng2 ?_)
  | (with_reducible refine l_addI ?_)
  | (with_reducible refine l_subI ?_)
  | (with_reducible refine l_cmp ?_)
  | (with_reducible refine l_eqI ?_)
  | (with_reducible refine l_eqS ?_)
  | (with_reducible refine l_eqB ?_)
  | (with_reducible refine l_neI ?_)
  | (with_reducible refine l_neS ?_)
  | (with_reducible refine l_neB ?_)
  | (with_reducible refine l_isN ?_)
  | (with_reducible refine l_isNotN ?_)
  | (with_reducible refine l_isB ?_)
  | (with_reducible refine l_isNotB ?_)
  | (with_reducible refine l_intI ?_)
  | (with_reducible refine l_intB ?_)
  | (with_reducible refine l_inC ?_)
  | (refine ⟨_, _, rfl, rfl, sz (by first | omega | simp; omega), ?_⟩)
  | ((with_reducible refine l_pow ?_ ?_); (focus (exact ⟨by decide, by decide, by decide⟩)))
  | ((with_reducible refine l_mul ?_ ?_); (focus (first | assumption | exact Or.inl (Or.inl ⟨by omega, by omega⟩) | exact Or.inl (Or.inr ⟨by omega, by omega⟩))))
  | ((with_reducible refine l_div ?_ ?_); (focus (first | assumption | exact ⟨by decide, by decide⟩)))
  | ((with_reducible apply l_setL); (assumption); (exact rfl))
  | ((with_reducible refine l_mod ?_ ?_); (walk_at "side"))
  | ((with_reducible apply l_ixL); (assumption); (exact rfl))
  | ((with_reducible refine l_lenS ?_ ?_); (focus (first | assumption | exact sz (by omega) | exact sz (by simp; omega))))
  | ((with_reducible refine l_slS ?_ ?_); (focus (first | assumption | exact sz (by omega))))
  | ((with_reducible apply l_isi); (walk_at "ty"); (walk_at "kt"))
  | ((with_reducible apply l_lenL); (assumption)))
local macro_rules | `(tactic| walk_at "go") => `(tactic| repeat (walk_at "1"))
local macro_rules | `(tactic| walk_at "1") => `(tactic| first
  | (with_reducible refine i_mkS ?_)
  | (with_reducible refine i_cS ?_)
  | (with_reducible refine i_fld ?_)
  | (with_reducible refine i_sFld ?_)
  | (with_reducible refine i_tX ?_)
  | (with_reducible refine l_len2 rfl rfl ?_))
section
variable {P : Program} {w : World} {K : PySem.W.Frag} {mg : Str → Option Value} {base : Heap}
def spInteger : Sp := fun vs H Q _ => ∃ (st L : Addr) (b : Nat), vs = [.ref st] ∧ Dl H st L b ∧ b < 2 ^ 50 ∧ ∀ (n : Int) (H' : Hp), n.natAbs < 10 ^ 40 → Dl H' st L (b + 50) → But st H H' → Q (.int n) H'
set_option maxHeartbeats 4000000 in
theorem ok_integer {a_OUTCOMES C_RoundError C_BadPlay C_BadNote C_Play d_Play_0 d_Play_1 : Addr} (T : Tp K mg w a_OUTCOMES C_RoundError C_BadPlay C_BadNote C_Play d_Play_0 d_Play_1) : Cal P w K mg base 2 "_law_number" spInteger [] := by
  have c__law_draw : Cal P w K mg base 1 "_law_draw" spDrawL [] := ok_draw T
  refine T.d__law_number.cal sc__law_number (fun vs H Q E h => ?_) (fun f cdv A outer s H vs Q E hr h => ?_)
  · obtain ⟨st, L, b, rfl, _⟩ := h
    rfl
  · obtain ⟨st, L, b, rfl, hD, hb, q⟩ := h
    have sc := sc__law_number
    refine ⟨_, 
    (pss_cons (ps_set (i := 1) sc.nd rfl (by first | exact Or.inl rfl | exact Or.inr rfl) (pe_int))
    (pss_cons (ps_for PassesOwn.never rfl (pi_range1 (by rfl) T.m_range (pa_cons (pe_op (kAdd (K := K) rfl) (pe_int) (pe_c c__law_draw hr (by decide) (by rfl) (pa_cons (pv 0) (pa_cons (pe_int) pa_nil)))) pa_nil)) (pg_name (i := 2) sc.nd rfl (by first | exact Or.inl rfl | exact Or.inr rfl)) (
      (pss_one (ps_set (i := 1) sc.nd rfl (by first | exact Or.inl rfl | exact Or.inr rfl) (pe_op (kAdd (K := K) rfl) (pe_op gMul (pv 1) (pe_int)) (pe_c c__law_draw hr (by decide) (by rfl) (pa_cons (pv 0) (pa_cons (pe_int) pa_nil))))))))
    (pss_one (ps_ret (pe_op gMul (pv 1) (pe_ix (kIx (K := K) rfl) (pe_lst (pa_cons (pe_int) (pa_cons (pe_un un_neg (pe_int)) pa_nil))) (pe_c c__law_draw hr (by decide) (by rfl) (pa_cons (pv 0) (pa_cons (pe_int) pa_nil))) (fun _ _ => rfl))))))), ?_⟩
    try rw [cxK]
    refine i_start (τ := [some (.ref st), none, none]) rfl ?_
    walk_at "go"
    refine drawL hD (by omega) (by omega) (by omega) (fun n H1 n0 n1 d1 b1 => ?_)
    walk_at "go"
    refine ⟨_, rfl, by omega, by omega, ?_⟩
    refine for_rng (fun i σ H' => ∃ (z : Int) (v2 : Option V), σ = [some (.ref st), some (.int z), v2] ∧ 0 ≤ z ∧ z < 10 ^ i ∧ Dl H' st L (b + 1 + i) ∧ But st H H') ?_ ?_ ?_
    · exact ⟨0, none, rfl, by omega, by decide, d1, b1⟩
    · rintro i σ H' hi ⟨z, v2, rfl, z0, z1, d2, b2⟩
      walk_at "go"
      refine drawL d2 (by omega) (by omega) (by omega) (fun r H3 r0 r1 d3 b3 => ?_)
      walk_at "go"
      refine ⟨_, _, rfl, by omega, ?_, d3.up (by omega), b2.trans b3⟩
      rw [Int.pow_succ]
      omega
    · rintro σ H' ⟨z, v2, rfl, z0, z1, d2, b2⟩
      have hz : z < 10 ^ 40 := by
        refine Int.lt_of_lt_of_le z1 ?_
        have e : (1 + n).toNat ≤ 40 := by omega
        rw [show ((10 : Int) ^ (1 + n).toNat) = ((10 ^ (1 + n).toNat : Nat) : Int) by simp, show ((10 : Int) ^ 40) = ((10 ^ 40 : Nat) : Int) by decide]
        exact Int.ofNat_le.mpr (Nat.pow_le_pow_right (by decide) e)
      walk_at "go"
      intro p hp
      have x3 : Ex H' (upd H' p (.lst [.int 1, .int (-1)])) := Ex.new hp
      walk_at "go"
      refine drawL (d2.mono x3) (by omega) (by omega) (by omega) (fun r H4 r0 r1 d4 b4 => ?_)
      obtain ⟨y, hy, ey⟩ := at_list (xs := [V.int 1, V.int (-1)]) r0 (by simpa using r1)
      refine l_ixL (b4 _ _ (d2.ne hp).1 upd_same) ey ?_
      have fin : ∀ m : Int, m = z ∨ m = -z → Q (.int m) H4 := fun m hm => q m H4 (by omega) (d4.up (by omega)) ((b2.trans x3.but).trans b4)
      simp only [List.mem_cons, List.not_mem_nil, or_false] at hy
      rcases hy with rfl | rfl
      · refine l_mul (.inl (.inr ⟨by omega, by omega⟩)) (fin _ (by omega))
      · refine l_mul (.inl (.inr ⟨by omega, by omega⟩)) (fin _ (by omega))
end
end K
namespace K
open PySem PySem.Spec PyProof.Rows L2 G TL
local macro_rules | `(tactic| walk_at "side") => `(tactic| focus (first | assumption | exact rfl | omega | decide))
local macro_rules | `(tactic| walk_at "ty") => `(tactic| focus (first | exact .base (.str _) | exact .base (.int _) | exact .base (.bl _) | exact .base .non | exact .base (.lst (by assumption)) | exact .base (.tup (by assumption)) | exact .base (.dK (by assumption)) | assumption))
local macro_rules | `(tactic| walk_at "kt") => `(tactic| focus (with_reducible first | exact kt_NoneType_str | exact kt_NoneType_int | exact kt_NoneType_bool | exact kt_NoneType_tuple | exact kt_NoneType_list | exact kt_NoneType_dict | exact kt_bool_str | exact kt_bool_int | exact kt_bool_bool | exact kt_bool_tuple | exact kt_bool_list | exact kt_bool_dict | exact kt_int_str | exact kt_int_int | exact kt_int_bool | exact kt_int_tuple | exact kt_int_list | exact kt_int_dict | exact kt_str_str | exact kt_str_int | exact kt_str_bool | exact kt_str_tuple | exact kt_str_list | exact kt_str_dict | exact kt_list_str | exact kt_list_int | exact kt_list_bool | exact kt_list_tuple | exact kt_list_list | exact kt_list_dict | exact kt_tuple_str | exact kt_tuple_int | exact kt_tuple_bool | exact kt_tuple_tuple | exact kt_tuple_list | exact kt_tuple_dict | exact kt_dict_str | exact kt_dict_int | exact kt_dict_bool | exact kt_dict_tuple | exact kt_dict_list | exact kt_dict_dict | assumption))
local macro_rules | `(tactic| walk_at "1") => `(tactic| first
  | (with_reducible refine i_seq ?_)
  | (with_reducible refine iteT ?_)
  | (with_reducible refine iteF ?_)
  | (with_reducible refine iteNF ?_)
  | (with_reducible refine iteNT ?_)
  | (with_reducible refine i_asg ?_)
  | (with_reducible refine i_op ?_)
  | (with_reducible refine i_c ?_)
  | ((with_reducible apply i_var); (exact rfl))
  | (with_reducible refine i_cb ?_)
  | (with_reducible refine i_cons ?_)
  | (with_reducible refine i_nil ?_)
  | (with_reducible refine i_test ?_)
  | (with_reducible refine i_b ?_)
  | (with_reducible refine i_bl ?_)
  | (with_reducible refine i_name ?_)
  | (with_reducible refine i_ifS ?_)
  | (with_reducible refine i_next ?_)
  | (with_reducible refine i_ret ?_)
  | (with_reducible refine i_drop ?_)
  | (with_reducible refine i_lst ?_)
  | (with_reducible refine i_tup ?_)
  | (with_reducible refine i_and ?_)
  | (with_reducible refine i_or ?_)
  | (with_reducible refine i_not ?_)
  | (with_reducible refine i_andV ?_)
  | (with_reducible refine i_orV ?_)
  | (with_reducible refine i_notV ?_)
  | (with_reducible refine i_if ?_)
  | (with_reducible refine i_chain ?_)
  | (with_reducible refine i_un ?_)
  | (with_reducible refine i_neg ?_)
  | (with_reducible refine i_sub ?_)
  | (with_reducible refine i_sl ?_)
  | (with_reducible refine i_noP ?_)
  | (with_reducible refine i_part ?_)
  | (with_reducible refine i_int ?_)
  | (with_reducible refine i_bm ?_)
  | (with_reducible refine i_strT ?_)
  | (with_reducible refine i_yes ?_)
  | (with_reducible refine i_call ?_)
  | ((with_reducible refine i_len ?_ ?_); (focus (exact sz (by simp))))
  | (with_reducible refine i_lc ?_)
  | (with_reducible refine i_for ?_)
  | (with_reducible refine i_rng1 ?_)
  | (with_reducible refine i_rng2 ?_)
  | (with_reducible refine l_addI ?_)
  | (with_reducible refine l_subI ?_)
  | (with_reducible refine l_cmp ?_)
  | (with_reducible refine l_eqI ?_)
  | (with_reducible refine l_eqS ?_)
  | (with_reducible refine l_eqB ?_)
  | (with_reducible refine l_neI ?_)
  | (with_reducible refine l_neS ?_)
  | (with_reducible refine l_neB ?_)
  | (with_reducible refine l_isN ?_)
  | (with_reducible refine l_isNotN ?_)
  | (with_reducible refine l_isB ?_)
  | (with_reducible refine l_isNotB ?_)
  | (with_reducible refine l_intI ?_)
  | (with_reducible refine l_intB ?_)
  | (with_reducible refine l_inC ?_)
  | (refine ⟨_, _, rfl, rfl, sz (by first | omega | simp; omega), ?_⟩)
  | ((with_reducible refine l_pow ?_ ?_); (focus (exact ⟨by decide, by decide, by decide⟩)))
  | ((with_reducible refine l_mul ?_ ?_); (focus (first | assumption | exact Or.inl (Or.inl ⟨by omega, by omega⟩) | exact Or.inl (Or.inr ⟨by omega, by omega⟩))))
  | ((with_reducible refine l_div ?_ ?_); (focus (first | assumption | exact ⟨by decide, by decide⟩)))
  | ((with_reducible apply l_setL); (assumption); (exact rfl))
  | ((with_reducible refine l_mod ?_ ?_); (walk_at "side"))
  | ((with_reducible apply l_ixL); (assumption); (exact rfl))
  | ((with_reducible refine l_lenS ?_ ?_); (focus (first | assumption | exact sz (by omega) | exact sz (by simp; omega))))
  | ((with_reducible refine l_slS ?_ ?_); (focus (first | assumption | exact sz (by omega))))
  | ((with_reducible apply l_isi); (walk_at "ty"); (walk_at "kt"))
  | ((with_reducible apply l_lenL); (assumption)))
local macro_rules | `(tactic| walk_at "go") => `(tactic| repeat (walk_at "1"))
local macro_rules | `(tactic| walk_at "1") => `(tactic| first
  | (with_reducible refine i_mkS ?_)
  | (with_reducible refine i_cS ?_)
  | (with_reducible refine i_fld ?_)
  | (with_reducible refine i_sFld ?_)
  | (with_reducible refine i_tX ?_)
  | (with_reducible refine l_len2 rfl rfl ?_))
section
variable {P : Program} {w : World} {K : PySem.W.Frag} {mg : Str → Option Value} {base : Heap}
/-- repr(v) is z -/
def Shw (K : PySem.W.Frag) (H : Hp) (v : V) (z : Str) : Prop := ∀ (H' : Hp) (Q : VK), Ex H H' → Q (.str z) H' → rReprA K [v] H' Q
theorem Shw.mono {H H' : Hp} {v : V} {z : Str} (h : Shw K H v z) (e : Ex H H') : Shw K H' v z := fun H2 Q e2 q => h H2 Q (e.trans e2) q
/-- an item that is shown in a few signs -/
structure Lf (d : PyData) : Prop where
  sh : d.showable = true
  nd : d.hasDict = false
  ln : d.shown.length ≤ 60
  dp : d.depth ≤ 2
theorem lf_all : ∀ {xs : List PyData}, (∀ d ∈ xs, Lf d) → PyData.showableAll xs = true ∧ PyData.hasDictAll xs = false ∧ ((PyData.shownAll xs).map (·.length)).sum ≤ 60 * xs.length ∧ (PyData.shownAll xs).length = xs.length ∧ PyData.depthAll xs ≤ 2
  | [], _ => by simp [PyData.showableAll, PyData.hasDictAll, PyData.shownAll, PyData.depthAll]
  | x :: xs, h => by
    obtain ⟨h1, h2, h3, h4⟩ := h x List.mem_cons_self
    obtain ⟨g1, g2, g3, g4, g5⟩ := lf_all fun d hd => h d (List.mem_cons_of_mem _ hd)
    rw [PyData.showableAll, PyData.hasDictAll, PyData.shownAll, PyData.depthAll, h1, h2, g1, g2]
    simp only [List.map_cons, List.sum_cons, List.length_cons, Bool.and_self, Bool.or_self, true_and]
    exact ⟨by omega, by omega, Nat.max_le.mpr ⟨h4, g5⟩⟩
theorem shw_dp {H : Hp} {v : V} {d : PyData} (h : Dp K H v d) (h1 : d.showable = true) (h2 : d.hasDict = false) (h3 : d.shown.length ≤ 100000) (h4 : d.depth ≤ 50) : Shw K H v d.shown :=
  fun H' Q e q => .inl ⟨v, d, rfl, dp_mono e d v h, h1, h2, sz h3, h4, q⟩
theorem shw_list {H : Hp} {v : V} {xs : List PyData} (h : Dp K H v (.list xs)) (hl : ∀ d ∈ xs, Lf d) (hn : xs.length ≤ 100) : Shw K H v (PyData.list xs).shown := by
  obtain ⟨g1, g2, g3, g4, g5⟩ := lf_all hl
  refine shw_dp h (by rw [PyData.showable]; exact g1) (by rw [PyData.hasDict]; exact g2) ?_ (by rw [PyData.depth]; omega)
  have := listText_len_le (PyData.shownAll xs)
  rw [PyData.shown]
  omega
theorem shw_tup {H : Hp} {v : V} {xs : List PyData} (h : Dp K H v (.tuple xs)) (hl : ∀ d ∈ xs, Lf d) (hn : xs.length ≤ 100) : Shw K H v (PyData.tuple xs).shown := by
  obtain ⟨g1, g2, g3, g4, g5⟩ := lf_all hl
  refine shw_dp h (by rw [PyData.showable]; exact g1) (by rw [PyData.hasDict]; exact g2) ?_ (by rw [PyData.depth]; omega)
  have := tupleText_len_le (PyData.shownAll xs)
  rw [PyData.shown]
  omega
theorem lf_int {i : Int} (h : i.natAbs < 10 ^ 39) : Lf (.int i) := by
  have e := int_text_length_le10 (k := 39) (by decide) h
  refine ⟨?_, rfl, ?_, by simp [PyData.depth]⟩
  · rw [PyData.showable]
    refine decide_eq_true ?_
    by_cases h0 : i.natAbs = 0
    · rw [h0]
      decide
    · have h1 : i.natAbs.log2 < 130 := (Nat.log2_lt h0).mpr (Nat.lt_trans h (by decide))
      omega
  · rw [PyData.shown, PySem.ofString_length]
    omega
theorem lf_bl (b : Bool) : Lf (.bool b) := by
  cases b <;> exact ⟨rfl, rfl, by decide, by simp [PyData.depth]⟩
theorem lf_non : Lf .none := ⟨rfl, rfl, by decide, by simp [PyData.depth]⟩
theorem lf_ints {ns : List Int} (h : ∀ n ∈ ns, n.natAbs < 10 ^ 39) : ∀ d ∈ ns.map PyData.int, Lf d := fun d hd => by
  obtain ⟨n, hn, rfl⟩ := List.mem_map.mp hd
  exact lf_int (h n hn)
theorem lf_bls {bs : List Bool} : ∀ d ∈ bs.map PyData.bool, Lf d := fun d hd => by
  obtain ⟨n, hn, rfl⟩ := List.mem_map.mp hd
  exact lf_bl n
theorem dp_append {H : Hp} : ∀ {xs ys : List V} {ds es : List PyData}, DpAll K H xs ds → DpAll K H ys es → DpAll K H (xs ++ ys) (ds ++ es)
  | _, _, _, _, .nil, h => h
  | _, _, _, _, .cons a b, h => .cons a (dp_append b h)
end
end K
namespace K
open PySem PySem.Spec PyProof.Rows L2 G TL
local macro_rules | `(tactic| walk_at "side") => `(tactic| focus (first | assumption | exact rfl | omega | decide))
local macro_rules | `(tactic| walk_at "ty") => `(tactic| focus (first | exact .base (.str _) | exact .base (.int _) | exact .base (.bl _) | exact .base .non | exact .base (.lst (by assumption)) | exact .base (.tup (by assumption)) | exact .base (.dK (by assumption)) | assumption))
local macro_rules | `(tactic| walk_at "kt") => `(tactic| focus (with_reducible first | exact kt_NoneType_str | exact kt_NoneType_int | exact kt_NoneType_bool | exact kt_NoneType_tuple | exact kt_NoneType_list | exact kt_NoneType_dict | exact kt_bool_str | exact kt_bool_int | exact kt_bool_bool | exact kt_bool_tuple | exact kt_bool_list | exact kt_bool_dict | exact kt_int_str | exact kt_int_int | exact kt_int_bool | exact kt_int_tuple | exact kt_int_list | exact kt_int_dict | exact kt_str_str | exact kt_str_int | exact kt_str_bool | exact kt_str_tuple | exact kt_str_list | exact kt_str_dict | exact kt_list_str | exact kt_list_int | exact kt_list_bool | exact kt_list_tuple | exact kt_list_list | exact kt_list_dict | exact kt_tuple_str | exact kt_tuple_int | exact kt_tuple_bool | exact kt_tuple_tuple | exact kt_tuple_list | exact kt_tuple_dict | exact kt_dict_str | exact kt_dict_int | exact kt_dict_bool | exact kt_dict_tuple | exact kt_dict_list | exact kt_dict_dict | assumption))
local macro_rules | `(tactic| walk_at "1") => `(tactic| first
  | (with_reducible refine i_seq ?_)
  | (with_reducible refine iteT ?_)
  | (with_reducible refine iteF ?_)
  | (with_reducible refine iteNF ?_)
  | (with_reducible refine iteNT ?_)
  | (with_reducible refine i_asg ?_)
  | (with_reducible refine i_op ?_)
  | (with_reducible refine i_c ?_)
  | ((with_reducible apply i_var); (exact rfl))
  | (with_reducible refine i_cb ?_)
  | (with_reducible refine i_cons ?_)
  | (with_reducible refine i_nil ?_)
  | (with_reducible refine i_test ?_)
  | (with_reducible refine i_b ?_)
  | (with_reducible refine i_bl ?_)
  | (with_reducible refine i_name ?_)
  | (with_reducible refine i_ifS ?_)
  | (with_reducible refine i_next ?_)
  | (with_reducible refine i_ret ?_)
  | (with_reducible refine i_drop ?_)
  | (with_reducible refine i_lst ?_)
  | (with_reducible refine i_tup ?_)
  | (with_reducible refine i_and ?_)
  | (with_reducible refine i_or ?_)
  | (with_reducible refine i_not ?_)
  | (with_reducible refine i_andV ?_)
  | (with_reducible refine i_orV ?_)
  | (with_reducible refine i_notV ?_)
  | (with_reducible refine i_if ?_)
  | (with_reducible refine i_chain ?_)
  | (with_reducible refine i_un ?_)
  | (with_reducible refine i_neg ?_)
  | (with_reducible refine i_sub ?_)
  | (with_reducible refine i_sl ?_)
  | (with_reducible refine i_noP ?_)
  | (with_reducible refine i_part ?_)
  | (with_reducible refine i_int ?_)
  | (with_reducible refine i_bm ?_)
  | (with_reducible refine i_strT ?_)
  | (with_reducible refine i_yes ?_)
  | (with_reducible refine i_call ?_)
  | ((with_reducible refine i_len ?_ ?_); (focus (exact sz (by simp))))
  | (with_reducible refine i_lc ?_)
  | (with_reducible refine i_for ?_)
  | (with_reducible refine i_rng1 ?_)
  | (with_reducible refine i_rng2 ?_)
  | (with_reducible refine l_addI ?_)
  | (with_reducible refine l_subI ?_)
  | (with_reducible refine l_cmp ?_)
  | (with_reducible refine l_eqI ?_)
  | (with_reducible refine l_eqS ?_)
  | (with_reducible refine l_eqB ?_)
  | (with_reducible refine l_neI ?_)
  | (with_reducible refine l_neS ?_)
  | (with_reducible refine l_neB ?_)
  | (with_reducible refine l_isN ?_)
  | (with_reducible refine l_isNotN ?_)
  | (with_reducible refine l_isB ?_)
  | (with_reducible refine l_isNotB ?_)
  | (with_reducible refine l_intI ?_)
  | (with_reducible refine l_intB ?_)
  | (with_reducible refine l_inC ?_)
  | (refine ⟨_, _, rfl, rfl, sz (by first | omega | simp; omega), ?_⟩)
  | ((with_reducible refine l_pow ?_ ?_); (focus (exact ⟨by decide, by decide, by decide⟩)))
  | ((with_reducible refine l_mul ?_ ?_); (focus (first | assumption | exact Or.inl (Or.inl ⟨by omega, by omega⟩) | exact Or.inl (Or.inr ⟨by omega, by omega⟩))))
  | ((with_reducible refine l_div ?_ ?_); (focus (first | assumption | exact ⟨by decide, by decide⟩)))
  | ((with_reducible apply l_setL); (assumption); (exact rfl))
  | ((with_reducible refine l_mod ?_ ?_); (walk_at "side"))
  | ((with_reducible apply l_ixL); (assumption); (exact rfl))
  | ((with_reducible refine l_lenS ?_ ?_); (focus (first | assumption | exact sz (by omega) | exact sz (by simp; omega))))
  | ((with_reducible refine l_slS ?_ ?_); (focus (first | assumption | exact sz (by omega))))
  | ((with_reducible apply l_isi); (walk_at "ty"); (walk_at "kt"))
  | ((with_reducible apply l_lenL); (assumption)))
local macro_rules | `(tactic| walk_at "go") => `(tactic| repeat (walk_at "1"))
local macro_rules | `(tactic| walk_at "1") => `(tactic| first
  | (with_reducible refine i_mkS ?_)
  | (with_reducible refine i_cS ?_)
  | (with_reducible refine i_fld ?_)
  | (with_reducible refine i_sFld ?_)
  | (with_reducible refine i_tX ?_)
  | (with_reducible refine l_len2 rfl rfl ?_))
section
variable {P : Program} {w : World} {K : PySem.W.Frag} {mg : Str → Option Value} {base : Heap}
theorem numL_head : ∀ (n c : Nat) (r : List Nat), numL n = c :: r → n ≠ 0 → c ≠ 48 := by
  intro n
  induction n using Nat.strongRecOn with
  | _ n ih =>
    intro c r h hn
    by_cases h10 : n < 10
    · rw [numL_lt h10] at h
      cases h
      omega
    · rw [numL_step (by omega)] at h
      cases e : numL (n / 10) with
      | nil => exact absurd e (numL_ne _)
      | cons d r' =>
        rw [e] at h
        have := (List.cons.inj h).1
        subst this
        exact ih (n / 10) (by omega) d r' e (by omega)
theorem nW_tl (n : Int) : (∃ k : Nat, n = (k : Int) ∧ tl (nW n) = numL k) ∨ (∃ k : Nat, k ≠ 0 ∧ n = -(k : Int) ∧ tl (nW n) = 45 :: numL k) := by
  cases n with
  | ofNat n => exact .inl ⟨n, rfl, tl_num n⟩
  | negSucc n =>
    refine .inr ⟨n + 1, by omega, by omega, ?_⟩
    show tl (Str.ofString (toString (Int.negSucc n))) = 45 :: numL (n + 1)
    rw [toString_neg (Int.negSucc_lt_zero n), show (0 : Int) - Int.negSucc n = ((n + 1 : Nat) : Int) by omega, ← tl_num, Str.ofString_eq_toList, Str.ofString_eq_toList]
    show ((("-" ++ toString ((n + 1 : Nat) : Int)).toList).map Char.toNat) = 45 :: ((toString ((n + 1 : Nat) : Int)).toList.map Char.toNat)
    rw [String.toList_append]
    rfl
theorem num_back {n : Int} (h : n.natAbs < 10 ^ 40) : noteNum (nW n) = some n := by
  unfold noteNum
  obtain ⟨lo, l1, l2, l3, l4⟩ := lstrip_lo (nW n) "-"
  rcases nW_tl n with ⟨k, e0, e⟩ | ⟨k, hk, e0, e⟩
  · have hl : (numL k).length ≤ 40 := numL_len (by decide) (by omega)
    generalize nW n = z at *
    have hz : z.length ≤ 40 := by rw [len_tl, e]; exact hl
    rw [if_neg (by rw [l2]; omega)]
    have s := signless_pos (z := z) fun r hr => num_sign (e.symm.trans hr)
    have d : digOk z = true := (digOk_iff _).mpr ⟨fun z' => numL_ne k (by rw [← e, z']; rfl), by rw [e]; exact numL_digits k⟩
    have l0 : lead0 z = false := by
      unfold lead0
      rw [s, Bool.and_eq_false_iff]
      by_cases hk : k = 0
      · right
        subst hk
        rw [show z = "0" from ext_tl (e.trans (by decide +kernel))]
        decide +kernel
      · left
        refine decide_eq_false ?_
        rintro ⟨r, hr⟩
        exact numL_head k 48 r (e.symm.trans hr) hk rfl
    unfold numOf
    rw [s, d, decide_eq_true hz, l0]
    show PySem.intText? z = some n
    rw [intText_digits (by show NumText.AllDigits (tl z); rw [e]; exact numL_digits k) (by show tl z ≠ []; rw [e]; exact numL_ne k) (by omega), e0]
    show some ((NumText.digitsVal (tl z) : Nat) : Int) = _
    rw [e, numL_val]
  · have hl : (numL k).length ≤ 40 := numL_len (by decide) (by omega)
    generalize nW n = z at *
    have hz : z.length = (numL k).length + 1 := by rw [len_tl, e, List.length_cons]
    have hlo : lo ≠ 0 := fun z0 => by
      subst z0
      rcases l4 with l4 | l4
      · omega
      · rw [← getD_list] at l4
        rw [show z.cps.toList.getD 0 0 = 45 by show (tl z).getD 0 0 = 45; rw [e]; rfl] at l4
        revert l4
        decide +kernel
    rw [if_neg (by rw [l2]; omega)]
    have s : tl (signless z) = numL k := signless_neg e
    have d : digOk (signless z) = true := (digOk_iff _).mpr ⟨fun z' => numL_ne k (by rw [← s, z']; rfl), by rw [s]; exact numL_digits k⟩
    have l0 : lead0 z = false := by
      unfold lead0
      rw [s, Bool.and_eq_false_iff]
      left
      refine decide_eq_false ?_
      rintro ⟨r, hr⟩
      exact numL_head k 48 r hr hk rfl
    unfold numOf
    rw [d, decide_eq_true (show (signless z).length ≤ 40 by rw [len_tl, s]; exact hl), l0]
    show PySem.intText? z = some n
    rw [intText_neg e (numL_digits k) (numL_ne k) (by omega), numL_val, e0]
theorem numV_nW {n : Int} (h : n.natAbs < 10 ^ 40) : numV (nW n) = .int n := by
  unfold numV
  rw [num_back h]
  rfl
theorem numV_non {w : Str} (h : noteNum w = none) : numV w = .non := by
  unfold numV
  rw [h]
  rfl
theorem outV_non {w : Str} (h1 : w ≠ "yes") (h2 : w ≠ "no") : outV w = .non := by
  rcases outV_is w with ⟨h, _⟩ | ⟨h, _⟩ | ⟨_, _, h⟩
  · exact absurd h h1
  · exact absurd h h2
  · exact h
theorem outV_oW (b : Bool) : outV (oWord b) = .bl b := by
  cases b
  · rcases outV_is (oWord false) with ⟨h, _⟩ | ⟨h, e⟩ | ⟨_, h, _⟩
    · exact absurd h (by decide +kernel)
    · exact e
    · exact absurd rfl h
  · rcases outV_is (oWord true) with ⟨h, e⟩ | ⟨h, _⟩ | ⟨h, _, _⟩
    · exact e
    · exact absurd h (by decide +kernel)
    · exact absurd rfl h
theorem num_slash : noteNum "/" = none := by decide +kernel
/-- a word of a line -/
structure Wo (w : Str) : Prop where
  len : w.length ≤ 41
  ch : ∀ c ∈ tl w, c < 128 ∧ c ≠ 32
theorem wo_nW {n : Int} (h : n.natAbs < 10 ^ 40) : Wo (nW n) := by
  refine ⟨nW_len h, fun c hc => ?_⟩
  rcases nW_tl n with ⟨k, e0, e⟩ | ⟨k, hk, e0, e⟩
  · rw [e] at hc
    have := numL_digits k c hc
    omega
  · rw [e] at hc
    rcases List.mem_cons.mp hc with rfl | hc
    · omega
    · have := numL_digits k c hc
      omega
theorem wo_oW (b : Bool) : Wo (oWord b) := by cases b <;> exact ⟨by decide +kernel, by decide +kernel⟩
theorem joinL_ch {s : Nat} {p : Nat → Prop} (hs : p s) : ∀ ws : List (List Nat), (∀ w ∈ ws, ∀ c ∈ w, p c) → ∀ c ∈ joinL [s] ws, p c
  | [], _, c, hc => by cases hc
  | [w], h, c, hc => h w (List.mem_singleton.mpr rfl) c hc
  | w :: v :: r, h, c, hc => by
    rw [joinL] at hc
    rcases List.mem_append.mp hc with hc | hc
    · exact h w List.mem_cons_self c hc
    · rcases List.mem_append.mp hc with hc | hc
      · rw [List.mem_singleton.mp hc]
        exact hs
      · exact joinL_ch hs (v :: r) (fun w' hw => h w' (List.mem_cons_of_mem _ hw)) c hc
theorem join_fine {ws : List Str} (hne : ws ≠ []) (hl : ws.length ≤ 100) (h : ∀ w ∈ ws, Wo w) : Txt.split (Txt.join " " ws) " " = ws ∧ (Txt.join " " ws).length ≤ 5000 ∧ ∀ c ∈ (Txt.join " " ws).cps.toList, c < 16 ^ 8 := by
  refine ⟨split_join (s := 32) (S := []) (by decide +kernel) (by decide +kernel) hne fun p hp hc => ((h p hp).ch 32 hc).2 rfl, ?_, ?_⟩
  · rw [join_eq]
    cases ws with
    | nil => exact absurd rfl hne
    | cons a l =>
      rw [len_join_cons]
      have := sum_le fun x hx => (h x hx).len
      rw [show ((" " : Str)).length = 1 by decide +kernel]
      simp only [List.length_cons] at hl this
      omega
  · rw [join_eq]
    intro c hc
    have hc' : c ∈ tl (Str.join " " ws) := hc
    rw [tl_join, show tl (" " : Str) = [32] by decide +kernel] at hc'
    have := joinL_ch (p := fun c => c < 128) (by decide) (ws.map tl) (fun w hw c hc => by
      obtain ⟨v, hv, rfl⟩ := List.mem_map.mp hw
      exact ((h v hv).ch c hc).1) c hc'
    have h2 : (128 : Nat) ≤ 16 ^ 8 := by decide
    omega
theorem shw_str {H : Hp} {z : Str} (h : ∀ c ∈ z.cps.toList, c < 16 ^ 8) (hl : z.length ≤ 9000) : Shw K H (.str z) (reprText z) :=
  shw_dp (.str z) rfl rfl (by rw [PyData.shown]; have := PySem.StrLaws.reprText_len z h; omega) (by simp [PyData.depth])
/-- what stands behind read_play(value), a text -/
structure Rs (z : Str) : Prop where
  len : z.length ≤ 9000
  sh : ∀ c ∈ z.cps.toList, c < 16 ^ 8
  ws : ∀ w ∈ Txt.split z " ", w.length ≤ 640
  many : (Txt.split z " ").length ≤ 900
  fails : Fails (Txt.split z " ")
/-- a line spoilt -/
def Spoilt (A B ws : List Str) : Prop := (∃ (A1 A2 : List Str) (o : Str), (∀ w ∈ A1, w ∈ A) ∧ (∀ w ∈ A2, w ∈ A) ∧ A1.length ≤ A.length ∧ A2.length ≤ A.length ∧ o ∈ (["yes", "+1", "01", "1x"] : List Str) ∧ ws = A1 ++ [o] ++ A2 ++ [("/" : Str)] ++ B) ∨ ws = A ++ B ∨
  (∃ (B1 B2 : List Str) (o : Str), (∀ w ∈ B1, w ∈ B) ∧ (∀ w ∈ B2, w ∈ B) ∧ B1.length ≤ B.length ∧ B2.length ≤ B.length ∧ o ∈ (["1", "Yes", "/", ""] : List Str) ∧ ws = A ++ [("/" : Str)] ++ B1 ++ [o] ++ B2) ∨
  ws = [("1" : Str) ++ Txt.mul "0" 40] ++ A ++ [("/" : Str)] ++ B
theorem no_slash {A : List Str} {f : Str → V} (h0 : f "/" = .non) (h : ∀ w ∈ A, f w ≠ .non) : ("/" : Str) ∉ A := fun hm => h _ hm h0
theorem odd_fine : (∀ o ∈ (["yes", "+1", "01", "1x"] : List Str), noteNum o = none ∧ o ≠ "/" ∧ o.length ≤ 41 ∧ ∀ c ∈ tl o, c < 128 ∧ c ≠ 32) ∧ (∀ o ∈ (["1", "Yes", "/", ""] : List Str), o ≠ "yes" ∧ o ≠ "no" ∧ o.length ≤ 41 ∧ ∀ c ∈ tl o, c < 128 ∧ c ≠ 32) ∧
  noteNum (("1" : Str) ++ Txt.mul "0" 40) = none ∧ (("1" : Str) ++ Txt.mul "0" 40).length ≤ 41 ∧ (∀ c ∈ tl (("1" : Str) ++ Txt.mul "0" 40), c < 128 ∧ c ≠ 32) ∧ (("1" : Str) ++ Txt.mul "0" 40) ≠ "/" := by
  decide +kernel
theorem wo_slash : Wo "/" := ⟨by decide +kernel, by decide +kernel⟩
theorem spoilt_rs {A B ws : List Str} (h : Spoilt A B ws) (lA : A.length ≤ 8) (lB : B.length ≤ 8) (hA : ∀ w ∈ A, Wo w ∧ numV w ≠ .non) (hB : ∀ w ∈ B, Wo w ∧ outV w ≠ .non) (hne : A ++ B ≠ [] ∨ True) : ws = [] ∨ (Rs (Txt.join " " ws)) := by
  obtain ⟨o1, o2, o3, o4, o5, o6⟩ := odd_fine
  have sA := no_slash (f := numV) (numV_non num_slash) fun w hw => (hA w hw).2
  have sB := no_slash (f := outV) (outV_non (by decide +kernel) (by decide +kernel)) fun w hw => (hB w hw).2
  have key : (∀ w ∈ ws, Wo w) ∧ ws.length ≤ 30 ∧ Fails ws := by
    rcases h with ⟨A1, A2, o, m1, m2, n1, n2, ho, rfl⟩ | rfl | ⟨B1, B2, o, m1, m2, n1, n2, ho, rfl⟩ | rfl
    · obtain ⟨p1, p2, p3, p4⟩ := o1 o ho
      refine ⟨fun w hw => ?_, by simp; omega, .inr ⟨A1 ++ [o] ++ A2, B, by simp, ?_, .inl ⟨o, by simp, numV_non p1⟩⟩⟩
      · simp only [List.mem_append, List.mem_singleton] at hw
        rcases hw with (((hw | rfl) | hw) | rfl) | hw
        · exact (hA w (m1 w hw)).1
        · exact ⟨p3, p4⟩
        · exact (hA w (m2 w hw)).1
        · exact wo_slash
        · exact (hB w hw).1
      · simp only [List.mem_append, List.mem_singleton, not_or]
        exact ⟨⟨fun h => sA (m1 _ h), fun h => p2 h.symm⟩, fun h => sA (m2 _ h)⟩
    · refine ⟨fun w hw => ?_, by simp; omega, .inl ?_⟩
      · rcases List.mem_append.mp hw with hw | hw
        · exact (hA w hw).1
        · exact (hB w hw).1
      · simp only [List.mem_append, not_or]
        exact ⟨sA, sB⟩
    · obtain ⟨p1, p2, p3, p4⟩ := o2 o ho
      refine ⟨fun w hw => ?_, by simp; omega, .inr ⟨A, B1 ++ [o] ++ B2, by simp, sA, .inr ⟨o, by simp, outV_non p1 p2⟩⟩⟩
      simp only [List.mem_append, List.mem_singleton] at hw
      rcases hw with (((hw | rfl) | hw) | rfl) | hw
      · exact (hA w hw).1
      · exact wo_slash
      · exact (hB w (m1 w hw)).1
      · exact ⟨p3, p4⟩
      · exact (hB w (m2 w hw)).1
    · refine ⟨fun w hw => ?_, by simp; omega, .inr ⟨_ :: A, B, by simp, ?_, .inl ⟨_, List.mem_cons_self, numV_non o3⟩⟩⟩
      · simp only [List.mem_append, List.mem_singleton] at hw
        rcases hw with ((rfl | hw) | rfl) | hw
        · exact ⟨o4, o5⟩
        · exact (hA w hw).1
        · exact wo_slash
        · exact (hB w hw).1
      · simp only [List.mem_cons, not_or]
        exact ⟨fun h => o6 h.symm, sA⟩
  obtain ⟨k1, k2, k3⟩ := key
  by_cases hn : ws = []
  · exact .inl hn
  · obtain ⟨j1, j2, j3⟩ := join_fine hn (by omega) k1
    exact .inr ⟨by omega, j3, by rw [j1]; exact fun w hw => Nat.le_trans (k1 w hw).len (by decide), by rw [j1]; omega, by rw [j1]; exact k3⟩
theorem rs_empty : Rs (Txt.join " " []) := ⟨by decide +kernel, by decide +kernel, by decide +kernel, by decide +kernel, .inl (by decide +kernel)⟩
end
end K
namespace K
open PySem PySem.Spec PyProof.Rows L2 G TL
local macro_rules | `(tactic| walk_at "side") => `(tactic| focus (first | assumption | exact rfl | omega | decide))
local macro_rules | `(tactic| walk_at "ty") => `(tactic| focus (first | exact .base (.str _) | exact .base (.int _) | exact .base (.bl _) | exact .base .non | exact .base (.lst (by assumption)) | exact .base (.tup (by assumption)) | exact .base (.dK (by assumption)) | assumption))
local macro_rules | `(tactic| walk_at "kt") => `(tactic| focus (with_reducible first | exact kt_NoneType_str | exact kt_NoneType_int | exact kt_NoneType_bool | exact kt_NoneType_tuple | exact kt_NoneType_list | exact kt_NoneType_dict | exact kt_bool_str | exact kt_bool_int | exact kt_bool_bool | exact kt_bool_tuple | exact kt_bool_list | exact kt_bool_dict | exact kt_int_str | exact kt_int_int | exact kt_int_bool | exact kt_int_tuple | exact kt_int_list | exact kt_int_dict | exact kt_str_str | exact kt_str_int | exact kt_str_bool | exact kt_str_tuple | exact kt_str_list | exact kt_str_dict | exact kt_list_str | exact kt_list_int | exact kt_list_bool | exact kt_list_tuple | exact kt_list_list | exact kt_list_dict | exact kt_tuple_str | exact kt_tuple_int | exact kt_tuple_bool | exact kt_tuple_tuple | exact kt_tuple_list | exact kt_tuple_dict | exact kt_dict_str | exact kt_dict_int | exact kt_dict_bool | exact kt_dict_tuple | exact kt_dict_list | exact kt_dict_dict | assumption))
local macro_rules | `(tactic| walk_at "1") => `(tactic| first
  | (with_reducible refine i_seq ?_)
  | (with_reducible refine iteT ?_)
  | (with_reducible refine iteF ?_)
  | (with_reducible refine iteNF ?_)
  | (with_reducible refine iteNT ?_)
  | (with_reducible refine i_asg ?_)
  | (with_reducible refine i_op ?_)
  | (with_reducible refine i_c ?_)
  | ((with_reducible apply i_var); (exact rfl))
  | (with_reducible refine i_cb ?_)
  | (with_reducible refine i_cons ?_)
  | (with_reducible refine i_nil ?_)
  | (with_reducible refine i_test ?_)
  | (with_reducible refine i_b ?_)
  | (with_reducible refine i_bl ?_)
  | (with_reducible refine i_name ?_)
  | (with_reducible refine i_ifS ?_)
  | (with_reducible refine i_next ?_)
  | (with_reducible refine i_ret ?_)
  | (with_reducible refine i_drop ?_)
  | (with_reducible refine i_lst ?_)
  | (with_reducible refine i_tup ?_)
  | (with_reducible refine i_and ?_)
  | (with_reducible refine i_or ?_)
  | (with_reducible refine i_not ?_)
  | (with_reducible refine i_andV ?_)
  | (with_reducible refine i_orV ?_)
  | (with_reducible refine i_notV ?_)
  | (with_reducible refine i_if ?_)
  | (with_reducible refine i_chain ?_)
  | (with_reducible refine i_un ?_)
  | (with_reducible refine i_neg ?_)
  | (with_reducible refine i_sub ?_)
  | (with_reducible refine i_sl ?_)
  | (with_reducible refine i_noP ?_)
  | (with_reducible refine i_part ?_)
  | (with_reducible refine i_int ?_)
  | (with_reducible refine i_bm ?_)
  | (with_reducible refine i_strT ?_)
  | (with_reducible refine i_yes ?_)
  | (with_reducible refine i_call ?_)
  | ((with_reducible refine i_len ?_ ?_); (focus (exact sz (by simp))))
  | (with_reducible refine i_lc ?_)
  | (with_reducible refine i_for ?_)
  | (with_reducible refine i_rng1 ?_)
  | (with_reducible refine i_rng2 ?_)
  | (with_reducible refine l_addI ?_)
  | (with_reducible refine l_subI ?_)
  | (with_reducible refine l_cmp ?_)
  | (with_reducible refine l_eqI ?_)
  | (with_reducible refine l_eqS ?_)
  | (with_reducible refine l_eqB ?_)
  | (with_reducible refine l_neI ?_)
  | (with_reducible refine l_neS ?_)
  | (with_reducible refine l_neB ?_)
  | (with_reducible refine l_isN ?_)
  | (with_reducible refine l_isNotN ?_)
  | (with_reducible refine l_isB ?_)
  | (with_reducible refine l_isNotB ?_)
  | (with_reducible refine l_intI ?_)
  | (with_reducible refine l_intB ?_)
  | (with_reducible refine l_inC ?_)
  | (refine ⟨_, _, rfl, rfl, sz (by first | omega | simp; omega), ?_⟩)
  | ((with_reducible refine l_pow ?_ ?_); (focus (exact ⟨by decide, by decide, by decide⟩)))
  | ((with_reducible refine l_mul ?_ ?_); (focus (first | assumption | exact Or.inl (Or.inl ⟨by omega, by omega⟩) | exact Or.inl (Or.inr ⟨by omega, by omega⟩))))
  | ((with_reducible refine l_div ?_ ?_); (focus (first | assumption | exact ⟨by decide, by decide⟩)))
  | ((with_reducible apply l_setL); (assumption); (exact rfl))
  | ((with_reducible refine l_mod ?_ ?_); (walk_at "side"))
  | ((with_reducible apply l_ixL); (assumption); (exact rfl))
  | ((with_reducible refine l_lenS ?_ ?_); (focus (first | assumption | exact sz (by omega) | exact sz (by simp; omega))))
  | ((with_reducible refine l_slS ?_ ?_); (focus (first | assumption | exact sz (by omega))))
  | ((with_reducible apply l_isi); (walk_at "ty"); (walk_at "kt"))
  | ((with_reducible apply l_lenL); (assumption)))
local macro_rules | `(tactic| walk_at "go") => `(tactic| repeat (walk_at "1"))
local macro_rules | `(tactic| walk_at "1") => `(tactic| first
  | (with_reducible refine i_mkS ?_)
  | (with_reducible refine i_cS ?_)
  | (with_reducible refine i_fld ?_)
  | (with_reducible refine i_sFld ?_)
  | (with_reducible refine i_tX ?_)
  | (with_reducible refine l_len2 rfl rfl ?_))
section
variable {P : Program} {w : World} {K : PySem.W.Frag} {mg : Str → Option Value} {base : Heap}
def spRef (K : PySem.W.Frag) : Sp := fun vs H Q _ => ∃ x z, vs = [x] ∧ Shw K H x z ∧ ((∃ t, TyX K H x t ∧ PySem.W.kitOne K t (.type "str") = some false) ∨ (∃ y, x = .str y ∧ Rs y)) ∧ ∀ H', Ex H H' → Q (.bl true) H'
theorem ok_ref {a_OUTCOMES C_RoundError C_BadPlay C_BadNote C_Play d_Play_0 d_Play_1 : Addr} (T : Tp K mg w a_OUTCOMES C_RoundError C_BadPlay C_BadNote C_Play d_Play_0 d_Play_1) : CalG P w K mg base true 7 "_law_refused" (spRef K) 1 [] (fun vs _ => vs) := by
  have c_read_play := ok_rd (P := P) (w := w) (base := base) T
  refine T.d__law_refused.calG sc__law_refused (fun vs H Q E h => ?_) (fun f cdv A outer s H vs Q E hr gd h => ?_)
  · obtain ⟨x, z, rfl, _⟩ := h
    rfl
  · obtain ⟨x, z, rfl, hz, h, k⟩ := h
    have sc := sc__law_refused
    refine ⟨_, 
    (pss_cons (ps_try_as (i := 2) rfl rfl sc.nd rfl (by rfl) ⟨by rfl, by decide, Or.inl (T.x_BadNote P w base).hm⟩ takes0 (fun W pn xe tk pw => 
        (pss_one (ps_set (i := 1) sc.nd rfl (by first | exact Or.inl rfl | exact Or.inr rfl) (pe_cS c_read_play hr (by decide) (fun e => nomatch e) tk (by rfl) (pa_cons (pv 0) pa_nil))))) (fun a oe cls d pn hz hf => 
        (pss_one (ps_ret (pe_cmpR (kEqU (K := K) rfl hr.units) (pe_callB (kRepr (K := K) rfl (gd rfl) hr.units) (by rfl) T.m_repr (by decide +kernel) (pa_cons (pe_xfS (T.x_BadNote P w base) hz hf (pv 2)) pa_nil)) (pe_callB (kRepr (K := K) rfl (gd rfl) hr.units) (by rfl) T.m_repr (by decide +kernel) (pa_cons (pv 0) pa_nil)) (nomark _))))))
    (pss_one (ps_ret (pe_and (pe_cmpR gIs (pv 1) (pe_non) (nomark _)) (pe_one (pe_bl)))))), ?_⟩
    try rw [cxK]
    refine i_start (τ := [some x, none, none]) rfl ?_
    walk_at "go"
    refine ⟨x, rfl, ?_⟩
    have fin : ∀ (p : Prop), p → p := fun _ h => h
    rcases h with hk | ⟨y, rfl, hy⟩
    rotate_left
    refine .inr ⟨y, rfl, Nat.le_trans hy.len (by decide), hy.ws, hy.many, .inl ⟨hy.fails, ?_⟩⟩
    rotate_left
    refine .inl ⟨hk, ?_⟩
    all_goals
      intro H' d he hn'
      have e2 : ∀ y, Ex H (upd H' d (.xd [("value", y)])) := fun y => he.trans (Ex.new hn')
      refine ⟨true, T.xm_BadNote, fun _ a ha => ?_, fun e => nomatch e⟩
      walk_at "go"
      refine i_var rfl ⟨rfl, rfl, d, _, _, rfl, upd_same, rfl, ?_⟩
      walk_at "go"
      refine hz _ _ (e2 _) ?_
      walk_at "go"
      refine hz _ _ (e2 _) ?_
      walk_at "go"
      rw [decide_eq_true rfl]
      exact k _ (e2 _)
def spSp (K : PySem.W.Frag) : Sp := fun vs H Q _ => ∃ (st L : Addr) (b : Nat) (pn po : Addr) (A B : List Str), vs = [.ref st, .ref pn, .ref po] ∧ Dl H st L b ∧ b < 2 ^ 59 ∧ H pn = some (.lst (A.map V.str)) ∧ H po = some (.lst (B.map V.str)) ∧ pn ≠ st ∧ po ≠ st ∧ A.length ≤ 8 ∧ B.length ≤ 8 ∧ (∀ w ∈ A, w.length ≤ 41) ∧ (∀ w ∈ B, w.length ≤ 41) ∧
  ∀ ws H', Spoilt A B ws → Dl H' st L (b + 3) → But st H H' → Q (.str (Txt.join " " ws)) H'
/-- ' '.join of a list of words -/
theorem words_ok {H : Hp} {p : Addr} {ws : List Str} {Q : VK} (h : H p = some (.lst (ws.map V.str))) (hl : ws.length ≤ 30) (hw : ∀ w ∈ ws, w.length ≤ 41) (q : Q (.str (Txt.join " " ws)) H) : ∃ a p', ∃ ys : List Str, V.str (" " : Str) = .str a ∧ [V.ref p] = [.ref p'] ∧ (SqL K H p' (ys.map V.str) ∨ SqT K H p' (ys.map V.str)) ∧ (ys.map (·.length)).sum + ys.length * a.length ≤ 16777216 ∧ Q (.str (Txt.join a ys)) H := by
  have := sum_le hw
  refine ⟨_, p, ws, rfl, rfl, .inl (.of h), ?_, q⟩
  show _ + _ * 1 ≤ _
  omega
theorem l_addW {H : Hp} {a b : Addr} {A B : List Str} {Q : VK} (h1 : H a = some (.lst (A.map V.str))) (h2 : H b = some (.lst (B.map V.str))) (hl : A.length + B.length ≤ 1000) (q : ∀ p H', Ex H H' → H' p = some (.lst ((A ++ B).map V.str)) → Q (.ref p) H') : rAdd K (.ref a) (.ref b) H Q :=
  l_addL h1 h2 (by simp; omega) fun p hp => q p _ (Ex.new hp) (by rw [upd_same, List.map_append])
theorem l_slW {H : Hp} {a : Addr} {A : List Str} {lo hi : Option Int} {Q : VK} (h : H a = some (.lst (A.map V.str))) (q : ∀ p H' (A1 : List Str), (∀ w ∈ A1, w ∈ A) → A1.length ≤ A.length → Ex H H' → H' p = some (.lst (A1.map V.str)) → Q (.ref p) H') : rSlG K (.ref a) lo hi H Q := by
  obtain ⟨A1, e, m, l⟩ := cut_map V.str A lo hi
  exact l_slL (.of h) fun p hp => q p _ A1 m l (Ex.new hp) (by rw [upd_same, e])
set_option maxHeartbeats 4000000 in
theorem ok_sp {a_OUTCOMES C_RoundError C_BadPlay C_BadNote C_Play d_Play_0 d_Play_1 : Addr} (T : Tp K mg w a_OUTCOMES C_RoundError C_BadPlay C_BadNote C_Play d_Play_0 d_Play_1) : Cal P w K mg base 2 "_law_spoilt" (spSp K) [] := by
  have c__law_draw : Cal P w K mg base 1 "_law_draw" spDrawL [] := ok_draw T
  refine T.d__law_spoilt.cal sc__law_spoilt (fun vs H Q E h => ?_) (fun f cdv A outer s H vs Q E hr h => ?_)
  · obtain ⟨st, L, b, pn, po, A, B, rfl, _⟩ := h
    rfl
  · obtain ⟨st, L, b, pn, po, A, B, rfl, hD, hb, hA, hB, n1, n2, lA, lB, wA, wB, q⟩ := h
    have sc := sc__law_spoilt
    refine ⟨_, 
    (pss_cons (ps_set (i := 3) sc.nd rfl (by first | exact Or.inl rfl | exact Or.inr rfl) (pe_c c__law_draw hr (by decide) (by rfl) (pa_cons (pv 0) (pa_cons (pe_int) pa_nil))))
    (pss_cons (ps_set (i := 4) sc.nd rfl (by first | exact Or.inl rfl | exact Or.inr rfl) (pe_c c__law_draw hr (by decide) (by rfl) (pa_cons (pv 0) (pa_cons (pe_op (kAdd (K := K) rfl) (pe_callB (kLen (K := K) rfl) (by rfl) T.m_len PySem.boot_len (pa_cons (pv 1) pa_nil)) (pe_int)) pa_nil))))
    (pss_cons (ps_if (pt_cmpR gLt (pv 3) (pe_int) (nomark _)) (
      (pss_cons (ps_set (i := 5) sc.nd rfl (by first | exact Or.inl rfl | exact Or.inr rfl) (pe_ix (kIx (K := K) rfl) (pe_lst (pa_cons (pe_str) (pa_cons (pe_str) (pa_cons (pe_str) (pa_cons (pe_str) pa_nil))))) (pv 3) (fun _ _ => rfl)))
      (pss_one (ps_ret (pe_join (pe_str) (pe_op (kAdd (K := K) rfl) (pe_op (kAdd (K := K) rfl) (pe_op (kAdd (K := K) rfl) (pe_op (kAdd (K := K) rfl) (pe_slice (kSl (K := K) rfl) (pv 1) po_none (po_some (pv 4))) (pe_lst (pa_cons (pv 5) pa_nil))) (pe_slice (kSl (K := K) rfl) (pv 1) (po_some (pv 4)) po_none)) (pe_lst (pa_cons (pe_str) pa_nil))) (pv 2))))))) (pss_nil))
    (pss_cons (ps_if (pt_cmpR (kEq (K := K) rfl hr) (pv 3) (pe_int) (nomark _)) (
      (pss_one (ps_ret (pe_join (pe_str) (pe_op (kAdd (K := K) rfl) (pv 1) (pv 2)))))) (pss_nil))
    (pss_cons (ps_set (i := 4) sc.nd rfl (by first | exact Or.inl rfl | exact Or.inr rfl) (pe_c c__law_draw hr (by decide) (by rfl) (pa_cons (pv 0) (pa_cons (pe_op (kAdd (K := K) rfl) (pe_callB (kLen (K := K) rfl) (by rfl) T.m_len PySem.boot_len (pa_cons (pv 2) pa_nil)) (pe_int)) pa_nil))))
    (pss_cons (ps_if (pt_cmpR gLt (pv 3) (pe_int) (nomark _)) (
      (pss_cons (ps_set (i := 5) sc.nd rfl (by first | exact Or.inl rfl | exact Or.inr rfl) (pe_ix (kIx (K := K) rfl) (pe_lst (pa_cons (pe_str) (pa_cons (pe_str) (pa_cons (pe_str) (pa_cons (pe_str) pa_nil))))) (pe_op gSub' (pv 3) (pe_int)) (fun _ _ => rfl)))
      (pss_one (ps_ret (pe_join (pe_str) (pe_op (kAdd (K := K) rfl) (pe_op (kAdd (K := K) rfl) (pe_op (kAdd (K := K) rfl) (pe_op (kAdd (K := K) rfl) (pv 1) (pe_lst (pa_cons (pe_str) pa_nil))) (pe_slice (kSl (K := K) rfl) (pv 2) po_none (po_some (pv 4)))) (pe_lst (pa_cons (pv 5) pa_nil))) (pe_slice (kSl (K := K) rfl) (pv 2) (po_some (pv 4)) po_none))))))) (pss_nil))
    (pss_one (ps_ret (pe_join (pe_str) (pe_op (kAdd (K := K) rfl) (pe_op (kAdd (K := K) rfl) (pe_op (kAdd (K := K) rfl) (pe_lst (pa_cons (pe_op (kAdd (K := K) rfl) (pe_str) (pe_op gMulS (pe_str) (pe_int))) pa_nil)) (pv 1)) (pe_lst (pa_cons (pe_str) pa_nil))) (pv 2))))))))))), ?_⟩
    try rw [cxK]
    refine i_start (τ := [some (.ref st), some (.ref pn), some (.ref po), none, none, none]) rfl ?_
    walk_at "go"
    refine drawL hD (by decide) (by decide) (by omega) fun kd H1 k0 k1 hD1 b1 => ?_
    have hA1 := b1 _ _ n1 hA
    have hB1 := b1 _ _ n2 hB
    walk_at "go"
    refine drawL hD1 (by omega) (by simp only [List.length_map]; omega) (by omega) fun at_ H2 a0 a1 hD2 b2 => ?_
    have hA2 := b2 _ _ n1 hA1
    have hB2 := b2 _ _ n2 hB1
    have b02 := b1.trans b2
    clear hA hB hA1 hB1 b1 b2 hD hD1
    walk_at "go"
    refine i_ite (fun h4 => ?_) (fun h4 => ?_)
    · walk_at "go"
      intro p0 hp0
      obtain ⟨o, ho, eo⟩ := at_map (f := V.str) (xs := ["yes", "+1", "01", "1x"]) k0 (by simpa using h4)
      walk_at "go"
      refine l_ixL upd_same eo ?_
      have e0 : Ex H2 (upd H2 p0 (.lst [.str "yes", .str "+1", .str "01", .str "1x"])) := Ex.new hp0
      generalize (upd H2 p0 (.lst [.str "yes", .str "+1", .str "01", .str "1x"])) = J0 at e0 ⊢
      walk_at "go"
      refine i_c ⟨⟨_, rfl⟩, ?_⟩
      walk_at "go"
      refine l_slW (e0 _ _ hA2) fun w1 J1 A1 m1 l1 e1 W1 => ?_
      walk_at "go"
      intro w2 hw2
      have e2 : Ex J1 (upd J1 w2 (HO.lst [V.str (o)])) := Ex.new hw2
      have W2 : (upd J1 w2 (HO.lst [V.str (o)])) w2 = some (HO.lst (([o] : List Str).map V.str)) := upd_same
      generalize (upd J1 w2 (HO.lst [V.str (o)])) = J2 at e2 W2 ⊢
      refine l_addW (e2 _ _ W1) W2 (by simp; omega) fun w3 J3 e3 W3 => ?_
      have e13 := e0.trans (e1.trans (e2.trans e3))
      walk_at "go"
      refine l_slW (e13 _ _ hA2) fun w4 J4 A2 m2 l2 e4 W4 => ?_
      refine l_addW (e4 _ _ W3) W4 (by simp; omega) fun w5 J5 e5 W5 => ?_
      walk_at "go"
      intro w6 hw6
      have e6 : Ex J5 (upd J5 w6 (HO.lst [V.str ("/")])) := Ex.new hw6
      have W6 : (upd J5 w6 (HO.lst [V.str ("/")])) w6 = some (HO.lst ((["/"] : List Str).map V.str)) := upd_same
      generalize (upd J5 w6 (HO.lst [V.str ("/")])) = J6 at e6 W6 ⊢
      refine l_addW (e6 _ _ W5) W6 (by simp; omega) fun w7 J7 e7 W7 => ?_
      have e17 := e13.trans (e4.trans (e5.trans (e6.trans e7)))
      walk_at "go"
      refine l_addW W7 (e17 _ _ hB2) (by simp; omega) fun w8 J8 e8 W8 => ?_
      have e18 := e17.trans e8
      obtain ⟨_, _, o3, _⟩ := odd_fine.1 o ho
      refine words_ok W8 (by simp; omega) (fun w hw => ?_) (q _ J8 (.inl ⟨A1, A2, o, m1, m2, l1, l2, ho, rfl⟩) ((hD2.mono e18).up (by omega)) (b02.trans e18.but))
      simp only [List.mem_append, List.mem_singleton] at hw
      rcases hw with (((hw | rfl) | hw) | rfl) | hw
      · exact wA w (m1 w hw)
      · exact o3
      · exact wA w (m2 w hw)
      · exact wo_slash.len
      · exact wB w hw
    · walk_at "go"
      refine i_ite (fun h5 => ?_) (fun h5 => ?_)
      · walk_at "go"
        refine i_c ⟨⟨_, rfl⟩, ?_⟩
        walk_at "go"
        refine l_addW hA2 hB2 (by omega) fun w1 J1 e1 W1 => ?_
        refine words_ok W1 (by simp; omega) (fun w hw => ?_) (q _ J1 (.inr (.inl rfl)) ((hD2.mono e1).up (by omega)) (b02.trans e1.but))
        rcases List.mem_append.mp hw with hw | hw
        · exact wA w hw
        · exact wB w hw
      · walk_at "go"
        refine drawL hD2 (by omega) (by simp only [List.length_map]; omega) (by omega) fun at2 H3 c0 c1 hD3 b3 => ?_
        have hA3 := b3 _ _ n1 hA2
        have hB3 := b3 _ _ n2 hB2
        have b03 := b02.trans b3
        walk_at "go"
        refine i_ite (fun h9 => ?_) (fun h9 => ?_)
        · walk_at "go"
          intro p0 hp0
          obtain ⟨o, ho, eo⟩ := at_map (f := V.str) (xs := ["1", "Yes", "/", ""]) (i := kd - 5) (by omega) (by simp; omega)
          walk_at "go"
          refine l_ixL upd_same eo ?_
          have e0 : Ex H3 (upd H3 p0 (.lst [.str "1", .str "Yes", .str "/", .str ""])) := Ex.new hp0
          generalize (upd H3 p0 (.lst [.str "1", .str "Yes", .str "/", .str ""])) = J0 at e0 ⊢
          walk_at "go"
          refine i_c ⟨⟨_, rfl⟩, ?_⟩
          walk_at "go"
          intro w1 hw1
          have e1 : Ex J0 (upd J0 w1 (HO.lst [V.str ("/")])) := Ex.new hw1
          have W1 : (upd J0 w1 (HO.lst [V.str ("/")])) w1 = some (HO.lst ((["/"] : List Str).map V.str)) := upd_same
          generalize (upd J0 w1 (HO.lst [V.str ("/")])) = J1 at e1 W1 ⊢
          have e01 := e0.trans e1
          refine l_addW (e01 _ _ hA3) W1 (by simp; omega) fun w2 J2 e2 W2 => ?_
          have e02 := e01.trans e2
          walk_at "go"
          refine l_slW (e02 _ _ hB3) fun w3 J3 B1 m1 l1 e3 W3 => ?_
          refine l_addW (e3 _ _ W2) W3 (by simp; omega) fun w4 J4 e4 W4 => ?_
          walk_at "go"
          intro w5 hw5
          have e5 : Ex J4 (upd J4 w5 (HO.lst [V.str (o)])) := Ex.new hw5
          have W5 : (upd J4 w5 (HO.lst [V.str (o)])) w5 = some (HO.lst (([o] : List Str).map V.str)) := upd_same
          generalize (upd J4 w5 (HO.lst [V.str (o)])) = J5 at e5 W5 ⊢
          refine l_addW (e5 _ _ W4) W5 (by simp; omega) fun w6 J6 e6 W6 => ?_
          have e06 := e02.trans (e3.trans (e4.trans (e5.trans e6)))
          walk_at "go"
          refine l_slW (e06 _ _ hB3) fun w7 J7 B2 m2 l2 e7 W7 => ?_
          refine l_addW (e7 _ _ W6) W7 (by simp; omega) fun w8 J8 e8 W8 => ?_
          have e08 := e06.trans (e7.trans e8)
          obtain ⟨_, _, o3, _⟩ := odd_fine.2.1 o ho
          refine words_ok W8 (by simp; omega) (fun w hw => ?_) (q _ J8 (.inr (.inr (.inl ⟨B1, B2, o, m1, m2, l1, l2, ho, rfl⟩))) ((hD3.mono e08).up (by omega)) (b03.trans e08.but))
          simp only [List.mem_append, List.mem_singleton] at hw
          rcases hw with (((hw | rfl) | hw) | rfl) | hw
          · exact wA w hw
          · exact wo_slash.len
          · exact wB w (m1 w hw)
          · exact o3
          · exact wB w (m2 w hw)
        · walk_at "go"
          refine i_c ⟨⟨_, rfl⟩, ?_⟩
          walk_at "go"
          refine ⟨_, _, rfl, rfl, by unfold MulOk; decide +kernel, ?_⟩
          refine l_addS (sz (by decide +kernel)) ?_
          walk_at "go"
          intro w1 hw1
          have e1 : Ex H3 (upd H3 w1 (HO.lst [V.str ((("1" : Str) ++ Txt.mul "0" 40))])) := Ex.new hw1
          have W1 : (upd H3 w1 (HO.lst [V.str ((("1" : Str) ++ Txt.mul "0" 40))])) w1 = some (HO.lst (([(("1" : Str) ++ Txt.mul "0" 40)] : List Str).map V.str)) := upd_same
          generalize (upd H3 w1 (HO.lst [V.str ((("1" : Str) ++ Txt.mul "0" 40))])) = J1 at e1 W1 ⊢
          walk_at "go"
          refine l_addW W1 (e1 _ _ hA3) (by simp; omega) fun w2 J2 e2 W2 => ?_
          walk_at "go"
          intro w3 hw3
          have e3 : Ex J2 (upd J2 w3 (HO.lst [V.str ("/")])) := Ex.new hw3
          have W3 : (upd J2 w3 (HO.lst [V.str ("/")])) w3 = some (HO.lst ((["/"] : List Str).map V.str)) := upd_same
          generalize (upd J2 w3 (HO.lst [V.str ("/")])) = J3 at e3 W3 ⊢
          refine l_addW (e3 _ _ W2) W3 (by simp; omega) fun w4 J4 e4 W4 => ?_
          have e04 := e1.trans (e2.trans (e3.trans e4))
          walk_at "go"
          refine l_addW W4 (e04 _ _ hB3) (by simp; omega) fun w5 J5 e5 W5 => ?_
          have e05 := e04.trans e5
          obtain ⟨_, _, _, o4, _⟩ := odd_fine
          refine words_ok W5 (by simp; omega) (fun w hw => ?_) (q _ J5 (.inr (.inr (.inr rfl))) ((hD3.mono e05).up (by omega)) (b03.trans e05.but))
          simp only [List.mem_append, List.mem_singleton] at hw
          rcases hw with ((rfl | hw) | rfl) | hw
          · exact o4
          · exact wA w hw
          · exact wo_slash.len
          · exact wB w hw
end
end K
namespace K
open PySem PySem.Spec PyProof.Rows L2 G TL
local macro_rules | `(tactic| walk_at "side") => `(tactic| focus (first | assumption | exact rfl | omega | decide))
local macro_rules | `(tactic| walk_at "ty") => `(tactic| focus (first | exact .base (.str _) | exact .base (.int _) | exact .base (.bl _) | exact .base .non | exact .base (.lst (by assumption)) | exact .base (.tup (by assumption)) | exact .base (.dK (by assumption)) | assumption))
local macro_rules | `(tactic| walk_at "kt") => `(tactic| focus (with_reducible first | exact kt_NoneType_str | exact kt_NoneType_int | exact kt_NoneType_bool | exact kt_NoneType_tuple | exact kt_NoneType_list | exact kt_NoneType_dict | exact kt_bool_str | exact kt_bool_int | exact kt_bool_bool | exact kt_bool_tuple | exact kt_bool_list | exact kt_bool_dict | exact kt_int_str | exact kt_int_int | exact kt_int_bool | exact kt_int_tuple | exact kt_int_list | exact kt_int_dict | exact kt_str_str | exact kt_str_int | exact kt_str_bool | exact kt_str_tuple | exact kt_str_list | exact kt_str_dict | exact kt_list_str | exact kt_list_int | exact kt_list_bool | exact kt_list_tuple | exact kt_list_list | exact kt_list_dict | exact kt_tuple_str | exact kt_tuple_int | exact kt_tuple_bool | exact kt_tuple_tuple | exact kt_tuple_list | exact kt_tuple_dict | exact kt_dict_str | exact kt_dict_int | exact kt_dict_bool | exact kt_dict_tuple | exact kt_dict_list | exact kt_dict_dict | assumption))
local macro_rules | `(tactic| walk_at "1") => `(tactic| first
  | (with_reducible refine i_seq ?_)
  | (with_reducible refine iteT ?_)
  | (with_reducible refine iteF ?_)
  | (with_reducible refine iteNF ?_)
  | (with_reducible refine iteNT ?_)
  | (with_reducible refine i_asg ?_)
  | (with_reducible refine i_op ?_)
  | (with_reducible refine i_c ?_)
  | ((with_reducible apply i_var); (exact rfl))
  | (with_reducible refine i_cb ?_)
  | (with_reducible refine i_cons ?_)
  | (with_reducible refine i_nil ?_)
  | (with_reducible refine i_test ?_)
  | (with_reducible refine i_b ?_)
  | (with_reducible refine i_bl ?_)
  | (with_reducible refine i_name ?_)
  | (with_reducible refine i_ifS ?_)
  | (with_reducible refine i_next ?_)
  | (with_reducible refine i_ret ?_)
  | (with_reducible refine i_drop ?_)
  | (with_reducible refine i_lst ?_)
  | (with_reducible refine i_tup ?_)
  | (with_reducible refine i_and ?_)
  | (with_reducible refine i_or ?_)
  | (with_reducible refine i_not ?_)
  | (with_reducible refine i_andV ?_)
  | (with_reducible refine i_orV ?_)
  | (with_reducible refine i_notV ?_)
  | (with_reducible refine i_if ?_)
  | (with_reducible refine i_chain ?_)
  | (with_reducible refine i_un ?_)
  | (with_reducible refine i_neg ?_)
  | (with_reducible refine i_sub ?_)
  | (with_reducible refine i_sl ?_)
  | (with_reducible refine i_noP ?_)
  | (with_reducible refine i_part ?_)
  | (with_reducible refine i_int ?_)
  | (with_reducible refine i_bm ?_)
  | (with_reducible refine i_strT ?_)
  | (with_reducible refine i_yes ?_)
  | (with_reducible refine i_call ?_)
  | ((with_reducible refine i_len ?_ ?_); (focus (exact sz (by simp))))
  | (with_reducible refine i_lc ?_)
  | (with_reducible refine i_for ?_)
  | (with_reducible refine i_rng1 ?_)
  | (with_reducible refine i_rng2 ?_)
  | (with_reducible refine l_addI ?_)
  | (with_reducible refine l_subI ?_)
  | (with_reducible refine l_cmp ?_)
  | (with_reducible refine l_eqI ?_)
  | (with_reducible refine l_eqS ?_)
  | (with_reducible refine l_eqB ?_)
  | (with_reducible refine l_neI ?_)
  | (with_reducible refine l_neS ?_)
  | (with_reducible refine l_neB ?_)
  | (with_reducible refine l_isN ?_)
  | (with_reducible refine l_isNotN ?_)
  | (with_reducible refine l_isB ?_)
  | (with_reducible refine l_isNotB ?_)
  | (with_reducible refine l_intI ?_)
  | (with_reducible refine l_intB ?_)
  | (with_reducible refine l_inC ?_)
  | (refine ⟨_, _, rfl, rfl, sz (by first | omega | simp; omega), ?_⟩)
  | ((with_reducible refine l_pow ?_ ?_); (focus (exact ⟨by decide, by decide, by decide⟩)))
  | ((with_reducible refine l_mul ?_ ?_); (focus (first | assumption | exact Or.inl (Or.inl ⟨by omega, by omega⟩) | exact Or.inl (Or.inr ⟨by omega, by omega⟩))))
  | ((with_reducible refine l_div ?_ ?_); (focus (first | assumption | exact ⟨by decide, by decide⟩)))
  | ((with_reducible apply l_setL); (assumption); (exact rfl))
  | ((with_reducible refine l_mod ?_ ?_); (walk_at "side"))
  | ((with_reducible apply l_ixL); (assumption); (exact rfl))
  | ((with_reducible refine l_lenS ?_ ?_); (focus (first | assumption | exact sz (by omega) | exact sz (by simp; omega))))
  | ((with_reducible refine l_slS ?_ ?_); (focus (first | assumption | exact sz (by omega))))
  | ((with_reducible apply l_isi); (walk_at "ty"); (walk_at "kt"))
  | ((with_reducible apply l_lenL); (assumption)))
local macro_rules | `(tactic| walk_at "go") => `(tactic| repeat (walk_at "1"))
local macro_rules | `(tactic| walk_at "1") => `(tactic| first
  | (with_reducible refine i_mkS ?_)
  | (with_reducible refine i_cS ?_)
  | (with_reducible refine i_fld ?_)
  | (with_reducible refine i_sFld ?_)
  | (with_reducible refine i_tX ?_)
  | (with_reducible refine l_len2 rfl rfl ?_))
section
variable {P : Program} {w : World} {K : PySem.W.Frag} {mg : Str → Option Value} {base : Heap}
section
variable {H : Hp} {x y : V} {d e : PyData} {b : Bool} {Q : VK}
theorem l_neD (h1 : Dp K H x d) (h2 : Dp K H y e) (s1 : SeqAt.shaped d = true) (s2 : SeqAt.shaped e = true) (hb : PyData.eqv d e = b) (q : Q (.bl (!b)) H) : rNeA K x y H Q := .inr ⟨d, e, h1, h2, s1, s2, by rw [hb]; exact q⟩
end
theorem sh_tI (ns : List Int) : SeqAt.shaped (.tuple (ns.map PyData.int)) = true := by
  unfold SeqAt.shaped
  have h := depth_ints ns
  rw [PyData.canLay0, lay_ints ns, PyData.depth]
  simp
  omega
theorem sh_tB (ns : List Bool) : SeqAt.shaped (.tuple (ns.map PyData.bool)) = true := by
  unfold SeqAt.shaped
  have h := depth_bls ns
  rw [PyData.canLay0, lay_bls ns, PyData.depth]
  simp
  omega
theorem eqv_tI (ns : List Int) : PyData.eqv (.tuple (ns.map .int)) (.tuple (ns.map .int)) = true := by rw [PyData.eqv, eqv_ints, decide_eq_true rfl]
theorem eqv_tB (ns : List Bool) : PyData.eqv (.tuple (ns.map .bool)) (.tuple (ns.map .bool)) = true := by rw [PyData.eqv, eqv_bls, decide_eq_true rfl]
theorem line_wo {ns : List Int} {bs : List Bool} (bn : ∀ n ∈ ns, n.natAbs < 10 ^ 40) : ∀ x ∈ lineOf ns bs, Wo x := fun x hx => by
  unfold lineOf at hx
  simp only [List.mem_append, List.mem_map, List.mem_singleton] at hx
  rcases hx with (⟨n, hn, rfl⟩ | rfl) | ⟨b, hb, rfl⟩
  · exact wo_nW (bn n hn)
  · exact wo_slash
  · exact wo_oW b
theorem line_reads {ns : List Int} {bs : List Bool} (bn : ∀ n ∈ ns, n.natAbs < 10 ^ 40) : Reads2 (lineOf ns bs) ns bs := by
  refine ⟨ns.map nW, bs.map oWord, by unfold lineOf; simp, fun h => ?_, ?_, ?_⟩
  · obtain ⟨n, hn, e⟩ := List.mem_map.mp h
    have := numV_nW (bn n hn)
    rw [e, numV_non num_slash] at this
    cases this
  · rw [List.map_map]
    exact List.map_congr_left fun n hn => numV_nW (bn n hn)
  · rw [List.map_map]
    exact List.map_congr_left fun b _ => outV_oW b
theorem rd_line {C CB : Addr} {H : Hp} {z : Str} {ns : List Int} {bs : List Bool} {Q : VK} {E : XK} (hz : z = Txt.join " " (lineOf ns bs)) (bn : ∀ n ∈ ns, n.natAbs < 10 ^ 40) (l1 : ns.length ≤ 40) (l2 : bs.length ≤ 40) (q : ∀ v H', Ex H H' → PlayAt K C H' v ns bs → Q v H') : spRd K C CB [.str z] H Q E := by
  obtain ⟨j1, j2, j3⟩ := join_fine (ws := lineOf ns bs) (by unfold lineOf; simp) (by unfold lineOf; simp; omega) (line_wo bn)
  rw [← hz] at j1 j2
  refine ⟨_, rfl, .inr ⟨z, rfl, by omega, fun w hw => ?_, ?_, .inr ⟨ns, bs, ?_, q⟩⟩⟩
  · rw [j1] at hw
    exact Nat.le_trans (line_wo bn w hw).len (by decide)
  · rw [j1]
    unfold lineOf
    simp
    omega
  · rw [j1]
    exact line_reads bn
theorem rs_lits : ∀ z ∈ (["", "yes", "1", " /", "/ ", "//", "- /", "-0 /", "00 /", "/ yes\n", "1\n/"] : List Str), z.length ≤ 9000 ∧ (∀ c ∈ z.cps.toList, c < 16 ^ 8) ∧ (∀ w ∈ Txt.split z " ", w.length ≤ 640) ∧ (Txt.split z " ").length ≤ 900 := by decide +kernel
theorem rs_lit {z : Str} (h : z ∈ (["", "yes", "1", " /", "/ ", "//", "- /", "-0 /", "00 /", "/ yes\n", "1\n/"] : List Str)) : Rs z := by
  obtain ⟨h1, h2, h3, h4⟩ := rs_lits z h
  refine ⟨h1, h2, h3, h4, ?_⟩
  simp only [List.mem_cons, List.not_mem_nil, or_false] at h
  rcases h with rfl | rfl | rfl | rfl | rfl | rfl | rfl | rfl | rfl | rfl | rfl
  · exact .inl (by decide +kernel)
  · exact .inl (by decide +kernel)
  · exact .inl (by decide +kernel)
  · exact .inr ⟨[""], [], by decide +kernel, by decide +kernel, .inl ⟨"", by decide +kernel, numV_non (by decide +kernel)⟩⟩
  · exact .inr ⟨[], [""], by decide +kernel, by decide +kernel, .inr ⟨"", by decide +kernel, outV_non (by decide +kernel) (by decide +kernel)⟩⟩
  · exact .inl (by decide +kernel)
  · exact .inr ⟨["-"], [], by decide +kernel, by decide +kernel, .inl ⟨"-", by decide +kernel, numV_non (by decide +kernel)⟩⟩
  · exact .inr ⟨["-0"], [], by decide +kernel, by decide +kernel, .inl ⟨"-0", by decide +kernel, numV_non (by decide +kernel)⟩⟩
  · exact .inr ⟨["00"], [], by decide +kernel, by decide +kernel, .inl ⟨"00", by decide +kernel, numV_non (by decide +kernel)⟩⟩
  · exact .inr ⟨[], ["yes\n"], by decide +kernel, by decide +kernel, .inr ⟨"yes\n", by decide +kernel, outV_non (by decide +kernel) (by decide +kernel)⟩⟩
  · exact .inl (by decide +kernel)
end
end K
namespace K
open PySem PySem.Spec PyProof.Rows L2 G TL
local macro_rules | `(tactic| walk_at "side") => `(tactic| focus (first | assumption | exact rfl | omega | decide))
local macro_rules | `(tactic| walk_at "ty") => `(tactic| focus (first | exact .base (.str _) | exact .base (.int _) | exact .base (.bl _) | exact .base .non | exact .base (.lst (by assumption)) | exact .base (.tup (by assumption)) | exact .base (.dK (by assumption)) | assumption))
local macro_rules | `(tactic| walk_at "kt") => `(tactic| focus (with_reducible first | exact kt_NoneType_str | exact kt_NoneType_int | exact kt_NoneType_bool | exact kt_NoneType_tuple | exact kt_NoneType_list | exact kt_NoneType_dict | exact kt_bool_str | exact kt_bool_int | exact kt_bool_bool | exact kt_bool_tuple | exact kt_bool_list | exact kt_bool_dict | exact kt_int_str | exact kt_int_int | exact kt_int_bool | exact kt_int_tuple | exact kt_int_list | exact kt_int_dict | exact kt_str_str | exact kt_str_int | exact kt_str_bool | exact kt_str_tuple | exact kt_str_list | exact kt_str_dict | exact kt_list_str | exact kt_list_int | exact kt_list_bool | exact kt_list_tuple | exact kt_list_list | exact kt_list_dict | exact kt_tuple_str | exact kt_tuple_int | exact kt_tuple_bool | exact kt_tuple_tuple | exact kt_tuple_list | exact kt_tuple_dict | exact kt_dict_str | exact kt_dict_int | exact kt_dict_bool | exact kt_dict_tuple | exact kt_dict_list | exact kt_dict_dict | assumption))
local macro_rules | `(tactic| walk_at "1") => `(tactic| first
  | (with_reducible refine i_seq ?_)
  | (with_reducible refine iteT ?_)
  | (with_reducible refine iteF ?_)
  | (with_reducible refine iteNF ?_)
  | (with_reducible refine iteNT ?_)
  | (with_reducible refine i_asg ?_)
  | (with_reducible refine i_op ?_)
  | (with_reducible refine i_c ?_)
  | ((with_reducible apply i_var); (exact rfl))
  | (with_reducible refine i_cb ?_)
  | (with_reducible refine i_cons ?_)
  | (with_reducible refine i_nil ?_)
  | (with_reducible refine i_test ?_)
  | (with_reducible refine i_b ?_)
  | (with_reducible refine i_bl ?_)
  | (with_reducible refine i_name ?_)
  | (with_reducible refine i_ifS ?_)
  | (with_reducible refine i_next ?_)
  | (with_reducible refine i_ret ?_)
  | (with_reducible refine i_drop ?_)
  | (with_reducible refine i_lst ?_)
  | (with_reducible refine i_tup ?_)
  | (with_reducible refine i_and ?_)
  | (with_reducible refine i_or ?_)
  | (with_reducible refine i_not ?_)
  | (with_reducible refine i_andV ?_)
  | (with_reducible refine i_orV ?_)
  | (with_reducible refine i_notV ?_)
  | (with_reducible refine i_if ?_)
  | (with_reducible refine i_chain ?_)
  | (with_reducible refine i_un ?_)
  | (with_reducible refine i_neg ?_)
  | (with_reducible refine i_sub ?_)
  | (with_reducible refine i_sl ?_)
  | (with_reducible refine i_noP ?_)
  | (with_reducible refine i_part ?_)
  | (with_reducible refine i_int ?_)
  | (with_reducible refine i_bm ?_)
  | (with_reducible refine i_strT ?_)
  | (with_reducible refine i_yes ?_)
  | (with_reducible refine i_call ?_)
  | ((with_reducible refine i_len ?_ ?_); (focus (exact sz (by simp))))
  | (with_reducible refine i_lc ?_)
  | (with_reducible refine i_for ?_)
  | (with_reducible refine i_rng1 ?_)
  | (with_reducible refine i_rng2 ?_)
  | (with_reducible refine l_addI ?_)
  | (with_reducible refine l_subI ?_)
  | (with_reducible refine l_cmp ?_)
  | (with_reducible refine l_eqI ?_)
  | (with_reducible refine l_eqS ?_)
  | (with_reducible refine l_eqB ?_)
  | (with_reducible refine l_neI ?_)
  | (with_reducible refine l_neS ?_)
  | (with_reducible refine l_neB ?_)
  | (with_reducible refine l_isN ?_)
  | (with_reducible refine l_isNotN ?_)
  | (with_reducible refine l_isB ?_)
  | (with_reducible refine l_isNotB ?_)
  | (with_reducible refine l_intI ?_)
  | (with_reducible refine l_intB ?_)
  | (with_reducible refine l_inC ?_)
  | (refine ⟨_, _, rfl, rfl, sz (by first | omega | simp; omega), ?_⟩)
  | ((with_reducible refine l_pow ?_ ?_); (focus (exact ⟨by decide, by decide, by decide⟩)))
  | ((with_reducible refine l_mul ?_ ?_); (focus (first | assumption | exact Or.inl (Or.inl ⟨by omega, by omega⟩) | exact Or.inl (Or.inr ⟨by omega, by omega⟩))))
  | ((with_reducible refine l_div ?_ ?_); (focus (first | assumption | exact ⟨by decide, by decide⟩)))
  | ((with_reducible apply l_setL); (assumption); (exact rfl))
  | ((with_reducible refine l_mod ?_ ?_); (walk_at "side"))
  | ((with_reducible apply l_ixL); (assumption); (exact rfl))
  | ((with_reducible refine l_lenS ?_ ?_); (focus (first | assumption | exact sz (by omega) | exact sz (by simp; omega))))
  | ((with_reducible refine l_slS ?_ ?_); (focus (first | assumption | exact sz (by omega))))
  | ((with_reducible apply l_isi); (walk_at "ty"); (walk_at "kt"))
  | ((with_reducible apply l_lenL); (assumption)))
local macro_rules | `(tactic| walk_at "go") => `(tactic| repeat (walk_at "1"))
local macro_rules | `(tactic| walk_at "1") => `(tactic| first
  | (with_reducible refine i_mkS ?_)
  | (with_reducible refine i_cS ?_)
  | (with_reducible refine i_fld ?_)
  | (with_reducible refine i_sFld ?_)
  | (with_reducible refine i_tX ?_)
  | (with_reducible refine l_len2 rfl rfl ?_))
section
variable {P : Program} {w : World} {K : PySem.W.Frag} {mg : Str → Option Value} {base : Heap}
def spLaw (K : PySem.W.Frag) : Sp := fun vs H Q _ => ∃ (a : Addr) (ns : List Int), vs = [.ref a] ∧ SqL K H a (ns.map V.int) ∧ ns.length ≤ 63 ∧ ∀ H', Q (.bl true) H'
set_option maxHeartbeats 4000000 in
theorem ok_law {a_OUTCOMES C_RoundError C_BadPlay C_BadNote C_Play d_Play_0 d_Play_1 : Addr} (T : Tp K mg w a_OUTCOMES C_RoundError C_BadPlay C_BadNote C_Play d_Play_0 d_Play_1) {fa : Addr} (hfa : mg "law" = some (.ref fa)) : ∃ fd : FuncData, (∃ (kV doc pm : Value) (an : Option Addr) (cdv ct : Value), fd = PySem.W.fnOf "law" "law" (defArgs s_law) (defBody s_law) (defScope s_law) .none kV doc pm an cdv ct) ∧ ∀ base : Heap, Fg P w K mg base true 9 fa fd ["_law_script"] (spLaw K) := by
  refine T.d_law.lawG sc_law hfa (fun vs H Q E h => ?_) (fun base f cdv A outer s H vs Q E hr gd h => ?_)
  · obtain ⟨a, ns, rfl, _⟩ := h
    rfl
  · obtain ⟨a, script, rfl, hS, hl, fin⟩ := h
    have sc := sc_law
    have c__law_open : Cal P w K mg base 1 "_law_open" (spOpenL K) [] := ok_open T
    have c__law_draw : Cal P w K mg base 1 "_law_draw" spDrawL [] := ok_draw T
    have c__law_number : Cal P w K mg base 2 "_law_number" spInteger [] := ok_integer T
    have c__law_spoilt : Cal P w K mg base 2 "_law_spoilt" (spSp K) [] := ok_sp T
    have c_write_play : Cal P w K mg base 2 "write_play" (spWr K C_Play) [] := ok_wr T
    have c_read_play := ok_rd (P := P) (w := w) (base := base) T
    have c__law_refused := ok_ref (P := P) (w := w) (base := base) T
    have c_Play_2 := mk_Play_2 (P := P) (w := w) (base := base) T
    have c_Play_0 := mk_Play_0 (P := P) (w := w) (base := base) T
    have c_Play___eq__ := ok_eq (P := P) (w := w) (base := base) T
    refine ⟨_, 
    (pss_cons (ps_set (i := 1) sc.nd rfl (by first | exact Or.inl rfl | exact Or.inr rfl) (pe_c c__law_open hr (by decide) (by rfl) (pa_cons (pv 0) pa_nil)))
    (pss_cons (ps_setLc (i := 2) (own := [("_law_turn", 3)]) (by rfl) sc.nd rfl rfl (sw_true rfl rfl rfl (by decide +kernel)) (pi_range1 (by rfl) T.m_range (pa_cons (pe_c c__law_draw hr (by decide) (by rfl) (pa_cons (pv 1) (pa_cons (pe_int) pa_nil))) pa_nil)) (blkOk_by (N := ["_law_script", "_law_state", "_law_numbers", "_law_turn", "_law_outcomes", "_law_play", "_law_words", "_law_number_here", "_law_answers", "_law_outcome", "_law_line", "_law_again", "_law_value"]) (sc := defScope s_law) (by decide +kernel)) (fun _ _ _ _ _ => pg_name (i := 3) sc.nd rfl (by first | exact Or.inl rfl | exact Or.inr rfl)) (fun _ _ _ _ _ => pts_nil) (fun _ _ _ _ _ => pe_c c__law_number hr (by decide) (by rfl) (pa_cons (pv 1) pa_nil)))
    (pss_cons (ps_setLc (i := 4) (own := [("_law_turn", 3)]) (by rfl) sc.nd rfl rfl (sw_true rfl rfl rfl (by decide +kernel)) (pi_range1 (by rfl) T.m_range (pa_cons (pe_c c__law_draw hr (by decide) (by rfl) (pa_cons (pv 1) (pa_cons (pe_int) pa_nil))) pa_nil)) (blkOk_by (N := ["_law_script", "_law_state", "_law_numbers", "_law_turn", "_law_outcomes", "_law_play", "_law_words", "_law_number_here", "_law_answers", "_law_outcome", "_law_line", "_law_again", "_law_value"]) (sc := defScope s_law) (by decide +kernel)) (fun _ _ _ _ _ => pg_name (i := 3) sc.nd rfl (by first | exact Or.inl rfl | exact Or.inr rfl)) (fun _ _ _ _ _ => pts_nil) (fun _ _ _ _ _ => pe_cmpR (kEq (K := K) rfl hr) (pe_c c__law_draw hr (by decide) (by rfl) (pa_cons (pv 1) (pa_cons (pe_int) pa_nil))) (pe_int) (nomark _)))
    (pss_cons (ps_set (i := 5) sc.nd rfl (by first | exact Or.inl rfl | exact Or.inr rfl) (pe_mkS c_Play_2 hr (by decide) takes0 (by rfl) (pa_cons (pv 2) (pa_cons (pv 4) pa_nil))))
    (pss_cons (ps_setLc (i := 6) (own := [("_law_number_here", 7)]) (by rfl) sc.nd rfl rfl (sw_true rfl rfl rfl (by decide +kernel)) (kIT (K := K) rfl (pv 2)) (blkOk_by (N := ["_law_script", "_law_state", "_law_numbers", "_law_turn", "_law_outcomes", "_law_play", "_law_words", "_law_number_here", "_law_answers", "_law_outcome", "_law_line", "_law_again", "_law_value"]) (sc := defScope s_law) (by decide +kernel)) (fun _ _ _ _ _ => pg_name (i := 7) sc.nd rfl (by first | exact Or.inl rfl | exact Or.inr rfl)) (fun _ _ _ _ _ => pts_nil) (fun _ _ _ _ _ => pe_callTy g_str (by rfl) T.m_str (by decide +kernel) (pa_cons (pv 7) pa_nil)))
    (pss_cons (ps_setLc (i := 8) (own := [("_law_outcome", 9)]) (by rfl) sc.nd rfl rfl (sw_true rfl rfl rfl (by decide +kernel)) (kIT (K := K) rfl (pv 4)) (blkOk_by (N := ["_law_script", "_law_state", "_law_numbers", "_law_turn", "_law_outcomes", "_law_play", "_law_words", "_law_number_here", "_law_answers", "_law_outcome", "_law_line", "_law_again", "_law_value"]) (sc := defScope s_law) (by decide +kernel)) (fun _ _ _ _ _ => pg_name (i := 9) sc.nd rfl (by first | exact Or.inl rfl | exact Or.inr rfl)) (fun _ _ _ _ _ => pts_nil) (fun _ _ _ _ _ => pe_ix (kIx (K := K) rfl) (pe_lst (pa_cons (pe_str) (pa_cons (pe_str) pa_nil))) (pe_callTy g_int (by rfl) T.m_int (by decide +kernel) (pa_cons (pv 9) pa_nil)) (fun _ _ => rfl)))
    (pss_cons (ps_set (i := 10) sc.nd rfl (by first | exact Or.inl rfl | exact Or.inr rfl) (pe_join (pe_str) (pe_op (kAdd (K := K) rfl) (pe_op (kAdd (K := K) rfl) (pv 6) (pe_lst (pa_cons (pe_str) pa_nil))) (pv 8))))
    (pss_cons (ps_if (pt_cmpR (kNe (K := K) rfl hr) (pe_c c_write_play hr (by decide) (by rfl) (pa_cons (pv 5) pa_nil)) (pv 10) (nomark _)) (
      (pss_one (ps_ret (pe_bl)))) (pss_nil))
    (pss_cons (ps_set (i := 11) sc.nd rfl (by first | exact Or.inl rfl | exact Or.inr rfl) (pe_cS c_read_play hr (by decide) (fun e => nomatch e) takes0 (by rfl) (pa_cons (pv 10) pa_nil)))
    (pss_cons (ps_if (pt_cut (PW.pt (pw_or (pt_cmpR (ne_opI c_Play___eq__ T.ne_Play T.ob_Play hr (by decide)) (pv 11) (pv 5) (nomark _)) (pw_or (pt_cmpR (kNe (K := K) rfl hr) (pe_fld (pv 11) rfl) (pe_callTy (k_tuple (K := K) rfl) (by rfl) T.m_tuple (by decide +kernel) (pa_cons (pv 2) pa_nil)) (nomark _)) (pw_or1 (pt_cmpR (kNe (K := K) rfl hr) (pe_fld (pv 11) rfl) (pe_callTy (k_tuple (K := K) rfl) (by rfl) T.m_tuple (by decide +kernel) (pa_cons (pv 4) pa_nil)) (nomark _))))))) (
      (pss_one (ps_ret (pe_bl)))) (pss_nil))
    (pss_cons (ps_for PassesOwn.never rfl (pi_range1 (by rfl) T.m_range (pa_cons (pe_int) pa_nil)) (pg_name (i := 3) sc.nd rfl (by first | exact Or.inl rfl | exact Or.inr rfl)) (
      (pss_one (ps_if (pt_not (kTruth (K := K) rfl (pe_cS c__law_refused hr (by decide) (fun _ => gd rfl) takes0 (by rfl) (pa_cons (pe_c c__law_spoilt hr (by decide) (by rfl) (pa_cons (pv 1) (pa_cons (pv 6) (pa_cons (pv 8) pa_nil)))) pa_nil)) (by intro _; rfl))) (
        (pss_one (ps_ret (pe_bl)))) (pss_nil)))))
    (pss_cons (ps_for PassesOwn.never rfl (kIT (K := K) rfl (pe_lst (pa_cons (pe_non) (pa_cons (pe_int) (pa_cons (pe_bl) (pa_cons (pe_lst (pa_cons (pe_str) pa_nil)) (pa_cons (pe_str) (pa_cons (pe_str) (pa_cons (pe_str) (pa_cons (pe_str) (pa_cons (pe_str) (pa_cons (pe_str) (pa_cons (pe_str) (pa_cons (pe_str) (pa_cons (pe_str) (pa_cons (pe_str) (pa_cons (pe_str) pa_nil))))))))))))))))) (pg_name (i := 12) sc.nd rfl (by first | exact Or.inl rfl | exact Or.inr rfl)) (
      (pss_one (ps_if (pt_not (kTruth (K := K) rfl (pe_cS c__law_refused hr (by decide) (fun _ => gd rfl) takes0 (by rfl) (pa_cons (pv 12) pa_nil)) (by intro _; rfl))) (
        (pss_one (ps_ret (pe_bl)))) (pss_nil)))))
    (pss_one (ps_ret (pe_and (pe_cmpR (eq_opI c_Play___eq__ hr (by decide)) (pe_cS c_read_play hr (by decide) (fun e => nomatch e) takes0 (by rfl) (pa_cons (pe_str) pa_nil)) (pe_mkS0 c_Play_0 hr (by decide) takes0 (by rfl)) (nomark _)) (pe_and (pe_cmpR (kEq (K := K) rfl hr) (pe_c c_write_play hr (by decide) (by rfl) (pa_cons (pe_mkS0 c_Play_0 hr (by decide) takes0 (by rfl)) pa_nil)) (pe_str) (nomark _)) (pe_one (pe_cmpR (eq_opI c_Play___eq__ hr (by decide)) (pe_cS c_read_play hr (by decide) (fun e => nomatch e) takes0 (by rfl) (pa_cons (pe_str) pa_nil)) (pe_mkS c_Play_2 hr (by decide) takes0 (by rfl) (pa_cons (pe_lst (pa_cons (pe_int) pa_nil)) (pa_cons (pe_lst (pa_cons (pe_bl) pa_nil)) pa_nil))) (nomark _))))))))))))))))))), ?_⟩
    try rw [cxK]
    refine i_start (τ := [some (.ref a), none, none, none, none, none, none, none, none, none, none, none, none]) rfl ?_
    walk_at "go"
    refine ⟨a, script, rfl, hS, hl, fun st L H0 _ _ hD0 _ => ?_⟩
    walk_at "go"
    refine drawL hD0 (by decide) (by decide) (by decide) fun r H1 r0 r1 hD1 _ => ?_
    walk_at "go"
    refine ⟨r, rfl, by omega, by omega, ?_⟩
    intro pn hpn
    obtain ⟨n1, n2⟩ := hD1.ne hpn
    refine lc_range (fun i H' => ∃ ns : List Int, H' pn = some (.lst (ns.map V.int)) ∧ ns.length = i ∧ (∀ n ∈ ns, n.natAbs < 10 ^ 40) ∧ Dl H' st L (1 + 50 * i)) ⟨[], upd_same, rfl, (fun n h => nomatch h), (hD1.mono (Ex.new hpn)).up (by omega)⟩ ?_ ?_
    · rintro i H' hi ⟨ns, hl', hn, hbd, hd⟩
      have hi9 : i < 9 := by omega
      refine ⟨rfl, ?_⟩
      walk_at "go"
      refine ⟨st, L, _, rfl, hd, by omega, fun n H2 hn2 hD2 b2 => ?_⟩
      refine ⟨_, b2 _ _ n1 hl', szl (by simp; omega), ns ++ [n], ?_, by simp [hn], fun m hm => ?_, (hD2.put n1 n2).up (by omega)⟩
      · rw [upd_same, List.map_append]
        rfl
      · rcases List.mem_append.mp hm with h | h
        · exact hbd m h
        · rw [List.mem_singleton] at h
          exact h ▸ hn2
    rintro H2 ⟨ns, hN2, lN, bn, hD2⟩
    have hD2 := hD2.up (b' := 600) (by omega)
    have lN' : ns.length ≤ 8 := by omega
    clear hD0 hD1
    walk_at "go"
    refine drawL hD2 (by decide) (by decide) (by decide) fun r' H3 r0' r1' hD3 b3 => ?_
    have hN3 := b3 _ _ n1 hN2
    walk_at "go"
    refine ⟨r', rfl, by omega, by omega, ?_⟩
    intro po hpo
    obtain ⟨m1, m2⟩ := hD3.ne hpo
    have npo : pn ≠ po := ne_of_none hN3 hpo
    refine lc_range (fun i H' => ∃ bs : List Bool, H' po = some (.lst (bs.map V.bl)) ∧ bs.length = i ∧ Dl H' st L (601 + i) ∧ H' pn = some (.lst (ns.map V.int))) ⟨[], upd_same, rfl, (hD3.mono (Ex.new hpo)).up (by omega), Ex.new hpo _ _ hN3⟩ ?_ ?_
    · rintro i H' hi ⟨bs, hl', hn, hd, hN'⟩
      have hi9 : i < 9 := by omega
      refine ⟨rfl, ?_⟩
      walk_at "go"
      refine drawL hd (by decide) (by decide) (by omega) fun r'' H4 r0'' r1'' hD4 b4 => ?_
      walk_at "go"
      refine ⟨_, b4 _ _ m1 hl', szl (by simp; omega), bs ++ [decide (r'' = 1)], ?_, by simp [hn], (hD4.put m1 m2).up (by omega), ?_⟩
      · rw [upd_same, List.map_append]
        rfl
      · rw [upd_ne npo]
        exact b4 _ _ n1 hN'
    rintro H4 ⟨bs, hO4, lO, hD4, hN4⟩
    have hD4 := hD4.up (b' := 700) (by omega)
    have lO' : bs.length ≤ 8 := by omega
    clear hD2 hD3 hN2 hN3 b3 hpn hpo
    walk_at "go"
    refine play_new (.l (.of hN4)) (.l (.of hO4)) (by omega) (by omega) fun v H5 e5 pv => ?_
    have hN5 := e5 _ _ hN4
    have hO5 := e5 _ _ hO4
    have hD5 := hD4.mono e5
    walk_at "go"
    refine lc_var (f := strN) rfl (.l (.of hN5)) (by simp; omega) (fun _ => rfl) (fun y hy H' R e r => ?_) fun pw H6 hpw e6 hW6 => ?_
    · obtain ⟨n, hn, rfl⟩ := List.mem_map.mp hy
      exact i_cb (i_cons (i_var rfl (i_nil (l_strI (log_of (bn n hn)) (r H' (Ex.refl H'))))))
    have q1 : (ns.map V.int).map strN = (ns.map nW).map V.str := by rw [List.map_map, List.map_map]; rfl
    rw [q1] at hW6
    have npw := (hD5.ne hpw).1
    have hD6 := hD5.mono e6
    walk_at "go"
    refine lc_var (f := strB) rfl (.l (.of (e6 _ _ hO5))) (by simp; omega) (fun _ => rfl) (fun y hy H' R e r => ?_) fun pa H7 hpa e7 hA7 => ?_
    · obtain ⟨b, hb, rfl⟩ := List.mem_map.mp hy
      walk_at "go"
      intro p hp
      walk_at "go"
      cases b
      · exact l_ixL upd_same rfl (r _ (Ex.new hp))
      · exact l_ixL upd_same rfl (r _ (Ex.new hp))
    have q2 : (bs.map V.bl).map strB = (bs.map oWord).map V.str := by rw [List.map_map, List.map_map]; rfl
    rw [q2] at hA7
    have npa := (hD6.ne hpa).1
    have hD7 := hD6.mono e7
    have hW7 := e7 _ _ hW6
    have e57 := e6.trans e7
    have pv7 := pv.mono e57
    have hN7 := e57 _ _ hN5
    have hO7 := e57 _ _ hO5
    clear hD4 hD5 hD6 hN4 hO4 hN5 hO5 hW6 pv e57 e6 e7 e5 hpw hpa
    walk_at "go"
    refine i_c ⟨⟨_, rfl⟩, ?_⟩
    walk_at "go"
    intro w1 hw1
    have e8 : Ex H7 (upd H7 w1 (HO.lst [V.str ("/")])) := Ex.new hw1
    have W1 : (upd H7 w1 (HO.lst [V.str ("/")])) w1 = some (HO.lst ((["/"] : List Str).map V.str)) := upd_same
    generalize (upd H7 w1 (HO.lst [V.str ("/")])) = H8 at e8 W1 ⊢
    refine l_addW (e8 _ _ hW7) W1 (by simp; omega) fun w2 H9 e9 W2 => ?_
    have e79 := e8.trans e9
    walk_at "go"
    refine l_addW W2 (e79 _ _ hA7) (by simp; omega) fun w3 H10 e10 W3 => ?_
    have e710 := e79.trans e10
    have hsz : ((lineOf ns bs).map (·.length)).sum + (lineOf ns bs).length * ((" " : Str)).length ≤ 16777216 := by
      have h1 := sum_le (line_len (ns := ns) (bs := bs) bn)
      have h2 : (lineOf ns bs).length ≤ 17 := by unfold lineOf; simp; omega
      show _ + _ * 1 ≤ _
      omega
    refine ⟨_, w3, lineOf ns bs, rfl, rfl, .inl (.of W3), hsz, ?_⟩
    have hD10 := hD7.mono e710
    have hW10 := e710 _ _ hW7
    have hA10 := e710 _ _ hA7
    have hN10 := e710 _ _ hN7
    have hO10 := e710 _ _ hO7
    have pv10 := pv7.mono e710
    clear hD7 hW7 hA7 hN7 hO7 pv7 e710 e79 e8 e9 e10 W1 W2 W3
    walk_at "go"
    refine ⟨_, ns, bs, rfl, pv10, by omega, by omega, bn, fun H11 e11 => ?_⟩
    walk_at "go"
    rw [decide_eq_true rfl]
    walk_at "go"
    refine rd_line (ns := ns) (bs := bs) rfl bn (by omega) (by omega) fun v2 H12 e12 pv2 => ?_
    have e1012 := e11.trans e12
    have hD12 := hD10.mono e1012
    have hW12 := e1012 _ _ hW10
    have hA12 := e1012 _ _ hA10
    have hN12 := e1012 _ _ hN10
    have hO12 := e1012 _ _ hO10
    have pv12 := pv10.mono e1012
    clear hD10 hW10 hA10 hN10 hO10 pv10 e1012 e11 e12
    walk_at "go"
    refine i_cutT (fun b H' => b = false ∧ Ex H12 H') ?_ ?_
    · walk_at "go"
      refine ne_PP T pv2 pv12 fun H13 e13 => ⟨false, by simp, ?_⟩
      walk_at "go"
      obtain ⟨x2, dx2, p2, q2, rfl, g1, g2, g3⟩ := pv2.mono e13
      refine ⟨x2, C_Play, dx2, _, _, rfl, g1, T.cl_Play, T.n_Play_numbers, lk_num, ?_⟩
      walk_at "go"
      refine l_tupSq (.l (.of (e13 _ _ hN12))) fun t1 H14 e14 h14 => ?_
      refine l_neD (.tup (sqT_mono e14 g2) (dp_ints ns)) (.tup h14 (dp_ints ns)) (sh_tI ns) (sh_tI ns) (eqv_tI ns) ?_
      walk_at "go"
      refine ⟨x2, C_Play, dx2, _, _, rfl, e14 _ _ g1, T.cl_Play, T.n_Play_outcomes, lk_out, ?_⟩
      walk_at "go"
      refine l_tupSq (.l (.of (e14 _ _ (e13 _ _ hO12)))) fun t2 H15 e15 h15 => ?_
      refine l_neD (.tup (sqT_mono (e14.trans e15) g3) (dp_bls bs)) (.tup h15 (dp_bls bs)) (sh_tB bs) (sh_tB bs) (eqv_tB bs) ?_
      exact ⟨false, rfl, rfl, e13.trans (e14.trans e15)⟩
    rintro _ H13 ⟨rfl, e13⟩
    have hD13 := hD12.mono e13
    have hW13 := e13 _ _ hW12
    have hA13 := e13 _ _ hA12
    walk_at "go"
    refine ⟨_, rfl, by omega, by omega, ?_⟩
    refine for_rng (fun i σ H' => ∃ v3, σ = [some (.ref a), some (.ref st), some (.ref pn), v3, some (.ref po), some (.ref v), some (.ref pw), none, some (.ref pa), none, some (.str (Txt.join " " (lineOf ns bs))), some v2, none] ∧ Dl H' st L (700 + 3 * i) ∧ H' pw = some (.lst ((ns.map nW).map V.str)) ∧ H' pa = some (.lst ((bs.map oWord).map V.str))) ⟨_, rfl, hD13.up (by omega), hW13, hA13⟩ ?_ ?_
    · rintro i σ H' hi ⟨v3, rfl, hd, hw, ha⟩
      walk_at "go"
      refine ⟨st, L, _, pw, pa, ns.map nW, bs.map oWord, rfl, hd, by omega, hw, ha, npw, npa, by simp; omega, by simp; omega, fun w hw => ?_, fun w hw => ?_, fun ws H14 hs hD14 b14 => ?_⟩
      · obtain ⟨n, hn, rfl⟩ := List.mem_map.mp hw
        exact nW_len (bn n hn)
      · obtain ⟨n, hn, rfl⟩ := List.mem_map.mp hw
        exact Nat.le_trans (oW_len n) (by decide)
      have rs : Rs (Txt.join " " ws) := by
        have g1 : ∀ w ∈ ns.map nW, Wo w ∧ numV w ≠ .non := fun w hw => by
          obtain ⟨n, hn, rfl⟩ := List.mem_map.mp hw
          exact ⟨wo_nW (bn n hn), by rw [numV_nW (bn n hn)]; exact fun h => by cases h⟩
        have g2 : ∀ w ∈ bs.map oWord, Wo w ∧ outV w ≠ .non := fun w hw => by
          obtain ⟨n, hn, rfl⟩ := List.mem_map.mp hw
          exact ⟨wo_oW n, by rw [outV_oW]; exact fun h => by cases h⟩
        rcases spoilt_rs hs (by simp; omega) (by simp; omega) g1 g2 (.inr True.intro) with e | h
        · rw [e]
          exact rs_empty
        · exact h
      walk_at "go"
      refine ⟨_, _, rfl, shw_str rs.sh rs.len, .inr ⟨_, rfl, rs⟩, fun H15 e15 => ⟨true, by simp [TruV], ?_⟩⟩
      walk_at "go"
      exact ⟨_, rfl, (hD14.mono e15).up (by omega), e15 _ _ (b14 _ _ npw hw), e15 _ _ (b14 _ _ npa ha)⟩
    rintro σ H14 ⟨v3, rfl, hD14, _, _⟩
    walk_at "go"
    refine i_anyL ?_
    walk_at "go"
    intro u1 hu1
    have eu1 : Ex H14 (upd H14 u1 (.lst [.str "/"])) := Ex.new hu1
    have hu1' : (upd H14 u1 (.lst [.str "/"])) u1 = some (.lst [.str "/"]) := upd_same
    generalize (upd H14 u1 (.lst [.str "/"])) = G1 at eu1 hu1' ⊢
    walk_at "go"
    intro u2 hu2
    have eu2 : Ex G1 (upd G1 u2 (.lst [.non, .int 3, .bl true, .ref u1, .str "", .str "yes", .str "1", .str " /", .str "/ ", .str "//", .str "- /", .str "-0 /", .str "00 /", .str "/ yes\n", .str "1\n/"])) := Ex.new hu2
    have hu2' : (upd G1 u2 (.lst [.non, .int 3, .bl true, .ref u1, .str "", .str "yes", .str "1", .str " /", .str "/ ", .str "//", .str "- /", .str "-0 /", .str "00 /", .str "/ yes\n", .str "1\n/"])) u2 = some (.lst [.non, .int 3, .bl true, .ref u1, .str "", .str "yes", .str "1", .str " /", .str "/ ", .str "//", .str "- /", .str "-0 /", .str "00 /", .str "/ yes\n", .str "1\n/"]) := upd_same
    have hu1'' := eu2 _ _ hu1'
    generalize (upd G1 u2 (.lst [.non, .int 3, .bl true, .ref u1, .str "", .str "yes", .str "1", .str " /", .str "/ ", .str "//", .str "- /", .str "-0 /", .str "00 /", .str "/ yes\n", .str "1\n/"])) = G2 at eu2 hu2' hu1'' ⊢
    have odd : ∀ x ∈ [V.non, .int 3, .bl true, .ref u1, .str "", .str "yes", .str "1", .str " /", .str "/ ", .str "//", .str "- /", .str "-0 /", .str "00 /", .str "/ yes\n", .str "1\n/"], ∀ H', Ex G2 H' → ∃ z, Shw K H' x z ∧ ((∃ t, TyX K H' x t ∧ PySem.W.kitOne K t (.type "str") = some false) ∨ (∃ y, x = .str y ∧ Rs y)) := fun x hx H' e => by
      have st : ∀ z : Str, z ∈ (["", "yes", "1", " /", "/ ", "//", "- /", "-0 /", "00 /", "/ yes\n", "1\n/"] : List Str) → ∃ z', Shw K H' (.str z) z' ∧ ((∃ t, TyX K H' (.str z) t ∧ PySem.W.kitOne K t (.type "str") = some false) ∨ (∃ y, V.str z = .str y ∧ Rs y)) := fun z hz => ⟨_, shw_str (rs_lit hz).sh (rs_lit hz).len, .inr ⟨z, rfl, rs_lit hz⟩⟩
      simp only [List.mem_cons, List.not_mem_nil, or_false] at hx
      rcases hx with rfl | rfl | rfl | rfl | rfl | rfl | rfl | rfl | rfl | rfl | rfl | rfl | rfl | rfl | rfl
      · exact ⟨_, shw_dp .non rfl rfl (by decide) (by decide), .inl ⟨_, .base .non, kt_NoneType_str⟩⟩
      · exact ⟨_, shw_dp (.int 3) (by decide) rfl (by decide +kernel) (by decide), .inl ⟨_, .base (.int _), kt_int_str⟩⟩
      · exact ⟨_, shw_dp (.bl true) rfl rfl (by decide) (by decide), .inl ⟨_, .base (.bl _), kt_bool_str⟩⟩
      · exact ⟨_, shw_dp (.lst (.of (e _ _ hu1'')) (.cons (.str _) .nil)) (by decide) (by decide) (by decide +kernel) (by decide), .inl ⟨_, .base (.lst (e _ _ hu1'')), kt_list_str⟩⟩
      all_goals exact st _ (by decide +kernel)
    refine ⟨u2, rfl, ⟨_, .of hu2'⟩, ?_⟩
    refine for_lst (xs := [V.non, .int 3, .bl true, .ref u1, .str "", .str "yes", .str "1", .str " /", .str "/ ", .str "//", .str "- /", .str "-0 /", .str "00 /", .str "/ yes\n", .str "1\n/"]) (fun _ σ H' => ∃ v12, σ = [some (.ref a), some (.ref st), some (.ref pn), v3, some (.ref po), some (.ref v), some (.ref pw), none, some (.ref pa), none, some (.str (Txt.join " " (lineOf ns bs))), some v2, v12] ∧ Ex G2 H') ⟨_, rfl, Ex.refl _⟩ (fun _ _ _ _ ⟨_, _, e⟩ => .of (e _ _ hu2')) ?_ ?_
    · rintro i x σ H' hi ⟨v12, rfl, e⟩
      obtain ⟨z, hz, h⟩ := odd x (List.mem_of_getElem? hi) H' e
      walk_at "go"
      refine ⟨_, z, rfl, hz, h, fun H15 e15 => ⟨true, by simp [TruV], ?_⟩⟩
      walk_at "go"
      exact ⟨_, rfl, e.trans e15⟩
    rintro σ G3 ⟨v12, rfl, e3⟩
    walk_at "go"
    refine rd_line (ns := []) (bs := []) (by decide +kernel) (fun n h => nomatch h) (by simp) (by simp) fun y1 G4 e4 py1 => ?_
    walk_at "go"
    refine play_new (ns := []) (bs := []) (.t (T.td_Play_0 _)) (.t (T.td_Play_1 _)) (by simp) (by simp) fun y2 G5 e5 py2 => ?_
    refine eq_PP T (py1.mono e5) py2 fun G6 e6 => ?_
    rw [decide_eq_true rfl, decide_eq_true rfl, Bool.and_self]
    walk_at "go"
    refine play_new (ns := []) (bs := []) (.t (T.td_Play_0 _)) (.t (T.td_Play_1 _)) (by simp) (by simp) fun y3 G7 e7 py3 => ?_
    walk_at "go"
    refine ⟨_, [], [], rfl, py3, by simp, by simp, (fun n h => nomatch h), fun G8 e8 => ?_⟩
    walk_at "go"
    rw [decide_eq_true (show Txt.join " " (lineOf [] []) = "/" by decide +kernel)]
    walk_at "go"
    refine rd_line (z := "0 / no") (ns := [0]) (bs := [false]) (by decide +kernel) (fun n h => by simp at h; subst h; decide) (by simp) (by simp) fun y4 G9 e9 py4 => ?_
    walk_at "go"
    intro l1 hl1
    have f1 : Ex G9 (upd G9 l1 (.lst [.int 0])) := Ex.new hl1
    have W1 : (upd G9 l1 (.lst [.int 0])) l1 = some (.lst [.int 0]) := upd_same
    generalize (upd G9 l1 (.lst [.int 0])) = G10 at f1 W1 ⊢
    walk_at "go"
    intro l2 hl2
    have f2 : Ex G10 (upd G10 l2 (.lst [.bl false])) := Ex.new hl2
    walk_at "go"
    refine play_new (ns := [0]) (bs := [false]) (.l (.of (f2 _ _ W1))) (.l (.of upd_same)) (by simp) (by simp) fun y5 G11 e11 py5 => ?_
    refine eq_PP T (py4.mono (f1.trans (f2.trans e11))) py5 fun G12 e12 => ?_
    exact fin _
theorem law_mk {fa : Addr} (hfa : mg "law" = some (.ref fa)) (hT : ∃ a_OUTCOMES C_RoundError C_BadPlay C_BadNote C_Play d_Play_0 d_Play_1 : Addr, Tp K mg w a_OUTCOMES C_RoundError C_BadPlay C_BadNote C_Play d_Play_0 d_Play_1) :
    ∃ fd : FuncData, (∀ (s : Shared) (u : Value), BindsTo s fd ⟨[u], []⟩ [("_law_script", u)]) ∧ ∀ base : Heap, K.In base → base.Ns mainGlobals mg → Fg P w K mg base true 9 fa fd ["_law_script"] (spLaw K) := by
  obtain ⟨a_OUTCOMES, C_RoundError, C_BadPlay, C_BadNote, C_Play, d_Play_0, d_Play_1, T⟩ := hT
  obtain ⟨fd, ⟨kV, doc, pm, an, cdv, ct, rfl⟩, hF⟩ := ok_law (P := P) (w := w) T hfa
  exact ⟨_, fun s v => .of_eq rfl, fun base _ _ => hF base⟩
end
end K
namespace K
open PySem PySem.Spec PyProof.Rows L2 G TL
local macro_rules | `(tactic| walk_at "side") => `(tactic| focus (first | assumption | exact rfl | omega | decide))
local macro_rules | `(tactic| walk_at "ty") => `(tactic| focus (first | exact .base (.str _) | exact .base (.int _) | exact .base (.bl _) | exact .base .non | exact .base (.lst (by assumption)) | exact .base (.tup (by assumption)) | exact .base (.dK (by assumption)) | assumption))
local macro_rules | `(tactic| walk_at "kt") => `(tactic| focus (with_reducible first | exact kt_NoneType_str | exact kt_NoneType_int | exact kt_NoneType_bool | exact kt_NoneType_tuple | exact kt_NoneType_list | exact kt_NoneType_dict | exact kt_bool_str | exact kt_bool_int | exact kt_bool_bool | exact kt_bool_tuple | exact kt_bool_list | exact kt_bool_dict | exact kt_int_str | exact kt_int_int | exact kt_int_bool | exact kt_int_tuple | exact kt_int_list | exact kt_int_dict | exact kt_str_str | exact kt_str_int | exact kt_str_bool | exact kt_str_tuple | exact kt_str_list | exact kt_str_dict | exact kt_list_str | exact kt_list_int | exact kt_list_bool | exact kt_list_tuple | exact kt_list_list | exact kt_list_dict | exact kt_tuple_str | exact kt_tuple_int | exact kt_tuple_bool | exact kt_tuple_tuple | exact kt_tuple_list | exact kt_tuple_dict | exact kt_dict_str | exact kt_dict_int | exact kt_dict_bool | exact kt_dict_tuple | exact kt_dict_list | exact kt_dict_dict | assumption))
local macro_rules | `(tactic| walk_at "1") => `(tactic| first
  | (with_reducible refine i_seq ?_)
  | (with_reducible refine iteT ?_)
  | (with_reducible refine iteF ?_)
  | (with_reducible refine iteNF ?_)
  | (with_reducible refine iteNT ?_)
  | (with_reducible refine i_asg ?_)
  | (with_reducible refine i_op ?_)
  | (with_reducible refine i_c ?_)
  | ((with_reducible apply i_var); (exact rfl))
  | (with_reducible refine i_cb ?_)
  | (with_reducible refine i_cons ?_)
  | (with_reducible refine i_nil ?_)
  | (with_reducible refine i_test ?_)
  | (with_reducible refine i_b ?_)
  | (with_reducible refine i_bl ?_)
  | (with_reducible refine i_name ?_)
  | (with_reducible refine i_ifS ?_)
  | (with_reducible refine i_next ?_)
  | (with_reducible refine i_ret ?_)
  | (with_reducible refine i_drop ?_)
  | (with_reducible refine i_lst ?_)
  | (with_reducible refine i_tup ?_)
  | (with_reducible refine i_and ?_)
  | (with_reducible refine i_or ?_)
  | (with_reducible refine i_not ?_)
  | (with_reducible refine i_andV ?_)
  | (with_reducible refine i_orV ?_)
  | (with_reducible refine i_notV ?_)
  | (with_reducible refine i_if ?_)
  | (with_reducible refine i_chain ?_)
  | (with_reducible refine i_un ?_)
  | (with_reducible refine i_neg ?_)
  | (with_reducible refine i_sub ?_)
  | (with_reducible refine i_sl ?_)
  | (with_reducible refine i_noP ?_)
  | (with_reducible refine i_part ?_)
  | (with_reducible refine i_int ?_)
  | (with_reducible refine i_bm ?_)
  | (with_reducible refine i_strT ?_)
  | (with_reducible refine i_yes ?_)
  | (with_reducible refine i_call ?_)
  | ((with_reducible refine i_len ?_ ?_); (focus (exact sz (by simp))))
  | (with_reducible refine i_lc ?_)
  | (with_reducible refine i_for ?_)
  | (with_reducible refine i_rng1 ?_)
  | (with_reducible refine i_rng2 ?_)
  | (with_reducible refine l_addI ?_)
  | (with_reducible refine l_subI ?_)
  | (with_reducible refine l_cmp ?_)
  | (with_reducible refine l_eqI ?_)
  | (with_reducible refine l_eqS ?_)
  | (with_reducible refine l_eqB ?_)
  | (with_reducible refine l_neI ?_)
  | (with_reducible refine l_neS ?_)
  | (with_reducible refine l_neB ?_)
  | (with_reducible refine l_isN ?_)
  | (with_reducible refine l_isNotN ?_)
  | (with_reducible refine l_isB ?_)
  | (with_reducible refine l_isNotB ?_)
  | (with_reducible refine l_intI ?_)
  | (with_reducible refine l_intB ?_)
  | (with_reducible refine l_inC ?_)
  | (refine ⟨_, _, rfl, rfl, sz (by first | omega | simp; omega), ?_⟩)
  | ((with_reducible refine l_pow ?_ ?_); (focus (exact ⟨by decide, by decide, by decide⟩)))
  | ((with_reducible refine l_mul ?_ ?_); (focus (first | assumption | exact Or.inl (Or.inl ⟨by omega, by omega⟩) | exact Or.inl (Or.inr ⟨by omega, by omega⟩))))
  | ((with_reducible refine l_div ?_ ?_); (focus (first | assumption | exact ⟨by decide, by decide⟩)))
  | ((with_reducible apply l_setL); (assumption); (exact rfl))
  | ((with_reducible refine l_mod ?_ ?_); (walk_at "side"))
  | ((with_reducible apply l_ixL); (assumption); (exact rfl))
  | ((with_reducible refine l_lenS ?_ ?_); (focus (first | assumption | exact sz (by omega) | exact sz (by simp; omega))))
  | ((with_reducible refine l_slS ?_ ?_); (focus (first | assumption | exact sz (by omega))))
  | ((with_reducible apply l_isi); (walk_at "ty"); (walk_at "kt"))
  | ((with_reducible apply l_lenL); (assumption)))
local macro_rules | `(tactic| walk_at "go") => `(tactic| repeat (walk_at "1"))
local macro_rules | `(tactic| walk_at "1") => `(tactic| first
  | (with_reducible refine i_mkS ?_)
  | (with_reducible refine i_cS ?_)
  | (with_reducible refine i_fld ?_)
  | (with_reducible refine i_sFld ?_)
  | (with_reducible refine i_tX ?_)
  | (with_reducible refine l_len2 rfl rfl ?_))
section
variable {P : Program} {w : World} {K : PySem.W.Frag} {mg : Str → Option Value} {base : Heap}
theorem all_mk {w : World} {K : PySem.W.Frag} {h : Heap} {mg : Str → Option Value} {fa : Addr} (X : K.In h) (G : h.Ns mainGlobals mg) (hfa : mg "law" = some (.ref fa))
    {tk_DIGITS : Tok}
    {tk_MOST_DIGITS : Tok}
    {tk_MOST_FIGURES : Tok}
    {a_OUTCOMES : Addr} {n_OUTCOMES : Nat}
    {tk_OUTCOMES_0 : Tok}
    {tk_OUTCOMES_1 : Tok}
    {C_RoundError : Addr}
    {C_BadPlay : Addr}
    {nm_BadPlay qn_BadPlay : Str} {N_BadPlay : Addr} {bs_BadPlay : List Value} {sn_BadPlay : List Str} {su_BadPlay : List Value} {ab_BadPlay : Bool} {co_BadPlay : Option Bool} {dd_BadPlay : Option Addr} {x0_BadPlay x1_BadPlay x2_BadPlay x3_BadPlay x5_BadPlay : Option Value}
    {f_BadPlay___init__ : Addr} {od_BadPlay___init__ an_BadPlay___init__ : Option Addr} {sl_BadPlay___init__ : Array (Option Value)} {oc_BadPlay___init__ kV_BadPlay___init__ dc_BadPlay___init__ pm_BadPlay___init__ cd_BadPlay___init__ ct_BadPlay___init__ : Value}
    {C_BadNote : Addr}
    {nm_BadNote qn_BadNote : Str} {N_BadNote : Addr} {bs_BadNote : List Value} {sn_BadNote : List Str} {su_BadNote : List Value} {ab_BadNote : Bool} {co_BadNote : Option Bool} {dd_BadNote : Option Addr} {x0_BadNote x1_BadNote x2_BadNote x3_BadNote x5_BadNote : Option Value}
    {f_BadNote___init__ : Addr} {od_BadNote___init__ an_BadNote___init__ : Option Addr} {sl_BadNote___init__ : Array (Option Value)} {oc_BadNote___init__ kV_BadNote___init__ dc_BadNote___init__ pm_BadNote___init__ cd_BadNote___init__ ct_BadNote___init__ : Value}
    {C_Play : Addr}
    {T_Play : Addr} {tc_Play : Value} {td_Play : Option Addr} {tn_Play : Nat} {tl_Play : Array (Option Value)}
    {d_Play_0 : Addr} {dd_Play_0 : Option Addr} {dn_Play_0 : Nat} {dl_Play_0 : Array (Option Value)}
    
    {d_Play_1 : Addr} {dd_Play_1 : Option Addr} {dn_Play_1 : Nat} {dl_Play_1 : Array (Option Value)}
    
    {f_Play___init__ : Addr} {od_Play___init__ an_Play___init__ : Option Addr} {sl_Play___init__ : Array (Option Value)} {oc_Play___init__ kV_Play___init__ dc_Play___init__ pm_Play___init__ cd_Play___init__ ct_Play___init__ : Value}
    {f_Play___add__ : Addr} {od_Play___add__ an_Play___add__ : Option Addr} {sl_Play___add__ : Array (Option Value)} {oc_Play___add__ kV_Play___add__ dc_Play___add__ pm_Play___add__ cd_Play___add__ ct_Play___add__ : Value}
    {f_Play___eq__ : Addr} {od_Play___eq__ an_Play___eq__ : Option Addr} {sl_Play___eq__ : Array (Option Value)} {oc_Play___eq__ kV_Play___eq__ dc_Play___eq__ pm_Play___eq__ cd_Play___eq__ ct_Play___eq__ : Value}
    {f_is_integer : Addr} {od_is_integer an_is_integer : Option Addr} {sl_is_integer : Array (Option Value)} {oc_is_integer kV_is_integer dc_is_integer pm_is_integer cd_is_integer ct_is_integer : Value}
    {f_number_of : Addr} {od_number_of an_number_of : Option Addr} {sl_number_of : Array (Option Value)} {oc_number_of kV_number_of dc_number_of pm_number_of cd_number_of ct_number_of : Value}
    {f_note_words : Addr} {od_note_words an_note_words : Option Addr} {sl_note_words : Array (Option Value)} {oc_note_words kV_note_words dc_note_words pm_note_words cd_note_words ct_note_words : Value}
    {f_note_number : Addr} {od_note_number an_note_number : Option Addr} {sl_note_number : Array (Option Value)} {oc_note_number kV_note_number dc_note_number pm_note_number cd_note_number ct_note_number : Value}
    {f_outcome_word : Addr} {od_outcome_word an_outcome_word : Option Addr} {sl_outcome_word : Array (Option Value)} {oc_outcome_word kV_outcome_word dc_outcome_word pm_outcome_word cd_outcome_word ct_outcome_word : Value}
    {f_write_play : Addr} {od_write_play an_write_play : Option Addr} {sl_write_play : Array (Option Value)} {oc_write_play kV_write_play dc_write_play pm_write_play cd_write_play ct_write_play : Value}
    {f_read_play : Addr} {od_read_play an_read_play : Option Addr} {sl_read_play : Array (Option Value)} {oc_read_play kV_read_play dc_read_play pm_read_play cd_read_play ct_read_play : Value}
    {f__law_open : Addr} {od__law_open an__law_open : Option Addr} {sl__law_open : Array (Option Value)} {oc__law_open kV__law_open dc__law_open pm__law_open cd__law_open ct__law_open : Value}
    {f__law_draw : Addr} {od__law_draw an__law_draw : Option Addr} {sl__law_draw : Array (Option Value)} {oc__law_draw kV__law_draw dc__law_draw pm__law_draw cd__law_draw ct__law_draw : Value}
    {f__law_number : Addr} {od__law_number an__law_number : Option Addr} {sl__law_number : Array (Option Value)} {oc__law_number kV__law_number dc__law_number pm__law_number cd__law_number ct__law_number : Value}
    {f__law_refused : Addr} {od__law_refused an__law_refused : Option Addr} {sl__law_refused : Array (Option Value)} {oc__law_refused kV__law_refused dc__law_refused pm__law_refused cd__law_refused ct__law_refused : Value}
    {f__law_spoilt : Addr} {od__law_spoilt an__law_spoilt : Option Addr} {sl__law_spoilt : Array (Option Value)} {oc__law_spoilt kV__law_spoilt dc__law_spoilt pm__law_spoilt cd__law_spoilt ct__law_spoilt : Value}
    {f_law : Addr} {od_law an_law : Option Addr} {sl_law : Array (Option Value)} {oc_law kV_law dc_law pm_law cd_law ct_law : Value}
    (z_all : PySem.W.nsIn K mainGlobals "all" = some none)
    (z_bool : PySem.W.nsIn K mainGlobals "bool" = some none)
    (z_int : PySem.W.nsIn K mainGlobals "int" = some none)
    (z_isinstance : PySem.W.nsIn K mainGlobals "isinstance" = some none)
    (z_len : PySem.W.nsIn K mainGlobals "len" = some none)
    (z_list : PySem.W.nsIn K mainGlobals "list" = some none)
    (z_range : PySem.W.nsIn K mainGlobals "range" = some none)
    (z_repr : PySem.W.nsIn K mainGlobals "repr" = some none)
    (z_str : PySem.W.nsIn K mainGlobals "str" = some none)
    (z_tuple : PySem.W.nsIn K mainGlobals "tuple" = some none)
    (c_DIGITS : PySem.W.nsIn K mainGlobals "DIGITS" = some (some (.str "0123456789" tk_DIGITS)))
    (c_MOST_DIGITS : PySem.W.nsIn K mainGlobals "MOST_DIGITS" = some (some (.int (40) tk_MOST_DIGITS)))
    (c_MOST_FIGURES : PySem.W.nsIn K mainGlobals "MOST_FIGURES" = some (some (.int (40) tk_MOST_FIGURES)))
    (g_OUTCOMES : PySem.W.nsIn K mainGlobals "OUTCOMES" = some (some (.ref a_OUTCOMES)))
    (l_OUTCOMES : K.lookup a_OUTCOMES = some ⟨.type "dict", none, .dict #[⟨PyData.keyHash w.params "yes", .str "yes" tk_OUTCOMES_0, .bool true⟩, ⟨PyData.keyHash w.params "no", .str "no" tk_OUTCOMES_1, .bool false⟩] n_OUTCOMES, #[]⟩)
    (s_OUTCOMES : (a_OUTCOMES == sysModules) = false)
    (g_RoundError : PySem.W.nsIn K mainGlobals "RoundError" = some (some (.ref C_RoundError)))
    (ic_RoundError : PySem.W.isClsIn K C_RoundError = true)
    (tt_RoundError : PySem.W.typeIn K (.ref C_RoundError) = some (.type "type"))
    (g_BadPlay : PySem.W.nsIn K mainGlobals "BadPlay" = some (some (.ref C_BadPlay)))
    (ic_BadPlay : PySem.W.isClsIn K C_BadPlay = true)
    (tt_BadPlay : PySem.W.typeIn K (.ref C_BadPlay) = some (.type "type"))
    (xl_BadPlay : K.lookup C_BadPlay = some (excClassObj nm_BadPlay qn_BadPlay C_BadPlay N_BadPlay bs_BadPlay [.ref C_RoundError, .type "ValueError", .type "Exception", .type "BaseException", .type "object"] true sn_BadPlay su_BadPlay ab_BadPlay co_BadPlay dd_BadPlay x0_BadPlay x1_BadPlay x2_BadPlay x3_BadPlay x5_BadPlay "ValueError.__new__"))
    (sa_BadPlay : PySem.W.findIn K (.ref C_BadPlay) "__setattr__" = some (some (.builtin "object.__setattr__")))
    (ga_BadPlay : PySem.W.findIn K (.ref C_BadPlay) "__getattribute__" = some (some (.builtin "BaseException.__getattribute__")))
    (gg_BadPlay : PySem.W.findIn K (.ref C_BadPlay) "__getattr__" = some none)
    (nb_BadPlay : PySem.W.findIn K (.ref C_BadPlay) "value" = some none)
    (kC_BadPlay : PySem.W.keepIn K (.ref C_BadPlay) = true)
    (eC_BadPlay : PySem.W.subIn K (.ref C_BadPlay) (.type "BaseException") = some true)
    (tC_BadPlay : PySem.W.typeIn K (.ref C_BadPlay) = some (.type "type"))
    (hC_BadPlay : PySem.W.hasDictIn K C_BadPlay = true)
    (cc_BadPlay : PySem.W.findIn K (.ref C_BadPlay) "__class__" = some (some (.builtin "object.__class__")))
    (mo_BadPlay : PySem.W.mroIn K C_BadPlay (.type "object") = some true)
    (a_BadPlay___init__ : PySem.W.findIn K (.ref C_BadPlay) "__init__" = some (some (.ref f_BadPlay___init__)))
    (l_BadPlay___init__ : K.lookup f_BadPlay___init__ = some ⟨oc_BadPlay___init__, od_BadPlay___init__, .func (PySem.W.fnOf "__init__" "BadPlay.__init__" (defArgs s_BadPlay___init__) (defBody s_BadPlay___init__) (defScope s_BadPlay___init__) .none kV_BadPlay___init__ dc_BadPlay___init__ pm_BadPlay___init__ an_BadPlay___init__ cd_BadPlay___init__ ct_BadPlay___init__), sl_BadPlay___init__⟩)
    (c_BadPlay___init__ : PySem.W.codeIn K cd_BadPlay___init__ "BadPlay.__init__" = true)
    (k_BadPlay___init__ : PySem.W.keepIn K (.ref f_BadPlay___init__) = true)
    (ty_BadPlay___init__ : PySem.W.typeIn K (.ref f_BadPlay___init__) = some (.type "function"))
    (g_BadNote : PySem.W.nsIn K mainGlobals "BadNote" = some (some (.ref C_BadNote)))
    (ic_BadNote : PySem.W.isClsIn K C_BadNote = true)
    (tt_BadNote : PySem.W.typeIn K (.ref C_BadNote) = some (.type "type"))
    (xl_BadNote : K.lookup C_BadNote = some (excClassObj nm_BadNote qn_BadNote C_BadNote N_BadNote bs_BadNote [.ref C_RoundError, .type "ValueError", .type "Exception", .type "BaseException", .type "object"] true sn_BadNote su_BadNote ab_BadNote co_BadNote dd_BadNote x0_BadNote x1_BadNote x2_BadNote x3_BadNote x5_BadNote "ValueError.__new__"))
    (sa_BadNote : PySem.W.findIn K (.ref C_BadNote) "__setattr__" = some (some (.builtin "object.__setattr__")))
    (ga_BadNote : PySem.W.findIn K (.ref C_BadNote) "__getattribute__" = some (some (.builtin "BaseException.__getattribute__")))
    (gg_BadNote : PySem.W.findIn K (.ref C_BadNote) "__getattr__" = some none)
    (nb_BadNote : PySem.W.findIn K (.ref C_BadNote) "value" = some none)
    (kC_BadNote : PySem.W.keepIn K (.ref C_BadNote) = true)
    (eC_BadNote : PySem.W.subIn K (.ref C_BadNote) (.type "BaseException") = some true)
    (tC_BadNote : PySem.W.typeIn K (.ref C_BadNote) = some (.type "type"))
    (hC_BadNote : PySem.W.hasDictIn K C_BadNote = true)
    (cc_BadNote : PySem.W.findIn K (.ref C_BadNote) "__class__" = some (some (.builtin "object.__class__")))
    (mo_BadNote : PySem.W.mroIn K C_BadNote (.type "object") = some true)
    (a_BadNote___init__ : PySem.W.findIn K (.ref C_BadNote) "__init__" = some (some (.ref f_BadNote___init__)))
    (l_BadNote___init__ : K.lookup f_BadNote___init__ = some ⟨oc_BadNote___init__, od_BadNote___init__, .func (PySem.W.fnOf "__init__" "BadNote.__init__" (defArgs s_BadNote___init__) (defBody s_BadNote___init__) (defScope s_BadNote___init__) .none kV_BadNote___init__ dc_BadNote___init__ pm_BadNote___init__ an_BadNote___init__ cd_BadNote___init__ ct_BadNote___init__), sl_BadNote___init__⟩)
    (c_BadNote___init__ : PySem.W.codeIn K cd_BadNote___init__ "BadNote.__init__" = true)
    (k_BadNote___init__ : PySem.W.keepIn K (.ref f_BadNote___init__) = true)
    (ty_BadNote___init__ : PySem.W.typeIn K (.ref f_BadNote___init__) = some (.type "function"))
    (g_Play : PySem.W.nsIn K mainGlobals "Play" = some (some (.ref C_Play)))
    (ic_Play : PySem.W.isClsIn K C_Play = true)
    (tt_Play : PySem.W.typeIn K (.ref C_Play) = some (.type "type"))
    (pg_Play : PySem.W.plainGet K C_Play Str.empty = true)
    (hd_Play : PySem.W.hasDictIn K C_Play = true)
    (po_Play : PySem.W.plainOver K C_Play = true)
    (sa_Play : PySem.W.findIn K (.ref C_Play) "__setattr__" = some (some (.builtin "object.__setattr__")))
    (kC_Play : PySem.W.keepIn K (.ref C_Play) = true)
    (mk_Play : PySem.W.makesIn K C_Play = true)
    (cc_Play : PySem.W.findIn K (.ref C_Play) "__class__" = some (some (.builtin "object.__class__")))
    (mo_Play : PySem.W.mroIn K C_Play (.type "object") = some true)
    (sf_Play : PySem.W.selfFirst K C_Play = true)
    (ne_Play : PySem.W.findIn K (.ref C_Play) "__ne__" = some (some (.builtin "object.__ne__")))
    (nb_Play_numbers : PySem.W.findIn K (.ref C_Play) "numbers" = some none)
    (nb_Play_outcomes : PySem.W.findIn K (.ref C_Play) "outcomes" = some none)
    (nf_Play_NoneType : PySem.W.subIn K (.type "NoneType") (.ref C_Play) = some false)
    (nf_Play_list : PySem.W.subIn K (.type "list") (.ref C_Play) = some false)
    (nf_Play_tuple : PySem.W.subIn K (.type "tuple") (.ref C_Play) = some false)
    (nf_Play_str : PySem.W.subIn K (.type "str") (.ref C_Play) = some false)
    (nf_Play_int : PySem.W.subIn K (.type "int") (.ref C_Play) = some false)
    (nf_Play_bool : PySem.W.subIn K (.type "bool") (.ref C_Play) = some false)
    (nf_Play_dict : PySem.W.subIn K (.type "dict") (.ref C_Play) = some false)
    (a_Play___init__ : PySem.W.findIn K (.ref C_Play) "__init__" = some (some (.ref f_Play___init__)))
    (l_Play___init__ : K.lookup f_Play___init__ = some ⟨oc_Play___init__, od_Play___init__, .func (PySem.W.fnOf "__init__" "Play.__init__" (defArgs s_Play___init__) (defBody s_Play___init__) (defScope s_Play___init__) (.ref T_Play) kV_Play___init__ dc_Play___init__ pm_Play___init__ an_Play___init__ cd_Play___init__ ct_Play___init__), sl_Play___init__⟩)
    (c_Play___init__ : PySem.W.codeIn K cd_Play___init__ "Play.__init__" = true)
    (k_Play___init__ : PySem.W.keepIn K (.ref f_Play___init__) = true)
    (lT_Play : K.lookup T_Play = some ⟨tc_Play, td_Play, .seq #[.ref d_Play_0, .ref d_Play_1] tn_Play, tl_Play⟩)
    (ld_Play_0 : K.lookup d_Play_0 = some ⟨.type "tuple", dd_Play_0, .seq #[] dn_Play_0, dl_Play_0⟩)
    (ld_Play_1 : K.lookup d_Play_1 = some ⟨.type "tuple", dd_Play_1, .seq #[] dn_Play_1, dl_Play_1⟩)
    (if_Play___init__ : PySem.W.isFn K (.ref f_Play___init__) = true)
    (a_Play___add__ : PySem.W.findIn K (.ref C_Play) "__add__" = some (some (.ref f_Play___add__)))
    (l_Play___add__ : K.lookup f_Play___add__ = some ⟨oc_Play___add__, od_Play___add__, .func (PySem.W.fnOf "__add__" "Play.__add__" (defArgs s_Play___add__) (defBody s_Play___add__) (defScope s_Play___add__) .none kV_Play___add__ dc_Play___add__ pm_Play___add__ an_Play___add__ cd_Play___add__ ct_Play___add__), sl_Play___add__⟩)
    (c_Play___add__ : PySem.W.codeIn K cd_Play___add__ "Play.__add__" = true)
    (k_Play___add__ : PySem.W.keepIn K (.ref f_Play___add__) = true)
    (if_Play___add__ : PySem.W.isFn K (.ref f_Play___add__) = true)
    (fi_Play___add__ : PySem.W.fnIn K f_Play___add__ = true)
    (a_Play___eq__ : PySem.W.findIn K (.ref C_Play) "__eq__" = some (some (.ref f_Play___eq__)))
    (l_Play___eq__ : K.lookup f_Play___eq__ = some ⟨oc_Play___eq__, od_Play___eq__, .func (PySem.W.fnOf "__eq__" "Play.__eq__" (defArgs s_Play___eq__) (defBody s_Play___eq__) (defScope s_Play___eq__) .none kV_Play___eq__ dc_Play___eq__ pm_Play___eq__ an_Play___eq__ cd_Play___eq__ ct_Play___eq__), sl_Play___eq__⟩)
    (c_Play___eq__ : PySem.W.codeIn K cd_Play___eq__ "Play.__eq__" = true)
    (k_Play___eq__ : PySem.W.keepIn K (.ref f_Play___eq__) = true)
    (if_Play___eq__ : PySem.W.isFn K (.ref f_Play___eq__) = true)
    (fi_Play___eq__ : PySem.W.fnIn K f_Play___eq__ = true)
    (z_get : PySem.W.specialIn K (.builtin "object.__class__") "__get__" = some (some (.builtin "getset_descriptor.__get__")))
    (z_tak : PySem.W.takesIn K (.builtin "object.__class__") = some true)
    (xs_BadNote : PySem.W.subIn K (.ref C_BadNote) (.ref C_BadNote) = some true)
    (a_is_integer : PySem.W.nsIn K mainGlobals "is_integer" = some (some (.ref f_is_integer)))
    (l_is_integer : K.lookup f_is_integer = some ⟨oc_is_integer, od_is_integer, .func (PySem.W.fnOf "is_integer" "is_integer" (defArgs s_is_integer) (defBody s_is_integer) (defScope s_is_integer) .none kV_is_integer dc_is_integer pm_is_integer an_is_integer cd_is_integer ct_is_integer), sl_is_integer⟩)
    (c_is_integer : PySem.W.codeIn K cd_is_integer "is_integer" = true)
    (k_is_integer : PySem.W.keepIn K (.ref f_is_integer) = true)
    (a_number_of : PySem.W.nsIn K mainGlobals "number_of" = some (some (.ref f_number_of)))
    (l_number_of : K.lookup f_number_of = some ⟨oc_number_of, od_number_of, .func (PySem.W.fnOf "number_of" "number_of" (defArgs s_number_of) (defBody s_number_of) (defScope s_number_of) .none kV_number_of dc_number_of pm_number_of an_number_of cd_number_of ct_number_of), sl_number_of⟩)
    (c_number_of : PySem.W.codeIn K cd_number_of "number_of" = true)
    (k_number_of : PySem.W.keepIn K (.ref f_number_of) = true)
    (a_note_words : PySem.W.nsIn K mainGlobals "note_words" = some (some (.ref f_note_words)))
    (l_note_words : K.lookup f_note_words = some ⟨oc_note_words, od_note_words, .func (PySem.W.fnOf "note_words" "note_words" (defArgs s_note_words) (defBody s_note_words) (defScope s_note_words) .none kV_note_words dc_note_words pm_note_words an_note_words cd_note_words ct_note_words), sl_note_words⟩)
    (c_note_words : PySem.W.codeIn K cd_note_words "note_words" = true)
    (k_note_words : PySem.W.keepIn K (.ref f_note_words) = true)
    (a_note_number : PySem.W.nsIn K mainGlobals "note_number" = some (some (.ref f_note_number)))
    (l_note_number : K.lookup f_note_number = some ⟨oc_note_number, od_note_number, .func (PySem.W.fnOf "note_number" "note_number" (defArgs s_note_number) (defBody s_note_number) (defScope s_note_number) .none kV_note_number dc_note_number pm_note_number an_note_number cd_note_number ct_note_number), sl_note_number⟩)
    (c_note_number : PySem.W.codeIn K cd_note_number "note_number" = true)
    (k_note_number : PySem.W.keepIn K (.ref f_note_number) = true)
    (a_outcome_word : PySem.W.nsIn K mainGlobals "outcome_word" = some (some (.ref f_outcome_word)))
    (l_outcome_word : K.lookup f_outcome_word = some ⟨oc_outcome_word, od_outcome_word, .func (PySem.W.fnOf "outcome_word" "outcome_word" (defArgs s_outcome_word) (defBody s_outcome_word) (defScope s_outcome_word) .none kV_outcome_word dc_outcome_word pm_outcome_word an_outcome_word cd_outcome_word ct_outcome_word), sl_outcome_word⟩)
    (c_outcome_word : PySem.W.codeIn K cd_outcome_word "outcome_word" = true)
    (k_outcome_word : PySem.W.keepIn K (.ref f_outcome_word) = true)
    (a_write_play : PySem.W.nsIn K mainGlobals "write_play" = some (some (.ref f_write_play)))
    (l_write_play : K.lookup f_write_play = some ⟨oc_write_play, od_write_play, .func (PySem.W.fnOf "write_play" "write_play" (defArgs s_write_play) (defBody s_write_play) (defScope s_write_play) .none kV_write_play dc_write_play pm_write_play an_write_play cd_write_play ct_write_play), sl_write_play⟩)
    (c_write_play : PySem.W.codeIn K cd_write_play "write_play" = true)
    (k_write_play : PySem.W.keepIn K (.ref f_write_play) = true)
    (a_read_play : PySem.W.nsIn K mainGlobals "read_play" = some (some (.ref f_read_play)))
    (l_read_play : K.lookup f_read_play = some ⟨oc_read_play, od_read_play, .func (PySem.W.fnOf "read_play" "read_play" (defArgs s_read_play) (defBody s_read_play) (defScope s_read_play) .none kV_read_play dc_read_play pm_read_play an_read_play cd_read_play ct_read_play), sl_read_play⟩)
    (c_read_play : PySem.W.codeIn K cd_read_play "read_play" = true)
    (k_read_play : PySem.W.keepIn K (.ref f_read_play) = true)
    (a__law_open : PySem.W.nsIn K mainGlobals "_law_open" = some (some (.ref f__law_open)))
    (l__law_open : K.lookup f__law_open = some ⟨oc__law_open, od__law_open, .func (PySem.W.fnOf "_law_open" "_law_open" (defArgs s__law_open) (defBody s__law_open) (defScope s__law_open) .none kV__law_open dc__law_open pm__law_open an__law_open cd__law_open ct__law_open), sl__law_open⟩)
    (c__law_open : PySem.W.codeIn K cd__law_open "_law_open" = true)
    (k__law_open : PySem.W.keepIn K (.ref f__law_open) = true)
    (a__law_draw : PySem.W.nsIn K mainGlobals "_law_draw" = some (some (.ref f__law_draw)))
    (l__law_draw : K.lookup f__law_draw = some ⟨oc__law_draw, od__law_draw, .func (PySem.W.fnOf "_law_draw" "_law_draw" (defArgs s__law_draw) (defBody s__law_draw) (defScope s__law_draw) .none kV__law_draw dc__law_draw pm__law_draw an__law_draw cd__law_draw ct__law_draw), sl__law_draw⟩)
    (c__law_draw : PySem.W.codeIn K cd__law_draw "_law_draw" = true)
    (k__law_draw : PySem.W.keepIn K (.ref f__law_draw) = true)
    (a__law_number : PySem.W.nsIn K mainGlobals "_law_number" = some (some (.ref f__law_number)))
    (l__law_number : K.lookup f__law_number = some ⟨oc__law_number, od__law_number, .func (PySem.W.fnOf "_law_number" "_law_number" (defArgs s__law_number) (defBody s__law_number) (defScope s__law_number) .none kV__law_number dc__law_number pm__law_number an__law_number cd__law_number ct__law_number), sl__law_number⟩)
    (c__law_number : PySem.W.codeIn K cd__law_number "_law_number" = true)
    (k__law_number : PySem.W.keepIn K (.ref f__law_number) = true)
    (a__law_refused : PySem.W.nsIn K mainGlobals "_law_refused" = some (some (.ref f__law_refused)))
    (l__law_refused : K.lookup f__law_refused = some ⟨oc__law_refused, od__law_refused, .func (PySem.W.fnOf "_law_refused" "_law_refused" (defArgs s__law_refused) (defBody s__law_refused) (defScope s__law_refused) .none kV__law_refused dc__law_refused pm__law_refused an__law_refused cd__law_refused ct__law_refused), sl__law_refused⟩)
    (c__law_refused : PySem.W.codeIn K cd__law_refused "_law_refused" = true)
    (k__law_refused : PySem.W.keepIn K (.ref f__law_refused) = true)
    (a__law_spoilt : PySem.W.nsIn K mainGlobals "_law_spoilt" = some (some (.ref f__law_spoilt)))
    (l__law_spoilt : K.lookup f__law_spoilt = some ⟨oc__law_spoilt, od__law_spoilt, .func (PySem.W.fnOf "_law_spoilt" "_law_spoilt" (defArgs s__law_spoilt) (defBody s__law_spoilt) (defScope s__law_spoilt) .none kV__law_spoilt dc__law_spoilt pm__law_spoilt an__law_spoilt cd__law_spoilt ct__law_spoilt), sl__law_spoilt⟩)
    (c__law_spoilt : PySem.W.codeIn K cd__law_spoilt "_law_spoilt" = true)
    (k__law_spoilt : PySem.W.keepIn K (.ref f__law_spoilt) = true)
    (a_law : PySem.W.nsIn K mainGlobals "law" = some (some (.ref f_law)))
    (l_law : K.lookup f_law = some ⟨oc_law, od_law, .func (PySem.W.fnOf "law" "law" (defArgs s_law) (defBody s_law) (defScope s_law) .none kV_law dc_law pm_law an_law cd_law ct_law), sl_law⟩)
    (c_law : PySem.W.codeIn K cd_law "law" = true)
    (k_law : PySem.W.keepIn K (.ref f_law) = true) :
    ∃ a_OUTCOMES : Addr, ∃ C_RoundError : Addr, ∃ C_BadPlay : Addr, ∃ C_BadNote : Addr, ∃ C_Play : Addr, ∃ d_Play_0 : Addr, ∃ d_Play_1 : Addr, Tp K mg w a_OUTCOMES C_RoundError C_BadPlay C_BadNote C_Play d_Play_0 d_Play_1 := by
  exact ⟨a_OUTCOMES, ⟨C_RoundError, ⟨C_BadPlay, ⟨C_BadNote, ⟨C_Play, ⟨d_Play_0, ⟨d_Play_1, {
    m_all := PySem.W.mg_none_of X G z_all,
    m_bool := PySem.W.mg_none_of X G z_bool,
    m_int := PySem.W.mg_none_of X G z_int,
    m_isinstance := PySem.W.mg_none_of X G z_isinstance,
    m_len := PySem.W.mg_none_of X G z_len,
    m_list := PySem.W.mg_none_of X G z_list,
    m_range := PySem.W.mg_none_of X G z_range,
    m_repr := PySem.W.mg_none_of X G z_repr,
    m_str := PySem.W.mg_none_of X G z_str,
    m_tuple := PySem.W.mg_none_of X G z_tuple,
    c_DIGITS := ⟨_, PySem.W.mg_of X G c_DIGITS, ⟨_, rfl⟩⟩,
    c_MOST_DIGITS := ⟨_, PySem.W.mg_of X G c_MOST_DIGITS, ⟨_, rfl⟩⟩,
    c_MOST_FIGURES := ⟨_, PySem.W.mg_of X G c_MOST_FIGURES, ⟨_, rfl⟩⟩,
    c_OUTCOMES := ⟨_, PySem.W.mg_of X G g_OUTCOMES, rfl⟩,
    w_OUTCOMES := wd_mk l_OUTCOMES ⟨⟨_, _, rfl, rfl⟩, ⟨_, _, rfl, rfl⟩, True.intro⟩ s_OUTCOMES (.cons ⟨⟨_, rfl⟩, rfl⟩ (.cons ⟨⟨_, rfl⟩, rfl⟩ (.nil))),
    k_RoundError := ⟨_, PySem.W.mg_of X G g_RoundError, rfl⟩,
    k_BadPlay := ⟨_, PySem.W.mg_of X G g_BadPlay, rfl⟩,
    x_BadPlay := fun P w base => (have T0 : OexC K C_BadPlay := ⟨⟨_, _, _, _, _, _, _, _, _, _, _, _, _, _, _, xl_BadPlay, by rfl⟩, sa_BadPlay, eC_BadPlay, tC_BadPlay, kC_BadPlay⟩; ⟨T0, ⟨ga_BadPlay, gg_BadPlay, eC_BadPlay, hC_BadPlay⟩, ⟨ga_BadPlay, gg_BadPlay, eC_BadPlay, hC_BadPlay, cc_BadPlay, z_get, z_tak, mo_BadPlay⟩, nb_BadPlay, PySem.W.mg_of X G g_BadPlay, ⟨_, _, a_BadPlay___init__, ty_BadPlay___init__, ok_ini (fun_mk (st := s_BadPlay___init__) l_BadPlay___init__ c_BadPlay___init__ k_BadPlay___init__) sc_BadPlay___init__ rfl T0 nb_BadPlay (by first | exact Or.inl rfl) (by first | exact Or.inl rfl) (by decide) (by decide), (fun_mk (st := s_BadPlay___init__) l_BadPlay___init__ c_BadPlay___init__ k_BadPlay___init__).binds (ps := ["self", "value"]) fun _ _ _ _ _ _ us hl => match us, hl with | [_, _], _ => rfl⟩⟩),
    k_BadNote := ⟨_, PySem.W.mg_of X G g_BadNote, rfl⟩,
    x_BadNote := fun P w base => (have T0 : OexC K C_BadNote := ⟨⟨_, _, _, _, _, _, _, _, _, _, _, _, _, _, _, xl_BadNote, by rfl⟩, sa_BadNote, eC_BadNote, tC_BadNote, kC_BadNote⟩; ⟨T0, ⟨ga_BadNote, gg_BadNote, eC_BadNote, hC_BadNote⟩, ⟨ga_BadNote, gg_BadNote, eC_BadNote, hC_BadNote, cc_BadNote, z_get, z_tak, mo_BadNote⟩, nb_BadNote, PySem.W.mg_of X G g_BadNote, ⟨_, _, a_BadNote___init__, ty_BadNote___init__, ok_ini (fun_mk (st := s_BadNote___init__) l_BadNote___init__ c_BadNote___init__ k_BadNote___init__) sc_BadNote___init__ rfl T0 nb_BadNote (by first | exact Or.inl rfl) (by first | exact Or.inl rfl) (by decide) (by decide), (fun_mk (st := s_BadNote___init__) l_BadNote___init__ c_BadNote___init__ k_BadNote___init__).binds (ps := ["self", "value"]) fun _ _ _ _ _ _ us hl => match us, hl with | [_, _], _ => rfl⟩⟩),
    k_Play := ⟨_, PySem.W.mg_of X G g_Play, rfl⟩,
    cl_Play := ⟨pg_Play, hd_Play, po_Play, sa_Play⟩,
    n_Play_numbers := nb_Play_numbers,
    n_Play_outcomes := nb_Play_outcomes,
    ty_Play := fun H a dx fs e => .base (.ins e ⟨pg_Play, hd_Play, po_Play, sa_Play⟩ cc_Play z_get z_tak mo_Play),
    sf_Play := sf_Play,
    ne_Play := ne_Play,
    ob_Play := mo_Play,
    nf_Play_NoneType := nf_Play_NoneType,
    kt_Play_NoneType := kit_ownF ic_Play tt_Play nf_Play_NoneType,
    nf_Play_list := nf_Play_list,
    kt_Play_list := kit_ownF ic_Play tt_Play nf_Play_list,
    nf_Play_tuple := nf_Play_tuple,
    kt_Play_tuple := kit_ownF ic_Play tt_Play nf_Play_tuple,
    nf_Play_str := nf_Play_str,
    kt_Play_str := kit_ownF ic_Play tt_Play nf_Play_str,
    nf_Play_int := nf_Play_int,
    kt_Play_int := kit_ownF ic_Play tt_Play nf_Play_int,
    nf_Play_bool := nf_Play_bool,
    kt_Play_bool := kit_ownF ic_Play tt_Play nf_Play_bool,
    nf_Play_dict := nf_Play_dict,
    kt_Play_dict := kit_ownF ic_Play tt_Play nf_Play_dict,
    td_Play_0 := fun _ => Or.inr ⟨_, _, _, ld_Play_0, rfl, rfl, sz (by simp), .nil⟩,
    td_Play_1 := fun _ => Or.inr ⟨_, _, _, ld_Play_1, rfl, rfl, sz (by simp), .nil⟩,
    i_Play := ⟨_, _, ⟨mk_Play, a_Play___init__, if_Play___init__, kC_Play⟩, PySem.W.mg_of X G g_Play, ⟨⟨_, _, _, _, _, _, _, _, _, _, rfl, l_Play___init__, c_Play___init__, Or.inr ⟨by simp, _, _, [_, _], _, rfl, lT_Play, rfl, .cons rfl (.cons rfl (.nil))⟩, Or.inl rfl⟩, k_Play___init__⟩⟩,
    m_Play___add__ := ⟨_, _, ⟨pg_Play, hd_Play, po_Play, sa_Play⟩, ⟨a_Play___add__, if_Play___add__, k_Play___add__⟩, fi_Play___add__, fun_mk (st := s_Play___add__) l_Play___add__ c_Play___add__ k_Play___add__, (fun_mk (st := s_Play___add__) l_Play___add__ c_Play___add__ k_Play___add__).binds (ps := ["self", "other"]) fun _ _ _ _ _ _ us hl => match us, hl with | [_, _], _ => rfl⟩,
    m_Play___eq__ := ⟨_, _, ⟨pg_Play, hd_Play, po_Play, sa_Play⟩, ⟨a_Play___eq__, if_Play___eq__, k_Play___eq__⟩, fi_Play___eq__, fun_mk (st := s_Play___eq__) l_Play___eq__ c_Play___eq__ k_Play___eq__, (fun_mk (st := s_Play___eq__) l_Play___eq__ c_Play___eq__ k_Play___eq__).binds (ps := ["self", "other"]) fun _ _ _ _ _ _ us hl => match us, hl with | [_, _], _ => rfl⟩,
    xm_BadNote := PySem.W.exm_ref eC_BadNote hC_BadNote tt_BadNote xs_BadNote,
    d_is_integer := ⟨_, _, fun_mk (st := s_is_integer) l_is_integer c_is_integer k_is_integer, PySem.W.mg_of X G a_is_integer, (fun_mk (st := s_is_integer) l_is_integer c_is_integer k_is_integer).binds (ps := ["value"]) fun _ _ _ _ _ _ us hl => match us, hl with | [_], _ => rfl⟩,
    d_number_of := ⟨_, _, fun_mk (st := s_number_of) l_number_of c_number_of k_number_of, PySem.W.mg_of X G a_number_of, (fun_mk (st := s_number_of) l_number_of c_number_of k_number_of).binds (ps := ["word"]) fun _ _ _ _ _ _ us hl => match us, hl with | [_], _ => rfl⟩,
    d_note_words := ⟨_, _, fun_mk (st := s_note_words) l_note_words c_note_words k_note_words, PySem.W.mg_of X G a_note_words, (fun_mk (st := s_note_words) l_note_words c_note_words k_note_words).binds (ps := ["value"]) fun _ _ _ _ _ _ us hl => match us, hl with | [_], _ => rfl⟩,
    d_note_number := ⟨_, _, fun_mk (st := s_note_number) l_note_number c_note_number k_note_number, PySem.W.mg_of X G a_note_number, (fun_mk (st := s_note_number) l_note_number c_note_number k_note_number).binds (ps := ["word"]) fun _ _ _ _ _ _ us hl => match us, hl with | [_], _ => rfl⟩,
    d_outcome_word := ⟨_, _, fun_mk (st := s_outcome_word) l_outcome_word c_outcome_word k_outcome_word, PySem.W.mg_of X G a_outcome_word, (fun_mk (st := s_outcome_word) l_outcome_word c_outcome_word k_outcome_word).binds (ps := ["outcome"]) fun _ _ _ _ _ _ us hl => match us, hl with | [_], _ => rfl⟩,
    d_write_play := ⟨_, _, fun_mk (st := s_write_play) l_write_play c_write_play k_write_play, PySem.W.mg_of X G a_write_play, (fun_mk (st := s_write_play) l_write_play c_write_play k_write_play).binds (ps := ["play"]) fun _ _ _ _ _ _ us hl => match us, hl with | [_], _ => rfl⟩,
    d_read_play := ⟨_, _, fun_mk (st := s_read_play) l_read_play c_read_play k_read_play, PySem.W.mg_of X G a_read_play, (fun_mk (st := s_read_play) l_read_play c_read_play k_read_play).binds (ps := ["line"]) fun _ _ _ _ _ _ us hl => match us, hl with | [_], _ => rfl⟩,
    d__law_open := ⟨_, _, fun_mk (st := s__law_open) l__law_open c__law_open k__law_open, PySem.W.mg_of X G a__law_open, (fun_mk (st := s__law_open) l__law_open c__law_open k__law_open).binds (ps := ["_law_script"]) fun _ _ _ _ _ _ us hl => match us, hl with | [_], _ => rfl⟩,
    d__law_draw := ⟨_, _, fun_mk (st := s__law_draw) l__law_draw c__law_draw k__law_draw, PySem.W.mg_of X G a__law_draw, (fun_mk (st := s__law_draw) l__law_draw c__law_draw k__law_draw).binds (ps := ["_law_state", "_law_many"]) fun _ _ _ _ _ _ us hl => match us, hl with | [_, _], _ => rfl⟩,
    d__law_number := ⟨_, _, fun_mk (st := s__law_number) l__law_number c__law_number k__law_number, PySem.W.mg_of X G a__law_number, (fun_mk (st := s__law_number) l__law_number c__law_number k__law_number).binds (ps := ["_law_state"]) fun _ _ _ _ _ _ us hl => match us, hl with | [_], _ => rfl⟩,
    d__law_refused := ⟨_, _, fun_mk (st := s__law_refused) l__law_refused c__law_refused k__law_refused, PySem.W.mg_of X G a__law_refused, (fun_mk (st := s__law_refused) l__law_refused c__law_refused k__law_refused).binds (ps := ["_law_value"]) fun _ _ _ _ _ _ us hl => match us, hl with | [_], _ => rfl⟩,
    d__law_spoilt := ⟨_, _, fun_mk (st := s__law_spoilt) l__law_spoilt c__law_spoilt k__law_spoilt, PySem.W.mg_of X G a__law_spoilt, (fun_mk (st := s__law_spoilt) l__law_spoilt c__law_spoilt k__law_spoilt).binds (ps := ["_law_state", "_law_numbers", "_law_outcomes"]) fun _ _ _ _ _ _ us hl => match us, hl with | [_, _, _], _ => rfl⟩,
    d_law := ⟨_, _, fun_mk (st := s_law) l_law c_law k_law, PySem.W.mg_of X G a_law, (fun_mk (st := s_law) l_law c_law k_law).binds (ps := ["_law_script"]) fun _ _ _ _ _ _ us hl => match us, hl with | [_], _ => rfl⟩ }⟩⟩⟩⟩⟩⟩⟩
end
end K
open PySem PySem.W PyProof.Rows
set_option maxHeartbeats 0 in
theorem PySem.Challenge.cw_roundrules_k75_notes_of_plays_holds : PySem.Challenge.rw_roundrules_k75_notes_of_plays.Holds := by
  w_on; o_law; k_head; (case hw => w_witness2)
  k_fill
  refine G.walk_ofG (l := PySem.Challenge.rw_roundrules_k75_notes_of_plays) (n := 63) (k := 9) (g := true) (x := "_law_script") (sp := K.spLaw) rfl (by decide) rfl ⟨rfl, by decide, by decide⟩ (fun w h Y => PySem.W.kIn_of Y) ?F (fun _ _ a ns hl _ hS => ⟨a, ns, rfl, hS, hl, fun _ => rfl⟩)
  case F =>
    intro w mg fa h KX G hmg
    refine' K.law_mk hmg (K.all_mk (w := w) KX G hmg ?z_all ?z_bool ?z_int ?z_isinstance ?z_len ?z_list ?z_range ?z_repr ?z_str ?z_tuple ?c_DIGITS ?c_MOST_DIGITS ?c_MOST_FIGURES ?g_OUTCOMES ?l_OUTCOMES ?s_OUTCOMES ?g_RoundError ?ic_RoundError ?tt_RoundError ?g_BadPlay ?ic_BadPlay ?tt_BadPlay ?xl_BadPlay ?sa_BadPlay ?ga_BadPlay ?gg_BadPlay ?nb_BadPlay ?kC_BadPlay ?eC_BadPlay ?tC_BadPlay ?hC_BadPlay ?cc_BadPlay ?mo_BadPlay ?a_BadPlay___init__ ?l_BadPlay___init__ ?c_BadPlay___init__ ?k_BadPlay___init__ ?ty_BadPlay___init__ ?g_BadNote ?ic_BadNote ?tt_BadNote ?xl_BadNote ?sa_BadNote ?ga_BadNote ?gg_BadNote ?nb_BadNote ?kC_BadNote ?eC_BadNote ?tC_BadNote ?hC_BadNote ?cc_BadNote ?mo_BadNote ?a_BadNote___init__ ?l_BadNote___init__ ?c_BadNote___init__ ?k_BadNote___init__ ?ty_BadNote___init__ ?g_Play ?ic_Play ?tt_Play ?pg_Play ?hd_Play ?po_Play ?sa_Play ?kC_Play ?mk_Play ?cc_Play ?mo_Play ?sf_Play ?ne_Play ?nb_Play_numbers ?nb_Play_outcomes ?nf_Play_NoneType ?nf_Play_list ?nf_Play_tuple ?nf_Play_str ?nf_Play_int ?nf_Play_bool ?nf_Play_dict ?a_Play___init__ ?l_Play___init__ ?c_Play___init__ ?k_Play___init__ ?lT_Play ?ld_Play_0 ?ld_Play_1 ?if_Play___init__ ?a_Play___add__ ?l_Play___add__ ?c_Play___add__ ?k_Play___add__ ?if_Play___add__ ?fi_Play___add__ ?a_Play___eq__ ?l_Play___eq__ ?c_Play___eq__ ?k_Play___eq__ ?if_Play___eq__ ?fi_Play___eq__ ?z_get ?z_tak ?xs_BadNote ?a_is_integer ?l_is_integer ?c_is_integer ?k_is_integer ?a_number_of ?l_number_of ?c_number_of ?k_number_of ?a_note_words ?l_note_words ?c_note_words ?k_note_words ?a_note_number ?l_note_number ?c_note_number ?k_note_number ?a_outcome_word ?l_outcome_word ?c_outcome_word ?k_outcome_word ?a_write_play ?l_write_play ?c_write_play ?k_write_play ?a_read_play ?l_read_play ?c_read_play ?k_read_play ?a__law_open ?l__law_open ?c__law_open ?k__law_open ?a__law_draw ?l__law_draw ?c__law_draw ?k__law_draw ?a__law_number ?l__law_number ?c__law_number ?k__law_number ?a__law_refused ?l__law_refused ?c__law_refused ?k__law_refused ?a__law_spoilt ?l__law_spoilt ?c__law_spoilt ?k__law_spoilt ?a_law ?l_law ?c_law ?k_law)
    (case z_all => k_is); (case z_bool => k_is); (case z_int => k_is); (case z_isinstance => k_is); (case z_len => k_is); (case z_list => k_is); (case z_range => k_is); (case z_repr => k_is); (case z_str => k_is); (case z_tuple => k_is); (case c_DIGITS => k_is); (case c_MOST_DIGITS => k_is); (case c_MOST_FIGURES => k_is); (case g_OUTCOMES => k_is); (case l_OUTCOMES => k_is); (case s_OUTCOMES => first | rfl | decide | k_is); (case g_RoundError => k_is); (case ic_RoundError => k_is); (case tt_RoundError => k_is); (case g_BadPlay => k_is); (case ic_BadPlay => k_is); (case tt_BadPlay => k_is); (case xl_BadPlay => k_is); (case sa_BadPlay => k_is); (case ga_BadPlay => k_is); (case gg_BadPlay => k_is); (case nb_BadPlay => k_is); (case kC_BadPlay => k_is); (case eC_BadPlay => k_is); (case tC_BadPlay => k_is); (case hC_BadPlay => k_is); (case cc_BadPlay => k_is); (case mo_BadPlay => k_is); (case a_BadPlay___init__ => k_is); (case l_BadPlay___init__ => k_is); (case c_BadPlay___init__ => k_is); (case k_BadPlay___init__ => k_is); (case ty_BadPlay___init__ => k_is); (case g_BadNote => k_is); (case ic_BadNote => k_is); (case tt_BadNote => k_is); (case xl_BadNote => k_is); (case sa_BadNote => k_is); (case ga_BadNote => k_is); (case gg_BadNote => k_is); (case nb_BadNote => k_is); (case kC_BadNote => k_is); (case eC_BadNote => k_is); (case tC_BadNote => k_is); (case hC_BadNote => k_is); (case cc_BadNote => k_is); (case mo_BadNote => k_is); (case a_BadNote___init__ => k_is); (case l_BadNote___init__ => k_is); (case c_BadNote___init__ => k_is); (case k_BadNote___init__ => k_is); (case ty_BadNote___init__ => k_is); (case g_Play => k_is); (case ic_Play => k_is); (case tt_Play => k_is); (case pg_Play => k_is); (case hd_Play => k_is); (case po_Play => k_is); (case sa_Play => k_is); (case kC_Play => k_is); (case mk_Play => k_is); (case cc_Play => k_is); (case mo_Play => k_is); (case sf_Play => k_is); (case ne_Play => k_is); (case nb_Play_numbers => k_is); (case nb_Play_outcomes => k_is); (case nf_Play_NoneType => k_is); (case nf_Play_list => k_is); (case nf_Play_tuple => k_is); (case nf_Play_str => k_is); (case nf_Play_int => k_is); (case nf_Play_bool => k_is); (case nf_Play_dict => k_is); (case a_Play___init__ => k_is); (case l_Play___init__ => k_is); (case c_Play___init__ => k_is); (case k_Play___init__ => k_is); (case lT_Play => k_is); (case ld_Play_0 => k_is); (case ld_Play_1 => k_is); (case if_Play___init__ => k_is); (case a_Play___add__ => k_is); (case l_Play___add__ => k_is); (case c_Play___add__ => k_is); (case k_Play___add__ => k_is); (case if_Play___add__ => k_is); (case fi_Play___add__ => k_is); (case a_Play___eq__ => k_is); (case l_Play___eq__ => k_is); (case c_Play___eq__ => k_is); (case k_Play___eq__ => k_is); (case if_Play___eq__ => k_is); (case fi_Play___eq__ => k_is); (case z_get => k_is); (case z_tak => k_is); (case xs_BadNote => k_is); (case a_is_integer => k_is); (case l_is_integer => k_is); (case c_is_integer => k_is); (case k_is_integer => k_is); (case a_number_of => k_is); (case l_number_of => k_is); (case c_number_of => k_is); (case k_number_of => k_is); (case a_note_words => k_is); (case l_note_words => k_is); (case c_note_words => k_is); (case k_note_words => k_is); (case a_note_number => k_is); (case l_note_number => k_is); (case c_note_number => k_is); (case k_note_number => k_is); (case a_outcome_word => k_is); (case l_outcome_word => k_is); (case c_outcome_word => k_is); (case k_outcome_word => k_is); (case a_write_play => k_is); (case l_write_play => k_is); (case c_write_play => k_is); (case k_write_play => k_is); (case a_read_play => k_is); (case l_read_play => k_is); (case c_read_play => k_is); (case k_read_play => k_is); (case a__law_open => k_is); (case l__law_open => k_is); (case c__law_open => k_is); (case k__law_open => k_is); (case a__law_draw => k_is); (case l__law_draw => k_is); (case c__law_draw => k_is); (case k__law_draw => k_is); (case a__law_number => k_is); (case l__law_number => k_is); (case c__law_number => k_is); (case k__law_number => k_is); (case a__law_refused => k_is); (case l__law_refused => k_is); (case c__law_refused => k_is); (case k__law_refused => k_is); (case a__law_spoilt => k_is); (case l__law_spoilt => k_is); (case c__law_spoilt => k_is); (case k__law_spoilt => k_is); (case a_law => k_is); (case l_law => k_is); (case c_law => k_is); (case k_law => k_is)
