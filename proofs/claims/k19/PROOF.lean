import PyProof.Rows.All
import Wide.All
import OpenK.AllK
import Wide.FinOn
import HandS.ForMost
import HandS.IsInst
import HandS.StrMore
import HandS.Style
import HandS.Deep
import HandS.Wide
import HandS.TupAny
import HandS.ExcInit
import HandS.ExcField
import HandS.ExcIs
import HandS.ExcOwn
import HandS.WordsExc
import HandS.CallSlots
import HandS.Property
import HandS.MakeKw
import HandS.MakeKwOnly
import KE.KExcIs
import HandS.Ends
import HandS.EndBits
import PySem.Challenge.RW_roundrules_k19_plays
set_option Elab.async false
set_option linter.all false
set_option maxRecDepth 100000
namespace G
open PySem PySem.Spec PyProof.Rows L2
theorem sz {n : Nat} (h : n ≤ 100000) : n ≤ sizeLine := Nat.le_trans h (by decide)
theorem szl {n : Nat} (h : n < 100000) : n < sizeLine := Nat.lt_of_lt_of_le h (by decide)
section
variable {X : Cx}
/-! ### rules that leave the kind open -/
def rAdd (K : PySem.W.Frag) : R2 := fun x y H Q => match x, y with
  | .int i, .int j => Q (.int (i + j)) H
  | .str i, .str j => i.length + j.length ≤ sizeLine ∧ Q (.str (i ++ j)) H
  | .ref a, .ref b => rCat (.ref a) (.ref b) H Q ∨ rCatA K (.ref a) (.ref b) H Q
  | _, _ => False
theorem gAdd : OpR X (binaryOp .Add) (rAdd X.K) := by
  intro pins s σ H x y v u Q I rx ry h
  cases x <;> cases y <;> first
    | exact h.elim
    | exact op_add pins s σ H _ _ v u Q I rx ry ⟨_, _, rfl, rfl, h⟩
    | exact op_add_str pins s σ H _ _ v u Q I rx ry ⟨_, _, rfl, rfl, h.1, h.2⟩
    | exact op_cat.or op_catA pins s σ H _ _ v u Q I rx ry h
def rSub : R2 := fun x y H Q => match x, y with
  | .int i, .int j => Q (.int (i - j)) H
  | _, _ => False
theorem gSub' : OpR X (binaryOp .Sub) rSub := by
  intro pins s σ H x y v u Q I rx ry h
  cases x <;> cases y <;> first
    | exact h.elim
    | exact op_sub pins s σ H _ _ v u Q I rx ry ⟨_, _, rfl, rfl, h⟩
def rMul : R2 := fun x y H Q => match x, y with
  | .int i, .int j => (CMul i j ∨ CMulW i j) ∧ Q (.int (i * j)) H
  | _, _ => False
theorem gMul : OpR X (binaryOp .Mult) rMul := by
  intro pins s σ H x y v u Q I rx ry h
  cases x <;> cases y <;> first
    | exact h.elim
    | (rcases h with ⟨h | h, q⟩
       · exact op_mul pins s σ H _ _ v u Q I rx ry ⟨_, _, rfl, rfl, h, q⟩
       · exact op_mulW pins s σ H _ _ v u Q I rx ry ⟨_, _, rfl, rfl, h, q⟩)
def rDiv : R2 := fun x y H Q => match x, y with
  | .int i, .int j => CDivW i j ∧ Q (.int (i / j)) H
  | _, _ => False
theorem gDiv : OpR X (binaryOp .FloorDiv) rDiv := by
  intro pins s σ H x y v u Q I rx ry h
  cases x <;> cases y <;> first
    | exact h.elim
    | exact op_fdivW pins s σ H _ _ v u Q I rx ry ⟨_, _, rfl, rfl, h.1, h.2⟩
def rMod : R2 := fun x y H Q => match x, y with
  | .int i, .int j => 0 < j ∧ Q (.int (i % j)) H
  | _, _ => False
theorem gMod : OpR X (binaryOp .Mod) rMod := by
  intro pins s σ H x y v u Q I rx ry h
  cases x <;> cases y <;> first
    | exact h.elim
    | exact op_mod pins s σ H _ _ v u Q I rx ry ⟨_, _, rfl, rfl, h.1, h.2⟩
def rPow : R2 := fun x y H Q => match x, y with
  | .int i, .int j => CPow i j ∧ Q (.int (i ^ j.toNat)) H
  | _, _ => False
theorem gPow : OpR X (binaryOp .Pow) rPow := by
  intro pins s σ H x y v u Q I rx ry h
  cases x <;> cases y <;> first
    | exact h.elim
    | exact op_pow pins s σ H _ _ v u Q I rx ry ⟨_, _, rfl, rfl, h.1, h.2⟩
def rCmp (g : Int → Int → Bool) : R2 := fun x y H Q => match x, y with
  | .int i, .int j => Q (.bl (g i j)) H
  | _, _ => False
theorem cmp_of {f : Value → Value → Sem Value} {g : Int → Int → Bool} (ho : OpR X f (rI0 fun i j => .bl (g i j))) : OpR X f (rCmp g) := by
  intro pins s σ H x y v u Q I rx ry h
  cases x <;> cases y <;> first
    | exact h.elim
    | exact ho pins s σ H _ _ v u Q I rx ry ⟨_, _, rfl, rfl, h⟩
theorem gLt : OpR X (compareOp .Lt) (rCmp fun i j => decide (i < j)) := cmp_of op_lt
theorem gLe : OpR X (compareOp .LtE) (rCmp fun i j => decide (i ≤ j)) := cmp_of op_le
theorem gGt : OpR X (compareOp .Gt) (rCmp fun i j => decide (j < i)) := cmp_of op_gt
theorem gGe : OpR X (compareOp .GtE) (rCmp fun i j => decide (j ≤ i)) := cmp_of op_ge
def rEqA (K : PySem.W.Frag) : R2 := fun x y H Q => rEq x y H Q ∨ rEqD K x y H Q
def rNeA (K : PySem.W.Frag) : R2 := fun x y H Q => rNe x y H Q ∨ rNeD K x y H Q
theorem gEq {k : Nat} (hr : Room k X.A) : OpR X (compareOp .Eq) (rEqA X.K) := op_eq.or (op_eqD hr.units)
theorem gNe {k : Nat} (hr : Room k X.A) : OpR X (compareOp .NotEq) (rNeA X.K) := op_ne.or (op_neD hr.units)
def rIsA : R2 := fun x y H Q => (y = .non ∧ Q (.bl (decide (x = .non))) H) ∨ rIsB x y H Q
def rIsNotA : R2 := fun x y H Q => (y = .non ∧ Q (.bl (!decide (x = .non))) H) ∨ rNotB x y H Q
theorem gIs : OpR X (compareOp .Is) rIsA := op_isN.or op_isBl
theorem gIsNot : OpR X (compareOp .IsNot) rIsNotA := op_notN.or op_notBl
def rInA (K : PySem.W.Frag) : R2 := fun x y H Q => (∃ (c : Nat) (z : Str), x = .str ⟨#[c]⟩ ∧ y = .str z ∧ Q (.bl (decide (c ∈ z.cps.toList))) H) ∨ rIn K false x y H Q ∨ rInD K x y H Q
def rNotInA (K : PySem.W.Frag) : R2 := fun x y H Q => (∃ (c : Nat) (z : Str), x = .str ⟨#[c]⟩ ∧ y = .str z ∧ Q (.bl (!decide (c ∈ z.cps.toList))) H) ∨ rIn K true x y H Q ∨ rNotInD K x y H Q
theorem u65 {k : Nat} {A : Around} (hr : Room k A) : A.units + 65 < cLine := by
  have := hr.un
  omega
theorem gIn {k : Nat} (hr : Room k X.A) : OpR X (compareOp .In) (rInA X.K) := op_in_sign.or (op_in_seq.or (op_inD (u65 hr)))
theorem gNotIn {k : Nat} (hr : Room k X.A) : OpR X (compareOp .NotIn) (rNotInA X.K) := op_notIn_sign.or (op_notIn_seq.or (op_notInD (u65 hr)))
def rSlG (K : PySem.W.Frag) : V → Option Int → Option Int → Hp → VK → Prop := fun x lo hi H Q => match x with
  | .str z => z.length ≤ sizeLine ∧ Q (.str (cutS z lo hi)) H
  | .ref a => rSlL K (.ref a) lo hi H Q ∨ rSlA K (.ref a) lo hi H Q
  | _ => False
theorem gSl : SlR X (rSlG X.K) := by
  intro pins s σ H x v vl vu lo hi sl Q I rx hs pl pu h
  cases x <;> first
    | exact h.elim
    | exact sl_str pins s σ H _ v vl vu lo hi sl Q I rx hs pl pu ⟨_, rfl, h.1, h.2⟩
    | exact sl_list.or sl_tupA pins s σ H _ v vl vu lo hi sl Q I rx hs pl pu h
theorem CallR.or {f : Value} {r r' : List V → Hp → VK → Prop} (h : CallR X f r) (h' : CallR X f r') : CallR X f (fun xs H Q => r xs H Q ∨ r' xs H Q) := by
  intro pins s σ H xs us Q I rv q
  rcases q with q | q
  · exact h pins s σ H xs us Q I rv q
  · exact h' pins s σ H xs us Q I rv q
def rLen (K : PySem.W.Frag) : List V → Hp → VK → Prop := fun xs H Q => match xs with
  | [.str y] => y.length ≤ sizeLine ∧ Q (.int y.length) H
  | [.ref p] => ∃ xs, (SqL K H p xs ∨ SqT K H p xs) ∧ Q (.int xs.length) H
  | _ => False
theorem gLen : CallR X (.builtin "len") (rLen X.K) := by
  intro pins s σ H xs us Q I rv h
  match xs, rv, h with
  | [.str y], rv, h => exact call_len pins s σ H _ us Q I rv ⟨_, _, rfl, ⟨h.1, rfl⟩, h.2⟩
  | [.ref p], rv, h =>
    obtain ⟨xs, h1 | h1, q⟩ := h
    · exact call_len pins s σ H _ us Q I rv ⟨_, _, rfl, .inl ⟨_, h1, rfl⟩, q⟩
    · exact call_len pins s σ H _ us Q I rv ⟨_, _, rfl, .inr ⟨_, h1, rfl⟩, q⟩
def rIsiA (K : PySem.W.Frag) : List V → Hp → VK → Prop := fun xs H Q => rIsi K xs H Q ∨ rIsiT K xs H Q
theorem gIsi : CallR X (.builtin "isinstance") (rIsiA X.K) := CallR.or call_isi call_isiT
def rIntA : List V → Hp → VK → Prop := fun xs H Q => match xs with
  | [.int i] => Q (.int i) H
  | [.bl k] => Q (.int (if k then 1 else 0)) H
  | [.str a] => ∃ n, PySem.intText? a = some n ∧ a.length ≤ 640 ∧ Q (.int n) H
  | _ => False
theorem g_int : CallR X (.type "int") rIntA := by
  intro pins s σ H xs us Q I rv h
  match xs, rv, h with
  | [.int i], rv, h => exact call_int1 pins s σ H _ us Q I rv (.inl ⟨_, rfl, h⟩)
  | [.bl i], rv, h => exact call_int1 pins s σ H _ us Q I rv (.inr ⟨_, rfl, h⟩)
  | [.str i], rv, ⟨n, h1, h2, q⟩ => exact call_int_str pins s σ H _ us Q I rv ⟨_, n, rfl, h1, h2, q⟩
def rStrA : List V → Hp → VK → Prop := fun xs H Q => match xs with
  | [.int i] => i.natAbs.log2 < 1920 ∧ Q (.str (toString i)) H
  | _ => False
theorem g_str : CallR X (.type "str") rStrA := by
  intro pins s σ H xs us Q I rv h
  match xs, rv, h with
  | [.int i], rv, h => exact call_str_int pins s σ H _ us Q I rv ⟨_, rfl, h.1, h.2⟩
def rListA (K : PySem.W.Frag) : List V → Hp → VK → Prop := fun xs H Q => match xs with
  | [.ref p] => ∃ ys, (SqL K H p ys ∨ SqT K H p ys) ∧ ∀ l, H l = none → Q (.ref l) (upd H l (.lst ys))
  | _ => False
theorem g_list : CallR X (.type "list") (rListA X.K) := by
  intro pins s σ H xs us Q I rv h
  match xs, rv, h with
  | [.ref i], rv, ⟨ys, h, q⟩ => exact call_list_of pins s σ H _ us Q I rv ⟨_, _, rfl, h, q⟩
def rTupA (K : PySem.W.Frag) : List V → Hp → VK → Prop := fun xs H Q => match xs with
  | [.ref p] => ∃ ys, (SqL K H p ys ∧ ∀ l, H l = none → Q (.ref l) (upd H l (.tup ys))) ∨ (SqT K H p ys ∧ Q (.ref p) H)
  | _ => False
theorem g_tuple : CallR X (.type "tuple") (rTupA X.K) := by
  intro pins s σ H xs us Q I rv h
  match xs, rv, h with
  | [.ref i], rv, ⟨ys, h⟩ => exact call_tuple_of pins s σ H _ us Q I rv ⟨_, _, rfl, h⟩
def rIxA (K : PySem.W.Frag) : R2 := fun x y H Q => match x, y with
  | .ref p, .int i => ∃ xs v, (SqL K H p xs ∨ SqT K H p xs) ∧ atI xs i = some v ∧ Q v H
  | .str z, .int i => z.length ≤ sizeLine ∧ ∃ c, atI z.cps.toList i = some c ∧ Q (.str ⟨#[c]⟩) H
  | _, _ => False
theorem gIx : IxR X (rIxA X.K) := by
  intro value slice pins s σ H x y v u Q I rx ry h hs
  cases x <;> cases y <;> first
    | exact h.elim
    | (obtain ⟨xs, v', h1 | h1, h2, q⟩ := h
       · exact ix_list value slice pins s σ H _ _ v u Q I rx ry ⟨_, _, _, _, rfl, rfl, h1, h2, q⟩ hs
       · exact ix_tup value slice pins s σ H _ _ v u Q I rx ry ⟨_, _, _, _, rfl, rfl, h1, h2, q⟩ hs)
    | (obtain ⟨h1, c, h2, q⟩ := h
       exact ix_str value slice pins s σ H _ _ v u Q I rx ry ⟨_, _, _, rfl, rfl, h1, h2, q⟩ hs)
/-- a built-in type's name -/
theorem gTy {x : Str} {n : String} {pos : Pos} (hg : Gl X x) (hm : X.mg x = none) (hv : bootBuiltins x = some (.type n)) (hn : x ≠ "__name__" := by decide) (hd : (x == ("__debug__" : Str)) = false := by decide) : PE X (.Name x pos) (tC (.ty n)) :=
  pe_bltn (v := .ty n) hg hm hv rfl hn hd
/-- what is walked: a list, a tuple, a text -/
def iAny (K : PySem.W.Frag) (te : TE) : TI := fun σ H R => iList K te σ H R ∨ iTup K te σ H R ∨ iStr te σ H R
theorem IT {tg e : Expr} {te : TE} (he : PE X e te) : PI X tg e (iAny X.K te) := by
  refine ⟨fun pins s σ H R I h => ?_⟩
  rcases h with h | h | h
  · exact (pi_list he).run pins s σ H R I h
  · exact (pi_tup he).run pins s σ H R I h
  · exact (pi_str he).run pins s σ H R I h
/-- a statement, then the rest, with a word between them -/
def tCut (t u : TS) : TS := fun D σ H => ∃ Mid : L2.St → Hp → Prop, t { D with nx := Mid } σ H ∧ ∀ σ' H', Mid σ' H' → u D σ' H'
theorem pss_cut {st : Stmt} {rest : List Stmt} {t u : TS} (h1 : PS X st t) (h2 : PSs X rest u) : PSs X (st :: rest) (tCut t u) := by
  refine ⟨fun pins s σ H D I h => ?_⟩
  obtain ⟨Mid, hm, hu⟩ := h
  refine wpAny_execs_cons (thn (h1.run pins s σ H { D with nx := Mid } I hm) fun f s1 q => ?_)
  cases f with
  | next =>
    obtain ⟨σ', H', I', q⟩ := q
    exact h2.run pins s1 σ' H' D I' (hu σ' H' q)
  | ret v => exact q
  | brk => exact q
  | cont => exact q
/-- an expression, a test, with a word behind it -/
def tCutE (t : TE) : TE := fun σ H Q => ∃ M : VK, t σ H M ∧ ∀ v H', M v H' → Q v H'
def tCutT (t : TT) : TT := fun σ H Q => ∃ M : Bool → Hp → Prop, t σ H M ∧ ∀ v H', M v H' → Q v H'
theorem pe_cut {e : Expr} {t : TE} (h : PE X e t) : PE X e (tCutE t) := by
  refine ⟨fun pins s σ H Q I ⟨M, hm, hu⟩ => thn (h.run pins s σ H M I hm) fun u s1 ⟨v, H1, I1, r, q⟩ => ⟨v, H1, I1, r, hu v H1 q⟩⟩
theorem pt_cut {e : Expr} {t : TT} (h : PT X e t) : PT X e (tCutT t) := by
  refine ⟨fun pins s σ H Q I ⟨M, hm, hu⟩ => thn (h.run pins s σ H M I hm) fun u s1 ⟨H1, I1, q⟩ => ⟨H1, I1, hu _ H1 q⟩⟩
theorem i_cutE {t : TE} {σ : L2.St} {H : Hp} {Q : VK} (M : VK) (hm : t σ H M) (hu : ∀ v H', M v H' → Q v H') : tCutE t σ H Q := ⟨M, hm, hu⟩
theorem i_cutT {t : TT} {σ : L2.St} {H : Hp} {Q : Bool → Hp → Prop} (M : Bool → Hp → Prop) (hm : t σ H M) (hu : ∀ v H', M v H' → Q v H') : tCutT t σ H Q := ⟨M, hm, hu⟩
/-- .. whose answer is b, leaving the heap -/
theorem i_isT {t : TT} {σ : L2.St} {H : Hp} {Q : Bool → Hp → Prop} (b : Bool) (hm : t σ H fun v H' => v = b ∧ H' = H) (hu : Q b H) : tCutT t σ H Q := ⟨_, hm, fun v H' ⟨e1, e2⟩ => by rw [e1, e2]; exact hu⟩
theorem i_isE {t : TE} {σ : L2.St} {H : Hp} {Q : VK} (x : V) (hm : t σ H fun v H' => v = x ∧ H' = H) (hu : Q x H) : tCutE t σ H Q := ⟨_, hm, fun v H' ⟨e1, e2⟩ => by rw [e1, e2]; exact hu⟩
theorem cut_seq {t u : TS} {D : Ends} {σ : L2.St} {H : Hp} (h : t { D with nx := u D } σ H) : tCut t u D σ H := ⟨u D, h, fun _ _ q => q⟩
end
/-! the same, the written part by its name (inside a comprehension) -/
section
variable {X : Cx} {K : PySem.W.Frag}
theorem kAdd (hK : X.K = K) : OpR X (binaryOp .Add) (rAdd K) := by subst hK; exact gAdd
theorem kEq {k : Nat} (hK : X.K = K) (hr : Room k X.A) : OpR X (compareOp .Eq) (rEqA K) := by subst hK; exact gEq hr
theorem kNe {k : Nat} (hK : X.K = K) (hr : Room k X.A) : OpR X (compareOp .NotEq) (rNeA K) := by subst hK; exact gNe hr
theorem kIn {k : Nat} (hK : X.K = K) (hr : Room k X.A) : OpR X (compareOp .In) (rInA K) := by subst hK; exact gIn hr
theorem kNotIn {k : Nat} (hK : X.K = K) (hr : Room k X.A) : OpR X (compareOp .NotIn) (rNotInA K) := by subst hK; exact gNotIn hr
theorem kSl (hK : X.K = K) : SlR X (rSlG K) := by subst hK; exact gSl
theorem kLen (hK : X.K = K) : CallR X (.builtin "len") (rLen K) := by subst hK; exact gLen
theorem kIsi (hK : X.K = K) : CallR X (.builtin "isinstance") (rIsiA K) := by subst hK; exact gIsi
theorem k_list (hK : X.K = K) : CallR X (.type "list") (rListA K) := by subst hK; exact g_list
theorem k_tuple (hK : X.K = K) : CallR X (.type "tuple") (rTupA K) := by subst hK; exact g_tuple
theorem kIx (hK : X.K = K) : IxR X (rIxA K) := by subst hK; exact gIx
theorem kIT {tg e : Expr} {te : TE} (hK : X.K = K) (he : PE X e te) : PI X tg e (iAny K te) := by subst hK; exact IT he
theorem kTruth {a : Expr} {ta : TE} (hK : X.K = K) (ha : PE X a ta) (he : ∀ whole, isTrue a X.env whole = (do let v ← whole; standAt a.pos; holding [v] (truthy v))) : PT X a (fun σ H Q => ta σ H fun x H' => ∃ k, TruV K x H' k ∧ Q k H') := by
  subst hK
  exact pt_truth ha he
theorem kBm {o e : Expr} {es : List Expr} {to : TE} {t : TA} {name : Str} {apos cpos : Pos} {T id : String} {r : V → List V → Hp → VK → Prop} (hK : X.K = K) (pa : PlainAttrs T) (slot : Slot T name id) (hty : typeOf (.builtin id) = pure (.type "method_descriptor")) (hm : MtR X id r) (ho : PE X o to) (ha : PA X (e :: es) t)
    (hbase : attributeBase o name X.env (eval o X.env) = eval o X.env := by rfl)
    (hfew : ((backTo cpos (starEach (e :: es) X.env)).all (fun x => !x.1) && (backToKw cpos (keywordEach [] X.env)).all (fun x => x.1.isSome)
      && decide ((e :: es).length + ([] : List Keyword).length + (if ([] : List Keyword).isEmpty then 0 else 1) < 30)) = true := by rfl)
    (hline : (apos.endLine == cpos.line) = true := by rfl) (hs : starEach (e :: es) X.env = (false, eval e X.env) :: starEach es X.env := by rfl) (hplain : (backTo cpos (starEach es X.env)).any (·.1) = false := by rfl) :
    PE X (.Call (.Attribute o name apos) (e :: es) [] cpos) (tBM K T r to t) := by
  subst hK
  exact pe_bm pa slot hty hm ho ha hbase hfew hline hs hplain
theorem kBm0 {o : Expr} {to : TE} {name : Str} {apos cpos : Pos} {T id : String} {r : V → List V → Hp → VK → Prop} (hK : X.K = K) (pa : PlainAttrs T) (slot : Slot T name id) (hty : typeOf (.builtin id) = pure (.type "method_descriptor")) (hm : MtR X id r) (ho : PE X o to)
    (hbase : attributeBase o name X.env (eval o X.env) = eval o X.env := by rfl) (hline : (apos.endLine == cpos.line) = true := by rfl) : PE X (.Call (.Attribute o name apos) [] [] cpos) (tBM0 K T r to) := by
  subst hK
  exact pe_bm0 pa slot hty hm ho hbase hline
theorem kTup {es : List Expr} {k : Nat} {t : TGs} {n : Nat} {pos : Pos} (hK : X.K = K) (hc : X.calm = true) (h : PGs X es t)
    (hn : (assignEach es X.env).length = n := by rfl) (hst : (assignEach es X.env).findIdx? (·.1) = none := by rfl) : PG X (.Tuple es k pos) (gTup K n t) := by
  subst hK
  exact pg_tup hc h hn hst
end
/-! ### a def by its name -/
structure Cal (P : Program) (w : World) (K : PySem.W.Frag) (mg : Str → Option Value) (base : Heap) (k : Nat) (x : Str) (sp : Sp) (dvs : List V) : Prop where
  ex : ∃ (f : Addr) (fd : FuncData) (ps : List Str) (ds : List Value), FnOk P w K mg base CX0 k f fd ps sp ∧ mg x = some (.ref f) ∧ PySem.W.keepIn K (.ref f) = true ∧ Binds K fd ps ds ∧ Vals dvs ds
/-- a def of the text: where it stands, how its arguments bind -/
structure Dd (K : PySem.W.Frag) (mg : Str → Option Value) (x : Str) (st : Stmt) (ps : List Str) : Prop where
  ex : ∃ (f : Addr) (fd : FuncData), Fun K x x st f fd ∧ mg x = some (.ref f) ∧ Binds K fd ps []
section
variable {P : Program} {w : World} {K : PySem.W.Frag} {mg : Str → Option Value} {base : Heap}
/-- the rule for a def -/
theorem Dd.cal {x : Str} {st : Stmt} {N ps : List Str} {k : Nat} {sp : Sp} (F : Dd K mg x st ps) (S : FnScope N ps (defScope st)) (len : ∀ vs H Q E, sp vs H Q E → vs.length = ps.length)
    (hbody : ∀ (f : Addr) (cdv : Value) (A : Around) (outer : List Env) (s : Shared) (H : Hp) (vs : List V) (Q : VK) (E : XK), Room k (A.deeper (envOfC x (defScope st) s.heap.objs.size f cdv)) → sp vs H Q E →
      ∃ t, PSs (cxOf CX0 P w K mg base N x (defScope st) f cdv A outer s H E).nox (defBody st) t ∧ t { nx := fun _ H' => Q .non H', rt := Q } (start N vs) H) : Cal P w K mg base (k + 1) x sp [] := by
  obtain ⟨f, fd, F1, hm, b⟩ := F.ex
  exact ⟨f, fd, ps, [], F1.ok S len (fun cdv A outer s H vs Q E hr h => hbody f cdv A outer s H vs Q E hr h), hm, F1.kp, b, .nil⟩
/-- the law itself -/
theorem Dd.law {x : Str} {st : Stmt} {N ps : List Str} {k : Nat} {sp : Sp} {fa : Addr} (F : Dd K mg x st ps) (S : FnScope N ps (defScope st)) (hfa : mg x = some (.ref fa)) (len : ∀ vs H Q E, sp vs H Q E → vs.length = ps.length)
    (hbody : ∀ (base : Heap) (f : Addr) (cdv : Value) (A : Around) (outer : List Env) (s : Shared) (H : Hp) (vs : List V) (Q : VK) (E : XK), Room k (A.deeper (envOfC x (defScope st) s.heap.objs.size f cdv)) → sp vs H Q E →
      ∃ t, PSs (cxOf CX0 P w K mg base N x (defScope st) f cdv A outer s H E).nox (defBody st) t ∧ t { nx := fun _ H' => Q .non H', rt := Q } (start N vs) H) :
    ∃ fd : FuncData, (∃ (kV doc pm : Value) (an : Option Addr) (cdv ct : Value), fd = PySem.W.fnOf x x (defArgs st) (defBody st) (defScope st) .none kV doc pm an cdv ct) ∧ ∀ base : Heap, FnOk P w K mg base CX0 (k + 1) fa fd ps sp := by
  obtain ⟨f, fd, F1, hm, b⟩ := F.ex
  have e := hfa.symm.trans hm
  cases e
  refine ⟨fd, ?_, fun base => F1.ok S len (fun cdv A outer s H vs Q E hr h => hbody base fa cdv A outer s H vs Q E hr h)⟩
  obtain ⟨oc, od, kV, doc, pm, an, cdv, ct, osl, rfl, lk, hcd⟩ := F1.ex
  exact ⟨kV, doc, pm, an, cdv, ct, rfl⟩
theorem cxK {CX : CXT} {N : List Str} {x : Str} {sc : Scope} {f : Addr} {cdv : Value} {A : Around} {outer : List Env} {s : Shared} {H : Hp} {E : XK} : (cxOf CX P w K mg base N x sc f cdv A outer s H E).nox.K = K := rfl
end
section
variable {X : Cx} {k j : Nat} {x : Str} {sp : Sp} {dvs : List V} {p pos : Pos} {e : Expr} {es : List Expr} {t : TA}
theorem pe_c (c : Cal X.prog X.w X.K X.mg X.base k x sp dvs) (hr : Room j X.A) (hk : k ≤ j) (hg : Gl X x) (ha : PA X (e :: es) t)
    (hdb : (x == ("__debug__" : Str)) = false := by decide) (he : starEach (e :: es) X.env = (false, eval e X.env) :: starEach es X.env := by rfl) (hpl : (backTo pos (starEach es X.env)).any (·.1) = false := by rfl) :
    PE X (.Call (.Name x p) (e :: es) [] pos) (tCall sp dvs E0 t) := by
  obtain ⟨f, fd, ps, ds, F, hm, kp, b, d⟩ := c.ex
  exact pe_call F (hr.mono hk) hg hm kp b d pass0 ha hdb he hpl
theorem pe_call0C (c : Cal X.prog X.w X.K X.mg X.base k x sp dvs) (hr : Room j X.A) (hk : k ≤ j) (hg : Gl X x)
    (hdb : (x == ("__debug__" : Str)) = false := by decide) : PE X (.Call (.Name x p) [] [] pos) (tCall sp dvs E0 tNil) := by
  obtain ⟨f, fd, ps, ds, F, hm, kp, b, d⟩ := c.ex
  exact pe_call0 F (hr.mono hk) hg hm kp b d pass0 hdb
theorem pe_gc {v : V} (hg : Gl X x) (h : ∃ u, X.mg x = some u ∧ RelV v u) (hd : (x == ("__debug__" : Str)) = false := by decide) : PE X (.Name x pos) (tC v) := by
  obtain ⟨u, hm, r⟩ := h
  exact pe_glob hg hm r hd
end
/-! ### readings, one step each -/
section
variable {K : PySem.W.Frag} {σ : L2.St} {H : Hp} {ta tb te tc to : TE} {t tr : TA} {tt tu : TT} {Q : VK} {QA : List V → Hp → Prop} {QB : Bool → Hp → Prop} {D : Ends} {u v : TS} {r r' : R2} {rc : List V → Hp → VK → Prop} {g : TG}
theorem i_var {i : Nat} {x : V} (h : σ[i]? = some (some x)) (q : Q x H) : tVar i σ H Q := ⟨x, h, q⟩
theorem i_c {x : V} (q : Q x H) : tC x σ H Q := q
theorem i_op (q : ta σ H fun x H1 => tb σ H1 fun y H2 => r x y H2 Q) : tOp r ta tb σ H Q := q
theorem i_un {ru : V → Hp → VK → Prop} (q : ta σ H fun x H1 => ru x H1 Q) : tUn ru ta σ H Q := q
theorem i_neg {i : Int} (q : Q (.int (-i)) H) : rU (fun i => .int (-i)) (.int i) H Q := ⟨i, rfl, q⟩
theorem i_cb (q : t σ H fun vs H1 => rc vs H1 Q) : tCB rc t σ H Q := q
theorem i_cons (q : ta σ H fun x H1 => tr σ H1 fun xs H2 => QA (x :: xs) H2) : tCons ta tr σ H QA := q
theorem i_nil (q : QA [] H) : tNil σ H QA := q
theorem i_test (q : te σ H fun x H' => ∃ k, x = .bl k ∧ QB k H') : tTest te σ H QB := q
theorem i_b (q : te σ H fun x H' => ∃ k, x = .bl k ∧ QB k H') : tB te σ H QB := q
theorem i_bl {b : Bool} {R : Bool → Prop} (q : R b) : ∃ k, V.bl b = .bl k ∧ R k := ⟨b, rfl, q⟩
theorem i_and (q : tt σ H fun c H1 => if c = true then tu σ H1 QB else QB false H1) : tAnd tt tu σ H QB := q
theorem i_or (q : tt σ H fun c H1 => if c = true then QB true H1 else tu σ H1 QB) : tOr tt tu σ H QB := q
theorem i_not (q : tt σ H fun c H1 => QB (!c) H1) : tNot tt σ H QB := q
theorem i_andV (q : ta σ H fun x H1 => ∃ c, x = .bl c ∧ if c = true then tb σ H1 Q else Q (.bl false) H1) : tAndV ta tb σ H Q := q
theorem i_orV (q : ta σ H fun x H1 => ∃ c, x = .bl c ∧ if c = true then Q (.bl true) H1 else tb σ H1 Q) : tOrV ta tb σ H Q := q
theorem i_notV (q : ta σ H fun x H1 => ∃ c, x = .bl c ∧ Q (.bl (!c)) H1) : tNotV ta σ H Q := q
theorem i_if (q : tt σ H fun c H1 => if c = true then ta σ H1 Q else tb σ H1 Q) : tIf tt ta tb σ H Q := q
theorem i_chain (q : ta σ H fun x H1 => tb σ H1 fun y H2 => r x y H2 fun z H3 => ∃ k, z = .bl k ∧ (if k = true then tc σ H3 fun w' H4 => r' y w' H4 Q else Q (.bl false) H3)) : tChain r r' ta tb tc σ H Q := q
theorem i_seq (q : u { D with nx := v D } σ H) : tSeq u v D σ H := q
theorem i_next (q : D.nx σ H) : tNext D σ H := q
theorem i_lst (q : t σ H fun xs H1 => xs.length ≤ sizeLine ∧ ∀ p, H1 p = none → Q (.ref p) (upd H1 p (.lst xs))) : tLst t σ H Q := q
theorem i_tup (q : t σ H fun xs H1 => xs.length ≤ sizeLine ∧ ∀ p, H1 p = none → Q (.ref p) (upd H1 p (.tup xs))) : tTup t σ H Q := q
theorem i_drop (q : te σ H fun _ H1 => D.nx σ H1) : tDrop te D σ H := q
theorem i_ret (q : te σ H D.rt) : tRet te D σ H := q
theorem i_ifS (q : tt σ H fun b H1 => if b = true then u D σ H1 else v D σ H1) : tIfS tt u v D σ H := q
theorem i_call {sp : Sp} {dvs : List V} {E : XK} (q : t σ H fun vs H1 => sp (vs ++ dvs) H1 Q E) : tCall sp dvs E t σ H Q := q
theorem i_asg (q : te σ H fun x H1 => g x σ H1 D.nx) : tAsg te g D σ H := q
theorem i_name {i : Nat} {x : V} {R : L2.St → Hp → Prop} (q : R (σ.set i (some x)) H) : gName i x σ H R := q
theorem i_start {N : List Str} {vs : List V} {τ : L2.St} {t : TS} (e : start N vs = τ) (q : t D τ H) : t D (start N vs) H := by
  subst e
  exact q
theorem i_sub {ti : TE} {ts : TSet} {x : V} {R : L2.St → Hp → Prop} (q : to σ H fun o H1 => ti σ H1 fun i H2 => ts o i x H2 fun H3 => R σ H3) : L2.gSub to ti ts x σ H R := q
theorem i_sl {rs : V → Option Int → Option Int → Hp → VK → Prop} {tl th : TO} (q : te σ H fun x H1 => tl σ H1 fun l H2 => th σ H2 fun u H3 => rs x l u H3 Q) : tSl rs te tl th σ H Q := q
theorem i_noP {QO : Option Int → Hp → Prop} (q : QO none H) : tNoPart σ H QO := q
theorem i_part {QO : Option Int → Hp → Prop} (q : te σ H fun x H1 => ∃ i, x = .int i ∧ QO (some i) H1) : tPart te σ H QO := q
theorem i_int {i : Int} {R : Int → Prop} (q : R i) : ∃ k, V.int i = .int k ∧ R k := ⟨i, rfl, q⟩
theorem i_bm {T : String} {rm : V → List V → Hp → VK → Prop} (q : to σ H fun x H1 => tyV K T x H1 ∧ t σ H1 fun xs H2 => rm x xs H2 Q) : tBM K T rm to t σ H Q := q
theorem i_strT {z : Str} {R : Prop} (q : R) : tyV K "str" (.str z) H ∧ R := ⟨rfl, q⟩
theorem i_yes {QB : Bool → Hp → Prop} (q : QB true H) : tYes σ H QB := q
theorem i_ite {p A B : Prop} [Decidable p] (h1 : p → A) (h2 : ¬ p → B) : if decide p = true then A else B := by
  by_cases h : p
  · rw [if_pos (decide_eq_true h)]
    exact h1 h
  · rw [if_neg (by rw [decide_eq_false h]; exact Bool.false_ne_true)]
    exact h2 h
theorem i_iteN {p A B : Prop} [Decidable p] (h1 : ¬ p → A) (h2 : p → B) : if (!decide p) = true then A else B := by
  by_cases h : p
  · rw [decide_eq_true h]
    exact iteF (h2 h)
  · rw [decide_eq_false h]
    exact iteT (h1 h)
theorem i_iteB {b : Bool} {A B : Prop} (h1 : b = true → A) (h2 : b = false → B) : if b = true then A else B := by
  cases b with
  | true => exact iteT (h1 rfl)
  | false => exact iteF (h2 rfl)
theorem i_iteBN {b : Bool} {A B : Prop} (h1 : b = false → A) (h2 : b = true → B) : if (!b) = true then A else B := by
  cases b with
  | true => exact iteF (h2 rfl)
  | false => exact iteT (h1 rfl)
/-- a comprehension's turns -/
def lcB (J : It) (g : TG) (tt : TT) (te : TE) (vs : List Nat) (σ : L2.St) (Q : VK) (H1 : Hp) : Prop := ∀ D, H1 D = none → ∃ W : Nat → Nat → Hp → Prop, (∃ m, W 0 m (upd H1 D (.lst []))) ∧ ∀ i m H, W i m H →
  (J.stop i H ∧ Q (.ref D) H) ∨ (J.go i H ∧ ∃ Nx : Hp → Prop, (∀ H', Nx H' → ∃ m', m' < m ∧ W (i + 1) m' H') ∧ ∀ x H', J.yld i H x H' → g x (wipe σ vs) H' fun σ2 H2 => wipe σ2 vs = wipe σ vs ∧ tt σ2 H2 fun b H3 =>
    if b = true then te σ2 H3 fun y H4 => ∃ acc, H4 D = some (.lst acc) ∧ acc.length < sizeLine ∧ Nx (upd H4 D (.lst (acc ++ [y]))) else Nx H3)
/-- a loop's turns -/
def forB (J : It) (g : TG) (tb : TS) (D : Ends) (σ : L2.St) (H1 : Hp) : Prop := ∃ W : Nat → Nat → L2.St → Hp → Prop, (∃ m, W 0 m σ H1) ∧ ∀ i m σ H, W i m σ H →
  (J.stop i H ∧ D.nx σ H) ∨ (J.go i H ∧ ∃ N : L2.St → Hp → Prop, (∀ σ' H', N σ' H' → ∃ m', m' < m ∧ W (i + 1) m' σ' H') ∧ ∀ x H', J.yld i H x H' → g x σ H' fun σ2 H2 => tb { D with nx := N, ct := N, bk := D.nx } σ2 H2)
theorem i_lc {wi : TI} {vs : List Nat} (q : wi σ H fun J H1 => lcB J g tt te vs σ Q H1) : tLc wi g tt te vs σ H Q := q
theorem i_for {wi : TI} (q : wi σ H fun J H1 => forB J g u D σ H1) : tFor wi g u D σ H := q
theorem i_anyL {R : It → Hp → Prop} (q : te σ H fun x H1 => ∃ a, x = .ref a ∧ (∃ xs, SqL K H1 a xs) ∧ R (Itl K a) H1) : iAny K te σ H R := .inl q
theorem i_anyT {R : It → Hp → Prop} (q : te σ H fun x H1 => ∃ a, x = .ref a ∧ (∃ xs, SqT K H1 a xs) ∧ R (Itt K a) H1) : iAny K te σ H R := .inr (.inl q)
theorem i_anyS {R : It → Hp → Prop} (q : te σ H fun v H1 => ∃ x, v = .str x ∧ R (Its x) H1) : iAny K te σ H R := .inr (.inr q)
theorem i_rng1 {R : It → Hp → Prop} (q : t σ H fun vs H1 => ∃ j : Int, vs = [.int j] ∧ -(2 ^ 62) ≤ j ∧ j < 2 ^ 62 ∧ R (Itr 0 j.toNat) H1) : iRng1 t σ H R := q
theorem i_rng2 {R : It → Hp → Prop} (q : t σ H fun vs H1 => ∃ i j : Int, vs = [.int i, .int j] ∧ (-(2 ^ 62) ≤ i ∧ i < 2 ^ 62 ∧ -(2 ^ 62) ≤ j ∧ j < 2 ^ 62) ∧ R (Itr i (j - i).toNat) H1) : iRng2 t σ H R := q
theorem l_rng1 {j : Int} {R : It → Hp → Prop} (h1 : -(2 ^ 62) ≤ j) (h2 : j < 2 ^ 62) (q : R (Itr 0 j.toNat) H) : ∃ k : Int, [V.int j] = [.int k] ∧ -(2 ^ 62) ≤ k ∧ k < 2 ^ 62 ∧ R (Itr 0 k.toNat) H := ⟨j, rfl, h1, h2, q⟩
/-- a range: what holds between the turns -/
theorem for_rng {n : Nat} {lo : Int} (Pv : Nat → L2.St → Hp → Prop) (h0 : Pv 0 σ H)
    (hs : ∀ i σ H, i < n → Pv i σ H → g (.int (lo + i)) σ H fun σ2 H2 => u { D with nx := Pv (i + 1), ct := Pv (i + 1), bk := D.nx } σ2 H2) (hd : ∀ σ H, Pv n σ H → D.nx σ H) : forB (Itr lo n) g u D σ H := for_range Pv h0 hs hd
theorem for_lst {a : Addr} {xs : List V} (Pv : Nat → L2.St → Hp → Prop) (h0 : Pv 0 σ H) (hl : ∀ i σ H, i ≤ xs.length → Pv i σ H → SqL K H a xs)
    (hs : ∀ i x σ H, xs[i]? = some x → Pv i σ H → g x σ H fun σ2 H2 => u { D with nx := Pv (i + 1), ct := Pv (i + 1), bk := D.nx } σ2 H2) (hd : ∀ σ H, Pv xs.length σ H → D.nx σ H) : forB (Itl K a) g u D σ H := for_list Pv h0 hl hs hd
/-- a text, sign by sign -/
theorem lc_text {x : Str} {vs : List Nat} {DD : Addr} (hD : H DD = none) (Pv : Nat → Hp → Prop) (h0 : Pv 0 (upd H DD (.lst [])))
    (hs : ∀ i c H, x.cps.toList[i]? = some c → Pv i H → g (.str ⟨#[c]⟩) (wipe σ vs) H fun σ2 H2 => wipe σ2 vs = wipe σ vs ∧ tt σ2 H2 fun b H3 =>
      if b = true then te σ2 H3 fun y H4 => ∃ acc, H4 DD = some (.lst acc) ∧ acc.length < sizeLine ∧ Pv (i + 1) (upd H4 DD (.lst (acc ++ [y]))) else Pv (i + 1) H3) (hd : ∀ H, Pv x.cps.toList.length H → Q (.ref DD) H) :
    ∃ W : Nat → Nat → Hp → Prop, (∃ m, W 0 m (upd H DD (.lst []))) ∧ ∀ i m H, W i m H →
      ((Its x).stop i H ∧ Q (.ref DD) H) ∨ ((Its x).go i H ∧ ∃ Nx : Hp → Prop, (∀ H', Nx H' → ∃ m', m' < m ∧ W (i + 1) m' H') ∧ ∀ v H', (Its x).yld i H v H' → g v (wipe σ vs) H' fun σ2 H2 => wipe σ2 vs = wipe σ vs ∧ tt σ2 H2 fun b H3 =>
        if b = true then te σ2 H3 fun y H4 => ∃ acc, H4 DD = some (.lst acc) ∧ acc.length < sizeLine ∧ Nx (upd H4 DD (.lst (acc ++ [y]))) else Nx H3) := by
  have el : x.cps.toList.length = x.cps.size := Array.length_toList
  refine ⟨fun i m H => m = x.cps.size - i ∧ i ≤ x.cps.size ∧ Pv i H, ⟨x.cps.size, by simp, Nat.zero_le _, h0⟩, ?_⟩
  rintro i m H ⟨rfl, hi, p⟩
  by_cases hlt : i < x.cps.size
  · refine .inr ⟨hlt, Pv (i + 1), fun H' p' => ⟨x.cps.size - (i + 1), by omega, rfl, hlt, p'⟩, fun v H' y => ?_⟩
    obtain ⟨rfl, c, hc, rfl⟩ := y
    exact hs i c H' (by rw [Array.getElem?_toList]; exact hc) p
  · have e : i = x.cps.size := by omega
    subst e
    exact .inl ⟨Nat.le_refl _, hd H (by rw [el]; exact p)⟩
theorem i_len {xs : List V} {R : Prop} (h : xs.length ≤ sizeLine) (q : R) : xs.length ≤ sizeLine ∧ R := ⟨h, q⟩
theorem iteNF {A B : Prop} (h : A) : if (!false) = true then A else B := h
theorem iteNT {A B : Prop} (h : B) : if (!true) = true then A else B := h
/-! leaves -/
theorem l_inT {x : V} {p : Addr} {xs : List V} (h : SqT K H p xs) (hx : flatV x = true) (ha : xs.all flatV = true) (q : Q (.bl (inV x xs)) H) : rInA K x (.ref p) H Q := .inr (.inl ⟨p, xs, rfl, .inr h, hx, ha, q⟩)
theorem l_inL {x : V} {p : Addr} {xs : List V} (h : SqL K H p xs) (hx : flatV x = true) (ha : xs.all flatV = true) (q : Q (.bl (inV x xs)) H) : rInA K x (.ref p) H Q := .inr (.inl ⟨p, xs, rfl, .inl h, hx, ha, q⟩)
theorem l_notInT {x : V} {p : Addr} {xs : List V} (h : SqT K H p xs) (hx : flatV x = true) (ha : xs.all flatV = true) (q : Q (.bl (!inV x xs)) H) : rNotInA K x (.ref p) H Q := .inr (.inl ⟨p, xs, rfl, .inr h, hx, ha, q⟩)
theorem l_notInL {x : V} {p : Addr} {xs : List V} (h : SqL K H p xs) (hx : flatV x = true) (ha : xs.all flatV = true) (q : Q (.bl (!inV x xs)) H) : rNotInA K x (.ref p) H Q := .inr (.inl ⟨p, xs, rfl, .inl h, hx, ha, q⟩)
theorem l_inC {c : Nat} {z : Str} (q : Q (.bl (decide (c ∈ z.cps.toList))) H) : rInA K (.str ⟨#[c]⟩) (.str z) H Q := .inl ⟨c, z, rfl, rfl, q⟩
theorem l_str1 {g : Str → Str → V} {a b : Str} (h : a.length ≤ sizeLine) (q : Q (g a b) H) : ∃ a' b', V.str a = .str a' ∧ [V.str b] = [.str b'] ∧ a'.length ≤ sizeLine ∧ Q (g a' b') H := ⟨a, b, rfl, rfl, h, q⟩
theorem l_addI {i j : Int} (q : Q (.int (i + j)) H) : rAdd K (.int i) (.int j) H Q := q
theorem l_addS {i j : Str} (h : i.length + j.length ≤ sizeLine) (q : Q (.str (i ++ j)) H) : rAdd K (.str i) (.str j) H Q := ⟨h, q⟩
theorem l_subI {i j : Int} (q : Q (.int (i - j)) H) : rSub (.int i) (.int j) H Q := q
theorem l_mul {i j : Int} (h : CMul i j ∨ CMulW i j) (q : Q (.int (i * j)) H) : rMul (.int i) (.int j) H Q := ⟨h, q⟩
theorem l_div {i j : Int} (h : CDivW i j) (q : Q (.int (i / j)) H) : rDiv (.int i) (.int j) H Q := ⟨h, q⟩
theorem l_mod {i j : Int} (h : 0 < j) (q : Q (.int (i % j)) H) : rMod (.int i) (.int j) H Q := ⟨h, q⟩
theorem l_pow {i j : Int} (h : CPow i j) (q : Q (.int (i ^ j.toNat)) H) : rPow (.int i) (.int j) H Q := ⟨h, q⟩
theorem l_cmp {gg : Int → Int → Bool} {i j : Int} (q : Q (.bl (gg i j)) H) : rCmp gg (.int i) (.int j) H Q := q
theorem l_eqI {i j : Int} (q : Q (.bl (decide (i = j))) H) : rEqA K (.int i) (.int j) H Q := .inl ⟨rfl, by rw [show decide (V.int i = V.int j) = decide (i = j) by simp]; exact q⟩
theorem l_eqS {i j : Str} (q : Q (.bl (decide (i = j))) H) : rEqA K (.str i) (.str j) H Q := .inl ⟨rfl, by rw [show decide (V.str i = V.str j) = decide (i = j) by simp]; exact q⟩
theorem l_eqB {i j : Bool} (q : Q (.bl (decide (i = j))) H) : rEqA K (.bl i) (.bl j) H Q := .inl ⟨rfl, by rw [show decide (V.bl i = V.bl j) = decide (i = j) by simp]; exact q⟩
theorem l_neI {i j : Int} (q : Q (.bl (!decide (i = j))) H) : rNeA K (.int i) (.int j) H Q := .inl ⟨rfl, by rw [show decide (V.int i = V.int j) = decide (i = j) by simp]; exact q⟩
theorem l_neS {i j : Str} (q : Q (.bl (!decide (i = j))) H) : rNeA K (.str i) (.str j) H Q := .inl ⟨rfl, by rw [show decide (V.str i = V.str j) = decide (i = j) by simp]; exact q⟩
theorem l_neB {i j : Bool} (q : Q (.bl (!decide (i = j))) H) : rNeA K (.bl i) (.bl j) H Q := .inl ⟨rfl, by rw [show decide (V.bl i = V.bl j) = decide (i = j) by simp]; exact q⟩
theorem l_neSelf {x : V} (h : scal x x = true) (q : Q (.bl false) H) : rNeA K x x H Q := .inl ⟨h, by rw [decide_eq_true rfl]; exact q⟩
theorem l_eqSelf {x : V} (h : scal x x = true) (q : Q (.bl true) H) : rEqA K x x H Q := .inl ⟨h, by rw [decide_eq_true rfl]; exact q⟩
theorem l_isN {x : V} (q : Q (.bl (decide (x = .non))) H) : rIsA x .non H Q := .inl ⟨rfl, q⟩
theorem l_isNotN {x : V} (q : Q (.bl (!decide (x = .non))) H) : rIsNotA x .non H Q := .inl ⟨rfl, q⟩
theorem l_isB {x y : Bool} (q : Q (.bl (decide (x = y))) H) : rIsA (.bl x) (.bl y) H Q := .inr ⟨x, y, rfl, rfl, q⟩
theorem l_isNotB {x y : Bool} (q : Q (.bl (!decide (x = y))) H) : rIsNotA (.bl x) (.bl y) H Q := .inr ⟨x, y, rfl, rfl, q⟩
theorem l_intI {i : Int} (q : Q (.int i) H) : rIntA [.int i] H Q := q
theorem l_intB {k : Bool} (q : Q (.int (if k then 1 else 0)) H) : rIntA [.bl k] H Q := q
theorem l_intS {a : Str} {n : Int} (h : PySem.intText? a = some n) (h2 : a.length ≤ 640) (q : Q (.int n) H) : rIntA [.str a] H Q := ⟨n, h, h2, q⟩
theorem l_strI {i : Int} (h : i.natAbs.log2 < 1920) (q : Q (.str (toString i)) H) : rStrA [.int i] H Q := ⟨h, q⟩
theorem l_lenS {y : Str} (h : y.length ≤ sizeLine) (q : Q (.int y.length) H) : rLen K [.str y] H Q := ⟨h, q⟩
theorem l_lenL {p : Addr} {xs : List V} (h : H p = some (.lst xs)) (q : Q (.int xs.length) H) : rLen K [.ref p] H Q := ⟨xs, .inl (SqL.of h), q⟩
theorem l_lenT {p : Addr} {xs : List V} (h : H p = some (.tup xs)) (q : Q (.int xs.length) H) : rLen K [.ref p] H Q := ⟨xs, .inr (SqT.of h), q⟩
theorem l_ixL {p : Addr} {xs : List V} {i : Int} {x : V} (h : H p = some (.lst xs)) (e : atI xs i = some x) (q : Q x H) : rIxA K (.ref p) (.int i) H Q := ⟨xs, x, .inl (SqL.of h), e, q⟩
theorem l_ixT {p : Addr} {xs : List V} {i : Int} {x : V} (h : H p = some (.tup xs)) (e : atI xs i = some x) (q : Q x H) : rIxA K (.ref p) (.int i) H Q := ⟨xs, x, .inr (SqT.of h), e, q⟩
theorem l_ixS {z : Str} {i : Int} {c : Nat} (h : z.length ≤ sizeLine) (e : atI z.cps.toList i = some c) (q : Q (.str ⟨#[c]⟩) H) : rIxA K (.str z) (.int i) H Q := ⟨h, c, e, q⟩
theorem l_slS {z : Str} {lo hi : Option Int} (h : z.length ≤ sizeLine) (q : Q (.str (cutS z lo hi)) H) : rSlG K (.str z) lo hi H Q := ⟨h, q⟩
theorem l_slL {a : Addr} {xs : List V} {lo hi : Option Int} (h : SqL K H a xs) (q : ∀ p, H p = none → Q (.ref p) (upd H p (.lst (cutV xs lo hi)))) : rSlG K (.ref a) lo hi H Q := .inl ⟨a, xs, rfl, h, q⟩
theorem l_setL {p : Addr} {xs : List V} {k : Int} {j : Nat} {x : V} {R : Hp → Prop} (h : H p = some (.lst xs)) (e : ixN xs.length k = some j) (q : R (upd H p (.lst (xs.set j x)))) : rSetL (.ref p) (.int k) x H R := ⟨p, xs, k, j, rfl, rfl, h, e, q⟩
theorem l_isi {x : V} {n : String} {tv : Value} {b : Bool} (ty : TyX K H x tv) (e : PySem.W.kitOne K tv (.type n) = some b) (q : Q (.bl b) H) : rIsiA K [x, .ty n] H Q := .inl ⟨x, .ty n, tv, .type n, b, rfl, .ty n, ty, e, q⟩
end
/-! isinstance of the plain kinds -/
theorem kt_NoneType_str {K : PySem.W.Frag} : PySem.W.kitOne K (.type "NoneType") (.type "str") = some false := kit_ty (by decide +kernel)
theorem kt_NoneType_int {K : PySem.W.Frag} : PySem.W.kitOne K (.type "NoneType") (.type "int") = some false := kit_ty (by decide +kernel)
theorem kt_NoneType_bool {K : PySem.W.Frag} : PySem.W.kitOne K (.type "NoneType") (.type "bool") = some false := kit_ty (by decide +kernel)
theorem kt_NoneType_tuple {K : PySem.W.Frag} : PySem.W.kitOne K (.type "NoneType") (.type "tuple") = some false := kit_ty (by decide +kernel)
theorem kt_NoneType_list {K : PySem.W.Frag} : PySem.W.kitOne K (.type "NoneType") (.type "list") = some false := kit_ty (by decide +kernel)
theorem kt_NoneType_dict {K : PySem.W.Frag} : PySem.W.kitOne K (.type "NoneType") (.type "dict") = some false := kit_ty (by decide +kernel)
theorem kt_bool_str {K : PySem.W.Frag} : PySem.W.kitOne K (.type "bool") (.type "str") = some false := kit_ty (by decide +kernel)
theorem kt_bool_int {K : PySem.W.Frag} : PySem.W.kitOne K (.type "bool") (.type "int") = some true := kit_ty (by decide +kernel)
theorem kt_bool_bool {K : PySem.W.Frag} : PySem.W.kitOne K (.type "bool") (.type "bool") = some true := kit_ty (by decide +kernel)
theorem kt_bool_tuple {K : PySem.W.Frag} : PySem.W.kitOne K (.type "bool") (.type "tuple") = some false := kit_ty (by decide +kernel)
theorem kt_bool_list {K : PySem.W.Frag} : PySem.W.kitOne K (.type "bool") (.type "list") = some false := kit_ty (by decide +kernel)
theorem kt_bool_dict {K : PySem.W.Frag} : PySem.W.kitOne K (.type "bool") (.type "dict") = some false := kit_ty (by decide +kernel)
theorem kt_int_str {K : PySem.W.Frag} : PySem.W.kitOne K (.type "int") (.type "str") = some false := kit_ty (by decide +kernel)
theorem kt_int_int {K : PySem.W.Frag} : PySem.W.kitOne K (.type "int") (.type "int") = some true := kit_ty (by decide +kernel)
theorem kt_int_bool {K : PySem.W.Frag} : PySem.W.kitOne K (.type "int") (.type "bool") = some false := kit_ty (by decide +kernel)
theorem kt_int_tuple {K : PySem.W.Frag} : PySem.W.kitOne K (.type "int") (.type "tuple") = some false := kit_ty (by decide +kernel)
theorem kt_int_list {K : PySem.W.Frag} : PySem.W.kitOne K (.type "int") (.type "list") = some false := kit_ty (by decide +kernel)
theorem kt_int_dict {K : PySem.W.Frag} : PySem.W.kitOne K (.type "int") (.type "dict") = some false := kit_ty (by decide +kernel)
theorem kt_str_str {K : PySem.W.Frag} : PySem.W.kitOne K (.type "str") (.type "str") = some true := kit_ty (by decide +kernel)
theorem kt_str_int {K : PySem.W.Frag} : PySem.W.kitOne K (.type "str") (.type "int") = some false := kit_ty (by decide +kernel)
theorem kt_str_bool {K : PySem.W.Frag} : PySem.W.kitOne K (.type "str") (.type "bool") = some false := kit_ty (by decide +kernel)
theorem kt_str_tuple {K : PySem.W.Frag} : PySem.W.kitOne K (.type "str") (.type "tuple") = some false := kit_ty (by decide +kernel)
theorem kt_str_list {K : PySem.W.Frag} : PySem.W.kitOne K (.type "str") (.type "list") = some false := kit_ty (by decide +kernel)
theorem kt_str_dict {K : PySem.W.Frag} : PySem.W.kitOne K (.type "str") (.type "dict") = some false := kit_ty (by decide +kernel)
theorem kt_list_str {K : PySem.W.Frag} : PySem.W.kitOne K (.type "list") (.type "str") = some false := kit_ty (by decide +kernel)
theorem kt_list_int {K : PySem.W.Frag} : PySem.W.kitOne K (.type "list") (.type "int") = some false := kit_ty (by decide +kernel)
theorem kt_list_bool {K : PySem.W.Frag} : PySem.W.kitOne K (.type "list") (.type "bool") = some false := kit_ty (by decide +kernel)
theorem kt_list_tuple {K : PySem.W.Frag} : PySem.W.kitOne K (.type "list") (.type "tuple") = some false := kit_ty (by decide +kernel)
theorem kt_list_list {K : PySem.W.Frag} : PySem.W.kitOne K (.type "list") (.type "list") = some true := kit_ty (by decide +kernel)
theorem kt_list_dict {K : PySem.W.Frag} : PySem.W.kitOne K (.type "list") (.type "dict") = some false := kit_ty (by decide +kernel)
theorem kt_tuple_str {K : PySem.W.Frag} : PySem.W.kitOne K (.type "tuple") (.type "str") = some false := kit_ty (by decide +kernel)
theorem kt_tuple_int {K : PySem.W.Frag} : PySem.W.kitOne K (.type "tuple") (.type "int") = some false := kit_ty (by decide +kernel)
theorem kt_tuple_bool {K : PySem.W.Frag} : PySem.W.kitOne K (.type "tuple") (.type "bool") = some false := kit_ty (by decide +kernel)
theorem kt_tuple_tuple {K : PySem.W.Frag} : PySem.W.kitOne K (.type "tuple") (.type "tuple") = some true := kit_ty (by decide +kernel)
theorem kt_tuple_list {K : PySem.W.Frag} : PySem.W.kitOne K (.type "tuple") (.type "list") = some false := kit_ty (by decide +kernel)
theorem kt_tuple_dict {K : PySem.W.Frag} : PySem.W.kitOne K (.type "tuple") (.type "dict") = some false := kit_ty (by decide +kernel)
theorem kt_dict_str {K : PySem.W.Frag} : PySem.W.kitOne K (.type "dict") (.type "str") = some false := kit_ty (by decide +kernel)
theorem kt_dict_int {K : PySem.W.Frag} : PySem.W.kitOne K (.type "dict") (.type "int") = some false := kit_ty (by decide +kernel)
theorem kt_dict_bool {K : PySem.W.Frag} : PySem.W.kitOne K (.type "dict") (.type "bool") = some false := kit_ty (by decide +kernel)
theorem kt_dict_tuple {K : PySem.W.Frag} : PySem.W.kitOne K (.type "dict") (.type "tuple") = some false := kit_ty (by decide +kernel)
theorem kt_dict_list {K : PySem.W.Frag} : PySem.W.kitOne K (.type "dict") (.type "list") = some false := kit_ty (by decide +kernel)
theorem kt_dict_dict {K : PySem.W.Frag} : PySem.W.kitOne K (.type "dict") (.type "dict") = some true := kit_ty (by decide +kernel)
/-- all that was known stands -/
def Ex (H H' : Hp) : Prop := ∀ a o, H a = some o → H' a = some o
theorem Ex.refl (H : Hp) : Ex H H := fun _ _ h => h
theorem Ex.trans {H H1 H2 : Hp} (a : Ex H H1) (b : Ex H1 H2) : Ex H H2 := fun x o h => b x o (a x o h)
theorem Ex.new {H : Hp} {p : Addr} {o : HO} (h : H p = none) : Ex H (upd H p o) := fun a u e => by
  rw [upd_ne (ne_of_none e h)]
  exact e
theorem Ex.mut {H H' : Hp} {p : Addr} {o : HO} (e : Ex H H') (h : H p = none) : Ex H (upd H' p o) := fun a u ha => by
  rw [upd_ne (ne_of_none ha h)]
  exact e a u ha
theorem Ex.free {H H' : Hp} (e : Ex H H') {l : Addr} (h : H' l = Option.none) : H l = Option.none := by
  cases q : H l with
  | none => rfl
  | some o =>
    rw [e l o q] at h
    cases h
/-- all but the object at st stands -/
def But (st : Addr) (H H' : Hp) : Prop := ∀ a o, a ≠ st → H a = some o → H' a = some o
theorem But.refl {st : Addr} (H : Hp) : But st H H := fun _ _ _ h => h
theorem But.trans {st : Addr} {H H1 H2 : Hp} (a : But st H H1) (b : But st H1 H2) : But st H H2 := fun x o n h => b x o n (a x o n h)
theorem Ex.but {st : Addr} {H H' : Hp} (e : Ex H H') : But st H H' := fun a o _ h => e a o h
theorem But.mut {st : Addr} {H H' : Hp} {o : HO} (e : But st H H') : But st H (upd H' st o) := fun a u n h => by
  rw [upd_ne n]
  exact e a u n h
/-! ### data -/
theorem rd_mono {H H' : Hp} {a : Addr} {u : HO} (e : Ex H H') (h : Rd H a u) : Rd H' a u := by
  rcases h with h | ⟨o, h⟩
  · exact Or.inl (e a _ h)
  · exact Or.inr ⟨o, e a _ h⟩
theorem sqL_mono {K : PySem.W.Frag} {H H' : Hp} {a : Addr} {xs : List V} (e : Ex H H') (h : SqL K H a xs) : SqL K H' a xs := by
  rcases h with h | h
  · exact Or.inl (rd_mono e h)
  · exact Or.inr h
theorem sqT_mono {K : PySem.W.Frag} {H H' : Hp} {a : Addr} {xs : List V} (e : Ex H H') (h : SqT K H a xs) : SqT K H' a xs := by
  rcases h with h | h
  · exact Or.inl (rd_mono e h)
  · exact Or.inr h
mutual
theorem dp_mono {K : PySem.W.Frag} {H H' : Hp} (e : Ex H H') : ∀ (d : PyData) (v : V), Dp K H v d → Dp K H' v d
  | .none, _, .non => .non
  | .bool _, _, .bl b => .bl b
  | .int _, _, .int b => .int b
  | .str _, _, .str b => .str b
  | .list ds, _, .lst h1 h2 => .lst (sqL_mono e h1) (dpAll_mono e ds _ h2)
  | .tuple ds, _, .tup h1 h2 => .tup (sqT_mono e h1) (dpAll_mono e ds _ h2)
theorem dpAll_mono {K : PySem.W.Frag} {H H' : Hp} (e : Ex H H') : ∀ (ds : List PyData) (vs : List V), DpAll K H vs ds → DpAll K H' vs ds
  | [], _, .nil => .nil
  | d :: ds, _, .cons h1 h2 => .cons (dp_mono e d _ h1) (dpAll_mono e ds _ h2)
end
theorem dp_ints {K : PySem.W.Frag} {H : Hp} : ∀ ns : List Int, DpAll K H (ns.map V.int) (ns.map PyData.int)
  | [] => .nil
  | n :: ns => .cons (.int n) (dp_ints ns)
theorem lay_ints : ∀ ns : List Int, PyData.canLayAll0 (ns.map PyData.int) = true
  | [] => by simp [PyData.canLayAll0]
  | n :: ns => by
    rw [List.map_cons, PyData.canLayAll0, lay_ints ns]
    simp [PyData.canLay0]
theorem depth_ints : ∀ ns : List Int, PyData.depthAll (ns.map PyData.int) ≤ 1
  | [] => by simp [PyData.depthAll]
  | n :: ns => by
    have := depth_ints ns
    rw [List.map_cons, PyData.depthAll]
    simp [PyData.depth]
    exact this
theorem sh_ints (ns : List Int) : SeqAt.shaped (.list (ns.map PyData.int)) = true := by
  unfold SeqAt.shaped
  have h := depth_ints ns
  rw [PyData.canLay0, lay_ints ns, PyData.depth]
  simp
  omega
theorem at_ints {ns : List Int} {i : Int} (h0 : 0 ≤ i) (h1 : i < (ns.length : Int)) : ∃ z, atI (ns.map V.int) i = some (.int z) := by
  obtain ⟨j, rfl⟩ := Int.eq_ofNat_of_zero_le h0
  have hj : j < ns.length := by omega
  exact ⟨ns[j], atI_nat (by rw [List.getElem?_map, List.getElem?_eq_getElem hj]; rfl)⟩
theorem l_neNil {K : PySem.W.Frag} {H : Hp} {Q : VK} {p q : Addr} {ns : List Int} (hp : H p = some (.lst (ns.map V.int))) (hq : H q = some (.lst [])) (k : Q (.bl (!decide (ns = []))) H) : rNeA K (.ref p) (.ref q) H Q := by
  refine .inr ⟨.list (ns.map .int), .list [], .lst (SqL.of hp) (dp_ints ns), .lst (SqL.of hq) .nil, sh_ints ns, sh_ints [], ?_⟩
  have e : PyData.eqv (.list (ns.map .int)) (.list []) = decide (ns = []) := by
    cases ns <;> simp [PyData.eqv, PyData.eqvAll]
  rw [e]
  exact k
/-! ### the law's own draws -/
structure Dr (H : Hp) (st : Addr) (b : Nat) : Prop where
  ex : ∃ (L : Addr) (ns : List Int) (a c : Int), H st = some (.lst [.ref L, .int a, .int c]) ∧ H L = some (.lst (ns.map V.int)) ∧ st ≠ L ∧ 0 ≤ c ∧ c ≤ (b : Int)
theorem Dr.mono {H H' : Hp} {st : Addr} {b b' : Nat} (d : Dr H st b) (e : Ex H H') (h : b ≤ b') : Dr H' st b' := by
  obtain ⟨L, ns, a, c, h1, h2, h3, h4, h5⟩ := d.ex
  exact ⟨L, ns, a, c, e _ _ h1, e _ _ h2, h3, h4, by omega⟩
theorem Dr.up {H : Hp} {st : Addr} {b b' : Nat} (d : Dr H st b) (h : b ≤ b') : Dr H st b' := d.mono (Ex.refl H) h
/-- _law_open(script) -/
def spOpen (K : PySem.W.Frag) : Sp := fun vs H Q _ => ∃ (a : Addr) (ns : List Int), vs = [.ref a] ∧ SqL K H a (ns.map V.int) ∧ ns.length ≤ 63 ∧ ∀ (st : Addr) (H' : Hp), H st = none → Dr H' st 0 → Ex H H' → Q (.ref st) H'
/-- _law_draw(state, many): any number below many -/
def spDraw : Sp := fun vs H Q _ => ∃ (st : Addr) (n : Int) (b : Nat), vs = [.ref st, .int n] ∧ 0 < n ∧ n ≤ 10 ^ 18 ∧ Dr H st b ∧ b < 2 ^ 60 ∧
  ∀ (r : Int) (H' : Hp), 0 ≤ r → r < n → Dr H' st (b + 1) → But st H H' → Q (.int r) H'
theorem draw {st : Addr} {n : Int} {b : Nat} {H : Hp} {Q : VK} {E : XK} (hd : Dr H st b) (hn : 0 < n) (hn2 : n ≤ 10 ^ 18) (hb : b < 2 ^ 60) (q : ∀ r H', 0 ≤ r → r < n → Dr H' st (b + 1) → But st H H' → Q (.int r) H') : spDraw ([.ref st, .int n] ++ []) H Q E :=
  ⟨st, n, b, rfl, hn, hn2, hd, hb, q⟩
theorem Dr.ne {H : Hp} {st p : Addr} {b : Nat} (d : Dr H st b) (h : H p = none) : p ≠ st := by
  obtain ⟨L, ns, a, c, h1, _⟩ := d.ex
  exact (ne_of_none h1 h).symm
theorem at_str {z : Str} {i : Int} (h0 : 0 ≤ i) (h1 : i < (z.length : Int)) : ∃ c, c ∈ z.cps.toList ∧ atI z.cps.toList i = some c := by
  obtain ⟨j, rfl⟩ := Int.eq_ofNat_of_zero_le h0
  have hj : j < z.cps.toList.length := by
    rw [Array.length_toList]
    show j < z.length
    omega
  exact ⟨z.cps.toList[j], List.getElem_mem hj, atI_nat (List.getElem?_eq_getElem hj)⟩
theorem at_map {α : Type} {f : α → V} {xs : List α} {i : Int} (h0 : 0 ≤ i) (h1 : i < (xs.length : Int)) : ∃ z, z ∈ xs ∧ atI (xs.map f) i = some (f z) := by
  obtain ⟨j, rfl⟩ := Int.eq_ofNat_of_zero_le h0
  have hj : j < xs.length := by omega
  exact ⟨xs[j], List.getElem_mem hj, atI_nat (by rw [List.getElem?_map, List.getElem?_eq_getElem hj]; rfl)⟩
theorem at_list {xs : List V} {i : Int} (h0 : 0 ≤ i) (h1 : i < (xs.length : Int)) : ∃ z, z ∈ xs ∧ atI xs i = some z := by
  obtain ⟨z, h, e⟩ := at_map (f := id) h0 h1
  rw [List.map_id] at e
  exact ⟨z, h, e⟩
theorem cutV_map {α : Type} (f : α → V) (xs : List α) (lo hi : Option Int) : cutV (xs.map f) lo hi = ((xs.drop (HT.sIx xs.length 0 lo)).take (HT.sIx xs.length xs.length hi - HT.sIx xs.length 0 lo)).map f := by
  unfold cutV
  rw [List.length_map, ← List.map_drop, ← List.map_take]
theorem map_at {α : Type} {f : α → V} {xs : List α} {i : Nat} {x : V} (h : (xs.map f)[i]? = some x) : ∃ z, xs[i]? = some z ∧ x = f z := by
  rw [List.getElem?_map] at h
  cases e : xs[i]? with
  | none =>
    rw [e] at h
    cases h
  | some z =>
    rw [e] at h
    exact ⟨z, rfl, (Option.some.inj h).symm⟩
theorem take_succ {α : Type} {xs : List α} {i : Nat} {z : α} (h : xs[i]? = some z) : xs.take (i + 1) = xs.take i ++ [z] := by
  rw [List.take_add_one, h]
  rfl
end G
set_option Elab.async false
set_option linter.all false
set_option maxRecDepth 100000
namespace G
open PySem PySem.Spec PyProof.Rows L2
/-! ### defs that may raise, and defs that ask that nothing is being shown (repr) around them -/
/-- a def's promise; g: it is called only where no repr is under way -/
structure Fg (P : Program) (w : World) (K : PySem.W.Frag) (mg : Str → Option Value) (base : Heap) (g : Bool) (k : Nat) (f : Addr) (fd : FuncData) (ps : List Str) (sp : Sp) : Prop where
  len : ∀ vs H Q E, sp vs H Q E → vs.length = ps.length
  go : ∀ (A : Around) (outer : List Env) (s : Shared) (H : Hp) (args : Args) (us : List Value) (vs : List V) (Q : VK) (E : XK), Room k A → (g = true → A.guards = some []) → Env0 P w K mg base A outer s H → BindsTo s fd args (ps.zip us) → Vals vs us →
    sp vs H Q E → codeAny (model P w) A (.call (.ref f) args) (CR (L2.CX P w) outer P w H s Q E) s
section
variable {P : Program} {w : World} {K : PySem.W.Frag} {mg : Str → Option Value} {base : Heap} {g : Bool} {k j : Nat} {f : Addr} {fd : FuncData} {ps : List Str} {sp : Sp}
theorem Fg.of (F : FnOk P w K mg base (L2.CX P w) k f fd ps sp) : Fg P w K mg base g k f fd ps sp := ⟨F.len, fun A outer s H args us vs Q E hr _ => F.run A outer s H args us vs Q E hr⟩
theorem cr_of0 {outer : List Env} {H : Hp} {s : Shared} {Q : VK} {E : XK} {r : Result} {s' : Shared} (h : CR CX0 outer P w H s Q E r s') : CR (L2.CX P w) outer P w H s Q E r s' := by
  cases r with
  | error e => exact (show False from h).elim
  | ok fl => cases fl <;> exact h
theorem Fg.of0 (F : FnOk P w K mg base CX0 k f fd ps sp) : Fg P w K mg base g k f fd ps sp :=
  ⟨F.len, fun A outer s H args us vs Q E hr _ e0 hb r h => codeAny_mono (F.run A outer s H args us vs Q E hr e0 hb r h) fun _ _ z => cr_of0 z⟩
theorem Fg.mono (F : Fg P w K mg base g j f fd ps sp) (h : j ≤ k) : Fg P w K mg base g k f fd ps sp := ⟨F.len, fun A outer s H args us vs Q E hr => F.go A outer s H args us vs Q E (hr.mono h)⟩
end
/-- the rule for a def's body -/
theorem fg_of {P : Program} {w : World} {K : PySem.W.Frag} {mg : Str → Option Value} {base : Heap} {g : Bool} {x qual : Str} {st : Stmt} {f : Addr} {fd : FuncData} {N ps : List Str} {k : Nat} {sp : Sp} (F : Fun K x qual st f fd) (S : FnScope N ps (defScope st))
    (len : ∀ vs H Q E, sp vs H Q E → vs.length = ps.length)
    (hbody : ∀ (cdv : Value) (A : Around) (outer : List Env) (s : Shared) (H : Hp) (vs : List V) (Q : VK) (E : XK), Room k (A.deeper (envOfC qual (defScope st) s.heap.objs.size f cdv)) →
      (g = true → (A.deeper (envOfC qual (defScope st) s.heap.objs.size f cdv)).guards = some []) → sp vs H Q E →
      ∃ t, PSs (cxOf (L2.CX P w) P w K mg base N qual (defScope st) f cdv A outer s H E) (defBody st) t ∧ t { nx := fun _ H' => Q .non H', rt := Q } (start N vs) H) : Fg P w K mg base g (k + 1) f fd ps sp := by
  obtain ⟨oc, od, kV, doc, pm, an, cdv, ct, osl, rfl, lk, hcd⟩ := F.ex
  refine ⟨len, fun A outer s H args us vs Q E hr hg e0 hb r hsp => ?_⟩
  have bk : ∀ b o, base.get? b = some o → s.heap.get? b = some o := fun b o e => (e0.bs b o e).1
  have kx := e0.mod.kin.keeps bk
  have kinds : ∀ y ∈ ps.zip us, (defScope st).names.lookup y.1 = some .local ∨ ((defScope st).names.lookup y.1 = some .cell ∧ ((cellsFrom (s.heap.objs.size + 1) (defScope st).names []).lookup y.1).isSome = true) := by
    rintro ⟨n, v⟩ hy
    have hn := S.par n (List.of_mem_zip hy).1
    exact hn.imp id fun z => ⟨z, PySem.W.cellsFrom_some _ _ _ (.inl z)⟩
  refine codeAny_call_function hr.depth (kx _ _ lk) rfl S.co S.gen rfl (PySem.W.codeRec_of kx hcd) (hb _ _ _ _ (wpAny_newFunctionEnv_cells S.kind kinds fun env he s1 z => ?_))
  subst he
  refine ⟨(e0.mod.nolimit.keeps bk).keeps z.toInCall.keep, codeAny_func ?_⟩
  obtain ⟨t, ht, hq⟩ := hbody cdv A outer s H vs Q E (hr.deeper _) (fun e => hg e) hsp
  have I : Inv (cxOf (L2.CX P w) P w K mg base N qual (defScope st) f cdv A outer s H E) [] (start N vs) H s1 := inv_start S hr.hd e0 (len _ _ _ _ hsp) r z
  refine wpAny_mono (ht.run [] s1 _ H _ I hq) (fun fl s' hs => ?_) fun e s' hs => hs
  have fin : ∀ {σ' : L2.St} {H' : Hp} {v : V} {u : Value}, Inv (cxOf (L2.CX P w) P w K mg base N qual (defScope st) f cdv A outer s H E) [] σ' H' s' → RelV v u → Q v H' → CE outer P w H s Q u s' :=
    fun {σ' H' v u} J rv q => ⟨v, H', J.os, J.bare, J.base, J.hok, rv, q⟩
  cases fl with
  | ret u => exact let ⟨v, σ', H', J, rv, q⟩ := hs; fin J rv q
  | next => exact let ⟨σ', H', J, q⟩ := hs; fin (v := V.non) (u := Value.none) J rfl q
  | brk => exact let ⟨_, _, _, q⟩ := hs; q.elim
  | cont => exact let ⟨_, _, _, q⟩ := hs; q.elim
/-! ### calls, with a wish for what is raised at the slots as they stand -/
section
variable {X : Cx} {g : Bool} {k : Nat} {f C : Addr} {fd : FuncData} {ps : List Str} {sp : Sp} {ds : List Value} {dvs : List V} {E : L2.St → XK} {pins : List (Addr × Obj)} {σ : L2.St} {H : Hp} {s : Shared} {Q : VK}
/-- a call from around A1 (the caller's, or one room deeper) -/
theorem run_at {A1 : Around} {us : List Value} {vs : List V} (F : Fg X.prog X.w X.K X.mg X.base g k f fd ps sp) (hr : Room k A1) (hg : g = true → A1.guards = some []) (hf : A1.frames = X.A.frames) (hb : Binds X.K fd ps ds) (hd : Vals dvs ds)
    (hx : PassesAt (L2.CX X.prog X.w) X σ (E σ)) (I : Inv X pins σ H s) (r : Vals vs us) (h : sp (vs ++ dvs) H Q (E σ)) : wpAny (model X.prog X.w) A1 (call (.ref f) us) (EP X pins σ Q) X.xe s := by
  have e := I.env0
  have e0 : Env0 X.prog X.w X.K X.mg X.base A1 X.stack s H := ⟨by rw [hf]; exact e.frames, e.mod, e.bs, e.bsz, e.funs, e.frf, e.hok, e.bare⟩
  have r2 := Vals.append r hd
  have hl : (us ++ ds).length = ps.length := by rw [← r2.length]; exact F.len _ _ _ _ h
  refine wpAny_call (codeAny_mono (F.go A1 X.stack s H ⟨us, []⟩ _ _ Q (E σ) hr hg e0 (hb s us I.kIn hl) r2 h) fun r s' hq => ?_)
  cases r with
  | error e => exact hx pins H s e s' I hq
  | ok fl =>
    cases fl with
    | ret u => exact I.after hq
    | next => exact False.elim hq
    | brk => exact False.elim hq
    | cont => exact False.elim hq
/-- a new instance, then its __init__ (n + 1 values by place, keywords ks) -/
theorem make_at {n : Nat} {ks : List Str} {gg : List Value → List Value → List Value} {gV : List V → List V → List V} {us ws : List Value} {vs zs : List V} (M : Mk X.K C f) (F : Fg X.prog X.w X.K X.mg X.base false k f fd ps sp) (hr : Room (k + 1) X.A)
    (hb : KBn X.K fd ps (n + 1) ks gg gV) (hx : PassesAt (L2.CX X.prog X.w) X σ (E σ)) (I : Inv X pins σ H s) (r : Vals vs us) (rz : Vals zs ws) (l1 : vs.length = n) (l2 : zs.length = ks.length)
    (h : ∀ x dx, H x = none → H dx = none → dx ≠ x → sp (gV (.ref x :: vs) zs) (upd (upd H dx (.own x)) x (.ins C dx [])) (fun v H2 => v = .non ∧ Q (.ref x) H2) (E σ)) :
    wpAny (model X.prog X.w) X.A (call (.ref C) us (ks.zip ws)) (EP X pins σ Q) X.xe s := by
  have I2 := Inv.made (C := C) I
  have hq := h (s.heap.objs.size + 1) s.heap.objs.size (I.hok.fresh (Nat.le_succ _)) (I.hok.fresh (Nat.le_refl _)) (Nat.ne_of_lt (Nat.lt_succ_self _))
  have r1 : Vals (V.ref (s.heap.objs.size + 1) :: vs) (Value.ref (s.heap.objs.size + 1) :: us) := .cons rfl r
  have n1 : (Value.ref (s.heap.objs.size + 1) :: us).length = n + 1 := r1.length.symm.trans (congrArg (· + 1) l1)
  refine wpAny_call (make_map (f := f) I.kIn M.makes M.init (beq_iff_eq.mp M.fn) (codeAny_mono (F.go _ X.stack _ _ ⟨Value.ref (s.heap.objs.size + 1) :: us, ks.zip ws⟩ _ _ _ (E σ) (hr.make C us (ks.zip ws))
    (fun e => nomatch e) (I2.env0.make C us (ks.zip ws)) (hb.to _ _ ws I2.kIn n1 (rz.length.symm.trans l2)) (hb.rel r1 rz) hq) fun r s' hq' => ?_))
  cases r with
  | error e => exact hx pins _ _ e s' I2 hq'
  | ok fl =>
    cases fl with
    | ret u =>
      obtain ⟨v, H', I3, rv, ev, q3⟩ := I2.after hq'
      subst ev
      exact ⟨rv, ⟨V.ref (s.heap.objs.size + 1), H', I3, rfl, q3⟩⟩
    | next => exact False.elim hq'
    | brk => exact False.elim hq'
    | cont => exact False.elim hq'
/-- a def called with n values by place and keywords ks -/
theorem call_at {n : Nat} {ks : List Str} {gg : List Value → List Value → List Value} {gV : List V → List V → List V} {A1 : Around} {us ws : List Value} {vs zs : List V} (F : Fg X.prog X.w X.K X.mg X.base g k f fd ps sp) (hr : Room k A1) (hg : g = true → A1.guards = some [])
    (hf : A1.frames = X.A.frames) (hb : KBn X.K fd ps n ks gg gV) (hx : PassesAt (L2.CX X.prog X.w) X σ (E σ)) (I : Inv X pins σ H s) (r : Vals vs us) (rz : Vals zs ws) (l1 : vs.length = n) (l2 : zs.length = ks.length)
    (h : sp (gV vs zs) H Q (E σ)) : wpAny (model X.prog X.w) A1 (call (.ref f) us (ks.zip ws)) (EP X pins σ Q) X.xe s := by
  have e := I.env0
  have e0 : Env0 X.prog X.w X.K X.mg X.base A1 X.stack s H := ⟨by rw [hf]; exact e.frames, e.mod, e.bs, e.bsz, e.funs, e.frf, e.hok, e.bare⟩
  refine wpAny_call (codeAny_mono (F.go A1 X.stack s H ⟨us, ks.zip ws⟩ _ _ Q (E σ) hr hg e0 (hb.to s us ws I.kIn (r.length.symm.trans l1) (rz.length.symm.trans l2)) (hb.rel r rz) h) fun r s' hq => ?_)
  cases r with
  | error e => exact hx pins H s e s' I hq
  | ok fl =>
    cases fl with
    | ret u => exact I.after hq
    | next => exact False.elim hq
    | brk => exact False.elim hq
    | cont => exact False.elim hq
end
/-! ### defs, classes, methods by their names -/
structure CalG (P : Program) (w : World) (K : PySem.W.Frag) (mg : Str → Option Value) (base : Heap) (g : Bool) (k : Nat) (x : Str) (sp : Sp) (n : Nat) (ks : List Str) (gV : List V → List V → List V) : Prop where
  ex : ∃ (f : Addr) (fd : FuncData) (ps : List Str) (gg : List Value → List Value → List Value), Fg P w K mg base g k f fd ps sp ∧ mg x = some (.ref f) ∧ PySem.W.keepIn K (.ref f) = true ∧ KBn K fd ps n ks gg gV
structure MakG (P : Program) (w : World) (K : PySem.W.Frag) (mg : Str → Option Value) (base : Heap) (k : Nat) (x : Str) (C : Addr) (sp : Sp) (n : Nat) (ks : List Str) (gV : List V → List V → List V) : Prop where
  ex : ∃ (f : Addr) (fd : FuncData) (ps : List Str) (gg : List Value → List Value → List Value), Mk K C f ∧ Fg P w K mg base false k f fd ps sp ∧ mg x = some (.ref C) ∧ KBn K fd ps (n + 1) ks gg gV
structure MetG (P : Program) (w : World) (K : PySem.W.Frag) (mg : Str → Option Value) (base : Heap) (g : Bool) (k : Nat) (C : Addr) (m : Str) (sp : Sp) (ps : List Str) : Prop where
  ex : ∃ (f : Addr) (fd : FuncData), Cls K C ∧ Meth K C m f ∧ PySem.W.fnIn K f = true ∧ Fg P w K mg base g k f fd ps sp ∧ Binds K fd ps []
def tCS (n m : Nat) (sp : Sp) (gV : List V → List V → List V) (E : L2.St → XK) (t tk : TA) : TE := fun σ H Q => t σ H fun vs H1 => tk σ H1 fun zs H2 => vs.length = n ∧ zs.length = m ∧ sp (gV vs zs) H2 Q (E σ)
def tMkS (C : Addr) (n m : Nat) (sp : Sp) (gV : List V → List V → List V) (E : L2.St → XK) (t tk : TA) : TE := fun σ H Q => t σ H fun vs H1 => tk σ H1 fun zs H2 => vs.length = n ∧ zs.length = m ∧ ∀ x dx, H2 x = none → H2 dx = none → dx ≠ x →
  sp (gV (.ref x :: vs) zs) (upd (upd H2 dx (.own x)) x (.ins C dx [])) (fun v H3 => v = .non ∧ Q (.ref x) H3) (E σ)
def tMtS (C : Addr) (m : Str) (sp : Sp) (E : L2.St → XK) (ta : TE) (t : TA) : TE := fun σ H Q => ta σ H fun x H1 => ∃ a dx fs, x = .ref a ∧ H1 a = some (.ins C dx fs) ∧ fs.lookup m = none ∧ t σ H1 fun vs H2 => sp (.ref a :: vs) H2 Q (E σ)
section
variable {X : Cx} {g : Bool} {k j n : Nat} {C : Addr} {x m : Str} {sp : Sp} {ps ks : List Str} {W : WX} {gV : List V → List V → List V} {p pos apos : Pos} {e o : Expr} {es : List Expr} {kws : List Keyword} {ta : TE} {t tz : TA}
theorem pe_cS (c : CalG X.prog X.w X.K X.mg X.base g k x sp n [] gV) (hr : Room j X.A) (hk : k ≤ j) (gd : g = true → X.A.guards = some []) (tk : Takes X W) (hg : Gl X x) (ha : PA X (e :: es) t)
    (hdb : (x == ("__debug__" : Str)) = false := by decide) (he : starEach (e :: es) X.env = (false, eval e X.env) :: starEach es X.env := by rfl) (hpl : (backTo pos (starEach es X.env)).any (·.1) = false := by rfl) :
    PE X (.Call (.Name x p) (e :: es) [] pos) (tCS n 0 sp gV (WE W) t tNil) := by
  obtain ⟨f, fd, ps, gg, F, hm, kp, b⟩ := c.ex
  refine ⟨fun pins s σ H Q I h => wpAny_Call_Name_kw (ld_glob I hg hm ?_ hdb)⟩
  refine PySem.W.callWith_K (h₀ := X.base) I.ok.mod.kin kp (thn (ha.run pos pins s σ H _ I h) fun us s1 ⟨vs, H1, I1, r, l1, l2, q⟩ => ⟨I1.kIn, ?_⟩) he hpl
  exact call_at (ws := []) (zs := []) F (hr.mono hk) gd rfl b (passAt tk σ) I1 r .nil l1 rfl q
theorem pe_cS0 (c : CalG X.prog X.w X.K X.mg X.base g k x sp 0 [] gV) (hr : Room j X.A) (hk : k ≤ j) (gd : g = true → X.A.guards = some []) (tk : Takes X W) (hg : Gl X x)
    (hdb : (x == ("__debug__" : Str)) = false := by decide) : PE X (.Call (.Name x p) [] [] pos) (tCS 0 0 sp gV (WE W) tNil tNil) := by
  obtain ⟨f, fd, ps, gg, F, hm, kp, b⟩ := c.ex
  refine ⟨fun pins s σ H Q I h => wpAny_Call_Name_kw (ld_glob I hg hm ?_ hdb)⟩
  exact PySem.W.callWith_K0 I.kIn kp (call_at (us := []) (vs := []) (ws := []) (zs := []) F (hr.mono hk) gd rfl b (passAt tk σ) I .nil .nil rfl rfl h.2.2)
theorem pe_cSK (c : CalG X.prog X.w X.K X.mg X.base g k x sp n ks gV) (hr : Room j X.A) (hk : k ≤ j) (gd : g = true → X.A.guards = some []) (tk : Takes X W) (hg : Gl X x) (ha : PA X (e :: es) t) (hkw : PK X kws tz)
    (hall : (backToKw pos (keywordEach kws X.env)).all (·.1.isSome) = true := by rfl) (hks : (backToKw pos (keywordEach kws X.env)).filterMap (·.1) = ks := by rfl) (hdb : (x == ("__debug__" : Str)) = false := by decide)
    (he : starEach (e :: es) X.env = (false, eval e X.env) :: starEach es X.env := by rfl) (hpl : ((backTo pos (starEach (e :: es) X.env)).any (·.1) || (backToKw pos (keywordEach kws X.env)).any (·.1.isNone)) = false := by rfl) :
    PE X (.Call (.Name x p) (e :: es) kws pos) (tCS n ks.length sp gV (WE W) t tz) := by
  obtain ⟨f, fd, ps, gg, F, hm, kp, b⟩ := c.ex
  refine ⟨fun pins s σ H Q I h => wpAny_Call_Name_kw (ld_glob I hg hm ?_ hdb)⟩
  refine PySem.W.callWith_KW (h₀ := X.base) I.ok.mod.kin kp hall (thn (ha.run pos pins s σ H _ I h) fun us s1 ⟨vs, H1, I1, r, q⟩ => ?_) hpl he
  refine thn (hkw.run pos pins s1 σ H1 _ I1 q) fun ws s2 ⟨zs, H2, I2, rz, l1, l2, q2⟩ => ⟨I2.kIn, ?_⟩
  rw [hks]
  exact call_at F (hr.mono hk) gd rfl b (passAt tk σ) I2 r rz l1 l2 q2
theorem pe_mkS (c : MakG X.prog X.w X.K X.mg X.base k x C sp n [] gV) (hr : Room j X.A) (hk : k + 1 ≤ j) (tk : Takes X W) (hg : Gl X x) (ha : PA X (e :: es) t)
    (hdb : (x == ("__debug__" : Str)) = false := by decide) (he : starEach (e :: es) X.env = (false, eval e X.env) :: starEach es X.env := by rfl) (hpl : (backTo pos (starEach es X.env)).any (·.1) = false := by rfl) :
    PE X (.Call (.Name x p) (e :: es) [] pos) (tMkS C n 0 sp gV (WE W) t tNil) := by
  obtain ⟨f, fd, ps, gg, M, F, hm, b⟩ := c.ex
  refine ⟨fun pins s σ H Q I h => wpAny_Call_Name_kw (ld_glob I hg hm ?_ hdb)⟩
  refine PySem.W.callWith_K (h₀ := X.base) I.ok.mod.kin M.kp (thn (ha.run pos pins s σ H _ I h) fun us s1 ⟨vs, H1, I1, r, l1, l2, q⟩ => ⟨I1.kIn, ?_⟩) he hpl
  exact make_at (ws := []) (zs := []) M F (hr.mono hk) b (passAt tk σ) I1 r .nil l1 rfl q
theorem pe_mkS0 (c : MakG X.prog X.w X.K X.mg X.base k x C sp 0 [] gV) (hr : Room j X.A) (hk : k + 1 ≤ j) (tk : Takes X W) (hg : Gl X x)
    (hdb : (x == ("__debug__" : Str)) = false := by decide) : PE X (.Call (.Name x p) [] [] pos) (tMkS C 0 0 sp gV (WE W) tNil tNil) := by
  obtain ⟨f, fd, ps, gg, M, F, hm, b⟩ := c.ex
  refine ⟨fun pins s σ H Q I h => wpAny_Call_Name_kw (ld_glob I hg hm ?_ hdb)⟩
  exact PySem.W.callWith_K0 I.kIn M.kp (make_at (us := []) (vs := []) (ws := []) (zs := []) M F (hr.mono hk) b (passAt tk σ) I .nil .nil rfl rfl h.2.2)
theorem pe_mkSK (c : MakG X.prog X.w X.K X.mg X.base k x C sp n ks gV) (hr : Room j X.A) (hk : k + 1 ≤ j) (tk : Takes X W) (hg : Gl X x) (ha : PA X (e :: es) t) (hkw : PK X kws tz)
    (hall : (backToKw pos (keywordEach kws X.env)).all (·.1.isSome) = true := by rfl) (hks : (backToKw pos (keywordEach kws X.env)).filterMap (·.1) = ks := by rfl) (hdb : (x == ("__debug__" : Str)) = false := by decide)
    (he : starEach (e :: es) X.env = (false, eval e X.env) :: starEach es X.env := by rfl) (hpl : ((backTo pos (starEach (e :: es) X.env)).any (·.1) || (backToKw pos (keywordEach kws X.env)).any (·.1.isNone)) = false := by rfl) :
    PE X (.Call (.Name x p) (e :: es) kws pos) (tMkS C n ks.length sp gV (WE W) t tz) := by
  obtain ⟨f, fd, ps, gg, M, F, hm, b⟩ := c.ex
  refine ⟨fun pins s σ H Q I h => wpAny_Call_Name_kw (ld_glob I hg hm ?_ hdb)⟩
  refine PySem.W.callWith_KW (h₀ := X.base) I.ok.mod.kin M.kp hall (thn (ha.run pos pins s σ H _ I h) fun us s1 ⟨vs, H1, I1, r, q⟩ => ?_) hpl he
  refine thn (hkw.run pos pins s1 σ H1 _ I1 q) fun ws s2 ⟨zs, H2, I2, rz, l1, l2, q2⟩ => ⟨I2.kIn, ?_⟩
  rw [hks]
  exact make_at M F (hr.mono hk) b (passAt tk σ) I2 r rz l1 l2 q2
theorem pe_mkSK0 (c : MakG X.prog X.w X.K X.mg X.base k x C sp 0 ks gV) (hr : Room j X.A) (hk : k + 1 ≤ j) (tk : Takes X W) (hg : Gl X x) (hkw : PK X kws tz)
    (hall : (backToKw pos (keywordEach kws X.env)).all (·.1.isSome) = true := by rfl) (hks : (backToKw pos (keywordEach kws X.env)).filterMap (·.1) = ks := by rfl) (hdb : (x == ("__debug__" : Str)) = false := by decide)
    (hpl : ((backTo pos (starEach [] X.env)).any (·.1) || (backToKw pos (keywordEach kws X.env)).any (·.1.isNone)) = false := by rfl) :
    PE X (.Call (.Name x p) [] kws pos) (tMkS C 0 ks.length sp gV (WE W) tNil tz) := by
  obtain ⟨f, fd, ps, gg, M, F, hm, b⟩ := c.ex
  refine ⟨fun pins s σ H Q I h => wpAny_Call_Name_kw (ld_glob I hg hm ?_ hdb)⟩
  refine PySem.W.callWith_KW0 (h₀ := X.base) I.ok.mod.kin M.kp hall ?_ hpl
  refine thn (hkw.run pos pins s σ H _ I h) fun ws s2 ⟨zs, H2, I2, rz, l1, l2, q2⟩ => ⟨I2.kIn, ?_⟩
  rw [hks]
  exact make_at (us := []) (vs := []) M F (hr.mono hk) b (passAt tk σ) I2 .nil rz rfl l2 q2
theorem pe_mtS {pl : Sem Bool} (c : MetG X.prog X.w X.K X.mg X.base g k C m sp ps) (hr : Room j X.A) (hk : k ≤ j) (gd : g = true → X.A.guards = some []) (tk : Takes X W) (he : PE X o ta) (ha : PA X (e :: es) t)
    (hst : starEach (e :: es) X.env = (false, eval e X.env) :: starEach es X.env := by rfl) (hpl : (backTo pos (starEach es X.env)).any (·.1) = false := by rfl)
    (ht : eval (.Call (.Attribute o m apos) (e :: es) [] pos) X.env = (do
      let ov ← eval o X.env
      standAt apos.atName
      let (f, first) ← holding [ov] (getMethod ov m pl)
      callWith pos f first (backTo pos (starEach (e :: es) X.env)) (backToKw pos (keywordEach [] X.env))) := by rfl) :
    PE X (.Call (.Attribute o m apos) (e :: es) [] pos) (tMtS C m sp (WE W) ta t) := by
  obtain ⟨f, fd, hc, hm, _, F, b⟩ := c.ex
  refine ⟨fun pins s σ H Q I h => PySem.W.methodCall_KW (pl := pl) (thn (he.run pins s σ H _ I h) fun u s1 ⟨x, H1, I1, rx, a, dx, fs, ex, ea, l, q⟩ => ?_) ht⟩
  subst ex
  obtain rfl : u = Value.ref a := rx
  refine getmeth_ok I1 ea hc hm l ?_
  refine PySem.W.callWith_K (first := [.ref a]) (h₀ := X.base) I.ok.mod.kin hm.kp (thn (ha.run pos pins s1 σ H1 _ I1 q) fun us s2 ⟨vs, H2, I2, r, q2⟩ => ⟨I2.kIn, ?_⟩) hst hpl
  exact run_at (us := .ref a :: us) (vs := .ref a :: vs) (ds := []) (dvs := []) F (hr.mono hk) gd rfl b .nil (passAt tk σ) I2 (.cons rfl r) (by rw [List.append_nil]; exact q2)
theorem pe_mtS0 {pl : Sem Bool} (c : MetG X.prog X.w X.K X.mg X.base g k C m sp ps) (hr : Room j X.A) (hk : k ≤ j) (gd : g = true → X.A.guards = some []) (tk : Takes X W) (he : PE X o ta)
    (ht : eval (.Call (.Attribute o m apos) [] [] pos) X.env = (do
      let ov ← eval o X.env
      standAt apos.atName
      let (f, first) ← holding [ov] (getMethod ov m pl)
      callWith pos f first (backTo pos (starEach [] X.env)) (backToKw pos (keywordEach [] X.env))) := by rfl) :
    PE X (.Call (.Attribute o m apos) [] [] pos) (tMtS C m sp (WE W) ta tNil) := by
  obtain ⟨f, fd, hc, hm, _, F, b⟩ := c.ex
  refine ⟨fun pins s σ H Q I h => PySem.W.methodCall_KW (pl := pl) (thn (he.run pins s σ H _ I h) fun u s1 ⟨x, H1, I1, rx, a, dx, fs, ex, ea, l, q⟩ => ?_) ht⟩
  subst ex
  obtain rfl : u = Value.ref a := rx
  refine getmeth_ok I1 ea hc hm l ?_
  exact PySem.W.callWith_K0 (first := [.ref a]) I1.kIn hm.kp (run_at (us := [.ref a]) (vs := [.ref a]) (ds := []) (dvs := []) F (hr.mono hk) gd rfl b .nil (passAt tk σ) I1 (.cons rfl .nil) q)
end
end G
set_option Elab.async false
set_option linter.all false
set_option maxRecDepth 100000
namespace G
open PySem PySem.Spec PyProof.Rows L2
/-! ### own exceptions with one field -/
/-- what __init__(self, f): self.f = f keeps -/
def spIni (C : Addr) (f : Str) : Sp := fun vs H Q _ => ∃ a v, vs = [.ref a, v] ∧ H a = some (exo a C none) ∧ ∀ dx, H dx = none → dx ≠ a → Q .non (upd (upd H dx (exd dx [(f, v)])) a (exo a C (some dx)))
/-- the class named x, at C, with the field f -/
structure Oex (P : Program) (w : World) (K : PySem.W.Frag) (mg : Str → Option Value) (base : Heap) (x : Str) (C : Addr) (f : Str) : Prop where
  T : OexC K C
  xf : XfC K C
  ec : ExcC K C
  no : PySem.W.findIn K (.ref C) f = some none
  hm : mg x = some (.ref C)
  ini : ∃ (fI : Addr) (fd : FuncData), PySem.W.findIn K (.ref C) "__init__" = some (some (.ref fI)) ∧ PySem.W.typeIn K (.ref fI) = some (.type "function") ∧ FnOk P w K mg base CX0 1 fI fd ["self", f] (spIni C f) ∧ Binds K fd ["self", f] []
def tX (C : Addr) (f : Str) (ta : TA) : L2.St → Hp → XK → Prop := fun σ H Q => ta σ H fun vs H1 => ∃ v, vs = [v] ∧ ∀ d, H1 d = none → Q (.ref C) (some d) (upd H1 d (.xd [(f, v)]))
theorem upd_xd {H : Hp} {a d C : Addr} {o1 o2 o3 o : HO} (ha : H a = none) (hd : d ≠ a) : upd (del (upd (upd (upd H a o1) d o2) a o3) a) d o = upd H d o := by
  funext b
  by_cases h1 : b = d
  · subst h1
    rw [upd_same, upd_same]
  · rw [upd_ne h1, upd_ne h1]
    by_cases h2 : b = a
    · subst h2
      rw [del_same, ha]
    · rw [del_ne h2, upd_ne h2, upd_ne h1, upd_ne h2]
def tCutA (t : TA) : TA := fun σ H Q => ∃ M : List V → Hp → Prop, t σ H M ∧ ∀ vs H', M vs H' → Q vs H'
theorem pa_cut {X : Cx} {es : List Expr} {t : TA} (h : PA X es t) : PA X es (tCutA t) :=
  ⟨fun pos pins s σ H Q I ⟨M, hm, hu⟩ => wpAny_mono (h.run pos pins s σ H M I hm) (fun us s1 ⟨vs, H1, I1, r, q⟩ => ⟨vs, H1, I1, r, hu _ _ q⟩) fun _ _ z => z⟩
section
variable {X : Cx} {x f : Str} {C : Addr} {j : Nat} {e : Expr} {ta : TA} {p pos : Pos}
theorem pmk_x (T : Oex X.prog X.w X.K X.mg X.base x C f) (hr : Room j X.A) (hk : 2 ≤ j) (hg : Gl X x) (ha : PA X [e] ta)
    (hdb : (x == ("__debug__" : Str)) = false := by decide) (he : starEach [e] X.env = (false, eval e X.env) :: starEach [] X.env := by rfl) (hpl : (backTo pos (starEach [] X.env)).any (·.1) = false := by rfl) :
    PMk X (.Call (.Name x p) [e] [] pos) (tX C f ta) := by
  obtain ⟨fI, fd, i1, i2, F, b⟩ := T.ini
  intro pins s σ H Q I h
  refine pmk_oex (dvs := []) (ds := []) T.T i1 i2 F (hr.mono hk) b .nil (fun _ _ _ _ _ _ _ z => (show False from z).elim) hg T.hm (pa_cut ha) hdb he hpl pins s σ H Q I ⟨_, h, fun vs H1 hq => ?_⟩
  obtain ⟨v, rfl, q⟩ := hq
  refine ⟨by simp, fun a hn => ⟨a, v, rfl, upd_same, fun dx h1 h2 => ⟨rfl, dx, [(f, v)], upd_same, by rw [upd_ne h2, upd_same], by rwa [upd_ne h2] at h1, ?_⟩⟩⟩
  rw [upd_xd (C := C) hn h2]
  rw [upd_ne h2] at h1
  exact q dx h1
/-- its __init__, by its text -/
theorem ok_ini {P : Program} {w : World} {K : PySem.W.Frag} {mg : Str → Option Value} {base : Heap} {qual : Str} {st : Stmt} {fI : Addr} {fd : FuncData} {f : Str} {p1 p2 p3 pos : Pos} (F : Fun K "__init__" qual st fI fd) (S : FnScope ["self", f] ["self", f] (defScope st))
    (hb : defBody st = [.Assign [.Attribute (.Name "self" p1) f p2] (.Name f p3) pos]) (T : OexC K C) (no : PySem.W.findIn K (.ref C) f = some none) (h0 : Vis (defScope st) "self") (h1 : Vis (defScope st) f) (hd : (f == ("__debug__" : Str)) = false) (hc : (f == ("__classdict__" : Str)) = false) : FnOk P w K mg base CX0 1 fI fd ["self", f] (spIni C f) := by
  refine F.ok S (fun vs H Q E ⟨a, v, e, _⟩ => by rw [e]; rfl) fun cdv A outer s H vs Q E hr ⟨a, v, e, ha, q⟩ => ?_
  rw [hb, e]
  exact ⟨_, pss_one (ps_ost (pe_var (i := 0) rfl h0) (pe_var (i := 1) rfl h1 hd hc)), ⟨v, rfl, .ref a, rfl, a, C, rfl, T, no, .inl ⟨ha, q⟩⟩⟩
/-! ### in an except suite: e's field, what e is -/
theorem pe_xfS {a C : Addr} {oe : Obj} {cls : Value} {d : Option Addr} {pn : List (Addr × Obj)} {te : TE} {n : Str} (T : Oex X.prog X.w X.K X.mg X.base x C n)
    (hz : Zc cls d oe) (hf : ∃ vs, oe.data = .fields vs) (he : PE (X.suite a ((a, oe) :: pn)) e te) (hb : attributeBase e n X.env (eval e X.env) = eval e X.env := by rfl) :
    PE (X.suite a ((a, oe) :: pn)) (.Attribute e n pos) (tXf a cls d C n te) := pe_xf T.xf T.no hz hf he hb
def rIsX (K : PySem.W.Frag) (cls : Value) (d : Option Addr) (D a : Addr) : List V → Hp → VK → Prop := fun xs H Q => cls = .ref D ∧ ∃ (dd : Addr) (fs : List (Str × V)) (c : V) (cv : Value) (b : Bool), d = some dd ∧ H dd = some (.xd fs) ∧ xs = [.ref a, c] ∧ ClsV c cv ∧ PySem.W.kitOne K (.ref D) cv = some b ∧ Q (.bl b) H
theorem call_isX {a D : Addr} {oe : Obj} {cls : Value} {d : Option Addr} {pn : List (Addr × Obj)} (C : ExcC X.K D) (hz : Zc cls d oe) (hf : ∃ vs, oe.data = .fields vs) : CallR (X.suite a ((a, oe) :: pn)) (.builtin "isinstance") (rIsX X.K cls d D a) := by
  intro pins s σ H xs us Q I r h
  obtain ⟨rfl, dd, fs, c, cv, b, rfl, hd, rfl, hcv, e, q⟩ := h
  obtain ⟨u1, u2, rfl, rx, rt⟩ := vals2 r
  cases rx
  have ec := hcv.eq rt
  subst ec
  obtain ⟨hget, _⟩ := I.pin (a, oe) (List.mem_append.mpr (.inl List.mem_cons_self))
  obtain ⟨vs, hv⟩ := hf
  obtain ⟨mA, hns, hr⟩ := (show ObjOk X.prog X.w H s.heap dd (.xd fs) from I.hok dd _ hd)
  obtain ⟨od, ho, hl⟩ := lookIn_ns hns
  have J : PySem.W.InstAt s.heap a oe D (some od) := ⟨hget, hz.1, by unfold PySem.W.notCls; rw [hv] <;> rfl, by rw [hz.2]; exact ho⟩
  obtain ⟨cd, hc, _⟩ := PySem.W.any_some C.hd
  exact PySem.W.kia_one (PySem.W.kitx_exc (by rw [hc]; rfl) C.hg C.hk C.hs C.ha C.hn C.ht C.hm) I.kIn J e (fun z => nomatch z) fun tk => ⟨.bl b, H, I.kept (t' := tk) fun _ _ z => z, rfl, q⟩
end
end G
set_option Elab.async false
set_option linter.all false
set_option maxRecDepth 100000
namespace G
open PySem PySem.Spec PyProof.Rows L2
/-! ### operators by an own class's methods -/
theorem cmpBack {v : V} {u : Value} {s : Shared} {Q : Value → Shared → Prop} (r : RelV v u) (h : Q u s) : PySem.W.CmpBack Q u s := by
  cases v with
  | non => cases (show u = Value.none from r); exact h
  | bl b => cases (show u = Value.bool b from r); exact h
  | int i => obtain ⟨t, rfl⟩ := (show ∃ t, u = Value.int i t from r); exact h
  | str i => obtain ⟨t, rfl⟩ := (show ∃ t, u = Value.str i t from r); exact h
  | byt i => obtain ⟨t, rfl⟩ := (show ∃ t, u = Value.bytes i t from r); exact h
  | flt i => obtain ⟨t, rfl⟩ := (show ∃ t, u = Value.float i t from r); exact h
  | ref a => cases (show u = Value.ref a from r); exact h
  | ty n => cases (show u = Value.type n from r); exact h
abbrev E0' : L2.St → XK := fun _ _ _ _ => False
section
variable {X : Cx} {k j : Nat} {C : Addr} {m : Str} {sp : Sp} {ps : List Str}
/-- x op y, x an instance of C -/
def rOpI (K : PySem.W.Frag) (C : Addr) (sp : Sp) : R2 := fun x y H Q => ∃ a dx fs t, x = .ref a ∧ H a = some (.ins C dx fs) ∧ TyX K H y t ∧ PySem.W.notFirst K C t = true ∧ sp [x, y] H Q (fun _ _ _ => False)
theorem cmp_opI {op : CmpOp} (c : MetG X.prog X.w X.K X.mg X.base false k C (cmpInfo op).2.1 sp ps) (hr : Room j X.A) (hk : k ≤ j) (hop : compareOp op = richCompare op) : OpR X (compareOp op) (rOpI X.K C sp) := by
  intro pins s σ H x y v u Q I rx ry h
  obtain ⟨f, fd, hc, M, hf, F, b⟩ := c.ex
  obtain ⟨a, dx, fs, t, rfl, ha, ty, hn, q⟩ := h
  cases (show v = Value.ref a from rx)
  obtain ⟨P, Z, p, _⟩ := kit_of I ry ty
  obtain ⟨mA, O, _⟩ := ins_get I.hok ha
  obtain ⟨od, J, _⟩ := O.look
  obtain ⟨m', hF⟩ := I.fr
  rw [hop]
  refine PySem.W.cmp_K (tb := t) hr.units0 hF I.ok.mod.kin J (Z.ty _ _ I.kIn p) hn M.at_ M.fn ?_
  exact wpAny_mono (run_at (E := E0') (dvs := []) (ds := []) (A1 := X.A) (vs := [.ref a, y]) F (hr.mono hk) (fun e => nomatch e) rfl b .nil (passAt takes0 σ) I (.cons rfl (.cons ry .nil)) q) (fun u' s' ⟨v', H', I', r', q'⟩ => cmpBack r' ⟨v', H', I', r', q'⟩) fun _ _ z => z
theorem eq_opI (c : MetG X.prog X.w X.K X.mg X.base false k C "__eq__" sp ps) (hr : Room j X.A) (hk : k ≤ j) : OpR X (compareOp .Eq) (rOpI X.K C sp) := cmp_opI (op := .Eq) c hr hk rfl
theorem le_opI (c : MetG X.prog X.w X.K X.mg X.base false k C "__le__" sp ps) (hr : Room j X.A) (hk : k ≤ j) : OpR X (compareOp .LtE) (rOpI X.K C sp) := cmp_opI (op := .LtE) c hr hk rfl
/-- x + y, two instances of C -/
def rAddI (C : Addr) (sp : Sp) : R2 := fun x y H Q => ∃ a dx fs b dy gs, x = .ref a ∧ H a = some (.ins C dx fs) ∧ y = .ref b ∧ H b = some (.ins C dy gs) ∧ sp [x, y] H Q (fun _ _ _ => False)
theorem bin_opI {op : Operator} (c : MetG X.prog X.w X.K X.mg X.base false k C (PySem.dunder op.info.2) sp ps) (hs : PySem.W.selfFirst X.K C = true) (hr : Room j X.A) (hk : k ≤ j) : OpR X (binaryOp op) (rAddI C sp) := by
  intro pins s σ H x y v u Q I rx ry h
  obtain ⟨f, fd, hc, M, hf, F, b⟩ := c.ex
  obtain ⟨a, dx, fs, b', dy, gs, rfl, ha, rfl, hb, q⟩ := h
  cases (show v = Value.ref a from rx)
  cases (show u = Value.ref b' from ry)
  obtain ⟨mA, O, _⟩ := ins_get I.hok ha
  obtain ⟨od, J, _⟩ := O.look
  obtain ⟨mB, O', _⟩ := ins_get I.hok hb
  obtain ⟨od', J', _⟩ := O'.look
  obtain ⟨m', hF⟩ := I.fr
  refine PySem.W.binop_K hF I.ok.mod.kin J J'.type hs M.at_ M.fn ?_
  exact wpAny_mono (run_at (E := E0') (dvs := []) (ds := []) (A1 := X.A) (vs := [.ref a, .ref b']) F (hr.mono hk) (fun e => nomatch e) rfl b .nil (passAt takes0 σ) I (.cons rfl (.cons rfl .nil)) q) (fun u' s' ⟨v', H', I', r', q'⟩ => cmpBack r' ⟨v', H', I', r', q'⟩) fun _ _ z => z
theorem add_opI (c : MetG X.prog X.w X.K X.mg X.base false k C "__add__" sp ps) (hs : PySem.W.selfFirst X.K C = true) (hr : Room j X.A) (hk : k ≤ j) : OpR X (binaryOp .Add) (rAddI C sp) := bin_opI (op := .Add) c hs hr hk
/-- len(x) -/
def rLenI (C : Addr) (sp : Sp) : List V → Hp → VK → Prop := fun xs H Q => ∃ a dx fs, xs = [.ref a] ∧ H a = some (.ins C dx fs) ∧ sp [.ref a] H (fun v H' => ∃ n : Nat, v = .int n ∧ n < 2 ^ 63 ∧ Q (.int n) H') (fun _ _ _ => False)
theorem len_I (c : MetG X.prog X.w X.K X.mg X.base false k C "__len__" sp ps) (hr : Room j X.A) (hk : k + 1 ≤ j) : CallR X (.builtin "len") (rLenI C sp) := by
  intro pins s σ H xs us Q I r h
  obtain ⟨f, fd, hc, M, hf, F, b⟩ := c.ex
  obtain ⟨a, dx, fs, rfl, ha, q⟩ := h
  obtain ⟨u, rfl, ru⟩ := vals1 r
  cases (show u = Value.ref a from ru)
  obtain ⟨mA, O, _⟩ := ins_get I.hok ha
  obtain ⟨od, J, _⟩ := O.look
  obtain ⟨m', hF⟩ := I.fr
  refine PySem.W.len_K hF I.ok.mod.kin J M.at_ M.fn ?_
  refine wpAny_mono (run_at (E := E0') (dvs := []) (ds := []) (A1 := X.A.in1) (vs := [.ref a]) F ((hr.mono hk).in1) (fun e => nomatch e) rfl b .nil (passAt takes0 σ) I (.cons rfl .nil) q) (fun u' s' ⟨v', H', I', r', n, e1, e2, q'⟩ => ?_) fun _ _ z => z
  subst e1
  obtain ⟨t, rfl⟩ := r'
  exact ⟨⟨by omega, by omega⟩, ⟨.int n, H', I'.tok _, ⟨_, rfl⟩, q'⟩⟩
/-- y in x, x an instance -/
def rInI (C : Addr) (sp : Sp) (neg : Bool) : R2 := fun y x H Q => ∃ a dx fs, x = .ref a ∧ H a = some (.ins C dx fs) ∧ sp [x, y] H (fun v H' => ∃ b : Bool, v = .bl b ∧ Q (.bl (if neg then !b else b)) H') (fun _ _ _ => False)
theorem in_opI (c : MetG X.prog X.w X.K X.mg X.base false k C "__contains__" sp ps) (hr : Room j X.A) (hk : k ≤ j) : OpR X (compareOp .In) (rInI C sp false) := by
  intro pins s σ H y x v u Q I ry rx h
  obtain ⟨f, fd, hc, M, hf, F, b⟩ := c.ex
  obtain ⟨a, dx, fs, rfl, ha, q⟩ := h
  cases (show u = Value.ref a from rx)
  obtain ⟨mA, O, _⟩ := ins_get I.hok ha
  obtain ⟨od, J, _⟩ := O.look
  obtain ⟨m', hF⟩ := I.fr
  refine PySem.W.in_K hF I.ok.mod.kin J M.at_ M.fn ?_
  refine wpAny_mono (run_at (E := E0') (dvs := []) (ds := []) (A1 := X.A) (vs := [.ref a, y]) F (hr.mono hk) (fun e => nomatch e) rfl b .nil (passAt takes0 σ) I (.cons rfl (.cons ry .nil)) q) (fun u' s' ⟨v', H', I', r', n, e1, q'⟩ => ?_) fun _ _ z => z
  subst e1
  cases r'
  exact wpAny_truthy_bool ⟨.bl n, H', I', rfl, q'⟩
theorem notIn_opI (c : MetG X.prog X.w X.K X.mg X.base false k C "__contains__" sp ps) (hr : Room j X.A) (hk : k ≤ j) : OpR X (compareOp .NotIn) (rInI C sp true) := by
  intro pins s σ H y x v u Q I ry rx h
  obtain ⟨f, fd, hc, M, hf, F, b⟩ := c.ex
  obtain ⟨a, dx, fs, rfl, ha, q⟩ := h
  cases (show u = Value.ref a from rx)
  obtain ⟨mA, O, _⟩ := ins_get I.hok ha
  obtain ⟨od, J, _⟩ := O.look
  obtain ⟨m', hF⟩ := I.fr
  refine PySem.W.notIn_K hF I.ok.mod.kin J M.at_ M.fn ?_
  refine wpAny_mono (run_at (E := E0') (dvs := []) (ds := []) (A1 := X.A) (vs := [.ref a, y]) F (hr.mono hk) (fun e => nomatch e) rfl b .nil (passAt takes0 σ) I (.cons rfl (.cons ry .nil)) q) (fun u' s' ⟨v', H', I', r', n, e1, q'⟩ => ?_) fun _ _ z => z
  subst e1
  cases r'
  exact wpAny_truthy_bool ⟨.bl (!n), H', I', rfl, q'⟩
/-- x != y by x's __eq__ and object's __ne__ -/
theorem ifBound_blt {M : Model} {A : Around} {E : Value → Shared → Prop} {s : Shared} {K : PySem.W.Frag} {x C : Addr} {ox : Obj} {od : Option Obj} {name : Str} {id T : String} {args : List Value} {Q : Option Value → Shared → Prop} (X : K.In s.heap) (I : PySem.W.InstAt s.heap x ox C od)
    (hs : PySem.W.findIn K (.ref C) name = some (some (.builtin id))) (sl : Slot T name id)
    (h : wpAny M A (call (.builtin id) (.ref x :: args)) (fun v => Q (some v)) E s) : wpAny M A (callSpecialIfBound? (.ref x) name args) Q E s := by
  simp only [callSpecialIfBound?, bindSpecialIfBound?]
  refine wpAny_holding (wpAny_bind (wpAny_bind (wpAny_bind (I.type.here ((PySem.W.looks_findIn X hs).here ?_)))))
  refine wpAny_bind (wpAny_askSetting (wpAny_ite ?_))
  have fin : wpAny M A (call (.builtin id) ([.ref x] ++ args) >>= fun v => pure (some v)) Q E s := wpAny_bind (wpAny_mono h (fun v s' h' => wpAny_pure h') fun _ _ h' => h')
  split
  · rw [sl.bind (.ref x)]
    exact wpAny_bind (wpAny_pure (wpAny_pure (by exact fin)))
  · rw [sl.bind (.ref x)]
    exact wpAny_tryCatch (wpAny_bind (wpAny_pure (wpAny_pure (by exact fin))))
def rNeI (K : PySem.W.Frag) (C : Addr) (sp : Sp) : R2 := fun x y H Q => ∃ a dx fs t, x = .ref a ∧ H a = some (.ins C dx fs) ∧ TyX K H y t ∧ PySem.W.notFirst K C t = true ∧ sp [x, y] H (fun v H' => ∃ b : Bool, v = .bl b ∧ Q (.bl (!b)) H') (fun _ _ _ => False)
theorem ne_opI (c : MetG X.prog X.w X.K X.mg X.base false k C "__eq__" sp ps) (hne : PySem.W.findIn X.K (.ref C) "__ne__" = some (some (.builtin "object.__ne__"))) (ho : PySem.W.mroIn X.K C (.type "object") = some true) (hr : Room j X.A) (hk : k + 1 ≤ j) : OpR X (compareOp .NotEq) (rNeI X.K C sp) := by
  intro pins s σ H x y v u Q I rx ry h
  obtain ⟨f, fd, hc, M, hf, F, b⟩ := c.ex
  obtain ⟨a, dx, fs, t, rfl, ha, ty, hn, q⟩ := h
  cases (show v = Value.ref a from rx)
  obtain ⟨P, Z, p, _⟩ := kit_of I ry ty
  obtain ⟨mA, O, _⟩ := ins_get I.hok ha
  obtain ⟨od, J, _⟩ := O.look
  obtain ⟨m', hF⟩ := I.fr
  have X1 := I.kIn
  have hu := hr.units
  have body : wpAny (model X.prog X.w) X.A.in1 (Builtin.«object.__ne__» ⟨[.ref a, u], []⟩) (fun fin s' => ∃ v', fin = .done (.ret v') ∧ PySem.W.CmpBack (EP X pins σ Q) v' s') X.xe s := by
    unfold Builtin.«object.__ne__»
    refine wpAny_bind (wpAny_of_eq (a := ((Value.ref a : Value), [u])) (by first | rfl | (simp only [slotArgs]; rfl)) ?_)
    refine wpAny_bind (wpAny_cRoomFor (by show X.A.units + 1 < _; omega) ?_)
    refine wpAny_bind (PySem.W.ifBound_K X1 J M.at_ M.fn ?_)
    refine wpAny_mono (run_at (E := E0') (dvs := []) (ds := []) (A1 := X.A.in1) (vs := [.ref a, y]) F ((hr.mono hk).in1) (fun e => nomatch e) rfl b .nil (passAt takes0 σ) I (.cons rfl (.cons ry .nil)) q) (fun u' s' ⟨v', H', I', r', n, e1, q'⟩ => ?_) fun _ _ z => z
    subst e1
    cases r'
    refine wpAny_bind (m := truthy (.bool n)) (wpAny_truthy_bool ?_)
    exact wpAny_pure ⟨_, rfl, ⟨.bl (!n), H', I', rfl, q'⟩⟩
  have one : wpAny (model X.prog X.w) X.A (tryCompare (.ref a) "__ne__" u) (fun r s' => ∃ v, r = some v ∧ EP X pins σ Q v s') X.xe s := by
    have sub : PySem.W.Looks (model X.prog X.w) s.heap (isInstance (.ref a) (.type "object")) true := J.type.andThen (PySem.W.looks_mroIn X1 ho)
    unfold tryCompare
    refine wpAny_bind (ifBound_blt X1 J hne PySem.F.cmp_object.ne (wpAny_call (codeAny_call_builtin PySem.F.cmp_object.ne.plain PySem.F.cmpEntry_ne (PySem.W.check_slot PySem.F.cmpKind_ne PySem.F.cmpSplit_ne sub (PySem.F.cmpArgs_ne _ _) (wpAny_mono body (fun fin s' hv => ?_) fun _ _ z => z)))))
    obtain ⟨v', rfl, hv⟩ := hv
    cases v' <;> first | exact hv.elim | exact wpAny_pure ⟨_, rfl, hv⟩
  show wpAny _ _ (richCompare .NotEq _ _) _ _ _
  unfold richCompare
  simp only [oneThing_ref]
  refine wpAny_holding (wpAny_bind (wpAny_cRoomFor hr.units0 ?_))
  refine wpAny_bind (J.type.here (wpAny_bind ((Z.ty _ _ I.kIn p).here ?_)))
  split
  · rename_i q
    have e : PySem.W.subIn X.K t (.ref C) = some false := by
      rcases Bool.or_eq_true_iff.mp hn with e | e
      · rw [beq_iff_eq.mp e] at q; simp at q
      · exact beq_iff_eq.mp e
    refine wpAny_bind ((PySem.W.looks_subIn X1 e).here ?_)
    simp only [Bool.false_eq_true, if_false]
    refine wpAny_bind (wpAny_mono one (fun r s' z => ?_) fun _ _ e => e)
    obtain ⟨v, rfl, hq⟩ := z
    exact wpAny_pure hq
  · refine wpAny_bind (wpAny_pure ?_)
    simp only [Bool.false_eq_true, if_false]
    refine wpAny_bind (wpAny_mono one (fun r s' z => ?_) fun _ _ e => e)
    obtain ⟨v, rfl, hq⟩ := z
    exact wpAny_pure hq
/-- x[y], x an instance -/
def tIxI (C : Addr) (sp : Sp) (E : L2.St → XK) (ta tb : TE) : TE := fun σ H Q => ta σ H fun x H1 => tb σ H1 fun y H2 => ∃ a dx fs, x = .ref a ∧ H2 a = some (.ins C dx fs) ∧ sp [x, y] H2 Q (E σ)
theorem pe_ixI {W : WX} {a b : Expr} {ta tb : TE} {pos : Pos} (c : MetG X.prog X.w X.K X.mg X.base false k C "__getitem__" sp ps) (hr : Room j X.A) (hk : k + 1 ≤ j) (tk : Takes X W) (ha : PE X a ta) (hb : PE X b tb)
    (hsl : ∀ o i, subscripted b true o i = runValue (.builtin "lifetime.subscript" ⟨[o, i], []⟩) := by intro _ _; with_unfolding_all rfl) : PE X (.Subscript a b pos) (tIxI C sp (WE W) ta tb) := by
  obtain ⟨f, fd, hc, M, hf, F, bb⟩ := c.ex
  refine ⟨fun pins s σ H Q I h => ?_⟩
  refine Subscript_ (binT ha hb I h fun v u s2 x y H2 I2 rx ry q => ?_)
  obtain ⟨p, dx, fs, rfl, hp, q⟩ := q
  cases (show v = Value.ref p from rx)
  obtain ⟨mA, O, _⟩ := ins_get I2.hok hp
  obtain ⟨od, J, _⟩ := O.look
  obtain ⟨m', hF⟩ := I2.fr
  refine PySem.W.sub_K hF I2.ok.mod.kin J M.at_ hf M.fn ?_ (hsl _ _)
  exact run_at (dvs := []) (ds := []) (A1 := X.A.in1) (vs := [.ref p, y]) F ((hr.mono hk).in1) (fun e => nomatch e) rfl bb .nil (passAt tk σ) I2 (.cons rfl (.cons ry .nil)) q
end
end G
set_option Elab.async false
set_option linter.all false
set_option maxRecDepth 100000
namespace G
open PySem PySem.Spec PyProof.Rows L2
/-! ### repr -/
def rRepr (K : PySem.W.Frag) : List V → Hp → VK → Prop := fun xs H Q => ∃ x d, xs = [x] ∧ Dp K H x d ∧ d.showable = true ∧ d.hasDict = false ∧ d.shown.length ≤ sizeLine ∧ d.depth ≤ 50 ∧ Q (.str d.shown) H
theorem gRepr {X : Cx} (hg : X.A.guards = some []) (hu : X.A.units + 64 < cLine) : CallR X (.builtin "repr") (rRepr X.K) := by
  intro pins s σ H xs us Q I r h
  obtain ⟨x, d, rfl, hd, h1, h2, h3, h4, q⟩ := h
  obtain ⟨u, rfl, ru⟩ := vals1 r
  obtain ⟨as, rd⟩ := Dp.reads I d x u hd ru
  have nd : d.hasDict = true → sysModules ∉ as := fun e => by rw [h2] at e; cases e
  have big : ∀ a, u = .ref a → wpAny (model X.prog X.w) X.A (call (.builtin "repr") [u]) (EP X pins σ Q) X.xe s := fun a e => by
    subst e
    refine repr_of_reads' rd h1 nd hg (by omega) (fun _ _ e => e) (fun h' t tk hk => ⟨.str d.shown, H, I.kept (t' := tk) hk, ⟨_, rfl⟩, q⟩) h3
  cases rd with
  | none => exact PySem.P.repr_of_none ⟨.str _, H, I.tok _, ⟨_, rfl⟩, q⟩
  | bool b => exact PySem.P.repr_of_bool ⟨.str _, H, I.tok _, ⟨_, rfl⟩, q⟩
  | int i t => exact PySem.P.repr_of_int (by simpa [PyData.showable] using h1) ⟨.str _, H, I.tok _, ⟨_, rfl⟩, q⟩
  | str x t => exact PySem.P.repr_of_str ⟨.str _, H, I.tok _, ⟨_, rfl⟩, q⟩ (by simpa only [PyData.shown] using h3)
  | list a1 a2 a3 a4 => exact big _ rfl
  | tuple a1 a2 a3 a4 => exact big _ rfl
  | dict a1 a2 a3 a4 a5 => exact big _ rfl
/-- .. of a dict of flat values -/
def flatD : V → PyData
  | .bl b => .bool b
  | .int i => .int i
  | .str x => .str x
  | _ => .none
def keyD : Key → PyData
  | .inl i => .int i
  | .inr x => .str x
abbrev dictD (kvs : List (Key × V)) : PyData := .dict (kvs.map fun kv => (keyD kv.1, flatD kv.2))
theorem flat_reads {h : Heap} {v : V} {u : Value} (hf : flatV v = true) (r : RelV v u) : Reads h u (flatD v) [] := by
  cases v with
  | non => cases r; exact .none
  | bl b => cases r; exact .bool b
  | int i => obtain ⟨t, rfl⟩ := r; exact .int i t
  | str x => obtain ⟨t, rfl⟩ := r; exact .str x t
  | byt b => cases hf
  | flt b => cases hf
  | ref b => cases hf
  | ty b => cases hf
theorem key_reads {h : Heap} {k : Key} {u : Value} (r : keyIs k u = true) : Reads h u (keyD k) [] := by
  rcases keyIs_shape r with ⟨i, t, rfl, rfl⟩ | ⟨x, t, rfl, rfl⟩
  · exact .int i t
  · exact .str x t
theorem pairs_reads {P : Program} {w : World} {h : Heap} : ∀ {es : List DictEntry} {kvs : List (Key × V)} {vs : List (Key × Value)}, Pairs (mixKind P w) es vs → KV kvs vs → kvs.all (fun kv => flatV kv.2) = true →
    ReadsAll h (es.map (·.key)) ((kvs.map fun kv => (keyD kv.1, flatD kv.2)).map (·.1)) [] ∧ ReadsAll h (es.map (·.val)) ((kvs.map fun kv => (keyD kv.1, flatD kv.2)).map (·.2)) []
  | _, _, _, .nil, .nil, _ => ⟨.nil, .nil⟩
  | _, _, _, .cons h1 h2 hr, .cons ⟨e, rv⟩ kr, hf => by
    rw [List.all_cons, Bool.and_eq_true] at hf
    obtain ⟨q1, q2⟩ := pairs_reads (h := h) hr kr hf.2
    rw [← e] at h1
    rw [← h2] at rv
    exact ⟨.cons (key_reads h1) q1, .cons (flat_reads hf.1 rv) q2⟩
def rReprD : List V → Hp → VK → Prop := fun xs H Q => ∃ a kvs, xs = [.ref a] ∧ H a = some (.dK kvs) ∧ kvs.all (fun kv => flatV kv.2) = true ∧ (dictD kvs).showable = true ∧ (dictD kvs).shown.length ≤ sizeLine ∧ (dictD kvs).depth ≤ 50 ∧ Q (.str (dictD kvs).shown) H
theorem gReprD {X : Cx} (hg : X.A.guards = some []) (hu : X.A.units + 64 < cLine) : CallR X (.builtin "repr") rReprD := by
  intro pins s σ H xs us Q I r h
  obtain ⟨a, kvs, rfl, ha, hf, h1, h3, h4, q⟩ := h
  obtain ⟨u, rfl, ru⟩ := vals1 r
  cases (show u = Value.ref a from ru)
  obtain ⟨hz, hn, vs, kv, o, es, ep, e1, e2, e3, e4, e5, e6⟩ := (show ObjOk X.prog X.w H s.heap a (.dK kvs) from I.hok a _ ha)
  obtain ⟨q1, q2⟩ := pairs_reads (h := s.heap) e5 kv hf
  have rd : Reads s.heap (.ref a) (dictD kvs) [a] := .dict e1 e2.1 e3 q1 q2
  have nd : sysModules ∉ [a] := fun m => by
    rw [List.mem_singleton] at m
    rw [← m] at hn
    simp at hn
  refine repr_of_reads' rd h1 (fun _ => nd) hg (by omega) (fun _ _ e => e) (fun h' t tk hk => ⟨.str (dictD kvs).shown, H, I.kept (t' := tk) hk, ⟨_, rfl⟩, q⟩) h3
def rReprA (K : PySem.W.Frag) : List V → Hp → VK → Prop := fun xs H Q => rRepr K xs H Q ∨ rReprD xs H Q
theorem kRepr {X : Cx} {K : PySem.W.Frag} (hK : X.K = K) (hg : X.A.guards = some []) (hu : X.A.units + 64 < cLine) : CallR X (.builtin "repr") (rReprA K) := by
  subst hK
  exact CallR.or (gRepr hg hu) (gReprD hg hu)
end G
set_option Elab.async false
set_option linter.all false
set_option maxRecDepth 100000
namespace G
open PySem PySem.Spec PyProof.Rows L2
/-! ### the end, for a law's def that promises by Fg -/
/-- what a call of the law's def must come to -/
abbrev LawEnd (P : Program) (w : World) (fa a : Addr) (s : Shared) : Prop :=
  codeAny (model P w) callerA (.call (.ref fa) ⟨[.ref a], []⟩) (fun r s' => r = .ok (.ret (.bool true)) ∧ OldK s.heap s'.heap ∧ s'.os = s.os ∧ AllBare s'.gens) s
section
variable {P : Program} {w : World} {K : PySem.W.Frag} {mg mb : Str → Option Value} {g : Bool} {k : Nat} {fa a : Addr} {fd : FuncData} {x : Str} {sp : Sp} {s : Shared} {H : Hp} {us : List Value} {ns : List Int}
/-- from an abstract heap that tracks at most the script at a (frozen) -/
theorem end_at (kin : K.In s.heap) (hns : s.heap.Ns mainGlobals mg) (hb : s.heap.Ns builtinsNs mb) (hbb : ∀ x : Str, x ≠ "__name__" → mb x = bootBuiltins x) (hlim : s.heap.NoLimit) (hg : s.gens = #[])
    (hdat : ∀ o, s.heap.get? a = some o → ∀ es ep, o.data ≠ .dict es ep) (hr : Room k callerA)
    (F : ∀ base : Heap, K.In base → base.Ns mainGlobals mg → Fg P w K mg base g k fa fd [x] sp) (hbind : ∀ (s : Shared) (u : Value), BindsTo s fd ⟨[u], []⟩ [(x, u)])
    (hO : Only H) (hok : HOk P w H s.heap) (hA : ∀ b, b ≠ a → H b = none) (hK : H a ≠ none → K.lookup a = none) (q : sp [.ref a] H (fun v _ => v = .bl true) fun _ _ _ => False) : LawEnd P w fa a s := by
  have dict_free : ∀ b o es ep, s.heap.get? b = some o → o.data = .dict es ep → H b = none := fun b o es ep e d => hA b fun z => hdat o (z ▸ e) es ep d
  have keepNs : ∀ {b : Addr} {m : Str → Option Value}, s.heap.Ns b m → (hidT s.heap H).Ns b m := fun {b m} ⟨o, es, ep, e, d, r⟩ => ⟨o, es, ep, hidT_get e (dict_free b o es ep e d), d, r⟩
  have keepK : K.In (hidT s.heap H) := fun b o e => hidT_get (kin b o e) (Decidable.byContradiction fun z => by
    by_cases hba : b = a
    · subst hba
      rw [hK z] at e
      cases e
    · exact z (hA b hba))
  obtain ⟨mc, l1, l2⟩ := hlim
  have e0 : Env0 P w K mg (hidT s.heap H) callerA [] s H := ⟨rfl, ⟨keepK, keepNs hns, ⟨mb, keepNs hb, hbb⟩, ⟨mc, keepNs l1, l2⟩⟩, fun b o e => of_hidT e, Nat.le_of_eq (hidT_size _ _), trivial, fun b z => absurd (show b ∈ ([] : List Addr) from z) (by simp), hok, .of_eq hg⟩
  refine codeAny_mono ((F _ keepK (keepNs hns)).go callerA [] s H ⟨[.ref a], []⟩ [.ref a] [.ref a] _ _ hr (fun _ => rfl) e0 (hbind s (.ref a)) (.cons rfl .nil) q) fun r s' h => ?_
  match r, h with
  | .error e, h =>
    obtain ⟨_, _, _, _, _, _, _, _, _, _, _, _, z⟩ := h
    exact z.elim
  | .ok .next, h => exact False.elim h
  | .ok .brk, h => exact False.elim h
  | .ok .cont, h => exact False.elim h
  | .ok (.ret u), ⟨v, H', os, bare, un, hok', rv, ev⟩ =>
    have ev' : v = .bl true := ev
    subst ev'
    obtain rfl : u = Value.bool true := rv
    refine ⟨rfl, OldK.of_keep fun b o e => ?_, os, bare⟩
    rcases hO b with z | ⟨ob, xs, z⟩
    · exact un.keep b o e z (fun m => absurd (show b ∈ ([] : List Addr) from m) (by simp)) (by simp)
    · have c1 := (hok b _ z).1
      have c2 := (hok' b _ (un.frzs b ob _ z)).1
      rw [e] at c1
      cases c1
      exact c2
theorem law_callG (kin : K.In s.heap) (hns : s.heap.Ns mainGlobals mg) (hb : s.heap.Ns builtinsNs mb) (hbb : ∀ x : Str, x ≠ "__name__" → mb x = bootBuiltins x) (hlim : s.heap.NoLimit) (hg : s.gens = #[])
    (ha : s.heap.get? a = some { cls := .type "list", data := .seq us.toArray }) (hi : IntsAre us ns) (hl : ns.length ≤ sizeLine) (hr : Room k callerA)
    (F : ∀ base : Heap, K.In base → base.Ns mainGlobals mg → Fg P w K mg base g k fa fd [x] sp) (hbind : ∀ (s : Shared) (u : Value), BindsTo s fd ⟨[u], []⟩ [(x, u)])
    (hsp : ∀ H : Hp, SqL K H a (ns.map V.int) → sp [.ref a] H (fun v _ => v = .bl true) fun _ _ _ => False) : LawEnd P w fa a s := by
  have rv := vals_ints hi
  have hdat : ∀ o, s.heap.get? a = some o → ∀ es ep, o.data ≠ .dict es ep := fun o e es ep d => by
    rw [ha] at e
    cases e
    have d' : Data.seq us.toArray _ = Data.dict es ep := d
    cases d'
  cases hk : K.lookup a with
  | some o =>
    have e := kin a o hk
    rw [ha] at e
    cases e
    exact end_at (H := fun _ => none) kin hns hb hbb hlim hg hdat hr F hbind (fun _ => .inl rfl) (fun b u z => nomatch z) (fun _ _ => rfl) (fun z => absurd rfl z)
      (hsp _ (.inr ⟨_, us.toArray, _, hk, rfl, rfl, rfl, by rw [List.size_toArray, hi.length]; exact hl, by simpa using rv⟩))
  | none =>
    refine end_at (H := upd (fun _ => none) a (.frz { cls := .type "list", data := .seq us.toArray } (.lst (ns.map V.int)))) kin hns hb hbb hlim hg hdat hr F hbind (fun b => ?_) (fun b u z => ?_) (fun b hb => upd_ne hb) (fun _ => hk) (hsp _ (.inl (.inr ⟨_, upd_same⟩)))
    · by_cases hb : b = a
      · exact .inr ⟨_, _, by rw [hb]; exact upd_same⟩
      · exact .inl (upd_ne hb)
    · by_cases hb : b = a
      · subst hb
        rw [upd_same] at z
        cases z
        exact ⟨ha, by rw [List.length_map]; exact hl, us, _, rv, ha⟩
      · rw [upd_ne hb] at z
        cases z
end
theorem walk_ofG {l : PySem.W.OpenLaw} {n k : Nat} {q : Program} {loose : List Str} {XP : (Str → Option Value) → Heap → Prop} {YP : World → Heap → Prop} {d : DefRec} {K : Params → PySem.W.Frag} {g : Bool} {sp : PySem.W.Frag → Sp} {x : Str}
    (hn : l.most = some n) (hn2 : n ≤ sizeLine) (hdf : d.params.defaults = []) (hr : Room k callerA) (hY : ∀ (w : World) (h : Heap), YP w h → (K w.params).In h)
    (F : ∀ (w : World) (mg : Str → Option Value) (fa : Addr) (h : Heap), (K w.params).In h → h.Ns mainGlobals mg → mg d.name = some (.ref fa) →
      ∃ fd : FuncData, (∀ (s : Shared) (u : Value), BindsTo s fd ⟨[u], []⟩ [(x, u)]) ∧ ∀ base : Heap, (K w.params).In base → base.Ns mainGlobals mg → Fg l.prog w (K w.params) mg base g k fa fd [x] (sp (K w.params)))
    (hsp : ∀ (K : PySem.W.Frag) (H : Hp) (a : Addr) (ns : List Int), ns.length ≤ n → (∀ z ∈ ns, Builtin.Int.intBits z ≤ 1048576) → SqL K H a (ns.map V.int) → sp K [.ref a] H (fun v _ => v = .bl true) fun _ _ _ => False) :
    PySem.W.WalkO q loose XP YP l.row.toRowW d [] (fun f vs => PySem.call f vs) := by
  refine Att.attach_callB hn hdf fun w s₀ s₁ mg mb fa o pm cd doc a vs ns G Y ho hd hcd hmg hobj hints hlen hbits hg => ?_
  have kin := hY w _ Y
  obtain ⟨fd, hb, hF⟩ := F w mg fa _ kin G.T.g hmg
  exact law_callG kin G.T.g G.T.b G.T.builtins G.T.nolimit hg hobj hints (Nat.le_trans hlen hn2) hr hF hb fun H hS => hsp _ H a ns hlen hbits hS
end G
set_option Elab.async false
set_option linter.all false
set_option maxRecDepth 100000
namespace G
open PySem PySem.Spec PyProof.Rows L2
/-! ### isinstance with own classes -/
theorem kit_ownT {K : PySem.W.Frag} {t : Value} {C : Addr} (hc : PySem.W.isClsIn K C = true) (ht : PySem.W.typeIn K (.ref C) = some (.type "type")) (hs : PySem.W.subIn K t (.ref C) = some true) : PySem.W.kitOne K t (.ref C) = some true := by
  unfold PySem.W.kitOne
  split
  · rfl
  · unfold PySem.W.kitCls
    dsimp only
    rw [show (PySem.W.clsIn K C).isSome = true from hc, ht, hs]
    rfl
theorem kit_ownF {K : PySem.W.Frag} {T : String} {C : Addr} {r : Bool} (hc : PySem.W.isClsIn K C = true) (ht : PySem.W.typeIn K (.ref C) = some (.type "type")) (hs : PySem.W.subIn K (.type T) (.ref C) = some r) : PySem.W.kitOne K (.type T) (.ref C) = some r := by
  unfold PySem.W.kitOne
  rw [if_neg (by simp)]
  unfold PySem.W.kitCls
  dsimp only
  rw [show (PySem.W.clsIn K C).isSome = true from hc, ht, hs]
  rfl
theorem kit_self {K : PySem.W.Frag} {C : Addr} : PySem.W.kitOne K (.ref C) (.ref C) = some true := if_pos (by simp)
theorem kit_blt {K : PySem.W.Frag} {T : String} {C : Addr} {r : Bool} (hm : PySem.W.kitMeta T = true) (hs : PySem.W.subIn K (.ref C) (.type T) = some r) : PySem.W.kitOne K (.ref C) (.type T) = some r := by
  unfold PySem.W.kitOne
  rw [if_neg (by simp)]
  unfold PySem.W.kitCls
  dsimp only
  rw [hm, hs]
  rfl
theorem nf_self {K : PySem.W.Frag} {C : Addr} : PySem.W.notFirst K C (.ref C) = true := by unfold PySem.W.notFirst; simp
theorem nf_of {K : PySem.W.Frag} {C : Addr} {t : Value} (h : PySem.W.subIn K t (.ref C) = some false) : PySem.W.notFirst K C t = true := by unfold PySem.W.notFirst; rw [h]; simp
theorem kEqU {X : Cx} {K : PySem.W.Frag} (hK : X.K = K) (hu : X.A.units + 64 < cLine) : OpR X (compareOp .Eq) (rEqA K) := by subst hK; exact op_eq.or (op_eqD hu)
theorem kNeU {X : Cx} {K : PySem.W.Frag} (hK : X.K = K) (hu : X.A.units + 64 < cLine) : OpR X (compareOp .NotEq) (rNeA K) := by subst hK; exact op_ne.or (op_neD hu)
/-! ### defs, methods, classes of the text -/
abbrev BodyN (P : Program) (w : World) (K : PySem.W.Frag) (mg : Str → Option Value) (base : Heap) (g : Bool) (k : Nat) (N : List Str) (qual : Str) (st : Stmt) (f : Addr) (sp : Sp) : Prop :=
  ∀ (cdv : Value) (A : Around) (outer : List Env) (s : Shared) (H : Hp) (vs : List V) (Q : VK) (E : XK), Room k (A.deeper (envOfC qual (defScope st) s.heap.objs.size f cdv)) →
    (g = true → (A.deeper (envOfC qual (defScope st) s.heap.objs.size f cdv)).guards = some []) → sp vs H Q E →
    ∃ t, PSs (cxOf (L2.CX P w) P w K mg base N qual (defScope st) f cdv A outer s H E).nox (defBody st) t ∧ t { nx := fun _ H' => Q .non H', rt := Q } (start N vs) H
abbrev BodyX (P : Program) (w : World) (K : PySem.W.Frag) (mg : Str → Option Value) (base : Heap) (g : Bool) (k : Nat) (N : List Str) (qual : Str) (st : Stmt) (f : Addr) (sp : Sp) : Prop :=
  ∀ (cdv : Value) (A : Around) (outer : List Env) (s : Shared) (H : Hp) (vs : List V) (Q : VK) (E : XK), Room k (A.deeper (envOfC qual (defScope st) s.heap.objs.size f cdv)) →
    (g = true → (A.deeper (envOfC qual (defScope st) s.heap.objs.size f cdv)).guards = some []) → sp vs H Q E →
    ∃ t, PSs (cxOf (L2.CX P w) P w K mg base N qual (defScope st) f cdv A outer s H E) (defBody st) t ∧ t { nx := fun _ H' => Q .non H', rt := Q } (start N vs) H
structure Dm (K : PySem.W.Frag) (C : Addr) (m qual : Str) (st : Stmt) (ps : List Str) : Prop where
  ex : ∃ (f : Addr) (fd : FuncData), Cls K C ∧ Meth K C m f ∧ PySem.W.fnIn K f = true ∧ Fun K m qual st f fd ∧ Binds K fd ps []
structure Dk (K : PySem.W.Frag) (mg : Str → Option Value) (x : Str) (C : Addr) (qual : Str) (st : Stmt) (dvs : List V) : Prop where
  ex : ∃ (f : Addr) (fd : FuncData), Mk K C f ∧ mg x = some (.ref C) ∧ FunD K "__init__" qual (defArgs st) (defBody st) (defScope st) dvs [] f fd
structure Ini (P : Program) (w : World) (K : PySem.W.Frag) (mg : Str → Option Value) (base : Heap) (k : Nat) (x : Str) (C : Addr) (qual : Str) (st : Stmt) (dvs : List V) (ps : List Str) (sp : Sp) : Prop where
  ex : ∃ (f : Addr) (fd : FuncData), Mk K C f ∧ mg x = some (.ref C) ∧ FunD K "__init__" qual (defArgs st) (defBody st) (defScope st) dvs [] f fd ∧ Fg P w K mg base false k f fd ps sp
section
variable {P : Program} {w : World} {K : PySem.W.Frag} {mg : Str → Option Value} {base : Heap} {g : Bool} {x qual m : Str} {st : Stmt} {N ps : List Str} {k : Nat} {sp : Sp} {C : Addr} {dvs : List V}
theorem kbn_of {fd : FuncData} (b : Binds K fd ps []) : KBn K fd ps ps.length [] (fun us _ => us) (fun vs _ => vs) :=
  ⟨fun s us ws X l1 l2 => by
    have h := b s us X (by rw [List.append_nil]; exact l1)
    rw [List.append_nil] at h
    exact h, fun r _ => r⟩
theorem Dd.calG (F : Dd K mg x st ps) (S : FnScope N ps (defScope st)) (len : ∀ vs H Q E, sp vs H Q E → vs.length = ps.length) (hbody : ∀ f, BodyN P w K mg base g k N x st f sp) : CalG P w K mg base g (k + 1) x sp ps.length [] (fun vs _ => vs) := by
  obtain ⟨f, fd, F1, hm, b⟩ := F.ex
  exact ⟨f, fd, ps, _, fg_of F1 S len fun cdv A outer s H vs Q E hr hg h => let ⟨t, h1, h2⟩ := hbody f cdv A outer s H vs Q E hr hg h; ⟨t, h1.nox, h2⟩, hm, F1.kp, kbn_of b⟩
theorem Dd.calX (F : Dd K mg x st ps) (S : FnScope N ps (defScope st)) (len : ∀ vs H Q E, sp vs H Q E → vs.length = ps.length) (hbody : ∀ f, BodyX P w K mg base g k N x st f sp) : CalG P w K mg base g (k + 1) x sp ps.length [] (fun vs _ => vs) := by
  obtain ⟨f, fd, F1, hm, b⟩ := F.ex
  exact ⟨f, fd, ps, _, fg_of F1 S len (hbody f), hm, F1.kp, kbn_of b⟩
theorem Dd.lawG {fa : Addr} (F : Dd K mg x st ps) (S : FnScope N ps (defScope st)) (hfa : mg x = some (.ref fa)) (len : ∀ vs H Q E, sp vs H Q E → vs.length = ps.length) (hbody : ∀ base f, BodyN P w K mg base g k N x st f sp) :
    ∃ fd : FuncData, (∃ (kV doc pm : Value) (an : Option Addr) (cdv ct : Value), fd = PySem.W.fnOf x x (defArgs st) (defBody st) (defScope st) .none kV doc pm an cdv ct) ∧ ∀ base : Heap, Fg P w K mg base g (k + 1) fa fd ps sp := by
  obtain ⟨f, fd, F1, hm, b⟩ := F.ex
  have e := hfa.symm.trans hm
  cases e
  refine ⟨fd, ?_, fun base => fg_of F1 S len fun cdv A outer s H vs Q E hr hg h => let ⟨t, h1, h2⟩ := hbody base fa cdv A outer s H vs Q E hr hg h; ⟨t, h1.nox, h2⟩⟩
  obtain ⟨oc, od, kV, doc, pm, an, cdv, ct, osl, rfl, lk, hcd⟩ := F1.ex
  exact ⟨kV, doc, pm, an, cdv, ct, rfl⟩
theorem Dm.metX (F : Dm K C m qual st ps) (S : FnScope N ps (defScope st)) (len : ∀ vs H Q E, sp vs H Q E → vs.length = ps.length) (hbody : ∀ f, BodyX P w K mg base g k N qual st f sp) : MetG P w K mg base g (k + 1) C m sp ps := by
  obtain ⟨f, fd, c, M, hf, F1, b⟩ := F.ex
  exact ⟨f, fd, c, M, hf, fg_of F1 S len (hbody f), b⟩
theorem Dm.met (F : Dm K C m qual st ps) (S : FnScope N ps (defScope st)) (len : ∀ vs H Q E, sp vs H Q E → vs.length = ps.length) (hbody : ∀ f, BodyN P w K mg base g k N qual st f sp) : MetG P w K mg base g (k + 1) C m sp ps :=
  F.metX S len fun f cdv A outer s H vs Q E hr hg h => let ⟨t, h1, h2⟩ := hbody f cdv A outer s H vs Q E hr hg h; ⟨t, h1.nox, h2⟩
theorem Dk.ini (F : Dk K mg x C qual st dvs) (S : FnScope N ps (defScope st)) (len : ∀ vs H Q E, sp vs H Q E → vs.length = ps.length) (hbody : ∀ f, BodyX P w K mg base false k N qual st f sp) : Ini P w K mg base (k + 1) x C qual st dvs ps sp := by
  obtain ⟨f, fd, M, hm, F1⟩ := F.ex
  exact ⟨f, fd, M, hm, F1, Fg.of (F1.ok S len fun cdv A outer s H vs Q E hr h => hbody f cdv A outer s H vs Q E hr (fun e => nomatch e) h)⟩
theorem Ini.mak {n : Nat} {ks : List Str} {gV : List V → List V → List V} (F : Ini P w K mg base k x C qual st dvs ps sp) (b : ∀ f fd, FunD K "__init__" qual (defArgs st) (defBody st) (defScope st) dvs [] f fd → ∃ gg, KBn K fd ps (n + 1) ks gg gV) : MakG P w K mg base k x C sp n ks gV := by
  obtain ⟨f, fd, M, hm, F1, G⟩ := F.ex
  obtain ⟨gg, kb⟩ := b f fd F1
  exact ⟨f, fd, ps, gg, M, G, hm, kb⟩
end
end G
set_option Elab.async false
set_option linter.all false
set_option maxRecDepth 100000
namespace G
open PySem PySem.Spec PyProof.Rows L2
/-! ### sequences, kinds -/
/-- a list or a tuple -/
def Sq (K : PySem.W.Frag) (H : Hp) (v : V) (xs : List V) : Prop := ∃ p, v = .ref p ∧ (SqL K H p xs ∨ SqT K H p xs)
theorem Sq.l {K : PySem.W.Frag} {H : Hp} {p : Addr} {xs : List V} (h : SqL K H p xs) : Sq K H (.ref p) xs := ⟨p, rfl, .inl h⟩
theorem Sq.t {K : PySem.W.Frag} {H : Hp} {p : Addr} {xs : List V} (h : SqT K H p xs) : Sq K H (.ref p) xs := ⟨p, rfl, .inr h⟩
theorem Sq.mono {K : PySem.W.Frag} {H H' : Hp} {v : V} {xs : List V} (e : Ex H H') (h : Sq K H v xs) : Sq K H' v xs := by
  obtain ⟨p, rfl, h⟩ := h
  exact ⟨p, rfl, h.elim (fun h => .inl (sqL_mono e h)) fun h => .inr (sqT_mono e h)⟩
theorem tyL {K : PySem.W.Frag} {H : Hp} {p : Addr} {xs : List V} (h : SqL K H p xs) : TyX K H (.ref p) (.type "list") := by
  rcases h with (h | ⟨o, h⟩) | ⟨o, its, n, h1, h2, h3, h4⟩
  · exact .base (.lst h)
  · exact .base (.frz h)
  · exact .kList h1 h2
theorem tyT {K : PySem.W.Frag} {H : Hp} {p : Addr} {xs : List V} (h : SqT K H p xs) : TyX K H (.ref p) (.type "tuple") := by
  rcases h with (h | ⟨o, h⟩) | ⟨o, its, n, h1, h2, h3⟩
  · exact .base (.tup h)
  · exact .fTuple h
  · exact .kTuple h1 h2
theorem l_tupSq {K : PySem.W.Frag} {H : Hp} {v : V} {xs : List V} {Q : VK} (hs : Sq K H v xs) (q : ∀ p H', Ex H H' → SqT K H' p xs → Q (.ref p) H') : rTupA K [v] H Q := by
  obtain ⟨p, rfl, h | h⟩ := hs
  · exact ⟨xs, .inl ⟨h, fun l hl => q l _ (Ex.new hl) (.of upd_same)⟩⟩
  · exact ⟨xs, .inr ⟨h, q p H (Ex.refl H) h⟩⟩
theorem sqT_but {K : PySem.W.Frag} {H H' : Hp} {x p C dx : Addr} {fs : List (Str × V)} {xs : List V} (b : But x H H') (hx : H x = some (.ins C dx fs)) (h : SqT K H p xs) : SqT K H' p xs := by
  rcases h with (h | ⟨o, h⟩) | h
  · exact .inl (.inl (b _ _ (fun z => by rw [z, hx] at h; cases h) h))
  · exact .inl (.inr ⟨o, b _ _ (fun z => by rw [z, hx] at h; cases h) h⟩)
  · exact .inr h
theorem sqL_but {K : PySem.W.Frag} {H H' : Hp} {x p C dx : Addr} {fs : List (Str × V)} {xs : List V} (b : But x H H') (hx : H x = some (.ins C dx fs)) (h : SqL K H p xs) : SqL K H' p xs := by
  rcases h with (h | ⟨o, h⟩) | h
  · exact .inl (.inl (b _ _ (fun z => by rw [z, hx] at h; cases h) h))
  · exact .inl (.inr ⟨o, b _ _ (fun z => by rw [z, hx] at h; cases h) h⟩)
  · exact .inr h
theorem Sq.but {K : PySem.W.Frag} {H H' : Hp} {x C dx : Addr} {fs : List (Str × V)} {v : V} {xs : List V} (b : But x H H') (hx : H x = some (.ins C dx fs)) (h : Sq K H v xs) : Sq K H' v xs := by
  obtain ⟨p, rfl, h⟩ := h
  exact ⟨p, rfl, h.elim (fun h => .inl (sqL_but b hx h)) fun h => .inr (sqT_but b hx h)⟩
/-- an int, no bool -/
def isI : V → Bool
  | .int _ => true
  | _ => false
def isB : V → Bool
  | .bl _ => true
  | _ => false
/-- a value whose kind is known -/
def Kd (K : PySem.W.Frag) (H : Hp) (x : V) : Prop := flatV x = true ∨ ∃ p T, x = .ref p ∧ TyX K H x (.type T) ∧ (T = "list" ∨ T = "tuple" ∨ T = "dict")
theorem Kd.l {K : PySem.W.Frag} {H : Hp} {p : Addr} {xs : List V} (h : SqL K H p xs) : Kd K H (.ref p) := .inr ⟨p, _, rfl, tyL h, .inl rfl⟩
theorem Kd.t {K : PySem.W.Frag} {H : Hp} {p : Addr} {xs : List V} (h : SqT K H p xs) : Kd K H (.ref p) := .inr ⟨p, _, rfl, tyT h, .inr (.inl rfl)⟩
theorem Kd.d {K : PySem.W.Frag} {H : Hp} {p : Addr} {kvs : List (Key × V)} (h : H p = some (.dK kvs)) : Kd K H (.ref p) := .inr ⟨p, _, rfl, .base (.dK h), .inr (.inr rfl)⟩
/-- its type, and what isinstance says of it with int, with bool -/
theorem Kd.is {K : PySem.W.Frag} {H : Hp} {x : V} (h : Kd K H x) : ∃ t, TyX K H x t ∧ (∃ b, PySem.W.kitOne K t (.type "int") = some b ∧ isI x = (b && !isB x)) ∧ PySem.W.kitOne K t (.type "bool") = some (isB x) ∧ (isI x = true → PySem.W.kitOne K t (.type "int") = some true) := by
  rcases h with h | ⟨p, T, rfl, ty, rfl | rfl | rfl⟩
  · cases x with
    | non => exact ⟨_, .base .non, ⟨false, kt_NoneType_int, rfl⟩, kt_NoneType_bool, fun e => nomatch e⟩
    | bl b => exact ⟨_, .base (.bl b), ⟨true, kt_bool_int, rfl⟩, kt_bool_bool, fun e => nomatch e⟩
    | int i => exact ⟨_, .base (.int i), ⟨true, kt_int_int, rfl⟩, kt_int_bool, fun _ => kt_int_int⟩
    | str z => exact ⟨_, .base (.str z), ⟨false, kt_str_int, rfl⟩, kt_str_bool, fun e => nomatch e⟩
    | byt b => cases h
    | flt b => cases h
    | ref b => cases h
    | ty b => cases h
  · exact ⟨_, ty, ⟨false, kt_list_int, rfl⟩, kt_list_bool, fun e => nomatch e⟩
  · exact ⟨_, ty, ⟨false, kt_tuple_int, rfl⟩, kt_tuple_bool, fun e => nomatch e⟩
  · exact ⟨_, ty, ⟨false, kt_dict_int, rfl⟩, kt_dict_bool, fun e => nomatch e⟩
theorem Kd.mono {K : PySem.W.Frag} {H H' : Hp} {x : V} (e : Ex H H') (h : Kd K H x) : Kd K H' x := by
  rcases h with h | ⟨p, T, rfl, ty, hT⟩
  · exact .inl h
  · refine .inr ⟨p, T, rfl, ?_, hT⟩
    generalize hx : V.ref p = x at ty
    generalize ht : Value.type T = t at ty
    cases ty with
    | base b =>
      cases b with
      | lst h => exact .base (.lst (e _ _ h))
      | frz h => exact .base (.frz (e _ _ h))
      | tup h => exact .base (.tup (e _ _ h))
      | dK h => exact .base (.dK (e _ _ h))
      | dT h => exact .base (.dT (e _ _ h))
      | non => cases hx
      | bl _ => cases hx
      | int _ => cases hx
      | str _ => cases hx
      | flt _ => cases hx
      | ins => cases ht
    | byt _ => cases hx
    | set h => exact .set (e _ _ h)
    | kList h c => exact .kList h c
    | kTuple h c => exact .kTuple h c
    | kDict h c => exact .kDict h c
    | fTuple h => exact .fTuple (e _ _ h)
    | fDict h => exact .fDict (e _ _ h)
/-! ### [f(x) for x in xs] -/
section
variable {K : PySem.W.Frag} {xs : List V} {f : V → V} {i : Nat} {vs : List Nat} {σ : L2.St} {H : Hp} {te : TE} {Q : VK} {v : V}
theorem lc_turn {DD : Addr} (hD : H DD = none) (hlen : xs.length ≤ 1000) (hw : ∀ x, wipe ((wipe σ vs).set i (some x)) vs = wipe σ vs)
    (hte : ∀ x ∈ xs, ∀ H' R, Ex H H' → (∀ H'', Ex H' H'' → R (f x) H'') → te ((wipe σ vs).set i (some x)) H' R) (j : Nat) (x : V) (H' : Hp) (hj : xs[j]? = some x) (hp : Ex H H' ∧ H' DD = some (.lst ((xs.take j).map f))) :
    gName i x (wipe σ vs) H' fun σ2 H2 => wipe σ2 vs = wipe σ vs ∧ tYes σ2 H2 fun b H3 =>
      if b = true then te σ2 H3 fun y H4 => ∃ acc, H4 DD = some (.lst acc) ∧ acc.length < sizeLine ∧ Ex H (upd H4 DD (.lst (acc ++ [y]))) ∧ upd H4 DD (.lst (acc ++ [y])) DD = some (.lst ((xs.take (j + 1)).map f)) else Ex H H3 ∧ H3 DD = some (.lst ((xs.take (j + 1)).map f)) := by
  refine ⟨hw x, i_yes ?_⟩
  rw [if_pos rfl]
  refine hte x (List.mem_of_getElem? hj) H' _ hp.1 fun H'' e => ⟨_, e _ _ hp.2, ?_, (hp.1.trans e).mut hD, ?_⟩
  · rw [List.length_map, List.length_take]
    exact szl (by omega)
  · rw [upd_same, take_succ hj, List.map_append]
    rfl
theorem lc_mapL {a : Addr} (hs : SqL K H a xs) (hlen : xs.length ≤ 1000) (hw : ∀ x, wipe ((wipe σ vs).set i (some x)) vs = wipe σ vs)
    (hte : ∀ x ∈ xs, ∀ H' R, Ex H H' → (∀ H'', Ex H' H'' → R (f x) H'') → te ((wipe σ vs).set i (some x)) H' R) (hQ : ∀ D H', H D = none → Ex H H' → H' D = some (.lst (xs.map f)) → Q (.ref D) H') : lcB (Itl K a) (gName i) tYes te vs σ Q H := by
  intro DD hD
  refine lc_list (xs := xs) (fun j H' => Ex H H' ∧ H' DD = some (.lst ((xs.take j).map f))) ⟨Ex.new hD, upd_same⟩ (fun _ H' _ p => sqL_mono p.1 hs) (fun j x H' hj hp => lc_turn hD hlen hw hte j x H' hj hp) (fun H' p => hQ DD H' hD p.1 (by rw [p.2, List.take_length]))
theorem lc_mapT {a : Addr} (hs : SqT K H a xs) (hlen : xs.length ≤ 1000) (hw : ∀ x, wipe ((wipe σ vs).set i (some x)) vs = wipe σ vs)
    (hte : ∀ x ∈ xs, ∀ H' R, Ex H H' → (∀ H'', Ex H' H'' → R (f x) H'') → te ((wipe σ vs).set i (some x)) H' R) (hQ : ∀ D H', H D = none → Ex H H' → H' D = some (.lst (xs.map f)) → Q (.ref D) H') : lcB (Itt K a) (gName i) tYes te vs σ Q H := by
  intro DD hD
  refine lc_tup (xs := xs) (fun j H' => Ex H H' ∧ H' DD = some (.lst ((xs.take j).map f))) ⟨Ex.new hD, upd_same⟩ (fun _ H' _ p => sqT_mono p.1 hs) (fun j x H' hj hp => lc_turn hD hlen hw hte j x H' hj hp) (fun H' p => hQ DD H' hD p.1 (by rw [p.2, List.take_length]))
/-- .. over a variable that holds a list or a tuple -/
theorem lc_var {k : Nat} (hv : σ[k]? = some (some v)) (hs : Sq K H v xs) (hlen : xs.length ≤ 1000) (hw : ∀ x, wipe ((wipe σ vs).set i (some x)) vs = wipe σ vs)
    (hte : ∀ x ∈ xs, ∀ H' R, Ex H H' → (∀ H'', Ex H' H'' → R (f x) H'') → te ((wipe σ vs).set i (some x)) H' R) (hQ : ∀ D H', H D = none → Ex H H' → H' D = some (.lst (xs.map f)) → Q (.ref D) H') : iAny K (tVar k) σ H fun J H1 => lcB J (gName i) tYes te vs σ Q H1 := by
  obtain ⟨p, rfl, h | h⟩ := hs
  · exact i_anyL ⟨_, hv, p, rfl, ⟨_, h⟩, lc_mapL h hlen hw hte hQ⟩
  · exact i_anyT ⟨_, hv, p, rfl, ⟨_, h⟩, lc_mapT h hlen hw hte hQ⟩
end
/-! ### the law's own draws, the list of the script's numbers at L -/
structure Dl (H : Hp) (st L : Addr) (b : Nat) : Prop where
  ex : ∃ (ns : List Int) (a c : Int), H st = some (.lst [.ref L, .int a, .int c]) ∧ H L = some (.lst (ns.map V.int)) ∧ st ≠ L ∧ 0 ≤ c ∧ c ≤ (b : Int)
theorem Dl.up {H : Hp} {st L : Addr} {b b' : Nat} (d : Dl H st L b) (h : b ≤ b') : Dl H st L b' := by
  obtain ⟨ns, a, c, h1, h2, h3, h4, h5⟩ := d.ex
  exact ⟨ns, a, c, h1, h2, h3, h4, by omega⟩
theorem Dl.mono {H H' : Hp} {st L : Addr} {b : Nat} (d : Dl H st L b) (e : Ex H H') : Dl H' st L b := by
  obtain ⟨ns, a, c, h1, h2, h3, h4, h5⟩ := d.ex
  exact ⟨ns, a, c, e _ _ h1, e _ _ h2, h3, h4, h5⟩
/-- what is written apart from them leaves them -/
theorem Dl.put {H : Hp} {st L p : Addr} {b : Nat} {o : HO} (d : Dl H st L b) (h1 : p ≠ st) (h2 : p ≠ L) : Dl (upd H p o) st L b := by
  obtain ⟨ns, a, c, g1, g2, g3, g4, g5⟩ := d.ex
  exact ⟨ns, a, c, by rw [upd_ne h1.symm]; exact g1, by rw [upd_ne h2.symm]; exact g2, g3, g4, g5⟩
theorem Dl.ne {H : Hp} {st L p : Addr} {b : Nat} (d : Dl H st L b) (h : H p = none) : p ≠ st ∧ p ≠ L := by
  obtain ⟨ns, a, c, h1, h2, _⟩ := d.ex
  exact ⟨(ne_of_none h1 h).symm, (ne_of_none h2 h).symm⟩
def spOpenL (K : PySem.W.Frag) : Sp := fun vs H Q _ => ∃ (a : Addr) (ns : List Int), vs = [.ref a] ∧ SqL K H a (ns.map V.int) ∧ ns.length ≤ 63 ∧ ∀ (st L : Addr) (H' : Hp), H st = none → H L = none → Dl H' st L 0 → Ex H H' → Q (.ref st) H'
def spDrawL : Sp := fun vs H Q _ => ∃ (st L : Addr) (n : Int) (b : Nat), vs = [.ref st, .int n] ∧ 0 < n ∧ n ≤ 10 ^ 18 ∧ Dl H st L b ∧ b < 2 ^ 60 ∧
  ∀ (r : Int) (H' : Hp), 0 ≤ r → r < n → Dl H' st L (b + 1) → But st H H' → Q (.int r) H'
theorem drawL {st L : Addr} {n : Int} {b : Nat} {H : Hp} {Q : VK} {E : XK} (hd : Dl H st L b) (hn : 0 < n) (hn2 : n ≤ 10 ^ 18) (hb : b < 2 ^ 60) (q : ∀ r H', 0 ≤ r → r < n → Dl H' st L (b + 1) → But st H H' → Q (.int r) H') : spDrawL ([.ref st, .int n] ++ []) H Q E :=
  ⟨st, L, n, b, rfl, hn, hn2, hd, hb, q⟩
theorem But.put {st p : Addr} {H H' : Hp} {o : HO} (e : But st H H') (h : H p = none) : But st H (upd H' p o) := fun a u n ha => by
  rw [upd_ne (ne_of_none ha h)]
  exact e a u n ha
theorem But.free {st p : Addr} {H H' : Hp} (e : But st H H') (hp : p ≠ st) (h : H' p = none) : H p = none := by
  cases q : H p with
  | none => rfl
  | some o =>
    rw [e _ _ hp q] at h
    cases h
theorem Dl.ins_ne {st L p C dx : Addr} {H : Hp} {b : Nat} {fs : List (Str × V)} (d : Dl H st L b) (h : H p = some (.ins C dx fs)) : p ≠ st := by
  obtain ⟨ns, a, c, h1, _⟩ := d.ex
  intro z
  rw [z, h1] at h
  cases h
theorem sqT_dl {K : PySem.W.Frag} {H H' : Hp} {st L p : Addr} {b : Nat} {xs : List V} (d : Dl H st L b) (e : But st H H') (h : SqT K H p xs) : SqT K H' p xs := by
  obtain ⟨ns, a, c, h1, _⟩ := d.ex
  rcases h with (h | ⟨o, h⟩) | h
  · exact .inl (.inl (e _ _ (fun z => by rw [z, h1] at h; cases h) h))
  · exact .inl (.inr ⟨o, e _ _ (fun z => by rw [z, h1] at h; cases h) h⟩)
  · exact .inr h
/-! ### steps for what is new -/
section
variable {K : PySem.W.Frag} {σ : L2.St} {H : Hp} {Q : VK} {t tz : TA} {ta tb te to : TE} {D : Ends}
theorem i_mkS {C : Addr} {n m : Nat} {sp : Sp} {gV : List V → List V → List V} {E : L2.St → XK} (q : t σ H fun vs H1 => tz σ H1 fun zs H2 => vs.length = n ∧ zs.length = m ∧ ∀ x dx, H2 x = none → H2 dx = none → dx ≠ x →
  sp (gV (.ref x :: vs) zs) (upd (upd H2 dx (.own x)) x (.ins C dx [])) (fun v H3 => v = .non ∧ Q (.ref x) H3) (E σ)) : tMkS C n m sp gV E t tz σ H Q := q
theorem i_cS {n m : Nat} {sp : Sp} {gV : List V → List V → List V} {E : L2.St → XK} (q : t σ H fun vs H1 => tz σ H1 fun zs H2 => vs.length = n ∧ zs.length = m ∧ sp (gV vs zs) H2 Q (E σ)) : tCS n m sp gV E t tz σ H Q := q
theorem i_fld {f : Str} (q : ta σ H fun x H1 => ∃ a C dx fs v, x = .ref a ∧ H1 a = some (.ins C dx fs) ∧ Cls K C ∧ NoAttr K C f ∧ fs.lookup f = some v ∧ Q v H1) : tFld K ta f σ H Q := q
theorem i_sFld {f : Str} (q : tb σ H fun y H1 => ta σ H1 fun x H2 => ∃ a C dx fs, x = .ref a ∧ H2 a = some (.ins C dx fs) ∧ Cls K C ∧ NoAttr K C f ∧ fs.length < 1000 ∧ D.nx σ (upd H2 a (.ins C dx (putF f y fs)))) : sFld K ta tb f D σ H := q
theorem i_tX {C : Addr} {f : Str} {QX : XK} (q : t σ H fun vs H1 => ∃ v, vs = [v] ∧ ∀ d, H1 d = none → QX (.ref C) (some d) (upd H1 d (.xd [(f, v)]))) : tX C f t σ H QX := q
theorem l_len2 {vs zs : List V} {n m : Nat} {R : Prop} (h1 : vs.length = n) (h2 : zs.length = m) (q : R) : vs.length = n ∧ zs.length = m ∧ R := ⟨h1, h2, q⟩
end
end G
namespace K
open PySem PySem.Spec PyProof.Rows L2 G TL
local macro_rules | `(tactic| walk_at "side") => `(tactic| focus (first | assumption | exact rfl | omega | decide))
local macro_rules | `(tactic| walk_at "ty") => `(tactic| focus (first | exact .base (.str _) | exact .base (.int _) | exact .base (.bl _) | exact .base .non | exact .base (.lst (by assumption)) | exact .base (.tup (by assumption)) | exact .base (.dK (by assumption)) | assumption))
local macro_rules | `(tactic| walk_at "kt") => `(tactic| focus (with_reducible first | exact kt_NoneType_str | exact kt_NoneType_int | exact kt_NoneType_bool | exact kt_NoneType_tuple | exact kt_NoneType_list | exact kt_NoneType_dict | exact kt_bool_str | exact kt_bool_int | exact kt_bool_bool | exact kt_bool_tuple | exact kt_bool_list | exact kt_bool_dict | exact kt_int_str | exact kt_int_int | exact kt_int_bool | exact kt_int_tuple | exact kt_int_list | exact kt_int_dict | exact kt_str_str | exact kt_str_int | exact kt_str_bool | exact kt_str_tuple | exact kt_str_list | exact kt_str_dict | exact kt_list_str | exact kt_list_int | exact kt_list_bool | exact kt_list_tuple | exact kt_list_list | exact kt_list_dict | exact kt_tuple_str | exact kt_tuple_int | exact kt_tuple_bool | exact kt_tuple_tuple | exact kt_tuple_list | exact kt_tuple_dict | exact kt_dict_str | exact kt_dict_int | exact kt_dict_bool | exact kt_dict_tuple | exact kt_dict_list | exact kt_dict_dict | assumption))
local macro_rules | `(tactic| walk_at "1") => `(tactic| first
  | (with_reducible refine i_seq ?_)
  | (with_reducible refine iteT ?_)
  | (with_reducible refine iteF ?_)
  | (with_reducible refine iteNF ?_)
  | (with_reducible refine iteNT ?_)
  | (with_reducible refine i_asg ?_)
  | (with_reducible refine i_op ?_)
  | (with_reducible refine i_c ?_)
  | ((with_reducible apply i_var); (exact rfl))
  | (with_reducible refine i_cb ?_)
  | (with_reducible refine i_cons ?_)
  | (with_reducible refine i_nil ?_)
  | (with_reducible refine i_test ?_)
  | (with_reducible refine i_b ?_)
  | (with_reducible refine i_bl ?_)
  | (with_reducible refine i_name ?_)
  | (with_reducible refine i_ifS ?_)
  | (with_reducible refine i_next ?_)
  | (with_reducible refine i_ret ?_)
  | (with_reducible refine i_drop ?_)
  | (with_reducible refine i_lst ?_)
  | (with_reducible refine i_tup ?_)
  | (with_reducible refine i_and ?_)
  | (with_reducible refine i_or ?_)
  | (with_reducible refine i_not ?_)
  | (with_reducible refine i_andV ?_)
  | (with_reducible refine i_orV ?_)
  | (with_reducible refine i_notV ?_)
  | (with_reducible refine i_if ?_)
  | (with_reducible refine i_chain ?_)
  | (with_reducible refine i_un ?_)
  | (with_reducible refine i_neg ?_)
  | (with_reducible refine i_sub ?_)
  | (with_reducible refine i_sl ?_)
  | (with_reducible refine i_noP ?_)
  | (with_reducible refine i_part ?_)
  | (with_reducible refine i_int ?_)
  | (with_reducible refine i_bm ?_)
  | (with_reducible refine i_strT ?_)
  | (with_reducible refine i_yes ?_)
  | (with_reducible refine i_call ?_)
  | ((with_reducible refine i_len ?_ ?_); (focus (exact sz (by simp))))
  | (with_reducible refine i_lc ?_)
  | (with_reducible refine i_for ?_)
  | (with_reducible refine i_rng1 ?_)
  | (with_reducible refine i_rng2 ?_)
  | (with_reducible refine l_addI ?_)
  | (with_reducible refine l_subI ?_)
  | (with_reducible refine l_cmp ?_)
  | (with_reducible refine l_eqI ?_)
  | (with_reducible refine l_eqS ?_)
  | (with_reducible refine l_eqB ?_)
  | (with_reducible refine l_neI ?_)
  | (with_reducible refine l_neS ?_)
  | (with_reducible refine l_neB ?_)
  | (with_reducible refine l_isN ?_)
  | (with_reducible refine l_isNotN ?_)
  | (with_reducible refine l_isB ?_)
  | (with_reducible refine l_isNotB ?_)
  | (with_reducible refine l_intI ?_)
  | (with_reducible refine l_intB ?_)
  | (with_reducible refine l_inC ?_)
  | (refine ⟨_, _, rfl, rfl, sz (by first | omega | simp; omega), ?_⟩)
  | ((with_reducible refine l_pow ?_ ?_); (focus (exact ⟨by decide, by decide, by decide⟩)))
  | ((with_reducible refine l_mul ?_ ?_); (focus (first | assumption | exact Or.inl (Or.inl ⟨by omega, by omega⟩) | exact Or.inl (Or.inr ⟨by omega, by omega⟩))))
  | ((with_reducible refine l_div ?_ ?_); (focus (first | assumption | exact ⟨by decide, by decide⟩)))
  | ((with_reducible apply l_setL); (assumption); (exact rfl))
  | ((with_reducible refine l_mod ?_ ?_); (walk_at "side"))
  | ((with_reducible apply l_ixL); (assumption); (exact rfl))
  | ((with_reducible refine l_lenS ?_ ?_); (focus (first | assumption | exact sz (by omega) | exact sz (by simp; omega))))
  | ((with_reducible refine l_slS ?_ ?_); (focus (first | assumption | exact sz (by omega))))
  | ((with_reducible apply l_isi); (walk_at "ty"); (walk_at "kt"))
  | ((with_reducible apply l_lenL); (assumption)))
local macro_rules | `(tactic| walk_at "go") => `(tactic| repeat (walk_at "1"))
local macro_rules | `(tactic| walk_at "1") => `(tactic| first
  | (with_reducible refine i_mkS ?_)
  | (with_reducible refine i_cS ?_)
  | (with_reducible refine i_fld ?_)
  | (with_reducible refine i_sFld ?_)
  | (with_reducible refine i_tX ?_)
  | (with_reducible refine l_len2 rfl rfl ?_))
section
variable {P : Program} {w : World} {K : PySem.W.Frag} {mg : Str → Option Value} {base : Heap}
def topS (i : Nat) : Stmt := PySem.Challenge.pw_roundrules_k19_plays.main.body.getD i (.Pass ⟨0, 0, 0, 0⟩)
abbrev s_BadPlay___init__ : Stmt := inClass (topS 2) 0
theorem sc_BadPlay___init__ : FnScope ["self", "value"] ["self", "value"] (defScope s_BadPlay___init__) := ⟨rfl, rfl, rfl, by decide +kernel, rfl, by decide +kernel, by decide +kernel⟩
abbrev s_is_integer : Stmt := topS 4
theorem sc_is_integer : FnScope ["value"] ["value"] (defScope s_is_integer) := ⟨rfl, rfl, rfl, by decide +kernel, rfl, by decide +kernel, by decide +kernel⟩
abbrev s_Play___init__ : Stmt := inClass (topS 6) 0
theorem sc_Play___init__ : FnScope ["self", "numbers", "outcomes", "number", "one"] ["self", "numbers", "outcomes"] (defScope s_Play___init__) := ⟨rfl, rfl, rfl, by decide +kernel, rfl, by decide +kernel, by decide +kernel⟩
abbrev s_Play___add__ : Stmt := inClass (topS 6) 1
theorem sc_Play___add__ : FnScope ["self", "other"] ["self", "other"] (defScope s_Play___add__) := ⟨rfl, rfl, rfl, by decide +kernel, rfl, by decide +kernel, by decide +kernel⟩
abbrev s_Play___eq__ : Stmt := inClass (topS 6) 2
theorem sc_Play___eq__ : FnScope ["self", "other"] ["self", "other"] (defScope s_Play___eq__) := ⟨rfl, rfl, rfl, by decide +kernel, rfl, by decide +kernel, by decide +kernel⟩
abbrev s__law_open : Stmt := topS 8
theorem sc__law_open : FnScope ["_law_script", "_law_one"] ["_law_script"] (defScope s__law_open) := ⟨rfl, rfl, rfl, by decide +kernel, rfl, by decide +kernel, by decide +kernel⟩
abbrev s__law_draw : Stmt := topS 9
theorem sc__law_draw : FnScope ["_law_state", "_law_many", "_law_drawn", "_law_first", "_law_value"] ["_law_state", "_law_many"] (defScope s__law_draw) := ⟨rfl, rfl, rfl, by decide +kernel, rfl, by decide +kernel, by decide +kernel⟩
abbrev s__law_numbers : Stmt := topS 10
theorem sc__law_numbers : FnScope ["_law_state", "_law_turn"] ["_law_state"] (defScope s__law_numbers) := ⟨rfl, rfl, rfl, by decide +kernel, rfl, by decide +kernel, by decide +kernel⟩
abbrev s__law_outcomes : Stmt := topS 11
theorem sc__law_outcomes : FnScope ["_law_state", "_law_turn"] ["_law_state"] (defScope s__law_outcomes) := ⟨rfl, rfl, rfl, by decide +kernel, rfl, by decide +kernel, by decide +kernel⟩
abbrev s__law_is : Stmt := topS 12
theorem sc__law_is : FnScope ["_law_play", "_law_figures", "_law_answers"] ["_law_play", "_law_figures", "_law_answers"] (defScope s__law_is) := ⟨rfl, rfl, rfl, by decide +kernel, rfl, by decide +kernel, by decide +kernel⟩
abbrev s__law_refused : Stmt := topS 13
theorem sc__law_refused : FnScope ["_law_figures", "_law_answers", "_law_due", "_law_play", "e"] ["_law_figures", "_law_answers", "_law_due"] (defScope s__law_refused) := ⟨rfl, rfl, rfl, by decide +kernel, rfl, by decide +kernel, by decide +kernel⟩
abbrev s_law : Stmt := topS 14
theorem sc_law : FnScope ["_law_script", "_law_state", "_law_rows", "_law_kept", "_law_row", "_law_first", "_law_second", "_law_both", "_law_alike", "_law_at", "_law_value", "_law_figures", "_law_answers"] ["_law_script"] (defScope s_law) := ⟨rfl, rfl, rfl, by decide +kernel, rfl, by decide +kernel, by decide +kernel⟩
/-- what the top has written -/
structure Tp (K : PySem.W.Frag) (mg : Str → Option Value) (C_RoundError C_BadPlay C_Play d_Play_0 d_Play_1 : Addr) : Prop where
  m_all : mg "all" = none
  m_bool : mg "bool" = none
  m_int : mg "int" = none
  m_isinstance : mg "isinstance" = none
  m_len : mg "len" = none
  m_list : mg "list" = none
  m_range : mg "range" = none
  m_repr : mg "repr" = none
  m_tuple : mg "tuple" = none
  k_RoundError : ∃ u, mg "RoundError" = some u ∧ RelV (.ref C_RoundError) u
  k_BadPlay : ∃ u, mg "BadPlay" = some u ∧ RelV (.ref C_BadPlay) u
  x_BadPlay : ∀ (P : Program) (w : World) (base : Heap), Oex P w K mg base "BadPlay" C_BadPlay "value"
  k_Play : ∃ u, mg "Play" = some u ∧ RelV (.ref C_Play) u
  cl_Play : Cls K C_Play
  n_Play_numbers : NoAttr K C_Play "numbers"
  n_Play_outcomes : NoAttr K C_Play "outcomes"
  ty_Play : ∀ (H : Hp) (a dx : Addr) (fs : List (Str × V)), H a = some (.ins C_Play dx fs) → TyX K H (.ref a) (.ref C_Play)
  sf_Play : PySem.W.selfFirst K C_Play = true
  ne_Play : PySem.W.findIn K (.ref C_Play) "__ne__" = some (some (.builtin "object.__ne__"))
  ob_Play : PySem.W.mroIn K C_Play (.type "object") = some true
  nf_Play_NoneType : PySem.W.subIn K (.type "NoneType") (.ref C_Play) = some false
  kt_Play_NoneType : PySem.W.kitOne K (.type "NoneType") (.ref C_Play) = some false
  nf_Play_list : PySem.W.subIn K (.type "list") (.ref C_Play) = some false
  kt_Play_list : PySem.W.kitOne K (.type "list") (.ref C_Play) = some false
  nf_Play_tuple : PySem.W.subIn K (.type "tuple") (.ref C_Play) = some false
  kt_Play_tuple : PySem.W.kitOne K (.type "tuple") (.ref C_Play) = some false
  nf_Play_str : PySem.W.subIn K (.type "str") (.ref C_Play) = some false
  kt_Play_str : PySem.W.kitOne K (.type "str") (.ref C_Play) = some false
  nf_Play_int : PySem.W.subIn K (.type "int") (.ref C_Play) = some false
  kt_Play_int : PySem.W.kitOne K (.type "int") (.ref C_Play) = some false
  nf_Play_bool : PySem.W.subIn K (.type "bool") (.ref C_Play) = some false
  kt_Play_bool : PySem.W.kitOne K (.type "bool") (.ref C_Play) = some false
  nf_Play_dict : PySem.W.subIn K (.type "dict") (.ref C_Play) = some false
  kt_Play_dict : PySem.W.kitOne K (.type "dict") (.ref C_Play) = some false
  i_Play : Dk K mg "Play" C_Play "Play.__init__" s_Play___init__ [.ref d_Play_0, .ref d_Play_1]
  td_Play_0 : ∀ H : Hp, SqT K H d_Play_0 []
  td_Play_1 : ∀ H : Hp, SqT K H d_Play_1 []
  m_Play___add__ : Dm K C_Play "__add__" "Play.__add__" s_Play___add__ ["self", "other"]
  m_Play___eq__ : Dm K C_Play "__eq__" "Play.__eq__" s_Play___eq__ ["self", "other"]
  kx_BadPlay_RoundError : PySem.W.kitOne K (.ref C_BadPlay) (.ref C_RoundError) = some true
  xm_BadPlay : PySem.W.exmOne K (.ref C_BadPlay) (.ref C_BadPlay) = some true
  d_is_integer : Dd K mg "is_integer" s_is_integer ["value"]
  d__law_open : Dd K mg "_law_open" s__law_open ["_law_script"]
  d__law_draw : Dd K mg "_law_draw" s__law_draw ["_law_state", "_law_many"]
  d__law_numbers : Dd K mg "_law_numbers" s__law_numbers ["_law_state"]
  d__law_outcomes : Dd K mg "_law_outcomes" s__law_outcomes ["_law_state"]
  d__law_is : Dd K mg "_law_is" s__law_is ["_law_play", "_law_figures", "_law_answers"]
  d__law_refused : Dd K mg "_law_refused" s__law_refused ["_law_figures", "_law_answers", "_law_due"]
  d_law : Dd K mg "law" s_law ["_law_script"]
end
end K
namespace K
open PySem PySem.Spec PyProof.Rows L2 G TL
local macro_rules | `(tactic| walk_at "side") => `(tactic| focus (first | assumption | exact rfl | omega | decide))
local macro_rules | `(tactic| walk_at "ty") => `(tactic| focus (first | exact .base (.str _) | exact .base (.int _) | exact .base (.bl _) | exact .base .non | exact .base (.lst (by assumption)) | exact .base (.tup (by assumption)) | exact .base (.dK (by assumption)) | assumption))
local macro_rules | `(tactic| walk_at "kt") => `(tactic| focus (with_reducible first | exact kt_NoneType_str | exact kt_NoneType_int | exact kt_NoneType_bool | exact kt_NoneType_tuple | exact kt_NoneType_list | exact kt_NoneType_dict | exact kt_bool_str | exact kt_bool_int | exact kt_bool_bool | exact kt_bool_tuple | exact kt_bool_list | exact kt_bool_dict | exact kt_int_str | exact kt_int_int | exact kt_int_bool | exact kt_int_tuple | exact kt_int_list | exact kt_int_dict | exact kt_str_str | exact kt_str_int | exact kt_str_bool | exact kt_str_tuple | exact kt_str_list | exact kt_str_dict | exact kt_list_str | exact kt_list_int | exact kt_list_bool | exact kt_list_tuple | exact kt_list_list | exact kt_list_dict | exact kt_tuple_str | exact kt_tuple_int | exact kt_tuple_bool | exact kt_tuple_tuple | exact kt_tuple_list | exact kt_tuple_dict | exact kt_dict_str | exact kt_dict_int | exact kt_dict_bool | exact kt_dict_tuple | exact kt_dict_list | exact kt_dict_dict | assumption))
local macro_rules | `(tactic| walk_at "1") => `(tactic| first
  | (with_reducible refine i_seq ?_)
  | (with_reducible refine iteT ?_)
  | (with_reducible refine iteF ?_)
  | (with_reducible refine iteNF ?_)
  | (with_reducible refine iteNT ?_)
  | (with_reducible refine i_asg ?_)
  | (with_reducible refine i_op ?_)
  | (with_reducible refine i_c ?_)
  | ((with_reducible apply i_var); (exact rfl))
  | (with_reducible refine i_cb ?_)
  | (with_reducible refine i_cons ?_)
  | (with_reducible refine i_nil ?_)
  | (with_reducible refine i_test ?_)
  | (with_reducible refine i_b ?_)
  | (with_reducible refine i_bl ?_)
  | (with_reducible refine i_name ?_)
  | (with_reducible refine i_ifS ?_)
  | (with_reducible refine i_next ?_)
  | (with_reducible refine i_ret ?_)
  | (with_reducible refine i_drop ?_)
  | (with_reducible refine i_lst ?_)
  | (with_reducible refine i_tup ?_)
  | (with_reducible refine i_and ?_)
  | (with_reducible refine i_or ?_)
  | (with_reducible refine i_not ?_)
  | (with_reducible refine i_andV ?_)
  | (with_reducible refine i_orV ?_)
  | (with_reducible refine i_notV ?_)
  | (with_reducible refine i_if ?_)
  | (with_reducible refine i_chain ?_)
  | (with_reducible refine i_un ?_)
  | (with_reducible refine i_neg ?_)
  | (with_reducible refine i_sub ?_)
  | (with_reducible refine i_sl ?_)
  | (with_reducible refine i_noP ?_)
  | (with_reducible refine i_part ?_)
  | (with_reducible refine i_int ?_)
  | (with_reducible refine i_bm ?_)
  | (with_reducible refine i_strT ?_)
  | (with_reducible refine i_yes ?_)
  | (with_reducible refine i_call ?_)
  | ((with_reducible refine i_len ?_ ?_); (focus (exact sz (by simp))))
  | (with_reducible refine i_lc ?_)
  | (with_reducible refine i_for ?_)
  | (with_reducible refine i_rng1 ?_)
  | (with_reducible refine i_rng2 ?_)
  | (with_reducible refine l_addI ?_)
  | (with_reducible refine l_subI ?_)
  | (with_reducible refine l_cmp ?_)
  | (with_reducible refine l_eqI ?_)
  | (with_reducible refine l_eqS ?_)
  | (with_reducible refine l_eqB ?_)
  | (with_reducible refine l_neI ?_)
  | (with_reducible refine l_neS ?_)
  | (with_reducible refine l_neB ?_)
  | (with_reducible refine l_isN ?_)
  | (with_reducible refine l_isNotN ?_)
  | (with_reducible refine l_isB ?_)
  | (with_reducible refine l_isNotB ?_)
  | (with_reducible refine l_intI ?_)
  | (with_reducible refine l_intB ?_)
  | (with_reducible refine l_inC ?_)
  | (refine ⟨_, _, rfl, rfl, sz (by first | omega | simp; omega), ?_⟩)
  | ((with_reducible refine l_pow ?_ ?_); (focus (exact ⟨by decide, by decide, by decide⟩)))
  | ((with_reducible refine l_mul ?_ ?_); (focus (first | assumption | exact Or.inl (Or.inl ⟨by omega, by omega⟩) | exact Or.inl (Or.inr ⟨by omega, by omega⟩))))
  | ((with_reducible refine l_div ?_ ?_); (focus (first | assumption | exact ⟨by decide, by decide⟩)))
  | ((with_reducible apply l_setL); (assumption); (exact rfl))
  | ((with_reducible refine l_mod ?_ ?_); (walk_at "side"))
  | ((with_reducible apply l_ixL); (assumption); (exact rfl))
  | ((with_reducible refine l_lenS ?_ ?_); (focus (first | assumption | exact sz (by omega) | exact sz (by simp; omega))))
  | ((with_reducible refine l_slS ?_ ?_); (focus (first | assumption | exact sz (by omega))))
  | ((with_reducible apply l_isi); (walk_at "ty"); (walk_at "kt"))
  | ((with_reducible apply l_lenL); (assumption)))
local macro_rules | `(tactic| walk_at "go") => `(tactic| repeat (walk_at "1"))
local macro_rules | `(tactic| walk_at "1") => `(tactic| first
  | (with_reducible refine i_mkS ?_)
  | (with_reducible refine i_cS ?_)
  | (with_reducible refine i_fld ?_)
  | (with_reducible refine i_sFld ?_)
  | (with_reducible refine i_tX ?_)
  | (with_reducible refine l_len2 rfl rfl ?_))
section
variable {P : Program} {w : World} {K : PySem.W.Frag} {mg : Str → Option Value} {base : Heap}
set_option maxHeartbeats 2000000 in
theorem ok_open {C_RoundError C_BadPlay C_Play d_Play_0 d_Play_1 : Addr} (T : Tp K mg C_RoundError C_BadPlay C_Play d_Play_0 d_Play_1) : Cal P w K mg base 1 "_law_open" (spOpenL K) [] := by
  refine T.d__law_open.cal sc__law_open (fun vs H Q E h => ?_) (fun f cdv A outer s H vs Q E hr h => ?_)
  · obtain ⟨a, ns, rfl, _⟩ := h
    rfl
  · obtain ⟨a, ns, rfl, hS, hl, q⟩ := h
    have sc := sc__law_open
    refine ⟨_, 
    (pss_one (ps_ret (pe_lst (pa_cons (pe_lc (own := [("_law_one", 1)]) (by rfl) sc.nd (kIT (K := K) rfl (pe_slice (kSl (K := K) rfl) (pv 0) po_none (po_some (pe_int)))) (blkOk_by (N := ["_law_script", "_law_one"]) (sc := defScope s__law_open) (by decide +kernel)) (fun _ _ _ _ _ => pg_name (i := 1) sc.nd rfl (by first | exact Or.inl rfl | exact Or.inr rfl)) (fun _ _ _ _ _ => pts_nil) (fun _ _ _ _ _ => pe_callTy g_int (by rfl) T.m_int (by decide +kernel) (pa_cons (pv 1) pa_nil))) (pa_cons (pe_int) (pa_cons (pe_int) pa_nil)))))), ?_⟩
    try rw [cxK]
    refine i_start (τ := [some (.ref a), none]) rfl ?_
    walk_at "go"
    refine i_anyL ?_
    walk_at "go"
    refine l_slL hS (fun p hp => ?_)
    rw [cutV_map]
    generalize hzs : ((ns.drop (HT.sIx ns.length 0 none)).take (HT.sIx ns.length ns.length (some 63) - HT.sIx ns.length 0 none)) = zs
    have hp1 : upd H p (.lst (zs.map V.int)) p = some (.lst (zs.map V.int)) := upd_same
    have hzl : zs.length ≤ 63 := by
      rw [← hzs, List.length_take, List.length_drop]
      omega
    refine ⟨p, rfl, ⟨_, SqL.of hp1⟩, fun D hD => lc_list (K := K) (a := p) (xs := zs.map V.int) (fun i H' => H' p = some (.lst (zs.map V.int)) ∧ H' D = some (.lst ((zs.take i).map V.int)) ∧ Ex H H') ?_ ?_ ?_ ?_⟩
    · exact ⟨Ex.new hD _ _ hp1, upd_same, (Ex.new hp).trans (Ex.new hD)⟩
    · rintro i H' _ ⟨h1, h2, h3⟩
      exact SqL.of h1
    · rintro i x H' hx ⟨h1, h2, h3⟩
      obtain ⟨z, hz, rfl⟩ := map_at hx
      walk_at "go"
      refine ⟨rfl, ?_⟩
      walk_at "go"
      have nD : H D = none := (Ex.new hp).free hD
      have npD : p ≠ D := ne_of_none hp1 hD
      refine ⟨_, h2, szl (by rw [List.length_map, List.length_take]; omega), by rw [upd_ne npD]; exact h1, ?_, h3.mut nD⟩
      rw [upd_same, take_succ hz]
      simp
    · rintro H' ⟨h1, h2, h3⟩
      walk_at "go"
      intro st hst
      rw [List.length_map, List.take_length] at h2
      exact q st D _ (h3.free hst) ((Ex.new hp).free hD) ⟨zs, 0, 0, upd_same, Ex.new hst _ _ h2, (ne_of_none h2 hst).symm, by omega, by omega⟩ (h3.trans (Ex.new hst))
set_option maxHeartbeats 2000000 in
theorem ok_draw {C_RoundError C_BadPlay C_Play d_Play_0 d_Play_1 : Addr} (T : Tp K mg C_RoundError C_BadPlay C_Play d_Play_0 d_Play_1) : Cal P w K mg base 1 "_law_draw" spDrawL [] := by
  refine T.d__law_draw.cal sc__law_draw (fun vs H Q E h => ?_) (fun f cdv A outer s H vs Q E hr h => ?_)
  · obtain ⟨st, L, n, b, rfl, _⟩ := h
    rfl
  · obtain ⟨st, L, n, b, rfl, hn, hn2, ⟨ns, a, c, hst, hL, hne, hc0, hcb⟩, hb, q⟩ := h
    have sc := sc__law_draw
    refine ⟨_, 
    (pss_cut (ps_if (pt_cmpR gLe (pe_ix (kIx (K := K) rfl) (pv 0) (pe_int) (fun _ _ => rfl)) (pe_int) (nomark _)) (
      (pss_cons (ps_set (i := 2) sc.nd rfl (by first | exact Or.inl rfl | exact Or.inr rfl) (pe_int))
      (pss_cut (ps_if (pt_cmpR (kNe (K := K) rfl hr) (pe_ix (kIx (K := K) rfl) (pv 0) (pe_int) (fun _ _ => rfl)) (pe_lst (pa_nil)) (nomark _)) (
        (pss_one (ps_set (i := 2) sc.nd rfl (by first | exact Or.inl rfl | exact Or.inr rfl) (pe_ix (kIx (K := K) rfl) (pe_ix (kIx (K := K) rfl) (pv 0) (pe_int) (fun _ _ => rfl)) (pe_op gMod (pe_callTy g_int (by rfl) T.m_int (by decide +kernel) (pa_cons (pe_ix (kIx (K := K) rfl) (pv 0) (pe_int) (fun _ _ => rfl)) pa_nil)) (pe_callB (kLen (K := K) rfl) (by rfl) T.m_len PySem.boot_len (pa_cons (pe_ix (kIx (K := K) rfl) (pv 0) (pe_int) (fun _ _ => rfl)) pa_nil))) (fun _ _ => rfl))))) (pss_nil))
      (pss_cons (ps_asg (pe_op (kAdd (K := K) rfl) (pe_ix (kIx (K := K) rfl) (pv 0) (pe_int) (fun _ _ => rfl)) (pe_int)) (pg_sub (pv 0) (pe_int) set_list))
      (pss_cons (ps_if (pt_cmpR gLt (pv 2) (pe_op gPow (pe_int) (pe_int)) (nomark _)) (
        (pss_cons (ps_set (i := 3) sc.nd rfl (by first | exact Or.inl rfl | exact Or.inr rfl) (pe_op gMod (pe_callTy g_int (by rfl) T.m_int (by decide +kernel) (pa_cons (pe_op (kAdd (K := K) rfl) (pe_op (kAdd (K := K) rfl) (pe_op gMul (pv 2) (pe_int)) (pe_op gMul (pe_ix (kIx (K := K) rfl) (pv 0) (pe_int) (fun _ _ => rfl)) (pe_int))) (pe_int)) pa_nil)) (pe_int)))
        (pss_one (ps_ret (pe_op gMod (pe_op gDiv (pe_op gMod (pe_callTy g_int (by rfl) T.m_int (by decide +kernel) (pa_cons (pe_op (kAdd (K := K) rfl) (pe_op gMul (pv 3) (pe_int)) (pe_op gMul (pe_op gMul (pe_ix (kIx (K := K) rfl) (pv 0) (pe_int) (fun _ _ => rfl)) (pe_ix (kIx (K := K) rfl) (pv 0) (pe_int) (fun _ _ => rfl))) (pe_int))) pa_nil)) (pe_int)) (pe_int)) (pv 1)))))) (pss_nil))
      (pss_one (ps_asg (pv 2) (pg_sub (pv 0) (pe_int) set_list)))))))) (pss_nil))
    (pss_cons (ps_set (i := 4) sc.nd rfl (by first | exact Or.inl rfl | exact Or.inr rfl) (pe_op gMod (pe_callTy g_int (by rfl) T.m_int (by decide +kernel) (pa_cons (pe_ix (kIx (K := K) rfl) (pv 0) (pe_int) (fun _ _ => rfl)) pa_nil)) (pv 1)))
    (pss_cons (ps_asg (pe_op gDiv (pe_callTy g_int (by rfl) T.m_int (by decide +kernel) (pa_cons (pe_ix (kIx (K := K) rfl) (pv 0) (pe_int) (fun _ _ => rfl)) pa_nil)) (pv 1)) (pg_sub (pv 0) (pe_int) set_list))
    (pss_one (ps_ret (pv 4)))))), ?_⟩
    try rw [cxK]
    refine i_start (τ := [some (.ref st), some (.int n), none, none, none]) rfl ?_
    refine ⟨fun σ H' => ∃ (v2 v3 v4 : Option V) (a' c' : Int), σ = [some (.ref st), some (.int n), v2, v3, v4] ∧ H' st = some (.lst [.ref L, .int a', .int c']) ∧ H' L = some (.lst (ns.map V.int)) ∧ 0 ≤ c' ∧ c' ≤ (b : Int) + 1 ∧ But st H H', ?_, ?_⟩
    · walk_at "go"
      refine i_ite (fun ha => ?_) (fun ha => ?_)
      · walk_at "go"
        refine ⟨fun σ H' => ∃ (z : Int), σ = [some (.ref st), some (.int n), some (.int z), none, none] ∧ H' st = some (.lst [.ref L, .int a, .int c]) ∧ H' L = some (.lst (ns.map V.int)) ∧ But st H H', ?_, ?_⟩
        · walk_at "go"
          intro p hp
          have hst1 : upd H p (.lst []) st = some (.lst [.ref L, .int a, .int c]) := Ex.new hp _ _ hst
          have hL1 : upd H p (.lst []) L = some (.lst (ns.map V.int)) := Ex.new hp _ _ hL
          refine l_neNil hL1 upd_same ?_
          walk_at "go"
          refine i_iteN (fun h0 => ?_) (fun h0 => ?_)
          · have hl : 0 < ((ns.map V.int).length : Int) := by
              rw [List.length_map]
              have := List.length_pos_iff.mpr h0
              omega
            walk_at "go"
            obtain ⟨z, hz⟩ := at_ints (ns := ns) (i := c % ((ns.map V.int).length : Int)) (Int.emod_nonneg _ (by omega)) (by
              have := Int.emod_lt_of_pos c hl
              rw [List.length_map] at this ⊢
              exact this)
            refine l_ixL hL1 hz ?_
            walk_at "go"
            exact ⟨z, rfl, hst1, hL1, (Ex.new hp).but⟩
          · walk_at "go"
            exact ⟨0, rfl, hst1, hL1, (Ex.new hp).but⟩
        · rintro σ H' ⟨z, rfl, h1, h2, h5⟩
          walk_at "go"
          have h1' : upd H' st (.lst [.ref L, .int a, .int (c + 1)]) st = some (.lst [.ref L, .int a, .int (c + 1)]) := upd_same
          have h2' : upd H' st (.lst [.ref L, .int a, .int (c + 1)]) L = some (.lst (ns.map V.int)) := by
            rw [upd_ne hne.symm]
            exact h2
          refine i_ite (fun hz => ?_) (fun hz => ?_)
          · walk_at "go"
            exact q _ _ (Int.emod_nonneg _ (by omega)) (Int.emod_lt_of_pos _ hn) ⟨ns, _, _, h1', h2', hne, by omega, by omega⟩ h5.mut
          · walk_at "go"
            exact ⟨_, _, _, _, _, rfl, upd_same, by rw [upd_ne hne.symm]; exact h2', by omega, by omega, h5.mut.mut⟩
      · walk_at "go"
        exact ⟨_, _, _, _, _, rfl, hst, hL, hc0, by omega, But.refl H⟩
    · rintro σ H' ⟨v2, v3, v4, a', c', rfl, h1, h2, h3, h4, h5⟩
      have hdv : CDivW a' n := wide_div (b := 64) hn (by omega) (by decide) (by decide)
      walk_at "go"
      exact q _ _ (Int.emod_nonneg _ (by omega)) (Int.emod_lt_of_pos _ hn) ⟨ns, _, _, upd_same, by rw [upd_ne hne.symm]; exact h2, hne, h3, by omega⟩ h5.mut
end
end K
namespace K
open PySem PySem.Spec PyProof.Rows L2 G TL
local macro_rules | `(tactic| walk_at "side") => `(tactic| focus (first | assumption | exact rfl | omega | decide))
local macro_rules | `(tactic| walk_at "ty") => `(tactic| focus (first | exact .base (.str _) | exact .base (.int _) | exact .base (.bl _) | exact .base .non | exact .base (.lst (by assumption)) | exact .base (.tup (by assumption)) | exact .base (.dK (by assumption)) | assumption))
local macro_rules | `(tactic| walk_at "kt") => `(tactic| focus (with_reducible first | exact kt_NoneType_str | exact kt_NoneType_int | exact kt_NoneType_bool | exact kt_NoneType_tuple | exact kt_NoneType_list | exact kt_NoneType_dict | exact kt_bool_str | exact kt_bool_int | exact kt_bool_bool | exact kt_bool_tuple | exact kt_bool_list | exact kt_bool_dict | exact kt_int_str | exact kt_int_int | exact kt_int_bool | exact kt_int_tuple | exact kt_int_list | exact kt_int_dict | exact kt_str_str | exact kt_str_int | exact kt_str_bool | exact kt_str_tuple | exact kt_str_list | exact kt_str_dict | exact kt_list_str | exact kt_list_int | exact kt_list_bool | exact kt_list_tuple | exact kt_list_list | exact kt_list_dict | exact kt_tuple_str | exact kt_tuple_int | exact kt_tuple_bool | exact kt_tuple_tuple | exact kt_tuple_list | exact kt_tuple_dict | exact kt_dict_str | exact kt_dict_int | exact kt_dict_bool | exact kt_dict_tuple | exact kt_dict_list | exact kt_dict_dict | assumption))
local macro_rules | `(tactic| walk_at "1") => `(tactic| first
  | (with_reducible refine i_seq ?_)
  | (with_reducible refine iteT ?_)
  | (with_reducible refine iteF ?_)
  | (with_reducible refine iteNF ?_)
  | (with_reducible refine iteNT ?_)
  | (with_reducible refine i_asg ?_)
  | (with_reducible refine i_op ?_)
  | (with_reducible refine i_c ?_)
  | ((with_reducible apply i_var); (exact rfl))
  | (with_reducible refine i_cb ?_)
  | (with_reducible refine i_cons ?_)
  | (with_reducible refine i_nil ?_)
  | (with_reducible refine i_test ?_)
  | (with_reducible refine i_b ?_)
  | (with_reducible refine i_bl ?_)
  | (with_reducible refine i_name ?_)
  | (with_reducible refine i_ifS ?_)
  | (with_reducible refine i_next ?_)
  | (with_reducible refine i_ret ?_)
  | (with_reducible refine i_drop ?_)
  | (with_reducible refine i_lst ?_)
  | (with_reducible refine i_tup ?_)
  | (with_reducible refine i_and ?_)
  | (with_reducible refine i_or ?_)
  | (with_reducible refine i_not ?_)
  | (with_reducible refine i_andV ?_)
  | (with_reducible refine i_orV ?_)
  | (with_reducible refine i_notV ?_)
  | (with_reducible refine i_if ?_)
  | (with_reducible refine i_chain ?_)
  | (with_reducible refine i_un ?_)
  | (with_reducible refine i_neg ?_)
  | (with_reducible refine i_sub ?_)
  | (with_reducible refine i_sl ?_)
  | (with_reducible refine i_noP ?_)
  | (with_reducible refine i_part ?_)
  | (with_reducible refine i_int ?_)
  | (with_reducible refine i_bm ?_)
  | (with_reducible refine i_strT ?_)
  | (with_reducible refine i_yes ?_)
  | (with_reducible refine i_call ?_)
  | ((with_reducible refine i_len ?_ ?_); (focus (exact sz (by simp))))
  | (with_reducible refine i_lc ?_)
  | (with_reducible refine i_for ?_)
  | (with_reducible refine i_rng1 ?_)
  | (with_reducible refine i_rng2 ?_)
  | (with_reducible refine l_addI ?_)
  | (with_reducible refine l_subI ?_)
  | (with_reducible refine l_cmp ?_)
  | (with_reducible refine l_eqI ?_)
  | (with_reducible refine l_eqS ?_)
  | (with_reducible refine l_eqB ?_)
  | (with_reducible refine l_neI ?_)
  | (with_reducible refine l_neS ?_)
  | (with_reducible refine l_neB ?_)
  | (with_reducible refine l_isN ?_)
  | (with_reducible refine l_isNotN ?_)
  | (with_reducible refine l_isB ?_)
  | (with_reducible refine l_isNotB ?_)
  | (with_reducible refine l_intI ?_)
  | (with_reducible refine l_intB ?_)
  | (with_reducible refine l_inC ?_)
  | (refine ⟨_, _, rfl, rfl, sz (by first | omega | simp; omega), ?_⟩)
  | ((with_reducible refine l_pow ?_ ?_); (focus (exact ⟨by decide, by decide, by decide⟩)))
  | ((with_reducible refine l_mul ?_ ?_); (focus (first | assumption | exact Or.inl (Or.inl ⟨by omega, by omega⟩) | exact Or.inl (Or.inr ⟨by omega, by omega⟩))))
  | ((with_reducible refine l_div ?_ ?_); (focus (first | assumption | exact ⟨by decide, by decide⟩)))
  | ((with_reducible apply l_setL); (assumption); (exact rfl))
  | ((with_reducible refine l_mod ?_ ?_); (walk_at "side"))
  | ((with_reducible apply l_ixL); (assumption); (exact rfl))
  | ((with_reducible refine l_lenS ?_ ?_); (focus (first | assumption | exact sz (by omega) | exact sz (by simp; omega))))
  | ((with_reducible refine l_slS ?_ ?_); (focus (first | assumption | exact sz (by omega))))
  | ((with_reducible apply l_isi); (walk_at "ty"); (walk_at "kt"))
  | ((with_reducible apply l_lenL); (assumption)))
local macro_rules | `(tactic| walk_at "go") => `(tactic| repeat (walk_at "1"))
local macro_rules | `(tactic| walk_at "1") => `(tactic| first
  | (with_reducible refine i_mkS ?_)
  | (with_reducible refine i_cS ?_)
  | (with_reducible refine i_fld ?_)
  | (with_reducible refine i_sFld ?_)
  | (with_reducible refine i_tX ?_)
  | (with_reducible refine l_len2 rfl rfl ?_))
section
variable {P : Program} {w : World} {K : PySem.W.Frag} {mg : Str → Option Value} {base : Heap}
def spInt (K : PySem.W.Frag) : Sp := fun vs H Q _ => ∃ x, vs = [x] ∧ Kd K H x ∧ Q (.bl (isI x)) H
theorem ok_int {C_RoundError C_BadPlay C_Play d_Play_0 d_Play_1 : Addr} (T : Tp K mg C_RoundError C_BadPlay C_Play d_Play_0 d_Play_1) : Cal P w K mg base 1 "is_integer" (spInt K) [] := by
  refine T.d_is_integer.cal sc_is_integer (fun vs H Q E h => ?_) (fun f cdv A outer s H vs Q E hr h => ?_)
  · obtain ⟨x, rfl, _⟩ := h
    rfl
  · obtain ⟨x, rfl, hk, q⟩ := h
    have sc := sc_is_integer
    refine ⟨_, 
    (pss_one (ps_ret (pe_and (pe_callB (kIsi (K := K) rfl) (by rfl) T.m_isinstance (by decide +kernel) (pa_cons (pv 0) (pa_cons (gTy (n := "int") (by rfl) T.m_int (by decide +kernel)) pa_nil))) (pe_one (pe_not (pe_callB (kIsi (K := K) rfl) (by rfl) T.m_isinstance (by decide +kernel) (pa_cons (pv 0) (pa_cons (gTy (n := "bool") (by rfl) T.m_bool (by decide +kernel)) pa_nil)))))))), ?_⟩
    try rw [cxK]
    refine i_start (τ := [some x]) rfl ?_
    obtain ⟨t, ty, ⟨b, e1, e2⟩, e3, _⟩ := hk.is
    walk_at "go"
    refine i_iteB (fun eb => ?_) (fun eb => ?_)
    · walk_at "go"
      rw [e2, eb] at q
      exact q
    · rw [e2, eb] at q
      exact q
/-- what numbers, outcomes must be -/
def Bad (K : PySem.W.Frag) (H : Hp) (p : V → Bool) (v : V) : Prop := (flatV v = true ∨ ∃ p kvs, v = .ref p ∧ H p = some (.dK kvs)) ∨ ∃ xs, Sq K H v xs ∧ xs.length ≤ 1000 ∧ (∀ x ∈ xs, Kd K H x) ∧ xs.all p = false
theorem Bad.mono {K : PySem.W.Frag} {H H' : Hp} {p : V → Bool} {v : V} (h : Bad K H p v) (e : Ex H H') : Bad K H' p v := by
  rcases h with (h | ⟨a, kvs, rfl, h⟩) | ⟨xs, hs, hl, hk, ha⟩
  · exact .inl (.inl h)
  · exact .inl (.inr ⟨a, kvs, rfl, e _ _ h⟩)
  · exact .inr ⟨xs, hs.mono e, hl, fun x hx => (hk x hx).mono e, ha⟩
def plF (p q : Addr) : List (Str × V) := putF "outcomes" (.ref q) (putF "numbers" (.ref p) [])
def spPlay (K : PySem.W.Frag) (C CB : Addr) : Sp := fun vs H Q E => ∃ x dx no oo, vs = [.ref x, no, oo] ∧ H x = some (.ins C dx []) ∧
  ((∃ (ns : List Int) (bs : List Bool), Sq K H no (ns.map V.int) ∧ Sq K H oo (bs.map V.bl) ∧ ns.length ≤ 1000 ∧ bs.length ≤ 1000 ∧ ∀ H' p q, But x H H' → H' x = some (.ins C dx (plF p q)) → SqT K H' p (ns.map V.int) → SqT K H' q (bs.map V.bl) → Q .non H') ∨
    (Bad K H isI no ∧ ∀ H1 d, Ex H H1 → H1 d = none → E (.ref CB) (some d) (upd H1 d (.xd [("value", no)]))) ∨
    (∃ ns : List Int, Sq K H no (ns.map V.int) ∧ ns.length ≤ 1000 ∧ Bad K H isB oo ∧ ∀ H1 d, Ex H H1 → H1 d = none → E (.ref CB) (some d) (upd H1 d (.xd [("value", oo)]))))
/-- not isinstance(v, (tuple, list)) or not all([.. for x in v]) -/
abbrev tTst (K : PySem.W.Frag) (k i : Nat) (te : TE) (vs : List Nat) : TT := tOr (tNot (tB (tCB (rIsiA K) (tCons (tVar k) (tCons (tTup (tCons (tC (V.ty "tuple")) (tCons (tC (V.ty "list")) tNil))) tNil)))))
  (tNot (tB (tCB (rAll K) (tCons (tLc (iAny K (tVar k)) (gName i) tYes te vs) tNil))))
theorem tst_ty {K : PySem.W.Frag} {H : Hp} {v : V} {T : String} {b : Bool} {p : Addr} {Q : VK} (ty : TyX K (upd H p (.tup [.ty "tuple", .ty "list"])) v (.type T)) (e : PySem.W.kitAny K (.type T) [.type "tuple", .type "list"] = some b) (q : Q (.bl b) (upd H p (.tup [.ty "tuple", .ty "list"]))) : rIsiA K [v, .ref p] (upd H p (.tup [.ty "tuple", .ty "list"])) Q :=
  .inr ⟨v, p, [.ty "tuple", .ty "list"], .type T, _, b, rfl, upd_same, .cons (.ty _) (.cons (.ty _) .nil), ty, e, q⟩
section
variable {k i : Nat} {te : TE} {vs : List Nat} {σ : L2.St} {H : Hp} {QB : Bool → Hp → Prop} {v : V} {xs : List V} {p : V → Bool}
theorem tst_sq (hv : σ[k]? = some (some v)) (hs : Sq K H v xs) (hlen : xs.length ≤ 1000) (hw : ∀ x, wipe ((wipe σ vs).set i (some x)) vs = wipe σ vs)
    (hte : ∀ x ∈ xs, ∀ H' R, Ex H H' → (∀ H'', Ex H' H'' → R (V.bl (p x)) H'') → te ((wipe σ vs).set i (some x)) H' R) (q : ∀ H1, Ex H H1 → QB (!xs.all p) H1) : tTst K k i te vs σ H QB := by
  have go : ∀ p', H p' = none → ∃ T, TyX K (upd H p' (.tup [.ty "tuple", .ty "list"])) v (.type T) ∧ PySem.W.kitAny K (.type T) [.type "tuple", .type "list"] = some true := fun p' hp => by
    obtain ⟨a, rfl, h | h⟩ := hs
    · exact ⟨_, tyL (sqL_mono (Ex.new hp) h), kitAny_cons kt_list_tuple (fun _ => kitAny_cons kt_list_list (fun e => nomatch e) fun _ => rfl) (fun e => nomatch e)⟩
    · exact ⟨_, tyT (sqT_mono (Ex.new hp) h), kitAny_cons kt_tuple_tuple (fun e => nomatch e) fun _ => rfl⟩
  refine i_or (i_not (i_b (i_cb (i_cons (i_var hv (i_cons (i_tup (i_cons (i_c (i_cons (i_c (i_nil (i_len (sz (by simp)) fun p' hp => ?_)))))))))))))
  obtain ⟨T, ty, e⟩ := go p' hp
  refine i_nil (tst_ty ty e (i_bl ?_))
  refine iteNT (i_not (i_b (i_cb (i_cons (i_lc (lc_var (f := fun x => .bl (p x)) hv (hs.mono (Ex.new hp)) hlen hw (fun x hx H' R e => hte x hx H' R ((Ex.new hp).trans e)) fun D H' hD e hl => ?_))))))
  refine i_nil ⟨D, xs.map p, rfl, .of (by rw [hl, List.map_map]; rfl), i_bl ?_⟩
  rw [List.all_map]
  exact q H' ((Ex.new hp).trans e)
theorem tst_no {T : String} (hv : σ[k]? = some (some v)) (ty : ∀ H', Ex H H' → TyX K H' v (.type T)) (hT : PySem.W.kitAny K (.type T) [.type "tuple", .type "list"] = some false) (q : ∀ H1, Ex H H1 → QB true H1) : tTst K k i te vs σ H QB := by
  refine i_or (i_not (i_b (i_cb (i_cons (i_var hv (i_cons (i_tup (i_cons (i_c (i_cons (i_c (i_nil (i_len (sz (by simp)) fun p' hp => ?_)))))))))))))
  exact i_nil (tst_ty (ty _ (Ex.new hp)) hT (i_bl (iteNF (q _ (Ex.new hp)))))
theorem bad_ty (h : flatV v = true ∨ ∃ p kvs, v = .ref p ∧ H p = some (.dK kvs)) : ∃ T, (∀ H', Ex H H' → TyX K H' v (.type T)) ∧ PySem.W.kitAny K (.type T) [.type "tuple", .type "list"] = some false := by
  have mk : ∀ {T : String}, PySem.W.kitOne K (.type T) (.type "tuple") = some false → PySem.W.kitOne K (.type T) (.type "list") = some false → PySem.W.kitAny K (.type T) [.type "tuple", .type "list"] = some false := fun a b => kitAny_cons a (fun _ => kitAny_cons b (fun _ => rfl) fun e => nomatch e) fun e => nomatch e
  rcases h with h | ⟨p, kvs, rfl, h⟩
  · cases v with
    | non => exact ⟨_, fun _ _ => .base .non, mk kt_NoneType_tuple kt_NoneType_list⟩
    | bl b => exact ⟨_, fun _ _ => .base (.bl b), mk kt_bool_tuple kt_bool_list⟩
    | int i => exact ⟨_, fun _ _ => .base (.int i), mk kt_int_tuple kt_int_list⟩
    | str z => exact ⟨_, fun _ _ => .base (.str z), mk kt_str_tuple kt_str_list⟩
    | byt b => cases h
    | flt b => cases h
    | ref b => cases h
    | ty b => cases h
  · exact ⟨_, fun _ e => .base (.dK (e _ _ h)), mk kt_dict_tuple kt_dict_list⟩
theorem tst_bad (hv : σ[k]? = some (some v)) (hb : Bad K H p v) (hw : ∀ x, wipe ((wipe σ vs).set i (some x)) vs = wipe σ vs)
    (hte : ∀ x, Kd K H x → ∀ H' R, Ex H H' → (∀ H'', Ex H' H'' → R (V.bl (p x)) H'') → te ((wipe σ vs).set i (some x)) H' R) (q : ∀ H1, Ex H H1 → QB true H1) : tTst K k i te vs σ H QB := by
  rcases hb with h | ⟨xs, hs, hl, hk, ha⟩
  · obtain ⟨T, ty, e⟩ := bad_ty (K := K) h
    exact tst_no hv ty e q
  · exact tst_sq hv hs hl hw (fun x hx => hte x (hk x hx)) (by rw [ha]; exact q)
end
theorem ok_init {C_RoundError C_BadPlay C_Play d_Play_0 d_Play_1 : Addr} (T : Tp K mg C_RoundError C_BadPlay C_Play d_Play_0 d_Play_1) : Ini P w K mg base 3 "Play" C_Play "Play.__init__" s_Play___init__ [.ref d_Play_0, .ref d_Play_1] ["self", "numbers", "outcomes"] (spPlay K C_Play C_BadPlay) := by
  have c_is_integer : Cal P w K mg base 1 "is_integer" (spInt K) [] := ok_int T
  refine T.i_Play.ini sc_Play___init__ (fun vs H Q E h => ?_) (fun f cdv A outer s H vs Q E hr _ h => ?_)
  · obtain ⟨x, dx, no, oo, rfl, _⟩ := h
    rfl
  · obtain ⟨x, dx, no, oo, rfl, hx, h⟩ := h
    have sc := sc_Play___init__
    refine ⟨_, 
    (pss_cons (ps_if (pt_cut (PW.pt (pw_or (pt_not (pt_val (pe_callB (kIsi (K := K) rfl) (by rfl) T.m_isinstance (by decide +kernel) (pa_cons (pv 1) (pa_cons (pe_tup (pa_cons (gTy (n := "tuple") (by rfl) T.m_tuple (by decide +kernel)) (pa_cons (gTy (n := "list") (by rfl) T.m_list (by decide +kernel)) pa_nil))) pa_nil))))) (pw_or1 (pt_not (pt_val (pe_callB (cr_all rfl) (by rfl) T.m_all (by decide +kernel) (pa_cons (pe_lc (own := [("number", 3)]) (by rfl) sc.nd (kIT (K := K) rfl (pv 1)) (blkOk_by (N := ["self", "numbers", "outcomes", "number", "one"]) (sc := defScope s_Play___init__) (by decide +kernel)) (fun _ _ _ _ _ => pg_name (i := 3) sc.nd rfl (by first | exact Or.inl rfl | exact Or.inr rfl)) (fun _ _ _ _ _ => pts_nil) (fun _ _ _ _ _ => pe_c c_is_integer hr (by decide) (by rfl) (pa_cons (pv 3) pa_nil))) pa_nil)))))))) (
      (pss_one (ps_raise rfl (takes_of rfl rfl rfl rfl) (pmk_x (T.x_BadPlay P w base) hr (by decide) (by rfl) (pa_cons (pv 1) pa_nil))))) (pss_nil))
    (pss_cons (ps_if (pt_cut (PW.pt (pw_or (pt_not (pt_val (pe_callB (kIsi (K := K) rfl) (by rfl) T.m_isinstance (by decide +kernel) (pa_cons (pv 2) (pa_cons (pe_tup (pa_cons (gTy (n := "tuple") (by rfl) T.m_tuple (by decide +kernel)) (pa_cons (gTy (n := "list") (by rfl) T.m_list (by decide +kernel)) pa_nil))) pa_nil))))) (pw_or1 (pt_not (pt_val (pe_callB (cr_all rfl) (by rfl) T.m_all (by decide +kernel) (pa_cons (pe_lc (own := [("one", 4)]) (by rfl) sc.nd (kIT (K := K) rfl (pv 2)) (blkOk_by (N := ["self", "numbers", "outcomes", "number", "one"]) (sc := defScope s_Play___init__) (by decide +kernel)) (fun _ _ _ _ _ => pg_name (i := 4) sc.nd rfl (by first | exact Or.inl rfl | exact Or.inr rfl)) (fun _ _ _ _ _ => pts_nil) (fun _ _ _ _ _ => pe_callB (kIsi (K := K) rfl) (by rfl) T.m_isinstance (by decide +kernel) (pa_cons (pv 4) (pa_cons (gTy (n := "bool") (by rfl) T.m_bool (by decide +kernel)) pa_nil)))) pa_nil)))))))) (
      (pss_one (ps_raise rfl (takes_of rfl rfl rfl rfl) (pmk_x (T.x_BadPlay P w base) hr (by decide) (by rfl) (pa_cons (pv 2) pa_nil))))) (pss_nil))
    (pss_cons (ps_fld (pv 0) (pe_callTy (k_tuple (K := K) rfl) (by rfl) T.m_tuple (by decide +kernel) (pa_cons (pv 1) pa_nil)) rfl)
    (pss_one (ps_fld (pv 0) (pe_callTy (k_tuple (K := K) rfl) (by rfl) T.m_tuple (by decide +kernel) (pa_cons (pv 2) pa_nil)) rfl))))), ?_⟩
    try rw [cxK]
    refine i_start (τ := [some (.ref x), some no, some oo, none, none]) rfl ?_
    have hwN : ∀ y, wipe ((wipe [some (V.ref x), some no, some oo, none, none] [3]).set 3 (some y)) [3] = wipe [some (V.ref x), some no, some oo, none, none] [3] := fun _ => rfl
    have hwO : ∀ y, wipe ((wipe [some (V.ref x), some no, some oo, none, none] [4]).set 4 (some y)) [4] = wipe [some (V.ref x), some no, some oo, none, none] [4] := fun _ => rfl
    have teN : ∀ (H0 : Hp) (y : V), Kd K H0 y → ∀ H' (R : VK), Ex H0 H' → (∀ H'', Ex H' H'' → R (V.bl (isI y)) H'') → tCall (spInt K) [] E0 (tCons (tVar 3) tNil) ((wipe [some (V.ref x), some no, some oo, none, none] [3]).set 3 (some y)) H' R :=
      fun H0 y hk H' R e r => i_call (i_cons (i_var rfl (i_nil ⟨y, rfl, hk.mono e, r H' (Ex.refl H')⟩)))
    have teO : ∀ (H0 : Hp) (y : V), Kd K H0 y → ∀ H' (R : VK), Ex H0 H' → (∀ H'', Ex H' H'' → R (V.bl (isB y)) H'') → tCB (rIsiA K) (tCons (tVar 4) (tCons (tC (V.ty "bool")) tNil)) ((wipe [some (V.ref x), some no, some oo, none, none] [4]).set 4 (some y)) H' R :=
      fun H0 y hk H' R e r => by
        obtain ⟨t, ty, _, e3, _⟩ := (hk.mono e).is
        exact i_cb (i_cons (i_var rfl (i_cons (i_c (i_nil (l_isi ty e3 (r H' (Ex.refl H'))))))))
    have kI : ∀ (H0 : Hp) (ns : List Int), ∀ y ∈ ns.map V.int, Kd K H0 y := fun H0 ns y hy => by
      obtain ⟨n, _, rfl⟩ := List.mem_map.mp hy
      exact .inl rfl
    have kB : ∀ (H0 : Hp) (bs : List Bool), ∀ y ∈ bs.map V.bl, Kd K H0 y := fun H0 bs y hy => by
      obtain ⟨n, _, rfl⟩ := List.mem_map.mp hy
      exact .inl rfl
    have aI : ∀ ns : List Int, (ns.map V.int).all isI = true := fun ns => by rw [List.all_map]; exact List.all_eq_true.mpr fun _ _ => rfl
    have aB : ∀ bs : List Bool, (bs.map V.bl).all isB = true := fun bs => by rw [List.all_map]; exact List.all_eq_true.mpr fun _ _ => rfl
    walk_at "go"
    rcases h with ⟨ns, bs, hn, ho, l1, l2, q⟩ | ⟨hb, q⟩ | ⟨ns, hn, l1, hb, q⟩
    · refine i_cutT (fun b H1 => b = false ∧ Ex H H1) (tst_sq (p := isI) rfl hn (by simpa using l1) hwN (fun y hy => teN H y (kI H ns y hy)) fun H1 e => ⟨by rw [aI]; rfl, e⟩) ?_
      rintro _ H1 ⟨rfl, e1⟩
      walk_at "go"
      refine i_cutT (fun b H2 => b = false ∧ Ex H1 H2) (tst_sq (p := isB) rfl (ho.mono e1) (by simpa using l2) hwO (fun y hy => teO H1 y (kB H1 bs y hy)) fun H2 e => ⟨by rw [aB]; rfl, e⟩) ?_
      rintro _ H2 ⟨rfl, e2⟩
      walk_at "go"
      refine l_tupSq (hn.mono (e1.trans e2)) fun p H3 e3 hp => ?_
      have e13 := e1.trans (e2.trans e3)
      have hx3 := e13 _ _ hx
      walk_at "go"
      refine ⟨x, C_Play, dx, [], rfl, hx3, T.cl_Play, T.n_Play_numbers, by decide, ?_⟩
      walk_at "go"
      have b3 : But x H3 (upd H3 x (.ins C_Play dx (putF "numbers" (.ref p) []))) := (But.refl H3).mut
      refine l_tupSq ((ho.mono e13).but b3 hx3) fun q' H4 e4 hq => ?_
      walk_at "go"
      refine ⟨x, C_Play, dx, _, rfl, e4 _ _ upd_same, T.cl_Play, T.n_Play_outcomes, by simp [putF], ?_⟩
      walk_at "go"
      have b4 : But x H4 (upd H4 x (.ins C_Play dx (plF p q'))) := (But.refl H4).mut
      refine q _ p q' ((e13.but.trans b3).trans (e4.but.trans b4)) upd_same (sqT_but b4 (e4 _ _ upd_same) (sqT_mono e4 (sqT_but b3 hx3 hp))) (sqT_but b4 (e4 _ _ upd_same) hq)
    · refine i_cutT (fun b H1 => b = true ∧ Ex H H1) (tst_bad (p := isI) rfl hb hwN (teN H) fun H1 e => ⟨rfl, e⟩) ?_
      rintro _ H1 ⟨rfl, e1⟩
      walk_at "go"
      exact ⟨no, rfl, fun d hd => q H1 d e1 hd⟩
    · refine i_cutT (fun b H1 => b = false ∧ Ex H H1) (tst_sq (p := isI) rfl hn (by simpa using l1) hwN (fun y hy => teN H y (kI H ns y hy)) fun H1 e => ⟨by rw [aI]; rfl, e⟩) ?_
      rintro _ H1 ⟨rfl, e1⟩
      walk_at "go"
      refine i_cutT (fun b H2 => b = true ∧ Ex H1 H2) (tst_bad (p := isB) rfl (hb.mono e1) hwO (teO H1) fun H2 e => ⟨rfl, e⟩) ?_
      rintro _ H2 ⟨rfl, e2⟩
      walk_at "go"
      exact ⟨oo, rfl, fun d hd => q H2 d (e1.trans e2) hd⟩
end
end K
namespace K
open PySem PySem.Spec PyProof.Rows L2 G TL
local macro_rules | `(tactic| walk_at "side") => `(tactic| focus (first | assumption | exact rfl | omega | decide))
local macro_rules | `(tactic| walk_at "ty") => `(tactic| focus (first | exact .base (.str _) | exact .base (.int _) | exact .base (.bl _) | exact .base .non | exact .base (.lst (by assumption)) | exact .base (.tup (by assumption)) | exact .base (.dK (by assumption)) | assumption))
local macro_rules | `(tactic| walk_at "kt") => `(tactic| focus (with_reducible first | exact kt_NoneType_str | exact kt_NoneType_int | exact kt_NoneType_bool | exact kt_NoneType_tuple | exact kt_NoneType_list | exact kt_NoneType_dict | exact kt_bool_str | exact kt_bool_int | exact kt_bool_bool | exact kt_bool_tuple | exact kt_bool_list | exact kt_bool_dict | exact kt_int_str | exact kt_int_int | exact kt_int_bool | exact kt_int_tuple | exact kt_int_list | exact kt_int_dict | exact kt_str_str | exact kt_str_int | exact kt_str_bool | exact kt_str_tuple | exact kt_str_list | exact kt_str_dict | exact kt_list_str | exact kt_list_int | exact kt_list_bool | exact kt_list_tuple | exact kt_list_list | exact kt_list_dict | exact kt_tuple_str | exact kt_tuple_int | exact kt_tuple_bool | exact kt_tuple_tuple | exact kt_tuple_list | exact kt_tuple_dict | exact kt_dict_str | exact kt_dict_int | exact kt_dict_bool | exact kt_dict_tuple | exact kt_dict_list | exact kt_dict_dict | assumption))
local macro_rules | `(tactic| walk_at "1") => `(tactic| first
  | (with_reducible refine i_seq ?_)
  | (with_reducible refine iteT ?_)
  | (with_reducible refine iteF ?_)
  | (with_reducible refine iteNF ?_)
  | (with_reducible refine iteNT ?_)
  | (with_reducible refine i_asg ?_)
  | (with_reducible refine i_op ?_)
  | (with_reducible refine i_c ?_)
  | ((with_reducible apply i_var); (exact rfl))
  | (with_reducible refine i_cb ?_)
  | (with_reducible refine i_cons ?_)
  | (with_reducible refine i_nil ?_)
  | (with_reducible refine i_test ?_)
  | (with_reducible refine i_b ?_)
  | (with_reducible refine i_bl ?_)
  | (with_reducible refine i_name ?_)
  | (with_reducible refine i_ifS ?_)
  | (with_reducible refine i_next ?_)
  | (with_reducible refine i_ret ?_)
  | (with_reducible refine i_drop ?_)
  | (with_reducible refine i_lst ?_)
  | (with_reducible refine i_tup ?_)
  | (with_reducible refine i_and ?_)
  | (with_reducible refine i_or ?_)
  | (with_reducible refine i_not ?_)
  | (with_reducible refine i_andV ?_)
  | (with_reducible refine i_orV ?_)
  | (with_reducible refine i_notV ?_)
  | (with_reducible refine i_if ?_)
  | (with_reducible refine i_chain ?_)
  | (with_reducible refine i_un ?_)
  | (with_reducible refine i_neg ?_)
  | (with_reducible refine i_sub ?_)
  | (with_reducible refine i_sl ?_)
  | (with_reducible refine i_noP ?_)
  | (with_reducible refine i_part ?_)
  | (with_reducible refine i_int ?_)
  | (with_reducible refine i_bm ?_)
  | (with_reducible refine i_strT ?_)
  | (with_reducible refine i_yes ?_)
  | (with_reducible refine i_call ?_)
  | ((with_reducible refine i_len ?_ ?_); (focus (exact sz (by simp))))
  | (with_reducible refine i_lc ?_)
  | (with_reducible refine i_for ?_)
  | (with_reducible refine i_rng1 ?_)
  | (with_reducible refine i_rng2 ?_)
  | (with_reducible refine l_addI ?_)
  | (with_reducible refine l_subI ?_)
  | (with_reducible refine l_cmp ?_)
  | (with_reducible refine l_eqI ?_)
  | (with_reducible refine l_eqS ?_)
  | (with_reducible refine l_eqB ?_)
  | (with_reducible refine l_neI ?_)
  | (with_reducible refine l_neS ?_)
  | (with_reducible refine l_neB ?_)
  | (with_reducible refine l_isN ?_)
  | (with_reducible refine l_isNotN ?_)
  | (with_reducible refine l_isB ?_)
  | (with_reducible refine l_isNotB ?_)
  | (with_reducible refine l_intI ?_)
  | (with_reducible refine l_intB ?_)
  | (with_reducible refine l_inC ?_)
  | (refine ⟨_, _, rfl, rfl, sz (by first | omega | simp; omega), ?_⟩)
  | ((with_reducible refine l_pow ?_ ?_); (focus (exact ⟨by decide, by decide, by decide⟩)))
  | ((with_reducible refine l_mul ?_ ?_); (focus (first | assumption | exact Or.inl (Or.inl ⟨by omega, by omega⟩) | exact Or.inl (Or.inr ⟨by omega, by omega⟩))))
  | ((with_reducible refine l_div ?_ ?_); (focus (first | assumption | exact ⟨by decide, by decide⟩)))
  | ((with_reducible apply l_setL); (assumption); (exact rfl))
  | ((with_reducible refine l_mod ?_ ?_); (walk_at "side"))
  | ((with_reducible apply l_ixL); (assumption); (exact rfl))
  | ((with_reducible refine l_lenS ?_ ?_); (focus (first | assumption | exact sz (by omega) | exact sz (by simp; omega))))
  | ((with_reducible refine l_slS ?_ ?_); (focus (first | assumption | exact sz (by omega))))
  | ((with_reducible apply l_isi); (walk_at "ty"); (walk_at "kt"))
  | ((with_reducible apply l_lenL); (assumption)))
local macro_rules | `(tactic| walk_at "go") => `(tactic| repeat (walk_at "1"))
local macro_rules | `(tactic| walk_at "1") => `(tactic| first
  | (with_reducible refine i_mkS ?_)
  | (with_reducible refine i_cS ?_)
  | (with_reducible refine i_fld ?_)
  | (with_reducible refine i_sFld ?_)
  | (with_reducible refine i_tX ?_)
  | (with_reducible refine l_len2 rfl rfl ?_))
section
variable {P : Program} {w : World} {K : PySem.W.Frag} {mg : Str → Option Value} {base : Heap}
theorem l_addT {H : Hp} {a b : Addr} {xs ys : List V} {Q : VK} (h1 : SqT K H a xs) (h2 : SqT K H b ys) (hl : xs.length + ys.length ≤ 100000) (q : ∀ p H', Ex H H' → SqT K H' p (xs ++ ys) → Q (.ref p) H') : rAdd K (.ref a) (.ref b) H Q := by
  refine .inr ⟨a, b, xs, ys, rfl, rfl, h1, h2, sz hl, fun e => ?_, fun _ e => ?_, fun _ _ p hp => q p _ (Ex.new hp) (.of upd_same)⟩
  · subst e
    exact q b H (Ex.refl H) h2
  · subst e
    exact q a H (Ex.refl H) (by rw [List.append_nil]; exact h1)
/-- a play -/
def PlayAt (K : PySem.W.Frag) (C : Addr) (H : Hp) (v : V) (ns : List Int) (bs : List Bool) : Prop := ∃ x dx p q, v = .ref x ∧ H x = some (.ins C dx (plF p q)) ∧ SqT K H p (ns.map V.int) ∧ SqT K H q (bs.map V.bl)
theorem PlayAt.mono {C : Addr} {H H' : Hp} {v : V} {ns : List Int} {bs : List Bool} (h : PlayAt K C H v ns bs) (e : Ex H H') : PlayAt K C H' v ns bs := by
  obtain ⟨x, dx, p, q, rfl, h1, h2, h3⟩ := h
  exact ⟨x, dx, p, q, rfl, e _ _ h1, sqT_mono e h2, sqT_mono e h3⟩
theorem lk_num {p q : Addr} : (plF p q).lookup ("numbers" : Str) = some (V.ref p) := rfl
theorem lk_out {p q : Addr} : (plF p q).lookup ("outcomes" : Str) = some (V.ref q) := rfl
theorem ex_made {H H' : Hp} {x dx : Addr} {o u : HO} (hx : H x = none) (hdx : H dx = none) (b : But x (upd (upd H dx o) x u) H') : Ex H H' := fun a w ha => by
  have h1 := ne_of_none ha hx
  have h2 := ne_of_none ha hdx
  exact b a w h1 (by rw [upd_ne h1, upd_ne h2]; exact ha)
theorem ex_new2 {H : Hp} {x dx : Addr} {o u : HO} (hx : H x = none) (hdx : H dx = none) : Ex H (upd (upd H dx o) x u) := fun a w ha => by
  rw [upd_ne (ne_of_none ha hx), upd_ne (ne_of_none ha hdx)]
  exact ha
theorem play_new {C CB : Addr} {H : Hp} {no oo : V} {ns : List Int} {bs : List Bool} {Q : Addr → Hp → Prop} {E : XK} (hn : Sq K H no (ns.map V.int)) (ho : Sq K H oo (bs.map V.bl)) (l1 : ns.length ≤ 1000) (l2 : bs.length ≤ 1000) (q : ∀ x H', Ex H H' → PlayAt K C H' (.ref x) ns bs → Q x H') :
    ∀ x dx, H x = none → H dx = none → dx ≠ x → spPlay K C CB [.ref x, no, oo] (upd (upd H dx (.own x)) x (.ins C dx [])) (fun v H3 => v = .non ∧ Q x H3) E := by
  intro x dx hx hdx hne
  have e := ex_new2 (o := HO.own x) (u := HO.ins C dx []) hx hdx
  exact ⟨x, dx, no, oo, rfl, upd_same, .inl ⟨ns, bs, hn.mono e, ho.mono e, l1, l2, fun H' p q' b hx' hp hq => ⟨rfl, q _ _ (ex_made hx hdx b) ⟨x, dx, p, q', rfl, hx', hp, hq⟩⟩⟩⟩
theorem play_badN {C CB : Addr} {H : Hp} {no oo : V} {Q : Addr → Hp → Prop} {E : XK} (hb : Bad K H isI no) (q : ∀ H' d, Ex H H' → H' d = none → E (.ref CB) (some d) (upd H' d (.xd [("value", no)]))) :
    ∀ x dx, H x = none → H dx = none → dx ≠ x → spPlay K C CB [.ref x, no, oo] (upd (upd H dx (.own x)) x (.ins C dx [])) (fun v H3 => v = .non ∧ Q x H3) E := by
  intro x dx hx hdx hne
  have e := ex_new2 (o := HO.own x) (u := HO.ins C dx []) hx hdx
  exact ⟨x, dx, no, oo, rfl, upd_same, .inr (.inl ⟨hb.mono e, fun H1 d e1 hd => q H1 d (e.trans e1) hd⟩)⟩
theorem play_badO {C CB : Addr} {H : Hp} {no oo : V} {ns : List Int} {Q : Addr → Hp → Prop} {E : XK} (hn : Sq K H no (ns.map V.int)) (l1 : ns.length ≤ 1000) (hb : Bad K H isB oo) (q : ∀ H' d, Ex H H' → H' d = none → E (.ref CB) (some d) (upd H' d (.xd [("value", oo)]))) :
    ∀ x dx, H x = none → H dx = none → dx ≠ x → spPlay K C CB [.ref x, no, oo] (upd (upd H dx (.own x)) x (.ins C dx [])) (fun v H3 => v = .non ∧ Q x H3) E := by
  intro x dx hx hdx hne
  have e := ex_new2 (o := HO.own x) (u := HO.ins C dx []) hx hdx
  exact ⟨x, dx, no, oo, rfl, upd_same, .inr (.inr ⟨ns, hn.mono e, l1, hb.mono e, fun H1 d e1 hd => q H1 d (e.trans e1) hd⟩)⟩
/-! the ways in which Play is called -/
theorem mk_Play_2 {C_RoundError C_BadPlay C_Play d_Play_0 d_Play_1 : Addr} (T : Tp K mg C_RoundError C_BadPlay C_Play d_Play_0 d_Play_1) : MakG P w K mg base 3 "Play" C_Play (spPlay K C_Play C_BadPlay) 2 [] (fun vs _ => vs) :=
  (ok_init T).mak fun f fd F => by
    obtain ⟨its, h⟩ := F.kbindsD (ps := ["self", "numbers", "outcomes"]) 3 [] (fun us _ _ => us) (by simp) (fun a _ _ => a) (fun Ta kV doc pm an cdv ct us its ws l1 l2 l3 => match us, its, ws, l1, l2, l3 with | [_, _, _], [_, _], [], _, _, _ => ⟨_, rfl, rfl⟩)
    exact ⟨_, h⟩
theorem mk_Play_0 {C_RoundError C_BadPlay C_Play d_Play_0 d_Play_1 : Addr} (T : Tp K mg C_RoundError C_BadPlay C_Play d_Play_0 d_Play_1) : MakG P w K mg base 3 "Play" C_Play (spPlay K C_Play C_BadPlay) 0 [] (fun vs _ => vs ++ [.ref d_Play_0, .ref d_Play_1]) :=
  (ok_init T).mak fun f fd F => by
    obtain ⟨its, h⟩ := F.kbindsD (ps := ["self", "numbers", "outcomes"]) 1 [] (fun us its _ => us ++ its) (by simp) (fun a b _ => a.append b) (fun Ta kV doc pm an cdv ct us its ws l1 l2 l3 => match us, its, ws, l1, l2, l3 with | [_], [_, _], [], _, _, _ => ⟨_, rfl, rfl⟩)
    exact ⟨_, h⟩
theorem mk_Play_0_outcomes {C_RoundError C_BadPlay C_Play d_Play_0 d_Play_1 : Addr} (T : Tp K mg C_RoundError C_BadPlay C_Play d_Play_0 d_Play_1) : MakG P w K mg base 3 "Play" C_Play (spPlay K C_Play C_BadPlay) 0 ["outcomes"] (fun vs zs => vs ++ ([V.ref d_Play_0, V.ref d_Play_1].take 1 ++ zs)) :=
  (ok_init T).mak fun f fd F => by
    obtain ⟨its, h⟩ := F.kbindsD (ps := ["self", "numbers", "outcomes"]) 1 ["outcomes"] (fun us its ws => us ++ (its.take 1 ++ ws)) (by simp) (fun a b c => a.append ((b.take 1).append c)) (fun Ta kV doc pm an cdv ct us its ws l1 l2 l3 => match us, its, ws, l1, l2, l3 with | [_], [_, _], [_], _, _, _ => ⟨_, rfl, rfl⟩)
    exact ⟨_, h⟩
theorem mk_Play_0_numbers {C_RoundError C_BadPlay C_Play d_Play_0 d_Play_1 : Addr} (T : Tp K mg C_RoundError C_BadPlay C_Play d_Play_0 d_Play_1) : MakG P w K mg base 3 "Play" C_Play (spPlay K C_Play C_BadPlay) 0 ["numbers"] (fun vs zs => vs ++ (zs ++ [V.ref d_Play_0, V.ref d_Play_1].drop 1)) :=
  (ok_init T).mak fun f fd F => by
    obtain ⟨its, h⟩ := F.kbindsD (ps := ["self", "numbers", "outcomes"]) 1 ["numbers"] (fun us its ws => us ++ (ws ++ its.drop 1)) (by simp) (fun a b c => a.append (c.append (b.drop 1))) (fun Ta kV doc pm an cdv ct us its ws l1 l2 l3 => match us, its, ws, l1, l2, l3 with | [_], [_, _], [_], _, _, _ => ⟨_, rfl, rfl⟩)
    exact ⟨_, h⟩
def spAddP (K : PySem.W.Frag) (C : Addr) : Sp := fun vs H Q _ => ∃ v1 v2 ns bs ms cs, vs = [v1, v2] ∧ PlayAt K C H v1 ns bs ∧ PlayAt K C H v2 ms cs ∧ ns.length + ms.length ≤ 1000 ∧ bs.length + cs.length ≤ 1000 ∧ ∀ v H', Ex H H' → PlayAt K C H' v (ns ++ ms) (bs ++ cs) → Q v H'
theorem ok_add {C_RoundError C_BadPlay C_Play d_Play_0 d_Play_1 : Addr} (T : Tp K mg C_RoundError C_BadPlay C_Play d_Play_0 d_Play_1) : MetG P w K mg base false 5 C_Play "__add__" (spAddP K C_Play) ["self", "other"] := by
  have c_Play_2 := mk_Play_2 (P := P) (w := w) (base := base) T
  refine T.m_Play___add__.met sc_Play___add__ (fun vs H Q E h => ?_) (fun f cdv A outer s H vs Q E hr _ h => ?_)
  · obtain ⟨v1, v2, ns, bs, ms, cs, rfl, _⟩ := h
    rfl
  · obtain ⟨v1, v2, ns, bs, ms, cs, rfl, ⟨x, dx, p, q, rfl, hx, hp, hq⟩, ⟨y, dy, r, t, rfl, hy, hr', ht⟩, l1, l2, k⟩ := h
    have sc := sc_Play___add__
    refine ⟨_, 
    (pss_one (ps_ret (pe_mkS c_Play_2 hr (by decide) takes0 (by rfl) (pa_cons (pe_op (kAdd (K := K) rfl) (pe_fld (pv 0) rfl) (pe_fld (pv 1) rfl)) (pa_cons (pe_op (kAdd (K := K) rfl) (pe_fld (pv 0) rfl) (pe_fld (pv 1) rfl)) pa_nil))))), ?_⟩
    try rw [cxK]
    refine i_start (τ := [some (.ref x), some (.ref y)]) rfl ?_
    walk_at "go"
    refine ⟨x, C_Play, dx, _, _, rfl, hx, T.cl_Play, T.n_Play_numbers, lk_num, ?_⟩
    walk_at "go"
    refine ⟨y, C_Play, dy, _, _, rfl, hy, T.cl_Play, T.n_Play_numbers, lk_num, ?_⟩
    refine l_addT hp hr' (by simp; omega) fun pp H1 e1 h1 => ?_
    walk_at "go"
    refine ⟨x, C_Play, dx, _, _, rfl, e1 _ _ hx, T.cl_Play, T.n_Play_outcomes, lk_out, ?_⟩
    walk_at "go"
    refine ⟨y, C_Play, dy, _, _, rfl, e1 _ _ hy, T.cl_Play, T.n_Play_outcomes, lk_out, ?_⟩
    refine l_addT (sqT_mono e1 hq) (sqT_mono e1 ht) (by simp; omega) fun qq H2 e2 h2 => ?_
    walk_at "go"
    rw [← List.map_append] at h1 h2
    exact play_new (.t (sqT_mono e2 h1)) (.t h2) (by simp; omega) (by simp; omega) fun v H' e h => k (.ref v) H' (e1.trans (e2.trans e)) h
/-! == of plays -/
theorem dp_bls {K : PySem.W.Frag} {H : Hp} : ∀ bs : List Bool, DpAll K H (bs.map V.bl) (bs.map PyData.bool)
  | [] => .nil
  | n :: ns => .cons (.bl n) (dp_bls ns)
theorem lay_bls : ∀ ns : List Bool, PyData.canLayAll0 (ns.map PyData.bool) = true
  | [] => by simp [PyData.canLayAll0]
  | n :: ns => by
    rw [List.map_cons, PyData.canLayAll0, lay_bls ns]
    simp [PyData.canLay0]
theorem depth_bls : ∀ ns : List Bool, PyData.depthAll (ns.map PyData.bool) ≤ 1
  | [] => by simp [PyData.depthAll]
  | n :: ns => by
    have := depth_bls ns
    rw [List.map_cons, PyData.depthAll]
    simp [PyData.depth]
    exact this
theorem eqv_ints : ∀ ns ms : List Int, PyData.eqvAll (ns.map .int) (ms.map .int) = decide (ns = ms)
  | [], [] => by simp [PyData.eqvAll]
  | [], _ :: _ => by simp [PyData.eqvAll]
  | _ :: _, [] => by simp [PyData.eqvAll]
  | n :: ns, m :: ms => by
    rw [List.map_cons, List.map_cons, PyData.eqvAll, eqv_ints ns ms, PyData.eqv]
    by_cases h1 : n = m <;> by_cases h2 : ns = ms <;> simp [h1, h2]
theorem eqv_bls : ∀ ns ms : List Bool, PyData.eqvAll (ns.map .bool) (ms.map .bool) = decide (ns = ms)
  | [], [] => by simp [PyData.eqvAll]
  | [], _ :: _ => by simp [PyData.eqvAll]
  | _ :: _, [] => by simp [PyData.eqvAll]
  | n :: ns, m :: ms => by
    rw [List.map_cons, List.map_cons, PyData.eqvAll, eqv_bls ns ms, PyData.eqv]
    by_cases h1 : n = m <;> by_cases h2 : ns = ms <;> simp [h1, h2]
theorem sh_two (ns : List Int) (bs : List Bool) : SeqAt.shaped (.tuple [.tuple (ns.map .int), .tuple (bs.map .bool)]) = true := by
  unfold SeqAt.shaped
  have h1 := depth_ints ns
  have h2 := depth_bls bs
  simp only [PyData.canLay0, PyData.canLayAll0, lay_ints, lay_bls, PyData.depth, PyData.depthAll]
  simp
  omega
theorem eqv_two (ns ms : List Int) (bs cs : List Bool) : PyData.eqv (.tuple [.tuple (ns.map .int), .tuple (bs.map .bool)]) (.tuple [.tuple (ms.map .int), .tuple (cs.map .bool)]) = (decide (ns = ms) && decide (bs = cs)) := by
  simp [PyData.eqv, PyData.eqvAll, eqv_ints, eqv_bls]
def spEqP (K : PySem.W.Frag) (C : Addr) : Sp := fun vs H Q _ => ∃ v y ns bs, vs = [v, y] ∧ PlayAt K C H v ns bs ∧ ((∃ ms cs, PlayAt K C H y ms cs ∧ ∀ H', Ex H H' → Q (.bl (decide (ns = ms) && decide (bs = cs))) H') ∨ (∃ xs, Sq K H y xs ∧ Q (.bl false) H))
theorem ok_eq {C_RoundError C_BadPlay C_Play d_Play_0 d_Play_1 : Addr} (T : Tp K mg C_RoundError C_BadPlay C_Play d_Play_0 d_Play_1) : MetG P w K mg base false 1 C_Play "__eq__" (spEqP K C_Play) ["self", "other"] := by
  refine T.m_Play___eq__.met sc_Play___eq__ (fun vs H Q E h => ?_) (fun f cdv A outer s H vs Q E hr _ h => ?_)
  · obtain ⟨v, y, ns, bs, rfl, _⟩ := h
    rfl
  · obtain ⟨v, y, ns, bs, rfl, ⟨x, dx, p, q, rfl, hx, hp, hq⟩, h⟩ := h
    have sc := sc_Play___eq__
    refine ⟨_, 
    (pss_one (ps_ret (pe_and (pe_callB (kIsi (K := K) rfl) (by rfl) T.m_isinstance (by decide +kernel) (pa_cons (pv 1) (pa_cons (pe_gc (by rfl) T.k_Play) pa_nil))) (pe_one (pe_cmpR (kEq (K := K) rfl hr) (pe_tup (pa_cons (pe_fld (pv 0) rfl) (pa_cons (pe_fld (pv 0) rfl) pa_nil))) (pe_tup (pa_cons (pe_fld (pv 1) rfl) (pa_cons (pe_fld (pv 1) rfl) pa_nil))) (nomark _)))))), ?_⟩
    try rw [cxK]
    refine i_start (τ := [some (.ref x), some y]) rfl ?_
    walk_at "go"
    rcases h with ⟨ms, cs, ⟨y, dy, r, t, rfl, hy, hr', ht⟩, k⟩ | ⟨xs, hs, k⟩
    · refine .inl ⟨_, _, _, _, true, rfl, .own _, T.ty_Play _ _ _ _ hy, kit_self, ?_⟩
      walk_at "go"
      refine ⟨x, C_Play, dx, _, _, rfl, hx, T.cl_Play, T.n_Play_numbers, lk_num, ?_⟩
      walk_at "go"
      refine ⟨x, C_Play, dx, _, _, rfl, hx, T.cl_Play, T.n_Play_outcomes, lk_out, ?_⟩
      walk_at "go"
      intro p1 hp1
      have e1 : Ex H (upd H p1 (.tup [.ref p, .ref q])) := Ex.new hp1
      walk_at "go"
      refine ⟨y, C_Play, dy, _, _, rfl, e1 _ _ hy, T.cl_Play, T.n_Play_numbers, lk_num, ?_⟩
      walk_at "go"
      refine ⟨y, C_Play, dy, _, _, rfl, e1 _ _ hy, T.cl_Play, T.n_Play_outcomes, lk_out, ?_⟩
      walk_at "go"
      intro p2 hp2
      have e2 : Ex (upd H p1 (.tup [.ref p, .ref q])) (upd (upd H p1 (.tup [.ref p, .ref q])) p2 (.tup [.ref r, .ref t])) := Ex.new hp2
      have e12 := e1.trans e2
      refine .inr ⟨_, _, .tup (.of (e2 _ _ upd_same)) (.cons (.tup (sqT_mono e12 hp) (dp_ints ns)) (.cons (.tup (sqT_mono e12 hq) (dp_bls bs)) .nil)), .tup (.of upd_same) (.cons (.tup (sqT_mono e12 hr') (dp_ints ms)) (.cons (.tup (sqT_mono e12 ht) (dp_bls cs)) .nil)), sh_two ns bs, sh_two ms cs, ?_⟩
      rw [eqv_two]
      exact k _ e12
    · obtain ⟨a, rfl, hs | hs⟩ := hs
      · refine .inl ⟨_, _, _, _, false, rfl, .own _, tyL hs, T.kt_Play_list, ?_⟩
        walk_at "go"
        exact k
      · refine .inl ⟨_, _, _, _, false, rfl, .own _, tyT hs, T.kt_Play_tuple, ?_⟩
        walk_at "go"
        exact k
section
variable {H : Hp} {x y : V} {ns ms : List Int} {bs cs : List Bool} {Q : VK}
theorem add_PP {C : Addr} (h1 : PlayAt K C H x ns bs) (h2 : PlayAt K C H y ms cs) (l1 : ns.length + ms.length ≤ 1000) (l2 : bs.length + cs.length ≤ 1000) (q : ∀ v H', Ex H H' → PlayAt K C H' v (ns ++ ms) (bs ++ cs) → Q v H') : rAddI C (spAddP K C) x y H Q := by
  have g1 := h1
  have g2 := h2
  obtain ⟨a, dx, p, q', rfl, hx, _, _⟩ := h1
  obtain ⟨b, dy, r, t, rfl, hy, _, _⟩ := h2
  exact ⟨a, dx, _, b, dy, _, rfl, hx, rfl, hy, _, _, ns, bs, ms, cs, rfl, g1, g2, l1, l2, q⟩
theorem eq_PP {C_RoundError C_BadPlay C_Play d_Play_0 d_Play_1 : Addr} (T : Tp K mg C_RoundError C_BadPlay C_Play d_Play_0 d_Play_1) (h1 : PlayAt K C_Play H x ns bs) (h2 : PlayAt K C_Play H y ms cs) (q : ∀ H', Ex H H' → Q (.bl (decide (ns = ms) && decide (bs = cs))) H') : rOpI K C_Play (spEqP K C_Play) x y H Q := by
  have g1 := h1
  have g2 := h2
  obtain ⟨a, dx, p, q', rfl, hx, _, _⟩ := h1
  obtain ⟨b, dy, r, t, rfl, hy, _, _⟩ := h2
  exact ⟨a, dx, _, _, rfl, hx, T.ty_Play _ _ _ _ hy, nf_self, _, _, ns, bs, rfl, g1, .inl ⟨ms, cs, g2, q⟩⟩
theorem ne_PP {C_RoundError C_BadPlay C_Play d_Play_0 d_Play_1 : Addr} (T : Tp K mg C_RoundError C_BadPlay C_Play d_Play_0 d_Play_1) (h1 : PlayAt K C_Play H x ns bs) (h2 : PlayAt K C_Play H y ms cs) (q : ∀ H', Ex H H' → Q (.bl (!(decide (ns = ms) && decide (bs = cs)))) H') : rNeI K C_Play (spEqP K C_Play) x y H Q := by
  have g1 := h1
  have g2 := h2
  obtain ⟨a, dx, p, q', rfl, hx, _, _⟩ := h1
  obtain ⟨b, dy, r, t, rfl, hy, _, _⟩ := h2
  exact ⟨a, dx, _, _, rfl, hx, T.ty_Play _ _ _ _ hy, nf_self, _, _, ns, bs, rfl, g1, .inl ⟨ms, cs, g2, fun H' e => ⟨_, rfl, q H' e⟩⟩⟩
theorem eq_PT {C_RoundError C_BadPlay C_Play d_Play_0 d_Play_1 : Addr} (T : Tp K mg C_RoundError C_BadPlay C_Play d_Play_0 d_Play_1) {p : Addr} {xs : List V} (h1 : PlayAt K C_Play H x ns bs) (h2 : SqT K H p xs) (q : Q (.bl false) H) : rOpI K C_Play (spEqP K C_Play) x (.ref p) H Q := by
  have g1 := h1
  obtain ⟨a, dx, p', q', rfl, hx, _, _⟩ := h1
  exact ⟨a, dx, _, _, rfl, hx, tyT h2, nf_of T.nf_Play_tuple, _, _, ns, bs, rfl, g1, .inr ⟨xs, .t h2, q⟩⟩
end
end
end K
namespace K
open PySem PySem.Spec PyProof.Rows L2 G TL
local macro_rules | `(tactic| walk_at "side") => `(tactic| focus (first | assumption | exact rfl | omega | decide))
local macro_rules | `(tactic| walk_at "ty") => `(tactic| focus (first | exact .base (.str _) | exact .base (.int _) | exact .base (.bl _) | exact .base .non | exact .base (.lst (by assumption)) | exact .base (.tup (by assumption)) | exact .base (.dK (by assumption)) | assumption))
local macro_rules | `(tactic| walk_at "kt") => `(tactic| focus (with_reducible first | exact kt_NoneType_str | exact kt_NoneType_int | exact kt_NoneType_bool | exact kt_NoneType_tuple | exact kt_NoneType_list | exact kt_NoneType_dict | exact kt_bool_str | exact kt_bool_int | exact kt_bool_bool | exact kt_bool_tuple | exact kt_bool_list | exact kt_bool_dict | exact kt_int_str | exact kt_int_int | exact kt_int_bool | exact kt_int_tuple | exact kt_int_list | exact kt_int_dict | exact kt_str_str | exact kt_str_int | exact kt_str_bool | exact kt_str_tuple | exact kt_str_list | exact kt_str_dict | exact kt_list_str | exact kt_list_int | exact kt_list_bool | exact kt_list_tuple | exact kt_list_list | exact kt_list_dict | exact kt_tuple_str | exact kt_tuple_int | exact kt_tuple_bool | exact kt_tuple_tuple | exact kt_tuple_list | exact kt_tuple_dict | exact kt_dict_str | exact kt_dict_int | exact kt_dict_bool | exact kt_dict_tuple | exact kt_dict_list | exact kt_dict_dict | assumption))
local macro_rules | `(tactic| walk_at "1") => `(tactic| first
  | (with_reducible refine i_seq ?_)
  | (with_reducible refine iteT ?_)
  | (with_reducible refine iteF ?_)
  | (with_reducible refine iteNF ?_)
  | (with_reducible refine iteNT ?_)
  | (with_reducible refine i_asg ?_)
  | (with_reducible refine i_op ?_)
  | (with_reducible refine i_c ?_)
  | ((with_reducible apply i_var); (exact rfl))
  | (with_reducible refine i_cb ?_)
  | (with_reducible refine i_cons ?_)
  | (with_reducible refine i_nil ?_)
  | (with_reducible refine i_test ?_)
  | (with_reducible refine i_b ?_)
  | (with_reducible refine i_bl ?_)
  | (with_reducible refine i_name ?_)
  | (with_reducible refine i_ifS ?_)
  | (with_reducible refine i_next ?_)
  | (with_reducible refine i_ret ?_)
  | (with_reducible refine i_drop ?_)
  | (with_reducible refine i_lst ?_)
  | (with_reducible refine i_tup ?_)
  | (with_reducible refine i_and ?_)
  | (with_reducible refine i_or ?_)
  | (with_reducible refine i_not ?_)
  | (with_reducible refine i_andV ?_)
  | (with_reducible refine i_orV ?_)
  | (with_reducible refine i_notV ?_)
  | (with_reducible refine i_if ?_)
  | (with_reducible refine i_chain ?_)
  | (with_reducible refine i_un ?_)
  | (with_reducible refine i_neg ?_)
  | (with_reducible refine i_sub ?_)
  | (with_reducible refine i_sl ?_)
  | (with_reducible refine i_noP ?_)
  | (with_reducible refine i_part ?_)
  | (with_reducible refine i_int ?_)
  | (with_reducible refine i_bm ?_)
  | (with_reducible refine i_strT ?_)
  | (with_reducible refine i_yes ?_)
  | (with_reducible refine i_call ?_)
  | ((with_reducible refine i_len ?_ ?_); (focus (exact sz (by simp))))
  | (with_reducible refine i_lc ?_)
  | (with_reducible refine i_for ?_)
  | (with_reducible refine i_rng1 ?_)
  | (with_reducible refine i_rng2 ?_)
  | (with_reducible refine l_addI ?_)
  | (with_reducible refine l_subI ?_)
  | (with_reducible refine l_cmp ?_)
  | (with_reducible refine l_eqI ?_)
  | (with_reducible refine l_eqS ?_)
  | (with_reducible refine l_eqB ?_)
  | (with_reducible refine l_neI ?_)
  | (with_reducible refine l_neS ?_)
  | (with_reducible refine l_neB ?_)
  | (with_reducible refine l_isN ?_)
  | (with_reducible refine l_isNotN ?_)
  | (with_reducible refine l_isB ?_)
  | (with_reducible refine l_isNotB ?_)
  | (with_reducible refine l_intI ?_)
  | (with_reducible refine l_intB ?_)
  | (with_reducible refine l_inC ?_)
  | (refine ⟨_, _, rfl, rfl, sz (by first | omega | simp; omega), ?_⟩)
  | ((with_reducible refine l_pow ?_ ?_); (focus (exact ⟨by decide, by decide, by decide⟩)))
  | ((with_reducible refine l_mul ?_ ?_); (focus (first | assumption | exact Or.inl (Or.inl ⟨by omega, by omega⟩) | exact Or.inl (Or.inr ⟨by omega, by omega⟩))))
  | ((with_reducible refine l_div ?_ ?_); (focus (first | assumption | exact ⟨by decide, by decide⟩)))
  | ((with_reducible apply l_setL); (assumption); (exact rfl))
  | ((with_reducible refine l_mod ?_ ?_); (walk_at "side"))
  | ((with_reducible apply l_ixL); (assumption); (exact rfl))
  | ((with_reducible refine l_lenS ?_ ?_); (focus (first | assumption | exact sz (by omega) | exact sz (by simp; omega))))
  | ((with_reducible refine l_slS ?_ ?_); (focus (first | assumption | exact sz (by omega))))
  | ((with_reducible apply l_isi); (walk_at "ty"); (walk_at "kt"))
  | ((with_reducible apply l_lenL); (assumption)))
local macro_rules | `(tactic| walk_at "go") => `(tactic| repeat (walk_at "1"))
local macro_rules | `(tactic| walk_at "1") => `(tactic| first
  | (with_reducible refine i_mkS ?_)
  | (with_reducible refine i_cS ?_)
  | (with_reducible refine i_fld ?_)
  | (with_reducible refine i_sFld ?_)
  | (with_reducible refine i_tX ?_)
  | (with_reducible refine l_len2 rfl rfl ?_))
section
variable {P : Program} {w : World} {K : PySem.W.Frag} {mg : Str → Option Value} {base : Heap}
theorem PlayAt.dl {C : Addr} {H H' : Hp} {st L : Addr} {b : Nat} {v : V} {ns : List Int} {bs : List Bool} (h : PlayAt K C H v ns bs) (d : Dl H st L b) (e : But st H H') : PlayAt K C H' v ns bs := by
  obtain ⟨x, dx, p, q, rfl, h1, h2, h3⟩ := h
  exact ⟨x, dx, p, q, rfl, e _ _ (d.ins_ne h1) h1, sqT_dl d e h2, sqT_dl d e h3⟩
def spNums : Sp := fun vs H Q _ => ∃ (st L : Addr) (b : Nat), vs = [.ref st] ∧ Dl H st L b ∧ b < 2 ^ 59 ∧
  ∀ (p : Addr) (ns : List Int) (H' : Hp), H p = none → H' p = some (.lst (ns.map V.int)) → ns.length ≤ 6 → (∀ n ∈ ns, n.natAbs < 10 ^ 39) → Dl H' st L (b + 30) → But st H H' → Q (.ref p) H'
def spOuts : Sp := fun vs H Q _ => ∃ (st L : Addr) (b : Nat), vs = [.ref st] ∧ Dl H st L b ∧ b < 2 ^ 59 ∧
  ∀ (p : Addr) (bs : List Bool) (H' : Hp), H p = none → H' p = some (.lst (bs.map V.bl)) → bs.length ≤ 6 → Dl H' st L (b + 30) → But st H H' → Q (.ref p) H'
theorem ok_outs {C_RoundError C_BadPlay C_Play d_Play_0 d_Play_1 : Addr} (T : Tp K mg C_RoundError C_BadPlay C_Play d_Play_0 d_Play_1) : Cal P w K mg base 2 "_law_outcomes" spOuts [] := by
  have c__law_draw : Cal P w K mg base 1 "_law_draw" spDrawL [] := ok_draw T
  refine T.d__law_outcomes.cal sc__law_outcomes (fun vs H Q E h => ?_) (fun f cdv A outer s H vs Q E hr h => ?_)
  · obtain ⟨st, L, b, rfl, _⟩ := h
    rfl
  · obtain ⟨st, L, b, rfl, hD, hb, q⟩ := h
    have sc := sc__law_outcomes
    refine ⟨_, 
    (pss_one (ps_ret (pe_lc (own := [("_law_turn", 1)]) (by rfl) sc.nd (pi_range1 (by rfl) T.m_range (pa_cons (pe_c c__law_draw hr (by decide) (by rfl) (pa_cons (pv 0) (pa_cons (pe_int) pa_nil))) pa_nil)) (blkOk_by (N := ["_law_state", "_law_turn"]) (sc := defScope s__law_outcomes) (by decide +kernel)) (fun _ _ _ _ _ => pg_name (i := 1) sc.nd rfl (by first | exact Or.inl rfl | exact Or.inr rfl)) (fun _ _ _ _ _ => pts_nil) (fun _ _ _ _ _ => pe_cmpR (kEq (K := K) rfl hr) (pe_c c__law_draw hr (by decide) (by rfl) (pa_cons (pv 0) (pa_cons (pe_int) pa_nil))) (pe_int) (nomark _))))), ?_⟩
    try rw [cxK]
    refine i_start (τ := [some (.ref st), none]) rfl ?_
    walk_at "go"
    refine drawL hD (by decide) (by decide) (by omega) fun r H1 r0 r1 hD1 b1 => ?_
    walk_at "go"
    refine ⟨r, rfl, by omega, by omega, ?_⟩
    intro DD hDD
    obtain ⟨n1, n2⟩ := hD1.ne hDD
    have h0D := b1.free n1 hDD
    refine lc_range (fun i H' => ∃ bs : List Bool, H' DD = some (.lst (bs.map V.bl)) ∧ bs.length = i ∧ Dl H' st L (b + 1 + i) ∧ But st H H') ⟨[], upd_same, rfl, (hD1.mono (Ex.new hDD)).up (by omega), b1.put h0D⟩ ?_ ?_
    · rintro i H' hi ⟨bs, hl, hn, hd, hB⟩
      have hi6 : i < 7 := by omega
      refine ⟨rfl, ?_⟩
      walk_at "go"
      refine drawL hd (by decide) (by decide) (by omega) fun r' H2 r0' r1' hD2 b2 => ?_
      walk_at "go"
      refine ⟨_, b2 _ _ n1 hl, szl (by simp; omega), bs ++ [decide (r' = 1)], ?_, by simp [hn], (hD2.put n1 n2).up (by omega), (hB.trans b2).put h0D⟩
      rw [upd_same, List.map_append]
      rfl
    · rintro H' ⟨bs, hl, hn, hd, hB⟩
      exact q DD bs H' h0D hl (by omega) (hd.up (by omega)) hB
theorem ok_nums {C_RoundError C_BadPlay C_Play d_Play_0 d_Play_1 : Addr} (T : Tp K mg C_RoundError C_BadPlay C_Play d_Play_0 d_Play_1) : Cal P w K mg base 2 "_law_numbers" spNums [] := by
  have c__law_draw : Cal P w K mg base 1 "_law_draw" spDrawL [] := ok_draw T
  refine T.d__law_numbers.cal sc__law_numbers (fun vs H Q E h => ?_) (fun f cdv A outer s H vs Q E hr h => ?_)
  · obtain ⟨st, L, b, rfl, _⟩ := h
    rfl
  · obtain ⟨st, L, b, rfl, hD, hb, q⟩ := h
    have sc := sc__law_numbers
    refine ⟨_, 
    (pss_one (ps_ret (pe_lc (own := [("_law_turn", 1)]) (by rfl) sc.nd (pi_range1 (by rfl) T.m_range (pa_cons (pe_c c__law_draw hr (by decide) (by rfl) (pa_cons (pv 0) (pa_cons (pe_int) pa_nil))) pa_nil)) (blkOk_by (N := ["_law_state", "_law_turn"]) (sc := defScope s__law_numbers) (by decide +kernel)) (fun _ _ _ _ _ => pg_name (i := 1) sc.nd rfl (by first | exact Or.inl rfl | exact Or.inr rfl)) (fun _ _ _ _ _ => pts_nil) (fun _ _ _ _ _ => pe_op gMul (pe_op gMul (pe_c c__law_draw hr (by decide) (by rfl) (pa_cons (pv 0) (pa_cons (pe_op gPow (pe_int) (pe_int)) pa_nil))) (pe_ix (kIx (K := K) rfl) (pe_lst (pa_cons (pe_int) (pa_cons (pe_int) (pa_cons (pe_op gPow (pe_int) (pe_int)) pa_nil)))) (pe_c c__law_draw hr (by decide) (by rfl) (pa_cons (pv 0) (pa_cons (pe_int) pa_nil))) (fun _ _ => rfl))) (pe_ix (kIx (K := K) rfl) (pe_lst (pa_cons (pe_int) (pa_cons (pe_un un_neg (pe_int)) pa_nil))) (pe_c c__law_draw hr (by decide) (by rfl) (pa_cons (pv 0) (pa_cons (pe_int) pa_nil))) (fun _ _ => rfl)))))), ?_⟩
    try rw [cxK]
    refine i_start (τ := [some (.ref st), none]) rfl ?_
    walk_at "go"
    refine drawL hD (by decide) (by decide) (by omega) fun r H1 r0 r1 hD1 b1 => ?_
    walk_at "go"
    refine ⟨r, rfl, by omega, by omega, ?_⟩
    intro DD hDD
    obtain ⟨n1, n2⟩ := hD1.ne hDD
    have h0D := b1.free n1 hDD
    refine lc_range (fun i H' => ∃ ns : List Int, H' DD = some (.lst (ns.map V.int)) ∧ ns.length = i ∧ (∀ n ∈ ns, n.natAbs < 10 ^ 39) ∧ Dl H' st L (b + 1 + 3 * i) ∧ But st H H') ⟨[], upd_same, rfl, (fun n h => nomatch h), (hD1.mono (Ex.new hDD)).up (by omega), b1.put h0D⟩ ?_ ?_
    · rintro i H' hi ⟨ns, hl, hn, hbd, hd, hB⟩
      have hi6 : i < 7 := by omega
      refine ⟨rfl, ?_⟩
      walk_at "go"
      refine drawL hd (by decide) (by decide) (by omega) fun x1 H2 a0 a1' hD2 b2 => ?_
      have a1 : x1 < 1000000000000000000 := a1'
      walk_at "go"
      intro p hp
      have hD2' : Dl (upd H2 p (.lst [.int 1, .int 1, .int (10 ^ Int.toNat 21)])) st L (b + 1 + 3 * i + 1) := hD2.mono (Ex.new hp)
      walk_at "go"
      refine drawL hD2' (by decide) (by decide) (by omega) fun k H3 k0 k1 hD3 b3 => ?_
      obtain ⟨np1, np2⟩ := hD2.ne hp
      have hp3 := b3 _ _ np1 upd_same
      obtain ⟨y, hy, ey⟩ := at_list (xs := [V.int 1, V.int 1, V.int (10 ^ Int.toNat 21)]) k0 (by simpa using k1)
      obtain ⟨m, rfl, hm⟩ : ∃ m : Int, y = .int m ∧ (m = 1 ∨ m = 1000000000000000000000) := by
        simp only [List.mem_cons, List.not_mem_nil, or_false] at hy
        rcases hy with rfl | rfl | rfl
        · exact ⟨_, rfl, .inl rfl⟩
        · exact ⟨_, rfl, .inl rfl⟩
        · exact ⟨_, rfl, .inr (by decide)⟩
      refine l_ixL hp3 ey ?_
      refine l_mul (.inl (.inl ⟨by omega, by omega⟩)) ?_
      walk_at "go"
      intro p2 hp2
      have hD3' : Dl (upd H3 p2 (.lst [.int 1, .int (-1)])) st L (b + 1 + 3 * i + 1 + 1) := hD3.mono (Ex.new hp2)
      walk_at "go"
      refine drawL hD3' (by decide) (by decide) (by omega) fun k' H4 k0' k1' hD4 b4 => ?_
      obtain ⟨np3, np4⟩ := hD3.ne hp2
      have hp4 := b4 _ _ np3 upd_same
      obtain ⟨y', hy', ey'⟩ := at_list (xs := [V.int 1, V.int (-1)]) k0' (by simpa using k1')
      obtain ⟨e, rfl, he⟩ : ∃ m : Int, y' = .int m ∧ (m = 1 ∨ m = -1) := by
        simp only [List.mem_cons, List.not_mem_nil, or_false] at hy'
        rcases hy' with rfl | rfl
        · exact ⟨_, rfl, .inl rfl⟩
        · exact ⟨_, rfl, .inr rfl⟩
      refine l_ixL hp4 ey' ?_
      refine l_mul (.inl (.inr ⟨by omega, by omega⟩)) ?_
      have bb := b2.trans ((Ex.new hp).but.trans (b3.trans ((Ex.new hp2).but.trans b4)))
      refine ⟨_, bb _ _ n1 hl, szl (by simp; omega), ns ++ [x1 * m * e], ?_, by simp [hn], fun n hn' => ?_, (hD4.put n1 n2).up (by omega), (hB.trans bb).put h0D⟩
      · rw [upd_same, List.map_append]
        rfl
      · rcases List.mem_append.mp hn' with h | h
        · exact hbd n h
        · rw [List.mem_singleton] at h
          subst h
          rcases hm with rfl | rfl <;> rcases he with rfl | rfl <;> omega
    · rintro H' ⟨ns, hl, hn, hbd, hd, hB⟩
      exact q DD ns H' h0D hl (by omega) hbd (hd.up (by omega)) hB
end
end K
namespace K
open PySem PySem.Spec PyProof.Rows L2 G TL
local macro_rules | `(tactic| walk_at "side") => `(tactic| focus (first | assumption | exact rfl | omega | decide))
local macro_rules | `(tactic| walk_at "ty") => `(tactic| focus (first | exact .base (.str _) | exact .base (.int _) | exact .base (.bl _) | exact .base .non | exact .base (.lst (by assumption)) | exact .base (.tup (by assumption)) | exact .base (.dK (by assumption)) | assumption))
local macro_rules | `(tactic| walk_at "kt") => `(tactic| focus (with_reducible first | exact kt_NoneType_str | exact kt_NoneType_int | exact kt_NoneType_bool | exact kt_NoneType_tuple | exact kt_NoneType_list | exact kt_NoneType_dict | exact kt_bool_str | exact kt_bool_int | exact kt_bool_bool | exact kt_bool_tuple | exact kt_bool_list | exact kt_bool_dict | exact kt_int_str | exact kt_int_int | exact kt_int_bool | exact kt_int_tuple | exact kt_int_list | exact kt_int_dict | exact kt_str_str | exact kt_str_int | exact kt_str_bool | exact kt_str_tuple | exact kt_str_list | exact kt_str_dict | exact kt_list_str | exact kt_list_int | exact kt_list_bool | exact kt_list_tuple | exact kt_list_list | exact kt_list_dict | exact kt_tuple_str | exact kt_tuple_int | exact kt_tuple_bool | exact kt_tuple_tuple | exact kt_tuple_list | exact kt_tuple_dict | exact kt_dict_str | exact kt_dict_int | exact kt_dict_bool | exact kt_dict_tuple | exact kt_dict_list | exact kt_dict_dict | assumption))
local macro_rules | `(tactic| walk_at "1") => `(tactic| first
  | (with_reducible refine i_seq ?_)
  | (with_reducible refine iteT ?_)
  | (with_reducible refine iteF ?_)
  | (with_reducible refine iteNF ?_)
  | (with_reducible refine iteNT ?_)
  | (with_reducible refine i_asg ?_)
  | (with_reducible refine i_op ?_)
  | (with_reducible refine i_c ?_)
  | ((with_reducible apply i_var); (exact rfl))
  | (with_reducible refine i_cb ?_)
  | (with_reducible refine i_cons ?_)
  | (with_reducible refine i_nil ?_)
  | (with_reducible refine i_test ?_)
  | (with_reducible refine i_b ?_)
  | (with_reducible refine i_bl ?_)
  | (with_reducible refine i_name ?_)
  | (with_reducible refine i_ifS ?_)
  | (with_reducible refine i_next ?_)
  | (with_reducible refine i_ret ?_)
  | (with_reducible refine i_drop ?_)
  | (with_reducible refine i_lst ?_)
  | (with_reducible refine i_tup ?_)
  | (with_reducible refine i_and ?_)
  | (with_reducible refine i_or ?_)
  | (with_reducible refine i_not ?_)
  | (with_reducible refine i_andV ?_)
  | (with_reducible refine i_orV ?_)
  | (with_reducible refine i_notV ?_)
  | (with_reducible refine i_if ?_)
  | (with_reducible refine i_chain ?_)
  | (with_reducible refine i_un ?_)
  | (with_reducible refine i_neg ?_)
  | (with_reducible refine i_sub ?_)
  | (with_reducible refine i_sl ?_)
  | (with_reducible refine i_noP ?_)
  | (with_reducible refine i_part ?_)
  | (with_reducible refine i_int ?_)
  | (with_reducible refine i_bm ?_)
  | (with_reducible refine i_strT ?_)
  | (with_reducible refine i_yes ?_)
  | (with_reducible refine i_call ?_)
  | ((with_reducible refine i_len ?_ ?_); (focus (exact sz (by simp))))
  | (with_reducible refine i_lc ?_)
  | (with_reducible refine i_for ?_)
  | (with_reducible refine i_rng1 ?_)
  | (with_reducible refine i_rng2 ?_)
  | (with_reducible refine l_addI ?_)
  | (with_reducible refine l_subI ?_)
  | (with_reducible refine l_cmp ?_)
  | (with_reducible refine l_eqI ?_)
  | (with_reducible refine l_eqS ?_)
  | (with_reducible refine l_eqB ?_)
  | (with_reducible refine l_neI ?_)
  | (with_reducible refine l_neS ?_)
  | (with_reducible refine l_neB ?_)
  | (with_reducible refine l_isN ?_)
  | (with_reducible refine l_isNotN ?_)
  | (with_reducible refine l_isB ?_)
  | (with_reducible refine l_isNotB ?_)
  | (with_reducible refine l_intI ?_)
  | (with_reducible refine l_intB ?_)
  | (with_reducible refine l_inC ?_)
  | (refine ⟨_, _, rfl, rfl, sz (by first | omega | simp; omega), ?_⟩)
  | ((with_reducible refine l_pow ?_ ?_); (focus (exact ⟨by decide, by decide, by decide⟩)))
  | ((with_reducible refine l_mul ?_ ?_); (focus (first | assumption | exact Or.inl (Or.inl ⟨by omega, by omega⟩) | exact Or.inl (Or.inr ⟨by omega, by omega⟩))))
  | ((with_reducible refine l_div ?_ ?_); (focus (first | assumption | exact ⟨by decide, by decide⟩)))
  | ((with_reducible apply l_setL); (assumption); (exact rfl))
  | ((with_reducible refine l_mod ?_ ?_); (walk_at "side"))
  | ((with_reducible apply l_ixL); (assumption); (exact rfl))
  | ((with_reducible refine l_lenS ?_ ?_); (focus (first | assumption | exact sz (by omega) | exact sz (by simp; omega))))
  | ((with_reducible refine l_slS ?_ ?_); (focus (first | assumption | exact sz (by omega))))
  | ((with_reducible apply l_isi); (walk_at "ty"); (walk_at "kt"))
  | ((with_reducible apply l_lenL); (assumption)))
local macro_rules | `(tactic| walk_at "go") => `(tactic| repeat (walk_at "1"))
local macro_rules | `(tactic| walk_at "1") => `(tactic| first
  | (with_reducible refine i_mkS ?_)
  | (with_reducible refine i_cS ?_)
  | (with_reducible refine i_fld ?_)
  | (with_reducible refine i_sFld ?_)
  | (with_reducible refine i_tX ?_)
  | (with_reducible refine l_len2 rfl rfl ?_))
section
variable {P : Program} {w : World} {K : PySem.W.Frag} {mg : Str → Option Value} {base : Heap}
section
variable {H : Hp} {x y : V} {d e : PyData} {b : Bool} {Q : VK}
theorem l_eqD (h1 : Dp K H x d) (h2 : Dp K H y e) (s1 : SeqAt.shaped d = true) (s2 : SeqAt.shaped e = true) (hb : PyData.eqv d e = b) (q : Q (.bl b) H) : rEqA K x y H Q := .inr ⟨d, e, h1, h2, s1, s2, by rw [hb]; exact q⟩
theorem l_neD (h1 : Dp K H x d) (h2 : Dp K H y e) (s1 : SeqAt.shaped d = true) (s2 : SeqAt.shaped e = true) (hb : PyData.eqv d e = b) (q : Q (.bl (!b)) H) : rNeA K x y H Q := .inr ⟨d, e, h1, h2, s1, s2, by rw [hb]; exact q⟩
end
theorem sh_tI (ns : List Int) : SeqAt.shaped (.tuple (ns.map PyData.int)) = true := by
  unfold SeqAt.shaped
  have h := depth_ints ns
  rw [PyData.canLay0, lay_ints ns, PyData.depth]
  simp
  omega
theorem sh_tB (ns : List Bool) : SeqAt.shaped (.tuple (ns.map PyData.bool)) = true := by
  unfold SeqAt.shaped
  have h := depth_bls ns
  rw [PyData.canLay0, lay_bls ns, PyData.depth]
  simp
  omega
theorem sh_lB (ns : List Bool) : SeqAt.shaped (.list (ns.map PyData.bool)) = true := by
  unfold SeqAt.shaped
  have h := depth_bls ns
  rw [PyData.canLay0, lay_bls ns, PyData.depth]
  simp
  omega
theorem eqv_tI (ns ms : List Int) : PyData.eqv (.tuple (ns.map .int)) (.tuple (ms.map .int)) = decide (ns = ms) := by rw [PyData.eqv, eqv_ints]
theorem eqv_tB (ns ms : List Bool) : PyData.eqv (.tuple (ns.map .bool)) (.tuple (ms.map .bool)) = decide (ns = ms) := by rw [PyData.eqv, eqv_bls]
theorem eqv_lI (ns ms : List Int) : PyData.eqv (.list (ns.map .int)) (.list (ms.map .int)) = decide (ns = ms) := by rw [PyData.eqv, eqv_ints]
theorem eqv_lB (ns ms : List Bool) : PyData.eqv (.list (ns.map .bool)) (.list (ms.map .bool)) = decide (ns = ms) := by rw [PyData.eqv, eqv_bls]
def spIs (K : PySem.W.Frag) (C : Addr) : Sp := fun vs H Q _ => ∃ v fg an ns bs ms cs, vs = [v, fg, an] ∧ PlayAt K C H v ns bs ∧ Sq K H fg (ms.map V.int) ∧ Sq K H an (cs.map V.bl) ∧ ∀ H', Ex H H' → Q (.bl (decide (ns = ms) && decide (bs = cs))) H'
theorem ok_is {C_RoundError C_BadPlay C_Play d_Play_0 d_Play_1 : Addr} (T : Tp K mg C_RoundError C_BadPlay C_Play d_Play_0 d_Play_1) : Cal P w K mg base 1 "_law_is" (spIs K C_Play) [] := by
  refine T.d__law_is.cal sc__law_is (fun vs H Q E h => ?_) (fun f cdv A outer s H vs Q E hr h => ?_)
  · obtain ⟨v, fg, an, ns, bs, ms, cs, rfl, _⟩ := h
    rfl
  · obtain ⟨v, fg, an, ns, bs, ms, cs, rfl, ⟨x, dx, p, q, rfl, hx, hp, hq⟩, hf, ha, k⟩ := h
    have sc := sc__law_is
    refine ⟨_, 
    (pss_cons (ps_if (pt_cut (PW.pt (pw_or (pt_not (pt_val (pe_callB (kIsi (K := K) rfl) (by rfl) T.m_isinstance (by decide +kernel) (pa_cons (pe_fld (pv 0) rfl) (pa_cons (gTy (n := "tuple") (by rfl) T.m_tuple (by decide +kernel)) pa_nil))))) (pw_or1 (pt_not (pt_val (pe_callB (kIsi (K := K) rfl) (by rfl) T.m_isinstance (by decide +kernel) (pa_cons (pe_fld (pv 0) rfl) (pa_cons (gTy (n := "tuple") (by rfl) T.m_tuple (by decide +kernel)) pa_nil))))))))) (
      (pss_one (ps_ret (pe_bl)))) (pss_nil))
    (pss_one (ps_ret (pe_and (pe_cmpR (kEq (K := K) rfl hr) (pe_fld (pv 0) rfl) (pe_callTy (k_tuple (K := K) rfl) (by rfl) T.m_tuple (by decide +kernel) (pa_cons (pv 1) pa_nil)) (nomark _)) (pe_one (pe_cmpR (kEq (K := K) rfl hr) (pe_fld (pv 0) rfl) (pe_callTy (k_tuple (K := K) rfl) (by rfl) T.m_tuple (by decide +kernel) (pa_cons (pv 2) pa_nil)) (nomark _))))))), ?_⟩
    try rw [cxK]
    refine i_start (τ := [some (.ref x), some fg, some an]) rfl ?_
    have fN : ∀ {R : V → Prop}, R (.ref p) → ∃ a C dx' fs v, V.ref x = .ref a ∧ H a = some (.ins C dx' fs) ∧ Cls K C ∧ NoAttr K C "numbers" ∧ fs.lookup ("numbers" : Str) = some v ∧ R v := fun r => ⟨x, C_Play, dx, _, _, rfl, hx, T.cl_Play, T.n_Play_numbers, lk_num, r⟩
    have fO : ∀ {R : V → Prop} {H' : Hp}, Ex H H' → R (.ref q) → ∃ a C dx' fs v, V.ref x = .ref a ∧ H' a = some (.ins C dx' fs) ∧ Cls K C ∧ NoAttr K C "outcomes" ∧ fs.lookup ("outcomes" : Str) = some v ∧ R v := fun e r => ⟨x, C_Play, dx, _, _, rfl, e _ _ hx, T.cl_Play, T.n_Play_outcomes, lk_out, r⟩
    walk_at "go"
    refine i_isT false ?_ ?_
    · walk_at "go"
      refine fN ?_
      walk_at "go"
      refine l_isi (tyT hp) kt_tuple_tuple ?_
      walk_at "go"
      refine fO (Ex.refl H) ?_
      walk_at "go"
      refine l_isi (tyT hq) kt_tuple_tuple ?_
      walk_at "go"
      exact ⟨rfl, rfl⟩
    · walk_at "go"
      refine fN ?_
      walk_at "go"
      refine l_tupSq hf fun p1 H1 e1 h1 => ?_
      refine l_eqD (.tup (sqT_mono e1 hp) (dp_ints ns)) (.tup h1 (dp_ints ms)) (sh_tI ns) (sh_tI ms) (eqv_tI ns ms) ?_
      walk_at "go"
      refine i_ite (fun h => ?_) (fun h => ?_)
      · walk_at "go"
        refine fO e1 ?_
        walk_at "go"
        refine l_tupSq (ha.mono e1) fun p2 H2 e2 h2 => ?_
        refine l_eqD (.tup (sqT_mono (e1.trans e2) hq) (dp_bls bs)) (.tup h2 (dp_bls cs)) (sh_tB bs) (sh_tB cs) (eqv_tB bs cs) ?_
        have := k H2 (e1.trans e2)
        rw [decide_eq_true h] at this
        exact this
      · have := k H1 e1
        rw [decide_eq_false h] at this
        exact this
/-- repr(v) is z -/
def Shw (K : PySem.W.Frag) (H : Hp) (v : V) (z : Str) : Prop := ∀ (H' : Hp) (Q : VK), Ex H H' → Q (.str z) H' → rReprA K [v] H' Q
theorem Shw.mono {H H' : Hp} {v : V} {z : Str} (h : Shw K H v z) (e : Ex H H') : Shw K H' v z := fun H2 Q e2 q => h H2 Q (e.trans e2) q
def spRef (K : PySem.W.Frag) : Sp := fun vs H Q _ => ∃ fg an due z, vs = [fg, an, due] ∧ Shw K H due z ∧ ((Bad K H isI fg ∧ Shw K H fg z) ∨ (∃ ns : List Int, Sq K H fg (ns.map V.int) ∧ ns.length ≤ 1000 ∧ Bad K H isB an ∧ Shw K H an z)) ∧ ∀ H', Ex H H' → Q (.bl true) H'
theorem ok_ref {C_RoundError C_BadPlay C_Play d_Play_0 d_Play_1 : Addr} (T : Tp K mg C_RoundError C_BadPlay C_Play d_Play_0 d_Play_1) : CalG P w K mg base true 5 "_law_refused" (spRef K) 3 [] (fun vs _ => vs) := by
  have c_Play_2 := mk_Play_2 (P := P) (w := w) (base := base) T
  refine T.d__law_refused.calG sc__law_refused (fun vs H Q E h => ?_) (fun f cdv A outer s H vs Q E hr gd h => ?_)
  · obtain ⟨fg, an, due, z, rfl, _⟩ := h
    rfl
  · obtain ⟨fg, an, due, z, rfl, hd, h, k⟩ := h
    have sc := sc__law_refused
    refine ⟨_, 
    (pss_cons (ps_try_as (i := 4) rfl rfl sc.nd rfl (by rfl) ⟨by rfl, by decide, Or.inl (T.x_BadPlay P w base).hm⟩ takes0 (fun W pn xe tk pw => 
        (pss_one (ps_set (i := 3) sc.nd rfl (by first | exact Or.inl rfl | exact Or.inr rfl) (pe_mkS c_Play_2 hr (by decide) tk (by rfl) (pa_cons (pv 0) (pa_cons (pv 1) pa_nil)))))) (fun a oe cls d pn hz hf => 
        (pss_one (ps_ret (pe_and (pe_cmpR (kEqU (K := K) rfl hr.units) (pe_callB (kRepr (K := K) rfl (gd rfl) hr.units) (by rfl) T.m_repr (by decide +kernel) (pa_cons (pe_xfS (T.x_BadPlay P w base) hz hf (pv 4)) pa_nil)) (pe_callB (kRepr (K := K) rfl (gd rfl) hr.units) (by rfl) T.m_repr (by decide +kernel) (pa_cons (pv 2) pa_nil)) (nomark _)) (pe_one (pe_callB (call_isX (T.x_BadPlay P w base).ec hz hf) (by rfl) T.m_isinstance (by decide +kernel) (pa_cons (pv 4) (pa_cons (pe_gc (by rfl) T.k_RoundError) pa_nil)))))))))
    (pss_one (ps_ret (pe_cmpR gIs (pv 3) (pe_non) (nomark _))))), ?_⟩
    try rw [cxK]
    refine i_start (τ := [some fg, some an, some due, none, none]) rfl ?_
    walk_at "go"
    rcases h with ⟨hb, hz⟩ | ⟨ns, hn, l, hb, hz⟩
    rotate_left
    refine play_badO hn l hb ?_
    rotate_left
    refine play_badN hb ?_
    all_goals
      intro H' d he hn'
      have e2 : ∀ y, Ex H (upd H' d (.xd [("value", y)])) := fun y => he.trans (Ex.new hn')
      refine ⟨true, T.xm_BadPlay, fun _ a ha => ?_, fun e => nomatch e⟩
      walk_at "go"
      refine i_var rfl ⟨rfl, rfl, d, _, _, rfl, upd_same, rfl, ?_⟩
      walk_at "go"
      refine hz _ _ (e2 _) ?_
      walk_at "go"
      refine hd _ _ (e2 _) ?_
      walk_at "go"
      refine i_ite (fun _ => ?_) (fun h => absurd rfl h)
      walk_at "go"
      refine ⟨rfl, d, _, _, _, true, rfl, upd_same, rfl, .own _, T.kx_BadPlay_RoundError, ?_⟩
      exact k _ (e2 _)
end
end K
namespace K
open PySem PySem.Spec PyProof.Rows L2 G TL
local macro_rules | `(tactic| walk_at "side") => `(tactic| focus (first | assumption | exact rfl | omega | decide))
local macro_rules | `(tactic| walk_at "ty") => `(tactic| focus (first | exact .base (.str _) | exact .base (.int _) | exact .base (.bl _) | exact .base .non | exact .base (.lst (by assumption)) | exact .base (.tup (by assumption)) | exact .base (.dK (by assumption)) | assumption))
local macro_rules | `(tactic| walk_at "kt") => `(tactic| focus (with_reducible first | exact kt_NoneType_str | exact kt_NoneType_int | exact kt_NoneType_bool | exact kt_NoneType_tuple | exact kt_NoneType_list | exact kt_NoneType_dict | exact kt_bool_str | exact kt_bool_int | exact kt_bool_bool | exact kt_bool_tuple | exact kt_bool_list | exact kt_bool_dict | exact kt_int_str | exact kt_int_int | exact kt_int_bool | exact kt_int_tuple | exact kt_int_list | exact kt_int_dict | exact kt_str_str | exact kt_str_int | exact kt_str_bool | exact kt_str_tuple | exact kt_str_list | exact kt_str_dict | exact kt_list_str | exact kt_list_int | exact kt_list_bool | exact kt_list_tuple | exact kt_list_list | exact kt_list_dict | exact kt_tuple_str | exact kt_tuple_int | exact kt_tuple_bool | exact kt_tuple_tuple | exact kt_tuple_list | exact kt_tuple_dict | exact kt_dict_str | exact kt_dict_int | exact kt_dict_bool | exact kt_dict_tuple | exact kt_dict_list | exact kt_dict_dict | assumption))
local macro_rules | `(tactic| walk_at "1") => `(tactic| first
  | (with_reducible refine i_seq ?_)
  | (with_reducible refine iteT ?_)
  | (with_reducible refine iteF ?_)
  | (with_reducible refine iteNF ?_)
  | (with_reducible refine iteNT ?_)
  | (with_reducible refine i_asg ?_)
  | (with_reducible refine i_op ?_)
  | (with_reducible refine i_c ?_)
  | ((with_reducible apply i_var); (exact rfl))
  | (with_reducible refine i_cb ?_)
  | (with_reducible refine i_cons ?_)
  | (with_reducible refine i_nil ?_)
  | (with_reducible refine i_test ?_)
  | (with_reducible refine i_b ?_)
  | (with_reducible refine i_bl ?_)
  | (with_reducible refine i_name ?_)
  | (with_reducible refine i_ifS ?_)
  | (with_reducible refine i_next ?_)
  | (with_reducible refine i_ret ?_)
  | (with_reducible refine i_drop ?_)
  | (with_reducible refine i_lst ?_)
  | (with_reducible refine i_tup ?_)
  | (with_reducible refine i_and ?_)
  | (with_reducible refine i_or ?_)
  | (with_reducible refine i_not ?_)
  | (with_reducible refine i_andV ?_)
  | (with_reducible refine i_orV ?_)
  | (with_reducible refine i_notV ?_)
  | (with_reducible refine i_if ?_)
  | (with_reducible refine i_chain ?_)
  | (with_reducible refine i_un ?_)
  | (with_reducible refine i_neg ?_)
  | (with_reducible refine i_sub ?_)
  | (with_reducible refine i_sl ?_)
  | (with_reducible refine i_noP ?_)
  | (with_reducible refine i_part ?_)
  | (with_reducible refine i_int ?_)
  | (with_reducible refine i_bm ?_)
  | (with_reducible refine i_strT ?_)
  | (with_reducible refine i_yes ?_)
  | (with_reducible refine i_call ?_)
  | ((with_reducible refine i_len ?_ ?_); (focus (exact sz (by simp))))
  | (with_reducible refine i_lc ?_)
  | (with_reducible refine i_for ?_)
  | (with_reducible refine i_rng1 ?_)
  | (with_reducible refine i_rng2 ?_)
  | (with_reducible refine l_addI ?_)
  | (with_reducible refine l_subI ?_)
  | (with_reducible refine l_cmp ?_)
  | (with_reducible refine l_eqI ?_)
  | (with_reducible refine l_eqS ?_)
  | (with_reducible refine l_eqB ?_)
  | (with_reducible refine l_neI ?_)
  | (with_reducible refine l_neS ?_)
  | (with_reducible refine l_neB ?_)
  | (with_reducible refine l_isN ?_)
  | (with_reducible refine l_isNotN ?_)
  | (with_reducible refine l_isB ?_)
  | (with_reducible refine l_isNotB ?_)
  | (with_reducible refine l_intI ?_)
  | (with_reducible refine l_intB ?_)
  | (with_reducible refine l_inC ?_)
  | (refine ⟨_, _, rfl, rfl, sz (by first | omega | simp; omega), ?_⟩)
  | ((with_reducible refine l_pow ?_ ?_); (focus (exact ⟨by decide, by decide, by decide⟩)))
  | ((with_reducible refine l_mul ?_ ?_); (focus (first | assumption | exact Or.inl (Or.inl ⟨by omega, by omega⟩) | exact Or.inl (Or.inr ⟨by omega, by omega⟩))))
  | ((with_reducible refine l_div ?_ ?_); (focus (first | assumption | exact ⟨by decide, by decide⟩)))
  | ((with_reducible apply l_setL); (assumption); (exact rfl))
  | ((with_reducible refine l_mod ?_ ?_); (walk_at "side"))
  | ((with_reducible apply l_ixL); (assumption); (exact rfl))
  | ((with_reducible refine l_lenS ?_ ?_); (focus (first | assumption | exact sz (by omega) | exact sz (by simp; omega))))
  | ((with_reducible refine l_slS ?_ ?_); (focus (first | assumption | exact sz (by omega))))
  | ((with_reducible apply l_isi); (walk_at "ty"); (walk_at "kt"))
  | ((with_reducible apply l_lenL); (assumption)))
local macro_rules | `(tactic| walk_at "go") => `(tactic| repeat (walk_at "1"))
local macro_rules | `(tactic| walk_at "1") => `(tactic| first
  | (with_reducible refine i_mkS ?_)
  | (with_reducible refine i_cS ?_)
  | (with_reducible refine i_fld ?_)
  | (with_reducible refine i_sFld ?_)
  | (with_reducible refine i_tX ?_)
  | (with_reducible refine l_len2 rfl rfl ?_))
section
variable {P : Program} {w : World} {K : PySem.W.Frag} {mg : Str → Option Value} {base : Heap}
/-- an item that is shown in a few signs -/
structure Lf (d : PyData) : Prop where
  sh : d.showable = true
  nd : d.hasDict = false
  ln : d.shown.length ≤ 60
  dp : d.depth ≤ 2
theorem lf_all : ∀ {xs : List PyData}, (∀ d ∈ xs, Lf d) → PyData.showableAll xs = true ∧ PyData.hasDictAll xs = false ∧ ((PyData.shownAll xs).map (·.length)).sum ≤ 60 * xs.length ∧ (PyData.shownAll xs).length = xs.length ∧ PyData.depthAll xs ≤ 2
  | [], _ => by simp [PyData.showableAll, PyData.hasDictAll, PyData.shownAll, PyData.depthAll]
  | x :: xs, h => by
    obtain ⟨h1, h2, h3, h4⟩ := h x List.mem_cons_self
    obtain ⟨g1, g2, g3, g4, g5⟩ := lf_all fun d hd => h d (List.mem_cons_of_mem _ hd)
    rw [PyData.showableAll, PyData.hasDictAll, PyData.shownAll, PyData.depthAll, h1, h2, g1, g2]
    simp only [List.map_cons, List.sum_cons, List.length_cons, Bool.and_self, Bool.or_self, true_and]
    exact ⟨by omega, by omega, Nat.max_le.mpr ⟨h4, g5⟩⟩
theorem shw_dp {H : Hp} {v : V} {d : PyData} (h : Dp K H v d) (h1 : d.showable = true) (h2 : d.hasDict = false) (h3 : d.shown.length ≤ 100000) (h4 : d.depth ≤ 50) : Shw K H v d.shown :=
  fun H' Q e q => .inl ⟨v, d, rfl, dp_mono e d v h, h1, h2, sz h3, h4, q⟩
theorem shw_list {H : Hp} {v : V} {xs : List PyData} (h : Dp K H v (.list xs)) (hl : ∀ d ∈ xs, Lf d) (hn : xs.length ≤ 100) : Shw K H v (PyData.list xs).shown := by
  obtain ⟨g1, g2, g3, g4, g5⟩ := lf_all hl
  refine shw_dp h (by rw [PyData.showable]; exact g1) (by rw [PyData.hasDict]; exact g2) ?_ (by rw [PyData.depth]; omega)
  have := listText_len_le (PyData.shownAll xs)
  rw [PyData.shown]
  omega
theorem shw_tup {H : Hp} {v : V} {xs : List PyData} (h : Dp K H v (.tuple xs)) (hl : ∀ d ∈ xs, Lf d) (hn : xs.length ≤ 100) : Shw K H v (PyData.tuple xs).shown := by
  obtain ⟨g1, g2, g3, g4, g5⟩ := lf_all hl
  refine shw_dp h (by rw [PyData.showable]; exact g1) (by rw [PyData.hasDict]; exact g2) ?_ (by rw [PyData.depth]; omega)
  have := tupleText_len_le (PyData.shownAll xs)
  rw [PyData.shown]
  omega
theorem lf_int {i : Int} (h : i.natAbs < 10 ^ 39) : Lf (.int i) := by
  have e := int_text_length_le10 (k := 39) (by decide) h
  refine ⟨?_, rfl, ?_, by simp [PyData.depth]⟩
  · rw [PyData.showable]
    refine decide_eq_true ?_
    by_cases h0 : i.natAbs = 0
    · rw [h0]
      decide
    · have h1 : i.natAbs.log2 < 130 := (Nat.log2_lt h0).mpr (Nat.lt_trans h (by decide))
      omega
  · rw [PyData.shown, PySem.ofString_length]
    omega
theorem lf_bl (b : Bool) : Lf (.bool b) := by
  cases b <;> exact ⟨rfl, rfl, by decide, by simp [PyData.depth]⟩
theorem lf_non : Lf .none := ⟨rfl, rfl, by decide, by simp [PyData.depth]⟩
theorem lf_ints {ns : List Int} (h : ∀ n ∈ ns, n.natAbs < 10 ^ 39) : ∀ d ∈ ns.map PyData.int, Lf d := fun d hd => by
  obtain ⟨n, hn, rfl⟩ := List.mem_map.mp hd
  exact lf_int (h n hn)
theorem lf_bls {bs : List Bool} : ∀ d ∈ bs.map PyData.bool, Lf d := fun d hd => by
  obtain ⟨n, hn, rfl⟩ := List.mem_map.mp hd
  exact lf_bl n
theorem dp_append {H : Hp} : ∀ {xs ys : List V} {ds es : List PyData}, DpAll K H xs ds → DpAll K H ys es → DpAll K H (xs ++ ys) (ds ++ es)
  | _, _, _, _, .nil, h => h
  | _, _, _, _, .cons a b, h => .cons a (dp_append b h)
end
end K
namespace K
open PySem PySem.Spec PyProof.Rows L2 G TL
local macro_rules | `(tactic| walk_at "side") => `(tactic| focus (first | assumption | exact rfl | omega | decide))
local macro_rules | `(tactic| walk_at "ty") => `(tactic| focus (first | exact .base (.str _) | exact .base (.int _) | exact .base (.bl _) | exact .base .non | exact .base (.lst (by assumption)) | exact .base (.tup (by assumption)) | exact .base (.dK (by assumption)) | assumption))
local macro_rules | `(tactic| walk_at "kt") => `(tactic| focus (with_reducible first | exact kt_NoneType_str | exact kt_NoneType_int | exact kt_NoneType_bool | exact kt_NoneType_tuple | exact kt_NoneType_list | exact kt_NoneType_dict | exact kt_bool_str | exact kt_bool_int | exact kt_bool_bool | exact kt_bool_tuple | exact kt_bool_list | exact kt_bool_dict | exact kt_int_str | exact kt_int_int | exact kt_int_bool | exact kt_int_tuple | exact kt_int_list | exact kt_int_dict | exact kt_str_str | exact kt_str_int | exact kt_str_bool | exact kt_str_tuple | exact kt_str_list | exact kt_str_dict | exact kt_list_str | exact kt_list_int | exact kt_list_bool | exact kt_list_tuple | exact kt_list_list | exact kt_list_dict | exact kt_tuple_str | exact kt_tuple_int | exact kt_tuple_bool | exact kt_tuple_tuple | exact kt_tuple_list | exact kt_tuple_dict | exact kt_dict_str | exact kt_dict_int | exact kt_dict_bool | exact kt_dict_tuple | exact kt_dict_list | exact kt_dict_dict | assumption))
local macro_rules | `(tactic| walk_at "1") => `(tactic| first
  | (with_reducible refine i_seq ?_)
  | (with_reducible refine iteT ?_)
  | (with_reducible refine iteF ?_)
  | (with_reducible refine iteNF ?_)
  | (with_reducible refine iteNT ?_)
  | (with_reducible refine i_asg ?_)
  | (with_reducible refine i_op ?_)
  | (with_reducible refine i_c ?_)
  | ((with_reducible apply i_var); (exact rfl))
  | (with_reducible refine i_cb ?_)
  | (with_reducible refine i_cons ?_)
  | (with_reducible refine i_nil ?_)
  | (with_reducible refine i_test ?_)
  | (with_reducible refine i_b ?_)
  | (with_reducible refine i_bl ?_)
  | (with_reducible refine i_name ?_)
  | (with_reducible refine i_ifS ?_)
  | (with_reducible refine i_next ?_)
  | (with_reducible refine i_ret ?_)
  | (with_reducible refine i_drop ?_)
  | (with_reducible refine i_lst ?_)
  | (with_reducible refine i_tup ?_)
  | (with_reducible refine i_and ?_)
  | (with_reducible refine i_or ?_)
  | (with_reducible refine i_not ?_)
  | (with_reducible refine i_andV ?_)
  | (with_reducible refine i_orV ?_)
  | (with_reducible refine i_notV ?_)
  | (with_reducible refine i_if ?_)
  | (with_reducible refine i_chain ?_)
  | (with_reducible refine i_un ?_)
  | (with_reducible refine i_neg ?_)
  | (with_reducible refine i_sub ?_)
  | (with_reducible refine i_sl ?_)
  | (with_reducible refine i_noP ?_)
  | (with_reducible refine i_part ?_)
  | (with_reducible refine i_int ?_)
  | (with_reducible refine i_bm ?_)
  | (with_reducible refine i_strT ?_)
  | (with_reducible refine i_yes ?_)
  | (with_reducible refine i_call ?_)
  | ((with_reducible refine i_len ?_ ?_); (focus (exact sz (by simp))))
  | (with_reducible refine i_lc ?_)
  | (with_reducible refine i_for ?_)
  | (with_reducible refine i_rng1 ?_)
  | (with_reducible refine i_rng2 ?_)
  | (with_reducible refine l_addI ?_)
  | (with_reducible refine l_subI ?_)
  | (with_reducible refine l_cmp ?_)
  | (with_reducible refine l_eqI ?_)
  | (with_reducible refine l_eqS ?_)
  | (with_reducible refine l_eqB ?_)
  | (with_reducible refine l_neI ?_)
  | (with_reducible refine l_neS ?_)
  | (with_reducible refine l_neB ?_)
  | (with_reducible refine l_isN ?_)
  | (with_reducible refine l_isNotN ?_)
  | (with_reducible refine l_isB ?_)
  | (with_reducible refine l_isNotB ?_)
  | (with_reducible refine l_intI ?_)
  | (with_reducible refine l_intB ?_)
  | (with_reducible refine l_inC ?_)
  | (refine ⟨_, _, rfl, rfl, sz (by first | omega | simp; omega), ?_⟩)
  | ((with_reducible refine l_pow ?_ ?_); (focus (exact ⟨by decide, by decide, by decide⟩)))
  | ((with_reducible refine l_mul ?_ ?_); (focus (first | assumption | exact Or.inl (Or.inl ⟨by omega, by omega⟩) | exact Or.inl (Or.inr ⟨by omega, by omega⟩))))
  | ((with_reducible refine l_div ?_ ?_); (focus (first | assumption | exact ⟨by decide, by decide⟩)))
  | ((with_reducible apply l_setL); (assumption); (exact rfl))
  | ((with_reducible refine l_mod ?_ ?_); (walk_at "side"))
  | ((with_reducible apply l_ixL); (assumption); (exact rfl))
  | ((with_reducible refine l_lenS ?_ ?_); (focus (first | assumption | exact sz (by omega) | exact sz (by simp; omega))))
  | ((with_reducible refine l_slS ?_ ?_); (focus (first | assumption | exact sz (by omega))))
  | ((with_reducible apply l_isi); (walk_at "ty"); (walk_at "kt"))
  | ((with_reducible apply l_lenL); (assumption)))
local macro_rules | `(tactic| walk_at "go") => `(tactic| repeat (walk_at "1"))
local macro_rules | `(tactic| walk_at "1") => `(tactic| first
  | (with_reducible refine i_mkS ?_)
  | (with_reducible refine i_cS ?_)
  | (with_reducible refine i_fld ?_)
  | (with_reducible refine i_sFld ?_)
  | (with_reducible refine i_tX ?_)
  | (with_reducible refine l_len2 rfl rfl ?_))
section
variable {P : Program} {w : World} {K : PySem.W.Frag} {mg : Str → Option Value} {base : Heap}
theorem lc_copy {H : Hp} {R : Addr} {i : Nat} {vs : List Nat} {σ : L2.St} {Q : VK} {ps : List Addr} {xss : List (List V)} (hR : SqL K H R (ps.map V.ref)) (hlen : ps.length ≤ 100) (hp : ∀ (j : Nat) (p : Addr), ps[j]? = some p → ∃ xs, xss[j]? = some xs ∧ SqL K H p xs)
    (hw : ∀ x, wipe ((wipe σ vs).set i (some x)) vs = wipe σ vs) (hi : ∀ x, ((wipe σ vs).set i (some x))[i]? = some (some x))
    (hQ : ∀ D (ks : List Addr) H', H D = none → Ex H H' → H' D = some (.lst (ks.map V.ref)) → ks.length = ps.length → (∀ (j : Nat) (k : Addr), ks[j]? = some k → H k = none ∧ k ≠ D ∧ ∃ xs, xss[j]? = some xs ∧ H' k = some (.lst xs)) → Q (.ref D) H') :
    lcB (Itl K R) (gName i) tYes (tCB (rListA K) (tCons (tVar i) tNil)) vs σ Q H := by
  intro D hD
  refine lc_list (xs := ps.map V.ref) (fun j H' => ∃ ks : List Addr, H' D = some (.lst (ks.map V.ref)) ∧ ks.length = j ∧ Ex H H' ∧ ∀ (j : Nat) (k : Addr), ks[j]? = some k → H k = none ∧ k ≠ D ∧ ∃ xs, xss[j]? = some xs ∧ H' k = some (.lst xs)) ⟨[], upd_same, rfl, Ex.new hD, fun j k h => by simp at h⟩ (fun _ H' _ ⟨_, _, _, e, _⟩ => sqL_mono e hR) ?_ ?_
  · rintro j x H' hx ⟨ks, h1, h2, e, h3⟩
    rw [List.getElem?_map] at hx
    cases hpj : ps[j]? with
    | none => rw [hpj] at hx; cases hx
    | some p =>
      rw [hpj] at hx
      cases hx
      obtain ⟨xs, hxs, hpx⟩ := hp j p hpj
      have hj : j < ps.length := (List.getElem?_eq_some_iff.mp hpj).1
      refine ⟨hw _, i_yes ?_⟩
      rw [if_pos rfl]
      refine i_cb (i_cons (i_var (hi _) (i_nil ⟨xs, .inl (sqL_mono e hpx), fun l hl' => ?_⟩)))
      have e1 : Ex H' (upd H' l (.lst xs)) := Ex.new hl'
      have nl : l ≠ D := (ne_of_none h1 hl').symm
      refine ⟨_, e1 _ _ h1, szl (by simp; omega), ks ++ [l], by rw [upd_same, List.map_append]; rfl, by simp [h2], (e.trans e1).mut hD, fun j' k hk => ?_⟩
      by_cases hjk : j' < ks.length
      · rw [List.getElem?_append_left hjk] at hk
        obtain ⟨g1, g2, xs', g3, g4⟩ := h3 j' k hk
        exact ⟨g1, g2, xs', g3, by rw [upd_ne g2]; exact e1 _ _ g4⟩
      · rw [List.getElem?_append_right (by omega)] at hk
        have hz : j' - ks.length = 0 := by
          by_cases z : j' - ks.length = 0
          · exact z
          · rw [List.getElem?_eq_none (by simp; omega)] at hk
            cases hk
        rw [hz] at hk
        simp at hk
        subst hk
        have hjj : j' = j := by omega
        subst hjj
        exact ⟨e.free hl', nl, xs, hxs, by rw [upd_ne nl]; exact upd_same⟩
  · rintro H' ⟨ks, h1, h2, e, h3⟩
    exact hQ D ks H' hD e h1 (by rw [h2, List.length_map]) h3
theorem l_addL {H : Hp} {a b : Addr} {xs ys : List V} {Q : VK} (h1 : H a = some (.lst xs)) (h2 : H b = some (.lst ys)) (hl : xs.length + ys.length ≤ 100000) (q : ∀ p, H p = none → Q (.ref p) (upd H p (.lst (xs ++ ys)))) : G.rAdd K (.ref a) (.ref b) H Q :=
  .inl ⟨a, b, xs, ys, rfl, rfl, h1, h2, sz hl, q⟩
theorem sqT_butL {H H' : Hp} {x p : Addr} {zs xs : List V} (b : But x H H') (hx : H x = some (.lst zs)) (h : SqT K H p xs) : SqT K H' p xs := by
  rcases h with (h | ⟨o, h⟩) | h
  · exact .inl (.inl (b _ _ (fun z => by rw [z, hx] at h; cases h) h))
  · exact .inl (.inr ⟨o, b _ _ (fun z => by rw [z, hx] at h; cases h) h⟩)
  · exact .inr h
theorem PlayAt.butL {C : Addr} {H H' : Hp} {x : Addr} {zs : List V} {v : V} {ns : List Int} {bs : List Bool} (h : PlayAt K C H v ns bs) (hx : H x = some (.lst zs)) (b : But x H H') : PlayAt K C H' v ns bs := by
  obtain ⟨y, dx, p, q, rfl, h1, h2, h3⟩ := h
  exact ⟨y, dx, p, q, rfl, b _ _ (fun z => by rw [z, hx] at h1; cases h1) h1, sqT_butL b hx h2, sqT_butL b hx h3⟩
theorem sh_four (ns ms : List Int) (bs cs : List Bool) : SeqAt.shaped (.list [.list (ns.map .int), .list (bs.map .bool), .list (ms.map .int), .list (cs.map .bool)]) = true := by
  unfold SeqAt.shaped
  have h1 := depth_ints ns
  have h2 := depth_bls bs
  have h3 := depth_ints ms
  have h4 := depth_bls cs
  simp only [PyData.canLay0, PyData.canLayAll0, lay_ints, lay_bls, PyData.depth, PyData.depthAll]
  simp
  omega
theorem eqv_four (ns ms : List Int) (bs cs : List Bool) : PyData.eqv (.list [.list (ns.map .int), .list (bs.map .bool), .list (ms.map .int), .list (cs.map .bool)]) (.list [.list (ns.map .int), .list (bs.map .bool), .list (ms.map .int), .list (cs.map .bool)]) = true := by
  simp [PyData.eqv, PyData.eqvAll, eqv_ints, eqv_bls]
theorem cut_map {α : Type} (f : α → V) (ns : List α) (lo hi : Option Int) : ∃ A : List α, cutV (ns.map f) lo hi = A.map f ∧ (∀ n ∈ A, n ∈ ns) ∧ A.length ≤ ns.length := by
  refine ⟨_, cutV_map f ns lo hi, fun n hn => List.mem_of_mem_drop (List.mem_of_mem_take hn), ?_⟩
  rw [List.length_take, List.length_drop]
  omega
theorem bad_mid {H : Hp} {v x : V} {A B : List V} {p : V → Bool} (hs : Sq K H v ((A ++ [x]) ++ B)) (hl : A.length + B.length ≤ 900) (hA : ∀ y ∈ A, Kd K H y) (hB : ∀ y ∈ B, Kd K H y) (hk : Kd K H x) (hx : p x = false) : Bad K H p v := by
  refine .inr ⟨_, hs, by simp; omega, fun y hy => ?_, by simp [List.all_append, hx]⟩
  simp only [List.mem_append, List.mem_singleton] at hy
  rcases hy with (h | h) | h
  · exact hA y h
  · exact h ▸ hk
  · exact hB y h
theorem shw_mid {H : Hp} {q : Addr} {x : V} {dv : PyData} {XA XB : List V} {DA DB : List PyData} (hA : DpAll K H XA DA) (hB : DpAll K H XB DB) (hx : Dp K H x dv) (lA : ∀ d ∈ DA, Lf d) (lB : ∀ d ∈ DB, Lf d) (lx : Lf dv) (n : DA.length + DB.length ≤ 50) :
    (SqL K H q ((XA ++ [x]) ++ XB) → Shw K H (.ref q) (PyData.list ((DA ++ [dv]) ++ DB)).shown) ∧ (SqT K H q ((XA ++ [x]) ++ XB) → Shw K H (.ref q) (PyData.tuple ((DA ++ [dv]) ++ DB)).shown) := by
  have all : ∀ d ∈ (DA ++ [dv]) ++ DB, Lf d := fun d hd => by
    simp only [List.mem_append, List.mem_singleton] at hd
    rcases hd with (h | h) | h
    · exact lA d h
    · exact h ▸ lx
    · exact lB d h
  have dp := dp_append (dp_append hA (.cons hx .nil)) hB
  have ln : ((DA ++ [dv]) ++ DB).length ≤ 100 := by simp; omega
  exact ⟨fun h => shw_list (.lst h dp) all ln, fun h => shw_tup (.tup h dp) all ln⟩
theorem kd_ints {H : Hp} (ns : List Int) : ∀ y ∈ ns.map V.int, Kd K H y := fun y hy => by
  obtain ⟨n, _, rfl⟩ := List.mem_map.mp hy
  exact .inl rfl
theorem kd_bls {H : Hp} (ns : List Bool) : ∀ y ∈ ns.map V.bl, Kd K H y := fun y hy => by
  obtain ⟨n, _, rfl⟩ := List.mem_map.mp hy
  exact .inl rfl
theorem lf_str (z : Str) (h : (reprText z).length ≤ 60) : Lf (.str z) := ⟨rfl, rfl, by rw [PyData.shown]; exact h, by simp [PyData.depth]⟩
end
end K
namespace K
open PySem PySem.Spec PyProof.Rows L2 G TL
local macro_rules | `(tactic| walk_at "side") => `(tactic| focus (first | assumption | exact rfl | omega | decide))
local macro_rules | `(tactic| walk_at "ty") => `(tactic| focus (first | exact .base (.str _) | exact .base (.int _) | exact .base (.bl _) | exact .base .non | exact .base (.lst (by assumption)) | exact .base (.tup (by assumption)) | exact .base (.dK (by assumption)) | assumption))
local macro_rules | `(tactic| walk_at "kt") => `(tactic| focus (with_reducible first | exact kt_NoneType_str | exact kt_NoneType_int | exact kt_NoneType_bool | exact kt_NoneType_tuple | exact kt_NoneType_list | exact kt_NoneType_dict | exact kt_bool_str | exact kt_bool_int | exact kt_bool_bool | exact kt_bool_tuple | exact kt_bool_list | exact kt_bool_dict | exact kt_int_str | exact kt_int_int | exact kt_int_bool | exact kt_int_tuple | exact kt_int_list | exact kt_int_dict | exact kt_str_str | exact kt_str_int | exact kt_str_bool | exact kt_str_tuple | exact kt_str_list | exact kt_str_dict | exact kt_list_str | exact kt_list_int | exact kt_list_bool | exact kt_list_tuple | exact kt_list_list | exact kt_list_dict | exact kt_tuple_str | exact kt_tuple_int | exact kt_tuple_bool | exact kt_tuple_tuple | exact kt_tuple_list | exact kt_tuple_dict | exact kt_dict_str | exact kt_dict_int | exact kt_dict_bool | exact kt_dict_tuple | exact kt_dict_list | exact kt_dict_dict | assumption))
local macro_rules | `(tactic| walk_at "1") => `(tactic| first
  | (with_reducible refine i_seq ?_)
  | (with_reducible refine iteT ?_)
  | (with_reducible refine iteF ?_)
  | (with_reducible refine iteNF ?_)
  | (with_reducible refine iteNT ?_)
  | (with_reducible refine i_asg ?_)
  | (with_reducible refine i_op ?_)
  | (with_reducible refine i_c ?_)
  | ((with_reducible apply i_var); (exact rfl))
  | (with_reducible refine i_cb ?_)
  | (with_reducible refine i_cons ?_)
  | (with_reducible refine i_nil ?_)
  | (with_reducible refine i_test ?_)
  | (with_reducible refine i_b ?_)
  | (with_reducible refine i_bl ?_)
  | (with_reducible refine i_name ?_)
  | (with_reducible refine i_ifS ?_)
  | (with_reducible refine i_next ?_)
  | (with_reducible refine i_ret ?_)
  | (with_reducible refine i_drop ?_)
  | (with_reducible refine i_lst ?_)
  | (with_reducible refine i_tup ?_)
  | (with_reducible refine i_and ?_)
  | (with_reducible refine i_or ?_)
  | (with_reducible refine i_not ?_)
  | (with_reducible refine i_andV ?_)
  | (with_reducible refine i_orV ?_)
  | (with_reducible refine i_notV ?_)
  | (with_reducible refine i_if ?_)
  | (with_reducible refine i_chain ?_)
  | (with_reducible refine i_un ?_)
  | (with_reducible refine i_neg ?_)
  | (with_reducible refine i_sub ?_)
  | (with_reducible refine i_sl ?_)
  | (with_reducible refine i_noP ?_)
  | (with_reducible refine i_part ?_)
  | (with_reducible refine i_int ?_)
  | (with_reducible refine i_bm ?_)
  | (with_reducible refine i_strT ?_)
  | (with_reducible refine i_yes ?_)
  | (with_reducible refine i_call ?_)
  | ((with_reducible refine i_len ?_ ?_); (focus (exact sz (by simp))))
  | (with_reducible refine i_lc ?_)
  | (with_reducible refine i_for ?_)
  | (with_reducible refine i_rng1 ?_)
  | (with_reducible refine i_rng2 ?_)
  | (with_reducible refine l_addI ?_)
  | (with_reducible refine l_subI ?_)
  | (with_reducible refine l_cmp ?_)
  | (with_reducible refine l_eqI ?_)
  | (with_reducible refine l_eqS ?_)
  | (with_reducible refine l_eqB ?_)
  | (with_reducible refine l_neI ?_)
  | (with_reducible refine l_neS ?_)
  | (with_reducible refine l_neB ?_)
  | (with_reducible refine l_isN ?_)
  | (with_reducible refine l_isNotN ?_)
  | (with_reducible refine l_isB ?_)
  | (with_reducible refine l_isNotB ?_)
  | (with_reducible refine l_intI ?_)
  | (with_reducible refine l_intB ?_)
  | (with_reducible refine l_inC ?_)
  | (refine ⟨_, _, rfl, rfl, sz (by first | omega | simp; omega), ?_⟩)
  | ((with_reducible refine l_pow ?_ ?_); (focus (exact ⟨by decide, by decide, by decide⟩)))
  | ((with_reducible refine l_mul ?_ ?_); (focus (first | assumption | exact Or.inl (Or.inl ⟨by omega, by omega⟩) | exact Or.inl (Or.inr ⟨by omega, by omega⟩))))
  | ((with_reducible refine l_div ?_ ?_); (focus (first | assumption | exact ⟨by decide, by decide⟩)))
  | ((with_reducible apply l_setL); (assumption); (exact rfl))
  | ((with_reducible refine l_mod ?_ ?_); (walk_at "side"))
  | ((with_reducible apply l_ixL); (assumption); (exact rfl))
  | ((with_reducible refine l_lenS ?_ ?_); (focus (first | assumption | exact sz (by omega) | exact sz (by simp; omega))))
  | ((with_reducible refine l_slS ?_ ?_); (focus (first | assumption | exact sz (by omega))))
  | ((with_reducible apply l_isi); (walk_at "ty"); (walk_at "kt"))
  | ((with_reducible apply l_lenL); (assumption)))
local macro_rules | `(tactic| walk_at "go") => `(tactic| repeat (walk_at "1"))
local macro_rules | `(tactic| walk_at "1") => `(tactic| first
  | (with_reducible refine i_mkS ?_)
  | (with_reducible refine i_cS ?_)
  | (with_reducible refine i_fld ?_)
  | (with_reducible refine i_sFld ?_)
  | (with_reducible refine i_tX ?_)
  | (with_reducible refine l_len2 rfl rfl ?_))
section
variable {P : Program} {w : World} {K : PySem.W.Frag} {mg : Str → Option Value} {base : Heap}
def spLaw (K : PySem.W.Frag) : Sp := fun vs H Q _ => ∃ (a : Addr) (ns : List Int), vs = [.ref a] ∧ SqL K H a (ns.map V.int) ∧ ns.length ≤ 63 ∧ ∀ H', Q (.bl true) H'
set_option maxHeartbeats 4000000 in
theorem ok_law {C_RoundError C_BadPlay C_Play d_Play_0 d_Play_1 : Addr} (T : Tp K mg C_RoundError C_BadPlay C_Play d_Play_0 d_Play_1) {fa : Addr} (hfa : mg "law" = some (.ref fa)) : ∃ fd : FuncData, (∃ (kV doc pm : Value) (an : Option Addr) (cdv ct : Value), fd = PySem.W.fnOf "law" "law" (defArgs s_law) (defBody s_law) (defScope s_law) .none kV doc pm an cdv ct) ∧ ∀ base : Heap, Fg P w K mg base true 8 fa fd ["_law_script"] (spLaw K) := by
  refine T.d_law.lawG sc_law hfa (fun vs H Q E h => ?_) (fun base f cdv A outer s H vs Q E hr gd h => ?_)
  · obtain ⟨a, ns, rfl, _⟩ := h
    rfl
  · obtain ⟨a, script, rfl, hS, hl, fin⟩ := h
    have sc := sc_law
    have c__law_open : Cal P w K mg base 1 "_law_open" (spOpenL K) [] := ok_open T
    have c__law_draw : Cal P w K mg base 1 "_law_draw" spDrawL [] := ok_draw T
    have c__law_numbers : Cal P w K mg base 2 "_law_numbers" spNums [] := ok_nums T
    have c__law_outcomes : Cal P w K mg base 2 "_law_outcomes" spOuts [] := ok_outs T
    have c__law_is : Cal P w K mg base 1 "_law_is" (spIs K C_Play) [] := ok_is T
    have c__law_refused := ok_ref (P := P) (w := w) (base := base) T
    have c_Play_2 := mk_Play_2 (P := P) (w := w) (base := base) T
    have c_Play_0 := mk_Play_0 (P := P) (w := w) (base := base) T
    have c_Play_0_outcomes := mk_Play_0_outcomes (P := P) (w := w) (base := base) T
    have c_Play_0_numbers := mk_Play_0_numbers (P := P) (w := w) (base := base) T
    have c_Play___add__ := ok_add (P := P) (w := w) (base := base) T
    have c_Play___eq__ := ok_eq (P := P) (w := w) (base := base) T
    refine ⟨_, 
    (pss_cons (ps_set (i := 1) sc.nd rfl (by first | exact Or.inl rfl | exact Or.inr rfl) (pe_c c__law_open hr (by decide) (by rfl) (pa_cons (pv 0) pa_nil)))
    (pss_cons (ps_set (i := 2) sc.nd rfl (by first | exact Or.inl rfl | exact Or.inr rfl) (pe_lst (pa_cons (pe_c c__law_numbers hr (by decide) (by rfl) (pa_cons (pv 1) pa_nil)) (pa_cons (pe_c c__law_outcomes hr (by decide) (by rfl) (pa_cons (pv 1) pa_nil)) (pa_cons (pe_c c__law_numbers hr (by decide) (by rfl) (pa_cons (pv 1) pa_nil)) (pa_cons (pe_c c__law_outcomes hr (by decide) (by rfl) (pa_cons (pv 1) pa_nil)) pa_nil))))))
    (pss_cons (ps_setLc (i := 3) (own := [("_law_row", 4)]) (by rfl) sc.nd rfl rfl (sw_true rfl rfl rfl (by decide +kernel)) (kIT (K := K) rfl (pv 2)) (blkOk_by (N := ["_law_script", "_law_state", "_law_rows", "_law_kept", "_law_row", "_law_first", "_law_second", "_law_both", "_law_alike", "_law_at", "_law_value", "_law_figures", "_law_answers"]) (sc := defScope s_law) (by decide +kernel)) (fun _ _ _ _ _ => pg_name (i := 4) sc.nd rfl (by first | exact Or.inl rfl | exact Or.inr rfl)) (fun _ _ _ _ _ => pts_nil) (fun _ _ _ _ _ => pe_callTy (k_list (K := K) rfl) (by rfl) T.m_list (by decide +kernel) (pa_cons (pv 4) pa_nil)))
    (pss_cons (ps_set (i := 5) sc.nd rfl (by first | exact Or.inl rfl | exact Or.inr rfl) (pe_mkS c_Play_2 hr (by decide) takes0 (by rfl) (pa_cons (pe_ix (kIx (K := K) rfl) (pv 2) (pe_int) (fun _ _ => rfl)) (pa_cons (pe_callTy (k_tuple (K := K) rfl) (by rfl) T.m_tuple (by decide +kernel) (pa_cons (pe_ix (kIx (K := K) rfl) (pv 2) (pe_int) (fun _ _ => rfl)) pa_nil)) pa_nil))))
    (pss_cons (ps_set (i := 6) sc.nd rfl (by first | exact Or.inl rfl | exact Or.inr rfl) (pe_mkS c_Play_2 hr (by decide) takes0 (by rfl) (pa_cons (pe_callTy (k_tuple (K := K) rfl) (by rfl) T.m_tuple (by decide +kernel) (pa_cons (pe_ix (kIx (K := K) rfl) (pv 2) (pe_int) (fun _ _ => rfl)) pa_nil)) (pa_cons (pe_ix (kIx (K := K) rfl) (pv 2) (pe_int) (fun _ _ => rfl)) pa_nil))))
    (pss_cons (ps_set (i := 7) sc.nd rfl (by first | exact Or.inl rfl | exact Or.inr rfl) (pe_op (add_opI c_Play___add__ T.sf_Play hr (by decide)) (pv 5) (pv 6)))
    (pss_cons (ps_if (pt_not (kTruth (K := K) rfl (pe_c c__law_is hr (by decide) (by rfl) (pa_cons (pv 7) (pa_cons (pe_op (kAdd (K := K) rfl) (pe_ix (kIx (K := K) rfl) (pv 2) (pe_int) (fun _ _ => rfl)) (pe_ix (kIx (K := K) rfl) (pv 2) (pe_int) (fun _ _ => rfl))) (pa_cons (pe_op (kAdd (K := K) rfl) (pe_ix (kIx (K := K) rfl) (pv 2) (pe_int) (fun _ _ => rfl)) (pe_ix (kIx (K := K) rfl) (pv 2) (pe_int) (fun _ _ => rfl))) pa_nil)))) (by intro _; rfl))) (
      (pss_one (ps_ret (pe_bl)))) (pss_nil))
    (pss_cons (ps_if (pt_cut (PW.pt (pw_or (pt_cmpR (kNe (K := K) rfl hr) (pv 2) (pv 3) (nomark _)) (pw_or1 (pt_cmpR (ne_opI c_Play___eq__ T.ne_Play T.ob_Play hr (by decide)) (pv 7) (pe_mkS c_Play_2 hr (by decide) takes0 (by rfl) (pa_cons (pe_op (kAdd (K := K) rfl) (pe_ix (kIx (K := K) rfl) (pv 2) (pe_int) (fun _ _ => rfl)) (pe_ix (kIx (K := K) rfl) (pv 2) (pe_int) (fun _ _ => rfl))) (pa_cons (pe_op (kAdd (K := K) rfl) (pe_ix (kIx (K := K) rfl) (pv 2) (pe_int) (fun _ _ => rfl)) (pe_ix (kIx (K := K) rfl) (pv 2) (pe_int) (fun _ _ => rfl))) pa_nil))) (nomark _)))))) (
      (pss_one (ps_ret (pe_bl)))) (pss_nil))
    (pss_cons (ps_set (i := 8) sc.nd rfl (by first | exact Or.inl rfl | exact Or.inr rfl) (pe_cut (pe_and (pe_cmpR (kEq (K := K) rfl hr) (pe_ix (kIx (K := K) rfl) (pv 2) (pe_int) (fun _ _ => rfl)) (pe_ix (kIx (K := K) rfl) (pv 2) (pe_int) (fun _ _ => rfl)) (nomark _)) (pe_one (pe_cmpR (kEq (K := K) rfl hr) (pe_ix (kIx (K := K) rfl) (pv 2) (pe_int) (fun _ _ => rfl)) (pe_ix (kIx (K := K) rfl) (pv 2) (pe_int) (fun _ _ => rfl)) (nomark _))))))
    (pss_cons (ps_if (pt_cut (PW.pt (pw_or (pt_cmpR (kNe (K := K) rfl hr) (pe_cmpR (eq_opI c_Play___eq__ hr (by decide)) (pv 5) (pv 6) (nomark _)) (pv 8) (nomark _)) (pw_or1 (pt_cmpR (eq_opI c_Play___eq__ hr (by decide)) (pv 5) (pe_tup (pa_cons (pe_fld (pv 5) rfl) (pa_cons (pe_fld (pv 5) rfl) pa_nil))) (nomark _)))))) (
      (pss_one (ps_ret (pe_bl)))) (pss_nil))
    (pss_cons (ps_expr (kBm (K := K) rfl PySem.F.plainAttrs_list PySem.F.slot_list_append PySem.F.type_list_append mt_append (pe_ix (kIx (K := K) rfl) (pv 2) (pe_int) (fun _ _ => rfl)) (pa_cons (pe_int) pa_nil)))
    (pss_cons (ps_expr (kBm (K := K) rfl PySem.F.plainAttrs_list PySem.F.slot_list_append PySem.F.type_list_append mt_append (pe_ix (kIx (K := K) rfl) (pv 2) (pe_int) (fun _ _ => rfl)) (pa_cons (pe_bl) pa_nil)))
    (pss_cons (ps_if (pt_cut (PW.pt (pw_or (pt_not (kTruth (K := K) rfl (pe_c c__law_is hr (by decide) (by rfl) (pa_cons (pv 5) (pa_cons (pe_ix (kIx (K := K) rfl) (pv 3) (pe_int) (fun _ _ => rfl)) (pa_cons (pe_ix (kIx (K := K) rfl) (pv 3) (pe_int) (fun _ _ => rfl)) pa_nil)))) (by intro _; rfl))) (pw_or1 (pt_not (kTruth (K := K) rfl (pe_c c__law_is hr (by decide) (by rfl) (pa_cons (pv 6) (pa_cons (pe_ix (kIx (K := K) rfl) (pv 3) (pe_int) (fun _ _ => rfl)) (pa_cons (pe_ix (kIx (K := K) rfl) (pv 3) (pe_int) (fun _ _ => rfl)) pa_nil)))) (by intro _; rfl))))))) (
      (pss_one (ps_ret (pe_bl)))) (pss_nil))
    (pss_cons (ps_if (pt_cut (PW.pt (pw_or (pt_not (kTruth (K := K) rfl (pe_c c__law_is hr (by decide) (by rfl) (pa_cons (pe_mkS0 c_Play_0 hr (by decide) takes0 (by rfl)) (pa_cons (pe_lst (pa_nil)) (pa_cons (pe_lst (pa_nil)) pa_nil)))) (by intro _; rfl))) (pw_or1 (pt_not (kTruth (K := K) rfl (pe_c c__law_is hr (by decide) (by rfl) (pa_cons (pe_mkSK0 c_Play_0_outcomes hr (by decide) takes0 (by rfl) (pk_cons (pe_ix (kIx (K := K) rfl) (pv 3) (pe_int) (fun _ _ => rfl)) (pk_nil))) (pa_cons (pe_lst (pa_nil)) (pa_cons (pe_ix (kIx (K := K) rfl) (pv 3) (pe_int) (fun _ _ => rfl)) pa_nil)))) (by intro _; rfl))))))) (
      (pss_one (ps_ret (pe_bl)))) (pss_nil))
    (pss_cons (ps_if (pt_cut (PW.pt (pw_or (pt_not (kTruth (K := K) rfl (pe_c c__law_is hr (by decide) (by rfl) (pa_cons (pe_mkSK0 c_Play_0_numbers hr (by decide) takes0 (by rfl) (pk_cons (pe_ix (kIx (K := K) rfl) (pv 3) (pe_int) (fun _ _ => rfl)) (pk_nil))) (pa_cons (pe_ix (kIx (K := K) rfl) (pv 3) (pe_int) (fun _ _ => rfl)) (pa_cons (pe_lst (pa_nil)) pa_nil)))) (by intro _; rfl))) (pw_or (pt_cmpR (ne_opI c_Play___eq__ T.ne_Play T.ob_Play hr (by decide)) (pe_op (add_opI c_Play___add__ T.sf_Play hr (by decide)) (pe_mkS0 c_Play_0 hr (by decide) takes0 (by rfl)) (pv 5)) (pv 5) (nomark _)) (pw_or1 (pt_cmpR (ne_opI c_Play___eq__ T.ne_Play T.ob_Play hr (by decide)) (pe_op (add_opI c_Play___add__ T.sf_Play hr (by decide)) (pv 5) (pe_mkS0 c_Play_0 hr (by decide) takes0 (by rfl))) (pv 5) (nomark _))))))) (
      (pss_one (ps_ret (pe_bl)))) (pss_nil))
    (pss_cons (ps_set (i := 9) sc.nd rfl (by first | exact Or.inl rfl | exact Or.inr rfl) (pe_c c__law_draw hr (by decide) (by rfl) (pa_cons (pv 1) (pa_cons (pe_op (kAdd (K := K) rfl) (pe_callB (kLen (K := K) rfl) (by rfl) T.m_len PySem.boot_len (pa_cons (pe_ix (kIx (K := K) rfl) (pv 3) (pe_int) (fun _ _ => rfl)) pa_nil)) (pe_int)) pa_nil))))
    (pss_cons (ps_for PassesOwn.never rfl (kIT (K := K) rfl (pe_lst (pa_cons (pe_bl) (pa_cons (pe_non) (pa_cons (pe_str) (pa_cons (pe_lst (pa_cons (pe_int) pa_nil)) pa_nil)))))) (pg_name (i := 10) sc.nd rfl (by first | exact Or.inl rfl | exact Or.inr rfl)) (
      (pss_cons (ps_set (i := 11) sc.nd rfl (by first | exact Or.inl rfl | exact Or.inr rfl) (pe_op (kAdd (K := K) rfl) (pe_op (kAdd (K := K) rfl) (pe_slice (kSl (K := K) rfl) (pe_ix (kIx (K := K) rfl) (pv 3) (pe_int) (fun _ _ => rfl)) po_none (po_some (pv 9))) (pe_lst (pa_cons (pv 10) pa_nil))) (pe_slice (kSl (K := K) rfl) (pe_ix (kIx (K := K) rfl) (pv 3) (pe_int) (fun _ _ => rfl)) (po_some (pv 9)) po_none)))
      (pss_one (ps_if (pt_cut (PW.pt (pw_or (pt_not (kTruth (K := K) rfl (pe_cS c__law_refused hr (by decide) (fun _ => gd rfl) takes0 (by rfl) (pa_cons (pv 11) (pa_cons (pe_ix (kIx (K := K) rfl) (pv 3) (pe_int) (fun _ _ => rfl)) (pa_cons (pv 11) pa_nil)))) (by intro _; rfl))) (pw_or1 (pt_not (kTruth (K := K) rfl (pe_cS c__law_refused hr (by decide) (fun _ => gd rfl) takes0 (by rfl) (pa_cons (pe_callTy (k_tuple (K := K) rfl) (by rfl) T.m_tuple (by decide +kernel) (pa_cons (pv 11) pa_nil)) (pa_cons (pe_lst (pa_cons (pe_int) pa_nil)) (pa_cons (pe_callTy (k_tuple (K := K) rfl) (by rfl) T.m_tuple (by decide +kernel) (pa_cons (pv 11) pa_nil)) pa_nil)))) (by intro _; rfl))))))) (
        (pss_one (ps_ret (pe_bl)))) (pss_nil))))))
    (pss_cons (ps_set (i := 9) sc.nd rfl (by first | exact Or.inl rfl | exact Or.inr rfl) (pe_c c__law_draw hr (by decide) (by rfl) (pa_cons (pv 1) (pa_cons (pe_op (kAdd (K := K) rfl) (pe_callB (kLen (K := K) rfl) (by rfl) T.m_len PySem.boot_len (pa_cons (pe_ix (kIx (K := K) rfl) (pv 3) (pe_int) (fun _ _ => rfl)) pa_nil)) (pe_int)) pa_nil))))
    (pss_cons (ps_for PassesOwn.never rfl (kIT (K := K) rfl (pe_lst (pa_cons (pe_int) (pa_cons (pe_int) (pa_cons (pe_non) (pa_cons (pe_str) pa_nil)))))) (pg_name (i := 10) sc.nd rfl (by first | exact Or.inl rfl | exact Or.inr rfl)) (
      (pss_cons (ps_set (i := 12) sc.nd rfl (by first | exact Or.inl rfl | exact Or.inr rfl) (pe_op (kAdd (K := K) rfl) (pe_op (kAdd (K := K) rfl) (pe_slice (kSl (K := K) rfl) (pe_ix (kIx (K := K) rfl) (pv 3) (pe_int) (fun _ _ => rfl)) po_none (po_some (pv 9))) (pe_lst (pa_cons (pv 10) pa_nil))) (pe_slice (kSl (K := K) rfl) (pe_ix (kIx (K := K) rfl) (pv 3) (pe_int) (fun _ _ => rfl)) (po_some (pv 9)) po_none)))
      (pss_one (ps_if (pt_cut (PW.pt (pw_or (pt_not (kTruth (K := K) rfl (pe_cS c__law_refused hr (by decide) (fun _ => gd rfl) takes0 (by rfl) (pa_cons (pe_ix (kIx (K := K) rfl) (pv 3) (pe_int) (fun _ _ => rfl)) (pa_cons (pv 12) (pa_cons (pv 12) pa_nil)))) (by intro _; rfl))) (pw_or1 (pt_not (kTruth (K := K) rfl (pe_cS c__law_refused hr (by decide) (fun _ => gd rfl) takes0 (by rfl) (pa_cons (pe_tup (pa_nil)) (pa_cons (pe_callTy (k_tuple (K := K) rfl) (by rfl) T.m_tuple (by decide +kernel) (pa_cons (pv 12) pa_nil)) (pa_cons (pe_callTy (k_tuple (K := K) rfl) (by rfl) T.m_tuple (by decide +kernel) (pa_cons (pv 12) pa_nil)) pa_nil)))) (by intro _; rfl))))))) (
        (pss_one (ps_ret (pe_bl)))) (pss_nil))))))
    (pss_cons (ps_for PassesOwn.never rfl (kIT (K := K) rfl (pe_lst (pa_cons (pe_non) (pa_cons (pe_int) (pa_cons (pe_str) (pa_cons (pe_disp (pps_cons (pe_str) (pe_int) (pps_nil)) (by rfl) (by rfl) (fun z => by cases z) (by decide)) pa_nil)))))) (pg_name (i := 10) sc.nd rfl (by first | exact Or.inl rfl | exact Or.inr rfl)) (
      (pss_one (ps_if (pt_cut (PW.pt (pw_or (pt_not (kTruth (K := K) rfl (pe_cS c__law_refused hr (by decide) (fun _ => gd rfl) takes0 (by rfl) (pa_cons (pv 10) (pa_cons (pv 10) (pa_cons (pv 10) pa_nil)))) (by intro _; rfl))) (pw_or1 (pt_not (kTruth (K := K) rfl (pe_cS c__law_refused hr (by decide) (fun _ => gd rfl) takes0 (by rfl) (pa_cons (pe_lst (pa_nil)) (pa_cons (pv 10) (pa_cons (pv 10) pa_nil)))) (by intro _; rfl))))))) (
        (pss_one (ps_ret (pe_bl)))) (pss_nil)))))
    (pss_one (ps_ret (pe_c c__law_is hr (by decide) (by rfl) (pa_cons (pv 7) (pa_cons (pe_op (kAdd (K := K) rfl) (pe_ix (kIx (K := K) rfl) (pv 3) (pe_int) (fun _ _ => rfl)) (pe_ix (kIx (K := K) rfl) (pv 3) (pe_int) (fun _ _ => rfl))) (pa_cons (pe_op (kAdd (K := K) rfl) (pe_ix (kIx (K := K) rfl) (pv 3) (pe_int) (fun _ _ => rfl)) (pe_ix (kIx (K := K) rfl) (pv 3) (pe_int) (fun _ _ => rfl))) pa_nil)))))))))))))))))))))))))), ?_⟩
    try rw [cxK]
    refine i_start (τ := [some (.ref a), none, none, none, none, none, none, none, none, none, none, none, none]) rfl ?_
    walk_at "go"
    refine ⟨a, script, rfl, hS, hl, fun st L H0 _ _ hD0 _ => ?_⟩
    walk_at "go"
    refine ⟨st, L, 0, rfl, hD0, by decide, fun p0 ns H1 n10 h10 ln bn hD1 b1 => ?_⟩
    walk_at "go"
    refine ⟨st, L, _, rfl, hD1, by decide, fun p1 bs H2 n21 h21 lb hD2 b2 => ?_⟩
    walk_at "go"
    refine ⟨st, L, _, rfl, hD2, by decide, fun p2 ms H3 n32 h32 lm bm hD3 b3 => ?_⟩
    walk_at "go"
    refine ⟨st, L, _, rfl, hD3, by decide, fun p3 cs H4 n43 h43 lc hD4 b4 => ?_⟩
    walk_at "go"
    obtain ⟨np0, np0'⟩ := hD0.ne n10
    obtain ⟨np1, np1'⟩ := hD1.ne n21
    obtain ⟨np2, np2'⟩ := hD2.ne n32
    obtain ⟨np3, np3'⟩ := hD3.ne n43
    intro R hR
    walk_at "go"
    have hp0 : H4 p0 = some (.lst (ns.map V.int)) := b4 _ _ np0 (b3 _ _ np0 (b2 _ _ np0 h10))
    have hp1 : H4 p1 = some (.lst (bs.map V.bl)) := b4 _ _ np1 (b3 _ _ np1 h21)
    have hp2 : H4 p2 = some (.lst (ms.map V.int)) := b4 _ _ np2 h32
    have hp3 := h43
    have p30 : p3 ≠ p0 := fun z => by
      have g := b3 _ _ np0 (b2 _ _ np0 h10)
      rw [← z, n43] at g
      cases g
    have eR : Ex H4 (upd H4 R (.lst [.ref p0, .ref p1, .ref p2, .ref p3])) := Ex.new hR
    refine i_anyL (i_var rfl ⟨R, rfl, ⟨_, .of upd_same⟩, lc_copy (ps := [p0, p1, p2, p3]) (xss := [ns.map V.int, bs.map V.bl, ms.map V.int, cs.map V.bl]) (.of upd_same) (by simp) (fun j p hj => ?_) (fun _ => rfl) (fun _ => rfl) fun D ks H5 hD e5 hk hkl hks => ?_⟩)
    · match j, hj with
      | 0, hj => cases hj; exact ⟨_, rfl, .of (eR _ _ hp0)⟩
      | 1, hj => cases hj; exact ⟨_, rfl, .of (eR _ _ hp1)⟩
      | 2, hj => cases hj; exact ⟨_, rfl, .of (eR _ _ hp2)⟩
      | 3, hj => cases hj; exact ⟨_, rfl, .of (eR _ _ hp3)⟩
      | n + 4, hj => simp at hj
    match ks, hkl, hk, hks with
    | [k0, k1, k2, k3], _, hk, hks =>
    obtain ⟨nk0, _, _, x0, hk0⟩ := hks 0 k0 rfl
    obtain ⟨nk1, _, _, x1, hk1⟩ := hks 1 k1 rfl
    obtain ⟨nk2, _, _, x2, hk2⟩ := hks 2 k2 rfl
    obtain ⟨nk3, _, _, x3, hk3⟩ := hks 3 k3 rfl
    cases x0
    cases x1
    cases x2
    cases x3
    have hDR := hD4.mono eR
    have Dst := (hDR.ne hD).1
    have k0st := (hDR.ne nk0).1
    have k1st := (hDR.ne nk1).1
    have k2st := (hDR.ne nk2).1
    have k3st := (hDR.ne nk3).1
    have q0 := (eR.trans e5) _ _ hp0
    have q1 := (eR.trans e5) _ _ hp1
    have q2 := (eR.trans e5) _ _ hp2
    have q3 := (eR.trans e5) _ _ hp3
    have qR : H5 R = some (.lst [.ref p0, .ref p1, .ref p2, .ref p3]) := e5 _ _ upd_same
    have qK : H5 D = some (.lst [.ref k0, .ref k1, .ref k2, .ref k3]) := hk
    have hD5 : Dl H5 st L 120 := (hD4.mono (eR.trans e5)).up (by omega)
    clear hD0 hD1 hD2 hD3 hD4 b1 b2 b3 b4 h10 h21 h32 h43 hks hk
    have lN : ns.length ≤ 1000 := by omega
    have lM : ms.length ≤ 1000 := by omega
    have lB : bs.length ≤ 1000 := by omega
    have lC : cs.length ≤ 1000 := by omega
    walk_at "go"
    -- first, second, both
    refine l_tupSq (.l (.of q1)) fun t1 H6 e6 ht1 => ?_
    walk_at "go"
    refine play_new (.l (.of (e6 _ _ q0))) (.t ht1) lN lB fun f1 H7 e7 pf => ?_
    have e57 := e6.trans e7
    walk_at "go"
    refine l_ixL (e57 _ _ qR) rfl ?_
    walk_at "go"
    refine l_tupSq (.l (.of (e57 _ _ q2))) fun t2 H8 e8 ht2 => ?_
    have e58 := e57.trans e8
    walk_at "go"
    refine l_ixL (e58 _ _ qR) rfl ?_
    walk_at "go"
    refine play_new (.t ht2) (.l (.of (e58 _ _ q3))) lM lC fun f2 H9 e9 ps => ?_
    have e79 := e8.trans e9
    have pf9 := pf.mono e79
    have e59 := e57.trans e79
    walk_at "go"
    refine add_PP pf9 ps (by omega) (by omega) fun vb H10 e10 pb => ?_
    have e510 := e59.trans e10
    walk_at "go"
    refine l_ixL (e510 _ _ qR) rfl ?_
    walk_at "go"
    refine l_ixL (e510 _ _ qR) rfl ?_
    refine l_addL (e510 _ _ q0) (e510 _ _ q2) (by simp; omega) fun s1 hs1 => ?_
    have e11 : Ex H10 (upd H10 s1 (.lst (ns.map V.int ++ ms.map V.int))) := Ex.new hs1
    have e511 := e510.trans e11
    walk_at "go"
    refine l_ixL (e511 _ _ qR) rfl ?_
    walk_at "go"
    refine l_ixL (e511 _ _ qR) rfl ?_
    refine l_addL (e511 _ _ q1) (e511 _ _ q3) (by simp; omega) fun s2 hs2 => ?_
    have e12 : Ex (upd H10 s1 (.lst (ns.map V.int ++ ms.map V.int))) (upd (upd H10 s1 (.lst (ns.map V.int ++ ms.map V.int))) s2 (.lst (bs.map V.bl ++ cs.map V.bl))) := Ex.new hs2
    have e512 := e511.trans e12
    have m1 : Sq K (upd (upd H10 s1 (.lst (ns.map V.int ++ ms.map V.int))) s2 (.lst (bs.map V.bl ++ cs.map V.bl))) (.ref s1) ((ns ++ ms).map V.int) := .l (.of (by rw [List.map_append]; exact e12 _ _ upd_same))
    have m2 : Sq K (upd (upd H10 s1 (.lst (ns.map V.int ++ ms.map V.int))) s2 (.lst (bs.map V.bl ++ cs.map V.bl))) (.ref s2) ((bs ++ cs).map V.bl) := .l (.of (by rw [List.map_append]; exact upd_same))
    generalize (upd (upd H10 s1 (.lst (ns.map V.int ++ ms.map V.int))) s2 (.lst (bs.map V.bl ++ cs.map V.bl))) = H12 at e12 e512 m1 m2 ⊢
    have e1012 := e11.trans e12
    walk_at "go"
    refine ⟨_, _, _, _, _, _, _, rfl, pb.mono e1012, m1, m2, fun H13 e13 => ⟨true, by simp [TruV], ?_⟩⟩
    walk_at "go"
    have e513 := e512.trans e13
    have r0 := e513 _ _ q0
    have r1 := e513 _ _ q1
    have r2 := e513 _ _ q2
    have r3 := e513 _ _ q3
    have rR := e513 _ _ qR
    have rK := e513 _ _ qK
    have j0 := e513 _ _ hk0
    have j1 := e513 _ _ hk1
    have j2 := e513 _ _ hk2
    have j3 := e513 _ _ hk3
    have hD13 := hD5.mono e513
    have pb13 := pb.mono (e1012.trans e13)
    have pf13 := pf9.mono (e10.trans (e1012.trans e13))
    have ps13 := ps.mono (e10.trans (e1012.trans e13))
    have k0p0 : k0 ≠ p0 := fun z => by rw [z, eR _ _ hp0] at nk0; cases nk0
    have k0p3 : k0 ≠ p3 := fun z => by rw [z, eR _ _ hp3] at nk0; cases nk0
    have k1p0 : k1 ≠ p0 := fun z => by rw [z, eR _ _ hp0] at nk1; cases nk1
    have k1p3 : k1 ≠ p3 := fun z => by rw [z, eR _ _ hp3] at nk1; cases nk1
    have k2p0 : k2 ≠ p0 := fun z => by rw [z, eR _ _ hp0] at nk2; cases nk2
    have k2p3 : k2 ≠ p3 := fun z => by rw [z, eR _ _ hp3] at nk2; cases nk2
    have k3p0 : k3 ≠ p0 := fun z => by rw [z, eR _ _ hp0] at nk3; cases nk3
    have k3p3 : k3 ≠ p3 := fun z => by rw [z, eR _ _ hp3] at nk3; cases nk3
    have Dp0 : D ≠ p0 := fun z => by rw [z, eR _ _ hp0] at hD; cases hD
    have Dp3 : D ≠ p3 := fun z => by rw [z, eR _ _ hp3] at hD; cases hD
    have Rp0 : R ≠ p0 := fun z => by rw [z, hp0] at hR; cases hR
    have Rp3 : R ≠ p3 := fun z => by rw [z, hp3] at hR; cases hR
    clear q0 q1 q2 q3 qR qK hk0 hk1 hk2 hk3 hD5 pb ps pf pf9 m1 m2 ht1 ht2 e57 e58 e59 e79 e510 e511 e512 e513 e1012 e12 e11 e10 e9 e8 e7 e6 e5 hp0 hp1 hp2 hp3 nk0 nk1 nk2 nk3 hD hR
    refine i_cutT (fun b H' => b = false ∧ Ex H13 H') ?_ ?_
    · walk_at "go"
      refine l_neD (.lst (.of rR) (.cons (.lst (.of r0) (dp_ints ns)) (.cons (.lst (.of r1) (dp_bls bs)) (.cons (.lst (.of r2) (dp_ints ms)) (.cons (.lst (.of r3) (dp_bls cs)) .nil))))) (.lst (.of rK) (.cons (.lst (.of j0) (dp_ints ns)) (.cons (.lst (.of j1) (dp_bls bs)) (.cons (.lst (.of j2) (dp_ints ms)) (.cons (.lst (.of j3) (dp_bls cs)) .nil))))) (sh_four ns ms bs cs) (sh_four ns ms bs cs) (eqv_four ns ms bs cs) ?_
      walk_at "go"
      refine l_addL r0 r2 (by simp; omega) fun s1 hs1 => ?_
      have e14 : Ex H13 (upd H13 s1 (.lst (ns.map V.int ++ ms.map V.int))) := Ex.new hs1
      walk_at "go"
      refine l_ixL (e14 _ _ rR) rfl ?_
      walk_at "go"
      refine l_ixL (e14 _ _ rR) rfl ?_
      refine l_addL (e14 _ _ r1) (e14 _ _ r3) (by simp; omega) fun s2 hs2 => ?_
      have e15 : Ex (upd H13 s1 (.lst (ns.map V.int ++ ms.map V.int))) (upd (upd H13 s1 (.lst (ns.map V.int ++ ms.map V.int))) s2 (.lst (bs.map V.bl ++ cs.map V.bl))) := Ex.new hs2
      have m1 : Sq K (upd (upd H13 s1 (.lst (ns.map V.int ++ ms.map V.int))) s2 (.lst (bs.map V.bl ++ cs.map V.bl))) (.ref s1) ((ns ++ ms).map V.int) := .l (.of (by rw [List.map_append]; exact e15 _ _ upd_same))
      have m2 : Sq K (upd (upd H13 s1 (.lst (ns.map V.int ++ ms.map V.int))) s2 (.lst (bs.map V.bl ++ cs.map V.bl))) (.ref s2) ((bs ++ cs).map V.bl) := .l (.of (by rw [List.map_append]; exact upd_same))
      walk_at "go"
      refine play_new m1 m2 (by simp; omega) (by simp; omega) fun f3 H16 e16 p3' => ?_
      have e1316 := e14.trans (e15.trans e16)
      refine ne_PP T (pb13.mono e1316) p3' fun H17 e17 => ⟨false, by simp, rfl, e1316.trans e17⟩
    rintro _ H17 ⟨rfl, e17⟩
    walk_at "go"
    have rR17 := e17 _ _ rR
    refine i_isE (.bl (decide (ns = ms) && decide (bs = cs))) ?_ ?_
    · walk_at "go"
      refine l_eqD (.lst (.of (e17 _ _ r0)) (dp_ints ns)) (.lst (.of (e17 _ _ r2)) (dp_ints ms)) (sh_ints ns) (sh_ints ms) (eqv_lI ns ms) ?_
      walk_at "go"
      refine i_ite (fun h => ?_) (fun h => ?_)
      · walk_at "go"
        refine l_eqD (.lst (.of (e17 _ _ r1)) (dp_bls bs)) (.lst (.of (e17 _ _ r3)) (dp_bls cs)) (sh_lB bs) (sh_lB cs) (eqv_lB bs cs) ?_
        rw [decide_eq_true h]
        exact ⟨rfl, rfl⟩
      · rw [decide_eq_false h]
        exact ⟨rfl, rfl⟩
    walk_at "go"
    refine i_cutT (fun b H' => b = false ∧ Ex H17 H') ?_ ?_
    · walk_at "go"
      refine eq_PP T (pf13.mono e17) (ps13.mono e17) fun H18 e18 => ?_
      walk_at "go"
      refine i_iteN (fun h => absurd rfl h) (fun _ => ?_)
      walk_at "go"
      obtain ⟨x1, dx1, t1', t2', ex1, hx1, ht1, ht2⟩ := pf13.mono (e17.trans e18)
      cases ex1
      refine ⟨f1, C_Play, dx1, _, _, rfl, hx1, T.cl_Play, T.n_Play_numbers, lk_num, ?_⟩
      walk_at "go"
      refine ⟨f1, C_Play, dx1, _, _, rfl, hx1, T.cl_Play, T.n_Play_outcomes, lk_out, ?_⟩
      walk_at "go"
      intro tt htt
      walk_at "go"
      have e19 : Ex H18 (upd H18 tt (.tup [.ref t1', .ref t2'])) := Ex.new htt
      refine eq_PT T (pf13.mono (e17.trans (e18.trans e19))) (.of upd_same) ⟨false, rfl, rfl, e18.trans e19⟩
    rintro _ H20 ⟨rfl, e20⟩
    have e1320 := e17.trans e20
    clear rR17
    have rR20 := e1320 _ _ rR
    walk_at "go"
    refine ⟨.inl ⟨rfl, _, .of (e1320 _ _ r0)⟩, ?_⟩
    walk_at "go"
    refine ⟨p0, _, _, rfl, rfl, e1320 _ _ r0, szl (by simp; omega), ?_⟩
    have ba : But p0 H20 (upd H20 p0 (.lst (ns.map V.int ++ [.int 7]))) := (But.refl H20).mut
    have r3a := ba _ _ p30 (e1320 _ _ r3)
    walk_at "go"
    refine l_ixL (ba _ _ Rp0 rR20) rfl ?_
    walk_at "go"
    refine ⟨.inl ⟨rfl, _, .of r3a⟩, ?_⟩
    walk_at "go"
    refine ⟨p3, _, _, rfl, rfl, r3a, szl (by simp; omega), ?_⟩
    have bb : But p3 (upd H20 p0 (.lst (ns.map V.int ++ [.int 7]))) (upd (upd H20 p0 (.lst (ns.map V.int ++ [.int 7]))) p3 (.lst (cs.map V.bl ++ [.bl true]))) := (But.refl _).mut
    have tr : ∀ {y : Addr} {o : HO}, y ≠ p0 → y ≠ p3 → H13 y = some o → (upd (upd H20 p0 (.lst (ns.map V.int ++ [.int 7]))) p3 (.lst (cs.map V.bl ++ [.bl true]))) y = some o := fun h1 h2 h => bb _ _ h2 (ba _ _ h1 (e1320 _ _ h))
    have sK := tr Dp0 Dp3 rK
    have i0 := tr k0p0 k0p3 j0
    have i1 := tr k1p0 k1p3 j1
    have i2 := tr k2p0 k2p3 j2
    have i3 := tr k3p0 k3p3 j3
    have pF := ((pf13.mono e1320).butL (e1320 _ _ r0) ba).butL r3a bb
    have pS := ((ps13.mono e1320).butL (e1320 _ _ r0) ba).butL r3a bb
    have pB := ((pb13.mono e1320).butL (e1320 _ _ r0) ba).butL r3a bb
    have hD := ((hD13.mono e1320).put (o := .lst (ns.map V.int ++ [.int 7])) np0 np0').put (o := .lst (cs.map V.bl ++ [.bl true])) np3 np3'
    clear tr ba bb r3a r0 r1 r2 r3 rR rK j0 j1 j2 j3 hD13 pb13 pf13 ps13 rR20
    generalize (upd (upd H20 p0 (.lst (ns.map V.int ++ [.int 7]))) p3 (.lst (cs.map V.bl ++ [.bl true]))) = G0 at sK i0 i1 i2 i3 pF pS pB hD ⊢
    walk_at "go"
    -- the plays are as they were
    refine i_cutT (fun b H' => b = false ∧ Ex G0 H') ?_ ?_
    · walk_at "go"
      refine ⟨_, _, _, _, _, _, _, rfl, pF, .l (.of i0), .l (.of i1), fun G1 e1 => ⟨true, by simp [TruV], ?_⟩⟩
      have sK1 := e1 _ _ sK
      walk_at "go"
      refine ⟨_, _, _, _, _, _, _, rfl, pS.mono e1, .l (.of (e1 _ _ i2)), .l (.of (e1 _ _ i3)), fun G2 e2 => ⟨true, by simp [TruV], rfl, e1.trans e2⟩⟩
    rintro _ G1 ⟨rfl, e1⟩
    walk_at "go"
    refine i_cutT (fun b H' => b = false ∧ Ex G0 H') ?_ ?_
    · walk_at "go"
      refine play_new (ns := []) (bs := []) (.t (T.td_Play_0 _)) (.t (T.td_Play_1 _)) (by simp) (by simp) fun w1 G3 e3 pw => ?_
      walk_at "go"
      intro l1 hl1
      have e4 : Ex G3 (upd G3 l1 (.lst [])) := Ex.new hl1
      walk_at "go"
      intro l2 hl2
      have e5 : Ex (upd G3 l1 (.lst [])) (upd (upd G3 l1 (.lst [])) l2 (.lst [])) := Ex.new hl2
      walk_at "go"
      refine ⟨_, _, _, _, _, [], [], rfl, pw.mono (e4.trans e5), .l (.of (e5 _ _ upd_same)), .l (.of upd_same), fun G6 e6 => ⟨true, by simp [TruV], ?_⟩⟩
      have e06 := e1.trans (e3.trans (e4.trans (e5.trans e6)))
      have sK6 := e06 _ _ sK
      walk_at "go"
      refine play_new (ns := []) (bs := bs) (.t (T.td_Play_0 _)) (.l (.of (e06 _ _ i1))) (by simp) lB fun w2 G7 e7 pw2 => ?_
      have e07 := e06.trans e7
      walk_at "go"
      intro l3 hl3
      have e8 : Ex G7 (upd G7 l3 (.lst [])) := Ex.new hl3
      have sK8 := (e07.trans e8) _ _ sK
      walk_at "go"
      refine ⟨_, _, _, _, _, [], bs, rfl, pw2.mono e8, .l (.of upd_same), .l (.of ((e07.trans e8) _ _ i1)), fun G9 e9 => ⟨true, by simp [TruV], rfl, e07.trans (e8.trans e9)⟩⟩
    rintro _ G2 ⟨rfl, e2⟩
    walk_at "go"
    refine i_cutT (fun b H' => b = false ∧ Ex G0 H') ?_ ?_
    · have sK2 := e2 _ _ sK
      walk_at "go"
      refine play_new (ns := ms) (bs := []) (.l (.of (e2 _ _ i2))) (.t (T.td_Play_1 _)) lM (by simp) fun w1 G3 e3 pw => ?_
      have e03 := e2.trans e3
      have sK3 := e03 _ _ sK
      walk_at "go"
      intro l1 hl1
      have e4 : Ex G3 (upd G3 l1 (.lst [])) := Ex.new hl1
      walk_at "go"
      refine ⟨_, _, _, _, _, ms, [], rfl, pw.mono e4, .l (.of ((e03.trans e4) _ _ i2)), .l (.of upd_same), fun G5 e5 => ⟨true, by simp [TruV], ?_⟩⟩
      have e05 := e03.trans (e4.trans e5)
      walk_at "go"
      refine play_new (ns := []) (bs := []) (.t (T.td_Play_0 _)) (.t (T.td_Play_1 _)) (by simp) (by simp) fun w2 G6 e6 pw2 => ?_
      have e06 := e05.trans e6
      walk_at "go"
      refine add_PP pw2 (pF.mono e06) (by simp; omega) (by simp; omega) fun w3 G7 e7 pw3 => ?_
      have e07 := e06.trans e7
      walk_at "go"
      refine ne_PP T pw3 (pF.mono e07) fun G8 e8 => ?_
      have e08 := e07.trans e8
      refine ⟨false, by simp, ?_⟩
      walk_at "go"
      refine play_new (ns := []) (bs := []) (.t (T.td_Play_0 _)) (.t (T.td_Play_1 _)) (by simp) (by simp) fun w4 G9 e9 pw4 => ?_
      have e09 := e08.trans e9
      walk_at "go"
      refine add_PP (pF.mono e09) pw4 (by simp; omega) (by simp; omega) fun w5 G10 e10 pw5 => ?_
      have e010 := e09.trans e10
      walk_at "go"
      refine ne_PP T pw5 (pF.mono e010) fun G11 e11 => ⟨false, by simp, rfl, e010.trans e11⟩
    rintro _ G3 ⟨rfl, e3⟩
    clear e1 e2
    have sK3 := e3 _ _ sK
    have i0' := e3 _ _ i0
    have hD3 := hD.mono e3
    walk_at "go"
    refine drawL hD3 (by omega) (by simp only [List.length_map]; omega) (by decide) fun at_ G4 _ _ hD4 b4 => ?_
    have g0 := b4 _ _ k0st (e3 _ _ i0)
    have g1 := b4 _ _ k1st (e3 _ _ i1)
    have g2 := b4 _ _ k2st (e3 _ _ i2)
    have g3 := b4 _ _ k3st (e3 _ _ i3)
    have gK := b4 _ _ Dst sK3
    have pB4 := (pB.mono e3).dl hD3 b4
    clear sK3 i0' hD3 hD i0 i1 i2 i3 sK pF pS pB e3 b4
    walk_at "go"
    refine i_anyL ?_
    walk_at "go"
    intro u1 hu1
    walk_at "go"
    intro u2 hu2
    have eu : Ex G4 (upd (upd G4 u1 (.lst [.int 1])) u2 (.lst [.bl true, .non, .str "1", .ref u1])) := (Ex.new hu1).trans (Ex.new hu2)
    have hu1' : (upd (upd G4 u1 (.lst [.int 1])) u2 (.lst [.bl true, .non, .str "1", .ref u1])) u1 = some (.lst [.int 1]) := Ex.new hu2 _ _ upd_same
    have hu2' : (upd (upd G4 u1 (.lst [.int 1])) u2 (.lst [.bl true, .non, .str "1", .ref u1])) u2 = some (.lst [.bl true, .non, .str "1", .ref u1]) := upd_same
    generalize (upd (upd G4 u1 (.lst [.int 1])) u2 (.lst [.bl true, .non, .str "1", .ref u1])) = G5 at eu hu1' hu2' ⊢
    have odd : ∀ x ∈ [V.bl true, .non, .str "1", .ref u1], ∃ dv, Dp K G5 x dv ∧ Lf dv ∧ Kd K G5 x ∧ isI x = false := fun x hx => by
      simp only [List.mem_cons, List.not_mem_nil, or_false] at hx
      rcases hx with rfl | rfl | rfl | rfl
      · exact ⟨_, .bl true, lf_bl _, .inl rfl, rfl⟩
      · exact ⟨_, .non, lf_non, .inl rfl, rfl⟩
      · exact ⟨_, .str _, lf_str _ (by decide +kernel), .inl rfl, rfl⟩
      · exact ⟨_, .lst (.of hu1') (.cons (.int 1) .nil), ⟨by decide, by decide, by decide, by decide⟩, .l (.of hu1'), rfl⟩
    refine ⟨u2, rfl, ⟨_, .of hu2'⟩, ?_⟩
    refine for_lst (xs := [V.bl true, .non, .str "1", .ref u1]) (fun _ σ H' => ∃ v10 v11, σ = [some (.ref a), some (.ref st), some (.ref R), some (.ref D), none, some (.ref f1), some (.ref f2), some vb, some (.bl (decide (ns = ms) && decide (bs = cs))), some (.int at_), v10, v11, none] ∧ Ex G5 H') ⟨_, _, rfl, Ex.refl _⟩ (fun _ _ _ _ ⟨_, _, _, e⟩ => .of (e _ _ hu2')) ?_ ?_
    · rintro i x σ H' hi ⟨v10, v11, rfl, e⟩
      obtain ⟨dv, dx, lx, kx, ix⟩ := odd x (List.mem_of_getElem? hi)
      obtain ⟨A, eA, sA, lA⟩ := cut_map V.int ns none (some at_)
      obtain ⟨B, eB, sB, lB'⟩ := cut_map V.int ns (some at_) none
      have eH := eu.trans e
      have gK' := eH _ _ gK
      walk_at "go"
      refine l_slL (.of (eH _ _ g0)) fun w1 hw1 => ?_
      rw [eA]
      have E1 : Ex H' (upd H' w1 (.lst (A.map V.int))) := Ex.new hw1
      have W1 : (upd H' w1 (.lst (A.map V.int))) w1 = some (.lst (A.map V.int)) := upd_same
      generalize (upd H' w1 (.lst (A.map V.int))) = J1 at E1 W1 ⊢
      walk_at "go"
      intro w2 hw2
      have E2 : Ex J1 (upd J1 w2 (.lst [x])) := Ex.new hw2
      refine l_addL (E2 _ _ W1) upd_same (by simp; omega) fun w3 hw3 => ?_
      have E3 : Ex (upd J1 w2 (.lst [x])) (upd (upd J1 w2 (.lst [x])) w3 (.lst (A.map V.int ++ [x]))) := Ex.new hw3
      have W3 : (upd (upd J1 w2 (.lst [x])) w3 (.lst (A.map V.int ++ [x]))) w3 = some (.lst (A.map V.int ++ [x])) := upd_same
      generalize (upd (upd J1 w2 (.lst [x])) w3 (.lst (A.map V.int ++ [x]))) = J3 at E3 W3 ⊢
      have F3 := E1.trans (E2.trans E3)
      walk_at "go"
      refine l_ixL ((eH.trans F3) _ _ gK) rfl ?_
      walk_at "go"
      refine l_slL (.of ((eH.trans F3) _ _ g0)) fun w4 hw4 => ?_
      rw [eB]
      have E4 : Ex J3 (upd J3 w4 (.lst (B.map V.int))) := Ex.new hw4
      refine l_addL (E4 _ _ W3) upd_same (by simp; omega) fun w5 hw5 => ?_
      have E5 : Ex (upd J3 w4 (.lst (B.map V.int))) (upd (upd J3 w4 (.lst (B.map V.int))) w5 (.lst ((A.map V.int ++ [x]) ++ B.map V.int))) := Ex.new hw5
      have W5 : (upd (upd J3 w4 (.lst (B.map V.int))) w5 (.lst ((A.map V.int ++ [x]) ++ B.map V.int))) w5 = some (.lst ((A.map V.int ++ [x]) ++ B.map V.int)) := upd_same
      generalize (upd (upd J3 w4 (.lst (B.map V.int))) w5 (.lst ((A.map V.int ++ [x]) ++ B.map V.int))) = J5 at E5 W5 ⊢
      have F5 := F3.trans (E4.trans E5)
      have eF := e.trans F5
      have md : ∀ (J : Hp) (q : Addr), Ex G5 J → (SqL K J q ((A.map V.int ++ [x]) ++ B.map V.int) → Shw K J (.ref q) (PyData.list ((A.map .int ++ [dv]) ++ B.map .int)).shown) ∧ (SqT K J q ((A.map V.int ++ [x]) ++ B.map V.int) → Shw K J (.ref q) (PyData.tuple ((A.map .int ++ [dv]) ++ B.map .int)).shown) :=
        fun J q eJ => shw_mid (dp_ints A) (dp_ints B) (dp_mono eJ dv x dx) (lf_ints fun n hn => bn n (sA n hn)) (lf_ints fun n hn => bn n (sB n hn)) lx (by simp; omega)
      have bd : ∀ (J : Hp) (v : V), Ex G5 J → Sq K J v ((A.map V.int ++ [x]) ++ B.map V.int) → Bad K J isI v := fun J v eJ hs => bad_mid hs (by simp; omega) (kd_ints A) (kd_ints B) (kx.mono eJ) ix
      walk_at "go"
      refine i_cutT (fun b H' => b = false ∧ Ex G5 H') ?_ ?_
      · walk_at "go"
        refine l_ixL ((eu.trans eF) _ _ gK) rfl ?_
        walk_at "go"
        have s1 := (md J5 w5 eF).1 (.of W5)
        refine ⟨_, _, _, _, rfl, s1, .inl ⟨bd J5 _ eF (.l (.of W5)), s1⟩, fun J6 E6 => ⟨true, by simp [TruV], ?_⟩⟩
        have eF6 := eF.trans E6
        walk_at "go"
        refine l_tupSq (.l (.of (E6 _ _ W5))) fun t1 J7 E7 h7 => ?_
        walk_at "go"
        intro w8 hw8
        have E8 : Ex J7 (upd J7 w8 (.lst [.int 0])) := Ex.new hw8
        walk_at "go"
        refine l_tupSq (.l (.of ((E6.trans (E7.trans E8)) _ _ W5))) fun t2 J9 E9 h9 => ?_
        have E79 := E8.trans E9
        have eF9 := eF6.trans (E7.trans E79)
        walk_at "go"
        have s2 := (md J9 t1 eF9).2 (sqT_mono E79 h7)
        have s3 := (md J9 t2 eF9).2 h9
        refine ⟨_, _, _, _, rfl, s3, .inl ⟨bd J9 _ eF9 (.t (sqT_mono E79 h7)), s2⟩, fun J10 E10 => ⟨true, by simp [TruV], rfl, eF9.trans E10⟩⟩
      rintro _ J11 ⟨rfl, e11⟩
      walk_at "go"
      exact ⟨_, _, rfl, e11⟩
    rintro σ G6 ⟨v10, v11, rfl, e6⟩
    have e46 := eu.trans e6
    have sK6 := e46 _ _ gK
    have s16 := e46 _ _ g1
    have hD6 := hD4.mono e46
    walk_at "go"
    refine drawL hD6 (by omega) (by simp only [List.length_map]; omega) (by decide) fun at2 G7 _ _ hD7 b7 => ?_
    have f0 := b7 _ _ k0st (e46 _ _ g0)
    have f1' := b7 _ _ k1st s16
    have f2' := b7 _ _ k2st (e46 _ _ g2)
    have f3' := b7 _ _ k3st (e46 _ _ g3)
    have fK := b7 _ _ Dst sK6
    have pB7 := (pB4.mono e46).dl hD6 b7
    clear odd hD6 hD4 g0 g1 g2 g3 gK pB4 e46 e6 eu b7 hu1' hu2' hu1 hu2 sK6 s16
    walk_at "go"
    refine i_anyL ?_
    walk_at "go"
    intro u3 hu3
    have eu : Ex G7 (upd G7 u3 (.lst [.int 0, .int 1, .non, .str "yes"])) := Ex.new hu3
    have hu3' : (upd G7 u3 (.lst [.int 0, .int 1, .non, .str "yes"])) u3 = some (.lst [.int 0, .int 1, .non, .str "yes"]) := upd_same
    generalize (upd G7 u3 (.lst [.int 0, .int 1, .non, .str "yes"])) = G8 at eu hu3' ⊢
    have odd : ∀ x ∈ [V.int 0, .int 1, .non, .str "yes"], ∃ dv, Dp K G8 x dv ∧ Lf dv ∧ Kd K G8 x ∧ isB x = false := fun x hx => by
      simp only [List.mem_cons, List.not_mem_nil, or_false] at hx
      rcases hx with rfl | rfl | rfl | rfl
      · exact ⟨_, .int 0, lf_int (by decide), .inl rfl, rfl⟩
      · exact ⟨_, .int 1, lf_int (by decide), .inl rfl, rfl⟩
      · exact ⟨_, .non, lf_non, .inl rfl, rfl⟩
      · exact ⟨_, .str _, lf_str _ (by decide +kernel), .inl rfl, rfl⟩
    refine ⟨u3, rfl, ⟨_, .of hu3'⟩, ?_⟩
    refine for_lst (xs := [V.int 0, .int 1, .non, .str "yes"]) (fun _ σ H' => ∃ v10 v11 v12, σ = [some (.ref a), some (.ref st), some (.ref R), some (.ref D), none, some (.ref f1), some (.ref f2), some vb, some (.bl (decide (ns = ms) && decide (bs = cs))), some (.int at2), v10, v11, v12] ∧ Ex G8 H') ⟨_, _, _, rfl, Ex.refl _⟩ (fun _ _ _ _ ⟨_, _, _, _, e⟩ => .of (e _ _ hu3')) ?_ ?_
    · rintro i x σ H' hi ⟨v10, v11, v12, rfl, e⟩
      obtain ⟨dv, dx, lx, kx, ix⟩ := odd x (List.mem_of_getElem? hi)
      obtain ⟨A, eA, sA, lA⟩ := cut_map V.bl bs none (some at2)
      obtain ⟨B, eB, sB, lB'⟩ := cut_map V.bl bs (some at2) none
      have eH := eu.trans e
      have gK' := eH _ _ fK
      walk_at "go"
      refine l_slL (.of (eH _ _ f1')) fun w1 hw1 => ?_
      rw [eA]
      have E1 : Ex H' (upd H' w1 (.lst (A.map V.bl))) := Ex.new hw1
      have W1 : (upd H' w1 (.lst (A.map V.bl))) w1 = some (.lst (A.map V.bl)) := upd_same
      generalize (upd H' w1 (.lst (A.map V.bl))) = J1 at E1 W1 ⊢
      walk_at "go"
      intro w2 hw2
      have E2 : Ex J1 (upd J1 w2 (.lst [x])) := Ex.new hw2
      refine l_addL (E2 _ _ W1) upd_same (by simp; omega) fun w3 hw3 => ?_
      have E3 : Ex (upd J1 w2 (.lst [x])) (upd (upd J1 w2 (.lst [x])) w3 (.lst (A.map V.bl ++ [x]))) := Ex.new hw3
      have W3 : (upd (upd J1 w2 (.lst [x])) w3 (.lst (A.map V.bl ++ [x]))) w3 = some (.lst (A.map V.bl ++ [x])) := upd_same
      generalize (upd (upd J1 w2 (.lst [x])) w3 (.lst (A.map V.bl ++ [x]))) = J3 at E3 W3 ⊢
      have F3 := E1.trans (E2.trans E3)
      walk_at "go"
      refine l_ixL ((eH.trans F3) _ _ fK) rfl ?_
      walk_at "go"
      refine l_slL (.of ((eH.trans F3) _ _ f1')) fun w4 hw4 => ?_
      rw [eB]
      have E4 : Ex J3 (upd J3 w4 (.lst (B.map V.bl))) := Ex.new hw4
      refine l_addL (E4 _ _ W3) upd_same (by simp; omega) fun w5 hw5 => ?_
      have E5 : Ex (upd J3 w4 (.lst (B.map V.bl))) (upd (upd J3 w4 (.lst (B.map V.bl))) w5 (.lst ((A.map V.bl ++ [x]) ++ B.map V.bl))) := Ex.new hw5
      have W5 : (upd (upd J3 w4 (.lst (B.map V.bl))) w5 (.lst ((A.map V.bl ++ [x]) ++ B.map V.bl))) w5 = some (.lst ((A.map V.bl ++ [x]) ++ B.map V.bl)) := upd_same
      generalize (upd (upd J3 w4 (.lst (B.map V.bl))) w5 (.lst ((A.map V.bl ++ [x]) ++ B.map V.bl))) = J5 at E5 W5 ⊢
      have F5 := F3.trans (E4.trans E5)
      have eF := e.trans F5
      have md : ∀ (J : Hp) (q : Addr), Ex G8 J → (SqL K J q ((A.map V.bl ++ [x]) ++ B.map V.bl) → Shw K J (.ref q) (PyData.list ((A.map .bool ++ [dv]) ++ B.map .bool)).shown) ∧ (SqT K J q ((A.map V.bl ++ [x]) ++ B.map V.bl) → Shw K J (.ref q) (PyData.tuple ((A.map .bool ++ [dv]) ++ B.map .bool)).shown) :=
        fun J q eJ => shw_mid (dp_bls A) (dp_bls B) (dp_mono eJ dv x dx) lf_bls lf_bls lx (by simp; omega)
      have bd : ∀ (J : Hp) (v : V), Ex G8 J → Sq K J v ((A.map V.bl ++ [x]) ++ B.map V.bl) → Bad K J isB v := fun J v eJ hs => bad_mid hs (by simp; omega) (kd_bls A) (kd_bls B) (kx.mono eJ) ix
      walk_at "go"
      refine i_cutT (fun b H' => b = false ∧ Ex G8 H') ?_ ?_
      · walk_at "go"
        refine l_ixL ((eu.trans eF) _ _ fK) rfl ?_
        walk_at "go"
        have s1 := (md J5 w5 eF).1 (.of W5)
        refine ⟨_, _, _, _, rfl, s1, .inr ⟨ns, .l (.of ((eu.trans eF) _ _ f0)), lN, bd J5 _ eF (.l (.of W5)), s1⟩, fun J6 E6 => ⟨true, by simp [TruV], ?_⟩⟩
        have eF6 := eF.trans E6
        walk_at "go"
        intro w8 hw8
        have E8 : Ex J6 (upd J6 w8 (.tup [])) := Ex.new hw8
        walk_at "go"
        refine l_tupSq (.l (.of ((E6.trans E8) _ _ W5))) fun t1 J7 E7 h7 => ?_
        walk_at "go"
        refine l_tupSq (.l (.of ((E6.trans (E8.trans E7)) _ _ W5))) fun t2 J9 E9 h9 => ?_
        have eF9 := eF6.trans (E8.trans (E7.trans E9))
        walk_at "go"
        have s2 := (md J9 t1 eF9).2 (sqT_mono E9 h7)
        have s3 := (md J9 t2 eF9).2 h9
        refine ⟨_, _, _, _, rfl, s3, .inr ⟨[], .t (.of ((E7.trans E9) _ _ upd_same)), by simp, bd J9 _ eF9 (.t (sqT_mono E9 h7)), s2⟩, fun J10 E10 => ⟨true, by simp [TruV], rfl, eF9.trans E10⟩⟩
      rintro _ J11 ⟨rfl, e11⟩
      walk_at "go"
      exact ⟨_, _, _, rfl, e11⟩
    rintro σ G9 ⟨v10, v11, v12, rfl, e9⟩
    have e79 := eu.trans e9
    walk_at "go"
    refine i_anyL ?_
    walk_at "go"
    intro pd hpd
    refine ⟨upd_same, [(.inr "a", .int 1)], rfl, by decide, ?_⟩
    rw [upd_upd]
    have ed : Ex G9 (upd G9 pd (.dK (mergeK [] [(.inr "a", .int 1)]))) := Ex.new hpd
    have hd : (upd G9 pd (.dK (mergeK [] [(.inr "a", .int 1)]))) pd = some (.dK [(.inr "a", .int 1)]) := upd_same
    generalize (upd G9 pd (.dK (mergeK [] [(.inr "a", .int 1)]))) = G10 at ed hd ⊢
    walk_at "go"
    intro u4 hu4
    have eu4 : Ex G10 (upd G10 u4 (.lst [.non, .int 3, .str "12", .ref pd])) := Ex.new hu4
    have hu4' : (upd G10 u4 (.lst [.non, .int 3, .str "12", .ref pd])) u4 = some (.lst [.non, .int 3, .str "12", .ref pd]) := upd_same
    have hd' := eu4 _ _ hd
    generalize (upd G10 u4 (.lst [.non, .int 3, .str "12", .ref pd])) = G11 at eu4 hu4' hd' ⊢
    have e711 := e79.trans (ed.trans eu4)
    have odd3 : ∀ x ∈ [V.non, .int 3, .str "12", .ref pd], (flatV x = true ∨ ∃ p kvs, x = .ref p ∧ G11 p = some (.dK kvs)) ∧ ∃ z, Shw K G11 x z := fun x hx => by
      simp only [List.mem_cons, List.not_mem_nil, or_false] at hx
      rcases hx with rfl | rfl | rfl | rfl
      · exact ⟨.inl rfl, _, shw_dp .non rfl rfl (by decide) (by decide)⟩
      · exact ⟨.inl rfl, _, shw_dp (.int 3) (by decide) rfl (by decide +kernel) (by decide)⟩
      · exact ⟨.inl rfl, _, shw_dp (.str _) rfl rfl (by decide +kernel) (by decide)⟩
      · refine ⟨.inr ⟨pd, _, rfl, hd'⟩, (dictD [(.inr "a", .int 1)]).shown, fun H' Q e q => .inr ⟨pd, _, rfl, e _ _ hd', by decide, by decide, sz (by decide +kernel), by decide, q⟩⟩
    refine ⟨u4, rfl, ⟨_, .of hu4'⟩, ?_⟩
    refine for_lst (xs := [V.non, .int 3, .str "12", .ref pd]) (fun _ σ H' => ∃ v10 v11 v12, σ = [some (.ref a), some (.ref st), some (.ref R), some (.ref D), none, some (.ref f1), some (.ref f2), some vb, some (.bl (decide (ns = ms) && decide (bs = cs))), some (.int at2), v10, v11, v12] ∧ Ex G11 H') ⟨_, _, _, rfl, Ex.refl _⟩ (fun _ _ _ _ ⟨_, _, _, _, e⟩ => .of (e _ _ hu4')) ?_ ?_
    · rintro i x σ H' hi ⟨v10, v11, v12, rfl, e⟩
      obtain ⟨hx, z, hz⟩ := odd3 x (List.mem_of_getElem? hi)
      have bad : ∀ (p : V → Bool) (J : Hp), Ex G11 J → Bad K J p x := fun p J eJ => Bad.mono (.inl hx) eJ
      walk_at "go"
      refine i_cutT (fun b H' => b = false ∧ Ex G11 H') ?_ ?_
      · walk_at "go"
        refine ⟨_, _, _, z, rfl, hz.mono e, .inl ⟨bad _ _ e, hz.mono e⟩, fun J6 E6 => ⟨true, by simp [TruV], ?_⟩⟩
        walk_at "go"
        intro w8 hw8
        have E8 : Ex J6 (upd J6 w8 (.lst [])) := Ex.new hw8
        have eF := e.trans (E6.trans E8)
        walk_at "go"
        refine ⟨_, _, _, z, rfl, hz.mono eF, .inr ⟨[], .l (.of upd_same), by simp, bad _ _ eF, hz.mono eF⟩, fun J10 E10 => ⟨true, by simp [TruV], rfl, eF.trans E10⟩⟩
      rintro _ J11 ⟨rfl, e11⟩
      walk_at "go"
      exact ⟨_, _, _, rfl, e11⟩
    rintro σ G12 ⟨v10, v11, v12, rfl, e12⟩
    have e712 := e711.trans e12
    have fK12 := e712 _ _ fK
    walk_at "go"
    refine l_addL (e712 _ _ f0) (e712 _ _ f2') (by simp; omega) fun s1 hs1 => ?_
    have E1 : Ex G12 (upd G12 s1 (.lst (ns.map V.int ++ ms.map V.int))) := Ex.new hs1
    have e713 := e712.trans E1
    walk_at "go"
    refine l_ixL (e713 _ _ fK) rfl ?_
    walk_at "go"
    refine l_ixL (e713 _ _ fK) rfl ?_
    refine l_addL (e713 _ _ f1') (e713 _ _ f3') (by simp; omega) fun s2 hs2 => ?_
    have E2 : Ex (upd G12 s1 (.lst (ns.map V.int ++ ms.map V.int))) (upd (upd G12 s1 (.lst (ns.map V.int ++ ms.map V.int))) s2 (.lst (bs.map V.bl ++ cs.map V.bl))) := Ex.new hs2
    walk_at "go"
    refine ⟨_, _, _, _, _, ns ++ ms, bs ++ cs, rfl, pB7.mono (e713.trans E2), .l (.of (by rw [List.map_append]; exact E2 _ _ upd_same)), .l (.of (by rw [List.map_append]; exact upd_same)), fun G14 e14 => ?_⟩
    rw [decide_eq_true rfl, decide_eq_true rfl]
    exact fin _
theorem law_mk {fa : Addr} (hfa : mg "law" = some (.ref fa)) (hT : ∃ C_RoundError C_BadPlay C_Play d_Play_0 d_Play_1 : Addr, Tp K mg C_RoundError C_BadPlay C_Play d_Play_0 d_Play_1) :
    ∃ fd : FuncData, (∀ (s : Shared) (u : Value), BindsTo s fd ⟨[u], []⟩ [("_law_script", u)]) ∧ ∀ base : Heap, K.In base → base.Ns mainGlobals mg → Fg P w K mg base true 8 fa fd ["_law_script"] (spLaw K) := by
  obtain ⟨C_RoundError, C_BadPlay, C_Play, d_Play_0, d_Play_1, T⟩ := hT
  obtain ⟨fd, ⟨kV, doc, pm, an, cdv, ct, rfl⟩, hF⟩ := ok_law (P := P) (w := w) T hfa
  exact ⟨_, fun s v => .of_eq rfl, fun base _ _ => hF base⟩
end
end K
namespace K
open PySem PySem.Spec PyProof.Rows L2 G TL
local macro_rules | `(tactic| walk_at "side") => `(tactic| focus (first | assumption | exact rfl | omega | decide))
local macro_rules | `(tactic| walk_at "ty") => `(tactic| focus (first | exact .base (.str _) | exact .base (.int _) | exact .base (.bl _) | exact .base .non | exact .base (.lst (by assumption)) | exact .base (.tup (by assumption)) | exact .base (.dK (by assumption)) | assumption))
local macro_rules | `(tactic| walk_at "kt") => `(tactic| focus (with_reducible first | exact kt_NoneType_str | exact kt_NoneType_int | exact kt_NoneType_bool | exact kt_NoneType_tuple | exact kt_NoneType_list | exact kt_NoneType_dict | exact kt_bool_str | exact kt_bool_int | exact kt_bool_bool | exact kt_bool_tuple | exact kt_bool_list | exact kt_bool_dict | exact kt_int_str | exact kt_int_int | exact kt_int_bool | exact kt_int_tuple | exact kt_int_list | exact kt_int_dict | exact kt_str_str | exact kt_str_int | exact kt_str_bool | exact kt_str_tuple | exact kt_str_list | exact kt_str_dict | exact kt_list_str | exact kt_list_int | exact kt_list_bool | exact kt_list_tuple | exact kt_list_list | exact kt_list_dict | exact kt_tuple_str | exact kt_tuple_int | exact kt_tuple_bool | exact kt_tuple_tuple | exact kt_tuple_list | exact kt_tuple_dict | exact kt_dict_str | exact kt_dict_int | exact kt_dict_bool | exact kt_dict_tuple | exact kt_dict_list | exact kt_dict_dict | assumption))
local macro_rules | `(tactic| walk_at "1") => `(tactic| first
  | (with_reducible refine i_seq ?_)
  | (with_reducible refine iteT ?_)
  | (with_reducible refine iteF ?_)
  | (with_reducible refine iteNF ?_)
  | (with_reducible refine iteNT ?_)
  | (with_reducible refine i_asg ?_)
  | (with_reducible refine i_op ?_)
  | (with_reducible refine i_c ?_)
  | ((with_reducible apply i_var); (exact rfl))
  | (with_reducible refine i_cb ?_)
  | (with_reducible refine i_cons ?_)
  | (with_reducible refine i_nil ?_)
  | (with_reducible refine i_test ?_)
  | (with_reducible refine i_b ?_)
  | (with_reducible refine i_bl ?_)
  | (with_reducible refine i_name ?_)
  | (with_reducible refine i_ifS ?_)
  | (with_reducible refine i_next ?_)
  | (with_reducible refine i_ret ?_)
  | (with_reducible refine i_drop ?_)
  | (with_reducible refine i_lst ?_)
  | (with_reducible refine i_tup ?_)
  | (with_reducible refine i_and ?_)
  | (with_reducible refine i_or ?_)
  | (with_reducible refine i_not ?_)
  | (with_reducible refine i_andV ?_)
  | (with_reducible refine i_orV ?_)
  | (with_reducible refine i_notV ?_)
  | (with_reducible refine i_if ?_)
  | (with_reducible refine i_chain ?_)
  | (with_reducible refine i_un ?_)
  | (with_reducible refine i_neg ?_)
  | (with_reducible refine i_sub ?_)
  | (with_reducible refine i_sl ?_)
  | (with_reducible refine i_noP ?_)
  | (with_reducible refine i_part ?_)
  | (with_reducible refine i_int ?_)
  | (with_reducible refine i_bm ?_)
  | (with_reducible refine i_strT ?_)
  | (with_reducible refine i_yes ?_)
  | (with_reducible refine i_call ?_)
  | ((with_reducible refine i_len ?_ ?_); (focus (exact sz (by simp))))
  | (with_reducible refine i_lc ?_)
  | (with_reducible refine i_for ?_)
  | (with_reducible refine i_rng1 ?_)
  | (with_reducible refine i_rng2 ?_)
  | (with_reducible refine l_addI ?_)
  | (with_reducible refine l_subI ?_)
  | (with_reducible refine l_cmp ?_)
  | (with_reducible refine l_eqI ?_)
  | (with_reducible refine l_eqS ?_)
  | (with_reducible refine l_eqB ?_)
  | (with_reducible refine l_neI ?_)
  | (with_reducible refine l_neS ?_)
  | (with_reducible refine l_neB ?_)
  | (with_reducible refine l_isN ?_)
  | (with_reducible refine l_isNotN ?_)
  | (with_reducible refine l_isB ?_)
  | (with_reducible refine l_isNotB ?_)
  | (with_reducible refine l_intI ?_)
  | (with_reducible refine l_intB ?_)
  | (with_reducible refine l_inC ?_)
  | (refine ⟨_, _, rfl, rfl, sz (by first | omega | simp; omega), ?_⟩)
  | ((with_reducible refine l_pow ?_ ?_); (focus (exact ⟨by decide, by decide, by decide⟩)))
  | ((with_reducible refine l_mul ?_ ?_); (focus (first | assumption | exact Or.inl (Or.inl ⟨by omega, by omega⟩) | exact Or.inl (Or.inr ⟨by omega, by omega⟩))))
  | ((with_reducible refine l_div ?_ ?_); (focus (first | assumption | exact ⟨by decide, by decide⟩)))
  | ((with_reducible apply l_setL); (assumption); (exact rfl))
  | ((with_reducible refine l_mod ?_ ?_); (walk_at "side"))
  | ((with_reducible apply l_ixL); (assumption); (exact rfl))
  | ((with_reducible refine l_lenS ?_ ?_); (focus (first | assumption | exact sz (by omega) | exact sz (by simp; omega))))
  | ((with_reducible refine l_slS ?_ ?_); (focus (first | assumption | exact sz (by omega))))
  | ((with_reducible apply l_isi); (walk_at "ty"); (walk_at "kt"))
  | ((with_reducible apply l_lenL); (assumption)))
local macro_rules | `(tactic| walk_at "go") => `(tactic| repeat (walk_at "1"))
local macro_rules | `(tactic| walk_at "1") => `(tactic| first
  | (with_reducible refine i_mkS ?_)
  | (with_reducible refine i_cS ?_)
  | (with_reducible refine i_fld ?_)
  | (with_reducible refine i_sFld ?_)
  | (with_reducible refine i_tX ?_)
  | (with_reducible refine l_len2 rfl rfl ?_))
section
variable {P : Program} {w : World} {K : PySem.W.Frag} {mg : Str → Option Value} {base : Heap}
theorem all_mk {K : PySem.W.Frag} {h : Heap} {mg : Str → Option Value} {fa : Addr} (X : K.In h) (G : h.Ns mainGlobals mg) (hfa : mg "law" = some (.ref fa))
    {C_RoundError : Addr}
    {C_BadPlay : Addr}
    {nm_BadPlay qn_BadPlay : Str} {N_BadPlay : Addr} {bs_BadPlay : List Value} {sn_BadPlay : List Str} {su_BadPlay : List Value} {ab_BadPlay : Bool} {co_BadPlay : Option Bool} {dd_BadPlay : Option Addr} {x0_BadPlay x1_BadPlay x2_BadPlay x3_BadPlay x5_BadPlay : Option Value}
    {f_BadPlay___init__ : Addr} {od_BadPlay___init__ an_BadPlay___init__ : Option Addr} {sl_BadPlay___init__ : Array (Option Value)} {oc_BadPlay___init__ kV_BadPlay___init__ dc_BadPlay___init__ pm_BadPlay___init__ cd_BadPlay___init__ ct_BadPlay___init__ : Value}
    {C_Play : Addr}
    {T_Play : Addr} {tc_Play : Value} {td_Play : Option Addr} {tn_Play : Nat} {tl_Play : Array (Option Value)}
    {d_Play_0 : Addr} {dd_Play_0 : Option Addr} {dn_Play_0 : Nat} {dl_Play_0 : Array (Option Value)}
    
    {d_Play_1 : Addr} {dd_Play_1 : Option Addr} {dn_Play_1 : Nat} {dl_Play_1 : Array (Option Value)}
    
    {f_Play___init__ : Addr} {od_Play___init__ an_Play___init__ : Option Addr} {sl_Play___init__ : Array (Option Value)} {oc_Play___init__ kV_Play___init__ dc_Play___init__ pm_Play___init__ cd_Play___init__ ct_Play___init__ : Value}
    {f_Play___add__ : Addr} {od_Play___add__ an_Play___add__ : Option Addr} {sl_Play___add__ : Array (Option Value)} {oc_Play___add__ kV_Play___add__ dc_Play___add__ pm_Play___add__ cd_Play___add__ ct_Play___add__ : Value}
    {f_Play___eq__ : Addr} {od_Play___eq__ an_Play___eq__ : Option Addr} {sl_Play___eq__ : Array (Option Value)} {oc_Play___eq__ kV_Play___eq__ dc_Play___eq__ pm_Play___eq__ cd_Play___eq__ ct_Play___eq__ : Value}
    {f_is_integer : Addr} {od_is_integer an_is_integer : Option Addr} {sl_is_integer : Array (Option Value)} {oc_is_integer kV_is_integer dc_is_integer pm_is_integer cd_is_integer ct_is_integer : Value}
    {f__law_open : Addr} {od__law_open an__law_open : Option Addr} {sl__law_open : Array (Option Value)} {oc__law_open kV__law_open dc__law_open pm__law_open cd__law_open ct__law_open : Value}
    {f__law_draw : Addr} {od__law_draw an__law_draw : Option Addr} {sl__law_draw : Array (Option Value)} {oc__law_draw kV__law_draw dc__law_draw pm__law_draw cd__law_draw ct__law_draw : Value}
    {f__law_numbers : Addr} {od__law_numbers an__law_numbers : Option Addr} {sl__law_numbers : Array (Option Value)} {oc__law_numbers kV__law_numbers dc__law_numbers pm__law_numbers cd__law_numbers ct__law_numbers : Value}
    {f__law_outcomes : Addr} {od__law_outcomes an__law_outcomes : Option Addr} {sl__law_outcomes : Array (Option Value)} {oc__law_outcomes kV__law_outcomes dc__law_outcomes pm__law_outcomes cd__law_outcomes ct__law_outcomes : Value}
    {f__law_is : Addr} {od__law_is an__law_is : Option Addr} {sl__law_is : Array (Option Value)} {oc__law_is kV__law_is dc__law_is pm__law_is cd__law_is ct__law_is : Value}
    {f__law_refused : Addr} {od__law_refused an__law_refused : Option Addr} {sl__law_refused : Array (Option Value)} {oc__law_refused kV__law_refused dc__law_refused pm__law_refused cd__law_refused ct__law_refused : Value}
    {f_law : Addr} {od_law an_law : Option Addr} {sl_law : Array (Option Value)} {oc_law kV_law dc_law pm_law cd_law ct_law : Value}
    (z_all : PySem.W.nsIn K mainGlobals "all" = some none)
    (z_bool : PySem.W.nsIn K mainGlobals "bool" = some none)
    (z_int : PySem.W.nsIn K mainGlobals "int" = some none)
    (z_isinstance : PySem.W.nsIn K mainGlobals "isinstance" = some none)
    (z_len : PySem.W.nsIn K mainGlobals "len" = some none)
    (z_list : PySem.W.nsIn K mainGlobals "list" = some none)
    (z_range : PySem.W.nsIn K mainGlobals "range" = some none)
    (z_repr : PySem.W.nsIn K mainGlobals "repr" = some none)
    (z_tuple : PySem.W.nsIn K mainGlobals "tuple" = some none)
    (g_RoundError : PySem.W.nsIn K mainGlobals "RoundError" = some (some (.ref C_RoundError)))
    (ic_RoundError : PySem.W.isClsIn K C_RoundError = true)
    (tt_RoundError : PySem.W.typeIn K (.ref C_RoundError) = some (.type "type"))
    (g_BadPlay : PySem.W.nsIn K mainGlobals "BadPlay" = some (some (.ref C_BadPlay)))
    (ic_BadPlay : PySem.W.isClsIn K C_BadPlay = true)
    (tt_BadPlay : PySem.W.typeIn K (.ref C_BadPlay) = some (.type "type"))
    (xl_BadPlay : K.lookup C_BadPlay = some (excClassObj nm_BadPlay qn_BadPlay C_BadPlay N_BadPlay bs_BadPlay [.ref C_RoundError, .type "ValueError", .type "Exception", .type "BaseException", .type "object"] true sn_BadPlay su_BadPlay ab_BadPlay co_BadPlay dd_BadPlay x0_BadPlay x1_BadPlay x2_BadPlay x3_BadPlay x5_BadPlay "ValueError.__new__"))
    (sa_BadPlay : PySem.W.findIn K (.ref C_BadPlay) "__setattr__" = some (some (.builtin "object.__setattr__")))
    (ga_BadPlay : PySem.W.findIn K (.ref C_BadPlay) "__getattribute__" = some (some (.builtin "BaseException.__getattribute__")))
    (gg_BadPlay : PySem.W.findIn K (.ref C_BadPlay) "__getattr__" = some none)
    (nb_BadPlay : PySem.W.findIn K (.ref C_BadPlay) "value" = some none)
    (kC_BadPlay : PySem.W.keepIn K (.ref C_BadPlay) = true)
    (eC_BadPlay : PySem.W.subIn K (.ref C_BadPlay) (.type "BaseException") = some true)
    (tC_BadPlay : PySem.W.typeIn K (.ref C_BadPlay) = some (.type "type"))
    (hC_BadPlay : PySem.W.hasDictIn K C_BadPlay = true)
    (cc_BadPlay : PySem.W.findIn K (.ref C_BadPlay) "__class__" = some (some (.builtin "object.__class__")))
    (mo_BadPlay : PySem.W.mroIn K C_BadPlay (.type "object") = some true)
    (a_BadPlay___init__ : PySem.W.findIn K (.ref C_BadPlay) "__init__" = some (some (.ref f_BadPlay___init__)))
    (l_BadPlay___init__ : K.lookup f_BadPlay___init__ = some ⟨oc_BadPlay___init__, od_BadPlay___init__, .func (PySem.W.fnOf "__init__" "BadPlay.__init__" (defArgs s_BadPlay___init__) (defBody s_BadPlay___init__) (defScope s_BadPlay___init__) .none kV_BadPlay___init__ dc_BadPlay___init__ pm_BadPlay___init__ an_BadPlay___init__ cd_BadPlay___init__ ct_BadPlay___init__), sl_BadPlay___init__⟩)
    (c_BadPlay___init__ : PySem.W.codeIn K cd_BadPlay___init__ "BadPlay.__init__" = true)
    (k_BadPlay___init__ : PySem.W.keepIn K (.ref f_BadPlay___init__) = true)
    (ty_BadPlay___init__ : PySem.W.typeIn K (.ref f_BadPlay___init__) = some (.type "function"))
    (g_Play : PySem.W.nsIn K mainGlobals "Play" = some (some (.ref C_Play)))
    (ic_Play : PySem.W.isClsIn K C_Play = true)
    (tt_Play : PySem.W.typeIn K (.ref C_Play) = some (.type "type"))
    (pg_Play : PySem.W.plainGet K C_Play Str.empty = true)
    (hd_Play : PySem.W.hasDictIn K C_Play = true)
    (po_Play : PySem.W.plainOver K C_Play = true)
    (sa_Play : PySem.W.findIn K (.ref C_Play) "__setattr__" = some (some (.builtin "object.__setattr__")))
    (kC_Play : PySem.W.keepIn K (.ref C_Play) = true)
    (mk_Play : PySem.W.makesIn K C_Play = true)
    (cc_Play : PySem.W.findIn K (.ref C_Play) "__class__" = some (some (.builtin "object.__class__")))
    (mo_Play : PySem.W.mroIn K C_Play (.type "object") = some true)
    (sf_Play : PySem.W.selfFirst K C_Play = true)
    (ne_Play : PySem.W.findIn K (.ref C_Play) "__ne__" = some (some (.builtin "object.__ne__")))
    (nb_Play_numbers : PySem.W.findIn K (.ref C_Play) "numbers" = some none)
    (nb_Play_outcomes : PySem.W.findIn K (.ref C_Play) "outcomes" = some none)
    (nf_Play_NoneType : PySem.W.subIn K (.type "NoneType") (.ref C_Play) = some false)
    (nf_Play_list : PySem.W.subIn K (.type "list") (.ref C_Play) = some false)
    (nf_Play_tuple : PySem.W.subIn K (.type "tuple") (.ref C_Play) = some false)
    (nf_Play_str : PySem.W.subIn K (.type "str") (.ref C_Play) = some false)
    (nf_Play_int : PySem.W.subIn K (.type "int") (.ref C_Play) = some false)
    (nf_Play_bool : PySem.W.subIn K (.type "bool") (.ref C_Play) = some false)
    (nf_Play_dict : PySem.W.subIn K (.type "dict") (.ref C_Play) = some false)
    (a_Play___init__ : PySem.W.findIn K (.ref C_Play) "__init__" = some (some (.ref f_Play___init__)))
    (l_Play___init__ : K.lookup f_Play___init__ = some ⟨oc_Play___init__, od_Play___init__, .func (PySem.W.fnOf "__init__" "Play.__init__" (defArgs s_Play___init__) (defBody s_Play___init__) (defScope s_Play___init__) (.ref T_Play) kV_Play___init__ dc_Play___init__ pm_Play___init__ an_Play___init__ cd_Play___init__ ct_Play___init__), sl_Play___init__⟩)
    (c_Play___init__ : PySem.W.codeIn K cd_Play___init__ "Play.__init__" = true)
    (k_Play___init__ : PySem.W.keepIn K (.ref f_Play___init__) = true)
    (lT_Play : K.lookup T_Play = some ⟨tc_Play, td_Play, .seq #[.ref d_Play_0, .ref d_Play_1] tn_Play, tl_Play⟩)
    (ld_Play_0 : K.lookup d_Play_0 = some ⟨.type "tuple", dd_Play_0, .seq #[] dn_Play_0, dl_Play_0⟩)
    (ld_Play_1 : K.lookup d_Play_1 = some ⟨.type "tuple", dd_Play_1, .seq #[] dn_Play_1, dl_Play_1⟩)
    (if_Play___init__ : PySem.W.isFn K (.ref f_Play___init__) = true)
    (a_Play___add__ : PySem.W.findIn K (.ref C_Play) "__add__" = some (some (.ref f_Play___add__)))
    (l_Play___add__ : K.lookup f_Play___add__ = some ⟨oc_Play___add__, od_Play___add__, .func (PySem.W.fnOf "__add__" "Play.__add__" (defArgs s_Play___add__) (defBody s_Play___add__) (defScope s_Play___add__) .none kV_Play___add__ dc_Play___add__ pm_Play___add__ an_Play___add__ cd_Play___add__ ct_Play___add__), sl_Play___add__⟩)
    (c_Play___add__ : PySem.W.codeIn K cd_Play___add__ "Play.__add__" = true)
    (k_Play___add__ : PySem.W.keepIn K (.ref f_Play___add__) = true)
    (if_Play___add__ : PySem.W.isFn K (.ref f_Play___add__) = true)
    (fi_Play___add__ : PySem.W.fnIn K f_Play___add__ = true)
    (a_Play___eq__ : PySem.W.findIn K (.ref C_Play) "__eq__" = some (some (.ref f_Play___eq__)))
    (l_Play___eq__ : K.lookup f_Play___eq__ = some ⟨oc_Play___eq__, od_Play___eq__, .func (PySem.W.fnOf "__eq__" "Play.__eq__" (defArgs s_Play___eq__) (defBody s_Play___eq__) (defScope s_Play___eq__) .none kV_Play___eq__ dc_Play___eq__ pm_Play___eq__ an_Play___eq__ cd_Play___eq__ ct_Play___eq__), sl_Play___eq__⟩)
    (c_Play___eq__ : PySem.W.codeIn K cd_Play___eq__ "Play.__eq__" = true)
    (k_Play___eq__ : PySem.W.keepIn K (.ref f_Play___eq__) = true)
    (if_Play___eq__ : PySem.W.isFn K (.ref f_Play___eq__) = true)
    (fi_Play___eq__ : PySem.W.fnIn K f_Play___eq__ = true)
    (z_get : PySem.W.specialIn K (.builtin "object.__class__") "__get__" = some (some (.builtin "getset_descriptor.__get__")))
    (z_tak : PySem.W.takesIn K (.builtin "object.__class__") = some true)
    (sx_BadPlay_RoundError : PySem.W.subIn K (.ref C_BadPlay) (.ref C_RoundError) = some true)
    (xs_BadPlay : PySem.W.subIn K (.ref C_BadPlay) (.ref C_BadPlay) = some true)
    (a_is_integer : PySem.W.nsIn K mainGlobals "is_integer" = some (some (.ref f_is_integer)))
    (l_is_integer : K.lookup f_is_integer = some ⟨oc_is_integer, od_is_integer, .func (PySem.W.fnOf "is_integer" "is_integer" (defArgs s_is_integer) (defBody s_is_integer) (defScope s_is_integer) .none kV_is_integer dc_is_integer pm_is_integer an_is_integer cd_is_integer ct_is_integer), sl_is_integer⟩)
    (c_is_integer : PySem.W.codeIn K cd_is_integer "is_integer" = true)
    (k_is_integer : PySem.W.keepIn K (.ref f_is_integer) = true)
    (a__law_open : PySem.W.nsIn K mainGlobals "_law_open" = some (some (.ref f__law_open)))
    (l__law_open : K.lookup f__law_open = some ⟨oc__law_open, od__law_open, .func (PySem.W.fnOf "_law_open" "_law_open" (defArgs s__law_open) (defBody s__law_open) (defScope s__law_open) .none kV__law_open dc__law_open pm__law_open an__law_open cd__law_open ct__law_open), sl__law_open⟩)
    (c__law_open : PySem.W.codeIn K cd__law_open "_law_open" = true)
    (k__law_open : PySem.W.keepIn K (.ref f__law_open) = true)
    (a__law_draw : PySem.W.nsIn K mainGlobals "_law_draw" = some (some (.ref f__law_draw)))
    (l__law_draw : K.lookup f__law_draw = some ⟨oc__law_draw, od__law_draw, .func (PySem.W.fnOf "_law_draw" "_law_draw" (defArgs s__law_draw) (defBody s__law_draw) (defScope s__law_draw) .none kV__law_draw dc__law_draw pm__law_draw an__law_draw cd__law_draw ct__law_draw), sl__law_draw⟩)
    (c__law_draw : PySem.W.codeIn K cd__law_draw "_law_draw" = true)
    (k__law_draw : PySem.W.keepIn K (.ref f__law_draw) = true)
    (a__law_numbers : PySem.W.nsIn K mainGlobals "_law_numbers" = some (some (.ref f__law_numbers)))
    (l__law_numbers : K.lookup f__law_numbers = some ⟨oc__law_numbers, od__law_numbers, .func (PySem.W.fnOf "_law_numbers" "_law_numbers" (defArgs s__law_numbers) (defBody s__law_numbers) (defScope s__law_numbers) .none kV__law_numbers dc__law_numbers pm__law_numbers an__law_numbers cd__law_numbers ct__law_numbers), sl__law_numbers⟩)
    (c__law_numbers : PySem.W.codeIn K cd__law_numbers "_law_numbers" = true)
    (k__law_numbers : PySem.W.keepIn K (.ref f__law_numbers) = true)
    (a__law_outcomes : PySem.W.nsIn K mainGlobals "_law_outcomes" = some (some (.ref f__law_outcomes)))
    (l__law_outcomes : K.lookup f__law_outcomes = some ⟨oc__law_outcomes, od__law_outcomes, .func (PySem.W.fnOf "_law_outcomes" "_law_outcomes" (defArgs s__law_outcomes) (defBody s__law_outcomes) (defScope s__law_outcomes) .none kV__law_outcomes dc__law_outcomes pm__law_outcomes an__law_outcomes cd__law_outcomes ct__law_outcomes), sl__law_outcomes⟩)
    (c__law_outcomes : PySem.W.codeIn K cd__law_outcomes "_law_outcomes" = true)
    (k__law_outcomes : PySem.W.keepIn K (.ref f__law_outcomes) = true)
    (a__law_is : PySem.W.nsIn K mainGlobals "_law_is" = some (some (.ref f__law_is)))
    (l__law_is : K.lookup f__law_is = some ⟨oc__law_is, od__law_is, .func (PySem.W.fnOf "_law_is" "_law_is" (defArgs s__law_is) (defBody s__law_is) (defScope s__law_is) .none kV__law_is dc__law_is pm__law_is an__law_is cd__law_is ct__law_is), sl__law_is⟩)
    (c__law_is : PySem.W.codeIn K cd__law_is "_law_is" = true)
    (k__law_is : PySem.W.keepIn K (.ref f__law_is) = true)
    (a__law_refused : PySem.W.nsIn K mainGlobals "_law_refused" = some (some (.ref f__law_refused)))
    (l__law_refused : K.lookup f__law_refused = some ⟨oc__law_refused, od__law_refused, .func (PySem.W.fnOf "_law_refused" "_law_refused" (defArgs s__law_refused) (defBody s__law_refused) (defScope s__law_refused) .none kV__law_refused dc__law_refused pm__law_refused an__law_refused cd__law_refused ct__law_refused), sl__law_refused⟩)
    (c__law_refused : PySem.W.codeIn K cd__law_refused "_law_refused" = true)
    (k__law_refused : PySem.W.keepIn K (.ref f__law_refused) = true)
    (a_law : PySem.W.nsIn K mainGlobals "law" = some (some (.ref f_law)))
    (l_law : K.lookup f_law = some ⟨oc_law, od_law, .func (PySem.W.fnOf "law" "law" (defArgs s_law) (defBody s_law) (defScope s_law) .none kV_law dc_law pm_law an_law cd_law ct_law), sl_law⟩)
    (c_law : PySem.W.codeIn K cd_law "law" = true)
    (k_law : PySem.W.keepIn K (.ref f_law) = true) :
    ∃ C_RoundError : Addr, ∃ C_BadPlay : Addr, ∃ C_Play : Addr, ∃ d_Play_0 : Addr, ∃ d_Play_1 : Addr, Tp K mg C_RoundError C_BadPlay C_Play d_Play_0 d_Play_1 := by
  exact ⟨C_RoundError, ⟨C_BadPlay, ⟨C_Play, ⟨d_Play_0, ⟨d_Play_1, {
    m_all := PySem.W.mg_none_of X G z_all,
    m_bool := PySem.W.mg_none_of X G z_bool,
    m_int := PySem.W.mg_none_of X G z_int,
    m_isinstance := PySem.W.mg_none_of X G z_isinstance,
    m_len := PySem.W.mg_none_of X G z_len,
    m_list := PySem.W.mg_none_of X G z_list,
    m_range := PySem.W.mg_none_of X G z_range,
    m_repr := PySem.W.mg_none_of X G z_repr,
    m_tuple := PySem.W.mg_none_of X G z_tuple,
    k_RoundError := ⟨_, PySem.W.mg_of X G g_RoundError, rfl⟩,
    k_BadPlay := ⟨_, PySem.W.mg_of X G g_BadPlay, rfl⟩,
    x_BadPlay := fun P w base => (have T0 : OexC K C_BadPlay := ⟨⟨_, _, _, _, _, _, _, _, _, _, _, _, _, _, _, xl_BadPlay, by rfl⟩, sa_BadPlay, eC_BadPlay, tC_BadPlay, kC_BadPlay⟩; ⟨T0, ⟨ga_BadPlay, gg_BadPlay, eC_BadPlay, hC_BadPlay⟩, ⟨ga_BadPlay, gg_BadPlay, eC_BadPlay, hC_BadPlay, cc_BadPlay, z_get, z_tak, mo_BadPlay⟩, nb_BadPlay, PySem.W.mg_of X G g_BadPlay, ⟨_, _, a_BadPlay___init__, ty_BadPlay___init__, ok_ini (fun_mk (st := s_BadPlay___init__) l_BadPlay___init__ c_BadPlay___init__ k_BadPlay___init__) sc_BadPlay___init__ rfl T0 nb_BadPlay (by first | exact Or.inl rfl) (by first | exact Or.inl rfl) (by decide) (by decide), (fun_mk (st := s_BadPlay___init__) l_BadPlay___init__ c_BadPlay___init__ k_BadPlay___init__).binds (ps := ["self", "value"]) fun _ _ _ _ _ _ us hl => match us, hl with | [_, _], _ => rfl⟩⟩),
    k_Play := ⟨_, PySem.W.mg_of X G g_Play, rfl⟩,
    cl_Play := ⟨pg_Play, hd_Play, po_Play, sa_Play⟩,
    n_Play_numbers := nb_Play_numbers,
    n_Play_outcomes := nb_Play_outcomes,
    ty_Play := fun H a dx fs e => .base (.ins e ⟨pg_Play, hd_Play, po_Play, sa_Play⟩ cc_Play z_get z_tak mo_Play),
    sf_Play := sf_Play,
    ne_Play := ne_Play,
    ob_Play := mo_Play,
    nf_Play_NoneType := nf_Play_NoneType,
    kt_Play_NoneType := kit_ownF ic_Play tt_Play nf_Play_NoneType,
    nf_Play_list := nf_Play_list,
    kt_Play_list := kit_ownF ic_Play tt_Play nf_Play_list,
    nf_Play_tuple := nf_Play_tuple,
    kt_Play_tuple := kit_ownF ic_Play tt_Play nf_Play_tuple,
    nf_Play_str := nf_Play_str,
    kt_Play_str := kit_ownF ic_Play tt_Play nf_Play_str,
    nf_Play_int := nf_Play_int,
    kt_Play_int := kit_ownF ic_Play tt_Play nf_Play_int,
    nf_Play_bool := nf_Play_bool,
    kt_Play_bool := kit_ownF ic_Play tt_Play nf_Play_bool,
    nf_Play_dict := nf_Play_dict,
    kt_Play_dict := kit_ownF ic_Play tt_Play nf_Play_dict,
    td_Play_0 := fun _ => Or.inr ⟨_, _, _, ld_Play_0, rfl, rfl, sz (by simp), .nil⟩,
    td_Play_1 := fun _ => Or.inr ⟨_, _, _, ld_Play_1, rfl, rfl, sz (by simp), .nil⟩,
    i_Play := ⟨_, _, ⟨mk_Play, a_Play___init__, if_Play___init__, kC_Play⟩, PySem.W.mg_of X G g_Play, ⟨⟨_, _, _, _, _, _, _, _, _, _, rfl, l_Play___init__, c_Play___init__, Or.inr ⟨by simp, _, _, [_, _], _, rfl, lT_Play, rfl, .cons rfl (.cons rfl (.nil))⟩, Or.inl rfl⟩, k_Play___init__⟩⟩,
    m_Play___add__ := ⟨_, _, ⟨pg_Play, hd_Play, po_Play, sa_Play⟩, ⟨a_Play___add__, if_Play___add__, k_Play___add__⟩, fi_Play___add__, fun_mk (st := s_Play___add__) l_Play___add__ c_Play___add__ k_Play___add__, (fun_mk (st := s_Play___add__) l_Play___add__ c_Play___add__ k_Play___add__).binds (ps := ["self", "other"]) fun _ _ _ _ _ _ us hl => match us, hl with | [_, _], _ => rfl⟩,
    m_Play___eq__ := ⟨_, _, ⟨pg_Play, hd_Play, po_Play, sa_Play⟩, ⟨a_Play___eq__, if_Play___eq__, k_Play___eq__⟩, fi_Play___eq__, fun_mk (st := s_Play___eq__) l_Play___eq__ c_Play___eq__ k_Play___eq__, (fun_mk (st := s_Play___eq__) l_Play___eq__ c_Play___eq__ k_Play___eq__).binds (ps := ["self", "other"]) fun _ _ _ _ _ _ us hl => match us, hl with | [_, _], _ => rfl⟩,
    kx_BadPlay_RoundError := kit_ownT ic_RoundError tt_RoundError sx_BadPlay_RoundError,
    xm_BadPlay := PySem.W.exm_ref eC_BadPlay hC_BadPlay tt_BadPlay xs_BadPlay,
    d_is_integer := ⟨_, _, fun_mk (st := s_is_integer) l_is_integer c_is_integer k_is_integer, PySem.W.mg_of X G a_is_integer, (fun_mk (st := s_is_integer) l_is_integer c_is_integer k_is_integer).binds (ps := ["value"]) fun _ _ _ _ _ _ us hl => match us, hl with | [_], _ => rfl⟩,
    d__law_open := ⟨_, _, fun_mk (st := s__law_open) l__law_open c__law_open k__law_open, PySem.W.mg_of X G a__law_open, (fun_mk (st := s__law_open) l__law_open c__law_open k__law_open).binds (ps := ["_law_script"]) fun _ _ _ _ _ _ us hl => match us, hl with | [_], _ => rfl⟩,
    d__law_draw := ⟨_, _, fun_mk (st := s__law_draw) l__law_draw c__law_draw k__law_draw, PySem.W.mg_of X G a__law_draw, (fun_mk (st := s__law_draw) l__law_draw c__law_draw k__law_draw).binds (ps := ["_law_state", "_law_many"]) fun _ _ _ _ _ _ us hl => match us, hl with | [_, _], _ => rfl⟩,
    d__law_numbers := ⟨_, _, fun_mk (st := s__law_numbers) l__law_numbers c__law_numbers k__law_numbers, PySem.W.mg_of X G a__law_numbers, (fun_mk (st := s__law_numbers) l__law_numbers c__law_numbers k__law_numbers).binds (ps := ["_law_state"]) fun _ _ _ _ _ _ us hl => match us, hl with | [_], _ => rfl⟩,
    d__law_outcomes := ⟨_, _, fun_mk (st := s__law_outcomes) l__law_outcomes c__law_outcomes k__law_outcomes, PySem.W.mg_of X G a__law_outcomes, (fun_mk (st := s__law_outcomes) l__law_outcomes c__law_outcomes k__law_outcomes).binds (ps := ["_law_state"]) fun _ _ _ _ _ _ us hl => match us, hl with | [_], _ => rfl⟩,
    d__law_is := ⟨_, _, fun_mk (st := s__law_is) l__law_is c__law_is k__law_is, PySem.W.mg_of X G a__law_is, (fun_mk (st := s__law_is) l__law_is c__law_is k__law_is).binds (ps := ["_law_play", "_law_figures", "_law_answers"]) fun _ _ _ _ _ _ us hl => match us, hl with | [_, _, _], _ => rfl⟩,
    d__law_refused := ⟨_, _, fun_mk (st := s__law_refused) l__law_refused c__law_refused k__law_refused, PySem.W.mg_of X G a__law_refused, (fun_mk (st := s__law_refused) l__law_refused c__law_refused k__law_refused).binds (ps := ["_law_figures", "_law_answers", "_law_due"]) fun _ _ _ _ _ _ us hl => match us, hl with | [_, _, _], _ => rfl⟩,
    d_law := ⟨_, _, fun_mk (st := s_law) l_law c_law k_law, PySem.W.mg_of X G a_law, (fun_mk (st := s_law) l_law c_law k_law).binds (ps := ["_law_script"]) fun _ _ _ _ _ _ us hl => match us, hl with | [_], _ => rfl⟩ }⟩⟩⟩⟩⟩
end
end K
open PySem PySem.W PyProof.Rows
set_option maxHeartbeats 0 in
theorem PySem.Challenge.cw_roundrules_k19_plays_holds : PySem.Challenge.rw_roundrules_k19_plays.Holds := by
  w_on; o_law; k_head; (case hw => w_witness2)
  k_fill
  refine G.walk_ofG (l := PySem.Challenge.rw_roundrules_k19_plays) (n := 63) (k := 8) (g := true) (x := "_law_script") (sp := K.spLaw) rfl (by decide) rfl ⟨rfl, by decide, by decide⟩ (fun w h Y => PySem.W.kIn_of Y) ?F (fun _ _ a ns hl _ hS => ⟨a, ns, rfl, hS, hl, fun _ => rfl⟩)
  case F =>
    intro w mg fa h KX G hmg
    refine' K.law_mk hmg (K.all_mk KX G hmg ?z_all ?z_bool ?z_int ?z_isinstance ?z_len ?z_list ?z_range ?z_repr ?z_tuple ?g_RoundError ?ic_RoundError ?tt_RoundError ?g_BadPlay ?ic_BadPlay ?tt_BadPlay ?xl_BadPlay ?sa_BadPlay ?ga_BadPlay ?gg_BadPlay ?nb_BadPlay ?kC_BadPlay ?eC_BadPlay ?tC_BadPlay ?hC_BadPlay ?cc_BadPlay ?mo_BadPlay ?a_BadPlay___init__ ?l_BadPlay___init__ ?c_BadPlay___init__ ?k_BadPlay___init__ ?ty_BadPlay___init__ ?g_Play ?ic_Play ?tt_Play ?pg_Play ?hd_Play ?po_Play ?sa_Play ?kC_Play ?mk_Play ?cc_Play ?mo_Play ?sf_Play ?ne_Play ?nb_Play_numbers ?nb_Play_outcomes ?nf_Play_NoneType ?nf_Play_list ?nf_Play_tuple ?nf_Play_str ?nf_Play_int ?nf_Play_bool ?nf_Play_dict ?a_Play___init__ ?l_Play___init__ ?c_Play___init__ ?k_Play___init__ ?lT_Play ?ld_Play_0 ?ld_Play_1 ?if_Play___init__ ?a_Play___add__ ?l_Play___add__ ?c_Play___add__ ?k_Play___add__ ?if_Play___add__ ?fi_Play___add__ ?a_Play___eq__ ?l_Play___eq__ ?c_Play___eq__ ?k_Play___eq__ ?if_Play___eq__ ?fi_Play___eq__ ?z_get ?z_tak ?sx_BadPlay_RoundError ?xs_BadPlay ?a_is_integer ?l_is_integer ?c_is_integer ?k_is_integer ?a__law_open ?l__law_open ?c__law_open ?k__law_open ?a__law_draw ?l__law_draw ?c__law_draw ?k__law_draw ?a__law_numbers ?l__law_numbers ?c__law_numbers ?k__law_numbers ?a__law_outcomes ?l__law_outcomes ?c__law_outcomes ?k__law_outcomes ?a__law_is ?l__law_is ?c__law_is ?k__law_is ?a__law_refused ?l__law_refused ?c__law_refused ?k__law_refused ?a_law ?l_law ?c_law ?k_law)
    (case z_all => k_is); (case z_bool => k_is); (case z_int => k_is); (case z_isinstance => k_is); (case z_len => k_is); (case z_list => k_is); (case z_range => k_is); (case z_repr => k_is); (case z_tuple => k_is); (case g_RoundError => k_is); (case ic_RoundError => k_is); (case tt_RoundError => k_is); (case g_BadPlay => k_is); (case ic_BadPlay => k_is); (case tt_BadPlay => k_is); (case xl_BadPlay => k_is); (case sa_BadPlay => k_is); (case ga_BadPlay => k_is); (case gg_BadPlay => k_is); (case nb_BadPlay => k_is); (case kC_BadPlay => k_is); (case eC_BadPlay => k_is); (case tC_BadPlay => k_is); (case hC_BadPlay => k_is); (case cc_BadPlay => k_is); (case mo_BadPlay => k_is); (case a_BadPlay___init__ => k_is); (case l_BadPlay___init__ => k_is); (case c_BadPlay___init__ => k_is); (case k_BadPlay___init__ => k_is); (case ty_BadPlay___init__ => k_is); (case g_Play => k_is); (case ic_Play => k_is); (case tt_Play => k_is); (case pg_Play => k_is); (case hd_Play => k_is); (case po_Play => k_is); (case sa_Play => k_is); (case kC_Play => k_is); (case mk_Play => k_is); (case cc_Play => k_is); (case mo_Play => k_is); (case sf_Play => k_is); (case ne_Play => k_is); (case nb_Play_numbers => k_is); (case nb_Play_outcomes => k_is); (case nf_Play_NoneType => k_is); (case nf_Play_list => k_is); (case nf_Play_tuple => k_is); (case nf_Play_str => k_is); (case nf_Play_int => k_is); (case nf_Play_bool => k_is); (case nf_Play_dict => k_is); (case a_Play___init__ => k_is); (case l_Play___init__ => k_is); (case c_Play___init__ => k_is); (case k_Play___init__ => k_is); (case lT_Play => k_is); (case ld_Play_0 => k_is); (case ld_Play_1 => k_is); (case if_Play___init__ => k_is); (case a_Play___add__ => k_is); (case l_Play___add__ => k_is); (case c_Play___add__ => k_is); (case k_Play___add__ => k_is); (case if_Play___add__ => k_is); (case fi_Play___add__ => k_is); (case a_Play___eq__ => k_is); (case l_Play___eq__ => k_is); (case c_Play___eq__ => k_is); (case k_Play___eq__ => k_is); (case if_Play___eq__ => k_is); (case fi_Play___eq__ => k_is); (case z_get => k_is); (case z_tak => k_is); (case sx_BadPlay_RoundError => k_is); (case xs_BadPlay => k_is); (case a_is_integer => k_is); (case l_is_integer => k_is); (case c_is_integer => k_is); (case k_is_integer => k_is); (case a__law_open => k_is); (case l__law_open => k_is); (case c__law_open => k_is); (case k__law_open => k_is); (case a__law_draw => k_is); (case l__law_draw => k_is); (case c__law_draw => k_is); (case k__law_draw => k_is); (case a__law_numbers => k_is); (case l__law_numbers => k_is); (case c__law_numbers => k_is); (case k__law_numbers => k_is); (case a__law_outcomes => k_is); (case l__law_outcomes => k_is); (case c__law_outcomes => k_is); (case k__law_outcomes => k_is); (case a__law_is => k_is); (case l__law_is => k_is); (case c__law_is => k_is); (case k__law_is => k_is); (case a__law_refused => k_is); (case l__law_refused => k_is); (case c__law_refused => k_is); (case k__law_refused => k_is); (case a_law => k_is); (case l_law => k_is); (case c_law => k_is); (case k_law => k_is)
