import PyProof.Rows.All
import Wide.All
import OpenK.AllK
import Wide.FinOn
import HandS.ForMost
import HandS.IsInst
import HandS.StrMore
import HandS.Style
import HandS.Deep
import HandS.Wide
import HandS.TupAny
import HandS.ExcInit
import HandS.ExcField
import HandS.ExcIs
import HandS.ExcOwn
import HandS.WordsExc
import HandS.CallSlots
import HandS.Property
import HandS.MakeKw
import HandS.MakeKwOnly
import KE.KExcIs
import HandS.Ends
import HandS.EndBits
import HandS.More
import HandS.Dict
import HandS.Star
import KE.KOpsOwn
import PySem.Challenge.RW_roundrules_k23_plays_and_cells
set_option Elab.async false
set_option linter.all false
set_option maxRecDepth 100000
namespace G
open PySem PySem.Spec PyProof.Rows L2
theorem sz {n : Nat} (h : n ≤ 100000) : n ≤ sizeLine := Nat.le_trans h (by decide)
theorem szl {n : Nat} (h : n < 100000) : n < sizeLine := Nat.lt_of_lt_of_le h (by decide)
section
variable {X : Cx}
/-! ### rules that leave the kind open -/
def rAdd (K : PySem.W.Frag) : R2 := fun x y H Q => match x, y with
  | .int i, .int j => Q (.int (i + j)) H
  | .str i, .str j => i.length + j.length ≤ sizeLine ∧ Q (.str (i ++ j)) H
  | .ref a, .ref b => rCat (.ref a) (.ref b) H Q ∨ rCatA K (.ref a) (.ref b) H Q
  | _, _ => False
theorem gAdd : OpR X (binaryOp .Add) (rAdd X.K) := by
  intro pins s σ H x y v u Q I rx ry h
  cases x <;> cases y <;> first
    | exact h.elim
    | exact op_add pins s σ H _ _ v u Q I rx ry ⟨_, _, rfl, rfl, h⟩
    | exact op_add_str pins s σ H _ _ v u Q I rx ry ⟨_, _, rfl, rfl, h.1, h.2⟩
    | exact op_cat.or op_catA pins s σ H _ _ v u Q I rx ry h
def rSub : R2 := fun x y H Q => match x, y with
  | .int i, .int j => Q (.int (i - j)) H
  | _, _ => False
theorem gSub' : OpR X (binaryOp .Sub) rSub := by
  intro pins s σ H x y v u Q I rx ry h
  cases x <;> cases y <;> first
    | exact h.elim
    | exact op_sub pins s σ H _ _ v u Q I rx ry ⟨_, _, rfl, rfl, h⟩
def rMul : R2 := fun x y H Q => match x, y with
  | .int i, .int j => (CMul i j ∨ CMulW i j) ∧ Q (.int (i * j)) H
  | _, _ => False
theorem gMul : OpR X (binaryOp .Mult) rMul := by
  intro pins s σ H x y v u Q I rx ry h
  cases x <;> cases y <;> first
    | exact h.elim
    | (rcases h with ⟨h | h, q⟩
       · exact op_mul pins s σ H _ _ v u Q I rx ry ⟨_, _, rfl, rfl, h, q⟩
       · exact op_mulW pins s σ H _ _ v u Q I rx ry ⟨_, _, rfl, rfl, h, q⟩)
def rDiv : R2 := fun x y H Q => match x, y with
  | .int i, .int j => CDivW i j ∧ Q (.int (i / j)) H
  | _, _ => False
theorem gDiv : OpR X (binaryOp .FloorDiv) rDiv := by
  intro pins s σ H x y v u Q I rx ry h
  cases x <;> cases y <;> first
    | exact h.elim
    | exact op_fdivW pins s σ H _ _ v u Q I rx ry ⟨_, _, rfl, rfl, h.1, h.2⟩
def rMod : R2 := fun x y H Q => match x, y with
  | .int i, .int j => 0 < j ∧ Q (.int (i % j)) H
  | _, _ => False
theorem gMod : OpR X (binaryOp .Mod) rMod := by
  intro pins s σ H x y v u Q I rx ry h
  cases x <;> cases y <;> first
    | exact h.elim
    | exact op_mod pins s σ H _ _ v u Q I rx ry ⟨_, _, rfl, rfl, h.1, h.2⟩
def rPow : R2 := fun x y H Q => match x, y with
  | .int i, .int j => CPow i j ∧ Q (.int (i ^ j.toNat)) H
  | _, _ => False
theorem gPow : OpR X (binaryOp .Pow) rPow := by
  intro pins s σ H x y v u Q I rx ry h
  cases x <;> cases y <;> first
    | exact h.elim
    | exact op_pow pins s σ H _ _ v u Q I rx ry ⟨_, _, rfl, rfl, h.1, h.2⟩
def rCmp (g : Int → Int → Bool) : R2 := fun x y H Q => match x, y with
  | .int i, .int j => Q (.bl (g i j)) H
  | _, _ => False
theorem cmp_of {f : Value → Value → Sem Value} {g : Int → Int → Bool} (ho : OpR X f (rI0 fun i j => .bl (g i j))) : OpR X f (rCmp g) := by
  intro pins s σ H x y v u Q I rx ry h
  cases x <;> cases y <;> first
    | exact h.elim
    | exact ho pins s σ H _ _ v u Q I rx ry ⟨_, _, rfl, rfl, h⟩
theorem gLt : OpR X (compareOp .Lt) (rCmp fun i j => decide (i < j)) := cmp_of op_lt
theorem gLe : OpR X (compareOp .LtE) (rCmp fun i j => decide (i ≤ j)) := cmp_of op_le
theorem gGt : OpR X (compareOp .Gt) (rCmp fun i j => decide (j < i)) := cmp_of op_gt
theorem gGe : OpR X (compareOp .GtE) (rCmp fun i j => decide (j ≤ i)) := cmp_of op_ge
def rEqA (K : PySem.W.Frag) : R2 := fun x y H Q => rEq x y H Q ∨ rEqD K x y H Q
def rNeA (K : PySem.W.Frag) : R2 := fun x y H Q => rNe x y H Q ∨ rNeD K x y H Q
theorem gEq {k : Nat} (hr : Room k X.A) : OpR X (compareOp .Eq) (rEqA X.K) := op_eq.or (op_eqD hr.units)
theorem gNe {k : Nat} (hr : Room k X.A) : OpR X (compareOp .NotEq) (rNeA X.K) := op_ne.or (op_neD hr.units)
def rIsA : R2 := fun x y H Q => (y = .non ∧ Q (.bl (decide (x = .non))) H) ∨ rIsB x y H Q
def rIsNotA : R2 := fun x y H Q => (y = .non ∧ Q (.bl (!decide (x = .non))) H) ∨ rNotB x y H Q
theorem gIs : OpR X (compareOp .Is) rIsA := op_isN.or op_isBl
theorem gIsNot : OpR X (compareOp .IsNot) rIsNotA := op_notN.or op_notBl
def rInA (K : PySem.W.Frag) : R2 := fun x y H Q => (∃ (c : Nat) (z : Str), x = .str ⟨#[c]⟩ ∧ y = .str z ∧ Q (.bl (decide (c ∈ z.cps.toList))) H) ∨ rIn K false x y H Q ∨ rInD K x y H Q
def rNotInA (K : PySem.W.Frag) : R2 := fun x y H Q => (∃ (c : Nat) (z : Str), x = .str ⟨#[c]⟩ ∧ y = .str z ∧ Q (.bl (!decide (c ∈ z.cps.toList))) H) ∨ rIn K true x y H Q ∨ rNotInD K x y H Q
theorem u65 {k : Nat} {A : Around} (hr : Room k A) : A.units + 65 < cLine := by
  have := hr.un
  omega
theorem gIn {k : Nat} (hr : Room k X.A) : OpR X (compareOp .In) (rInA X.K) := op_in_sign.or (op_in_seq.or (op_inD (u65 hr)))
theorem gNotIn {k : Nat} (hr : Room k X.A) : OpR X (compareOp .NotIn) (rNotInA X.K) := op_notIn_sign.or (op_notIn_seq.or (op_notInD (u65 hr)))
def rSlG (K : PySem.W.Frag) : V → Option Int → Option Int → Hp → VK → Prop := fun x lo hi H Q => match x with
  | .str z => z.length ≤ sizeLine ∧ Q (.str (cutS z lo hi)) H
  | .ref a => rSlL K (.ref a) lo hi H Q ∨ rSlA K (.ref a) lo hi H Q
  | _ => False
theorem gSl : SlR X (rSlG X.K) := by
  intro pins s σ H x v vl vu lo hi sl Q I rx hs pl pu h
  cases x <;> first
    | exact h.elim
    | exact sl_str pins s σ H _ v vl vu lo hi sl Q I rx hs pl pu ⟨_, rfl, h.1, h.2⟩
    | exact sl_list.or sl_tupA pins s σ H _ v vl vu lo hi sl Q I rx hs pl pu h
theorem CallR.or {f : Value} {r r' : List V → Hp → VK → Prop} (h : CallR X f r) (h' : CallR X f r') : CallR X f (fun xs H Q => r xs H Q ∨ r' xs H Q) := by
  intro pins s σ H xs us Q I rv q
  rcases q with q | q
  · exact h pins s σ H xs us Q I rv q
  · exact h' pins s σ H xs us Q I rv q
def rLen (K : PySem.W.Frag) : List V → Hp → VK → Prop := fun xs H Q => match xs with
  | [.str y] => y.length ≤ sizeLine ∧ Q (.int y.length) H
  | [.ref p] => ∃ xs, (SqL K H p xs ∨ SqT K H p xs) ∧ Q (.int xs.length) H
  | _ => False
theorem gLen : CallR X (.builtin "len") (rLen X.K) := by
  intro pins s σ H xs us Q I rv h
  match xs, rv, h with
  | [.str y], rv, h => exact call_len pins s σ H _ us Q I rv ⟨_, _, rfl, ⟨h.1, rfl⟩, h.2⟩
  | [.ref p], rv, h =>
    obtain ⟨xs, h1 | h1, q⟩ := h
    · exact call_len pins s σ H _ us Q I rv ⟨_, _, rfl, .inl ⟨_, h1, rfl⟩, q⟩
    · exact call_len pins s σ H _ us Q I rv ⟨_, _, rfl, .inr ⟨_, h1, rfl⟩, q⟩
def rIsiA (K : PySem.W.Frag) : List V → Hp → VK → Prop := fun xs H Q => rIsi K xs H Q ∨ rIsiT K xs H Q
theorem gIsi : CallR X (.builtin "isinstance") (rIsiA X.K) := CallR.or call_isi call_isiT
def rIntA : List V → Hp → VK → Prop := fun xs H Q => match xs with
  | [.int i] => Q (.int i) H
  | [.bl k] => Q (.int (if k then 1 else 0)) H
  | [.str a] => ∃ n, PySem.intText? a = some n ∧ a.length ≤ 640 ∧ Q (.int n) H
  | _ => False
theorem g_int : CallR X (.type "int") rIntA := by
  intro pins s σ H xs us Q I rv h
  match xs, rv, h with
  | [.int i], rv, h => exact call_int1 pins s σ H _ us Q I rv (.inl ⟨_, rfl, h⟩)
  | [.bl i], rv, h => exact call_int1 pins s σ H _ us Q I rv (.inr ⟨_, rfl, h⟩)
  | [.str i], rv, ⟨n, h1, h2, q⟩ => exact call_int_str pins s σ H _ us Q I rv ⟨_, n, rfl, h1, h2, q⟩
def rStrA : List V → Hp → VK → Prop := fun xs H Q => match xs with
  | [.int i] => i.natAbs.log2 < 1920 ∧ Q (.str (toString i)) H
  | _ => False
theorem g_str : CallR X (.type "str") rStrA := by
  intro pins s σ H xs us Q I rv h
  match xs, rv, h with
  | [.int i], rv, h => exact call_str_int pins s σ H _ us Q I rv ⟨_, rfl, h.1, h.2⟩
def rListA (K : PySem.W.Frag) : List V → Hp → VK → Prop := fun xs H Q => match xs with
  | [.ref p] => ∃ ys, (SqL K H p ys ∨ SqT K H p ys) ∧ ∀ l, H l = none → Q (.ref l) (upd H l (.lst ys))
  | _ => False
theorem g_list : CallR X (.type "list") (rListA X.K) := by
  intro pins s σ H xs us Q I rv h
  match xs, rv, h with
  | [.ref i], rv, ⟨ys, h, q⟩ => exact call_list_of pins s σ H _ us Q I rv ⟨_, _, rfl, h, q⟩
def rTupA (K : PySem.W.Frag) : List V → Hp → VK → Prop := fun xs H Q => match xs with
  | [.ref p] => ∃ ys, (SqL K H p ys ∧ ∀ l, H l = none → Q (.ref l) (upd H l (.tup ys))) ∨ (SqT K H p ys ∧ Q (.ref p) H)
  | _ => False
theorem g_tuple : CallR X (.type "tuple") (rTupA X.K) := by
  intro pins s σ H xs us Q I rv h
  match xs, rv, h with
  | [.ref i], rv, ⟨ys, h⟩ => exact call_tuple_of pins s σ H _ us Q I rv ⟨_, _, rfl, h⟩
def rIxA (K : PySem.W.Frag) : R2 := fun x y H Q => match x, y with
  | .ref p, .int i => ∃ xs v, (SqL K H p xs ∨ SqT K H p xs) ∧ atI xs i = some v ∧ Q v H
  | .str z, .int i => z.length ≤ sizeLine ∧ ∃ c, atI z.cps.toList i = some c ∧ Q (.str ⟨#[c]⟩) H
  | _, _ => False
theorem gIx : IxR X (rIxA X.K) := by
  intro value slice pins s σ H x y v u Q I rx ry h hs
  cases x <;> cases y <;> first
    | exact h.elim
    | (obtain ⟨xs, v', h1 | h1, h2, q⟩ := h
       · exact ix_list value slice pins s σ H _ _ v u Q I rx ry ⟨_, _, _, _, rfl, rfl, h1, h2, q⟩ hs
       · exact ix_tup value slice pins s σ H _ _ v u Q I rx ry ⟨_, _, _, _, rfl, rfl, h1, h2, q⟩ hs)
    | (obtain ⟨h1, c, h2, q⟩ := h
       exact ix_str value slice pins s σ H _ _ v u Q I rx ry ⟨_, _, _, rfl, rfl, h1, h2, q⟩ hs)
/-- a built-in type's name -/
theorem gTy {x : Str} {n : String} {pos : Pos} (hg : Gl X x) (hm : X.mg x = none) (hv : bootBuiltins x = some (.type n)) (hn : x ≠ "__name__" := by decide) (hd : (x == ("__debug__" : Str)) = false := by decide) : PE X (.Name x pos) (tC (.ty n)) :=
  pe_bltn (v := .ty n) hg hm hv rfl hn hd
/-- what is walked: a list, a tuple, a text -/
def iAny (K : PySem.W.Frag) (te : TE) : TI := fun σ H R => iList K te σ H R ∨ iTup K te σ H R ∨ iStr te σ H R
theorem IT {tg e : Expr} {te : TE} (he : PE X e te) : PI X tg e (iAny X.K te) := by
  refine ⟨fun pins s σ H R I h => ?_⟩
  rcases h with h | h | h
  · exact (pi_list he).run pins s σ H R I h
  · exact (pi_tup he).run pins s σ H R I h
  · exact (pi_str he).run pins s σ H R I h
/-- a statement, then the rest, with a word between them -/
def tCut (t u : TS) : TS := fun D σ H => ∃ Mid : L2.St → Hp → Prop, t { D with nx := Mid } σ H ∧ ∀ σ' H', Mid σ' H' → u D σ' H'
theorem pss_cut {st : Stmt} {rest : List Stmt} {t u : TS} (h1 : PS X st t) (h2 : PSs X rest u) : PSs X (st :: rest) (tCut t u) := by
  refine ⟨fun pins s σ H D I h => ?_⟩
  obtain ⟨Mid, hm, hu⟩ := h
  refine wpAny_execs_cons (thn (h1.run pins s σ H { D with nx := Mid } I hm) fun f s1 q => ?_)
  cases f with
  | next =>
    obtain ⟨σ', H', I', q⟩ := q
    exact h2.run pins s1 σ' H' D I' (hu σ' H' q)
  | ret v => exact q
  | brk => exact q
  | cont => exact q
/-- an expression, a test, with a word behind it -/
def tCutE (t : TE) : TE := fun σ H Q => ∃ M : VK, t σ H M ∧ ∀ v H', M v H' → Q v H'
def tCutT (t : TT) : TT := fun σ H Q => ∃ M : Bool → Hp → Prop, t σ H M ∧ ∀ v H', M v H' → Q v H'
theorem pe_cut {e : Expr} {t : TE} (h : PE X e t) : PE X e (tCutE t) := by
  refine ⟨fun pins s σ H Q I ⟨M, hm, hu⟩ => thn (h.run pins s σ H M I hm) fun u s1 ⟨v, H1, I1, r, q⟩ => ⟨v, H1, I1, r, hu v H1 q⟩⟩
theorem pt_cut {e : Expr} {t : TT} (h : PT X e t) : PT X e (tCutT t) := by
  refine ⟨fun pins s σ H Q I ⟨M, hm, hu⟩ => thn (h.run pins s σ H M I hm) fun u s1 ⟨H1, I1, q⟩ => ⟨H1, I1, hu _ H1 q⟩⟩
theorem i_cutE {t : TE} {σ : L2.St} {H : Hp} {Q : VK} (M : VK) (hm : t σ H M) (hu : ∀ v H', M v H' → Q v H') : tCutE t σ H Q := ⟨M, hm, hu⟩
theorem i_cutT {t : TT} {σ : L2.St} {H : Hp} {Q : Bool → Hp → Prop} (M : Bool → Hp → Prop) (hm : t σ H M) (hu : ∀ v H', M v H' → Q v H') : tCutT t σ H Q := ⟨M, hm, hu⟩
/-- .. whose answer is b, leaving the heap -/
theorem i_isT {t : TT} {σ : L2.St} {H : Hp} {Q : Bool → Hp → Prop} (b : Bool) (hm : t σ H fun v H' => v = b ∧ H' = H) (hu : Q b H) : tCutT t σ H Q := ⟨_, hm, fun v H' ⟨e1, e2⟩ => by rw [e1, e2]; exact hu⟩
theorem i_isE {t : TE} {σ : L2.St} {H : Hp} {Q : VK} (x : V) (hm : t σ H fun v H' => v = x ∧ H' = H) (hu : Q x H) : tCutE t σ H Q := ⟨_, hm, fun v H' ⟨e1, e2⟩ => by rw [e1, e2]; exact hu⟩
theorem cut_seq {t u : TS} {D : Ends} {σ : L2.St} {H : Hp} (h : t { D with nx := u D } σ H) : tCut t u D σ H := ⟨u D, h, fun _ _ q => q⟩
end
/-! the same, the written part by its name (inside a comprehension) -/
section
variable {X : Cx} {K : PySem.W.Frag}
theorem kAdd (hK : X.K = K) : OpR X (binaryOp .Add) (rAdd K) := by subst hK; exact gAdd
theorem kEq {k : Nat} (hK : X.K = K) (hr : Room k X.A) : OpR X (compareOp .Eq) (rEqA K) := by subst hK; exact gEq hr
theorem kNe {k : Nat} (hK : X.K = K) (hr : Room k X.A) : OpR X (compareOp .NotEq) (rNeA K) := by subst hK; exact gNe hr
theorem kIn {k : Nat} (hK : X.K = K) (hr : Room k X.A) : OpR X (compareOp .In) (rInA K) := by subst hK; exact gIn hr
theorem kNotIn {k : Nat} (hK : X.K = K) (hr : Room k X.A) : OpR X (compareOp .NotIn) (rNotInA K) := by subst hK; exact gNotIn hr
theorem kSl (hK : X.K = K) : SlR X (rSlG K) := by subst hK; exact gSl
theorem kLen (hK : X.K = K) : CallR X (.builtin "len") (rLen K) := by subst hK; exact gLen
theorem kIsi (hK : X.K = K) : CallR X (.builtin "isinstance") (rIsiA K) := by subst hK; exact gIsi
theorem k_list (hK : X.K = K) : CallR X (.type "list") (rListA K) := by subst hK; exact g_list
theorem k_tuple (hK : X.K = K) : CallR X (.type "tuple") (rTupA K) := by subst hK; exact g_tuple
theorem kIx (hK : X.K = K) : IxR X (rIxA K) := by subst hK; exact gIx
theorem kIT {tg e : Expr} {te : TE} (hK : X.K = K) (he : PE X e te) : PI X tg e (iAny K te) := by subst hK; exact IT he
theorem kTruth {a : Expr} {ta : TE} (hK : X.K = K) (ha : PE X a ta) (he : ∀ whole, isTrue a X.env whole = (do let v ← whole; standAt a.pos; holding [v] (truthy v))) : PT X a (fun σ H Q => ta σ H fun x H' => ∃ k, TruV K x H' k ∧ Q k H') := by
  subst hK
  exact pt_truth ha he
theorem kBm {o e : Expr} {es : List Expr} {to : TE} {t : TA} {name : Str} {apos cpos : Pos} {T id : String} {r : V → List V → Hp → VK → Prop} (hK : X.K = K) (pa : PlainAttrs T) (slot : Slot T name id) (hty : typeOf (.builtin id) = pure (.type "method_descriptor")) (hm : MtR X id r) (ho : PE X o to) (ha : PA X (e :: es) t)
    (hbase : attributeBase o name X.env (eval o X.env) = eval o X.env := by rfl)
    (hfew : ((backTo cpos (starEach (e :: es) X.env)).all (fun x => !x.1) && (backToKw cpos (keywordEach [] X.env)).all (fun x => x.1.isSome)
      && decide ((e :: es).length + ([] : List Keyword).length + (if ([] : List Keyword).isEmpty then 0 else 1) < 30)) = true := by rfl)
    (hline : (apos.endLine == cpos.line) = true := by rfl) (hs : starEach (e :: es) X.env = (false, eval e X.env) :: starEach es X.env := by rfl) (hplain : (backTo cpos (starEach es X.env)).any (·.1) = false := by rfl) :
    PE X (.Call (.Attribute o name apos) (e :: es) [] cpos) (tBM K T r to t) := by
  subst hK
  exact pe_bm pa slot hty hm ho ha hbase hfew hline hs hplain
theorem kBm0 {o : Expr} {to : TE} {name : Str} {apos cpos : Pos} {T id : String} {r : V → List V → Hp → VK → Prop} (hK : X.K = K) (pa : PlainAttrs T) (slot : Slot T name id) (hty : typeOf (.builtin id) = pure (.type "method_descriptor")) (hm : MtR X id r) (ho : PE X o to)
    (hbase : attributeBase o name X.env (eval o X.env) = eval o X.env := by rfl) (hline : (apos.endLine == cpos.line) = true := by rfl) : PE X (.Call (.Attribute o name apos) [] [] cpos) (tBM0 K T r to) := by
  subst hK
  exact pe_bm0 pa slot hty hm ho hbase hline
theorem kTup {es : List Expr} {k : Nat} {t : TGs} {n : Nat} {pos : Pos} (hK : X.K = K) (hc : X.calm = true) (h : PGs X es t)
    (hn : (assignEach es X.env).length = n := by rfl) (hst : (assignEach es X.env).findIdx? (·.1) = none := by rfl) : PG X (.Tuple es k pos) (gTup K n t) := by
  subst hK
  exact pg_tup hc h hn hst
end
/-! ### a def by its name -/
structure Cal (P : Program) (w : World) (K : PySem.W.Frag) (mg : Str → Option Value) (base : Heap) (k : Nat) (x : Str) (sp : Sp) (dvs : List V) : Prop where
  ex : ∃ (f : Addr) (fd : FuncData) (ps : List Str) (ds : List Value), FnOk P w K mg base CX0 k f fd ps sp ∧ mg x = some (.ref f) ∧ PySem.W.keepIn K (.ref f) = true ∧ Binds K fd ps ds ∧ Vals dvs ds
/-- a def of the text: where it stands, how its arguments bind -/
structure Dd (K : PySem.W.Frag) (mg : Str → Option Value) (x : Str) (st : Stmt) (ps : List Str) : Prop where
  ex : ∃ (f : Addr) (fd : FuncData), Fun K x x st f fd ∧ mg x = some (.ref f) ∧ Binds K fd ps []
section
variable {P : Program} {w : World} {K : PySem.W.Frag} {mg : Str → Option Value} {base : Heap}
/-- the rule for a def -/
theorem Dd.cal {x : Str} {st : Stmt} {N ps : List Str} {k : Nat} {sp : Sp} (F : Dd K mg x st ps) (S : FnScope N ps (defScope st)) (len : ∀ vs H Q E, sp vs H Q E → vs.length = ps.length)
    (hbody : ∀ (f : Addr) (cdv : Value) (A : Around) (outer : List Env) (s : Shared) (H : Hp) (vs : List V) (Q : VK) (E : XK), Room k (A.deeper (envOfC x (defScope st) s.heap.objs.size f cdv)) → sp vs H Q E →
      ∃ t, PSs (cxOf CX0 P w K mg base N x (defScope st) f cdv A outer s H E).nox (defBody st) t ∧ t { nx := fun _ H' => Q .non H', rt := Q } (start N vs) H) : Cal P w K mg base (k + 1) x sp [] := by
  obtain ⟨f, fd, F1, hm, b⟩ := F.ex
  exact ⟨f, fd, ps, [], F1.ok S len (fun cdv A outer s H vs Q E hr h => hbody f cdv A outer s H vs Q E hr h), hm, F1.kp, b, .nil⟩
/-- the law itself -/
theorem Dd.law {x : Str} {st : Stmt} {N ps : List Str} {k : Nat} {sp : Sp} {fa : Addr} (F : Dd K mg x st ps) (S : FnScope N ps (defScope st)) (hfa : mg x = some (.ref fa)) (len : ∀ vs H Q E, sp vs H Q E → vs.length = ps.length)
    (hbody : ∀ (base : Heap) (f : Addr) (cdv : Value) (A : Around) (outer : List Env) (s : Shared) (H : Hp) (vs : List V) (Q : VK) (E : XK), Room k (A.deeper (envOfC x (defScope st) s.heap.objs.size f cdv)) → sp vs H Q E →
      ∃ t, PSs (cxOf CX0 P w K mg base N x (defScope st) f cdv A outer s H E).nox (defBody st) t ∧ t { nx := fun _ H' => Q .non H', rt := Q } (start N vs) H) :
    ∃ fd : FuncData, (∃ (kV doc pm : Value) (an : Option Addr) (cdv ct : Value), fd = PySem.W.fnOf x x (defArgs st) (defBody st) (defScope st) .none kV doc pm an cdv ct) ∧ ∀ base : Heap, FnOk P w K mg base CX0 (k + 1) fa fd ps sp := by
  obtain ⟨f, fd, F1, hm, b⟩ := F.ex
  have e := hfa.symm.trans hm
  cases e
  refine ⟨fd, ?_, fun base => F1.ok S len (fun cdv A outer s H vs Q E hr h => hbody base fa cdv A outer s H vs Q E hr h)⟩
  obtain ⟨oc, od, kV, doc, pm, an, cdv, ct, osl, rfl, lk, hcd⟩ := F1.ex
  exact ⟨kV, doc, pm, an, cdv, ct, rfl⟩
theorem cxK {CX : CXT} {N : List Str} {x : Str} {sc : Scope} {f : Addr} {cdv : Value} {A : Around} {outer : List Env} {s : Shared} {H : Hp} {E : XK} : (cxOf CX P w K mg base N x sc f cdv A outer s H E).nox.K = K := rfl
end
section
variable {X : Cx} {k j : Nat} {x : Str} {sp : Sp} {dvs : List V} {p pos : Pos} {e : Expr} {es : List Expr} {t : TA}
theorem pe_c (c : Cal X.prog X.w X.K X.mg X.base k x sp dvs) (hr : Room j X.A) (hk : k ≤ j) (hg : Gl X x) (ha : PA X (e :: es) t)
    (hdb : (x == ("__debug__" : Str)) = false := by decide) (he : starEach (e :: es) X.env = (false, eval e X.env) :: starEach es X.env := by rfl) (hpl : (backTo pos (starEach es X.env)).any (·.1) = false := by rfl) :
    PE X (.Call (.Name x p) (e :: es) [] pos) (tCall sp dvs E0 t) := by
  obtain ⟨f, fd, ps, ds, F, hm, kp, b, d⟩ := c.ex
  exact pe_call F (hr.mono hk) hg hm kp b d pass0 ha hdb he hpl
theorem pe_call0C (c : Cal X.prog X.w X.K X.mg X.base k x sp dvs) (hr : Room j X.A) (hk : k ≤ j) (hg : Gl X x)
    (hdb : (x == ("__debug__" : Str)) = false := by decide) : PE X (.Call (.Name x p) [] [] pos) (tCall sp dvs E0 tNil) := by
  obtain ⟨f, fd, ps, ds, F, hm, kp, b, d⟩ := c.ex
  exact pe_call0 F (hr.mono hk) hg hm kp b d pass0 hdb
theorem pe_gc {v : V} (hg : Gl X x) (h : ∃ u, X.mg x = some u ∧ RelV v u) (hd : (x == ("__debug__" : Str)) = false := by decide) : PE X (.Name x pos) (tC v) := by
  obtain ⟨u, hm, r⟩ := h
  exact pe_glob hg hm r hd
end
/-! ### readings, one step each -/
section
variable {K : PySem.W.Frag} {σ : L2.St} {H : Hp} {ta tb te tc to : TE} {t tr : TA} {tt tu : TT} {Q : VK} {QA : List V → Hp → Prop} {QB : Bool → Hp → Prop} {D : Ends} {u v : TS} {r r' : R2} {rc : List V → Hp → VK → Prop} {g : TG}
theorem i_var {i : Nat} {x : V} (h : σ[i]? = some (some x)) (q : Q x H) : tVar i σ H Q := ⟨x, h, q⟩
theorem i_c {x : V} (q : Q x H) : tC x σ H Q := q
theorem i_op (q : ta σ H fun x H1 => tb σ H1 fun y H2 => r x y H2 Q) : tOp r ta tb σ H Q := q
theorem i_un {ru : V → Hp → VK → Prop} (q : ta σ H fun x H1 => ru x H1 Q) : tUn ru ta σ H Q := q
theorem i_neg {i : Int} (q : Q (.int (-i)) H) : rU (fun i => .int (-i)) (.int i) H Q := ⟨i, rfl, q⟩
theorem i_cb (q : t σ H fun vs H1 => rc vs H1 Q) : tCB rc t σ H Q := q
theorem i_cons (q : ta σ H fun x H1 => tr σ H1 fun xs H2 => QA (x :: xs) H2) : tCons ta tr σ H QA := q
theorem i_nil (q : QA [] H) : tNil σ H QA := q
theorem i_test (q : te σ H fun x H' => ∃ k, x = .bl k ∧ QB k H') : tTest te σ H QB := q
theorem i_b (q : te σ H fun x H' => ∃ k, x = .bl k ∧ QB k H') : tB te σ H QB := q
theorem i_bl {b : Bool} {R : Bool → Prop} (q : R b) : ∃ k, V.bl b = .bl k ∧ R k := ⟨b, rfl, q⟩
theorem i_and (q : tt σ H fun c H1 => if c = true then tu σ H1 QB else QB false H1) : tAnd tt tu σ H QB := q
theorem i_or (q : tt σ H fun c H1 => if c = true then QB true H1 else tu σ H1 QB) : tOr tt tu σ H QB := q
theorem i_not (q : tt σ H fun c H1 => QB (!c) H1) : tNot tt σ H QB := q
theorem i_andV (q : ta σ H fun x H1 => ∃ c, x = .bl c ∧ if c = true then tb σ H1 Q else Q (.bl false) H1) : tAndV ta tb σ H Q := q
theorem i_orV (q : ta σ H fun x H1 => ∃ c, x = .bl c ∧ if c = true then Q (.bl true) H1 else tb σ H1 Q) : tOrV ta tb σ H Q := q
theorem i_notV (q : ta σ H fun x H1 => ∃ c, x = .bl c ∧ Q (.bl (!c)) H1) : tNotV ta σ H Q := q
theorem i_if (q : tt σ H fun c H1 => if c = true then ta σ H1 Q else tb σ H1 Q) : tIf tt ta tb σ H Q := q
theorem i_chain (q : ta σ H fun x H1 => tb σ H1 fun y H2 => r x y H2 fun z H3 => ∃ k, z = .bl k ∧ (if k = true then tc σ H3 fun w' H4 => r' y w' H4 Q else Q (.bl false) H3)) : tChain r r' ta tb tc σ H Q := q
theorem i_seq (q : u { D with nx := v D } σ H) : tSeq u v D σ H := q
theorem i_next (q : D.nx σ H) : tNext D σ H := q
theorem i_lst (q : t σ H fun xs H1 => xs.length ≤ sizeLine ∧ ∀ p, H1 p = none → Q (.ref p) (upd H1 p (.lst xs))) : tLst t σ H Q := q
theorem i_tup (q : t σ H fun xs H1 => xs.length ≤ sizeLine ∧ ∀ p, H1 p = none → Q (.ref p) (upd H1 p (.tup xs))) : tTup t σ H Q := q
theorem i_drop (q : te σ H fun _ H1 => D.nx σ H1) : tDrop te D σ H := q
theorem i_ret (q : te σ H D.rt) : tRet te D σ H := q
theorem i_ifS (q : tt σ H fun b H1 => if b = true then u D σ H1 else v D σ H1) : tIfS tt u v D σ H := q
theorem i_call {sp : Sp} {dvs : List V} {E : XK} (q : t σ H fun vs H1 => sp (vs ++ dvs) H1 Q E) : tCall sp dvs E t σ H Q := q
theorem i_asg (q : te σ H fun x H1 => g x σ H1 D.nx) : tAsg te g D σ H := q
theorem i_name {i : Nat} {x : V} {R : L2.St → Hp → Prop} (q : R (σ.set i (some x)) H) : gName i x σ H R := q
theorem i_start {N : List Str} {vs : List V} {τ : L2.St} {t : TS} (e : start N vs = τ) (q : t D τ H) : t D (start N vs) H := by
  subst e
  exact q
theorem i_sub {ti : TE} {ts : TSet} {x : V} {R : L2.St → Hp → Prop} (q : to σ H fun o H1 => ti σ H1 fun i H2 => ts o i x H2 fun H3 => R σ H3) : L2.gSub to ti ts x σ H R := q
theorem i_sl {rs : V → Option Int → Option Int → Hp → VK → Prop} {tl th : TO} (q : te σ H fun x H1 => tl σ H1 fun l H2 => th σ H2 fun u H3 => rs x l u H3 Q) : tSl rs te tl th σ H Q := q
theorem i_noP {QO : Option Int → Hp → Prop} (q : QO none H) : tNoPart σ H QO := q
theorem i_part {QO : Option Int → Hp → Prop} (q : te σ H fun x H1 => ∃ i, x = .int i ∧ QO (some i) H1) : tPart te σ H QO := q
theorem i_int {i : Int} {R : Int → Prop} (q : R i) : ∃ k, V.int i = .int k ∧ R k := ⟨i, rfl, q⟩
theorem i_bm {T : String} {rm : V → List V → Hp → VK → Prop} (q : to σ H fun x H1 => tyV K T x H1 ∧ t σ H1 fun xs H2 => rm x xs H2 Q) : tBM K T rm to t σ H Q := q
theorem i_strT {z : Str} {R : Prop} (q : R) : tyV K "str" (.str z) H ∧ R := ⟨rfl, q⟩
theorem i_yes {QB : Bool → Hp → Prop} (q : QB true H) : tYes σ H QB := q
theorem i_ite {p A B : Prop} [Decidable p] (h1 : p → A) (h2 : ¬ p → B) : if decide p = true then A else B := by
  by_cases h : p
  · rw [if_pos (decide_eq_true h)]
    exact h1 h
  · rw [if_neg (by rw [decide_eq_false h]; exact Bool.false_ne_true)]
    exact h2 h
theorem i_iteN {p A B : Prop} [Decidable p] (h1 : ¬ p → A) (h2 : p → B) : if (!decide p) = true then A else B := by
  by_cases h : p
  · rw [decide_eq_true h]
    exact iteF (h2 h)
  · rw [decide_eq_false h]
    exact iteT (h1 h)
theorem i_iteB {b : Bool} {A B : Prop} (h1 : b = true → A) (h2 : b = false → B) : if b = true then A else B := by
  cases b with
  | true => exact iteT (h1 rfl)
  | false => exact iteF (h2 rfl)
theorem i_iteBN {b : Bool} {A B : Prop} (h1 : b = false → A) (h2 : b = true → B) : if (!b) = true then A else B := by
  cases b with
  | true => exact iteF (h2 rfl)
  | false => exact iteT (h1 rfl)
/-- a comprehension's turns -/
def lcB (J : It) (g : TG) (tt : TT) (te : TE) (vs : List Nat) (σ : L2.St) (Q : VK) (H1 : Hp) : Prop := ∀ D, H1 D = none → ∃ W : Nat → Nat → Hp → Prop, (∃ m, W 0 m (upd H1 D (.lst []))) ∧ ∀ i m H, W i m H →
  (J.stop i H ∧ Q (.ref D) H) ∨ (J.go i H ∧ ∃ Nx : Hp → Prop, (∀ H', Nx H' → ∃ m', m' < m ∧ W (i + 1) m' H') ∧ ∀ x H', J.yld i H x H' → g x (wipe σ vs) H' fun σ2 H2 => wipe σ2 vs = wipe σ vs ∧ tt σ2 H2 fun b H3 =>
    if b = true then te σ2 H3 fun y H4 => ∃ acc, H4 D = some (.lst acc) ∧ acc.length < sizeLine ∧ Nx (upd H4 D (.lst (acc ++ [y]))) else Nx H3)
/-- a loop's turns -/
def forB (J : It) (g : TG) (tb : TS) (D : Ends) (σ : L2.St) (H1 : Hp) : Prop := ∃ W : Nat → Nat → L2.St → Hp → Prop, (∃ m, W 0 m σ H1) ∧ ∀ i m σ H, W i m σ H →
  (J.stop i H ∧ D.nx σ H) ∨ (J.go i H ∧ ∃ N : L2.St → Hp → Prop, (∀ σ' H', N σ' H' → ∃ m', m' < m ∧ W (i + 1) m' σ' H') ∧ ∀ x H', J.yld i H x H' → g x σ H' fun σ2 H2 => tb { D with nx := N, ct := N, bk := D.nx } σ2 H2)
theorem i_lc {wi : TI} {vs : List Nat} (q : wi σ H fun J H1 => lcB J g tt te vs σ Q H1) : tLc wi g tt te vs σ H Q := q
theorem i_for {wi : TI} (q : wi σ H fun J H1 => forB J g u D σ H1) : tFor wi g u D σ H := q
theorem i_anyL {R : It → Hp → Prop} (q : te σ H fun x H1 => ∃ a, x = .ref a ∧ (∃ xs, SqL K H1 a xs) ∧ R (Itl K a) H1) : iAny K te σ H R := .inl q
theorem i_anyT {R : It → Hp → Prop} (q : te σ H fun x H1 => ∃ a, x = .ref a ∧ (∃ xs, SqT K H1 a xs) ∧ R (Itt K a) H1) : iAny K te σ H R := .inr (.inl q)
theorem i_anyS {R : It → Hp → Prop} (q : te σ H fun v H1 => ∃ x, v = .str x ∧ R (Its x) H1) : iAny K te σ H R := .inr (.inr q)
theorem i_rng1 {R : It → Hp → Prop} (q : t σ H fun vs H1 => ∃ j : Int, vs = [.int j] ∧ -(2 ^ 62) ≤ j ∧ j < 2 ^ 62 ∧ R (Itr 0 j.toNat) H1) : iRng1 t σ H R := q
theorem i_rng2 {R : It → Hp → Prop} (q : t σ H fun vs H1 => ∃ i j : Int, vs = [.int i, .int j] ∧ (-(2 ^ 62) ≤ i ∧ i < 2 ^ 62 ∧ -(2 ^ 62) ≤ j ∧ j < 2 ^ 62) ∧ R (Itr i (j - i).toNat) H1) : iRng2 t σ H R := q
theorem l_rng1 {j : Int} {R : It → Hp → Prop} (h1 : -(2 ^ 62) ≤ j) (h2 : j < 2 ^ 62) (q : R (Itr 0 j.toNat) H) : ∃ k : Int, [V.int j] = [.int k] ∧ -(2 ^ 62) ≤ k ∧ k < 2 ^ 62 ∧ R (Itr 0 k.toNat) H := ⟨j, rfl, h1, h2, q⟩
/-- a range: what holds between the turns -/
theorem for_rng {n : Nat} {lo : Int} (Pv : Nat → L2.St → Hp → Prop) (h0 : Pv 0 σ H)
    (hs : ∀ i σ H, i < n → Pv i σ H → g (.int (lo + i)) σ H fun σ2 H2 => u { D with nx := Pv (i + 1), ct := Pv (i + 1), bk := D.nx } σ2 H2) (hd : ∀ σ H, Pv n σ H → D.nx σ H) : forB (Itr lo n) g u D σ H := for_range Pv h0 hs hd
theorem for_lst {a : Addr} {xs : List V} (Pv : Nat → L2.St → Hp → Prop) (h0 : Pv 0 σ H) (hl : ∀ i σ H, i ≤ xs.length → Pv i σ H → SqL K H a xs)
    (hs : ∀ i x σ H, xs[i]? = some x → Pv i σ H → g x σ H fun σ2 H2 => u { D with nx := Pv (i + 1), ct := Pv (i + 1), bk := D.nx } σ2 H2) (hd : ∀ σ H, Pv xs.length σ H → D.nx σ H) : forB (Itl K a) g u D σ H := for_list Pv h0 hl hs hd
/-- a text, sign by sign -/
theorem lc_text {x : Str} {vs : List Nat} {DD : Addr} (hD : H DD = none) (Pv : Nat → Hp → Prop) (h0 : Pv 0 (upd H DD (.lst [])))
    (hs : ∀ i c H, x.cps.toList[i]? = some c → Pv i H → g (.str ⟨#[c]⟩) (wipe σ vs) H fun σ2 H2 => wipe σ2 vs = wipe σ vs ∧ tt σ2 H2 fun b H3 =>
      if b = true then te σ2 H3 fun y H4 => ∃ acc, H4 DD = some (.lst acc) ∧ acc.length < sizeLine ∧ Pv (i + 1) (upd H4 DD (.lst (acc ++ [y]))) else Pv (i + 1) H3) (hd : ∀ H, Pv x.cps.toList.length H → Q (.ref DD) H) :
    ∃ W : Nat → Nat → Hp → Prop, (∃ m, W 0 m (upd H DD (.lst []))) ∧ ∀ i m H, W i m H →
      ((Its x).stop i H ∧ Q (.ref DD) H) ∨ ((Its x).go i H ∧ ∃ Nx : Hp → Prop, (∀ H', Nx H' → ∃ m', m' < m ∧ W (i + 1) m' H') ∧ ∀ v H', (Its x).yld i H v H' → g v (wipe σ vs) H' fun σ2 H2 => wipe σ2 vs = wipe σ vs ∧ tt σ2 H2 fun b H3 =>
        if b = true then te σ2 H3 fun y H4 => ∃ acc, H4 DD = some (.lst acc) ∧ acc.length < sizeLine ∧ Nx (upd H4 DD (.lst (acc ++ [y]))) else Nx H3) := by
  have el : x.cps.toList.length = x.cps.size := Array.length_toList
  refine ⟨fun i m H => m = x.cps.size - i ∧ i ≤ x.cps.size ∧ Pv i H, ⟨x.cps.size, by simp, Nat.zero_le _, h0⟩, ?_⟩
  rintro i m H ⟨rfl, hi, p⟩
  by_cases hlt : i < x.cps.size
  · refine .inr ⟨hlt, Pv (i + 1), fun H' p' => ⟨x.cps.size - (i + 1), by omega, rfl, hlt, p'⟩, fun v H' y => ?_⟩
    obtain ⟨rfl, c, hc, rfl⟩ := y
    exact hs i c H' (by rw [Array.getElem?_toList]; exact hc) p
  · have e : i = x.cps.size := by omega
    subst e
    exact .inl ⟨Nat.le_refl _, hd H (by rw [el]; exact p)⟩
theorem i_len {xs : List V} {R : Prop} (h : xs.length ≤ sizeLine) (q : R) : xs.length ≤ sizeLine ∧ R := ⟨h, q⟩
theorem iteNF {A B : Prop} (h : A) : if (!false) = true then A else B := h
theorem iteNT {A B : Prop} (h : B) : if (!true) = true then A else B := h
/-! leaves -/
theorem l_inT {x : V} {p : Addr} {xs : List V} (h : SqT K H p xs) (hx : flatV x = true) (ha : xs.all flatV = true) (q : Q (.bl (inV x xs)) H) : rInA K x (.ref p) H Q := .inr (.inl ⟨p, xs, rfl, .inr h, hx, ha, q⟩)
theorem l_inL {x : V} {p : Addr} {xs : List V} (h : SqL K H p xs) (hx : flatV x = true) (ha : xs.all flatV = true) (q : Q (.bl (inV x xs)) H) : rInA K x (.ref p) H Q := .inr (.inl ⟨p, xs, rfl, .inl h, hx, ha, q⟩)
theorem l_notInT {x : V} {p : Addr} {xs : List V} (h : SqT K H p xs) (hx : flatV x = true) (ha : xs.all flatV = true) (q : Q (.bl (!inV x xs)) H) : rNotInA K x (.ref p) H Q := .inr (.inl ⟨p, xs, rfl, .inr h, hx, ha, q⟩)
theorem l_notInL {x : V} {p : Addr} {xs : List V} (h : SqL K H p xs) (hx : flatV x = true) (ha : xs.all flatV = true) (q : Q (.bl (!inV x xs)) H) : rNotInA K x (.ref p) H Q := .inr (.inl ⟨p, xs, rfl, .inl h, hx, ha, q⟩)
theorem l_inC {c : Nat} {z : Str} (q : Q (.bl (decide (c ∈ z.cps.toList))) H) : rInA K (.str ⟨#[c]⟩) (.str z) H Q := .inl ⟨c, z, rfl, rfl, q⟩
theorem l_str1 {g : Str → Str → V} {a b : Str} (h : a.length ≤ sizeLine) (q : Q (g a b) H) : ∃ a' b', V.str a = .str a' ∧ [V.str b] = [.str b'] ∧ a'.length ≤ sizeLine ∧ Q (g a' b') H := ⟨a, b, rfl, rfl, h, q⟩
theorem l_addI {i j : Int} (q : Q (.int (i + j)) H) : rAdd K (.int i) (.int j) H Q := q
theorem l_addS {i j : Str} (h : i.length + j.length ≤ sizeLine) (q : Q (.str (i ++ j)) H) : rAdd K (.str i) (.str j) H Q := ⟨h, q⟩
theorem l_subI {i j : Int} (q : Q (.int (i - j)) H) : rSub (.int i) (.int j) H Q := q
theorem l_mul {i j : Int} (h : CMul i j ∨ CMulW i j) (q : Q (.int (i * j)) H) : rMul (.int i) (.int j) H Q := ⟨h, q⟩
theorem l_div {i j : Int} (h : CDivW i j) (q : Q (.int (i / j)) H) : rDiv (.int i) (.int j) H Q := ⟨h, q⟩
theorem l_mod {i j : Int} (h : 0 < j) (q : Q (.int (i % j)) H) : rMod (.int i) (.int j) H Q := ⟨h, q⟩
theorem l_pow {i j : Int} (h : CPow i j) (q : Q (.int (i ^ j.toNat)) H) : rPow (.int i) (.int j) H Q := ⟨h, q⟩
theorem l_cmp {gg : Int → Int → Bool} {i j : Int} (q : Q (.bl (gg i j)) H) : rCmp gg (.int i) (.int j) H Q := q
theorem l_eqI {i j : Int} (q : Q (.bl (decide (i = j))) H) : rEqA K (.int i) (.int j) H Q := .inl ⟨rfl, by rw [show decide (V.int i = V.int j) = decide (i = j) by simp]; exact q⟩
theorem l_eqS {i j : Str} (q : Q (.bl (decide (i = j))) H) : rEqA K (.str i) (.str j) H Q := .inl ⟨rfl, by rw [show decide (V.str i = V.str j) = decide (i = j) by simp]; exact q⟩
theorem l_eqB {i j : Bool} (q : Q (.bl (decide (i = j))) H) : rEqA K (.bl i) (.bl j) H Q := .inl ⟨rfl, by rw [show decide (V.bl i = V.bl j) = decide (i = j) by simp]; exact q⟩
theorem l_neI {i j : Int} (q : Q (.bl (!decide (i = j))) H) : rNeA K (.int i) (.int j) H Q := .inl ⟨rfl, by rw [show decide (V.int i = V.int j) = decide (i = j) by simp]; exact q⟩
theorem l_neS {i j : Str} (q : Q (.bl (!decide (i = j))) H) : rNeA K (.str i) (.str j) H Q := .inl ⟨rfl, by rw [show decide (V.str i = V.str j) = decide (i = j) by simp]; exact q⟩
theorem l_neB {i j : Bool} (q : Q (.bl (!decide (i = j))) H) : rNeA K (.bl i) (.bl j) H Q := .inl ⟨rfl, by rw [show decide (V.bl i = V.bl j) = decide (i = j) by simp]; exact q⟩
theorem l_neSelf {x : V} (h : scal x x = true) (q : Q (.bl false) H) : rNeA K x x H Q := .inl ⟨h, by rw [decide_eq_true rfl]; exact q⟩
theorem l_eqSelf {x : V} (h : scal x x = true) (q : Q (.bl true) H) : rEqA K x x H Q := .inl ⟨h, by rw [decide_eq_true rfl]; exact q⟩
theorem l_isN {x : V} (q : Q (.bl (decide (x = .non))) H) : rIsA x .non H Q := .inl ⟨rfl, q⟩
theorem l_isNotN {x : V} (q : Q (.bl (!decide (x = .non))) H) : rIsNotA x .non H Q := .inl ⟨rfl, q⟩
theorem l_isB {x y : Bool} (q : Q (.bl (decide (x = y))) H) : rIsA (.bl x) (.bl y) H Q := .inr ⟨x, y, rfl, rfl, q⟩
theorem l_isNotB {x y : Bool} (q : Q (.bl (!decide (x = y))) H) : rIsNotA (.bl x) (.bl y) H Q := .inr ⟨x, y, rfl, rfl, q⟩
theorem l_intI {i : Int} (q : Q (.int i) H) : rIntA [.int i] H Q := q
theorem l_intB {k : Bool} (q : Q (.int (if k then 1 else 0)) H) : rIntA [.bl k] H Q := q
theorem l_intS {a : Str} {n : Int} (h : PySem.intText? a = some n) (h2 : a.length ≤ 640) (q : Q (.int n) H) : rIntA [.str a] H Q := ⟨n, h, h2, q⟩
theorem l_strI {i : Int} (h : i.natAbs.log2 < 1920) (q : Q (.str (toString i)) H) : rStrA [.int i] H Q := ⟨h, q⟩
theorem l_lenS {y : Str} (h : y.length ≤ sizeLine) (q : Q (.int y.length) H) : rLen K [.str y] H Q := ⟨h, q⟩
theorem l_lenL {p : Addr} {xs : List V} (h : H p = some (.lst xs)) (q : Q (.int xs.length) H) : rLen K [.ref p] H Q := ⟨xs, .inl (SqL.of h), q⟩
theorem l_lenT {p : Addr} {xs : List V} (h : H p = some (.tup xs)) (q : Q (.int xs.length) H) : rLen K [.ref p] H Q := ⟨xs, .inr (SqT.of h), q⟩
theorem l_ixL {p : Addr} {xs : List V} {i : Int} {x : V} (h : H p = some (.lst xs)) (e : atI xs i = some x) (q : Q x H) : rIxA K (.ref p) (.int i) H Q := ⟨xs, x, .inl (SqL.of h), e, q⟩
theorem l_ixT {p : Addr} {xs : List V} {i : Int} {x : V} (h : H p = some (.tup xs)) (e : atI xs i = some x) (q : Q x H) : rIxA K (.ref p) (.int i) H Q := ⟨xs, x, .inr (SqT.of h), e, q⟩
theorem l_ixS {z : Str} {i : Int} {c : Nat} (h : z.length ≤ sizeLine) (e : atI z.cps.toList i = some c) (q : Q (.str ⟨#[c]⟩) H) : rIxA K (.str z) (.int i) H Q := ⟨h, c, e, q⟩
theorem l_slS {z : Str} {lo hi : Option Int} (h : z.length ≤ sizeLine) (q : Q (.str (cutS z lo hi)) H) : rSlG K (.str z) lo hi H Q := ⟨h, q⟩
theorem l_slL {a : Addr} {xs : List V} {lo hi : Option Int} (h : SqL K H a xs) (q : ∀ p, H p = none → Q (.ref p) (upd H p (.lst (cutV xs lo hi)))) : rSlG K (.ref a) lo hi H Q := .inl ⟨a, xs, rfl, h, q⟩
theorem l_setL {p : Addr} {xs : List V} {k : Int} {j : Nat} {x : V} {R : Hp → Prop} (h : H p = some (.lst xs)) (e : ixN xs.length k = some j) (q : R (upd H p (.lst (xs.set j x)))) : rSetL (.ref p) (.int k) x H R := ⟨p, xs, k, j, rfl, rfl, h, e, q⟩
theorem l_isi {x : V} {n : String} {tv : Value} {b : Bool} (ty : TyX K H x tv) (e : PySem.W.kitOne K tv (.type n) = some b) (q : Q (.bl b) H) : rIsiA K [x, .ty n] H Q := .inl ⟨x, .ty n, tv, .type n, b, rfl, .ty n, ty, e, q⟩
end
/-! isinstance of the plain kinds -/
theorem kt_NoneType_str {K : PySem.W.Frag} : PySem.W.kitOne K (.type "NoneType") (.type "str") = some false := kit_ty (by decide +kernel)
theorem kt_NoneType_int {K : PySem.W.Frag} : PySem.W.kitOne K (.type "NoneType") (.type "int") = some false := kit_ty (by decide +kernel)
theorem kt_NoneType_bool {K : PySem.W.Frag} : PySem.W.kitOne K (.type "NoneType") (.type "bool") = some false := kit_ty (by decide +kernel)
theorem kt_NoneType_tuple {K : PySem.W.Frag} : PySem.W.kitOne K (.type "NoneType") (.type "tuple") = some false := kit_ty (by decide +kernel)
theorem kt_NoneType_list {K : PySem.W.Frag} : PySem.W.kitOne K (.type "NoneType") (.type "list") = some false := kit_ty (by decide +kernel)
theorem kt_NoneType_dict {K : PySem.W.Frag} : PySem.W.kitOne K (.type "NoneType") (.type "dict") = some false := kit_ty (by decide +kernel)
theorem kt_bool_str {K : PySem.W.Frag} : PySem.W.kitOne K (.type "bool") (.type "str") = some false := kit_ty (by decide +kernel)
theorem kt_bool_int {K : PySem.W.Frag} : PySem.W.kitOne K (.type "bool") (.type "int") = some true := kit_ty (by decide +kernel)
theorem kt_bool_bool {K : PySem.W.Frag} : PySem.W.kitOne K (.type "bool") (.type "bool") = some true := kit_ty (by decide +kernel)
theorem kt_bool_tuple {K : PySem.W.Frag} : PySem.W.kitOne K (.type "bool") (.type "tuple") = some false := kit_ty (by decide +kernel)
theorem kt_bool_list {K : PySem.W.Frag} : PySem.W.kitOne K (.type "bool") (.type "list") = some false := kit_ty (by decide +kernel)
theorem kt_bool_dict {K : PySem.W.Frag} : PySem.W.kitOne K (.type "bool") (.type "dict") = some false := kit_ty (by decide +kernel)
theorem kt_int_str {K : PySem.W.Frag} : PySem.W.kitOne K (.type "int") (.type "str") = some false := kit_ty (by decide +kernel)
theorem kt_int_int {K : PySem.W.Frag} : PySem.W.kitOne K (.type "int") (.type "int") = some true := kit_ty (by decide +kernel)
theorem kt_int_bool {K : PySem.W.Frag} : PySem.W.kitOne K (.type "int") (.type "bool") = some false := kit_ty (by decide +kernel)
theorem kt_int_tuple {K : PySem.W.Frag} : PySem.W.kitOne K (.type "int") (.type "tuple") = some false := kit_ty (by decide +kernel)
theorem kt_int_list {K : PySem.W.Frag} : PySem.W.kitOne K (.type "int") (.type "list") = some false := kit_ty (by decide +kernel)
theorem kt_int_dict {K : PySem.W.Frag} : PySem.W.kitOne K (.type "int") (.type "dict") = some false := kit_ty (by decide +kernel)
theorem kt_str_str {K : PySem.W.Frag} : PySem.W.kitOne K (.type "str") (.type "str") = some true := kit_ty (by decide +kernel)
theorem kt_str_int {K : PySem.W.Frag} : PySem.W.kitOne K (.type "str") (.type "int") = some false := kit_ty (by decide +kernel)
theorem kt_str_bool {K : PySem.W.Frag} : PySem.W.kitOne K (.type "str") (.type "bool") = some false := kit_ty (by decide +kernel)
theorem kt_str_tuple {K : PySem.W.Frag} : PySem.W.kitOne K (.type "str") (.type "tuple") = some false := kit_ty (by decide +kernel)
theorem kt_str_list {K : PySem.W.Frag} : PySem.W.kitOne K (.type "str") (.type "list") = some false := kit_ty (by decide +kernel)
theorem kt_str_dict {K : PySem.W.Frag} : PySem.W.kitOne K (.type "str") (.type "dict") = some false := kit_ty (by decide +kernel)
theorem kt_list_str {K : PySem.W.Frag} : PySem.W.kitOne K (.type "list") (.type "str") = some false := kit_ty (by decide +kernel)
theorem kt_list_int {K : PySem.W.Frag} : PySem.W.kitOne K (.type "list") (.type "int") = some false := kit_ty (by decide +kernel)
theorem kt_list_bool {K : PySem.W.Frag} : PySem.W.kitOne K (.type "list") (.type "bool") = some false := kit_ty (by decide +kernel)
theorem kt_list_tuple {K : PySem.W.Frag} : PySem.W.kitOne K (.type "list") (.type "tuple") = some false := kit_ty (by decide +kernel)
theorem kt_list_list {K : PySem.W.Frag} : PySem.W.kitOne K (.type "list") (.type "list") = some true := kit_ty (by decide +kernel)
theorem kt_list_dict {K : PySem.W.Frag} : PySem.W.kitOne K (.type "list") (.type "dict") = some false := kit_ty (by decide +kernel)
theorem kt_tuple_str {K : PySem.W.Frag} : PySem.W.kitOne K (.type "tuple") (.type "str") = some false := kit_ty (by decide +kernel)
theorem kt_tuple_int {K : PySem.W.Frag} : PySem.W.kitOne K (.type "tuple") (.type "int") = some false := kit_ty (by decide +kernel)
theorem kt_tuple_bool {K : PySem.W.Frag} : PySem.W.kitOne K (.type "tuple") (.type "bool") = some false := kit_ty (by decide +kernel)
theorem kt_tuple_tuple {K : PySem.W.Frag} : PySem.W.kitOne K (.type "tuple") (.type "tuple") = some true := kit_ty (by decide +kernel)
theorem kt_tuple_list {K : PySem.W.Frag} : PySem.W.kitOne K (.type "tuple") (.type "list") = some false := kit_ty (by decide +kernel)
theorem kt_tuple_dict {K : PySem.W.Frag} : PySem.W.kitOne K (.type "tuple") (.type "dict") = some false := kit_ty (by decide +kernel)
theorem kt_dict_str {K : PySem.W.Frag} : PySem.W.kitOne K (.type "dict") (.type "str") = some false := kit_ty (by decide +kernel)
theorem kt_dict_int {K : PySem.W.Frag} : PySem.W.kitOne K (.type "dict") (.type "int") = some false := kit_ty (by decide +kernel)
theorem kt_dict_bool {K : PySem.W.Frag} : PySem.W.kitOne K (.type "dict") (.type "bool") = some false := kit_ty (by decide +kernel)
theorem kt_dict_tuple {K : PySem.W.Frag} : PySem.W.kitOne K (.type "dict") (.type "tuple") = some false := kit_ty (by decide +kernel)
theorem kt_dict_list {K : PySem.W.Frag} : PySem.W.kitOne K (.type "dict") (.type "list") = some false := kit_ty (by decide +kernel)
theorem kt_dict_dict {K : PySem.W.Frag} : PySem.W.kitOne K (.type "dict") (.type "dict") = some true := kit_ty (by decide +kernel)
/-- all that was known stands -/
def Ex (H H' : Hp) : Prop := ∀ a o, H a = some o → H' a = some o
theorem Ex.refl (H : Hp) : Ex H H := fun _ _ h => h
theorem Ex.trans {H H1 H2 : Hp} (a : Ex H H1) (b : Ex H1 H2) : Ex H H2 := fun x o h => b x o (a x o h)
theorem Ex.new {H : Hp} {p : Addr} {o : HO} (h : H p = none) : Ex H (upd H p o) := fun a u e => by
  rw [upd_ne (ne_of_none e h)]
  exact e
theorem Ex.mut {H H' : Hp} {p : Addr} {o : HO} (e : Ex H H') (h : H p = none) : Ex H (upd H' p o) := fun a u ha => by
  rw [upd_ne (ne_of_none ha h)]
  exact e a u ha
theorem Ex.free {H H' : Hp} (e : Ex H H') {l : Addr} (h : H' l = Option.none) : H l = Option.none := by
  cases q : H l with
  | none => rfl
  | some o =>
    rw [e l o q] at h
    cases h
/-- all but the object at st stands -/
def But (st : Addr) (H H' : Hp) : Prop := ∀ a o, a ≠ st → H a = some o → H' a = some o
theorem But.refl {st : Addr} (H : Hp) : But st H H := fun _ _ _ h => h
theorem But.trans {st : Addr} {H H1 H2 : Hp} (a : But st H H1) (b : But st H1 H2) : But st H H2 := fun x o n h => b x o n (a x o n h)
theorem Ex.but {st : Addr} {H H' : Hp} (e : Ex H H') : But st H H' := fun a o _ h => e a o h
theorem But.mut {st : Addr} {H H' : Hp} {o : HO} (e : But st H H') : But st H (upd H' st o) := fun a u n h => by
  rw [upd_ne n]
  exact e a u n h
/-! ### data -/
theorem rd_mono {H H' : Hp} {a : Addr} {u : HO} (e : Ex H H') (h : Rd H a u) : Rd H' a u := by
  rcases h with h | ⟨o, h⟩
  · exact Or.inl (e a _ h)
  · exact Or.inr ⟨o, e a _ h⟩
theorem sqL_mono {K : PySem.W.Frag} {H H' : Hp} {a : Addr} {xs : List V} (e : Ex H H') (h : SqL K H a xs) : SqL K H' a xs := by
  rcases h with h | h
  · exact Or.inl (rd_mono e h)
  · exact Or.inr h
theorem sqT_mono {K : PySem.W.Frag} {H H' : Hp} {a : Addr} {xs : List V} (e : Ex H H') (h : SqT K H a xs) : SqT K H' a xs := by
  rcases h with h | h
  · exact Or.inl (rd_mono e h)
  · exact Or.inr h
mutual
theorem dp_mono {K : PySem.W.Frag} {H H' : Hp} (e : Ex H H') : ∀ (d : PyData) (v : V), Dp K H v d → Dp K H' v d
  | .none, _, .non => .non
  | .bool _, _, .bl b => .bl b
  | .int _, _, .int b => .int b
  | .str _, _, .str b => .str b
  | .list ds, _, .lst h1 h2 => .lst (sqL_mono e h1) (dpAll_mono e ds _ h2)
  | .tuple ds, _, .tup h1 h2 => .tup (sqT_mono e h1) (dpAll_mono e ds _ h2)
theorem dpAll_mono {K : PySem.W.Frag} {H H' : Hp} (e : Ex H H') : ∀ (ds : List PyData) (vs : List V), DpAll K H vs ds → DpAll K H' vs ds
  | [], _, .nil => .nil
  | d :: ds, _, .cons h1 h2 => .cons (dp_mono e d _ h1) (dpAll_mono e ds _ h2)
end
theorem dp_ints {K : PySem.W.Frag} {H : Hp} : ∀ ns : List Int, DpAll K H (ns.map V.int) (ns.map PyData.int)
  | [] => .nil
  | n :: ns => .cons (.int n) (dp_ints ns)
theorem lay_ints : ∀ ns : List Int, PyData.canLayAll0 (ns.map PyData.int) = true
  | [] => by simp [PyData.canLayAll0]
  | n :: ns => by
    rw [List.map_cons, PyData.canLayAll0, lay_ints ns]
    simp [PyData.canLay0]
theorem depth_ints : ∀ ns : List Int, PyData.depthAll (ns.map PyData.int) ≤ 1
  | [] => by simp [PyData.depthAll]
  | n :: ns => by
    have := depth_ints ns
    rw [List.map_cons, PyData.depthAll]
    simp [PyData.depth]
    exact this
theorem sh_ints (ns : List Int) : SeqAt.shaped (.list (ns.map PyData.int)) = true := by
  unfold SeqAt.shaped
  have h := depth_ints ns
  rw [PyData.canLay0, lay_ints ns, PyData.depth]
  simp
  omega
theorem at_ints {ns : List Int} {i : Int} (h0 : 0 ≤ i) (h1 : i < (ns.length : Int)) : ∃ z, atI (ns.map V.int) i = some (.int z) := by
  obtain ⟨j, rfl⟩ := Int.eq_ofNat_of_zero_le h0
  have hj : j < ns.length := by omega
  exact ⟨ns[j], atI_nat (by rw [List.getElem?_map, List.getElem?_eq_getElem hj]; rfl)⟩
theorem l_neNil {K : PySem.W.Frag} {H : Hp} {Q : VK} {p q : Addr} {ns : List Int} (hp : H p = some (.lst (ns.map V.int))) (hq : H q = some (.lst [])) (k : Q (.bl (!decide (ns = []))) H) : rNeA K (.ref p) (.ref q) H Q := by
  refine .inr ⟨.list (ns.map .int), .list [], .lst (SqL.of hp) (dp_ints ns), .lst (SqL.of hq) .nil, sh_ints ns, sh_ints [], ?_⟩
  have e : PyData.eqv (.list (ns.map .int)) (.list []) = decide (ns = []) := by
    cases ns <;> simp [PyData.eqv, PyData.eqvAll]
  rw [e]
  exact k
/-! ### the law's own draws -/
structure Dr (H : Hp) (st : Addr) (b : Nat) : Prop where
  ex : ∃ (L : Addr) (ns : List Int) (a c : Int), H st = some (.lst [.ref L, .int a, .int c]) ∧ H L = some (.lst (ns.map V.int)) ∧ st ≠ L ∧ 0 ≤ c ∧ c ≤ (b : Int)
theorem Dr.mono {H H' : Hp} {st : Addr} {b b' : Nat} (d : Dr H st b) (e : Ex H H') (h : b ≤ b') : Dr H' st b' := by
  obtain ⟨L, ns, a, c, h1, h2, h3, h4, h5⟩ := d.ex
  exact ⟨L, ns, a, c, e _ _ h1, e _ _ h2, h3, h4, by omega⟩
theorem Dr.up {H : Hp} {st : Addr} {b b' : Nat} (d : Dr H st b) (h : b ≤ b') : Dr H st b' := d.mono (Ex.refl H) h
/-- _law_open(script) -/
def spOpen (K : PySem.W.Frag) : Sp := fun vs H Q _ => ∃ (a : Addr) (ns : List Int), vs = [.ref a] ∧ SqL K H a (ns.map V.int) ∧ ns.length ≤ 63 ∧ ∀ (st : Addr) (H' : Hp), H st = none → Dr H' st 0 → Ex H H' → Q (.ref st) H'
/-- _law_draw(state, many): any number below many -/
def spDraw : Sp := fun vs H Q _ => ∃ (st : Addr) (n : Int) (b : Nat), vs = [.ref st, .int n] ∧ 0 < n ∧ n ≤ 10 ^ 18 ∧ Dr H st b ∧ b < 2 ^ 60 ∧
  ∀ (r : Int) (H' : Hp), 0 ≤ r → r < n → Dr H' st (b + 1) → But st H H' → Q (.int r) H'
theorem draw {st : Addr} {n : Int} {b : Nat} {H : Hp} {Q : VK} {E : XK} (hd : Dr H st b) (hn : 0 < n) (hn2 : n ≤ 10 ^ 18) (hb : b < 2 ^ 60) (q : ∀ r H', 0 ≤ r → r < n → Dr H' st (b + 1) → But st H H' → Q (.int r) H') : spDraw ([.ref st, .int n] ++ []) H Q E :=
  ⟨st, n, b, rfl, hn, hn2, hd, hb, q⟩
theorem Dr.ne {H : Hp} {st p : Addr} {b : Nat} (d : Dr H st b) (h : H p = none) : p ≠ st := by
  obtain ⟨L, ns, a, c, h1, _⟩ := d.ex
  exact (ne_of_none h1 h).symm
theorem at_str {z : Str} {i : Int} (h0 : 0 ≤ i) (h1 : i < (z.length : Int)) : ∃ c, c ∈ z.cps.toList ∧ atI z.cps.toList i = some c := by
  obtain ⟨j, rfl⟩ := Int.eq_ofNat_of_zero_le h0
  have hj : j < z.cps.toList.length := by
    rw [Array.length_toList]
    show j < z.length
    omega
  exact ⟨z.cps.toList[j], List.getElem_mem hj, atI_nat (List.getElem?_eq_getElem hj)⟩
theorem at_map {α : Type} {f : α → V} {xs : List α} {i : Int} (h0 : 0 ≤ i) (h1 : i < (xs.length : Int)) : ∃ z, z ∈ xs ∧ atI (xs.map f) i = some (f z) := by
  obtain ⟨j, rfl⟩ := Int.eq_ofNat_of_zero_le h0
  have hj : j < xs.length := by omega
  exact ⟨xs[j], List.getElem_mem hj, atI_nat (by rw [List.getElem?_map, List.getElem?_eq_getElem hj]; rfl)⟩
theorem at_list {xs : List V} {i : Int} (h0 : 0 ≤ i) (h1 : i < (xs.length : Int)) : ∃ z, z ∈ xs ∧ atI xs i = some z := by
  obtain ⟨z, h, e⟩ := at_map (f := id) h0 h1
  rw [List.map_id] at e
  exact ⟨z, h, e⟩
theorem cutV_map {α : Type} (f : α → V) (xs : List α) (lo hi : Option Int) : cutV (xs.map f) lo hi = ((xs.drop (HT.sIx xs.length 0 lo)).take (HT.sIx xs.length xs.length hi - HT.sIx xs.length 0 lo)).map f := by
  unfold cutV
  rw [List.length_map, ← List.map_drop, ← List.map_take]
theorem map_at {α : Type} {f : α → V} {xs : List α} {i : Nat} {x : V} (h : (xs.map f)[i]? = some x) : ∃ z, xs[i]? = some z ∧ x = f z := by
  rw [List.getElem?_map] at h
  cases e : xs[i]? with
  | none =>
    rw [e] at h
    cases h
  | some z =>
    rw [e] at h
    exact ⟨z, rfl, (Option.some.inj h).symm⟩
theorem take_succ {α : Type} {xs : List α} {i : Nat} {z : α} (h : xs[i]? = some z) : xs.take (i + 1) = xs.take i ++ [z] := by
  rw [List.take_add_one, h]
  rfl
end G
set_option Elab.async false
set_option linter.all false
set_option maxRecDepth 100000
namespace G
open PySem PySem.Spec PyProof.Rows L2
/-! ### defs that may raise, and defs that ask that nothing is being shown (repr) around them -/
/-- a def's promise; g: it is called only where no repr is under way -/
structure Fg (P : Program) (w : World) (K : PySem.W.Frag) (mg : Str → Option Value) (base : Heap) (g : Bool) (k : Nat) (f : Addr) (fd : FuncData) (ps : List Str) (sp : Sp) : Prop where
  len : ∀ vs H Q E, sp vs H Q E → vs.length = ps.length
  go : ∀ (A : Around) (outer : List Env) (s : Shared) (H : Hp) (args : Args) (us : List Value) (vs : List V) (Q : VK) (E : XK), Room k A → (g = true → A.guards = some []) → Env0 P w K mg base A outer s H → BindsTo s fd args (ps.zip us) → Vals vs us →
    sp vs H Q E → codeAny (model P w) A (.call (.ref f) args) (CR (L2.CX P w) outer P w H s Q E) s
section
variable {P : Program} {w : World} {K : PySem.W.Frag} {mg : Str → Option Value} {base : Heap} {g : Bool} {k j : Nat} {f : Addr} {fd : FuncData} {ps : List Str} {sp : Sp}
theorem Fg.of (F : FnOk P w K mg base (L2.CX P w) k f fd ps sp) : Fg P w K mg base g k f fd ps sp := ⟨F.len, fun A outer s H args us vs Q E hr _ => F.run A outer s H args us vs Q E hr⟩
theorem cr_of0 {outer : List Env} {H : Hp} {s : Shared} {Q : VK} {E : XK} {r : Result} {s' : Shared} (h : CR CX0 outer P w H s Q E r s') : CR (L2.CX P w) outer P w H s Q E r s' := by
  cases r with
  | error e => exact (show False from h).elim
  | ok fl => cases fl <;> exact h
theorem Fg.of0 (F : FnOk P w K mg base CX0 k f fd ps sp) : Fg P w K mg base g k f fd ps sp :=
  ⟨F.len, fun A outer s H args us vs Q E hr _ e0 hb r h => codeAny_mono (F.run A outer s H args us vs Q E hr e0 hb r h) fun _ _ z => cr_of0 z⟩
theorem Fg.mono (F : Fg P w K mg base g j f fd ps sp) (h : j ≤ k) : Fg P w K mg base g k f fd ps sp := ⟨F.len, fun A outer s H args us vs Q E hr => F.go A outer s H args us vs Q E (hr.mono h)⟩
end
/-- the rule for a def's body -/
theorem fg_of {P : Program} {w : World} {K : PySem.W.Frag} {mg : Str → Option Value} {base : Heap} {g : Bool} {x qual : Str} {st : Stmt} {f : Addr} {fd : FuncData} {N ps : List Str} {k : Nat} {sp : Sp} (F : Fun K x qual st f fd) (S : FnScope N ps (defScope st))
    (len : ∀ vs H Q E, sp vs H Q E → vs.length = ps.length)
    (hbody : ∀ (cdv : Value) (A : Around) (outer : List Env) (s : Shared) (H : Hp) (vs : List V) (Q : VK) (E : XK), Room k (A.deeper (envOfC qual (defScope st) s.heap.objs.size f cdv)) →
      (g = true → (A.deeper (envOfC qual (defScope st) s.heap.objs.size f cdv)).guards = some []) → sp vs H Q E →
      ∃ t, PSs (cxOf (L2.CX P w) P w K mg base N qual (defScope st) f cdv A outer s H E) (defBody st) t ∧ t { nx := fun _ H' => Q .non H', rt := Q } (start N vs) H) : Fg P w K mg base g (k + 1) f fd ps sp := by
  obtain ⟨oc, od, kV, doc, pm, an, cdv, ct, osl, rfl, lk, hcd⟩ := F.ex
  refine ⟨len, fun A outer s H args us vs Q E hr hg e0 hb r hsp => ?_⟩
  have bk : ∀ b o, base.get? b = some o → s.heap.get? b = some o := fun b o e => (e0.bs b o e).1
  have kx := e0.mod.kin.keeps bk
  have kinds : ∀ y ∈ ps.zip us, (defScope st).names.lookup y.1 = some .local ∨ ((defScope st).names.lookup y.1 = some .cell ∧ ((cellsFrom (s.heap.objs.size + 1) (defScope st).names []).lookup y.1).isSome = true) := by
    rintro ⟨n, v⟩ hy
    have hn := S.par n (List.of_mem_zip hy).1
    exact hn.imp id fun z => ⟨z, PySem.W.cellsFrom_some _ _ _ (.inl z)⟩
  refine codeAny_call_function hr.depth (kx _ _ lk) rfl S.co S.gen rfl (PySem.W.codeRec_of kx hcd) (hb _ _ _ _ (wpAny_newFunctionEnv_cells S.kind kinds fun env he s1 z => ?_))
  subst he
  refine ⟨(e0.mod.nolimit.keeps bk).keeps z.toInCall.keep, codeAny_func ?_⟩
  obtain ⟨t, ht, hq⟩ := hbody cdv A outer s H vs Q E (hr.deeper _) (fun e => hg e) hsp
  have I : Inv (cxOf (L2.CX P w) P w K mg base N qual (defScope st) f cdv A outer s H E) [] (start N vs) H s1 := inv_start S hr.hd e0 (len _ _ _ _ hsp) r z
  refine wpAny_mono (ht.run [] s1 _ H _ I hq) (fun fl s' hs => ?_) fun e s' hs => hs
  have fin : ∀ {σ' : L2.St} {H' : Hp} {v : V} {u : Value}, Inv (cxOf (L2.CX P w) P w K mg base N qual (defScope st) f cdv A outer s H E) [] σ' H' s' → RelV v u → Q v H' → CE outer P w H s Q u s' :=
    fun {σ' H' v u} J rv q => ⟨v, H', J.os, J.bare, J.base, J.hok, rv, q⟩
  cases fl with
  | ret u => exact let ⟨v, σ', H', J, rv, q⟩ := hs; fin J rv q
  | next => exact let ⟨σ', H', J, q⟩ := hs; fin (v := V.non) (u := Value.none) J rfl q
  | brk => exact let ⟨_, _, _, q⟩ := hs; q.elim
  | cont => exact let ⟨_, _, _, q⟩ := hs; q.elim
/-! ### calls, with a wish for what is raised at the slots as they stand -/
section
variable {X : Cx} {g : Bool} {k : Nat} {f C : Addr} {fd : FuncData} {ps : List Str} {sp : Sp} {ds : List Value} {dvs : List V} {E : L2.St → XK} {pins : List (Addr × Obj)} {σ : L2.St} {H : Hp} {s : Shared} {Q : VK}
/-- a call from around A1 (the caller's, or one room deeper) -/
theorem run_at {A1 : Around} {us : List Value} {vs : List V} (F : Fg X.prog X.w X.K X.mg X.base g k f fd ps sp) (hr : Room k A1) (hg : g = true → A1.guards = some []) (hf : A1.frames = X.A.frames) (hb : Binds X.K fd ps ds) (hd : Vals dvs ds)
    (hx : PassesAt (L2.CX X.prog X.w) X σ (E σ)) (I : Inv X pins σ H s) (r : Vals vs us) (h : sp (vs ++ dvs) H Q (E σ)) : wpAny (model X.prog X.w) A1 (call (.ref f) us) (EP X pins σ Q) X.xe s := by
  have e := I.env0
  have e0 : Env0 X.prog X.w X.K X.mg X.base A1 X.stack s H := ⟨by rw [hf]; exact e.frames, e.mod, e.bs, e.bsz, e.funs, e.frf, e.hok, e.bare⟩
  have r2 := Vals.append r hd
  have hl : (us ++ ds).length = ps.length := by rw [← r2.length]; exact F.len _ _ _ _ h
  refine wpAny_call (codeAny_mono (F.go A1 X.stack s H ⟨us, []⟩ _ _ Q (E σ) hr hg e0 (hb s us I.kIn hl) r2 h) fun r s' hq => ?_)
  cases r with
  | error e => exact hx pins H s e s' I hq
  | ok fl =>
    cases fl with
    | ret u => exact I.after hq
    | next => exact False.elim hq
    | brk => exact False.elim hq
    | cont => exact False.elim hq
/-- a new instance, then its __init__ (n + 1 values by place, keywords ks) -/
theorem make_at {n : Nat} {ks : List Str} {gg : List Value → List Value → List Value} {gV : List V → List V → List V} {us ws : List Value} {vs zs : List V} (M : Mk X.K C f) (F : Fg X.prog X.w X.K X.mg X.base false k f fd ps sp) (hr : Room (k + 1) X.A)
    (hb : KBn X.K fd ps (n + 1) ks gg gV) (hx : PassesAt (L2.CX X.prog X.w) X σ (E σ)) (I : Inv X pins σ H s) (r : Vals vs us) (rz : Vals zs ws) (l1 : vs.length = n) (l2 : zs.length = ks.length)
    (h : ∀ x dx, H x = none → H dx = none → dx ≠ x → sp (gV (.ref x :: vs) zs) (upd (upd H dx (.own x)) x (.ins C dx [])) (fun v H2 => v = .non ∧ Q (.ref x) H2) (E σ)) :
    wpAny (model X.prog X.w) X.A (call (.ref C) us (ks.zip ws)) (EP X pins σ Q) X.xe s := by
  have I2 := Inv.made (C := C) I
  have hq := h (s.heap.objs.size + 1) s.heap.objs.size (I.hok.fresh (Nat.le_succ _)) (I.hok.fresh (Nat.le_refl _)) (Nat.ne_of_lt (Nat.lt_succ_self _))
  have r1 : Vals (V.ref (s.heap.objs.size + 1) :: vs) (Value.ref (s.heap.objs.size + 1) :: us) := .cons rfl r
  have n1 : (Value.ref (s.heap.objs.size + 1) :: us).length = n + 1 := r1.length.symm.trans (congrArg (· + 1) l1)
  refine wpAny_call (make_map (f := f) I.kIn M.makes M.init (beq_iff_eq.mp M.fn) (codeAny_mono (F.go _ X.stack _ _ ⟨Value.ref (s.heap.objs.size + 1) :: us, ks.zip ws⟩ _ _ _ (E σ) (hr.make C us (ks.zip ws))
    (fun e => nomatch e) (I2.env0.make C us (ks.zip ws)) (hb.to _ _ ws I2.kIn n1 (rz.length.symm.trans l2)) (hb.rel r1 rz) hq) fun r s' hq' => ?_))
  cases r with
  | error e => exact hx pins _ _ e s' I2 hq'
  | ok fl =>
    cases fl with
    | ret u =>
      obtain ⟨v, H', I3, rv, ev, q3⟩ := I2.after hq'
      subst ev
      exact ⟨rv, ⟨V.ref (s.heap.objs.size + 1), H', I3, rfl, q3⟩⟩
    | next => exact False.elim hq'
    | brk => exact False.elim hq'
    | cont => exact False.elim hq'
/-- a def called with n values by place and keywords ks -/
theorem call_at {n : Nat} {ks : List Str} {gg : List Value → List Value → List Value} {gV : List V → List V → List V} {A1 : Around} {us ws : List Value} {vs zs : List V} (F : Fg X.prog X.w X.K X.mg X.base g k f fd ps sp) (hr : Room k A1) (hg : g = true → A1.guards = some [])
    (hf : A1.frames = X.A.frames) (hb : KBn X.K fd ps n ks gg gV) (hx : PassesAt (L2.CX X.prog X.w) X σ (E σ)) (I : Inv X pins σ H s) (r : Vals vs us) (rz : Vals zs ws) (l1 : vs.length = n) (l2 : zs.length = ks.length)
    (h : sp (gV vs zs) H Q (E σ)) : wpAny (model X.prog X.w) A1 (call (.ref f) us (ks.zip ws)) (EP X pins σ Q) X.xe s := by
  have e := I.env0
  have e0 : Env0 X.prog X.w X.K X.mg X.base A1 X.stack s H := ⟨by rw [hf]; exact e.frames, e.mod, e.bs, e.bsz, e.funs, e.frf, e.hok, e.bare⟩
  refine wpAny_call (codeAny_mono (F.go A1 X.stack s H ⟨us, ks.zip ws⟩ _ _ Q (E σ) hr hg e0 (hb.to s us ws I.kIn (r.length.symm.trans l1) (rz.length.symm.trans l2)) (hb.rel r rz) h) fun r s' hq => ?_)
  cases r with
  | error e => exact hx pins H s e s' I hq
  | ok fl =>
    cases fl with
    | ret u => exact I.after hq
    | next => exact False.elim hq
    | brk => exact False.elim hq
    | cont => exact False.elim hq
end
/-! ### defs, classes, methods by their names -/
structure CalG (P : Program) (w : World) (K : PySem.W.Frag) (mg : Str → Option Value) (base : Heap) (g : Bool) (k : Nat) (x : Str) (sp : Sp) (n : Nat) (ks : List Str) (gV : List V → List V → List V) : Prop where
  ex : ∃ (f : Addr) (fd : FuncData) (ps : List Str) (gg : List Value → List Value → List Value), Fg P w K mg base g k f fd ps sp ∧ mg x = some (.ref f) ∧ PySem.W.keepIn K (.ref f) = true ∧ KBn K fd ps n ks gg gV
structure MakG (P : Program) (w : World) (K : PySem.W.Frag) (mg : Str → Option Value) (base : Heap) (k : Nat) (x : Str) (C : Addr) (sp : Sp) (n : Nat) (ks : List Str) (gV : List V → List V → List V) : Prop where
  ex : ∃ (f : Addr) (fd : FuncData) (ps : List Str) (gg : List Value → List Value → List Value), Mk K C f ∧ Fg P w K mg base false k f fd ps sp ∧ mg x = some (.ref C) ∧ KBn K fd ps (n + 1) ks gg gV
structure MetG (P : Program) (w : World) (K : PySem.W.Frag) (mg : Str → Option Value) (base : Heap) (g : Bool) (k : Nat) (C : Addr) (m : Str) (sp : Sp) (ps : List Str) : Prop where
  ex : ∃ (f : Addr) (fd : FuncData), Cls K C ∧ Meth K C m f ∧ PySem.W.fnIn K f = true ∧ Fg P w K mg base g k f fd ps sp ∧ Binds K fd ps []
def tCS (n m : Nat) (sp : Sp) (gV : List V → List V → List V) (E : L2.St → XK) (t tk : TA) : TE := fun σ H Q => t σ H fun vs H1 => tk σ H1 fun zs H2 => vs.length = n ∧ zs.length = m ∧ sp (gV vs zs) H2 Q (E σ)
def tMkS (C : Addr) (n m : Nat) (sp : Sp) (gV : List V → List V → List V) (E : L2.St → XK) (t tk : TA) : TE := fun σ H Q => t σ H fun vs H1 => tk σ H1 fun zs H2 => vs.length = n ∧ zs.length = m ∧ ∀ x dx, H2 x = none → H2 dx = none → dx ≠ x →
  sp (gV (.ref x :: vs) zs) (upd (upd H2 dx (.own x)) x (.ins C dx [])) (fun v H3 => v = .non ∧ Q (.ref x) H3) (E σ)
def tMtS (C : Addr) (m : Str) (sp : Sp) (E : L2.St → XK) (ta : TE) (t : TA) : TE := fun σ H Q => ta σ H fun x H1 => ∃ a dx fs, x = .ref a ∧ H1 a = some (.ins C dx fs) ∧ fs.lookup m = none ∧ t σ H1 fun vs H2 => sp (.ref a :: vs) H2 Q (E σ)
section
variable {X : Cx} {g : Bool} {k j n : Nat} {C : Addr} {x m : Str} {sp : Sp} {ps ks : List Str} {W : WX} {gV : List V → List V → List V} {p pos apos : Pos} {e o : Expr} {es : List Expr} {kws : List Keyword} {ta : TE} {t tz : TA}
theorem pe_cS (c : CalG X.prog X.w X.K X.mg X.base g k x sp n [] gV) (hr : Room j X.A) (hk : k ≤ j) (gd : g = true → X.A.guards = some []) (tk : Takes X W) (hg : Gl X x) (ha : PA X (e :: es) t)
    (hdb : (x == ("__debug__" : Str)) = false := by decide) (he : starEach (e :: es) X.env = (false, eval e X.env) :: starEach es X.env := by rfl) (hpl : (backTo pos (starEach es X.env)).any (·.1) = false := by rfl) :
    PE X (.Call (.Name x p) (e :: es) [] pos) (tCS n 0 sp gV (WE W) t tNil) := by
  obtain ⟨f, fd, ps, gg, F, hm, kp, b⟩ := c.ex
  refine ⟨fun pins s σ H Q I h => wpAny_Call_Name_kw (ld_glob I hg hm ?_ hdb)⟩
  refine PySem.W.callWith_K (h₀ := X.base) I.ok.mod.kin kp (thn (ha.run pos pins s σ H _ I h) fun us s1 ⟨vs, H1, I1, r, l1, l2, q⟩ => ⟨I1.kIn, ?_⟩) he hpl
  exact call_at (ws := []) (zs := []) F (hr.mono hk) gd rfl b (passAt tk σ) I1 r .nil l1 rfl q
theorem pe_cS0 (c : CalG X.prog X.w X.K X.mg X.base g k x sp 0 [] gV) (hr : Room j X.A) (hk : k ≤ j) (gd : g = true → X.A.guards = some []) (tk : Takes X W) (hg : Gl X x)
    (hdb : (x == ("__debug__" : Str)) = false := by decide) : PE X (.Call (.Name x p) [] [] pos) (tCS 0 0 sp gV (WE W) tNil tNil) := by
  obtain ⟨f, fd, ps, gg, F, hm, kp, b⟩ := c.ex
  refine ⟨fun pins s σ H Q I h => wpAny_Call_Name_kw (ld_glob I hg hm ?_ hdb)⟩
  exact PySem.W.callWith_K0 I.kIn kp (call_at (us := []) (vs := []) (ws := []) (zs := []) F (hr.mono hk) gd rfl b (passAt tk σ) I .nil .nil rfl rfl h.2.2)
theorem pe_cSK (c : CalG X.prog X.w X.K X.mg X.base g k x sp n ks gV) (hr : Room j X.A) (hk : k ≤ j) (gd : g = true → X.A.guards = some []) (tk : Takes X W) (hg : Gl X x) (ha : PA X (e :: es) t) (hkw : PK X kws tz)
    (hall : (backToKw pos (keywordEach kws X.env)).all (·.1.isSome) = true := by rfl) (hks : (backToKw pos (keywordEach kws X.env)).filterMap (·.1) = ks := by rfl) (hdb : (x == ("__debug__" : Str)) = false := by decide)
    (he : starEach (e :: es) X.env = (false, eval e X.env) :: starEach es X.env := by rfl) (hpl : ((backTo pos (starEach (e :: es) X.env)).any (·.1) || (backToKw pos (keywordEach kws X.env)).any (·.1.isNone)) = false := by rfl) :
    PE X (.Call (.Name x p) (e :: es) kws pos) (tCS n ks.length sp gV (WE W) t tz) := by
  obtain ⟨f, fd, ps, gg, F, hm, kp, b⟩ := c.ex
  refine ⟨fun pins s σ H Q I h => wpAny_Call_Name_kw (ld_glob I hg hm ?_ hdb)⟩
  refine PySem.W.callWith_KW (h₀ := X.base) I.ok.mod.kin kp hall (thn (ha.run pos pins s σ H _ I h) fun us s1 ⟨vs, H1, I1, r, q⟩ => ?_) hpl he
  refine thn (hkw.run pos pins s1 σ H1 _ I1 q) fun ws s2 ⟨zs, H2, I2, rz, l1, l2, q2⟩ => ⟨I2.kIn, ?_⟩
  rw [hks]
  exact call_at F (hr.mono hk) gd rfl b (passAt tk σ) I2 r rz l1 l2 q2
theorem pe_mkS (c : MakG X.prog X.w X.K X.mg X.base k x C sp n [] gV) (hr : Room j X.A) (hk : k + 1 ≤ j) (tk : Takes X W) (hg : Gl X x) (ha : PA X (e :: es) t)
    (hdb : (x == ("__debug__" : Str)) = false := by decide) (he : starEach (e :: es) X.env = (false, eval e X.env) :: starEach es X.env := by rfl) (hpl : (backTo pos (starEach es X.env)).any (·.1) = false := by rfl) :
    PE X (.Call (.Name x p) (e :: es) [] pos) (tMkS C n 0 sp gV (WE W) t tNil) := by
  obtain ⟨f, fd, ps, gg, M, F, hm, b⟩ := c.ex
  refine ⟨fun pins s σ H Q I h => wpAny_Call_Name_kw (ld_glob I hg hm ?_ hdb)⟩
  refine PySem.W.callWith_K (h₀ := X.base) I.ok.mod.kin M.kp (thn (ha.run pos pins s σ H _ I h) fun us s1 ⟨vs, H1, I1, r, l1, l2, q⟩ => ⟨I1.kIn, ?_⟩) he hpl
  exact make_at (ws := []) (zs := []) M F (hr.mono hk) b (passAt tk σ) I1 r .nil l1 rfl q
theorem pe_mkS0 (c : MakG X.prog X.w X.K X.mg X.base k x C sp 0 [] gV) (hr : Room j X.A) (hk : k + 1 ≤ j) (tk : Takes X W) (hg : Gl X x)
    (hdb : (x == ("__debug__" : Str)) = false := by decide) : PE X (.Call (.Name x p) [] [] pos) (tMkS C 0 0 sp gV (WE W) tNil tNil) := by
  obtain ⟨f, fd, ps, gg, M, F, hm, b⟩ := c.ex
  refine ⟨fun pins s σ H Q I h => wpAny_Call_Name_kw (ld_glob I hg hm ?_ hdb)⟩
  exact PySem.W.callWith_K0 I.kIn M.kp (make_at (us := []) (vs := []) (ws := []) (zs := []) M F (hr.mono hk) b (passAt tk σ) I .nil .nil rfl rfl h.2.2)
theorem pe_mkSK (c : MakG X.prog X.w X.K X.mg X.base k x C sp n ks gV) (hr : Room j X.A) (hk : k + 1 ≤ j) (tk : Takes X W) (hg : Gl X x) (ha : PA X (e :: es) t) (hkw : PK X kws tz)
    (hall : (backToKw pos (keywordEach kws X.env)).all (·.1.isSome) = true := by rfl) (hks : (backToKw pos (keywordEach kws X.env)).filterMap (·.1) = ks := by rfl) (hdb : (x == ("__debug__" : Str)) = false := by decide)
    (he : starEach (e :: es) X.env = (false, eval e X.env) :: starEach es X.env := by rfl) (hpl : ((backTo pos (starEach (e :: es) X.env)).any (·.1) || (backToKw pos (keywordEach kws X.env)).any (·.1.isNone)) = false := by rfl) :
    PE X (.Call (.Name x p) (e :: es) kws pos) (tMkS C n ks.length sp gV (WE W) t tz) := by
  obtain ⟨f, fd, ps, gg, M, F, hm, b⟩ := c.ex
  refine ⟨fun pins s σ H Q I h => wpAny_Call_Name_kw (ld_glob I hg hm ?_ hdb)⟩
  refine PySem.W.callWith_KW (h₀ := X.base) I.ok.mod.kin M.kp hall (thn (ha.run pos pins s σ H _ I h) fun us s1 ⟨vs, H1, I1, r, q⟩ => ?_) hpl he
  refine thn (hkw.run pos pins s1 σ H1 _ I1 q) fun ws s2 ⟨zs, H2, I2, rz, l1, l2, q2⟩ => ⟨I2.kIn, ?_⟩
  rw [hks]
  exact make_at M F (hr.mono hk) b (passAt tk σ) I2 r rz l1 l2 q2
theorem pe_mkSK0 (c : MakG X.prog X.w X.K X.mg X.base k x C sp 0 ks gV) (hr : Room j X.A) (hk : k + 1 ≤ j) (tk : Takes X W) (hg : Gl X x) (hkw : PK X kws tz)
    (hall : (backToKw pos (keywordEach kws X.env)).all (·.1.isSome) = true := by rfl) (hks : (backToKw pos (keywordEach kws X.env)).filterMap (·.1) = ks := by rfl) (hdb : (x == ("__debug__" : Str)) = false := by decide)
    (hpl : ((backTo pos (starEach [] X.env)).any (·.1) || (backToKw pos (keywordEach kws X.env)).any (·.1.isNone)) = false := by rfl) :
    PE X (.Call (.Name x p) [] kws pos) (tMkS C 0 ks.length sp gV (WE W) tNil tz) := by
  obtain ⟨f, fd, ps, gg, M, F, hm, b⟩ := c.ex
  refine ⟨fun pins s σ H Q I h => wpAny_Call_Name_kw (ld_glob I hg hm ?_ hdb)⟩
  refine PySem.W.callWith_KW0 (h₀ := X.base) I.ok.mod.kin M.kp hall ?_ hpl
  refine thn (hkw.run pos pins s σ H _ I h) fun ws s2 ⟨zs, H2, I2, rz, l1, l2, q2⟩ => ⟨I2.kIn, ?_⟩
  rw [hks]
  exact make_at (us := []) (vs := []) M F (hr.mono hk) b (passAt tk σ) I2 .nil rz rfl l2 q2
theorem pe_mtS {pl : Sem Bool} (c : MetG X.prog X.w X.K X.mg X.base g k C m sp ps) (hr : Room j X.A) (hk : k ≤ j) (gd : g = true → X.A.guards = some []) (tk : Takes X W) (he : PE X o ta) (ha : PA X (e :: es) t)
    (hst : starEach (e :: es) X.env = (false, eval e X.env) :: starEach es X.env := by rfl) (hpl : (backTo pos (starEach es X.env)).any (·.1) = false := by rfl)
    (ht : eval (.Call (.Attribute o m apos) (e :: es) [] pos) X.env = (do
      let ov ← eval o X.env
      standAt apos.atName
      let (f, first) ← holding [ov] (getMethod ov m pl)
      callWith pos f first (backTo pos (starEach (e :: es) X.env)) (backToKw pos (keywordEach [] X.env))) := by rfl) :
    PE X (.Call (.Attribute o m apos) (e :: es) [] pos) (tMtS C m sp (WE W) ta t) := by
  obtain ⟨f, fd, hc, hm, _, F, b⟩ := c.ex
  refine ⟨fun pins s σ H Q I h => PySem.W.methodCall_KW (pl := pl) (thn (he.run pins s σ H _ I h) fun u s1 ⟨x, H1, I1, rx, a, dx, fs, ex, ea, l, q⟩ => ?_) ht⟩
  subst ex
  obtain rfl : u = Value.ref a := rx
  refine getmeth_ok I1 ea hc hm l ?_
  refine PySem.W.callWith_K (first := [.ref a]) (h₀ := X.base) I.ok.mod.kin hm.kp (thn (ha.run pos pins s1 σ H1 _ I1 q) fun us s2 ⟨vs, H2, I2, r, q2⟩ => ⟨I2.kIn, ?_⟩) hst hpl
  exact run_at (us := .ref a :: us) (vs := .ref a :: vs) (ds := []) (dvs := []) F (hr.mono hk) gd rfl b .nil (passAt tk σ) I2 (.cons rfl r) (by rw [List.append_nil]; exact q2)
theorem pe_mtS0 {pl : Sem Bool} (c : MetG X.prog X.w X.K X.mg X.base g k C m sp ps) (hr : Room j X.A) (hk : k ≤ j) (gd : g = true → X.A.guards = some []) (tk : Takes X W) (he : PE X o ta)
    (ht : eval (.Call (.Attribute o m apos) [] [] pos) X.env = (do
      let ov ← eval o X.env
      standAt apos.atName
      let (f, first) ← holding [ov] (getMethod ov m pl)
      callWith pos f first (backTo pos (starEach [] X.env)) (backToKw pos (keywordEach [] X.env))) := by rfl) :
    PE X (.Call (.Attribute o m apos) [] [] pos) (tMtS C m sp (WE W) ta tNil) := by
  obtain ⟨f, fd, hc, hm, _, F, b⟩ := c.ex
  refine ⟨fun pins s σ H Q I h => PySem.W.methodCall_KW (pl := pl) (thn (he.run pins s σ H _ I h) fun u s1 ⟨x, H1, I1, rx, a, dx, fs, ex, ea, l, q⟩ => ?_) ht⟩
  subst ex
  obtain rfl : u = Value.ref a := rx
  refine getmeth_ok I1 ea hc hm l ?_
  exact PySem.W.callWith_K0 (first := [.ref a]) I1.kIn hm.kp (run_at (us := [.ref a]) (vs := [.ref a]) (ds := []) (dvs := []) F (hr.mono hk) gd rfl b .nil (passAt tk σ) I1 (.cons rfl .nil) q)
end
end G
set_option Elab.async false
set_option linter.all false
set_option maxRecDepth 100000
namespace G
open PySem PySem.Spec PyProof.Rows L2
/-! ### own exceptions with one field -/
/-- what __init__(self, f): self.f = f keeps -/
def spIni (C : Addr) (f : Str) : Sp := fun vs H Q _ => ∃ a v, vs = [.ref a, v] ∧ H a = some (exo a C none) ∧ ∀ dx, H dx = none → dx ≠ a → Q .non (upd (upd H dx (exd dx [(f, v)])) a (exo a C (some dx)))
/-- the class named x, at C, with the field f -/
structure Oex (P : Program) (w : World) (K : PySem.W.Frag) (mg : Str → Option Value) (base : Heap) (x : Str) (C : Addr) (f : Str) : Prop where
  T : OexC K C
  xf : XfC K C
  ec : ExcC K C
  no : PySem.W.findIn K (.ref C) f = some none
  hm : mg x = some (.ref C)
  ini : ∃ (fI : Addr) (fd : FuncData), PySem.W.findIn K (.ref C) "__init__" = some (some (.ref fI)) ∧ PySem.W.typeIn K (.ref fI) = some (.type "function") ∧ FnOk P w K mg base CX0 1 fI fd ["self", f] (spIni C f) ∧ Binds K fd ["self", f] []
def tX (C : Addr) (f : Str) (ta : TA) : L2.St → Hp → XK → Prop := fun σ H Q => ta σ H fun vs H1 => ∃ v, vs = [v] ∧ ∀ d, H1 d = none → Q (.ref C) (some d) (upd H1 d (.xd [(f, v)]))
theorem upd_xd {H : Hp} {a d C : Addr} {o1 o2 o3 o : HO} (ha : H a = none) (hd : d ≠ a) : upd (del (upd (upd (upd H a o1) d o2) a o3) a) d o = upd H d o := by
  funext b
  by_cases h1 : b = d
  · subst h1
    rw [upd_same, upd_same]
  · rw [upd_ne h1, upd_ne h1]
    by_cases h2 : b = a
    · subst h2
      rw [del_same, ha]
    · rw [del_ne h2, upd_ne h2, upd_ne h1, upd_ne h2]
def tCutA (t : TA) : TA := fun σ H Q => ∃ M : List V → Hp → Prop, t σ H M ∧ ∀ vs H', M vs H' → Q vs H'
theorem pa_cut {X : Cx} {es : List Expr} {t : TA} (h : PA X es t) : PA X es (tCutA t) :=
  ⟨fun pos pins s σ H Q I ⟨M, hm, hu⟩ => wpAny_mono (h.run pos pins s σ H M I hm) (fun us s1 ⟨vs, H1, I1, r, q⟩ => ⟨vs, H1, I1, r, hu _ _ q⟩) fun _ _ z => z⟩
section
variable {X : Cx} {x f : Str} {C : Addr} {j : Nat} {e : Expr} {ta : TA} {p pos : Pos}
theorem pmk_x (T : Oex X.prog X.w X.K X.mg X.base x C f) (hr : Room j X.A) (hk : 2 ≤ j) (hg : Gl X x) (ha : PA X [e] ta)
    (hdb : (x == ("__debug__" : Str)) = false := by decide) (he : starEach [e] X.env = (false, eval e X.env) :: starEach [] X.env := by rfl) (hpl : (backTo pos (starEach [] X.env)).any (·.1) = false := by rfl) :
    PMk X (.Call (.Name x p) [e] [] pos) (tX C f ta) := by
  obtain ⟨fI, fd, i1, i2, F, b⟩ := T.ini
  intro pins s σ H Q I h
  refine pmk_oex (dvs := []) (ds := []) T.T i1 i2 F (hr.mono hk) b .nil (fun _ _ _ _ _ _ _ z => (show False from z).elim) hg T.hm (pa_cut ha) hdb he hpl pins s σ H Q I ⟨_, h, fun vs H1 hq => ?_⟩
  obtain ⟨v, rfl, q⟩ := hq
  refine ⟨by simp, fun a hn => ⟨a, v, rfl, upd_same, fun dx h1 h2 => ⟨rfl, dx, [(f, v)], upd_same, by rw [upd_ne h2, upd_same], by rwa [upd_ne h2] at h1, ?_⟩⟩⟩
  rw [upd_xd (C := C) hn h2]
  rw [upd_ne h2] at h1
  exact q dx h1
/-- its __init__, by its text -/
theorem ok_ini {P : Program} {w : World} {K : PySem.W.Frag} {mg : Str → Option Value} {base : Heap} {qual : Str} {st : Stmt} {fI : Addr} {fd : FuncData} {f : Str} {p1 p2 p3 pos : Pos} (F : Fun K "__init__" qual st fI fd) (S : FnScope ["self", f] ["self", f] (defScope st))
    (hb : defBody st = [.Assign [.Attribute (.Name "self" p1) f p2] (.Name f p3) pos]) (T : OexC K C) (no : PySem.W.findIn K (.ref C) f = some none) (h0 : Vis (defScope st) "self") (h1 : Vis (defScope st) f) (hd : (f == ("__debug__" : Str)) = false) (hc : (f == ("__classdict__" : Str)) = false) : FnOk P w K mg base CX0 1 fI fd ["self", f] (spIni C f) := by
  refine F.ok S (fun vs H Q E ⟨a, v, e, _⟩ => by rw [e]; rfl) fun cdv A outer s H vs Q E hr ⟨a, v, e, ha, q⟩ => ?_
  rw [hb, e]
  exact ⟨_, pss_one (ps_ost (pe_var (i := 0) rfl h0) (pe_var (i := 1) rfl h1 hd hc)), ⟨v, rfl, .ref a, rfl, a, C, rfl, T, no, .inl ⟨ha, q⟩⟩⟩
/-! ### in an except suite: e's field, what e is -/
theorem pe_xfS {a C : Addr} {oe : Obj} {cls : Value} {d : Option Addr} {pn : List (Addr × Obj)} {te : TE} {n : Str} (T : Oex X.prog X.w X.K X.mg X.base x C n)
    (hz : Zc cls d oe) (hf : ∃ vs, oe.data = .fields vs) (he : PE (X.suite a ((a, oe) :: pn)) e te) (hb : attributeBase e n X.env (eval e X.env) = eval e X.env := by rfl) :
    PE (X.suite a ((a, oe) :: pn)) (.Attribute e n pos) (tXf a cls d C n te) := pe_xf T.xf T.no hz hf he hb
def rIsX (K : PySem.W.Frag) (cls : Value) (d : Option Addr) (D a : Addr) : List V → Hp → VK → Prop := fun xs H Q => cls = .ref D ∧ ∃ (dd : Addr) (fs : List (Str × V)) (c : V) (cv : Value) (b : Bool), d = some dd ∧ H dd = some (.xd fs) ∧ xs = [.ref a, c] ∧ ClsV c cv ∧ PySem.W.kitOne K (.ref D) cv = some b ∧ Q (.bl b) H
theorem call_isX {a D : Addr} {oe : Obj} {cls : Value} {d : Option Addr} {pn : List (Addr × Obj)} (C : ExcC X.K D) (hz : Zc cls d oe) (hf : ∃ vs, oe.data = .fields vs) : CallR (X.suite a ((a, oe) :: pn)) (.builtin "isinstance") (rIsX X.K cls d D a) := by
  intro pins s σ H xs us Q I r h
  obtain ⟨rfl, dd, fs, c, cv, b, rfl, hd, rfl, hcv, e, q⟩ := h
  obtain ⟨u1, u2, rfl, rx, rt⟩ := vals2 r
  cases rx
  have ec := hcv.eq rt
  subst ec
  obtain ⟨hget, _⟩ := I.pin (a, oe) (List.mem_append.mpr (.inl List.mem_cons_self))
  obtain ⟨vs, hv⟩ := hf
  obtain ⟨mA, hns, hr⟩ := (show ObjOk X.prog X.w H s.heap dd (.xd fs) from I.hok dd _ hd)
  obtain ⟨od, ho, hl⟩ := lookIn_ns hns
  have J : PySem.W.InstAt s.heap a oe D (some od) := ⟨hget, hz.1, by unfold PySem.W.notCls; rw [hv] <;> rfl, by rw [hz.2]; exact ho⟩
  obtain ⟨cd, hc, _⟩ := PySem.W.any_some C.hd
  exact PySem.W.kia_one (PySem.W.kitx_exc (by rw [hc]; rfl) C.hg C.hk C.hs C.ha C.hn C.ht C.hm) I.kIn J e (fun z => nomatch z) fun tk => ⟨.bl b, H, I.kept (t' := tk) fun _ _ z => z, rfl, q⟩
end
end G
set_option Elab.async false
set_option linter.all false
set_option maxRecDepth 100000
namespace G
open PySem PySem.Spec PyProof.Rows L2
/-! ### operators by an own class's methods -/
theorem cmpBack {v : V} {u : Value} {s : Shared} {Q : Value → Shared → Prop} (r : RelV v u) (h : Q u s) : PySem.W.CmpBack Q u s := by
  cases v with
  | non => cases (show u = Value.none from r); exact h
  | bl b => cases (show u = Value.bool b from r); exact h
  | int i => obtain ⟨t, rfl⟩ := (show ∃ t, u = Value.int i t from r); exact h
  | str i => obtain ⟨t, rfl⟩ := (show ∃ t, u = Value.str i t from r); exact h
  | byt i => obtain ⟨t, rfl⟩ := (show ∃ t, u = Value.bytes i t from r); exact h
  | flt i => obtain ⟨t, rfl⟩ := (show ∃ t, u = Value.float i t from r); exact h
  | ref a => cases (show u = Value.ref a from r); exact h
  | ty n => cases (show u = Value.type n from r); exact h
abbrev E0' : L2.St → XK := fun _ _ _ _ => False
section
variable {X : Cx} {k j : Nat} {C : Addr} {m : Str} {sp : Sp} {ps : List Str}
/-- x op y, x an instance of C -/
def rOpI (K : PySem.W.Frag) (C : Addr) (sp : Sp) : R2 := fun x y H Q => ∃ a dx fs t, x = .ref a ∧ H a = some (.ins C dx fs) ∧ TyX K H y t ∧ PySem.W.notFirst K C t = true ∧ sp [x, y] H Q (fun _ _ _ => False)
theorem cmp_opI {op : CmpOp} (c : MetG X.prog X.w X.K X.mg X.base false k C (cmpInfo op).2.1 sp ps) (hr : Room j X.A) (hk : k ≤ j) (hop : compareOp op = richCompare op) : OpR X (compareOp op) (rOpI X.K C sp) := by
  intro pins s σ H x y v u Q I rx ry h
  obtain ⟨f, fd, hc, M, hf, F, b⟩ := c.ex
  obtain ⟨a, dx, fs, t, rfl, ha, ty, hn, q⟩ := h
  cases (show v = Value.ref a from rx)
  obtain ⟨P, Z, p, _⟩ := kit_of I ry ty
  obtain ⟨mA, O, _⟩ := ins_get I.hok ha
  obtain ⟨od, J, _⟩ := O.look
  obtain ⟨m', hF⟩ := I.fr
  rw [hop]
  refine PySem.W.cmp_K (tb := t) hr.units0 hF I.ok.mod.kin J (Z.ty _ _ I.kIn p) hn M.at_ M.fn ?_
  exact wpAny_mono (run_at (E := E0') (dvs := []) (ds := []) (A1 := X.A) (vs := [.ref a, y]) F (hr.mono hk) (fun e => nomatch e) rfl b .nil (passAt takes0 σ) I (.cons rfl (.cons ry .nil)) q) (fun u' s' ⟨v', H', I', r', q'⟩ => cmpBack r' ⟨v', H', I', r', q'⟩) fun _ _ z => z
theorem eq_opI (c : MetG X.prog X.w X.K X.mg X.base false k C "__eq__" sp ps) (hr : Room j X.A) (hk : k ≤ j) : OpR X (compareOp .Eq) (rOpI X.K C sp) := cmp_opI (op := .Eq) c hr hk rfl
theorem le_opI (c : MetG X.prog X.w X.K X.mg X.base false k C "__le__" sp ps) (hr : Room j X.A) (hk : k ≤ j) : OpR X (compareOp .LtE) (rOpI X.K C sp) := cmp_opI (op := .LtE) c hr hk rfl
/-- x + y, two instances of C -/
def rAddI (C : Addr) (sp : Sp) : R2 := fun x y H Q => ∃ a dx fs b dy gs, x = .ref a ∧ H a = some (.ins C dx fs) ∧ y = .ref b ∧ H b = some (.ins C dy gs) ∧ sp [x, y] H Q (fun _ _ _ => False)
theorem bin_opI {op : Operator} (c : MetG X.prog X.w X.K X.mg X.base false k C (PySem.dunder op.info.2) sp ps) (hs : PySem.W.selfFirst X.K C = true) (hr : Room j X.A) (hk : k ≤ j) : OpR X (binaryOp op) (rAddI C sp) := by
  intro pins s σ H x y v u Q I rx ry h
  obtain ⟨f, fd, hc, M, hf, F, b⟩ := c.ex
  obtain ⟨a, dx, fs, b', dy, gs, rfl, ha, rfl, hb, q⟩ := h
  cases (show v = Value.ref a from rx)
  cases (show u = Value.ref b' from ry)
  obtain ⟨mA, O, _⟩ := ins_get I.hok ha
  obtain ⟨od, J, _⟩ := O.look
  obtain ⟨mB, O', _⟩ := ins_get I.hok hb
  obtain ⟨od', J', _⟩ := O'.look
  obtain ⟨m', hF⟩ := I.fr
  refine PySem.W.binop_K hF I.ok.mod.kin J J'.type hs M.at_ M.fn ?_
  exact wpAny_mono (run_at (E := E0') (dvs := []) (ds := []) (A1 := X.A) (vs := [.ref a, .ref b']) F (hr.mono hk) (fun e => nomatch e) rfl b .nil (passAt takes0 σ) I (.cons rfl (.cons rfl .nil)) q) (fun u' s' ⟨v', H', I', r', q'⟩ => cmpBack r' ⟨v', H', I', r', q'⟩) fun _ _ z => z
theorem add_opI (c : MetG X.prog X.w X.K X.mg X.base false k C "__add__" sp ps) (hs : PySem.W.selfFirst X.K C = true) (hr : Room j X.A) (hk : k ≤ j) : OpR X (binaryOp .Add) (rAddI C sp) := bin_opI (op := .Add) c hs hr hk
/-- len(x) -/
def rLenI (C : Addr) (sp : Sp) : List V → Hp → VK → Prop := fun xs H Q => ∃ a dx fs, xs = [.ref a] ∧ H a = some (.ins C dx fs) ∧ sp [.ref a] H (fun v H' => ∃ n : Nat, v = .int n ∧ n < 2 ^ 63 ∧ Q (.int n) H') (fun _ _ _ => False)
theorem len_I (c : MetG X.prog X.w X.K X.mg X.base false k C "__len__" sp ps) (hr : Room j X.A) (hk : k + 1 ≤ j) : CallR X (.builtin "len") (rLenI C sp) := by
  intro pins s σ H xs us Q I r h
  obtain ⟨f, fd, hc, M, hf, F, b⟩ := c.ex
  obtain ⟨a, dx, fs, rfl, ha, q⟩ := h
  obtain ⟨u, rfl, ru⟩ := vals1 r
  cases (show u = Value.ref a from ru)
  obtain ⟨mA, O, _⟩ := ins_get I.hok ha
  obtain ⟨od, J, _⟩ := O.look
  obtain ⟨m', hF⟩ := I.fr
  refine PySem.W.len_K hF I.ok.mod.kin J M.at_ M.fn ?_
  refine wpAny_mono (run_at (E := E0') (dvs := []) (ds := []) (A1 := X.A.in1) (vs := [.ref a]) F ((hr.mono hk).in1) (fun e => nomatch e) rfl b .nil (passAt takes0 σ) I (.cons rfl .nil) q) (fun u' s' ⟨v', H', I', r', n, e1, e2, q'⟩ => ?_) fun _ _ z => z
  subst e1
  obtain ⟨t, rfl⟩ := r'
  exact ⟨⟨by omega, by omega⟩, ⟨.int n, H', I'.tok _, ⟨_, rfl⟩, q'⟩⟩
/-- y in x, x an instance -/
def rInI (C : Addr) (sp : Sp) (neg : Bool) : R2 := fun y x H Q => ∃ a dx fs, x = .ref a ∧ H a = some (.ins C dx fs) ∧ sp [x, y] H (fun v H' => ∃ b : Bool, v = .bl b ∧ Q (.bl (if neg then !b else b)) H') (fun _ _ _ => False)
theorem in_opI (c : MetG X.prog X.w X.K X.mg X.base false k C "__contains__" sp ps) (hr : Room j X.A) (hk : k ≤ j) : OpR X (compareOp .In) (rInI C sp false) := by
  intro pins s σ H y x v u Q I ry rx h
  obtain ⟨f, fd, hc, M, hf, F, b⟩ := c.ex
  obtain ⟨a, dx, fs, rfl, ha, q⟩ := h
  cases (show u = Value.ref a from rx)
  obtain ⟨mA, O, _⟩ := ins_get I.hok ha
  obtain ⟨od, J, _⟩ := O.look
  obtain ⟨m', hF⟩ := I.fr
  refine PySem.W.in_K hF I.ok.mod.kin J M.at_ M.fn ?_
  refine wpAny_mono (run_at (E := E0') (dvs := []) (ds := []) (A1 := X.A) (vs := [.ref a, y]) F (hr.mono hk) (fun e => nomatch e) rfl b .nil (passAt takes0 σ) I (.cons rfl (.cons ry .nil)) q) (fun u' s' ⟨v', H', I', r', n, e1, q'⟩ => ?_) fun _ _ z => z
  subst e1
  cases r'
  exact wpAny_truthy_bool ⟨.bl n, H', I', rfl, q'⟩
theorem notIn_opI (c : MetG X.prog X.w X.K X.mg X.base false k C "__contains__" sp ps) (hr : Room j X.A) (hk : k ≤ j) : OpR X (compareOp .NotIn) (rInI C sp true) := by
  intro pins s σ H y x v u Q I ry rx h
  obtain ⟨f, fd, hc, M, hf, F, b⟩ := c.ex
  obtain ⟨a, dx, fs, rfl, ha, q⟩ := h
  cases (show u = Value.ref a from rx)
  obtain ⟨mA, O, _⟩ := ins_get I.hok ha
  obtain ⟨od, J, _⟩ := O.look
  obtain ⟨m', hF⟩ := I.fr
  refine PySem.W.notIn_K hF I.ok.mod.kin J M.at_ M.fn ?_
  refine wpAny_mono (run_at (E := E0') (dvs := []) (ds := []) (A1 := X.A) (vs := [.ref a, y]) F (hr.mono hk) (fun e => nomatch e) rfl b .nil (passAt takes0 σ) I (.cons rfl (.cons ry .nil)) q) (fun u' s' ⟨v', H', I', r', n, e1, q'⟩ => ?_) fun _ _ z => z
  subst e1
  cases r'
  exact wpAny_truthy_bool ⟨.bl (!n), H', I', rfl, q'⟩
/-- x != y by x's __eq__ and object's __ne__ -/
theorem ifBound_blt {M : Model} {A : Around} {E : Value → Shared → Prop} {s : Shared} {K : PySem.W.Frag} {x C : Addr} {ox : Obj} {od : Option Obj} {name : Str} {id T : String} {args : List Value} {Q : Option Value → Shared → Prop} (X : K.In s.heap) (I : PySem.W.InstAt s.heap x ox C od)
    (hs : PySem.W.findIn K (.ref C) name = some (some (.builtin id))) (sl : Slot T name id)
    (h : wpAny M A (call (.builtin id) (.ref x :: args)) (fun v => Q (some v)) E s) : wpAny M A (callSpecialIfBound? (.ref x) name args) Q E s := by
  simp only [callSpecialIfBound?, bindSpecialIfBound?]
  refine wpAny_holding (wpAny_bind (wpAny_bind (wpAny_bind (I.type.here ((PySem.W.looks_findIn X hs).here ?_)))))
  refine wpAny_bind (wpAny_askSetting (wpAny_ite ?_))
  have fin : wpAny M A (call (.builtin id) ([.ref x] ++ args) >>= fun v => pure (some v)) Q E s := wpAny_bind (wpAny_mono h (fun v s' h' => wpAny_pure h') fun _ _ h' => h')
  split
  · rw [sl.bind (.ref x)]
    exact wpAny_bind (wpAny_pure (wpAny_pure (by exact fin)))
  · rw [sl.bind (.ref x)]
    exact wpAny_tryCatch (wpAny_bind (wpAny_pure (wpAny_pure (by exact fin))))
def rNeI (K : PySem.W.Frag) (C : Addr) (sp : Sp) : R2 := fun x y H Q => ∃ a dx fs t, x = .ref a ∧ H a = some (.ins C dx fs) ∧ TyX K H y t ∧ PySem.W.notFirst K C t = true ∧ sp [x, y] H (fun v H' => ∃ b : Bool, v = .bl b ∧ Q (.bl (!b)) H') (fun _ _ _ => False)
theorem ne_opI (c : MetG X.prog X.w X.K X.mg X.base false k C "__eq__" sp ps) (hne : PySem.W.findIn X.K (.ref C) "__ne__" = some (some (.builtin "object.__ne__"))) (ho : PySem.W.mroIn X.K C (.type "object") = some true) (hr : Room j X.A) (hk : k + 1 ≤ j) : OpR X (compareOp .NotEq) (rNeI X.K C sp) := by
  intro pins s σ H x y v u Q I rx ry h
  obtain ⟨f, fd, hc, M, hf, F, b⟩ := c.ex
  obtain ⟨a, dx, fs, t, rfl, ha, ty, hn, q⟩ := h
  cases (show v = Value.ref a from rx)
  obtain ⟨P, Z, p, _⟩ := kit_of I ry ty
  obtain ⟨mA, O, _⟩ := ins_get I.hok ha
  obtain ⟨od, J, _⟩ := O.look
  obtain ⟨m', hF⟩ := I.fr
  have X1 := I.kIn
  have hu := hr.units
  have body : wpAny (model X.prog X.w) X.A.in1 (Builtin.«object.__ne__» ⟨[.ref a, u], []⟩) (fun fin s' => ∃ v', fin = .done (.ret v') ∧ PySem.W.CmpBack (EP X pins σ Q) v' s') X.xe s := by
    unfold Builtin.«object.__ne__»
    refine wpAny_bind (wpAny_of_eq (a := ((Value.ref a : Value), [u])) (by first | rfl | (simp only [slotArgs]; rfl)) ?_)
    refine wpAny_bind (wpAny_cRoomFor (by show X.A.units + 1 < _; omega) ?_)
    refine wpAny_bind (PySem.W.ifBound_K X1 J M.at_ M.fn ?_)
    refine wpAny_mono (run_at (E := E0') (dvs := []) (ds := []) (A1 := X.A.in1) (vs := [.ref a, y]) F ((hr.mono hk).in1) (fun e => nomatch e) rfl b .nil (passAt takes0 σ) I (.cons rfl (.cons ry .nil)) q) (fun u' s' ⟨v', H', I', r', n, e1, q'⟩ => ?_) fun _ _ z => z
    subst e1
    cases r'
    refine wpAny_bind (m := truthy (.bool n)) (wpAny_truthy_bool ?_)
    exact wpAny_pure ⟨_, rfl, ⟨.bl (!n), H', I', rfl, q'⟩⟩
  have one : wpAny (model X.prog X.w) X.A (tryCompare (.ref a) "__ne__" u) (fun r s' => ∃ v, r = some v ∧ EP X pins σ Q v s') X.xe s := by
    have sub : PySem.W.Looks (model X.prog X.w) s.heap (isInstance (.ref a) (.type "object")) true := J.type.andThen (PySem.W.looks_mroIn X1 ho)
    unfold tryCompare
    refine wpAny_bind (ifBound_blt X1 J hne PySem.F.cmp_object.ne (wpAny_call (codeAny_call_builtin PySem.F.cmp_object.ne.plain PySem.F.cmpEntry_ne (PySem.W.check_slot PySem.F.cmpKind_ne PySem.F.cmpSplit_ne sub (PySem.F.cmpArgs_ne _ _) (wpAny_mono body (fun fin s' hv => ?_) fun _ _ z => z)))))
    obtain ⟨v', rfl, hv⟩ := hv
    cases v' <;> first | exact hv.elim | exact wpAny_pure ⟨_, rfl, hv⟩
  show wpAny _ _ (richCompare .NotEq _ _) _ _ _
  unfold richCompare
  simp only [oneThing_ref]
  refine wpAny_holding (wpAny_bind (wpAny_cRoomFor hr.units0 ?_))
  refine wpAny_bind (J.type.here (wpAny_bind ((Z.ty _ _ I.kIn p).here ?_)))
  split
  · rename_i q
    have e : PySem.W.subIn X.K t (.ref C) = some false := by
      rcases Bool.or_eq_true_iff.mp hn with e | e
      · rw [beq_iff_eq.mp e] at q; simp at q
      · exact beq_iff_eq.mp e
    refine wpAny_bind ((PySem.W.looks_subIn X1 e).here ?_)
    simp only [Bool.false_eq_true, if_false]
    refine wpAny_bind (wpAny_mono one (fun r s' z => ?_) fun _ _ e => e)
    obtain ⟨v, rfl, hq⟩ := z
    exact wpAny_pure hq
  · refine wpAny_bind (wpAny_pure ?_)
    simp only [Bool.false_eq_true, if_false]
    refine wpAny_bind (wpAny_mono one (fun r s' z => ?_) fun _ _ e => e)
    obtain ⟨v, rfl, hq⟩ := z
    exact wpAny_pure hq
/-- x[y], x an instance -/
def tIxI (C : Addr) (sp : Sp) (E : L2.St → XK) (ta tb : TE) : TE := fun σ H Q => ta σ H fun x H1 => tb σ H1 fun y H2 => ∃ a dx fs, x = .ref a ∧ H2 a = some (.ins C dx fs) ∧ sp [x, y] H2 Q (E σ)
theorem pe_ixI {W : WX} {a b : Expr} {ta tb : TE} {pos : Pos} (c : MetG X.prog X.w X.K X.mg X.base false k C "__getitem__" sp ps) (hr : Room j X.A) (hk : k + 1 ≤ j) (tk : Takes X W) (ha : PE X a ta) (hb : PE X b tb)
    (hsl : ∀ o i, subscripted b true o i = runValue (.builtin "lifetime.subscript" ⟨[o, i], []⟩) := by intro _ _; with_unfolding_all rfl) : PE X (.Subscript a b pos) (tIxI C sp (WE W) ta tb) := by
  obtain ⟨f, fd, hc, M, hf, F, bb⟩ := c.ex
  refine ⟨fun pins s σ H Q I h => ?_⟩
  refine Subscript_ (binT ha hb I h fun v u s2 x y H2 I2 rx ry q => ?_)
  obtain ⟨p, dx, fs, rfl, hp, q⟩ := q
  cases (show v = Value.ref p from rx)
  obtain ⟨mA, O, _⟩ := ins_get I2.hok hp
  obtain ⟨od, J, _⟩ := O.look
  obtain ⟨m', hF⟩ := I2.fr
  refine PySem.W.sub_K hF I2.ok.mod.kin J M.at_ hf M.fn ?_ (hsl _ _)
  exact run_at (dvs := []) (ds := []) (A1 := X.A.in1) (vs := [.ref p, y]) F ((hr.mono hk).in1) (fun e => nomatch e) rfl bb .nil (passAt tk σ) I2 (.cons rfl (.cons ry .nil)) q
end
end G
set_option Elab.async false
set_option linter.all false
set_option maxRecDepth 100000
namespace G
open PySem PySem.Spec PyProof.Rows L2
/-! ### repr -/
def rRepr (K : PySem.W.Frag) : List V → Hp → VK → Prop := fun xs H Q => ∃ x d, xs = [x] ∧ Dp K H x d ∧ d.showable = true ∧ d.hasDict = false ∧ d.shown.length ≤ sizeLine ∧ d.depth ≤ 50 ∧ Q (.str d.shown) H
theorem gRepr {X : Cx} (hg : X.A.guards = some []) (hu : X.A.units + 64 < cLine) : CallR X (.builtin "repr") (rRepr X.K) := by
  intro pins s σ H xs us Q I r h
  obtain ⟨x, d, rfl, hd, h1, h2, h3, h4, q⟩ := h
  obtain ⟨u, rfl, ru⟩ := vals1 r
  obtain ⟨as, rd⟩ := Dp.reads I d x u hd ru
  have nd : d.hasDict = true → sysModules ∉ as := fun e => by rw [h2] at e; cases e
  have big : ∀ a, u = .ref a → wpAny (model X.prog X.w) X.A (call (.builtin "repr") [u]) (EP X pins σ Q) X.xe s := fun a e => by
    subst e
    refine repr_of_reads' rd h1 nd hg (by omega) (fun _ _ e => e) (fun h' t tk hk => ⟨.str d.shown, H, I.kept (t' := tk) hk, ⟨_, rfl⟩, q⟩) h3
  cases rd with
  | none => exact PySem.P.repr_of_none ⟨.str _, H, I.tok _, ⟨_, rfl⟩, q⟩
  | bool b => exact PySem.P.repr_of_bool ⟨.str _, H, I.tok _, ⟨_, rfl⟩, q⟩
  | int i t => exact PySem.P.repr_of_int (by simpa [PyData.showable] using h1) ⟨.str _, H, I.tok _, ⟨_, rfl⟩, q⟩
  | str x t => exact PySem.P.repr_of_str ⟨.str _, H, I.tok _, ⟨_, rfl⟩, q⟩ (by simpa only [PyData.shown] using h3)
  | list a1 a2 a3 a4 => exact big _ rfl
  | tuple a1 a2 a3 a4 => exact big _ rfl
  | dict a1 a2 a3 a4 a5 => exact big _ rfl
/-- .. of a dict of flat values -/
def flatD : V → PyData
  | .bl b => .bool b
  | .int i => .int i
  | .str x => .str x
  | _ => .none
def keyD : Key → PyData
  | .inl i => .int i
  | .inr x => .str x
abbrev dictD (kvs : List (Key × V)) : PyData := .dict (kvs.map fun kv => (keyD kv.1, flatD kv.2))
theorem flat_reads {h : Heap} {v : V} {u : Value} (hf : flatV v = true) (r : RelV v u) : Reads h u (flatD v) [] := by
  cases v with
  | non => cases r; exact .none
  | bl b => cases r; exact .bool b
  | int i => obtain ⟨t, rfl⟩ := r; exact .int i t
  | str x => obtain ⟨t, rfl⟩ := r; exact .str x t
  | byt b => cases hf
  | flt b => cases hf
  | ref b => cases hf
  | ty b => cases hf
theorem key_reads {h : Heap} {k : Key} {u : Value} (r : keyIs k u = true) : Reads h u (keyD k) [] := by
  rcases keyIs_shape r with ⟨i, t, rfl, rfl⟩ | ⟨x, t, rfl, rfl⟩
  · exact .int i t
  · exact .str x t
theorem pairs_reads {P : Program} {w : World} {h : Heap} : ∀ {es : List DictEntry} {kvs : List (Key × V)} {vs : List (Key × Value)}, Pairs (mixKind P w) es vs → KV kvs vs → kvs.all (fun kv => flatV kv.2) = true →
    ReadsAll h (es.map (·.key)) ((kvs.map fun kv => (keyD kv.1, flatD kv.2)).map (·.1)) [] ∧ ReadsAll h (es.map (·.val)) ((kvs.map fun kv => (keyD kv.1, flatD kv.2)).map (·.2)) []
  | _, _, _, .nil, .nil, _ => ⟨.nil, .nil⟩
  | _, _, _, .cons h1 h2 hr, .cons ⟨e, rv⟩ kr, hf => by
    rw [List.all_cons, Bool.and_eq_true] at hf
    obtain ⟨q1, q2⟩ := pairs_reads (h := h) hr kr hf.2
    rw [← e] at h1
    rw [← h2] at rv
    exact ⟨.cons (key_reads h1) q1, .cons (flat_reads hf.1 rv) q2⟩
def rReprD : List V → Hp → VK → Prop := fun xs H Q => ∃ a kvs, xs = [.ref a] ∧ H a = some (.dK kvs) ∧ kvs.all (fun kv => flatV kv.2) = true ∧ (dictD kvs).showable = true ∧ (dictD kvs).shown.length ≤ sizeLine ∧ (dictD kvs).depth ≤ 50 ∧ Q (.str (dictD kvs).shown) H
theorem gReprD {X : Cx} (hg : X.A.guards = some []) (hu : X.A.units + 64 < cLine) : CallR X (.builtin "repr") rReprD := by
  intro pins s σ H xs us Q I r h
  obtain ⟨a, kvs, rfl, ha, hf, h1, h3, h4, q⟩ := h
  obtain ⟨u, rfl, ru⟩ := vals1 r
  cases (show u = Value.ref a from ru)
  obtain ⟨hz, hn, vs, kv, o, es, ep, e1, e2, e3, e4, e5, e6⟩ := (show ObjOk X.prog X.w H s.heap a (.dK kvs) from I.hok a _ ha)
  obtain ⟨q1, q2⟩ := pairs_reads (h := s.heap) e5 kv hf
  have rd : Reads s.heap (.ref a) (dictD kvs) [a] := .dict e1 e2.1 e3 q1 q2
  have nd : sysModules ∉ [a] := fun m => by
    rw [List.mem_singleton] at m
    rw [← m] at hn
    simp at hn
  refine repr_of_reads' rd h1 (fun _ => nd) hg (by omega) (fun _ _ e => e) (fun h' t tk hk => ⟨.str (dictD kvs).shown, H, I.kept (t' := tk) hk, ⟨_, rfl⟩, q⟩) h3
def rReprA (K : PySem.W.Frag) : List V → Hp → VK → Prop := fun xs H Q => rRepr K xs H Q ∨ rReprD xs H Q
theorem kRepr {X : Cx} {K : PySem.W.Frag} (hK : X.K = K) (hg : X.A.guards = some []) (hu : X.A.units + 64 < cLine) : CallR X (.builtin "repr") (rReprA K) := by
  subst hK
  exact CallR.or (gRepr hg hu) (gReprD hg hu)
end G
set_option Elab.async false
set_option linter.all false
set_option maxRecDepth 100000
namespace G
open PySem PySem.Spec PyProof.Rows L2
/-! ### the end, for a law's def that promises by Fg -/
/-- what a call of the law's def must come to -/
abbrev LawEnd (P : Program) (w : World) (fa a : Addr) (s : Shared) : Prop :=
  codeAny (model P w) callerA (.call (.ref fa) ⟨[.ref a], []⟩) (fun r s' => r = .ok (.ret (.bool true)) ∧ OldK s.heap s'.heap ∧ s'.os = s.os ∧ AllBare s'.gens) s
section
variable {P : Program} {w : World} {K : PySem.W.Frag} {mg mb : Str → Option Value} {g : Bool} {k : Nat} {fa a : Addr} {fd : FuncData} {x : Str} {sp : Sp} {s : Shared} {H : Hp} {us : List Value} {ns : List Int}
/-- from an abstract heap that tracks at most the script at a (frozen) -/
theorem end_at (kin : K.In s.heap) (hns : s.heap.Ns mainGlobals mg) (hb : s.heap.Ns builtinsNs mb) (hbb : ∀ x : Str, x ≠ "__name__" → mb x = bootBuiltins x) (hlim : s.heap.NoLimit) (hg : s.gens = #[])
    (hdat : ∀ o, s.heap.get? a = some o → ∀ es ep, o.data ≠ .dict es ep) (hr : Room k callerA)
    (F : ∀ base : Heap, K.In base → base.Ns mainGlobals mg → Fg P w K mg base g k fa fd [x] sp) (hbind : ∀ (s : Shared) (u : Value), BindsTo s fd ⟨[u], []⟩ [(x, u)])
    (hO : Only H) (hok : HOk P w H s.heap) (hA : ∀ b, b ≠ a → H b = none) (hK : H a ≠ none → K.lookup a = none) (q : sp [.ref a] H (fun v _ => v = .bl true) fun _ _ _ => False) : LawEnd P w fa a s := by
  have dict_free : ∀ b o es ep, s.heap.get? b = some o → o.data = .dict es ep → H b = none := fun b o es ep e d => hA b fun z => hdat o (z ▸ e) es ep d
  have keepNs : ∀ {b : Addr} {m : Str → Option Value}, s.heap.Ns b m → (hidT s.heap H).Ns b m := fun {b m} ⟨o, es, ep, e, d, r⟩ => ⟨o, es, ep, hidT_get e (dict_free b o es ep e d), d, r⟩
  have keepK : K.In (hidT s.heap H) := fun b o e => hidT_get (kin b o e) (Decidable.byContradiction fun z => by
    by_cases hba : b = a
    · subst hba
      rw [hK z] at e
      cases e
    · exact z (hA b hba))
  obtain ⟨mc, l1, l2⟩ := hlim
  have e0 : Env0 P w K mg (hidT s.heap H) callerA [] s H := ⟨rfl, ⟨keepK, keepNs hns, ⟨mb, keepNs hb, hbb⟩, ⟨mc, keepNs l1, l2⟩⟩, fun b o e => of_hidT e, Nat.le_of_eq (hidT_size _ _), trivial, fun b z => absurd (show b ∈ ([] : List Addr) from z) (by simp), hok, .of_eq hg⟩
  refine codeAny_mono ((F _ keepK (keepNs hns)).go callerA [] s H ⟨[.ref a], []⟩ [.ref a] [.ref a] _ _ hr (fun _ => rfl) e0 (hbind s (.ref a)) (.cons rfl .nil) q) fun r s' h => ?_
  match r, h with
  | .error e, h =>
    obtain ⟨_, _, _, _, _, _, _, _, _, _, _, _, z⟩ := h
    exact z.elim
  | .ok .next, h => exact False.elim h
  | .ok .brk, h => exact False.elim h
  | .ok .cont, h => exact False.elim h
  | .ok (.ret u), ⟨v, H', os, bare, un, hok', rv, ev⟩ =>
    have ev' : v = .bl true := ev
    subst ev'
    obtain rfl : u = Value.bool true := rv
    refine ⟨rfl, OldK.of_keep fun b o e => ?_, os, bare⟩
    rcases hO b with z | ⟨ob, xs, z⟩
    · exact un.keep b o e z (fun m => absurd (show b ∈ ([] : List Addr) from m) (by simp)) (by simp)
    · have c1 := (hok b _ z).1
      have c2 := (hok' b _ (un.frzs b ob _ z)).1
      rw [e] at c1
      cases c1
      exact c2
theorem law_callG (kin : K.In s.heap) (hns : s.heap.Ns mainGlobals mg) (hb : s.heap.Ns builtinsNs mb) (hbb : ∀ x : Str, x ≠ "__name__" → mb x = bootBuiltins x) (hlim : s.heap.NoLimit) (hg : s.gens = #[])
    (ha : s.heap.get? a = some { cls := .type "list", data := .seq us.toArray }) (hi : IntsAre us ns) (hl : ns.length ≤ sizeLine) (hr : Room k callerA)
    (F : ∀ base : Heap, K.In base → base.Ns mainGlobals mg → Fg P w K mg base g k fa fd [x] sp) (hbind : ∀ (s : Shared) (u : Value), BindsTo s fd ⟨[u], []⟩ [(x, u)])
    (hsp : ∀ H : Hp, SqL K H a (ns.map V.int) → sp [.ref a] H (fun v _ => v = .bl true) fun _ _ _ => False) : LawEnd P w fa a s := by
  have rv := vals_ints hi
  have hdat : ∀ o, s.heap.get? a = some o → ∀ es ep, o.data ≠ .dict es ep := fun o e es ep d => by
    rw [ha] at e
    cases e
    have d' : Data.seq us.toArray _ = Data.dict es ep := d
    cases d'
  cases hk : K.lookup a with
  | some o =>
    have e := kin a o hk
    rw [ha] at e
    cases e
    exact end_at (H := fun _ => none) kin hns hb hbb hlim hg hdat hr F hbind (fun _ => .inl rfl) (fun b u z => nomatch z) (fun _ _ => rfl) (fun z => absurd rfl z)
      (hsp _ (.inr ⟨_, us.toArray, _, hk, rfl, rfl, rfl, by rw [List.size_toArray, hi.length]; exact hl, by simpa using rv⟩))
  | none =>
    refine end_at (H := upd (fun _ => none) a (.frz { cls := .type "list", data := .seq us.toArray } (.lst (ns.map V.int)))) kin hns hb hbb hlim hg hdat hr F hbind (fun b => ?_) (fun b u z => ?_) (fun b hb => upd_ne hb) (fun _ => hk) (hsp _ (.inl (.inr ⟨_, upd_same⟩)))
    · by_cases hb : b = a
      · exact .inr ⟨_, _, by rw [hb]; exact upd_same⟩
      · exact .inl (upd_ne hb)
    · by_cases hb : b = a
      · subst hb
        rw [upd_same] at z
        cases z
        exact ⟨ha, by rw [List.length_map]; exact hl, us, _, rv, ha⟩
      · rw [upd_ne hb] at z
        cases z
end
theorem walk_ofG {l : PySem.W.OpenLaw} {n k : Nat} {q : Program} {loose : List Str} {XP : (Str → Option Value) → Heap → Prop} {YP : World → Heap → Prop} {d : DefRec} {K : Params → PySem.W.Frag} {g : Bool} {sp : PySem.W.Frag → Sp} {x : Str}
    (hn : l.most = some n) (hn2 : n ≤ sizeLine) (hdf : d.params.defaults = []) (hr : Room k callerA) (hY : ∀ (w : World) (h : Heap), YP w h → (K w.params).In h)
    (F : ∀ (w : World) (mg : Str → Option Value) (fa : Addr) (h : Heap), (K w.params).In h → h.Ns mainGlobals mg → mg d.name = some (.ref fa) →
      ∃ fd : FuncData, (∀ (s : Shared) (u : Value), BindsTo s fd ⟨[u], []⟩ [(x, u)]) ∧ ∀ base : Heap, (K w.params).In base → base.Ns mainGlobals mg → Fg l.prog w (K w.params) mg base g k fa fd [x] (sp (K w.params)))
    (hsp : ∀ (K : PySem.W.Frag) (H : Hp) (a : Addr) (ns : List Int), ns.length ≤ n → (∀ z ∈ ns, Builtin.Int.intBits z ≤ 1048576) → SqL K H a (ns.map V.int) → sp K [.ref a] H (fun v _ => v = .bl true) fun _ _ _ => False) :
    PySem.W.WalkO q loose XP YP l.row.toRowW d [] (fun f vs => PySem.call f vs) := by
  refine Att.attach_callB hn hdf fun w s₀ s₁ mg mb fa o pm cd doc a vs ns G Y ho hd hcd hmg hobj hints hlen hbits hg => ?_
  have kin := hY w _ Y
  obtain ⟨fd, hb, hF⟩ := F w mg fa _ kin G.T.g hmg
  exact law_callG kin G.T.g G.T.b G.T.builtins G.T.nolimit hg hobj hints (Nat.le_trans hlen hn2) hr hF hb fun H hS => hsp _ H a ns hlen hbits hS
end G
set_option Elab.async false
set_option linter.all false
set_option maxRecDepth 100000
namespace G
open PySem PySem.Spec PyProof.Rows L2
/-! ### isinstance with own classes -/
theorem kit_ownT {K : PySem.W.Frag} {t : Value} {C : Addr} (hc : PySem.W.isClsIn K C = true) (ht : PySem.W.typeIn K (.ref C) = some (.type "type")) (hs : PySem.W.subIn K t (.ref C) = some true) : PySem.W.kitOne K t (.ref C) = some true := by
  unfold PySem.W.kitOne
  split
  · rfl
  · unfold PySem.W.kitCls
    dsimp only
    rw [show (PySem.W.clsIn K C).isSome = true from hc, ht, hs]
    rfl
theorem kit_ownF {K : PySem.W.Frag} {T : String} {C : Addr} {r : Bool} (hc : PySem.W.isClsIn K C = true) (ht : PySem.W.typeIn K (.ref C) = some (.type "type")) (hs : PySem.W.subIn K (.type T) (.ref C) = some r) : PySem.W.kitOne K (.type T) (.ref C) = some r := by
  unfold PySem.W.kitOne
  rw [if_neg (by simp)]
  unfold PySem.W.kitCls
  dsimp only
  rw [show (PySem.W.clsIn K C).isSome = true from hc, ht, hs]
  rfl
theorem kit_self {K : PySem.W.Frag} {C : Addr} : PySem.W.kitOne K (.ref C) (.ref C) = some true := if_pos (by simp)
theorem kit_blt {K : PySem.W.Frag} {T : String} {C : Addr} {r : Bool} (hm : PySem.W.kitMeta T = true) (hs : PySem.W.subIn K (.ref C) (.type T) = some r) : PySem.W.kitOne K (.ref C) (.type T) = some r := by
  unfold PySem.W.kitOne
  rw [if_neg (by simp)]
  unfold PySem.W.kitCls
  dsimp only
  rw [hm, hs]
  rfl
theorem nf_self {K : PySem.W.Frag} {C : Addr} : PySem.W.notFirst K C (.ref C) = true := by unfold PySem.W.notFirst; simp
theorem nf_of {K : PySem.W.Frag} {C : Addr} {t : Value} (h : PySem.W.subIn K t (.ref C) = some false) : PySem.W.notFirst K C t = true := by unfold PySem.W.notFirst; rw [h]; simp
theorem kEqU {X : Cx} {K : PySem.W.Frag} (hK : X.K = K) (hu : X.A.units + 64 < cLine) : OpR X (compareOp .Eq) (rEqA K) := by subst hK; exact op_eq.or (op_eqD hu)
theorem kNeU {X : Cx} {K : PySem.W.Frag} (hK : X.K = K) (hu : X.A.units + 64 < cLine) : OpR X (compareOp .NotEq) (rNeA K) := by subst hK; exact op_ne.or (op_neD hu)
/-! ### defs, methods, classes of the text -/
abbrev BodyN (P : Program) (w : World) (K : PySem.W.Frag) (mg : Str → Option Value) (base : Heap) (g : Bool) (k : Nat) (N : List Str) (qual : Str) (st : Stmt) (f : Addr) (sp : Sp) : Prop :=
  ∀ (cdv : Value) (A : Around) (outer : List Env) (s : Shared) (H : Hp) (vs : List V) (Q : VK) (E : XK), Room k (A.deeper (envOfC qual (defScope st) s.heap.objs.size f cdv)) →
    (g = true → (A.deeper (envOfC qual (defScope st) s.heap.objs.size f cdv)).guards = some []) → sp vs H Q E →
    ∃ t, PSs (cxOf (L2.CX P w) P w K mg base N qual (defScope st) f cdv A outer s H E).nox (defBody st) t ∧ t { nx := fun _ H' => Q .non H', rt := Q } (start N vs) H
abbrev BodyX (P : Program) (w : World) (K : PySem.W.Frag) (mg : Str → Option Value) (base : Heap) (g : Bool) (k : Nat) (N : List Str) (qual : Str) (st : Stmt) (f : Addr) (sp : Sp) : Prop :=
  ∀ (cdv : Value) (A : Around) (outer : List Env) (s : Shared) (H : Hp) (vs : List V) (Q : VK) (E : XK), Room k (A.deeper (envOfC qual (defScope st) s.heap.objs.size f cdv)) →
    (g = true → (A.deeper (envOfC qual (defScope st) s.heap.objs.size f cdv)).guards = some []) → sp vs H Q E →
    ∃ t, PSs (cxOf (L2.CX P w) P w K mg base N qual (defScope st) f cdv A outer s H E) (defBody st) t ∧ t { nx := fun _ H' => Q .non H', rt := Q } (start N vs) H
structure Dm (K : PySem.W.Frag) (C : Addr) (m qual : Str) (st : Stmt) (ps : List Str) : Prop where
  ex : ∃ (f : Addr) (fd : FuncData), Cls K C ∧ Meth K C m f ∧ PySem.W.fnIn K f = true ∧ Fun K m qual st f fd ∧ Binds K fd ps []
structure Dk (K : PySem.W.Frag) (mg : Str → Option Value) (x : Str) (C : Addr) (qual : Str) (st : Stmt) (dvs : List V) : Prop where
  ex : ∃ (f : Addr) (fd : FuncData), Mk K C f ∧ mg x = some (.ref C) ∧ FunD K "__init__" qual (defArgs st) (defBody st) (defScope st) dvs [] f fd
structure Ini (P : Program) (w : World) (K : PySem.W.Frag) (mg : Str → Option Value) (base : Heap) (k : Nat) (x : Str) (C : Addr) (qual : Str) (st : Stmt) (dvs : List V) (ps : List Str) (sp : Sp) : Prop where
  ex : ∃ (f : Addr) (fd : FuncData), Mk K C f ∧ mg x = some (.ref C) ∧ FunD K "__init__" qual (defArgs st) (defBody st) (defScope st) dvs [] f fd ∧ Fg P w K mg base false k f fd ps sp
section
variable {P : Program} {w : World} {K : PySem.W.Frag} {mg : Str → Option Value} {base : Heap} {g : Bool} {x qual m : Str} {st : Stmt} {N ps : List Str} {k : Nat} {sp : Sp} {C : Addr} {dvs : List V}
theorem kbn_of {fd : FuncData} (b : Binds K fd ps []) : KBn K fd ps ps.length [] (fun us _ => us) (fun vs _ => vs) :=
  ⟨fun s us ws X l1 l2 => by
    have h := b s us X (by rw [List.append_nil]; exact l1)
    rw [List.append_nil] at h
    exact h, fun r _ => r⟩
theorem Dd.calG (F : Dd K mg x st ps) (S : FnScope N ps (defScope st)) (len : ∀ vs H Q E, sp vs H Q E → vs.length = ps.length) (hbody : ∀ f, BodyN P w K mg base g k N x st f sp) : CalG P w K mg base g (k + 1) x sp ps.length [] (fun vs _ => vs) := by
  obtain ⟨f, fd, F1, hm, b⟩ := F.ex
  exact ⟨f, fd, ps, _, fg_of F1 S len fun cdv A outer s H vs Q E hr hg h => let ⟨t, h1, h2⟩ := hbody f cdv A outer s H vs Q E hr hg h; ⟨t, h1.nox, h2⟩, hm, F1.kp, kbn_of b⟩
theorem Dd.calX (F : Dd K mg x st ps) (S : FnScope N ps (defScope st)) (len : ∀ vs H Q E, sp vs H Q E → vs.length = ps.length) (hbody : ∀ f, BodyX P w K mg base g k N x st f sp) : CalG P w K mg base g (k + 1) x sp ps.length [] (fun vs _ => vs) := by
  obtain ⟨f, fd, F1, hm, b⟩ := F.ex
  exact ⟨f, fd, ps, _, fg_of F1 S len (hbody f), hm, F1.kp, kbn_of b⟩
theorem Dd.lawG {fa : Addr} (F : Dd K mg x st ps) (S : FnScope N ps (defScope st)) (hfa : mg x = some (.ref fa)) (len : ∀ vs H Q E, sp vs H Q E → vs.length = ps.length) (hbody : ∀ base f, BodyN P w K mg base g k N x st f sp) :
    ∃ fd : FuncData, (∃ (kV doc pm : Value) (an : Option Addr) (cdv ct : Value), fd = PySem.W.fnOf x x (defArgs st) (defBody st) (defScope st) .none kV doc pm an cdv ct) ∧ ∀ base : Heap, Fg P w K mg base g (k + 1) fa fd ps sp := by
  obtain ⟨f, fd, F1, hm, b⟩ := F.ex
  have e := hfa.symm.trans hm
  cases e
  refine ⟨fd, ?_, fun base => fg_of F1 S len fun cdv A outer s H vs Q E hr hg h => let ⟨t, h1, h2⟩ := hbody base fa cdv A outer s H vs Q E hr hg h; ⟨t, h1.nox, h2⟩⟩
  obtain ⟨oc, od, kV, doc, pm, an, cdv, ct, osl, rfl, lk, hcd⟩ := F1.ex
  exact ⟨kV, doc, pm, an, cdv, ct, rfl⟩
theorem Dm.metX (F : Dm K C m qual st ps) (S : FnScope N ps (defScope st)) (len : ∀ vs H Q E, sp vs H Q E → vs.length = ps.length) (hbody : ∀ f, BodyX P w K mg base g k N qual st f sp) : MetG P w K mg base g (k + 1) C m sp ps := by
  obtain ⟨f, fd, c, M, hf, F1, b⟩ := F.ex
  exact ⟨f, fd, c, M, hf, fg_of F1 S len (hbody f), b⟩
theorem Dm.met (F : Dm K C m qual st ps) (S : FnScope N ps (defScope st)) (len : ∀ vs H Q E, sp vs H Q E → vs.length = ps.length) (hbody : ∀ f, BodyN P w K mg base g k N qual st f sp) : MetG P w K mg base g (k + 1) C m sp ps :=
  F.metX S len fun f cdv A outer s H vs Q E hr hg h => let ⟨t, h1, h2⟩ := hbody f cdv A outer s H vs Q E hr hg h; ⟨t, h1.nox, h2⟩
theorem Dk.ini (F : Dk K mg x C qual st dvs) (S : FnScope N ps (defScope st)) (len : ∀ vs H Q E, sp vs H Q E → vs.length = ps.length) (hbody : ∀ f, BodyX P w K mg base false k N qual st f sp) : Ini P w K mg base (k + 1) x C qual st dvs ps sp := by
  obtain ⟨f, fd, M, hm, F1⟩ := F.ex
  exact ⟨f, fd, M, hm, F1, Fg.of (F1.ok S len fun cdv A outer s H vs Q E hr h => hbody f cdv A outer s H vs Q E hr (fun e => nomatch e) h)⟩
theorem Ini.mak {n : Nat} {ks : List Str} {gV : List V → List V → List V} (F : Ini P w K mg base k x C qual st dvs ps sp) (b : ∀ f fd, FunD K "__init__" qual (defArgs st) (defBody st) (defScope st) dvs [] f fd → ∃ gg, KBn K fd ps (n + 1) ks gg gV) : MakG P w K mg base k x C sp n ks gV := by
  obtain ⟨f, fd, M, hm, F1, G⟩ := F.ex
  obtain ⟨gg, kb⟩ := b f fd F1
  exact ⟨f, fd, ps, gg, M, G, hm, kb⟩
end
end G
set_option Elab.async false
set_option linter.all false
set_option maxRecDepth 100000
namespace G
open PySem PySem.Spec PyProof.Rows L2
/-! ### sequences, kinds -/
/-- a list or a tuple -/
def Sq (K : PySem.W.Frag) (H : Hp) (v : V) (xs : List V) : Prop := ∃ p, v = .ref p ∧ (SqL K H p xs ∨ SqT K H p xs)
theorem Sq.l {K : PySem.W.Frag} {H : Hp} {p : Addr} {xs : List V} (h : SqL K H p xs) : Sq K H (.ref p) xs := ⟨p, rfl, .inl h⟩
theorem Sq.t {K : PySem.W.Frag} {H : Hp} {p : Addr} {xs : List V} (h : SqT K H p xs) : Sq K H (.ref p) xs := ⟨p, rfl, .inr h⟩
theorem Sq.mono {K : PySem.W.Frag} {H H' : Hp} {v : V} {xs : List V} (e : Ex H H') (h : Sq K H v xs) : Sq K H' v xs := by
  obtain ⟨p, rfl, h⟩ := h
  exact ⟨p, rfl, h.elim (fun h => .inl (sqL_mono e h)) fun h => .inr (sqT_mono e h)⟩
theorem tyL {K : PySem.W.Frag} {H : Hp} {p : Addr} {xs : List V} (h : SqL K H p xs) : TyX K H (.ref p) (.type "list") := by
  rcases h with (h | ⟨o, h⟩) | ⟨o, its, n, h1, h2, h3, h4⟩
  · exact .base (.lst h)
  · exact .base (.frz h)
  · exact .kList h1 h2
theorem tyT {K : PySem.W.Frag} {H : Hp} {p : Addr} {xs : List V} (h : SqT K H p xs) : TyX K H (.ref p) (.type "tuple") := by
  rcases h with (h | ⟨o, h⟩) | ⟨o, its, n, h1, h2, h3⟩
  · exact .base (.tup h)
  · exact .fTuple h
  · exact .kTuple h1 h2
theorem l_tupSq {K : PySem.W.Frag} {H : Hp} {v : V} {xs : List V} {Q : VK} (hs : Sq K H v xs) (q : ∀ p H', Ex H H' → SqT K H' p xs → Q (.ref p) H') : rTupA K [v] H Q := by
  obtain ⟨p, rfl, h | h⟩ := hs
  · exact ⟨xs, .inl ⟨h, fun l hl => q l _ (Ex.new hl) (.of upd_same)⟩⟩
  · exact ⟨xs, .inr ⟨h, q p H (Ex.refl H) h⟩⟩
theorem sqT_but {K : PySem.W.Frag} {H H' : Hp} {x p C dx : Addr} {fs : List (Str × V)} {xs : List V} (b : But x H H') (hx : H x = some (.ins C dx fs)) (h : SqT K H p xs) : SqT K H' p xs := by
  rcases h with (h | ⟨o, h⟩) | h
  · exact .inl (.inl (b _ _ (fun z => by rw [z, hx] at h; cases h) h))
  · exact .inl (.inr ⟨o, b _ _ (fun z => by rw [z, hx] at h; cases h) h⟩)
  · exact .inr h
theorem sqL_but {K : PySem.W.Frag} {H H' : Hp} {x p C dx : Addr} {fs : List (Str × V)} {xs : List V} (b : But x H H') (hx : H x = some (.ins C dx fs)) (h : SqL K H p xs) : SqL K H' p xs := by
  rcases h with (h | ⟨o, h⟩) | h
  · exact .inl (.inl (b _ _ (fun z => by rw [z, hx] at h; cases h) h))
  · exact .inl (.inr ⟨o, b _ _ (fun z => by rw [z, hx] at h; cases h) h⟩)
  · exact .inr h
theorem Sq.but {K : PySem.W.Frag} {H H' : Hp} {x C dx : Addr} {fs : List (Str × V)} {v : V} {xs : List V} (b : But x H H') (hx : H x = some (.ins C dx fs)) (h : Sq K H v xs) : Sq K H' v xs := by
  obtain ⟨p, rfl, h⟩ := h
  exact ⟨p, rfl, h.elim (fun h => .inl (sqL_but b hx h)) fun h => .inr (sqT_but b hx h)⟩
/-- an int, no bool -/
def isI : V → Bool
  | .int _ => true
  | _ => false
def isB : V → Bool
  | .bl _ => true
  | _ => false
/-- a value whose kind is known -/
def Kd (K : PySem.W.Frag) (H : Hp) (x : V) : Prop := flatV x = true ∨ ∃ p T, x = .ref p ∧ TyX K H x (.type T) ∧ (T = "list" ∨ T = "tuple" ∨ T = "dict")
theorem Kd.l {K : PySem.W.Frag} {H : Hp} {p : Addr} {xs : List V} (h : SqL K H p xs) : Kd K H (.ref p) := .inr ⟨p, _, rfl, tyL h, .inl rfl⟩
theorem Kd.t {K : PySem.W.Frag} {H : Hp} {p : Addr} {xs : List V} (h : SqT K H p xs) : Kd K H (.ref p) := .inr ⟨p, _, rfl, tyT h, .inr (.inl rfl)⟩
theorem Kd.d {K : PySem.W.Frag} {H : Hp} {p : Addr} {kvs : List (Key × V)} (h : H p = some (.dK kvs)) : Kd K H (.ref p) := .inr ⟨p, _, rfl, .base (.dK h), .inr (.inr rfl)⟩
/-- its type, and what isinstance says of it with int, with bool -/
theorem Kd.is {K : PySem.W.Frag} {H : Hp} {x : V} (h : Kd K H x) : ∃ t, TyX K H x t ∧ (∃ b, PySem.W.kitOne K t (.type "int") = some b ∧ isI x = (b && !isB x)) ∧ PySem.W.kitOne K t (.type "bool") = some (isB x) ∧ (isI x = true → PySem.W.kitOne K t (.type "int") = some true) := by
  rcases h with h | ⟨p, T, rfl, ty, rfl | rfl | rfl⟩
  · cases x with
    | non => exact ⟨_, .base .non, ⟨false, kt_NoneType_int, rfl⟩, kt_NoneType_bool, fun e => nomatch e⟩
    | bl b => exact ⟨_, .base (.bl b), ⟨true, kt_bool_int, rfl⟩, kt_bool_bool, fun e => nomatch e⟩
    | int i => exact ⟨_, .base (.int i), ⟨true, kt_int_int, rfl⟩, kt_int_bool, fun _ => kt_int_int⟩
    | str z => exact ⟨_, .base (.str z), ⟨false, kt_str_int, rfl⟩, kt_str_bool, fun e => nomatch e⟩
    | byt b => cases h
    | flt b => cases h
    | ref b => cases h
    | ty b => cases h
  · exact ⟨_, ty, ⟨false, kt_list_int, rfl⟩, kt_list_bool, fun e => nomatch e⟩
  · exact ⟨_, ty, ⟨false, kt_tuple_int, rfl⟩, kt_tuple_bool, fun e => nomatch e⟩
  · exact ⟨_, ty, ⟨false, kt_dict_int, rfl⟩, kt_dict_bool, fun e => nomatch e⟩
theorem Kd.mono {K : PySem.W.Frag} {H H' : Hp} {x : V} (e : Ex H H') (h : Kd K H x) : Kd K H' x := by
  rcases h with h | ⟨p, T, rfl, ty, hT⟩
  · exact .inl h
  · refine .inr ⟨p, T, rfl, ?_, hT⟩
    generalize hx : V.ref p = x at ty
    generalize ht : Value.type T = t at ty
    cases ty with
    | base b =>
      cases b with
      | lst h => exact .base (.lst (e _ _ h))
      | frz h => exact .base (.frz (e _ _ h))
      | tup h => exact .base (.tup (e _ _ h))
      | dK h => exact .base (.dK (e _ _ h))
      | dT h => exact .base (.dT (e _ _ h))
      | non => cases hx
      | bl _ => cases hx
      | int _ => cases hx
      | str _ => cases hx
      | flt _ => cases hx
      | ins => cases ht
    | byt _ => cases hx
    | set h => exact .set (e _ _ h)
    | kList h c => exact .kList h c
    | kTuple h c => exact .kTuple h c
    | kDict h c => exact .kDict h c
    | fTuple h => exact .fTuple (e _ _ h)
    | fDict h => exact .fDict (e _ _ h)
/-! ### [f(x) for x in xs] -/
section
variable {K : PySem.W.Frag} {xs : List V} {f : V → V} {i : Nat} {vs : List Nat} {σ : L2.St} {H : Hp} {te : TE} {Q : VK} {v : V}
theorem lc_turn {DD : Addr} (hD : H DD = none) (hlen : xs.length ≤ 1000) (hw : ∀ x, wipe ((wipe σ vs).set i (some x)) vs = wipe σ vs)
    (hte : ∀ x ∈ xs, ∀ H' R, Ex H H' → (∀ H'', Ex H' H'' → R (f x) H'') → te ((wipe σ vs).set i (some x)) H' R) (j : Nat) (x : V) (H' : Hp) (hj : xs[j]? = some x) (hp : Ex H H' ∧ H' DD = some (.lst ((xs.take j).map f))) :
    gName i x (wipe σ vs) H' fun σ2 H2 => wipe σ2 vs = wipe σ vs ∧ tYes σ2 H2 fun b H3 =>
      if b = true then te σ2 H3 fun y H4 => ∃ acc, H4 DD = some (.lst acc) ∧ acc.length < sizeLine ∧ Ex H (upd H4 DD (.lst (acc ++ [y]))) ∧ upd H4 DD (.lst (acc ++ [y])) DD = some (.lst ((xs.take (j + 1)).map f)) else Ex H H3 ∧ H3 DD = some (.lst ((xs.take (j + 1)).map f)) := by
  refine ⟨hw x, i_yes ?_⟩
  rw [if_pos rfl]
  refine hte x (List.mem_of_getElem? hj) H' _ hp.1 fun H'' e => ⟨_, e _ _ hp.2, ?_, (hp.1.trans e).mut hD, ?_⟩
  · rw [List.length_map, List.length_take]
    exact szl (by omega)
  · rw [upd_same, take_succ hj, List.map_append]
    rfl
theorem lc_mapL {a : Addr} (hs : SqL K H a xs) (hlen : xs.length ≤ 1000) (hw : ∀ x, wipe ((wipe σ vs).set i (some x)) vs = wipe σ vs)
    (hte : ∀ x ∈ xs, ∀ H' R, Ex H H' → (∀ H'', Ex H' H'' → R (f x) H'') → te ((wipe σ vs).set i (some x)) H' R) (hQ : ∀ D H', H D = none → Ex H H' → H' D = some (.lst (xs.map f)) → Q (.ref D) H') : lcB (Itl K a) (gName i) tYes te vs σ Q H := by
  intro DD hD
  refine lc_list (xs := xs) (fun j H' => Ex H H' ∧ H' DD = some (.lst ((xs.take j).map f))) ⟨Ex.new hD, upd_same⟩ (fun _ H' _ p => sqL_mono p.1 hs) (fun j x H' hj hp => lc_turn hD hlen hw hte j x H' hj hp) (fun H' p => hQ DD H' hD p.1 (by rw [p.2, List.take_length]))
theorem lc_mapT {a : Addr} (hs : SqT K H a xs) (hlen : xs.length ≤ 1000) (hw : ∀ x, wipe ((wipe σ vs).set i (some x)) vs = wipe σ vs)
    (hte : ∀ x ∈ xs, ∀ H' R, Ex H H' → (∀ H'', Ex H' H'' → R (f x) H'') → te ((wipe σ vs).set i (some x)) H' R) (hQ : ∀ D H', H D = none → Ex H H' → H' D = some (.lst (xs.map f)) → Q (.ref D) H') : lcB (Itt K a) (gName i) tYes te vs σ Q H := by
  intro DD hD
  refine lc_tup (xs := xs) (fun j H' => Ex H H' ∧ H' DD = some (.lst ((xs.take j).map f))) ⟨Ex.new hD, upd_same⟩ (fun _ H' _ p => sqT_mono p.1 hs) (fun j x H' hj hp => lc_turn hD hlen hw hte j x H' hj hp) (fun H' p => hQ DD H' hD p.1 (by rw [p.2, List.take_length]))
/-- .. over a variable that holds a list or a tuple -/
theorem lc_var {k : Nat} (hv : σ[k]? = some (some v)) (hs : Sq K H v xs) (hlen : xs.length ≤ 1000) (hw : ∀ x, wipe ((wipe σ vs).set i (some x)) vs = wipe σ vs)
    (hte : ∀ x ∈ xs, ∀ H' R, Ex H H' → (∀ H'', Ex H' H'' → R (f x) H'') → te ((wipe σ vs).set i (some x)) H' R) (hQ : ∀ D H', H D = none → Ex H H' → H' D = some (.lst (xs.map f)) → Q (.ref D) H') : iAny K (tVar k) σ H fun J H1 => lcB J (gName i) tYes te vs σ Q H1 := by
  obtain ⟨p, rfl, h | h⟩ := hs
  · exact i_anyL ⟨_, hv, p, rfl, ⟨_, h⟩, lc_mapL h hlen hw hte hQ⟩
  · exact i_anyT ⟨_, hv, p, rfl, ⟨_, h⟩, lc_mapT h hlen hw hte hQ⟩
end
/-! ### the law's own draws, the list of the script's numbers at L -/
structure Dl (H : Hp) (st L : Addr) (b : Nat) : Prop where
  ex : ∃ (ns : List Int) (a c : Int), H st = some (.lst [.ref L, .int a, .int c]) ∧ H L = some (.lst (ns.map V.int)) ∧ st ≠ L ∧ 0 ≤ c ∧ c ≤ (b : Int)
theorem Dl.up {H : Hp} {st L : Addr} {b b' : Nat} (d : Dl H st L b) (h : b ≤ b') : Dl H st L b' := by
  obtain ⟨ns, a, c, h1, h2, h3, h4, h5⟩ := d.ex
  exact ⟨ns, a, c, h1, h2, h3, h4, by omega⟩
theorem Dl.mono {H H' : Hp} {st L : Addr} {b : Nat} (d : Dl H st L b) (e : Ex H H') : Dl H' st L b := by
  obtain ⟨ns, a, c, h1, h2, h3, h4, h5⟩ := d.ex
  exact ⟨ns, a, c, e _ _ h1, e _ _ h2, h3, h4, h5⟩
/-- what is written apart from them leaves them -/
theorem Dl.put {H : Hp} {st L p : Addr} {b : Nat} {o : HO} (d : Dl H st L b) (h1 : p ≠ st) (h2 : p ≠ L) : Dl (upd H p o) st L b := by
  obtain ⟨ns, a, c, g1, g2, g3, g4, g5⟩ := d.ex
  exact ⟨ns, a, c, by rw [upd_ne h1.symm]; exact g1, by rw [upd_ne h2.symm]; exact g2, g3, g4, g5⟩
theorem Dl.ne {H : Hp} {st L p : Addr} {b : Nat} (d : Dl H st L b) (h : H p = none) : p ≠ st ∧ p ≠ L := by
  obtain ⟨ns, a, c, h1, h2, _⟩ := d.ex
  exact ⟨(ne_of_none h1 h).symm, (ne_of_none h2 h).symm⟩
def spOpenL (K : PySem.W.Frag) : Sp := fun vs H Q _ => ∃ (a : Addr) (ns : List Int), vs = [.ref a] ∧ SqL K H a (ns.map V.int) ∧ ns.length ≤ 63 ∧ ∀ (st L : Addr) (H' : Hp), H st = none → H L = none → Dl H' st L 0 → Ex H H' → Q (.ref st) H'
def spDrawL : Sp := fun vs H Q _ => ∃ (st L : Addr) (n : Int) (b : Nat), vs = [.ref st, .int n] ∧ 0 < n ∧ n ≤ 10 ^ 18 ∧ Dl H st L b ∧ b < 2 ^ 60 ∧
  ∀ (r : Int) (H' : Hp), 0 ≤ r → r < n → Dl H' st L (b + 1) → But st H H' → Q (.int r) H'
theorem drawL {st L : Addr} {n : Int} {b : Nat} {H : Hp} {Q : VK} {E : XK} (hd : Dl H st L b) (hn : 0 < n) (hn2 : n ≤ 10 ^ 18) (hb : b < 2 ^ 60) (q : ∀ r H', 0 ≤ r → r < n → Dl H' st L (b + 1) → But st H H' → Q (.int r) H') : spDrawL ([.ref st, .int n] ++ []) H Q E :=
  ⟨st, L, n, b, rfl, hn, hn2, hd, hb, q⟩
theorem But.put {st p : Addr} {H H' : Hp} {o : HO} (e : But st H H') (h : H p = none) : But st H (upd H' p o) := fun a u n ha => by
  rw [upd_ne (ne_of_none ha h)]
  exact e a u n ha
theorem But.free {st p : Addr} {H H' : Hp} (e : But st H H') (hp : p ≠ st) (h : H' p = none) : H p = none := by
  cases q : H p with
  | none => rfl
  | some o =>
    rw [e _ _ hp q] at h
    cases h
theorem Dl.ins_ne {st L p C dx : Addr} {H : Hp} {b : Nat} {fs : List (Str × V)} (d : Dl H st L b) (h : H p = some (.ins C dx fs)) : p ≠ st := by
  obtain ⟨ns, a, c, h1, _⟩ := d.ex
  intro z
  rw [z, h1] at h
  cases h
theorem sqT_dl {K : PySem.W.Frag} {H H' : Hp} {st L p : Addr} {b : Nat} {xs : List V} (d : Dl H st L b) (e : But st H H') (h : SqT K H p xs) : SqT K H' p xs := by
  obtain ⟨ns, a, c, h1, _⟩ := d.ex
  rcases h with (h | ⟨o, h⟩) | h
  · exact .inl (.inl (e _ _ (fun z => by rw [z, h1] at h; cases h) h))
  · exact .inl (.inr ⟨o, e _ _ (fun z => by rw [z, h1] at h; cases h) h⟩)
  · exact .inr h
/-! ### steps for what is new -/
section
variable {K : PySem.W.Frag} {σ : L2.St} {H : Hp} {Q : VK} {t tz : TA} {ta tb te to : TE} {D : Ends}
theorem i_mkS {C : Addr} {n m : Nat} {sp : Sp} {gV : List V → List V → List V} {E : L2.St → XK} (q : t σ H fun vs H1 => tz σ H1 fun zs H2 => vs.length = n ∧ zs.length = m ∧ ∀ x dx, H2 x = none → H2 dx = none → dx ≠ x →
  sp (gV (.ref x :: vs) zs) (upd (upd H2 dx (.own x)) x (.ins C dx [])) (fun v H3 => v = .non ∧ Q (.ref x) H3) (E σ)) : tMkS C n m sp gV E t tz σ H Q := q
theorem i_cS {n m : Nat} {sp : Sp} {gV : List V → List V → List V} {E : L2.St → XK} (q : t σ H fun vs H1 => tz σ H1 fun zs H2 => vs.length = n ∧ zs.length = m ∧ sp (gV vs zs) H2 Q (E σ)) : tCS n m sp gV E t tz σ H Q := q
theorem i_fld {f : Str} (q : ta σ H fun x H1 => ∃ a C dx fs v, x = .ref a ∧ H1 a = some (.ins C dx fs) ∧ Cls K C ∧ NoAttr K C f ∧ fs.lookup f = some v ∧ Q v H1) : tFld K ta f σ H Q := q
theorem i_sFld {f : Str} (q : tb σ H fun y H1 => ta σ H1 fun x H2 => ∃ a C dx fs, x = .ref a ∧ H2 a = some (.ins C dx fs) ∧ Cls K C ∧ NoAttr K C f ∧ fs.length < 1000 ∧ D.nx σ (upd H2 a (.ins C dx (putF f y fs)))) : sFld K ta tb f D σ H := q
theorem i_tX {C : Addr} {f : Str} {QX : XK} (q : t σ H fun vs H1 => ∃ v, vs = [v] ∧ ∀ d, H1 d = none → QX (.ref C) (some d) (upd H1 d (.xd [(f, v)]))) : tX C f t σ H QX := q
theorem l_len2 {vs zs : List V} {n m : Nat} {R : Prop} (h1 : vs.length = n) (h2 : zs.length = m) (q : R) : vs.length = n ∧ zs.length = m ∧ R := ⟨h1, h2, q⟩
end
end G
set_option Elab.async false
set_option linter.all false
set_option maxRecDepth 100000
namespace G
open PySem PySem.Spec PyProof.Rows L2
theorem l_addL {K : PySem.W.Frag} {H : Hp} {a b : Addr} {xs ys : List V} {Q : VK} (h1 : H a = some (.lst xs)) (h2 : H b = some (.lst ys)) (hl : xs.length + ys.length ≤ 100000) (q : ∀ p, H p = none → Q (.ref p) (upd H p (.lst (xs ++ ys)))) : rAdd K (.ref a) (.ref b) H Q :=
  .inl ⟨a, b, xs, ys, rfl, rfl, h1, h2, sz hl, q⟩
theorem cut_map {α : Type} (f : α → V) (ns : List α) (lo hi : Option Int) : ∃ A : List α, cutV (ns.map f) lo hi = A.map f ∧ (∀ n ∈ A, n ∈ ns) ∧ A.length ≤ ns.length := by
  refine ⟨_, cutV_map f ns lo hi, fun n hn => List.mem_of_mem_drop (List.mem_of_mem_take hn), ?_⟩
  rw [List.length_take, List.length_drop]
  omega
theorem cut_lo (xs : List V) (k : Nat) (h : k ≤ xs.length) : cutV xs none (some (k : Int)) = xs.take k := by
  unfold cutV
  rw [HT.sIx_none, HT.sIx_nat, Nat.min_eq_left h, List.drop_zero, Nat.sub_zero]
theorem cut_hi (xs : List V) (k : Nat) (h : k ≤ xs.length) : cutV xs (some (k : Int)) none = xs.drop k := by
  unfold cutV
  rw [HT.sIx_none, HT.sIx_nat, Nat.min_eq_left h, List.take_of_length_le]
  rw [List.length_drop]
  exact Nat.le_refl _
/-! ### a dict of the written part, its keys texts -/
/-- at d: a written dict; m z: what stands at the key z -/
structure Wd (K : PySem.W.Frag) (w : World) (d : Addr) (m : Str → Option V) : Prop where
  ex : ∃ (es : Array DictEntry) (n : Nat), K.lookup d = some ⟨.type "dict", none, .dict es n, #[]⟩ ∧ PySem.W.KeysLit w.params es.toList ∧ (d == sysModules) = false ∧ ∀ z, RelO (m z) (findBy Value.isStrOf es z)
theorem wd_find : ∀ {es : List DictEntry} {kvs : List (Str × V)}, Paired (fun (e : DictEntry) (kv : Str × V) => (∃ t, e.key = .str kv.1 t) ∧ RelV kv.2 e.val) es kvs → ∀ z, RelO (kvs.lookup z) ((es.find? fun e => Value.isStrOf z e.key).map (·.val))
  | _, _, .nil, z => True.intro
  | e :: es, kv :: kvs, .cons ⟨⟨t, h1⟩, h2⟩ r, z => by
    obtain ⟨k, v⟩ := kv
    rw [lookup_put, List.find?_cons, h1]
    by_cases hz : z = k
    · subst hz
      rw [if_pos rfl, show Value.isStrOf z (.str z t) = true from beq_self_eq_true z]
      exact h2
    · rw [if_neg hz, show Value.isStrOf z (.str k t) = false from ?_]
      · exact wd_find r z
      · exact beq_eq_false_iff_ne.mpr fun e => hz e.symm
theorem wd_mk {K : PySem.W.Frag} {w : World} {d : Addr} {kvs : List (Str × V)} {es : List DictEntry} {n : Nat} (hl : K.lookup d = some ⟨.type "dict", none, .dict es.toArray n, #[]⟩) (hk : PySem.W.KeysLit w.params es) (hs : (d == sysModules) = false)
    (hp : Paired (fun (e : DictEntry) (kv : Str × V) => (∃ t, e.key = .str kv.1 t) ∧ RelV kv.2 e.val) es kvs) : Wd K w d (fun z => kvs.lookup z) :=
  ⟨es.toArray, n, hl, hk, hs, fun z => by unfold findBy; rw [List.find?_toArray]; exact wd_find hp z⟩
section
variable {X : Cx} {d : Addr} {m : Str → Option V}
theorem wd_in (D : Wd X.K X.w d m) : OpR X (compareOp .In) (fun x y H Q => ∃ z : Str, x = .str z ∧ y = .ref d ∧ Q (.bl (m z).isSome) H) := by
  intro pins s σ H x y v u Q I rx ry h
  obtain ⟨es, n, h1, h2, h3, h4⟩ := D.ex
  obtain ⟨z, rfl, rfl, q⟩ := h
  obtain ⟨t, rfl⟩ := rx
  cases ry
  refine wpAny_in_of (PySem.strKind_is X.prog X.w z t) h3 (PySem.W.mapOf_K (prog := X.prog) I.kIn h1 h2) ?_
  rw [← (h4 z).isSome_eq]
  exact ⟨.bl _, H, I.tok _, rfl, q⟩
theorem wd_notIn (D : Wd X.K X.w d m) : OpR X (compareOp .NotIn) (fun x y H Q => ∃ z : Str, x = .str z ∧ y = .ref d ∧ Q (.bl (!(m z).isSome)) H) := by
  intro pins s σ H x y v u Q I rx ry h
  obtain ⟨es, n, h1, h2, h3, h4⟩ := D.ex
  obtain ⟨z, rfl, rfl, q⟩ := h
  obtain ⟨t, rfl⟩ := rx
  cases ry
  refine wpAny_notIn_of (PySem.strKind_is X.prog X.w z t) h3 (PySem.W.mapOf_K (prog := X.prog) I.kIn h1 h2) ?_
  rw [← (h4 z).isSome_eq]
  exact ⟨.bl _, H, I.tok _, rfl, q⟩
theorem wd_ix (D : Wd X.K X.w d m) : IxR X (fun x y H Q => ∃ z v, x = .ref d ∧ y = .str z ∧ m z = some v ∧ Q v H) := by
  intro value slice pins s σ H x y v u Q I rx ry h hs
  obtain ⟨es, n, h1, h2, h3, h4⟩ := D.ex
  obtain ⟨z, r, rfl, rfl, e, q⟩ := h
  obtain rfl : v = Value.ref d := rx
  obtain ⟨t, rfl⟩ := ry
  have hm := PySem.W.mapOf_K (prog := X.prog) (w := X.w) I.kIn h1 h2
  have h5 := h4 z
  rw [e] at h5
  obtain ⟨u0, hu, ru⟩ := RelO.some_of h5
  exact tail_any hm.typeIs slot_dict_getitem.lookup (wpAny_getItem_of (strKind_is X.prog X.w z t) hm hu ⟨r, H, I.tok _, ru, q⟩) hs
/-- d.get(y, x) -/
def tWget (d : Addr) (m : Str → Option V) (td ty tx : TE) : TE := fun σ H Q => td σ H fun x H1 => x = .ref d ∧ ty σ H1 fun y H2 => tx σ H2 fun z H3 => ∃ k : Str, y = .str k ∧ Q ((m k).getD z) H3
theorem pe_wget {o e f : Expr} {td ty tx : TE} {apos cpos : Pos} (D : Wd X.K X.w d m) (ho : PE X o td) (he : PE X e ty) (hf : PE X f tx) (mm : M2 X o "get" apos e f cpos) : PE X (.Call (.Attribute o "get" apos) [e, f] [] cpos) (tWget d m td ty tx) := by
  obtain ⟨es, n, h1, h2, h3, h4⟩ := D.ex
  refine ⟨fun pins s σ H Q I h => ?_⟩
  refine wpAny_Call_method mm.base mm.few mm.line PySem.F.plainAttrs_dict PySem.F.slot_dict_get PySem.F.type_dict_get (thn (ho.run pins s σ H _ I h) fun u s1 ⟨x, H1, I1, rx, ex, q1⟩ => ?_)
  subst ex
  obtain rfl : u = Value.ref d := rx
  refine ⟨(PySem.W.mapOf_K (prog := X.prog) (w := X.w) I1.kIn h1 h2).typeIs, fun b q => ?_, ?_⟩
  · cases q
    exact ⟨_, I1.kIn _ _ h1, rfl⟩
  rw [mm.trees]
  refine Calls.callWith_builtin rfl (Calls.evalArgs_plain (Calls.spliced_cons (thn (he.run pins s1 σ H1 _ I1 q1) fun iv s2 ⟨y, H2, I2, ry, q2⟩ =>
    Calls.spliced_cons (thn (hf.run pins s2 σ H2 _ I2 q2) fun fv s3 ⟨z, H3, I3, rz, k, ek, q3⟩ => Calls.spliced_nil ?_))))
  subst ek
  obtain ⟨t, rfl⟩ := ry
  have hm := PySem.W.mapOf_K (prog := X.prog) (w := X.w) I3.kIn h1 h2
  exact call_meetsIn PySem.F.slot_dict_get hm.typeIs PySem.F.entry_dict_get (PySem.F.args_dict_get_3 _ _ _) (meets_dict_get_default (strKind X.prog X.w) d (strKind_is X.prog X.w k t) h3 fv) ⟨_, hm, ⟨_, H3, I3.tok _, (h4 k).getD rz, q3⟩⟩
end
/-! ### a text so many times -/
def rMulS : R2 := fun x y H Q => ∃ z n, x = .str z ∧ y = .int n ∧ MulOk z n ∧ Q (.str (Txt.mul z n)) H
theorem gMulS {X : Cx} : OpR X (binaryOp .Mult) rMulS := by
  intro pins s σ H x y v u Q I rx ry h
  obtain ⟨z, n, rfl, rfl, hok, q⟩ := h
  obtain ⟨t, rfl⟩ := rx
  obtain ⟨t', rfl⟩ := ry
  exact SB.mul hok fun t' k => ⟨.str (Txt.mul z n), H, I.tok _, ⟨_, rfl⟩, q⟩
end G
set_option Elab.async false
set_option linter.all false
set_option maxRecDepth 100000
namespace G
open PySem PySem.Spec PyProof.Rows L2
section
variable {X : Cx} {g : Bool} {k j : Nat} {f C : Addr} {fd : FuncData} {ps : List Str} {sp : Sp} {ds : List Value} {dvs : List V} {E : L2.St → XK} {pins : List (Addr × Obj)} {σ : L2.St} {H : Hp} {s : Shared} {Q : VK}
/-- a call's code, from around A1 -/
theorem code_at {A1 : Around} {us : List Value} {vs : List V} {R : Result → Shared → Prop} (F : Fg X.prog X.w X.K X.mg X.base g k f fd ps sp) (hr : Room k A1) (hg : g = true → A1.guards = some []) (hf : A1.frames = X.A.frames) (hb : Binds X.K fd ps ds) (hd : Vals dvs ds)
    (hx : PassesAt (L2.CX X.prog X.w) X σ (E σ)) (I : Inv X pins σ H s) (r : Vals vs us) (h : sp (vs ++ dvs) H Q (E σ)) (ok : ∀ u s', EP X pins σ Q u s' → R (.ok (.ret u)) s') (er : ∀ e s', X.xe e s' → R (.error e) s') :
    codeAny (model X.prog X.w) A1 (.call (.ref f) ⟨us, []⟩) R s := by
  have e := I.env0
  have e0 : Env0 X.prog X.w X.K X.mg X.base A1 X.stack s H := ⟨by rw [hf]; exact e.frames, e.mod, e.bs, e.bsz, e.funs, e.frf, e.hok, e.bare⟩
  have r2 := Vals.append r hd
  have hl : (us ++ ds).length = ps.length := by rw [← r2.length]; exact F.len _ _ _ _ h
  refine codeAny_mono (F.go A1 X.stack s H ⟨us, []⟩ _ _ Q (E σ) hr hg e0 (hb s us I.kIn hl) r2 h) fun r s' hq => ?_
  cases r with
  | error e => exact er e s' (hx pins H s e s' I hq)
  | ok fl =>
    cases fl with
    | ret u => exact ok u s' (I.after hq)
    | next => exact False.elim hq
    | brk => exact False.elim hq
    | cont => exact False.elim hq
end
/-! ### a property, read and set -/
structure PrpG (P : Program) (w : World) (K : PySem.W.Frag) (mg : Str → Option Value) (base : Heap) (k : Nat) (C : Addr) (f : Str) (sp : Sp) : Prop where
  ex : ∃ (p g : Addr) (fd : FuncData), Cls K C ∧ PropOf K C f p g ∧ FnOk P w K mg base CX0 k g fd ["self"] sp ∧ Binds K fd ["self"] []
/-- the property's record, its getter and its setter -/
structure Dp1 (K : PySem.W.Frag) (C : Addr) (f qual : Str) (st : Stmt) : Prop where
  ex : ∃ (p g : Addr) (fd : FuncData), Cls K C ∧ PropOf K C f p g ∧ Fun K f qual st g fd ∧ Binds K fd ["self"] []
structure Dp2 (K : PySem.W.Frag) (C : Addr) (f qual : Str) (st : Stmt) (ps : List Str) : Prop where
  ex : ∃ (p g : Addr) (fd : FuncData) (a : Value) (rest : List Value), Cls K C ∧ PySem.W.takerIn K C f = some (some (.ref p)) ∧ PySem.W.typeIn K (.ref p) = some (.type "property") ∧ PySem.W.recIn K p "property" = some (a :: .ref g :: rest) ∧ Fun K f qual st g fd ∧ Binds K fd ps []
structure StpG (P : Program) (w : World) (K : PySem.W.Frag) (mg : Str → Option Value) (base : Heap) (k : Nat) (C : Addr) (f : Str) (sp : Sp) (ps : List Str) : Prop where
  ex : ∃ (p g : Addr) (fd : FuncData) (a : Value) (rest : List Value), Cls K C ∧ PySem.W.takerIn K C f = some (some (.ref p)) ∧ PySem.W.typeIn K (.ref p) = some (.type "property") ∧ PySem.W.recIn K p "property" = some (a :: .ref g :: rest) ∧ Fg P w K mg base false k g fd ps sp ∧ Binds K fd ps []
def sStp (C : Addr) (sp : Sp) (E : L2.St → XK) (ta tv : TE) : TS := fun D σ H => tv σ H fun y H1 => ta σ H1 fun x H2 => ∃ a dx fs, x = .ref a ∧ H2 a = some (.ins C dx fs) ∧ sp [.ref a, y] H2 (fun _ H3 => D.nx σ H3) (E σ)
section
variable {P : Program} {w : World} {K : PySem.W.Frag} {mg : Str → Option Value} {base : Heap} {k : Nat} {C : Addr} {f qual : Str} {st : Stmt} {N ps : List Str} {sp : Sp}
theorem Dp1.prp (F : Dp1 K C f qual st) (S : FnScope N ["self"] (defScope st)) (len : ∀ vs H Q E, sp vs H Q E → vs.length = 1)
    (hbody : ∀ (fa : Addr) (cdv : Value) (A : Around) (outer : List Env) (s : Shared) (H : Hp) (vs : List V) (Q : VK) (E : XK), Room k (A.deeper (envOfC qual (defScope st) s.heap.objs.size fa cdv)) → sp vs H Q E →
      ∃ t, PSs (cxOf CX0 P w K mg base N qual (defScope st) fa cdv A outer s H E).nox (defBody st) t ∧ t { nx := fun _ H' => Q .non H', rt := Q } (start N vs) H) : PrpG P w K mg base (k + 1) C f sp := by
  obtain ⟨p, g, fd, c, hp, F1, b⟩ := F.ex
  exact ⟨p, g, fd, c, hp, F1.ok S len (hbody g), b⟩
theorem Dp2.stp (F : Dp2 K C f qual st ps) (S : FnScope N ps (defScope st)) (len : ∀ vs H Q E, sp vs H Q E → vs.length = ps.length) (hbody : ∀ f, BodyX P w K mg base false k N qual st f sp) : StpG P w K mg base (k + 1) C f sp ps := by
  obtain ⟨p, g, fd, a, rest, c, h1, h2, h3, F1, b⟩ := F.ex
  exact ⟨p, g, fd, a, rest, c, h1, h2, h3, fg_of F1 S len (hbody g), b⟩
end
section
variable {X : Cx} {k j : Nat} {C : Addr} {f : Str} {sp : Sp} {ps : List Str} {W : WX} {e o value : Expr} {ta tv te : TE} {pos pos' : Pos}
theorem pe_prp (c : PrpG X.prog X.w X.K X.mg X.base k C f sp) (hr : Room j X.A) (hk : k + 1 ≤ j) (he : PE X e ta) (hab : attributeBase e f X.env (eval e X.env) = eval e X.env := by rfl) : PE X (.Attribute e f pos) (tProp C sp [] (fun _ _ _ => False) ta) := by
  obtain ⟨p, g, fd, hc, hp, F, b⟩ := c.ex
  exact pe_prop he hc hp F (hr.mono hk) b .nil (fun _ _ _ _ _ _ _ z => (show False from z).elim) hab
theorem ps_stp (c : StpG X.prog X.w X.K X.mg X.base k C f sp ps) (hr : Room j X.A) (hk : k + 2 ≤ j) (tk : Takes X W) (ha : PE X o ta) (hv : PE X value tv) (hs : swapsWith value (some (.Attribute o f pos')) pos.line X.env = pure false) : PS X (.Assign [.Attribute o f pos'] value pos) (sStp C sp (WE W) ta tv) := by
  obtain ⟨p, g, fd, av, rest, hc, h1, h2, h3, F, b⟩ := c.ex
  refine ⟨fun pins s σ H D I h => plainObj_wpAny_Assign_Attribute (thn (hv.run pins s σ H _ I h) fun u s1 ⟨y, H1, I1, ry, q⟩ => thn (ha.run pins s1 σ H1 _ I1 q) fun ov s2 ⟨x, H2, I2, rx, a, dx, fs, ex, ea, q2⟩ => ?_) hs⟩
  subst ex
  obtain rfl : ov = Value.ref a := rx
  obtain ⟨mA, O, _⟩ := ins_get I2.hok ea
  obtain ⟨od, J, _⟩ := O.look
  obtain ⟨m', hF⟩ := I2.fr
  refine PySem.W.set_prop hF I2.ok.mod.kin J hc.sa hc.po h1 h2 h3 ?_
  exact code_at (ds := []) (dvs := []) (us := [.ref a, u]) (vs := [.ref a, y]) F (hr.mono hk).in1.in1 (fun e => nomatch e) rfl b .nil (passAt tk σ) (I2.tok _) (.cons rfl (.cons ry .nil)) q2 (fun u' s' ⟨v', H', I', r', q'⟩ => ⟨σ, H', I', q'⟩) fun _ _ z => z
/-! ### x += e by x's __iadd__ -/
def sIad (i : Nat) (C : Addr) (sp : Sp) (E : L2.St → XK) (te : TE) : TS := fun D σ H => ∃ v, σ[i]? = some (some v) ∧ te σ H fun y H1 => ∃ a dx fs, v = .ref a ∧ H1 a = some (.ins C dx fs) ∧ sp [.ref a, y] H1 (fun z H2 => D.nx (σ.set i (some z)) H2) (E σ)
theorem ps_iad {i : Nat} {x : Str} (c : MetG X.prog X.w X.K X.mg X.base false k C "__iadd__" sp ps) (hs : PySem.W.selfFirst X.K C = true) (hr : Room j X.A) (hk : k ≤ j) (tk : Takes X W) (hN : X.N.Nodup) (hi : X.N[i]? = some x) (hx : Loc X.env.scope x) (he : PE X e te)
    (hf : X.fn x = true ∨ X.env.scope.names.lookup x = some .local := by first | exact .inl rfl | exact .inr rfl | assumption) : PS X (.AugAssign (.Name x pos') .Add e pos) (sIad i C sp (WE W) te) := by
  obtain ⟨f, fd, hc, M, hfn, F, b⟩ := c.ex
  refine ⟨fun pins s σ H D I h => ?_⟩
  obtain ⟨v, e1, h⟩ := h
  obtain ⟨m, hn, hl⟩ := I.loc
  obtain ⟨u, r, l⟩ := hl i x v hi e1 (hx.elim (fun z => .inl z) fun z => .inr (.inl z))
  refine wpAny_AugAssign_Name ?_
  have go : wpAny (model X.prog X.w) X.A (eval e X.env) (fun w2 s₂ => wpAny (model X.prog X.w) X.A (inplaceOp .Add u w2) (fun r s₃ => wpAny (model X.prog X.w) X.A (storeName X.env x r) (fun _ => SP X pins D .next) X.xe s₃) X.xe s₂) X.xe s := by
    refine thn (he.run pins s σ H _ I h) fun w2 s1 ⟨y, H1, I1, r1, a, dx, fs, ex, ea, q1⟩ => ?_
    subst ex
    obtain rfl : u = Value.ref a := r
    obtain ⟨mA, O, _⟩ := ins_get I1.hok ea
    obtain ⟨od, J, _⟩ := O.look
    obtain ⟨m', hF⟩ := I1.fr
    refine PySem.W.ksp_inplace hF I1.ok.mod.kin J hs M.at_ M.fn ?_
    refine wpAny_mono (run_at (dvs := []) (ds := []) (A1 := X.A) (vs := [.ref a, y]) F (hr.mono hk) (fun e => nomatch e) rfl b .nil (passAt tk σ) I1 (.cons rfl (.cons r1 .nil)) q1) (fun u' s' ⟨v', H', I', r', q'⟩ => ?_) fun _ _ z => z
    exact cmpBack r' (store_ok I' hN hi hx r' (fun s3 I3 => ⟨_, H', I3, q'⟩) hf)
  rcases l with ⟨hk, hm⟩ | ⟨hk, c, hc, hcell⟩
  · exact wpAny_loadName_local I.ok.kind hk hn hm go
  · rcases hk with hk | hk
    · exact wpAny_loadName_cell I.ok.kind hk hc hcell go
    · rcases hx with k | k
      all_goals
        have z : X.env.scope.names.lookup x = some .free := hk
        rw [k] at z
        cases z
/-! ### f(), f an instance -/
structure CloG (P : Program) (w : World) (K : PySem.W.Frag) (mg : Str → Option Value) (base : Heap) (k : Nat) (C : Addr) (sp : Sp) : Prop where
  ex : ∃ (g : Addr) (fd : FuncData), StX.CallO K C g ∧ Fg P w K mg base false k g fd ["self"] sp ∧ Binds K fd ["self"] []
def tCO (C : Addr) (sp : Sp) (E : L2.St → XK) (tf : TE) : TE := fun σ H Q => tf σ H fun y H1 => ∃ a dx fs, y = V.ref a ∧ H1 a = some (.ins C dx fs) ∧ sp [V.ref a] H1 Q (E σ)
theorem pe_cO {fe : Expr} {tf : TE} (c : CloG X.prog X.w X.K X.mg X.base k C sp) (hr : Room j X.A) (hk : k ≤ j) (tk : Takes X W) (hf : PE X fe tf)
    (ht : eval (.Call fe [] [] pos) X.env = (do callWith pos (← eval fe X.env) [] (backTo pos (starEach [] X.env)) (backToKw pos (keywordEach [] X.env))) := by rfl) : PE X (.Call fe [] [] pos) (tCO C sp (WE W) tf) := by
  obtain ⟨g, fd, hc, F, b⟩ := c.ex
  refine ⟨fun pins s σ H Q I h => Call_ (thn (hf.run pins s σ H _ I h) fun u s1 ⟨y, H1, I1, ry, a, dx, fs, ey, ha, q⟩ => ?_) ht⟩
  subst ey
  obtain rfl : u = Value.ref a := ry
  obtain ⟨ox, od, J, hd⟩ := StX.insC_at (X := X) I1 (.inr ⟨dx, fs, ha⟩)
  refine StX.callO_of (args := []) rfl (evalArgs_nil3 ⟨⟨C, ox, od, J, hd⟩, ?_⟩)
  refine wpAny_call (PySem.W.kco_code I1.kIn J hd hc.at_ hc.fn hc.fi ?_)
  exact code_at (ds := []) (dvs := []) (us := [.ref a]) (vs := [.ref a]) F (hr.mono hk) (fun e => nomatch e) rfl b .nil (passAt tk σ) I1 (.cons rfl .nil) q (fun u' s' z => z) fun _ _ z => z
theorem MetG.clo {P : Program} {w : World} {K : PySem.W.Frag} {mg : Str → Option Value} {base : Heap} (c : MetG P w K mg base false k C "__call__" sp ["self"]) : CloG P w K mg base k C sp := by
  obtain ⟨f, fd, hc, M, hf, F, b⟩ := c.ex
  exact ⟨f, fd, ⟨M.at_, M.fn, hf⟩, F, b⟩
end
theorem kRev {X : Cx} {K : PySem.W.Frag} {e : Expr} {te : TE} {k : Nat} {p1 p2 p3 pos : Pos} (hK : X.K = K) (he : PE X e te) : PE X (.Subscript e (.Slice none none (some (.UnaryOp .USub (.Constant (.int 1) k p1) p2)) p3) pos) (tRevL K te) := by subst hK; exact pe_revL he
/-! steps -/
section
variable {K : PySem.W.Frag} {σ : L2.St} {H : Hp} {Q : VK} {ta tv te tf : TE} {D : Ends} {C : Addr} {sp : Sp} {E : L2.St → XK}
theorem i_stp (q : tv σ H fun y H1 => ta σ H1 fun x H2 => ∃ a dx fs, x = .ref a ∧ H2 a = some (.ins C dx fs) ∧ sp [.ref a, y] H2 (fun _ H3 => D.nx σ H3) (E σ)) : sStp C sp E ta tv D σ H := q
theorem i_iad {i : Nat} {v : V} (hv : σ[i]? = some (some v)) (q : te σ H fun y H1 => ∃ a dx fs, v = .ref a ∧ H1 a = some (.ins C dx fs) ∧ sp [.ref a, y] H1 (fun z H2 => D.nx (σ.set i (some z)) H2) (E σ)) : sIad i C sp E te D σ H := ⟨v, hv, q⟩
theorem i_cO (q : tf σ H fun y H1 => ∃ a dx fs, y = V.ref a ∧ H1 a = some (.ins C dx fs) ∧ sp [V.ref a] H1 Q (E σ)) : tCO C sp E tf σ H Q := q
theorem i_prp {dvs : List V} {E : XK} (q : ta σ H fun x H1 => ∃ a dx fs, x = .ref a ∧ H1 a = some (.ins C dx fs) ∧ sp (.ref a :: dvs) H1 Q E) : tProp C sp dvs E ta σ H Q := q
theorem i_mtS {m : Str} {t : TA} (q : ta σ H fun x H1 => ∃ a dx fs, x = .ref a ∧ H1 a = some (.ins C dx fs) ∧ fs.lookup m = none ∧ t σ H1 fun vs H2 => sp (.ref a :: vs) H2 Q (E σ)) : tMtS C m sp E ta t σ H Q := q
theorem i_fldaug {f : Str} {rd : V → V → Hp → VK → Prop} (q : ta σ H fun x H1 => ∃ a C dx fs v, x = .ref a ∧ H1 a = some (.ins C dx fs) ∧ Cls K C ∧ NoAttr K C f ∧ fs.lookup f = some v ∧
  tv σ H1 fun y H2 => rd v y H2 fun z H3 => ∃ dx' fs', H3 a = some (.ins C dx' fs') ∧ fs'.length < 1000 ∧ D.nx σ (upd H3 a (.ins C dx' (putF f z fs')))) : sFldAug K ta tv rd f D σ H := q
theorem i_par {i j : Nat} {t : TA} (q : t σ H fun vs H1 => ∃ v w, vs = [v, w] ∧ D.nx ((σ.set i (some v)).set j (some w)) H1) : tPar i j t D σ H := q
theorem i_par3 {i j l : Nat} {t : TA} (q : t σ H fun vs H1 => ∃ u v w, vs = [u, v, w] ∧ D.nx (((σ.set i (some u)).set j (some v)).set l (some w)) H1) : tPar3 i j l t D σ H := q
theorem i_revL (q : te σ H fun x H1 => ∃ a xs, x = .ref a ∧ SqL K H1 a xs ∧ ∀ p, H1 p = none → Q (.ref p) (upd H1 p (.lst xs.reverse))) : tRevL K te σ H Q := q
theorem l_slT {a : Addr} {xs : List V} {lo hi : Option Int} (h : SqT K H a xs) (q : ∀ p H', G.Ex H H' → SqT K H' p (cutV xs lo hi) → Q (.ref p) H') : rSlG K (.ref a) lo hi H Q := by
  refine .inr ⟨a, xs, rfl, h, fun ⟨h1, h2⟩ => q a H (Ex.refl H) ?_, fun _ p hp => q p _ (Ex.new hp) (.of upd_same)⟩
  rw [show cutV xs lo hi = xs by unfold cutV; rw [h1, h2, List.drop_zero, Nat.sub_zero, List.take_length]]
  exact h
theorem cut_take (xs : List V) (k : Nat) : cutV xs none (some (k : Int)) = xs.take k := by
  unfold cutV
  rw [HT.sIx_none, HT.sIx_nat, List.drop_zero, Nat.sub_zero, List.take_eq_take_iff]
  omega
end
end G
namespace K
open PySem PySem.Spec PyProof.Rows L2 G TL
local macro_rules | `(tactic| walk_at "side") => `(tactic| focus (first | assumption | exact rfl | omega | decide))
local macro_rules | `(tactic| walk_at "ty") => `(tactic| focus (first | exact .base (.str _) | exact .base (.int _) | exact .base (.bl _) | exact .base .non | exact .base (.lst (by assumption)) | exact .base (.tup (by assumption)) | exact .base (.dK (by assumption)) | assumption))
local macro_rules | `(tactic| walk_at "kt") => `(tactic| focus (with_reducible first | exact kt_NoneType_str | exact kt_NoneType_int | exact kt_NoneType_bool | exact kt_NoneType_tuple | exact kt_NoneType_list | exact kt_NoneType_dict | exact kt_bool_str | exact kt_bool_int | exact kt_bool_bool | exact kt_bool_tuple | exact kt_bool_list | exact kt_bool_dict | exact kt_int_str | exact kt_int_int | exact kt_int_bool | exact kt_int_tuple | exact kt_int_list | exact kt_int_dict | exact kt_str_str | exact kt_str_int | exact kt_str_bool | exact kt_str_tuple | exact kt_str_list | exact kt_str_dict | exact kt_list_str | exact kt_list_int | exact kt_list_bool | exact kt_list_tuple | exact kt_list_list | exact kt_list_dict | exact kt_tuple_str | exact kt_tuple_int | exact kt_tuple_bool | exact kt_tuple_tuple | exact kt_tuple_list | exact kt_tuple_dict | exact kt_dict_str | exact kt_dict_int | exact kt_dict_bool | exact kt_dict_tuple | exact kt_dict_list | exact kt_dict_dict | assumption))
local macro_rules | `(tactic| walk_at "1") => `(tactic| first
  | (with_reducible refine i_seq ?_)
  | (with_reducible refine iteT ?_)
  | (with_reducible refine iteF ?_)
  | (with_reducible refine iteNF ?_)
  | (with_reducible refine iteNT ?_)
  | (with_reducible refine i_asg ?_)
  | (with_reducible refine i_op ?_)
  | (with_reducible refine i_c ?_)
  | ((with_reducible apply i_var); (exact rfl))
  | (with_reducible refine i_cb ?_)
  | (with_reducible refine i_cons ?_)
  | (with_reducible refine i_nil ?_)
  | (with_reducible refine i_test ?_)
  | (with_reducible refine i_b ?_)
  | (with_reducible refine i_bl ?_)
  | (with_reducible refine i_name ?_)
  | (with_reducible refine i_ifS ?_)
  | (with_reducible refine i_next ?_)
  | (with_reducible refine i_ret ?_)
  | (with_reducible refine i_drop ?_)
  | (with_reducible refine i_lst ?_)
  | (with_reducible refine i_tup ?_)
  | (with_reducible refine i_and ?_)
  | (with_reducible refine i_or ?_)
  | (with_reducible refine i_not ?_)
  | (with_reducible refine i_andV ?_)
  | (with_reducible refine i_orV ?_)
  | (with_reducible refine i_notV ?_)
  | (with_reducible refine i_if ?_)
  | (with_reducible refine i_chain ?_)
  | (with_reducible refine i_un ?_)
  | (with_reducible refine i_neg ?_)
  | (with_reducible refine i_sub ?_)
  | (with_reducible refine i_sl ?_)
  | (with_reducible refine i_noP ?_)
  | (with_reducible refine i_part ?_)
  | (with_reducible refine i_int ?_)
  | (with_reducible refine i_bm ?_)
  | (with_reducible refine i_strT ?_)
  | (with_reducible refine i_yes ?_)
  | (with_reducible refine i_call ?_)
  | ((with_reducible refine i_len ?_ ?_); (focus (exact sz (by simp))))
  | (with_reducible refine i_lc ?_)
  | (with_reducible refine i_for ?_)
  | (with_reducible refine i_rng1 ?_)
  | (with_reducible refine i_rng2 ?_)
  | (with_reducible refine l_addI ?_)
  | (with_reducible refine l_subI ?_)
  | (with_reducible refine l_cmp ?_)
  | (with_reducible refine l_eqI ?_)
  | (with_reducible refine l_eqS ?_)
  | (with_reducible refine l_eqB ?_)
  | (with_reducible refine l_neI ?_)
  | (with_reducible refine l_neS ?_)
  | (with_reducible refine l_neB ?_)
  | (with_reducible refine l_isN ?_)
  | (with_reducible refine l_isNotN ?_)
  | (with_reducible refine l_isB ?_)
  | (with_reducible refine l_isNotB ?_)
  | (with_reducible refine l_intI ?_)
  | (with_reducible refine l_intB ?_)
  | (with_reducible refine l_inC ?_)
  | (refine ⟨_, _, rfl, rfl, sz (by first | omega | simp; omega), ?_⟩)
  | ((with_reducible refine l_pow ?_ ?_); (focus (exact ⟨by decide, by decide, by decide⟩)))
  | ((with_reducible refine l_mul ?_ ?_); (focus (first | assumption | exact Or.inl (Or.inl ⟨by omega, by omega⟩) | exact Or.inl (Or.inr ⟨by omega, by omega⟩))))
  | ((with_reducible refine l_div ?_ ?_); (focus (first | assumption | exact ⟨by decide, by decide⟩)))
  | ((with_reducible apply l_setL); (assumption); (exact rfl))
  | ((with_reducible refine l_mod ?_ ?_); (walk_at "side"))
  | ((with_reducible apply l_ixL); (assumption); (exact rfl))
  | ((with_reducible refine l_lenS ?_ ?_); (focus (first | assumption | exact sz (by omega) | exact sz (by simp; omega))))
  | ((with_reducible refine l_slS ?_ ?_); (focus (first | assumption | exact sz (by omega))))
  | ((with_reducible apply l_isi); (walk_at "ty"); (walk_at "kt"))
  | ((with_reducible apply l_lenL); (assumption)))
local macro_rules | `(tactic| walk_at "go") => `(tactic| repeat (walk_at "1"))
local macro_rules | `(tactic| walk_at "1") => `(tactic| first
  | (with_reducible refine i_mkS ?_)
  | (with_reducible refine i_cS ?_)
  | (with_reducible refine i_fld ?_)
  | (with_reducible refine i_sFld ?_)
  | (with_reducible refine i_tX ?_)
  | (with_reducible refine l_len2 rfl rfl ?_))
local macro_rules | `(tactic| walk_at "1") => `(tactic| first
  | (with_reducible refine i_stp ?_)
  | ((with_reducible apply i_iad); (exact rfl))
  | (with_reducible refine i_cO ?_)
  | (with_reducible refine i_prp ?_)
  | (with_reducible refine i_mtS ?_)
  | (with_reducible refine i_fldaug ?_)
  | (with_reducible refine i_par ?_)
  | (with_reducible refine i_par3 ?_)
  | (with_reducible refine i_revL ?_))
section
variable {P : Program} {w : World} {K : PySem.W.Frag} {mg : Str → Option Value} {base : Heap}
def topS (i : Nat) : Stmt := PySem.Challenge.pw_roundrules_k23_plays_and_cells.main.body.getD i (.Pass ⟨0, 0, 0, 0⟩)
abbrev s_BadNumber___init__ : Stmt := inClass (topS 2) 0
theorem sc_BadNumber___init__ : FnScope ["self", "value"] ["self", "value"] (defScope s_BadNumber___init__) := ⟨rfl, rfl, rfl, by decide +kernel, rfl, by decide +kernel, by decide +kernel⟩
abbrev s_BadPlay___init__ : Stmt := inClass (topS 3) 0
theorem sc_BadPlay___init__ : FnScope ["self", "value"] ["self", "value"] (defScope s_BadPlay___init__) := ⟨rfl, rfl, rfl, by decide +kernel, rfl, by decide +kernel, by decide +kernel⟩
abbrev s_is_integer : Stmt := topS 5
theorem sc_is_integer : FnScope ["value"] ["value"] (defScope s_is_integer) := ⟨rfl, rfl, rfl, by decide +kernel, rfl, by decide +kernel, by decide +kernel⟩
abbrev s_Play___init__ : Stmt := inClass (topS 7) 0
theorem sc_Play___init__ : FnScope ["self", "numbers", "outcomes", "number", "one"] ["self", "numbers", "outcomes"] (defScope s_Play___init__) := ⟨rfl, rfl, rfl, by decide +kernel, rfl, by decide +kernel, by decide +kernel⟩
abbrev s_Play___add__ : Stmt := inClass (topS 7) 1
theorem sc_Play___add__ : FnScope ["self", "other"] ["self", "other"] (defScope s_Play___add__) := ⟨rfl, rfl, rfl, by decide +kernel, rfl, by decide +kernel, by decide +kernel⟩
abbrev s_Play___eq__ : Stmt := inClass (topS 7) 2
theorem sc_Play___eq__ : FnScope ["self", "other"] ["self", "other"] (defScope s_Play___eq__) := ⟨rfl, rfl, rfl, by decide +kernel, rfl, by decide +kernel, by decide +kernel⟩
abbrev s_Cell___init__ : Stmt := inClass (topS 9) 0
theorem sc_Cell___init__ : FnScope ["self", "value"] ["self", "value"] (defScope s_Cell___init__) := ⟨rfl, rfl, rfl, by decide +kernel, rfl, by decide +kernel, by decide +kernel⟩
abbrev s_Cell_content : Stmt := inClass (topS 9) 1
theorem sc_Cell_content : FnScope ["self"] ["self"] (defScope s_Cell_content) := ⟨rfl, rfl, rfl, by decide +kernel, rfl, by decide +kernel, by decide +kernel⟩
abbrev s_Cell_content_set : Stmt := inClass (topS 9) 2
theorem sc_Cell_content_set : FnScope ["self", "value"] ["self", "value"] (defScope s_Cell_content_set) := ⟨rfl, rfl, rfl, by decide +kernel, rfl, by decide +kernel, by decide +kernel⟩
abbrev s_Cell_put : Stmt := inClass (topS 9) 3
theorem sc_Cell_put : FnScope ["self", "value"] ["self", "value"] (defScope s_Cell_put) := ⟨rfl, rfl, rfl, by decide +kernel, rfl, by decide +kernel, by decide +kernel⟩
abbrev s_Cell___iadd__ : Stmt := inClass (topS 9) 4
theorem sc_Cell___iadd__ : FnScope ["self", "value"] ["self", "value"] (defScope s_Cell___iadd__) := ⟨rfl, rfl, rfl, by decide +kernel, rfl, by decide +kernel, by decide +kernel⟩
abbrev s_Function___init__ : Stmt := inClass (topS 10) 0
theorem sc_Function___init__ : FnScope ["self", "cell"] ["self", "cell"] (defScope s_Function___init__) := ⟨rfl, rfl, rfl, by decide +kernel, rfl, by decide +kernel, by decide +kernel⟩
abbrev s_Function___call__ : Stmt := inClass (topS 10) 1
theorem sc_Function___call__ : FnScope ["self"] ["self"] (defScope s_Function___call__) := ⟨rfl, rfl, rfl, by decide +kernel, rfl, by decide +kernel, by decide +kernel⟩
abbrev s__law_pool : Stmt := topS 12
theorem sc__law_pool : FnScope ["_law_script", "_law_k", "_law_cell", "_law_great", "_law_seed"] ["_law_script", "_law_k"] (defScope s__law_pool) := ⟨rfl, rfl, rfl, by decide +kernel, rfl, by decide +kernel, by decide +kernel⟩
abbrev s__law_take : Stmt := topS 13
theorem sc__law_take : FnScope ["_law_pool_here", "_law_many", "_law_found"] ["_law_pool_here", "_law_many"] (defScope s__law_take) := ⟨rfl, rfl, rfl, by decide +kernel, rfl, by decide +kernel, by decide +kernel⟩
abbrev s__law_refused : Stmt := topS 14
theorem sc__law_refused : FnScope ["_law_numbers", "_law_outcomes", "e"] ["_law_numbers", "_law_outcomes"] (defScope s__law_refused) := ⟨rfl, rfl, rfl, by decide +kernel, rfl, by decide +kernel, by decide +kernel⟩
abbrev s__law_added : Stmt := topS 15
theorem sc__law_added : FnScope ["_law_cell", "_law_value", "e"] ["_law_cell", "_law_value"] (defScope s__law_added) := ⟨rfl, rfl, rfl, by decide +kernel, rfl, by decide +kernel, by decide +kernel⟩
abbrev s__law_given : Stmt := topS 16
theorem sc__law_given : FnScope ["_law_cell", "_law_value", "e"] ["_law_cell", "_law_value"] (defScope s__law_given) := ⟨rfl, rfl, rfl, by decide +kernel, rfl, by decide +kernel, by decide +kernel⟩
abbrev s__law_made : Stmt := topS 17
theorem sc__law_made : FnScope ["_law_value", "e"] ["_law_value"] (defScope s__law_made) := ⟨rfl, rfl, rfl, by decide +kernel, rfl, by decide +kernel, by decide +kernel⟩
abbrev s__law_plays_right : Stmt := topS 18
theorem sc__law_plays_right : FnScope ["_law_pool_here", "_law_numbers", "_law_turn", "_law_outcomes", "_law_play", "_law_other", "_law_kept", "_law_both", "_law_twist", "_law_number", "_law_yes"] ["_law_pool_here"] (defScope s__law_plays_right) := ⟨rfl, rfl, rfl, by decide +kernel, rfl, by decide +kernel, by decide +kernel⟩
abbrev s__law_odd_right : Stmt := topS 19
theorem sc__law_odd_right : FnScope ["_law_pool_here", "_law_bad", "_law_worse", "_law_one", "_law_other"] ["_law_pool_here"] (defScope s__law_odd_right) := ⟨rfl, rfl, rfl, by decide +kernel, rfl, by decide +kernel, by decide +kernel⟩
abbrev s_law : Stmt := topS 20
theorem sc_law : FnScope ["_law_script", "_law_k", "_law_pool_here", "_law_value", "_law_more", "_law_cell", "_law_second", "_law_shown", "_law_again", "_law_apart", "_law_odd"] ["_law_script"] (defScope s_law) := ⟨rfl, rfl, rfl, by decide +kernel, rfl, by decide +kernel, by decide +kernel⟩
/-- what the top has written -/
structure Tp (K : PySem.W.Frag) (mg : Str → Option Value) (C_RoundError C_BadNumber C_BadPlay C_Play d_Play_0 d_Play_1 C_Cell C_Function : Addr) : Prop where
  m_ValueError : mg "ValueError" = none
  m_abs : mg "abs" = none
  m_all : mg "all" = none
  m_bool : mg "bool" = none
  m_int : mg "int" = none
  m_isinstance : mg "isinstance" = none
  m_len : mg "len" = none
  m_list : mg "list" = none
  m_max : mg "max" = none
  m_min : mg "min" = none
  m_range : mg "range" = none
  m_repr : mg "repr" = none
  m_tuple : mg "tuple" = none
  k_RoundError : ∃ u, mg "RoundError" = some u ∧ RelV (.ref C_RoundError) u
  k_BadNumber : ∃ u, mg "BadNumber" = some u ∧ RelV (.ref C_BadNumber) u
  x_BadNumber : ∀ (P : Program) (w : World) (base : Heap), Oex P w K mg base "BadNumber" C_BadNumber "value"
  k_BadPlay : ∃ u, mg "BadPlay" = some u ∧ RelV (.ref C_BadPlay) u
  x_BadPlay : ∀ (P : Program) (w : World) (base : Heap), Oex P w K mg base "BadPlay" C_BadPlay "value"
  k_Play : ∃ u, mg "Play" = some u ∧ RelV (.ref C_Play) u
  cl_Play : Cls K C_Play
  n_Play_numbers : NoAttr K C_Play "numbers"
  n_Play_outcomes : NoAttr K C_Play "outcomes"
  ty_Play : ∀ (H : Hp) (a dx : Addr) (fs : List (Str × V)), H a = some (.ins C_Play dx fs) → TyX K H (.ref a) (.ref C_Play)
  sf_Play : PySem.W.selfFirst K C_Play = true
  ne_Play : PySem.W.findIn K (.ref C_Play) "__ne__" = some (some (.builtin "object.__ne__"))
  ob_Play : PySem.W.mroIn K C_Play (.type "object") = some true
  nf_Play_NoneType : PySem.W.subIn K (.type "NoneType") (.ref C_Play) = some false
  kt_Play_NoneType : PySem.W.kitOne K (.type "NoneType") (.ref C_Play) = some false
  nf_Play_list : PySem.W.subIn K (.type "list") (.ref C_Play) = some false
  kt_Play_list : PySem.W.kitOne K (.type "list") (.ref C_Play) = some false
  nf_Play_tuple : PySem.W.subIn K (.type "tuple") (.ref C_Play) = some false
  kt_Play_tuple : PySem.W.kitOne K (.type "tuple") (.ref C_Play) = some false
  nf_Play_str : PySem.W.subIn K (.type "str") (.ref C_Play) = some false
  kt_Play_str : PySem.W.kitOne K (.type "str") (.ref C_Play) = some false
  nf_Play_int : PySem.W.subIn K (.type "int") (.ref C_Play) = some false
  kt_Play_int : PySem.W.kitOne K (.type "int") (.ref C_Play) = some false
  nf_Play_bool : PySem.W.subIn K (.type "bool") (.ref C_Play) = some false
  kt_Play_bool : PySem.W.kitOne K (.type "bool") (.ref C_Play) = some false
  nf_Play_dict : PySem.W.subIn K (.type "dict") (.ref C_Play) = some false
  kt_Play_dict : PySem.W.kitOne K (.type "dict") (.ref C_Play) = some false
  i_Play : Dk K mg "Play" C_Play "Play.__init__" s_Play___init__ [.ref d_Play_0, .ref d_Play_1]
  td_Play_0 : ∀ H : Hp, SqT K H d_Play_0 []
  td_Play_1 : ∀ H : Hp, SqT K H d_Play_1 []
  m_Play___add__ : Dm K C_Play "__add__" "Play.__add__" s_Play___add__ ["self", "other"]
  m_Play___eq__ : Dm K C_Play "__eq__" "Play.__eq__" s_Play___eq__ ["self", "other"]
  k_Cell : ∃ u, mg "Cell" = some u ∧ RelV (.ref C_Cell) u
  cl_Cell : Cls K C_Cell
  n_Cell_held : NoAttr K C_Cell "held"
  ty_Cell : ∀ (H : Hp) (a dx : Addr) (fs : List (Str × V)), H a = some (.ins C_Cell dx fs) → TyX K H (.ref a) (.ref C_Cell)
  sf_Cell : PySem.W.selfFirst K C_Cell = true
  ne_Cell : PySem.W.findIn K (.ref C_Cell) "__ne__" = some (some (.builtin "object.__ne__"))
  ob_Cell : PySem.W.mroIn K C_Cell (.type "object") = some true
  nf_Cell_NoneType : PySem.W.subIn K (.type "NoneType") (.ref C_Cell) = some false
  kt_Cell_NoneType : PySem.W.kitOne K (.type "NoneType") (.ref C_Cell) = some false
  nf_Cell_list : PySem.W.subIn K (.type "list") (.ref C_Cell) = some false
  kt_Cell_list : PySem.W.kitOne K (.type "list") (.ref C_Cell) = some false
  nf_Cell_tuple : PySem.W.subIn K (.type "tuple") (.ref C_Cell) = some false
  kt_Cell_tuple : PySem.W.kitOne K (.type "tuple") (.ref C_Cell) = some false
  nf_Cell_str : PySem.W.subIn K (.type "str") (.ref C_Cell) = some false
  kt_Cell_str : PySem.W.kitOne K (.type "str") (.ref C_Cell) = some false
  nf_Cell_int : PySem.W.subIn K (.type "int") (.ref C_Cell) = some false
  kt_Cell_int : PySem.W.kitOne K (.type "int") (.ref C_Cell) = some false
  nf_Cell_bool : PySem.W.subIn K (.type "bool") (.ref C_Cell) = some false
  kt_Cell_bool : PySem.W.kitOne K (.type "bool") (.ref C_Cell) = some false
  nf_Cell_dict : PySem.W.subIn K (.type "dict") (.ref C_Cell) = some false
  kt_Cell_dict : PySem.W.kitOne K (.type "dict") (.ref C_Cell) = some false
  i_Cell : Dk K mg "Cell" C_Cell "Cell.__init__" s_Cell___init__ []
  p_Cell_content : Dp1 K C_Cell "content" "Cell.content" s_Cell_content
  p_Cell_content_set : Dp2 K C_Cell "content" "Cell.content" s_Cell_content_set ["self", "value"]
  m_Cell_put : Dm K C_Cell "put" "Cell.put" s_Cell_put ["self", "value"]
  m_Cell___iadd__ : Dm K C_Cell "__iadd__" "Cell.__iadd__" s_Cell___iadd__ ["self", "value"]
  k_Function : ∃ u, mg "Function" = some u ∧ RelV (.ref C_Function) u
  cl_Function : Cls K C_Function
  n_Function_cell : NoAttr K C_Function "cell"
  ty_Function : ∀ (H : Hp) (a dx : Addr) (fs : List (Str × V)), H a = some (.ins C_Function dx fs) → TyX K H (.ref a) (.ref C_Function)
  sf_Function : PySem.W.selfFirst K C_Function = true
  ne_Function : PySem.W.findIn K (.ref C_Function) "__ne__" = some (some (.builtin "object.__ne__"))
  ob_Function : PySem.W.mroIn K C_Function (.type "object") = some true
  nf_Function_NoneType : PySem.W.subIn K (.type "NoneType") (.ref C_Function) = some false
  kt_Function_NoneType : PySem.W.kitOne K (.type "NoneType") (.ref C_Function) = some false
  nf_Function_list : PySem.W.subIn K (.type "list") (.ref C_Function) = some false
  kt_Function_list : PySem.W.kitOne K (.type "list") (.ref C_Function) = some false
  nf_Function_tuple : PySem.W.subIn K (.type "tuple") (.ref C_Function) = some false
  kt_Function_tuple : PySem.W.kitOne K (.type "tuple") (.ref C_Function) = some false
  nf_Function_str : PySem.W.subIn K (.type "str") (.ref C_Function) = some false
  kt_Function_str : PySem.W.kitOne K (.type "str") (.ref C_Function) = some false
  nf_Function_int : PySem.W.subIn K (.type "int") (.ref C_Function) = some false
  kt_Function_int : PySem.W.kitOne K (.type "int") (.ref C_Function) = some false
  nf_Function_bool : PySem.W.subIn K (.type "bool") (.ref C_Function) = some false
  kt_Function_bool : PySem.W.kitOne K (.type "bool") (.ref C_Function) = some false
  nf_Function_dict : PySem.W.subIn K (.type "dict") (.ref C_Function) = some false
  kt_Function_dict : PySem.W.kitOne K (.type "dict") (.ref C_Function) = some false
  i_Function : Dk K mg "Function" C_Function "Function.__init__" s_Function___init__ []
  m_Function___call__ : Dm K C_Function "__call__" "Function.__call__" s_Function___call__ ["self"]
  kx_BadPlay_RoundError : PySem.W.kitOne K (.ref C_BadPlay) (.ref C_RoundError) = some true
  kx_BadPlay_ValueError : PySem.W.kitOne K (.ref C_BadPlay) (.type "ValueError") = some true
  kx_BadNumber_RoundError : PySem.W.kitOne K (.ref C_BadNumber) (.ref C_RoundError) = some true
  xm_BadPlay : PySem.W.exmOne K (.ref C_BadPlay) (.ref C_BadPlay) = some true
  xm_BadNumber : PySem.W.exmOne K (.ref C_BadNumber) (.ref C_BadNumber) = some true
  d_is_integer : Dd K mg "is_integer" s_is_integer ["value"]
  d__law_pool : Dd K mg "_law_pool" s__law_pool ["_law_script", "_law_k"]
  d__law_take : Dd K mg "_law_take" s__law_take ["_law_pool_here", "_law_many"]
  d__law_refused : Dd K mg "_law_refused" s__law_refused ["_law_numbers", "_law_outcomes"]
  d__law_added : Dd K mg "_law_added" s__law_added ["_law_cell", "_law_value"]
  d__law_given : Dd K mg "_law_given" s__law_given ["_law_cell", "_law_value"]
  d__law_made : Dd K mg "_law_made" s__law_made ["_law_value"]
  d__law_plays_right : Dd K mg "_law_plays_right" s__law_plays_right ["_law_pool_here"]
  d__law_odd_right : Dd K mg "_law_odd_right" s__law_odd_right ["_law_pool_here"]
  d_law : Dd K mg "law" s_law ["_law_script"]
end
end K
namespace K
open PySem PySem.Spec PyProof.Rows L2 G TL
local macro_rules | `(tactic| walk_at "side") => `(tactic| focus (first | assumption | exact rfl | omega | decide))
local macro_rules | `(tactic| walk_at "ty") => `(tactic| focus (first | exact .base (.str _) | exact .base (.int _) | exact .base (.bl _) | exact .base .non | exact .base (.lst (by assumption)) | exact .base (.tup (by assumption)) | exact .base (.dK (by assumption)) | assumption))
local macro_rules | `(tactic| walk_at "kt") => `(tactic| focus (with_reducible first | exact kt_NoneType_str | exact kt_NoneType_int | exact kt_NoneType_bool | exact kt_NoneType_tuple | exact kt_NoneType_list | exact kt_NoneType_dict | exact kt_bool_str | exact kt_bool_int | exact kt_bool_bool | exact kt_bool_tuple | exact kt_bool_list | exact kt_bool_dict | exact kt_int_str | exact kt_int_int | exact kt_int_bool | exact kt_int_tuple | exact kt_int_list | exact kt_int_dict | exact kt_str_str | exact kt_str_int | exact kt_str_bool | exact kt_str_tuple | exact kt_str_list | exact kt_str_dict | exact kt_list_str | exact kt_list_int | exact kt_list_bool | exact kt_list_tuple | exact kt_list_list | exact kt_list_dict | exact kt_tuple_str | exact kt_tuple_int | exact kt_tuple_bool | exact kt_tuple_tuple | exact kt_tuple_list | exact kt_tuple_dict | exact kt_dict_str | exact kt_dict_int | exact kt_dict_bool | exact kt_dict_tuple | exact kt_dict_list | exact kt_dict_dict | assumption))
local macro_rules | `(tactic| walk_at "1") => `(tactic| first
  | (with_reducible refine i_seq ?_)
  | (with_reducible refine iteT ?_)
  | (with_reducible refine iteF ?_)
  | (with_reducible refine iteNF ?_)
  | (with_reducible refine iteNT ?_)
  | (with_reducible refine i_asg ?_)
  | (with_reducible refine i_op ?_)
  | (with_reducible refine i_c ?_)
  | ((with_reducible apply i_var); (exact rfl))
  | (with_reducible refine i_cb ?_)
  | (with_reducible refine i_cons ?_)
  | (with_reducible refine i_nil ?_)
  | (with_reducible refine i_test ?_)
  | (with_reducible refine i_b ?_)
  | (with_reducible refine i_bl ?_)
  | (with_reducible refine i_name ?_)
  | (with_reducible refine i_ifS ?_)
  | (with_reducible refine i_next ?_)
  | (with_reducible refine i_ret ?_)
  | (with_reducible refine i_drop ?_)
  | (with_reducible refine i_lst ?_)
  | (with_reducible refine i_tup ?_)
  | (with_reducible refine i_and ?_)
  | (with_reducible refine i_or ?_)
  | (with_reducible refine i_not ?_)
  | (with_reducible refine i_andV ?_)
  | (with_reducible refine i_orV ?_)
  | (with_reducible refine i_notV ?_)
  | (with_reducible refine i_if ?_)
  | (with_reducible refine i_chain ?_)
  | (with_reducible refine i_un ?_)
  | (with_reducible refine i_neg ?_)
  | (with_reducible refine i_sub ?_)
  | (with_reducible refine i_sl ?_)
  | (with_reducible refine i_noP ?_)
  | (with_reducible refine i_part ?_)
  | (with_reducible refine i_int ?_)
  | (with_reducible refine i_bm ?_)
  | (with_reducible refine i_strT ?_)
  | (with_reducible refine i_yes ?_)
  | (with_reducible refine i_call ?_)
  | ((with_reducible refine i_len ?_ ?_); (focus (exact sz (by simp))))
  | (with_reducible refine i_lc ?_)
  | (with_reducible refine i_for ?_)
  | (with_reducible refine i_rng1 ?_)
  | (with_reducible refine i_rng2 ?_)
  | (with_reducible refine l_addI ?_)
  | (with_reducible refine l_subI ?_)
  | (with_reducible refine l_cmp ?_)
  | (with_reducible refine l_eqI ?_)
  | (with_reducible refine l_eqS ?_)
  | (with_reducible refine l_eqB ?_)
  | (with_reducible refine l_neI ?_)
  | (with_reducible refine l_neS ?_)
  | (with_reducible refine l_neB ?_)
  | (with_reducible refine l_isN ?_)
  | (with_reducible refine l_isNotN ?_)
  | (with_reducible refine l_isB ?_)
  | (with_reducible refine l_isNotB ?_)
  | (with_reducible refine l_intI ?_)
  | (with_reducible refine l_intB ?_)
  | (with_reducible refine l_inC ?_)
  | (refine ⟨_, _, rfl, rfl, sz (by first | omega | simp; omega), ?_⟩)
  | ((with_reducible refine l_pow ?_ ?_); (focus (exact ⟨by decide, by decide, by decide⟩)))
  | ((with_reducible refine l_mul ?_ ?_); (focus (first | assumption | exact Or.inl (Or.inl ⟨by omega, by omega⟩) | exact Or.inl (Or.inr ⟨by omega, by omega⟩))))
  | ((with_reducible refine l_div ?_ ?_); (focus (first | assumption | exact ⟨by decide, by decide⟩)))
  | ((with_reducible apply l_setL); (assumption); (exact rfl))
  | ((with_reducible refine l_mod ?_ ?_); (walk_at "side"))
  | ((with_reducible apply l_ixL); (assumption); (exact rfl))
  | ((with_reducible refine l_lenS ?_ ?_); (focus (first | assumption | exact sz (by omega) | exact sz (by simp; omega))))
  | ((with_reducible refine l_slS ?_ ?_); (focus (first | assumption | exact sz (by omega))))
  | ((with_reducible apply l_isi); (walk_at "ty"); (walk_at "kt"))
  | ((with_reducible apply l_lenL); (assumption)))
local macro_rules | `(tactic| walk_at "go") => `(tactic| repeat (walk_at "1"))
local macro_rules | `(tactic| walk_at "1") => `(tactic| first
  | (with_reducible refine i_mkS ?_)
  | (with_reducible refine i_cS ?_)
  | (with_reducible refine i_fld ?_)
  | (with_reducible refine i_sFld ?_)
  | (with_reducible refine i_tX ?_)
  | (with_reducible refine l_len2 rfl rfl ?_))
local macro_rules | `(tactic| walk_at "1") => `(tactic| first
  | (with_reducible refine i_stp ?_)
  | ((with_reducible apply i_iad); (exact rfl))
  | (with_reducible refine i_cO ?_)
  | (with_reducible refine i_prp ?_)
  | (with_reducible refine i_mtS ?_)
  | (with_reducible refine i_fldaug ?_)
  | (with_reducible refine i_par ?_)
  | (with_reducible refine i_par3 ?_)
  | (with_reducible refine i_revL ?_))
section
variable {P : Program} {w : World} {K : PySem.W.Frag} {mg : Str → Option Value} {base : Heap}
def spInt (K : PySem.W.Frag) : Sp := fun vs H Q _ => ∃ x, vs = [x] ∧ Kd K H x ∧ Q (.bl (isI x)) H
theorem ok_int {C_RoundError C_BadNumber C_BadPlay C_Play d_Play_0 d_Play_1 C_Cell C_Function : Addr} (T : Tp K mg C_RoundError C_BadNumber C_BadPlay C_Play d_Play_0 d_Play_1 C_Cell C_Function) : Cal P w K mg base 1 "is_integer" (spInt K) [] := by
  refine T.d_is_integer.cal sc_is_integer (fun vs H Q E h => ?_) (fun f cdv A outer s H vs Q E hr h => ?_)
  · obtain ⟨x, rfl, _⟩ := h
    rfl
  · obtain ⟨x, rfl, hk, q⟩ := h
    have sc := sc_is_integer
    refine ⟨_, 
    (pss_one (ps_ret (pe_and (pe_callB (kIsi (K := K) rfl) (by rfl) T.m_isinstance (by decide +kernel) (pa_cons (pv 0) (pa_cons (gTy (n := "int") (by rfl) T.m_int (by decide +kernel)) pa_nil))) (pe_one (pe_not (pe_callB (kIsi (K := K) rfl) (by rfl) T.m_isinstance (by decide +kernel) (pa_cons (pv 0) (pa_cons (gTy (n := "bool") (by rfl) T.m_bool (by decide +kernel)) pa_nil)))))))), ?_⟩
    try rw [cxK]
    refine i_start (τ := [some x]) rfl ?_
    obtain ⟨t, ty, ⟨b, e1, e2⟩, e3, _⟩ := hk.is
    walk_at "go"
    refine i_iteB (fun eb => ?_) (fun eb => ?_)
    · walk_at "go"
      rw [e2, eb] at q
      exact q
    · rw [e2, eb] at q
      exact q
/-- what numbers, outcomes must be -/
def Bad (K : PySem.W.Frag) (H : Hp) (p : V → Bool) (v : V) : Prop := (flatV v = true ∨ ∃ p kvs, v = .ref p ∧ H p = some (.dK kvs)) ∨ ∃ xs, Sq K H v xs ∧ xs.length ≤ 1000 ∧ (∀ x ∈ xs, Kd K H x) ∧ xs.all p = false
theorem Bad.mono {K : PySem.W.Frag} {H H' : Hp} {p : V → Bool} {v : V} (h : Bad K H p v) (e : Ex H H') : Bad K H' p v := by
  rcases h with (h | ⟨a, kvs, rfl, h⟩) | ⟨xs, hs, hl, hk, ha⟩
  · exact .inl (.inl h)
  · exact .inl (.inr ⟨a, kvs, rfl, e _ _ h⟩)
  · exact .inr ⟨xs, hs.mono e, hl, fun x hx => (hk x hx).mono e, ha⟩
def plF (p q : Addr) : List (Str × V) := putF "outcomes" (.ref q) (putF "numbers" (.ref p) [])
def spPlay (K : PySem.W.Frag) (C CB : Addr) : Sp := fun vs H Q E => ∃ x dx no oo, vs = [.ref x, no, oo] ∧ H x = some (.ins C dx []) ∧
  ((∃ (ns : List Int) (bs : List Bool), Sq K H no (ns.map V.int) ∧ Sq K H oo (bs.map V.bl) ∧ ns.length ≤ 1000 ∧ bs.length ≤ 1000 ∧ ∀ H' p q, But x H H' → H' x = some (.ins C dx (plF p q)) → SqT K H' p (ns.map V.int) → SqT K H' q (bs.map V.bl) → Q .non H') ∨
    (Bad K H isI no ∧ ∀ H1 d, Ex H H1 → H1 d = none → E (.ref CB) (some d) (upd H1 d (.xd [("value", no)]))) ∨
    (∃ ns : List Int, Sq K H no (ns.map V.int) ∧ ns.length ≤ 1000 ∧ Bad K H isB oo ∧ ∀ H1 d, Ex H H1 → H1 d = none → E (.ref CB) (some d) (upd H1 d (.xd [("value", oo)]))))
/-- not isinstance(v, (tuple, list)) or not all([.. for x in v]) -/
abbrev tTst (K : PySem.W.Frag) (k i : Nat) (te : TE) (vs : List Nat) : TT := tOr (tNot (tB (tCB (rIsiA K) (tCons (tVar k) (tCons (tTup (tCons (tC (V.ty "tuple")) (tCons (tC (V.ty "list")) tNil))) tNil)))))
  (tNot (tB (tCB (rAll K) (tCons (tLc (iAny K (tVar k)) (gName i) tYes te vs) tNil))))
theorem tst_ty {K : PySem.W.Frag} {H : Hp} {v : V} {T : String} {b : Bool} {p : Addr} {Q : VK} (ty : TyX K (upd H p (.tup [.ty "tuple", .ty "list"])) v (.type T)) (e : PySem.W.kitAny K (.type T) [.type "tuple", .type "list"] = some b) (q : Q (.bl b) (upd H p (.tup [.ty "tuple", .ty "list"]))) : rIsiA K [v, .ref p] (upd H p (.tup [.ty "tuple", .ty "list"])) Q :=
  .inr ⟨v, p, [.ty "tuple", .ty "list"], .type T, _, b, rfl, upd_same, .cons (.ty _) (.cons (.ty _) .nil), ty, e, q⟩
section
variable {k i : Nat} {te : TE} {vs : List Nat} {σ : L2.St} {H : Hp} {QB : Bool → Hp → Prop} {v : V} {xs : List V} {p : V → Bool}
theorem tst_sq (hv : σ[k]? = some (some v)) (hs : Sq K H v xs) (hlen : xs.length ≤ 1000) (hw : ∀ x, wipe ((wipe σ vs).set i (some x)) vs = wipe σ vs)
    (hte : ∀ x ∈ xs, ∀ H' R, Ex H H' → (∀ H'', Ex H' H'' → R (V.bl (p x)) H'') → te ((wipe σ vs).set i (some x)) H' R) (q : ∀ H1, Ex H H1 → QB (!xs.all p) H1) : tTst K k i te vs σ H QB := by
  have go : ∀ p', H p' = none → ∃ T, TyX K (upd H p' (.tup [.ty "tuple", .ty "list"])) v (.type T) ∧ PySem.W.kitAny K (.type T) [.type "tuple", .type "list"] = some true := fun p' hp => by
    obtain ⟨a, rfl, h | h⟩ := hs
    · exact ⟨_, tyL (sqL_mono (Ex.new hp) h), kitAny_cons kt_list_tuple (fun _ => kitAny_cons kt_list_list (fun e => nomatch e) fun _ => rfl) (fun e => nomatch e)⟩
    · exact ⟨_, tyT (sqT_mono (Ex.new hp) h), kitAny_cons kt_tuple_tuple (fun e => nomatch e) fun _ => rfl⟩
  refine i_or (i_not (i_b (i_cb (i_cons (i_var hv (i_cons (i_tup (i_cons (i_c (i_cons (i_c (i_nil (i_len (sz (by simp)) fun p' hp => ?_)))))))))))))
  obtain ⟨T, ty, e⟩ := go p' hp
  refine i_nil (tst_ty ty e (i_bl ?_))
  refine iteNT (i_not (i_b (i_cb (i_cons (i_lc (lc_var (f := fun x => .bl (p x)) hv (hs.mono (Ex.new hp)) hlen hw (fun x hx H' R e => hte x hx H' R ((Ex.new hp).trans e)) fun D H' hD e hl => ?_))))))
  refine i_nil ⟨D, xs.map p, rfl, .of (by rw [hl, List.map_map]; rfl), i_bl ?_⟩
  rw [List.all_map]
  exact q H' ((Ex.new hp).trans e)
theorem tst_no {T : String} (hv : σ[k]? = some (some v)) (ty : ∀ H', Ex H H' → TyX K H' v (.type T)) (hT : PySem.W.kitAny K (.type T) [.type "tuple", .type "list"] = some false) (q : ∀ H1, Ex H H1 → QB true H1) : tTst K k i te vs σ H QB := by
  refine i_or (i_not (i_b (i_cb (i_cons (i_var hv (i_cons (i_tup (i_cons (i_c (i_cons (i_c (i_nil (i_len (sz (by simp)) fun p' hp => ?_)))))))))))))
  exact i_nil (tst_ty (ty _ (Ex.new hp)) hT (i_bl (iteNF (q _ (Ex.new hp)))))
theorem bad_ty (h : flatV v = true ∨ ∃ p kvs, v = .ref p ∧ H p = some (.dK kvs)) : ∃ T, (∀ H', Ex H H' → TyX K H' v (.type T)) ∧ PySem.W.kitAny K (.type T) [.type "tuple", .type "list"] = some false := by
  have mk : ∀ {T : String}, PySem.W.kitOne K (.type T) (.type "tuple") = some false → PySem.W.kitOne K (.type T) (.type "list") = some false → PySem.W.kitAny K (.type T) [.type "tuple", .type "list"] = some false := fun a b => kitAny_cons a (fun _ => kitAny_cons b (fun _ => rfl) fun e => nomatch e) fun e => nomatch e
  rcases h with h | ⟨p, kvs, rfl, h⟩
  · cases v with
    | non => exact ⟨_, fun _ _ => .base .non, mk kt_NoneType_tuple kt_NoneType_list⟩
    | bl b => exact ⟨_, fun _ _ => .base (.bl b), mk kt_bool_tuple kt_bool_list⟩
    | int i => exact ⟨_, fun _ _ => .base (.int i), mk kt_int_tuple kt_int_list⟩
    | str z => exact ⟨_, fun _ _ => .base (.str z), mk kt_str_tuple kt_str_list⟩
    | byt b => cases h
    | flt b => cases h
    | ref b => cases h
    | ty b => cases h
  · exact ⟨_, fun _ e => .base (.dK (e _ _ h)), mk kt_dict_tuple kt_dict_list⟩
theorem tst_bad (hv : σ[k]? = some (some v)) (hb : Bad K H p v) (hw : ∀ x, wipe ((wipe σ vs).set i (some x)) vs = wipe σ vs)
    (hte : ∀ x, Kd K H x → ∀ H' R, Ex H H' → (∀ H'', Ex H' H'' → R (V.bl (p x)) H'') → te ((wipe σ vs).set i (some x)) H' R) (q : ∀ H1, Ex H H1 → QB true H1) : tTst K k i te vs σ H QB := by
  rcases hb with h | ⟨xs, hs, hl, hk, ha⟩
  · obtain ⟨T, ty, e⟩ := bad_ty (K := K) h
    exact tst_no hv ty e q
  · exact tst_sq hv hs hl hw (fun x hx => hte x (hk x hx)) (by rw [ha]; exact q)
end
theorem ok_init {C_RoundError C_BadNumber C_BadPlay C_Play d_Play_0 d_Play_1 C_Cell C_Function : Addr} (T : Tp K mg C_RoundError C_BadNumber C_BadPlay C_Play d_Play_0 d_Play_1 C_Cell C_Function) : Ini P w K mg base 3 "Play" C_Play "Play.__init__" s_Play___init__ [.ref d_Play_0, .ref d_Play_1] ["self", "numbers", "outcomes"] (spPlay K C_Play C_BadPlay) := by
  have c_is_integer : Cal P w K mg base 1 "is_integer" (spInt K) [] := ok_int T
  refine T.i_Play.ini sc_Play___init__ (fun vs H Q E h => ?_) (fun f cdv A outer s H vs Q E hr _ h => ?_)
  · obtain ⟨x, dx, no, oo, rfl, _⟩ := h
    rfl
  · obtain ⟨x, dx, no, oo, rfl, hx, h⟩ := h
    have sc := sc_Play___init__
    refine ⟨_, 
    (pss_cons (ps_if (pt_cut (PW.pt (pw_or (pt_not (pt_val (pe_callB (kIsi (K := K) rfl) (by rfl) T.m_isinstance (by decide +kernel) (pa_cons (pv 1) (pa_cons (pe_tup (pa_cons (gTy (n := "tuple") (by rfl) T.m_tuple (by decide +kernel)) (pa_cons (gTy (n := "list") (by rfl) T.m_list (by decide +kernel)) pa_nil))) pa_nil))))) (pw_or1 (pt_not (pt_val (pe_callB (cr_all rfl) (by rfl) T.m_all (by decide +kernel) (pa_cons (pe_lc (own := [("number", 3)]) (by rfl) sc.nd (kIT (K := K) rfl (pv 1)) (blkOk_by (N := ["self", "numbers", "outcomes", "number", "one"]) (sc := defScope s_Play___init__) (by decide +kernel)) (fun _ _ _ _ _ => pg_name (i := 3) sc.nd rfl (by first | exact Or.inl rfl | exact Or.inr rfl)) (fun _ _ _ _ _ => pts_nil) (fun _ _ _ _ _ => pe_c c_is_integer hr (by decide) (by rfl) (pa_cons (pv 3) pa_nil))) pa_nil)))))))) (
      (pss_one (ps_raise rfl (takes_of rfl rfl rfl rfl) (pmk_x (T.x_BadPlay P w base) hr (by decide) (by rfl) (pa_cons (pv 1) pa_nil))))) (pss_nil))
    (pss_cons (ps_if (pt_cut (PW.pt (pw_or (pt_not (pt_val (pe_callB (kIsi (K := K) rfl) (by rfl) T.m_isinstance (by decide +kernel) (pa_cons (pv 2) (pa_cons (pe_tup (pa_cons (gTy (n := "tuple") (by rfl) T.m_tuple (by decide +kernel)) (pa_cons (gTy (n := "list") (by rfl) T.m_list (by decide +kernel)) pa_nil))) pa_nil))))) (pw_or1 (pt_not (pt_val (pe_callB (cr_all rfl) (by rfl) T.m_all (by decide +kernel) (pa_cons (pe_lc (own := [("one", 4)]) (by rfl) sc.nd (kIT (K := K) rfl (pv 2)) (blkOk_by (N := ["self", "numbers", "outcomes", "number", "one"]) (sc := defScope s_Play___init__) (by decide +kernel)) (fun _ _ _ _ _ => pg_name (i := 4) sc.nd rfl (by first | exact Or.inl rfl | exact Or.inr rfl)) (fun _ _ _ _ _ => pts_nil) (fun _ _ _ _ _ => pe_callB (kIsi (K := K) rfl) (by rfl) T.m_isinstance (by decide +kernel) (pa_cons (pv 4) (pa_cons (gTy (n := "bool") (by rfl) T.m_bool (by decide +kernel)) pa_nil)))) pa_nil)))))))) (
      (pss_one (ps_raise rfl (takes_of rfl rfl rfl rfl) (pmk_x (T.x_BadPlay P w base) hr (by decide) (by rfl) (pa_cons (pv 2) pa_nil))))) (pss_nil))
    (pss_cons (ps_fld (pv 0) (pe_callTy (k_tuple (K := K) rfl) (by rfl) T.m_tuple (by decide +kernel) (pa_cons (pv 1) pa_nil)) rfl)
    (pss_one (ps_fld (pv 0) (pe_callTy (k_tuple (K := K) rfl) (by rfl) T.m_tuple (by decide +kernel) (pa_cons (pv 2) pa_nil)) rfl))))), ?_⟩
    try rw [cxK]
    refine i_start (τ := [some (.ref x), some no, some oo, none, none]) rfl ?_
    have hwN : ∀ y, wipe ((wipe [some (V.ref x), some no, some oo, none, none] [3]).set 3 (some y)) [3] = wipe [some (V.ref x), some no, some oo, none, none] [3] := fun _ => rfl
    have hwO : ∀ y, wipe ((wipe [some (V.ref x), some no, some oo, none, none] [4]).set 4 (some y)) [4] = wipe [some (V.ref x), some no, some oo, none, none] [4] := fun _ => rfl
    have teN : ∀ (H0 : Hp) (y : V), Kd K H0 y → ∀ H' (R : VK), Ex H0 H' → (∀ H'', Ex H' H'' → R (V.bl (isI y)) H'') → tCall (spInt K) [] E0 (tCons (tVar 3) tNil) ((wipe [some (V.ref x), some no, some oo, none, none] [3]).set 3 (some y)) H' R :=
      fun H0 y hk H' R e r => i_call (i_cons (i_var rfl (i_nil ⟨y, rfl, hk.mono e, r H' (Ex.refl H')⟩)))
    have teO : ∀ (H0 : Hp) (y : V), Kd K H0 y → ∀ H' (R : VK), Ex H0 H' → (∀ H'', Ex H' H'' → R (V.bl (isB y)) H'') → tCB (rIsiA K) (tCons (tVar 4) (tCons (tC (V.ty "bool")) tNil)) ((wipe [some (V.ref x), some no, some oo, none, none] [4]).set 4 (some y)) H' R :=
      fun H0 y hk H' R e r => by
        obtain ⟨t, ty, _, e3, _⟩ := (hk.mono e).is
        exact i_cb (i_cons (i_var rfl (i_cons (i_c (i_nil (l_isi ty e3 (r H' (Ex.refl H'))))))))
    have kI : ∀ (H0 : Hp) (ns : List Int), ∀ y ∈ ns.map V.int, Kd K H0 y := fun H0 ns y hy => by
      obtain ⟨n, _, rfl⟩ := List.mem_map.mp hy
      exact .inl rfl
    have kB : ∀ (H0 : Hp) (bs : List Bool), ∀ y ∈ bs.map V.bl, Kd K H0 y := fun H0 bs y hy => by
      obtain ⟨n, _, rfl⟩ := List.mem_map.mp hy
      exact .inl rfl
    have aI : ∀ ns : List Int, (ns.map V.int).all isI = true := fun ns => by rw [List.all_map]; exact List.all_eq_true.mpr fun _ _ => rfl
    have aB : ∀ bs : List Bool, (bs.map V.bl).all isB = true := fun bs => by rw [List.all_map]; exact List.all_eq_true.mpr fun _ _ => rfl
    walk_at "go"
    rcases h with ⟨ns, bs, hn, ho, l1, l2, q⟩ | ⟨hb, q⟩ | ⟨ns, hn, l1, hb, q⟩
    · refine i_cutT (fun b H1 => b = false ∧ Ex H H1) (tst_sq (p := isI) rfl hn (by simpa using l1) hwN (fun y hy => teN H y (kI H ns y hy)) fun H1 e => ⟨by rw [aI]; rfl, e⟩) ?_
      rintro _ H1 ⟨rfl, e1⟩
      walk_at "go"
      refine i_cutT (fun b H2 => b = false ∧ Ex H1 H2) (tst_sq (p := isB) rfl (ho.mono e1) (by simpa using l2) hwO (fun y hy => teO H1 y (kB H1 bs y hy)) fun H2 e => ⟨by rw [aB]; rfl, e⟩) ?_
      rintro _ H2 ⟨rfl, e2⟩
      walk_at "go"
      refine l_tupSq (hn.mono (e1.trans e2)) fun p H3 e3 hp => ?_
      have e13 := e1.trans (e2.trans e3)
      have hx3 := e13 _ _ hx
      walk_at "go"
      refine ⟨x, C_Play, dx, [], rfl, hx3, T.cl_Play, T.n_Play_numbers, by decide, ?_⟩
      walk_at "go"
      have b3 : But x H3 (upd H3 x (.ins C_Play dx (putF "numbers" (.ref p) []))) := (But.refl H3).mut
      refine l_tupSq ((ho.mono e13).but b3 hx3) fun q' H4 e4 hq => ?_
      walk_at "go"
      refine ⟨x, C_Play, dx, _, rfl, e4 _ _ upd_same, T.cl_Play, T.n_Play_outcomes, by simp [putF], ?_⟩
      walk_at "go"
      have b4 : But x H4 (upd H4 x (.ins C_Play dx (plF p q'))) := (But.refl H4).mut
      refine q _ p q' ((e13.but.trans b3).trans (e4.but.trans b4)) upd_same (sqT_but b4 (e4 _ _ upd_same) (sqT_mono e4 (sqT_but b3 hx3 hp))) (sqT_but b4 (e4 _ _ upd_same) hq)
    · refine i_cutT (fun b H1 => b = true ∧ Ex H H1) (tst_bad (p := isI) rfl hb hwN (teN H) fun H1 e => ⟨rfl, e⟩) ?_
      rintro _ H1 ⟨rfl, e1⟩
      walk_at "go"
      exact ⟨no, rfl, fun d hd => q H1 d e1 hd⟩
    · refine i_cutT (fun b H1 => b = false ∧ Ex H H1) (tst_sq (p := isI) rfl hn (by simpa using l1) hwN (fun y hy => teN H y (kI H ns y hy)) fun H1 e => ⟨by rw [aI]; rfl, e⟩) ?_
      rintro _ H1 ⟨rfl, e1⟩
      walk_at "go"
      refine i_cutT (fun b H2 => b = true ∧ Ex H1 H2) (tst_bad (p := isB) rfl (hb.mono e1) hwO (teO H1) fun H2 e => ⟨rfl, e⟩) ?_
      rintro _ H2 ⟨rfl, e2⟩
      walk_at "go"
      exact ⟨oo, rfl, fun d hd => q H2 d (e1.trans e2) hd⟩
end
end K
namespace K
open PySem PySem.Spec PyProof.Rows L2 G TL
local macro_rules | `(tactic| walk_at "side") => `(tactic| focus (first | assumption | exact rfl | omega | decide))
local macro_rules | `(tactic| walk_at "ty") => `(tactic| focus (first | exact .base (.str _) | exact .base (.int _) | exact .base (.bl _) | exact .base .non | exact .base (.lst (by assumption)) | exact .base (.tup (by assumption)) | exact .base (.dK (by assumption)) | assumption))
local macro_rules | `(tactic| walk_at "kt") => `(tactic| focus (with_reducible first | exact kt_NoneType_str | exact kt_NoneType_int | exact kt_NoneType_bool | exact kt_NoneType_tuple | exact kt_NoneType_list | exact kt_NoneType_dict | exact kt_bool_str | exact kt_bool_int | exact kt_bool_bool | exact kt_bool_tuple | exact kt_bool_list | exact kt_bool_dict | exact kt_int_str | exact kt_int_int | exact kt_int_bool | exact kt_int_tuple | exact kt_int_list | exact kt_int_dict | exact kt_str_str | exact kt_str_int | exact kt_str_bool | exact kt_str_tuple | exact kt_str_list | exact kt_str_dict | exact kt_list_str | exact kt_list_int | exact kt_list_bool | exact kt_list_tuple | exact kt_list_list | exact kt_list_dict | exact kt_tuple_str | exact kt_tuple_int | exact kt_tuple_bool | exact kt_tuple_tuple | exact kt_tuple_list | exact kt_tuple_dict | exact kt_dict_str | exact kt_dict_int | exact kt_dict_bool | exact kt_dict_tuple | exact kt_dict_list | exact kt_dict_dict | assumption))
local macro_rules | `(tactic| walk_at "1") => `(tactic| first
  | (with_reducible refine i_seq ?_)
  | (with_reducible refine iteT ?_)
  | (with_reducible refine iteF ?_)
  | (with_reducible refine iteNF ?_)
  | (with_reducible refine iteNT ?_)
  | (with_reducible refine i_asg ?_)
  | (with_reducible refine i_op ?_)
  | (with_reducible refine i_c ?_)
  | ((with_reducible apply i_var); (exact rfl))
  | (with_reducible refine i_cb ?_)
  | (with_reducible refine i_cons ?_)
  | (with_reducible refine i_nil ?_)
  | (with_reducible refine i_test ?_)
  | (with_reducible refine i_b ?_)
  | (with_reducible refine i_bl ?_)
  | (with_reducible refine i_name ?_)
  | (with_reducible refine i_ifS ?_)
  | (with_reducible refine i_next ?_)
  | (with_reducible refine i_ret ?_)
  | (with_reducible refine i_drop ?_)
  | (with_reducible refine i_lst ?_)
  | (with_reducible refine i_tup ?_)
  | (with_reducible refine i_and ?_)
  | (with_reducible refine i_or ?_)
  | (with_reducible refine i_not ?_)
  | (with_reducible refine i_andV ?_)
  | (with_reducible refine i_orV ?_)
  | (with_reducible refine i_notV ?_)
  | (with_reducible refine i_if ?_)
  | (with_reducible refine i_chain ?_)
  | (with_reducible refine i_un ?_)
  | (with_reducible refine i_neg ?_)
  | (with_reducible refine i_sub ?_)
  | (with_reducible refine i_sl ?_)
  | (with_reducible refine i_noP ?_)
  | (with_reducible refine i_part ?_)
  | (with_reducible refine i_int ?_)
  | (with_reducible refine i_bm ?_)
  | (with_reducible refine i_strT ?_)
  | (with_reducible refine i_yes ?_)
  | (with_reducible refine i_call ?_)
  | ((with_reducible refine i_len ?_ ?_); (focus (exact sz (by simp))))
  | (with_reducible refine i_lc ?_)
  | (with_reducible refine i_for ?_)
  | (with_reducible refine i_rng1 ?_)
  | (with_reducible refine i_rng2 ?_)
  | (with_reducible refine l_addI ?_)
  | (with_reducible refine l_subI ?_)
  | (with_reducible refine l_cmp ?_)
  | (with_reducible refine l_eqI ?_)
  | (with_reducible refine l_eqS ?_)
  | (with_reducible refine l_eqB ?_)
  | (with_reducible refine l_neI ?_)
  | (with_reducible refine l_neS ?_)
  | (with_reducible refine l_neB ?_)
  | (with_reducible refine l_isN ?_)
  | (with_reducible refine l_isNotN ?_)
  | (with_reducible refine l_isB ?_)
  | (with_reducible refine l_isNotB ?_)
  | (with_reducible refine l_intI ?_)
  | (with_reducible refine l_intB ?_)
  | (with_reducible refine l_inC ?_)
  | (refine ⟨_, _, rfl, rfl, sz (by first | omega | simp; omega), ?_⟩)
  | ((with_reducible refine l_pow ?_ ?_); (focus (exact ⟨by decide, by decide, by decide⟩)))
  | ((with_reducible refine l_mul ?_ ?_); (focus (first | assumption | exact Or.inl (Or.inl ⟨by omega, by omega⟩) | exact Or.inl (Or.inr ⟨by omega, by omega⟩))))
  | ((with_reducible refine l_div ?_ ?_); (focus (first | assumption | exact ⟨by decide, by decide⟩)))
  | ((with_reducible apply l_setL); (assumption); (exact rfl))
  | ((with_reducible refine l_mod ?_ ?_); (walk_at "side"))
  | ((with_reducible apply l_ixL); (assumption); (exact rfl))
  | ((with_reducible refine l_lenS ?_ ?_); (focus (first | assumption | exact sz (by omega) | exact sz (by simp; omega))))
  | ((with_reducible refine l_slS ?_ ?_); (focus (first | assumption | exact sz (by omega))))
  | ((with_reducible apply l_isi); (walk_at "ty"); (walk_at "kt"))
  | ((with_reducible apply l_lenL); (assumption)))
local macro_rules | `(tactic| walk_at "go") => `(tactic| repeat (walk_at "1"))
local macro_rules | `(tactic| walk_at "1") => `(tactic| first
  | (with_reducible refine i_mkS ?_)
  | (with_reducible refine i_cS ?_)
  | (with_reducible refine i_fld ?_)
  | (with_reducible refine i_sFld ?_)
  | (with_reducible refine i_tX ?_)
  | (with_reducible refine l_len2 rfl rfl ?_))
local macro_rules | `(tactic| walk_at "1") => `(tactic| first
  | (with_reducible refine i_stp ?_)
  | ((with_reducible apply i_iad); (exact rfl))
  | (with_reducible refine i_cO ?_)
  | (with_reducible refine i_prp ?_)
  | (with_reducible refine i_mtS ?_)
  | (with_reducible refine i_fldaug ?_)
  | (with_reducible refine i_par ?_)
  | (with_reducible refine i_par3 ?_)
  | (with_reducible refine i_revL ?_))
section
variable {P : Program} {w : World} {K : PySem.W.Frag} {mg : Str → Option Value} {base : Heap}
theorem l_addT {H : Hp} {a b : Addr} {xs ys : List V} {Q : VK} (h1 : SqT K H a xs) (h2 : SqT K H b ys) (hl : xs.length + ys.length ≤ 100000) (q : ∀ p H', Ex H H' → SqT K H' p (xs ++ ys) → Q (.ref p) H') : rAdd K (.ref a) (.ref b) H Q := by
  refine .inr ⟨a, b, xs, ys, rfl, rfl, h1, h2, sz hl, fun e => ?_, fun _ e => ?_, fun _ _ p hp => q p _ (Ex.new hp) (.of upd_same)⟩
  · subst e
    exact q b H (Ex.refl H) h2
  · subst e
    exact q a H (Ex.refl H) (by rw [List.append_nil]; exact h1)
/-- a play -/
def PlayAt (K : PySem.W.Frag) (C : Addr) (H : Hp) (v : V) (ns : List Int) (bs : List Bool) : Prop := ∃ x dx p q, v = .ref x ∧ H x = some (.ins C dx (plF p q)) ∧ SqT K H p (ns.map V.int) ∧ SqT K H q (bs.map V.bl)
theorem PlayAt.mono {C : Addr} {H H' : Hp} {v : V} {ns : List Int} {bs : List Bool} (h : PlayAt K C H v ns bs) (e : Ex H H') : PlayAt K C H' v ns bs := by
  obtain ⟨x, dx, p, q, rfl, h1, h2, h3⟩ := h
  exact ⟨x, dx, p, q, rfl, e _ _ h1, sqT_mono e h2, sqT_mono e h3⟩
theorem lk_num {p q : Addr} : (plF p q).lookup ("numbers" : Str) = some (V.ref p) := rfl
theorem lk_out {p q : Addr} : (plF p q).lookup ("outcomes" : Str) = some (V.ref q) := rfl
theorem ex_made {H H' : Hp} {x dx : Addr} {o u : HO} (hx : H x = none) (hdx : H dx = none) (b : But x (upd (upd H dx o) x u) H') : Ex H H' := fun a w ha => by
  have h1 := ne_of_none ha hx
  have h2 := ne_of_none ha hdx
  exact b a w h1 (by rw [upd_ne h1, upd_ne h2]; exact ha)
theorem ex_new2 {H : Hp} {x dx : Addr} {o u : HO} (hx : H x = none) (hdx : H dx = none) : Ex H (upd (upd H dx o) x u) := fun a w ha => by
  rw [upd_ne (ne_of_none ha hx), upd_ne (ne_of_none ha hdx)]
  exact ha
theorem play_new {C CB : Addr} {H : Hp} {no oo : V} {ns : List Int} {bs : List Bool} {Q : Addr → Hp → Prop} {E : XK} (hn : Sq K H no (ns.map V.int)) (ho : Sq K H oo (bs.map V.bl)) (l1 : ns.length ≤ 1000) (l2 : bs.length ≤ 1000) (q : ∀ x H', Ex H H' → PlayAt K C H' (.ref x) ns bs → Q x H') :
    ∀ x dx, H x = none → H dx = none → dx ≠ x → spPlay K C CB [.ref x, no, oo] (upd (upd H dx (.own x)) x (.ins C dx [])) (fun v H3 => v = .non ∧ Q x H3) E := by
  intro x dx hx hdx hne
  have e := ex_new2 (o := HO.own x) (u := HO.ins C dx []) hx hdx
  exact ⟨x, dx, no, oo, rfl, upd_same, .inl ⟨ns, bs, hn.mono e, ho.mono e, l1, l2, fun H' p q' b hx' hp hq => ⟨rfl, q _ _ (ex_made hx hdx b) ⟨x, dx, p, q', rfl, hx', hp, hq⟩⟩⟩⟩
theorem play_badN {C CB : Addr} {H : Hp} {no oo : V} {Q : Addr → Hp → Prop} {E : XK} (hb : Bad K H isI no) (q : ∀ H' d, Ex H H' → H' d = none → E (.ref CB) (some d) (upd H' d (.xd [("value", no)]))) :
    ∀ x dx, H x = none → H dx = none → dx ≠ x → spPlay K C CB [.ref x, no, oo] (upd (upd H dx (.own x)) x (.ins C dx [])) (fun v H3 => v = .non ∧ Q x H3) E := by
  intro x dx hx hdx hne
  have e := ex_new2 (o := HO.own x) (u := HO.ins C dx []) hx hdx
  exact ⟨x, dx, no, oo, rfl, upd_same, .inr (.inl ⟨hb.mono e, fun H1 d e1 hd => q H1 d (e.trans e1) hd⟩)⟩
theorem play_badO {C CB : Addr} {H : Hp} {no oo : V} {ns : List Int} {Q : Addr → Hp → Prop} {E : XK} (hn : Sq K H no (ns.map V.int)) (l1 : ns.length ≤ 1000) (hb : Bad K H isB oo) (q : ∀ H' d, Ex H H' → H' d = none → E (.ref CB) (some d) (upd H' d (.xd [("value", oo)]))) :
    ∀ x dx, H x = none → H dx = none → dx ≠ x → spPlay K C CB [.ref x, no, oo] (upd (upd H dx (.own x)) x (.ins C dx [])) (fun v H3 => v = .non ∧ Q x H3) E := by
  intro x dx hx hdx hne
  have e := ex_new2 (o := HO.own x) (u := HO.ins C dx []) hx hdx
  exact ⟨x, dx, no, oo, rfl, upd_same, .inr (.inr ⟨ns, hn.mono e, l1, hb.mono e, fun H1 d e1 hd => q H1 d (e.trans e1) hd⟩)⟩
/-! the ways in which Play is called -/
theorem mk_Play_2 {C_RoundError C_BadNumber C_BadPlay C_Play d_Play_0 d_Play_1 C_Cell C_Function : Addr} (T : Tp K mg C_RoundError C_BadNumber C_BadPlay C_Play d_Play_0 d_Play_1 C_Cell C_Function) : MakG P w K mg base 3 "Play" C_Play (spPlay K C_Play C_BadPlay) 2 [] (fun vs _ => vs) :=
  (ok_init T).mak fun f fd F => by
    obtain ⟨its, h⟩ := F.kbindsD (ps := ["self", "numbers", "outcomes"]) 3 [] (fun us _ _ => us) (by simp) (fun a _ _ => a) (fun Ta kV doc pm an cdv ct us its ws l1 l2 l3 => match us, its, ws, l1, l2, l3 with | [_, _, _], [_, _], [], _, _, _ => ⟨_, rfl, rfl⟩)
    exact ⟨_, h⟩
theorem mk_Play_0 {C_RoundError C_BadNumber C_BadPlay C_Play d_Play_0 d_Play_1 C_Cell C_Function : Addr} (T : Tp K mg C_RoundError C_BadNumber C_BadPlay C_Play d_Play_0 d_Play_1 C_Cell C_Function) : MakG P w K mg base 3 "Play" C_Play (spPlay K C_Play C_BadPlay) 0 [] (fun vs _ => vs ++ [.ref d_Play_0, .ref d_Play_1]) :=
  (ok_init T).mak fun f fd F => by
    obtain ⟨its, h⟩ := F.kbindsD (ps := ["self", "numbers", "outcomes"]) 1 [] (fun us its _ => us ++ its) (by simp) (fun a b _ => a.append b) (fun Ta kV doc pm an cdv ct us its ws l1 l2 l3 => match us, its, ws, l1, l2, l3 with | [_], [_, _], [], _, _, _ => ⟨_, rfl, rfl⟩)
    exact ⟨_, h⟩
theorem mk_Play_0_outcomes {C_RoundError C_BadNumber C_BadPlay C_Play d_Play_0 d_Play_1 C_Cell C_Function : Addr} (T : Tp K mg C_RoundError C_BadNumber C_BadPlay C_Play d_Play_0 d_Play_1 C_Cell C_Function) : MakG P w K mg base 3 "Play" C_Play (spPlay K C_Play C_BadPlay) 0 ["outcomes"] (fun vs zs => vs ++ ([V.ref d_Play_0, V.ref d_Play_1].take 1 ++ zs)) :=
  (ok_init T).mak fun f fd F => by
    obtain ⟨its, h⟩ := F.kbindsD (ps := ["self", "numbers", "outcomes"]) 1 ["outcomes"] (fun us its ws => us ++ (its.take 1 ++ ws)) (by simp) (fun a b c => a.append ((b.take 1).append c)) (fun Ta kV doc pm an cdv ct us its ws l1 l2 l3 => match us, its, ws, l1, l2, l3 with | [_], [_, _], [_], _, _, _ => ⟨_, rfl, rfl⟩)
    exact ⟨_, h⟩
theorem mk_Play_0_numbers {C_RoundError C_BadNumber C_BadPlay C_Play d_Play_0 d_Play_1 C_Cell C_Function : Addr} (T : Tp K mg C_RoundError C_BadNumber C_BadPlay C_Play d_Play_0 d_Play_1 C_Cell C_Function) : MakG P w K mg base 3 "Play" C_Play (spPlay K C_Play C_BadPlay) 0 ["numbers"] (fun vs zs => vs ++ (zs ++ [V.ref d_Play_0, V.ref d_Play_1].drop 1)) :=
  (ok_init T).mak fun f fd F => by
    obtain ⟨its, h⟩ := F.kbindsD (ps := ["self", "numbers", "outcomes"]) 1 ["numbers"] (fun us its ws => us ++ (ws ++ its.drop 1)) (by simp) (fun a b c => a.append (c.append (b.drop 1))) (fun Ta kV doc pm an cdv ct us its ws l1 l2 l3 => match us, its, ws, l1, l2, l3 with | [_], [_, _], [_], _, _, _ => ⟨_, rfl, rfl⟩)
    exact ⟨_, h⟩
def spAddP (K : PySem.W.Frag) (C : Addr) : Sp := fun vs H Q _ => ∃ v1 v2 ns bs ms cs, vs = [v1, v2] ∧ PlayAt K C H v1 ns bs ∧ PlayAt K C H v2 ms cs ∧ ns.length + ms.length ≤ 1000 ∧ bs.length + cs.length ≤ 1000 ∧ ∀ v H', Ex H H' → PlayAt K C H' v (ns ++ ms) (bs ++ cs) → Q v H'
theorem ok_add {C_RoundError C_BadNumber C_BadPlay C_Play d_Play_0 d_Play_1 C_Cell C_Function : Addr} (T : Tp K mg C_RoundError C_BadNumber C_BadPlay C_Play d_Play_0 d_Play_1 C_Cell C_Function) : MetG P w K mg base false 5 C_Play "__add__" (spAddP K C_Play) ["self", "other"] := by
  have c_Play_2 := mk_Play_2 (P := P) (w := w) (base := base) T
  refine T.m_Play___add__.met sc_Play___add__ (fun vs H Q E h => ?_) (fun f cdv A outer s H vs Q E hr _ h => ?_)
  · obtain ⟨v1, v2, ns, bs, ms, cs, rfl, _⟩ := h
    rfl
  · obtain ⟨v1, v2, ns, bs, ms, cs, rfl, ⟨x, dx, p, q, rfl, hx, hp, hq⟩, ⟨y, dy, r, t, rfl, hy, hr', ht⟩, l1, l2, k⟩ := h
    have sc := sc_Play___add__
    refine ⟨_, 
    (pss_one (ps_ret (pe_mkS c_Play_2 hr (by decide) takes0 (by rfl) (pa_cons (pe_op (kAdd (K := K) rfl) (pe_fld (pv 0) rfl) (pe_fld (pv 1) rfl)) (pa_cons (pe_op (kAdd (K := K) rfl) (pe_fld (pv 0) rfl) (pe_fld (pv 1) rfl)) pa_nil))))), ?_⟩
    try rw [cxK]
    refine i_start (τ := [some (.ref x), some (.ref y)]) rfl ?_
    walk_at "go"
    refine ⟨x, C_Play, dx, _, _, rfl, hx, T.cl_Play, T.n_Play_numbers, lk_num, ?_⟩
    walk_at "go"
    refine ⟨y, C_Play, dy, _, _, rfl, hy, T.cl_Play, T.n_Play_numbers, lk_num, ?_⟩
    refine l_addT hp hr' (by simp; omega) fun pp H1 e1 h1 => ?_
    walk_at "go"
    refine ⟨x, C_Play, dx, _, _, rfl, e1 _ _ hx, T.cl_Play, T.n_Play_outcomes, lk_out, ?_⟩
    walk_at "go"
    refine ⟨y, C_Play, dy, _, _, rfl, e1 _ _ hy, T.cl_Play, T.n_Play_outcomes, lk_out, ?_⟩
    refine l_addT (sqT_mono e1 hq) (sqT_mono e1 ht) (by simp; omega) fun qq H2 e2 h2 => ?_
    walk_at "go"
    rw [← List.map_append] at h1 h2
    exact play_new (.t (sqT_mono e2 h1)) (.t h2) (by simp; omega) (by simp; omega) fun v H' e h => k (.ref v) H' (e1.trans (e2.trans e)) h
/-! == of plays -/
theorem dp_bls {K : PySem.W.Frag} {H : Hp} : ∀ bs : List Bool, DpAll K H (bs.map V.bl) (bs.map PyData.bool)
  | [] => .nil
  | n :: ns => .cons (.bl n) (dp_bls ns)
theorem lay_bls : ∀ ns : List Bool, PyData.canLayAll0 (ns.map PyData.bool) = true
  | [] => by simp [PyData.canLayAll0]
  | n :: ns => by
    rw [List.map_cons, PyData.canLayAll0, lay_bls ns]
    simp [PyData.canLay0]
theorem depth_bls : ∀ ns : List Bool, PyData.depthAll (ns.map PyData.bool) ≤ 1
  | [] => by simp [PyData.depthAll]
  | n :: ns => by
    have := depth_bls ns
    rw [List.map_cons, PyData.depthAll]
    simp [PyData.depth]
    exact this
theorem eqv_ints : ∀ ns ms : List Int, PyData.eqvAll (ns.map .int) (ms.map .int) = decide (ns = ms)
  | [], [] => by simp [PyData.eqvAll]
  | [], _ :: _ => by simp [PyData.eqvAll]
  | _ :: _, [] => by simp [PyData.eqvAll]
  | n :: ns, m :: ms => by
    rw [List.map_cons, List.map_cons, PyData.eqvAll, eqv_ints ns ms, PyData.eqv]
    by_cases h1 : n = m <;> by_cases h2 : ns = ms <;> simp [h1, h2]
theorem eqv_bls : ∀ ns ms : List Bool, PyData.eqvAll (ns.map .bool) (ms.map .bool) = decide (ns = ms)
  | [], [] => by simp [PyData.eqvAll]
  | [], _ :: _ => by simp [PyData.eqvAll]
  | _ :: _, [] => by simp [PyData.eqvAll]
  | n :: ns, m :: ms => by
    rw [List.map_cons, List.map_cons, PyData.eqvAll, eqv_bls ns ms, PyData.eqv]
    by_cases h1 : n = m <;> by_cases h2 : ns = ms <;> simp [h1, h2]
theorem sh_two (ns : List Int) (bs : List Bool) : SeqAt.shaped (.tuple [.tuple (ns.map .int), .tuple (bs.map .bool)]) = true := by
  unfold SeqAt.shaped
  have h1 := depth_ints ns
  have h2 := depth_bls bs
  simp only [PyData.canLay0, PyData.canLayAll0, lay_ints, lay_bls, PyData.depth, PyData.depthAll]
  simp
  omega
theorem eqv_two (ns ms : List Int) (bs cs : List Bool) : PyData.eqv (.tuple [.tuple (ns.map .int), .tuple (bs.map .bool)]) (.tuple [.tuple (ms.map .int), .tuple (cs.map .bool)]) = (decide (ns = ms) && decide (bs = cs)) := by
  simp [PyData.eqv, PyData.eqvAll, eqv_ints, eqv_bls]
def spEqP (K : PySem.W.Frag) (C : Addr) : Sp := fun vs H Q _ => ∃ v y ns bs, vs = [v, y] ∧ PlayAt K C H v ns bs ∧ ((∃ ms cs, PlayAt K C H y ms cs ∧ ∀ H', Ex H H' → Q (.bl (decide (ns = ms) && decide (bs = cs))) H') ∨ (∃ xs, Sq K H y xs ∧ Q (.bl false) H))
theorem ok_eq {C_RoundError C_BadNumber C_BadPlay C_Play d_Play_0 d_Play_1 C_Cell C_Function : Addr} (T : Tp K mg C_RoundError C_BadNumber C_BadPlay C_Play d_Play_0 d_Play_1 C_Cell C_Function) : MetG P w K mg base false 1 C_Play "__eq__" (spEqP K C_Play) ["self", "other"] := by
  refine T.m_Play___eq__.met sc_Play___eq__ (fun vs H Q E h => ?_) (fun f cdv A outer s H vs Q E hr _ h => ?_)
  · obtain ⟨v, y, ns, bs, rfl, _⟩ := h
    rfl
  · obtain ⟨v, y, ns, bs, rfl, ⟨x, dx, p, q, rfl, hx, hp, hq⟩, h⟩ := h
    have sc := sc_Play___eq__
    refine ⟨_, 
    (pss_one (ps_ret (pe_and (pe_callB (kIsi (K := K) rfl) (by rfl) T.m_isinstance (by decide +kernel) (pa_cons (pv 1) (pa_cons (pe_gc (by rfl) T.k_Play) pa_nil))) (pe_one (pe_cmpR (kEq (K := K) rfl hr) (pe_tup (pa_cons (pe_fld (pv 0) rfl) (pa_cons (pe_fld (pv 0) rfl) pa_nil))) (pe_tup (pa_cons (pe_fld (pv 1) rfl) (pa_cons (pe_fld (pv 1) rfl) pa_nil))) (nomark _)))))), ?_⟩
    try rw [cxK]
    refine i_start (τ := [some (.ref x), some y]) rfl ?_
    walk_at "go"
    rcases h with ⟨ms, cs, ⟨y, dy, r, t, rfl, hy, hr', ht⟩, k⟩ | ⟨xs, hs, k⟩
    · refine .inl ⟨_, _, _, _, true, rfl, .own _, T.ty_Play _ _ _ _ hy, kit_self, ?_⟩
      walk_at "go"
      refine ⟨x, C_Play, dx, _, _, rfl, hx, T.cl_Play, T.n_Play_numbers, lk_num, ?_⟩
      walk_at "go"
      refine ⟨x, C_Play, dx, _, _, rfl, hx, T.cl_Play, T.n_Play_outcomes, lk_out, ?_⟩
      walk_at "go"
      intro p1 hp1
      have e1 : Ex H (upd H p1 (.tup [.ref p, .ref q])) := Ex.new hp1
      walk_at "go"
      refine ⟨y, C_Play, dy, _, _, rfl, e1 _ _ hy, T.cl_Play, T.n_Play_numbers, lk_num, ?_⟩
      walk_at "go"
      refine ⟨y, C_Play, dy, _, _, rfl, e1 _ _ hy, T.cl_Play, T.n_Play_outcomes, lk_out, ?_⟩
      walk_at "go"
      intro p2 hp2
      have e2 : Ex (upd H p1 (.tup [.ref p, .ref q])) (upd (upd H p1 (.tup [.ref p, .ref q])) p2 (.tup [.ref r, .ref t])) := Ex.new hp2
      have e12 := e1.trans e2
      refine .inr ⟨_, _, .tup (.of (e2 _ _ upd_same)) (.cons (.tup (sqT_mono e12 hp) (dp_ints ns)) (.cons (.tup (sqT_mono e12 hq) (dp_bls bs)) .nil)), .tup (.of upd_same) (.cons (.tup (sqT_mono e12 hr') (dp_ints ms)) (.cons (.tup (sqT_mono e12 ht) (dp_bls cs)) .nil)), sh_two ns bs, sh_two ms cs, ?_⟩
      rw [eqv_two]
      exact k _ e12
    · obtain ⟨a, rfl, hs | hs⟩ := hs
      · refine .inl ⟨_, _, _, _, false, rfl, .own _, tyL hs, T.kt_Play_list, ?_⟩
        walk_at "go"
        exact k
      · refine .inl ⟨_, _, _, _, false, rfl, .own _, tyT hs, T.kt_Play_tuple, ?_⟩
        walk_at "go"
        exact k
section
variable {H : Hp} {x y : V} {ns ms : List Int} {bs cs : List Bool} {Q : VK}
theorem add_PP {C : Addr} (h1 : PlayAt K C H x ns bs) (h2 : PlayAt K C H y ms cs) (l1 : ns.length + ms.length ≤ 1000) (l2 : bs.length + cs.length ≤ 1000) (q : ∀ v H', Ex H H' → PlayAt K C H' v (ns ++ ms) (bs ++ cs) → Q v H') : rAddI C (spAddP K C) x y H Q := by
  have g1 := h1
  have g2 := h2
  obtain ⟨a, dx, p, q', rfl, hx, _, _⟩ := h1
  obtain ⟨b, dy, r, t, rfl, hy, _, _⟩ := h2
  exact ⟨a, dx, _, b, dy, _, rfl, hx, rfl, hy, _, _, ns, bs, ms, cs, rfl, g1, g2, l1, l2, q⟩
theorem eq_PP {C_RoundError C_BadNumber C_BadPlay C_Play d_Play_0 d_Play_1 C_Cell C_Function : Addr} (T : Tp K mg C_RoundError C_BadNumber C_BadPlay C_Play d_Play_0 d_Play_1 C_Cell C_Function) (h1 : PlayAt K C_Play H x ns bs) (h2 : PlayAt K C_Play H y ms cs) (q : ∀ H', Ex H H' → Q (.bl (decide (ns = ms) && decide (bs = cs))) H') : rOpI K C_Play (spEqP K C_Play) x y H Q := by
  have g1 := h1
  have g2 := h2
  obtain ⟨a, dx, p, q', rfl, hx, _, _⟩ := h1
  obtain ⟨b, dy, r, t, rfl, hy, _, _⟩ := h2
  exact ⟨a, dx, _, _, rfl, hx, T.ty_Play _ _ _ _ hy, nf_self, _, _, ns, bs, rfl, g1, .inl ⟨ms, cs, g2, q⟩⟩
theorem ne_PP {C_RoundError C_BadNumber C_BadPlay C_Play d_Play_0 d_Play_1 C_Cell C_Function : Addr} (T : Tp K mg C_RoundError C_BadNumber C_BadPlay C_Play d_Play_0 d_Play_1 C_Cell C_Function) (h1 : PlayAt K C_Play H x ns bs) (h2 : PlayAt K C_Play H y ms cs) (q : ∀ H', Ex H H' → Q (.bl (!(decide (ns = ms) && decide (bs = cs)))) H') : rNeI K C_Play (spEqP K C_Play) x y H Q := by
  have g1 := h1
  have g2 := h2
  obtain ⟨a, dx, p, q', rfl, hx, _, _⟩ := h1
  obtain ⟨b, dy, r, t, rfl, hy, _, _⟩ := h2
  exact ⟨a, dx, _, _, rfl, hx, T.ty_Play _ _ _ _ hy, nf_self, _, _, ns, bs, rfl, g1, .inl ⟨ms, cs, g2, fun H' e => ⟨_, rfl, q H' e⟩⟩⟩
theorem eq_PT {C_RoundError C_BadNumber C_BadPlay C_Play d_Play_0 d_Play_1 C_Cell C_Function : Addr} (T : Tp K mg C_RoundError C_BadNumber C_BadPlay C_Play d_Play_0 d_Play_1 C_Cell C_Function) {p : Addr} {xs : List V} (h1 : PlayAt K C_Play H x ns bs) (h2 : SqT K H p xs) (q : Q (.bl false) H) : rOpI K C_Play (spEqP K C_Play) x (.ref p) H Q := by
  have g1 := h1
  obtain ⟨a, dx, p', q', rfl, hx, _, _⟩ := h1
  exact ⟨a, dx, _, _, rfl, hx, tyT h2, nf_of T.nf_Play_tuple, _, _, ns, bs, rfl, g1, .inr ⟨xs, .t h2, q⟩⟩
end
end
end K
namespace K
open PySem PySem.Spec PyProof.Rows L2 G TL
local macro_rules | `(tactic| walk_at "side") => `(tactic| focus (first | assumption | exact rfl | omega | decide))
local macro_rules | `(tactic| walk_at "ty") => `(tactic| focus (first | exact .base (.str _) | exact .base (.int _) | exact .base (.bl _) | exact .base .non | exact .base (.lst (by assumption)) | exact .base (.tup (by assumption)) | exact .base (.dK (by assumption)) | assumption))
local macro_rules | `(tactic| walk_at "kt") => `(tactic| focus (with_reducible first | exact kt_NoneType_str | exact kt_NoneType_int | exact kt_NoneType_bool | exact kt_NoneType_tuple | exact kt_NoneType_list | exact kt_NoneType_dict | exact kt_bool_str | exact kt_bool_int | exact kt_bool_bool | exact kt_bool_tuple | exact kt_bool_list | exact kt_bool_dict | exact kt_int_str | exact kt_int_int | exact kt_int_bool | exact kt_int_tuple | exact kt_int_list | exact kt_int_dict | exact kt_str_str | exact kt_str_int | exact kt_str_bool | exact kt_str_tuple | exact kt_str_list | exact kt_str_dict | exact kt_list_str | exact kt_list_int | exact kt_list_bool | exact kt_list_tuple | exact kt_list_list | exact kt_list_dict | exact kt_tuple_str | exact kt_tuple_int | exact kt_tuple_bool | exact kt_tuple_tuple | exact kt_tuple_list | exact kt_tuple_dict | exact kt_dict_str | exact kt_dict_int | exact kt_dict_bool | exact kt_dict_tuple | exact kt_dict_list | exact kt_dict_dict | assumption))
local macro_rules | `(tactic| walk_at "1") => `(tactic| first
  | (with_reducible refine i_seq ?_)
  | (with_reducible refine iteT ?_)
  | (with_reducible refine iteF ?_)
  | (with_reducible refine iteNF ?_)
  | (with_reducible refine iteNT ?_)
  | (with_reducible refine i_asg ?_)
  | (with_reducible refine i_op ?_)
  | (with_reducible refine i_c ?_)
  | ((with_reducible apply i_var); (exact rfl))
  | (with_reducible refine i_cb ?_)
  | (with_reducible refine i_cons ?_)
  | (with_reducible refine i_nil ?_)
  | (with_reducible refine i_test ?_)
  | (with_reducible refine i_b ?_)
  | (with_reducible refine i_bl ?_)
  | (with_reducible refine i_name ?_)
  | (with_reducible refine i_ifS ?_)
  | (with_reducible refine i_next ?_)
  | (with_reducible refine i_ret ?_)
  | (with_reducible refine i_drop ?_)
  | (with_reducible refine i_lst ?_)
  | (with_reducible refine i_tup ?_)
  | (with_reducible refine i_and ?_)
  | (with_reducible refine i_or ?_)
  | (with_reducible refine i_not ?_)
  | (with_reducible refine i_andV ?_)
  | (with_reducible refine i_orV ?_)
  | (with_reducible refine i_notV ?_)
  | (with_reducible refine i_if ?_)
  | (with_reducible refine i_chain ?_)
  | (with_reducible refine i_un ?_)
  | (with_reducible refine i_neg ?_)
  | (with_reducible refine i_sub ?_)
  | (with_reducible refine i_sl ?_)
  | (with_reducible refine i_noP ?_)
  | (with_reducible refine i_part ?_)
  | (with_reducible refine i_int ?_)
  | (with_reducible refine i_bm ?_)
  | (with_reducible refine i_strT ?_)
  | (with_reducible refine i_yes ?_)
  | (with_reducible refine i_call ?_)
  | ((with_reducible refine i_len ?_ ?_); (focus (exact sz (by simp))))
  | (with_reducible refine i_lc ?_)
  | (with_reducible refine i_for ?_)
  | (with_reducible refine i_rng1 ?_)
  | (with_reducible refine i_rng2 ?_)
  | (with_reducible refine l_addI ?_)
  | (with_reducible refine l_subI ?_)
  | (with_reducible refine l_cmp ?_)
  | (with_reducible refine l_eqI ?_)
  | (with_reducible refine l_eqS ?_)
  | (with_reducible refine l_eqB ?_)
  | (with_reducible refine l_neI ?_)
  | (with_reducible refine l_neS ?_)
  | (with_reducible refine l_neB ?_)
  | (with_reducible refine l_isN ?_)
  | (with_reducible refine l_isNotN ?_)
  | (with_reducible refine l_isB ?_)
  | (with_reducible refine l_isNotB ?_)
  | (with_reducible refine l_intI ?_)
  | (with_reducible refine l_intB ?_)
  | (with_reducible refine l_inC ?_)
  | (refine ⟨_, _, rfl, rfl, sz (by first | omega | simp; omega), ?_⟩)
  | ((with_reducible refine l_pow ?_ ?_); (focus (exact ⟨by decide, by decide, by decide⟩)))
  | ((with_reducible refine l_mul ?_ ?_); (focus (first | assumption | exact Or.inl (Or.inl ⟨by omega, by omega⟩) | exact Or.inl (Or.inr ⟨by omega, by omega⟩))))
  | ((with_reducible refine l_div ?_ ?_); (focus (first | assumption | exact ⟨by decide, by decide⟩)))
  | ((with_reducible apply l_setL); (assumption); (exact rfl))
  | ((with_reducible refine l_mod ?_ ?_); (walk_at "side"))
  | ((with_reducible apply l_ixL); (assumption); (exact rfl))
  | ((with_reducible refine l_lenS ?_ ?_); (focus (first | assumption | exact sz (by omega) | exact sz (by simp; omega))))
  | ((with_reducible refine l_slS ?_ ?_); (focus (first | assumption | exact sz (by omega))))
  | ((with_reducible apply l_isi); (walk_at "ty"); (walk_at "kt"))
  | ((with_reducible apply l_lenL); (assumption)))
local macro_rules | `(tactic| walk_at "go") => `(tactic| repeat (walk_at "1"))
local macro_rules | `(tactic| walk_at "1") => `(tactic| first
  | (with_reducible refine i_mkS ?_)
  | (with_reducible refine i_cS ?_)
  | (with_reducible refine i_fld ?_)
  | (with_reducible refine i_sFld ?_)
  | (with_reducible refine i_tX ?_)
  | (with_reducible refine l_len2 rfl rfl ?_))
local macro_rules | `(tactic| walk_at "1") => `(tactic| first
  | (with_reducible refine i_stp ?_)
  | ((with_reducible apply i_iad); (exact rfl))
  | (with_reducible refine i_cO ?_)
  | (with_reducible refine i_prp ?_)
  | (with_reducible refine i_mtS ?_)
  | (with_reducible refine i_fldaug ?_)
  | (with_reducible refine i_par ?_)
  | (with_reducible refine i_par3 ?_)
  | (with_reducible refine i_revL ?_))
section
variable {P : Program} {w : World} {K : PySem.W.Frag} {mg : Str → Option Value} {base : Heap}
theorem sqT_butL {H H' : Hp} {x p : Addr} {zs xs : List V} (b : But x H H') (hx : H x = some (.lst zs)) (h : SqT K H p xs) : SqT K H' p xs := by
  rcases h with (h | ⟨o, h⟩) | h
  · exact .inl (.inl (b _ _ (fun z => by rw [z, hx] at h; cases h) h))
  · exact .inl (.inr ⟨o, b _ _ (fun z => by rw [z, hx] at h; cases h) h⟩)
  · exact .inr h
/-- the pool of a cell -/
def Po (H : Hp) (p : Addr) : Prop := ∃ a b : Int, H p = some (.lst [.int a, .int b]) ∧ 0 ≤ b ∧ b < 2147483647
theorem Po.mono {H H' : Hp} {p : Addr} (h : Po H p) (e : Ex H H') : Po H' p := by
  obtain ⟨a, b, h, r⟩ := h
  exact ⟨a, b, e _ _ h, r⟩
theorem Po.ne {H : Hp} {p q : Addr} (h : Po H p) (hq : H q = none) : q ≠ p := by
  obtain ⟨a, b, h, _⟩ := h
  exact (ne_of_none h hq).symm
theorem Po.put {H : Hp} {p q : Addr} {o : HO} (h : Po H p) (n : q ≠ p) : Po (upd H q o) p := by
  obtain ⟨a, b, h, r⟩ := h
  exact ⟨a, b, by rw [upd_ne n.symm]; exact h, r⟩
theorem Po.ins_ne {H : Hp} {p q C dx : Addr} {fs : List (Str × V)} (h : Po H p) (hq : H q = some (.ins C dx fs)) : q ≠ p := by
  obtain ⟨a, b, h, _⟩ := h
  intro z
  rw [z, h] at hq
  cases hq
theorem Po.sqT {H H' : Hp} {p q : Addr} {xs : List V} (h : Po H p) (e : But p H H') (hq : SqT K H q xs) : SqT K H' q xs := by
  obtain ⟨a, b, h, _⟩ := h
  exact sqT_butL e h hq
def spPool (K : PySem.W.Frag) : Sp := fun vs H Q _ => ∃ (a : Addr) (ns : List Int) (k : Nat), vs = [.ref a, .int k] ∧ SqL K H a (ns.map V.int) ∧ k < 64 ∧ ∀ p H', H p = none → Ex H H' → Po H' p → Q (.ref p) H'
set_option maxHeartbeats 2000000 in
theorem ok_pool {C_RoundError C_BadNumber C_BadPlay C_Play d_Play_0 d_Play_1 C_Cell C_Function : Addr} (T : Tp K mg C_RoundError C_BadNumber C_BadPlay C_Play d_Play_0 d_Play_1 C_Cell C_Function) : Cal P w K mg base 1 "_law_pool" (spPool K) [] := by
  refine T.d__law_pool.cal sc__law_pool (fun vs H Q E h => ?_) (fun f cdv A outer s H vs Q E hr h => ?_)
  · obtain ⟨a, ns, k, rfl, _⟩ := h
    rfl
  · obtain ⟨a, ns, k, rfl, hS, hk, q⟩ := h
    have sc := sc__law_pool
    refine ⟨_, 
    (pss_cons (ps_set (i := 2) sc.nd rfl (by first | exact Or.inl rfl | exact Or.inr rfl) (pe_int))
    (pss_cut (ps_if (pt_cmpR gLt (pv 1) (pe_callB (kLen (K := K) rfl) (by rfl) T.m_len PySem.boot_len (pa_cons (pv 0) pa_nil)) (nomark _)) (
      (pss_one (ps_set (i := 2) sc.nd rfl (by first | exact Or.inl rfl | exact Or.inr rfl) (pe_ix (kIx (K := K) rfl) (pv 0) (pv 1) (fun _ _ => rfl))))) (pss_nil))
    (pss_cons (ps_set (i := 3) sc.nd rfl (by first | exact Or.inl rfl | exact Or.inr rfl) (pe_callB call_abs (by rfl) T.m_abs (by decide +kernel) (pa_cons (pv 2) pa_nil)))
    (pss_cons (ps_set (i := 4) sc.nd rfl (by first | exact Or.inl rfl | exact Or.inr rfl) (pe_op gMod (pe_callTy g_int (by rfl) T.m_int (by decide +kernel) (pa_cons (pe_op gPow (pe_op (kAdd (K := K) rfl) (pe_op (kAdd (K := K) rfl) (pe_op (kAdd (K := K) rfl) (pe_op gMod (pe_callTy g_int (by rfl) T.m_int (by decide +kernel) (pa_cons (pv 2) pa_nil)) (pe_int)) (pe_op gMul (pe_op gMul (pe_int) (pv 1)) (pv 1))) (pe_op gMul (pe_int) (pv 1))) (pe_int)) (pe_int)) pa_nil)) (pe_int)))
    (pss_one (ps_ret (pe_lst (pa_cons (pe_op gMul (pv 3) (pe_callTy g_int (by rfl) T.m_int (by decide +kernel) (pa_cons (pe_cmpR gGe (pv 3) (pe_op gPow (pe_int) (pe_int)) (nomark _)) pa_nil))) (pa_cons (pv 4) pa_nil))))))))), ?_⟩
    try rw [cxK]
    refine i_start (τ := [some (.ref a), some (.int k), none, none, none]) rfl ?_
    walk_at "go"
    refine ⟨fun σ H' => ∃ z : Int, σ = [some (.ref a), some (.int k), some (.int z), none, none] ∧ H' = H, ?_, ?_⟩
    · walk_at "go"
      refine ⟨_, .inl hS, ?_⟩
      walk_at "go"
      refine i_ite (fun h => ?_) (fun h => ?_)
      · walk_at "go"
        obtain ⟨z, hz⟩ := at_ints (ns := ns) (i := (k : Int)) (by omega) (by simpa using h)
        refine ⟨_, _, .inl hS, hz, ?_⟩
        walk_at "go"
        exact ⟨z, rfl, rfl⟩
      · walk_at "go"
        exact ⟨0, rfl, rfl⟩
    · rintro σ H' ⟨z, rfl, rfl⟩
      walk_at "go"
      refine ⟨z, rfl, ?_⟩
      walk_at "go"
      have h2 : (104729 * (k : Int) * k) = ((104729 * k * k : Nat) : Int) := by simp
      have h3 : 104729 * k * k ≤ 104729 * 63 * 63 := Nat.mul_le_mul (Nat.mul_le_mul (Nat.le_refl _) (by omega)) (by omega)
      have h4 := Int.emod_nonneg z (show (2147483629 : Int) ≠ 0 by decide)
      have h5 := Int.emod_lt_of_pos z (show (0 : Int) < 2147483629 by decide)
      rw [h2]
      refine l_pow ⟨by decide, by decide, by omega⟩ ?_
      walk_at "go"
      intro p hp
      exact q p _ hp (Ex.new hp) ⟨_, _, upd_same, Int.emod_nonneg _ (by decide), Int.emod_lt_of_pos _ (by decide)⟩
def spTake : Sp := fun vs H Q _ => ∃ (p : Addr) (n : Int), vs = [.ref p, .int n] ∧ 0 < n ∧ n ≤ 2000000000000000000000000000000 ∧ Po H p ∧ ∀ r H', 0 ≤ r → r < n → Po H' p → But p H H' → Q (.int r) H'
theorem take {p : Addr} {n : Int} {H : Hp} {Q : VK} {E : XK} (hp : Po H p) (hn : 0 < n) (hn2 : n ≤ 2000000000000000000000000000000) (q : ∀ r H', 0 ≤ r → r < n → Po H' p → But p H H' → Q (.int r) H') : spTake ([.ref p, .int n] ++ []) H Q E :=
  ⟨p, n, rfl, hn, hn2, hp, q⟩
theorem ok_take {C_RoundError C_BadNumber C_BadPlay C_Play d_Play_0 d_Play_1 C_Cell C_Function : Addr} (T : Tp K mg C_RoundError C_BadNumber C_BadPlay C_Play d_Play_0 d_Play_1 C_Cell C_Function) : Cal P w K mg base 1 "_law_take" spTake [] := by
  refine T.d__law_take.cal sc__law_take (fun vs H Q E h => ?_) (fun f cdv A outer s H vs Q E hr h => ?_)
  · obtain ⟨p, n, rfl, _⟩ := h
    rfl
  · obtain ⟨p, n, rfl, hn, hn2, ⟨a, b, hp, b0, b1⟩, q⟩ := h
    have sc := sc__law_take
    refine ⟨_, 
    (pss_cons (ps_if (pt_cmpR gGt (pe_ix (kIx (K := K) rfl) (pv 0) (pe_int) (fun _ _ => rfl)) (pe_int) (nomark _)) (
      (pss_cons (ps_set (i := 2) sc.nd rfl (by first | exact Or.inl rfl | exact Or.inr rfl) (pe_op gMod (pe_callTy g_int (by rfl) T.m_int (by decide +kernel) (pa_cons (pe_ix (kIx (K := K) rfl) (pv 0) (pe_int) (fun _ _ => rfl)) pa_nil)) (pv 1)))
      (pss_cons (ps_asg (pe_op gDiv (pe_ix (kIx (K := K) rfl) (pv 0) (pe_int) (fun _ _ => rfl)) (pv 1)) (pg_sub (pv 0) (pe_int) set_list))
      (pss_one (ps_ret (pv 2)))))) (pss_nil))
    (pss_cons (ps_asg (pe_op gMod (pe_callTy g_int (by rfl) T.m_int (by decide +kernel) (pa_cons (pe_op (kAdd (K := K) rfl) (pe_op gMul (pe_ix (kIx (K := K) rfl) (pv 0) (pe_int) (fun _ _ => rfl)) (pe_int)) (pe_int)) pa_nil)) (pe_int)) (pg_sub (pv 0) (pe_int) set_list))
    (pss_one (ps_ret (pe_op gMod (pe_callTy g_int (by rfl) T.m_int (by decide +kernel) (pa_cons (pe_op gDiv (pe_op gMod (pe_callTy g_int (by rfl) T.m_int (by decide +kernel) (pa_cons (pe_op gMul (pe_ix (kIx (K := K) rfl) (pv 0) (pe_int) (fun _ _ => rfl)) (pe_ix (kIx (K := K) rfl) (pv 0) (pe_int) (fun _ _ => rfl))) pa_nil)) (pe_int)) (pe_int)) pa_nil)) (pv 1)))))), ?_⟩
    try rw [cxK]
    refine i_start (τ := [some (.ref p), some (.int n), none]) rfl ?_
    have hdv : CDivW a n := wide_div (b := 128) hn (by omega) (by decide) (by decide)
    walk_at "go"
    refine i_ite (fun h => ?_) (fun h => ?_)
    · walk_at "go"
      exact q _ _ (Int.emod_nonneg _ (by omega)) (Int.emod_lt_of_pos _ hn) ⟨_, b, upd_same, b0, b1⟩ (But.refl H).mut
    · walk_at "go"
      have c0 : 0 ≤ (b * 48271 + 11) % 2147483647 := Int.emod_nonneg _ (by decide)
      have c1 : (b * 48271 + 11) % 2147483647 < 2147483647 := Int.emod_lt_of_pos _ (by decide)
      have hw : upd H p (HO.lst ([V.int a, V.int b].set (Int.toNat 1) (V.int ((b * 48271 + 11) % 2147483647)))) p = some (.lst [.int a, .int ((b * 48271 + 11) % 2147483647)]) := upd_same
      have hB : But p H (upd H p (HO.lst ([V.int a, V.int b].set (Int.toNat 1) (V.int ((b * 48271 + 11) % 2147483647))))) := (But.refl H).mut
      generalize upd H p (HO.lst ([V.int a, V.int b].set (Int.toNat 1) (V.int ((b * 48271 + 11) % 2147483647)))) = H1 at hw hB ⊢
      generalize (b * 48271 + 11) % 2147483647 = c at c0 c1 hw
      refine l_ixL hw rfl ?_
      walk_at "go"
      exact q _ _ (Int.emod_nonneg _ (by omega)) (Int.emod_lt_of_pos _ hn) ⟨_, c, hw, c0, c1⟩ hB
end
end K
namespace K
open PySem PySem.Spec PyProof.Rows L2 G TL
local macro_rules | `(tactic| walk_at "side") => `(tactic| focus (first | assumption | exact rfl | omega | decide))
local macro_rules | `(tactic| walk_at "ty") => `(tactic| focus (first | exact .base (.str _) | exact .base (.int _) | exact .base (.bl _) | exact .base .non | exact .base (.lst (by assumption)) | exact .base (.tup (by assumption)) | exact .base (.dK (by assumption)) | assumption))
local macro_rules | `(tactic| walk_at "kt") => `(tactic| focus (with_reducible first | exact kt_NoneType_str | exact kt_NoneType_int | exact kt_NoneType_bool | exact kt_NoneType_tuple | exact kt_NoneType_list | exact kt_NoneType_dict | exact kt_bool_str | exact kt_bool_int | exact kt_bool_bool | exact kt_bool_tuple | exact kt_bool_list | exact kt_bool_dict | exact kt_int_str | exact kt_int_int | exact kt_int_bool | exact kt_int_tuple | exact kt_int_list | exact kt_int_dict | exact kt_str_str | exact kt_str_int | exact kt_str_bool | exact kt_str_tuple | exact kt_str_list | exact kt_str_dict | exact kt_list_str | exact kt_list_int | exact kt_list_bool | exact kt_list_tuple | exact kt_list_list | exact kt_list_dict | exact kt_tuple_str | exact kt_tuple_int | exact kt_tuple_bool | exact kt_tuple_tuple | exact kt_tuple_list | exact kt_tuple_dict | exact kt_dict_str | exact kt_dict_int | exact kt_dict_bool | exact kt_dict_tuple | exact kt_dict_list | exact kt_dict_dict | assumption))
local macro_rules | `(tactic| walk_at "1") => `(tactic| first
  | (with_reducible refine i_seq ?_)
  | (with_reducible refine iteT ?_)
  | (with_reducible refine iteF ?_)
  | (with_reducible refine iteNF ?_)
  | (with_reducible refine iteNT ?_)
  | (with_reducible refine i_asg ?_)
  | (with_reducible refine i_op ?_)
  | (with_reducible refine i_c ?_)
  | ((with_reducible apply i_var); (exact rfl))
  | (with_reducible refine i_cb ?_)
  | (with_reducible refine i_cons ?_)
  | (with_reducible refine i_nil ?_)
  | (with_reducible refine i_test ?_)
  | (with_reducible refine i_b ?_)
  | (with_reducible refine i_bl ?_)
  | (with_reducible refine i_name ?_)
  | (with_reducible refine i_ifS ?_)
  | (with_reducible refine i_next ?_)
  | (with_reducible refine i_ret ?_)
  | (with_reducible refine i_drop ?_)
  | (with_reducible refine i_lst ?_)
  | (with_reducible refine i_tup ?_)
  | (with_reducible refine i_and ?_)
  | (with_reducible refine i_or ?_)
  | (with_reducible refine i_not ?_)
  | (with_reducible refine i_andV ?_)
  | (with_reducible refine i_orV ?_)
  | (with_reducible refine i_notV ?_)
  | (with_reducible refine i_if ?_)
  | (with_reducible refine i_chain ?_)
  | (with_reducible refine i_un ?_)
  | (with_reducible refine i_neg ?_)
  | (with_reducible refine i_sub ?_)
  | (with_reducible refine i_sl ?_)
  | (with_reducible refine i_noP ?_)
  | (with_reducible refine i_part ?_)
  | (with_reducible refine i_int ?_)
  | (with_reducible refine i_bm ?_)
  | (with_reducible refine i_strT ?_)
  | (with_reducible refine i_yes ?_)
  | (with_reducible refine i_call ?_)
  | ((with_reducible refine i_len ?_ ?_); (focus (exact sz (by simp))))
  | (with_reducible refine i_lc ?_)
  | (with_reducible refine i_for ?_)
  | (with_reducible refine i_rng1 ?_)
  | (with_reducible refine i_rng2 ?_)
  | (with_reducible refine l_addI ?_)
  | (with_reducible refine l_subI ?_)
  | (with_reducible refine l_cmp ?_)
  | (with_reducible refine l_eqI ?_)
  | (with_reducible refine l_eqS ?_)
  | (with_reducible refine l_eqB ?_)
  | (with_reducible refine l_neI ?_)
  | (with_reducible refine l_neS ?_)
  | (with_reducible refine l_neB ?_)
  | (with_reducible refine l_isN ?_)
  | (with_reducible refine l_isNotN ?_)
  | (with_reducible refine l_isB ?_)
  | (with_reducible refine l_isNotB ?_)
  | (with_reducible refine l_intI ?_)
  | (with_reducible refine l_intB ?_)
  | (with_reducible refine l_inC ?_)
  | (refine ⟨_, _, rfl, rfl, sz (by first | omega | simp; omega), ?_⟩)
  | ((with_reducible refine l_pow ?_ ?_); (focus (exact ⟨by decide, by decide, by decide⟩)))
  | ((with_reducible refine l_mul ?_ ?_); (focus (first | assumption | exact Or.inl (Or.inl ⟨by omega, by omega⟩) | exact Or.inl (Or.inr ⟨by omega, by omega⟩))))
  | ((with_reducible refine l_div ?_ ?_); (focus (first | assumption | exact ⟨by decide, by decide⟩)))
  | ((with_reducible apply l_setL); (assumption); (exact rfl))
  | ((with_reducible refine l_mod ?_ ?_); (walk_at "side"))
  | ((with_reducible apply l_ixL); (assumption); (exact rfl))
  | ((with_reducible refine l_lenS ?_ ?_); (focus (first | assumption | exact sz (by omega) | exact sz (by simp; omega))))
  | ((with_reducible refine l_slS ?_ ?_); (focus (first | assumption | exact sz (by omega))))
  | ((with_reducible apply l_isi); (walk_at "ty"); (walk_at "kt"))
  | ((with_reducible apply l_lenL); (assumption)))
local macro_rules | `(tactic| walk_at "go") => `(tactic| repeat (walk_at "1"))
local macro_rules | `(tactic| walk_at "1") => `(tactic| first
  | (with_reducible refine i_mkS ?_)
  | (with_reducible refine i_cS ?_)
  | (with_reducible refine i_fld ?_)
  | (with_reducible refine i_sFld ?_)
  | (with_reducible refine i_tX ?_)
  | (with_reducible refine l_len2 rfl rfl ?_))
local macro_rules | `(tactic| walk_at "1") => `(tactic| first
  | (with_reducible refine i_stp ?_)
  | ((with_reducible apply i_iad); (exact rfl))
  | (with_reducible refine i_cO ?_)
  | (with_reducible refine i_prp ?_)
  | (with_reducible refine i_mtS ?_)
  | (with_reducible refine i_fldaug ?_)
  | (with_reducible refine i_par ?_)
  | (with_reducible refine i_par3 ?_)
  | (with_reducible refine i_revL ?_))
section
variable {P : Program} {w : World} {K : PySem.W.Frag} {mg : Str → Option Value} {base : Heap}
def clF (n : Int) : List (Str × V) := putF "held" (.int n) []
theorem clF_put (m n : Int) : putF "held" (.int m) (clF n) = clF m := rfl
theorem lk_held {n : Int} : (clF n).lookup ("held" : Str) = some (V.int n) := rfl
def fnF (x : Addr) : List (Str × V) := putF "cell" (.ref x) []
theorem lk_cell {x : Addr} : (fnF x).lookup ("cell" : Str) = some (V.ref x) := rfl
/-- a value that is no integer -/
def NoI (K : PySem.W.Frag) (H : Hp) (v : V) : Prop := Kd K H v ∧ isI v = false
def spCell (K : PySem.W.Frag) (C CB : Addr) : Sp := fun vs H Q E => ∃ x dx v, vs = [.ref x, v] ∧ H x = some (.ins C dx []) ∧
  ((∃ n, v = .int n ∧ Q .non (upd H x (.ins C dx (clF n)))) ∨ (NoI K H v ∧ ∀ d, H d = none → E (.ref CB) (some d) (upd H d (.xd [("value", v)]))))
def spSet (K : PySem.W.Frag) (C CB : Addr) : Sp := fun vs H Q E => ∃ x dx n v, vs = [.ref x, v] ∧ H x = some (.ins C dx (clF n)) ∧
  ((∃ m, v = .int m ∧ Q .non (upd H x (.ins C dx (clF m)))) ∨ (NoI K H v ∧ ∀ d, H d = none → E (.ref CB) (some d) (upd H d (.xd [("value", v)]))))
def spIad (K : PySem.W.Frag) (C CB : Addr) : Sp := fun vs H Q E => ∃ x dx n v, vs = [.ref x, v] ∧ H x = some (.ins C dx (clF n)) ∧
  ((∃ m, v = .int m ∧ Q (.ref x) (upd H x (.ins C dx (clF (n + m))))) ∨ (NoI K H v ∧ ∀ d, H d = none → E (.ref CB) (some d) (upd H d (.xd [("value", v)]))))
def spGet (C : Addr) : Sp := fun vs H Q _ => ∃ x dx n, vs = [.ref x] ∧ H x = some (.ins C dx (clF n)) ∧ Q (.int n) H
def spFun (C : Addr) : Sp := fun vs H Q _ => ∃ x dx v, vs = [.ref x, .ref v] ∧ H x = some (.ins C dx []) ∧ Q .non (upd H x (.ins C dx (fnF v)))
def spShow (CF C : Addr) : Sp := fun vs H Q _ => ∃ f df x dx n, vs = [.ref f] ∧ H f = some (.ins CF df (fnF x)) ∧ H x = some (.ins C dx (clF n)) ∧ Q (.int n) H
theorem ok_cell {C_RoundError C_BadNumber C_BadPlay C_Play d_Play_0 d_Play_1 C_Cell C_Function : Addr} (T : Tp K mg C_RoundError C_BadNumber C_BadPlay C_Play d_Play_0 d_Play_1 C_Cell C_Function) : Ini P w K mg base 3 "Cell" C_Cell "Cell.__init__" s_Cell___init__ [] ["self", "value"] (spCell K C_Cell C_BadNumber) := by
  have c_is_integer : Cal P w K mg base 1 "is_integer" (spInt K) [] := ok_int T
  refine T.i_Cell.ini sc_Cell___init__ (fun vs H Q E h => ?_) (fun f cdv A outer s H vs Q E hr _ h => ?_)
  · obtain ⟨x, dx, v, rfl, _⟩ := h
    rfl
  · obtain ⟨x, dx, v, rfl, hx, h⟩ := h
    have sc := sc_Cell___init__
    refine ⟨_, 
    (pss_cons (ps_if (pt_not (kTruth (K := K) rfl (pe_c c_is_integer hr (by decide) (by rfl) (pa_cons (pv 1) pa_nil)) (by intro _; rfl))) (
      (pss_one (ps_raise rfl (takes_of rfl rfl rfl rfl) (pmk_x (T.x_BadNumber P w base) hr (by decide) (by rfl) (pa_cons (pv 1) pa_nil))))) (pss_nil))
    (pss_one (ps_fld (pv 0) (pv 1) rfl))), ?_⟩
    try rw [cxK]
    refine i_start (τ := [some (.ref x), some v]) rfl ?_
    walk_at "go"
    rcases h with ⟨n, rfl, q⟩ | ⟨⟨hk, hi⟩, q⟩
    · refine ⟨_, rfl, .inl rfl, true, by simp [TruV, isI], ?_⟩
      walk_at "go"
      refine ⟨x, C_Cell, dx, [], rfl, hx, T.cl_Cell, T.n_Cell_held, by decide, ?_⟩
      exact q
    · refine ⟨_, rfl, hk, false, by simp [TruV, hi], ?_⟩
      walk_at "go"
      exact ⟨v, rfl, q⟩
theorem mk_Cell_1 {C_RoundError C_BadNumber C_BadPlay C_Play d_Play_0 d_Play_1 C_Cell C_Function : Addr} (T : Tp K mg C_RoundError C_BadNumber C_BadPlay C_Play d_Play_0 d_Play_1 C_Cell C_Function) : MakG P w K mg base 3 "Cell" C_Cell (spCell K C_Cell C_BadNumber) 1 [] (fun vs _ => vs) :=
  (ok_cell T).mak fun f fd F => ⟨_, kbn_of (ps := ["self", "value"]) (F.bindsN fun kV doc pm an cdv ct us hl => match us, hl with | [_, _], _ => rfl)⟩
theorem ok_cset {C_RoundError C_BadNumber C_BadPlay C_Play d_Play_0 d_Play_1 C_Cell C_Function : Addr} (T : Tp K mg C_RoundError C_BadNumber C_BadPlay C_Play d_Play_0 d_Play_1 C_Cell C_Function) : StpG P w K mg base 3 C_Cell "content" (spSet K C_Cell C_BadNumber) ["self", "value"] := by
  have c_is_integer : Cal P w K mg base 1 "is_integer" (spInt K) [] := ok_int T
  refine T.p_Cell_content_set.stp sc_Cell_content_set (fun vs H Q E h => ?_) (fun f cdv A outer s H vs Q E hr _ h => ?_)
  · obtain ⟨x, dx, n, v, rfl, _⟩ := h
    rfl
  · obtain ⟨x, dx, n, v, rfl, hx, h⟩ := h
    have sc := sc_Cell_content_set
    refine ⟨_, 
    (pss_cons (ps_if (pt_not (kTruth (K := K) rfl (pe_c c_is_integer hr (by decide) (by rfl) (pa_cons (pv 1) pa_nil)) (by intro _; rfl))) (
      (pss_one (ps_raise rfl (takes_of rfl rfl rfl rfl) (pmk_x (T.x_BadNumber P w base) hr (by decide) (by rfl) (pa_cons (pv 1) pa_nil))))) (pss_nil))
    (pss_one (ps_fld (pv 0) (pv 1) rfl))), ?_⟩
    try rw [cxK]
    refine i_start (τ := [some (.ref x), some v]) rfl ?_
    walk_at "go"
    rcases h with ⟨m, rfl, q⟩ | ⟨⟨hk, hi⟩, q⟩
    · refine ⟨_, rfl, .inl rfl, true, by simp [TruV, isI], ?_⟩
      walk_at "go"
      refine ⟨x, C_Cell, dx, _, rfl, hx, T.cl_Cell, T.n_Cell_held, by simp [clF, putF], ?_⟩
      exact q
    · refine ⟨_, rfl, hk, false, by simp [TruV, hi], ?_⟩
      walk_at "go"
      exact ⟨v, rfl, q⟩
theorem ok_put {C_RoundError C_BadNumber C_BadPlay C_Play d_Play_0 d_Play_1 C_Cell C_Function : Addr} (T : Tp K mg C_RoundError C_BadNumber C_BadPlay C_Play d_Play_0 d_Play_1 C_Cell C_Function) : MetG P w K mg base false 6 C_Cell "put" (spSet K C_Cell C_BadNumber) ["self", "value"] := by
  have c_Cell_content_set := ok_cset (P := P) (w := w) (base := base) T
  refine T.m_Cell_put.metX sc_Cell_put (fun vs H Q E h => ?_) (fun f cdv A outer s H vs Q E hr _ h => ?_)
  · obtain ⟨x, dx, n, v, rfl, _⟩ := h
    rfl
  · obtain ⟨x, dx, n, v, rfl, hx, h⟩ := h
    have sc := sc_Cell_put
    refine ⟨_, 
    (pss_one (ps_stp c_Cell_content_set hr (by decide) (takes_of rfl rfl rfl rfl) (pv 0) (pv 1) rfl)), ?_⟩
    try rw [cxK]
    refine i_start (τ := [some (.ref x), some v]) rfl ?_
    walk_at "go"
    refine ⟨x, dx, _, rfl, hx, x, dx, n, v, rfl, hx, ?_⟩
    exact h
theorem ok_iad {C_RoundError C_BadNumber C_BadPlay C_Play d_Play_0 d_Play_1 C_Cell C_Function : Addr} (T : Tp K mg C_RoundError C_BadNumber C_BadPlay C_Play d_Play_0 d_Play_1 C_Cell C_Function) : MetG P w K mg base false 3 C_Cell "__iadd__" (spIad K C_Cell C_BadNumber) ["self", "value"] := by
  have c_is_integer : Cal P w K mg base 1 "is_integer" (spInt K) [] := ok_int T
  refine T.m_Cell___iadd__.metX sc_Cell___iadd__ (fun vs H Q E h => ?_) (fun f cdv A outer s H vs Q E hr _ h => ?_)
  · obtain ⟨x, dx, n, v, rfl, _⟩ := h
    rfl
  · obtain ⟨x, dx, n, v, rfl, hx, h⟩ := h
    have sc := sc_Cell___iadd__
    refine ⟨_, 
    (pss_cons (ps_if (pt_not (kTruth (K := K) rfl (pe_c c_is_integer hr (by decide) (by rfl) (pa_cons (pv 1) pa_nil)) (by intro _; rfl))) (
      (pss_one (ps_raise rfl (takes_of rfl rfl rfl rfl) (pmk_x (T.x_BadNumber P w base) hr (by decide) (by rfl) (pa_cons (pv 1) pa_nil))))) (pss_nil))
    (pss_cons (ps_fldaug (pv 0) (pv 1) in_add)
    (pss_one (ps_ret (pv 0))))), ?_⟩
    try rw [cxK]
    refine i_start (τ := [some (.ref x), some v]) rfl ?_
    walk_at "go"
    rcases h with ⟨m, rfl, q⟩ | ⟨⟨hk, hi⟩, q⟩
    · refine ⟨_, rfl, .inl rfl, true, by simp [TruV, isI], ?_⟩
      walk_at "go"
      refine ⟨x, C_Cell, dx, _, _, rfl, hx, T.cl_Cell, T.n_Cell_held, lk_held, ?_⟩
      walk_at "go"
      refine ⟨_, _, rfl, rfl, dx, _, hx, by simp [clF, putF], ?_⟩
      walk_at "go"
      exact q
    · refine ⟨_, rfl, hk, false, by simp [TruV, hi], ?_⟩
      walk_at "go"
      exact ⟨v, rfl, q⟩
theorem ok_content {C_RoundError C_BadNumber C_BadPlay C_Play d_Play_0 d_Play_1 C_Cell C_Function : Addr} (T : Tp K mg C_RoundError C_BadNumber C_BadPlay C_Play d_Play_0 d_Play_1 C_Cell C_Function) : PrpG P w K mg base 1 C_Cell "content" (spGet C_Cell) := by
  refine T.p_Cell_content.prp sc_Cell_content (fun vs H Q E h => ?_) (fun f cdv A outer s H vs Q E hr h => ?_)
  · obtain ⟨x, dx, n, rfl, _⟩ := h
    rfl
  · obtain ⟨x, dx, n, rfl, hx, q⟩ := h
    have sc := sc_Cell_content
    refine ⟨_, 
    (pss_one (ps_ret (pe_fld (pv 0) rfl))), ?_⟩
    try rw [cxK]
    refine i_start (τ := [some (.ref x)]) rfl ?_
    walk_at "go"
    refine ⟨x, C_Cell, dx, _, _, rfl, hx, T.cl_Cell, T.n_Cell_held, lk_held, ?_⟩
    exact q
theorem ok_fun {C_RoundError C_BadNumber C_BadPlay C_Play d_Play_0 d_Play_1 C_Cell C_Function : Addr} (T : Tp K mg C_RoundError C_BadNumber C_BadPlay C_Play d_Play_0 d_Play_1 C_Cell C_Function) : Ini P w K mg base 1 "Function" C_Function "Function.__init__" s_Function___init__ [] ["self", "cell"] (spFun C_Function) := by
  refine T.i_Function.ini sc_Function___init__ (fun vs H Q E h => ?_) (fun f cdv A outer s H vs Q E hr _ h => ?_)
  · obtain ⟨x, dx, v, rfl, _⟩ := h
    rfl
  · obtain ⟨x, dx, v, rfl, hx, q⟩ := h
    have sc := sc_Function___init__
    refine ⟨_, 
    (pss_one (ps_fld (pv 0) (pv 1) rfl)), ?_⟩
    try rw [cxK]
    refine i_start (τ := [some (.ref x), some (.ref v)]) rfl ?_
    walk_at "go"
    refine ⟨x, C_Function, dx, [], rfl, hx, T.cl_Function, T.n_Function_cell, by decide, ?_⟩
    exact q
theorem mk_Function_1 {C_RoundError C_BadNumber C_BadPlay C_Play d_Play_0 d_Play_1 C_Cell C_Function : Addr} (T : Tp K mg C_RoundError C_BadNumber C_BadPlay C_Play d_Play_0 d_Play_1 C_Cell C_Function) : MakG P w K mg base 1 "Function" C_Function (spFun C_Function) 1 [] (fun vs _ => vs) :=
  (ok_fun T).mak fun f fd F => ⟨_, kbn_of (ps := ["self", "cell"]) (F.bindsN fun kV doc pm an cdv ct us hl => match us, hl with | [_, _], _ => rfl)⟩
theorem ok_show {C_RoundError C_BadNumber C_BadPlay C_Play d_Play_0 d_Play_1 C_Cell C_Function : Addr} (T : Tp K mg C_RoundError C_BadNumber C_BadPlay C_Play d_Play_0 d_Play_1 C_Cell C_Function) : CloG P w K mg base 1 C_Function (spShow C_Function C_Cell) := by
  refine MetG.clo (T.m_Function___call__.met sc_Function___call__ (fun vs H Q E h => ?_) (fun f cdv A outer s H vs Q E hr _ h => ?_))
  · obtain ⟨ff, df, x, dx, n, rfl, _⟩ := h
    rfl
  · obtain ⟨ff, df, x, dx, n, rfl, hf, hx, q⟩ := h
    have sc := sc_Function___call__
    refine ⟨_, 
    (pss_one (ps_ret (pe_fld (pe_fld (pv 0) rfl) rfl))), ?_⟩
    try rw [cxK]
    refine i_start (τ := [some (.ref ff)]) rfl ?_
    walk_at "go"
    refine ⟨ff, C_Function, df, _, _, rfl, hf, T.cl_Function, T.n_Function_cell, lk_cell, ?_⟩
    refine ⟨x, C_Cell, dx, _, _, rfl, hx, T.cl_Cell, T.n_Cell_held, lk_held, ?_⟩
    exact q
end
end K
namespace K
open PySem PySem.Spec PyProof.Rows L2 G TL
local macro_rules | `(tactic| walk_at "side") => `(tactic| focus (first | assumption | exact rfl | omega | decide))
local macro_rules | `(tactic| walk_at "ty") => `(tactic| focus (first | exact .base (.str _) | exact .base (.int _) | exact .base (.bl _) | exact .base .non | exact .base (.lst (by assumption)) | exact .base (.tup (by assumption)) | exact .base (.dK (by assumption)) | assumption))
local macro_rules | `(tactic| walk_at "kt") => `(tactic| focus (with_reducible first | exact kt_NoneType_str | exact kt_NoneType_int | exact kt_NoneType_bool | exact kt_NoneType_tuple | exact kt_NoneType_list | exact kt_NoneType_dict | exact kt_bool_str | exact kt_bool_int | exact kt_bool_bool | exact kt_bool_tuple | exact kt_bool_list | exact kt_bool_dict | exact kt_int_str | exact kt_int_int | exact kt_int_bool | exact kt_int_tuple | exact kt_int_list | exact kt_int_dict | exact kt_str_str | exact kt_str_int | exact kt_str_bool | exact kt_str_tuple | exact kt_str_list | exact kt_str_dict | exact kt_list_str | exact kt_list_int | exact kt_list_bool | exact kt_list_tuple | exact kt_list_list | exact kt_list_dict | exact kt_tuple_str | exact kt_tuple_int | exact kt_tuple_bool | exact kt_tuple_tuple | exact kt_tuple_list | exact kt_tuple_dict | exact kt_dict_str | exact kt_dict_int | exact kt_dict_bool | exact kt_dict_tuple | exact kt_dict_list | exact kt_dict_dict | assumption))
local macro_rules | `(tactic| walk_at "1") => `(tactic| first
  | (with_reducible refine i_seq ?_)
  | (with_reducible refine iteT ?_)
  | (with_reducible refine iteF ?_)
  | (with_reducible refine iteNF ?_)
  | (with_reducible refine iteNT ?_)
  | (with_reducible refine i_asg ?_)
  | (with_reducible refine i_op ?_)
  | (with_reducible refine i_c ?_)
  | ((with_reducible apply i_var); (exact rfl))
  | (with_reducible refine i_cb ?_)
  | (with_reducible refine i_cons ?_)
  | (with_reducible refine i_nil ?_)
  | (with_reducible refine i_test ?_)
  | (with_reducible refine i_b ?_)
  | (with_reducible refine i_bl ?_)
  | (with_reducible refine i_name ?_)
  | (with_reducible refine i_ifS ?_)
  | (with_reducible refine i_next ?_)
  | (with_reducible refine i_ret ?_)
  | (with_reducible refine i_drop ?_)
  | (with_reducible refine i_lst ?_)
  | (with_reducible refine i_tup ?_)
  | (with_reducible refine i_and ?_)
  | (with_reducible refine i_or ?_)
  | (with_reducible refine i_not ?_)
  | (with_reducible refine i_andV ?_)
  | (with_reducible refine i_orV ?_)
  | (with_reducible refine i_notV ?_)
  | (with_reducible refine i_if ?_)
  | (with_reducible refine i_chain ?_)
  | (with_reducible refine i_un ?_)
  | (with_reducible refine i_neg ?_)
  | (with_reducible refine i_sub ?_)
  | (with_reducible refine i_sl ?_)
  | (with_reducible refine i_noP ?_)
  | (with_reducible refine i_part ?_)
  | (with_reducible refine i_int ?_)
  | (with_reducible refine i_bm ?_)
  | (with_reducible refine i_strT ?_)
  | (with_reducible refine i_yes ?_)
  | (with_reducible refine i_call ?_)
  | ((with_reducible refine i_len ?_ ?_); (focus (exact sz (by simp))))
  | (with_reducible refine i_lc ?_)
  | (with_reducible refine i_for ?_)
  | (with_reducible refine i_rng1 ?_)
  | (with_reducible refine i_rng2 ?_)
  | (with_reducible refine l_addI ?_)
  | (with_reducible refine l_subI ?_)
  | (with_reducible refine l_cmp ?_)
  | (with_reducible refine l_eqI ?_)
  | (with_reducible refine l_eqS ?_)
  | (with_reducible refine l_eqB ?_)
  | (with_reducible refine l_neI ?_)
  | (with_reducible refine l_neS ?_)
  | (with_reducible refine l_neB ?_)
  | (with_reducible refine l_isN ?_)
  | (with_reducible refine l_isNotN ?_)
  | (with_reducible refine l_isB ?_)
  | (with_reducible refine l_isNotB ?_)
  | (with_reducible refine l_intI ?_)
  | (with_reducible refine l_intB ?_)
  | (with_reducible refine l_inC ?_)
  | (refine ⟨_, _, rfl, rfl, sz (by first | omega | simp; omega), ?_⟩)
  | ((with_reducible refine l_pow ?_ ?_); (focus (exact ⟨by decide, by decide, by decide⟩)))
  | ((with_reducible refine l_mul ?_ ?_); (focus (first | assumption | exact Or.inl (Or.inl ⟨by omega, by omega⟩) | exact Or.inl (Or.inr ⟨by omega, by omega⟩))))
  | ((with_reducible refine l_div ?_ ?_); (focus (first | assumption | exact ⟨by decide, by decide⟩)))
  | ((with_reducible apply l_setL); (assumption); (exact rfl))
  | ((with_reducible refine l_mod ?_ ?_); (walk_at "side"))
  | ((with_reducible apply l_ixL); (assumption); (exact rfl))
  | ((with_reducible refine l_lenS ?_ ?_); (focus (first | assumption | exact sz (by omega) | exact sz (by simp; omega))))
  | ((with_reducible refine l_slS ?_ ?_); (focus (first | assumption | exact sz (by omega))))
  | ((with_reducible apply l_isi); (walk_at "ty"); (walk_at "kt"))
  | ((with_reducible apply l_lenL); (assumption)))
local macro_rules | `(tactic| walk_at "go") => `(tactic| repeat (walk_at "1"))
local macro_rules | `(tactic| walk_at "1") => `(tactic| first
  | (with_reducible refine i_mkS ?_)
  | (with_reducible refine i_cS ?_)
  | (with_reducible refine i_fld ?_)
  | (with_reducible refine i_sFld ?_)
  | (with_reducible refine i_tX ?_)
  | (with_reducible refine l_len2 rfl rfl ?_))
local macro_rules | `(tactic| walk_at "1") => `(tactic| first
  | (with_reducible refine i_stp ?_)
  | ((with_reducible apply i_iad); (exact rfl))
  | (with_reducible refine i_cO ?_)
  | (with_reducible refine i_prp ?_)
  | (with_reducible refine i_mtS ?_)
  | (with_reducible refine i_fldaug ?_)
  | (with_reducible refine i_par ?_)
  | (with_reducible refine i_par3 ?_)
  | (with_reducible refine i_revL ?_))
section
variable {P : Program} {w : World} {K : PySem.W.Frag} {mg : Str → Option Value} {base : Heap}
/-- repr(v) is z -/
def Shw (K : PySem.W.Frag) (H : Hp) (v : V) (z : Str) : Prop := ∀ (H' : Hp) (Q : VK), Ex H H' → Q (.str z) H' → rReprA K [v] H' Q
theorem Shw.mono {H H' : Hp} {v : V} {z : Str} (h : Shw K H v z) (e : Ex H H') : Shw K H' v z := fun H2 Q e2 q => h H2 Q (e.trans e2) q
/-- an item that is shown in a few signs -/
structure Lf (d : PyData) : Prop where
  sh : d.showable = true
  nd : d.hasDict = false
  ln : d.shown.length ≤ 60
  dp : d.depth ≤ 2
theorem lf_all : ∀ {xs : List PyData}, (∀ d ∈ xs, Lf d) → PyData.showableAll xs = true ∧ PyData.hasDictAll xs = false ∧ ((PyData.shownAll xs).map (·.length)).sum ≤ 60 * xs.length ∧ (PyData.shownAll xs).length = xs.length ∧ PyData.depthAll xs ≤ 2
  | [], _ => by simp [PyData.showableAll, PyData.hasDictAll, PyData.shownAll, PyData.depthAll]
  | x :: xs, h => by
    obtain ⟨h1, h2, h3, h4⟩ := h x List.mem_cons_self
    obtain ⟨g1, g2, g3, g4, g5⟩ := lf_all fun d hd => h d (List.mem_cons_of_mem _ hd)
    rw [PyData.showableAll, PyData.hasDictAll, PyData.shownAll, PyData.depthAll, h1, h2, g1, g2]
    simp only [List.map_cons, List.sum_cons, List.length_cons, Bool.and_self, Bool.or_self, true_and]
    exact ⟨by omega, by omega, Nat.max_le.mpr ⟨h4, g5⟩⟩
theorem shw_dp {H : Hp} {v : V} {d : PyData} (h : Dp K H v d) (h1 : d.showable = true) (h2 : d.hasDict = false) (h3 : d.shown.length ≤ 100000) (h4 : d.depth ≤ 50) : Shw K H v d.shown :=
  fun H' Q e q => .inl ⟨v, d, rfl, dp_mono e d v h, h1, h2, sz h3, h4, q⟩
theorem shw_list {H : Hp} {v : V} {xs : List PyData} (h : Dp K H v (.list xs)) (hl : ∀ d ∈ xs, Lf d) (hn : xs.length ≤ 100) : Shw K H v (PyData.list xs).shown := by
  obtain ⟨g1, g2, g3, g4, g5⟩ := lf_all hl
  refine shw_dp h (by rw [PyData.showable]; exact g1) (by rw [PyData.hasDict]; exact g2) ?_ (by rw [PyData.depth]; omega)
  have := listText_len_le (PyData.shownAll xs)
  rw [PyData.shown]
  omega
theorem shw_tup {H : Hp} {v : V} {xs : List PyData} (h : Dp K H v (.tuple xs)) (hl : ∀ d ∈ xs, Lf d) (hn : xs.length ≤ 100) : Shw K H v (PyData.tuple xs).shown := by
  obtain ⟨g1, g2, g3, g4, g5⟩ := lf_all hl
  refine shw_dp h (by rw [PyData.showable]; exact g1) (by rw [PyData.hasDict]; exact g2) ?_ (by rw [PyData.depth]; omega)
  have := tupleText_len_le (PyData.shownAll xs)
  rw [PyData.shown]
  omega
theorem lf_int {i : Int} (h : i.natAbs < 10 ^ 39) : Lf (.int i) := by
  have e := int_text_length_le10 (k := 39) (by decide) h
  refine ⟨?_, rfl, ?_, by simp [PyData.depth]⟩
  · rw [PyData.showable]
    refine decide_eq_true ?_
    by_cases h0 : i.natAbs = 0
    · rw [h0]
      decide
    · have h1 : i.natAbs.log2 < 130 := (Nat.log2_lt h0).mpr (Nat.lt_trans h (by decide))
      omega
  · rw [PyData.shown, PySem.ofString_length]
    omega
theorem lf_bl (b : Bool) : Lf (.bool b) := by
  cases b <;> exact ⟨rfl, rfl, by decide, by simp [PyData.depth]⟩
theorem lf_non : Lf .none := ⟨rfl, rfl, by decide, by simp [PyData.depth]⟩
theorem lf_ints {ns : List Int} (h : ∀ n ∈ ns, n.natAbs < 10 ^ 39) : ∀ d ∈ ns.map PyData.int, Lf d := fun d hd => by
  obtain ⟨n, hn, rfl⟩ := List.mem_map.mp hd
  exact lf_int (h n hn)
theorem lf_bls {bs : List Bool} : ∀ d ∈ bs.map PyData.bool, Lf d := fun d hd => by
  obtain ⟨n, hn, rfl⟩ := List.mem_map.mp hd
  exact lf_bl n
theorem dp_append {H : Hp} : ∀ {xs ys : List V} {ds es : List PyData}, DpAll K H xs ds → DpAll K H ys es → DpAll K H (xs ++ ys) (ds ++ es)
  | _, _, _, _, .nil, h => h
  | _, _, _, _, .cons a b, h => .cons a (dp_append b h)
theorem NoI.mono {H H' : Hp} {v : V} (h : NoI K H v) (e : Ex H H') : NoI K H' v := ⟨h.1.mono e, h.2⟩
theorem sh_sb {z : Str} (b : Bool) (h : PyData.strOk z = true) : SeqAt.shaped (.list [.str z, .bool b]) = true := by
  unfold SeqAt.shaped
  simp [h, PyData.canLay0, PyData.canLayAll0, PyData.depth, PyData.depthAll]
theorem eqv_sb (z : Str) (b : Bool) : PyData.eqv (.list [.str z, .bool b]) (.list [.str z, .bool b]) = true := by
  simp [PyData.eqv, PyData.eqvAll]
section
variable {H : Hp} {x y : V} {d e : PyData} {b : Bool} {Q : VK}
theorem l_eqD (h1 : Dp K H x d) (h2 : Dp K H y e) (s1 : SeqAt.shaped d = true) (s2 : SeqAt.shaped e = true) (hb : PyData.eqv d e = b) (q : Q (.bl b) H) : rEqA K x y H Q := .inr ⟨d, e, h1, h2, s1, s2, by rw [hb]; exact q⟩
theorem l_neD (h1 : Dp K H x d) (h2 : Dp K H y e) (s1 : SeqAt.shaped d = true) (s2 : SeqAt.shaped e = true) (hb : PyData.eqv d e = b) (q : Q (.bl (!b)) H) : rNeA K x y H Q := .inr ⟨d, e, h1, h2, s1, s2, by rw [hb]; exact q⟩
end
end
end K
namespace K
open PySem PySem.Spec PyProof.Rows L2 G TL
local macro_rules | `(tactic| walk_at "side") => `(tactic| focus (first | assumption | exact rfl | omega | decide))
local macro_rules | `(tactic| walk_at "ty") => `(tactic| focus (first | exact .base (.str _) | exact .base (.int _) | exact .base (.bl _) | exact .base .non | exact .base (.lst (by assumption)) | exact .base (.tup (by assumption)) | exact .base (.dK (by assumption)) | assumption))
local macro_rules | `(tactic| walk_at "kt") => `(tactic| focus (with_reducible first | exact kt_NoneType_str | exact kt_NoneType_int | exact kt_NoneType_bool | exact kt_NoneType_tuple | exact kt_NoneType_list | exact kt_NoneType_dict | exact kt_bool_str | exact kt_bool_int | exact kt_bool_bool | exact kt_bool_tuple | exact kt_bool_list | exact kt_bool_dict | exact kt_int_str | exact kt_int_int | exact kt_int_bool | exact kt_int_tuple | exact kt_int_list | exact kt_int_dict | exact kt_str_str | exact kt_str_int | exact kt_str_bool | exact kt_str_tuple | exact kt_str_list | exact kt_str_dict | exact kt_list_str | exact kt_list_int | exact kt_list_bool | exact kt_list_tuple | exact kt_list_list | exact kt_list_dict | exact kt_tuple_str | exact kt_tuple_int | exact kt_tuple_bool | exact kt_tuple_tuple | exact kt_tuple_list | exact kt_tuple_dict | exact kt_dict_str | exact kt_dict_int | exact kt_dict_bool | exact kt_dict_tuple | exact kt_dict_list | exact kt_dict_dict | assumption))
local macro_rules | `(tactic| walk_at "1") => `(tactic| first
  | (with_reducible refine i_seq ?_)
  | (with_reducible refine iteT ?_)
  | (with_reducible refine iteF ?_)
  | (with_reducible refine iteNF ?_)
  | (with_reducible refine iteNT ?_)
  | (with_reducible refine i_asg ?_)
  | (with_reducible refine i_op ?_)
  | (with_reducible refine i_c ?_)
  | ((with_reducible apply i_var); (exact rfl))
  | (with_reducible refine i_cb ?_)
  | (with_reducible refine i_cons ?_)
  | (with_reducible refine i_nil ?_)
  | (with_reducible refine i_test ?_)
  | (with_reducible refine i_b ?_)
  | (with_reducible refine i_bl ?_)
  | (with_reducible refine i_name ?_)
  | (with_reducible refine i_ifS ?_)
  | (with_reducible refine i_next ?_)
  | (with_reducible refine i_ret ?_)
  | (with_reducible refine i_drop ?_)
  | (with_reducible refine i_lst ?_)
  | (with_reducible refine i_tup ?_)
  | (with_reducible refine i_and ?_)
  | (with_reducible refine i_or ?_)
  | (with_reducible refine i_not ?_)
  | (with_reducible refine i_andV ?_)
  | (with_reducible refine i_orV ?_)
  | (with_reducible refine i_notV ?_)
  | (with_reducible refine i_if ?_)
  | (with_reducible refine i_chain ?_)
  | (with_reducible refine i_un ?_)
  | (with_reducible refine i_neg ?_)
  | (with_reducible refine i_sub ?_)
  | (with_reducible refine i_sl ?_)
  | (with_reducible refine i_noP ?_)
  | (with_reducible refine i_part ?_)
  | (with_reducible refine i_int ?_)
  | (with_reducible refine i_bm ?_)
  | (with_reducible refine i_strT ?_)
  | (with_reducible refine i_yes ?_)
  | (with_reducible refine i_call ?_)
  | ((with_reducible refine i_len ?_ ?_); (focus (exact sz (by simp))))
  | (with_reducible refine i_lc ?_)
  | (with_reducible refine i_for ?_)
  | (with_reducible refine i_rng1 ?_)
  | (with_reducible refine i_rng2 ?_)
  | (with_reducible refine l_addI ?_)
  | (with_reducible refine l_subI ?_)
  | (with_reducible refine l_cmp ?_)
  | (with_reducible refine l_eqI ?_)
  | (with_reducible refine l_eqS ?_)
  | (with_reducible refine l_eqB ?_)
  | (with_reducible refine l_neI ?_)
  | (with_reducible refine l_neS ?_)
  | (with_reducible refine l_neB ?_)
  | (with_reducible refine l_isN ?_)
  | (with_reducible refine l_isNotN ?_)
  | (with_reducible refine l_isB ?_)
  | (with_reducible refine l_isNotB ?_)
  | (with_reducible refine l_intI ?_)
  | (with_reducible refine l_intB ?_)
  | (with_reducible refine l_inC ?_)
  | (refine ⟨_, _, rfl, rfl, sz (by first | omega | simp; omega), ?_⟩)
  | ((with_reducible refine l_pow ?_ ?_); (focus (exact ⟨by decide, by decide, by decide⟩)))
  | ((with_reducible refine l_mul ?_ ?_); (focus (first | assumption | exact Or.inl (Or.inl ⟨by omega, by omega⟩) | exact Or.inl (Or.inr ⟨by omega, by omega⟩))))
  | ((with_reducible refine l_div ?_ ?_); (focus (first | assumption | exact ⟨by decide, by decide⟩)))
  | ((with_reducible apply l_setL); (assumption); (exact rfl))
  | ((with_reducible refine l_mod ?_ ?_); (walk_at "side"))
  | ((with_reducible apply l_ixL); (assumption); (exact rfl))
  | ((with_reducible refine l_lenS ?_ ?_); (focus (first | assumption | exact sz (by omega) | exact sz (by simp; omega))))
  | ((with_reducible refine l_slS ?_ ?_); (focus (first | assumption | exact sz (by omega))))
  | ((with_reducible apply l_isi); (walk_at "ty"); (walk_at "kt"))
  | ((with_reducible apply l_lenL); (assumption)))
local macro_rules | `(tactic| walk_at "go") => `(tactic| repeat (walk_at "1"))
local macro_rules | `(tactic| walk_at "1") => `(tactic| first
  | (with_reducible refine i_mkS ?_)
  | (with_reducible refine i_cS ?_)
  | (with_reducible refine i_fld ?_)
  | (with_reducible refine i_sFld ?_)
  | (with_reducible refine i_tX ?_)
  | (with_reducible refine l_len2 rfl rfl ?_))
local macro_rules | `(tactic| walk_at "1") => `(tactic| first
  | (with_reducible refine i_stp ?_)
  | ((with_reducible apply i_iad); (exact rfl))
  | (with_reducible refine i_cO ?_)
  | (with_reducible refine i_prp ?_)
  | (with_reducible refine i_mtS ?_)
  | (with_reducible refine i_fldaug ?_)
  | (with_reducible refine i_par ?_)
  | (with_reducible refine i_par3 ?_)
  | (with_reducible refine i_revL ?_))
section
variable {P : Program} {w : World} {K : PySem.W.Frag} {mg : Str → Option Value} {base : Heap}
def spRef (K : PySem.W.Frag) : Sp := fun vs H Q _ => ∃ fg an, vs = [fg, an] ∧ ((∃ z, ((Bad K H isI fg ∧ Shw K H fg z) ∨ (∃ ns : List Int, Sq K H fg (ns.map V.int) ∧ ns.length ≤ 1000 ∧ Bad K H isB an ∧ Shw K H an z)) ∧ ∀ p H', Ex H H' → H' p = some (.lst [.str z, .bl true]) → Q (.ref p) H') ∨
  (∃ (ns : List Int) (bs : List Bool), Sq K H fg (ns.map V.int) ∧ Sq K H an (bs.map V.bl) ∧ ns.length ≤ 1000 ∧ bs.length ≤ 1000 ∧ ∀ H', Ex H H' → Q .non H'))
theorem ok_ref {C_RoundError C_BadNumber C_BadPlay C_Play d_Play_0 d_Play_1 C_Cell C_Function : Addr} (T : Tp K mg C_RoundError C_BadNumber C_BadPlay C_Play d_Play_0 d_Play_1 C_Cell C_Function) : CalG P w K mg base true 5 "_law_refused" (spRef K) 2 [] (fun vs _ => vs) := by
  have c_Play_2 := mk_Play_2 (P := P) (w := w) (base := base) T
  refine T.d__law_refused.calG sc__law_refused (fun vs H Q E h => ?_) (fun f cdv A outer s H vs Q E hr gd h => ?_)
  · obtain ⟨fg, an, rfl, _⟩ := h
    rfl
  · obtain ⟨fg, an, rfl, h⟩ := h
    have sc := sc__law_refused
    refine ⟨_, 
    (pss_cons (ps_try_as (i := 2) rfl rfl sc.nd rfl (by rfl) ⟨by rfl, by decide, Or.inl (T.x_BadPlay P w base).hm⟩ takes0 (fun W pn xe tk pw => 
        (pss_one (ps_expr (pe_mkS c_Play_2 hr (by decide) tk (by rfl) (pa_cons (pv 0) (pa_cons (pv 1) pa_nil)))))) (fun a oe cls d pn hz hf => 
        (pss_one (ps_ret (pe_lst (pa_cons (pe_callB (kRepr (K := K) rfl (gd rfl) hr.units) (by rfl) T.m_repr (by decide +kernel) (pa_cons (pe_xfS (T.x_BadPlay P w base) hz hf (pv 2)) pa_nil)) (pa_cons (pe_and (pe_callB (call_isX (T.x_BadPlay P w base).ec hz hf) (by rfl) T.m_isinstance (by decide +kernel) (pa_cons (pv 2) (pa_cons (pe_gc (by rfl) T.k_RoundError) pa_nil))) (pe_one (pe_callB (call_isX (T.x_BadPlay P w base).ec hz hf) (by rfl) T.m_isinstance (by decide +kernel) (pa_cons (pv 2) (pa_cons (gTy (n := "ValueError") (by rfl) T.m_ValueError (by decide +kernel)) pa_nil))))) pa_nil)))))))
    (pss_one (ps_ret (pe_non)))), ?_⟩
    try rw [cxK]
    refine i_start (τ := [some fg, some an, none]) rfl ?_
    walk_at "go"
    rcases h with ⟨z, h, k⟩ | ⟨ns, bs, hn, ho, l1, l2, k⟩
    · rcases h with ⟨hb, hz⟩ | ⟨ns, hn, l, hb, hz⟩
      rotate_left
      refine play_badO hn l hb ?_
      rotate_left
      refine play_badN hb ?_
      all_goals
        intro H' d he hn'
        have e2 : ∀ y, Ex H (upd H' d (.xd [("value", y)])) := fun y => he.trans (Ex.new hn')
        refine ⟨true, T.xm_BadPlay, fun _ a ha => ?_, fun e => nomatch e⟩
        walk_at "go"
        refine i_var rfl ⟨rfl, rfl, d, _, _, rfl, upd_same, rfl, ?_⟩
        walk_at "go"
        refine hz _ _ (e2 _) ?_
        walk_at "go"
        refine ⟨rfl, d, _, _, _, true, rfl, upd_same, rfl, .own _, T.kx_BadPlay_RoundError, ?_⟩
        walk_at "go"
        refine ⟨rfl, d, _, _, _, true, rfl, upd_same, rfl, .ty _, T.kx_BadPlay_ValueError, ?_⟩
        walk_at "go"
        intro p hp
        exact k p _ ((e2 _).trans (Ex.new hp)) upd_same
    · refine play_new hn ho l1 l2 fun x H' e hx => ?_
      walk_at "go"
      exact k H' e
def spAdded (K : PySem.W.Frag) (C : Addr) : Sp := fun vs H Q _ => ∃ x dx n v z, vs = [.ref x, v] ∧ H x = some (.ins C dx (clF n)) ∧ NoI K H v ∧ Shw K H v z ∧ ∀ p H', Ex H H' → H' p = some (.lst [.str z, .bl true]) → Q (.ref p) H'
theorem ok_added {C_RoundError C_BadNumber C_BadPlay C_Play d_Play_0 d_Play_1 C_Cell C_Function : Addr} (T : Tp K mg C_RoundError C_BadNumber C_BadPlay C_Play d_Play_0 d_Play_1 C_Cell C_Function) : CalG P w K mg base true 4 "_law_added" (spAdded K C_Cell) 2 [] (fun vs _ => vs) := by
  have c_Cell___iadd__ := ok_iad (P := P) (w := w) (base := base) T
  refine T.d__law_added.calG sc__law_added (fun vs H Q E h => ?_) (fun f cdv A outer s H vs Q E hr gd h => ?_)
  · obtain ⟨x, dx, n, v, z, rfl, _⟩ := h
    rfl
  · obtain ⟨x, dx, n, v, z, rfl, hx, hv, hz, k⟩ := h
    have sc := sc__law_added
    refine ⟨_, 
    (pss_cons (ps_try_as (i := 2) rfl rfl sc.nd rfl (by rfl) ⟨by rfl, by decide, Or.inl (T.x_BadNumber P w base).hm⟩ takes0 (fun W pn xe tk pw => 
        (pss_one (ps_iad (i := 0) c_Cell___iadd__ T.sf_Cell hr (by decide) tk sc.nd rfl (by first | exact Or.inl rfl | exact Or.inr rfl) (pv 1)))) (fun a oe cls d pn hz hf => 
        (pss_one (ps_ret (pe_lst (pa_cons (pe_callB (kRepr (K := K) rfl (gd rfl) hr.units) (by rfl) T.m_repr (by decide +kernel) (pa_cons (pe_xfS (T.x_BadNumber P w base) hz hf (pv 2)) pa_nil)) (pa_cons (pe_callB (call_isX (T.x_BadNumber P w base).ec hz hf) (by rfl) T.m_isinstance (by decide +kernel) (pa_cons (pv 2) (pa_cons (pe_gc (by rfl) T.k_RoundError) pa_nil))) pa_nil)))))))
    (pss_one (ps_ret (pe_non)))), ?_⟩
    try rw [cxK]
    refine i_start (τ := [some (.ref x), some v, none]) rfl ?_
    walk_at "go"
    refine ⟨x, dx, _, rfl, hx, x, dx, n, v, rfl, hx, .inr ⟨hv, fun d hd => ?_⟩⟩
    have e2 : ∀ y, Ex H (upd H d (.xd [("value", y)])) := fun y => Ex.new hd
    refine ⟨true, T.xm_BadNumber, fun _ a ha => ?_, fun e => nomatch e⟩
    walk_at "go"
    refine i_var rfl ⟨rfl, rfl, d, _, _, rfl, upd_same, rfl, ?_⟩
    walk_at "go"
    refine hz _ _ (e2 _) ?_
    walk_at "go"
    refine ⟨rfl, d, _, _, _, true, rfl, upd_same, rfl, .own _, T.kx_BadNumber_RoundError, ?_⟩
    walk_at "go"
    intro p hp
    exact k p _ ((e2 _).trans (Ex.new hp)) upd_same
def spGiven (K : PySem.W.Frag) (C : Addr) : Sp := fun vs H Q _ => ∃ x dx n v, vs = [.ref x, v] ∧ H x = some (.ins C dx (clF n)) ∧ ((∃ m, v = .int m ∧ Q .non (upd H x (.ins C dx (clF m)))) ∨ ∃ z, NoI K H v ∧ Shw K H v z ∧ ∀ p H', Ex H H' → H' p = some (.lst [.str z, .bl true]) → Q (.ref p) H')
theorem ok_given {C_RoundError C_BadNumber C_BadPlay C_Play d_Play_0 d_Play_1 C_Cell C_Function : Addr} (T : Tp K mg C_RoundError C_BadNumber C_BadPlay C_Play d_Play_0 d_Play_1 C_Cell C_Function) : CalG P w K mg base true 7 "_law_given" (spGiven K C_Cell) 2 [] (fun vs _ => vs) := by
  have c_Cell_put := ok_put (P := P) (w := w) (base := base) T
  refine T.d__law_given.calG sc__law_given (fun vs H Q E h => ?_) (fun f cdv A outer s H vs Q E hr gd h => ?_)
  · obtain ⟨x, dx, n, v, rfl, _⟩ := h
    rfl
  · obtain ⟨x, dx, n, v, rfl, hx, h⟩ := h
    have sc := sc__law_given
    refine ⟨_, 
    (pss_cons (ps_try_as (i := 2) rfl rfl sc.nd rfl (by rfl) ⟨by rfl, by decide, Or.inl (T.x_BadNumber P w base).hm⟩ takes0 (fun W pn xe tk pw => 
        (pss_one (ps_expr (pe_mtS c_Cell_put hr (by decide) (fun e => nomatch e) tk (pv 0) (pa_cons (pv 1) pa_nil))))) (fun a oe cls d pn hz hf => 
        (pss_one (ps_ret (pe_lst (pa_cons (pe_callB (kRepr (K := K) rfl (gd rfl) hr.units) (by rfl) T.m_repr (by decide +kernel) (pa_cons (pe_xfS (T.x_BadNumber P w base) hz hf (pv 2)) pa_nil)) (pa_cons (pe_callB (call_isX (T.x_BadNumber P w base).ec hz hf) (by rfl) T.m_isinstance (by decide +kernel) (pa_cons (pv 2) (pa_cons (pe_gc (by rfl) T.k_RoundError) pa_nil))) pa_nil)))))))
    (pss_one (ps_ret (pe_non)))), ?_⟩
    try rw [cxK]
    refine i_start (τ := [some (.ref x), some v, none]) rfl ?_
    walk_at "go"
    refine ⟨x, dx, _, rfl, hx, rfl, ?_⟩
    walk_at "go"
    refine ⟨x, dx, n, v, rfl, hx, ?_⟩
    rcases h with ⟨m, rfl, q⟩ | ⟨z, hv, hz, k⟩
    · refine .inl ⟨m, rfl, ?_⟩
      walk_at "go"
      exact q
    · refine .inr ⟨hv, fun d hd => ?_⟩
      have e2 : ∀ y, Ex H (upd H d (.xd [("value", y)])) := fun y => Ex.new hd
      refine ⟨true, T.xm_BadNumber, fun _ a ha => ?_, fun e => nomatch e⟩
      walk_at "go"
      refine i_var rfl ⟨rfl, rfl, d, _, _, rfl, upd_same, rfl, ?_⟩
      walk_at "go"
      refine hz _ _ (e2 _) ?_
      walk_at "go"
      refine ⟨rfl, d, _, _, _, true, rfl, upd_same, rfl, .own _, T.kx_BadNumber_RoundError, ?_⟩
      walk_at "go"
      intro p hp
      exact k p _ ((e2 _).trans (Ex.new hp)) upd_same
def spMade (K : PySem.W.Frag) : Sp := fun vs H Q _ => ∃ v z, vs = [v] ∧ NoI K H v ∧ Shw K H v z ∧ ∀ H', Ex H H' → Q (.str z) H'
theorem ok_made {C_RoundError C_BadNumber C_BadPlay C_Play d_Play_0 d_Play_1 C_Cell C_Function : Addr} (T : Tp K mg C_RoundError C_BadNumber C_BadPlay C_Play d_Play_0 d_Play_1 C_Cell C_Function) : CalG P w K mg base true 5 "_law_made" (spMade K) 1 [] (fun vs _ => vs) := by
  have c_Cell_1 := mk_Cell_1 (P := P) (w := w) (base := base) T
  refine T.d__law_made.calG sc__law_made (fun vs H Q E h => ?_) (fun f cdv A outer s H vs Q E hr gd h => ?_)
  · obtain ⟨v, z, rfl, _⟩ := h
    rfl
  · obtain ⟨v, z, rfl, hv, hz, k⟩ := h
    have sc := sc__law_made
    refine ⟨_, 
    (pss_cons (ps_try_as (i := 1) rfl rfl sc.nd rfl (by rfl) ⟨by rfl, by decide, Or.inl (T.x_BadNumber P w base).hm⟩ takes0 (fun W pn xe tk pw => 
        (pss_one (ps_expr (pe_mkS c_Cell_1 hr (by decide) tk (by rfl) (pa_cons (pv 0) pa_nil))))) (fun a oe cls d pn hz hf => 
        (pss_one (ps_ret (pe_callB (kRepr (K := K) rfl (gd rfl) hr.units) (by rfl) T.m_repr (by decide +kernel) (pa_cons (pe_xfS (T.x_BadNumber P w base) hz hf (pv 1)) pa_nil))))))
    (pss_one (ps_ret (pe_non)))), ?_⟩
    try rw [cxK]
    refine i_start (τ := [some v, none]) rfl ?_
    walk_at "go"
    intro x dx hx hdx hne
    have e0 := ex_new2 (o := HO.own x) (u := HO.ins C_Cell dx []) hx hdx
    refine ⟨x, dx, v, rfl, upd_same, .inr ⟨hv.mono e0, fun d hd => ?_⟩⟩
    have e2 : ∀ y, Ex H (upd (upd (upd H dx (.own x)) x (.ins C_Cell dx [])) d (.xd [("value", y)])) := fun y => e0.trans (Ex.new hd)
    refine ⟨true, T.xm_BadNumber, fun _ a ha => ?_, fun e => nomatch e⟩
    walk_at "go"
    refine i_var rfl ⟨rfl, rfl, d, _, _, rfl, upd_same, rfl, ?_⟩
    walk_at "go"
    refine hz _ _ (e2 _) ?_
    exact k _ (e2 _)
end
end K
namespace K
open PySem PySem.Spec PyProof.Rows L2 G TL
local macro_rules | `(tactic| walk_at "side") => `(tactic| focus (first | assumption | exact rfl | omega | decide))
local macro_rules | `(tactic| walk_at "ty") => `(tactic| focus (first | exact .base (.str _) | exact .base (.int _) | exact .base (.bl _) | exact .base .non | exact .base (.lst (by assumption)) | exact .base (.tup (by assumption)) | exact .base (.dK (by assumption)) | assumption))
local macro_rules | `(tactic| walk_at "kt") => `(tactic| focus (with_reducible first | exact kt_NoneType_str | exact kt_NoneType_int | exact kt_NoneType_bool | exact kt_NoneType_tuple | exact kt_NoneType_list | exact kt_NoneType_dict | exact kt_bool_str | exact kt_bool_int | exact kt_bool_bool | exact kt_bool_tuple | exact kt_bool_list | exact kt_bool_dict | exact kt_int_str | exact kt_int_int | exact kt_int_bool | exact kt_int_tuple | exact kt_int_list | exact kt_int_dict | exact kt_str_str | exact kt_str_int | exact kt_str_bool | exact kt_str_tuple | exact kt_str_list | exact kt_str_dict | exact kt_list_str | exact kt_list_int | exact kt_list_bool | exact kt_list_tuple | exact kt_list_list | exact kt_list_dict | exact kt_tuple_str | exact kt_tuple_int | exact kt_tuple_bool | exact kt_tuple_tuple | exact kt_tuple_list | exact kt_tuple_dict | exact kt_dict_str | exact kt_dict_int | exact kt_dict_bool | exact kt_dict_tuple | exact kt_dict_list | exact kt_dict_dict | assumption))
local macro_rules | `(tactic| walk_at "1") => `(tactic| first
  | (with_reducible refine i_seq ?_)
  | (with_reducible refine iteT ?_)
  | (with_reducible refine iteF ?_)
  | (with_reducible refine iteNF ?_)
  | (with_reducible refine iteNT ?_)
  | (with_reducible refine i_asg ?_)
  | (with_reducible refine i_op ?_)
  | (with_reducible refine i_c ?_)
  | ((with_reducible apply i_var); (exact rfl))
  | (with_reducible refine i_cb ?_)
  | (with_reducible refine i_cons ?_)
  | (with_reducible refine i_nil ?_)
  | (with_reducible refine i_test ?_)
  | (with_reducible refine i_b ?_)
  | (with_reducible refine i_bl ?_)
  | (with_reducible refine i_name ?_)
  | (with_reducible refine i_ifS ?_)
  | (with_reducible refine i_next ?_)
  | (with_reducible refine i_ret ?_)
  | (with_reducible refine i_drop ?_)
  | (with_reducible refine i_lst ?_)
  | (with_reducible refine i_tup ?_)
  | (with_reducible refine i_and ?_)
  | (with_reducible refine i_or ?_)
  | (with_reducible refine i_not ?_)
  | (with_reducible refine i_andV ?_)
  | (with_reducible refine i_orV ?_)
  | (with_reducible refine i_notV ?_)
  | (with_reducible refine i_if ?_)
  | (with_reducible refine i_chain ?_)
  | (with_reducible refine i_un ?_)
  | (with_reducible refine i_neg ?_)
  | (with_reducible refine i_sub ?_)
  | (with_reducible refine i_sl ?_)
  | (with_reducible refine i_noP ?_)
  | (with_reducible refine i_part ?_)
  | (with_reducible refine i_int ?_)
  | (with_reducible refine i_bm ?_)
  | (with_reducible refine i_strT ?_)
  | (with_reducible refine i_yes ?_)
  | (with_reducible refine i_call ?_)
  | ((with_reducible refine i_len ?_ ?_); (focus (exact sz (by simp))))
  | (with_reducible refine i_lc ?_)
  | (with_reducible refine i_for ?_)
  | (with_reducible refine i_rng1 ?_)
  | (with_reducible refine i_rng2 ?_)
  | (with_reducible refine l_addI ?_)
  | (with_reducible refine l_subI ?_)
  | (with_reducible refine l_cmp ?_)
  | (with_reducible refine l_eqI ?_)
  | (with_reducible refine l_eqS ?_)
  | (with_reducible refine l_eqB ?_)
  | (with_reducible refine l_neI ?_)
  | (with_reducible refine l_neS ?_)
  | (with_reducible refine l_neB ?_)
  | (with_reducible refine l_isN ?_)
  | (with_reducible refine l_isNotN ?_)
  | (with_reducible refine l_isB ?_)
  | (with_reducible refine l_isNotB ?_)
  | (with_reducible refine l_intI ?_)
  | (with_reducible refine l_intB ?_)
  | (with_reducible refine l_inC ?_)
  | (refine ⟨_, _, rfl, rfl, sz (by first | omega | simp; omega), ?_⟩)
  | ((with_reducible refine l_pow ?_ ?_); (focus (exact ⟨by decide, by decide, by decide⟩)))
  | ((with_reducible refine l_mul ?_ ?_); (focus (first | assumption | exact Or.inl (Or.inl ⟨by omega, by omega⟩) | exact Or.inl (Or.inr ⟨by omega, by omega⟩))))
  | ((with_reducible refine l_div ?_ ?_); (focus (first | assumption | exact ⟨by decide, by decide⟩)))
  | ((with_reducible apply l_setL); (assumption); (exact rfl))
  | ((with_reducible refine l_mod ?_ ?_); (walk_at "side"))
  | ((with_reducible apply l_ixL); (assumption); (exact rfl))
  | ((with_reducible refine l_lenS ?_ ?_); (focus (first | assumption | exact sz (by omega) | exact sz (by simp; omega))))
  | ((with_reducible refine l_slS ?_ ?_); (focus (first | assumption | exact sz (by omega))))
  | ((with_reducible apply l_isi); (walk_at "ty"); (walk_at "kt"))
  | ((with_reducible apply l_lenL); (assumption)))
local macro_rules | `(tactic| walk_at "go") => `(tactic| repeat (walk_at "1"))
local macro_rules | `(tactic| walk_at "1") => `(tactic| first
  | (with_reducible refine i_mkS ?_)
  | (with_reducible refine i_cS ?_)
  | (with_reducible refine i_fld ?_)
  | (with_reducible refine i_sFld ?_)
  | (with_reducible refine i_tX ?_)
  | (with_reducible refine l_len2 rfl rfl ?_))
local macro_rules | `(tactic| walk_at "1") => `(tactic| first
  | (with_reducible refine i_stp ?_)
  | ((with_reducible apply i_iad); (exact rfl))
  | (with_reducible refine i_cO ?_)
  | (with_reducible refine i_prp ?_)
  | (with_reducible refine i_mtS ?_)
  | (with_reducible refine i_fldaug ?_)
  | (with_reducible refine i_par ?_)
  | (with_reducible refine i_par3 ?_)
  | (with_reducible refine i_revL ?_))
section
variable {P : Program} {w : World} {K : PySem.W.Frag} {mg : Str → Option Value} {base : Heap}
theorem mk_Play_1 {C_RoundError C_BadNumber C_BadPlay C_Play d_Play_0 d_Play_1 C_Cell C_Function : Addr} (T : Tp K mg C_RoundError C_BadNumber C_BadPlay C_Play d_Play_0 d_Play_1 C_Cell C_Function) : MakG P w K mg base 3 "Play" C_Play (spPlay K C_Play C_BadPlay) 1 [] (fun vs _ => vs ++ [V.ref d_Play_0, V.ref d_Play_1].drop 1) :=
  (ok_init T).mak fun f fd F => by
    obtain ⟨its, h⟩ := F.kbindsD (ps := ["self", "numbers", "outcomes"]) 2 [] (fun us its _ => us ++ its.drop 1) (by simp) (fun a b _ => a.append (b.drop 1)) (fun Ta kV doc pm an cdv ct us its ws l1 l2 l3 => match us, its, ws, l1, l2, l3 with | [_, _], [_, _], [], _, _, _ => ⟨_, rfl, rfl⟩)
    exact ⟨_, h⟩
theorem eq_PL {C_RoundError C_BadNumber C_BadPlay C_Play d_Play_0 d_Play_1 C_Cell C_Function : Addr} (T : Tp K mg C_RoundError C_BadNumber C_BadPlay C_Play d_Play_0 d_Play_1 C_Cell C_Function) {H : Hp} {x : V} {p : Addr} {xs : List V} {ns : List Int} {bs : List Bool} {Q : VK} (h1 : PlayAt K C_Play H x ns bs) (h2 : SqL K H p xs) (q : Q (.bl false) H) : rOpI K C_Play (spEqP K C_Play) x (.ref p) H Q := by
  have g1 := h1
  obtain ⟨a, dx, p', q', rfl, hx, _, _⟩ := h1
  exact ⟨a, dx, _, _, rfl, hx, tyL h2, nf_of T.nf_Play_list, _, _, ns, bs, rfl, g1, .inr ⟨xs, .l h2, q⟩⟩
theorem PlayAt.butL {C : Addr} {H H' : Hp} {x : Addr} {zs : List V} {v : V} {ns : List Int} {bs : List Bool} (h : PlayAt K C H v ns bs) (hx : H x = some (.lst zs)) (b : But x H H') : PlayAt K C H' v ns bs := by
  obtain ⟨y, dx, p, q, rfl, h1, h2, h3⟩ := h
  exact ⟨y, dx, p, q, rfl, b _ _ (fun z => by rw [z, hx] at h1; cases h1) h1, sqT_butL b hx h2, sqT_butL b hx h3⟩
theorem fld_num {C_RoundError C_BadNumber C_BadPlay C_Play d_Play_0 d_Play_1 C_Cell C_Function : Addr} (T : Tp K mg C_RoundError C_BadNumber C_BadPlay C_Play d_Play_0 d_Play_1 C_Cell C_Function) {H : Hp} {v : V} {ns : List Int} {bs : List Bool} {R : V → Prop} (h : PlayAt K C_Play H v ns bs) (q : ∀ p, SqT K H p (ns.map V.int) → R (.ref p)) : ∃ a C dx fs v', v = .ref a ∧ H a = some (.ins C dx fs) ∧ Cls K C ∧ NoAttr K C "numbers" ∧ fs.lookup ("numbers" : Str) = some v' ∧ R v' := by
  obtain ⟨x, dx, p, p', rfl, hx, h1, h2⟩ := h
  exact ⟨x, C_Play, dx, _, _, rfl, hx, T.cl_Play, T.n_Play_numbers, lk_num, q p h1⟩
theorem fld_out {C_RoundError C_BadNumber C_BadPlay C_Play d_Play_0 d_Play_1 C_Cell C_Function : Addr} (T : Tp K mg C_RoundError C_BadNumber C_BadPlay C_Play d_Play_0 d_Play_1 C_Cell C_Function) {H : Hp} {v : V} {ns : List Int} {bs : List Bool} {R : V → Prop} (h : PlayAt K C_Play H v ns bs) (q : ∀ p, SqT K H p (bs.map V.bl) → R (.ref p)) : ∃ a C dx fs v', v = .ref a ∧ H a = some (.ins C dx fs) ∧ Cls K C ∧ NoAttr K C "outcomes" ∧ fs.lookup ("outcomes" : Str) = some v' ∧ R v' := by
  obtain ⟨x, dx, p, p', rfl, hx, h1, h2⟩ := h
  exact ⟨x, C_Play, dx, _, _, rfl, hx, T.cl_Play, T.n_Play_outcomes, lk_out, q p' h2⟩
theorem sh_tI (ns : List Int) : SeqAt.shaped (.tuple (ns.map PyData.int)) = true := by
  unfold SeqAt.shaped
  have h := depth_ints ns
  rw [PyData.canLay0, lay_ints ns, PyData.depth]
  simp
  omega
theorem sh_tB (ns : List Bool) : SeqAt.shaped (.tuple (ns.map PyData.bool)) = true := by
  unfold SeqAt.shaped
  have h := depth_bls ns
  rw [PyData.canLay0, lay_bls ns, PyData.depth]
  simp
  omega
theorem sh_l2 (ns : List Int) (bs : List Bool) : SeqAt.shaped (.list [.tuple (ns.map .int), .tuple (bs.map .bool)]) = true := by
  unfold SeqAt.shaped
  have h1 := depth_ints ns
  have h2 := depth_bls bs
  simp only [PyData.canLay0, PyData.canLayAll0, lay_ints, lay_bls, PyData.depth, PyData.depthAll]
  simp
  omega
theorem eqv_l2 (ns : List Int) (bs : List Bool) : PyData.eqv (.list [.tuple (ns.map .int), .tuple (bs.map .bool)]) (.list [.tuple (ns.map .int), .tuple (bs.map .bool)]) = true := by
  simp [PyData.eqv, PyData.eqvAll, eqv_ints, eqv_bls]
theorem eqv_tI (ns ms : List Int) : PyData.eqv (.tuple (ns.map .int)) (.tuple (ms.map .int)) = decide (ns = ms) := by rw [PyData.eqv, eqv_ints]
theorem eqv_tB (ns ms : List Bool) : PyData.eqv (.tuple (ns.map .bool)) (.tuple (ms.map .bool)) = decide (ns = ms) := by rw [PyData.eqv, eqv_bls]
theorem eqv_lI (ns ms : List Int) : PyData.eqv (.list (ns.map .int)) (.list (ms.map .int)) = decide (ns = ms) := by rw [PyData.eqv, eqv_ints]
theorem not_self (bs : List Bool) : decide (bs.map (fun b => !b) = bs) = decide (bs = []) := by
  cases bs with
  | nil => rfl
  | cons b r =>
    rw [decide_eq_false, decide_eq_false]
    · intro e; cases e
    · intro e
      have := (List.cons.inj e).1
      cases b <;> cases this
theorem take_eq {α : Type} [DecidableEq α] (xs : List α) (k : Nat) : decide (xs = xs.take k) = decide (xs.length ≤ k) := by
  by_cases h : xs.length ≤ k
  · rw [List.take_of_length_le h, decide_eq_true rfl, decide_eq_true h]
  · rw [decide_eq_false h, decide_eq_false]
    intro e
    have := congrArg List.length e
    rw [List.length_take] at this
    omega
theorem take_map (ns : List Int) (k : Nat) : (ns.map V.int).take k = (ns.take k).map V.int := (List.map_take ..).symm
def negV : V → V
  | .int n => .int (0 - n)
  | v => v
def notV : V → V
  | .bl b => .bl (!b)
  | v => v
def spPR : Sp := fun vs H Q _ => ∃ p, vs = [.ref p] ∧ Po H p ∧ ∀ H', Po H' p → But p H H' → Q (.bl true) H'
set_option maxHeartbeats 4000000 in
theorem ok_pr {C_RoundError C_BadNumber C_BadPlay C_Play d_Play_0 d_Play_1 C_Cell C_Function : Addr} (T : Tp K mg C_RoundError C_BadNumber C_BadPlay C_Play d_Play_0 d_Play_1 C_Cell C_Function) : CalG P w K mg base false 6 "_law_plays_right" spPR 1 [] (fun vs _ => vs) := by
  have c__law_take : Cal P w K mg base 1 "_law_take" spTake [] := ok_take T
  have c_Play_2 := mk_Play_2 (P := P) (w := w) (base := base) T
  have c_Play_1 := mk_Play_1 (P := P) (w := w) (base := base) T
  have c_Play_0 := mk_Play_0 (P := P) (w := w) (base := base) T
  have c_Play___add__ := ok_add (P := P) (w := w) (base := base) T
  have c_Play___eq__ := ok_eq (P := P) (w := w) (base := base) T
  refine T.d__law_plays_right.calG sc__law_plays_right (fun vs H Q E h => ?_) (fun f cdv A outer s H vs Q E hr _ h => ?_)
  · obtain ⟨p, rfl, _⟩ := h
    rfl
  · obtain ⟨p, rfl, hp, q⟩ := h
    have sc := sc__law_plays_right
    refine ⟨_, 
    (pss_cons (ps_setLc (i := 1) (own := [("_law_turn", 2)]) (by rfl) sc.nd rfl rfl (sw_true rfl rfl rfl (by decide +kernel)) (pi_range1 (by rfl) T.m_range (pa_cons (pe_c c__law_take hr (by decide) (by rfl) (pa_cons (pv 0) (pa_cons (pe_int) pa_nil))) pa_nil)) (blkOk_by (N := ["_law_pool_here", "_law_numbers", "_law_turn", "_law_outcomes", "_law_play", "_law_other", "_law_kept", "_law_both", "_law_twist", "_law_number", "_law_yes"]) (sc := defScope s__law_plays_right) (by decide +kernel)) (fun _ _ _ _ _ => pg_name (i := 2) sc.nd rfl (by first | exact Or.inl rfl | exact Or.inr rfl)) (fun _ _ _ _ _ => pts_nil) (fun _ _ _ _ _ => pe_op gSub' (pe_c c__law_take hr (by decide) (by rfl) (pa_cons (pv 0) (pa_cons (pe_op gMul (pe_int) (pe_op gPow (pe_int) (pe_int))) pa_nil))) (pe_op gPow (pe_int) (pe_int))))
    (pss_cons (ps_setLc (i := 3) (own := [("_law_turn", 2)]) (by rfl) sc.nd rfl rfl (sw_true rfl rfl rfl (by decide +kernel)) (pi_range1 (by rfl) T.m_range (pa_cons (pe_c c__law_take hr (by decide) (by rfl) (pa_cons (pv 0) (pa_cons (pe_int) pa_nil))) pa_nil)) (blkOk_by (N := ["_law_pool_here", "_law_numbers", "_law_turn", "_law_outcomes", "_law_play", "_law_other", "_law_kept", "_law_both", "_law_twist", "_law_number", "_law_yes"]) (sc := defScope s__law_plays_right) (by decide +kernel)) (fun _ _ _ _ _ => pg_name (i := 2) sc.nd rfl (by first | exact Or.inl rfl | exact Or.inr rfl)) (fun _ _ _ _ _ => pts_nil) (fun _ _ _ _ _ => pe_cmpR (kEq (K := K) rfl hr) (pe_c c__law_take hr (by decide) (by rfl) (pa_cons (pv 0) (pa_cons (pe_int) pa_nil))) (pe_int) (nomark _)))
    (pss_cons (ps_par (i := 4) (j := 5) (by rfl) sc.nd rfl rfl (by decide) rfl rfl (pa_cons (pe_mkS c_Play_2 hr (by decide) takes0 (by rfl) (pa_cons (pv 1) (pa_cons (pe_callTy (k_tuple (K := K) rfl) (by rfl) T.m_tuple (by decide +kernel) (pa_cons (pv 3) pa_nil)) pa_nil))) (pa_cons (pe_mkS c_Play_2 hr (by decide) takes0 (by rfl) (pa_cons (pe_callTy (k_tuple (K := K) rfl) (by rfl) T.m_tuple (by decide +kernel) (pa_cons (pe_slice (kSl (K := K) rfl) (pv 1) po_none (po_some (pe_int))) pa_nil)) (pa_cons (pe_slice (kSl (K := K) rfl) (pv 3) po_none (po_some (pe_int))) pa_nil))) pa_nil)) (by rfl))
    (pss_cons (ps_set (i := 6) sc.nd rfl (by first | exact Or.inl rfl | exact Or.inr rfl) (pe_lst (pa_cons (pe_callTy (k_tuple (K := K) rfl) (by rfl) T.m_tuple (by decide +kernel) (pa_cons (pv 1) pa_nil)) (pa_cons (pe_callTy (k_tuple (K := K) rfl) (by rfl) T.m_tuple (by decide +kernel) (pa_cons (pv 3) pa_nil)) pa_nil))))
    (pss_cons (ps_expr (kBm (K := K) rfl PySem.F.plainAttrs_list PySem.F.slot_list_append PySem.F.type_list_append mt_append (pv 1) (pa_cons (pe_int) pa_nil)))
    (pss_cons (ps_set (i := 7) sc.nd rfl (by first | exact Or.inl rfl | exact Or.inr rfl) (pe_op (add_opI c_Play___add__ T.sf_Play hr (by decide)) (pv 4) (pv 5)))
    (pss_cons (ps_if (pt_cut (PW.pt (pw_or (pt_cmpR (kNe (K := K) rfl hr) (pe_lst (pa_cons (pe_fld (pv 4) rfl) (pa_cons (pe_fld (pv 4) rfl) pa_nil))) (pv 6) (nomark _)) (pw_or1 (pt_cmpR (kNe (K := K) rfl hr) (pe_fld (pv 7) rfl) (pe_op (kAdd (K := K) rfl) (pe_ix (kIx (K := K) rfl) (pv 6) (pe_int) (fun _ _ => rfl)) (pe_slice (kSl (K := K) rfl) (pe_ix (kIx (K := K) rfl) (pv 6) (pe_int) (fun _ _ => rfl)) po_none (po_some (pe_int)))) (nomark _)))))) (
      (pss_one (ps_ret (pe_bl)))) (pss_nil))
    (pss_cons (ps_if (pt_cut (PW.pt (pw_or (pt_cmpR (kNe (K := K) rfl hr) (pe_fld (pv 7) rfl) (pe_op (kAdd (K := K) rfl) (pe_ix (kIx (K := K) rfl) (pv 6) (pe_int) (fun _ _ => rfl)) (pe_slice (kSl (K := K) rfl) (pe_ix (kIx (K := K) rfl) (pv 6) (pe_int) (fun _ _ => rfl)) po_none (po_some (pe_int)))) (nomark _)) (pw_or1 (pt_cmpR (kNe (K := K) rfl hr) (pe_lst (pa_cons (pe_fld (pv 4) rfl) (pa_cons (pe_fld (pv 4) rfl) pa_nil))) (pv 6) (nomark _)))))) (
      (pss_one (ps_ret (pe_bl)))) (pss_nil))
    (pss_cons (ps_if (pt_cut (PW.pt (pw_or (pt_cmpR (ne_opI c_Play___eq__ T.ne_Play T.ob_Play hr (by decide)) (pv 4) (pe_mkS c_Play_2 hr (by decide) takes0 (by rfl) (pa_cons (pe_ix (kIx (K := K) rfl) (pv 6) (pe_int) (fun _ _ => rfl)) (pa_cons (pe_ix (kIx (K := K) rfl) (pv 6) (pe_int) (fun _ _ => rfl)) pa_nil))) (nomark _)) (pw_or1 (pt_cmpR (kNe (K := K) rfl hr) (pe_cmpR (eq_opI c_Play___eq__ hr (by decide)) (pv 4) (pv 5) (nomark _)) (pe_cut (pe_and (pe_cmpR gLt (pe_callB (kLen (K := K) rfl) (by rfl) T.m_len PySem.boot_len (pa_cons (pe_ix (kIx (K := K) rfl) (pv 6) (pe_int) (fun _ _ => rfl)) pa_nil)) (pe_int) (nomark _)) (pe_one (pe_cmpR gLt (pe_callB (kLen (K := K) rfl) (by rfl) T.m_len PySem.boot_len (pa_cons (pe_ix (kIx (K := K) rfl) (pv 6) (pe_int) (fun _ _ => rfl)) pa_nil)) (pe_int) (nomark _))))) (nomark _)))))) (
      (pss_one (ps_ret (pe_bl)))) (pss_nil))
    (pss_cons (ps_set (i := 8) sc.nd rfl (by first | exact Or.inl rfl | exact Or.inr rfl) (pe_mkS c_Play_2 hr (by decide) takes0 (by rfl) (pa_cons (kRev (K := K) rfl (pe_lc (own := [("_law_number", 9)]) (by rfl) sc.nd (kIT (K := K) rfl (pe_ix (kIx (K := K) rfl) (pv 6) (pe_int) (fun _ _ => rfl))) (blkOk_by (N := ["_law_pool_here", "_law_numbers", "_law_turn", "_law_outcomes", "_law_play", "_law_other", "_law_kept", "_law_both", "_law_twist", "_law_number", "_law_yes"]) (sc := defScope s__law_plays_right) (by decide +kernel)) (fun _ _ _ _ _ => pg_name (i := 9) sc.nd rfl (by first | exact Or.inl rfl | exact Or.inr rfl)) (fun _ _ _ _ _ => pts_nil) (fun _ _ _ _ _ => pe_op gSub' (pe_int) (pv 9)))) (pa_cons (pe_lc (own := [("_law_yes", 10)]) (by rfl) sc.nd (kIT (K := K) rfl (pe_ix (kIx (K := K) rfl) (pv 6) (pe_int) (fun _ _ => rfl))) (blkOk_by (N := ["_law_pool_here", "_law_numbers", "_law_turn", "_law_outcomes", "_law_play", "_law_other", "_law_kept", "_law_both", "_law_twist", "_law_number", "_law_yes"]) (sc := defScope s__law_plays_right) (by decide +kernel)) (fun _ _ _ _ _ => pg_name (i := 10) sc.nd rfl (by first | exact Or.inl rfl | exact Or.inr rfl)) (fun _ _ _ _ _ => pts_nil) (fun _ _ _ _ _ => pe_not (pv 10))) pa_nil))))
    (pss_cons (ps_if (pt_cmpR (kNe (K := K) rfl hr) (pe_cmpR (eq_opI c_Play___eq__ hr (by decide)) (pv 8) (pv 4) (nomark _)) (pe_cut (pe_and (pe_cmpR (kEq (K := K) rfl hr) (pe_callTy (k_list (K := K) rfl) (by rfl) T.m_list (by decide +kernel) (pa_cons (pe_fld (pv 8) rfl) pa_nil)) (pe_callTy (k_list (K := K) rfl) (by rfl) T.m_list (by decide +kernel) (pa_cons (pe_ix (kIx (K := K) rfl) (pv 6) (pe_int) (fun _ _ => rfl)) pa_nil)) (nomark _)) (pe_one (pe_cmpR (kEq (K := K) rfl hr) (pe_ix (kIx (K := K) rfl) (pv 6) (pe_int) (fun _ _ => rfl)) (pe_tup (pa_nil)) (nomark _))))) (nomark _)) (
      (pss_one (ps_ret (pe_bl)))) (pss_nil))
    (pss_cons (ps_if (pt_cut (PW.pt (pw_or (pt_cmpR (kNe (K := K) rfl hr) (pe_fld (pe_op (add_opI c_Play___add__ T.sf_Play hr (by decide)) (pv 8) (pv 4)) rfl) (pe_op (kAdd (K := K) rfl) (pe_fld (pv 8) rfl) (pe_ix (kIx (K := K) rfl) (pv 6) (pe_int) (fun _ _ => rfl))) (nomark _)) (pw_or1 (pt_cmpR (kNe (K := K) rfl hr) (pe_fld (pe_op (add_opI c_Play___add__ T.sf_Play hr (by decide)) (pv 8) (pv 4)) rfl) (pe_op (kAdd (K := K) rfl) (pe_fld (pv 8) rfl) (pe_ix (kIx (K := K) rfl) (pv 6) (pe_int) (fun _ _ => rfl))) (nomark _)))))) (
      (pss_one (ps_ret (pe_bl)))) (pss_nil))
    (pss_cons (ps_if (pt_cut (PW.pt (pw_or (pt_cmpR (eq_opI c_Play___eq__ hr (by decide)) (pe_mkS c_Play_1 hr (by decide) takes0 (by rfl) (pa_cons (pv 1) pa_nil)) (pv 4) (nomark _)) (pw_or (pt_cmpR (kNe (K := K) rfl hr) (pe_cmpR (eq_opI c_Play___eq__ hr (by decide)) (pe_mkS c_Play_1 hr (by decide) takes0 (by rfl) (pa_cons (pe_ix (kIx (K := K) rfl) (pv 6) (pe_int) (fun _ _ => rfl)) pa_nil)) (pv 4) (nomark _)) (pe_cmpR (kEq (K := K) rfl hr) (pe_ix (kIx (K := K) rfl) (pv 6) (pe_int) (fun _ _ => rfl)) (pe_tup (pa_nil)) (nomark _)) (nomark _)) (pw_or1 (pt_cmpR (eq_opI c_Play___eq__ hr (by decide)) (pv 4) (pv 6) (nomark _))))))) (
      (pss_one (ps_ret (pe_bl)))) (pss_nil))
    (pss_one (ps_ret (pe_and (pe_cmpR (eq_opI c_Play___eq__ hr (by decide)) (pe_mkS0 c_Play_0 hr (by decide) takes0 (by rfl)) (pe_mkS c_Play_2 hr (by decide) takes0 (by rfl) (pa_cons (pe_tup (pa_nil)) (pa_cons (pe_lst (pa_nil)) pa_nil))) (nomark _)) (pe_and (pe_cmpR (kEq (K := K) rfl hr) (pe_fld (pe_mkS0 c_Play_0 hr (by decide) takes0 (by rfl)) rfl) (pe_tup (pa_nil)) (nomark _)) (pe_one (pe_cmpR (kEq (K := K) rfl hr) (pe_fld (pe_mkS0 c_Play_0 hr (by decide) takes0 (by rfl)) rfl) (pe_tup (pa_nil)) (nomark _)))))))))))))))))))), ?_⟩
    try rw [cxK]
    refine i_start (τ := [some (.ref p), none, none, none, none, none, none, none, none, none, none]) rfl ?_
    walk_at "go"
    refine take hp (by decide) (by decide) fun r H1 r0 r1 p1 b1 => ?_
    walk_at "go"
    refine ⟨r, rfl, by omega, by omega, ?_⟩
    intro pn hpn
    have n1 := p1.ne hpn
    have h0n := b1.free n1 hpn
    refine lc_range (fun i H' => ∃ ns : List Int, H' pn = some (.lst (ns.map V.int)) ∧ ns.length = i ∧ Po H' p ∧ But p H H') ⟨[], upd_same, rfl, p1.mono (Ex.new hpn), b1.put h0n⟩ ?_ ?_
    · rintro i H' hi ⟨ns, hl, hn, hd, hB⟩
      have hi6 : i < 7 := by omega
      refine ⟨rfl, ?_⟩
      walk_at "go"
      refine take hd (by decide) (by decide) fun r' H2 r0' r1' p2 b2 => ?_
      walk_at "go"
      refine ⟨_, b2 _ _ n1 hl, szl (by simp; omega), ns ++ [r' - 10 ^ Int.toNat 30], ?_, by simp [hn], p2.put n1, (hB.trans b2).put h0n⟩
      rw [upd_same, List.map_append]
      rfl
    rintro H2 ⟨ns, hN, lN, p2, b2⟩
    have lN' : ns.length ≤ 6 := by omega
    walk_at "go"
    refine take p2 (by decide) (by decide) fun r' H3 r0' r1' p3 b3 => ?_
    walk_at "go"
    refine ⟨r', rfl, by omega, by omega, ?_⟩
    intro po hpo
    have m1 := p3.ne hpo
    have hN3 := b3 _ _ n1 hN
    have npo : pn ≠ po := ne_of_none hN3 hpo
    have b03 := b2.trans b3
    have h0o := b03.free m1 hpo
    refine lc_range (fun i H' => ∃ bs : List Bool, H' po = some (.lst (bs.map V.bl)) ∧ bs.length = i ∧ H' pn = some (.lst (ns.map V.int)) ∧ Po H' p ∧ But p H H') ⟨[], upd_same, rfl, Ex.new hpo _ _ hN3, p3.mono (Ex.new hpo), b03.put h0o⟩ ?_ ?_
    · rintro i H' hi ⟨bs, hl, hn, hN', hd, hB⟩
      have hi6 : i < 7 := by omega
      refine ⟨rfl, ?_⟩
      walk_at "go"
      refine take hd (by decide) (by decide) fun r'' H4 r0'' r1'' p4 b4 => ?_
      walk_at "go"
      refine ⟨_, b4 _ _ m1 hl, szl (by simp; omega), bs ++ [decide (r'' = 0)], ?_, by simp [hn], by rw [upd_ne npo]; exact b4 _ _ n1 hN', p4.put m1, (hB.trans b4).put h0o⟩
      rw [upd_same, List.map_append]
      rfl
    rintro H4 ⟨bs, hO4, lO, hN4, p4, b04⟩
    have lO' : bs.length ≤ 6 := by omega
    clear b03 b3 p3 hN3 b2 p2 hN
    have hc1 : cutV (ns.map V.int) none (some 1) = (ns.take 1).map V.int := by rw [show (1 : Int) = ((1 : Nat) : Int) from rfl, cut_take, take_map]
    have hc2 : cutV (bs.map V.bl) none (some 2) = (bs.take 2).map V.bl := by rw [show (2 : Int) = ((2 : Nat) : Int) from rfl, cut_take, List.map_take]
    walk_at "go"
    refine l_tupSq (.l (.of hO4)) fun t0 H5 e5 ht0 => ?_
    walk_at "go"
    refine play_new (.l (.of (e5 _ _ hN4))) (.t ht0) (by omega) (by omega) fun v1 H6 e6 pv => ?_
    have e46 := e5.trans e6
    walk_at "go"
    refine l_slL (.of (e46 _ _ hN4)) fun s1 hs1 => ?_
    rw [hc1]
    have e7 : Ex H6 (upd H6 s1 (.lst ((ns.take 1).map V.int))) := Ex.new hs1
    have w7 : (upd H6 s1 (.lst ((ns.take 1).map V.int))) s1 = some (.lst ((ns.take 1).map V.int)) := upd_same
    generalize (upd H6 s1 (.lst ((ns.take 1).map V.int))) = H7 at e7 w7 ⊢
    walk_at "go"
    refine l_tupSq (.l (.of w7)) fun t3 H8 e8 ht3 => ?_
    have e48 := e46.trans (e7.trans e8)
    walk_at "go"
    refine l_slL (.of (e48 _ _ hO4)) fun s2 hs2 => ?_
    rw [hc2]
    have e9 : Ex H8 (upd H8 s2 (.lst ((bs.take 2).map V.bl))) := Ex.new hs2
    have w9 : (upd H8 s2 (.lst ((bs.take 2).map V.bl))) s2 = some (.lst ((bs.take 2).map V.bl)) := upd_same
    generalize (upd H8 s2 (.lst ((bs.take 2).map V.bl))) = H9 at e9 w9 ⊢
    walk_at "go"
    refine play_new (.t (sqT_mono e9 ht3)) (.l (.of w9)) (by rw [List.length_take]; omega) (by rw [List.length_take]; omega) fun v2 H10 e10 pw => ?_
    have e410 := e48.trans (e9.trans e10)
    have pv10 := pv.mono (e7.trans (e8.trans (e9.trans e10)))
    walk_at "go"
    refine ⟨_, _, rfl, ?_⟩
    walk_at "go"
    refine l_tupSq (.l (.of (e410 _ _ hN4))) fun t1 H11 e11 ht1 => ?_
    walk_at "go"
    refine l_tupSq (.l (.of (e11 _ _ (e410 _ _ hO4)))) fun t2 H12 e12 ht2 => ?_
    walk_at "go"
    intro kp hkp
    have e13 : Ex H12 (upd H12 kp (.lst [.ref t1, .ref t2])) := Ex.new hkp
    have hk13 : (upd H12 kp (.lst [.ref t1, .ref t2])) kp = some (.lst [.ref t1, .ref t2]) := upd_same
    generalize (upd H12 kp (.lst [.ref t1, .ref t2])) = H13 at e13 hk13 ⊢
    have e1013 := e11.trans (e12.trans e13)
    have e413 := e410.trans e1013
    have hN13 := e413 _ _ hN4
    have kpn : kp ≠ pn := fun z => by
      have g := (e410.trans (e11.trans e12)) _ _ hN4
      rw [← z, hkp] at g
      cases g
    have pv13 := pv10.mono e1013
    have pw13 := pw.mono e1013
    have q1 := sqT_mono (e12.trans e13) ht1
    have q2 := sqT_mono e13 ht2
    have p13 := p4.mono e413
    have b13 := b04.trans e413.but
    walk_at "go"
    refine ⟨.inl ⟨rfl, _, .of hN13⟩, ?_⟩
    walk_at "go"
    refine ⟨pn, _, _, rfl, rfl, hN13, szl (by simp; omega), ?_⟩
    have ba : But pn H13 (upd H13 pn (.lst (ns.map V.int ++ [.int 5]))) := (But.refl H13).mut
    have hNe : (upd H13 pn (.lst (ns.map V.int ++ [.int 5]))) pn = some (.lst ((ns ++ [5]).map V.int)) := by rw [upd_same, List.map_append]; rfl
    have hk := ba _ _ kpn hk13
    have pv0 := pv13.butL hN13 ba
    have pw0 := pw13.butL hN13 ba
    have k1 := sqT_butL ba hN13 q1
    have k2 := sqT_butL ba hN13 q2
    have p0 := p13.put (o := .lst (ns.map V.int ++ [.int 5])) n1
    have b0 := b13.put (o := .lst (ns.map V.int ++ [.int 5])) h0n
    clear p13 b13 q1 q2 pv13 pw13 hk13 hN13 e413 e1013 e13 ht1 ht2 e12 e11 pv10 pw e410 e10 e9 w9 e8 w7 e7 ht3 e48 e46 e6 e5 ht0 pv hN4 hO4 p4 b04 hkp hs1 hs2 h0o hpo hpn p1 b1
    generalize (upd H13 pn (.lst (ns.map V.int ++ [.int 5]))) = G0 at ba hNe hk pv0 pw0 k1 k2 p0 b0 ⊢
    clear ba
    walk_at "go"
    refine add_PP pv0 pw0 (by rw [List.length_take]; omega) (by rw [List.length_take]; omega) fun vb G1 e1 pb => ?_
    replace pv0 := pv0.mono e1
    replace pw0 := pw0.mono e1
    replace hk := e1 _ _ hk
    replace hNe := e1 _ _ hNe
    replace k1 := sqT_mono e1 k1
    replace k2 := sqT_mono e1 k2
    replace p0 := p0.mono e1
    replace b0 := b0.trans e1.but
    clear e1
    have two : ∀ G' l, Ex G1 G' → G' l = some (.lst [.ref t1, .ref t2]) → Dp K G' (.ref l) (.list [.tuple (ns.map .int), .tuple (bs.map .bool)]) := fun G' l e h => .lst (.of h) (.cons (.tup (sqT_mono e k1) (dp_ints ns)) (.cons (.tup (sqT_mono e k2) (dp_bls bs)) .nil))
    walk_at "go"
    refine i_cutT (fun b H' => b = false ∧ Ex G1 H') ?_ ?_
    · walk_at "go"
      refine fld_num T pv0 fun a1 ha1 => ?_
      walk_at "go"
      refine fld_out T pv0 fun a2 ha2 => ?_
      walk_at "go"
      intro l1 hl1
      have e2 : Ex G1 (upd G1 l1 (.lst [.ref a1, .ref a2])) := Ex.new hl1
      walk_at "go"
      refine l_neD (.lst (.of upd_same) (.cons (.tup (sqT_mono e2 ha1) (dp_ints ns)) (.cons (.tup (sqT_mono e2 ha2) (dp_bls bs)) .nil))) (two _ kp e2 (e2 _ _ hk)) (sh_l2 ns bs) (sh_l2 ns bs) (eqv_l2 ns bs) ?_
      walk_at "go"
      refine fld_num T (pb.mono e2) fun a3 ha3 => ?_
      walk_at "go"
      refine l_ixL (e2 _ _ hk) rfl ?_
      walk_at "go"
      refine l_ixL (e2 _ _ hk) rfl ?_
      walk_at "go"
      refine l_slT (sqT_mono e2 k1) fun a4 G3 e3 ha4 => ?_
      rw [hc1] at ha4
      refine l_addT (sqT_mono (e2.trans e3) k1) ha4 (by simp; omega) fun a5 G4 e4 ha5 => ?_
      rw [← List.map_append] at ha5
      refine l_neD (.tup (sqT_mono (e3.trans e4) ha3) (dp_ints _)) (.tup ha5 (dp_ints _)) (sh_tI _) (sh_tI _) (eqv_tI _ _) ?_
      exact ⟨false, by simp, rfl, e2.trans (e3.trans e4)⟩
    rintro _ G2 ⟨rfl, e2⟩
    walk_at "go"
    refine i_cutT (fun b H' => b = false ∧ Ex G1 H') ?_ ?_
    · walk_at "go"
      refine fld_out T (pb.mono e2) fun a3 ha3 => ?_
      walk_at "go"
      refine l_ixL (e2 _ _ hk) rfl ?_
      walk_at "go"
      refine l_ixL (e2 _ _ hk) rfl ?_
      walk_at "go"
      refine l_slT (sqT_mono e2 k2) fun a4 G3 e3 ha4 => ?_
      rw [hc2] at ha4
      refine l_addT (sqT_mono (e2.trans e3) k2) ha4 (by simp; omega) fun a5 G4 e4 ha5 => ?_
      rw [← List.map_append] at ha5
      refine l_neD (.tup (sqT_mono (e3.trans e4) ha3) (dp_bls _)) (.tup ha5 (dp_bls _)) (sh_tB _) (sh_tB _) (eqv_tB _ _) ?_
      have e24 := e2.trans (e3.trans e4)
      refine ⟨false, by simp, ?_⟩
      walk_at "go"
      refine fld_num T (pv0.mono e24) fun a1 ha1 => ?_
      walk_at "go"
      refine fld_out T (pv0.mono e24) fun a2 ha2 => ?_
      walk_at "go"
      intro l1 hl1
      have e5 : Ex G4 (upd G4 l1 (.lst [.ref a1, .ref a2])) := Ex.new hl1
      have e25 := e24.trans e5
      walk_at "go"
      refine l_neD (.lst (.of upd_same) (.cons (.tup (sqT_mono e5 ha1) (dp_ints ns)) (.cons (.tup (sqT_mono e5 ha2) (dp_bls bs)) .nil))) (two _ kp e25 (e25 _ _ hk)) (sh_l2 ns bs) (sh_l2 ns bs) (eqv_l2 ns bs) ?_
      exact ⟨false, rfl, rfl, e25⟩
    rintro _ G3 ⟨rfl, e3⟩
    clear e2
    walk_at "go"
    refine i_cutT (fun b H' => b = false ∧ Ex G1 H') ?_ ?_
    · walk_at "go"
      refine l_ixL (e3 _ _ hk) rfl ?_
      walk_at "go"
      refine l_ixL (e3 _ _ hk) rfl ?_
      walk_at "go"
      refine play_new (.t (sqT_mono e3 k1)) (.t (sqT_mono e3 k2)) (by omega) (by omega) fun w1 G4 e4 pw1 => ?_
      have e14 := e3.trans e4
      refine ne_PP T (pv0.mono e14) pw1 fun G5 e5 => ⟨false, by simp, ?_⟩
      have e15 := e14.trans e5
      walk_at "go"
      refine eq_PP T (pv0.mono e15) (pw0.mono e15) fun G6 e6 => ?_
      have e16 := e15.trans e6
      rw [take_eq, take_eq]
      walk_at "go"
      refine i_cutE (fun v H' => v = .bl (decide (ns.length ≤ 1) && decide (bs.length ≤ 2)) ∧ H' = G6) ?_ ?_
      · walk_at "go"
        refine l_ixL (e16 _ _ hk) rfl ?_
        walk_at "go"
        refine ⟨_, .inr (sqT_mono e16 k1), ?_⟩
        walk_at "go"
        refine i_ite (fun h => ?_) (fun h => ?_)
        · walk_at "go"
          refine l_ixL (e16 _ _ hk) rfl ?_
          walk_at "go"
          refine ⟨_, .inr (sqT_mono e16 k2), ?_⟩
          walk_at "go"
          refine ⟨?_, rfl⟩
          rw [List.length_map] at h ⊢
          rw [decide_eq_true (show ns.length ≤ 1 by omega), Bool.true_and]
          congr 1
          rw [Bool.eq_iff_iff, decide_eq_true_iff, decide_eq_true_iff]
          omega
        · refine ⟨?_, rfl⟩
          rw [List.length_map] at h
          rw [decide_eq_false (show ¬ ns.length ≤ 1 by omega)]
          rfl
      rintro _ _ ⟨rfl, rfl⟩
      walk_at "go"
      exact ⟨by simp, e16⟩
    rintro _ G4 ⟨rfl, e4⟩
    clear e3
    walk_at "go"
    refine i_anyT ?_
    walk_at "go"
    refine l_ixL (e4 _ _ hk) rfl ⟨t1, rfl, ⟨_, sqT_mono e4 k1⟩, lc_mapT (f := negV) (sqT_mono e4 k1) (by simp; omega) (fun _ => rfl) (fun y hy H' R e r => ?_) fun D1 G5 hD1 e5 h5 => ?_⟩
    · obtain ⟨n, hn, rfl⟩ := List.mem_map.mp hy
      exact i_op (i_c (i_var rfl (l_subI (r H' (Ex.refl H')))))
    have m1 : (ns.map V.int).map negV = (ns.map fun n => 0 - n).map V.int := by rw [List.map_map, List.map_map]; rfl
    rw [m1] at h5
    refine ⟨D1, _, rfl, .of h5, fun p5 hp5 => ?_⟩
    rw [← List.map_reverse]
    have e6 : Ex G5 (upd G5 p5 (.lst ((ns.map fun n => 0 - n).reverse.map V.int))) := Ex.new hp5
    have h6 : (upd G5 p5 (.lst ((ns.map fun n => 0 - n).reverse.map V.int))) p5 = some (.lst ((ns.map fun n => 0 - n).reverse.map V.int)) := upd_same
    have lnt : (ns.map fun n => 0 - n).reverse.length = ns.length := by simp
    generalize (ns.map fun n => 0 - n).reverse = nt at e6 h6 lnt ⊢
    generalize (upd G5 p5 (.lst (nt.map V.int))) = G6 at e6 h6 ⊢
    have e16 := e4.trans (e5.trans e6)
    walk_at "go"
    refine i_anyT ?_
    walk_at "go"
    refine l_ixL (e16 _ _ hk) rfl ⟨t2, rfl, ⟨_, sqT_mono e16 k2⟩, lc_mapT (f := notV) (sqT_mono e16 k2) (by simp; omega) (fun _ => rfl) (fun y hy H' R e r => ?_) fun D2 G7 hD2 e7 h7 => ?_⟩
    · obtain ⟨n, hn, rfl⟩ := List.mem_map.mp hy
      walk_at "go"
      exact r H' (Ex.refl H')
    have m2 : (bs.map V.bl).map notV = (bs.map fun b => !b).map V.bl := by rw [List.map_map, List.map_map]; rfl
    rw [m2] at h7
    walk_at "go"
    refine play_new (.l (.of (e7 _ _ h6))) (.l (.of h7)) (by omega) (by simp; omega) fun w2 G8 e8 pt => ?_
    have e18 := e16.trans (e7.trans e8)
    replace pv0 := pv0.mono e18
    replace hk := e18 _ _ hk
    replace hNe := e18 _ _ hNe
    replace k1 := sqT_mono e18 k1
    replace k2 := sqT_mono e18 k2
    replace p0 := p0.mono e18
    replace b0 := b0.trans e18.but
    clear e18 e16 e8 e7 e6 e5 e4 h7 h6 h5 pb pw0 two hD1 hD2 hp5
    walk_at "go"
    refine eq_PP T pt pv0 fun G9 e9 => ?_
    rw [not_self]
    walk_at "go"
    refine i_cutE (fun v H' => v = .bl (decide (nt = ns) && decide (bs = [])) ∧ Ex G8 H') ?_ ?_
    · walk_at "go"
      refine fld_num T (pt.mono e9) fun a1 ha1 => ?_
      walk_at "go"
      refine ⟨_, .inr ha1, fun l1 hl1 => ?_⟩
      have e10 : Ex G9 (upd G9 l1 (.lst (nt.map V.int))) := Ex.new hl1
      have w10 : (upd G9 l1 (.lst (nt.map V.int))) l1 = some (.lst (nt.map V.int)) := upd_same
      generalize (upd G9 l1 (.lst (nt.map V.int))) = G10 at e10 w10 ⊢
      have e810 := e9.trans e10
      walk_at "go"
      refine l_ixL (e810 _ _ hk) rfl ?_
      walk_at "go"
      refine ⟨_, .inr (sqT_mono e810 k1), fun l2 hl2 => ?_⟩
      have e11 : Ex G10 (upd G10 l2 (.lst (ns.map V.int))) := Ex.new hl2
      refine l_eqD (.lst (.of (e11 _ _ w10)) (dp_ints nt)) (.lst (.of upd_same) (dp_ints ns)) (sh_ints nt) (sh_ints ns) (eqv_lI nt ns) ?_
      have e811 := e810.trans e11
      walk_at "go"
      refine i_ite (fun h => ?_) (fun h => ?_)
      · walk_at "go"
        refine l_ixL (e811 _ _ hk) rfl ?_
        walk_at "go"
        intro u hu
        have e12 : Ex (upd G10 l2 (.lst (ns.map V.int))) (upd (upd G10 l2 (.lst (ns.map V.int))) u (.tup [])) := Ex.new hu
        refine l_eqD (.tup (sqT_mono (e811.trans e12) k2) (dp_bls bs)) (.tup (.of upd_same) .nil) (sh_tB bs) (sh_tB []) (eqv_tB bs []) ?_
        rw [decide_eq_true h]
        exact ⟨rfl, e811.trans e12⟩
      · rw [decide_eq_false h]
        exact ⟨rfl, e811⟩
    rintro _ G10 ⟨rfl, e10⟩
    clear e9
    walk_at "go"
    rw [decide_eq_true rfl]
    walk_at "go"
    refine i_cutT (fun b H' => b = false ∧ Ex G8 H') ?_ ?_
    · walk_at "go"
      refine add_PP (pt.mono e10) (pv0.mono e10) (by omega) (by simp; omega) fun y1 G11 e11 py1 => ?_
      refine fld_num T py1 fun a1 ha1 => ?_
      have e811 := e10.trans e11
      walk_at "go"
      refine fld_num T (pt.mono e811) fun a2 ha2 => ?_
      walk_at "go"
      refine l_ixL (e811 _ _ hk) rfl ?_
      refine l_addT ha2 (sqT_mono e811 k1) (by simp; omega) fun a3 G12 e12 ha3 => ?_
      rw [← List.map_append] at ha3
      refine l_neD (.tup (sqT_mono e12 ha1) (dp_ints _)) (.tup ha3 (dp_ints _)) (sh_tI _) (sh_tI _) (eqv_tI _ _) ?_
      have e812 := e811.trans e12
      refine ⟨false, by simp, ?_⟩
      walk_at "go"
      refine add_PP (pt.mono e812) (pv0.mono e812) (by omega) (by simp; omega) fun y2 G13 e13 py2 => ?_
      refine fld_out T py2 fun b1 hb1 => ?_
      have e813 := e812.trans e13
      walk_at "go"
      refine fld_out T (pt.mono e813) fun b2 hb2 => ?_
      walk_at "go"
      refine l_ixL (e813 _ _ hk) rfl ?_
      refine l_addT hb2 (sqT_mono e813 k2) (by simp; omega) fun b3 G14 e14 hb3 => ?_
      rw [← List.map_append] at hb3
      refine l_neD (.tup (sqT_mono e14 hb1) (dp_bls _)) (.tup hb3 (dp_bls _)) (sh_tB _) (sh_tB _) (eqv_tB _ _) ?_
      exact ⟨false, by simp, rfl, e813.trans e14⟩
    rintro _ G11 ⟨rfl, e11⟩
    clear e10
    walk_at "go"
    refine i_cutT (fun b H' => b = false ∧ Ex G8 H') ?_ ?_
    · walk_at "go"
      refine play_new (ns := ns ++ [5]) (bs := []) (.l (.of (e11 _ _ hNe))) (.t (T.td_Play_1 _)) (by simp; omega) (by simp) fun y1 G12 e12 py1 => ?_
      have e812 := e11.trans e12
      walk_at "go"
      refine eq_PP T py1 (pv0.mono e812) fun G13 e13 => ⟨false, by simp, ?_⟩
      have e813 := e812.trans e13
      walk_at "go"
      refine l_ixL (e813 _ _ hk) rfl ?_
      walk_at "go"
      refine play_new (ns := ns) (bs := []) (.t (sqT_mono e813 k1)) (.t (T.td_Play_1 _)) (by omega) (by simp) fun y2 G14 e14 py2 => ?_
      have e814 := e813.trans e14
      walk_at "go"
      refine eq_PP T py2 (pv0.mono e814) fun G15 e15 => ?_
      have e815 := e814.trans e15
      walk_at "go"
      refine l_ixL (e815 _ _ hk) rfl ?_
      walk_at "go"
      intro u hu
      have e16 : Ex G15 (upd G15 u (.tup [])) := Ex.new hu
      have e816 := e815.trans e16
      refine l_eqD (.tup (sqT_mono e816 k2) (dp_bls bs)) (.tup (.of upd_same) .nil) (sh_tB bs) (sh_tB []) (eqv_tB bs []) ?_
      rw [decide_eq_true rfl, Bool.true_and, show decide (([] : List Bool) = bs) = decide (bs = []) by rw [Bool.eq_iff_iff, decide_eq_true_iff, decide_eq_true_iff]; exact eq_comm]
      walk_at "go"
      rw [decide_eq_true rfl]
      walk_at "go"
      refine eq_PL T (pv0.mono e816) (.of (e816 _ _ hk)) ⟨false, rfl, rfl, e816⟩
    rintro _ G12 ⟨rfl, e12⟩
    clear e11
    walk_at "go"
    refine play_new (ns := []) (bs := []) (.t (T.td_Play_0 _)) (.t (T.td_Play_1 _)) (by simp) (by simp) fun y1 G13 e13 py1 => ?_
    walk_at "go"
    intro u1 hu1
    have e14 : Ex G13 (upd G13 u1 (.tup [])) := Ex.new hu1
    have w14 : (upd G13 u1 (.tup [])) u1 = some (.tup []) := upd_same
    generalize (upd G13 u1 (.tup [])) = G14 at e14 w14 ⊢
    walk_at "go"
    intro u2 hu2
    have e15 : Ex G14 (upd G14 u2 (.lst [])) := Ex.new hu2
    walk_at "go"
    refine play_new (ns := []) (bs := []) (.t (.of (e15 _ _ w14))) (.l (.of upd_same)) (by simp) (by simp) fun y2 G16 e16 py2 => ?_
    refine eq_PP T (py1.mono (e14.trans (e15.trans e16))) py2 fun G17 e17 => ?_
    have e817 := e12.trans (e13.trans (e14.trans (e15.trans (e16.trans e17))))
    rw [decide_eq_true rfl, decide_eq_true rfl, Bool.and_self]
    walk_at "go"
    refine play_new (ns := []) (bs := []) (.t (T.td_Play_0 _)) (.t (T.td_Play_1 _)) (by simp) (by simp) fun y3 G18 e18 py3 => ?_
    walk_at "go"
    refine fld_num T py3 fun c1 hc1' => ?_
    walk_at "go"
    intro u3 hu3
    have e19 : Ex G18 (upd G18 u3 (.tup [])) := Ex.new hu3
    refine l_eqD (.tup (sqT_mono e19 hc1') (dp_ints [])) (.tup (.of upd_same) .nil) (sh_tI []) (sh_tI []) (eqv_tI [] []) ?_
    rw [decide_eq_true rfl]
    walk_at "go"
    refine play_new (ns := []) (bs := []) (.t (T.td_Play_0 _)) (.t (T.td_Play_1 _)) (by simp) (by simp) fun y4 G20 e20 py4 => ?_
    walk_at "go"
    refine fld_out T py4 fun c2 hc2' => ?_
    walk_at "go"
    intro u4 hu4
    have e21 : Ex G20 (upd G20 u4 (.tup [])) := Ex.new hu4
    refine l_eqD (.tup (sqT_mono e21 hc2') (dp_bls [])) (.tup (.of upd_same) .nil) (sh_tB []) (sh_tB []) (eqv_tB [] []) ?_
    rw [decide_eq_true rfl]
    have eF := e817.trans (e18.trans (e19.trans (e20.trans e21)))
    exact q _ (p0.mono eF) (b0.trans eF.but)
end
end K
namespace K
open PySem PySem.Spec PyProof.Rows L2 G TL
local macro_rules | `(tactic| walk_at "side") => `(tactic| focus (first | assumption | exact rfl | omega | decide))
local macro_rules | `(tactic| walk_at "ty") => `(tactic| focus (first | exact .base (.str _) | exact .base (.int _) | exact .base (.bl _) | exact .base .non | exact .base (.lst (by assumption)) | exact .base (.tup (by assumption)) | exact .base (.dK (by assumption)) | assumption))
local macro_rules | `(tactic| walk_at "kt") => `(tactic| focus (with_reducible first | exact kt_NoneType_str | exact kt_NoneType_int | exact kt_NoneType_bool | exact kt_NoneType_tuple | exact kt_NoneType_list | exact kt_NoneType_dict | exact kt_bool_str | exact kt_bool_int | exact kt_bool_bool | exact kt_bool_tuple | exact kt_bool_list | exact kt_bool_dict | exact kt_int_str | exact kt_int_int | exact kt_int_bool | exact kt_int_tuple | exact kt_int_list | exact kt_int_dict | exact kt_str_str | exact kt_str_int | exact kt_str_bool | exact kt_str_tuple | exact kt_str_list | exact kt_str_dict | exact kt_list_str | exact kt_list_int | exact kt_list_bool | exact kt_list_tuple | exact kt_list_list | exact kt_list_dict | exact kt_tuple_str | exact kt_tuple_int | exact kt_tuple_bool | exact kt_tuple_tuple | exact kt_tuple_list | exact kt_tuple_dict | exact kt_dict_str | exact kt_dict_int | exact kt_dict_bool | exact kt_dict_tuple | exact kt_dict_list | exact kt_dict_dict | assumption))
local macro_rules | `(tactic| walk_at "1") => `(tactic| first
  | (with_reducible refine i_seq ?_)
  | (with_reducible refine iteT ?_)
  | (with_reducible refine iteF ?_)
  | (with_reducible refine iteNF ?_)
  | (with_reducible refine iteNT ?_)
  | (with_reducible refine i_asg ?_)
  | (with_reducible refine i_op ?_)
  | (with_reducible refine i_c ?_)
  | ((with_reducible apply i_var); (exact rfl))
  | (with_reducible refine i_cb ?_)
  | (with_reducible refine i_cons ?_)
  | (with_reducible refine i_nil ?_)
  | (with_reducible refine i_test ?_)
  | (with_reducible refine i_b ?_)
  | (with_reducible refine i_bl ?_)
  | (with_reducible refine i_name ?_)
  | (with_reducible refine i_ifS ?_)
  | (with_reducible refine i_next ?_)
  | (with_reducible refine i_ret ?_)
  | (with_reducible refine i_drop ?_)
  | (with_reducible refine i_lst ?_)
  | (with_reducible refine i_tup ?_)
  | (with_reducible refine i_and ?_)
  | (with_reducible refine i_or ?_)
  | (with_reducible refine i_not ?_)
  | (with_reducible refine i_andV ?_)
  | (with_reducible refine i_orV ?_)
  | (with_reducible refine i_notV ?_)
  | (with_reducible refine i_if ?_)
  | (with_reducible refine i_chain ?_)
  | (with_reducible refine i_un ?_)
  | (with_reducible refine i_neg ?_)
  | (with_reducible refine i_sub ?_)
  | (with_reducible refine i_sl ?_)
  | (with_reducible refine i_noP ?_)
  | (with_reducible refine i_part ?_)
  | (with_reducible refine i_int ?_)
  | (with_reducible refine i_bm ?_)
  | (with_reducible refine i_strT ?_)
  | (with_reducible refine i_yes ?_)
  | (with_reducible refine i_call ?_)
  | ((with_reducible refine i_len ?_ ?_); (focus (exact sz (by simp))))
  | (with_reducible refine i_lc ?_)
  | (with_reducible refine i_for ?_)
  | (with_reducible refine i_rng1 ?_)
  | (with_reducible refine i_rng2 ?_)
  | (with_reducible refine l_addI ?_)
  | (with_reducible refine l_subI ?_)
  | (with_reducible refine l_cmp ?_)
  | (with_reducible refine l_eqI ?_)
  | (with_reducible refine l_eqS ?_)
  | (with_reducible refine l_eqB ?_)
  | (with_reducible refine l_neI ?_)
  | (with_reducible refine l_neS ?_)
  | (with_reducible refine l_neB ?_)
  | (with_reducible refine l_isN ?_)
  | (with_reducible refine l_isNotN ?_)
  | (with_reducible refine l_isB ?_)
  | (with_reducible refine l_isNotB ?_)
  | (with_reducible refine l_intI ?_)
  | (with_reducible refine l_intB ?_)
  | (with_reducible refine l_inC ?_)
  | (refine ⟨_, _, rfl, rfl, sz (by first | omega | simp; omega), ?_⟩)
  | ((with_reducible refine l_pow ?_ ?_); (focus (exact ⟨by decide, by decide, by decide⟩)))
  | ((with_reducible refine l_mul ?_ ?_); (focus (first | assumption | exact Or.inl (Or.inl ⟨by omega, by omega⟩) | exact Or.inl (Or.inr ⟨by omega, by omega⟩))))
  | ((with_reducible refine l_div ?_ ?_); (focus (first | assumption | exact ⟨by decide, by decide⟩)))
  | ((with_reducible apply l_setL); (assumption); (exact rfl))
  | ((with_reducible refine l_mod ?_ ?_); (walk_at "side"))
  | ((with_reducible apply l_ixL); (assumption); (exact rfl))
  | ((with_reducible refine l_lenS ?_ ?_); (focus (first | assumption | exact sz (by omega) | exact sz (by simp; omega))))
  | ((with_reducible refine l_slS ?_ ?_); (focus (first | assumption | exact sz (by omega))))
  | ((with_reducible apply l_isi); (walk_at "ty"); (walk_at "kt"))
  | ((with_reducible apply l_lenL); (assumption)))
local macro_rules | `(tactic| walk_at "go") => `(tactic| repeat (walk_at "1"))
local macro_rules | `(tactic| walk_at "1") => `(tactic| first
  | (with_reducible refine i_mkS ?_)
  | (with_reducible refine i_cS ?_)
  | (with_reducible refine i_fld ?_)
  | (with_reducible refine i_sFld ?_)
  | (with_reducible refine i_tX ?_)
  | (with_reducible refine l_len2 rfl rfl ?_))
local macro_rules | `(tactic| walk_at "1") => `(tactic| first
  | (with_reducible refine i_stp ?_)
  | ((with_reducible apply i_iad); (exact rfl))
  | (with_reducible refine i_cO ?_)
  | (with_reducible refine i_prp ?_)
  | (with_reducible refine i_mtS ?_)
  | (with_reducible refine i_fldaug ?_)
  | (with_reducible refine i_par ?_)
  | (with_reducible refine i_par3 ?_)
  | (with_reducible refine i_revL ?_))
section
variable {P : Program} {w : World} {K : PySem.W.Frag} {mg : Str → Option Value} {base : Heap}
theorem lf_str (z : Str) (h : (reprText z).length ≤ 60) : Lf (.str z) := ⟨rfl, rfl, by rw [PyData.shown]; exact h, by simp [PyData.depth]⟩
/-- it is refused as numbers (p: isI), as outcomes (p: isB), and is shown -/
def Odd (K : PySem.W.Frag) (H : Hp) (p : V → Bool) (x : V) : Prop := Bad K H p x ∧ ∃ z, Shw K H x z ∧ PyData.strOk z = true
theorem Odd.mono {H H' : Hp} {p : V → Bool} {x : V} (h : Odd K H p x) (e : Ex H H') : Odd K H' p x := ⟨h.1.mono e, let ⟨z, hz, o⟩ := h.2; ⟨z, hz.mono e, o⟩⟩
theorem odd_dp {H : Hp} {p : V → Bool} {x : V} (d : PyData) (h : Dp K H x d) (hb : Bad K H p x) (h1 : d.showable = true) (h2 : d.hasDict = false) (h3 : d.shown.length ≤ 100000) (h4 : d.depth ≤ 50) (h5 : PyData.strOk d.shown = true) : Odd K H p x := ⟨hb, _, shw_dp h h1 h2 h3 h4, h5⟩
def spOR (K : PySem.W.Frag) : Sp := fun vs H Q _ => ∃ p, vs = [.ref p] ∧ Po H p ∧ ∀ H', Po H' p → But p H H' → Q (.bl true) H'
set_option maxHeartbeats 4000000 in
theorem ok_or {C_RoundError C_BadNumber C_BadPlay C_Play d_Play_0 d_Play_1 C_Cell C_Function : Addr} (T : Tp K mg C_RoundError C_BadNumber C_BadPlay C_Play d_Play_0 d_Play_1 C_Cell C_Function) : CalG P w K mg base true 6 "_law_odd_right" (spOR K) 1 [] (fun vs _ => vs) := by
  have c__law_take : Cal P w K mg base 1 "_law_take" spTake [] := ok_take T
  have c__law_refused := ok_ref (P := P) (w := w) (base := base) T
  refine T.d__law_odd_right.calG sc__law_odd_right (fun vs H Q E h => ?_) (fun f cdv A outer s H vs Q E hr gd h => ?_)
  · obtain ⟨p, rfl, _⟩ := h
    rfl
  · obtain ⟨p, rfl, hp, q⟩ := h
    have sc := sc__law_odd_right
    refine ⟨_, 
    (pss_cons (ps_set (i := 1) sc.nd rfl (by first | exact Or.inl rfl | exact Or.inr rfl) (pe_lst (pa_cons (pe_non) (pa_cons (pe_str) (pa_cons (pe_int) (pa_cons (pe_dnewK) (pa_cons (pe_lst (pa_cons (pe_bl) pa_nil)) (pa_cons (pe_tup (pa_cons (pe_non) pa_nil)) (pa_cons (pe_lst (pa_cons (pe_str) pa_nil)) (pa_cons (pe_lst (pa_cons (pe_int) (pa_cons (pe_bl) pa_nil))) (pa_cons (pe_lst (pa_cons (pe_lst (pa_cons (pe_int) pa_nil)) pa_nil)) pa_nil)))))))))))
    (pss_cons (ps_set (i := 2) sc.nd rfl (by first | exact Or.inl rfl | exact Or.inr rfl) (pe_lst (pa_cons (pe_non) (pa_cons (pe_str) (pa_cons (pe_bl) (pa_cons (pe_dnewK) (pa_cons (pe_lst (pa_cons (pe_int) pa_nil)) (pa_cons (pe_tup (pa_cons (pe_int) pa_nil)) (pa_cons (pe_lst (pa_cons (pe_non) pa_nil)) (pa_cons (pe_lst (pa_cons (pe_bl) (pa_cons (pe_str) pa_nil))) (pa_cons (pe_lst (pa_cons (pe_lst (pa_cons (pe_bl) pa_nil)) pa_nil)) pa_nil)))))))))))
    (pss_cons (ps_par (i := 3) (j := 4) (by rfl) sc.nd rfl rfl (by decide) rfl rfl (pa_cons (pe_ix (kIx (K := K) rfl) (pv 1) (pe_c c__law_take hr (by decide) (by rfl) (pa_cons (pv 0) (pa_cons (pe_int) pa_nil))) (fun _ _ => rfl)) (pa_cons (pe_ix (kIx (K := K) rfl) (pv 2) (pe_c c__law_take hr (by decide) (by rfl) (pa_cons (pv 0) (pa_cons (pe_int) pa_nil))) (fun _ _ => rfl)) pa_nil)) (by rfl))
    (pss_cons (ps_if (pt_cut (PW.pt (pw_or (pt_cmpR (kNe (K := K) rfl hr) (pe_cS c__law_refused hr (by decide) (fun _ => gd rfl) takes0 (by rfl) (pa_cons (pv 3) (pa_cons (pv 4) pa_nil))) (pe_lst (pa_cons (pe_callB (kRepr (K := K) rfl (gd rfl) hr.units) (by rfl) T.m_repr (by decide +kernel) (pa_cons (pv 3) pa_nil)) (pa_cons (pe_bl) pa_nil))) (nomark _)) (pw_or1 (pt_cmpR (kNe (K := K) rfl hr) (pe_cS c__law_refused hr (by decide) (fun _ => gd rfl) takes0 (by rfl) (pa_cons (pe_lst (pa_cons (pe_int) pa_nil)) (pa_cons (pv 4) pa_nil))) (pe_lst (pa_cons (pe_callB (kRepr (K := K) rfl (gd rfl) hr.units) (by rfl) T.m_repr (by decide +kernel) (pa_cons (pv 4) pa_nil)) (pa_cons (pe_bl) pa_nil))) (nomark _)))))) (
      (pss_one (ps_ret (pe_bl)))) (pss_nil))
    (pss_one (ps_ret (pe_cmpR gIs (pe_cS c__law_refused hr (by decide) (fun _ => gd rfl) takes0 (by rfl) (pa_cons (pe_tup (pa_cons (pe_int) (pa_cons (pe_un un_neg (pe_int)) pa_nil))) (pa_cons (pe_lst (pa_cons (pe_bl) pa_nil)) pa_nil))) (pe_non) (nomark _)))))))), ?_⟩
    try rw [cxK]
    refine i_start (τ := [some (.ref p), none, none, none, none]) rfl ?_
    walk_at "go"
    intro d1 hd1
    have e1 : Ex H (upd H d1 (.dK [])) := Ex.new hd1
    have w1 : (upd H d1 (.dK [])) d1 = some (.dK []) := upd_same
    generalize (upd H d1 (.dK [])) = A1 at e1 w1 ⊢
    walk_at "go"
    intro x1 hx1
    have e2 : Ex A1 (upd A1 x1 (.lst [.bl true])) := Ex.new hx1
    have w2 : (upd A1 x1 (.lst [.bl true])) x1 = some (.lst [.bl true]) := upd_same
    generalize (upd A1 x1 (.lst [.bl true])) = A2 at e2 w2 ⊢
    walk_at "go"
    intro x2 hx2
    have e3 : Ex A2 (upd A2 x2 (.tup [.non])) := Ex.new hx2
    have w3 : (upd A2 x2 (.tup [.non])) x2 = some (.tup [.non]) := upd_same
    generalize (upd A2 x2 (.tup [.non])) = A3 at e3 w3 ⊢
    walk_at "go"
    intro x3 hx3
    have e4 : Ex A3 (upd A3 x3 (.lst [.str "1"])) := Ex.new hx3
    have w4 : (upd A3 x3 (.lst [.str "1"])) x3 = some (.lst [.str "1"]) := upd_same
    generalize (upd A3 x3 (.lst [.str "1"])) = A4 at e4 w4 ⊢
    walk_at "go"
    intro x4 hx4
    have e5 : Ex A4 (upd A4 x4 (.lst [.int 1, .bl false])) := Ex.new hx4
    have w5 : (upd A4 x4 (.lst [.int 1, .bl false])) x4 = some (.lst [.int 1, .bl false]) := upd_same
    generalize (upd A4 x4 (.lst [.int 1, .bl false])) = A5 at e5 w5 ⊢
    walk_at "go"
    intro x5 hx5
    have e6 : Ex A5 (upd A5 x5 (.lst [.int 1])) := Ex.new hx5
    have w6 : (upd A5 x5 (.lst [.int 1])) x5 = some (.lst [.int 1]) := upd_same
    generalize (upd A5 x5 (.lst [.int 1])) = A6 at e6 w6 ⊢
    walk_at "go"
    intro x6 hx6
    have e7 : Ex A6 (upd A6 x6 (.lst [.ref x5])) := Ex.new hx6
    have w7 : (upd A6 x6 (.lst [.ref x5])) x6 = some (.lst [.ref x5]) := upd_same
    generalize (upd A6 x6 (.lst [.ref x5])) = A7 at e7 w7 ⊢
    walk_at "go"
    intro bad hbad
    have e8 : Ex A7 (upd A7 bad (.lst [.non, .str "12", .int 5, .ref d1, .ref x1, .ref x2, .ref x3, .ref x4, .ref x6])) := Ex.new hbad
    have w8 : (upd A7 bad (.lst [.non, .str "12", .int 5, .ref d1, .ref x1, .ref x2, .ref x3, .ref x4, .ref x6])) bad = some (.lst [.non, .str "12", .int 5, .ref d1, .ref x1, .ref x2, .ref x3, .ref x4, .ref x6]) := upd_same
    generalize (upd A7 bad (.lst [.non, .str "12", .int 5, .ref d1, .ref x1, .ref x2, .ref x3, .ref x4, .ref x6])) = A8 at e8 w8 ⊢
    have g7 := e7.trans e8
    have g6 := e6.trans g7
    have g5 := e5.trans g6
    have g4 := e4.trans g5
    have g3 := e3.trans g4
    have g2 := e2.trans g3
    have eA := e1.trans g2
    have m1 := hp.mono e1
    have m2 := m1.mono e2
    have m3 := m2.mono e3
    have m4 := m3.mono e4
    have m5 := m4.mono e5
    have m6 := m5.mono e6
    have nd1 := hp.ne hd1
    have nx1 := m1.ne hx1
    have nx2 := m2.ne hx2
    have nx3 := m3.ne hx3
    have nx4 := m4.ne hx4
    have nx5 := m5.ne hx5
    have nx6 := m6.ne hx6
    have oddI : ∀ J, But p A8 J → ∀ x ∈ [V.non, .str "12", .int 5, .ref d1, .ref x1, .ref x2, .ref x3, .ref x4, .ref x6], Odd K J isI x := fun J hJ x hx => by
      simp only [List.mem_cons, List.not_mem_nil, or_false] at hx
      rcases hx with rfl | rfl | rfl | rfl | rfl | rfl | rfl | rfl | rfl
      · exact odd_dp .none .non (.inl (.inl rfl)) rfl rfl (by decide) (by decide) (by decide +kernel)
      · exact odd_dp (.str "12") (.str _) (.inl (.inl rfl)) rfl rfl (by decide +kernel) (by decide) (by decide +kernel)
      · exact odd_dp (.int 5) (.int _) (.inl (.inl rfl)) (by decide) rfl (by decide +kernel) (by decide) (by decide +kernel)
      · exact ⟨.inl (.inr ⟨d1, _, rfl, hJ _ _ nd1 (g2 _ _ w1)⟩), (dictD []).shown, fun H' Q e q => .inr ⟨d1, _, rfl, e _ _ (hJ _ _ nd1 (g2 _ _ w1)), by decide, by decide, sz (by decide +kernel), by decide, q⟩, by decide +kernel⟩
      · exact odd_dp (.list [.bool true]) (.lst (.of (hJ _ _ nx1 (g3 _ _ w2))) (.cons (.bl true) .nil)) (.inr ⟨_, .l (.of (hJ _ _ nx1 (g3 _ _ w2))), by simp, fun y hy => by rw [List.mem_singleton.mp hy]; exact .inl rfl, rfl⟩) (by decide) (by decide) (by decide +kernel) (by decide) (by decide +kernel)
      · exact odd_dp (.tuple [.none]) (.tup (.of (hJ _ _ nx2 (g4 _ _ w3))) (.cons .non .nil)) (.inr ⟨_, .t (.of (hJ _ _ nx2 (g4 _ _ w3))), by simp, fun y hy => by rw [List.mem_singleton.mp hy]; exact .inl rfl, rfl⟩) (by decide) (by decide) (by decide +kernel) (by decide) (by decide +kernel)
      · exact odd_dp (.list [.str "1"]) (.lst (.of (hJ _ _ nx3 (g5 _ _ w4))) (.cons (.str _) .nil)) (.inr ⟨_, .l (.of (hJ _ _ nx3 (g5 _ _ w4))), by simp, fun y hy => by rw [List.mem_singleton.mp hy]; exact .inl rfl, rfl⟩) (by decide) (by decide) (by decide +kernel) (by decide) (by decide +kernel)
      · exact odd_dp (.list [.int 1, .bool false]) (.lst (.of (hJ _ _ nx4 (g6 _ _ w5))) (.cons (.int _) (.cons (.bl false) .nil))) (.inr ⟨_, .l (.of (hJ _ _ nx4 (g6 _ _ w5))), by simp, fun y hy => by simp only [List.mem_cons, List.not_mem_nil, or_false] at hy; rcases hy with rfl | rfl <;> exact .inl rfl, rfl⟩) (by decide) (by decide) (by decide +kernel) (by decide) (by decide +kernel)
      · exact odd_dp (.list [.list [.int 1]]) (.lst (.of (hJ _ _ nx6 (e8 _ _ w7))) (.cons (.lst (.of (hJ _ _ nx5 (g7 _ _ w6))) (.cons (.int _) .nil)) .nil)) (.inr ⟨_, .l (.of (hJ _ _ nx6 (e8 _ _ w7))), by simp, fun y hy => by rw [List.mem_singleton.mp hy]; exact .l (.of (hJ _ _ nx5 (g7 _ _ w6))), rfl⟩) (by decide) (by decide) (by decide +kernel) (by decide) (by decide +kernel)
    clear m1 m2 m3 m4 m5 m6 g2 g3 g4 g5 g6 g7 e1 e2 e3 e4 e5 e6 e7 e8 w1 w2 w3 w4 w5 w6 w7
    walk_at "go"
    intro d2 hd2
    have e1 : Ex A8 (upd A8 d2 (.dK [])) := Ex.new hd2
    have w1 : (upd A8 d2 (.dK [])) d2 = some (.dK []) := upd_same
    generalize (upd A8 d2 (.dK [])) = B1 at e1 w1 ⊢
    walk_at "go"
    intro y1 hy1
    have e2 : Ex B1 (upd B1 y1 (.lst [.int 1])) := Ex.new hy1
    have w2 : (upd B1 y1 (.lst [.int 1])) y1 = some (.lst [.int 1]) := upd_same
    generalize (upd B1 y1 (.lst [.int 1])) = B2 at e2 w2 ⊢
    walk_at "go"
    intro y2 hy2
    have e3 : Ex B2 (upd B2 y2 (.tup [.int 0])) := Ex.new hy2
    have w3 : (upd B2 y2 (.tup [.int 0])) y2 = some (.tup [.int 0]) := upd_same
    generalize (upd B2 y2 (.tup [.int 0])) = B3 at e3 w3 ⊢
    walk_at "go"
    intro y3 hy3
    have e4 : Ex B3 (upd B3 y3 (.lst [.non])) := Ex.new hy3
    have w4 : (upd B3 y3 (.lst [.non])) y3 = some (.lst [.non]) := upd_same
    generalize (upd B3 y3 (.lst [.non])) = B4 at e4 w4 ⊢
    walk_at "go"
    intro y4 hy4
    have e5 : Ex B4 (upd B4 y4 (.lst [.bl true, .str "no"])) := Ex.new hy4
    have w5 : (upd B4 y4 (.lst [.bl true, .str "no"])) y4 = some (.lst [.bl true, .str "no"]) := upd_same
    generalize (upd B4 y4 (.lst [.bl true, .str "no"])) = B5 at e5 w5 ⊢
    walk_at "go"
    intro y5 hy5
    have e6 : Ex B5 (upd B5 y5 (.lst [.bl true])) := Ex.new hy5
    have w6 : (upd B5 y5 (.lst [.bl true])) y5 = some (.lst [.bl true]) := upd_same
    generalize (upd B5 y5 (.lst [.bl true])) = B6 at e6 w6 ⊢
    walk_at "go"
    intro y6 hy6
    have e7 : Ex B6 (upd B6 y6 (.lst [.ref y5])) := Ex.new hy6
    have w7 : (upd B6 y6 (.lst [.ref y5])) y6 = some (.lst [.ref y5]) := upd_same
    generalize (upd B6 y6 (.lst [.ref y5])) = B7 at e7 w7 ⊢
    walk_at "go"
    intro wor hwor
    have e8 : Ex B7 (upd B7 wor (.lst [.non, .str "yes", .bl true, .ref d2, .ref y1, .ref y2, .ref y3, .ref y4, .ref y6])) := Ex.new hwor
    have v8 : (upd B7 wor (.lst [.non, .str "yes", .bl true, .ref d2, .ref y1, .ref y2, .ref y3, .ref y4, .ref y6])) wor = some (.lst [.non, .str "yes", .bl true, .ref d2, .ref y1, .ref y2, .ref y3, .ref y4, .ref y6]) := upd_same
    generalize (upd B7 wor (.lst [.non, .str "yes", .bl true, .ref d2, .ref y1, .ref y2, .ref y3, .ref y4, .ref y6])) = B8 at e8 v8 ⊢
    have g7 := e7.trans e8
    have g6 := e6.trans g7
    have g5 := e5.trans g6
    have g4 := e4.trans g5
    have g3 := e3.trans g4
    have g2 := e2.trans g3
    have eB := e1.trans g2
    have m0 := hp.mono eA
    have m1 := m0.mono e1
    have m2 := m1.mono e2
    have m3 := m2.mono e3
    have m4 := m3.mono e4
    have m5 := m4.mono e5
    have m6 := m5.mono e6
    have nd2 := m0.ne hd2
    have ny1 := m1.ne hy1
    have ny2 := m2.ne hy2
    have ny3 := m3.ne hy3
    have ny4 := m4.ne hy4
    have ny5 := m5.ne hy5
    have ny6 := m6.ne hy6
    have oddB : ∀ J, But p B8 J → ∀ x ∈ [V.non, .str "yes", .bl true, .ref d2, .ref y1, .ref y2, .ref y3, .ref y4, .ref y6], Odd K J isB x := fun J hJ x hx => by
      simp only [List.mem_cons, List.not_mem_nil, or_false] at hx
      rcases hx with rfl | rfl | rfl | rfl | rfl | rfl | rfl | rfl | rfl
      · exact odd_dp .none .non (.inl (.inl rfl)) rfl rfl (by decide) (by decide) (by decide +kernel)
      · exact odd_dp (.str "yes") (.str _) (.inl (.inl rfl)) rfl rfl (by decide +kernel) (by decide) (by decide +kernel)
      · exact odd_dp (.bool true) (.bl _) (.inl (.inl rfl)) (by decide) rfl (by decide +kernel) (by decide) (by decide +kernel)
      · exact ⟨.inl (.inr ⟨d2, _, rfl, hJ _ _ nd2 (g2 _ _ w1)⟩), (dictD []).shown, fun H' Q e q => .inr ⟨d2, _, rfl, e _ _ (hJ _ _ nd2 (g2 _ _ w1)), by decide, by decide, sz (by decide +kernel), by decide, q⟩, by decide +kernel⟩
      · exact odd_dp (.list [.int 1]) (.lst (.of (hJ _ _ ny1 (g3 _ _ w2))) (.cons (.int _) .nil)) (.inr ⟨_, .l (.of (hJ _ _ ny1 (g3 _ _ w2))), by simp, fun y hy => by rw [List.mem_singleton.mp hy]; exact .inl rfl, rfl⟩) (by decide) (by decide) (by decide +kernel) (by decide) (by decide +kernel)
      · exact odd_dp (.tuple [.int 0]) (.tup (.of (hJ _ _ ny2 (g4 _ _ w3))) (.cons (.int _) .nil)) (.inr ⟨_, .t (.of (hJ _ _ ny2 (g4 _ _ w3))), by simp, fun y hy => by rw [List.mem_singleton.mp hy]; exact .inl rfl, rfl⟩) (by decide) (by decide) (by decide +kernel) (by decide) (by decide +kernel)
      · exact odd_dp (.list [.none]) (.lst (.of (hJ _ _ ny3 (g5 _ _ w4))) (.cons .non .nil)) (.inr ⟨_, .l (.of (hJ _ _ ny3 (g5 _ _ w4))), by simp, fun y hy => by rw [List.mem_singleton.mp hy]; exact .inl rfl, rfl⟩) (by decide) (by decide) (by decide +kernel) (by decide) (by decide +kernel)
      · exact odd_dp (.list [.bool true, .str "no"]) (.lst (.of (hJ _ _ ny4 (g6 _ _ w5))) (.cons (.bl true) (.cons (.str _) .nil))) (.inr ⟨_, .l (.of (hJ _ _ ny4 (g6 _ _ w5))), by simp, fun y hy => by simp only [List.mem_cons, List.not_mem_nil, or_false] at hy; rcases hy with rfl | rfl <;> exact .inl rfl, rfl⟩) (by decide) (by decide) (by decide +kernel) (by decide) (by decide +kernel)
      · exact odd_dp (.list [.list [.bool true]]) (.lst (.of (hJ _ _ ny6 (e8 _ _ w7))) (.cons (.lst (.of (hJ _ _ ny5 (g7 _ _ w6))) (.cons (.bl true) .nil)) .nil)) (.inr ⟨_, .l (.of (hJ _ _ ny6 (e8 _ _ w7))), by simp, fun y hy => by rw [List.mem_singleton.mp hy]; exact .l (.of (hJ _ _ ny5 (g7 _ _ w6))), rfl⟩) (by decide) (by decide) (by decide +kernel) (by decide) (by decide +kernel)
    clear m1 m2 m3 m4 m5 m6 g2 g3 g4 g5 g6 g7 e1 e2 e3 e4 e5 e6 e7 e8 w1 w2 w3 w4 w5 w6 w7
    have hbd := eB _ _ w8
    have oddA : ∀ J, But p B8 J → ∀ x ∈ [V.non, .str "12", .int 5, .ref d1, .ref x1, .ref x2, .ref x3, .ref x4, .ref x6], Odd K J isI x := fun J hJ => oddI J (eB.but.trans hJ)
    have e0 := eA.trans eB
    have p8 := hp.mono e0
    have b8 : But p H B8 := e0.but
    have nbd : bad ≠ p := fun z => by
      obtain ⟨a, b, h, _⟩ := p8
      rw [← z, hbd] at h
      cases h
    have nwr : wor ≠ p := fun z => by
      obtain ⟨a, b, h, _⟩ := p8
      rw [← z, v8] at h
      cases h
    clear oddI w8 eA eB e0 hbad hwor m0
    walk_at "go"
    refine take p8 (by decide) (by decide) fun i1 C1 i0 i9 p9 c1 => ?_
    obtain ⟨one, hone, eone⟩ := at_list (xs := [V.non, .str "12", .int 5, .ref d1, .ref x1, .ref x2, .ref x3, .ref x4, .ref x6]) i0 (by simpa using i9)
    refine l_ixL (c1 _ _ nbd hbd) eone ?_
    walk_at "go"
    refine take p9 (by decide) (by decide) fun i2 C2 j0 j9 p10 c2 => ?_
    obtain ⟨oth, hoth, eoth⟩ := at_list (xs := [V.non, .str "yes", .bl true, .ref d2, .ref y1, .ref y2, .ref y3, .ref y4, .ref y6]) j0 (by simpa using j9)
    refine l_ixL (c2 _ _ nwr (c1 _ _ nwr v8)) eoth ?_
    have c12 := c1.trans c2
    obtain ⟨bd1, z1, sz1, ok1⟩ := oddA C2 c12 one hone
    obtain ⟨bd2, z2, sz2, ok2⟩ := oddB C2 c12 oth hoth
    have b02 := b8.trans c12
    clear oddA oddB c1 c2 c12 p9 p8 b8
    walk_at "go"
    refine ⟨_, _, rfl, ?_⟩
    walk_at "go"
    refine i_cutT (fun b H' => b = false ∧ Ex C2 H') ?_ ?_
    · walk_at "go"
      refine ⟨_, _, rfl, .inl ⟨z1, .inl ⟨bd1, sz1⟩, fun r1 C3 e3 hr1 => ?_⟩⟩
      walk_at "go"
      refine sz1 _ _ e3 ?_
      walk_at "go"
      intro l1 hl1
      have e4 : Ex C3 (upd C3 l1 (.lst [.str z1, .bl true])) := Ex.new hl1
      refine l_neD (.lst (.of (e4 _ _ hr1)) (.cons (.str z1) (.cons (.bl true) .nil))) (.lst (.of upd_same) (.cons (.str z1) (.cons (.bl true) .nil))) (sh_sb true ok1) (sh_sb true ok1) (eqv_sb z1 true) ?_
      have e24 := e3.trans e4
      walk_at "go"
      intro l3 hl3
      have e5 : Ex (upd C3 l1 (.lst [.str z1, .bl true])) (upd (upd C3 l1 (.lst [.str z1, .bl true])) l3 (.lst [.int 3])) := Ex.new hl3
      have w5 : (upd (upd C3 l1 (.lst [.str z1, .bl true])) l3 (.lst [.int 3])) l3 = some (.lst ([(3 : Int)].map V.int)) := upd_same
      have e25 := e24.trans e5
      generalize (upd (upd C3 l1 (.lst [.str z1, .bl true])) l3 (.lst [.int 3])) = C5 at e5 w5 e25 ⊢
      walk_at "go"
      refine ⟨_, _, rfl, .inl ⟨z2, .inr ⟨[3], .l (.of w5), by simp, bd2.mono e25, sz2.mono e25⟩, fun r2 C6 e6 hr2 => ?_⟩⟩
      walk_at "go"
      refine sz2 _ _ (e25.trans e6) ?_
      walk_at "go"
      intro l2 hl2
      have e7 : Ex C6 (upd C6 l2 (.lst [.str z2, .bl true])) := Ex.new hl2
      refine l_neD (.lst (.of (e7 _ _ hr2)) (.cons (.str z2) (.cons (.bl true) .nil))) (.lst (.of upd_same) (.cons (.str z2) (.cons (.bl true) .nil))) (sh_sb true ok2) (sh_sb true ok2) (eqv_sb z2 true) ?_
      exact ⟨false, rfl, rfl, e25.trans (e6.trans e7)⟩
    rintro _ C3 ⟨rfl, e3⟩
    walk_at "go"
    intro u1 hu1
    have e4 : Ex C3 (upd C3 u1 (.tup [.int 3, .int (-4)])) := Ex.new hu1
    have w4 : (upd C3 u1 (.tup [.int 3, .int (-4)])) u1 = some (.tup [.int 3, .int (-4)]) := upd_same
    generalize (upd C3 u1 (.tup [.int 3, .int (-4)])) = C4 at e4 w4 ⊢
    walk_at "go"
    intro u2 hu2
    have e5 : Ex C4 (upd C4 u2 (.lst [.bl true])) := Ex.new hu2
    have w5 : (upd C4 u2 (.lst [.bl true])) u2 = some (.lst [.bl true]) := upd_same
    generalize (upd C4 u2 (.lst [.bl true])) = C5 at e5 w5 ⊢
    walk_at "go"
    refine ⟨_, _, rfl, .inr ⟨[3, -4], [true], .t (.of (e5 _ _ w4)), .l (.of w5), by simp, by simp, fun C6 e6 => ?_⟩⟩
    have e26 := e3.trans (e4.trans (e5.trans e6))
    walk_at "go"
    exact q _ (p10.mono e26) (b02.trans e26.but)
end
end K
namespace K
open PySem PySem.Spec PyProof.Rows L2 G TL
local macro_rules | `(tactic| walk_at "side") => `(tactic| focus (first | assumption | exact rfl | omega | decide))
local macro_rules | `(tactic| walk_at "ty") => `(tactic| focus (first | exact .base (.str _) | exact .base (.int _) | exact .base (.bl _) | exact .base .non | exact .base (.lst (by assumption)) | exact .base (.tup (by assumption)) | exact .base (.dK (by assumption)) | assumption))
local macro_rules | `(tactic| walk_at "kt") => `(tactic| focus (with_reducible first | exact kt_NoneType_str | exact kt_NoneType_int | exact kt_NoneType_bool | exact kt_NoneType_tuple | exact kt_NoneType_list | exact kt_NoneType_dict | exact kt_bool_str | exact kt_bool_int | exact kt_bool_bool | exact kt_bool_tuple | exact kt_bool_list | exact kt_bool_dict | exact kt_int_str | exact kt_int_int | exact kt_int_bool | exact kt_int_tuple | exact kt_int_list | exact kt_int_dict | exact kt_str_str | exact kt_str_int | exact kt_str_bool | exact kt_str_tuple | exact kt_str_list | exact kt_str_dict | exact kt_list_str | exact kt_list_int | exact kt_list_bool | exact kt_list_tuple | exact kt_list_list | exact kt_list_dict | exact kt_tuple_str | exact kt_tuple_int | exact kt_tuple_bool | exact kt_tuple_tuple | exact kt_tuple_list | exact kt_tuple_dict | exact kt_dict_str | exact kt_dict_int | exact kt_dict_bool | exact kt_dict_tuple | exact kt_dict_list | exact kt_dict_dict | assumption))
local macro_rules | `(tactic| walk_at "1") => `(tactic| first
  | (with_reducible refine i_seq ?_)
  | (with_reducible refine iteT ?_)
  | (with_reducible refine iteF ?_)
  | (with_reducible refine iteNF ?_)
  | (with_reducible refine iteNT ?_)
  | (with_reducible refine i_asg ?_)
  | (with_reducible refine i_op ?_)
  | (with_reducible refine i_c ?_)
  | ((with_reducible apply i_var); (exact rfl))
  | (with_reducible refine i_cb ?_)
  | (with_reducible refine i_cons ?_)
  | (with_reducible refine i_nil ?_)
  | (with_reducible refine i_test ?_)
  | (with_reducible refine i_b ?_)
  | (with_reducible refine i_bl ?_)
  | (with_reducible refine i_name ?_)
  | (with_reducible refine i_ifS ?_)
  | (with_reducible refine i_next ?_)
  | (with_reducible refine i_ret ?_)
  | (with_reducible refine i_drop ?_)
  | (with_reducible refine i_lst ?_)
  | (with_reducible refine i_tup ?_)
  | (with_reducible refine i_and ?_)
  | (with_reducible refine i_or ?_)
  | (with_reducible refine i_not ?_)
  | (with_reducible refine i_andV ?_)
  | (with_reducible refine i_orV ?_)
  | (with_reducible refine i_notV ?_)
  | (with_reducible refine i_if ?_)
  | (with_reducible refine i_chain ?_)
  | (with_reducible refine i_un ?_)
  | (with_reducible refine i_neg ?_)
  | (with_reducible refine i_sub ?_)
  | (with_reducible refine i_sl ?_)
  | (with_reducible refine i_noP ?_)
  | (with_reducible refine i_part ?_)
  | (with_reducible refine i_int ?_)
  | (with_reducible refine i_bm ?_)
  | (with_reducible refine i_strT ?_)
  | (with_reducible refine i_yes ?_)
  | (with_reducible refine i_call ?_)
  | ((with_reducible refine i_len ?_ ?_); (focus (exact sz (by simp))))
  | (with_reducible refine i_lc ?_)
  | (with_reducible refine i_for ?_)
  | (with_reducible refine i_rng1 ?_)
  | (with_reducible refine i_rng2 ?_)
  | (with_reducible refine l_addI ?_)
  | (with_reducible refine l_subI ?_)
  | (with_reducible refine l_cmp ?_)
  | (with_reducible refine l_eqI ?_)
  | (with_reducible refine l_eqS ?_)
  | (with_reducible refine l_eqB ?_)
  | (with_reducible refine l_neI ?_)
  | (with_reducible refine l_neS ?_)
  | (with_reducible refine l_neB ?_)
  | (with_reducible refine l_isN ?_)
  | (with_reducible refine l_isNotN ?_)
  | (with_reducible refine l_isB ?_)
  | (with_reducible refine l_isNotB ?_)
  | (with_reducible refine l_intI ?_)
  | (with_reducible refine l_intB ?_)
  | (with_reducible refine l_inC ?_)
  | (refine ⟨_, _, rfl, rfl, sz (by first | omega | simp; omega), ?_⟩)
  | ((with_reducible refine l_pow ?_ ?_); (focus (exact ⟨by decide, by decide, by decide⟩)))
  | ((with_reducible refine l_mul ?_ ?_); (focus (first | assumption | exact Or.inl (Or.inl ⟨by omega, by omega⟩) | exact Or.inl (Or.inr ⟨by omega, by omega⟩))))
  | ((with_reducible refine l_div ?_ ?_); (focus (first | assumption | exact ⟨by decide, by decide⟩)))
  | ((with_reducible apply l_setL); (assumption); (exact rfl))
  | ((with_reducible refine l_mod ?_ ?_); (walk_at "side"))
  | ((with_reducible apply l_ixL); (assumption); (exact rfl))
  | ((with_reducible refine l_lenS ?_ ?_); (focus (first | assumption | exact sz (by omega) | exact sz (by simp; omega))))
  | ((with_reducible refine l_slS ?_ ?_); (focus (first | assumption | exact sz (by omega))))
  | ((with_reducible apply l_isi); (walk_at "ty"); (walk_at "kt"))
  | ((with_reducible apply l_lenL); (assumption)))
local macro_rules | `(tactic| walk_at "go") => `(tactic| repeat (walk_at "1"))
local macro_rules | `(tactic| walk_at "1") => `(tactic| first
  | (with_reducible refine i_mkS ?_)
  | (with_reducible refine i_cS ?_)
  | (with_reducible refine i_fld ?_)
  | (with_reducible refine i_sFld ?_)
  | (with_reducible refine i_tX ?_)
  | (with_reducible refine l_len2 rfl rfl ?_))
local macro_rules | `(tactic| walk_at "1") => `(tactic| first
  | (with_reducible refine i_stp ?_)
  | ((with_reducible apply i_iad); (exact rfl))
  | (with_reducible refine i_cO ?_)
  | (with_reducible refine i_prp ?_)
  | (with_reducible refine i_mtS ?_)
  | (with_reducible refine i_fldaug ?_)
  | (with_reducible refine i_par ?_)
  | (with_reducible refine i_par3 ?_)
  | (with_reducible refine i_revL ?_))
section
variable {P : Program} {w : World} {K : PySem.W.Frag} {mg : Str → Option Value} {base : Heap}
theorem Ex.but' {H H1 H2 : Hp} {p : Addr} (e : Ex H H1) (b : But p H1 H2) (hp : H p = none) : Ex H H2 := fun a o ha => b a o (ne_of_none ha hp) (e a o ha)
theorem cell_new {C CB : Addr} {H : Hp} {n : Int} {Q : Addr → Hp → Prop} {E : XK} (q : ∀ x dx H', Ex H H' → H x = none → H' x = some (.ins C dx (clF n)) → Q x H') :
    ∀ x dx, H x = none → H dx = none → dx ≠ x → spCell K C CB [.ref x, .int n] (upd (upd H dx (.own x)) x (.ins C dx [])) (fun v H3 => v = .non ∧ Q x H3) E :=
  fun x dx hx hdx _ => ⟨x, dx, _, rfl, upd_same, .inl ⟨n, rfl, rfl, q x dx _ ((ex_new2 hx hdx).mut hx) hx upd_same⟩⟩
theorem fun_new {C : Addr} {H : Hp} {c : Addr} {Q : Addr → Hp → Prop} {E : XK} (q : ∀ x dx H', Ex H H' → H x = none → H' x = some (.ins C dx (fnF c)) → Q x H') :
    ∀ x dx, H x = none → H dx = none → dx ≠ x → spFun C [.ref x, .ref c] (upd (upd H dx (.own x)) x (.ins C dx [])) (fun v H3 => v = .non ∧ Q x H3) E :=
  fun x dx hx hdx _ => ⟨x, dx, c, rfl, upd_same, rfl, q x dx _ ((ex_new2 hx hdx).mut hx) hx upd_same⟩
theorem fn_cl {H : Hp} {f c CF C df dc x : Addr} {n : Int} (h1 : H f = some (.ins CF df (fnF x))) (h2 : H c = some (.ins C dc (clF n))) : f ≠ c := fun z => by
  rw [z, h2] at h1
  have h := congrArg (fun o : Option HO => match o with | some (HO.ins _ _ fs) => fs.lookup ("held" : Str) | _ => none) h1
  have h3 : (some (V.int n) : Option V) = none := h
  cases h3
theorem eqv_lI' (ns : List Int) : PyData.eqv (.list (ns.map .int)) (.list (ns.map .int)) = true := by rw [PyData.eqv, eqv_ints, decide_eq_true rfl]
end
end K
namespace K
open PySem PySem.Spec PyProof.Rows L2 G TL
local macro_rules | `(tactic| walk_at "side") => `(tactic| focus (first | assumption | exact rfl | omega | decide))
local macro_rules | `(tactic| walk_at "ty") => `(tactic| focus (first | exact .base (.str _) | exact .base (.int _) | exact .base (.bl _) | exact .base .non | exact .base (.lst (by assumption)) | exact .base (.tup (by assumption)) | exact .base (.dK (by assumption)) | assumption))
local macro_rules | `(tactic| walk_at "kt") => `(tactic| focus (with_reducible first | exact kt_NoneType_str | exact kt_NoneType_int | exact kt_NoneType_bool | exact kt_NoneType_tuple | exact kt_NoneType_list | exact kt_NoneType_dict | exact kt_bool_str | exact kt_bool_int | exact kt_bool_bool | exact kt_bool_tuple | exact kt_bool_list | exact kt_bool_dict | exact kt_int_str | exact kt_int_int | exact kt_int_bool | exact kt_int_tuple | exact kt_int_list | exact kt_int_dict | exact kt_str_str | exact kt_str_int | exact kt_str_bool | exact kt_str_tuple | exact kt_str_list | exact kt_str_dict | exact kt_list_str | exact kt_list_int | exact kt_list_bool | exact kt_list_tuple | exact kt_list_list | exact kt_list_dict | exact kt_tuple_str | exact kt_tuple_int | exact kt_tuple_bool | exact kt_tuple_tuple | exact kt_tuple_list | exact kt_tuple_dict | exact kt_dict_str | exact kt_dict_int | exact kt_dict_bool | exact kt_dict_tuple | exact kt_dict_list | exact kt_dict_dict | assumption))
local macro_rules | `(tactic| walk_at "1") => `(tactic| first
  | (with_reducible refine i_seq ?_)
  | (with_reducible refine iteT ?_)
  | (with_reducible refine iteF ?_)
  | (with_reducible refine iteNF ?_)
  | (with_reducible refine iteNT ?_)
  | (with_reducible refine i_asg ?_)
  | (with_reducible refine i_op ?_)
  | (with_reducible refine i_c ?_)
  | ((with_reducible apply i_var); (exact rfl))
  | (with_reducible refine i_cb ?_)
  | (with_reducible refine i_cons ?_)
  | (with_reducible refine i_nil ?_)
  | (with_reducible refine i_test ?_)
  | (with_reducible refine i_b ?_)
  | (with_reducible refine i_bl ?_)
  | (with_reducible refine i_name ?_)
  | (with_reducible refine i_ifS ?_)
  | (with_reducible refine i_next ?_)
  | (with_reducible refine i_ret ?_)
  | (with_reducible refine i_drop ?_)
  | (with_reducible refine i_lst ?_)
  | (with_reducible refine i_tup ?_)
  | (with_reducible refine i_and ?_)
  | (with_reducible refine i_or ?_)
  | (with_reducible refine i_not ?_)
  | (with_reducible refine i_andV ?_)
  | (with_reducible refine i_orV ?_)
  | (with_reducible refine i_notV ?_)
  | (with_reducible refine i_if ?_)
  | (with_reducible refine i_chain ?_)
  | (with_reducible refine i_un ?_)
  | (with_reducible refine i_neg ?_)
  | (with_reducible refine i_sub ?_)
  | (with_reducible refine i_sl ?_)
  | (with_reducible refine i_noP ?_)
  | (with_reducible refine i_part ?_)
  | (with_reducible refine i_int ?_)
  | (with_reducible refine i_bm ?_)
  | (with_reducible refine i_strT ?_)
  | (with_reducible refine i_yes ?_)
  | (with_reducible refine i_call ?_)
  | ((with_reducible refine i_len ?_ ?_); (focus (exact sz (by simp))))
  | (with_reducible refine i_lc ?_)
  | (with_reducible refine i_for ?_)
  | (with_reducible refine i_rng1 ?_)
  | (with_reducible refine i_rng2 ?_)
  | (with_reducible refine l_addI ?_)
  | (with_reducible refine l_subI ?_)
  | (with_reducible refine l_cmp ?_)
  | (with_reducible refine l_eqI ?_)
  | (with_reducible refine l_eqS ?_)
  | (with_reducible refine l_eqB ?_)
  | (with_reducible refine l_neI ?_)
  | (with_reducible refine l_neS ?_)
  | (with_reducible refine l_neB ?_)
  | (with_reducible refine l_isN ?_)
  | (with_reducible refine l_isNotN ?_)
  | (with_reducible refine l_isB ?_)
  | (with_reducible refine l_isNotB ?_)
  | (with_reducible refine l_intI ?_)
  | (with_reducible refine l_intB ?_)
  | (with_reducible refine l_inC ?_)
  | (refine ⟨_, _, rfl, rfl, sz (by first | omega | simp; omega), ?_⟩)
  | ((with_reducible refine l_pow ?_ ?_); (focus (exact ⟨by decide, by decide, by decide⟩)))
  | ((with_reducible refine l_mul ?_ ?_); (focus (first | assumption | exact Or.inl (Or.inl ⟨by omega, by omega⟩) | exact Or.inl (Or.inr ⟨by omega, by omega⟩))))
  | ((with_reducible refine l_div ?_ ?_); (focus (first | assumption | exact ⟨by decide, by decide⟩)))
  | ((with_reducible apply l_setL); (assumption); (exact rfl))
  | ((with_reducible refine l_mod ?_ ?_); (walk_at "side"))
  | ((with_reducible apply l_ixL); (assumption); (exact rfl))
  | ((with_reducible refine l_lenS ?_ ?_); (focus (first | assumption | exact sz (by omega) | exact sz (by simp; omega))))
  | ((with_reducible refine l_slS ?_ ?_); (focus (first | assumption | exact sz (by omega))))
  | ((with_reducible apply l_isi); (walk_at "ty"); (walk_at "kt"))
  | ((with_reducible apply l_lenL); (assumption)))
local macro_rules | `(tactic| walk_at "go") => `(tactic| repeat (walk_at "1"))
local macro_rules | `(tactic| walk_at "1") => `(tactic| first
  | (with_reducible refine i_mkS ?_)
  | (with_reducible refine i_cS ?_)
  | (with_reducible refine i_fld ?_)
  | (with_reducible refine i_sFld ?_)
  | (with_reducible refine i_tX ?_)
  | (with_reducible refine l_len2 rfl rfl ?_))
local macro_rules | `(tactic| walk_at "1") => `(tactic| first
  | (with_reducible refine i_stp ?_)
  | ((with_reducible apply i_iad); (exact rfl))
  | (with_reducible refine i_cO ?_)
  | (with_reducible refine i_prp ?_)
  | (with_reducible refine i_mtS ?_)
  | (with_reducible refine i_fldaug ?_)
  | (with_reducible refine i_par ?_)
  | (with_reducible refine i_par3 ?_)
  | (with_reducible refine i_revL ?_))
section
variable {P : Program} {w : World} {K : PySem.W.Frag} {mg : Str → Option Value} {base : Heap}
def spLaw (K : PySem.W.Frag) : Sp := fun vs H Q _ => ∃ (a : Addr) (ns : List Int), vs = [.ref a] ∧ SqL K H a (ns.map V.int) ∧ ns.length ≤ 63 ∧ ∀ H', Q (.bl true) H'
set_option maxHeartbeats 4000000 in
theorem ok_law {C_RoundError C_BadNumber C_BadPlay C_Play d_Play_0 d_Play_1 C_Cell C_Function : Addr} (T : Tp K mg C_RoundError C_BadNumber C_BadPlay C_Play d_Play_0 d_Play_1 C_Cell C_Function) {fa : Addr} (hfa : mg "law" = some (.ref fa)) : ∃ fd : FuncData, (∃ (kV doc pm : Value) (an : Option Addr) (cdv ct : Value), fd = PySem.W.fnOf "law" "law" (defArgs s_law) (defBody s_law) (defScope s_law) .none kV doc pm an cdv ct) ∧ ∀ base : Heap, Fg P w K mg base true 9 fa fd ["_law_script"] (spLaw K) := by
  refine T.d_law.lawG sc_law hfa (fun vs H Q E h => ?_) (fun base f cdv A outer s H vs Q E hr gd h => ?_)
  · obtain ⟨a, ns, rfl, _⟩ := h
    rfl
  · obtain ⟨a, script, rfl, hS, hl, fin⟩ := h
    have sc := sc_law
    have c__law_pool : Cal P w K mg base 1 "_law_pool" (spPool K) [] := ok_pool T
    have c__law_take : Cal P w K mg base 1 "_law_take" spTake [] := ok_take T
    have c_Cell_1 := mk_Cell_1 (P := P) (w := w) (base := base) T
    have c_Function_1 := mk_Function_1 (P := P) (w := w) (base := base) T
    have c__law_added := ok_added (P := P) (w := w) (base := base) T
    have c__law_made := ok_made (P := P) (w := w) (base := base) T
    have c__law_given := ok_given (P := P) (w := w) (base := base) T
    have c_Function___call__ := ok_show (P := P) (w := w) (base := base) T
    have c_Cell_content := ok_content (P := P) (w := w) (base := base) T
    have c_Cell___iadd__ := ok_iad (P := P) (w := w) (base := base) T
    have c__law_plays_right := ok_pr (P := P) (w := w) (base := base) T
    have c__law_odd_right := ok_or (P := P) (w := w) (base := base) T
    refine ⟨_, 
    (pss_cons (ps_for PassesOwn.never rfl (pi_range1 (by rfl) T.m_range (pa_cons (pe_callB (call_max2 rfl) (by rfl) T.m_max (by decide +kernel) (pa_cons (pe_int) (pa_cons (pe_callB (call_min2 rfl) (by rfl) T.m_min (by decide +kernel) (pa_cons (pe_callB (kLen (K := K) rfl) (by rfl) T.m_len PySem.boot_len (pa_cons (pv 0) pa_nil)) (pa_cons (pe_int) pa_nil))) pa_nil))) pa_nil)) (pg_name (i := 1) sc.nd rfl (by first | exact Or.inl rfl | exact Or.inr rfl)) (
      (pss_cons (ps_set (i := 2) sc.nd rfl (by first | exact Or.inl rfl | exact Or.inr rfl) (pe_c c__law_pool hr (by decide) (by rfl) (pa_cons (pv 0) (pa_cons (pv 1) pa_nil))))
      (pss_cons (ps_par (i := 3) (j := 4) (by rfl) sc.nd rfl rfl (by decide) rfl rfl (pa_cons (pe_op gSub' (pe_c c__law_take hr (by decide) (by rfl) (pa_cons (pv 2) (pa_cons (pe_op gMul (pe_int) (pe_op gPow (pe_int) (pe_int))) pa_nil))) (pe_op gPow (pe_int) (pe_int))) (pa_cons (pe_op gSub' (pe_c c__law_take hr (by decide) (by rfl) (pa_cons (pv 2) (pa_cons (pe_int) pa_nil))) (pe_int)) pa_nil)) (by rfl))
      (pss_cons (ps_par (i := 5) (j := 6) (by rfl) sc.nd rfl rfl (by decide) rfl rfl (pa_cons (pe_mkS c_Cell_1 hr (by decide) takes0 (by rfl) (pa_cons (pv 3) pa_nil)) (pa_cons (pe_mkS c_Cell_1 hr (by decide) takes0 (by rfl) (pa_cons (pv 3) pa_nil)) pa_nil)) (by rfl))
      (pss_cons (ps_par3 (i := 7) (j := 8) (l := 9) (by rfl) sc.nd rfl rfl rfl (by decide) (by decide) (by decide) rfl rfl rfl (pa_cons (pe_mkS c_Function_1 hr (by decide) takes0 (by rfl) (pa_cons (pv 5) pa_nil)) (pa_cons (pe_mkS c_Function_1 hr (by decide) takes0 (by rfl) (pa_cons (pv 5) pa_nil)) (pa_cons (pe_mkS c_Function_1 hr (by decide) takes0 (by rfl) (pa_cons (pv 6) pa_nil)) pa_nil))) (by rfl))
      (pss_cons (ps_for PassesOwn.never rfl (kIT (K := K) rfl (pe_lst (pa_cons (pe_non) (pa_cons (pe_bl) (pa_cons (pe_str) (pa_cons (pe_lst (pa_cons (pe_int) pa_nil)) (pa_cons (pe_tup (pa_cons (pe_int) pa_nil)) pa_nil))))))) (pg_name (i := 10) sc.nd rfl (by first | exact Or.inl rfl | exact Or.inr rfl)) (
        (pss_cons (ps_if (pt_cut (PW.pt (pw_or (pt_cmpR (kNe (K := K) rfl hr) (pe_cS c__law_added hr (by decide) (fun _ => gd rfl) takes0 (by rfl) (pa_cons (pv 5) (pa_cons (pv 10) pa_nil))) (pe_lst (pa_cons (pe_callB (kRepr (K := K) rfl (gd rfl) hr.units) (by rfl) T.m_repr (by decide +kernel) (pa_cons (pv 10) pa_nil)) (pa_cons (pe_bl) pa_nil))) (nomark _)) (pw_or1 (pt_cmpR (kNe (K := K) rfl hr) (pe_cS c__law_made hr (by decide) (fun _ => gd rfl) takes0 (by rfl) (pa_cons (pv 10) pa_nil)) (pe_callB (kRepr (K := K) rfl (gd rfl) hr.units) (by rfl) T.m_repr (by decide +kernel) (pa_cons (pv 10) pa_nil)) (nomark _)))))) (
          (pss_one (ps_ret (pe_bl)))) (pss_nil))
        (pss_one (ps_if (pt_cut (PW.pt (pw_or (pt_cmpR (kNe (K := K) rfl hr) (pe_cS c__law_given hr (by decide) (fun _ => gd rfl) takes0 (by rfl) (pa_cons (pv 5) (pa_cons (pv 10) pa_nil))) (pe_lst (pa_cons (pe_callB (kRepr (K := K) rfl (gd rfl) hr.units) (by rfl) T.m_repr (by decide +kernel) (pa_cons (pv 10) pa_nil)) (pa_cons (pe_bl) pa_nil))) (nomark _)) (pw_or1 (pt_cmpR (kNe (K := K) rfl hr) (pe_cO c_Function___call__ hr (by decide) takes0 (pv 7)) (pv 3) (nomark _)))))) (
          (pss_one (ps_ret (pe_bl)))) (pss_nil))))))
      (pss_cons (ps_iad (i := 5) c_Cell___iadd__ T.sf_Cell hr (by decide) takes0 sc.nd rfl (by first | exact Or.inl rfl | exact Or.inr rfl) (pv 4))
      (pss_cons (ps_if (pt_cmpR (kNe (K := K) rfl hr) (pe_lst (pa_cons (pe_cO c_Function___call__ hr (by decide) takes0 (pv 7)) (pa_cons (pe_cO c_Function___call__ hr (by decide) takes0 (pv 8)) (pa_cons (pe_prp c_Cell_content hr (by decide) (pv 5)) (pa_cons (pe_cO c_Function___call__ hr (by decide) takes0 (pv 9)) (pa_cons (pe_prp c_Cell_content hr (by decide) (pv 6)) pa_nil)))))) (pe_op (kAdd (K := K) rfl) (pe_op op_rep (pe_lst (pa_cons (pe_op (kAdd (K := K) rfl) (pv 3) (pv 4)) pa_nil)) (pe_int)) (pe_op op_rep (pe_lst (pa_cons (pv 3) pa_nil)) (pe_int))) (nomark _)) (
        (pss_one (ps_ret (pe_bl)))) (pss_nil))
      (pss_cons (ps_iad (i := 5) c_Cell___iadd__ T.sf_Cell hr (by decide) takes0 sc.nd rfl (by first | exact Or.inl rfl | exact Or.inr rfl) (pv 4))
      (pss_cons (ps_if (pt_cmpR (kNe (K := K) rfl hr) (pe_lst (pa_cons (pe_cO c_Function___call__ hr (by decide) takes0 (pv 7)) (pa_cons (pe_cO c_Function___call__ hr (by decide) takes0 (pv 8)) (pa_cons (pe_prp c_Cell_content hr (by decide) (pe_fld (pv 7) rfl)) (pa_cons (pe_cO c_Function___call__ hr (by decide) takes0 (pv 9)) pa_nil))))) (pe_op (kAdd (K := K) rfl) (pe_op op_rep (pe_lst (pa_cons (pe_op (kAdd (K := K) rfl) (pv 3) (pe_op gMul (pe_int) (pv 4))) pa_nil)) (pe_int)) (pe_lst (pa_cons (pv 3) pa_nil))) (nomark _)) (
        (pss_one (ps_ret (pe_bl)))) (pss_nil))
      (pss_cons (ps_if (pt_cut (PW.pt (pw_or (pt_cmpR gIsNot (pe_cS c__law_given hr (by decide) (fun _ => gd rfl) takes0 (by rfl) (pa_cons (pv 5) (pa_cons (pv 4) pa_nil))) (pe_non) (nomark _)) (pw_or1 (pt_cmpR (kNe (K := K) rfl hr) (pe_lst (pa_cons (pe_cO c_Function___call__ hr (by decide) takes0 (pv 7)) (pa_cons (pe_cO c_Function___call__ hr (by decide) takes0 (pv 8)) (pa_cons (pe_cO c_Function___call__ hr (by decide) takes0 (pv 9)) pa_nil)))) (pe_lst (pa_cons (pv 4) (pa_cons (pv 4) (pa_cons (pv 3) pa_nil)))) (nomark _)))))) (
        (pss_one (ps_ret (pe_bl)))) (pss_nil))
      (pss_one (ps_if (pt_cut (PW.pt (pw_or (pt_not (kTruth (K := K) rfl (pe_cS c__law_plays_right hr (by decide) (fun e => nomatch e) takes0 (by rfl) (pa_cons (pv 2) pa_nil)) (by intro _; rfl))) (pw_or1 (pt_not (kTruth (K := K) rfl (pe_cS c__law_odd_right hr (by decide) (fun _ => gd rfl) takes0 (by rfl) (pa_cons (pv 2) pa_nil)) (by intro _; rfl))))))) (
        (pss_one (ps_ret (pe_bl)))) (pss_nil)))))))))))))))
    (pss_one (ps_ret (pe_bl)))), ?_⟩
    try rw [cxK]
    refine i_start (τ := [some (.ref a), none, none, none, none, none, none, none, none, none, none]) rfl ?_
    walk_at "go"
    refine ⟨_, .inl hS, ?_⟩
    walk_at "go"
    refine ⟨_, _, rfl, ?_⟩
    walk_at "go"
    refine ⟨_, _, rfl, ?_⟩
    walk_at "go"
    refine ⟨_, rfl, by split <;> omega, by split <;> omega, ?_⟩
    refine for_rng (fun i σ H' => ∃ v1 v2 v3 v4 v5 v6 v7 v8 v9 v10, σ = [some (.ref a), v1, v2, v3, v4, v5, v6, v7, v8, v9, v10] ∧ Ex H H') ⟨_, _, _, _, _, _, _, _, _, _, rfl, Ex.refl H⟩ ?_ ?_
    · rintro i σ H0 hi ⟨v1, v2, v3, v4, v5, v6, v7, v8, v9, v10, rfl, e0⟩
      have hi5 : i < 64 := by
        simp only [List.length_map] at hi
        split at hi <;> split at hi <;> omega
      walk_at "go"
      refine ⟨a, script, i, by rw [Int.zero_add]; rfl, sqL_mono e0 hS, hi5, fun p H1 hp1 e1 po1 => ?_⟩
      have hp0 := e0.free hp1
      have e01 := e0.trans e1
      walk_at "go"
      refine take po1 (by decide) (by decide) fun r1 H2 _ _ po2 b2 => ?_
      walk_at "go"
      refine take po2 (by decide) (by decide) fun r2 H3 m0 m1 po3 b3 => ?_
      have e03 := Ex.but' e01 (b2.trans b3) hp0
      walk_at "go"
      refine ⟨_, _, rfl, ?_⟩
      generalize hval : r1 - 10 ^ Int.toNat 30 = val
      generalize hmor : r2 - 9 = mor
      have mo1 : -10 < mor ∧ mor < 10 := by omega
      clear hval hmor m0 m1 b2 b3 e1 e01 po1 po2 hp1
      walk_at "go"
      refine cell_new fun c1 d1 H4 e4 nc1 hc1 => ?_
      walk_at "go"
      refine cell_new fun c2 d2 H5 e5 nc2 hc2 => ?_
      walk_at "go"
      refine ⟨_, _, rfl, ?_⟩
      walk_at "go"
      refine fun_new fun f1 g1 H6 e6 nf1 hf1 => ?_
      walk_at "go"
      refine fun_new fun f2 g2 H7 e7 nf2 hf2 => ?_
      walk_at "go"
      refine fun_new fun f3 g3 H8 e8 nf3 hf3 => ?_
      walk_at "go"
      refine ⟨_, _, _, rfl, ?_⟩
      have nc0 := e03.free nc1
      have n12 : c2 ≠ c1 := fun z => by rw [z, hc1] at nc2; cases nc2
      have e57 := e6.trans e7
      have e58 := e57.trans e8
      have e38 := e4.trans (e5.trans e58)
      have e08 := e03.trans e38
      replace hc1 := (e5.trans e58) _ _ hc1
      replace hc2 := e58 _ _ hc2
      replace hf1 := (e7.trans e8) _ _ hf1
      replace hf2 := e8 _ _ hf2
      have po8 := po3.mono e38
      have n1 := fn_cl hf1 hc1
      have n2 := fn_cl hf2 hc1
      have n3 := fn_cl hf3 hc1
      have np := po8.ins_ne hc1
      clear e38 e58 e57 e4 e5 e6 e7 e8 e03 po3 nc1 nc2 nf1 nf2 nf3
      walk_at "go"
      refine i_anyL ?_
      walk_at "go"
      intro u1 hu1
      have a1 : Ex H8 (upd H8 u1 (.lst [.int 2])) := Ex.new hu1
      have w1 : (upd H8 u1 (.lst [.int 2])) u1 = some (.lst [.int 2]) := upd_same
      generalize (upd H8 u1 (.lst [.int 2])) = G1 at a1 w1 ⊢
      walk_at "go"
      intro u2 hu2
      have a2 : Ex G1 (upd G1 u2 (.tup [.int 3])) := Ex.new hu2
      have w2 : (upd G1 u2 (.tup [.int 3])) u2 = some (.tup [.int 3]) := upd_same
      generalize (upd G1 u2 (.tup [.int 3])) = G2 at a2 w2 ⊢
      walk_at "go"
      intro u3 hu3
      have a3 : Ex G2 (upd G2 u3 (.lst [.non, .bl true, .str "1", .ref u1, .ref u2])) := Ex.new hu3
      have w3 : (upd G2 u3 (.lst [.non, .bl true, .str "1", .ref u1, .ref u2])) u3 = some (.lst [.non, .bl true, .str "1", .ref u1, .ref u2]) := upd_same
      generalize (upd G2 u3 (.lst [.non, .bl true, .str "1", .ref u1, .ref u2])) = G3 at a3 w3 ⊢
      have a13 := a1.trans (a2.trans a3)
      replace w1 := (a2.trans a3) _ _ w1
      replace w2 := a3 _ _ w2
      replace hc1 := a13 _ _ hc1
      replace hc2 := a13 _ _ hc2
      replace hf1 := a13 _ _ hf1
      replace hf2 := a13 _ _ hf2
      replace hf3 := a13 _ _ hf3
      replace po8 := po8.mono a13
      replace e08 := e08.trans a13
      clear a13 a1 a2 a3
      have odd : ∀ x ∈ [V.non, .bl true, .str "1", .ref u1, .ref u2], ∃ z, NoI K G3 x ∧ Shw K G3 x z ∧ PyData.strOk z = true := fun x hx => by
        simp only [List.mem_cons, List.not_mem_nil, or_false] at hx
        rcases hx with rfl | rfl | rfl | rfl | rfl
        · exact ⟨_, ⟨.inl rfl, rfl⟩, shw_dp .non rfl rfl (by decide) (by decide), by decide +kernel⟩
        · exact ⟨_, ⟨.inl rfl, rfl⟩, shw_dp (.bl true) rfl rfl (by decide) (by decide), by decide +kernel⟩
        · exact ⟨_, ⟨.inl rfl, rfl⟩, shw_dp (.str _) rfl rfl (by decide +kernel) (by decide), by decide +kernel⟩
        · exact ⟨_, ⟨.l (.of w1), rfl⟩, shw_dp (.lst (.of w1) (.cons (.int 2) .nil)) (by decide) (by decide) (by decide +kernel) (by decide), by decide +kernel⟩
        · exact ⟨_, ⟨.t (.of w2), rfl⟩, shw_dp (.tup (.of w2) (.cons (.int 3) .nil)) (by decide) (by decide) (by decide +kernel) (by decide), by decide +kernel⟩
      refine ⟨u3, rfl, ⟨_, .of w3⟩, ?_⟩
      refine for_lst (xs := [V.non, .bl true, .str "1", .ref u1, .ref u2]) (fun _ σ H' => ∃ v10, σ = [some (.ref a), some (.int (0 + i)), some (.ref p), some (.int val), some (.int mor), some (.ref c1), some (.ref c2), some (.ref f1), some (.ref f2), some (.ref f3), v10] ∧ Ex G3 H') ⟨_, rfl, Ex.refl _⟩ (fun _ _ _ _ ⟨_, _, e⟩ => .of (e _ _ w3)) ?_ ?_
      · rintro j x σ J0 hj ⟨v10, rfl, e⟩
        obtain ⟨z, hno, hz, okz⟩ := odd x (List.mem_of_getElem? hj)
        walk_at "go"
        refine i_cutT (fun b H' => b = false ∧ Ex G3 H') ?_ ?_
        · walk_at "go"
          refine ⟨c1, d1, val, x, z, rfl, e _ _ hc1, hno.mono e, hz.mono e, fun r J1 e1 hr1 => ?_⟩
          have e01 := e.trans e1
          walk_at "go"
          refine hz _ _ e01 ?_
          walk_at "go"
          intro l1 hl1
          have e2 : Ex J1 (upd J1 l1 (.lst [.str z, .bl true])) := Ex.new hl1
          have e02 := e01.trans e2
          refine l_neD (.lst (.of (e2 _ _ hr1)) (.cons (.str z) (.cons (.bl true) .nil))) (.lst (.of upd_same) (.cons (.str z) (.cons (.bl true) .nil))) (sh_sb true okz) (sh_sb true okz) (eqv_sb z true) ?_
          walk_at "go"
          refine ⟨x, z, rfl, hno.mono e02, hz.mono e02, fun J3 e3 => ?_⟩
          have e03 := e02.trans e3
          walk_at "go"
          refine hz _ _ e03 ?_
          walk_at "go"
          exact ⟨by simp, e03⟩
        rintro _ J1 ⟨rfl, e1⟩
        walk_at "go"
        refine i_cutT (fun b H' => b = false ∧ Ex G3 H') ?_ ?_
        · walk_at "go"
          refine ⟨c1, d1, val, x, rfl, e1 _ _ hc1, .inr ⟨z, hno.mono e1, hz.mono e1, fun r J2 e2 hr2 => ?_⟩⟩
          have e02 := e1.trans e2
          walk_at "go"
          refine hz _ _ e02 ?_
          walk_at "go"
          intro l1 hl1
          have e3 : Ex J2 (upd J2 l1 (.lst [.str z, .bl true])) := Ex.new hl1
          have e03 := e02.trans e3
          refine l_neD (.lst (.of (e3 _ _ hr2)) (.cons (.str z) (.cons (.bl true) .nil))) (.lst (.of upd_same) (.cons (.str z) (.cons (.bl true) .nil))) (sh_sb true okz) (sh_sb true okz) (eqv_sb z true) ?_
          walk_at "go"
          refine ⟨f1, g1, _, rfl, e03 _ _ hf1, f1, g1, c1, d1, val, rfl, e03 _ _ hf1, e03 _ _ hc1, ?_⟩
          walk_at "go"
          exact ⟨by simp, e03⟩
        rintro _ J2 ⟨rfl, e2⟩
        walk_at "go"
        exact ⟨_, rfl, e2⟩
      rintro σ J0 ⟨v10, rfl, e⟩
      replace hc1 := e _ _ hc1
      replace hc2 := e _ _ hc2
      replace hf1 := e _ _ hf1
      replace hf2 := e _ _ hf2
      replace hf3 := e _ _ hf3
      replace po8 := po8.mono e
      replace e08 := e08.trans e
      clear e odd w1 w2 w3
      walk_at "go"
      refine ⟨c1, d1, _, rfl, hc1, c1, d1, val, _, rfl, hc1, .inl ⟨mor, rfl, ?_⟩⟩
      have bu : But c1 J0 (upd J0 c1 (.ins C_Cell d1 (clF (val + mor)))) := (But.refl J0).mut
      have hc1' : (upd J0 c1 (.ins C_Cell d1 (clF (val + mor)))) c1 = some (.ins C_Cell d1 (clF (val + mor))) := upd_same
      replace hc2 := bu _ _ n12 hc2
      replace hf1 := bu _ _ n1 hf1
      replace hf2 := bu _ _ n2 hf2
      replace hf3 := bu _ _ n3 hf3
      replace po8 := po8.put (o := .ins C_Cell d1 (clF (val + mor))) np
      replace e08 := e08.mut (o := .ins C_Cell d1 (clF (val + mor))) nc0
      clear hc1 bu
      generalize (upd J0 c1 (.ins C_Cell d1 (clF (val + mor)))) = J1 at hc1' hc2 hf1 hf2 hf3 po8 e08 ⊢
      walk_at "go"
      refine ⟨f1, g1, _, rfl, hf1, f1, g1, c1, d1, _, rfl, hf1, hc1', ?_⟩
      walk_at "go"
      refine ⟨f2, g2, _, rfl, hf2, f2, g2, c1, d1, _, rfl, hf2, hc1', ?_⟩
      walk_at "go"
      refine ⟨c1, d1, _, rfl, hc1', c1, d1, _, rfl, hc1', ?_⟩
      walk_at "go"
      refine ⟨f3, g3, _, rfl, hf3, f3, g3, c2, d2, _, rfl, hf3, hc2, ?_⟩
      walk_at "go"
      refine ⟨c2, d2, _, rfl, hc2, c2, d2, _, rfl, hc2, ?_⟩
      walk_at "go"
      intro l1 hl1
      have e2 : Ex J1 (upd J1 l1 (.lst [.int (val + mor), .int (val + mor), .int (val + mor), .int val, .int val])) := Ex.new hl1
      have w2 : (upd J1 l1 (.lst [.int (val + mor), .int (val + mor), .int (val + mor), .int val, .int val])) l1 = some (.lst [.int (val + mor), .int (val + mor), .int (val + mor), .int val, .int val]) := upd_same
      generalize (upd J1 l1 (.lst [.int (val + mor), .int (val + mor), .int (val + mor), .int val, .int val])) = J2 at e2 w2 ⊢
      walk_at "go"
      intro l2 hl2
      have e3 : Ex J2 (upd J2 l2 (.lst [.int (val + mor)])) := Ex.new hl2
      have w3 : (upd J2 l2 (.lst [.int (val + mor)])) l2 = some (.lst [.int (val + mor)]) := upd_same
      generalize (upd J2 l2 (.lst [.int (val + mor)])) = J3 at e3 w3 ⊢
      walk_at "go"
      refine ⟨l2, 3, _, rfl, rfl, w3, by decide, by decide, sz (by simp), ?_⟩
      rw [show (List.replicate (Int.toNat 3) [V.int (val + mor)]).flatten = [V.int (val + mor), V.int (val + mor), V.int (val + mor)] from rfl]
      intro l3 hl3
      have e4 : Ex J3 (upd J3 l3 (.lst [.int (val + mor), .int (val + mor), .int (val + mor)])) := Ex.new hl3
      have w4 : (upd J3 l3 (.lst [.int (val + mor), .int (val + mor), .int (val + mor)])) l3 = some (.lst [.int (val + mor), .int (val + mor), .int (val + mor)]) := upd_same
      generalize (upd J3 l3 (.lst [.int (val + mor), .int (val + mor), .int (val + mor)])) = J4 at e4 w4 ⊢
      walk_at "go"
      intro l4 hl4
      have e5 : Ex J4 (upd J4 l4 (.lst [.int val])) := Ex.new hl4
      have w5 : (upd J4 l4 (.lst [.int val])) l4 = some (.lst [.int val]) := upd_same
      generalize (upd J4 l4 (.lst [.int val])) = J5 at e5 w5 ⊢
      walk_at "go"
      refine ⟨l4, 2, _, rfl, rfl, w5, by decide, by decide, sz (by simp), ?_⟩
      rw [show (List.replicate (Int.toNat 2) [V.int (val)]).flatten = [V.int (val), V.int (val)] from rfl]
      intro l5 hl5
      have e6 : Ex J5 (upd J5 l5 (.lst [.int val, .int val])) := Ex.new hl5
      have w6 : (upd J5 l5 (.lst [.int val, .int val])) l5 = some (.lst [.int val, .int val]) := upd_same
      generalize (upd J5 l5 (.lst [.int val, .int val])) = J6 at e6 w6 ⊢
      refine l_addL ((e5.trans e6) _ _ w4) w6 (by simp) fun l6 hl6 => ?_
      have e7 : Ex J6 (upd J6 l6 (.lst ([.int (val + mor), .int (val + mor), .int (val + mor)] ++ [.int val, .int val]))) := Ex.new hl6
      refine l_neD (.lst (.of ((e3.trans (e4.trans (e5.trans (e6.trans e7)))) _ _ w2)) (dp_ints [val + mor, val + mor, val + mor, val, val])) (.lst (.of upd_same) (dp_ints [val + mor, val + mor, val + mor, val, val])) (sh_ints _) (sh_ints _) (eqv_lI' _) ?_
      have e17 := e2.trans (e3.trans (e4.trans (e5.trans (e6.trans e7))))
      replace hc1' := e17 _ _ hc1'
      replace hc2 := e17 _ _ hc2
      replace hf1 := e17 _ _ hf1
      replace hf2 := e17 _ _ hf2
      replace hf3 := e17 _ _ hf3
      replace po8 := po8.mono e17
      replace e08 := e08.trans e17
      clear e17 e2 e3 e4 e5 w2 w3 w4 w5 w6 hl1 hl2 hl3 hl4 hl5
      generalize (upd J6 l6 (.lst ([.int (val + mor), .int (val + mor), .int (val + mor)] ++ [.int val, .int val]))) = L0 at hc1' hc2 hf1 hf2 hf3 po8 e08 e7 ⊢
      clear e7 e6
      walk_at "go"
      refine ⟨c1, d1, _, rfl, hc1', c1, d1, _, _, rfl, hc1', .inl ⟨mor, rfl, ?_⟩⟩
      rw [show val + mor + mor = val + 2 * mor by omega]
      have bu : But c1 L0 (upd L0 c1 (.ins C_Cell d1 (clF (val + 2 * mor)))) := (But.refl L0).mut
      have hc1 : (upd L0 c1 (.ins C_Cell d1 (clF (val + 2 * mor)))) c1 = some (.ins C_Cell d1 (clF (val + 2 * mor))) := upd_same
      replace hc2 := bu _ _ n12 hc2
      replace hf1 := bu _ _ n1 hf1
      replace hf2 := bu _ _ n2 hf2
      replace hf3 := bu _ _ n3 hf3
      replace po8 := po8.put (o := .ins C_Cell d1 (clF (val + 2 * mor))) np
      replace e08 := e08.mut (o := .ins C_Cell d1 (clF (val + 2 * mor))) nc0
      clear hc1' bu
      generalize (upd L0 c1 (.ins C_Cell d1 (clF (val + 2 * mor)))) = L1 at hc1 hc2 hf1 hf2 hf3 po8 e08 ⊢
      walk_at "go"
      refine ⟨f1, g1, _, rfl, hf1, f1, g1, c1, d1, _, rfl, hf1, hc1, ?_⟩
      walk_at "go"
      refine ⟨f2, g2, _, rfl, hf2, f2, g2, c1, d1, _, rfl, hf2, hc1, ?_⟩
      walk_at "go"
      refine ⟨f1, C_Function, g1, _, _, rfl, hf1, T.cl_Function, T.n_Function_cell, lk_cell, ?_⟩
      refine ⟨c1, d1, _, rfl, hc1, c1, d1, _, rfl, hc1, ?_⟩
      walk_at "go"
      refine ⟨f3, g3, _, rfl, hf3, f3, g3, c2, d2, _, rfl, hf3, hc2, ?_⟩
      walk_at "go"
      intro l1 hl1
      have e2 : Ex L1 (upd L1 l1 (.lst [.int (val + 2 * mor), .int (val + 2 * mor), .int (val + 2 * mor), .int val])) := Ex.new hl1
      have w2 : (upd L1 l1 (.lst [.int (val + 2 * mor), .int (val + 2 * mor), .int (val + 2 * mor), .int val])) l1 = some (.lst [.int (val + 2 * mor), .int (val + 2 * mor), .int (val + 2 * mor), .int val]) := upd_same
      generalize (upd L1 l1 (.lst [.int (val + 2 * mor), .int (val + 2 * mor), .int (val + 2 * mor), .int val])) = L2 at e2 w2 ⊢
      walk_at "go"
      intro l2 hl2
      have e3 : Ex L2 (upd L2 l2 (.lst [.int (val + 2 * mor)])) := Ex.new hl2
      have w3 : (upd L2 l2 (.lst [.int (val + 2 * mor)])) l2 = some (.lst [.int (val + 2 * mor)]) := upd_same
      generalize (upd L2 l2 (.lst [.int (val + 2 * mor)])) = L3 at e3 w3 ⊢
      walk_at "go"
      refine ⟨l2, 3, _, rfl, rfl, w3, by decide, by decide, sz (by simp), ?_⟩
      rw [show (List.replicate (Int.toNat 3) [V.int (val + 2 * mor)]).flatten = [V.int (val + 2 * mor), V.int (val + 2 * mor), V.int (val + 2 * mor)] from rfl]
      intro l3 hl3
      have e4 : Ex L3 (upd L3 l3 (.lst [.int (val + 2 * mor), .int (val + 2 * mor), .int (val + 2 * mor)])) := Ex.new hl3
      have w4 : (upd L3 l3 (.lst [.int (val + 2 * mor), .int (val + 2 * mor), .int (val + 2 * mor)])) l3 = some (.lst [.int (val + 2 * mor), .int (val + 2 * mor), .int (val + 2 * mor)]) := upd_same
      generalize (upd L3 l3 (.lst [.int (val + 2 * mor), .int (val + 2 * mor), .int (val + 2 * mor)])) = L4 at e4 w4 ⊢
      walk_at "go"
      intro l4 hl4
      have e5 : Ex L4 (upd L4 l4 (.lst [.int val])) := Ex.new hl4
      have w5 : (upd L4 l4 (.lst [.int val])) l4 = some (.lst [.int val]) := upd_same
      generalize (upd L4 l4 (.lst [.int val])) = L5 at e5 w5 ⊢
      refine l_addL (e5 _ _ w4) w5 (by simp) fun l6 hl6' => ?_
      have e7 : Ex L5 (upd L5 l6 (.lst ([.int (val + 2 * mor), .int (val + 2 * mor), .int (val + 2 * mor)] ++ [.int val]))) := Ex.new hl6'
      refine l_neD (.lst (.of ((e3.trans (e4.trans (e5.trans e7))) _ _ w2)) (dp_ints [val + 2 * mor, val + 2 * mor, val + 2 * mor, val])) (.lst (.of upd_same) (dp_ints [val + 2 * mor, val + 2 * mor, val + 2 * mor, val])) (sh_ints _) (sh_ints _) (eqv_lI' _) ?_
      have e17 := e2.trans (e3.trans (e4.trans (e5.trans e7)))
      replace hc1 := e17 _ _ hc1
      replace hc2 := e17 _ _ hc2
      replace hf1 := e17 _ _ hf1
      replace hf2 := e17 _ _ hf2
      replace hf3 := e17 _ _ hf3
      replace po8 := po8.mono e17
      replace e08 := e08.trans e17
      clear e17 e2 e3 e4 w2 w3 w4 w5 hl1 hl2 hl3 hl4
      generalize (upd L5 l6 (.lst ([.int (val + 2 * mor), .int (val + 2 * mor), .int (val + 2 * mor)] ++ [.int val]))) = M0 at hc1 hc2 hf1 hf2 hf3 po8 e08 e7 ⊢
      clear e7 e5
      walk_at "go"
      refine i_cutT (fun b H' => b = false ∧ Ex H H' ∧ Po H' p) ?_ ?_
      · walk_at "go"
        refine ⟨c1, d1, _, _, rfl, hc1, .inl ⟨mor, rfl, ?_⟩⟩
        have bu : But c1 M0 (upd M0 c1 (.ins C_Cell d1 (clF mor))) := (But.refl M0).mut
        have hc1' : (upd M0 c1 (.ins C_Cell d1 (clF mor))) c1 = some (.ins C_Cell d1 (clF mor)) := upd_same
        replace hc2 := bu _ _ n12 hc2
        replace hf1 := bu _ _ n1 hf1
        replace hf2 := bu _ _ n2 hf2
        replace hf3 := bu _ _ n3 hf3
        replace po8 := po8.put (o := .ins C_Cell d1 (clF mor)) np
        replace e08 := e08.mut (o := .ins C_Cell d1 (clF mor)) nc0
        generalize (upd M0 c1 (.ins C_Cell d1 (clF mor))) = M1 at hc1' hc2 hf1 hf2 hf3 po8 e08 ⊢
        walk_at "go"
        rw [decide_eq_true (show V.non = V.non from rfl)]
        walk_at "go"
        refine ⟨f1, g1, _, rfl, hf1, f1, g1, c1, d1, _, rfl, hf1, hc1', ?_⟩
        walk_at "go"
        refine ⟨f2, g2, _, rfl, hf2, f2, g2, c1, d1, _, rfl, hf2, hc1', ?_⟩
        walk_at "go"
        refine ⟨f3, g3, _, rfl, hf3, f3, g3, c2, d2, _, rfl, hf3, hc2, ?_⟩
        walk_at "go"
        intro l1 hl1
        have e2 : Ex M1 (upd M1 l1 (.lst [.int mor, .int mor, .int val])) := Ex.new hl1
        have w2 : (upd M1 l1 (.lst [.int mor, .int mor, .int val])) l1 = some (.lst [.int mor, .int mor, .int val]) := upd_same
        generalize (upd M1 l1 (.lst [.int mor, .int mor, .int val])) = M2 at e2 w2 ⊢
        walk_at "go"
        intro l2 hl2
        have e3 : Ex M2 (upd M2 l2 (.lst [.int mor, .int mor, .int val])) := Ex.new hl2
        refine l_neD (.lst (.of (e3 _ _ w2)) (dp_ints [mor, mor, val])) (.lst (.of upd_same) (dp_ints [mor, mor, val])) (sh_ints _) (sh_ints _) (eqv_lI' _) ?_
        exact ⟨false, rfl, rfl, e08.trans (e2.trans e3), po8.mono (e2.trans e3)⟩
      rintro _ M1 ⟨rfl, e1, po9⟩
      walk_at "go"
      refine i_cutT (fun b H' => b = false ∧ Ex H H') ?_ ?_
      · walk_at "go"
        refine ⟨p, rfl, po9, fun M2 po10 b2 => ⟨true, by simp [TruV], ?_⟩⟩
        walk_at "go"
        refine ⟨p, rfl, po10, fun M3 po11 b3 => ⟨true, by simp [TruV], rfl, Ex.but' e1 (b2.trans b3) hp0⟩⟩
      rintro _ M2 ⟨rfl, e2⟩
      walk_at "go"
      exact ⟨_, _, _, _, _, _, _, _, _, _, rfl, e2⟩
    rintro σ H' ⟨v1, v2, v3, v4, v5, v6, v7, v8, v9, v10, rfl, _⟩
    walk_at "go"
    exact fin _
theorem law_mk {fa : Addr} (hfa : mg "law" = some (.ref fa)) (hT : ∃ C_RoundError C_BadNumber C_BadPlay C_Play d_Play_0 d_Play_1 C_Cell C_Function : Addr, Tp K mg C_RoundError C_BadNumber C_BadPlay C_Play d_Play_0 d_Play_1 C_Cell C_Function) :
    ∃ fd : FuncData, (∀ (s : Shared) (u : Value), BindsTo s fd ⟨[u], []⟩ [("_law_script", u)]) ∧ ∀ base : Heap, K.In base → base.Ns mainGlobals mg → Fg P w K mg base true 9 fa fd ["_law_script"] (spLaw K) := by
  obtain ⟨C_RoundError, C_BadNumber, C_BadPlay, C_Play, d_Play_0, d_Play_1, C_Cell, C_Function, T⟩ := hT
  obtain ⟨fd, ⟨kV, doc, pm, an, cdv, ct, rfl⟩, hF⟩ := ok_law (P := P) (w := w) T hfa
  exact ⟨_, fun s v => .of_eq rfl, fun base _ _ => hF base⟩
end
end K
namespace K
open PySem PySem.Spec PyProof.Rows L2 G TL
local macro_rules | `(tactic| walk_at "side") => `(tactic| focus (first | assumption | exact rfl | omega | decide))
local macro_rules | `(tactic| walk_at "ty") => `(tactic| focus (first | exact .base (.str _) | exact .base (.int _) | exact .base (.bl _) | exact .base .non | exact .base (.lst (by assumption)) | exact .base (.tup (by assumption)) | exact .base (.dK (by assumption)) | assumption))
local macro_rules | `(tactic| walk_at "kt") => `(tactic| focus (with_reducible first | exact kt_NoneType_str | exact kt_NoneType_int | exact kt_NoneType_bool | exact kt_NoneType_tuple | exact kt_NoneType_list | exact kt_NoneType_dict | exact kt_bool_str | exact kt_bool_int | exact kt_bool_bool | exact kt_bool_tuple | exact kt_bool_list | exact kt_bool_dict | exact kt_int_str | exact kt_int_int | exact kt_int_bool | exact kt_int_tuple | exact kt_int_list | exact kt_int_dict | exact kt_str_str | exact kt_str_int | exact kt_str_bool | exact kt_str_tuple | exact kt_str_list | exact kt_str_dict | exact kt_list_str | exact kt_list_int | exact kt_list_bool | exact kt_list_tuple | exact kt_list_list | exact kt_list_dict | exact kt_tuple_str | exact kt_tuple_int | exact kt_tuple_bool | exact kt_tuple_tuple | exact kt_tuple_list | exact kt_tuple_dict | exact kt_dict_str | exact kt_dict_int | exact kt_dict_bool | exact kt_dict_tuple | exact kt_dict_list | exact kt_dict_dict | assumption))
local macro_rules | `(tactic| walk_at "1") => `(tactic| first
  | (with_reducible refine i_seq ?_)
  | (with_reducible refine iteT ?_)
  | (with_reducible refine iteF ?_)
  | (with_reducible refine iteNF ?_)
  | (with_reducible refine iteNT ?_)
  | (with_reducible refine i_asg ?_)
  | (with_reducible refine i_op ?_)
  | (with_reducible refine i_c ?_)
  | ((with_reducible apply i_var); (exact rfl))
  | (with_reducible refine i_cb ?_)
  | (with_reducible refine i_cons ?_)
  | (with_reducible refine i_nil ?_)
  | (with_reducible refine i_test ?_)
  | (with_reducible refine i_b ?_)
  | (with_reducible refine i_bl ?_)
  | (with_reducible refine i_name ?_)
  | (with_reducible refine i_ifS ?_)
  | (with_reducible refine i_next ?_)
  | (with_reducible refine i_ret ?_)
  | (with_reducible refine i_drop ?_)
  | (with_reducible refine i_lst ?_)
  | (with_reducible refine i_tup ?_)
  | (with_reducible refine i_and ?_)
  | (with_reducible refine i_or ?_)
  | (with_reducible refine i_not ?_)
  | (with_reducible refine i_andV ?_)
  | (with_reducible refine i_orV ?_)
  | (with_reducible refine i_notV ?_)
  | (with_reducible refine i_if ?_)
  | (with_reducible refine i_chain ?_)
  | (with_reducible refine i_un ?_)
  | (with_reducible refine i_neg ?_)
  | (with_reducible refine i_sub ?_)
  | (with_reducible refine i_sl ?_)
  | (with_reducible refine i_noP ?_)
  | (with_reducible refine i_part ?_)
  | (with_reducible refine i_int ?_)
  | (with_reducible refine i_bm ?_)
  | (with_reducible refine i_strT ?_)
  | (with_reducible refine i_yes ?_)
  | (with_reducible refine i_call ?_)
  | ((with_reducible refine i_len ?_ ?_); (focus (exact sz (by simp))))
  | (with_reducible refine i_lc ?_)
  | (with_reducible refine i_for ?_)
  | (with_reducible refine i_rng1 ?_)
  | (with_reducible refine i_rng2 ?_)
  | (with_reducible refine l_addI ?_)
  | (with_reducible refine l_subI ?_)
  | (with_reducible refine l_cmp ?_)
  | (with_reducible refine l_eqI ?_)
  | (with_reducible refine l_eqS ?_)
  | (with_reducible refine l_eqB ?_)
  | (with_reducible refine l_neI ?_)
  | (with_reducible refine l_neS ?_)
  | (with_reducible refine l_neB ?_)
  | (with_reducible refine l_isN ?_)
  | (with_reducible refine l_isNotN ?_)
  | (with_reducible refine l_isB ?_)
  | (with_reducible refine l_isNotB ?_)
  | (with_reducible refine l_intI ?_)
  | (with_reducible refine l_intB ?_)
  | (with_reducible refine l_inC ?_)
  | (refine ⟨_, _, rfl, rfl, sz (by first | omega | simp; omega), ?_⟩)
  | ((with_reducible refine l_pow ?_ ?_); (focus (exact ⟨by decide, by decide, by decide⟩)))
  | ((with_reducible refine l_mul ?_ ?_); (focus (first | assumption | exact Or.inl (Or.inl ⟨by omega, by omega⟩) | exact Or.inl (Or.inr ⟨by omega, by omega⟩))))
  | ((with_reducible refine l_div ?_ ?_); (focus (first | assumption | exact ⟨by decide, by decide⟩)))
  | ((with_reducible apply l_setL); (assumption); (exact rfl))
  | ((with_reducible refine l_mod ?_ ?_); (walk_at "side"))
  | ((with_reducible apply l_ixL); (assumption); (exact rfl))
  | ((with_reducible refine l_lenS ?_ ?_); (focus (first | assumption | exact sz (by omega) | exact sz (by simp; omega))))
  | ((with_reducible refine l_slS ?_ ?_); (focus (first | assumption | exact sz (by omega))))
  | ((with_reducible apply l_isi); (walk_at "ty"); (walk_at "kt"))
  | ((with_reducible apply l_lenL); (assumption)))
local macro_rules | `(tactic| walk_at "go") => `(tactic| repeat (walk_at "1"))
local macro_rules | `(tactic| walk_at "1") => `(tactic| first
  | (with_reducible refine i_mkS ?_)
  | (with_reducible refine i_cS ?_)
  | (with_reducible refine i_fld ?_)
  | (with_reducible refine i_sFld ?_)
  | (with_reducible refine i_tX ?_)
  | (with_reducible refine l_len2 rfl rfl ?_))
local macro_rules | `(tactic| walk_at "1") => `(tactic| first
  | (with_reducible refine i_stp ?_)
  | ((with_reducible apply i_iad); (exact rfl))
  | (with_reducible refine i_cO ?_)
  | (with_reducible refine i_prp ?_)
  | (with_reducible refine i_mtS ?_)
  | (with_reducible refine i_fldaug ?_)
  | (with_reducible refine i_par ?_)
  | (with_reducible refine i_par3 ?_)
  | (with_reducible refine i_revL ?_))
section
variable {P : Program} {w : World} {K : PySem.W.Frag} {mg : Str → Option Value} {base : Heap}
theorem all_mk {K : PySem.W.Frag} {h : Heap} {mg : Str → Option Value} {fa : Addr} (X : K.In h) (G : h.Ns mainGlobals mg) (hfa : mg "law" = some (.ref fa))
    {C_RoundError : Addr}
    {C_BadNumber : Addr}
    {nm_BadNumber qn_BadNumber : Str} {N_BadNumber : Addr} {bs_BadNumber : List Value} {sn_BadNumber : List Str} {su_BadNumber : List Value} {ab_BadNumber : Bool} {co_BadNumber : Option Bool} {dd_BadNumber : Option Addr} {x0_BadNumber x1_BadNumber x2_BadNumber x3_BadNumber x5_BadNumber : Option Value}
    {f_BadNumber___init__ : Addr} {od_BadNumber___init__ an_BadNumber___init__ : Option Addr} {sl_BadNumber___init__ : Array (Option Value)} {oc_BadNumber___init__ kV_BadNumber___init__ dc_BadNumber___init__ pm_BadNumber___init__ cd_BadNumber___init__ ct_BadNumber___init__ : Value}
    {C_BadPlay : Addr}
    {nm_BadPlay qn_BadPlay : Str} {N_BadPlay : Addr} {bs_BadPlay : List Value} {sn_BadPlay : List Str} {su_BadPlay : List Value} {ab_BadPlay : Bool} {co_BadPlay : Option Bool} {dd_BadPlay : Option Addr} {x0_BadPlay x1_BadPlay x2_BadPlay x3_BadPlay x5_BadPlay : Option Value}
    {f_BadPlay___init__ : Addr} {od_BadPlay___init__ an_BadPlay___init__ : Option Addr} {sl_BadPlay___init__ : Array (Option Value)} {oc_BadPlay___init__ kV_BadPlay___init__ dc_BadPlay___init__ pm_BadPlay___init__ cd_BadPlay___init__ ct_BadPlay___init__ : Value}
    {C_Play : Addr}
    {T_Play : Addr} {tc_Play : Value} {td_Play : Option Addr} {tn_Play : Nat} {tl_Play : Array (Option Value)}
    {d_Play_0 : Addr} {dd_Play_0 : Option Addr} {dn_Play_0 : Nat} {dl_Play_0 : Array (Option Value)}
    
    {d_Play_1 : Addr} {dd_Play_1 : Option Addr} {dn_Play_1 : Nat} {dl_Play_1 : Array (Option Value)}
    
    {f_Play___init__ : Addr} {od_Play___init__ an_Play___init__ : Option Addr} {sl_Play___init__ : Array (Option Value)} {oc_Play___init__ kV_Play___init__ dc_Play___init__ pm_Play___init__ cd_Play___init__ ct_Play___init__ : Value}
    {f_Play___add__ : Addr} {od_Play___add__ an_Play___add__ : Option Addr} {sl_Play___add__ : Array (Option Value)} {oc_Play___add__ kV_Play___add__ dc_Play___add__ pm_Play___add__ cd_Play___add__ ct_Play___add__ : Value}
    {f_Play___eq__ : Addr} {od_Play___eq__ an_Play___eq__ : Option Addr} {sl_Play___eq__ : Array (Option Value)} {oc_Play___eq__ kV_Play___eq__ dc_Play___eq__ pm_Play___eq__ cd_Play___eq__ ct_Play___eq__ : Value}
    {C_Cell : Addr}
    {f_Cell___init__ : Addr} {od_Cell___init__ an_Cell___init__ : Option Addr} {sl_Cell___init__ : Array (Option Value)} {oc_Cell___init__ kV_Cell___init__ dc_Cell___init__ pm_Cell___init__ cd_Cell___init__ ct_Cell___init__ : Value}
    {p_Cell_content : Addr} {r_Cell_content : List Value}
    {f_Cell_content_set : Addr}
    {f_Cell_content : Addr} {od_Cell_content an_Cell_content : Option Addr} {sl_Cell_content : Array (Option Value)} {oc_Cell_content kV_Cell_content dc_Cell_content pm_Cell_content cd_Cell_content ct_Cell_content : Value}
    {od_Cell_content_set an_Cell_content_set : Option Addr} {sl_Cell_content_set : Array (Option Value)} {oc_Cell_content_set kV_Cell_content_set dc_Cell_content_set pm_Cell_content_set cd_Cell_content_set ct_Cell_content_set : Value}
    {f_Cell_put : Addr} {od_Cell_put an_Cell_put : Option Addr} {sl_Cell_put : Array (Option Value)} {oc_Cell_put kV_Cell_put dc_Cell_put pm_Cell_put cd_Cell_put ct_Cell_put : Value}
    {f_Cell___iadd__ : Addr} {od_Cell___iadd__ an_Cell___iadd__ : Option Addr} {sl_Cell___iadd__ : Array (Option Value)} {oc_Cell___iadd__ kV_Cell___iadd__ dc_Cell___iadd__ pm_Cell___iadd__ cd_Cell___iadd__ ct_Cell___iadd__ : Value}
    {C_Function : Addr}
    {f_Function___init__ : Addr} {od_Function___init__ an_Function___init__ : Option Addr} {sl_Function___init__ : Array (Option Value)} {oc_Function___init__ kV_Function___init__ dc_Function___init__ pm_Function___init__ cd_Function___init__ ct_Function___init__ : Value}
    {f_Function___call__ : Addr} {od_Function___call__ an_Function___call__ : Option Addr} {sl_Function___call__ : Array (Option Value)} {oc_Function___call__ kV_Function___call__ dc_Function___call__ pm_Function___call__ cd_Function___call__ ct_Function___call__ : Value}
    {f_is_integer : Addr} {od_is_integer an_is_integer : Option Addr} {sl_is_integer : Array (Option Value)} {oc_is_integer kV_is_integer dc_is_integer pm_is_integer cd_is_integer ct_is_integer : Value}
    {f__law_pool : Addr} {od__law_pool an__law_pool : Option Addr} {sl__law_pool : Array (Option Value)} {oc__law_pool kV__law_pool dc__law_pool pm__law_pool cd__law_pool ct__law_pool : Value}
    {f__law_take : Addr} {od__law_take an__law_take : Option Addr} {sl__law_take : Array (Option Value)} {oc__law_take kV__law_take dc__law_take pm__law_take cd__law_take ct__law_take : Value}
    {f__law_refused : Addr} {od__law_refused an__law_refused : Option Addr} {sl__law_refused : Array (Option Value)} {oc__law_refused kV__law_refused dc__law_refused pm__law_refused cd__law_refused ct__law_refused : Value}
    {f__law_added : Addr} {od__law_added an__law_added : Option Addr} {sl__law_added : Array (Option Value)} {oc__law_added kV__law_added dc__law_added pm__law_added cd__law_added ct__law_added : Value}
    {f__law_given : Addr} {od__law_given an__law_given : Option Addr} {sl__law_given : Array (Option Value)} {oc__law_given kV__law_given dc__law_given pm__law_given cd__law_given ct__law_given : Value}
    {f__law_made : Addr} {od__law_made an__law_made : Option Addr} {sl__law_made : Array (Option Value)} {oc__law_made kV__law_made dc__law_made pm__law_made cd__law_made ct__law_made : Value}
    {f__law_plays_right : Addr} {od__law_plays_right an__law_plays_right : Option Addr} {sl__law_plays_right : Array (Option Value)} {oc__law_plays_right kV__law_plays_right dc__law_plays_right pm__law_plays_right cd__law_plays_right ct__law_plays_right : Value}
    {f__law_odd_right : Addr} {od__law_odd_right an__law_odd_right : Option Addr} {sl__law_odd_right : Array (Option Value)} {oc__law_odd_right kV__law_odd_right dc__law_odd_right pm__law_odd_right cd__law_odd_right ct__law_odd_right : Value}
    {f_law : Addr} {od_law an_law : Option Addr} {sl_law : Array (Option Value)} {oc_law kV_law dc_law pm_law cd_law ct_law : Value}
    (z_ValueError : PySem.W.nsIn K mainGlobals "ValueError" = some none)
    (z_abs : PySem.W.nsIn K mainGlobals "abs" = some none)
    (z_all : PySem.W.nsIn K mainGlobals "all" = some none)
    (z_bool : PySem.W.nsIn K mainGlobals "bool" = some none)
    (z_int : PySem.W.nsIn K mainGlobals "int" = some none)
    (z_isinstance : PySem.W.nsIn K mainGlobals "isinstance" = some none)
    (z_len : PySem.W.nsIn K mainGlobals "len" = some none)
    (z_list : PySem.W.nsIn K mainGlobals "list" = some none)
    (z_max : PySem.W.nsIn K mainGlobals "max" = some none)
    (z_min : PySem.W.nsIn K mainGlobals "min" = some none)
    (z_range : PySem.W.nsIn K mainGlobals "range" = some none)
    (z_repr : PySem.W.nsIn K mainGlobals "repr" = some none)
    (z_tuple : PySem.W.nsIn K mainGlobals "tuple" = some none)
    (g_RoundError : PySem.W.nsIn K mainGlobals "RoundError" = some (some (.ref C_RoundError)))
    (ic_RoundError : PySem.W.isClsIn K C_RoundError = true)
    (tt_RoundError : PySem.W.typeIn K (.ref C_RoundError) = some (.type "type"))
    (g_BadNumber : PySem.W.nsIn K mainGlobals "BadNumber" = some (some (.ref C_BadNumber)))
    (ic_BadNumber : PySem.W.isClsIn K C_BadNumber = true)
    (tt_BadNumber : PySem.W.typeIn K (.ref C_BadNumber) = some (.type "type"))
    (xl_BadNumber : K.lookup C_BadNumber = some (excClassObj nm_BadNumber qn_BadNumber C_BadNumber N_BadNumber bs_BadNumber [.ref C_RoundError, .type "ValueError", .type "Exception", .type "BaseException", .type "object"] true sn_BadNumber su_BadNumber ab_BadNumber co_BadNumber dd_BadNumber x0_BadNumber x1_BadNumber x2_BadNumber x3_BadNumber x5_BadNumber "ValueError.__new__"))
    (sa_BadNumber : PySem.W.findIn K (.ref C_BadNumber) "__setattr__" = some (some (.builtin "object.__setattr__")))
    (ga_BadNumber : PySem.W.findIn K (.ref C_BadNumber) "__getattribute__" = some (some (.builtin "BaseException.__getattribute__")))
    (gg_BadNumber : PySem.W.findIn K (.ref C_BadNumber) "__getattr__" = some none)
    (nb_BadNumber : PySem.W.findIn K (.ref C_BadNumber) "value" = some none)
    (kC_BadNumber : PySem.W.keepIn K (.ref C_BadNumber) = true)
    (eC_BadNumber : PySem.W.subIn K (.ref C_BadNumber) (.type "BaseException") = some true)
    (tC_BadNumber : PySem.W.typeIn K (.ref C_BadNumber) = some (.type "type"))
    (hC_BadNumber : PySem.W.hasDictIn K C_BadNumber = true)
    (cc_BadNumber : PySem.W.findIn K (.ref C_BadNumber) "__class__" = some (some (.builtin "object.__class__")))
    (mo_BadNumber : PySem.W.mroIn K C_BadNumber (.type "object") = some true)
    (a_BadNumber___init__ : PySem.W.findIn K (.ref C_BadNumber) "__init__" = some (some (.ref f_BadNumber___init__)))
    (l_BadNumber___init__ : K.lookup f_BadNumber___init__ = some ⟨oc_BadNumber___init__, od_BadNumber___init__, .func (PySem.W.fnOf "__init__" "BadNumber.__init__" (defArgs s_BadNumber___init__) (defBody s_BadNumber___init__) (defScope s_BadNumber___init__) .none kV_BadNumber___init__ dc_BadNumber___init__ pm_BadNumber___init__ an_BadNumber___init__ cd_BadNumber___init__ ct_BadNumber___init__), sl_BadNumber___init__⟩)
    (c_BadNumber___init__ : PySem.W.codeIn K cd_BadNumber___init__ "BadNumber.__init__" = true)
    (k_BadNumber___init__ : PySem.W.keepIn K (.ref f_BadNumber___init__) = true)
    (ty_BadNumber___init__ : PySem.W.typeIn K (.ref f_BadNumber___init__) = some (.type "function"))
    (g_BadPlay : PySem.W.nsIn K mainGlobals "BadPlay" = some (some (.ref C_BadPlay)))
    (ic_BadPlay : PySem.W.isClsIn K C_BadPlay = true)
    (tt_BadPlay : PySem.W.typeIn K (.ref C_BadPlay) = some (.type "type"))
    (xl_BadPlay : K.lookup C_BadPlay = some (excClassObj nm_BadPlay qn_BadPlay C_BadPlay N_BadPlay bs_BadPlay [.ref C_RoundError, .type "ValueError", .type "Exception", .type "BaseException", .type "object"] true sn_BadPlay su_BadPlay ab_BadPlay co_BadPlay dd_BadPlay x0_BadPlay x1_BadPlay x2_BadPlay x3_BadPlay x5_BadPlay "ValueError.__new__"))
    (sa_BadPlay : PySem.W.findIn K (.ref C_BadPlay) "__setattr__" = some (some (.builtin "object.__setattr__")))
    (ga_BadPlay : PySem.W.findIn K (.ref C_BadPlay) "__getattribute__" = some (some (.builtin "BaseException.__getattribute__")))
    (gg_BadPlay : PySem.W.findIn K (.ref C_BadPlay) "__getattr__" = some none)
    (nb_BadPlay : PySem.W.findIn K (.ref C_BadPlay) "value" = some none)
    (kC_BadPlay : PySem.W.keepIn K (.ref C_BadPlay) = true)
    (eC_BadPlay : PySem.W.subIn K (.ref C_BadPlay) (.type "BaseException") = some true)
    (tC_BadPlay : PySem.W.typeIn K (.ref C_BadPlay) = some (.type "type"))
    (hC_BadPlay : PySem.W.hasDictIn K C_BadPlay = true)
    (cc_BadPlay : PySem.W.findIn K (.ref C_BadPlay) "__class__" = some (some (.builtin "object.__class__")))
    (mo_BadPlay : PySem.W.mroIn K C_BadPlay (.type "object") = some true)
    (a_BadPlay___init__ : PySem.W.findIn K (.ref C_BadPlay) "__init__" = some (some (.ref f_BadPlay___init__)))
    (l_BadPlay___init__ : K.lookup f_BadPlay___init__ = some ⟨oc_BadPlay___init__, od_BadPlay___init__, .func (PySem.W.fnOf "__init__" "BadPlay.__init__" (defArgs s_BadPlay___init__) (defBody s_BadPlay___init__) (defScope s_BadPlay___init__) .none kV_BadPlay___init__ dc_BadPlay___init__ pm_BadPlay___init__ an_BadPlay___init__ cd_BadPlay___init__ ct_BadPlay___init__), sl_BadPlay___init__⟩)
    (c_BadPlay___init__ : PySem.W.codeIn K cd_BadPlay___init__ "BadPlay.__init__" = true)
    (k_BadPlay___init__ : PySem.W.keepIn K (.ref f_BadPlay___init__) = true)
    (ty_BadPlay___init__ : PySem.W.typeIn K (.ref f_BadPlay___init__) = some (.type "function"))
    (g_Play : PySem.W.nsIn K mainGlobals "Play" = some (some (.ref C_Play)))
    (ic_Play : PySem.W.isClsIn K C_Play = true)
    (tt_Play : PySem.W.typeIn K (.ref C_Play) = some (.type "type"))
    (pg_Play : PySem.W.plainGet K C_Play Str.empty = true)
    (hd_Play : PySem.W.hasDictIn K C_Play = true)
    (po_Play : PySem.W.plainOver K C_Play = true)
    (sa_Play : PySem.W.findIn K (.ref C_Play) "__setattr__" = some (some (.builtin "object.__setattr__")))
    (kC_Play : PySem.W.keepIn K (.ref C_Play) = true)
    (mk_Play : PySem.W.makesIn K C_Play = true)
    (cc_Play : PySem.W.findIn K (.ref C_Play) "__class__" = some (some (.builtin "object.__class__")))
    (mo_Play : PySem.W.mroIn K C_Play (.type "object") = some true)
    (sf_Play : PySem.W.selfFirst K C_Play = true)
    (ne_Play : PySem.W.findIn K (.ref C_Play) "__ne__" = some (some (.builtin "object.__ne__")))
    (nb_Play_numbers : PySem.W.findIn K (.ref C_Play) "numbers" = some none)
    (nb_Play_outcomes : PySem.W.findIn K (.ref C_Play) "outcomes" = some none)
    (nf_Play_NoneType : PySem.W.subIn K (.type "NoneType") (.ref C_Play) = some false)
    (nf_Play_list : PySem.W.subIn K (.type "list") (.ref C_Play) = some false)
    (nf_Play_tuple : PySem.W.subIn K (.type "tuple") (.ref C_Play) = some false)
    (nf_Play_str : PySem.W.subIn K (.type "str") (.ref C_Play) = some false)
    (nf_Play_int : PySem.W.subIn K (.type "int") (.ref C_Play) = some false)
    (nf_Play_bool : PySem.W.subIn K (.type "bool") (.ref C_Play) = some false)
    (nf_Play_dict : PySem.W.subIn K (.type "dict") (.ref C_Play) = some false)
    (a_Play___init__ : PySem.W.findIn K (.ref C_Play) "__init__" = some (some (.ref f_Play___init__)))
    (l_Play___init__ : K.lookup f_Play___init__ = some ⟨oc_Play___init__, od_Play___init__, .func (PySem.W.fnOf "__init__" "Play.__init__" (defArgs s_Play___init__) (defBody s_Play___init__) (defScope s_Play___init__) (.ref T_Play) kV_Play___init__ dc_Play___init__ pm_Play___init__ an_Play___init__ cd_Play___init__ ct_Play___init__), sl_Play___init__⟩)
    (c_Play___init__ : PySem.W.codeIn K cd_Play___init__ "Play.__init__" = true)
    (k_Play___init__ : PySem.W.keepIn K (.ref f_Play___init__) = true)
    (lT_Play : K.lookup T_Play = some ⟨tc_Play, td_Play, .seq #[.ref d_Play_0, .ref d_Play_1] tn_Play, tl_Play⟩)
    (ld_Play_0 : K.lookup d_Play_0 = some ⟨.type "tuple", dd_Play_0, .seq #[] dn_Play_0, dl_Play_0⟩)
    (ld_Play_1 : K.lookup d_Play_1 = some ⟨.type "tuple", dd_Play_1, .seq #[] dn_Play_1, dl_Play_1⟩)
    (if_Play___init__ : PySem.W.isFn K (.ref f_Play___init__) = true)
    (a_Play___add__ : PySem.W.findIn K (.ref C_Play) "__add__" = some (some (.ref f_Play___add__)))
    (l_Play___add__ : K.lookup f_Play___add__ = some ⟨oc_Play___add__, od_Play___add__, .func (PySem.W.fnOf "__add__" "Play.__add__" (defArgs s_Play___add__) (defBody s_Play___add__) (defScope s_Play___add__) .none kV_Play___add__ dc_Play___add__ pm_Play___add__ an_Play___add__ cd_Play___add__ ct_Play___add__), sl_Play___add__⟩)
    (c_Play___add__ : PySem.W.codeIn K cd_Play___add__ "Play.__add__" = true)
    (k_Play___add__ : PySem.W.keepIn K (.ref f_Play___add__) = true)
    (if_Play___add__ : PySem.W.isFn K (.ref f_Play___add__) = true)
    (fi_Play___add__ : PySem.W.fnIn K f_Play___add__ = true)
    (a_Play___eq__ : PySem.W.findIn K (.ref C_Play) "__eq__" = some (some (.ref f_Play___eq__)))
    (l_Play___eq__ : K.lookup f_Play___eq__ = some ⟨oc_Play___eq__, od_Play___eq__, .func (PySem.W.fnOf "__eq__" "Play.__eq__" (defArgs s_Play___eq__) (defBody s_Play___eq__) (defScope s_Play___eq__) .none kV_Play___eq__ dc_Play___eq__ pm_Play___eq__ an_Play___eq__ cd_Play___eq__ ct_Play___eq__), sl_Play___eq__⟩)
    (c_Play___eq__ : PySem.W.codeIn K cd_Play___eq__ "Play.__eq__" = true)
    (k_Play___eq__ : PySem.W.keepIn K (.ref f_Play___eq__) = true)
    (if_Play___eq__ : PySem.W.isFn K (.ref f_Play___eq__) = true)
    (fi_Play___eq__ : PySem.W.fnIn K f_Play___eq__ = true)
    (g_Cell : PySem.W.nsIn K mainGlobals "Cell" = some (some (.ref C_Cell)))
    (ic_Cell : PySem.W.isClsIn K C_Cell = true)
    (tt_Cell : PySem.W.typeIn K (.ref C_Cell) = some (.type "type"))
    (pg_Cell : PySem.W.plainGet K C_Cell Str.empty = true)
    (hd_Cell : PySem.W.hasDictIn K C_Cell = true)
    (po_Cell : PySem.W.plainOver K C_Cell = true)
    (sa_Cell : PySem.W.findIn K (.ref C_Cell) "__setattr__" = some (some (.builtin "object.__setattr__")))
    (kC_Cell : PySem.W.keepIn K (.ref C_Cell) = true)
    (mk_Cell : PySem.W.makesIn K C_Cell = true)
    (cc_Cell : PySem.W.findIn K (.ref C_Cell) "__class__" = some (some (.builtin "object.__class__")))
    (mo_Cell : PySem.W.mroIn K C_Cell (.type "object") = some true)
    (sf_Cell : PySem.W.selfFirst K C_Cell = true)
    (ne_Cell : PySem.W.findIn K (.ref C_Cell) "__ne__" = some (some (.builtin "object.__ne__")))
    (nb_Cell_held : PySem.W.findIn K (.ref C_Cell) "held" = some none)
    (nf_Cell_NoneType : PySem.W.subIn K (.type "NoneType") (.ref C_Cell) = some false)
    (nf_Cell_list : PySem.W.subIn K (.type "list") (.ref C_Cell) = some false)
    (nf_Cell_tuple : PySem.W.subIn K (.type "tuple") (.ref C_Cell) = some false)
    (nf_Cell_str : PySem.W.subIn K (.type "str") (.ref C_Cell) = some false)
    (nf_Cell_int : PySem.W.subIn K (.type "int") (.ref C_Cell) = some false)
    (nf_Cell_bool : PySem.W.subIn K (.type "bool") (.ref C_Cell) = some false)
    (nf_Cell_dict : PySem.W.subIn K (.type "dict") (.ref C_Cell) = some false)
    (a_Cell___init__ : PySem.W.findIn K (.ref C_Cell) "__init__" = some (some (.ref f_Cell___init__)))
    (l_Cell___init__ : K.lookup f_Cell___init__ = some ⟨oc_Cell___init__, od_Cell___init__, .func (PySem.W.fnOf "__init__" "Cell.__init__" (defArgs s_Cell___init__) (defBody s_Cell___init__) (defScope s_Cell___init__) .none kV_Cell___init__ dc_Cell___init__ pm_Cell___init__ an_Cell___init__ cd_Cell___init__ ct_Cell___init__), sl_Cell___init__⟩)
    (c_Cell___init__ : PySem.W.codeIn K cd_Cell___init__ "Cell.__init__" = true)
    (k_Cell___init__ : PySem.W.keepIn K (.ref f_Cell___init__) = true)
    (if_Cell___init__ : PySem.W.isFn K (.ref f_Cell___init__) = true)
    (a_Cell_content : PySem.W.findIn K (.ref C_Cell) "content" = some (some (.ref p_Cell_content)))
    (pr_Cell_content : PySem.W.recIn K p_Cell_content "property" = some (.ref f_Cell_content :: .ref f_Cell_content_set :: r_Cell_content))
    (l_Cell_content : K.lookup f_Cell_content = some ⟨oc_Cell_content, od_Cell_content, .func (PySem.W.fnOf "content" "Cell.content" (defArgs s_Cell_content) (defBody s_Cell_content) (defScope s_Cell_content) .none kV_Cell_content dc_Cell_content pm_Cell_content an_Cell_content cd_Cell_content ct_Cell_content), sl_Cell_content⟩)
    (c_Cell_content : PySem.W.codeIn K cd_Cell_content "Cell.content" = true)
    (k_Cell_content : PySem.W.keepIn K (.ref f_Cell_content) = true)
    (pt_Cell_content : PySem.W.specialIn K (.ref p_Cell_content) "__get__" = some (some (.builtin "property.__get__")))
    (pk_Cell_content : PySem.W.takesIn K (.ref p_Cell_content) = some true)
    (tk_Cell_content_set : PySem.W.takerIn K C_Cell "content" = some (some (.ref p_Cell_content)))
    (tp_Cell_content_set : PySem.W.typeIn K (.ref p_Cell_content) = some (.type "property"))
    (l_Cell_content_set : K.lookup f_Cell_content_set = some ⟨oc_Cell_content_set, od_Cell_content_set, .func (PySem.W.fnOf "content" "Cell.content" (defArgs s_Cell_content_set) (defBody s_Cell_content_set) (defScope s_Cell_content_set) .none kV_Cell_content_set dc_Cell_content_set pm_Cell_content_set an_Cell_content_set cd_Cell_content_set ct_Cell_content_set), sl_Cell_content_set⟩)
    (c_Cell_content_set : PySem.W.codeIn K cd_Cell_content_set "Cell.content" = true)
    (k_Cell_content_set : PySem.W.keepIn K (.ref f_Cell_content_set) = true)
    (a_Cell_put : PySem.W.findIn K (.ref C_Cell) "put" = some (some (.ref f_Cell_put)))
    (l_Cell_put : K.lookup f_Cell_put = some ⟨oc_Cell_put, od_Cell_put, .func (PySem.W.fnOf "put" "Cell.put" (defArgs s_Cell_put) (defBody s_Cell_put) (defScope s_Cell_put) .none kV_Cell_put dc_Cell_put pm_Cell_put an_Cell_put cd_Cell_put ct_Cell_put), sl_Cell_put⟩)
    (c_Cell_put : PySem.W.codeIn K cd_Cell_put "Cell.put" = true)
    (k_Cell_put : PySem.W.keepIn K (.ref f_Cell_put) = true)
    (if_Cell_put : PySem.W.isFn K (.ref f_Cell_put) = true)
    (fi_Cell_put : PySem.W.fnIn K f_Cell_put = true)
    (a_Cell___iadd__ : PySem.W.findIn K (.ref C_Cell) "__iadd__" = some (some (.ref f_Cell___iadd__)))
    (l_Cell___iadd__ : K.lookup f_Cell___iadd__ = some ⟨oc_Cell___iadd__, od_Cell___iadd__, .func (PySem.W.fnOf "__iadd__" "Cell.__iadd__" (defArgs s_Cell___iadd__) (defBody s_Cell___iadd__) (defScope s_Cell___iadd__) .none kV_Cell___iadd__ dc_Cell___iadd__ pm_Cell___iadd__ an_Cell___iadd__ cd_Cell___iadd__ ct_Cell___iadd__), sl_Cell___iadd__⟩)
    (c_Cell___iadd__ : PySem.W.codeIn K cd_Cell___iadd__ "Cell.__iadd__" = true)
    (k_Cell___iadd__ : PySem.W.keepIn K (.ref f_Cell___iadd__) = true)
    (if_Cell___iadd__ : PySem.W.isFn K (.ref f_Cell___iadd__) = true)
    (fi_Cell___iadd__ : PySem.W.fnIn K f_Cell___iadd__ = true)
    (g_Function : PySem.W.nsIn K mainGlobals "Function" = some (some (.ref C_Function)))
    (ic_Function : PySem.W.isClsIn K C_Function = true)
    (tt_Function : PySem.W.typeIn K (.ref C_Function) = some (.type "type"))
    (pg_Function : PySem.W.plainGet K C_Function Str.empty = true)
    (hd_Function : PySem.W.hasDictIn K C_Function = true)
    (po_Function : PySem.W.plainOver K C_Function = true)
    (sa_Function : PySem.W.findIn K (.ref C_Function) "__setattr__" = some (some (.builtin "object.__setattr__")))
    (kC_Function : PySem.W.keepIn K (.ref C_Function) = true)
    (mk_Function : PySem.W.makesIn K C_Function = true)
    (cc_Function : PySem.W.findIn K (.ref C_Function) "__class__" = some (some (.builtin "object.__class__")))
    (mo_Function : PySem.W.mroIn K C_Function (.type "object") = some true)
    (sf_Function : PySem.W.selfFirst K C_Function = true)
    (ne_Function : PySem.W.findIn K (.ref C_Function) "__ne__" = some (some (.builtin "object.__ne__")))
    (nb_Function_cell : PySem.W.findIn K (.ref C_Function) "cell" = some none)
    (nf_Function_NoneType : PySem.W.subIn K (.type "NoneType") (.ref C_Function) = some false)
    (nf_Function_list : PySem.W.subIn K (.type "list") (.ref C_Function) = some false)
    (nf_Function_tuple : PySem.W.subIn K (.type "tuple") (.ref C_Function) = some false)
    (nf_Function_str : PySem.W.subIn K (.type "str") (.ref C_Function) = some false)
    (nf_Function_int : PySem.W.subIn K (.type "int") (.ref C_Function) = some false)
    (nf_Function_bool : PySem.W.subIn K (.type "bool") (.ref C_Function) = some false)
    (nf_Function_dict : PySem.W.subIn K (.type "dict") (.ref C_Function) = some false)
    (a_Function___init__ : PySem.W.findIn K (.ref C_Function) "__init__" = some (some (.ref f_Function___init__)))
    (l_Function___init__ : K.lookup f_Function___init__ = some ⟨oc_Function___init__, od_Function___init__, .func (PySem.W.fnOf "__init__" "Function.__init__" (defArgs s_Function___init__) (defBody s_Function___init__) (defScope s_Function___init__) .none kV_Function___init__ dc_Function___init__ pm_Function___init__ an_Function___init__ cd_Function___init__ ct_Function___init__), sl_Function___init__⟩)
    (c_Function___init__ : PySem.W.codeIn K cd_Function___init__ "Function.__init__" = true)
    (k_Function___init__ : PySem.W.keepIn K (.ref f_Function___init__) = true)
    (if_Function___init__ : PySem.W.isFn K (.ref f_Function___init__) = true)
    (a_Function___call__ : PySem.W.findIn K (.ref C_Function) "__call__" = some (some (.ref f_Function___call__)))
    (l_Function___call__ : K.lookup f_Function___call__ = some ⟨oc_Function___call__, od_Function___call__, .func (PySem.W.fnOf "__call__" "Function.__call__" (defArgs s_Function___call__) (defBody s_Function___call__) (defScope s_Function___call__) .none kV_Function___call__ dc_Function___call__ pm_Function___call__ an_Function___call__ cd_Function___call__ ct_Function___call__), sl_Function___call__⟩)
    (c_Function___call__ : PySem.W.codeIn K cd_Function___call__ "Function.__call__" = true)
    (k_Function___call__ : PySem.W.keepIn K (.ref f_Function___call__) = true)
    (if_Function___call__ : PySem.W.isFn K (.ref f_Function___call__) = true)
    (fi_Function___call__ : PySem.W.fnIn K f_Function___call__ = true)
    (z_get : PySem.W.specialIn K (.builtin "object.__class__") "__get__" = some (some (.builtin "getset_descriptor.__get__")))
    (z_tak : PySem.W.takesIn K (.builtin "object.__class__") = some true)
    (sx_BadPlay_RoundError : PySem.W.subIn K (.ref C_BadPlay) (.ref C_RoundError) = some true)
    (sx_BadPlay_ValueError : PySem.W.subIn K (.ref C_BadPlay) (.type "ValueError") = some true)
    (sx_BadNumber_RoundError : PySem.W.subIn K (.ref C_BadNumber) (.ref C_RoundError) = some true)
    (xs_BadPlay : PySem.W.subIn K (.ref C_BadPlay) (.ref C_BadPlay) = some true)
    (xs_BadNumber : PySem.W.subIn K (.ref C_BadNumber) (.ref C_BadNumber) = some true)
    (a_is_integer : PySem.W.nsIn K mainGlobals "is_integer" = some (some (.ref f_is_integer)))
    (l_is_integer : K.lookup f_is_integer = some ⟨oc_is_integer, od_is_integer, .func (PySem.W.fnOf "is_integer" "is_integer" (defArgs s_is_integer) (defBody s_is_integer) (defScope s_is_integer) .none kV_is_integer dc_is_integer pm_is_integer an_is_integer cd_is_integer ct_is_integer), sl_is_integer⟩)
    (c_is_integer : PySem.W.codeIn K cd_is_integer "is_integer" = true)
    (k_is_integer : PySem.W.keepIn K (.ref f_is_integer) = true)
    (a__law_pool : PySem.W.nsIn K mainGlobals "_law_pool" = some (some (.ref f__law_pool)))
    (l__law_pool : K.lookup f__law_pool = some ⟨oc__law_pool, od__law_pool, .func (PySem.W.fnOf "_law_pool" "_law_pool" (defArgs s__law_pool) (defBody s__law_pool) (defScope s__law_pool) .none kV__law_pool dc__law_pool pm__law_pool an__law_pool cd__law_pool ct__law_pool), sl__law_pool⟩)
    (c__law_pool : PySem.W.codeIn K cd__law_pool "_law_pool" = true)
    (k__law_pool : PySem.W.keepIn K (.ref f__law_pool) = true)
    (a__law_take : PySem.W.nsIn K mainGlobals "_law_take" = some (some (.ref f__law_take)))
    (l__law_take : K.lookup f__law_take = some ⟨oc__law_take, od__law_take, .func (PySem.W.fnOf "_law_take" "_law_take" (defArgs s__law_take) (defBody s__law_take) (defScope s__law_take) .none kV__law_take dc__law_take pm__law_take an__law_take cd__law_take ct__law_take), sl__law_take⟩)
    (c__law_take : PySem.W.codeIn K cd__law_take "_law_take" = true)
    (k__law_take : PySem.W.keepIn K (.ref f__law_take) = true)
    (a__law_refused : PySem.W.nsIn K mainGlobals "_law_refused" = some (some (.ref f__law_refused)))
    (l__law_refused : K.lookup f__law_refused = some ⟨oc__law_refused, od__law_refused, .func (PySem.W.fnOf "_law_refused" "_law_refused" (defArgs s__law_refused) (defBody s__law_refused) (defScope s__law_refused) .none kV__law_refused dc__law_refused pm__law_refused an__law_refused cd__law_refused ct__law_refused), sl__law_refused⟩)
    (c__law_refused : PySem.W.codeIn K cd__law_refused "_law_refused" = true)
    (k__law_refused : PySem.W.keepIn K (.ref f__law_refused) = true)
    (a__law_added : PySem.W.nsIn K mainGlobals "_law_added" = some (some (.ref f__law_added)))
    (l__law_added : K.lookup f__law_added = some ⟨oc__law_added, od__law_added, .func (PySem.W.fnOf "_law_added" "_law_added" (defArgs s__law_added) (defBody s__law_added) (defScope s__law_added) .none kV__law_added dc__law_added pm__law_added an__law_added cd__law_added ct__law_added), sl__law_added⟩)
    (c__law_added : PySem.W.codeIn K cd__law_added "_law_added" = true)
    (k__law_added : PySem.W.keepIn K (.ref f__law_added) = true)
    (a__law_given : PySem.W.nsIn K mainGlobals "_law_given" = some (some (.ref f__law_given)))
    (l__law_given : K.lookup f__law_given = some ⟨oc__law_given, od__law_given, .func (PySem.W.fnOf "_law_given" "_law_given" (defArgs s__law_given) (defBody s__law_given) (defScope s__law_given) .none kV__law_given dc__law_given pm__law_given an__law_given cd__law_given ct__law_given), sl__law_given⟩)
    (c__law_given : PySem.W.codeIn K cd__law_given "_law_given" = true)
    (k__law_given : PySem.W.keepIn K (.ref f__law_given) = true)
    (a__law_made : PySem.W.nsIn K mainGlobals "_law_made" = some (some (.ref f__law_made)))
    (l__law_made : K.lookup f__law_made = some ⟨oc__law_made, od__law_made, .func (PySem.W.fnOf "_law_made" "_law_made" (defArgs s__law_made) (defBody s__law_made) (defScope s__law_made) .none kV__law_made dc__law_made pm__law_made an__law_made cd__law_made ct__law_made), sl__law_made⟩)
    (c__law_made : PySem.W.codeIn K cd__law_made "_law_made" = true)
    (k__law_made : PySem.W.keepIn K (.ref f__law_made) = true)
    (a__law_plays_right : PySem.W.nsIn K mainGlobals "_law_plays_right" = some (some (.ref f__law_plays_right)))
    (l__law_plays_right : K.lookup f__law_plays_right = some ⟨oc__law_plays_right, od__law_plays_right, .func (PySem.W.fnOf "_law_plays_right" "_law_plays_right" (defArgs s__law_plays_right) (defBody s__law_plays_right) (defScope s__law_plays_right) .none kV__law_plays_right dc__law_plays_right pm__law_plays_right an__law_plays_right cd__law_plays_right ct__law_plays_right), sl__law_plays_right⟩)
    (c__law_plays_right : PySem.W.codeIn K cd__law_plays_right "_law_plays_right" = true)
    (k__law_plays_right : PySem.W.keepIn K (.ref f__law_plays_right) = true)
    (a__law_odd_right : PySem.W.nsIn K mainGlobals "_law_odd_right" = some (some (.ref f__law_odd_right)))
    (l__law_odd_right : K.lookup f__law_odd_right = some ⟨oc__law_odd_right, od__law_odd_right, .func (PySem.W.fnOf "_law_odd_right" "_law_odd_right" (defArgs s__law_odd_right) (defBody s__law_odd_right) (defScope s__law_odd_right) .none kV__law_odd_right dc__law_odd_right pm__law_odd_right an__law_odd_right cd__law_odd_right ct__law_odd_right), sl__law_odd_right⟩)
    (c__law_odd_right : PySem.W.codeIn K cd__law_odd_right "_law_odd_right" = true)
    (k__law_odd_right : PySem.W.keepIn K (.ref f__law_odd_right) = true)
    (a_law : PySem.W.nsIn K mainGlobals "law" = some (some (.ref f_law)))
    (l_law : K.lookup f_law = some ⟨oc_law, od_law, .func (PySem.W.fnOf "law" "law" (defArgs s_law) (defBody s_law) (defScope s_law) .none kV_law dc_law pm_law an_law cd_law ct_law), sl_law⟩)
    (c_law : PySem.W.codeIn K cd_law "law" = true)
    (k_law : PySem.W.keepIn K (.ref f_law) = true) :
    ∃ C_RoundError : Addr, ∃ C_BadNumber : Addr, ∃ C_BadPlay : Addr, ∃ C_Play : Addr, ∃ d_Play_0 : Addr, ∃ d_Play_1 : Addr, ∃ C_Cell : Addr, ∃ C_Function : Addr, Tp K mg C_RoundError C_BadNumber C_BadPlay C_Play d_Play_0 d_Play_1 C_Cell C_Function := by
  exact ⟨C_RoundError, ⟨C_BadNumber, ⟨C_BadPlay, ⟨C_Play, ⟨d_Play_0, ⟨d_Play_1, ⟨C_Cell, ⟨C_Function, {
    m_ValueError := PySem.W.mg_none_of X G z_ValueError,
    m_abs := PySem.W.mg_none_of X G z_abs,
    m_all := PySem.W.mg_none_of X G z_all,
    m_bool := PySem.W.mg_none_of X G z_bool,
    m_int := PySem.W.mg_none_of X G z_int,
    m_isinstance := PySem.W.mg_none_of X G z_isinstance,
    m_len := PySem.W.mg_none_of X G z_len,
    m_list := PySem.W.mg_none_of X G z_list,
    m_max := PySem.W.mg_none_of X G z_max,
    m_min := PySem.W.mg_none_of X G z_min,
    m_range := PySem.W.mg_none_of X G z_range,
    m_repr := PySem.W.mg_none_of X G z_repr,
    m_tuple := PySem.W.mg_none_of X G z_tuple,
    k_RoundError := ⟨_, PySem.W.mg_of X G g_RoundError, rfl⟩,
    k_BadNumber := ⟨_, PySem.W.mg_of X G g_BadNumber, rfl⟩,
    x_BadNumber := fun P w base => (have T0 : OexC K C_BadNumber := ⟨⟨_, _, _, _, _, _, _, _, _, _, _, _, _, _, _, xl_BadNumber, by rfl⟩, sa_BadNumber, eC_BadNumber, tC_BadNumber, kC_BadNumber⟩; ⟨T0, ⟨ga_BadNumber, gg_BadNumber, eC_BadNumber, hC_BadNumber⟩, ⟨ga_BadNumber, gg_BadNumber, eC_BadNumber, hC_BadNumber, cc_BadNumber, z_get, z_tak, mo_BadNumber⟩, nb_BadNumber, PySem.W.mg_of X G g_BadNumber, ⟨_, _, a_BadNumber___init__, ty_BadNumber___init__, ok_ini (fun_mk (st := s_BadNumber___init__) l_BadNumber___init__ c_BadNumber___init__ k_BadNumber___init__) sc_BadNumber___init__ rfl T0 nb_BadNumber (by first | exact Or.inl rfl) (by first | exact Or.inl rfl) (by decide) (by decide), (fun_mk (st := s_BadNumber___init__) l_BadNumber___init__ c_BadNumber___init__ k_BadNumber___init__).binds (ps := ["self", "value"]) fun _ _ _ _ _ _ us hl => match us, hl with | [_, _], _ => rfl⟩⟩),
    k_BadPlay := ⟨_, PySem.W.mg_of X G g_BadPlay, rfl⟩,
    x_BadPlay := fun P w base => (have T0 : OexC K C_BadPlay := ⟨⟨_, _, _, _, _, _, _, _, _, _, _, _, _, _, _, xl_BadPlay, by rfl⟩, sa_BadPlay, eC_BadPlay, tC_BadPlay, kC_BadPlay⟩; ⟨T0, ⟨ga_BadPlay, gg_BadPlay, eC_BadPlay, hC_BadPlay⟩, ⟨ga_BadPlay, gg_BadPlay, eC_BadPlay, hC_BadPlay, cc_BadPlay, z_get, z_tak, mo_BadPlay⟩, nb_BadPlay, PySem.W.mg_of X G g_BadPlay, ⟨_, _, a_BadPlay___init__, ty_BadPlay___init__, ok_ini (fun_mk (st := s_BadPlay___init__) l_BadPlay___init__ c_BadPlay___init__ k_BadPlay___init__) sc_BadPlay___init__ rfl T0 nb_BadPlay (by first | exact Or.inl rfl) (by first | exact Or.inl rfl) (by decide) (by decide), (fun_mk (st := s_BadPlay___init__) l_BadPlay___init__ c_BadPlay___init__ k_BadPlay___init__).binds (ps := ["self", "value"]) fun _ _ _ _ _ _ us hl => match us, hl with | [_, _], _ => rfl⟩⟩),
    k_Play := ⟨_, PySem.W.mg_of X G g_Play, rfl⟩,
    cl_Play := ⟨pg_Play, hd_Play, po_Play, sa_Play⟩,
    n_Play_numbers := nb_Play_numbers,
    n_Play_outcomes := nb_Play_outcomes,
    ty_Play := fun H a dx fs e => .base (.ins e ⟨pg_Play, hd_Play, po_Play, sa_Play⟩ cc_Play z_get z_tak mo_Play),
    sf_Play := sf_Play,
    ne_Play := ne_Play,
    ob_Play := mo_Play,
    nf_Play_NoneType := nf_Play_NoneType,
    kt_Play_NoneType := kit_ownF ic_Play tt_Play nf_Play_NoneType,
    nf_Play_list := nf_Play_list,
    kt_Play_list := kit_ownF ic_Play tt_Play nf_Play_list,
    nf_Play_tuple := nf_Play_tuple,
    kt_Play_tuple := kit_ownF ic_Play tt_Play nf_Play_tuple,
    nf_Play_str := nf_Play_str,
    kt_Play_str := kit_ownF ic_Play tt_Play nf_Play_str,
    nf_Play_int := nf_Play_int,
    kt_Play_int := kit_ownF ic_Play tt_Play nf_Play_int,
    nf_Play_bool := nf_Play_bool,
    kt_Play_bool := kit_ownF ic_Play tt_Play nf_Play_bool,
    nf_Play_dict := nf_Play_dict,
    kt_Play_dict := kit_ownF ic_Play tt_Play nf_Play_dict,
    td_Play_0 := fun _ => Or.inr ⟨_, _, _, ld_Play_0, rfl, rfl, sz (by simp), .nil⟩,
    td_Play_1 := fun _ => Or.inr ⟨_, _, _, ld_Play_1, rfl, rfl, sz (by simp), .nil⟩,
    i_Play := ⟨_, _, ⟨mk_Play, a_Play___init__, if_Play___init__, kC_Play⟩, PySem.W.mg_of X G g_Play, ⟨⟨_, _, _, _, _, _, _, _, _, _, rfl, l_Play___init__, c_Play___init__, Or.inr ⟨by simp, _, _, [_, _], _, rfl, lT_Play, rfl, .cons rfl (.cons rfl (.nil))⟩, Or.inl rfl⟩, k_Play___init__⟩⟩,
    m_Play___add__ := ⟨_, _, ⟨pg_Play, hd_Play, po_Play, sa_Play⟩, ⟨a_Play___add__, if_Play___add__, k_Play___add__⟩, fi_Play___add__, fun_mk (st := s_Play___add__) l_Play___add__ c_Play___add__ k_Play___add__, (fun_mk (st := s_Play___add__) l_Play___add__ c_Play___add__ k_Play___add__).binds (ps := ["self", "other"]) fun _ _ _ _ _ _ us hl => match us, hl with | [_, _], _ => rfl⟩,
    m_Play___eq__ := ⟨_, _, ⟨pg_Play, hd_Play, po_Play, sa_Play⟩, ⟨a_Play___eq__, if_Play___eq__, k_Play___eq__⟩, fi_Play___eq__, fun_mk (st := s_Play___eq__) l_Play___eq__ c_Play___eq__ k_Play___eq__, (fun_mk (st := s_Play___eq__) l_Play___eq__ c_Play___eq__ k_Play___eq__).binds (ps := ["self", "other"]) fun _ _ _ _ _ _ us hl => match us, hl with | [_, _], _ => rfl⟩,
    k_Cell := ⟨_, PySem.W.mg_of X G g_Cell, rfl⟩,
    cl_Cell := ⟨pg_Cell, hd_Cell, po_Cell, sa_Cell⟩,
    n_Cell_held := nb_Cell_held,
    ty_Cell := fun H a dx fs e => .base (.ins e ⟨pg_Cell, hd_Cell, po_Cell, sa_Cell⟩ cc_Cell z_get z_tak mo_Cell),
    sf_Cell := sf_Cell,
    ne_Cell := ne_Cell,
    ob_Cell := mo_Cell,
    nf_Cell_NoneType := nf_Cell_NoneType,
    kt_Cell_NoneType := kit_ownF ic_Cell tt_Cell nf_Cell_NoneType,
    nf_Cell_list := nf_Cell_list,
    kt_Cell_list := kit_ownF ic_Cell tt_Cell nf_Cell_list,
    nf_Cell_tuple := nf_Cell_tuple,
    kt_Cell_tuple := kit_ownF ic_Cell tt_Cell nf_Cell_tuple,
    nf_Cell_str := nf_Cell_str,
    kt_Cell_str := kit_ownF ic_Cell tt_Cell nf_Cell_str,
    nf_Cell_int := nf_Cell_int,
    kt_Cell_int := kit_ownF ic_Cell tt_Cell nf_Cell_int,
    nf_Cell_bool := nf_Cell_bool,
    kt_Cell_bool := kit_ownF ic_Cell tt_Cell nf_Cell_bool,
    nf_Cell_dict := nf_Cell_dict,
    kt_Cell_dict := kit_ownF ic_Cell tt_Cell nf_Cell_dict,
    i_Cell := ⟨_, _, ⟨mk_Cell, a_Cell___init__, if_Cell___init__, kC_Cell⟩, PySem.W.mg_of X G g_Cell, ⟨⟨_, _, _, _, _, _, _, _, _, _, rfl, l_Cell___init__, c_Cell___init__, Or.inl ⟨rfl, rfl⟩, Or.inl rfl⟩, k_Cell___init__⟩⟩,
    p_Cell_content := ⟨_, _, _, ⟨pg_Cell, hd_Cell, po_Cell, sa_Cell⟩, ⟨a_Cell_content, pt_Cell_content, pk_Cell_content, _, pr_Cell_content⟩, fun_mk (st := s_Cell_content) l_Cell_content c_Cell_content k_Cell_content, (fun_mk (st := s_Cell_content) l_Cell_content c_Cell_content k_Cell_content).binds (ps := ["self"]) fun _ _ _ _ _ _ us hl => match us, hl with | [_], _ => rfl⟩,
    p_Cell_content_set := ⟨_, _, _, _, _, ⟨pg_Cell, hd_Cell, po_Cell, sa_Cell⟩, tk_Cell_content_set, tp_Cell_content_set, pr_Cell_content, fun_mk (st := s_Cell_content_set) l_Cell_content_set c_Cell_content_set k_Cell_content_set, (fun_mk (st := s_Cell_content_set) l_Cell_content_set c_Cell_content_set k_Cell_content_set).binds (ps := ["self", "value"]) fun _ _ _ _ _ _ us hl => match us, hl with | [_, _], _ => rfl⟩,
    m_Cell_put := ⟨_, _, ⟨pg_Cell, hd_Cell, po_Cell, sa_Cell⟩, ⟨a_Cell_put, if_Cell_put, k_Cell_put⟩, fi_Cell_put, fun_mk (st := s_Cell_put) l_Cell_put c_Cell_put k_Cell_put, (fun_mk (st := s_Cell_put) l_Cell_put c_Cell_put k_Cell_put).binds (ps := ["self", "value"]) fun _ _ _ _ _ _ us hl => match us, hl with | [_, _], _ => rfl⟩,
    m_Cell___iadd__ := ⟨_, _, ⟨pg_Cell, hd_Cell, po_Cell, sa_Cell⟩, ⟨a_Cell___iadd__, if_Cell___iadd__, k_Cell___iadd__⟩, fi_Cell___iadd__, fun_mk (st := s_Cell___iadd__) l_Cell___iadd__ c_Cell___iadd__ k_Cell___iadd__, (fun_mk (st := s_Cell___iadd__) l_Cell___iadd__ c_Cell___iadd__ k_Cell___iadd__).binds (ps := ["self", "value"]) fun _ _ _ _ _ _ us hl => match us, hl with | [_, _], _ => rfl⟩,
    k_Function := ⟨_, PySem.W.mg_of X G g_Function, rfl⟩,
    cl_Function := ⟨pg_Function, hd_Function, po_Function, sa_Function⟩,
    n_Function_cell := nb_Function_cell,
    ty_Function := fun H a dx fs e => .base (.ins e ⟨pg_Function, hd_Function, po_Function, sa_Function⟩ cc_Function z_get z_tak mo_Function),
    sf_Function := sf_Function,
    ne_Function := ne_Function,
    ob_Function := mo_Function,
    nf_Function_NoneType := nf_Function_NoneType,
    kt_Function_NoneType := kit_ownF ic_Function tt_Function nf_Function_NoneType,
    nf_Function_list := nf_Function_list,
    kt_Function_list := kit_ownF ic_Function tt_Function nf_Function_list,
    nf_Function_tuple := nf_Function_tuple,
    kt_Function_tuple := kit_ownF ic_Function tt_Function nf_Function_tuple,
    nf_Function_str := nf_Function_str,
    kt_Function_str := kit_ownF ic_Function tt_Function nf_Function_str,
    nf_Function_int := nf_Function_int,
    kt_Function_int := kit_ownF ic_Function tt_Function nf_Function_int,
    nf_Function_bool := nf_Function_bool,
    kt_Function_bool := kit_ownF ic_Function tt_Function nf_Function_bool,
    nf_Function_dict := nf_Function_dict,
    kt_Function_dict := kit_ownF ic_Function tt_Function nf_Function_dict,
    i_Function := ⟨_, _, ⟨mk_Function, a_Function___init__, if_Function___init__, kC_Function⟩, PySem.W.mg_of X G g_Function, ⟨⟨_, _, _, _, _, _, _, _, _, _, rfl, l_Function___init__, c_Function___init__, Or.inl ⟨rfl, rfl⟩, Or.inl rfl⟩, k_Function___init__⟩⟩,
    m_Function___call__ := ⟨_, _, ⟨pg_Function, hd_Function, po_Function, sa_Function⟩, ⟨a_Function___call__, if_Function___call__, k_Function___call__⟩, fi_Function___call__, fun_mk (st := s_Function___call__) l_Function___call__ c_Function___call__ k_Function___call__, (fun_mk (st := s_Function___call__) l_Function___call__ c_Function___call__ k_Function___call__).binds (ps := ["self"]) fun _ _ _ _ _ _ us hl => match us, hl with | [_], _ => rfl⟩,
    kx_BadPlay_RoundError := kit_ownT ic_RoundError tt_RoundError sx_BadPlay_RoundError,
    kx_BadPlay_ValueError := kit_blt (by decide +kernel) sx_BadPlay_ValueError,
    kx_BadNumber_RoundError := kit_ownT ic_RoundError tt_RoundError sx_BadNumber_RoundError,
    xm_BadPlay := PySem.W.exm_ref eC_BadPlay hC_BadPlay tt_BadPlay xs_BadPlay,
    xm_BadNumber := PySem.W.exm_ref eC_BadNumber hC_BadNumber tt_BadNumber xs_BadNumber,
    d_is_integer := ⟨_, _, fun_mk (st := s_is_integer) l_is_integer c_is_integer k_is_integer, PySem.W.mg_of X G a_is_integer, (fun_mk (st := s_is_integer) l_is_integer c_is_integer k_is_integer).binds (ps := ["value"]) fun _ _ _ _ _ _ us hl => match us, hl with | [_], _ => rfl⟩,
    d__law_pool := ⟨_, _, fun_mk (st := s__law_pool) l__law_pool c__law_pool k__law_pool, PySem.W.mg_of X G a__law_pool, (fun_mk (st := s__law_pool) l__law_pool c__law_pool k__law_pool).binds (ps := ["_law_script", "_law_k"]) fun _ _ _ _ _ _ us hl => match us, hl with | [_, _], _ => rfl⟩,
    d__law_take := ⟨_, _, fun_mk (st := s__law_take) l__law_take c__law_take k__law_take, PySem.W.mg_of X G a__law_take, (fun_mk (st := s__law_take) l__law_take c__law_take k__law_take).binds (ps := ["_law_pool_here", "_law_many"]) fun _ _ _ _ _ _ us hl => match us, hl with | [_, _], _ => rfl⟩,
    d__law_refused := ⟨_, _, fun_mk (st := s__law_refused) l__law_refused c__law_refused k__law_refused, PySem.W.mg_of X G a__law_refused, (fun_mk (st := s__law_refused) l__law_refused c__law_refused k__law_refused).binds (ps := ["_law_numbers", "_law_outcomes"]) fun _ _ _ _ _ _ us hl => match us, hl with | [_, _], _ => rfl⟩,
    d__law_added := ⟨_, _, fun_mk (st := s__law_added) l__law_added c__law_added k__law_added, PySem.W.mg_of X G a__law_added, (fun_mk (st := s__law_added) l__law_added c__law_added k__law_added).binds (ps := ["_law_cell", "_law_value"]) fun _ _ _ _ _ _ us hl => match us, hl with | [_, _], _ => rfl⟩,
    d__law_given := ⟨_, _, fun_mk (st := s__law_given) l__law_given c__law_given k__law_given, PySem.W.mg_of X G a__law_given, (fun_mk (st := s__law_given) l__law_given c__law_given k__law_given).binds (ps := ["_law_cell", "_law_value"]) fun _ _ _ _ _ _ us hl => match us, hl with | [_, _], _ => rfl⟩,
    d__law_made := ⟨_, _, fun_mk (st := s__law_made) l__law_made c__law_made k__law_made, PySem.W.mg_of X G a__law_made, (fun_mk (st := s__law_made) l__law_made c__law_made k__law_made).binds (ps := ["_law_value"]) fun _ _ _ _ _ _ us hl => match us, hl with | [_], _ => rfl⟩,
    d__law_plays_right := ⟨_, _, fun_mk (st := s__law_plays_right) l__law_plays_right c__law_plays_right k__law_plays_right, PySem.W.mg_of X G a__law_plays_right, (fun_mk (st := s__law_plays_right) l__law_plays_right c__law_plays_right k__law_plays_right).binds (ps := ["_law_pool_here"]) fun _ _ _ _ _ _ us hl => match us, hl with | [_], _ => rfl⟩,
    d__law_odd_right := ⟨_, _, fun_mk (st := s__law_odd_right) l__law_odd_right c__law_odd_right k__law_odd_right, PySem.W.mg_of X G a__law_odd_right, (fun_mk (st := s__law_odd_right) l__law_odd_right c__law_odd_right k__law_odd_right).binds (ps := ["_law_pool_here"]) fun _ _ _ _ _ _ us hl => match us, hl with | [_], _ => rfl⟩,
    d_law := ⟨_, _, fun_mk (st := s_law) l_law c_law k_law, PySem.W.mg_of X G a_law, (fun_mk (st := s_law) l_law c_law k_law).binds (ps := ["_law_script"]) fun _ _ _ _ _ _ us hl => match us, hl with | [_], _ => rfl⟩ }⟩⟩⟩⟩⟩⟩⟩⟩
end
end K
open PySem PySem.W PyProof.Rows
set_option maxHeartbeats 0 in
theorem PySem.Challenge.cw_roundrules_k23_plays_and_cells_holds : PySem.Challenge.rw_roundrules_k23_plays_and_cells.Holds := by
  w_on; o_law; k_head; (case hw => w_witness2)
  k_fill
  refine G.walk_ofG (l := PySem.Challenge.rw_roundrules_k23_plays_and_cells) (n := 63) (k := 9) (g := true) (x := "_law_script") (sp := K.spLaw) rfl (by decide) rfl ⟨rfl, by decide, by decide⟩ (fun w h Y => PySem.W.kIn_of Y) ?F (fun _ _ a ns hl _ hS => ⟨a, ns, rfl, hS, hl, fun _ => rfl⟩)
  case F =>
    intro w mg fa h KX G hmg
    refine' K.law_mk hmg (K.all_mk KX G hmg ?z_ValueError ?z_abs ?z_all ?z_bool ?z_int ?z_isinstance ?z_len ?z_list ?z_max ?z_min ?z_range ?z_repr ?z_tuple ?g_RoundError ?ic_RoundError ?tt_RoundError ?g_BadNumber ?ic_BadNumber ?tt_BadNumber ?xl_BadNumber ?sa_BadNumber ?ga_BadNumber ?gg_BadNumber ?nb_BadNumber ?kC_BadNumber ?eC_BadNumber ?tC_BadNumber ?hC_BadNumber ?cc_BadNumber ?mo_BadNumber ?a_BadNumber___init__ ?l_BadNumber___init__ ?c_BadNumber___init__ ?k_BadNumber___init__ ?ty_BadNumber___init__ ?g_BadPlay ?ic_BadPlay ?tt_BadPlay ?xl_BadPlay ?sa_BadPlay ?ga_BadPlay ?gg_BadPlay ?nb_BadPlay ?kC_BadPlay ?eC_BadPlay ?tC_BadPlay ?hC_BadPlay ?cc_BadPlay ?mo_BadPlay ?a_BadPlay___init__ ?l_BadPlay___init__ ?c_BadPlay___init__ ?k_BadPlay___init__ ?ty_BadPlay___init__ ?g_Play ?ic_Play ?tt_Play ?pg_Play ?hd_Play ?po_Play ?sa_Play ?kC_Play ?mk_Play ?cc_Play ?mo_Play ?sf_Play ?ne_Play ?nb_Play_numbers ?nb_Play_outcomes ?nf_Play_NoneType ?nf_Play_list ?nf_Play_tuple ?nf_Play_str ?nf_Play_int ?nf_Play_bool ?nf_Play_dict ?a_Play___init__ ?l_Play___init__ ?c_Play___init__ ?k_Play___init__ ?lT_Play ?ld_Play_0 ?ld_Play_1 ?if_Play___init__ ?a_Play___add__ ?l_Play___add__ ?c_Play___add__ ?k_Play___add__ ?if_Play___add__ ?fi_Play___add__ ?a_Play___eq__ ?l_Play___eq__ ?c_Play___eq__ ?k_Play___eq__ ?if_Play___eq__ ?fi_Play___eq__ ?g_Cell ?ic_Cell ?tt_Cell ?pg_Cell ?hd_Cell ?po_Cell ?sa_Cell ?kC_Cell ?mk_Cell ?cc_Cell ?mo_Cell ?sf_Cell ?ne_Cell ?nb_Cell_held ?nf_Cell_NoneType ?nf_Cell_list ?nf_Cell_tuple ?nf_Cell_str ?nf_Cell_int ?nf_Cell_bool ?nf_Cell_dict ?a_Cell___init__ ?l_Cell___init__ ?c_Cell___init__ ?k_Cell___init__ ?if_Cell___init__ ?a_Cell_content ?pr_Cell_content ?l_Cell_content ?c_Cell_content ?k_Cell_content ?pt_Cell_content ?pk_Cell_content ?tk_Cell_content_set ?tp_Cell_content_set ?l_Cell_content_set ?c_Cell_content_set ?k_Cell_content_set ?a_Cell_put ?l_Cell_put ?c_Cell_put ?k_Cell_put ?if_Cell_put ?fi_Cell_put ?a_Cell___iadd__ ?l_Cell___iadd__ ?c_Cell___iadd__ ?k_Cell___iadd__ ?if_Cell___iadd__ ?fi_Cell___iadd__ ?g_Function ?ic_Function ?tt_Function ?pg_Function ?hd_Function ?po_Function ?sa_Function ?kC_Function ?mk_Function ?cc_Function ?mo_Function ?sf_Function ?ne_Function ?nb_Function_cell ?nf_Function_NoneType ?nf_Function_list ?nf_Function_tuple ?nf_Function_str ?nf_Function_int ?nf_Function_bool ?nf_Function_dict ?a_Function___init__ ?l_Function___init__ ?c_Function___init__ ?k_Function___init__ ?if_Function___init__ ?a_Function___call__ ?l_Function___call__ ?c_Function___call__ ?k_Function___call__ ?if_Function___call__ ?fi_Function___call__ ?z_get ?z_tak ?sx_BadPlay_RoundError ?sx_BadPlay_ValueError ?sx_BadNumber_RoundError ?xs_BadPlay ?xs_BadNumber ?a_is_integer ?l_is_integer ?c_is_integer ?k_is_integer ?a__law_pool ?l__law_pool ?c__law_pool ?k__law_pool ?a__law_take ?l__law_take ?c__law_take ?k__law_take ?a__law_refused ?l__law_refused ?c__law_refused ?k__law_refused ?a__law_added ?l__law_added ?c__law_added ?k__law_added ?a__law_given ?l__law_given ?c__law_given ?k__law_given ?a__law_made ?l__law_made ?c__law_made ?k__law_made ?a__law_plays_right ?l__law_plays_right ?c__law_plays_right ?k__law_plays_right ?a__law_odd_right ?l__law_odd_right ?c__law_odd_right ?k__law_odd_right ?a_law ?l_law ?c_law ?k_law)
    (case z_ValueError => k_is); (case z_abs => k_is); (case z_all => k_is); (case z_bool => k_is); (case z_int => k_is); (case z_isinstance => k_is); (case z_len => k_is); (case z_list => k_is); (case z_max => k_is); (case z_min => k_is); (case z_range => k_is); (case z_repr => k_is); (case z_tuple => k_is); (case g_RoundError => k_is); (case ic_RoundError => k_is); (case tt_RoundError => k_is); (case g_BadNumber => k_is); (case ic_BadNumber => k_is); (case tt_BadNumber => k_is); (case xl_BadNumber => k_is); (case sa_BadNumber => k_is); (case ga_BadNumber => k_is); (case gg_BadNumber => k_is); (case nb_BadNumber => k_is); (case kC_BadNumber => k_is); (case eC_BadNumber => k_is); (case tC_BadNumber => k_is); (case hC_BadNumber => k_is); (case cc_BadNumber => k_is); (case mo_BadNumber => k_is); (case a_BadNumber___init__ => k_is); (case l_BadNumber___init__ => k_is); (case c_BadNumber___init__ => k_is); (case k_BadNumber___init__ => k_is); (case ty_BadNumber___init__ => k_is); (case g_BadPlay => k_is); (case ic_BadPlay => k_is); (case tt_BadPlay => k_is); (case xl_BadPlay => k_is); (case sa_BadPlay => k_is); (case ga_BadPlay => k_is); (case gg_BadPlay => k_is); (case nb_BadPlay => k_is); (case kC_BadPlay => k_is); (case eC_BadPlay => k_is); (case tC_BadPlay => k_is); (case hC_BadPlay => k_is); (case cc_BadPlay => k_is); (case mo_BadPlay => k_is); (case a_BadPlay___init__ => k_is); (case l_BadPlay___init__ => k_is); (case c_BadPlay___init__ => k_is); (case k_BadPlay___init__ => k_is); (case ty_BadPlay___init__ => k_is); (case g_Play => k_is); (case ic_Play => k_is); (case tt_Play => k_is); (case pg_Play => k_is); (case hd_Play => k_is); (case po_Play => k_is); (case sa_Play => k_is); (case kC_Play => k_is); (case mk_Play => k_is); (case cc_Play => k_is); (case mo_Play => k_is); (case sf_Play => k_is); (case ne_Play => k_is); (case nb_Play_numbers => k_is); (case nb_Play_outcomes => k_is); (case nf_Play_NoneType => k_is); (case nf_Play_list => k_is); (case nf_Play_tuple => k_is); (case nf_Play_str => k_is); (case nf_Play_int => k_is); (case nf_Play_bool => k_is); (case nf_Play_dict => k_is); (case a_Play___init__ => k_is); (case l_Play___init__ => k_is); (case c_Play___init__ => k_is); (case k_Play___init__ => k_is); (case lT_Play => k_is); (case ld_Play_0 => k_is); (case ld_Play_1 => k_is); (case if_Play___init__ => k_is); (case a_Play___add__ => k_is); (case l_Play___add__ => k_is); (case c_Play___add__ => k_is); (case k_Play___add__ => k_is); (case if_Play___add__ => k_is); (case fi_Play___add__ => k_is); (case a_Play___eq__ => k_is); (case l_Play___eq__ => k_is); (case c_Play___eq__ => k_is); (case k_Play___eq__ => k_is); (case if_Play___eq__ => k_is); (case fi_Play___eq__ => k_is); (case g_Cell => k_is); (case ic_Cell => k_is); (case tt_Cell => k_is); (case pg_Cell => k_is); (case hd_Cell => k_is); (case po_Cell => k_is); (case sa_Cell => k_is); (case kC_Cell => k_is); (case mk_Cell => k_is); (case cc_Cell => k_is); (case mo_Cell => k_is); (case sf_Cell => k_is); (case ne_Cell => k_is); (case nb_Cell_held => k_is); (case nf_Cell_NoneType => k_is); (case nf_Cell_list => k_is); (case nf_Cell_tuple => k_is); (case nf_Cell_str => k_is); (case nf_Cell_int => k_is); (case nf_Cell_bool => k_is); (case nf_Cell_dict => k_is); (case a_Cell___init__ => k_is); (case l_Cell___init__ => k_is); (case c_Cell___init__ => k_is); (case k_Cell___init__ => k_is); (case if_Cell___init__ => k_is); (case a_Cell_content => k_is); (case pr_Cell_content => k_is); (case l_Cell_content => k_is); (case c_Cell_content => k_is); (case k_Cell_content => k_is); (case pt_Cell_content => k_is); (case pk_Cell_content => k_is); (case tk_Cell_content_set => k_is); (case tp_Cell_content_set => k_is); (case l_Cell_content_set => k_is); (case c_Cell_content_set => k_is); (case k_Cell_content_set => k_is); (case a_Cell_put => k_is); (case l_Cell_put => k_is); (case c_Cell_put => k_is); (case k_Cell_put => k_is); (case if_Cell_put => k_is); (case fi_Cell_put => k_is); (case a_Cell___iadd__ => k_is); (case l_Cell___iadd__ => k_is); (case c_Cell___iadd__ => k_is); (case k_Cell___iadd__ => k_is); (case if_Cell___iadd__ => k_is); (case fi_Cell___iadd__ => k_is); (case g_Function => k_is); (case ic_Function => k_is); (case tt_Function => k_is); (case pg_Function => k_is); (case hd_Function => k_is); (case po_Function => k_is); (case sa_Function => k_is); (case kC_Function => k_is); (case mk_Function => k_is); (case cc_Function => k_is); (case mo_Function => k_is); (case sf_Function => k_is); (case ne_Function => k_is); (case nb_Function_cell => k_is); (case nf_Function_NoneType => k_is); (case nf_Function_list => k_is); (case nf_Function_tuple => k_is); (case nf_Function_str => k_is); (case nf_Function_int => k_is); (case nf_Function_bool => k_is); (case nf_Function_dict => k_is); (case a_Function___init__ => k_is); (case l_Function___init__ => k_is); (case c_Function___init__ => k_is); (case k_Function___init__ => k_is); (case if_Function___init__ => k_is); (case a_Function___call__ => k_is); (case l_Function___call__ => k_is); (case c_Function___call__ => k_is); (case k_Function___call__ => k_is); (case if_Function___call__ => k_is); (case fi_Function___call__ => k_is); (case z_get => k_is); (case z_tak => k_is); (case sx_BadPlay_RoundError => k_is); (case sx_BadPlay_ValueError => k_is); (case sx_BadNumber_RoundError => k_is); (case xs_BadPlay => k_is); (case xs_BadNumber => k_is); (case a_is_integer => k_is); (case l_is_integer => k_is); (case c_is_integer => k_is); (case k_is_integer => k_is); (case a__law_pool => k_is); (case l__law_pool => k_is); (case c__law_pool => k_is); (case k__law_pool => k_is); (case a__law_take => k_is); (case l__law_take => k_is); (case c__law_take => k_is); (case k__law_take => k_is); (case a__law_refused => k_is); (case l__law_refused => k_is); (case c__law_refused => k_is); (case k__law_refused => k_is); (case a__law_added => k_is); (case l__law_added => k_is); (case c__law_added => k_is); (case k__law_added => k_is); (case a__law_given => k_is); (case l__law_given => k_is); (case c__law_given => k_is); (case k__law_given => k_is); (case a__law_made => k_is); (case l__law_made => k_is); (case c__law_made => k_is); (case k__law_made => k_is); (case a__law_plays_right => k_is); (case l__law_plays_right => k_is); (case c__law_plays_right => k_is); (case k__law_plays_right => k_is); (case a__law_odd_right => k_is); (case l__law_odd_right => k_is); (case c__law_odd_right => k_is); (case k__law_odd_right => k_is); (case a_law => k_is); (case l_law => k_is); (case c_law => k_is); (case k_law => k_is)
