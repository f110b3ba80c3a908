import PyProof.Rows.All
import Wide.All
import OpenK.AllK
import Wide.FinOn
import HandS.ForMost
import HandS.IsInst
import HandS.StrMore
import HandS.Style
import HandS.Deep
import HandS.Wide
import HandS.TupAny
import PySem.Challenge.RW_roundrules_k10_names_and_integers
set_option Elab.async false
set_option linter.all false
set_option maxRecDepth 100000
namespace G
open PySem PySem.Spec PyProof.Rows L2
theorem sz {n : Nat} (h : n ≤ 100000) : n ≤ sizeLine := Nat.le_trans h (by decide)
theorem szl {n : Nat} (h : n < 100000) : n < sizeLine := Nat.lt_of_lt_of_le h (by decide)
section
variable {X : Cx}
/-! ### rules that leave the kind open -/
def rAdd (K : PySem.W.Frag) : R2 := fun x y H Q => match x, y with
  | .int i, .int j => Q (.int (i + j)) H
  | .str i, .str j => i.length + j.length ≤ sizeLine ∧ Q (.str (i ++ j)) H
  | .ref a, .ref b => rCat (.ref a) (.ref b) H Q ∨ rCatA K (.ref a) (.ref b) H Q
  | _, _ => False
theorem gAdd : OpR X (binaryOp .Add) (rAdd X.K) := by
  intro pins s σ H x y v u Q I rx ry h
  cases x <;> cases y <;> first
    | exact h.elim
    | exact op_add pins s σ H _ _ v u Q I rx ry ⟨_, _, rfl, rfl, h⟩
    | exact op_add_str pins s σ H _ _ v u Q I rx ry ⟨_, _, rfl, rfl, h.1, h.2⟩
    | exact op_cat.or op_catA pins s σ H _ _ v u Q I rx ry h
def rSub : R2 := fun x y H Q => match x, y with
  | .int i, .int j => Q (.int (i - j)) H
  | _, _ => False
theorem gSub' : OpR X (binaryOp .Sub) rSub := by
  intro pins s σ H x y v u Q I rx ry h
  cases x <;> cases y <;> first
    | exact h.elim
    | exact op_sub pins s σ H _ _ v u Q I rx ry ⟨_, _, rfl, rfl, h⟩
def rMul : R2 := fun x y H Q => match x, y with
  | .int i, .int j => (CMul i j ∨ CMulW i j) ∧ Q (.int (i * j)) H
  | _, _ => False
theorem gMul : OpR X (binaryOp .Mult) rMul := by
  intro pins s σ H x y v u Q I rx ry h
  cases x <;> cases y <;> first
    | exact h.elim
    | (rcases h with ⟨h | h, q⟩
       · exact op_mul pins s σ H _ _ v u Q I rx ry ⟨_, _, rfl, rfl, h, q⟩
       · exact op_mulW pins s σ H _ _ v u Q I rx ry ⟨_, _, rfl, rfl, h, q⟩)
def rDiv : R2 := fun x y H Q => match x, y with
  | .int i, .int j => CDivW i j ∧ Q (.int (i / j)) H
  | _, _ => False
theorem gDiv : OpR X (binaryOp .FloorDiv) rDiv := by
  intro pins s σ H x y v u Q I rx ry h
  cases x <;> cases y <;> first
    | exact h.elim
    | exact op_fdivW pins s σ H _ _ v u Q I rx ry ⟨_, _, rfl, rfl, h.1, h.2⟩
def rMod : R2 := fun x y H Q => match x, y with
  | .int i, .int j => 0 < j ∧ Q (.int (i % j)) H
  | _, _ => False
theorem gMod : OpR X (binaryOp .Mod) rMod := by
  intro pins s σ H x y v u Q I rx ry h
  cases x <;> cases y <;> first
    | exact h.elim
    | exact op_mod pins s σ H _ _ v u Q I rx ry ⟨_, _, rfl, rfl, h.1, h.2⟩
def rPow : R2 := fun x y H Q => match x, y with
  | .int i, .int j => CPow i j ∧ Q (.int (i ^ j.toNat)) H
  | _, _ => False
theorem gPow : OpR X (binaryOp .Pow) rPow := by
  intro pins s σ H x y v u Q I rx ry h
  cases x <;> cases y <;> first
    | exact h.elim
    | exact op_pow pins s σ H _ _ v u Q I rx ry ⟨_, _, rfl, rfl, h.1, h.2⟩
def rCmp (g : Int → Int → Bool) : R2 := fun x y H Q => match x, y with
  | .int i, .int j => Q (.bl (g i j)) H
  | _, _ => False
theorem cmp_of {f : Value → Value → Sem Value} {g : Int → Int → Bool} (ho : OpR X f (rI0 fun i j => .bl (g i j))) : OpR X f (rCmp g) := by
  intro pins s σ H x y v u Q I rx ry h
  cases x <;> cases y <;> first
    | exact h.elim
    | exact ho pins s σ H _ _ v u Q I rx ry ⟨_, _, rfl, rfl, h⟩
theorem gLt : OpR X (compareOp .Lt) (rCmp fun i j => decide (i < j)) := cmp_of op_lt
theorem gLe : OpR X (compareOp .LtE) (rCmp fun i j => decide (i ≤ j)) := cmp_of op_le
theorem gGt : OpR X (compareOp .Gt) (rCmp fun i j => decide (j < i)) := cmp_of op_gt
theorem gGe : OpR X (compareOp .GtE) (rCmp fun i j => decide (j ≤ i)) := cmp_of op_ge
def rEqA (K : PySem.W.Frag) : R2 := fun x y H Q => rEq x y H Q ∨ rEqD K x y H Q
def rNeA (K : PySem.W.Frag) : R2 := fun x y H Q => rNe x y H Q ∨ rNeD K x y H Q
theorem gEq {k : Nat} (hr : Room k X.A) : OpR X (compareOp .Eq) (rEqA X.K) := op_eq.or (op_eqD hr.units)
theorem gNe {k : Nat} (hr : Room k X.A) : OpR X (compareOp .NotEq) (rNeA X.K) := op_ne.or (op_neD hr.units)
def rIsA : R2 := fun x y H Q => (y = .non ∧ Q (.bl (decide (x = .non))) H) ∨ rIsB x y H Q
def rIsNotA : R2 := fun x y H Q => (y = .non ∧ Q (.bl (!decide (x = .non))) H) ∨ rNotB x y H Q
theorem gIs : OpR X (compareOp .Is) rIsA := op_isN.or op_isBl
theorem gIsNot : OpR X (compareOp .IsNot) rIsNotA := op_notN.or op_notBl
def rInA (K : PySem.W.Frag) : R2 := fun x y H Q => (∃ (c : Nat) (z : Str), x = .str ⟨#[c]⟩ ∧ y = .str z ∧ Q (.bl (decide (c ∈ z.cps.toList))) H) ∨ rIn K false x y H Q ∨ rInD K x y H Q
def rNotInA (K : PySem.W.Frag) : R2 := fun x y H Q => (∃ (c : Nat) (z : Str), x = .str ⟨#[c]⟩ ∧ y = .str z ∧ Q (.bl (!decide (c ∈ z.cps.toList))) H) ∨ rIn K true x y H Q ∨ rNotInD K x y H Q
theorem u65 {k : Nat} {A : Around} (hr : Room k A) : A.units + 65 < cLine := by
  have := hr.un
  omega
theorem gIn {k : Nat} (hr : Room k X.A) : OpR X (compareOp .In) (rInA X.K) := op_in_sign.or (op_in_seq.or (op_inD (u65 hr)))
theorem gNotIn {k : Nat} (hr : Room k X.A) : OpR X (compareOp .NotIn) (rNotInA X.K) := op_notIn_sign.or (op_notIn_seq.or (op_notInD (u65 hr)))
def rSlG (K : PySem.W.Frag) : V → Option Int → Option Int → Hp → VK → Prop := fun x lo hi H Q => match x with
  | .str z => z.length ≤ sizeLine ∧ Q (.str (cutS z lo hi)) H
  | .ref a => rSlL K (.ref a) lo hi H Q ∨ rSlA K (.ref a) lo hi H Q
  | _ => False
theorem gSl : SlR X (rSlG X.K) := by
  intro pins s σ H x v vl vu lo hi sl Q I rx hs pl pu h
  cases x <;> first
    | exact h.elim
    | exact sl_str pins s σ H _ v vl vu lo hi sl Q I rx hs pl pu ⟨_, rfl, h.1, h.2⟩
    | exact sl_list.or sl_tupA pins s σ H _ v vl vu lo hi sl Q I rx hs pl pu h
theorem CallR.or {f : Value} {r r' : List V → Hp → VK → Prop} (h : CallR X f r) (h' : CallR X f r') : CallR X f (fun xs H Q => r xs H Q ∨ r' xs H Q) := by
  intro pins s σ H xs us Q I rv q
  rcases q with q | q
  · exact h pins s σ H xs us Q I rv q
  · exact h' pins s σ H xs us Q I rv q
def rLen (K : PySem.W.Frag) : List V → Hp → VK → Prop := fun xs H Q => match xs with
  | [.str y] => y.length ≤ sizeLine ∧ Q (.int y.length) H
  | [.ref p] => ∃ xs, (SqL K H p xs ∨ SqT K H p xs) ∧ Q (.int xs.length) H
  | _ => False
theorem gLen : CallR X (.builtin "len") (rLen X.K) := by
  intro pins s σ H xs us Q I rv h
  match xs, rv, h with
  | [.str y], rv, h => exact call_len pins s σ H _ us Q I rv ⟨_, _, rfl, ⟨h.1, rfl⟩, h.2⟩
  | [.ref p], rv, h =>
    obtain ⟨xs, h1 | h1, q⟩ := h
    · exact call_len pins s σ H _ us Q I rv ⟨_, _, rfl, .inl ⟨_, h1, rfl⟩, q⟩
    · exact call_len pins s σ H _ us Q I rv ⟨_, _, rfl, .inr ⟨_, h1, rfl⟩, q⟩
def rIsiA (K : PySem.W.Frag) : List V → Hp → VK → Prop := fun xs H Q => rIsi K xs H Q ∨ rIsiT K xs H Q
theorem gIsi : CallR X (.builtin "isinstance") (rIsiA X.K) := CallR.or call_isi call_isiT
def rIntA : List V → Hp → VK → Prop := fun xs H Q => match xs with
  | [.int i] => Q (.int i) H
  | [.bl k] => Q (.int (if k then 1 else 0)) H
  | [.str a] => ∃ n, PySem.intText? a = some n ∧ a.length ≤ 640 ∧ Q (.int n) H
  | _ => False
theorem g_int : CallR X (.type "int") rIntA := by
  intro pins s σ H xs us Q I rv h
  match xs, rv, h with
  | [.int i], rv, h => exact call_int1 pins s σ H _ us Q I rv (.inl ⟨_, rfl, h⟩)
  | [.bl i], rv, h => exact call_int1 pins s σ H _ us Q I rv (.inr ⟨_, rfl, h⟩)
  | [.str i], rv, ⟨n, h1, h2, q⟩ => exact call_int_str pins s σ H _ us Q I rv ⟨_, n, rfl, h1, h2, q⟩
def rStrA : List V → Hp → VK → Prop := fun xs H Q => match xs with
  | [.int i] => i.natAbs.log2 < 1920 ∧ Q (.str (toString i)) H
  | _ => False
theorem g_str : CallR X (.type "str") rStrA := by
  intro pins s σ H xs us Q I rv h
  match xs, rv, h with
  | [.int i], rv, h => exact call_str_int pins s σ H _ us Q I rv ⟨_, rfl, h.1, h.2⟩
def rListA (K : PySem.W.Frag) : List V → Hp → VK → Prop := fun xs H Q => match xs with
  | [.ref p] => ∃ ys, (SqL K H p ys ∨ SqT K H p ys) ∧ ∀ l, H l = none → Q (.ref l) (upd H l (.lst ys))
  | _ => False
theorem g_list : CallR X (.type "list") (rListA X.K) := by
  intro pins s σ H xs us Q I rv h
  match xs, rv, h with
  | [.ref i], rv, ⟨ys, h, q⟩ => exact call_list_of pins s σ H _ us Q I rv ⟨_, _, rfl, h, q⟩
def rTupA (K : PySem.W.Frag) : List V → Hp → VK → Prop := fun xs H Q => match xs with
  | [.ref p] => ∃ ys, (SqL K H p ys ∧ ∀ l, H l = none → Q (.ref l) (upd H l (.tup ys))) ∨ (SqT K H p ys ∧ Q (.ref p) H)
  | _ => False
theorem g_tuple : CallR X (.type "tuple") (rTupA X.K) := by
  intro pins s σ H xs us Q I rv h
  match xs, rv, h with
  | [.ref i], rv, ⟨ys, h⟩ => exact call_tuple_of pins s σ H _ us Q I rv ⟨_, _, rfl, h⟩
def rIxA (K : PySem.W.Frag) : R2 := fun x y H Q => match x, y with
  | .ref p, .int i => ∃ xs v, (SqL K H p xs ∨ SqT K H p xs) ∧ atI xs i = some v ∧ Q v H
  | .str z, .int i => z.length ≤ sizeLine ∧ ∃ c, atI z.cps.toList i = some c ∧ Q (.str ⟨#[c]⟩) H
  | _, _ => False
theorem gIx : IxR X (rIxA X.K) := by
  intro value slice pins s σ H x y v u Q I rx ry h hs
  cases x <;> cases y <;> first
    | exact h.elim
    | (obtain ⟨xs, v', h1 | h1, h2, q⟩ := h
       · exact ix_list value slice pins s σ H _ _ v u Q I rx ry ⟨_, _, _, _, rfl, rfl, h1, h2, q⟩ hs
       · exact ix_tup value slice pins s σ H _ _ v u Q I rx ry ⟨_, _, _, _, rfl, rfl, h1, h2, q⟩ hs)
    | (obtain ⟨h1, c, h2, q⟩ := h
       exact ix_str value slice pins s σ H _ _ v u Q I rx ry ⟨_, _, _, rfl, rfl, h1, h2, q⟩ hs)
/-- a built-in type's name -/
theorem gTy {x : Str} {n : String} {pos : Pos} (hg : Gl X x) (hm : X.mg x = none) (hv : bootBuiltins x = some (.type n)) (hn : x ≠ "__name__" := by decide) (hd : (x == ("__debug__" : Str)) = false := by decide) : PE X (.Name x pos) (tC (.ty n)) :=
  pe_bltn (v := .ty n) hg hm hv rfl hn hd
/-- what is walked: a list, a tuple, a text -/
def iAny (K : PySem.W.Frag) (te : TE) : TI := fun σ H R => iList K te σ H R ∨ iTup K te σ H R ∨ iStr te σ H R
theorem IT {tg e : Expr} {te : TE} (he : PE X e te) : PI X tg e (iAny X.K te) := by
  refine ⟨fun pins s σ H R I h => ?_⟩
  rcases h with h | h | h
  · exact (pi_list he).run pins s σ H R I h
  · exact (pi_tup he).run pins s σ H R I h
  · exact (pi_str he).run pins s σ H R I h
/-- a statement, then the rest, with a word between them -/
def tCut (t u : TS) : TS := fun D σ H => ∃ Mid : L2.St → Hp → Prop, t { D with nx := Mid } σ H ∧ ∀ σ' H', Mid σ' H' → u D σ' H'
theorem pss_cut {st : Stmt} {rest : List Stmt} {t u : TS} (h1 : PS X st t) (h2 : PSs X rest u) : PSs X (st :: rest) (tCut t u) := by
  refine ⟨fun pins s σ H D I h => ?_⟩
  obtain ⟨Mid, hm, hu⟩ := h
  refine wpAny_execs_cons (thn (h1.run pins s σ H { D with nx := Mid } I hm) fun f s1 q => ?_)
  cases f with
  | next =>
    obtain ⟨σ', H', I', q⟩ := q
    exact h2.run pins s1 σ' H' D I' (hu σ' H' q)
  | ret v => exact q
  | brk => exact q
  | cont => exact q
/-- an expression, a test, with a word behind it -/
def tCutE (t : TE) : TE := fun σ H Q => ∃ M : VK, t σ H M ∧ ∀ v H', M v H' → Q v H'
def tCutT (t : TT) : TT := fun σ H Q => ∃ M : Bool → Hp → Prop, t σ H M ∧ ∀ v H', M v H' → Q v H'
theorem pe_cut {e : Expr} {t : TE} (h : PE X e t) : PE X e (tCutE t) := by
  refine ⟨fun pins s σ H Q I ⟨M, hm, hu⟩ => thn (h.run pins s σ H M I hm) fun u s1 ⟨v, H1, I1, r, q⟩ => ⟨v, H1, I1, r, hu v H1 q⟩⟩
theorem pt_cut {e : Expr} {t : TT} (h : PT X e t) : PT X e (tCutT t) := by
  refine ⟨fun pins s σ H Q I ⟨M, hm, hu⟩ => thn (h.run pins s σ H M I hm) fun u s1 ⟨H1, I1, q⟩ => ⟨H1, I1, hu _ H1 q⟩⟩
theorem i_cutE {t : TE} {σ : L2.St} {H : Hp} {Q : VK} (M : VK) (hm : t σ H M) (hu : ∀ v H', M v H' → Q v H') : tCutE t σ H Q := ⟨M, hm, hu⟩
theorem i_cutT {t : TT} {σ : L2.St} {H : Hp} {Q : Bool → Hp → Prop} (M : Bool → Hp → Prop) (hm : t σ H M) (hu : ∀ v H', M v H' → Q v H') : tCutT t σ H Q := ⟨M, hm, hu⟩
/-- .. whose answer is b, leaving the heap -/
theorem i_isT {t : TT} {σ : L2.St} {H : Hp} {Q : Bool → Hp → Prop} (b : Bool) (hm : t σ H fun v H' => v = b ∧ H' = H) (hu : Q b H) : tCutT t σ H Q := ⟨_, hm, fun v H' ⟨e1, e2⟩ => by rw [e1, e2]; exact hu⟩
theorem i_isE {t : TE} {σ : L2.St} {H : Hp} {Q : VK} (x : V) (hm : t σ H fun v H' => v = x ∧ H' = H) (hu : Q x H) : tCutE t σ H Q := ⟨_, hm, fun v H' ⟨e1, e2⟩ => by rw [e1, e2]; exact hu⟩
theorem cut_seq {t u : TS} {D : Ends} {σ : L2.St} {H : Hp} (h : t { D with nx := u D } σ H) : tCut t u D σ H := ⟨u D, h, fun _ _ q => q⟩
end
/-! the same, the written part by its name (inside a comprehension) -/
section
variable {X : Cx} {K : PySem.W.Frag}
theorem kAdd (hK : X.K = K) : OpR X (binaryOp .Add) (rAdd K) := by subst hK; exact gAdd
theorem kEq {k : Nat} (hK : X.K = K) (hr : Room k X.A) : OpR X (compareOp .Eq) (rEqA K) := by subst hK; exact gEq hr
theorem kNe {k : Nat} (hK : X.K = K) (hr : Room k X.A) : OpR X (compareOp .NotEq) (rNeA K) := by subst hK; exact gNe hr
theorem kIn {k : Nat} (hK : X.K = K) (hr : Room k X.A) : OpR X (compareOp .In) (rInA K) := by subst hK; exact gIn hr
theorem kNotIn {k : Nat} (hK : X.K = K) (hr : Room k X.A) : OpR X (compareOp .NotIn) (rNotInA K) := by subst hK; exact gNotIn hr
theorem kSl (hK : X.K = K) : SlR X (rSlG K) := by subst hK; exact gSl
theorem kLen (hK : X.K = K) : CallR X (.builtin "len") (rLen K) := by subst hK; exact gLen
theorem kIsi (hK : X.K = K) : CallR X (.builtin "isinstance") (rIsiA K) := by subst hK; exact gIsi
theorem k_list (hK : X.K = K) : CallR X (.type "list") (rListA K) := by subst hK; exact g_list
theorem k_tuple (hK : X.K = K) : CallR X (.type "tuple") (rTupA K) := by subst hK; exact g_tuple
theorem kIx (hK : X.K = K) : IxR X (rIxA K) := by subst hK; exact gIx
theorem kIT {tg e : Expr} {te : TE} (hK : X.K = K) (he : PE X e te) : PI X tg e (iAny K te) := by subst hK; exact IT he
theorem kTruth {a : Expr} {ta : TE} (hK : X.K = K) (ha : PE X a ta) (he : ∀ whole, isTrue a X.env whole = (do let v ← whole; standAt a.pos; holding [v] (truthy v))) : PT X a (fun σ H Q => ta σ H fun x H' => ∃ k, TruV K x H' k ∧ Q k H') := by
  subst hK
  exact pt_truth ha he
theorem kBm {o e : Expr} {es : List Expr} {to : TE} {t : TA} {name : Str} {apos cpos : Pos} {T id : String} {r : V → List V → Hp → VK → Prop} (hK : X.K = K) (pa : PlainAttrs T) (slot : Slot T name id) (hty : typeOf (.builtin id) = pure (.type "method_descriptor")) (hm : MtR X id r) (ho : PE X o to) (ha : PA X (e :: es) t)
    (hbase : attributeBase o name X.env (eval o X.env) = eval o X.env := by rfl)
    (hfew : ((backTo cpos (starEach (e :: es) X.env)).all (fun x => !x.1) && (backToKw cpos (keywordEach [] X.env)).all (fun x => x.1.isSome)
      && decide ((e :: es).length + ([] : List Keyword).length + (if ([] : List Keyword).isEmpty then 0 else 1) < 30)) = true := by rfl)
    (hline : (apos.endLine == cpos.line) = true := by rfl) (hs : starEach (e :: es) X.env = (false, eval e X.env) :: starEach es X.env := by rfl) (hplain : (backTo cpos (starEach es X.env)).any (·.1) = false := by rfl) :
    PE X (.Call (.Attribute o name apos) (e :: es) [] cpos) (tBM K T r to t) := by
  subst hK
  exact pe_bm pa slot hty hm ho ha hbase hfew hline hs hplain
theorem kBm0 {o : Expr} {to : TE} {name : Str} {apos cpos : Pos} {T id : String} {r : V → List V → Hp → VK → Prop} (hK : X.K = K) (pa : PlainAttrs T) (slot : Slot T name id) (hty : typeOf (.builtin id) = pure (.type "method_descriptor")) (hm : MtR X id r) (ho : PE X o to)
    (hbase : attributeBase o name X.env (eval o X.env) = eval o X.env := by rfl) (hline : (apos.endLine == cpos.line) = true := by rfl) : PE X (.Call (.Attribute o name apos) [] [] cpos) (tBM0 K T r to) := by
  subst hK
  exact pe_bm0 pa slot hty hm ho hbase hline
theorem kTup {es : List Expr} {k : Nat} {t : TGs} {n : Nat} {pos : Pos} (hK : X.K = K) (hc : X.calm = true) (h : PGs X es t)
    (hn : (assignEach es X.env).length = n := by rfl) (hst : (assignEach es X.env).findIdx? (·.1) = none := by rfl) : PG X (.Tuple es k pos) (gTup K n t) := by
  subst hK
  exact pg_tup hc h hn hst
end
/-! ### a def by its name -/
structure Cal (P : Program) (w : World) (K : PySem.W.Frag) (mg : Str → Option Value) (base : Heap) (k : Nat) (x : Str) (sp : Sp) (dvs : List V) : Prop where
  ex : ∃ (f : Addr) (fd : FuncData) (ps : List Str) (ds : List Value), FnOk P w K mg base CX0 k f fd ps sp ∧ mg x = some (.ref f) ∧ PySem.W.keepIn K (.ref f) = true ∧ Binds K fd ps ds ∧ Vals dvs ds
/-- a def of the text: where it stands, how its arguments bind -/
structure Dd (K : PySem.W.Frag) (mg : Str → Option Value) (x : Str) (st : Stmt) (ps : List Str) : Prop where
  ex : ∃ (f : Addr) (fd : FuncData), Fun K x x st f fd ∧ mg x = some (.ref f) ∧ Binds K fd ps []
section
variable {P : Program} {w : World} {K : PySem.W.Frag} {mg : Str → Option Value} {base : Heap}
/-- the rule for a def -/
theorem Dd.cal {x : Str} {st : Stmt} {N ps : List Str} {k : Nat} {sp : Sp} (F : Dd K mg x st ps) (S : FnScope N ps (defScope st)) (len : ∀ vs H Q E, sp vs H Q E → vs.length = ps.length)
    (hbody : ∀ (f : Addr) (cdv : Value) (A : Around) (outer : List Env) (s : Shared) (H : Hp) (vs : List V) (Q : VK) (E : XK), Room k (A.deeper (envOfC x (defScope st) s.heap.objs.size f cdv)) → sp vs H Q E →
      ∃ t, PSs (cxOf CX0 P w K mg base N x (defScope st) f cdv A outer s H E).nox (defBody st) t ∧ t { nx := fun _ H' => Q .non H', rt := Q } (start N vs) H) : Cal P w K mg base (k + 1) x sp [] := by
  obtain ⟨f, fd, F1, hm, b⟩ := F.ex
  exact ⟨f, fd, ps, [], F1.ok S len (fun cdv A outer s H vs Q E hr h => hbody f cdv A outer s H vs Q E hr h), hm, F1.kp, b, .nil⟩
/-- the law itself -/
theorem Dd.law {x : Str} {st : Stmt} {N ps : List Str} {k : Nat} {sp : Sp} {fa : Addr} (F : Dd K mg x st ps) (S : FnScope N ps (defScope st)) (hfa : mg x = some (.ref fa)) (len : ∀ vs H Q E, sp vs H Q E → vs.length = ps.length)
    (hbody : ∀ (base : Heap) (f : Addr) (cdv : Value) (A : Around) (outer : List Env) (s : Shared) (H : Hp) (vs : List V) (Q : VK) (E : XK), Room k (A.deeper (envOfC x (defScope st) s.heap.objs.size f cdv)) → sp vs H Q E →
      ∃ t, PSs (cxOf CX0 P w K mg base N x (defScope st) f cdv A outer s H E).nox (defBody st) t ∧ t { nx := fun _ H' => Q .non H', rt := Q } (start N vs) H) :
    ∃ fd : FuncData, (∃ (kV doc pm : Value) (an : Option Addr) (cdv ct : Value), fd = PySem.W.fnOf x x (defArgs st) (defBody st) (defScope st) .none kV doc pm an cdv ct) ∧ ∀ base : Heap, FnOk P w K mg base CX0 (k + 1) fa fd ps sp := by
  obtain ⟨f, fd, F1, hm, b⟩ := F.ex
  have e := hfa.symm.trans hm
  cases e
  refine ⟨fd, ?_, fun base => F1.ok S len (fun cdv A outer s H vs Q E hr h => hbody base fa cdv A outer s H vs Q E hr h)⟩
  obtain ⟨oc, od, kV, doc, pm, an, cdv, ct, osl, rfl, lk, hcd⟩ := F1.ex
  exact ⟨kV, doc, pm, an, cdv, ct, rfl⟩
theorem cxK {CX : CXT} {N : List Str} {x : Str} {sc : Scope} {f : Addr} {cdv : Value} {A : Around} {outer : List Env} {s : Shared} {H : Hp} {E : XK} : (cxOf CX P w K mg base N x sc f cdv A outer s H E).nox.K = K := rfl
end
section
variable {X : Cx} {k j : Nat} {x : Str} {sp : Sp} {dvs : List V} {p pos : Pos} {e : Expr} {es : List Expr} {t : TA}
theorem pe_c (c : Cal X.prog X.w X.K X.mg X.base k x sp dvs) (hr : Room j X.A) (hk : k ≤ j) (hg : Gl X x) (ha : PA X (e :: es) t)
    (hdb : (x == ("__debug__" : Str)) = false := by decide) (he : starEach (e :: es) X.env = (false, eval e X.env) :: starEach es X.env := by rfl) (hpl : (backTo pos (starEach es X.env)).any (·.1) = false := by rfl) :
    PE X (.Call (.Name x p) (e :: es) [] pos) (tCall sp dvs E0 t) := by
  obtain ⟨f, fd, ps, ds, F, hm, kp, b, d⟩ := c.ex
  exact pe_call F (hr.mono hk) hg hm kp b d pass0 ha hdb he hpl
theorem pe_call0C (c : Cal X.prog X.w X.K X.mg X.base k x sp dvs) (hr : Room j X.A) (hk : k ≤ j) (hg : Gl X x)
    (hdb : (x == ("__debug__" : Str)) = false := by decide) : PE X (.Call (.Name x p) [] [] pos) (tCall sp dvs E0 tNil) := by
  obtain ⟨f, fd, ps, ds, F, hm, kp, b, d⟩ := c.ex
  exact pe_call0 F (hr.mono hk) hg hm kp b d pass0 hdb
theorem pe_gc {v : V} (hg : Gl X x) (h : ∃ u, X.mg x = some u ∧ RelV v u) (hd : (x == ("__debug__" : Str)) = false := by decide) : PE X (.Name x pos) (tC v) := by
  obtain ⟨u, hm, r⟩ := h
  exact pe_glob hg hm r hd
end
/-! ### readings, one step each -/
section
variable {K : PySem.W.Frag} {σ : L2.St} {H : Hp} {ta tb te tc to : TE} {t tr : TA} {tt tu : TT} {Q : VK} {QA : List V → Hp → Prop} {QB : Bool → Hp → Prop} {D : Ends} {u v : TS} {r r' : R2} {rc : List V → Hp → VK → Prop} {g : TG}
theorem i_var {i : Nat} {x : V} (h : σ[i]? = some (some x)) (q : Q x H) : tVar i σ H Q := ⟨x, h, q⟩
theorem i_c {x : V} (q : Q x H) : tC x σ H Q := q
theorem i_op (q : ta σ H fun x H1 => tb σ H1 fun y H2 => r x y H2 Q) : tOp r ta tb σ H Q := q
theorem i_un {ru : V → Hp → VK → Prop} (q : ta σ H fun x H1 => ru x H1 Q) : tUn ru ta σ H Q := q
theorem i_neg {i : Int} (q : Q (.int (-i)) H) : rU (fun i => .int (-i)) (.int i) H Q := ⟨i, rfl, q⟩
theorem i_cb (q : t σ H fun vs H1 => rc vs H1 Q) : tCB rc t σ H Q := q
theorem i_cons (q : ta σ H fun x H1 => tr σ H1 fun xs H2 => QA (x :: xs) H2) : tCons ta tr σ H QA := q
theorem i_nil (q : QA [] H) : tNil σ H QA := q
theorem i_test (q : te σ H fun x H' => ∃ k, x = .bl k ∧ QB k H') : tTest te σ H QB := q
theorem i_b (q : te σ H fun x H' => ∃ k, x = .bl k ∧ QB k H') : tB te σ H QB := q
theorem i_bl {b : Bool} {R : Bool → Prop} (q : R b) : ∃ k, V.bl b = .bl k ∧ R k := ⟨b, rfl, q⟩
theorem i_and (q : tt σ H fun c H1 => if c = true then tu σ H1 QB else QB false H1) : tAnd tt tu σ H QB := q
theorem i_or (q : tt σ H fun c H1 => if c = true then QB true H1 else tu σ H1 QB) : tOr tt tu σ H QB := q
theorem i_not (q : tt σ H fun c H1 => QB (!c) H1) : tNot tt σ H QB := q
theorem i_andV (q : ta σ H fun x H1 => ∃ c, x = .bl c ∧ if c = true then tb σ H1 Q else Q (.bl false) H1) : tAndV ta tb σ H Q := q
theorem i_orV (q : ta σ H fun x H1 => ∃ c, x = .bl c ∧ if c = true then Q (.bl true) H1 else tb σ H1 Q) : tOrV ta tb σ H Q := q
theorem i_notV (q : ta σ H fun x H1 => ∃ c, x = .bl c ∧ Q (.bl (!c)) H1) : tNotV ta σ H Q := q
theorem i_if (q : tt σ H fun c H1 => if c = true then ta σ H1 Q else tb σ H1 Q) : tIf tt ta tb σ H Q := q
theorem i_chain (q : ta σ H fun x H1 => tb σ H1 fun y H2 => r x y H2 fun z H3 => ∃ k, z = .bl k ∧ (if k = true then tc σ H3 fun w' H4 => r' y w' H4 Q else Q (.bl false) H3)) : tChain r r' ta tb tc σ H Q := q
theorem i_seq (q : u { D with nx := v D } σ H) : tSeq u v D σ H := q
theorem i_next (q : D.nx σ H) : tNext D σ H := q
theorem i_lst (q : t σ H fun xs H1 => xs.length ≤ sizeLine ∧ ∀ p, H1 p = none → Q (.ref p) (upd H1 p (.lst xs))) : tLst t σ H Q := q
theorem i_tup (q : t σ H fun xs H1 => xs.length ≤ sizeLine ∧ ∀ p, H1 p = none → Q (.ref p) (upd H1 p (.tup xs))) : tTup t σ H Q := q
theorem i_drop (q : te σ H fun _ H1 => D.nx σ H1) : tDrop te D σ H := q
theorem i_ret (q : te σ H D.rt) : tRet te D σ H := q
theorem i_ifS (q : tt σ H fun b H1 => if b = true then u D σ H1 else v D σ H1) : tIfS tt u v D σ H := q
theorem i_call {sp : Sp} {dvs : List V} {E : XK} (q : t σ H fun vs H1 => sp (vs ++ dvs) H1 Q E) : tCall sp dvs E t σ H Q := q
theorem i_asg (q : te σ H fun x H1 => g x σ H1 D.nx) : tAsg te g D σ H := q
theorem i_name {i : Nat} {x : V} {R : L2.St → Hp → Prop} (q : R (σ.set i (some x)) H) : gName i x σ H R := q
theorem i_start {N : List Str} {vs : List V} {τ : L2.St} {t : TS} (e : start N vs = τ) (q : t D τ H) : t D (start N vs) H := by
  subst e
  exact q
theorem i_sub {ti : TE} {ts : TSet} {x : V} {R : L2.St → Hp → Prop} (q : to σ H fun o H1 => ti σ H1 fun i H2 => ts o i x H2 fun H3 => R σ H3) : L2.gSub to ti ts x σ H R := q
theorem i_sl {rs : V → Option Int → Option Int → Hp → VK → Prop} {tl th : TO} (q : te σ H fun x H1 => tl σ H1 fun l H2 => th σ H2 fun u H3 => rs x l u H3 Q) : tSl rs te tl th σ H Q := q
theorem i_noP {QO : Option Int → Hp → Prop} (q : QO none H) : tNoPart σ H QO := q
theorem i_part {QO : Option Int → Hp → Prop} (q : te σ H fun x H1 => ∃ i, x = .int i ∧ QO (some i) H1) : tPart te σ H QO := q
theorem i_int {i : Int} {R : Int → Prop} (q : R i) : ∃ k, V.int i = .int k ∧ R k := ⟨i, rfl, q⟩
theorem i_bm {T : String} {rm : V → List V → Hp → VK → Prop} (q : to σ H fun x H1 => tyV K T x H1 ∧ t σ H1 fun xs H2 => rm x xs H2 Q) : tBM K T rm to t σ H Q := q
theorem i_strT {z : Str} {R : Prop} (q : R) : tyV K "str" (.str z) H ∧ R := ⟨rfl, q⟩
theorem i_yes {QB : Bool → Hp → Prop} (q : QB true H) : tYes σ H QB := q
theorem i_ite {p A B : Prop} [Decidable p] (h1 : p → A) (h2 : ¬ p → B) : if decide p = true then A else B := by
  by_cases h : p
  · rw [if_pos (decide_eq_true h)]
    exact h1 h
  · rw [if_neg (by rw [decide_eq_false h]; exact Bool.false_ne_true)]
    exact h2 h
theorem i_iteN {p A B : Prop} [Decidable p] (h1 : ¬ p → A) (h2 : p → B) : if (!decide p) = true then A else B := by
  by_cases h : p
  · rw [decide_eq_true h]
    exact iteF (h2 h)
  · rw [decide_eq_false h]
    exact iteT (h1 h)
theorem i_iteB {b : Bool} {A B : Prop} (h1 : b = true → A) (h2 : b = false → B) : if b = true then A else B := by
  cases b with
  | true => exact iteT (h1 rfl)
  | false => exact iteF (h2 rfl)
theorem i_iteBN {b : Bool} {A B : Prop} (h1 : b = false → A) (h2 : b = true → B) : if (!b) = true then A else B := by
  cases b with
  | true => exact iteF (h2 rfl)
  | false => exact iteT (h1 rfl)
/-- a comprehension's turns -/
def lcB (J : It) (g : TG) (tt : TT) (te : TE) (vs : List Nat) (σ : L2.St) (Q : VK) (H1 : Hp) : Prop := ∀ D, H1 D = none → ∃ W : Nat → Nat → Hp → Prop, (∃ m, W 0 m (upd H1 D (.lst []))) ∧ ∀ i m H, W i m H →
  (J.stop i H ∧ Q (.ref D) H) ∨ (J.go i H ∧ ∃ Nx : Hp → Prop, (∀ H', Nx H' → ∃ m', m' < m ∧ W (i + 1) m' H') ∧ ∀ x H', J.yld i H x H' → g x (wipe σ vs) H' fun σ2 H2 => wipe σ2 vs = wipe σ vs ∧ tt σ2 H2 fun b H3 =>
    if b = true then te σ2 H3 fun y H4 => ∃ acc, H4 D = some (.lst acc) ∧ acc.length < sizeLine ∧ Nx (upd H4 D (.lst (acc ++ [y]))) else Nx H3)
/-- a loop's turns -/
def forB (J : It) (g : TG) (tb : TS) (D : Ends) (σ : L2.St) (H1 : Hp) : Prop := ∃ W : Nat → Nat → L2.St → Hp → Prop, (∃ m, W 0 m σ H1) ∧ ∀ i m σ H, W i m σ H →
  (J.stop i H ∧ D.nx σ H) ∨ (J.go i H ∧ ∃ N : L2.St → Hp → Prop, (∀ σ' H', N σ' H' → ∃ m', m' < m ∧ W (i + 1) m' σ' H') ∧ ∀ x H', J.yld i H x H' → g x σ H' fun σ2 H2 => tb { D with nx := N, ct := N, bk := D.nx } σ2 H2)
theorem i_lc {wi : TI} {vs : List Nat} (q : wi σ H fun J H1 => lcB J g tt te vs σ Q H1) : tLc wi g tt te vs σ H Q := q
theorem i_for {wi : TI} (q : wi σ H fun J H1 => forB J g u D σ H1) : tFor wi g u D σ H := q
theorem i_anyL {R : It → Hp → Prop} (q : te σ H fun x H1 => ∃ a, x = .ref a ∧ (∃ xs, SqL K H1 a xs) ∧ R (Itl K a) H1) : iAny K te σ H R := .inl q
theorem i_anyT {R : It → Hp → Prop} (q : te σ H fun x H1 => ∃ a, x = .ref a ∧ (∃ xs, SqT K H1 a xs) ∧ R (Itt K a) H1) : iAny K te σ H R := .inr (.inl q)
theorem i_anyS {R : It → Hp → Prop} (q : te σ H fun v H1 => ∃ x, v = .str x ∧ R (Its x) H1) : iAny K te σ H R := .inr (.inr q)
theorem i_rng1 {R : It → Hp → Prop} (q : t σ H fun vs H1 => ∃ j : Int, vs = [.int j] ∧ -(2 ^ 62) ≤ j ∧ j < 2 ^ 62 ∧ R (Itr 0 j.toNat) H1) : iRng1 t σ H R := q
theorem i_rng2 {R : It → Hp → Prop} (q : t σ H fun vs H1 => ∃ i j : Int, vs = [.int i, .int j] ∧ (-(2 ^ 62) ≤ i ∧ i < 2 ^ 62 ∧ -(2 ^ 62) ≤ j ∧ j < 2 ^ 62) ∧ R (Itr i (j - i).toNat) H1) : iRng2 t σ H R := q
theorem l_rng1 {j : Int} {R : It → Hp → Prop} (h1 : -(2 ^ 62) ≤ j) (h2 : j < 2 ^ 62) (q : R (Itr 0 j.toNat) H) : ∃ k : Int, [V.int j] = [.int k] ∧ -(2 ^ 62) ≤ k ∧ k < 2 ^ 62 ∧ R (Itr 0 k.toNat) H := ⟨j, rfl, h1, h2, q⟩
/-- a range: what holds between the turns -/
theorem for_rng {n : Nat} {lo : Int} (Pv : Nat → L2.St → Hp → Prop) (h0 : Pv 0 σ H)
    (hs : ∀ i σ H, i < n → Pv i σ H → g (.int (lo + i)) σ H fun σ2 H2 => u { D with nx := Pv (i + 1), ct := Pv (i + 1), bk := D.nx } σ2 H2) (hd : ∀ σ H, Pv n σ H → D.nx σ H) : forB (Itr lo n) g u D σ H := for_range Pv h0 hs hd
theorem for_lst {a : Addr} {xs : List V} (Pv : Nat → L2.St → Hp → Prop) (h0 : Pv 0 σ H) (hl : ∀ i σ H, i ≤ xs.length → Pv i σ H → SqL K H a xs)
    (hs : ∀ i x σ H, xs[i]? = some x → Pv i σ H → g x σ H fun σ2 H2 => u { D with nx := Pv (i + 1), ct := Pv (i + 1), bk := D.nx } σ2 H2) (hd : ∀ σ H, Pv xs.length σ H → D.nx σ H) : forB (Itl K a) g u D σ H := for_list Pv h0 hl hs hd
/-- a text, sign by sign -/
theorem lc_text {x : Str} {vs : List Nat} {DD : Addr} (hD : H DD = none) (Pv : Nat → Hp → Prop) (h0 : Pv 0 (upd H DD (.lst [])))
    (hs : ∀ i c H, x.cps.toList[i]? = some c → Pv i H → g (.str ⟨#[c]⟩) (wipe σ vs) H fun σ2 H2 => wipe σ2 vs = wipe σ vs ∧ tt σ2 H2 fun b H3 =>
      if b = true then te σ2 H3 fun y H4 => ∃ acc, H4 DD = some (.lst acc) ∧ acc.length < sizeLine ∧ Pv (i + 1) (upd H4 DD (.lst (acc ++ [y]))) else Pv (i + 1) H3) (hd : ∀ H, Pv x.cps.toList.length H → Q (.ref DD) H) :
    ∃ W : Nat → Nat → Hp → Prop, (∃ m, W 0 m (upd H DD (.lst []))) ∧ ∀ i m H, W i m H →
      ((Its x).stop i H ∧ Q (.ref DD) H) ∨ ((Its x).go i H ∧ ∃ Nx : Hp → Prop, (∀ H', Nx H' → ∃ m', m' < m ∧ W (i + 1) m' H') ∧ ∀ v H', (Its x).yld i H v H' → g v (wipe σ vs) H' fun σ2 H2 => wipe σ2 vs = wipe σ vs ∧ tt σ2 H2 fun b H3 =>
        if b = true then te σ2 H3 fun y H4 => ∃ acc, H4 DD = some (.lst acc) ∧ acc.length < sizeLine ∧ Nx (upd H4 DD (.lst (acc ++ [y]))) else Nx H3) := by
  have el : x.cps.toList.length = x.cps.size := Array.length_toList
  refine ⟨fun i m H => m = x.cps.size - i ∧ i ≤ x.cps.size ∧ Pv i H, ⟨x.cps.size, by simp, Nat.zero_le _, h0⟩, ?_⟩
  rintro i m H ⟨rfl, hi, p⟩
  by_cases hlt : i < x.cps.size
  · refine .inr ⟨hlt, Pv (i + 1), fun H' p' => ⟨x.cps.size - (i + 1), by omega, rfl, hlt, p'⟩, fun v H' y => ?_⟩
    obtain ⟨rfl, c, hc, rfl⟩ := y
    exact hs i c H' (by rw [Array.getElem?_toList]; exact hc) p
  · have e : i = x.cps.size := by omega
    subst e
    exact .inl ⟨Nat.le_refl _, hd H (by rw [el]; exact p)⟩
theorem i_len {xs : List V} {R : Prop} (h : xs.length ≤ sizeLine) (q : R) : xs.length ≤ sizeLine ∧ R := ⟨h, q⟩
theorem iteNF {A B : Prop} (h : A) : if (!false) = true then A else B := h
theorem iteNT {A B : Prop} (h : B) : if (!true) = true then A else B := h
/-! leaves -/
theorem l_inT {x : V} {p : Addr} {xs : List V} (h : SqT K H p xs) (hx : flatV x = true) (ha : xs.all flatV = true) (q : Q (.bl (inV x xs)) H) : rInA K x (.ref p) H Q := .inr (.inl ⟨p, xs, rfl, .inr h, hx, ha, q⟩)
theorem l_inL {x : V} {p : Addr} {xs : List V} (h : SqL K H p xs) (hx : flatV x = true) (ha : xs.all flatV = true) (q : Q (.bl (inV x xs)) H) : rInA K x (.ref p) H Q := .inr (.inl ⟨p, xs, rfl, .inl h, hx, ha, q⟩)
theorem l_notInT {x : V} {p : Addr} {xs : List V} (h : SqT K H p xs) (hx : flatV x = true) (ha : xs.all flatV = true) (q : Q (.bl (!inV x xs)) H) : rNotInA K x (.ref p) H Q := .inr (.inl ⟨p, xs, rfl, .inr h, hx, ha, q⟩)
theorem l_notInL {x : V} {p : Addr} {xs : List V} (h : SqL K H p xs) (hx : flatV x = true) (ha : xs.all flatV = true) (q : Q (.bl (!inV x xs)) H) : rNotInA K x (.ref p) H Q := .inr (.inl ⟨p, xs, rfl, .inl h, hx, ha, q⟩)
theorem l_inC {c : Nat} {z : Str} (q : Q (.bl (decide (c ∈ z.cps.toList))) H) : rInA K (.str ⟨#[c]⟩) (.str z) H Q := .inl ⟨c, z, rfl, rfl, q⟩
theorem l_str1 {g : Str → Str → V} {a b : Str} (h : a.length ≤ sizeLine) (q : Q (g a b) H) : ∃ a' b', V.str a = .str a' ∧ [V.str b] = [.str b'] ∧ a'.length ≤ sizeLine ∧ Q (g a' b') H := ⟨a, b, rfl, rfl, h, q⟩
theorem l_addI {i j : Int} (q : Q (.int (i + j)) H) : rAdd K (.int i) (.int j) H Q := q
theorem l_addS {i j : Str} (h : i.length + j.length ≤ sizeLine) (q : Q (.str (i ++ j)) H) : rAdd K (.str i) (.str j) H Q := ⟨h, q⟩
theorem l_subI {i j : Int} (q : Q (.int (i - j)) H) : rSub (.int i) (.int j) H Q := q
theorem l_mul {i j : Int} (h : CMul i j ∨ CMulW i j) (q : Q (.int (i * j)) H) : rMul (.int i) (.int j) H Q := ⟨h, q⟩
theorem l_div {i j : Int} (h : CDivW i j) (q : Q (.int (i / j)) H) : rDiv (.int i) (.int j) H Q := ⟨h, q⟩
theorem l_mod {i j : Int} (h : 0 < j) (q : Q (.int (i % j)) H) : rMod (.int i) (.int j) H Q := ⟨h, q⟩
theorem l_pow {i j : Int} (h : CPow i j) (q : Q (.int (i ^ j.toNat)) H) : rPow (.int i) (.int j) H Q := ⟨h, q⟩
theorem l_cmp {gg : Int → Int → Bool} {i j : Int} (q : Q (.bl (gg i j)) H) : rCmp gg (.int i) (.int j) H Q := q
theorem l_eqI {i j : Int} (q : Q (.bl (decide (i = j))) H) : rEqA K (.int i) (.int j) H Q := .inl ⟨rfl, by rw [show decide (V.int i = V.int j) = decide (i = j) by simp]; exact q⟩
theorem l_eqS {i j : Str} (q : Q (.bl (decide (i = j))) H) : rEqA K (.str i) (.str j) H Q := .inl ⟨rfl, by rw [show decide (V.str i = V.str j) = decide (i = j) by simp]; exact q⟩
theorem l_eqB {i j : Bool} (q : Q (.bl (decide (i = j))) H) : rEqA K (.bl i) (.bl j) H Q := .inl ⟨rfl, by rw [show decide (V.bl i = V.bl j) = decide (i = j) by simp]; exact q⟩
theorem l_neI {i j : Int} (q : Q (.bl (!decide (i = j))) H) : rNeA K (.int i) (.int j) H Q := .inl ⟨rfl, by rw [show decide (V.int i = V.int j) = decide (i = j) by simp]; exact q⟩
theorem l_neS {i j : Str} (q : Q (.bl (!decide (i = j))) H) : rNeA K (.str i) (.str j) H Q := .inl ⟨rfl, by rw [show decide (V.str i = V.str j) = decide (i = j) by simp]; exact q⟩
theorem l_neB {i j : Bool} (q : Q (.bl (!decide (i = j))) H) : rNeA K (.bl i) (.bl j) H Q := .inl ⟨rfl, by rw [show decide (V.bl i = V.bl j) = decide (i = j) by simp]; exact q⟩
theorem l_neSelf {x : V} (h : scal x x = true) (q : Q (.bl false) H) : rNeA K x x H Q := .inl ⟨h, by rw [decide_eq_true rfl]; exact q⟩
theorem l_eqSelf {x : V} (h : scal x x = true) (q : Q (.bl true) H) : rEqA K x x H Q := .inl ⟨h, by rw [decide_eq_true rfl]; exact q⟩
theorem l_isN {x : V} (q : Q (.bl (decide (x = .non))) H) : rIsA x .non H Q := .inl ⟨rfl, q⟩
theorem l_isNotN {x : V} (q : Q (.bl (!decide (x = .non))) H) : rIsNotA x .non H Q := .inl ⟨rfl, q⟩
theorem l_isB {x y : Bool} (q : Q (.bl (decide (x = y))) H) : rIsA (.bl x) (.bl y) H Q := .inr ⟨x, y, rfl, rfl, q⟩
theorem l_isNotB {x y : Bool} (q : Q (.bl (!decide (x = y))) H) : rIsNotA (.bl x) (.bl y) H Q := .inr ⟨x, y, rfl, rfl, q⟩
theorem l_intI {i : Int} (q : Q (.int i) H) : rIntA [.int i] H Q := q
theorem l_intB {k : Bool} (q : Q (.int (if k then 1 else 0)) H) : rIntA [.bl k] H Q := q
theorem l_intS {a : Str} {n : Int} (h : PySem.intText? a = some n) (h2 : a.length ≤ 640) (q : Q (.int n) H) : rIntA [.str a] H Q := ⟨n, h, h2, q⟩
theorem l_strI {i : Int} (h : i.natAbs.log2 < 1920) (q : Q (.str (toString i)) H) : rStrA [.int i] H Q := ⟨h, q⟩
theorem l_lenS {y : Str} (h : y.length ≤ sizeLine) (q : Q (.int y.length) H) : rLen K [.str y] H Q := ⟨h, q⟩
theorem l_lenL {p : Addr} {xs : List V} (h : H p = some (.lst xs)) (q : Q (.int xs.length) H) : rLen K [.ref p] H Q := ⟨xs, .inl (SqL.of h), q⟩
theorem l_lenT {p : Addr} {xs : List V} (h : H p = some (.tup xs)) (q : Q (.int xs.length) H) : rLen K [.ref p] H Q := ⟨xs, .inr (SqT.of h), q⟩
theorem l_ixL {p : Addr} {xs : List V} {i : Int} {x : V} (h : H p = some (.lst xs)) (e : atI xs i = some x) (q : Q x H) : rIxA K (.ref p) (.int i) H Q := ⟨xs, x, .inl (SqL.of h), e, q⟩
theorem l_ixT {p : Addr} {xs : List V} {i : Int} {x : V} (h : H p = some (.tup xs)) (e : atI xs i = some x) (q : Q x H) : rIxA K (.ref p) (.int i) H Q := ⟨xs, x, .inr (SqT.of h), e, q⟩
theorem l_ixS {z : Str} {i : Int} {c : Nat} (h : z.length ≤ sizeLine) (e : atI z.cps.toList i = some c) (q : Q (.str ⟨#[c]⟩) H) : rIxA K (.str z) (.int i) H Q := ⟨h, c, e, q⟩
theorem l_slS {z : Str} {lo hi : Option Int} (h : z.length ≤ sizeLine) (q : Q (.str (cutS z lo hi)) H) : rSlG K (.str z) lo hi H Q := ⟨h, q⟩
theorem l_slL {a : Addr} {xs : List V} {lo hi : Option Int} (h : SqL K H a xs) (q : ∀ p, H p = none → Q (.ref p) (upd H p (.lst (cutV xs lo hi)))) : rSlG K (.ref a) lo hi H Q := .inl ⟨a, xs, rfl, h, q⟩
theorem l_setL {p : Addr} {xs : List V} {k : Int} {j : Nat} {x : V} {R : Hp → Prop} (h : H p = some (.lst xs)) (e : ixN xs.length k = some j) (q : R (upd H p (.lst (xs.set j x)))) : rSetL (.ref p) (.int k) x H R := ⟨p, xs, k, j, rfl, rfl, h, e, q⟩
theorem l_isi {x : V} {n : String} {tv : Value} {b : Bool} (ty : TyX K H x tv) (e : PySem.W.kitOne K tv (.type n) = some b) (q : Q (.bl b) H) : rIsiA K [x, .ty n] H Q := .inl ⟨x, .ty n, tv, .type n, b, rfl, .ty n, ty, e, q⟩
end
/-! isinstance of the plain kinds -/
theorem kt_NoneType_str {K : PySem.W.Frag} : PySem.W.kitOne K (.type "NoneType") (.type "str") = some false := kit_ty (by decide +kernel)
theorem kt_NoneType_int {K : PySem.W.Frag} : PySem.W.kitOne K (.type "NoneType") (.type "int") = some false := kit_ty (by decide +kernel)
theorem kt_NoneType_bool {K : PySem.W.Frag} : PySem.W.kitOne K (.type "NoneType") (.type "bool") = some false := kit_ty (by decide +kernel)
theorem kt_NoneType_tuple {K : PySem.W.Frag} : PySem.W.kitOne K (.type "NoneType") (.type "tuple") = some false := kit_ty (by decide +kernel)
theorem kt_NoneType_list {K : PySem.W.Frag} : PySem.W.kitOne K (.type "NoneType") (.type "list") = some false := kit_ty (by decide +kernel)
theorem kt_NoneType_dict {K : PySem.W.Frag} : PySem.W.kitOne K (.type "NoneType") (.type "dict") = some false := kit_ty (by decide +kernel)
theorem kt_bool_str {K : PySem.W.Frag} : PySem.W.kitOne K (.type "bool") (.type "str") = some false := kit_ty (by decide +kernel)
theorem kt_bool_int {K : PySem.W.Frag} : PySem.W.kitOne K (.type "bool") (.type "int") = some true := kit_ty (by decide +kernel)
theorem kt_bool_bool {K : PySem.W.Frag} : PySem.W.kitOne K (.type "bool") (.type "bool") = some true := kit_ty (by decide +kernel)
theorem kt_bool_tuple {K : PySem.W.Frag} : PySem.W.kitOne K (.type "bool") (.type "tuple") = some false := kit_ty (by decide +kernel)
theorem kt_bool_list {K : PySem.W.Frag} : PySem.W.kitOne K (.type "bool") (.type "list") = some false := kit_ty (by decide +kernel)
theorem kt_bool_dict {K : PySem.W.Frag} : PySem.W.kitOne K (.type "bool") (.type "dict") = some false := kit_ty (by decide +kernel)
theorem kt_int_str {K : PySem.W.Frag} : PySem.W.kitOne K (.type "int") (.type "str") = some false := kit_ty (by decide +kernel)
theorem kt_int_int {K : PySem.W.Frag} : PySem.W.kitOne K (.type "int") (.type "int") = some true := kit_ty (by decide +kernel)
theorem kt_int_bool {K : PySem.W.Frag} : PySem.W.kitOne K (.type "int") (.type "bool") = some false := kit_ty (by decide +kernel)
theorem kt_int_tuple {K : PySem.W.Frag} : PySem.W.kitOne K (.type "int") (.type "tuple") = some false := kit_ty (by decide +kernel)
theorem kt_int_list {K : PySem.W.Frag} : PySem.W.kitOne K (.type "int") (.type "list") = some false := kit_ty (by decide +kernel)
theorem kt_int_dict {K : PySem.W.Frag} : PySem.W.kitOne K (.type "int") (.type "dict") = some false := kit_ty (by decide +kernel)
theorem kt_str_str {K : PySem.W.Frag} : PySem.W.kitOne K (.type "str") (.type "str") = some true := kit_ty (by decide +kernel)
theorem kt_str_int {K : PySem.W.Frag} : PySem.W.kitOne K (.type "str") (.type "int") = some false := kit_ty (by decide +kernel)
theorem kt_str_bool {K : PySem.W.Frag} : PySem.W.kitOne K (.type "str") (.type "bool") = some false := kit_ty (by decide +kernel)
theorem kt_str_tuple {K : PySem.W.Frag} : PySem.W.kitOne K (.type "str") (.type "tuple") = some false := kit_ty (by decide +kernel)
theorem kt_str_list {K : PySem.W.Frag} : PySem.W.kitOne K (.type "str") (.type "list") = some false := kit_ty (by decide +kernel)
theorem kt_str_dict {K : PySem.W.Frag} : PySem.W.kitOne K (.type "str") (.type "dict") = some false := kit_ty (by decide +kernel)
theorem kt_list_str {K : PySem.W.Frag} : PySem.W.kitOne K (.type "list") (.type "str") = some false := kit_ty (by decide +kernel)
theorem kt_list_int {K : PySem.W.Frag} : PySem.W.kitOne K (.type "list") (.type "int") = some false := kit_ty (by decide +kernel)
theorem kt_list_bool {K : PySem.W.Frag} : PySem.W.kitOne K (.type "list") (.type "bool") = some false := kit_ty (by decide +kernel)
theorem kt_list_tuple {K : PySem.W.Frag} : PySem.W.kitOne K (.type "list") (.type "tuple") = some false := kit_ty (by decide +kernel)
theorem kt_list_list {K : PySem.W.Frag} : PySem.W.kitOne K (.type "list") (.type "list") = some true := kit_ty (by decide +kernel)
theorem kt_list_dict {K : PySem.W.Frag} : PySem.W.kitOne K (.type "list") (.type "dict") = some false := kit_ty (by decide +kernel)
theorem kt_tuple_str {K : PySem.W.Frag} : PySem.W.kitOne K (.type "tuple") (.type "str") = some false := kit_ty (by decide +kernel)
theorem kt_tuple_int {K : PySem.W.Frag} : PySem.W.kitOne K (.type "tuple") (.type "int") = some false := kit_ty (by decide +kernel)
theorem kt_tuple_bool {K : PySem.W.Frag} : PySem.W.kitOne K (.type "tuple") (.type "bool") = some false := kit_ty (by decide +kernel)
theorem kt_tuple_tuple {K : PySem.W.Frag} : PySem.W.kitOne K (.type "tuple") (.type "tuple") = some true := kit_ty (by decide +kernel)
theorem kt_tuple_list {K : PySem.W.Frag} : PySem.W.kitOne K (.type "tuple") (.type "list") = some false := kit_ty (by decide +kernel)
theorem kt_tuple_dict {K : PySem.W.Frag} : PySem.W.kitOne K (.type "tuple") (.type "dict") = some false := kit_ty (by decide +kernel)
theorem kt_dict_str {K : PySem.W.Frag} : PySem.W.kitOne K (.type "dict") (.type "str") = some false := kit_ty (by decide +kernel)
theorem kt_dict_int {K : PySem.W.Frag} : PySem.W.kitOne K (.type "dict") (.type "int") = some false := kit_ty (by decide +kernel)
theorem kt_dict_bool {K : PySem.W.Frag} : PySem.W.kitOne K (.type "dict") (.type "bool") = some false := kit_ty (by decide +kernel)
theorem kt_dict_tuple {K : PySem.W.Frag} : PySem.W.kitOne K (.type "dict") (.type "tuple") = some false := kit_ty (by decide +kernel)
theorem kt_dict_list {K : PySem.W.Frag} : PySem.W.kitOne K (.type "dict") (.type "list") = some false := kit_ty (by decide +kernel)
theorem kt_dict_dict {K : PySem.W.Frag} : PySem.W.kitOne K (.type "dict") (.type "dict") = some true := kit_ty (by decide +kernel)
/-- all that was known stands -/
def Ex (H H' : Hp) : Prop := ∀ a o, H a = some o → H' a = some o
theorem Ex.refl (H : Hp) : Ex H H := fun _ _ h => h
theorem Ex.trans {H H1 H2 : Hp} (a : Ex H H1) (b : Ex H1 H2) : Ex H H2 := fun x o h => b x o (a x o h)
theorem Ex.new {H : Hp} {p : Addr} {o : HO} (h : H p = none) : Ex H (upd H p o) := fun a u e => by
  rw [upd_ne (ne_of_none e h)]
  exact e
theorem Ex.mut {H H' : Hp} {p : Addr} {o : HO} (e : Ex H H') (h : H p = none) : Ex H (upd H' p o) := fun a u ha => by
  rw [upd_ne (ne_of_none ha h)]
  exact e a u ha
theorem Ex.free {H H' : Hp} (e : Ex H H') {l : Addr} (h : H' l = Option.none) : H l = Option.none := by
  cases q : H l with
  | none => rfl
  | some o =>
    rw [e l o q] at h
    cases h
/-- all but the object at st stands -/
def But (st : Addr) (H H' : Hp) : Prop := ∀ a o, a ≠ st → H a = some o → H' a = some o
theorem But.refl {st : Addr} (H : Hp) : But st H H := fun _ _ _ h => h
theorem But.trans {st : Addr} {H H1 H2 : Hp} (a : But st H H1) (b : But st H1 H2) : But st H H2 := fun x o n h => b x o n (a x o n h)
theorem Ex.but {st : Addr} {H H' : Hp} (e : Ex H H') : But st H H' := fun a o _ h => e a o h
theorem But.mut {st : Addr} {H H' : Hp} {o : HO} (e : But st H H') : But st H (upd H' st o) := fun a u n h => by
  rw [upd_ne n]
  exact e a u n h
/-! ### data -/
theorem rd_mono {H H' : Hp} {a : Addr} {u : HO} (e : Ex H H') (h : Rd H a u) : Rd H' a u := by
  rcases h with h | ⟨o, h⟩
  · exact Or.inl (e a _ h)
  · exact Or.inr ⟨o, e a _ h⟩
theorem sqL_mono {K : PySem.W.Frag} {H H' : Hp} {a : Addr} {xs : List V} (e : Ex H H') (h : SqL K H a xs) : SqL K H' a xs := by
  rcases h with h | h
  · exact Or.inl (rd_mono e h)
  · exact Or.inr h
theorem sqT_mono {K : PySem.W.Frag} {H H' : Hp} {a : Addr} {xs : List V} (e : Ex H H') (h : SqT K H a xs) : SqT K H' a xs := by
  rcases h with h | h
  · exact Or.inl (rd_mono e h)
  · exact Or.inr h
mutual
theorem dp_mono {K : PySem.W.Frag} {H H' : Hp} (e : Ex H H') : ∀ (d : PyData) (v : V), Dp K H v d → Dp K H' v d
  | .none, _, .non => .non
  | .bool _, _, .bl b => .bl b
  | .int _, _, .int b => .int b
  | .str _, _, .str b => .str b
  | .list ds, _, .lst h1 h2 => .lst (sqL_mono e h1) (dpAll_mono e ds _ h2)
  | .tuple ds, _, .tup h1 h2 => .tup (sqT_mono e h1) (dpAll_mono e ds _ h2)
theorem dpAll_mono {K : PySem.W.Frag} {H H' : Hp} (e : Ex H H') : ∀ (ds : List PyData) (vs : List V), DpAll K H vs ds → DpAll K H' vs ds
  | [], _, .nil => .nil
  | d :: ds, _, .cons h1 h2 => .cons (dp_mono e d _ h1) (dpAll_mono e ds _ h2)
end
theorem dp_ints {K : PySem.W.Frag} {H : Hp} : ∀ ns : List Int, DpAll K H (ns.map V.int) (ns.map PyData.int)
  | [] => .nil
  | n :: ns => .cons (.int n) (dp_ints ns)
theorem lay_ints : ∀ ns : List Int, PyData.canLayAll0 (ns.map PyData.int) = true
  | [] => by simp [PyData.canLayAll0]
  | n :: ns => by
    rw [List.map_cons, PyData.canLayAll0, lay_ints ns]
    simp [PyData.canLay0]
theorem depth_ints : ∀ ns : List Int, PyData.depthAll (ns.map PyData.int) ≤ 1
  | [] => by simp [PyData.depthAll]
  | n :: ns => by
    have := depth_ints ns
    rw [List.map_cons, PyData.depthAll]
    simp [PyData.depth]
    exact this
theorem sh_ints (ns : List Int) : SeqAt.shaped (.list (ns.map PyData.int)) = true := by
  unfold SeqAt.shaped
  have h := depth_ints ns
  rw [PyData.canLay0, lay_ints ns, PyData.depth]
  simp
  omega
theorem at_ints {ns : List Int} {i : Int} (h0 : 0 ≤ i) (h1 : i < (ns.length : Int)) : ∃ z, atI (ns.map V.int) i = some (.int z) := by
  obtain ⟨j, rfl⟩ := Int.eq_ofNat_of_zero_le h0
  have hj : j < ns.length := by omega
  exact ⟨ns[j], atI_nat (by rw [List.getElem?_map, List.getElem?_eq_getElem hj]; rfl)⟩
theorem l_neNil {K : PySem.W.Frag} {H : Hp} {Q : VK} {p q : Addr} {ns : List Int} (hp : H p = some (.lst (ns.map V.int))) (hq : H q = some (.lst [])) (k : Q (.bl (!decide (ns = []))) H) : rNeA K (.ref p) (.ref q) H Q := by
  refine .inr ⟨.list (ns.map .int), .list [], .lst (SqL.of hp) (dp_ints ns), .lst (SqL.of hq) .nil, sh_ints ns, sh_ints [], ?_⟩
  have e : PyData.eqv (.list (ns.map .int)) (.list []) = decide (ns = []) := by
    cases ns <;> simp [PyData.eqv, PyData.eqvAll]
  rw [e]
  exact k
/-! ### the law's own draws -/
structure Dr (H : Hp) (st : Addr) (b : Nat) : Prop where
  ex : ∃ (L : Addr) (ns : List Int) (a c : Int), H st = some (.lst [.ref L, .int a, .int c]) ∧ H L = some (.lst (ns.map V.int)) ∧ st ≠ L ∧ 0 ≤ c ∧ c ≤ (b : Int)
theorem Dr.mono {H H' : Hp} {st : Addr} {b b' : Nat} (d : Dr H st b) (e : Ex H H') (h : b ≤ b') : Dr H' st b' := by
  obtain ⟨L, ns, a, c, h1, h2, h3, h4, h5⟩ := d.ex
  exact ⟨L, ns, a, c, e _ _ h1, e _ _ h2, h3, h4, by omega⟩
theorem Dr.up {H : Hp} {st : Addr} {b b' : Nat} (d : Dr H st b) (h : b ≤ b') : Dr H st b' := d.mono (Ex.refl H) h
/-- _law_open(script) -/
def spOpen (K : PySem.W.Frag) : Sp := fun vs H Q _ => ∃ (a : Addr) (ns : List Int), vs = [.ref a] ∧ SqL K H a (ns.map V.int) ∧ ns.length ≤ 63 ∧ ∀ (st : Addr) (H' : Hp), H st = none → Dr H' st 0 → Ex H H' → Q (.ref st) H'
/-- _law_draw(state, many): any number below many -/
def spDraw : Sp := fun vs H Q _ => ∃ (st : Addr) (n : Int) (b : Nat), vs = [.ref st, .int n] ∧ 0 < n ∧ n ≤ 10 ^ 18 ∧ Dr H st b ∧ b < 2 ^ 60 ∧
  ∀ (r : Int) (H' : Hp), 0 ≤ r → r < n → Dr H' st (b + 1) → But st H H' → Q (.int r) H'
theorem draw {st : Addr} {n : Int} {b : Nat} {H : Hp} {Q : VK} {E : XK} (hd : Dr H st b) (hn : 0 < n) (hn2 : n ≤ 10 ^ 18) (hb : b < 2 ^ 60) (q : ∀ r H', 0 ≤ r → r < n → Dr H' st (b + 1) → But st H H' → Q (.int r) H') : spDraw ([.ref st, .int n] ++ []) H Q E :=
  ⟨st, n, b, rfl, hn, hn2, hd, hb, q⟩
theorem Dr.ne {H : Hp} {st p : Addr} {b : Nat} (d : Dr H st b) (h : H p = none) : p ≠ st := by
  obtain ⟨L, ns, a, c, h1, _⟩ := d.ex
  exact (ne_of_none h1 h).symm
theorem at_str {z : Str} {i : Int} (h0 : 0 ≤ i) (h1 : i < (z.length : Int)) : ∃ c, c ∈ z.cps.toList ∧ atI z.cps.toList i = some c := by
  obtain ⟨j, rfl⟩ := Int.eq_ofNat_of_zero_le h0
  have hj : j < z.cps.toList.length := by
    rw [Array.length_toList]
    show j < z.length
    omega
  exact ⟨z.cps.toList[j], List.getElem_mem hj, atI_nat (List.getElem?_eq_getElem hj)⟩
theorem at_map {α : Type} {f : α → V} {xs : List α} {i : Int} (h0 : 0 ≤ i) (h1 : i < (xs.length : Int)) : ∃ z, z ∈ xs ∧ atI (xs.map f) i = some (f z) := by
  obtain ⟨j, rfl⟩ := Int.eq_ofNat_of_zero_le h0
  have hj : j < xs.length := by omega
  exact ⟨xs[j], List.getElem_mem hj, atI_nat (by rw [List.getElem?_map, List.getElem?_eq_getElem hj]; rfl)⟩
theorem at_list {xs : List V} {i : Int} (h0 : 0 ≤ i) (h1 : i < (xs.length : Int)) : ∃ z, z ∈ xs ∧ atI xs i = some z := by
  obtain ⟨z, h, e⟩ := at_map (f := id) h0 h1
  rw [List.map_id] at e
  exact ⟨z, h, e⟩
theorem cutV_map {α : Type} (f : α → V) (xs : List α) (lo hi : Option Int) : cutV (xs.map f) lo hi = ((xs.drop (HT.sIx xs.length 0 lo)).take (HT.sIx xs.length xs.length hi - HT.sIx xs.length 0 lo)).map f := by
  unfold cutV
  rw [List.length_map, ← List.map_drop, ← List.map_take]
theorem map_at {α : Type} {f : α → V} {xs : List α} {i : Nat} {x : V} (h : (xs.map f)[i]? = some x) : ∃ z, xs[i]? = some z ∧ x = f z := by
  rw [List.getElem?_map] at h
  cases e : xs[i]? with
  | none =>
    rw [e] at h
    cases h
  | some z =>
    rw [e] at h
    exact ⟨z, rfl, (Option.some.inj h).symm⟩
theorem take_succ {α : Type} {xs : List α} {i : Nat} {z : α} (h : xs[i]? = some z) : xs.take (i + 1) = xs.take i ++ [z] := by
  rw [List.take_add_one, h]
  rfl
end G
namespace K
open PySem PySem.Spec PyProof.Rows L2 G TL
local macro_rules | `(tactic| walk_at "side") => `(tactic| focus (first | assumption | exact rfl | omega | decide))
local macro_rules | `(tactic| walk_at "ty") => `(tactic| focus (first | exact .base (.str _) | exact .base (.int _) | exact .base (.bl _) | exact .base .non | exact .base (.lst (by assumption)) | exact .base (.tup (by assumption)) | exact .base (.dK (by assumption)) | assumption))
local macro_rules | `(tactic| walk_at "kt") => `(tactic| focus (with_reducible first | exact kt_NoneType_str | exact kt_NoneType_int | exact kt_NoneType_bool | exact kt_NoneType_tuple | exact kt_NoneType_list | exact kt_NoneType_dict | exact kt_bool_str | exact kt_bool_int | exact kt_bool_bool | exact kt_bool_tuple | exact kt_bool_list | exact kt_bool_dict | exact kt_int_str | exact kt_int_int | exact kt_int_bool | exact kt_int_tuple | exact kt_int_list | exact kt_int_dict | exact kt_str_str | exact kt_str_int | exact kt_str_bool | exact kt_str_tuple | exact kt_str_list | exact kt_str_dict | exact kt_list_str | exact kt_list_int | exact kt_list_bool | exact kt_list_tuple | exact kt_list_list | exact kt_list_dict | exact kt_tuple_str | exact kt_tuple_int | exact kt_tuple_bool | exact kt_tuple_tuple | exact kt_tuple_list | exact kt_tuple_dict | exact kt_dict_str | exact kt_dict_int | exact kt_dict_bool | exact kt_dict_tuple | exact kt_dict_list | exact kt_dict_dict | assumption))
local macro_rules | `(tactic| walk_at "1") => `(tactic| first
  | (with_reducible refine i_seq ?_)
  | (with_reducible refine iteT ?_)
  | (with_reducible refine iteF ?_)
  | (with_reducible refine iteNF ?_)
  | (with_reducible refine iteNT ?_)
  | (with_reducible refine i_asg ?_)
  | (with_reducible refine i_op ?_)
  | (with_reducible refine i_c ?_)
  | ((with_reducible apply i_var); (exact rfl))
  | (with_reducible refine i_cb ?_)
  | (with_reducible refine i_cons ?_)
  | (with_reducible refine i_nil ?_)
  | (with_reducible refine i_test ?_)
  | (with_reducible refine i_b ?_)
  | (with_reducible refine i_bl ?_)
  | (with_reducible refine i_name ?_)
  | (with_reducible refine i_ifS ?_)
  | (with_reducible refine i_next ?_)
  | (with_reducible refine i_ret ?_)
  | (with_reducible refine i_drop ?_)
  | (with_reducible refine i_lst ?_)
  | (with_reducible refine i_tup ?_)
  | (with_reducible refine i_and ?_)
  | (with_reducible refine i_or ?_)
  | (with_reducible refine i_not ?_)
  | (with_reducible refine i_andV ?_)
  | (with_reducible refine i_orV ?_)
  | (with_reducible refine i_notV ?_)
  | (with_reducible refine i_if ?_)
  | (with_reducible refine i_chain ?_)
  | (with_reducible refine i_un ?_)
  | (with_reducible refine i_neg ?_)
  | (with_reducible refine i_sub ?_)
  | (with_reducible refine i_sl ?_)
  | (with_reducible refine i_noP ?_)
  | (with_reducible refine i_part ?_)
  | (with_reducible refine i_int ?_)
  | (with_reducible refine i_bm ?_)
  | (with_reducible refine i_strT ?_)
  | (with_reducible refine i_yes ?_)
  | (with_reducible refine i_call ?_)
  | ((with_reducible refine i_len ?_ ?_); (focus (exact sz (by simp))))
  | (with_reducible refine i_lc ?_)
  | (with_reducible refine i_for ?_)
  | (with_reducible refine i_rng1 ?_)
  | (with_reducible refine i_rng2 ?_)
  | (with_reducible refine l_addI ?_)
  | (with_reducible refine l_subI ?_)
  | (with_reducible refine l_cmp ?_)
  | (with_reducible refine l_eqI ?_)
  | (with_reducible refine l_eqS ?_)
  | (with_reducible refine l_eqB ?_)
  | (with_reducible refine l_neI ?_)
  | (with_reducible refine l_neS ?_)
  | (with_reducible refine l_neB ?_)
  | (with_reducible refine l_isN ?_)
  | (with_reducible refine l_isNotN ?_)
  | (with_reducible refine l_isB ?_)
  | (with_reducible refine l_isNotB ?_)
  | (with_reducible refine l_intI ?_)
  | (with_reducible refine l_intB ?_)
  | (with_reducible refine l_inC ?_)
  | (refine ⟨_, _, rfl, rfl, sz (by first | omega | simp; omega), ?_⟩)
  | ((with_reducible refine l_pow ?_ ?_); (focus (exact ⟨by decide, by decide, by decide⟩)))
  | ((with_reducible refine l_mul ?_ ?_); (focus (first | assumption | exact Or.inl (Or.inl ⟨by omega, by omega⟩) | exact Or.inl (Or.inr ⟨by omega, by omega⟩))))
  | ((with_reducible refine l_div ?_ ?_); (focus (first | assumption | exact ⟨by decide, by decide⟩)))
  | ((with_reducible apply l_setL); (assumption); (exact rfl))
  | ((with_reducible refine l_mod ?_ ?_); (walk_at "side"))
  | ((with_reducible apply l_ixL); (assumption); (exact rfl))
  | ((with_reducible refine l_lenS ?_ ?_); (focus (first | assumption | exact sz (by omega) | exact sz (by simp; omega))))
  | ((with_reducible refine l_slS ?_ ?_); (focus (first | assumption | exact sz (by omega))))
  | ((with_reducible apply l_isi); (walk_at "ty"); (walk_at "kt"))
  | ((with_reducible apply l_lenL); (assumption)))
local macro_rules | `(tactic| walk_at "go") => `(tactic| repeat (walk_at "1"))
section
variable {P : Program} {w : World} {K : PySem.W.Frag} {mg : Str → Option Value} {base : Heap}
def topS (i : Nat) : Stmt := PySem.Challenge.pw_roundrules_k10_names_and_integers.main.body.getD i (.Pass ⟨0, 0, 0, 0⟩)
abbrev s_is_name : Stmt := topS 5
theorem sc_is_name : FnScope ["value"] ["value"] (defScope s_is_name) := ⟨rfl, rfl, rfl, by decide +kernel, rfl, by decide +kernel, by decide +kernel⟩
abbrev s_number_of : Stmt := topS 6
theorem sc_number_of : FnScope ["word", "digits"] ["word"] (defScope s_number_of) := ⟨rfl, rfl, rfl, by decide +kernel, rfl, by decide +kernel, by decide +kernel⟩
abbrev s__law_open : Stmt := topS 8
theorem sc__law_open : FnScope ["_law_script", "_law_one"] ["_law_script"] (defScope s__law_open) := ⟨rfl, rfl, rfl, by decide +kernel, rfl, by decide +kernel, by decide +kernel⟩
abbrev s__law_draw : Stmt := topS 9
theorem sc__law_draw : FnScope ["_law_state", "_law_many", "_law_drawn", "_law_first", "_law_value"] ["_law_state", "_law_many"] (defScope s__law_draw) := ⟨rfl, rfl, rfl, by decide +kernel, rfl, by decide +kernel, by decide +kernel⟩
abbrev s__law_keywords : Stmt := topS 10
theorem sc__law_keywords : FnScope [] [] (defScope s__law_keywords) := ⟨rfl, rfl, rfl, by decide +kernel, rfl, by decide +kernel, by decide +kernel⟩
abbrev s__law_string : Stmt := topS 11
theorem sc__law_string : FnScope ["_law_state", "_law_kind", "_law_word", "_law_at", "_law_turn", "_law_signs"] ["_law_state"] (defScope s__law_string) := ⟨rfl, rfl, rfl, by decide +kernel, rfl, by decide +kernel, by decide +kernel⟩
abbrev s__law_is_name : Stmt := topS 12
theorem sc__law_is_name : FnScope ["_law_word", "_law_letters", "_law_sign"] ["_law_word"] (defScope s__law_is_name) := ⟨rfl, rfl, rfl, by decide +kernel, rfl, by decide +kernel, by decide +kernel⟩
abbrev s__law_integer : Stmt := topS 13
theorem sc__law_integer : FnScope ["_law_state", "_law_number", "_law_turn"] ["_law_state"] (defScope s__law_integer) := ⟨rfl, rfl, rfl, by decide +kernel, rfl, by decide +kernel, by decide +kernel⟩
abbrev s__law_written : Stmt := topS 14
theorem sc__law_written : FnScope ["_law_state", "_law_number", "_law_kind", "_law_word", "_law_at", "_law_sign"] ["_law_state", "_law_number"] (defScope s__law_written) := ⟨rfl, rfl, rfl, by decide +kernel, rfl, by decide +kernel, by decide +kernel⟩
abbrev s__law_due : Stmt := topS 15
theorem sc__law_due : FnScope ["_law_word", "_law_digits", "_law_sign"] ["_law_word"] (defScope s__law_due) := ⟨rfl, rfl, rfl, by decide +kernel, rfl, by decide +kernel, by decide +kernel⟩
abbrev s_law : Stmt := topS 16
theorem sc_law : FnScope ["_law_script", "_law_state", "_law_turn", "_law_word", "_law_answer", "_law_written_here", "_law_due_here", "_law_actual", "_law_value"] ["_law_script"] (defScope s_law) := ⟨rfl, rfl, rfl, by decide +kernel, rfl, by decide +kernel, by decide +kernel⟩
/-- what the top has written -/
structure Tp (K : PySem.W.Frag) (mg : Str → Option Value) (a_KEYWORDS : Addr) : Prop where
  m_bool : mg "bool" = none
  m_int : mg "int" = none
  m_isinstance : mg "isinstance" = none
  m_len : mg "len" = none
  m_range : mg "range" = none
  m_str : mg "str" = none
  c_LETTERS : ∃ u, mg "LETTERS" = some u ∧ RelV (.str "abcdefghijklmnopqrstuvwxyz") u
  c_DIGITS : ∃ u, mg "DIGITS" = some u ∧ RelV (.str "0123456789") u
  c_MOST_DIGITS : ∃ u, mg "MOST_DIGITS" = some u ∧ RelV (.int (40)) u
  c_KEYWORDS : ∃ u, mg "KEYWORDS" = some u ∧ RelV (.ref a_KEYWORDS) u
  t_KEYWORDS : ∀ H : Hp, SqT K H a_KEYWORDS [.str "loop", .str "from", .str "read", .str "to", .str "below", .str "by", .str "say", .str "add", .str "widen", .str "ask", .str "else", .str "break", .str "next", .str "make", .str "call"]
  d_is_name : Dd K mg "is_name" s_is_name ["value"]
  d_number_of : Dd K mg "number_of" s_number_of ["word"]
  d__law_open : Dd K mg "_law_open" s__law_open ["_law_script"]
  d__law_draw : Dd K mg "_law_draw" s__law_draw ["_law_state", "_law_many"]
  d__law_keywords : Dd K mg "_law_keywords" s__law_keywords []
  d__law_string : Dd K mg "_law_string" s__law_string ["_law_state"]
  d__law_is_name : Dd K mg "_law_is_name" s__law_is_name ["_law_word"]
  d__law_integer : Dd K mg "_law_integer" s__law_integer ["_law_state"]
  d__law_written : Dd K mg "_law_written" s__law_written ["_law_state", "_law_number"]
  d__law_due : Dd K mg "_law_due" s__law_due ["_law_word"]
  d_law : Dd K mg "law" s_law ["_law_script"]
end
end K
namespace K
open PySem PySem.Spec PyProof.Rows L2 G TL
local macro_rules | `(tactic| walk_at "side") => `(tactic| focus (first | assumption | exact rfl | omega | decide))
local macro_rules | `(tactic| walk_at "ty") => `(tactic| focus (first | exact .base (.str _) | exact .base (.int _) | exact .base (.bl _) | exact .base .non | exact .base (.lst (by assumption)) | exact .base (.tup (by assumption)) | exact .base (.dK (by assumption)) | assumption))
local macro_rules | `(tactic| walk_at "kt") => `(tactic| focus (with_reducible first | exact kt_NoneType_str | exact kt_NoneType_int | exact kt_NoneType_bool | exact kt_NoneType_tuple | exact kt_NoneType_list | exact kt_NoneType_dict | exact kt_bool_str | exact kt_bool_int | exact kt_bool_bool | exact kt_bool_tuple | exact kt_bool_list | exact kt_bool_dict | exact kt_int_str | exact kt_int_int | exact kt_int_bool | exact kt_int_tuple | exact kt_int_list | exact kt_int_dict | exact kt_str_str | exact kt_str_int | exact kt_str_bool | exact kt_str_tuple | exact kt_str_list | exact kt_str_dict | exact kt_list_str | exact kt_list_int | exact kt_list_bool | exact kt_list_tuple | exact kt_list_list | exact kt_list_dict | exact kt_tuple_str | exact kt_tuple_int | exact kt_tuple_bool | exact kt_tuple_tuple | exact kt_tuple_list | exact kt_tuple_dict | exact kt_dict_str | exact kt_dict_int | exact kt_dict_bool | exact kt_dict_tuple | exact kt_dict_list | exact kt_dict_dict | assumption))
local macro_rules | `(tactic| walk_at "1") => `(tactic| first
  | (with_reducible refine i_seq ?_)
  | (with_reducible refine iteT ?_)
  | (with_reducible refine iteF ?_)
  | (with_reducible refine iteNF ?_)
  | (with_reducible refine iteNT ?_)
  | (with_reducible refine i_asg ?_)
  | (with_reducible refine i_op ?_)
  | (with_reducible refine i_c ?_)
  | ((with_reducible apply i_var); (exact rfl))
  | (with_reducible refine i_cb ?_)
  | (with_reducible refine i_cons ?_)
  | (with_reducible refine i_nil ?_)
  | (with_reducible refine i_test ?_)
  | (with_reducible refine i_b ?_)
  | (with_reducible refine i_bl ?_)
  | (with_reducible refine i_name ?_)
  | (with_reducible refine i_ifS ?_)
  | (with_reducible refine i_next ?_)
  | (with_reducible refine i_ret ?_)
  | (with_reducible refine i_drop ?_)
  | (with_reducible refine i_lst ?_)
  | (with_reducible refine i_tup ?_)
  | (with_reducible refine i_and ?_)
  | (with_reducible refine i_or ?_)
  | (with_reducible refine i_not ?_)
  | (with_reducible refine i_andV ?_)
  | (with_reducible refine i_orV ?_)
  | (with_reducible refine i_notV ?_)
  | (with_reducible refine i_if ?_)
  | (with_reducible refine i_chain ?_)
  | (with_reducible refine i_un ?_)
  | (with_reducible refine i_neg ?_)
  | (with_reducible refine i_sub ?_)
  | (with_reducible refine i_sl ?_)
  | (with_reducible refine i_noP ?_)
  | (with_reducible refine i_part ?_)
  | (with_reducible refine i_int ?_)
  | (with_reducible refine i_bm ?_)
  | (with_reducible refine i_strT ?_)
  | (with_reducible refine i_yes ?_)
  | (with_reducible refine i_call ?_)
  | ((with_reducible refine i_len ?_ ?_); (focus (exact sz (by simp))))
  | (with_reducible refine i_lc ?_)
  | (with_reducible refine i_for ?_)
  | (with_reducible refine i_rng1 ?_)
  | (with_reducible refine i_rng2 ?_)
  | (with_reducible refine l_addI ?_)
  | (with_reducible refine l_subI ?_)
  | (with_reducible refine l_cmp ?_)
  | (with_reducible refine l_eqI ?_)
  | (with_reducible refine l_eqS ?_)
  | (with_reducible refine l_eqB ?_)
  | (with_reducible refine l_neI ?_)
  | (with_reducible refine l_neS ?_)
  | (with_reducible refine l_neB ?_)
  | (with_reducible refine l_isN ?_)
  | (with_reducible refine l_isNotN ?_)
  | (with_reducible refine l_isB ?_)
  | (with_reducible refine l_isNotB ?_)
  | (with_reducible refine l_intI ?_)
  | (with_reducible refine l_intB ?_)
  | (with_reducible refine l_inC ?_)
  | (refine ⟨_, _, rfl, rfl, sz (by first | omega | simp; omega), ?_⟩)
  | ((with_reducible refine l_pow ?_ ?_); (focus (exact ⟨by decide, by decide, by decide⟩)))
  | ((with_reducible refine l_mul ?_ ?_); (focus (first | assumption | exact Or.inl (Or.inl ⟨by omega, by omega⟩) | exact Or.inl (Or.inr ⟨by omega, by omega⟩))))
  | ((with_reducible refine l_div ?_ ?_); (focus (first | assumption | exact ⟨by decide, by decide⟩)))
  | ((with_reducible apply l_setL); (assumption); (exact rfl))
  | ((with_reducible refine l_mod ?_ ?_); (walk_at "side"))
  | ((with_reducible apply l_ixL); (assumption); (exact rfl))
  | ((with_reducible refine l_lenS ?_ ?_); (focus (first | assumption | exact sz (by omega) | exact sz (by simp; omega))))
  | ((with_reducible refine l_slS ?_ ?_); (focus (first | assumption | exact sz (by omega))))
  | ((with_reducible apply l_isi); (walk_at "ty"); (walk_at "kt"))
  | ((with_reducible apply l_lenL); (assumption)))
local macro_rules | `(tactic| walk_at "go") => `(tactic| repeat (walk_at "1"))
section
variable {P : Program} {w : World} {K : PySem.W.Frag} {mg : Str → Option Value} {base : Heap}
set_option maxHeartbeats 2000000 in
theorem ok_open {a_KEYWORDS : Addr} (T : Tp K mg a_KEYWORDS) : Cal P w K mg base 1 "_law_open" (spOpen K) [] := by
  refine T.d__law_open.cal sc__law_open (fun vs H Q E h => ?_) (fun f cdv A outer s H vs Q E hr h => ?_)
  · obtain ⟨a, ns, rfl, _⟩ := h
    rfl
  · obtain ⟨a, ns, rfl, hS, hl, q⟩ := h
    have sc := sc__law_open
    refine ⟨_, 
    (pss_one (ps_ret (pe_lst (pa_cons (pe_lc (own := [("_law_one", 1)]) (by rfl) sc.nd (kIT (K := K) rfl (pe_slice (kSl (K := K) rfl) (pv 0) po_none (po_some (pe_int)))) (blkOk_by (N := ["_law_script", "_law_one"]) (sc := defScope s__law_open) (by decide +kernel)) (fun _ _ _ _ _ => pg_name (i := 1) sc.nd rfl (by first | exact Or.inl rfl | exact Or.inr rfl)) (fun _ _ _ _ _ => pts_nil) (fun _ _ _ _ _ => pe_callTy g_int (by rfl) T.m_int (by decide +kernel) (pa_cons (pv 1) pa_nil))) (pa_cons (pe_int) (pa_cons (pe_int) pa_nil)))))), ?_⟩
    try rw [cxK]
    refine i_start (τ := [some (.ref a), none]) rfl ?_
    walk_at "go"
    refine i_anyL ?_
    walk_at "go"
    refine l_slL hS (fun p hp => ?_)
    rw [cutV_map]
    generalize hzs : ((ns.drop (HT.sIx ns.length 0 none)).take (HT.sIx ns.length ns.length (some 63) - HT.sIx ns.length 0 none)) = zs
    have hp1 : upd H p (.lst (zs.map V.int)) p = some (.lst (zs.map V.int)) := upd_same
    have hzl : zs.length ≤ 63 := by
      rw [← hzs, List.length_take, List.length_drop]
      omega
    refine ⟨p, rfl, ⟨_, SqL.of hp1⟩, fun D hD => lc_list (K := K) (a := p) (xs := zs.map V.int) (fun i H' => H' p = some (.lst (zs.map V.int)) ∧ H' D = some (.lst ((zs.take i).map V.int)) ∧ Ex H H') ?_ ?_ ?_ ?_⟩
    · exact ⟨Ex.new hD _ _ hp1, upd_same, (Ex.new hp).trans (Ex.new hD)⟩
    · rintro i H' _ ⟨h1, h2, h3⟩
      exact SqL.of h1
    · rintro i x H' hx ⟨h1, h2, h3⟩
      obtain ⟨z, hz, rfl⟩ := map_at hx
      walk_at "go"
      refine ⟨rfl, ?_⟩
      walk_at "go"
      have nD : H D = none := (Ex.new hp).free hD
      have npD : p ≠ D := ne_of_none hp1 hD
      refine ⟨_, h2, szl (by rw [List.length_map, List.length_take]; omega), by rw [upd_ne npD]; exact h1, ?_, h3.mut nD⟩
      rw [upd_same, take_succ hz]
      simp
    · rintro H' ⟨h1, h2, h3⟩
      walk_at "go"
      intro st hst
      rw [List.length_map, List.take_length] at h2
      exact q st _ (h3.free hst) ⟨D, zs, 0, 0, upd_same, Ex.new hst _ _ h2, (ne_of_none h2 hst).symm, by omega, by omega⟩ (h3.trans (Ex.new hst))
set_option maxHeartbeats 2000000 in
theorem ok_draw {a_KEYWORDS : Addr} (T : Tp K mg a_KEYWORDS) : Cal P w K mg base 1 "_law_draw" spDraw [] := by
  refine T.d__law_draw.cal sc__law_draw (fun vs H Q E h => ?_) (fun f cdv A outer s H vs Q E hr h => ?_)
  · obtain ⟨st, n, b, rfl, _⟩ := h
    rfl
  · obtain ⟨st, n, b, rfl, hn, hn2, ⟨L, ns, a, c, hst, hL, hne, hc0, hcb⟩, hb, q⟩ := h
    have sc := sc__law_draw
    refine ⟨_, 
    (pss_cut (ps_if (pt_cmpR gLe (pe_ix (kIx (K := K) rfl) (pv 0) (pe_int) (fun _ _ => rfl)) (pe_int) (nomark _)) (
      (pss_cons (ps_set (i := 2) sc.nd rfl (by first | exact Or.inl rfl | exact Or.inr rfl) (pe_int))
      (pss_cut (ps_if (pt_cmpR (kNe (K := K) rfl hr) (pe_ix (kIx (K := K) rfl) (pv 0) (pe_int) (fun _ _ => rfl)) (pe_lst (pa_nil)) (nomark _)) (
        (pss_one (ps_set (i := 2) sc.nd rfl (by first | exact Or.inl rfl | exact Or.inr rfl) (pe_ix (kIx (K := K) rfl) (pe_ix (kIx (K := K) rfl) (pv 0) (pe_int) (fun _ _ => rfl)) (pe_op gMod (pe_callTy g_int (by rfl) T.m_int (by decide +kernel) (pa_cons (pe_ix (kIx (K := K) rfl) (pv 0) (pe_int) (fun _ _ => rfl)) pa_nil)) (pe_callB (kLen (K := K) rfl) (by rfl) T.m_len PySem.boot_len (pa_cons (pe_ix (kIx (K := K) rfl) (pv 0) (pe_int) (fun _ _ => rfl)) pa_nil))) (fun _ _ => rfl))))) (pss_nil))
      (pss_cons (ps_asg (pe_op (kAdd (K := K) rfl) (pe_ix (kIx (K := K) rfl) (pv 0) (pe_int) (fun _ _ => rfl)) (pe_int)) (pg_sub (pv 0) (pe_int) set_list))
      (pss_cons (ps_if (pt_cmpR gLt (pv 2) (pe_op gPow (pe_int) (pe_int)) (nomark _)) (
        (pss_cons (ps_set (i := 3) sc.nd rfl (by first | exact Or.inl rfl | exact Or.inr rfl) (pe_op gMod (pe_callTy g_int (by rfl) T.m_int (by decide +kernel) (pa_cons (pe_op (kAdd (K := K) rfl) (pe_op (kAdd (K := K) rfl) (pe_op gMul (pv 2) (pe_int)) (pe_op gMul (pe_ix (kIx (K := K) rfl) (pv 0) (pe_int) (fun _ _ => rfl)) (pe_int))) (pe_int)) pa_nil)) (pe_int)))
        (pss_one (ps_ret (pe_op gMod (pe_op gDiv (pe_op gMod (pe_callTy g_int (by rfl) T.m_int (by decide +kernel) (pa_cons (pe_op (kAdd (K := K) rfl) (pe_op gMul (pv 3) (pe_int)) (pe_op gMul (pe_op gMul (pe_ix (kIx (K := K) rfl) (pv 0) (pe_int) (fun _ _ => rfl)) (pe_ix (kIx (K := K) rfl) (pv 0) (pe_int) (fun _ _ => rfl))) (pe_int))) pa_nil)) (pe_int)) (pe_int)) (pv 1)))))) (pss_nil))
      (pss_one (ps_asg (pv 2) (pg_sub (pv 0) (pe_int) set_list)))))))) (pss_nil))
    (pss_cons (ps_set (i := 4) sc.nd rfl (by first | exact Or.inl rfl | exact Or.inr rfl) (pe_op gMod (pe_callTy g_int (by rfl) T.m_int (by decide +kernel) (pa_cons (pe_ix (kIx (K := K) rfl) (pv 0) (pe_int) (fun _ _ => rfl)) pa_nil)) (pv 1)))
    (pss_cons (ps_asg (pe_op gDiv (pe_callTy g_int (by rfl) T.m_int (by decide +kernel) (pa_cons (pe_ix (kIx (K := K) rfl) (pv 0) (pe_int) (fun _ _ => rfl)) pa_nil)) (pv 1)) (pg_sub (pv 0) (pe_int) set_list))
    (pss_one (ps_ret (pv 4)))))), ?_⟩
    try rw [cxK]
    refine i_start (τ := [some (.ref st), some (.int n), none, none, none]) rfl ?_
    refine ⟨fun σ H' => ∃ (v2 v3 v4 : Option V) (a' c' : Int), σ = [some (.ref st), some (.int n), v2, v3, v4] ∧ H' st = some (.lst [.ref L, .int a', .int c']) ∧ H' L = some (.lst (ns.map V.int)) ∧ 0 ≤ c' ∧ c' ≤ (b : Int) + 1 ∧ But st H H', ?_, ?_⟩
    · walk_at "go"
      refine i_ite (fun ha => ?_) (fun ha => ?_)
      · walk_at "go"
        refine ⟨fun σ H' => ∃ (z : Int), σ = [some (.ref st), some (.int n), some (.int z), none, none] ∧ H' st = some (.lst [.ref L, .int a, .int c]) ∧ H' L = some (.lst (ns.map V.int)) ∧ But st H H', ?_, ?_⟩
        · walk_at "go"
          intro p hp
          have hst1 : upd H p (.lst []) st = some (.lst [.ref L, .int a, .int c]) := Ex.new hp _ _ hst
          have hL1 : upd H p (.lst []) L = some (.lst (ns.map V.int)) := Ex.new hp _ _ hL
          refine l_neNil hL1 upd_same ?_
          walk_at "go"
          refine i_iteN (fun h0 => ?_) (fun h0 => ?_)
          · have hl : 0 < ((ns.map V.int).length : Int) := by
              rw [List.length_map]
              have := List.length_pos_iff.mpr h0
              omega
            walk_at "go"
            obtain ⟨z, hz⟩ := at_ints (ns := ns) (i := c % ((ns.map V.int).length : Int)) (Int.emod_nonneg _ (by omega)) (by
              have := Int.emod_lt_of_pos c hl
              rw [List.length_map] at this ⊢
              exact this)
            refine l_ixL hL1 hz ?_
            walk_at "go"
            exact ⟨z, rfl, hst1, hL1, (Ex.new hp).but⟩
          · walk_at "go"
            exact ⟨0, rfl, hst1, hL1, (Ex.new hp).but⟩
        · rintro σ H' ⟨z, rfl, h1, h2, h5⟩
          walk_at "go"
          have h1' : upd H' st (.lst [.ref L, .int a, .int (c + 1)]) st = some (.lst [.ref L, .int a, .int (c + 1)]) := upd_same
          have h2' : upd H' st (.lst [.ref L, .int a, .int (c + 1)]) L = some (.lst (ns.map V.int)) := by
            rw [upd_ne hne.symm]
            exact h2
          refine i_ite (fun hz => ?_) (fun hz => ?_)
          · walk_at "go"
            exact q _ _ (Int.emod_nonneg _ (by omega)) (Int.emod_lt_of_pos _ hn) ⟨L, ns, _, _, h1', h2', hne, by omega, by omega⟩ h5.mut
          · walk_at "go"
            exact ⟨_, _, _, _, _, rfl, upd_same, by rw [upd_ne hne.symm]; exact h2', by omega, by omega, h5.mut.mut⟩
      · walk_at "go"
        exact ⟨_, _, _, _, _, rfl, hst, hL, hc0, by omega, But.refl H⟩
    · rintro σ H' ⟨v2, v3, v4, a', c', rfl, h1, h2, h3, h4, h5⟩
      have hdv : CDivW a' n := wide_div (b := 64) hn (by omega) (by decide) (by decide)
      walk_at "go"
      exact q _ _ (Int.emod_nonneg _ (by omega)) (Int.emod_lt_of_pos _ hn) ⟨L, ns, _, _, upd_same, by rw [upd_ne hne.symm]; exact h2, hne, h3, by omega⟩ h5.mut
end
end K
namespace K
open PySem PySem.Spec PyProof.Rows L2 G TL
local macro_rules | `(tactic| walk_at "side") => `(tactic| focus (first | assumption | exact rfl | omega | decide))
local macro_rules | `(tactic| walk_at "ty") => `(tactic| focus (first | exact .base (.str _) | exact .base (.int _) | exact .base (.bl _) | exact .base .non | exact .base (.lst (by assumption)) | exact .base (.tup (by assumption)) | exact .base (.dK (by assumption)) | assumption))
local macro_rules | `(tactic| walk_at "kt") => `(tactic| focus (with_reducible first | exact kt_NoneType_str | exact kt_NoneType_int | exact kt_NoneType_bool | exact kt_NoneType_tuple | exact kt_NoneType_list | exact kt_NoneType_dict | exact kt_bool_str | exact kt_bool_int | exact kt_bool_bool | exact kt_bool_tuple | exact kt_bool_list | exact kt_bool_dict | exact kt_int_str | exact kt_int_int | exact kt_int_bool | exact kt_int_tuple | exact kt_int_list | exact kt_int_dict | exact kt_str_str | exact kt_str_int | exact kt_str_bool | exact kt_str_tuple | exact kt_str_list | exact kt_str_dict | exact kt_list_str | exact kt_list_int | exact kt_list_bool | exact kt_list_tuple | exact kt_list_list | exact kt_list_dict | exact kt_tuple_str | exact kt_tuple_int | exact kt_tuple_bool | exact kt_tuple_tuple | exact kt_tuple_list | exact kt_tuple_dict | exact kt_dict_str | exact kt_dict_int | exact kt_dict_bool | exact kt_dict_tuple | exact kt_dict_list | exact kt_dict_dict | assumption))
local macro_rules | `(tactic| walk_at "1") => `(tactic| first
  | (with_reducible refine i_seq ?_)
  | (with_reducible refine iteT ?_)
  | (with_reducible refine iteF ?_)
  | (with_reducible refine iteNF ?_)
  | (with_reducible refine iteNT ?_)
  | (with_reducible refine i_asg ?_)
  | (with_reducible refine i_op ?_)
  | (with_reducible refine i_c ?_)
  | ((with_reducible apply i_var); (exact rfl))
  | (with_reducible refine i_cb ?_)
  | (with_reducible refine i_cons ?_)
  | (with_reducible refine i_nil ?_)
  | (with_reducible refine i_test ?_)
  | (with_reducible refine i_b ?_)
  | (with_reducible refine i_bl ?_)
  | (with_reducible refine i_name ?_)
  | (with_reducible refine i_ifS ?_)
  | (with_reducible refine i_next ?_)
  | (with_reducible refine i_ret ?_)
  | (with_reducible refine i_drop ?_)
  | (with_reducible refine i_lst ?_)
  | (with_reducible refine i_tup ?_)
  | (with_reducible refine i_and ?_)
  | (with_reducible refine i_or ?_)
  | (with_reducible refine i_not ?_)
  | (with_reducible refine i_andV ?_)
  | (with_reducible refine i_orV ?_)
  | (with_reducible refine i_notV ?_)
  | (with_reducible refine i_if ?_)
  | (with_reducible refine i_chain ?_)
  | (with_reducible refine i_un ?_)
  | (with_reducible refine i_neg ?_)
  | (with_reducible refine i_sub ?_)
  | (with_reducible refine i_sl ?_)
  | (with_reducible refine i_noP ?_)
  | (with_reducible refine i_part ?_)
  | (with_reducible refine i_int ?_)
  | (with_reducible refine i_bm ?_)
  | (with_reducible refine i_strT ?_)
  | (with_reducible refine i_yes ?_)
  | (with_reducible refine i_call ?_)
  | ((with_reducible refine i_len ?_ ?_); (focus (exact sz (by simp))))
  | (with_reducible refine i_lc ?_)
  | (with_reducible refine i_for ?_)
  | (with_reducible refine i_rng1 ?_)
  | (with_reducible refine i_rng2 ?_)
  | (with_reducible refine l_addI ?_)
  | (with_reducible refine l_subI ?_)
  | (with_reducible refine l_cmp ?_)
  | (with_reducible refine l_eqI ?_)
  | (with_reducible refine l_eqS ?_)
  | (with_reducible refine l_eqB ?_)
  | (with_reducible refine l_neI ?_)
  | (with_reducible refine l_neS ?_)
  | (with_reducible refine l_neB ?_)
  | (with_reducible refine l_isN ?_)
  | (with_reducible refine l_isNotN ?_)
  | (with_reducible refine l_isB ?_)
  | (with_reducible refine l_isNotB ?_)
  | (with_reducible refine l_intI ?_)
  | (with_reducible refine l_intB ?_)
  | (with_reducible refine l_inC ?_)
  | (refine ⟨_, _, rfl, rfl, sz (by first | omega | simp; omega), ?_⟩)
  | ((with_reducible refine l_pow ?_ ?_); (focus (exact ⟨by decide, by decide, by decide⟩)))
  | ((with_reducible refine l_mul ?_ ?_); (focus (first | assumption | exact Or.inl (Or.inl ⟨by omega, by omega⟩) | exact Or.inl (Or.inr ⟨by omega, by omega⟩))))
  | ((with_reducible refine l_div ?_ ?_); (focus (first | assumption | exact ⟨by decide, by decide⟩)))
  | ((with_reducible apply l_setL); (assumption); (exact rfl))
  | ((with_reducible refine l_mod ?_ ?_); (walk_at "side"))
  | ((with_reducible apply l_ixL); (assumption); (exact rfl))
  | ((with_reducible refine l_lenS ?_ ?_); (focus (first | assumption | exact sz (by omega) | exact sz (by simp; omega))))
  | ((with_reducible refine l_slS ?_ ?_); (focus (first | assumption | exact sz (by omega))))
  | ((with_reducible apply l_isi); (walk_at "ty"); (walk_at "kt"))
  | ((with_reducible apply l_lenL); (assumption)))
local macro_rules | `(tactic| walk_at "go") => `(tactic| repeat (walk_at "1"))
section
variable {P : Program} {w : World} {K : PySem.W.Frag} {mg : Str → Option Value} {base : Heap}
def KW : List Str := ["loop", "from", "read", "to", "below", "by", "say", "add", "widen", "ask", "else", "break", "next", "make", "call"]
def letters : Str := "abcdefghijklmnopqrstuvwxyz"
def digits : Str := "0123456789"
/-- what is a name -/
def nameOk (z : Str) : Bool := decide ((1 : Int) ≤ z.length) && decide ((z.length : Int) ≤ 8) && z.cps.toList.all (fun c => decide (c ∈ letters.cps.toList)) && !KW.contains z
theorem inV_strs (z : Str) : ∀ l : List Str, inV (.str z) (l.map V.str) = l.contains z
  | [] => rfl
  | a :: l => by
    have ih := inV_strs z l
    unfold inV at ih ⊢
    rw [List.map_cons, List.any_cons, ih, List.contains_cons]
    show (a == z || _) = _
    rw [Bool.beq_comm]
theorem flat_strs : ∀ l : List Str, (l.map V.str).all flatV = true
  | [] => rfl
  | a :: l => by
    rw [List.map_cons, List.all_cons, flat_strs l]
    rfl
theorem sub_len (x : Str) (lo hi : Nat) (h : lo ≤ hi) (h2 : hi ≤ x.length) : (Builtin.Str.strSub x lo hi).length = hi - lo := by
  unfold Builtin.Str.strSub
  simp [Str.length] at h2 ⊢
  omega
theorem str_nil (x : Str) : x = "" ↔ x.length = 0 := by
  constructor
  · intro h
    rw [h]
    rfl
  · intro h
    refine ext_tl ?_
    rw [len_tl] at h
    rw [List.length_eq_zero_iff.mp h]
    rfl
theorem mem_getD (x : Str) {c : Nat} (h : c ∈ x.cps.toList) : ∃ k, k < x.length ∧ x.cps.getD k 0 = c := by
  obtain ⟨k, e⟩ := List.mem_iff_getElem?.mp h
  have hk := (List.getElem?_eq_some_iff.mp e).1
  refine ⟨k, by rw [len_tl]; exact hk, ?_⟩
  rw [← getD_list, List.getD, e]
  rfl
theorem getD_mem (x : Str) {k : Nat} (h : k < x.length) : x.cps.getD k 0 ∈ x.cps.toList := by
  rw [len_tl] at h
  rw [← getD_list, List.getD, List.getElem?_eq_getElem h]
  exact List.getElem_mem h
/-- x.strip(signs) == '' -/
theorem strip_nil (x y : Str) : Txt.stripChars x y = "" ↔ ∀ c ∈ x.cps.toList, c ∈ y.cps.toList := by
  unfold Txt.stripChars
  rw [PyProof.Rows.stripBy_eq, str_nil]
  obtain ⟨h1, h2, h3⟩ := lo_facts (y.cps.contains) x
  generalize stripLo y.cps.contains true x = lo at h1 h2 h3
  obtain ⟨h4, h5, h6, h7⟩ := hi_facts (y.cps.contains) x lo h1
  generalize stripHi y.cps.contains true x lo = hi at h4 h5 h6 h7
  rw [sub_len x lo hi h4 h5]
  have mem : ∀ c, y.cps.contains c = true ↔ c ∈ y.cps.toList := fun c => by simp
  constructor
  · intro h c hc
    have e : lo = hi := by omega
    subst e
    obtain ⟨k, hk, rfl⟩ := mem_getD x hc
    rw [← mem]
    by_cases h8 : k < lo
    · exact h2 k h8
    · exact h6 k (by omega) hk
  · intro h
    rcases h3 with h3 | h3
    · omega
    · have hl : ¬ lo < x.length := by
        intro hl
        have := (mem _).mpr (h _ (getD_mem x hl))
        rw [h3] at this
        cases this
      omega
theorem all_in (x y : Str) : x.cps.toList.all (fun c => decide (c ∈ y.cps.toList)) = decide (Txt.stripChars x y = "") := by
  rw [Bool.eq_iff_iff, List.all_eq_true, decide_eq_true_iff, strip_nil]
  simp
theorem filter_all {α : Type} (p : α → Bool) (l : List α) : decide (((l.filter p).length : Int) = (l.length : Int)) = l.all p := by
  rw [Bool.eq_iff_iff, decide_eq_true_iff, List.all_eq_true]
  rw [show ((l.filter p).length : Int) = (l.length : Int) ↔ (l.filter p).length = l.length by omega]
  rw [List.length_filter_eq_length_iff]
end
end K
namespace K
open PySem PySem.Spec PyProof.Rows L2 G TL
local macro_rules | `(tactic| walk_at "side") => `(tactic| focus (first | assumption | exact rfl | omega | decide))
local macro_rules | `(tactic| walk_at "ty") => `(tactic| focus (first | exact .base (.str _) | exact .base (.int _) | exact .base (.bl _) | exact .base .non | exact .base (.lst (by assumption)) | exact .base (.tup (by assumption)) | exact .base (.dK (by assumption)) | assumption))
local macro_rules | `(tactic| walk_at "kt") => `(tactic| focus (with_reducible first | exact kt_NoneType_str | exact kt_NoneType_int | exact kt_NoneType_bool | exact kt_NoneType_tuple | exact kt_NoneType_list | exact kt_NoneType_dict | exact kt_bool_str | exact kt_bool_int | exact kt_bool_bool | exact kt_bool_tuple | exact kt_bool_list | exact kt_bool_dict | exact kt_int_str | exact kt_int_int | exact kt_int_bool | exact kt_int_tuple | exact kt_int_list | exact kt_int_dict | exact kt_str_str | exact kt_str_int | exact kt_str_bool | exact kt_str_tuple | exact kt_str_list | exact kt_str_dict | exact kt_list_str | exact kt_list_int | exact kt_list_bool | exact kt_list_tuple | exact kt_list_list | exact kt_list_dict | exact kt_tuple_str | exact kt_tuple_int | exact kt_tuple_bool | exact kt_tuple_tuple | exact kt_tuple_list | exact kt_tuple_dict | exact kt_dict_str | exact kt_dict_int | exact kt_dict_bool | exact kt_dict_tuple | exact kt_dict_list | exact kt_dict_dict | assumption))
local macro_rules | `(tactic| walk_at "1") => `(tactic| first
  | (with_reducible refine i_seq ?_)
  | (with_reducible refine iteT ?_)
  | (with_reducible refine iteF ?_)
  | (with_reducible refine iteNF ?_)
  | (with_reducible refine iteNT ?_)
  | (with_reducible refine i_asg ?_)
  | (with_reducible refine i_op ?_)
  | (with_reducible refine i_c ?_)
  | ((with_reducible apply i_var); (exact rfl))
  | (with_reducible refine i_cb ?_)
  | (with_reducible refine i_cons ?_)
  | (with_reducible refine i_nil ?_)
  | (with_reducible refine i_test ?_)
  | (with_reducible refine i_b ?_)
  | (with_reducible refine i_bl ?_)
  | (with_reducible refine i_name ?_)
  | (with_reducible refine i_ifS ?_)
  | (with_reducible refine i_next ?_)
  | (with_reducible refine i_ret ?_)
  | (with_reducible refine i_drop ?_)
  | (with_reducible refine i_lst ?_)
  | (with_reducible refine i_tup ?_)
  | (with_reducible refine i_and ?_)
  | (with_reducible refine i_or ?_)
  | (with_reducible refine i_not ?_)
  | (with_reducible refine i_andV ?_)
  | (with_reducible refine i_orV ?_)
  | (with_reducible refine i_notV ?_)
  | (with_reducible refine i_if ?_)
  | (with_reducible refine i_chain ?_)
  | (with_reducible refine i_un ?_)
  | (with_reducible refine i_neg ?_)
  | (with_reducible refine i_sub ?_)
  | (with_reducible refine i_sl ?_)
  | (with_reducible refine i_noP ?_)
  | (with_reducible refine i_part ?_)
  | (with_reducible refine i_int ?_)
  | (with_reducible refine i_bm ?_)
  | (with_reducible refine i_strT ?_)
  | (with_reducible refine i_yes ?_)
  | (with_reducible refine i_call ?_)
  | ((with_reducible refine i_len ?_ ?_); (focus (exact sz (by simp))))
  | (with_reducible refine i_lc ?_)
  | (with_reducible refine i_for ?_)
  | (with_reducible refine i_rng1 ?_)
  | (with_reducible refine i_rng2 ?_)
  | (with_reducible refine l_addI ?_)
  | (with_reducible refine l_subI ?_)
  | (with_reducible refine l_cmp ?_)
  | (with_reducible refine l_eqI ?_)
  | (with_reducible refine l_eqS ?_)
  | (with_reducible refine l_eqB ?_)
  | (with_reducible refine l_neI ?_)
  | (with_reducible refine l_neS ?_)
  | (with_reducible refine l_neB ?_)
  | (with_reducible refine l_isN ?_)
  | (with_reducible refine l_isNotN ?_)
  | (with_reducible refine l_isB ?_)
  | (with_reducible refine l_isNotB ?_)
  | (with_reducible refine l_intI ?_)
  | (with_reducible refine l_intB ?_)
  | (with_reducible refine l_inC ?_)
  | (refine ⟨_, _, rfl, rfl, sz (by first | omega | simp; omega), ?_⟩)
  | ((with_reducible refine l_pow ?_ ?_); (focus (exact ⟨by decide, by decide, by decide⟩)))
  | ((with_reducible refine l_mul ?_ ?_); (focus (first | assumption | exact Or.inl (Or.inl ⟨by omega, by omega⟩) | exact Or.inl (Or.inr ⟨by omega, by omega⟩))))
  | ((with_reducible refine l_div ?_ ?_); (focus (first | assumption | exact ⟨by decide, by decide⟩)))
  | ((with_reducible apply l_setL); (assumption); (exact rfl))
  | ((with_reducible refine l_mod ?_ ?_); (walk_at "side"))
  | ((with_reducible apply l_ixL); (assumption); (exact rfl))
  | ((with_reducible refine l_lenS ?_ ?_); (focus (first | assumption | exact sz (by omega) | exact sz (by simp; omega))))
  | ((with_reducible refine l_slS ?_ ?_); (focus (first | assumption | exact sz (by omega))))
  | ((with_reducible apply l_isi); (walk_at "ty"); (walk_at "kt"))
  | ((with_reducible apply l_lenL); (assumption)))
local macro_rules | `(tactic| walk_at "go") => `(tactic| repeat (walk_at "1"))
section
variable {P : Program} {w : World} {K : PySem.W.Frag} {mg : Str → Option Value} {base : Heap}
theorem tl_cut1 (z : Str) : tl (cutS z none (some 1)) = (tl z).take 1 := by
  unfold cutS
  rw [show HT.sIx z.length z.length (some 1) = min 1 z.length from HT.sIx_nat z.length z.length 1, HT.sIx_none]
  show ((tl z).drop 0).take (min 1 z.length - 0) = _
  rw [List.drop_zero, Nat.sub_zero, len_tl]
  cases tl z with
  | nil => rfl
  | cons c r =>
    rw [show min 1 (c :: r).length = 1 by rw [List.length_cons]; omega]
theorem tl_cutd (z : Str) : tl (cutS z (some 1) none) = (tl z).drop 1 := by
  unfold cutS
  rw [show HT.sIx z.length 0 (some 1) = min 1 z.length from HT.sIx_nat z.length 0 1, HT.sIx_none]
  show ((tl z).drop (min 1 z.length)).take (z.length - min 1 z.length) = _
  rw [len_tl]
  cases tl z with
  | nil => rfl
  | cons c r =>
    rw [show min 1 (c :: r).length = 1 by rw [List.length_cons]; omega]
    show (r.take (r.length + 1 - 1)) = r
    rw [Nat.add_sub_cancel, List.take_length]
/-- the word without its sign -/
def signless (z : Str) : Str := if cutS z none (some 1) = "-" then cutS z (some 1) none else z
theorem minus_iff (z : Str) : cutS z none (some 1) = "-" ↔ ∃ r, tl z = 45 :: r := by
  constructor
  · intro h
    have e := tl_cut1 z
    rw [h] at e
    cases hz : tl z with
    | nil =>
      rw [hz] at e
      cases e
    | cons c r =>
      rw [hz] at e
      exact ⟨r, by rw [show c = 45 from (List.cons.inj e).1.symm]⟩
  · rintro ⟨r, h⟩
    refine ext_tl ?_
    rw [tl_cut1, h]
    rfl
theorem signless_neg {z : Str} {r : List Nat} (h : tl z = 45 :: r) : tl (signless z) = r := by
  unfold signless
  rw [if_pos ((minus_iff z).mpr ⟨r, h⟩), tl_cutd, h]
  rfl
theorem signless_pos {z : Str} (h : ∀ r, tl z ≠ 45 :: r) : signless z = z := by
  unfold signless
  rw [if_neg fun e => ?_]
  obtain ⟨r, hr⟩ := (minus_iff z).mp e
  exact h r hr
theorem signless_len (z : Str) : (signless z).length ≤ z.length := by
  unfold signless
  split
  · exact cutS_length z _ _
  · exact Nat.le_refl _
/-- nothing but figures, at least one -/
def digOk (d : Str) : Bool := !decide (d = "") && (tl d).all (fun c => decide (c ∈ tl digits))
theorem dig_mem {c : Nat} : c ∈ tl digits ↔ 48 ≤ c ∧ c ≤ 57 := by
  have e : tl digits = [48, 49, 50, 51, 52, 53, 54, 55, 56, 57] := by decide +kernel
  rw [e]
  simp
  omega
theorem digOk_iff (d : Str) : digOk d = true ↔ d ≠ "" ∧ NumText.AllDigits (tl d) := by
  unfold digOk NumText.AllDigits
  rw [Bool.and_eq_true, List.all_eq_true]
  simp only [decide_eq_true_eq, dig_mem, Bool.not_eq_true', decide_eq_false_iff_not]
instance (l : List Nat) : Decidable (∃ r, l = 48 :: r) := match l with
  | [] => .isFalse fun ⟨_, h⟩ => nomatch h
  | c :: r => if h : c = 48 then .isTrue ⟨r, by rw [h]⟩ else .isFalse fun ⟨_, e⟩ => h (List.cons.inj e).1
/-- a leading zero -/
def lead0 (z : Str) : Bool := decide (∃ r, tl (signless z) = 48 :: r) && !decide (z = "0")
def numOf (z : Str) : Option Int := if (digOk (signless z) && decide ((signless z).length ≤ 40) && !lead0 z) = true then PySem.intText? z else none
def dueOf (z : Str) : Option Int := if (digOk (signless z) && !lead0 z) = true then PySem.intText? z else none
def optV : Option Int → V
  | none => .non
  | some n => .int n
theorem int_is {z : Str} (h : digOk (signless z) = true) (hl : z.length ≤ 4300) : ∃ n, PySem.intText? z = some n := by
  obtain ⟨h1, h2⟩ := (digOk_iff _).mp h
  by_cases hm : ∃ r, tl z = 45 :: r
  · obtain ⟨r, hr⟩ := hm
    rw [signless_neg hr] at h2
    have e := signless_neg hr
    refine ⟨_, intText_neg hr h2 (fun z' => h1 ?_) hl⟩
    rw [z'] at e
    exact ext_tl e
  · have e := signless_pos (z := z) fun r hr => hm ⟨r, hr⟩
    rw [e] at h1 h2
    exact ⟨_, intText_digits h2 (fun z' => h1 (ext_tl z')) hl⟩
theorem sign_eq (c d : Nat) : ((⟨#[c]⟩ : Str) = ⟨#[d]⟩) ↔ c = d := by
  constructor
  · intro h
    have e := congrArg tl h
    exact (List.cons.inj e).1
  · intro h
    rw [h]
theorem sign_48 (c : Nat) : ((⟨#[c]⟩ : Str) = "0") ↔ c = 48 := by
  rw [show (("0" : Str)) = ⟨#[48]⟩ by decide +kernel]
  exact sign_eq c 48
theorem digOk_eq (d : Str) : digOk d = (decide ((1 : Int) ≤ d.length) && decide (Txt.stripChars d digits = "")) := by
  unfold digOk
  rw [all_in]
  congr 1
  rw [Bool.eq_iff_iff]
  simp only [Bool.not_eq_true', decide_eq_false_iff_not, decide_eq_true_eq, str_nil]
  omega
theorem digOk_cons {d : Str} (h : digOk d = true) : ∃ c r, tl d = c :: r := by
  have h1 := ((digOk_iff d).mp h).1
  cases e : tl d with
  | nil => exact absurd (ext_tl (y := "") e) h1
  | cons c r => exact ⟨c, r, rfl⟩
theorem lead0_eq {z d : Str} {c : Nat} {r : List Nat} (hd : signless z = d) (hc : tl d = c :: r) : lead0 z = (decide ((⟨#[c]⟩ : Str) = "0") && !decide (z = "0")) := by
  unfold lead0
  rw [hd, hc]
  congr 1
  rw [Bool.eq_iff_iff]
  simp only [decide_eq_true_eq, sign_48]
  constructor
  · rintro ⟨r', e⟩
    exact (List.cons.inj e).1
  · intro e
    exact ⟨r, by rw [e]⟩
end
end K
namespace K
open PySem PySem.Spec PyProof.Rows L2 G TL
local macro_rules | `(tactic| walk_at "side") => `(tactic| focus (first | assumption | exact rfl | omega | decide))
local macro_rules | `(tactic| walk_at "ty") => `(tactic| focus (first | exact .base (.str _) | exact .base (.int _) | exact .base (.bl _) | exact .base .non | exact .base (.lst (by assumption)) | exact .base (.tup (by assumption)) | exact .base (.dK (by assumption)) | assumption))
local macro_rules | `(tactic| walk_at "kt") => `(tactic| focus (with_reducible first | exact kt_NoneType_str | exact kt_NoneType_int | exact kt_NoneType_bool | exact kt_NoneType_tuple | exact kt_NoneType_list | exact kt_NoneType_dict | exact kt_bool_str | exact kt_bool_int | exact kt_bool_bool | exact kt_bool_tuple | exact kt_bool_list | exact kt_bool_dict | exact kt_int_str | exact kt_int_int | exact kt_int_bool | exact kt_int_tuple | exact kt_int_list | exact kt_int_dict | exact kt_str_str | exact kt_str_int | exact kt_str_bool | exact kt_str_tuple | exact kt_str_list | exact kt_str_dict | exact kt_list_str | exact kt_list_int | exact kt_list_bool | exact kt_list_tuple | exact kt_list_list | exact kt_list_dict | exact kt_tuple_str | exact kt_tuple_int | exact kt_tuple_bool | exact kt_tuple_tuple | exact kt_tuple_list | exact kt_tuple_dict | exact kt_dict_str | exact kt_dict_int | exact kt_dict_bool | exact kt_dict_tuple | exact kt_dict_list | exact kt_dict_dict | assumption))
local macro_rules | `(tactic| walk_at "1") => `(tactic| first
  | (with_reducible refine i_seq ?_)
  | (with_reducible refine iteT ?_)
  | (with_reducible refine iteF ?_)
  | (with_reducible refine iteNF ?_)
  | (with_reducible refine iteNT ?_)
  | (with_reducible refine i_asg ?_)
  | (with_reducible refine i_op ?_)
  | (with_reducible refine i_c ?_)
  | ((with_reducible apply i_var); (exact rfl))
  | (with_reducible refine i_cb ?_)
  | (with_reducible refine i_cons ?_)
  | (with_reducible refine i_nil ?_)
  | (with_reducible refine i_test ?_)
  | (with_reducible refine i_b ?_)
  | (with_reducible refine i_bl ?_)
  | (with_reducible refine i_name ?_)
  | (with_reducible refine i_ifS ?_)
  | (with_reducible refine i_next ?_)
  | (with_reducible refine i_ret ?_)
  | (with_reducible refine i_drop ?_)
  | (with_reducible refine i_lst ?_)
  | (with_reducible refine i_tup ?_)
  | (with_reducible refine i_and ?_)
  | (with_reducible refine i_or ?_)
  | (with_reducible refine i_not ?_)
  | (with_reducible refine i_andV ?_)
  | (with_reducible refine i_orV ?_)
  | (with_reducible refine i_notV ?_)
  | (with_reducible refine i_if ?_)
  | (with_reducible refine i_chain ?_)
  | (with_reducible refine i_un ?_)
  | (with_reducible refine i_neg ?_)
  | (with_reducible refine i_sub ?_)
  | (with_reducible refine i_sl ?_)
  | (with_reducible refine i_noP ?_)
  | (with_reducible refine i_part ?_)
  | (with_reducible refine i_int ?_)
  | (with_reducible refine i_bm ?_)
  | (with_reducible refine i_strT ?_)
  | (with_reducible refine i_yes ?_)
  | (with_reducible refine i_call ?_)
  | ((with_reducible refine i_len ?_ ?_); (focus (exact sz (by simp))))
  | (with_reducible refine i_lc ?_)
  | (with_reducible refine i_for ?_)
  | (with_reducible refine i_rng1 ?_)
  | (with_reducible refine i_rng2 ?_)
  | (with_reducible refine l_addI ?_)
  | (with_reducible refine l_subI ?_)
  | (with_reducible refine l_cmp ?_)
  | (with_reducible refine l_eqI ?_)
  | (with_reducible refine l_eqS ?_)
  | (with_reducible refine l_eqB ?_)
  | (with_reducible refine l_neI ?_)
  | (with_reducible refine l_neS ?_)
  | (with_reducible refine l_neB ?_)
  | (with_reducible refine l_isN ?_)
  | (with_reducible refine l_isNotN ?_)
  | (with_reducible refine l_isB ?_)
  | (with_reducible refine l_isNotB ?_)
  | (with_reducible refine l_intI ?_)
  | (with_reducible refine l_intB ?_)
  | (with_reducible refine l_inC ?_)
  | (refine ⟨_, _, rfl, rfl, sz (by first | omega | simp; omega), ?_⟩)
  | ((with_reducible refine l_pow ?_ ?_); (focus (exact ⟨by decide, by decide, by decide⟩)))
  | ((with_reducible refine l_mul ?_ ?_); (focus (first | assumption | exact Or.inl (Or.inl ⟨by omega, by omega⟩) | exact Or.inl (Or.inr ⟨by omega, by omega⟩))))
  | ((with_reducible refine l_div ?_ ?_); (focus (first | assumption | exact ⟨by decide, by decide⟩)))
  | ((with_reducible apply l_setL); (assumption); (exact rfl))
  | ((with_reducible refine l_mod ?_ ?_); (walk_at "side"))
  | ((with_reducible apply l_ixL); (assumption); (exact rfl))
  | ((with_reducible refine l_lenS ?_ ?_); (focus (first | assumption | exact sz (by omega) | exact sz (by simp; omega))))
  | ((with_reducible refine l_slS ?_ ?_); (focus (first | assumption | exact sz (by omega))))
  | ((with_reducible apply l_isi); (walk_at "ty"); (walk_at "kt"))
  | ((with_reducible apply l_lenL); (assumption)))
local macro_rules | `(tactic| walk_at "go") => `(tactic| repeat (walk_at "1"))
section
variable {P : Program} {w : World} {K : PySem.W.Frag} {mg : Str → Option Value} {base : Heap}
def spIsName (K : PySem.W.Frag) : Sp := fun vs H Q _ => ∃ x, vs = [x] ∧ ((∃ z, x = .str z ∧ z.length ≤ 1000 ∧ Q (.bl (nameOk z)) H) ∨ ((∃ t, TyX K H x t ∧ PySem.W.kitOne K t (.type "str") = some false) ∧ Q (.bl false) H))
set_option maxHeartbeats 2000000 in
theorem ok_is_name {a_KEYWORDS : Addr} (T : Tp K mg a_KEYWORDS) : Cal P w K mg base 1 "is_name" (spIsName K) [] := by
  refine T.d_is_name.cal sc_is_name (fun vs H Q E h => ?_) (fun f cdv A outer s H vs Q E hr h => ?_)
  · obtain ⟨x, rfl, _⟩ := h
    rfl
  · obtain ⟨x, rfl, h⟩ := h
    have sc := sc_is_name
    refine ⟨_, 
    (pss_cons (ps_if (pt_cut (PW.pt (pw_or (pt_not (pt_val (pe_callB (kIsi (K := K) rfl) (by rfl) T.m_isinstance (by decide +kernel) (pa_cons (pv 0) (pa_cons (gTy (n := "str") (by rfl) T.m_str (by decide +kernel)) pa_nil))))) (pw_or1 (pt_cmpR (kIn (K := K) rfl hr) (pv 0) (pe_gc (by rfl) T.c_KEYWORDS) (by rfl)))))) (
      (pss_one (ps_ret (pe_bl)))) (pss_nil))
    (pss_one (ps_ret (pe_and (pe_chain gLe gLe (pe_int) (pe_callB (kLen (K := K) rfl) (by rfl) T.m_len PySem.boot_len (pa_cons (pv 0) pa_nil)) (pe_int)) (pe_one (pe_cmpR (kEq (K := K) rfl hr) (kBm (K := K) rfl PySem.F.plainAttrs_str PySem.F.slot_str_strip PySem.F.type_str_strip mt_stripChars (pv 0) (pa_cons (pe_gc (by rfl) T.c_LETTERS) pa_nil)) (pe_str) (nomark _))))))), ?_⟩
    try rw [cxK]
    refine i_start (τ := [some x]) rfl ?_
    rcases h with ⟨z, rfl, hz, q⟩ | ⟨⟨t, h1, h2⟩, q⟩
    · walk_at "go"
      refine i_isT (KW.contains z) ?_ ?_
      · walk_at "go"
        refine l_inT (T.t_KEYWORDS H) rfl (flat_strs KW) ?_
        walk_at "go"
        exact ⟨inV_strs z KW, rfl⟩
      refine i_iteB (fun hk => ?_) (fun hk => ?_)
      · walk_at "go"
        rw [show nameOk z = false by unfold nameOk; rw [hk]; simp] at q
        exact q
      · walk_at "go"
        have e : nameOk z = (decide ((1 : Int) ≤ z.length) && decide ((z.length : Int) ≤ 8) && decide (Txt.stripChars z letters = "")) := by
          unfold nameOk
          rw [hk, all_in]
          simp
        rw [e] at q
        refine i_ite (fun h1 => ?_) (fun h1 => ?_)
        · walk_at "go"
          refine i_ite (fun h2 => ?_) (fun h2 => ?_)
          · walk_at "go"
            rw [decide_eq_true h1, decide_eq_true h2] at q
            exact q
          · rw [decide_eq_true h1, decide_eq_false h2] at q
            exact q
        · walk_at "go"
          rw [decide_eq_false h1] at q
          exact q
    · walk_at "go"
      refine i_isT true ?_ ?_
      · walk_at "go"
        exact ⟨rfl, rfl⟩
      walk_at "go"
      exact q
def spNumber : Sp := fun vs H Q _ => ∃ z, vs = [.str z] ∧ z.length ≤ 640 ∧ Q (optV (numOf z)) H
set_option maxHeartbeats 2000000 in
theorem ok_number_of {a_KEYWORDS : Addr} (T : Tp K mg a_KEYWORDS) : Cal P w K mg base 1 "number_of" spNumber [] := by
  refine T.d_number_of.cal sc_number_of (fun vs H Q E h => ?_) (fun f cdv A outer s H vs Q E hr h => ?_)
  · obtain ⟨x, rfl, _⟩ := h
    rfl
  · obtain ⟨z, rfl, hz, q⟩ := h
    have sc := sc_number_of
    refine ⟨_, 
    (pss_cons (ps_set (i := 1) sc.nd rfl (by first | exact Or.inl rfl | exact Or.inr rfl) (pe_cut (pe_ifExp (pt_cmpR (kEq (K := K) rfl hr) (pe_slice (kSl (K := K) rfl) (pv 0) po_none (po_some (pe_int))) (pe_str) (nomark _)) (pe_slice (kSl (K := K) rfl) (pv 0) (po_some (pe_int)) po_none) (pv 0))))
    (pss_cons (ps_if (pt_cut (PW.pt (pw_or (pt_not (pt_chain gLe gLe (pe_int) (pe_callB (kLen (K := K) rfl) (by rfl) T.m_len PySem.boot_len (pa_cons (pv 1) pa_nil)) (pe_gc (by rfl) T.c_MOST_DIGITS))) (pw_or1 (pt_cmpR (kNe (K := K) rfl hr) (kBm (K := K) rfl PySem.F.plainAttrs_str PySem.F.slot_str_strip PySem.F.type_str_strip mt_stripChars (pv 1) (pa_cons (pe_gc (by rfl) T.c_DIGITS) pa_nil)) (pe_str) (nomark _)))))) (
      (pss_one (ps_ret (pe_non)))) (pss_nil))
    (pss_cons (ps_if (pt_cut (PW.pt (pw_and (pt_cmpR (kNe (K := K) rfl hr) (pv 0) (pe_str) (nomark _)) (pw_and1 (pt_cmpR (kEq (K := K) rfl hr) (pe_ix (kIx (K := K) rfl) (pv 1) (pe_int) (fun _ _ => rfl)) (pe_str) (nomark _)))))) (
      (pss_one (ps_ret (pe_non)))) (pss_nil))
    (pss_one (ps_ret (pe_callTy g_int (by rfl) T.m_int (by decide +kernel) (pa_cons (pv 0) pa_nil))))))), ?_⟩
    try rw [cxK]
    refine i_start (τ := [some (.str z), none]) rfl ?_
    have hd := signless_len z
    walk_at "go"
    refine i_isE (.str (signless z)) ?_ ?_
    · walk_at "go"
      refine i_ite (fun h => ?_) (fun h => ?_)
      · walk_at "go"
        exact ⟨by unfold signless; rw [if_pos h], rfl⟩
      · walk_at "go"
        exact ⟨by unfold signless; rw [if_neg h], rfl⟩
    generalize hdd : signless z = d at hd
    walk_at "go"
    refine i_isT (!(digOk d && decide (d.length ≤ 40))) ?_ ?_
    · rw [digOk_eq]
      walk_at "go"
      refine i_ite (fun h1 => ?_) (fun h1 => ?_)
      · walk_at "go"
        refine i_iteN (fun h2 => ?_) (fun h2 => ?_)
        · exact ⟨by rw [decide_eq_false (show ¬ d.length ≤ 40 by omega)]; simp, rfl⟩
        · walk_at "go"
          exact ⟨by rw [decide_eq_true h1, decide_eq_true (show d.length ≤ 40 by omega), Bool.true_and, Bool.and_true]; rfl, rfl⟩
      · walk_at "go"
        exact ⟨by rw [decide_eq_false h1]; rfl, rfl⟩
    refine i_iteBN (fun h1 => ?_) (fun h1 => ?_)
    · walk_at "go"
      rw [show numOf z = none by unfold numOf; rw [hdd, h1]; rfl] at q
      exact q
    · walk_at "go"
      obtain ⟨h1a, h1b⟩ := Bool.and_eq_true_iff.mp h1
      obtain ⟨c, r, hc⟩ := digOk_cons h1a
      refine i_isT (lead0 z) ?_ ?_
      · walk_at "go"
        refine i_iteN (fun h2 => ?_) (fun h2 => ?_)
        · walk_at "go"
          refine l_ixS (c := c) (sz (by omega)) (by show atI (tl d) 0 = some c; rw [hc]; exact atI_nat (j := 0) rfl) ?_
          walk_at "go"
          exact ⟨by rw [lead0_eq hdd hc, decide_eq_false h2]; simp, rfl⟩
        · exact ⟨by rw [lead0_eq hdd hc, decide_eq_true h2]; simp, rfl⟩
      obtain ⟨n, hn⟩ := int_is (z := z) (by rw [hdd]; exact h1a) (by omega)
      have e : numOf z = if (!lead0 z) = true then some n else none := by
        unfold numOf
        rw [hdd, h1, hn]
        simp
      rw [e] at q
      refine i_iteB (fun h2 => ?_) (fun h2 => ?_)
      · walk_at "go"
        rw [h2] at q
        exact q
      · walk_at "go"
        rw [h2] at q
        exact l_intS hn hz q
end
end K
namespace K
open PySem PySem.Spec PyProof.Rows L2 G TL
local macro_rules | `(tactic| walk_at "side") => `(tactic| focus (first | assumption | exact rfl | omega | decide))
local macro_rules | `(tactic| walk_at "ty") => `(tactic| focus (first | exact .base (.str _) | exact .base (.int _) | exact .base (.bl _) | exact .base .non | exact .base (.lst (by assumption)) | exact .base (.tup (by assumption)) | exact .base (.dK (by assumption)) | assumption))
local macro_rules | `(tactic| walk_at "kt") => `(tactic| focus (with_reducible first | exact kt_NoneType_str | exact kt_NoneType_int | exact kt_NoneType_bool | exact kt_NoneType_tuple | exact kt_NoneType_list | exact kt_NoneType_dict | exact kt_bool_str | exact kt_bool_int | exact kt_bool_bool | exact kt_bool_tuple | exact kt_bool_list | exact kt_bool_dict | exact kt_int_str | exact kt_int_int | exact kt_int_bool | exact kt_int_tuple | exact kt_int_list | exact kt_int_dict | exact kt_str_str | exact kt_str_int | exact kt_str_bool | exact kt_str_tuple | exact kt_str_list | exact kt_str_dict | exact kt_list_str | exact kt_list_int | exact kt_list_bool | exact kt_list_tuple | exact kt_list_list | exact kt_list_dict | exact kt_tuple_str | exact kt_tuple_int | exact kt_tuple_bool | exact kt_tuple_tuple | exact kt_tuple_list | exact kt_tuple_dict | exact kt_dict_str | exact kt_dict_int | exact kt_dict_bool | exact kt_dict_tuple | exact kt_dict_list | exact kt_dict_dict | assumption))
local macro_rules | `(tactic| walk_at "1") => `(tactic| first
  | (with_reducible refine i_seq ?_)
  | (with_reducible refine iteT ?_)
  | (with_reducible refine iteF ?_)
  | (with_reducible refine iteNF ?_)
  | (with_reducible refine iteNT ?_)
  | (with_reducible refine i_asg ?_)
  | (with_reducible refine i_op ?_)
  | (with_reducible refine i_c ?_)
  | ((with_reducible apply i_var); (exact rfl))
  | (with_reducible refine i_cb ?_)
  | (with_reducible refine i_cons ?_)
  | (with_reducible refine i_nil ?_)
  | (with_reducible refine i_test ?_)
  | (with_reducible refine i_b ?_)
  | (with_reducible refine i_bl ?_)
  | (with_reducible refine i_name ?_)
  | (with_reducible refine i_ifS ?_)
  | (with_reducible refine i_next ?_)
  | (with_reducible refine i_ret ?_)
  | (with_reducible refine i_drop ?_)
  | (with_reducible refine i_lst ?_)
  | (with_reducible refine i_tup ?_)
  | (with_reducible refine i_and ?_)
  | (with_reducible refine i_or ?_)
  | (with_reducible refine i_not ?_)
  | (with_reducible refine i_andV ?_)
  | (with_reducible refine i_orV ?_)
  | (with_reducible refine i_notV ?_)
  | (with_reducible refine i_if ?_)
  | (with_reducible refine i_chain ?_)
  | (with_reducible refine i_un ?_)
  | (with_reducible refine i_neg ?_)
  | (with_reducible refine i_sub ?_)
  | (with_reducible refine i_sl ?_)
  | (with_reducible refine i_noP ?_)
  | (with_reducible refine i_part ?_)
  | (with_reducible refine i_int ?_)
  | (with_reducible refine i_bm ?_)
  | (with_reducible refine i_strT ?_)
  | (with_reducible refine i_yes ?_)
  | (with_reducible refine i_call ?_)
  | ((with_reducible refine i_len ?_ ?_); (focus (exact sz (by simp))))
  | (with_reducible refine i_lc ?_)
  | (with_reducible refine i_for ?_)
  | (with_reducible refine i_rng1 ?_)
  | (with_reducible refine i_rng2 ?_)
  | (with_reducible refine l_addI ?_)
  | (with_reducible refine l_subI ?_)
  | (with_reducible refine l_cmp ?_)
  | (with_reducible refine l_eqI ?_)
  | (with_reducible refine l_eqS ?_)
  | (with_reducible refine l_eqB ?_)
  | (with_reducible refine l_neI ?_)
  | (with_reducible refine l_neS ?_)
  | (with_reducible refine l_neB ?_)
  | (with_reducible refine l_isN ?_)
  | (with_reducible refine l_isNotN ?_)
  | (with_reducible refine l_isB ?_)
  | (with_reducible refine l_isNotB ?_)
  | (with_reducible refine l_intI ?_)
  | (with_reducible refine l_intB ?_)
  | (with_reducible refine l_inC ?_)
  | (refine ⟨_, _, rfl, rfl, sz (by first | omega | simp; omega), ?_⟩)
  | ((with_reducible refine l_pow ?_ ?_); (focus (exact ⟨by decide, by decide, by decide⟩)))
  | ((with_reducible refine l_mul ?_ ?_); (focus (first | assumption | exact Or.inl (Or.inl ⟨by omega, by omega⟩) | exact Or.inl (Or.inr ⟨by omega, by omega⟩))))
  | ((with_reducible refine l_div ?_ ?_); (focus (first | assumption | exact ⟨by decide, by decide⟩)))
  | ((with_reducible apply l_setL); (assumption); (exact rfl))
  | ((with_reducible refine l_mod ?_ ?_); (walk_at "side"))
  | ((with_reducible apply l_ixL); (assumption); (exact rfl))
  | ((with_reducible refine l_lenS ?_ ?_); (focus (first | assumption | exact sz (by omega) | exact sz (by simp; omega))))
  | ((with_reducible refine l_slS ?_ ?_); (focus (first | assumption | exact sz (by omega))))
  | ((with_reducible apply l_isi); (walk_at "ty"); (walk_at "kt"))
  | ((with_reducible apply l_lenL); (assumption)))
local macro_rules | `(tactic| walk_at "go") => `(tactic| repeat (walk_at "1"))
section
variable {P : Program} {w : World} {K : PySem.W.Frag} {mg : Str → Option Value} {base : Heap}
def spKeywords : Sp := fun vs H Q _ => vs = [] ∧ ∀ p H', H p = none → H' = upd H p (.lst (KW.map V.str)) → Q (.ref p) H'
set_option maxHeartbeats 2000000 in
theorem ok_keywords {a_KEYWORDS : Addr} (T : Tp K mg a_KEYWORDS) : Cal P w K mg base 1 "_law_keywords" spKeywords [] := by
  refine T.d__law_keywords.cal sc__law_keywords (fun vs H Q E h => ?_) (fun f cdv A outer s H vs Q E hr h => ?_)
  · obtain ⟨rfl, _⟩ := h
    rfl
  · obtain ⟨rfl, q⟩ := h
    have sc := sc__law_keywords
    refine ⟨_, 
    (pss_one (ps_ret (pe_lst (pa_cons (pe_str) (pa_cons (pe_str) (pa_cons (pe_str) (pa_cons (pe_str) (pa_cons (pe_str) (pa_cons (pe_str) (pa_cons (pe_str) (pa_cons (pe_str) (pa_cons (pe_str) (pa_cons (pe_str) (pa_cons (pe_str) (pa_cons (pe_str) (pa_cons (pe_str) (pa_cons (pe_str) (pa_cons (pe_str) pa_nil)))))))))))))))))), ?_⟩
    try rw [cxK]
    refine i_start (τ := []) rfl ?_
    walk_at "go"
    intro p hp
    exact q p _ hp rfl
def spLawName : Sp := fun vs H Q _ => ∃ z, vs = [.str z] ∧ z.length ≤ 1000 ∧ ∀ H', Ex H H' → Q (.bl (nameOk z)) H'
theorem lc_signs {K : PySem.W.Frag} {x y : Str} {σ : L2.St} {H : Hp} {Q : VK} {i : Nat} {te : TE} (hx : x.length ≤ 1000) (hi : i < σ.length) (hte : ∀ σ' H' c Q', σ'[i]? = some (some (.str ⟨#[c]⟩)) → Q' (.str ⟨#[c]⟩) H' → te σ' H' Q')
    (q : ∀ D H', H D = none → Ex H H' → H' D = some (.lst (((tl x).filter fun c => decide (c ∈ tl y)).map fun c => V.str ⟨#[c]⟩)) → Q (.ref D) H') :
    lcB (Its x) (gName i) (tTest (tOp (rInA K) (tVar i) (tC (.str y)))) te [i] σ Q H := by
  intro D hD
  refine lc_text hD (fun k H' => Ex H H' ∧ H' D = some (.lst ((((tl x).take k).filter fun c => decide (c ∈ tl y)).map fun c => V.str ⟨#[c]⟩))) ?_ ?_ ?_
  · exact ⟨Ex.new hD, upd_same⟩
  · rintro k c H' hc ⟨h1, h2⟩
    walk_at "go"
    refine ⟨?_, ?_⟩
    · show ((σ.set i none).set i (some _)).set i none = σ.set i none
      rw [List.set_set, List.set_set]
    walk_at "1"
    walk_at "1"
    refine i_var (x := .str ⟨#[c]⟩) ?_ ?_
    · show ((σ.set i none).set i (some _))[i]? = _
      rw [List.getElem?_set_self (by rw [List.length_set]; exact hi)]
    walk_at "go"
    have hk : k < x.length := by
      rw [len_tl]
      exact (List.getElem?_eq_some_iff.mp hc).1
    refine i_ite (fun h => ?_) (fun h => ?_)
    · refine hte _ _ c _ ?_ ?_
      · show ((σ.set i none).set i (some _))[i]? = _
        rw [List.getElem?_set_self (by rw [List.length_set]; exact hi)]
      refine ⟨_, h2, szl ?_, h1.mut hD, ?_⟩
      · rw [List.length_map]
        refine Nat.lt_of_le_of_lt (List.length_filter_le _ _) ?_
        rw [List.length_take]
        omega
      · rw [upd_same, take_succ hc, List.filter_append, List.map_append, List.filter_cons, if_pos (decide_eq_true h)]
        rfl
    · refine ⟨h1, ?_⟩
      rw [h2, take_succ hc, List.filter_append, List.map_append, List.filter_cons, if_neg (by rw [decide_eq_false h]; exact Bool.false_ne_true)]
      simp
  · rintro H' ⟨h1, h2⟩
    rw [List.take_length] at h2
    exact q D H' hD h1 h2
set_option maxHeartbeats 2000000 in
theorem ok_law_is_name {a_KEYWORDS : Addr} (T : Tp K mg a_KEYWORDS) : Cal P w K mg base 2 "_law_is_name" spLawName [] := by
  have c__law_keywords : Cal P w K mg base 1 "_law_keywords" spKeywords [] := ok_keywords T
  refine T.d__law_is_name.cal sc__law_is_name (fun vs H Q E h => ?_) (fun f cdv A outer s H vs Q E hr h => ?_)
  · obtain ⟨x, rfl, _⟩ := h
    rfl
  · obtain ⟨z, rfl, hz, q⟩ := h
    have sc := sc__law_is_name
    refine ⟨_, 
    (pss_cons (ps_setLc (i := 1) (own := [("_law_sign", 2)]) (by rfl) sc.nd rfl rfl (sw_true rfl rfl rfl (by decide +kernel)) (kIT (K := K) rfl (pv 0)) (blkOk_by (N := ["_law_word", "_law_letters", "_law_sign"]) (sc := defScope s__law_is_name) (by decide +kernel)) (fun _ _ _ _ _ => pg_name (i := 2) sc.nd rfl (by first | exact Or.inl rfl | exact Or.inr rfl)) (fun _ _ _ _ _ => pts_one (pt_cmpR (kIn (K := K) rfl hr) (pv 2) (pe_str) (by rfl))) (fun _ _ _ _ _ => pv 2))
    (pss_one (ps_ret (pe_and (pe_chain gLe gLe (pe_int) (pe_callB (kLen (K := K) rfl) (by rfl) T.m_len PySem.boot_len (pa_cons (pv 0) pa_nil)) (pe_int)) (pe_and (pe_cmpR (kEq (K := K) rfl hr) (pe_callB (kLen (K := K) rfl) (by rfl) T.m_len PySem.boot_len (pa_cons (pv 1) pa_nil)) (pe_callB (kLen (K := K) rfl) (by rfl) T.m_len PySem.boot_len (pa_cons (pv 0) pa_nil)) (nomark _)) (pe_one (pe_cmpR (kNotIn (K := K) rfl hr) (pv 0) (pe_call0C c__law_keywords hr (by decide) (by rfl)) (by rfl)))))))), ?_⟩
    try rw [cxK]
    refine i_start (τ := [some (.str z), none, none]) rfl ?_
    walk_at "go"
    refine i_anyS ?_
    walk_at "go"
    refine ⟨_, rfl, ?_⟩
    refine lc_signs (K := K) (x := z) (y := letters) (i := 2) hz (by simp) (fun σ' H' c Q' h1 h2 => ⟨_, h1, h2⟩) (fun D H1 hD e1 h1 => ?_)
    walk_at "go"
    have e : nameOk z = (decide ((1 : Int) ≤ z.length) && (decide ((z.length : Int) ≤ 8) && (decide (((((tl z).filter fun c => decide (c ∈ tl letters)).map fun c => V.str ⟨#[c]⟩).length : Int) = z.length) && !KW.contains z))) := by
      unfold nameOk
      rw [List.length_map, len_tl, filter_all, Bool.and_assoc, Bool.and_assoc]
    rw [e] at q
    refine i_ite (fun c1 => ?_) (fun c1 => ?_)
    · walk_at "go"
      refine i_ite (fun c2 => ?_) (fun c2 => ?_)
      · walk_at "go"
        refine i_ite (fun c3 => ?_) (fun c3 => ?_)
        · walk_at "go"
          refine ⟨rfl, fun p H2 hp e2 => ?_⟩
          subst e2
          refine l_notInL (SqL.of upd_same) rfl (flat_strs KW) ?_
          rw [inV_strs]
          rw [decide_eq_true c1, decide_eq_true c2, decide_eq_true c3] at q
          exact q _ (e1.trans (Ex.new hp))
        · walk_at "go"
          rw [decide_eq_true c1, decide_eq_true c2, decide_eq_false c3] at q
          exact q _ e1
      · walk_at "go"
        rw [decide_eq_true c1, decide_eq_false c2] at q
        exact q _ e1
    · walk_at "go"
      rw [decide_eq_false c1] at q
      exact q _ e1
def spDue : Sp := fun vs H Q _ => ∃ z, vs = [.str z] ∧ z.length ≤ 640 ∧ ∀ H', Ex H H' → Q (optV (dueOf z)) H'
set_option maxHeartbeats 2000000 in
theorem ok_law_due {a_KEYWORDS : Addr} (T : Tp K mg a_KEYWORDS) : Cal P w K mg base 1 "_law_due" spDue [] := by
  refine T.d__law_due.cal sc__law_due (fun vs H Q E h => ?_) (fun f cdv A outer s H vs Q E hr h => ?_)
  · obtain ⟨x, rfl, _⟩ := h
    rfl
  · obtain ⟨z, rfl, hz, q⟩ := h
    have sc := sc__law_due
    refine ⟨_, 
    (pss_cons (ps_set (i := 1) sc.nd rfl (by first | exact Or.inl rfl | exact Or.inr rfl) (pv 0))
    (pss_cut (ps_if (pt_cmpR (kEq (K := K) rfl hr) (pe_slice (kSl (K := K) rfl) (pv 0) po_none (po_some (pe_int))) (pe_str) (nomark _)) (
      (pss_one (ps_set (i := 1) sc.nd rfl (by first | exact Or.inl rfl | exact Or.inr rfl) (pe_slice (kSl (K := K) rfl) (pv 0) (po_some (pe_int)) po_none)))) (pss_nil))
    (pss_cons (ps_if (pt_cut (PW.pt (pw_or (pt_cmpR (kEq (K := K) rfl hr) (pv 1) (pe_str) (nomark _)) (pw_or1 (pt_cmpR (kNe (K := K) rfl hr) (pe_callB (kLen (K := K) rfl) (by rfl) T.m_len PySem.boot_len (pa_cons (pe_lc (own := [("_law_sign", 2)]) (by rfl) sc.nd (kIT (K := K) rfl (pv 1)) (blkOk_by (N := ["_law_word", "_law_digits", "_law_sign"]) (sc := defScope s__law_due) (by decide +kernel)) (fun _ _ _ _ _ => pg_name (i := 2) sc.nd rfl (by first | exact Or.inl rfl | exact Or.inr rfl)) (fun _ _ _ _ _ => pts_one (pt_cmpR (kIn (K := K) rfl hr) (pv 2) (pe_str) (by rfl))) (fun _ _ _ _ _ => pv 2)) pa_nil)) (pe_callB (kLen (K := K) rfl) (by rfl) T.m_len PySem.boot_len (pa_cons (pv 1) pa_nil)) (nomark _)))))) (
      (pss_one (ps_ret (pe_non)))) (pss_nil))
    (pss_cons (ps_if (pt_cut (PW.pt (pw_and (pt_cmpR (kEq (K := K) rfl hr) (pe_ix (kIx (K := K) rfl) (pv 1) (pe_int) (fun _ _ => rfl)) (pe_str) (nomark _)) (pw_and1 (pt_cmpR (kNe (K := K) rfl hr) (pv 0) (pe_str) (nomark _)))))) (
      (pss_one (ps_ret (pe_non)))) (pss_nil))
    (pss_one (ps_ret (pe_callTy g_int (by rfl) T.m_int (by decide +kernel) (pa_cons (pv 0) pa_nil)))))))), ?_⟩
    try rw [cxK]
    refine i_start (τ := [some (.str z), none, none]) rfl ?_
    have hd := signless_len z
    walk_at "go"
    refine ⟨fun σ H' => σ = [some (.str z), some (.str (signless z)), none] ∧ H' = H, ?_, ?_⟩
    · walk_at "go"
      refine i_ite (fun h => ?_) (fun h => ?_)
      · walk_at "go"
        exact ⟨by rw [show signless z = _ by unfold signless; rw [if_pos h]]; rfl, rfl⟩
      · walk_at "go"
        exact ⟨by rw [show signless z = _ by unfold signless; rw [if_neg h]]; rfl, rfl⟩
    rintro σ H1 ⟨rfl, rfl⟩
    generalize hdd : signless z = d at hd
    walk_at "go"
    refine i_cutT (fun v H' => v = (!digOk d) ∧ Ex H1 H') ?_ ?_
    · walk_at "go"
      refine i_ite (fun h1 => ?_) (fun h1 => ?_)
      · exact ⟨by unfold digOk; rw [decide_eq_true h1]; rfl, Ex.refl _⟩
      · walk_at "go"
        refine i_anyS ?_
        walk_at "go"
        refine ⟨_, rfl, ?_⟩
        refine lc_signs (K := K) (x := d) (y := digits) (i := 2) (by omega) (by simp) (fun σ' H' c Q' h1 h2 => ⟨_, h1, h2⟩) (fun D H2 hD e2 h2 => ?_)
        walk_at "go"
        refine ⟨?_, e2⟩
        rw [List.length_map, len_tl, filter_all]
        unfold digOk
        rw [decide_eq_false h1]
        rfl
    rintro v H2 ⟨rfl, e2⟩
    refine i_iteBN (fun h1 => ?_) (fun h1 => ?_)
    · walk_at "go"
      rw [show dueOf z = none by unfold dueOf; rw [hdd, h1]; rfl] at q
      exact q _ e2
    · walk_at "go"
      obtain ⟨c, r, hc⟩ := digOk_cons h1
      refine i_isT (lead0 z) ?_ ?_
      · walk_at "go"
        refine l_ixS (c := c) (sz (by omega)) (by show atI (tl d) 0 = some c; rw [hc]; exact atI_nat (j := 0) rfl) ?_
        walk_at "go"
        refine i_ite (fun h2 => ?_) (fun h2 => ?_)
        · walk_at "go"
          exact ⟨by rw [lead0_eq hdd hc, decide_eq_true h2]; rfl, rfl⟩
        · exact ⟨by rw [lead0_eq hdd hc, decide_eq_false h2]; rfl, rfl⟩
      obtain ⟨n, hn⟩ := int_is (z := z) (by rw [hdd]; exact h1) (by omega)
      have e : dueOf z = if (!lead0 z) = true then some n else none := by
        unfold dueOf
        rw [hdd, h1, hn]
        simp
      rw [e] at q
      refine i_iteB (fun h2 => ?_) (fun h2 => ?_)
      · walk_at "go"
        rw [h2] at q
        exact q _ e2
      · walk_at "go"
        rw [h2] at q
        exact l_intS hn hz (q _ e2)
end
end K
namespace K
open PySem PySem.Spec PyProof.Rows L2 G TL
local macro_rules | `(tactic| walk_at "side") => `(tactic| focus (first | assumption | exact rfl | omega | decide))
local macro_rules | `(tactic| walk_at "ty") => `(tactic| focus (first | exact .base (.str _) | exact .base (.int _) | exact .base (.bl _) | exact .base .non | exact .base (.lst (by assumption)) | exact .base (.tup (by assumption)) | exact .base (.dK (by assumption)) | assumption))
local macro_rules | `(tactic| walk_at "kt") => `(tactic| focus (with_reducible first | exact kt_NoneType_str | exact kt_NoneType_int | exact kt_NoneType_bool | exact kt_NoneType_tuple | exact kt_NoneType_list | exact kt_NoneType_dict | exact kt_bool_str | exact kt_bool_int | exact kt_bool_bool | exact kt_bool_tuple | exact kt_bool_list | exact kt_bool_dict | exact kt_int_str | exact kt_int_int | exact kt_int_bool | exact kt_int_tuple | exact kt_int_list | exact kt_int_dict | exact kt_str_str | exact kt_str_int | exact kt_str_bool | exact kt_str_tuple | exact kt_str_list | exact kt_str_dict | exact kt_list_str | exact kt_list_int | exact kt_list_bool | exact kt_list_tuple | exact kt_list_list | exact kt_list_dict | exact kt_tuple_str | exact kt_tuple_int | exact kt_tuple_bool | exact kt_tuple_tuple | exact kt_tuple_list | exact kt_tuple_dict | exact kt_dict_str | exact kt_dict_int | exact kt_dict_bool | exact kt_dict_tuple | exact kt_dict_list | exact kt_dict_dict | assumption))
local macro_rules | `(tactic| walk_at "1") => `(tactic| first
  | (with_reducible refine i_seq ?_)
  | (with_reducible refine iteT ?_)
  | (with_reducible refine iteF ?_)
  | (with_reducible refine iteNF ?_)
  | (with_reducible refine iteNT ?_)
  | (with_reducible refine i_asg ?_)
  | (with_reducible refine i_op ?_)
  | (with_reducible refine i_c ?_)
  | ((with_reducible apply i_var); (exact rfl))
  | (with_reducible refine i_cb ?_)
  | (with_reducible refine i_cons ?_)
  | (with_reducible refine i_nil ?_)
  | (with_reducible refine i_test ?_)
  | (with_reducible refine i_b ?_)
  | (with_reducible refine i_bl ?_)
  | (with_reducible refine i_name ?_)
  | (with_reducible refine i_ifS ?_)
  | (with_reducible refine i_next ?_)
  | (with_reducible refine i_ret ?_)
  | (with_reducible refine i_drop ?_)
  | (with_reducible refine i_lst ?_)
  | (with_reducible refine i_tup ?_)
  | (with_reducible refine i_and ?_)
  | (with_reducible refine i_or ?_)
  | (with_reducible refine i_not ?_)
  | (with_reducible refine i_andV ?_)
  | (with_reducible refine i_orV ?_)
  | (with_reducible refine i_notV ?_)
  | (with_reducible refine i_if ?_)
  | (with_reducible refine i_chain ?_)
  | (with_reducible refine i_un ?_)
  | (with_reducible refine i_neg ?_)
  | (with_reducible refine i_sub ?_)
  | (with_reducible refine i_sl ?_)
  | (with_reducible refine i_noP ?_)
  | (with_reducible refine i_part ?_)
  | (with_reducible refine i_int ?_)
  | (with_reducible refine i_bm ?_)
  | (with_reducible refine i_strT ?_)
  | (with_reducible refine i_yes ?_)
  | (with_reducible refine i_call ?_)
  | ((with_reducible refine i_len ?_ ?_); (focus (exact sz (by simp))))
  | (with_reducible refine i_lc ?_)
  | (with_reducible refine i_for ?_)
  | (with_reducible refine i_rng1 ?_)
  | (with_reducible refine i_rng2 ?_)
  | (with_reducible refine l_addI ?_)
  | (with_reducible refine l_subI ?_)
  | (with_reducible refine l_cmp ?_)
  | (with_reducible refine l_eqI ?_)
  | (with_reducible refine l_eqS ?_)
  | (with_reducible refine l_eqB ?_)
  | (with_reducible refine l_neI ?_)
  | (with_reducible refine l_neS ?_)
  | (with_reducible refine l_neB ?_)
  | (with_reducible refine l_isN ?_)
  | (with_reducible refine l_isNotN ?_)
  | (with_reducible refine l_isB ?_)
  | (with_reducible refine l_isNotB ?_)
  | (with_reducible refine l_intI ?_)
  | (with_reducible refine l_intB ?_)
  | (with_reducible refine l_inC ?_)
  | (refine ⟨_, _, rfl, rfl, sz (by first | omega | simp; omega), ?_⟩)
  | ((with_reducible refine l_pow ?_ ?_); (focus (exact ⟨by decide, by decide, by decide⟩)))
  | ((with_reducible refine l_mul ?_ ?_); (focus (first | assumption | exact Or.inl (Or.inl ⟨by omega, by omega⟩) | exact Or.inl (Or.inr ⟨by omega, by omega⟩))))
  | ((with_reducible refine l_div ?_ ?_); (focus (first | assumption | exact ⟨by decide, by decide⟩)))
  | ((with_reducible apply l_setL); (assumption); (exact rfl))
  | ((with_reducible refine l_mod ?_ ?_); (walk_at "side"))
  | ((with_reducible apply l_ixL); (assumption); (exact rfl))
  | ((with_reducible refine l_lenS ?_ ?_); (focus (first | assumption | exact sz (by omega) | exact sz (by simp; omega))))
  | ((with_reducible refine l_slS ?_ ?_); (focus (first | assumption | exact sz (by omega))))
  | ((with_reducible apply l_isi); (walk_at "ty"); (walk_at "kt"))
  | ((with_reducible apply l_lenL); (assumption)))
local macro_rules | `(tactic| walk_at "go") => `(tactic| repeat (walk_at "1"))
section
variable {P : Program} {w : World} {K : PySem.W.Frag} {mg : Str → Option Value} {base : Heap}
theorem kw_len {z : Str} (h : z ∈ KW) : z.length ≤ 10 := by
  have e : ∀ z ∈ KW, z.length ≤ 10 := by decide +kernel
  exact e z h
theorem app_len (a b : Str) : (a ++ b).length = a.length + b.length := by
  rw [len_tl, len_tl, len_tl, tl_append, List.length_append]
theorem one_len (c : Nat) : (⟨#[c]⟩ : Str).length = 1 := rfl
def spString : Sp := fun vs H Q _ => ∃ (st : Addr) (b : Nat), vs = [.ref st] ∧ Dr H st b ∧ b < 2 ^ 50 ∧ ∀ z H', z.length ≤ 100 → Dr H' st (b + 40) → But st H H' → Q (.str z) H'
set_option maxHeartbeats 4000000 in
theorem ok_string {a_KEYWORDS : Addr} (T : Tp K mg a_KEYWORDS) : Cal P w K mg base 2 "_law_string" spString [] := by
  have c__law_keywords : Cal P w K mg base 1 "_law_keywords" spKeywords [] := ok_keywords T
  have c__law_draw : Cal P w K mg base 1 "_law_draw" spDraw [] := ok_draw T
  refine T.d__law_string.cal sc__law_string (fun vs H Q E h => ?_) (fun f cdv A outer s H vs Q E hr h => ?_)
  · obtain ⟨st, b, rfl, _⟩ := h
    rfl
  · obtain ⟨st, b, rfl, hD, hb, q⟩ := h
    have sc := sc__law_string
    refine ⟨_, 
    (pss_cons (ps_set (i := 1) sc.nd rfl (by first | exact Or.inl rfl | exact Or.inr rfl) (pe_c c__law_draw hr (by decide) (by rfl) (pa_cons (pv 0) (pa_cons (pe_int) pa_nil))))
    (pss_cons (ps_if (pt_cmpR (kEq (K := K) rfl hr) (pv 1) (pe_int) (nomark _)) (
      (pss_one (ps_ret (pe_ix (kIx (K := K) rfl) (pe_call0C c__law_keywords hr (by decide) (by rfl)) (pe_c c__law_draw hr (by decide) (by rfl) (pa_cons (pv 0) (pa_cons (pe_int) pa_nil))) (fun _ _ => rfl))))) (pss_nil))
    (pss_cons (ps_if (pt_cmpR (kEq (K := K) rfl hr) (pv 1) (pe_int) (nomark _)) (
      (pss_cons (ps_set (i := 2) sc.nd rfl (by first | exact Or.inl rfl | exact Or.inr rfl) (pe_ix (kIx (K := K) rfl) (pe_call0C c__law_keywords hr (by decide) (by rfl)) (pe_c c__law_draw hr (by decide) (by rfl) (pa_cons (pv 0) (pa_cons (pe_int) pa_nil))) (fun _ _ => rfl)))
      (pss_cons (ps_set (i := 3) sc.nd rfl (by first | exact Or.inl rfl | exact Or.inr rfl) (pe_c c__law_draw hr (by decide) (by rfl) (pa_cons (pv 0) (pa_cons (pe_op (kAdd (K := K) rfl) (pe_callB (kLen (K := K) rfl) (by rfl) T.m_len PySem.boot_len (pa_cons (pv 2) pa_nil)) (pe_int)) pa_nil))))
      (pss_one (ps_ret (pe_op (kAdd (K := K) rfl) (pe_op (kAdd (K := K) rfl) (pe_slice (kSl (K := K) rfl) (pv 2) po_none (po_some (pv 3))) (pe_ix (kIx (K := K) rfl) (pe_str) (pe_c c__law_draw hr (by decide) (by rfl) (pa_cons (pv 0) (pa_cons (pe_int) pa_nil))) (fun _ _ => rfl))) (pe_slice (kSl (K := K) rfl) (pv 2) (po_some (pe_op (kAdd (K := K) rfl) (pv 3) (pe_c c__law_draw hr (by decide) (by rfl) (pa_cons (pv 0) (pa_cons (pe_int) pa_nil))))) po_none))))))) (pss_nil))
    (pss_cons (ps_set (i := 2) sc.nd rfl (by first | exact Or.inl rfl | exact Or.inr rfl) (pe_str))
    (pss_cons (ps_for PassesOwn.never rfl (pi_range1 (by rfl) T.m_range (pa_cons (pe_c c__law_draw hr (by decide) (by rfl) (pa_cons (pv 0) (pa_cons (pe_int) pa_nil))) pa_nil)) (pg_name (i := 4) sc.nd rfl (by first | exact Or.inl rfl | exact Or.inr rfl)) (
      (pss_cons (ps_set (i := 5) sc.nd rfl (by first | exact Or.inl rfl | exact Or.inr rfl) (pe_str))
      (pss_cut (ps_if (pt_cut (PW.pt (pw_and (pt_cmpR (kEq (K := K) rfl hr) (pv 1) (pe_int) (nomark _)) (pw_and1 (pt_cmpR (kEq (K := K) rfl hr) (pe_c c__law_draw hr (by decide) (by rfl) (pa_cons (pv 0) (pa_cons (pe_int) pa_nil))) (pe_int) (nomark _)))))) (
        (pss_one (ps_set (i := 5) sc.nd rfl (by first | exact Or.inl rfl | exact Or.inr rfl) (pe_str)))) (pss_nil))
      (pss_one (ps_set (i := 2) sc.nd rfl (by first | exact Or.inl rfl | exact Or.inr rfl) (pe_op (kAdd (K := K) rfl) (pv 2) (pe_ix (kIx (K := K) rfl) (pv 5) (pe_c c__law_draw hr (by decide) (by rfl) (pa_cons (pv 0) (pa_cons (pe_callB (kLen (K := K) rfl) (by rfl) T.m_len PySem.boot_len (pa_cons (pv 5) pa_nil)) pa_nil))) (fun _ _ => rfl)))))))))
    (pss_one (ps_ret (pv 2)))))))), ?_⟩
    try rw [cxK]
    refine i_start (τ := [some (.ref st), none, none, none, none, none]) rfl ?_
    walk_at "go"
    refine draw hD (by omega) (by omega) (by omega) (fun kd H1 k0 k1 d1 b1 => ?_)
    walk_at "go"
    refine i_ite (fun hk => ?_) (fun hk => ?_)
    · walk_at "go"
      refine ⟨rfl, fun p H2 hp e2 => ?_⟩
      have hp2 : H2 p = some (.lst (KW.map V.str)) := by rw [e2]; exact upd_same
      have x2 : Ex H1 H2 := by rw [e2]; exact Ex.new hp
      walk_at "go"
      refine draw (d1.mono x2 (Nat.le_refl _)) (by omega) (by omega) (by omega) (fun r H3 r0 r1 d3 b3 => ?_)
      obtain ⟨z, hz, ez⟩ := at_map (f := V.str) (xs := KW) r0 r1
      refine l_ixL (b3 _ _ (d1.ne hp) hp2) ez ?_
      exact q z H3 (Nat.le_trans (kw_len hz) (by omega)) (d3.up (by omega)) ((b1.trans x2.but).trans b3)
    · walk_at "go"
      refine i_ite (fun hk2 => ?_) (fun hk2 => ?_)
      · walk_at "go"
        refine ⟨rfl, fun p H2 hp e2 => ?_⟩
        have hp2 : H2 p = some (.lst (KW.map V.str)) := by rw [e2]; exact upd_same
        have x2 : Ex H1 H2 := by rw [e2]; exact Ex.new hp
        walk_at "go"
        refine draw (d1.mono x2 (Nat.le_refl _)) (by omega) (by omega) (by omega) (fun r H3 r0 r1 d3 b3 => ?_)
        obtain ⟨z, hz, ez⟩ := at_map (f := V.str) (xs := KW) r0 r1
        have hzl := kw_len hz
        refine l_ixL (b3 _ _ (d1.ne hp) hp2) ez ?_
        walk_at "go"
        refine draw d3 (by omega) (by omega) (by omega) (fun r H4 r0 r1 d4 b4 => ?_)
        walk_at "go"
        refine draw d4 (by omega) (by omega) (by omega) (fun r2 H5 r20 r21 d5 b5 => ?_)
        obtain ⟨c, hc, ec⟩ := at_str (z := letters) r20 r21
        refine l_ixS (by decide) ec ?_
        refine l_addS (sz ?_) ?_
        · rw [one_len]
          have := cutS_length z none (some r)
          omega
        walk_at "go"
        refine draw d5 (by omega) (by omega) (by omega) (fun r3 H6 r30 r31 d6 b6 => ?_)
        walk_at "go"
        refine l_addS (sz ?_) ?_
        · rw [app_len, one_len]
          have h1 := cutS_length z none (some r)
          have h2 := cutS_length z (some (r + r3)) none
          omega
        refine q _ H6 ?_ (d6.up (by omega)) (((((b1.trans x2.but).trans b3).trans b4).trans b5).trans b6)
        rw [app_len, app_len, one_len]
        have h1 := cutS_length z none (some r)
        have h2 := cutS_length z (some (r + r3)) none
        omega
      · walk_at "go"
        refine draw d1 (by omega) (by omega) (by omega) (fun n H2 n0 n1 d2 b2 => ?_)
        refine ⟨_, rfl, by omega, by omega, ?_⟩
        refine for_rng (fun i σ H' => ∃ z v4 v5, σ = [some (.ref st), some (.int kd), some (.str z), none, v4, v5] ∧ z.length ≤ i ∧ Dr H' st (b + 2 + 2 * i) ∧ But st H H') ?_ ?_ ?_
        · exact ⟨"", none, none, rfl, by decide, d2.up (by omega), b1.trans b2⟩
        · rintro i σ H' hi ⟨z, v4, v5, rfl, hz, d3, b3⟩
          walk_at "go"
          refine ⟨fun σ H'' => ∃ y : Str, σ = [some (.ref st), some (.int kd), some (.str z), none, some (.int (0 + i)), some (.str y)] ∧ 0 < y.length ∧ y.length ≤ 26 ∧ Dr H'' st (b + 2 + 2 * i + 1) ∧ But st H H'', ?_, ?_⟩
          · walk_at "go"
            refine i_cutT (fun v H'' => Dr H'' st (b + 2 + 2 * i + 1) ∧ But st H H'') ?_ ?_
            · walk_at "go"
              refine i_ite (fun h => ?_) (fun h => ?_)
              · walk_at "go"
                refine draw d3 (by omega) (by omega) (by omega) (fun r H4 r0 r1 d4 b4 => ?_)
                walk_at "go"
                exact ⟨d4, b3.trans b4⟩
              · exact ⟨d3.up (by omega), b3⟩
            · rintro v H4 ⟨d4, b4⟩
              refine i_iteB (fun h => ?_) (fun h => ?_)
              · walk_at "go"
                exact ⟨_, rfl, by decide, by decide, d4, b4⟩
              · walk_at "go"
                exact ⟨_, rfl, by decide, by decide, d4, b4⟩
          · rintro σ H4 ⟨y, rfl, y0, y1, d4, b4⟩
            walk_at "go"
            refine draw d4 (by omega) (by omega) (by omega) (fun r H5 r0 r1 d5 b5 => ?_)
            obtain ⟨c, hc, ec⟩ := at_str (z := y) r0 r1
            refine l_ixS (sz (by omega)) ec ?_
            refine l_addS (sz ?_) ?_
            · rw [one_len]
              omega
            walk_at "go"
            refine ⟨_, _, _, rfl, ?_, d5.up (by omega), b4.trans b5⟩
            rw [app_len, one_len]
            omega
        · rintro σ H' ⟨z, v4, v5, rfl, hz, d3, b3⟩
          walk_at "go"
          exact q z H' (by omega) (d3.up (by omega)) b3
end
end K
namespace K
open PySem PySem.Spec PyProof.Rows L2 G TL
local macro_rules | `(tactic| walk_at "side") => `(tactic| focus (first | assumption | exact rfl | omega | decide))
local macro_rules | `(tactic| walk_at "ty") => `(tactic| focus (first | exact .base (.str _) | exact .base (.int _) | exact .base (.bl _) | exact .base .non | exact .base (.lst (by assumption)) | exact .base (.tup (by assumption)) | exact .base (.dK (by assumption)) | assumption))
local macro_rules | `(tactic| walk_at "kt") => `(tactic| focus (with_reducible first | exact kt_NoneType_str | exact kt_NoneType_int | exact kt_NoneType_bool | exact kt_NoneType_tuple | exact kt_NoneType_list | exact kt_NoneType_dict | exact kt_bool_str | exact kt_bool_int | exact kt_bool_bool | exact kt_bool_tuple | exact kt_bool_list | exact kt_bool_dict | exact kt_int_str | exact kt_int_int | exact kt_int_bool | exact kt_int_tuple | exact kt_int_list | exact kt_int_dict | exact kt_str_str | exact kt_str_int | exact kt_str_bool | exact kt_str_tuple | exact kt_str_list | exact kt_str_dict | exact kt_list_str | exact kt_list_int | exact kt_list_bool | exact kt_list_tuple | exact kt_list_list | exact kt_list_dict | exact kt_tuple_str | exact kt_tuple_int | exact kt_tuple_bool | exact kt_tuple_tuple | exact kt_tuple_list | exact kt_tuple_dict | exact kt_dict_str | exact kt_dict_int | exact kt_dict_bool | exact kt_dict_tuple | exact kt_dict_list | exact kt_dict_dict | assumption))
local macro_rules | `(tactic| walk_at "1") => `(tactic| first
  | (with_reducible refine i_seq ?_)
  | (with_reducible refine iteT ?_)
  | (with_reducible refine iteF ?_)
  | (with_reducible refine iteNF ?_)
  | (with_reducible refine iteNT ?_)
  | (with_reducible refine i_asg ?_)
  | (with_reducible refine i_op ?_)
  | (with_reducible refine i_c ?_)
  | ((with_reducible apply i_var); (exact rfl))
  | (with_reducible refine i_cb ?_)
  | (with_reducible refine i_cons ?_)
  | (with_reducible refine i_nil ?_)
  | (with_reducible refine i_test ?_)
  | (with_reducible refine i_b ?_)
  | (with_reducible refine i_bl ?_)
  | (with_reducible refine i_name ?_)
  | (with_reducible refine i_ifS ?_)
  | (with_reducible refine i_next ?_)
  | (with_reducible refine i_ret ?_)
  | (with_reducible refine i_drop ?_)
  | (with_reducible refine i_lst ?_)
  | (with_reducible refine i_tup ?_)
  | (with_reducible refine i_and ?_)
  | (with_reducible refine i_or ?_)
  | (with_reducible refine i_not ?_)
  | (with_reducible refine i_andV ?_)
  | (with_reducible refine i_orV ?_)
  | (with_reducible refine i_notV ?_)
  | (with_reducible refine i_if ?_)
  | (with_reducible refine i_chain ?_)
  | (with_reducible refine i_un ?_)
  | (with_reducible refine i_neg ?_)
  | (with_reducible refine i_sub ?_)
  | (with_reducible refine i_sl ?_)
  | (with_reducible refine i_noP ?_)
  | (with_reducible refine i_part ?_)
  | (with_reducible refine i_int ?_)
  | (with_reducible refine i_bm ?_)
  | (with_reducible refine i_strT ?_)
  | (with_reducible refine i_yes ?_)
  | (with_reducible refine i_call ?_)
  | ((with_reducible refine i_len ?_ ?_); (focus (exact sz (by simp))))
  | (with_reducible refine i_lc ?_)
  | (with_reducible refine i_for ?_)
  | (with_reducible refine i_rng1 ?_)
  | (with_reducible refine i_rng2 ?_)
  | (with_reducible refine l_addI ?_)
  | (with_reducible refine l_subI ?_)
  | (with_reducible refine l_cmp ?_)
  | (with_reducible refine l_eqI ?_)
  | (with_reducible refine l_eqS ?_)
  | (with_reducible refine l_eqB ?_)
  | (with_reducible refine l_neI ?_)
  | (with_reducible refine l_neS ?_)
  | (with_reducible refine l_neB ?_)
  | (with_reducible refine l_isN ?_)
  | (with_reducible refine l_isNotN ?_)
  | (with_reducible refine l_isB ?_)
  | (with_reducible refine l_isNotB ?_)
  | (with_reducible refine l_intI ?_)
  | (with_reducible refine l_intB ?_)
  | (with_reducible refine l_inC ?_)
  | (refine ⟨_, _, rfl, rfl, sz (by first | omega | simp; omega), ?_⟩)
  | ((with_reducible refine l_pow ?_ ?_); (focus (exact ⟨by decide, by decide, by decide⟩)))
  | ((with_reducible refine l_mul ?_ ?_); (focus (first | assumption | exact Or.inl (Or.inl ⟨by omega, by omega⟩) | exact Or.inl (Or.inr ⟨by omega, by omega⟩))))
  | ((with_reducible refine l_div ?_ ?_); (focus (first | assumption | exact ⟨by decide, by decide⟩)))
  | ((with_reducible apply l_setL); (assumption); (exact rfl))
  | ((with_reducible refine l_mod ?_ ?_); (walk_at "side"))
  | ((with_reducible apply l_ixL); (assumption); (exact rfl))
  | ((with_reducible refine l_lenS ?_ ?_); (focus (first | assumption | exact sz (by omega) | exact sz (by simp; omega))))
  | ((with_reducible refine l_slS ?_ ?_); (focus (first | assumption | exact sz (by omega))))
  | ((with_reducible apply l_isi); (walk_at "ty"); (walk_at "kt"))
  | ((with_reducible apply l_lenL); (assumption)))
local macro_rules | `(tactic| walk_at "go") => `(tactic| repeat (walk_at "1"))
section
variable {P : Program} {w : World} {K : PySem.W.Frag} {mg : Str → Option Value} {base : Heap}
def spInteger : Sp := fun vs H Q _ => ∃ (st : Addr) (b : Nat), vs = [.ref st] ∧ Dr H st b ∧ b < 2 ^ 50 ∧ ∀ (n : Int) (H' : Hp), n.natAbs < 10 ^ 40 → Dr H' st (b + 50) → But st H H' → Q (.int n) H'
set_option maxHeartbeats 4000000 in
theorem ok_integer {a_KEYWORDS : Addr} (T : Tp K mg a_KEYWORDS) : Cal P w K mg base 2 "_law_integer" spInteger [] := by
  have c__law_draw : Cal P w K mg base 1 "_law_draw" spDraw [] := ok_draw T
  refine T.d__law_integer.cal sc__law_integer (fun vs H Q E h => ?_) (fun f cdv A outer s H vs Q E hr h => ?_)
  · obtain ⟨st, b, rfl, _⟩ := h
    rfl
  · obtain ⟨st, b, rfl, hD, hb, q⟩ := h
    have sc := sc__law_integer
    refine ⟨_, 
    (pss_cons (ps_set (i := 1) sc.nd rfl (by first | exact Or.inl rfl | exact Or.inr rfl) (pe_int))
    (pss_cons (ps_for PassesOwn.never rfl (pi_range1 (by rfl) T.m_range (pa_cons (pe_op (kAdd (K := K) rfl) (pe_int) (pe_c c__law_draw hr (by decide) (by rfl) (pa_cons (pv 0) (pa_cons (pe_int) pa_nil)))) pa_nil)) (pg_name (i := 2) sc.nd rfl (by first | exact Or.inl rfl | exact Or.inr rfl)) (
      (pss_one (ps_set (i := 1) sc.nd rfl (by first | exact Or.inl rfl | exact Or.inr rfl) (pe_op (kAdd (K := K) rfl) (pe_op gMul (pv 1) (pe_int)) (pe_c c__law_draw hr (by decide) (by rfl) (pa_cons (pv 0) (pa_cons (pe_int) pa_nil))))))))
    (pss_one (ps_ret (pe_op gMul (pv 1) (pe_ix (kIx (K := K) rfl) (pe_lst (pa_cons (pe_int) (pa_cons (pe_un un_neg (pe_int)) (pa_cons (pe_int) pa_nil)))) (pe_c c__law_draw hr (by decide) (by rfl) (pa_cons (pv 0) (pa_cons (pe_int) pa_nil))) (fun _ _ => rfl))))))), ?_⟩
    try rw [cxK]
    refine i_start (τ := [some (.ref st), none, none]) rfl ?_
    walk_at "go"
    refine draw hD (by omega) (by omega) (by omega) (fun n H1 n0 n1 d1 b1 => ?_)
    walk_at "go"
    refine ⟨_, rfl, by omega, by omega, ?_⟩
    refine for_rng (fun i σ H' => ∃ (z : Int) (v2 : Option V), σ = [some (.ref st), some (.int z), v2] ∧ 0 ≤ z ∧ z < 10 ^ i ∧ Dr H' st (b + 1 + i) ∧ But st H H') ?_ ?_ ?_
    · exact ⟨0, none, rfl, by omega, by decide, d1, b1⟩
    · rintro i σ H' hi ⟨z, v2, rfl, z0, z1, d2, b2⟩
      walk_at "go"
      refine draw d2 (by omega) (by omega) (by omega) (fun r H3 r0 r1 d3 b3 => ?_)
      walk_at "go"
      refine ⟨_, _, rfl, by omega, ?_, d3.up (by omega), b2.trans b3⟩
      rw [Int.pow_succ]
      omega
    · rintro σ H' ⟨z, v2, rfl, z0, z1, d2, b2⟩
      have hz : z < 10 ^ 40 := by
        refine Int.lt_of_lt_of_le z1 ?_
        have e : (1 + n).toNat ≤ 40 := by omega
        rw [show ((10 : Int) ^ (1 + n).toNat) = ((10 ^ (1 + n).toNat : Nat) : Int) by simp, show ((10 : Int) ^ 40) = ((10 ^ 40 : Nat) : Int) by decide]
        exact Int.ofNat_le.mpr (Nat.pow_le_pow_right (by decide) e)
      walk_at "go"
      intro p hp
      have x3 : Ex H' (upd H' p (.lst [.int 1, .int (-1), .int 1])) := Ex.new hp
      walk_at "go"
      refine draw (d2.mono x3 (Nat.le_refl _)) (by omega) (by omega) (by omega) (fun r H4 r0 r1 d4 b4 => ?_)
      obtain ⟨y, hy, ey⟩ := at_list (xs := [V.int 1, V.int (-1), V.int 1]) r0 r1
      refine l_ixL (b4 _ _ (d2.ne hp) upd_same) ey ?_
      have fin : ∀ m : Int, m = z ∨ m = -z → Q (.int m) H4 := fun m hm => q m H4 (by omega) (d4.up (by omega)) ((b2.trans x3.but).trans b4)
      simp only [List.mem_cons, List.not_mem_nil, or_false] at hy
      rcases hy with rfl | rfl | rfl
      · refine l_mul (.inl (.inr ⟨by omega, by omega⟩)) (fin _ (by omega))
      · refine l_mul (.inl (.inr ⟨by omega, by omega⟩)) (fin _ (by omega))
      · refine l_mul (.inl (.inr ⟨by omega, by omega⟩)) (fin _ (by omega))
/-- a word that number_of and the law read alike -/
def Fine (z : Str) : Prop := digOk (signless z) = true → lead0 z = false → (signless z).length ≤ 40
/-- how a number is written -/
structure Wr (w : Str) : Prop where
  ex : ∃ n : Nat, (numL n).length ≤ 40 ∧ (tl w = numL n ∨ tl w = 45 :: numL n)
theorem wr_of {n : Int} (h : n.natAbs < 10 ^ 40) : Wr (toString n : String) := by
  refine ⟨n.natAbs, numL_len (by decide) h, ?_⟩
  cases n with
  | ofNat n => exact .inl (tl_num n)
  | negSucc n =>
    right
    show tl (Str.ofString (toString (Int.negSucc n))) = 45 :: numL (n + 1)
    rw [toString_neg (Int.negSucc_lt_zero n), show (0 : Int) - Int.negSucc n = ((n + 1 : Nat) : Int) by omega, ← tl_num, Str.ofString_eq_toList, Str.ofString_eq_toList]
    show ((("-" ++ toString ((n + 1 : Nat) : Int)).toList).map Char.toNat) = 45 :: ((toString ((n + 1 : Nat) : Int)).toList.map Char.toNat)
    rw [String.toList_append]
    rfl
theorem num_sign {n : Nat} {r : List Nat} : numL n ≠ 45 :: r := fun e => by
  have := numL_digits n 45 (by rw [e]; exact List.mem_cons_self ..)
  omega
theorem not_dig {d : Str} {c : Nat} (hc : c ∈ tl d) (h : c < 48 ∨ 57 < c) : digOk d = true → False := fun e => by
  have := ((digOk_iff d).mp e).2 c hc
  omega
theorem Wr.len {w : Str} (h : Wr w) : w.length ≤ 41 := by
  obtain ⟨n, h1, h2 | h2⟩ := h.ex
  · rw [len_tl, h2]; omega
  · rw [len_tl, h2, List.length_cons]; omega
theorem Wr.cons {w : Str} (h : Wr w) : ∃ c r, tl w = c :: r := by
  obtain ⟨n, h1, h2 | h2⟩ := h.ex
  · cases e : numL n with
    | nil => exact absurd e (numL_ne n)
    | cons c r => exact ⟨c, r, h2.trans e⟩
  · exact ⟨_, _, h2⟩
theorem fine_plain {w : Str} (h : Wr w) : Fine w := by
  obtain ⟨n, h1, h2 | h2⟩ := h.ex
  · intro _ _
    rw [signless_pos (fun r e => num_sign (h2.symm.trans e)), len_tl, h2]
    exact h1
  · intro _ _
    rw [len_tl, signless_neg h2]
    exact h1
theorem fine_zero {w z : Str} {c : Nat} {r : List Nat} (hw : tl w = c :: r) (hz : tl z = 48 :: tl w) : Fine z := by
  intro _ h
  have e : signless z = z := signless_pos (fun r e => by rw [hz] at e; cases e)
  unfold lead0 at h
  rw [e, decide_eq_true ⟨_, hz⟩, decide_eq_false (show ¬ z = "0" from fun q => by
    rw [q, hw] at hz
    cases hz)] at h
  cases h
theorem fine_mzero {z : Str} {r : List Nat} (hz : tl z = 45 :: 48 :: r) : Fine z := by
  intro _ h
  unfold lead0 at h
  rw [decide_eq_true ⟨_, signless_neg hz⟩, decide_eq_false (show ¬ z = "0" from fun q => by
    rw [q] at hz
    cases hz)] at h
  cases h
theorem fine_plus {z : Str} {r : List Nat} (hz : tl z = 43 :: r) : Fine z := by
  intro h _
  have e : signless z = z := signless_pos (fun r e => by rw [hz] at e; cases e)
  rw [e] at h
  exact (not_dig (c := 43) (by rw [hz]; exact List.mem_cons_self ..) (by omega) h).elim
theorem fine_sign {w z : Str} {a b : List Nat} {c : Nat} (h : Wr w) (hw : tl w = a ++ b) (hz : tl z = a ++ c :: b) (hc : c < 48 ∨ 57 < c) : Fine z := by
  intro hd _
  by_cases hm : ∃ r, tl z = 45 :: r
  · obtain ⟨r, hr⟩ := hm
    have es := signless_neg hr
    cases a with
    | nil =>
      have e : c :: b = 45 :: r := hz.symm.trans hr
      have e2 : b = r := (List.cons.inj e).2
      have hwr : tl w = r := by rw [hw, ← e2]; rfl
      obtain ⟨n, h1, h2 | h2⟩ := h.ex
      · rw [len_tl, es, ← hwr, h2]
        exact h1
      · exact (not_dig (c := 45) (by rw [es, ← hwr, h2]; exact List.mem_cons_self ..) (by omega) hd).elim
    | cons x a' =>
      have e : x :: (a' ++ c :: b) = 45 :: r := hz.symm.trans hr
      have e2 : a' ++ c :: b = r := (List.cons.inj e).2
      exact (not_dig (c := c) (by rw [es, ← e2]; simp) hc hd).elim
  · have e : signless z = z := signless_pos fun r hr => hm ⟨r, hr⟩
    rw [e] at hd
    exact (not_dig (c := c) (by rw [hz]; simp) hc hd).elim
theorem cut_ab (w : Str) (k : Nat) (hk : k ≤ w.length) : tl w = tl (cutS w none (some (k : Int))) ++ tl (cutS w (some (k : Int)) none) := by
  unfold cutS
  rw [HT.sIx_nat, HT.sIx_nat, HT.sIx_none, HT.sIx_none, Nat.min_eq_left hk]
  show tl w = ((tl w).drop 0).take (k - 0) ++ ((tl w).drop k).take (w.length - k)
  rw [List.drop_zero, Nat.sub_zero, List.take_of_length_le (l := (tl w).drop k) (by rw [List.length_drop, len_tl]; omega), List.take_append_drop]
def spWritten : Sp := fun vs H Q _ => ∃ (st : Addr) (n : Int) (b : Nat), vs = [.ref st, .int n] ∧ n.natAbs < 10 ^ 40 ∧ Dr H st b ∧ b < 2 ^ 50 ∧ ∀ (z : Str) (H' : Hp), z.length ≤ 100 → Fine z → Dr H' st (b + 3) → But st H H' → Q (.str z) H'
set_option maxHeartbeats 4000000 in
theorem ok_written {a_KEYWORDS : Addr} (T : Tp K mg a_KEYWORDS) : Cal P w K mg base 2 "_law_written" spWritten [] := by
  have c__law_draw : Cal P w K mg base 1 "_law_draw" spDraw [] := ok_draw T
  refine T.d__law_written.cal sc__law_written (fun vs H Q E h => ?_) (fun f cdv A outer s H vs Q E hr h => ?_)
  · obtain ⟨st, n, b, rfl, _⟩ := h
    rfl
  · obtain ⟨st, n, b, rfl, hn, hD, hb, q⟩ := h
    have sc := sc__law_written
    refine ⟨_, 
    (pss_cons (ps_set (i := 2) sc.nd rfl (by first | exact Or.inl rfl | exact Or.inr rfl) (pe_c c__law_draw hr (by decide) (by rfl) (pa_cons (pv 0) (pa_cons (pe_int) pa_nil))))
    (pss_cons (ps_set (i := 3) sc.nd rfl (by first | exact Or.inl rfl | exact Or.inr rfl) (pe_callTy g_str (by rfl) T.m_str (by decide +kernel) (pa_cons (pv 1) pa_nil)))
    (pss_cons (ps_set (i := 4) sc.nd rfl (by first | exact Or.inl rfl | exact Or.inr rfl) (pe_c c__law_draw hr (by decide) (by rfl) (pa_cons (pv 0) (pa_cons (pe_op (kAdd (K := K) rfl) (pe_callB (kLen (K := K) rfl) (by rfl) T.m_len PySem.boot_len (pa_cons (pv 3) pa_nil)) (pe_int)) pa_nil))))
    (pss_cons (ps_if (pt_cmpR gLt (pv 2) (pe_int) (nomark _)) (
      (pss_one (ps_ret (pv 3)))) (pss_nil))
    (pss_cons (ps_if (pt_cmpR (kEq (K := K) rfl hr) (pv 2) (pe_int) (nomark _)) (
      (pss_one (ps_ret (pe_op (kAdd (K := K) rfl) (pe_str) (pv 3))))) (pss_nil))
    (pss_cons (ps_if (pt_cmpR (kEq (K := K) rfl hr) (pv 2) (pe_int) (nomark _)) (
      (pss_one (ps_ret (pe_op (kAdd (K := K) rfl) (pe_str) (kBm (K := K) rfl PySem.F.plainAttrs_str PySem.F.slot_str_lstrip PySem.F.type_str_lstrip mt_lstripChars (pv 3) (pa_cons (pe_str) pa_nil)))))) (pss_nil))
    (pss_cons (ps_if (pt_cmpR (kEq (K := K) rfl hr) (pv 2) (pe_int) (nomark _)) (
      (pss_one (ps_ret (pe_op (kAdd (K := K) rfl) (pe_str) (pv 3))))) (pss_nil))
    (pss_cons (ps_set (i := 5) sc.nd rfl (by first | exact Or.inl rfl | exact Or.inr rfl) (pe_ix (kIx (K := K) rfl) (pe_lst (pa_cons (pe_str) (pa_cons (pe_str) (pa_cons (pe_str) (pa_cons (pe_str) (pa_cons (pe_str) pa_nil)))))) (pe_c c__law_draw hr (by decide) (by rfl) (pa_cons (pv 0) (pa_cons (pe_int) pa_nil))) (fun _ _ => rfl)))
    (pss_one (ps_ret (pe_op (kAdd (K := K) rfl) (pe_op (kAdd (K := K) rfl) (pe_slice (kSl (K := K) rfl) (pv 3) po_none (po_some (pv 4))) (pv 5)) (pe_slice (kSl (K := K) rfl) (pv 3) (po_some (pv 4)) po_none)))))))))))), ?_⟩
    try rw [cxK]
    refine i_start (τ := [some (.ref st), some (.int n), none, none, none, none]) rfl ?_
    walk_at "go"
    refine draw hD (by omega) (by omega) (by omega) (fun kd H1 k0 k1 d1 b1 => ?_)
    walk_at "go"
    refine l_strI (Nat.lt_trans (PySem.Flt.log2_lt_of (k := 200) (by decide) (Nat.lt_trans hn (by decide))) (by decide)) ?_
    have hw := wr_of hn
    generalize (Str.ofString (toString n)) = w at hw
    have hl := hw.len
    walk_at "go"
    refine draw d1 (by omega) (by omega) (by omega) (fun at' H2 a0 a1 d2 b2 => ?_)
    have b12 := b1.trans b2
    walk_at "go"
    refine i_ite (fun h1 => ?_) (fun h1 => ?_)
    · walk_at "go"
      exact q w H2 (by omega) (fine_plain hw) (d2.up (by omega)) b12
    walk_at "go"
    refine i_ite (fun h2 => ?_) (fun h2 => ?_)
    · walk_at "go"
      refine l_addS (sz ?_) (q _ H2 ?_ ?_ (d2.up (by omega)) b12)
      · show 1 + w.length ≤ _
        omega
      · rw [app_len]
        show 1 + w.length ≤ _
        omega
      · obtain ⟨c, r, hc⟩ := hw.cons
        exact fine_zero hc (by rw [tl_append]; rfl)
    walk_at "go"
    refine i_ite (fun h3 => ?_) (fun h3 => ?_)
    · walk_at "go"
      have hll : (Txt.lstripChars w "-").length ≤ w.length := PyProof.Rows.len_stripBy _ _ _ w
      refine l_addS (sz ?_) (q _ H2 ?_ ?_ (d2.up (by omega)) b12)
      · show 2 + _ ≤ _
        omega
      · rw [app_len]
        show 2 + _ ≤ _
        omega
      · exact fine_mzero (r := tl (Txt.lstripChars w "-")) (by rw [tl_append]; rfl)
    walk_at "go"
    refine i_ite (fun h4 => ?_) (fun h4 => ?_)
    · walk_at "go"
      refine l_addS (sz ?_) (q _ H2 ?_ ?_ (d2.up (by omega)) b12)
      · show 1 + w.length ≤ _
        omega
      · rw [app_len]
        show 1 + w.length ≤ _
        omega
      · exact fine_plus (r := tl w) (by rw [tl_append]; rfl)
    walk_at "go"
    intro p hp
    have x3 : Ex H2 (upd H2 p (.lst [.str "x", .str " ", .str ".", .str "-", .str "_"])) := Ex.new hp
    walk_at "go"
    refine draw (d2.mono x3 (Nat.le_refl _)) (by omega) (by omega) (by omega) (fun r H4 r0 r1 d4 b4 => ?_)
    obtain ⟨y, hy, ey⟩ := at_map (f := V.str) (xs := [("x" : Str), " ", ".", "-", "_"]) r0 r1
    refine l_ixL (b4 _ _ (d2.ne hp) upd_same) ey ?_
    obtain ⟨c, hc, hcy⟩ : ∃ c, (c < 48 ∨ 57 < c) ∧ tl y = [c] := by
      have e : ∀ y ∈ [("x" : Str), " ", ".", "-", "_"], ∃ c ∈ [120, 32, 46, 45, 95], tl y = [c] := by decide +kernel
      obtain ⟨c, h, e⟩ := e y hy
      refine ⟨c, ?_, e⟩
      simp only [List.mem_cons, List.not_mem_nil, or_false] at h
      omega
    have hyl : y.length = 1 := by rw [len_tl, hcy]; rfl
    obtain ⟨k, rfl⟩ := Int.eq_ofNat_of_zero_le a0
    have hk : k ≤ w.length := by omega
    have hab := cut_ab w k hk
    have hcl : (cutS w none (some (k : Int))).length + (cutS w (some (k : Int)) none).length = w.length := by
      rw [len_tl, len_tl, len_tl w, hab, List.length_append]
    walk_at "go"
    refine l_addS (sz (by omega)) ?_
    walk_at "go"
    refine l_addS (sz (by rw [app_len]; omega)) (q _ H4 ?_ ?_ d4 ((b12.trans x3.but).trans b4))
    · rw [app_len, app_len]
      omega
    · exact fine_sign hw hab (by rw [tl_append, tl_append, hcy, List.append_assoc]; rfl) hc
end
end K
namespace K
open PySem PySem.Spec PyProof.Rows L2 G TL
local macro_rules | `(tactic| walk_at "side") => `(tactic| focus (first | assumption | exact rfl | omega | decide))
local macro_rules | `(tactic| walk_at "ty") => `(tactic| focus (first | exact .base (.str _) | exact .base (.int _) | exact .base (.bl _) | exact .base .non | exact .base (.lst (by assumption)) | exact .base (.tup (by assumption)) | exact .base (.dK (by assumption)) | assumption))
local macro_rules | `(tactic| walk_at "kt") => `(tactic| focus (with_reducible first | exact kt_NoneType_str | exact kt_NoneType_int | exact kt_NoneType_bool | exact kt_NoneType_tuple | exact kt_NoneType_list | exact kt_NoneType_dict | exact kt_bool_str | exact kt_bool_int | exact kt_bool_bool | exact kt_bool_tuple | exact kt_bool_list | exact kt_bool_dict | exact kt_int_str | exact kt_int_int | exact kt_int_bool | exact kt_int_tuple | exact kt_int_list | exact kt_int_dict | exact kt_str_str | exact kt_str_int | exact kt_str_bool | exact kt_str_tuple | exact kt_str_list | exact kt_str_dict | exact kt_list_str | exact kt_list_int | exact kt_list_bool | exact kt_list_tuple | exact kt_list_list | exact kt_list_dict | exact kt_tuple_str | exact kt_tuple_int | exact kt_tuple_bool | exact kt_tuple_tuple | exact kt_tuple_list | exact kt_tuple_dict | exact kt_dict_str | exact kt_dict_int | exact kt_dict_bool | exact kt_dict_tuple | exact kt_dict_list | exact kt_dict_dict | assumption))
local macro_rules | `(tactic| walk_at "1") => `(tactic| first
  | (with_reducible refine i_seq ?_)
  | (with_reducible refine iteT ?_)
  | (with_reducible refine iteF ?_)
  | (with_reducible refine iteNF ?_)
  | (with_reducible refine iteNT ?_)
  | (with_reducible refine i_asg ?_)
  | (with_reducible refine i_op ?_)
  | (with_reducible refine i_c ?_)
  | ((with_reducible apply i_var); (exact rfl))
  | (with_reducible refine i_cb ?_)
  | (with_reducible refine i_cons ?_)
  | (with_reducible refine i_nil ?_)
  | (with_reducible refine i_test ?_)
  | (with_reducible refine i_b ?_)
  | (with_reducible refine i_bl ?_)
  | (with_reducible refine i_name ?_)
  | (with_reducible refine i_ifS ?_)
  | (with_reducible refine i_next ?_)
  | (with_reducible refine i_ret ?_)
  | (with_reducible refine i_drop ?_)
  | (with_reducible refine i_lst ?_)
  | (with_reducible refine i_tup ?_)
  | (with_reducible refine i_and ?_)
  | (with_reducible refine i_or ?_)
  | (with_reducible refine i_not ?_)
  | (with_reducible refine i_andV ?_)
  | (with_reducible refine i_orV ?_)
  | (with_reducible refine i_notV ?_)
  | (with_reducible refine i_if ?_)
  | (with_reducible refine i_chain ?_)
  | (with_reducible refine i_un ?_)
  | (with_reducible refine i_neg ?_)
  | (with_reducible refine i_sub ?_)
  | (with_reducible refine i_sl ?_)
  | (with_reducible refine i_noP ?_)
  | (with_reducible refine i_part ?_)
  | (with_reducible refine i_int ?_)
  | (with_reducible refine i_bm ?_)
  | (with_reducible refine i_strT ?_)
  | (with_reducible refine i_yes ?_)
  | (with_reducible refine i_call ?_)
  | ((with_reducible refine i_len ?_ ?_); (focus (exact sz (by simp))))
  | (with_reducible refine i_lc ?_)
  | (with_reducible refine i_for ?_)
  | (with_reducible refine i_rng1 ?_)
  | (with_reducible refine i_rng2 ?_)
  | (with_reducible refine l_addI ?_)
  | (with_reducible refine l_subI ?_)
  | (with_reducible refine l_cmp ?_)
  | (with_reducible refine l_eqI ?_)
  | (with_reducible refine l_eqS ?_)
  | (with_reducible refine l_eqB ?_)
  | (with_reducible refine l_neI ?_)
  | (with_reducible refine l_neS ?_)
  | (with_reducible refine l_neB ?_)
  | (with_reducible refine l_isN ?_)
  | (with_reducible refine l_isNotN ?_)
  | (with_reducible refine l_isB ?_)
  | (with_reducible refine l_isNotB ?_)
  | (with_reducible refine l_intI ?_)
  | (with_reducible refine l_intB ?_)
  | (with_reducible refine l_inC ?_)
  | (refine ⟨_, _, rfl, rfl, sz (by first | omega | simp; omega), ?_⟩)
  | ((with_reducible refine l_pow ?_ ?_); (focus (exact ⟨by decide, by decide, by decide⟩)))
  | ((with_reducible refine l_mul ?_ ?_); (focus (first | assumption | exact Or.inl (Or.inl ⟨by omega, by omega⟩) | exact Or.inl (Or.inr ⟨by omega, by omega⟩))))
  | ((with_reducible refine l_div ?_ ?_); (focus (first | assumption | exact ⟨by decide, by decide⟩)))
  | ((with_reducible apply l_setL); (assumption); (exact rfl))
  | ((with_reducible refine l_mod ?_ ?_); (walk_at "side"))
  | ((with_reducible apply l_ixL); (assumption); (exact rfl))
  | ((with_reducible refine l_lenS ?_ ?_); (focus (first | assumption | exact sz (by omega) | exact sz (by simp; omega))))
  | ((with_reducible refine l_slS ?_ ?_); (focus (first | assumption | exact sz (by omega))))
  | ((with_reducible apply l_isi); (walk_at "ty"); (walk_at "kt"))
  | ((with_reducible apply l_lenL); (assumption)))
local macro_rules | `(tactic| walk_at "go") => `(tactic| repeat (walk_at "1"))
section
variable {P : Program} {w : World} {K : PySem.W.Frag} {mg : Str → Option Value} {base : Heap}
theorem agree {z : Str} (h : Fine z) : numOf z = dueOf z := by
  unfold numOf dueOf
  by_cases h1 : (digOk (signless z) && !lead0 z) = true
  · obtain ⟨h2, h3⟩ := Bool.and_eq_true_iff.mp h1
    rw [h1, h2, decide_eq_true (h h2 (by simpa using h3)), h3]
    rfl
  · rw [if_neg h1, if_neg fun h2 => h1 ?_]
    obtain ⟨h2, h3⟩ := Bool.and_eq_true_iff.mp h2
    rw [(Bool.and_eq_true_iff.mp h2).1, h3]
    rfl
theorem num_lits : numOf "" = none ∧ numOf "-" = none ∧ numOf "-0" = none ∧ numOf "00" = none ∧ numOf "+1" = none ∧ numOf "1-" = none ∧ numOf " 1" = none ∧ numOf "1 " = none ∧ numOf "0" = some 0 ∧ numOf "-7" = some (-7) := by
  decide +kernel
def spLaw (K : PySem.W.Frag) : Sp := fun vs H Q _ => ∃ (a : Addr) (ns : List Int), vs = [.ref a] ∧ SqL K H a (ns.map V.int) ∧ ns.length ≤ 63 ∧ ∀ H', Q (.bl true) H'
set_option maxHeartbeats 4000000 in
theorem ok_law {a_KEYWORDS : Addr} (T : Tp K mg a_KEYWORDS) {fa : Addr} (hfa : mg "law" = some (.ref fa)) :
    ∃ fd : FuncData, (∃ (kV doc pm : Value) (an : Option Addr) (cdv ct : Value), fd = PySem.W.fnOf "law" "law" (defArgs s_law) (defBody s_law) (defScope s_law) .none kV doc pm an cdv ct) ∧ ∀ base : Heap, FnOk P w K mg base CX0 4 fa fd ["_law_script"] (spLaw K) := by
  refine T.d_law.law (k := 3) sc_law hfa (fun vs H Q E h => ?_) (fun base f cdv A outer s H vs Q E hr h => ?_)
  · obtain ⟨a, ns, rfl, _⟩ := h
    rfl
  · obtain ⟨a, ns, rfl, hS, hl, q⟩ := h
    have sc := sc_law
    have c__law_open : Cal P w K mg base 1 "_law_open" (spOpen K) [] := ok_open T
    have c__law_string : Cal P w K mg base 2 "_law_string" spString [] := ok_string T
    have c_is_name : Cal P w K mg base 1 "is_name" (spIsName K) [] := ok_is_name T
    have c__law_is_name : Cal P w K mg base 2 "_law_is_name" spLawName [] := ok_law_is_name T
    have c__law_written : Cal P w K mg base 2 "_law_written" spWritten [] := ok_written T
    have c__law_integer : Cal P w K mg base 2 "_law_integer" spInteger [] := ok_integer T
    have c__law_due : Cal P w K mg base 1 "_law_due" spDue [] := ok_law_due T
    have c_number_of : Cal P w K mg base 1 "number_of" spNumber [] := ok_number_of T
    refine ⟨_, 
    (pss_cons (ps_set (i := 1) sc.nd rfl (by first | exact Or.inl rfl | exact Or.inr rfl) (pe_c c__law_open hr (by decide) (by rfl) (pa_cons (pv 0) pa_nil)))
    (pss_cons (ps_for PassesOwn.never rfl (pi_range1 (by rfl) T.m_range (pa_cons (pe_int) pa_nil)) (pg_name (i := 2) sc.nd rfl (by first | exact Or.inl rfl | exact Or.inr rfl)) (
      (pss_cons (ps_set (i := 3) sc.nd rfl (by first | exact Or.inl rfl | exact Or.inr rfl) (pe_c c__law_string hr (by decide) (by rfl) (pa_cons (pv 1) pa_nil)))
      (pss_cons (ps_set (i := 4) sc.nd rfl (by first | exact Or.inl rfl | exact Or.inr rfl) (pe_c c_is_name hr (by decide) (by rfl) (pa_cons (pv 3) pa_nil)))
      (pss_cons (ps_if (pt_cut (PW.pt (pw_or (pt_not (pt_val (pe_callB (kIsi (K := K) rfl) (by rfl) T.m_isinstance (by decide +kernel) (pa_cons (pv 4) (pa_cons (gTy (n := "bool") (by rfl) T.m_bool (by decide +kernel)) pa_nil))))) (pw_or1 (pt_cmpR (kNe (K := K) rfl hr) (pv 4) (pe_c c__law_is_name hr (by decide) (by rfl) (pa_cons (pv 3) pa_nil)) (nomark _)))))) (
        (pss_one (ps_ret (pe_bl)))) (pss_nil))
      (pss_cons (ps_set (i := 5) sc.nd rfl (by first | exact Or.inl rfl | exact Or.inr rfl) (pe_c c__law_written hr (by decide) (by rfl) (pa_cons (pv 1) (pa_cons (pe_c c__law_integer hr (by decide) (by rfl) (pa_cons (pv 1) pa_nil)) pa_nil))))
      (pss_cons (ps_set (i := 6) sc.nd rfl (by first | exact Or.inl rfl | exact Or.inr rfl) (pe_c c__law_due hr (by decide) (by rfl) (pa_cons (pv 5) pa_nil)))
      (pss_cons (ps_set (i := 7) sc.nd rfl (by first | exact Or.inl rfl | exact Or.inr rfl) (pe_c c_number_of hr (by decide) (by rfl) (pa_cons (pv 5) pa_nil)))
      (pss_one (ps_if (pt_cut (PW.pt (pw_or (pt_cmpR (kNe (K := K) rfl hr) (pv 7) (pv 6) (nomark _)) (pw_or (pt_val (pe_callB (kIsi (K := K) rfl) (by rfl) T.m_isinstance (by decide +kernel) (pa_cons (pv 7) (pa_cons (gTy (n := "bool") (by rfl) T.m_bool (by decide +kernel)) pa_nil)))) (pw_or1 (pt_cmpR (kNe (K := K) rfl hr) (pe_callB (kIsi (K := K) rfl) (by rfl) T.m_isinstance (by decide +kernel) (pa_cons (pv 7) (pa_cons (gTy (n := "int") (by rfl) T.m_int (by decide +kernel)) pa_nil))) (pe_callB (kIsi (K := K) rfl) (by rfl) T.m_isinstance (by decide +kernel) (pa_cons (pv 6) (pa_cons (gTy (n := "int") (by rfl) T.m_int (by decide +kernel)) pa_nil))) (nomark _))))))) (
        (pss_one (ps_ret (pe_bl)))) (pss_nil)))))))))))
    (pss_cons (ps_for PassesOwn.never rfl (kIT (K := K) rfl (pe_lst (pa_cons (pe_non) (pa_cons (pe_int) (pa_cons (pe_bl) (pa_cons (pe_lst (pa_cons (pe_str) pa_nil)) (pa_cons (pe_tup (pa_cons (pe_str) pa_nil)) (pa_cons (pe_disp (pps_cons (pe_str) (pe_int) (pps_nil)) (by rfl) (by rfl) (fun z => by cases z) (by decide)) (pa_cons (pe_str) pa_nil))))))))) (pg_name (i := 8) sc.nd rfl (by first | exact Or.inl rfl | exact Or.inr rfl)) (
      (pss_one (ps_if (pt_cmpR gIsNot (pe_c c_is_name hr (by decide) (by rfl) (pa_cons (pv 8) pa_nil)) (pe_bl) (nomark _)) (
        (pss_one (ps_ret (pe_bl)))) (pss_nil)))))
    (pss_cons (ps_for PassesOwn.never rfl (kIT (K := K) rfl (pe_lst (pa_cons (pe_str) (pa_cons (pe_str) (pa_cons (pe_str) (pa_cons (pe_str) (pa_cons (pe_str) (pa_cons (pe_str) (pa_cons (pe_str) (pa_cons (pe_str) pa_nil)))))))))) (pg_name (i := 3) sc.nd rfl (by first | exact Or.inl rfl | exact Or.inr rfl)) (
      (pss_one (ps_if (pt_cmpR gIsNot (pe_c c_number_of hr (by decide) (by rfl) (pa_cons (pv 3) pa_nil)) (pe_non) (nomark _)) (
        (pss_one (ps_ret (pe_bl)))) (pss_nil)))))
    (pss_one (ps_ret (pe_and (pe_cmpR (kEq (K := K) rfl hr) (pe_c c_number_of hr (by decide) (by rfl) (pa_cons (pe_str) pa_nil)) (pe_int) (nomark _)) (pe_one (pe_cmpR (kEq (K := K) rfl hr) (pe_c c_number_of hr (by decide) (by rfl) (pa_cons (pe_str) pa_nil)) (pe_un un_neg (pe_int)) (nomark _)))))))))), ?_⟩
    try rw [cxK]
    refine i_start (τ := [some (.ref a), none, none, none, none, none, none, none, none]) rfl ?_
    walk_at "go"
    refine ⟨a, ns, rfl, hS, hl, fun st H1 hst d1 e1 => ?_⟩
    walk_at "go"
    refine ⟨_, rfl, by decide, by decide, ?_⟩
    refine for_rng (fun i σ H' => ∃ v2 v3 v4 v5 v6 v7, σ = [some (.ref a), some (.ref st), v2, v3, v4, v5, v6, v7, none] ∧ Dr H' st (100 * i)) ?_ ?_ ?_
    · exact ⟨none, none, none, none, none, none, rfl, d1⟩
    · rintro i σ H' hi ⟨v2, v3, v4, v5, v6, v7, rfl, d2⟩
      have hi5 : i < 5 := hi
      walk_at "go"
      refine ⟨st, _, rfl, d2, by omega, fun z H3 hz d3 b3 => ?_⟩
      walk_at "go"
      refine ⟨_, rfl, .inl ⟨z, rfl, by omega, ?_⟩⟩
      walk_at "go"
      refine i_cutT (fun v H'' => v = false ∧ Ex H3 H'') ?_ ?_
      · walk_at "go"
        refine ⟨z, rfl, by omega, fun H4 e4 => ?_⟩
        walk_at "go"
        exact ⟨by simp, e4⟩
      rintro v H4 ⟨rfl, e4⟩
      walk_at "go"
      have d4 := d3.mono e4 (Nat.le_refl _)
      refine ⟨st, _, rfl, d4, by omega, fun n H5 hn d5 b5 => ?_⟩
      walk_at "go"
      refine ⟨st, n, _, rfl, hn, d5, by omega, fun z2 H6 hz2 hf d6 b6 => ?_⟩
      walk_at "go"
      refine ⟨z2, rfl, by omega, fun H7 e7 => ?_⟩
      walk_at "go"
      refine ⟨z2, rfl, by omega, ?_⟩
      rw [agree hf]
      walk_at "go"
      refine i_isT false ?_ ?_
      · cases dueOf z2 with
        | none =>
          walk_at "go"
          refine l_neSelf rfl ?_
          walk_at "go"
          exact ⟨rfl, rfl⟩
        | some m =>
          walk_at "go"
          refine l_neSelf rfl ?_
          walk_at "go"
          exact ⟨rfl, rfl⟩
      walk_at "go"
      exact ⟨_, _, _, _, _, _, rfl, (d6.mono e7 (by omega))⟩
    · rintro σ H' ⟨v2, v3, v4, v5, v6, v7, rfl, d2⟩
      walk_at "go"
      refine i_anyL ?_
      walk_at "go"
      intro p1 hp1
      walk_at "go"
      intro p2 hp2
      walk_at "go"
      intro p3 hp3
      refine ⟨upd_same, [(Sum.inr "i", .int 1)], rfl, by decide, ?_⟩
      walk_at "go"
      intro p4 hp4
      generalize hA : upd H' p1 _ = A1 at hp2 hp3 hp4 ⊢
      generalize hB : upd A1 p2 _ = A2 at hp3 hp4 ⊢
      rw [upd_upd] at hp4 ⊢
      generalize hC : upd A2 p3 _ = A3 at hp4 ⊢
      generalize hE : upd A3 p4 _ = A4
      have f1 : A1 p1 = some (.lst [.str "i"]) := by rw [← hA]; exact upd_same
      have f2 : A2 p2 = some (.tup [.str "i"]) := by rw [← hB]; exact upd_same
      have f3 : A3 p3 = some (.dK (mergeK [] [(Sum.inr "i", .int 1)])) := by rw [← hC]; exact upd_same
      have f4 : A4 p4 = some (.lst [.non, .int 3, .bl true, .ref p1, .ref p2, .ref p3, .str ""]) := by rw [← hE]; exact upd_same
      have x2 : Ex A1 A2 := by rw [← hB]; exact Ex.new hp2
      have x3 : Ex A2 A3 := by rw [← hC]; exact Ex.new hp3
      have x4 : Ex A3 A4 := by rw [← hE]; exact Ex.new hp4
      have g1 := x4 _ _ (x3 _ _ (x2 _ _ f1))
      have g2 := x4 _ _ (x3 _ _ f2)
      have g3 := x4 _ _ f3
      refine ⟨p4, rfl, ⟨_, SqL.of f4⟩, ?_⟩
      refine for_lst (K := K) (a := p4) (xs := [.non, .int 3, .bl true, .ref p1, .ref p2, .ref p3, .str ""]) (fun i σ H'' => ∃ v8, σ = [some (.ref a), some (.ref st), v2, v3, v4, v5, v6, v7, v8] ∧ H'' = A4) ⟨none, rfl, rfl⟩ ?_ ?_ ?_
      · rintro i σ H'' _ ⟨v8, rfl, rfl⟩
        exact SqL.of f4
      · rintro i x σ H'' hx ⟨v8, rfl, rfl⟩
        have hm := List.mem_of_getElem? hx
        simp only [List.mem_cons, List.not_mem_nil, or_false] at hm
        have fin : nameOk "" = false := by decide +kernel
        rcases hm with rfl | rfl | rfl | rfl | rfl | rfl | rfl
        · walk_at "go"
          exact ⟨_, rfl, .inr ⟨⟨_, .base .non, kt_NoneType_str⟩, by walk_at "go"; exact iteNT ⟨_, rfl, rfl⟩⟩⟩
        · walk_at "go"
          exact ⟨_, rfl, .inr ⟨⟨_, .base (.int _), kt_int_str⟩, by walk_at "go"; exact iteNT ⟨_, rfl, rfl⟩⟩⟩
        · walk_at "go"
          exact ⟨_, rfl, .inr ⟨⟨_, .base (.bl _), kt_bool_str⟩, by walk_at "go"; exact iteNT ⟨_, rfl, rfl⟩⟩⟩
        · walk_at "go"
          exact ⟨_, rfl, .inr ⟨⟨_, .base (.lst g1), kt_list_str⟩, by walk_at "go"; exact iteNT ⟨_, rfl, rfl⟩⟩⟩
        · walk_at "go"
          exact ⟨_, rfl, .inr ⟨⟨_, .base (.tup g2), kt_tuple_str⟩, by walk_at "go"; exact iteNT ⟨_, rfl, rfl⟩⟩⟩
        · walk_at "go"
          exact ⟨_, rfl, .inr ⟨⟨_, .base (.dK g3), kt_dict_str⟩, by walk_at "go"; exact iteNT ⟨_, rfl, rfl⟩⟩⟩
        · walk_at "go"
          refine ⟨_, rfl, .inl ⟨_, rfl, by decide, ?_⟩⟩
          rw [fin]
          walk_at "go"
          exact iteNT ⟨_, rfl, rfl⟩
      · rintro σ H'' ⟨v8, rfl, rfl⟩
        walk_at "go"
        refine i_anyL ?_
        walk_at "go"
        intro p5 hp5
        generalize hF : upd _ p5 _ = A5
        have f5 : A5 p5 = some (.lst ([("" : Str), "-", "-0", "00", "+1", "1-", " 1", "1 "].map V.str)) := by rw [← hF]; exact upd_same
        refine ⟨p5, rfl, ⟨_, SqL.of f5⟩, ?_⟩
        obtain ⟨n1, n2, n3, n4, n5, n6, n7, n8, n9, n10⟩ := num_lits
        refine for_lst (K := K) (a := p5) (xs := [("" : Str), "-", "-0", "00", "+1", "1-", " 1", "1 "].map V.str) (fun i σ H'' => ∃ v3, σ = [some (.ref a), some (.ref st), v2, v3, v4, v5, v6, v7, v8] ∧ H'' = A5) ⟨v3, rfl, rfl⟩ ?_ ?_ ?_
        · rintro i σ H'' _ ⟨v3, rfl, rfl⟩
          exact SqL.of f5
        · rintro i x σ H'' hx ⟨v3, rfl, rfl⟩
          obtain ⟨z, hz, rfl⟩ := map_at hx
          have hm := List.mem_of_getElem? hz
          have hn : numOf z = none ∧ z.length ≤ 640 := by
            simp only [List.mem_cons, List.not_mem_nil, or_false] at hm
            rcases hm with rfl | rfl | rfl | rfl | rfl | rfl | rfl | rfl <;> exact ⟨by assumption, by decide⟩
          walk_at "go"
          refine ⟨z, rfl, hn.2, ?_⟩
          rw [hn.1]
          walk_at "go"
          exact iteNT ⟨_, rfl, rfl⟩
        · rintro σ H'' ⟨v3, rfl, rfl⟩
          walk_at "go"
          refine ⟨_, rfl, by decide, ?_⟩
          rw [n9]
          walk_at "go"
          refine l_eqI ?_
          walk_at "go"
          refine i_ite (fun _ => ?_) (fun h => absurd rfl h)
          walk_at "go"
          refine ⟨_, rfl, by decide, ?_⟩
          rw [n10]
          walk_at "go"
          refine l_eqI ?_
          exact q _
theorem law_mk {fa : Addr} (hfa : mg "law" = some (.ref fa)) (hT : ∃ a_KEYWORDS : Addr, Tp K mg a_KEYWORDS) :
    ∃ fd : FuncData, (∀ (s : Shared) (v : Value), BindsTo s fd ⟨[v], []⟩ [("_law_script", v)]) ∧ ∀ base : Heap, K.In base → base.Ns mainGlobals mg → FnOk P w K mg base CX0 4 fa fd ["_law_script"] (spLaw K) := by
  obtain ⟨a_KEYWORDS, T⟩ := hT
  obtain ⟨fd, ⟨kV, doc, pm, an, cdv, ct, rfl⟩, hF⟩ := ok_law (P := P) (w := w) T hfa
  exact ⟨_, fun s v => .of_eq rfl, fun base _ _ => hF base⟩
theorem all_mk {K : PySem.W.Frag} {h : Heap} {mg : Str → Option Value} {fa : Addr} (X : K.In h) (G : h.Ns mainGlobals mg) (hfa : mg "law" = some (.ref fa))
    {tk_LETTERS : Tok}
    {tk_DIGITS : Tok}
    {tk_MOST_DIGITS : Tok}
    {a_KEYWORDS : Addr} {dd_KEYWORDS : Option Addr} {n_KEYWORDS : Nat} {sl_KEYWORDS : Array (Option Value)} {tk_KEYWORDS_0 tk_KEYWORDS_1 tk_KEYWORDS_2 tk_KEYWORDS_3 tk_KEYWORDS_4 tk_KEYWORDS_5 tk_KEYWORDS_6 tk_KEYWORDS_7 tk_KEYWORDS_8 tk_KEYWORDS_9 tk_KEYWORDS_10 tk_KEYWORDS_11 tk_KEYWORDS_12 tk_KEYWORDS_13 tk_KEYWORDS_14 : Tok}
    {f_is_name : Addr} {od_is_name an_is_name : Option Addr} {sl_is_name : Array (Option Value)} {oc_is_name kV_is_name dc_is_name pm_is_name cd_is_name ct_is_name : Value}
    {f_number_of : Addr} {od_number_of an_number_of : Option Addr} {sl_number_of : Array (Option Value)} {oc_number_of kV_number_of dc_number_of pm_number_of cd_number_of ct_number_of : Value}
    {f__law_open : Addr} {od__law_open an__law_open : Option Addr} {sl__law_open : Array (Option Value)} {oc__law_open kV__law_open dc__law_open pm__law_open cd__law_open ct__law_open : Value}
    {f__law_draw : Addr} {od__law_draw an__law_draw : Option Addr} {sl__law_draw : Array (Option Value)} {oc__law_draw kV__law_draw dc__law_draw pm__law_draw cd__law_draw ct__law_draw : Value}
    {f__law_keywords : Addr} {od__law_keywords an__law_keywords : Option Addr} {sl__law_keywords : Array (Option Value)} {oc__law_keywords kV__law_keywords dc__law_keywords pm__law_keywords cd__law_keywords ct__law_keywords : Value}
    {f__law_string : Addr} {od__law_string an__law_string : Option Addr} {sl__law_string : Array (Option Value)} {oc__law_string kV__law_string dc__law_string pm__law_string cd__law_string ct__law_string : Value}
    {f__law_is_name : Addr} {od__law_is_name an__law_is_name : Option Addr} {sl__law_is_name : Array (Option Value)} {oc__law_is_name kV__law_is_name dc__law_is_name pm__law_is_name cd__law_is_name ct__law_is_name : Value}
    {f__law_integer : Addr} {od__law_integer an__law_integer : Option Addr} {sl__law_integer : Array (Option Value)} {oc__law_integer kV__law_integer dc__law_integer pm__law_integer cd__law_integer ct__law_integer : Value}
    {f__law_written : Addr} {od__law_written an__law_written : Option Addr} {sl__law_written : Array (Option Value)} {oc__law_written kV__law_written dc__law_written pm__law_written cd__law_written ct__law_written : Value}
    {f__law_due : Addr} {od__law_due an__law_due : Option Addr} {sl__law_due : Array (Option Value)} {oc__law_due kV__law_due dc__law_due pm__law_due cd__law_due ct__law_due : Value}
    {f_law : Addr} {od_law an_law : Option Addr} {sl_law : Array (Option Value)} {oc_law kV_law dc_law pm_law cd_law ct_law : Value}
    (z_bool : PySem.W.nsIn K mainGlobals "bool" = some none)
    (z_int : PySem.W.nsIn K mainGlobals "int" = some none)
    (z_isinstance : PySem.W.nsIn K mainGlobals "isinstance" = some none)
    (z_len : PySem.W.nsIn K mainGlobals "len" = some none)
    (z_range : PySem.W.nsIn K mainGlobals "range" = some none)
    (z_str : PySem.W.nsIn K mainGlobals "str" = some none)
    (c_LETTERS : PySem.W.nsIn K mainGlobals "LETTERS" = some (some (.str "abcdefghijklmnopqrstuvwxyz" tk_LETTERS)))
    (c_DIGITS : PySem.W.nsIn K mainGlobals "DIGITS" = some (some (.str "0123456789" tk_DIGITS)))
    (c_MOST_DIGITS : PySem.W.nsIn K mainGlobals "MOST_DIGITS" = some (some (.int (40) tk_MOST_DIGITS)))
    (g_KEYWORDS : PySem.W.nsIn K mainGlobals "KEYWORDS" = some (some (.ref a_KEYWORDS)))
    (l_KEYWORDS : K.lookup a_KEYWORDS = some ⟨.type "tuple", dd_KEYWORDS, .seq #[.str "loop" tk_KEYWORDS_0, .str "from" tk_KEYWORDS_1, .str "read" tk_KEYWORDS_2, .str "to" tk_KEYWORDS_3, .str "below" tk_KEYWORDS_4, .str "by" tk_KEYWORDS_5, .str "say" tk_KEYWORDS_6, .str "add" tk_KEYWORDS_7, .str "widen" tk_KEYWORDS_8, .str "ask" tk_KEYWORDS_9, .str "else" tk_KEYWORDS_10, .str "break" tk_KEYWORDS_11, .str "next" tk_KEYWORDS_12, .str "make" tk_KEYWORDS_13, .str "call" tk_KEYWORDS_14] n_KEYWORDS, sl_KEYWORDS⟩)
    (a_is_name : PySem.W.nsIn K mainGlobals "is_name" = some (some (.ref f_is_name)))
    (l_is_name : K.lookup f_is_name = some ⟨oc_is_name, od_is_name, .func (PySem.W.fnOf "is_name" "is_name" (defArgs s_is_name) (defBody s_is_name) (defScope s_is_name) .none kV_is_name dc_is_name pm_is_name an_is_name cd_is_name ct_is_name), sl_is_name⟩)
    (c_is_name : PySem.W.codeIn K cd_is_name "is_name" = true)
    (k_is_name : PySem.W.keepIn K (.ref f_is_name) = true)
    (a_number_of : PySem.W.nsIn K mainGlobals "number_of" = some (some (.ref f_number_of)))
    (l_number_of : K.lookup f_number_of = some ⟨oc_number_of, od_number_of, .func (PySem.W.fnOf "number_of" "number_of" (defArgs s_number_of) (defBody s_number_of) (defScope s_number_of) .none kV_number_of dc_number_of pm_number_of an_number_of cd_number_of ct_number_of), sl_number_of⟩)
    (c_number_of : PySem.W.codeIn K cd_number_of "number_of" = true)
    (k_number_of : PySem.W.keepIn K (.ref f_number_of) = true)
    (a__law_open : PySem.W.nsIn K mainGlobals "_law_open" = some (some (.ref f__law_open)))
    (l__law_open : K.lookup f__law_open = some ⟨oc__law_open, od__law_open, .func (PySem.W.fnOf "_law_open" "_law_open" (defArgs s__law_open) (defBody s__law_open) (defScope s__law_open) .none kV__law_open dc__law_open pm__law_open an__law_open cd__law_open ct__law_open), sl__law_open⟩)
    (c__law_open : PySem.W.codeIn K cd__law_open "_law_open" = true)
    (k__law_open : PySem.W.keepIn K (.ref f__law_open) = true)
    (a__law_draw : PySem.W.nsIn K mainGlobals "_law_draw" = some (some (.ref f__law_draw)))
    (l__law_draw : K.lookup f__law_draw = some ⟨oc__law_draw, od__law_draw, .func (PySem.W.fnOf "_law_draw" "_law_draw" (defArgs s__law_draw) (defBody s__law_draw) (defScope s__law_draw) .none kV__law_draw dc__law_draw pm__law_draw an__law_draw cd__law_draw ct__law_draw), sl__law_draw⟩)
    (c__law_draw : PySem.W.codeIn K cd__law_draw "_law_draw" = true)
    (k__law_draw : PySem.W.keepIn K (.ref f__law_draw) = true)
    (a__law_keywords : PySem.W.nsIn K mainGlobals "_law_keywords" = some (some (.ref f__law_keywords)))
    (l__law_keywords : K.lookup f__law_keywords = some ⟨oc__law_keywords, od__law_keywords, .func (PySem.W.fnOf "_law_keywords" "_law_keywords" (defArgs s__law_keywords) (defBody s__law_keywords) (defScope s__law_keywords) .none kV__law_keywords dc__law_keywords pm__law_keywords an__law_keywords cd__law_keywords ct__law_keywords), sl__law_keywords⟩)
    (c__law_keywords : PySem.W.codeIn K cd__law_keywords "_law_keywords" = true)
    (k__law_keywords : PySem.W.keepIn K (.ref f__law_keywords) = true)
    (a__law_string : PySem.W.nsIn K mainGlobals "_law_string" = some (some (.ref f__law_string)))
    (l__law_string : K.lookup f__law_string = some ⟨oc__law_string, od__law_string, .func (PySem.W.fnOf "_law_string" "_law_string" (defArgs s__law_string) (defBody s__law_string) (defScope s__law_string) .none kV__law_string dc__law_string pm__law_string an__law_string cd__law_string ct__law_string), sl__law_string⟩)
    (c__law_string : PySem.W.codeIn K cd__law_string "_law_string" = true)
    (k__law_string : PySem.W.keepIn K (.ref f__law_string) = true)
    (a__law_is_name : PySem.W.nsIn K mainGlobals "_law_is_name" = some (some (.ref f__law_is_name)))
    (l__law_is_name : K.lookup f__law_is_name = some ⟨oc__law_is_name, od__law_is_name, .func (PySem.W.fnOf "_law_is_name" "_law_is_name" (defArgs s__law_is_name) (defBody s__law_is_name) (defScope s__law_is_name) .none kV__law_is_name dc__law_is_name pm__law_is_name an__law_is_name cd__law_is_name ct__law_is_name), sl__law_is_name⟩)
    (c__law_is_name : PySem.W.codeIn K cd__law_is_name "_law_is_name" = true)
    (k__law_is_name : PySem.W.keepIn K (.ref f__law_is_name) = true)
    (a__law_integer : PySem.W.nsIn K mainGlobals "_law_integer" = some (some (.ref f__law_integer)))
    (l__law_integer : K.lookup f__law_integer = some ⟨oc__law_integer, od__law_integer, .func (PySem.W.fnOf "_law_integer" "_law_integer" (defArgs s__law_integer) (defBody s__law_integer) (defScope s__law_integer) .none kV__law_integer dc__law_integer pm__law_integer an__law_integer cd__law_integer ct__law_integer), sl__law_integer⟩)
    (c__law_integer : PySem.W.codeIn K cd__law_integer "_law_integer" = true)
    (k__law_integer : PySem.W.keepIn K (.ref f__law_integer) = true)
    (a__law_written : PySem.W.nsIn K mainGlobals "_law_written" = some (some (.ref f__law_written)))
    (l__law_written : K.lookup f__law_written = some ⟨oc__law_written, od__law_written, .func (PySem.W.fnOf "_law_written" "_law_written" (defArgs s__law_written) (defBody s__law_written) (defScope s__law_written) .none kV__law_written dc__law_written pm__law_written an__law_written cd__law_written ct__law_written), sl__law_written⟩)
    (c__law_written : PySem.W.codeIn K cd__law_written "_law_written" = true)
    (k__law_written : PySem.W.keepIn K (.ref f__law_written) = true)
    (a__law_due : PySem.W.nsIn K mainGlobals "_law_due" = some (some (.ref f__law_due)))
    (l__law_due : K.lookup f__law_due = some ⟨oc__law_due, od__law_due, .func (PySem.W.fnOf "_law_due" "_law_due" (defArgs s__law_due) (defBody s__law_due) (defScope s__law_due) .none kV__law_due dc__law_due pm__law_due an__law_due cd__law_due ct__law_due), sl__law_due⟩)
    (c__law_due : PySem.W.codeIn K cd__law_due "_law_due" = true)
    (k__law_due : PySem.W.keepIn K (.ref f__law_due) = true)
    (a_law : PySem.W.nsIn K mainGlobals "law" = some (some (.ref f_law)))
    (l_law : K.lookup f_law = some ⟨oc_law, od_law, .func (PySem.W.fnOf "law" "law" (defArgs s_law) (defBody s_law) (defScope s_law) .none kV_law dc_law pm_law an_law cd_law ct_law), sl_law⟩)
    (c_law : PySem.W.codeIn K cd_law "law" = true)
    (k_law : PySem.W.keepIn K (.ref f_law) = true) :
    ∃ a_KEYWORDS : Addr, Tp K mg a_KEYWORDS := by
  exact ⟨a_KEYWORDS, {
    m_bool := PySem.W.mg_none_of X G z_bool,
    m_int := PySem.W.mg_none_of X G z_int,
    m_isinstance := PySem.W.mg_none_of X G z_isinstance,
    m_len := PySem.W.mg_none_of X G z_len,
    m_range := PySem.W.mg_none_of X G z_range,
    m_str := PySem.W.mg_none_of X G z_str,
    c_LETTERS := ⟨_, PySem.W.mg_of X G c_LETTERS, ⟨_, rfl⟩⟩,
    c_DIGITS := ⟨_, PySem.W.mg_of X G c_DIGITS, ⟨_, rfl⟩⟩,
    c_MOST_DIGITS := ⟨_, PySem.W.mg_of X G c_MOST_DIGITS, ⟨_, rfl⟩⟩,
    c_KEYWORDS := ⟨_, PySem.W.mg_of X G g_KEYWORDS, rfl⟩,
    t_KEYWORDS := fun _ => Or.inr ⟨_, _, _, l_KEYWORDS, rfl, rfl, sz (by simp), .cons ⟨_, rfl⟩ (.cons ⟨_, rfl⟩ (.cons ⟨_, rfl⟩ (.cons ⟨_, rfl⟩ (.cons ⟨_, rfl⟩ (.cons ⟨_, rfl⟩ (.cons ⟨_, rfl⟩ (.cons ⟨_, rfl⟩ (.cons ⟨_, rfl⟩ (.cons ⟨_, rfl⟩ (.cons ⟨_, rfl⟩ (.cons ⟨_, rfl⟩ (.cons ⟨_, rfl⟩ (.cons ⟨_, rfl⟩ (.cons ⟨_, rfl⟩ (.nil)))))))))))))))⟩,
    d_is_name := ⟨_, _, fun_mk (st := s_is_name) l_is_name c_is_name k_is_name, PySem.W.mg_of X G a_is_name, (fun_mk (st := s_is_name) l_is_name c_is_name k_is_name).binds (ps := ["value"]) fun _ _ _ _ _ _ us hl => match us, hl with | [_], _ => rfl⟩,
    d_number_of := ⟨_, _, fun_mk (st := s_number_of) l_number_of c_number_of k_number_of, PySem.W.mg_of X G a_number_of, (fun_mk (st := s_number_of) l_number_of c_number_of k_number_of).binds (ps := ["word"]) fun _ _ _ _ _ _ us hl => match us, hl with | [_], _ => rfl⟩,
    d__law_open := ⟨_, _, fun_mk (st := s__law_open) l__law_open c__law_open k__law_open, PySem.W.mg_of X G a__law_open, (fun_mk (st := s__law_open) l__law_open c__law_open k__law_open).binds (ps := ["_law_script"]) fun _ _ _ _ _ _ us hl => match us, hl with | [_], _ => rfl⟩,
    d__law_draw := ⟨_, _, fun_mk (st := s__law_draw) l__law_draw c__law_draw k__law_draw, PySem.W.mg_of X G a__law_draw, (fun_mk (st := s__law_draw) l__law_draw c__law_draw k__law_draw).binds (ps := ["_law_state", "_law_many"]) fun _ _ _ _ _ _ us hl => match us, hl with | [_, _], _ => rfl⟩,
    d__law_keywords := ⟨_, _, fun_mk (st := s__law_keywords) l__law_keywords c__law_keywords k__law_keywords, PySem.W.mg_of X G a__law_keywords, (fun_mk (st := s__law_keywords) l__law_keywords c__law_keywords k__law_keywords).binds (ps := []) fun _ _ _ _ _ _ us hl => match us, hl with | [], _ => rfl⟩,
    d__law_string := ⟨_, _, fun_mk (st := s__law_string) l__law_string c__law_string k__law_string, PySem.W.mg_of X G a__law_string, (fun_mk (st := s__law_string) l__law_string c__law_string k__law_string).binds (ps := ["_law_state"]) fun _ _ _ _ _ _ us hl => match us, hl with | [_], _ => rfl⟩,
    d__law_is_name := ⟨_, _, fun_mk (st := s__law_is_name) l__law_is_name c__law_is_name k__law_is_name, PySem.W.mg_of X G a__law_is_name, (fun_mk (st := s__law_is_name) l__law_is_name c__law_is_name k__law_is_name).binds (ps := ["_law_word"]) fun _ _ _ _ _ _ us hl => match us, hl with | [_], _ => rfl⟩,
    d__law_integer := ⟨_, _, fun_mk (st := s__law_integer) l__law_integer c__law_integer k__law_integer, PySem.W.mg_of X G a__law_integer, (fun_mk (st := s__law_integer) l__law_integer c__law_integer k__law_integer).binds (ps := ["_law_state"]) fun _ _ _ _ _ _ us hl => match us, hl with | [_], _ => rfl⟩,
    d__law_written := ⟨_, _, fun_mk (st := s__law_written) l__law_written c__law_written k__law_written, PySem.W.mg_of X G a__law_written, (fun_mk (st := s__law_written) l__law_written c__law_written k__law_written).binds (ps := ["_law_state", "_law_number"]) fun _ _ _ _ _ _ us hl => match us, hl with | [_, _], _ => rfl⟩,
    d__law_due := ⟨_, _, fun_mk (st := s__law_due) l__law_due c__law_due k__law_due, PySem.W.mg_of X G a__law_due, (fun_mk (st := s__law_due) l__law_due c__law_due k__law_due).binds (ps := ["_law_word"]) fun _ _ _ _ _ _ us hl => match us, hl with | [_], _ => rfl⟩,
    d_law := ⟨_, _, fun_mk (st := s_law) l_law c_law k_law, PySem.W.mg_of X G a_law, (fun_mk (st := s_law) l_law c_law k_law).binds (ps := ["_law_script"]) fun _ _ _ _ _ _ us hl => match us, hl with | [_], _ => rfl⟩ }⟩
end
end K
open PySem PySem.W PyProof.Rows
set_option maxHeartbeats 0 in
theorem PySem.Challenge.cw_roundrules_k10_names_and_integers_holds : PySem.Challenge.rw_roundrules_k10_names_and_integers.Holds := by
  w_on; o_law; k_head; (case hw => w_witness2)
  k_fill
  refine L2.walk_of (l := PySem.Challenge.rw_roundrules_k10_names_and_integers) (n := 63) (k := 4) (x := "_law_script") (CX := fun _ => L2.CX0) (sp := fun w => K.spLaw _) rfl (by decide) rfl ⟨rfl, by decide, by decide⟩ (fun w h Y => PySem.W.kIn_of Y) ?F (fun _ _ a ns hl _ hS => ⟨a, ns, rfl, hS, hl, fun _ => rfl⟩) (fun _ _ _ _ _ h => h)
  case F =>
    intro w mg fa h KX G hmg
    refine' K.law_mk hmg (K.all_mk KX G hmg ?z_bool ?z_int ?z_isinstance ?z_len ?z_range ?z_str ?c_LETTERS ?c_DIGITS ?c_MOST_DIGITS ?g_KEYWORDS ?l_KEYWORDS ?a_is_name ?l_is_name ?c_is_name ?k_is_name ?a_number_of ?l_number_of ?c_number_of ?k_number_of ?a__law_open ?l__law_open ?c__law_open ?k__law_open ?a__law_draw ?l__law_draw ?c__law_draw ?k__law_draw ?a__law_keywords ?l__law_keywords ?c__law_keywords ?k__law_keywords ?a__law_string ?l__law_string ?c__law_string ?k__law_string ?a__law_is_name ?l__law_is_name ?c__law_is_name ?k__law_is_name ?a__law_integer ?l__law_integer ?c__law_integer ?k__law_integer ?a__law_written ?l__law_written ?c__law_written ?k__law_written ?a__law_due ?l__law_due ?c__law_due ?k__law_due ?a_law ?l_law ?c_law ?k_law)
    (case z_bool => k_is); (case z_int => k_is); (case z_isinstance => k_is); (case z_len => k_is); (case z_range => k_is); (case z_str => k_is); (case c_LETTERS => k_is); (case c_DIGITS => k_is); (case c_MOST_DIGITS => k_is); (case g_KEYWORDS => k_is); (case l_KEYWORDS => k_is); (case a_is_name => k_is); (case l_is_name => k_is); (case c_is_name => k_is); (case k_is_name => k_is); (case a_number_of => k_is); (case l_number_of => k_is); (case c_number_of => k_is); (case k_number_of => k_is); (case a__law_open => k_is); (case l__law_open => k_is); (case c__law_open => k_is); (case k__law_open => k_is); (case a__law_draw => k_is); (case l__law_draw => k_is); (case c__law_draw => k_is); (case k__law_draw => k_is); (case a__law_keywords => k_is); (case l__law_keywords => k_is); (case c__law_keywords => k_is); (case k__law_keywords => k_is); (case a__law_string => k_is); (case l__law_string => k_is); (case c__law_string => k_is); (case k__law_string => k_is); (case a__law_is_name => k_is); (case l__law_is_name => k_is); (case c__law_is_name => k_is); (case k__law_is_name => k_is); (case a__law_integer => k_is); (case l__law_integer => k_is); (case c__law_integer => k_is); (case k__law_integer => k_is); (case a__law_written => k_is); (case l__law_written => k_is); (case c__law_written => k_is); (case k__law_written => k_is); (case a__law_due => k_is); (case l__law_due => k_is); (case c__law_due => k_is); (case k__law_due => k_is); (case a_law => k_is); (case l_law => k_is); (case c_law => k_is); (case k_law => k_is)
