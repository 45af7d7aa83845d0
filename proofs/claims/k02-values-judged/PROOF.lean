import PyProof.Rows.All
import Wide.All
import OpenK.AllK
import Wide.FinOn
import KE.KStateDown
import KE.GoesEnum
import Lean
import HandS.ForMost
import HandS.Evl
import HandS.Defaults
import HandS.Codes
import HandS.More
import HandS.Deep
import HandS.IsInst
import HandS.Wide
import HandS.Style
import HandS.StrMore
import HandS.TupAny
import HandS.Head0
import HandS.Head1
import HandS.Head2
import HandS.HeadEnd
import HandS.HeadHook1
import HandS.HeadHook2
import HandS.HeadHook3
import HandS.HeadHook4
import PySem.Challenge.RW_dirservice_k02_values_judged
set_option Elab.async false
set_option linter.all false
set_option maxRecDepth 100000
set_option maxHeartbeats 4000000
namespace My
open PySem PySem.Spec PyProof.Rows L2

/-! ### unions of judgements -/
section
variable {X : Cx}
theorem PE_or {e : Expr} {t u : TE} (h : PE X e t) (k : PE X e u) : PE X e (fun σ H Q => t σ H Q ∨ u σ H Q) :=
  ⟨fun pins s σ H Q I hw => hw.elim (h.run pins s σ H Q I) (k.run pins s σ H Q I)⟩
theorem PS_or {st : Stmt} {t u : TS} (h : PS X st t) (k : PS X st u) : PS X st (fun D σ H => t D σ H ∨ u D σ H) :=
  ⟨fun pins s σ H D I hw => hw.elim (h.run pins s σ H D I) (k.run pins s σ H D I)⟩
theorem PI_or {tg it : Expr} {t u : TI} (h : PI X tg it t) (k : PI X tg it u) : PI X tg it (fun σ H R => t σ H R ∨ u σ H R) :=
  ⟨fun pins s σ H R I hw => hw.elim (h.run pins s σ H R I) (k.run pins s σ H R I)⟩
end

/-! ### the operators, whatever the values are -/
def rAddU (K : PySem.W.Frag) : R2 := fun x y H Q => (rI0 fun i j => V.int (i + j)) x y H Q ∨ (∃ i j, x = V.str i ∧ y = .str j ∧ i.length + j.length ≤ sizeLine ∧ Q (.str (i ++ j)) H) ∨ rCat x y H Q ∨ rCatA K x y H Q
theorem op_Add {X : Cx} {K : PySem.W.Frag} (hK : X.K = K := by rfl) : OpR X (binaryOp .Add) (rAddU K) := hK ▸ op_add.or (op_add_str.or (op_cat.or op_catA))
def rMulS : R2 := fun x y H Q => ∃ (c : Nat) (k : Int), x = V.str ⟨#[c]⟩ ∧ y = .int k ∧ -100000 ≤ k ∧ k ≤ 100000 ∧ Q (.str (Txt.mul ⟨#[c]⟩ k)) H
theorem op_mulS {X : Cx} : OpR X (binaryOp .Mult) rMulS := by
  intro pins s σ H x y v u Q I rx ry h
  obtain ⟨c, k, rfl, rfl, h0, h1, q⟩ := h
  obtain ⟨t, rfl⟩ := rx
  obtain ⟨t', rfl⟩ := ry
  refine SB.mul ⟨?_, fun hk _ => ?_, fun hk _ => ?_⟩ fun t' tk => ⟨.str _, H, I.tok _, ⟨_, rfl⟩, q⟩
  · rw [decide_eq_false (by omega), decide_eq_false (by omega)]; rfl
  · show ¬ ((1 : Nat) : Int) > (2 ^ 63 - 1) / k
    have : (1 : Int) ≤ (2 ^ 63 - 1) / k := (Int.le_ediv_iff_mul_le (by omega)).mpr (by omega)
    omega
  · show decide (1 * k.toNat > sizeLine) = false
    have : 100000 ≤ sizeLine := by decide
    exact decide_eq_false (by omega)
def rMulU : R2 := fun x y H Q => (rI CMul fun i j => V.int (i * j)) x y H Q ∨ rRep x y H Q ∨ rMulS x y H Q
theorem op_Mult {X : Cx} : OpR X (binaryOp .Mult) rMulU := op_mul.or (op_rep.or op_mulS)
def rDivU : R2 := fun x y H Q => (rI CDiv fun i j => V.int (i / j)) x y H Q ∨ (rI CDivW fun i j => V.int (i / j)) x y H Q
theorem op_FloorDiv {X : Cx} : OpR X (binaryOp .FloorDiv) rDivU := op_fdiv.or op_fdivW
def rLtU : R2 := fun x y H Q => (rI0 fun i j => V.bl (decide (i < j))) x y H Q ∨ (∃ i j, x = V.str i ∧ y = .str j ∧ Q (.bl (decide (i.cps.toList < j.cps.toList))) H)
theorem cm_Lt {X : Cx} : OpR X (compareOp .Lt) rLtU := op_lt.or op_lt_str
def rLeU : R2 := rI0 fun i j => V.bl (decide (i ≤ j))
theorem cm_LtE {X : Cx} : OpR X (compareOp .LtE) rLeU := op_le
def rGtU : R2 := rI0 fun i j => V.bl (decide (j < i))
theorem cm_Gt {X : Cx} : OpR X (compareOp .Gt) rGtU := op_gt
def rGeU : R2 := rI0 fun i j => V.bl (decide (j ≤ i))
theorem cm_GtE {X : Cx} : OpR X (compareOp .GtE) rGeU := op_ge
def rEqU (K : PySem.W.Frag) : R2 := fun x y H Q => rEq x y H Q ∨ rEqD K x y H Q
theorem cm_Eq {X : Cx} {K : PySem.W.Frag} (hu : X.A.units + 64 < cLine) (hK : X.K = K := by rfl) : OpR X (compareOp .Eq) (rEqU K) := hK ▸ op_eq.or (op_eqD hu)
def rNeU (K : PySem.W.Frag) : R2 := fun x y H Q => rNe x y H Q ∨ rNeD K x y H Q
theorem cm_NotEq {X : Cx} {K : PySem.W.Frag} (hu : X.A.units + 64 < cLine) (hK : X.K = K := by rfl) : OpR X (compareOp .NotEq) (rNeU K) := hK ▸ op_ne.or (op_neD hu)
def rInU (K : PySem.W.Frag) : R2 := fun x y H Q => (∃ (c : Nat) (z : Str), x = V.str ⟨#[c]⟩ ∧ y = .str z ∧ Q (.bl (decide (c ∈ z.cps.toList))) H) ∨ rIn K false x y H Q ∨ rInD K x y H Q
theorem cm_In {X : Cx} {K : PySem.W.Frag} (hu : X.A.units + 65 < cLine) (hK : X.K = K := by rfl) : OpR X (compareOp .In) (rInU K) := hK ▸ op_in_sign.or (op_in_seq.or (op_inD hu))
def rNotInU (K : PySem.W.Frag) : R2 := fun x y H Q => (∃ (c : Nat) (z : Str), x = V.str ⟨#[c]⟩ ∧ y = .str z ∧ Q (.bl (!decide (c ∈ z.cps.toList))) H) ∨ rIn K true x y H Q ∨ rNotInD K x y H Q
theorem cm_NotIn {X : Cx} {K : PySem.W.Frag} (hu : X.A.units + 65 < cLine) (hK : X.K = K := by rfl) : OpR X (compareOp .NotIn) (rNotInU K) := hK ▸ op_notIn_sign.or (op_notIn_seq.or (op_notInD hu))
def rIsU : R2 := fun x y H Q => (y = V.non ∧ Q (.bl (decide (x = .non))) H) ∨ (∃ a b : Bool, x = V.bl a ∧ y = .bl b ∧ Q (.bl (decide (a = b))) H)
theorem cm_Is {X : Cx} : OpR X (compareOp .Is) rIsU := op_isN.or op_isBl
def rIsNotU : R2 := fun x y H Q => (y = V.non ∧ Q (.bl (!decide (x = .non))) H) ∨ (∃ a b : Bool, x = V.bl a ∧ y = .bl b ∧ Q (.bl (!decide (a = b))) H)
theorem cm_IsNot {X : Cx} : OpR X (compareOp .IsNot) rIsNotU := op_notN.or op_notBl
def rSlU (K : PySem.W.Frag) : V → Option Int → Option Int → Hp → VK → Prop := fun x lo hi H Q => rSlS x lo hi H Q ∨ rSlL K x lo hi H Q
theorem sl_any {X : Cx} {K : PySem.W.Frag} (hK : X.K = K := by rfl) : SlR X (rSlU K) := hK ▸ sl_str.or sl_list
theorem ix_any {X : Cx} {K : PySem.W.Frag} (hK : X.K = K := by rfl) : IxR X (rIx K) := hK ▸ ix_seq
def rLenU (K : PySem.W.Frag) : List V → Hp → VK → Prop := fun xs H Q => ∃ x n, xs = [x] ∧ LenV K x H n ∧ Q (.int n) H
theorem call_lenA {X : Cx} {K : PySem.W.Frag} (hK : X.K = K := by rfl) : CallR X (.builtin "len") (rLenU K) := hK ▸ call_len
theorem call_isiA {X : Cx} {K : PySem.W.Frag} (hK : X.K = K := by rfl) : CallR X (.builtin "isinstance") (rIsi K) := hK ▸ call_isi
theorem call_allA {X : Cx} {K : PySem.W.Frag} (hc : X.calm = true := by rfl) (hK : X.K = K := by rfl) : CallR X (.builtin "all") (rAll K) := hK ▸ cr_all hc
theorem call_anyA {X : Cx} {K : PySem.W.Frag} (hc : X.calm = true := by rfl) (hK : X.K = K := by rfl) : CallR X (.builtin "any") (rAny K) := hK ▸ cr_any hc
theorem call_sumA {X : Cx} {K : PySem.W.Frag} (hc : X.calm = true := by rfl) (hK : X.K = K := by rfl) : CallR X (.builtin "sum") (rSum K) := hK ▸ cr_sum hc
def rListU (K : PySem.W.Frag) : List V → Hp → VK → Prop := fun xs H Q => ∃ p ys, xs = [.ref p] ∧ (SqL K H p ys ∨ SqT K H p ys) ∧ ∀ l, H l = none → Q (.ref l) (upd H l (.lst ys))
theorem call_listA {X : Cx} {K : PySem.W.Frag} (hK : X.K = K := by rfl) : CallR X (.type "list") (rListU K) := hK ▸ call_list_of
def rTupU (K : PySem.W.Frag) : List V → Hp → VK → Prop := fun xs H Q => ∃ p ys, xs = [.ref p] ∧ ((SqL K H p ys ∧ ∀ l, H l = none → Q (.ref l) (upd H l (.tup ys))) ∨ (SqT K H p ys ∧ Q (.ref p) H))
theorem call_tupleA {X : Cx} {K : PySem.W.Frag} (hK : X.K = K := by rfl) : CallR X (.type "tuple") (rTupU K) := hK ▸ call_tuple_of
def rJoinU (K : PySem.W.Frag) : V → List V → Hp → VK → Prop := fun x xs H Q => ∃ a p, ∃ ys : List Str, x = .str a ∧ xs = [.ref p] ∧ (SqL K H p (ys.map V.str) ∨ SqT K H p (ys.map V.str)) ∧ (ys.map (·.length)).sum + ys.length * a.length ≤ 16777216 ∧ Q (.str (Txt.join a ys)) H
theorem mt_joinA {X : Cx} {K : PySem.W.Frag} (hK : X.K = K := by rfl) : MtR X "str.join" (rJoinU K) := hK ▸ mt_join
def rSplitU : V → List V → Hp → VK → Prop := fun x xs H Q => ∃ a b, x = .str a ∧ xs = [.str b] ∧ (b.length == 0) = false ∧ a.length + 2 ≤ sizeLine ∧ rNewStrs (Txt.split a b) H Q
theorem mt_splitA {X : Cx} : MtR X "str.split" rSplitU := mt_split
def rLowerU : V → List V → Hp → VK → Prop := fun x xs H Q => ∃ a, x = .str a ∧ xs = [] ∧ a.length ≤ 5592405 ∧ Q (.str (Txt.lower a)) H
theorem mt_lowerA {X : Cx} : MtR X "str.lower" rLowerU := mt_lower
def rUpperU : V → List V → Hp → VK → Prop := fun x xs H Q => ∃ a, x = .str a ∧ xs = [] ∧ a.length ≤ 5592405 ∧ Q (.str (Txt.upper a)) H
theorem mt_upperA {X : Cx} : MtR X "str.upper" rUpperU := mt_upper
def rRemPreU : V → List V → Hp → VK → Prop := fun x xs H Q => ∃ a b, x = .str a ∧ xs = [.str b] ∧ a.length ≤ sizeLine ∧ Q (.str (Txt.removeprefix a b)) H
theorem mt_removeprefixA {X : Cx} : MtR X "str.removeprefix" rRemPreU := mt_removeprefix
def rIntU : List V → Hp → VK → Prop := fun xs H Q => ((∃ i, xs = [V.int i] ∧ Q (.int i) H) ∨ ∃ k, xs = [V.bl k] ∧ Q (.int (if k then 1 else 0)) H) ∨ (∃ a n, xs = [V.str a] ∧ PySem.intText? a = some n ∧ a.length ≤ 640 ∧ Q (.int n) H)
theorem call_intA {X : Cx} : CallR X (.type "int") rIntU := call_int1.or call_int_str
def rStripU : V → List V → Hp → VK → Prop := fun x xs H Q => ∃ a b, x = .str a ∧ xs = [.str b] ∧ a.length ≤ sizeLine ∧ Q (.str (Txt.stripChars a b)) H
theorem mt_stripA {X : Cx} : MtR X "str.strip" rStripU := mt_stripChars
def rFindU : V → List V → Hp → VK → Prop := fun x xs H Q => (∃ a b, x = .str a ∧ xs = [.str b] ∧ Q (.int (Txt.find a b)) H) ∨ (∃ (a b : Str) (i : Int), x = .str a ∧ xs = [.str b, .int i] ∧ Q (.int (Txt.find3 a b i)) H)
theorem mt_findA {X : Cx} : MtR X "str.find" rFindU := mt_find.or mt_find3
def iAny (K : PySem.W.Frag) (te : TE) : TI := fun σ H R => iList K te σ H R ∨ iTup K te σ H R ∨ iStr te σ H R
theorem pi_any {X : Cx} {K : PySem.W.Frag} {tg e : Expr} {te : TE} (h : PE X e te) (hK : X.K = K := by rfl) : PI X tg e (iAny K te) := hK ▸ PI_or (pi_list h) (PI_or (pi_tup h) (pi_str h))
theorem hu65 {k : Nat} {A : Around} (r : Room k A) : A.units + 65 < cLine := by have := r.un; omega
section
variable {X : Cx}
theorem pe_globI {x : Str} {i : Int} {pos : Pos} (hg : Gl X x) (hm : ∃ t, X.mg x = some (.int i t)) (hd : (x == ("__debug__" : Str)) = false := by decide) : PE X (.Name x pos) (tC (.int i)) := hm.elim fun t h => pe_glob hg h ⟨t, rfl⟩ hd
theorem pe_globS {x z : Str} {pos : Pos} (hg : Gl X x) (hm : ∃ t, X.mg x = some (.str z t)) (hd : (x == ("__debug__" : Str)) = false := by decide) : PE X (.Name x pos) (tC (.str z)) := hm.elim fun t h => pe_glob hg h ⟨t, rfl⟩ hd
theorem pe_globR {x : Str} {a : Addr} {pos : Pos} (hg : Gl X x) (hm : X.mg x = some (.ref a)) (hd : (x == ("__debug__" : Str)) = false := by decide) : PE X (.Name x pos) (tC (.ref a)) := pe_glob hg hm rfl hd
theorem pe_bty {x : Str} {T : String} {pos : Pos} (hg : Gl X x) (hm : X.mg x = none) (hv : bootBuiltins x = some (.type T)) (hn : x ≠ "__name__" := by decide) (hd : (x == ("__debug__" : Str)) = false := by decide) : PE X (.Name x pos) (tC (.ty T)) := pe_bltn hg hm hv rfl hn hd
end
section
variable {X : Cx} {K : PySem.W.Frag} {o e : Expr} {es : List Expr} {to : TE} {t : TA} {name : Str} {apos cpos : Pos} {T id : String} {r : V → List V → Hp → VK → Prop}
theorem pe_bm0K (pa : PlainAttrs T) (slot : Slot T name id) (hty : typeOf (.builtin id) = pure (.type "method_descriptor")) (hm : MtR X id r) (ho : PE X o to)
    (hK : X.K = K := by rfl) (hbase : attributeBase o name X.env (eval o X.env) = eval o X.env := by rfl) (hline : (apos.endLine == cpos.line) = true := by rfl) : PE X (.Call (.Attribute o name apos) [] [] cpos) (tBM0 K T r to) := hK ▸ pe_bm0 pa slot hty hm ho hbase hline
theorem pe_bmK (pa : PlainAttrs T) (slot : Slot T name id) (hty : typeOf (.builtin id) = pure (.type "method_descriptor")) (hm : MtR X id r) (ho : PE X o to) (ha : PA X (e :: es) t)
    (hK : X.K = K := by rfl) (hbase : attributeBase o name X.env (eval o X.env) = eval o X.env := by rfl)
    (hfew : ((backTo cpos (starEach (e :: es) X.env)).all (fun x => !x.1) && (backToKw cpos (keywordEach [] X.env)).all (fun x => x.1.isSome)
      && decide ((e :: es).length + ([] : List Keyword).length + (if ([] : List Keyword).isEmpty then 0 else 1) < 30)) = true := by rfl)
    (hline : (apos.endLine == cpos.line) = true := by rfl) (hs : starEach (e :: es) X.env = (false, eval e X.env) :: starEach es X.env := by rfl) (hplain : (backTo cpos (starEach es X.env)).any (·.1) = false := by rfl) :
    PE X (.Call (.Attribute o name apos) (e :: es) [] cpos) (tBM K T r to t) := hK ▸ pe_bm pa slot hty hm ho ha hbase hfew hline hs hplain
theorem pg_tupK {ts : List Expr} {k : Nat} {tg : TGs} {n : Nat} {pos : Pos} (hc : X.calm = true) (h : PGs X ts tg)
    (hK : X.K = K := by rfl) (hn : (assignEach ts X.env).length = n := by rfl) (hst : (assignEach ts X.env).findIdx? (·.1) = none := by rfl) : PG X (.Tuple ts k pos) (gTup K n tg) := hK ▸ pg_tup hc h hn hst
end
/-! ### a def that is called by its name -/
structure Cal (P : Program) (w : World) (K : PySem.W.Frag) (mg : Str → Option Value) (base : Heap) (k : Nat) (x : Str) (ps : List Str) (sp : Sp) : Prop where
  ex : ∃ f fd, FnOk P w K mg base CX0 k f fd ps sp ∧ mg x = some (.ref f) ∧ PySem.W.keepIn K (.ref f) = true ∧ Binds K fd ps [] ∧ ∃ oc od osl, K.lookup f = some ⟨oc, od, .func fd, osl⟩
theorem pe_callC {X : Cx} {k : Nat} {x : Str} {ps : List Str} {sp : Sp} {e : Expr} {es : List Expr} {t : TA} {p pos : Pos} (C : Cal X.prog X.w X.K X.mg X.base k x ps sp) (hr : Room k X.A) (hg : Gl X x) (ha : PA X (e :: es) t)
    (hdb : (x == ("__debug__" : Str)) = false := by decide) (he : starEach (e :: es) X.env = (false, eval e X.env) :: starEach es X.env := by rfl) (hpl : (backTo pos (starEach es X.env)).any (·.1) = false := by rfl) : PE X (.Call (.Name x p) (e :: es) [] pos) (tCall sp [] E0 t) := by
  obtain ⟨f, fd, F, hm, hk, hb, _⟩ := C.ex
  exact pe_call F hr hg hm hk hb .nil pass0 ha hdb he hpl
theorem Cal.mono {P : Program} {w : World} {K : PySem.W.Frag} {mg : Str → Option Value} {base : Heap} {k j : Nat} {x : Str} {ps : List Str} {sp : Sp} (C : Cal P w K mg base k x ps sp) (h : k ≤ j) : Cal P w K mg base j x ps sp := by
  obtain ⟨f, fd, F, r⟩ := C.ex
  exact ⟨f, fd, F.mono h, r⟩

theorem Paired_imp {α β : Type} {F G : α → β → Prop} (h : ∀ a b, F a b → G a b) : ∀ {xs : List α} {ys : List β}, Paired F xs ys → Paired G xs ys
  | _, _, .nil => .nil
  | _, _, .cons a b => .cons (h _ _ a) (Paired_imp h b)
/-! ### heaps to come: what may change (M), what holds of it (J) -/
def pres (M : Addr → Prop) (H H' : Hp) : Prop := ∀ a o, ¬ M a → H a = some o → H' a = some o
theorem pres.refl {M : Addr → Prop} (H : Hp) : pres M H H := fun _ _ _ h => h
theorem pres.trans {M : Addr → Prop} {H H1 H2 : Hp} (a : pres M H H1) (b : pres M H1 H2) : pres M H H2 := fun x o m h => b x o m (a x o m h)
theorem pres.ex {M : Addr → Prop} {H H1 : Hp} (a : Evl.Ex H H1) : pres M H H1 := fun x o _ h => a x o h
theorem pres.upd {M : Addr → Prop} {H : Hp} {l : Addr} {o : HO} (m : M l) : pres M H (upd H l o) := fun x o' mx h => by
  have ne : x ≠ l := fun e => mx (by rw [e]; exact m)
  rw [upd_ne ne]
  exact h
theorem pres.wider {M M' : Addr → Prop} (w : ∀ a, M a → M' a) {H H1 : Hp} (a : pres M H H1) : pres M' H H1 := fun x o m h => a x o (fun z => m (w x z)) h
/-- M: the addresses that may change; J n: what holds of them while n draws may still come -/
structure Rel where
  M : Addr → Prop
  J : Nat → Hp → Prop
  alive : ∀ {n H a}, J n H → M a → H a ≠ none
  loc : ∀ {n H H'}, J n H → (∀ a, M a → H' a = H a) → J n H'
  dec : ∀ {n m H}, J n H → m ≤ n → J m H
theorem Rel.mono (R : Rel) {n : Nat} {H H' : Hp} (j : R.J n H) (e : Evl.Ex H H') : R.J n H' := R.loc j fun a m => by
  cases h : H a with
  | none => exact absurd h (R.alive j m)
  | some o => exact e a o h
theorem Rel.put (R : Rel) {n : Nat} {H : Hp} {p : Addr} {o : HO} (j : R.J n H) (m : ¬ R.M p) : R.J n (upd H p o) := R.loc j fun a ma => upd_ne fun e => m (by rw [← e]; exact ma)
/-- H1 is to come behind H, n draws may come from there on -/
def Rel.ok (R : Rel) (n : Nat) (H H1 : Hp) : Prop := R.J n H1 ∧ pres R.M H H1
theorem Rel.refl (R : Rel) {n : Nat} {H H1 : Hp} (e : R.ok n H H1) : R.ok n H1 H1 := ⟨e.1, pres.refl H1⟩
theorem Rel.self (R : Rel) {n : Nat} {H : Hp} (e : R.J n H) : R.ok n H H := ⟨e, pres.refl H⟩
theorem Rel.trans (R : Rel) {n m : Nat} {H H1 H2 : Hp} (a : R.ok n H H1) (b : R.ok m H1 H2) : R.ok m H H2 := ⟨b.1, a.2.trans b.2⟩
theorem Rel.ex (R : Rel) {n : Nat} {H H1 : Hp} (j : R.J n H) (e : Evl.Ex H H1) : R.ok n H H1 := ⟨R.mono j e, pres.ex e⟩
theorem Rel.new (R : Rel) {n : Nat} {H : Hp} {p : Addr} {o : HO} (j : R.J n H) (h : H p = none) : R.ok n H (upd H p o) := R.ex j (Evl.Ex.new h)
theorem Rel.fresh (R : Rel) {n : Nat} {H : Hp} {p : Addr} (j : R.J n H) (h : H p = none) : ¬ R.M p := fun m => R.alive j m h
/-- nothing changes -/
def exR : Rel := ⟨fun _ => False, fun _ _ => True, fun _ m => m.elim, fun _ _ => trivial, fun _ _ => trivial⟩
theorem exR_of {n : Nat} {H H' : Hp} (e : Evl.Ex H H') : exR.ok n H H' := ⟨trivial, pres.ex e⟩
theorem exR_ex {n : Nat} {H H' : Hp} (e : exR.ok n H H') : Evl.Ex H H' := fun a o h => e.2 a o (fun z => z) h
theorem exR_to (R : Rel) {n m : Nat} {H H' : Hp} (j : R.J n H) (e : exR.ok m H H') : R.ok n H H' := R.ex j (exR_ex e)
/-- the list at D changes, too: it holds xs, it holds some list -/
def Rel.at (R : Rel) (D : Addr) (xs : List V) : Rel := ⟨fun a => R.M a ∨ a = D, fun n H => R.J n H ∧ H D = some (.lst xs), fun j m => m.elim (fun m => R.alive j.1 m) (fun e => by rw [e, j.2]; exact fun z => nomatch z), fun j e => ⟨R.loc j.1 fun a m => e a (.inl m), (e D (.inr rfl)).trans j.2⟩, fun j h => ⟨R.dec j.1 h, j.2⟩⟩
def Rel.off (R : Rel) (D : Addr) : Rel := ⟨fun a => R.M a ∨ a = D, fun n H => R.J n H ∧ ∃ xs, H D = some (.lst xs), fun j m => m.elim (fun m => R.alive j.1 m) (fun e => by obtain ⟨xs, h⟩ := j.2; rw [e, h]; exact fun z => nomatch z), fun j e => ⟨R.loc j.1 fun a m => e a (.inl m), j.2.elim fun xs h => ⟨xs, (e D (.inr rfl)).trans h⟩⟩, fun j h => ⟨R.dec j.1 h, j.2⟩⟩
/-- a property of a value that stays true while all but M stays, whatever M is -/
structure SP where
  P : (Addr → Prop) → V → Hp → Prop
  st : ∀ {M v H H'}, pres M H H' → P M v H → P M v H'
  lift : ∀ {M M' v H}, (∀ a, M' a → M a ∨ H a = none) → P M v H → P M' v H
/-- the value is v -/
def is (v : V) : SP := ⟨fun _ x _ => x = v, fun _ h => h, fun _ h => h⟩
/-- a property of the value alone -/
def sat (G : V → Prop) : SP := ⟨fun _ x _ => G x, fun _ h => h, fun _ h => h⟩
section
variable {M M' : Addr → Prop} {K : PySem.W.Frag} {H H' : Hp}
/-- a list, a tuple that stays: tracked outside M, or written -/
def SqM (K : PySem.W.Frag) (M : Addr → Prop) (H : Hp) (p : Addr) (xs : List V) : Prop := (Rd H p (.lst xs) ∧ ¬ M p) ∨ ∀ H', SqL K H' p xs
def StM (K : PySem.W.Frag) (M : Addr → Prop) (H : Hp) (p : Addr) (xs : List V) : Prop := (Rd H p (.tup xs) ∧ ¬ M p) ∨ ∀ H', SqT K H' p xs
theorem rd_st {p : Addr} {o : HO} (e : pres M H H') (m : ¬ M p) (h : Rd H p o) : Rd H' p o := by
  rcases h with h | ⟨w, h⟩
  · exact .inl (e p _ m h)
  · exact .inr ⟨w, e p _ m h⟩
theorem rd_lift {p : Addr} {o : HO} (w : ∀ a, M' a → M a ∨ H a = none) (h : Rd H p o) (m : ¬ M p) : ¬ M' p := fun z => (w p z).elim m fun n => by
  rcases h with h | ⟨_, h⟩ <;> rw [n] at h <;> cases h
theorem SqM.sq {p : Addr} {xs : List V} (h : SqM K M H p xs) : SqL K H p xs := h.elim (fun a => .inl a.1) fun a => a H
theorem StM.sq {p : Addr} {xs : List V} (h : StM K M H p xs) : SqT K H p xs := h.elim (fun a => .inl a.1) fun a => a H
theorem SqM.st {p : Addr} {xs : List V} (e : pres M H H') (h : SqM K M H p xs) : SqM K M H' p xs := h.imp (fun a => ⟨rd_st e a.2 a.1, a.2⟩) id
theorem StM.st {p : Addr} {xs : List V} (e : pres M H H') (h : StM K M H p xs) : StM K M H' p xs := h.imp (fun a => ⟨rd_st e a.2 a.1, a.2⟩) id
theorem SqM.lift {p : Addr} {xs : List V} (w : ∀ a, M' a → M a ∨ H a = none) (h : SqM K M H p xs) : SqM K M' H p xs := h.imp (fun a => ⟨a.1, rd_lift w a.1 a.2⟩) id
theorem StM.lift {p : Addr} {xs : List V} (w : ∀ a, M' a → M a ∨ H a = none) (h : StM K M H p xs) : StM K M' H p xs := h.imp (fun a => ⟨a.1, rd_lift w a.1 a.2⟩) id
theorem SqM.of {p : Addr} {xs : List V} (h : H p = some (.lst xs)) (m : ¬ M p) : SqM K M H p xs := .inl ⟨.inl h, m⟩
theorem StM.of {p : Addr} {xs : List V} (h : H p = some (.tup xs)) (m : ¬ M p) : StM K M H p xs := .inl ⟨.inl h, m⟩
/-- a list of the run's own that stays -/
def LtM (M : Addr → Prop) (H : Hp) (p : Addr) (xs : List V) : Prop := H p = some (.lst xs) ∧ ¬ M p
theorem LtM.sqm {p : Addr} {xs : List V} (h : LtM M H p xs) : SqM K M H p xs := .of h.1 h.2
theorem LtM.sq {p : Addr} {xs : List V} (h : LtM M H p xs) : SqL K H p xs := .inl (.inl h.1)
theorem LtM.st {p : Addr} {xs : List V} (e : pres M H H') (h : LtM M H p xs) : LtM M H' p xs := ⟨e p _ h.2 h.1, h.2⟩
theorem LtM.lift {p : Addr} {xs : List V} (w : ∀ a, M' a → M a ∨ H a = none) (h : LtM M H p xs) : LtM M' H p xs := ⟨h.1, rd_lift w (.inl h.1) h.2⟩
end
/-- a list, a tuple whose items have G -/
def lstG (G : List V → Prop) : SP := ⟨fun M x H => ∃ p xs, x = .ref p ∧ LtM M H p xs ∧ G xs, fun e ⟨p, xs, a, h, g⟩ => ⟨p, xs, a, h.st e, g⟩, fun w ⟨p, xs, a, h, g⟩ => ⟨p, xs, a, h.lift w, g⟩⟩
def tupG (K : PySem.W.Frag) (G : List V → Prop) : SP := ⟨fun M x H => ∃ p xs, x = .ref p ∧ StM K M H p xs ∧ G xs, fun e ⟨p, xs, a, h, g⟩ => ⟨p, xs, a, h.st e, g⟩, fun w ⟨p, xs, a, h, g⟩ => ⟨p, xs, a, h.lift w, g⟩⟩
/-- .. whose items each have the property told by ys -/
def lstP {α : Type} (pe : α → SP) (ys : List α) : SP := ⟨fun M x H => ∃ p xs, x = .ref p ∧ LtM M H p xs ∧ Paired (fun v y => (pe y).P M v H) xs ys, fun e ⟨p, xs, a, h, g⟩ => ⟨p, xs, a, h.st e, Paired_imp (fun _ _ z => (pe _).st e z) g⟩, fun w ⟨p, xs, a, h, g⟩ => ⟨p, xs, a, h.lift w, Paired_imp (fun _ _ z => (pe _).lift w z) g⟩⟩
def tupP (K : PySem.W.Frag) {α : Type} (pe : α → SP) (ys : List α) : SP := ⟨fun M x H => ∃ p xs, x = .ref p ∧ StM K M H p xs ∧ Paired (fun v y => (pe y).P M v H) xs ys, fun e ⟨p, xs, a, h, g⟩ => ⟨p, xs, a, h.st e, Paired_imp (fun _ _ z => (pe _).st e z) g⟩, fun w ⟨p, xs, a, h, g⟩ => ⟨p, xs, a, h.lift w, Paired_imp (fun _ _ z => (pe _).lift w z) g⟩⟩
/-- both, either, some -/
def SP.and (p q : SP) : SP := ⟨fun M v H => p.P M v H ∧ q.P M v H, fun e h => ⟨p.st e h.1, q.st e h.2⟩, fun w h => ⟨p.lift w h.1, q.lift w h.2⟩⟩
def SP.or (p q : SP) : SP := ⟨fun M v H => p.P M v H ∨ q.P M v H, fun e h => h.imp (p.st e) (q.st e), fun w h => h.imp (p.lift w) (q.lift w)⟩
def SP.ex {α : Type} (p : α → SP) : SP := ⟨fun M v H => ∃ a, (p a).P M v H, fun e ⟨a, h⟩ => ⟨a, (p a).st e h⟩, fun w ⟨a, h⟩ => ⟨a, (p a).lift w h⟩⟩
/-- facts by M at H are carried over to M' at H' -/
structure Ext0 (M : Addr → Prop) (H : Hp) (M' : Addr → Prop) (H' : Hp) : Prop where
  w : ∀ a, M' a → M a ∨ H a = none
  pr : pres M' H H'
theorem Ext0.get {M M' : Addr → Prop} {H H' : Hp} (s : Ext0 M H M' H') {p : SP} {v : V} (h : p.P M v H) : p.P M' v H' := p.st s.pr (p.lift s.w h)
theorem Ext0.of {R : Rel} {n : Nat} {H H' : Hp} (e : R.ok n H H') : Ext0 R.M H R.M H' := ⟨fun _ m => .inl m, e.2⟩
/-- a relation R' and a heap H' to which what is known by R at H is carried over -/
structure Ext (R : Rel) (H : Hp) (R' : Rel) (H' : Hp) : Prop where
  w : ∀ a, R'.M a → R.M a ∨ H a = none
  up : ∀ a, R.M a → R'.M a
  jr : ∀ n H1, R'.J n H1 → R.J n H1
  put : ∀ n m H1 a o, R.M a → R'.J n H1 → R.J m (upd H1 a o) → R'.J m (upd H1 a o)
  pr : pres R'.M H H'
theorem Ext.get {R R' : Rel} {H H' : Hp} (s : Ext R H R' H') {p : SP} {v : V} (h : p.P R.M v H) : p.P R'.M v H' := p.st s.pr (p.lift s.w h)
theorem Ext.to0 {R R' : Rel} {H H' : Hp} (s : Ext R H R' H') : Ext0 R.M H R'.M H' := ⟨s.w, s.pr⟩
theorem Ext.refl {R : Rel} {n : Nat} {H H' : Hp} (e : R.ok n H H') : Ext R H R H' := ⟨fun _ m => .inl m, fun _ m => m, fun _ _ h => h, fun _ _ _ _ _ _ _ h => h, e.2⟩
theorem Ext.step {R R' : Rel} {n : Nat} {H H' H2 : Hp} (s : Ext R H R' H') (e : R'.ok n H' H2) : Ext R H R' H2 := ⟨s.w, s.up, s.jr, s.put, s.pr.trans e.2⟩
theorem Ext.pre {R R' : Rel} {n : Nat} {H0 H H' : Hp} (e : R.ok n H0 H) (s : Ext R H R' H') : Ext R H0 R' H' := ⟨fun a m => (s.w a m).imp id fun n => by
  cases h : H0 a with
  | none => rfl
  | some o => exact absurd n (by
      by_cases m0 : R.M a
      · exact R.alive e.1 m0
      · rw [e.2 a o m0 h]
        exact fun z => nomatch z), s.up, s.jr, s.put, (e.2.wider s.up).trans s.pr⟩
theorem Ext.at {R : Rel} {n m : Nat} {H H' : Hp} {D : Addr} {acc : List V} (j : R.J n H) (e : R.ok m H H') (hD : H D = none) (h : H' D = some (.lst acc)) : Ext R H (R.at D acc) H' := by
  refine ⟨fun a m => m.imp id fun z => by rw [z]; exact hD, fun a m => .inl m, fun _ _ j => j.1, fun _ _ H1 a o m j1 j' => ⟨j', ?_⟩, e.2.wider fun a m => .inl m⟩
  have ne : D ≠ a := fun z => R.alive j m (by rw [← z]; exact hD)
  rw [upd_ne ne]
  exact j1.2
section
variable {R : Rel} {n m k : Nat}
/-! ### what evaluates to what: from n draws that may come to m -/
def EvP (R : Rel) (n m : Nat) (te : TE) (σ : L2.St) (H : Hp) (p : SP) : Prop := ∀ H1, R.ok n H H1 → ∀ Q : VK, (∀ v H2, R.ok m H1 H2 → p.P R.M v H2 → Q v H2) → te σ H1 Q
def EvT (R : Rel) (n m : Nat) (tt : TT) (σ : L2.St) (H : Hp) (G : Bool → Prop) : Prop := ∀ H1, R.ok n H H1 → ∀ Q : Bool → Hp → Prop, (∀ b H2, R.ok m H1 H2 → G b → Q b H2) → tt σ H1 Q
def EvA (R : Rel) (n m : Nat) (ta : TA) (σ : L2.St) (H : Hp) (ps : List SP) : Prop := ∀ H1, R.ok n H H1 → ∀ Q : List V → Hp → Prop, (∀ vs H2, R.ok m H1 H2 → Paired (fun v (p : SP) => p.P R.M v H2) vs ps → Q vs H2) → ta σ H1 Q
def EvO (R : Rel) (n m : Nat) (to : TO) (σ : L2.St) (H : Hp) (G : Option Int → Prop) : Prop := ∀ H1, R.ok n H H1 → ∀ Q : Option Int → Hp → Prop, (∀ o H2, R.ok m H1 H2 → G o → Q o H2) → to σ H1 Q
/-- operations on values (no draw) -/
def RV (R : Rel) (r : R2) (x y : V) (H : Hp) (p : SP) : Prop := ∀ n, R.J n H → ∀ Q : VK, (∀ z H2, R.ok n H H2 → p.P R.M z H2 → Q z H2) → r x y H Q
def RU (R : Rel) (r : V → Hp → VK → Prop) (x : V) (H : Hp) (p : SP) : Prop := ∀ n, R.J n H → ∀ Q : VK, (∀ z H2, R.ok n H H2 → p.P R.M z H2 → Q z H2) → r x H Q
def RC (R : Rel) (r : List V → Hp → VK → Prop) (vs : List V) (H : Hp) (p : SP) : Prop := ∀ n, R.J n H → ∀ Q : VK, (∀ z H2, R.ok n H H2 → p.P R.M z H2 → Q z H2) → r vs H Q
def RM (R : Rel) (r : V → List V → Hp → VK → Prop) (x : V) (vs : List V) (H : Hp) (p : SP) : Prop := ∀ n, R.J n H → ∀ Q : VK, (∀ z H2, R.ok n H H2 → p.P R.M z H2 → Q z H2) → r x vs H Q
def RS (R : Rel) (r : V → Option Int → Option Int → Hp → VK → Prop) (x : V) (lo hi : Option Int) (H : Hp) (p : SP) : Prop := ∀ n, R.J n H → ∀ Q : VK, (∀ z H2, R.ok n H H2 → p.P R.M z H2 → Q z H2) → r x lo hi H Q

variable {K : PySem.W.Frag} {σ : L2.St} {H H' : Hp} {ta tb tc te : TE} {t u : TT} {x y z v : V} {r : R2} {p q s : SP}
theorem EvP.mono {j : Nat} (e : R.ok j H H') (h : EvP R n m te σ H p) : EvP R n m te σ H' p := fun H1 a Q k => h H1 (R.trans e a) Q k
theorem EvT.mono {j : Nat} {G : Bool → Prop} (e : R.ok j H H') (h : EvT R n m t σ H G) : EvT R n m t σ H' G := fun H1 a Q k => h H1 (R.trans e a) Q k
theorem EvP.imp (h : EvP R n m te σ H p) (k : ∀ v H1, R.ok m H H1 → p.P R.M v H1 → q.P R.M v H1) : EvP R n m te σ H q := fun H1 a Q f => h H1 a Q fun v H2 r2 hv => f v H2 r2 (k v H2 (R.trans a r2) hv)
theorem EvT.imp {G G' : Bool → Prop} (h : EvT R n m t σ H G) (k : ∀ b, G b → G' b) : EvT R n m t σ H G' := fun H1 a Q f => h H1 a Q fun v H2 r2 hv => f v H2 r2 (k v hv)
/-- fewer draws may come -/
theorem EvP.fewer {m' : Nat} (h : EvP R n m te σ H p) (hm : m' ≤ m) : EvP R n m' te σ H p := fun H1 a Q f => h H1 a Q fun v H2 r2 hv => f v H2 ⟨R.dec r2.1 hm, r2.2⟩ hv
theorem EvP.more {n' : Nat} (h : EvP R n m te σ H p) (hn : n ≤ n') : EvP R n' m te σ H p := fun H1 a Q f => h H1 ⟨R.dec a.1 hn, a.2⟩ Q f
theorem ev_is (h : EvP R n m te σ H (is v)) (e : v = z) : EvP R n m te σ H (is z) := by
  subst e
  exact h
theorem ev_var {i : Nat} (h : σ[i]? = some (some v)) : EvP R n n (tVar i) σ H (is v) := fun H1 e _ k => ⟨v, h, k v H1 (R.refl e) rfl⟩
theorem ev_varP {i : Nat} (h : σ[i]? = some (some v)) (hp : p.P R.M v H) : EvP R n n (tVar i) σ H p := fun H1 e _ k => ⟨v, h, k v H1 (R.refl e) (p.st e.2 hp)⟩
theorem ev_c : EvP R n n (tC v) σ H (is v) := fun H1 e _ k => k v H1 (R.refl e) rfl
theorem ev_cP (hp : p.P R.M v H) : EvP R n n (tC v) σ H p := fun H1 e _ k => k v H1 (R.refl e) (p.st e.2 hp)
theorem ev_op (ha : EvP R n m ta σ H p) (hb : EvP R m k tb σ H q) (hr : ∀ x y H1, R.ok k H H1 → p.P R.M x H1 → q.P R.M y H1 → RV R r x y H1 s) : EvP R n k (tOp r ta tb) σ H s := fun H1 e Q f =>
  ha H1 e _ fun x H2 e2 hx => hb H2 (R.trans e e2) _ fun y H3 e3 hy => hr x y H3 (R.trans (R.trans e e2) e3) (p.st e3.2 hx) hy _ e3.1 Q fun z H4 e4 hz => f z H4 (R.trans (R.trans e2 e3) e4) hz
/-- both operands known -/
theorem ev_op2 (ha : EvP R n m ta σ H (is x)) (hb : EvP R m k tb σ H (is y)) (hr : ∀ H1, R.ok k H H1 → RV R r x y H1 s) : EvP R n k (tOp r ta tb) σ H s := ev_op ha hb fun a b H1 e ea eb => by
  have ea : a = x := ea
  have eb : b = y := eb
  subst ea; subst eb
  exact hr H1 e
theorem ev_un {ru : V → Hp → VK → Prop} (ha : EvP R n m ta σ H p) (hr : ∀ x H1, R.ok m H H1 → p.P R.M x H1 → RU R ru x H1 s) : EvP R n m (tUn ru ta) σ H s := fun H1 e Q f =>
  ha H1 e _ fun x H2 e2 hx => hr x H2 (R.trans e e2) hx _ e2.1 Q fun z H3 e3 hz => f z H3 (R.trans e2 e3) hz
theorem ev_neg {i : Int} (ha : EvP R n m ta σ H (is (.int i))) : EvP R n m (tUn (rU fun i => .int (-i)) ta) σ H (is (.int (-i))) := ev_un ha fun x H1 e hx _ j Q k => ⟨i, hx, k _ H1 (R.self j) rfl⟩
theorem ea_nil : EvA R n n tNil σ H [] := fun H1 e _ k => k [] H1 (R.refl e) .nil
theorem ea_cons {tr : TA} {ps : List SP} (h : EvP R n m ta σ H p) (hr : EvA R m k tr σ H ps) : EvA R n k (tCons ta tr) σ H (p :: ps) := fun H1 e _ f =>
  h H1 e _ fun v H2 e2 hv => hr H2 (R.trans e e2) _ fun vs H3 e3 hvs => f (v :: vs) H3 (R.trans e2 e3) (.cons (p.st e3.2 hv) hvs)
theorem ev_cb {rc : List V → Hp → VK → Prop} {tar : TA} {ps : List SP} (h : EvA R n m tar σ H ps) (hr : ∀ vs H1, R.ok m H H1 → Paired (fun v (p : SP) => p.P R.M v H1) vs ps → RC R rc vs H1 s) : EvP R n m (tCB rc tar) σ H s := fun H1 e Q f =>
  h H1 e _ fun vs H2 e2 hv => hr vs H2 (R.trans e e2) hv _ e2.1 Q fun z H3 e3 hz => f z H3 (R.trans e2 e3) hz
theorem ev_bm {T : String} {rm : V → List V → Hp → VK → Prop} {tar : TA} {ps : List SP} (ho : EvP R n m te σ H p) (hT : ∀ x H1, R.ok m H H1 → p.P R.M x H1 → tyV K T x H1) (h : EvA R m k tar σ H ps)
    (hr : ∀ x vs H1, R.ok k H H1 → p.P R.M x H1 → Paired (fun v (p : SP) => p.P R.M v H1) vs ps → RM R rm x vs H1 s) : EvP R n k (tBM K T rm te tar) σ H s := fun H1 e Q f =>
  ho H1 e _ fun x H2 e2 hx => ⟨hT x H2 (R.trans e e2) hx, h H2 (R.trans e e2) _ fun vs H3 e3 hv => hr x vs H3 (R.trans (R.trans e e2) e3) (p.st e3.2 hx) hv _ e3.1 Q fun z H4 e4 hz => f z H4 (R.trans (R.trans e2 e3) e4) hz⟩
theorem eo_none : EvO R n n tNoPart σ H (fun o => o = none) := fun H1 e _ k => k none H1 (R.refl e) rfl
theorem eo_some {i : Int} (h : EvP R n m te σ H (is (.int i))) : EvO R n m (tPart te) σ H (fun o => o = some i) := fun H1 e _ k => h H1 e _ fun v H2 e2 hv => ⟨i, hv, k _ H2 e2 rfl⟩
theorem ev_sl {j : Nat} {rs : V → Option Int → Option Int → Hp → VK → Prop} {tl th : TO} {lo hi : Option Int} (ha : EvP R n m te σ H p) (hl : EvO R m k tl σ H (fun o => o = lo)) (hh : EvO R k j th σ H (fun o => o = hi)) (hr : ∀ x H1, R.ok j H H1 → p.P R.M x H1 → RS R rs x lo hi H1 s) : EvP R n j (tSl rs te tl th) σ H s := fun H1 e Q f =>
  ha H1 e _ fun x H2 e2 hx => hl H2 (R.trans e e2) _ fun o H3 e3 ho => hh H3 (R.trans (R.trans e e2) e3) _ fun o' H4 e4 ho' => by
    subst ho; subst ho'
    exact hr x H4 (R.trans (R.trans (R.trans e e2) e3) e4) (p.st (R.trans e3 e4).2 hx) _ e4.1 Q fun z H5 e5 hz => f z H5 (R.trans (R.trans (R.trans e2 e3) e4) e5) hz
/-! ### tests -/
theorem et_test {b : Bool} (h : EvP R n m te σ H (is (.bl b))) : EvT R n m (tTest te) σ H (· = b) := fun H1 e _ k => h H1 e _ fun v H2 e2 hv => ⟨b, hv, k b H2 e2 rfl⟩
theorem et_B {b : Bool} (h : EvP R n m te σ H (is (.bl b))) : EvT R n m (tB te) σ H (· = b) := fun H1 e _ k => h H1 e _ fun v H2 e2 hv => ⟨b, hv, k b H2 e2 rfl⟩
/-- a test whose outcome is open -/
theorem et_testG {G : Bool → Prop} (h : EvP R n m te σ H (sat fun v => ∃ b, v = .bl b ∧ G b)) : EvT R n m (tTest te) σ H G := fun H1 e _ k => h H1 e _ fun v H2 e2 ⟨b, hv, g⟩ => ⟨b, hv, k b H2 e2 g⟩
theorem et_BG {G : Bool → Prop} (h : EvP R n m te σ H (sat fun v => ∃ b, v = .bl b ∧ G b)) : EvT R n m (tB te) σ H G := fun H1 e _ k => h H1 e _ fun v H2 e2 ⟨b, hv, g⟩ => ⟨b, hv, k b H2 e2 g⟩
/-- open outcomes -/
theorem et_andG {G G' : Bool → Prop} (h1 : EvT R n m t σ H G) (h2 : G true → EvT R m k u σ H G') (h3 : G false → G' false) (hk : k ≤ m) : EvT R n k (tAnd t u) σ H G' := fun H1 e Q f => h1 H1 e _ fun c H2 e2 hc => by
  cases c with
  | true =>
    show u σ H2 Q
    exact h2 hc H2 (R.trans e e2) Q fun d H3 e3 hd => f d H3 (R.trans e2 e3) hd
  | false =>
    show Q false H2
    exact f false H2 ⟨R.dec e2.1 hk, e2.2⟩ (h3 hc)
theorem et_orG {G G' : Bool → Prop} (h1 : EvT R n m t σ H G) (h2 : G false → EvT R m k u σ H G') (h3 : G true → G' true) (hk : k ≤ m) : EvT R n k (tOr t u) σ H G' := fun H1 e Q f => h1 H1 e _ fun c H2 e2 hc => by
  cases c with
  | true =>
    show Q true H2
    exact f true H2 ⟨R.dec e2.1 hk, e2.2⟩ (h3 hc)
  | false =>
    show u σ H2 Q
    exact h2 hc H2 (R.trans e e2) Q fun d H3 e3 hd => f d H3 (R.trans e2 e3) hd
theorem et_and {a b : Bool} (h1 : EvT R n n t σ H (· = a)) (h2 : a = true → EvT R n n u σ H (· = b)) : EvT R n n (tAnd t u) σ H (· = (a && b)) := et_andG h1 (fun e => by subst e; exact h2 rfl) (fun e => by subst e; rfl) (Nat.le_refl _)
theorem et_or {a b : Bool} (h1 : EvT R n n t σ H (· = a)) (h2 : a = false → EvT R n n u σ H (· = b)) : EvT R n n (tOr t u) σ H (· = (a || b)) := et_orG h1 (fun e => by subst e; exact h2 rfl) (fun e => by subst e; rfl) (Nat.le_refl _)
theorem et_not {a : Bool} (h1 : EvT R n m t σ H (· = a)) : EvT R n m (tNot t) σ H (· = !a) := fun H1 e _ k => h1 H1 e _ fun c H2 e2 hc => k (!c) H2 e2 (congrArg not hc)
theorem et_is {a b : Bool} (h : EvT R n m t σ H (· = a)) (e : a = b) : EvT R n m t σ H (· = b) := by
  subst e
  exact h
theorem ev_andV {a b : Bool} (h1 : EvP R n n ta σ H (is (.bl a))) (h2 : a = true → EvP R n n tb σ H (is (.bl b))) : EvP R n n (tAndV ta tb) σ H (is (.bl (a && b))) := fun H1 e Q k => h1 H1 e _ fun v H2 e2 hv => ⟨a, hv, by
  cases a with
  | true =>
    show tb σ H2 Q
    exact h2 rfl H2 (R.trans e e2) Q fun d H3 e3 hd => k d H3 (R.trans e2 e3) hd
  | false =>
    show Q (.bl false) H2
    exact k _ H2 e2 rfl⟩
theorem ev_orV {a b : Bool} (h1 : EvP R n n ta σ H (is (.bl a))) (h2 : a = false → EvP R n n tb σ H (is (.bl b))) : EvP R n n (tOrV ta tb) σ H (is (.bl (a || b))) := fun H1 e Q k => h1 H1 e _ fun v H2 e2 hv => ⟨a, hv, by
  cases a with
  | true =>
    show Q (.bl true) H2
    exact k _ H2 e2 rfl
  | false =>
    show tb σ H2 Q
    exact h2 rfl H2 (R.trans e e2) Q fun d H3 e3 hd => k d H3 (R.trans e2 e3) hd⟩
theorem ev_notV {a : Bool} (h1 : EvP R n m ta σ H (is (.bl a))) : EvP R n m (tNotV ta) σ H (is (.bl (!a))) := fun H1 e _ k => h1 H1 e _ fun v H2 e2 hv => ⟨a, hv, k _ H2 e2 rfl⟩
theorem ev_if {G : Bool → Prop} (h : EvT R n m t σ H G) (h1 : G true → EvP R m k ta σ H s) (h2 : G false → EvP R m k tb σ H s) : EvP R n k (tIf t ta tb) σ H s := fun H1 e Q f => h H1 e _ fun b H2 e2 hb => by
  cases b with
  | true =>
    show ta σ H2 Q
    exact h1 hb H2 (R.trans e e2) Q fun d H3 e3 hd => f d H3 (R.trans e2 e3) hd
  | false =>
    show tb σ H2 Q
    exact h2 hb H2 (R.trans e e2) Q fun d H3 e3 hd => f d H3 (R.trans e2 e3) hd
/-- a known test -/
theorem ev_ifB {b : Bool} (h : EvT R n m t σ H (· = b)) (h1 : b = true → EvP R m k ta σ H s) (h2 : b = false → EvP R m k tb σ H s) : EvP R n k (tIf t ta tb) σ H s := ev_if h (fun e => h1 e.symm) (fun e => h2 e.symm)
theorem ev_ifV {b : Bool} {v w : V} (h : EvT R n m t σ H (· = b)) (h1 : b = true → EvP R m k ta σ H (is v)) (h2 : b = false → EvP R m k tb σ H (is w)) : EvP R n k (tIf t ta tb) σ H (is (if b = true then v else w)) := ev_ifB h (fun e => by
  rw [if_pos e]
  exact h1 e) (fun e => by
  rw [if_neg (by rw [e]; decide)]
  exact h2 e)
theorem ev_chain {r' : R2} {a b : Bool} (ha : EvP R n n ta σ H (is x)) (hb : EvP R n n tb σ H (is y)) (hc : EvP R n n tc σ H (is z)) (h1 : ∀ H1, R.ok n H H1 → RV R r x y H1 (is (.bl a))) (h2 : ∀ H1, R.ok n H H1 → RV R r' y z H1 (is (.bl b))) : EvP R n n (tChain r r' ta tb tc) σ H (is (.bl (a && b))) := fun H1 e Q f =>
  ha H1 e _ fun v1 H2 e2 q1 => hb H2 (R.trans e e2) _ fun v2 H3 e3 q2 => by
    have q1 : v1 = x := q1
    have q2 : v2 = y := q2
    subst q1; subst q2
    have e13 := R.trans (R.trans e e2) e3
    refine h1 H3 e13 n e3.1 _ fun w H4 e4 hw => ⟨a, hw, ?_⟩
    cases a with
    | true =>
      show tc σ H4 _
      refine hc H4 (R.trans e13 e4) _ fun v3 H5 e5 q3 => ?_
      have q3 : v3 = z := q3
      subst q3
      exact h2 H5 (R.trans (R.trans e13 e4) e5) n e5.1 Q fun w2 H6 e6 hw2 => f w2 H6 (R.trans (R.trans (R.trans (R.trans e2 e3) e4) e5) e6) hw2
    | false =>
      show Q (.bl false) H4
      exact f _ H4 (R.trans (R.trans e2 e3) e4) rfl
/-- a def is called -/
theorem ev_call {sp : Sp} {tar : TA} {ps : List SP} (h : EvA R n m tar σ H ps) (hs : ∀ vs H1, R.ok m H H1 → Paired (fun v (p : SP) => p.P R.M v H1) vs ps → ∀ Q : VK, (∀ v H2, R.ok k H1 H2 → s.P R.M v H2 → Q v H2) → sp vs H1 Q E0) : EvP R n k (tCall sp [] E0 tar) σ H s := fun H1 e Q f =>
  h H1 e _ fun vs H2 e2 hv => by
    show sp (vs ++ []) H2 Q E0
    rw [List.append_nil]
    exact hs vs H2 (R.trans e e2) hv Q fun v H3 e3 h3 => f v H3 (R.trans e2 e3) h3
/-! ### statements -/
def StF (R : Rel) (n : Nat) (ts : TS) (D : Ends) (σ : L2.St) (H : Hp) : Prop := ∀ H1, R.ok n H H1 → ts D σ H1
variable {D : Ends} {tu tw tz : TS} {g : TG}
theorem StF.run {ts : TS} (h : StF R n ts D σ H) (j : R.J n H) : ts D σ H := h H (R.self j)
theorem StF.mono {ts : TS} {j : Nat} (e : R.ok j H H') (h : StF R n ts D σ H) : StF R n ts D σ H' := fun H1 a => h H1 (R.trans e a)
theorem StF.more {ts : TS} {n' : Nat} (h : StF R n ts D σ H) (hn : n ≤ n') : StF R n' ts D σ H := fun H1 a => h H1 ⟨R.dec a.1 hn, a.2⟩
theorem s_ret (h : EvP R n m te σ H p) (k : ∀ v H1, R.ok m H H1 → p.P R.M v H1 → D.rt v H1) : StF R n (tRet te) D σ H := fun H1 e => h H1 e _ fun v H2 e2 hv => k v H2 (R.trans e e2) hv
theorem s_if {G : Bool → Prop} (h : EvT R n m t σ H G) (h1 : G true → StF R m tu D σ H) (h2 : G false → StF R m tw D σ H) : StF R n (tIfS t tu tw) D σ H := fun H1 e => h H1 e _ fun b H2 e2 hb => by
  cases b with
  | true =>
    show tu D σ H2
    exact h1 hb H2 (R.trans e e2)
  | false =>
    show tw D σ H2
    exact h2 hb H2 (R.trans e e2)
theorem s_ifB {b : Bool} (h : EvT R n m t σ H (· = b)) (h1 : b = true → StF R m tu D σ H) (h2 : b = false → StF R m tw D σ H) : StF R n (tIfS t tu tw) D σ H := s_if h (fun e => h1 e.symm) (fun e => h2 e.symm)
/-- what comes behind a statement -/
theorem s_nx (k : ∀ H1, R.ok n H H1 → D.nx σ H1) : StF R n tNext D σ H := k
/-- x = e, the value known by its property alone: the heap stays -/
theorem s_asgG {i : Nat} {G : V → Prop} (h : EvP R n m te σ H (sat G)) (k : ∀ v, G v → ∀ H1, R.ok m H H1 → D.nx (σ.set i (some v)) H1) : StF R n (tAsg te (gName i)) D σ H := fun H1 e => h H1 e _ fun v H2 e2 hv => k v hv H2 (R.trans e e2)
theorem s_asgV {i : Nat} (h : EvP R n m te σ H (is v)) (k : ∀ H1, R.ok m H H1 → D.nx (σ.set i (some v)) H1) : StF R n (tAsg te (gName i)) D σ H := fun H1 e => h H1 e _ fun w H2 e2 hw => by
  have hw : w = v := hw
  subst hw
  exact k H2 (R.trans e e2)
theorem s_asg {i : Nat} (h : EvP R n m te σ H p) (k : ∀ v H1, R.ok m H H1 → p.P R.M v H1 → D.nx (σ.set i (some v)) H1) : StF R n (tAsg te (gName i)) D σ H := fun H1 e => h H1 e _ fun v H2 e2 hv => k v H2 (R.trans e e2) hv
theorem q_asgG {i : Nat} {G : V → Prop} (h : EvP R n m te σ H (sat G)) (k : ∀ v, G v → StF R m tz D (σ.set i (some v)) H) : StF R n (tSeq (tAsg te (gName i)) tz) D σ H := s_asgG (D := { D with nx := tz D }) h fun v hv H1 e => k v hv H1 e
theorem q_asgV {i : Nat} (h : EvP R n m te σ H (is v)) (k : StF R m tz D (σ.set i (some v)) H) : StF R n (tSeq (tAsg te (gName i)) tz) D σ H := s_asgV (D := { D with nx := tz D }) h fun H1 e => k H1 e
theorem q_asg {i : Nat} (h : EvP R n m te σ H p) (k : ∀ v H1, R.ok m H H1 → p.P R.M v H1 → StF R m tz D (σ.set i (some v)) H1) : StF R n (tSeq (tAsg te (gName i)) tz) D σ H := s_asg (D := { D with nx := tz D }) h fun v H1 e hv => (k v H1 e hv).run e.1
theorem q_if {G : Bool → Prop} (h : EvT R n m t σ H G) (h1 : G true → StF R m tu { D with nx := tz D } σ H) (h2 : G false → StF R m tw { D with nx := tz D } σ H) : StF R n (tSeq (tIfS t tu tw) tz) D σ H := s_if (D := { D with nx := tz D }) h h1 h2
/-- an if without else -/
theorem q_when {G : Bool → Prop} (h : EvT R n m t σ H G) (h1 : G true → StF R m tu { D with nx := tz D } σ H) (h2 : G false → StF R m tz D σ H) : StF R n (tSeq (tIfS t tu tNext) tz) D σ H := s_if (D := { D with nx := tz D }) h h1 fun hb H1 e => h2 hb H1 e
theorem q_whenB {b : Bool} (h : EvT R n m t σ H (· = b)) (h1 : b = true → StF R m tu { D with nx := tz D } σ H) (h2 : b = false → StF R m tz D σ H) : StF R n (tSeq (tIfS t tu tNext) tz) D σ H := q_when h (fun e => h1 e.symm) (fun e => h2 e.symm)
theorem s_when {G : Bool → Prop} (h : EvT R n m t σ H G) (h1 : G true → StF R m tu D σ H) (h2 : G false → ∀ H1, R.ok m H H1 → D.nx σ H1) : StF R n (tIfS t tu tNext) D σ H := s_if h h1 h2
theorem q_par {i j : Nat} {tar : TA} {p q : SP} (h : EvA R n m tar σ H [p, q]) (k : ∀ v w H1, R.ok m H H1 → p.P R.M v H1 → q.P R.M w H1 → StF R m tz D ((σ.set i (some v)).set j (some w)) H1) : StF R n (tSeq (tPar i j tar) tz) D σ H := fun H1 e => h H1 e _ fun vs H2 e2 hv => by
  cases hv with
  | cons a b => cases b with
    | cons a2 b2 => cases b2; exact ⟨_, _, rfl, (k _ _ H2 (R.trans e e2) a a2).run e2.1⟩
/-- .. both known by their properties alone -/
theorem s_parG {i j : Nat} {tar : TA} {F G : V → Prop} (h : EvA R n m tar σ H [sat F, sat G]) (k : ∀ v w, F v → G w → ∀ H1, R.ok m H H1 → D.nx ((σ.set i (some v)).set j (some w)) H1) : StF R n (tPar i j tar) D σ H := fun H1 e => h H1 e _ fun vs H2 e2 hv => by
  cases hv with
  | cons a b => cases b with
    | cons a2 b2 => cases b2; exact ⟨_, _, rfl, k _ _ a a2 H2 (R.trans e e2)⟩
theorem q_parG {i j : Nat} {tar : TA} {F G : V → Prop} (h : EvA R n m tar σ H [sat F, sat G]) (k : ∀ v w, F v → G w → StF R m tz D ((σ.set i (some v)).set j (some w)) H) : StF R n (tSeq (tPar i j tar) tz) D σ H := s_parG (D := { D with nx := tz D }) h fun v w hv hw H1 e => k v w hv hw H1 e
end
end My
namespace My
open PySem PySem.Spec PyProof.Rows L2
abbrev Codes := List Nat
/-- a text by its codes -/
abbrev sv (l : Codes) : V := .str (SX.S l)
abbrev cs (x : Str) : Codes := x.cps.toList
theorem sv_inj {a b : Codes} (h : sv a = sv b) : a = b := SX.S_inj (V.str.inj h)
theorem sv_of (x : Str) : V.str x = sv (cs x) := congrArg V.str (SX.S_tl x).symm
theorem dec_sv (a b : Codes) : decide (sv a = sv b) = decide (a = b) := by
  by_cases h : a = b
  · rw [decide_eq_true h, decide_eq_true (by rw [h])]
  · rw [decide_eq_false h, decide_eq_false fun e => h (sv_inj e)]
theorem dec_int (a b : Int) : decide (V.int a = V.int b) = decide (a = b) := by
  by_cases h : a = b
  · rw [decide_eq_true h, decide_eq_true (by rw [h])]
  · rw [decide_eq_false h, decide_eq_false fun e => h (V.int.inj e)]
theorem dec_bl (a b : Bool) : decide (V.bl a = V.bl b) = (a == b) := by
  cases a <;> cases b <;> rfl
theorem slen {l : Codes} (h : l.length ≤ 100000) : (SX.S l).length ≤ sizeLine := by
  rw [SX.S_len]
  exact Evl.sz_of h
section
variable {R : Rel} {n m k : Nat} {K : PySem.W.Frag} {σ : L2.St} {H H' : Hp} {ta tb tc te : TE} {t u : TT} {x y z v : V} {p q s : SP}
theorem ev_str {l : Codes} {c : Str} (h : c = SX.S l) : EvP R n n (tC (.str c)) σ H (is (sv l)) := by
  subst h
  exact ev_c
theorem rv_now {r : R2} (h : ∀ Q : VK, Q z H → r x y H Q) : RV R r x y H (is z) := fun _ j Q k => h Q (k z H (R.self j) rfl)
theorem rc_now {r : List V → Hp → VK → Prop} {vs : List V} (h : ∀ Q : VK, Q z H → r vs H Q) : RC R r vs H (is z) := fun _ j Q k => h Q (k z H (R.self j) rfl)
theorem rm_now {r : V → List V → Hp → VK → Prop} {vs : List V} (h : ∀ Q : VK, Q z H → r x vs H Q) : RM R r x vs H (is z) := fun _ j Q k => h Q (k z H (R.self j) rfl)
theorem rs_now {r : V → Option Int → Option Int → Hp → VK → Prop} {lo hi : Option Int} (h : ∀ Q : VK, Q z H → r x lo hi H Q) : RS R r x lo hi H (is z) := fun _ j Q k => h Q (k z H (R.self j) rfl)
/-! ### ints -/
variable {i j : Int} {a b : Codes}
theorem rv_addI : RV R (rAddU K) (.int i) (.int j) H (is (.int (i + j))) := rv_now fun _ q => .inl ⟨i, j, rfl, rfl, q⟩
theorem rv_subI : RV R (rI0 fun i j => V.int (i - j)) (.int i) (.int j) H (is (.int (i - j))) := rv_now fun _ q => ⟨i, j, rfl, rfl, q⟩
theorem rv_mulI (h : CMul i j) : RV R rMulU (.int i) (.int j) H (is (.int (i * j))) := rv_now fun _ q => .inl ⟨i, j, rfl, rfl, h, q⟩
theorem rv_modI (h : 0 < j) : RV R (rI (fun _ j => 0 < j) fun i j => V.int (i % j)) (.int i) (.int j) H (is (.int (i % j))) := rv_now fun _ q => ⟨i, j, rfl, rfl, h, q⟩
theorem rv_divI (h : CDiv i j) : RV R rDivU (.int i) (.int j) H (is (.int (i / j))) := rv_now fun _ q => .inl ⟨i, j, rfl, rfl, h, q⟩
theorem rv_divW (h : CDivW i j) : RV R rDivU (.int i) (.int j) H (is (.int (i / j))) := rv_now fun _ q => .inr ⟨i, j, rfl, rfl, h, q⟩
theorem rv_powI (h : CPow i j) : RV R (rI CPow fun i j => V.int (i ^ j.toNat)) (.int i) (.int j) H (is (.int (i ^ j.toNat))) := rv_now fun _ q => ⟨i, j, rfl, rfl, h, q⟩
theorem rv_ltI : RV R rLtU (.int i) (.int j) H (is (.bl (decide (i < j)))) := rv_now fun _ q => .inl ⟨i, j, rfl, rfl, q⟩
theorem rv_leI : RV R rLeU (.int i) (.int j) H (is (.bl (decide (i ≤ j)))) := rv_now fun _ q => ⟨i, j, rfl, rfl, q⟩
theorem rv_gtI : RV R rGtU (.int i) (.int j) H (is (.bl (decide (j < i)))) := rv_now fun _ q => ⟨i, j, rfl, rfl, q⟩
theorem rv_geI : RV R rGeU (.int i) (.int j) H (is (.bl (decide (j ≤ i)))) := rv_now fun _ q => ⟨i, j, rfl, rfl, q⟩
theorem rv_eqI : RV R (rEqU K) (.int i) (.int j) H (is (.bl (decide (i = j)))) := rv_now fun _ q => .inl ⟨rfl, by rw [dec_int]; exact q⟩
theorem rv_neI : RV R (rNeU K) (.int i) (.int j) H (is (.bl (!decide (i = j)))) := rv_now fun _ q => .inl ⟨rfl, by rw [dec_int]; exact q⟩
/-! ### bools, None -/
theorem rv_eqB {c d : Bool} : RV R (rEqU K) (.bl c) (.bl d) H (is (.bl (c == d))) := rv_now fun _ q => .inl ⟨rfl, by rw [dec_bl]; exact q⟩
theorem rv_neB {c d : Bool} : RV R (rNeU K) (.bl c) (.bl d) H (is (.bl (!(c == d)))) := rv_now fun _ q => .inl ⟨rfl, by rw [dec_bl]; exact q⟩
theorem rv_isN : RV R rIsU x .non H (is (.bl (decide (x = .non)))) := rv_now fun _ q => .inl ⟨rfl, q⟩
theorem rv_isNotN : RV R rIsNotU x .non H (is (.bl (!decide (x = .non)))) := rv_now fun _ q => .inl ⟨rfl, q⟩
theorem rv_isB {c d : Bool} : RV R rIsU (.bl c) (.bl d) H (is (.bl (decide (c = d)))) := rv_now fun _ q => .inr ⟨c, d, rfl, rfl, q⟩
/-! ### texts -/
theorem rv_addS (h : a.length + b.length ≤ 100000) : RV R (rAddU K) (sv a) (sv b) H (is (sv (a ++ b))) := rv_now fun _ q => .inr (.inl ⟨_, _, rfl, rfl, by rw [SX.S_len, SX.S_len]; exact Evl.sz_of h, by rw [SX.S_cat]; exact q⟩)
theorem rv_eqS : RV R (rEqU K) (sv a) (sv b) H (is (.bl (decide (a = b)))) := rv_now fun _ q => .inl ⟨rfl, by rw [dec_sv]; exact q⟩
theorem rv_neS : RV R (rNeU K) (sv a) (sv b) H (is (.bl (!decide (a = b)))) := rv_now fun _ q => .inl ⟨rfl, by rw [dec_sv]; exact q⟩
theorem rv_ltS : RV R rLtU (sv a) (sv b) H (is (.bl (decide (a < b)))) := rv_now fun _ q => .inr ⟨_, _, rfl, rfl, q⟩
theorem rv_inS {c : Nat} : RV R (rInU K) (sv [c]) (sv b) H (is (.bl (decide (c ∈ b)))) := rv_now fun _ q => .inl ⟨c, _, rfl, rfl, q⟩
theorem rv_niS {c : Nat} : RV R (rNotInU K) (sv [c]) (sv b) H (is (.bl (!decide (c ∈ b)))) := rv_now fun _ q => .inl ⟨c, _, rfl, rfl, q⟩
theorem rv_ixS {c : Nat} (hl : a.length ≤ 100000) (h : atI a i = some c) : RV R (rIx K) (sv a) (.int i) H (is (sv [c])) := rv_now fun _ q => .inr (.inr ⟨_, i, c, rfl, rfl, slen hl, h, q⟩)
theorem rv_ixL {l : Addr} {xs : List V} (hl : SqL K H l xs) (h : atI xs i = some v) : RV R (rIx K) (.ref l) (.int i) H (is v) := rv_now fun _ q => .inl ⟨l, xs, i, v, rfl, rfl, hl, h, q⟩
theorem rv_ixT {l : Addr} {xs : List V} (hl : SqT K H l xs) (h : atI xs i = some v) : RV R (rIx K) (.ref l) (.int i) H (is v) := rv_now fun _ q => .inr (.inl ⟨l, xs, i, v, rfl, rfl, hl, h, q⟩)
/-- slices by codes -/
def sl (l : Codes) (lo hi : Option Int) : Codes := cs (cutS (SX.S l) lo hi)
theorem rs_S {lo hi : Option Int} (hl : a.length ≤ 100000) : RS R (rSlU K) (sv a) lo hi H (is (sv (sl a lo hi))) := rs_now fun _ q => .inl ⟨_, rfl, slen hl, by
  have e : V.str (cutS (SX.S a) lo hi) = sv (sl a lo hi) := sv_of _
  rw [e]
  exact q⟩
theorem sl_to {i : Int} (h : 0 ≤ i) : sl a none (some i) = a.take i.toNat := by
  unfold sl
  rw [C8.cutS_slice, SX.slice_to h]
theorem sl_from {i : Int} (h : 0 ≤ i) : sl a (some i) none = a.drop i.toNat := by
  unfold sl
  rw [C8.cutS_slice, SX.slice_from h]
theorem sl_len (l : Codes) (lo hi : Option Int) : (sl l lo hi).length ≤ l.length := by
  have h := cutS_length (SX.S l) lo hi
  have e0 := SX.S_len l
  have e : (cutS (SX.S l) lo hi).length = (sl l lo hi).length := TL.len_tl _
  omega
/-! ### calls -/
theorem one {vs : List V} (h : Paired (fun v (p : SP) => p.P R.M v H) vs [p]) : ∃ v, vs = [v] ∧ p.P R.M v H := by
  cases h with
  | cons a b => cases b; exact ⟨_, rfl, a⟩
theorem two {vs : List V} (h : Paired (fun v (p : SP) => p.P R.M v H) vs [p, q]) : ∃ v w, vs = [v, w] ∧ p.P R.M v H ∧ q.P R.M w H := by
  cases h with
  | cons a b => cases b with
    | cons c d => cases d; exact ⟨_, _, rfl, a, c⟩
theorem three {vs : List V} (h : Paired (fun v (p : SP) => p.P R.M v H) vs [p, q, s]) : ∃ v w z, vs = [v, w, z] ∧ p.P R.M v H ∧ q.P R.M w H ∧ s.P R.M z H := by
  cases h with
  | cons a b => cases b with
    | cons c d => cases d with
      | cons e f => cases f; exact ⟨_, _, _, rfl, a, c, e⟩
theorem ev_len1 {len : Nat} (ha : EvP R n m te σ H p) (hn : ∀ v H1, R.ok m H H1 → p.P R.M v H1 → LenV K v H1 len) : EvP R n m (tCB (rLenU K) (tCons te tNil)) σ H (is (.int len)) := ev_cb (ea_cons ha ea_nil) fun vs H1 e hv => by
  obtain ⟨v, rfl, h⟩ := one hv
  exact rc_now fun _ q => ⟨v, len, rfl, hn v H1 e h, q⟩
theorem ev_lenS (ha : EvP R n m te σ H (is (sv a))) (hl : a.length ≤ 100000) : EvP R n m (tCB (rLenU K) (tCons te tNil)) σ H (is (.int a.length)) := ev_len1 ha fun v H1 _ hv => by
  have hv : v = sv a := hv
  subst hv
  exact ⟨slen hl, (SX.S_len a).symm⟩
theorem ev_lenL {xs : List V} {l : Addr} (ha : EvP R n m te σ H (is (.ref l))) (hl : SqM K R.M H l xs) : EvP R n m (tCB (rLenU K) (tCons te tNil)) σ H (is (.int xs.length)) := ev_len1 ha fun v H1 e hv => by
  have hv : v = .ref l := hv
  subst hv
  exact .inl ⟨xs, (hl.st e.2).sq, rfl⟩
theorem ev_intI (ha : EvP R n m te σ H (is (.int i))) : EvP R n m (tCB rIntU (tCons te tNil)) σ H (is (.int i)) := ev_cb (ea_cons ha ea_nil) fun vs H1 e hv => by
  obtain ⟨v, rfl, h⟩ := one hv
  have h : v = .int i := h
  subst h
  exact rc_now fun _ q => .inl (.inl ⟨i, rfl, q⟩)
theorem ev_intB {c : Bool} (ha : EvP R n m te σ H (is (.bl c))) : EvP R n m (tCB rIntU (tCons te tNil)) σ H (is (.int (if c then 1 else 0))) := ev_cb (ea_cons ha ea_nil) fun vs H1 e hv => by
  obtain ⟨v, rfl, h⟩ := one hv
  have h : v = .bl c := h
  subst h
  exact rc_now fun _ q => .inl (.inr ⟨c, rfl, q⟩)
theorem ev_intS {iv : Int} (ha : EvP R n m te σ H (is (sv a))) (hn : PySem.intText? (SX.S a) = some iv) (hl : a.length ≤ 640) : EvP R n m (tCB rIntU (tCons te tNil)) σ H (is (.int iv)) := ev_cb (ea_cons ha ea_nil) fun vs H1 e hv => by
  obtain ⟨v, rfl, h⟩ := one hv
  have h : v = sv a := h
  subst h
  exact rc_now fun _ q => .inr ⟨_, iv, rfl, hn, by rw [SX.S_len]; exact hl, q⟩
/-- isinstance -/
theorem ev_isi {c : V} {tv uv : Value} {d : Bool} (ha : EvP R n m ta σ H p) (hb : EvP R m k tb σ H (is c)) (hc : ClsV c uv) (ht : ∀ v H1, R.ok k H H1 → p.P R.M v H1 → TyX K H1 v tv) (hk : PySem.W.kitOne K tv uv = some d) : EvP R n k (tCB (rIsi K) (tCons ta (tCons tb tNil))) σ H (is (.bl d)) :=
  ev_cb (ea_cons ha (ea_cons hb ea_nil)) fun vs H1 e hv => by
    obtain ⟨v, w, rfl, h1, h2⟩ := two hv
    have h2 : w = c := h2
    subst h2
    exact rc_now fun _ q => ⟨v, w, tv, uv, d, rfl, hc, ht v H1 e h1, hk, q⟩
/-- methods of a text without arguments, with one -/
theorem ev_bmS0 {l : Codes} {f : Str → Str} {rm : V → List V → Hp → VK → Prop} (ha : EvP R n m te σ H (is (sv a))) (hf : f (SX.S a) = SX.S l) (hr : ∀ H1 Q, Q (.str (f (SX.S a))) H1 → rm (sv a) [] H1 Q) : EvP R n m (tBM0 K "str" rm te) σ H (is (sv l)) := fun H1 e Q k =>
  ha H1 e _ fun x H2 e2 hx => by
    have hx : x = sv a := hx
    subst hx
    exact ⟨rfl, hr H2 Q (by rw [hf]; exact k _ H2 e2 rfl)⟩
theorem ev_bmS1 {rm : V → List V → Hp → VK → Prop} (ha : EvP R n m te σ H (is (sv a))) (hb : EvP R m k tb σ H p) (hr : ∀ v H1, R.ok k H H1 → p.P R.M v H1 → RM R rm (sv a) [v] H1 s) : EvP R n k (tBM K "str" rm te (tCons tb tNil)) σ H s :=
  ev_bm ha (fun x H1 _ hx => by
    have hx : x = sv a := hx
    subst hx
    rfl) (ea_cons hb ea_nil) fun x vs H1 e hx hv => by
      have hx : x = sv a := hx
      subst hx
      obtain ⟨v, rfl, h⟩ := one hv
      exact hr v H1 e h
end
end My
namespace My
open PySem PySem.Spec PyProof.Rows L2
theorem SqM.ofL {K : PySem.W.Frag} {M : Addr → Prop} {H : Hp} {p : Addr} {xs : List V} (h : SqL K H p xs) (m : ¬ M p) : SqM K M H p xs := h.imp (fun a => ⟨a, m⟩) fun a _ => .inr a
theorem StM.ofT {K : PySem.W.Frag} {M : Addr → Prop} {H : Hp} {p : Addr} {xs : List V} (h : SqT K H p xs) (m : ¬ M p) : StM K M H p xs := h.imp (fun a => ⟨a, m⟩) fun a _ => .inr a
theorem paired_at {α β : Type} {F : α → β → Prop} : ∀ {xs : List α} {ys : List β} {i : Nat} {x : α} {y : β}, Paired F xs ys → xs[i]? = some x → ys[i]? = some y → F x y
  | _, _, 0, _, _, .cons a _, h1, h2 => by cases h1; cases h2; exact a
  | _, _, i + 1, _, _, .cons _ b, h1, h2 => paired_at b h1 h2
section
variable {R : Rel} {n m k : Nat} {K : PySem.W.Frag} {σ : L2.St} {H H' : Hp} {ta tb tc te : TE} {t u : TT} {x y z v : V} {p q s : SP} {D : Ends} {tu tw tz : TS} {g : TG}
/-! ### displays -/
theorem ev_lst {tar : TA} {ps : List SP} (h : EvA R n m tar σ H ps) (hl : ps.length ≤ 100000) : EvP R n m (tLst tar) σ H (lstP id ps) := fun H1 e Q f =>
  h H1 e _ fun vs H2 e2 hv => ⟨by rw [hv.length]; exact Evl.sz_of hl, fun l hl => f _ _ (R.trans e2 (R.new e2.1 hl)) ⟨l, vs, rfl, ⟨upd_same, R.fresh e2.1 hl⟩, Paired_imp (fun _ q z => q.st (R.new e2.1 hl).2 z) hv⟩⟩
theorem ev_tup {tar : TA} {ps : List SP} (h : EvA R n m tar σ H ps) (hl : ps.length ≤ 100000) : EvP R n m (tTup tar) σ H (tupP K id ps) := fun H1 e Q f =>
  h H1 e _ fun vs H2 e2 hv => ⟨by rw [hv.length]; exact Evl.sz_of hl, fun l hl => f _ _ (R.trans e2 (R.new e2.1 hl)) ⟨l, vs, rfl, .of upd_same (R.fresh e2.1 hl), Paired_imp (fun _ q z => q.st (R.new e2.1 hl).2 z) hv⟩⟩
/-- known items -/
theorem paired_is {M : Addr → Prop} {H : Hp} : ∀ {vs xs : List V}, Paired (fun v (p : SP) => p.P M v H) vs (xs.map is) → vs = xs
  | _, [], .nil => rfl
  | _, x :: xs, .cons a b => by rw [paired_is b, show _ = x from a]
theorem ev_lstV {tar : TA} {vs : List V} (h : EvA R n m tar σ H (vs.map is)) (hl : vs.length ≤ 100000) : EvP R n m (tLst tar) σ H (lstG (· = vs)) := (ev_lst h (by rw [List.length_map]; exact hl)).imp fun v H1 _ ⟨l, xs, e, h, g⟩ => ⟨l, xs, e, h, paired_is g⟩
theorem ev_tupV {tar : TA} {vs : List V} (h : EvA R n m tar σ H (vs.map is)) (hl : vs.length ≤ 100000) : EvP R n m (tTup tar) σ H (tupG K (· = vs)) := (ev_tup (K := K) h (by rw [List.length_map]; exact hl)).imp fun v H1 _ ⟨l, xs, e, h, g⟩ => ⟨l, xs, e, h, paired_is g⟩
/-! ### iterators -/
structure ItOk (M : Addr → Prop) (J : It) (ys : List SP) (H : Hp) : Prop where
  go : ∀ M' i H', Ext0 M H M' H' → i < ys.length → J.go i H'
  yld : ∀ M' i H' x H'', Ext0 M H M' H' → (∀ a, M' a → H' a ≠ none) → i < ys.length → J.yld i H' x H'' → Evl.Ex H' H'' ∧ ∀ y, ys[i]? = some y → y.P M' x H''
  stop : ∀ M' H', Ext0 M H M' H' → J.stop ys.length H'
def ItP (R : Rel) (n m : Nat) (wi : TI) (σ : L2.St) (H : Hp) (ys : List SP) : Prop := ∀ H1, R.ok n H H1 → ∀ Rk : It → Hp → Prop, (∀ J H2, R.ok m H1 H2 → ItOk R.M J ys H2 → Rk J H2) → wi σ H1 Rk
theorem it_list {l : Addr} {xs : List V} (ha : EvP R n m te σ H (is (.ref l))) (hx : SqM K R.M H l xs) : ItP R n m (iAny K te) σ H (xs.map is) := fun H1 e Rk k => .inl (ha H1 e _ fun v H2 e2 hv => by
  have hv : v = .ref l := hv
  subst hv
  have h2 := hx.st (R.trans e e2).2
  refine ⟨l, rfl, ⟨xs, h2.sq⟩, k _ H2 e2 ⟨fun M' i H' e' hi => ?_, fun M' i H' x H'' e' _ hi hy => ?_, fun M' H' e' => ?_⟩⟩
  · rw [List.length_map] at hi
    exact ⟨xs, _, ((h2.lift e'.w).st e'.pr).sq, List.getElem?_eq_getElem hi⟩
  · obtain ⟨rfl, f⟩ := hy
    refine ⟨Evl.Ex.refl _, fun y hy => ?_⟩
    have q := f _ ((h2.lift e'.w).st e'.pr).sq
    rw [List.getElem?_map, q] at hy
    cases hy
    rfl
  · exact ⟨xs, ((h2.lift e'.w).st e'.pr).sq, by rw [List.length_map]; exact Nat.le_refl _⟩)
theorem it_tuple {l : Addr} {xs : List V} (ha : EvP R n m te σ H (is (.ref l))) (hx : StM K R.M H l xs) : ItP R n m (iAny K te) σ H (xs.map is) := fun H1 e Rk k => .inr (.inl (ha H1 e _ fun v H2 e2 hv => by
  have hv : v = .ref l := hv
  subst hv
  have h2 := hx.st (R.trans e e2).2
  refine ⟨l, rfl, ⟨xs, h2.sq⟩, k _ H2 e2 ⟨fun M' i H' e' hi => ?_, fun M' i H' x H'' e' _ hi hy => ?_, fun M' H' e' => ?_⟩⟩
  · rw [List.length_map] at hi
    exact ⟨xs, _, ((h2.lift e'.w).st e'.pr).sq, List.getElem?_eq_getElem hi⟩
  · obtain ⟨rfl, f⟩ := hy
    refine ⟨Evl.Ex.refl _, fun y hy => ?_⟩
    have q := f _ ((h2.lift e'.w).st e'.pr).sq
    rw [List.getElem?_map, q] at hy
    cases hy
    rfl
  · exact ⟨xs, ((h2.lift e'.w).st e'.pr).sq, by rw [List.length_map]; exact Nat.le_refl _⟩))
/-- over a list that is told by its properties -/
theorem it_lstP {α : Type} {pe : α → SP} {ys : List α} (ha : EvP R n m te σ H (lstP pe ys)) : ItP R n m (iAny K te) σ H (ys.map pe) := fun H1 e Rk k => .inl (ha H1 e _ fun v H2 e2 hv => by
  obtain ⟨l, xs, rfl, h2, hp⟩ := hv
  have hlen : xs.length = ys.length := hp.length
  refine ⟨l, rfl, ⟨xs, h2.sq⟩, k _ H2 e2 ⟨fun M' i H' e' hi => ?_, fun M' i H' x H'' e' _ hi hy => ?_, fun M' H' e' => ?_⟩⟩
  · rw [List.length_map, ← hlen] at hi
    exact ⟨xs, _, ((h2.lift e'.w).st e'.pr).sq, List.getElem?_eq_getElem hi⟩
  · obtain ⟨rfl, f⟩ := hy
    refine ⟨Evl.Ex.refl _, fun y hy => ?_⟩
    have q := f _ ((h2.lift e'.w).st e'.pr).sq
    rw [List.getElem?_map] at hy
    obtain ⟨w, hw, rfl⟩ := Option.map_eq_some_iff.mp hy
    exact e'.get (paired_at (F := fun v y => (pe y).P R.M v H2) hp q hw)
  · exact ⟨xs, ((h2.lift e'.w).st e'.pr).sq, by rw [List.length_map, ← hlen]; exact Nat.le_refl _⟩)
theorem it_text {a : Codes} (ha : EvP R n m te σ H (is (sv a))) : ItP R n m (iAny K te) σ H (a.map fun c => is (sv [c])) := fun H1 e Rk k => .inr (.inr (ha H1 e _ fun v H2 e2 hv => by
  have hv : v = sv a := hv
  subst hv
  have sz : (SX.S a).cps.size = a.length := by simp [SX.S]
  refine ⟨SX.S a, rfl, k _ H2 e2 ⟨fun M' i H' e' hi => ?_, fun M' i H' x H'' e' _ hi hy => ?_, fun M' H' e' => ?_⟩⟩
  · rw [List.length_map] at hi
    show i < (SX.S a).cps.size
    rw [sz]
    exact hi
  · obtain ⟨rfl, c, hc, rfl⟩ := hy
    refine ⟨Evl.Ex.refl _, fun y hy => ?_⟩
    have hc2 : a[i]? = some c := by
      rw [← hc]
      simp [SX.S]
    rw [List.getElem?_map, hc2] at hy
    cases hy
    rfl
  · show (SX.S a).cps.size ≤ _
    rw [sz, List.length_map]
    exact Nat.le_refl _))
theorem it_range1 {iv : Int} (ha : EvP R n m ta σ H (is (.int iv))) (hn : -1000000 ≤ iv ∧ iv ≤ 1000000) : ItP R n m (iRng1 (tCons ta tNil)) σ H ((List.range iv.toNat).map fun (i : Nat) => is (.int (i : Int))) := fun H1 e Rk k => ha H1 e _ fun v H2 e2 hv => by
  have hv : v = .int iv := hv
  subst hv
  refine ⟨iv, rfl, by omega, by omega, k _ H2 e2 ⟨fun M' i H' e' hi => ?_, fun M' i H' x H'' e' _ hi hy => ?_, fun M' H' e' => ?_⟩⟩
  · rw [List.length_map, List.length_range] at hi
    exact hi
  · obtain ⟨rfl, rfl⟩ := hy
    refine ⟨Evl.Ex.refl _, fun y hy => ?_⟩
    rw [List.length_map, List.length_range] at hi
    rw [List.getElem?_map, List.getElem?_range hi] at hy
    cases hy
    show V.int (0 + (i : Int)) = V.int (i : Int)
    rw [Int.zero_add]
  · show iv.toNat ≤ _
    rw [List.length_map, List.length_range]
    exact Nat.le_refl _
/-! ### for -/
/-- the invariant Pv B i σ H: behind i turns; B: the heap ahead of the first turn; c i: the draws that may come then; what is walked is found by R1 -/
theorem s_for2 {R1 : Rel} {wi : TI} {ys : List SP} {c : Nat → Nat} {c1 : Nat} (hM : ∀ a, R.M a → R1.M a) (hi : ItP R1 n c1 wi σ H ys) (Pv : Hp → Nat → L2.St → Hp → Prop) (hP : ∀ B i σ' H', Pv B i σ' H' → R.ok (c i) B H') (h0 : ∀ B, R1.ok c1 H B → Pv B 0 σ B)
    (hs : ∀ B i y σ' H' x H'', R1.ok c1 H B → ys[i]? = some y → Pv B i σ' H' → Evl.Ex H' H'' → y.P R.M x H'' → g x σ' H'' fun σ2 H2 => tu { D with nx := Pv B (i + 1), ct := Pv B (i + 1), bk := D.nx } σ2 H2) (hd : ∀ B σ' H', R1.ok c1 H B → Pv B ys.length σ' H' → D.nx σ' H') : StF R1 n (tFor wi g tu) D σ H := fun H1 e =>
  hi H1 e _ fun J H2 e2 ok => ⟨fun i m σ' H' => m = ys.length - i ∧ i ≤ ys.length ∧ Pv H2 i σ' H', ⟨ys.length, by simp, Nat.zero_le _, h0 H2 (R1.trans e e2)⟩, fun i m σ' H' hw => by
    obtain ⟨rfl, hle, hp⟩ := hw
    have er := hP H2 i σ' H' hp
    have ex : Ext0 R1.M H2 R.M H' := ⟨fun a m => .inl (hM a m), er.2⟩
    by_cases hlt : i < ys.length
    · refine .inr ⟨ok.go R.M i H' ex hlt, Pv H2 (i + 1), fun σ2 H2' hn => ⟨ys.length - (i + 1), by omega, rfl, by omega, hn⟩, fun x H'' hy => ?_⟩
      obtain ⟨er2, hyp⟩ := ok.yld R.M i H' x H'' ex (fun a m => R.alive er.1 m) hlt hy
      exact hs H2 i ys[i] σ' H' x H'' (R1.trans e e2) (List.getElem?_eq_getElem hlt) hp er2 (hyp _ (List.getElem?_eq_getElem hlt))
    · have : i = ys.length := by omega
      subst this
      exact .inl ⟨ok.stop R.M H' ex, hd H2 σ' H' (R1.trans e e2) hp⟩⟩
theorem s_for {wi : TI} {ys : List SP} {c : Nat → Nat} (hi : ItP R n (c 0) wi σ H ys) (Pv : Hp → Nat → L2.St → Hp → Prop) (hP : ∀ B i σ' H', Pv B i σ' H' → R.ok (c i) B H') (h0 : ∀ B, R.ok (c 0) H B → Pv B 0 σ B)
    (hs : ∀ B i y σ' H' x H'', R.ok (c 0) H B → ys[i]? = some y → Pv B i σ' H' → Evl.Ex H' H'' → y.P R.M x H'' → g x σ' H'' fun σ2 H2 => tu { D with nx := Pv B (i + 1), ct := Pv B (i + 1), bk := D.nx } σ2 H2) (hd : ∀ B σ' H', R.ok (c 0) H B → Pv B ys.length σ' H' → D.nx σ' H') : StF R n (tFor wi g tu) D σ H := s_for2 (fun _ m => m) hi Pv hP h0 hs hd
/-- the ends of a turn whose invariant speaks of the slots alone -/
def LE (R : Rel) (n : Nat) (B : Hp) (D : Ends) (I : L2.St → Prop) : Ends := { D with nx := fun σ2 H2 => R.ok n B H2 ∧ I σ2, ct := fun σ2 H2 => R.ok n B H2 ∧ I σ2, bk := D.nx }
/-- known items, a name as target, the slots alone -/
theorem s_forC {wi : TI} {vs : List V} {j : Nat} (c : Nat → Nat) (hi : ItP R n (c 0) wi σ H (vs.map is)) (Iv : Nat → L2.St → Prop) (h0 : Iv 0 σ)
    (hs : ∀ B i w σ', R.ok (c 0) H B → vs[i]? = some w → Iv i σ' → StF R (c i) tu (LE R (c (i + 1)) B D (Iv (i + 1))) (σ'.set j (some w)) B) (hd : ∀ σ' H', R.ok (c vs.length) H H' → Iv vs.length σ' → D.nx σ' H') : StF R n (tFor wi (gName j) tu) D σ H :=
  s_for (c := c) hi (fun B i σ' H' => R.ok (c i) B H' ∧ Iv i σ') (fun _ _ _ _ h => h.1) (fun B e => ⟨R.refl e, h0⟩) (fun B i y σ' H' x H'' eb hy hp er hx => by
    rw [List.getElem?_map] at hy
    obtain ⟨w, hw, rfl⟩ := Option.map_eq_some_iff.mp hy
    have hx : x = w := hx
    subst hx
    exact hs B i x σ' eb hw hp.2 H'' (R.trans hp.1 (R.ex hp.1.1 er))) (fun B σ' H' eb hp => by
      rw [List.length_map] at hp
      exact hd σ' H' (R.trans eb hp.1) hp.2)
theorem q_forC {wi : TI} {vs : List V} {j : Nat} (c : Nat → Nat) (hi : ItP R n (c 0) wi σ H (vs.map is)) (Iv : Nat → L2.St → Prop) (h0 : Iv 0 σ)
    (hs : ∀ B i w σ', R.ok (c 0) H B → vs[i]? = some w → Iv i σ' → StF R (c i) tu (LE R (c (i + 1)) B { D with nx := tz D } (Iv (i + 1))) (σ'.set j (some w)) B) (hd : ∀ σ', Iv vs.length σ' → StF R (c vs.length) tz D σ' H) : StF R n (tSeq (tFor wi (gName j) tu) tz) D σ H :=
  s_forC (D := { D with nx := tz D }) c hi Iv h0 hs fun σ' H' e hv => hd σ' hv H' e
/-- .. without draws -/
theorem s_forV {wi : TI} {vs : List V} {j : Nat} (hi : ItP R n n wi σ H (vs.map is)) (Iv : Nat → L2.St → Prop) (h0 : Iv 0 σ)
    (hs : ∀ B i w σ', R.ok n H B → vs[i]? = some w → Iv i σ' → StF R n tu (LE R n B D (Iv (i + 1))) (σ'.set j (some w)) B) (hd : ∀ σ' H', R.ok n H H' → Iv vs.length σ' → D.nx σ' H') : StF R n (tFor wi (gName j) tu) D σ H := s_forC (fun _ => n) hi Iv h0 hs hd
theorem q_forV {wi : TI} {vs : List V} {j : Nat} (hi : ItP R n n wi σ H (vs.map is)) (Iv : Nat → L2.St → Prop) (h0 : Iv 0 σ)
    (hs : ∀ B i w σ', R.ok n H B → vs[i]? = some w → Iv i σ' → StF R n tu (LE R n B { D with nx := tz D } (Iv (i + 1))) (σ'.set j (some w)) B) (hd : ∀ σ', Iv vs.length σ' → StF R n tz D σ' H) : StF R n (tSeq (tFor wi (gName j) tu) tz) D σ H := q_forC (fun _ => n) hi Iv h0 hs hd
/-! ### while, the slots alone, no draws -/
theorem s_whileV (W : Nat → L2.St → Prop) (m0 : Nat) (h0 : W m0 σ)
    (hs : ∀ B m σ', R.ok n H B → W m σ' → ∃ b, EvT R n n t σ' B (· = b) ∧ (b = true → StF R n tu (LE R n B D fun σ2 => ∃ m', m' < m ∧ W m' σ2) σ' B) ∧ (b = false → ∀ H1, R.ok n B H1 → D.nx σ' H1)) : StF R n (tWhile t tu) D σ H := fun H1 e =>
  ⟨fun m σ' H' => R.ok n H H' ∧ W m σ', ⟨m0, e, h0⟩, fun m σ' H' hw => by
    obtain ⟨er, hw⟩ := hw
    obtain ⟨b, hb, h1, h2⟩ := hs H' m σ' er hw
    refine hb H' (R.refl er) _ fun c H2 e2 hc => ?_
    subst hc
    cases c with
    | true => exact ⟨fun σ2 H3 => R.ok n H' H3 ∧ ∃ m', m' < m ∧ W m' σ2, fun σ2 H3 hn => by
        obtain ⟨a, m', hm, hw'⟩ := hn
        exact ⟨m', hm, R.trans er a, hw'⟩, h1 rfl H2 e2⟩
    | false => exact h2 rfl H2 e2⟩
theorem q_whileV (W : Nat → L2.St → Prop) (m0 : Nat) (h0 : W m0 σ)
    (hs : ∀ B m σ', R.ok n H B → W m σ' → ∃ b, EvT R n n t σ' B (· = b) ∧ (b = true → StF R n tu (LE R n B { D with nx := tz D } fun σ2 => ∃ m', m' < m ∧ W m' σ2) σ' B) ∧ (b = false → StF R n tz D σ' B)) : StF R n (tSeq (tWhile t tu) tz) D σ H :=
  s_whileV (D := { D with nx := tz D }) W m0 h0 fun B m σ' e hw => by
    obtain ⟨b, a, c, d⟩ := hs B m σ' e hw
    exact ⟨b, a, c, fun hb H1 e1 => d hb H1 e1⟩
/-! ### list comprehensions -/
theorem filter_yes {n : Nat} {f : Nat → Bool} (h : f n = true) : (List.range (n + 1)).filter f = (List.range n).filter f ++ [n] := by
  rw [List.range_succ, List.filter_append, List.filter_cons, if_pos h] <;> rfl
theorem filter_no {n : Nat} {f : Nat → Bool} (h : f n = false) : (List.range (n + 1)).filter f = (List.range n).filter f := by
  rw [List.range_succ, List.filter_append, List.filter_cons, if_neg (by rw [h]; decide)]
  show _ ++ [] = _
  rw [List.append_nil]
theorem filter_len (n : Nat) (f : Nat → Bool) : ((List.range n).filter f).length ≤ n := by
  have h := List.length_filter_le f (List.range n)
  rw [List.length_range] at h
  exact h
theorem ev_lc {wi : TI} {vs : List Nat} {ys : List SP} {f : Nat → Bool} {pe : Nat → SP} {c : Nat → Nat} (hi : ItP R n (c 0) wi σ H ys) (hz : ys.length ≤ 50000)
    (hs : ∀ R' H' i y x, Ext R H R' H' → ys[i]? = some y → y.P R'.M x H' → ∃ σ2, (∀ Q : L2.St → Hp → Prop, Q σ2 H' → g x (wipe σ vs) H' Q) ∧ wipe σ2 vs = wipe σ vs ∧ ∃ d, EvT R' (c i) d t σ2 H' (· = f i) ∧ (f i = true → EvP R' d (c (i + 1)) te σ2 H' (pe i)) ∧ (f i = false → c (i + 1) ≤ d)) :
    EvP R n (c ys.length) (tLc wi g t te vs) σ H (lstP pe ((List.range ys.length).filter f)) := fun H0 e Q k => hi H0 e _ fun J H1 e1 ok Dl hD => by
  have j1 : R.J (c 0) H1 := e1.1
  refine ⟨fun i m H' => m = ys.length - i ∧ i ≤ ys.length ∧ R.ok (c i) H1 H' ∧ ∃ acc, H' Dl = some (.lst acc) ∧ Paired (fun v k => (pe k).P (R.off Dl).M v H') acc ((List.range i).filter f), ⟨ys.length, by simp, Nat.zero_le _, R.new j1 hD, [], upd_same, .nil⟩, ?_⟩
  rintro i m H' ⟨rfl, hle, er, acc, hacc, hpr⟩
  have ex := Ext.at j1 er hD hacc
  by_cases hlt : i < ys.length
  · refine .inr ⟨ok.go _ i H' ex.to0 hlt, fun H2 => R.ok (c (i + 1)) H1 H2 ∧ ∃ acc, H2 Dl = some (.lst acc) ∧ Paired (fun v k => (pe k).P (R.off Dl).M v H2) acc ((List.range (i + 1)).filter f), fun H2 hn => ⟨ys.length - (i + 1), by omega, rfl, by omega, hn⟩, fun x H'' hy => ?_⟩
    obtain ⟨er2x, hyp⟩ := ok.yld _ i H' x H'' ex.to0 (fun a m => (R.at Dl acc).alive (n := c i) ⟨er.1, hacc⟩ m) hlt hy
    have er2 : (R.at Dl acc).ok (c i) H' H'' := (R.at Dl acc).ex ⟨er.1, hacc⟩ er2x
    have ex2 := (ex.step er2)
    obtain ⟨σ2, hg, hw, d, ht, he, hf0⟩ := hs (R.at Dl acc) H'' i ys[i] x (ex2.pre (R.trans e e1)) (List.getElem?_eq_getElem hlt) (hyp _ (List.getElem?_eq_getElem hlt))
    have back : ∀ d H3, (R.at Dl acc).ok d H'' H3 → R.ok d H1 H3 := fun d H3 e3 => ⟨e3.1.1, fun a o ma ha => by
      have ne : a ≠ Dl := fun z => by rw [z, hD] at ha; cases ha
      exact e3.2 a o (fun z => z.elim ma ne) (er2.2 a o (fun z => z.elim ma ne) (er.2 a o ma ha))⟩
    refine hg _ ⟨hw, ht H'' ⟨er2.1, pres.refl _⟩ _ fun b H3 e3 hb => ?_⟩
    subst hb
    have hp3 : Paired (fun v k => (pe k).P (R.off Dl).M v H3) acc ((List.range i).filter f) := Paired_imp (fun _ _ z => (pe _).st (er2.2.trans e3.2) z) hpr
    cases hf : f i with
    | true =>
      show te σ2 H3 _
      refine he hf H3 e3 _ fun y H4 e4 hy4 => ⟨acc, e4.1.2, ?_, ?_⟩
      · have h1 := hpr.length
        have h2 := filter_len i f
        exact Evl.sz_lt (by omega)
      · have r4 := back _ H4 ((R.at Dl acc).trans e3 e4)
        have mD : (R.off Dl).M Dl := .inr rfl
        refine ⟨⟨?_, fun a o ma ha => ?_⟩, acc ++ [y], upd_same, ?_⟩
        · exact R.put r4.1 (fun z => R.alive j1 z hD)
        · have ne : a ≠ Dl := fun z => by rw [z, hD] at ha; cases ha
          rw [upd_ne ne]
          exact r4.2 a o ma ha
        · rw [filter_yes hf]
          refine Paired.snoc (Paired_imp (fun _ _ z => (pe _).st (e4.2.trans (pres.upd mD)) z) hp3) ?_
          exact (pe i).st (pres.upd mD) hy4
    | false =>
      show R.ok (c (i + 1)) H1 H3 ∧ _
      have b3 := back _ H3 e3
      refine ⟨⟨R.dec b3.1 (hf0 hf), b3.2⟩, acc, e3.1.2, ?_⟩
      rw [filter_no hf]
      exact hp3
  · have : i = ys.length := by omega
    subst this
    refine .inl ⟨ok.stop _ H' ex.to0, ?_⟩
    refine k _ H' (R.trans e1 er) ⟨Dl, acc, rfl, ⟨hacc, fun z => R.alive j1 z hD⟩, Paired_imp (fun _ _ z => (pe _).lift (fun a m => .inl (.inl m)) z) hpr⟩
end
end My
namespace My
open PySem PySem.Spec PyProof.Rows L2
section
variable {R : Rel} {n m k : Nat} {K : PySem.W.Frag} {σ : L2.St} {H H' : Hp} {ta tb tc te : TE} {t u : TT} {x y z v : V} {p q s : SP} {D : Ends} {tu tw tz : TS} {g : TG}
theorem range_getD {α : Type} (d : α) : ∀ ws : List α, (List.range ws.length).map (fun i => ws.getD i d) = ws
  | [] => rfl
  | w :: ws => by
    rw [List.length_cons, List.range_succ_eq_map, List.map_cons, List.map_map]
    show w :: (List.range ws.length).map (fun i => ws.getD i d) = w :: ws
    rw [range_getD d ws]
theorem getD_of {α : Type} {ws : List α} {i : Nat} {w d : α} (h : ws[i]? = some w) : ws.getD i d = w := by
  rw [List.getD_eq_getElem?_getD, h]
  rfl
theorem sel {α β : Type} (d : α) (F : α → Bool) (gv : α → β) (ws : List α) : ((List.range ws.length).filter fun i => F (ws.getD i d)).map (fun i => gv (ws.getD i d)) = (ws.filter F).map gv := by
  have e := congrArg (fun l => (l.filter F).map gv) (range_getD d ws)
  rw [← e]
  show _ = (((List.range ws.length).map fun i => ws.getD i d).filter F).map gv
  rw [List.filter_map, List.map_map]
  rfl
theorem paired_map {M : Addr → Prop} {α : Type} {gv : α → V} : ∀ {xs : List V} {ks : List α}, Paired (fun v k => (is (gv k)).P M v H) xs ks → xs = ks.map gv
  | _, _, .nil => rfl
  | _, _, .cons a b => by rw [List.map_cons, paired_map b, show _ = gv _ from a]
theorem paired_sub {α β : Type} {F : V → β → Prop} {m : α → β} : ∀ {xs : List V} {ks : List α}, Paired (fun v k => F v (m k)) xs ks → Paired F xs (ks.map m)
  | _, _, .nil => .nil
  | _, _, .cons a b => .cons a (paired_sub b)
/-- over known values, a filter, known elements -/
theorem ev_lcV {wi : TI} {vs : List Nat} {ws : List V} {j : Nat} (F : V → Bool) (gv : V → V) (hi : ItP R n m wi σ H (ws.map is)) (hz : ws.length ≤ 50000) (hw : ∀ x, wipe ((wipe σ vs).set j (some x)) vs = wipe σ vs)
    (hs : ∀ R' H' w, Ext R H R' H' → w ∈ ws → EvT R' m m t ((wipe σ vs).set j (some w)) H' (· = F w) ∧ (F w = true → EvP R' m m te ((wipe σ vs).set j (some w)) H' (is (gv w)))) :
    EvP R n m (tLc wi (gName j) t te vs) σ H (lstG (· = (ws.filter F).map gv)) := by
  refine (ev_lc (f := fun i => F (ws.getD i .non)) (pe := fun i => is (gv (ws.getD i .non))) (c := fun _ => m) hi (by rw [List.length_map]; exact hz) fun R' H' i y x ex hy hx => ?_).imp fun v H1 _ hv => ?_
  · rw [List.getElem?_map] at hy
    obtain ⟨w, hw1, rfl⟩ := Option.map_eq_some_iff.mp hy
    have hx : x = w := hx
    subst hx
    obtain ⟨h1, h2⟩ := hs R' H' x ex (List.mem_of_getElem? hw1)
    have eg : ws.getD i .non = x := getD_of hw1
    refine ⟨_, fun Q q => q, hw x, m, ?_, fun hf => ?_, fun _ => Nat.le_refl _⟩
    · show EvT R' m m t _ H' (· = F (ws.getD i .non))
      rw [eg]
      exact h1
    · have hf : F (ws.getD i .non) = true := hf
      show EvP R' m m te _ H' (is (gv (ws.getD i .non)))
      rw [eg] at hf ⊢
      exact h2 hf
  · obtain ⟨l, xs, rfl, h, g⟩ := hv
    refine ⟨l, xs, rfl, h, ?_⟩
    have e := paired_map (gv := fun i => gv (ws.getD i .non)) g
    rw [List.length_map] at e
    exact e.trans (sel V.non F gv ws)
/-- no filter, elements by their properties; each turn may take d draws -/
theorem ev_lcP {α : Type} {wi : TI} {vs : List Nat} {as : List α} {mv : α → V} {j : Nat} (d : Nat) (pe : α → SP) (hi : ItP R n (m + as.length * d) wi σ H (as.map fun a => is (mv a))) (hz : as.length ≤ 50000) (hw : ∀ x, wipe ((wipe σ vs).set j (some x)) vs = wipe σ vs)
    (hs : ∀ R' H' a k, Ext R H R' H' → a ∈ as → EvP R' (k + d) k te ((wipe σ vs).set j (some (mv a))) H' (pe a)) :
    EvP R n m (tLc wi (gName j) tYes te vs) σ H (lstP pe as) := by
  cases as with
  | nil =>
    rw [List.length_nil, Nat.zero_mul, Nat.add_zero] at hi
    refine (ev_lc (t := tYes) (te := te) (g := gName j) (vs := vs) (f := fun _ => true) (pe := fun i => is .non) (c := fun _ => m) hi (Nat.zero_le _) fun R' H' i y x ex hy hx => ?_).imp fun v H1 _ hv => ?_
    · cases hy
    · obtain ⟨l, xs, rfl, h, g⟩ := hv
      cases g
      exact ⟨l, [], rfl, h, .nil⟩
  | cons a0 as0 =>
    generalize hAS : a0 :: as0 = as at *
    have h := (ev_lc (R := R) (H := H) (σ := σ) (te := te) (g := gName j) (vs := vs) (t := tYes) (f := fun _ => true) (pe := fun i => pe (as.getD i a0)) (c := fun i => m + (as.length - i) * d) (n := n) hi (by rw [List.length_map]; exact hz) fun R' H' i y x ex hy hx => ?_)
    rw [List.length_map, Nat.sub_self, Nat.zero_mul, Nat.add_zero] at h
    refine h.imp fun v H1 _ hv => ?_
    · obtain ⟨l, xs, rfl, h, g⟩ := hv
      refine ⟨l, xs, rfl, h, ?_⟩
      have e := paired_sub (F := fun v a => (pe a).P R.M v H1) (m := fun i => as.getD i a0) g
      rw [List.filter_eq_self.mpr (fun _ _ => rfl), range_getD] at e
      exact e
    · rw [List.getElem?_map] at hy
      obtain ⟨a, ha, rfl⟩ := Option.map_eq_some_iff.mp hy
      have hx : x = mv a := hx
      subst hx
      have eg : as.getD i a0 = a := getD_of ha
      have hlt := (List.getElem?_eq_some_iff.mp ha).1
      refine ⟨_, fun Q q => q, hw _, _, fun H1 e Q k => k true H1 (R'.refl e) rfl, fun _ => ?_, fun z => nomatch z⟩
      show EvP R' _ _ te _ H' (pe (as.getD i a0))
      rw [eg]
      have e2 : m + (as.length - i) * d = (m + (as.length - (i + 1)) * d) + d := by
        have e3 : as.length - i = (as.length - (i + 1)) + 1 := by omega
        rw [e3, Nat.add_mul, Nat.one_mul, Nat.add_assoc]
      rw [e2]
      exact hs R' H' a _ ex (List.mem_of_getElem? ha)
/-- list(xs) -/
theorem ev_listOf {l : Addr} {xs : List V} (ha : EvP R n m te σ H (is (.ref l))) (hx : SqM K R.M H l xs) : EvP R n m (tCB (rListU K) (tCons te tNil)) σ H (lstG (· = xs)) :=
  ev_cb (ea_cons ha ea_nil) fun vs H1 e hv => by
    obtain ⟨v, rfl, h⟩ := one hv
    have h : v = .ref l := h
    subst h
    exact fun _ j Q k => ⟨l, xs, rfl, .inl (hx.st e.2).sq, fun n hn => k _ _ (R.new j hn) ⟨n, xs, rfl, ⟨upd_same, R.fresh j hn⟩, rfl⟩⟩
end
/-! ### defs of the text -/
section
variable {P : Program} {w : World} {K : PySem.W.Frag} {mg : Str → Option Value} {base : Heap}
/-- a def as the head tells it: it stands at its global name -/
structure Df (K : PySem.W.Frag) (mg : Str → Option Value) (x : Str) (st : Stmt) : Prop where
  ex : ∃ f fd, FunD K x x (defArgs st) (defBody st) (defScope st) [] [] f fd ∧ mg x = some (.ref f)
theorem Df.cal {x : Str} {st : Stmt} {N ps : List Str} {k : Nat} {sp : Sp} (F : Df K mg x st) (S : FnScope N ps (defScope st)) (len : ∀ vs H Q E, sp vs H Q E → vs.length = ps.length)
    (hbd : ∀ (kV doc pm : Value) (an : Option Addr) (cdv ct : Value) (us : List Value), us.length = ps.length → bindArgs (PySem.W.fnOf x x (defArgs st) (defBody st) (defScope st) .none kV doc pm an cdv ct) ⟨us, []⟩ = pure (ps.zip us))
    (hbody : ∀ (f : Addr) (cdv : Value) (A : Around) (outer : List Env) (s : Shared) (H : Hp) (vs : List V) (Q : VK) (E : XK), Room k (A.deeper (envOfC x (defScope st) s.heap.objs.size f cdv)) → sp vs H Q E →
      ∃ t, PSs (cxOf CX0 P w K mg base N x (defScope st) f cdv A outer s H E).nox (defBody st) t ∧ t { nx := fun _ H' => Q .non H', rt := Q } (start N vs) H) : Cal P w K mg base (k + 1) x ps sp := by
  obtain ⟨f, fd, F, hm⟩ := F.ex
  refine ⟨f, fd, F.ok S len fun cdv A outer s H vs Q E hr h => ?_, hm, F.kp, F.bindsN hbd, by
    obtain ⟨oc, od, _, _, _, _, _, _, _, osl, _, lk, _⟩ := F.ex
    exact ⟨oc, od, osl, lk⟩⟩
  obtain ⟨t, h1, h2⟩ := hbody f cdv A outer s H vs Q E hr h
  exact ⟨t, PSs.nox h1, h2⟩
end
/-- the law's own def -/
theorem FunD_fn {P : Program} {w : World} {K : PySem.W.Frag} {mg : Str → Option Value} {base : Heap} {x : Str} {st : Stmt} {N ps : List Str} {k : Nat} {sp : Sp} {f : Addr} {fd : FuncData} (F : FunD K x x (defArgs st) (defBody st) (defScope st) [] [] f fd) (S : FnScope N ps (defScope st)) (len : ∀ vs H Q E, sp vs H Q E → vs.length = ps.length)
    (hbody : ∀ (cdv : Value) (A : Around) (outer : List Env) (s : Shared) (H : Hp) (vs : List V) (Q : VK) (E : XK), Room k (A.deeper (envOfC x (defScope st) s.heap.objs.size f cdv)) → sp vs H Q E →
      ∃ t, PSs (cxOf CX0 P w K mg base N x (defScope st) f cdv A outer s H E).nox (defBody st) t ∧ t { nx := fun _ H' => Q .non H', rt := Q } (start N vs) H) : FnOk P w K mg base CX0 (k + 1) f fd ps sp :=
  F.ok S len fun cdv A outer s H vs Q E hr h => by
    obtain ⟨t, h1, h2⟩ := hbody cdv A outer s H vs Q E hr h
    exact ⟨t, PSs.nox h1, h2⟩
/-! ### promises: arguments, a relation, what is returned -/
/-- a def that changes nothing, by whatever relation the caller goes on: from arguments a: they stand as args tells, what comes has post -/
def pureSp {α : Type} (args : α → (Addr → Prop) → List V → Hp → Prop) (post : α → SP) : Sp := fun vs H Q _ => ∃ (R : Rel) (n : Nat) (a : α), R.J n H ∧ args a R.M vs H ∧ ∀ v H', R.ok n H H' → (post a).P R.M v H' → Q v H'
theorem ev_pure {α : Type} {args : α → (Addr → Prop) → List V → Hp → Prop} {post : α → SP} {R : Rel} {n m : Nat} {tar : TA} {ps : List SP} {σ : L2.St} {H : Hp} (x : α) (h : EvA R n m tar σ H ps)
    (ha : ∀ vs H1, R.ok m H H1 → Paired (fun v (p : SP) => p.P R.M v H1) vs ps → args x R.M vs H1) : EvP R n m (tCall (pureSp args post) [] E0 tar) σ H (post x) :=
  ev_call h fun vs H1 e hv Q f => ⟨R, m, x, e.1, ha vs H1 e hv, f⟩
/-- .. the arguments are known only when they have come -/
theorem ev_pureX {α : Type} {args : α → (Addr → Prop) → List V → Hp → Prop} {post : α → SP} {R : Rel} {n m : Nat} {tar : TA} {ps : List SP} {σ : L2.St} {H : Hp} {s : SP} (h : EvA R n m tar σ H ps)
    (ha : ∀ vs H1, R.ok m H H1 → Paired (fun v (p : SP) => p.P R.M v H1) vs ps → ∃ x, args x R.M vs H1 ∧ ∀ v H', (post x).P R.M v H' → s.P R.M v H') : EvP R n m (tCall (pureSp args post) [] E0 tar) σ H s :=
  ev_call h fun vs H1 e hv Q f => by
    obtain ⟨x, h1, h2⟩ := ha vs H1 e hv
    exact ⟨R, m, x, e.1, h1, fun v H' e' h' => f v H' e' (h2 v H' h')⟩
end My
namespace My
open PySem PySem.Spec PyProof.Rows L2
section
variable {R : Rel} {n m k : Nat} {K : PySem.W.Frag} {σ : L2.St} {H H' : Hp} {ta tb tc te : TE} {t u : TT} {x y z v : V} {p q s : SP} {D : Ends} {tu tw tz : TS} {g : TG} {a b : Codes}
theorem it_lstV {xs : List V} (ha : EvP R n m te σ H (lstG (· = xs))) : ItP R n m (iAny K te) σ H (xs.map is) := by
  refine it_lstP (K := K) (pe := is) (ys := xs) (ha.imp fun v H1 _ hv => ?_)
  obtain ⟨l, ws, e, h, rfl⟩ := hv
  exact ⟨l, ws, e, h, paired_self ws⟩
where
  paired_self {M : Addr → Prop} {H1 : Hp} : ∀ ws : List V, Paired (fun v y => (is y).P M v H1) ws ws
    | [] => .nil
    | w :: ws => .cons rfl (paired_self ws)
/-! ### methods of texts -/
theorem ev_lower (ha : EvP R n m te σ H (is (sv a))) (h : a.all (· < 128) = true) (hl : a.length ≤ 100000) : EvP R n m (tBM0 K "str" rLowerU te) σ H (is (sv (a.map PyProof.Rows.lo1))) :=
  ev_bmS0 (f := Txt.lower) ha (SX.lower_S h) fun H1 Q q => ⟨_, rfl, rfl, by rw [SX.S_len]; omega, q⟩
theorem ev_upper (ha : EvP R n m te σ H (is (sv a))) (h : a.all (· < 128) = true) (hl : a.length ≤ 100000) : EvP R n m (tBM0 K "str" rUpperU te) σ H (is (sv (a.map PyProof.Rows.up1))) :=
  ev_bmS0 (f := Txt.upper) ha (SX.upper_S h) fun H1 Q q => ⟨_, rfl, rfl, by rw [SX.S_len]; omega, q⟩
theorem map_sv (ls : List Codes) : (ls.map SX.S).map V.str = ls.map sv := List.map_map ..
theorem ev_split (ha : EvP R n m te σ H (is (sv a))) (hb : EvP R m k tb σ H (is (sv b))) (h : b ≠ []) (hk : b.all (· < 256) = true) (hl : a.length ≤ 100000) : EvP R n k (tBM K "str" rSplitU te (tCons tb tNil)) σ H (lstG (· = (TL.spl b 0 [] a).map sv)) :=
  ev_bmS1 ha hb fun v H1 e hv => by
    have hv : v = sv b := hv
    subst hv
    refine fun _ j Q k => ⟨_, _, rfl, rfl, ?_, ?_, fun l hl => ?_⟩
    · rw [SX.S_len]
      cases b with
      | nil => exact absurd rfl h
      | cons => rfl
    · rw [SX.S_len]
      exact Nat.le_trans (Nat.add_le_add_right hl 2) (by decide)
    · rw [SX.split_S h hk, map_sv]
      exact k _ _ (R.new j hl) ⟨l, _, rfl, ⟨upd_same, R.fresh j hl⟩, rfl⟩
theorem ev_join {G : List Codes → Prop} (ha : EvP R n m te σ H (is (sv a))) (hb : EvP R m k tb σ H (lstG fun xs => ∃ ls, xs = ls.map sv ∧ G ls)) (hz : ∀ ls, G ls → (ls.map (·.length)).sum + ls.length * a.length ≤ 1000000) : EvP R n k (tBM K "str" (rJoinU K) te (tCons tb tNil)) σ H (sat fun v => ∃ ls, G ls ∧ v = sv (TL.joinL a ls)) :=
  ev_bmS1 ha hb fun v H1 e hv => by
    obtain ⟨l, xs, rfl, h, ls, rfl, g⟩ := hv
    refine fun _ j Q k => ⟨_, l, ls.map SX.S, rfl, rfl, .inl ?_, ?_, ?_⟩
    · rw [map_sv]
      exact h.sq
    · rw [SX.lens, List.length_map, SX.S_len]
      exact Nat.le_trans (hz ls g) (by decide)
    · rw [SX.join_S]
      exact k _ H1 (R.self j) ⟨ls, g, rfl⟩
theorem ev_joinV {ls : List Codes} (ha : EvP R n m te σ H (is (sv a))) (hb : EvP R m k tb σ H (lstG (· = ls.map sv))) (hz : (ls.map (·.length)).sum + ls.length * a.length ≤ 1000000) : EvP R n k (tBM K "str" (rJoinU K) te (tCons tb tNil)) σ H (is (sv (TL.joinL a ls))) :=
  (ev_join (G := (· = ls)) ha (hb.imp fun v H1 _ ⟨l, xs, e, h, g⟩ => ⟨l, xs, e, h, ls, g, rfl⟩) (fun ls' e => by subst e; exact hz)).imp fun v H1 _ ⟨ls', e, h⟩ => by subst e; exact h
/-! ### lists -/
theorem ev_cat {F G : List V → Prop} (ha : EvP R n m ta σ H (lstG F)) (hb : EvP R m k tb σ H (lstG G)) (hz : ∀ xs ys, F xs → G ys → xs.length + ys.length ≤ 100000) : EvP R n k (tOp (rAddU K) ta tb) σ H (lstG fun zs => ∃ xs ys, F xs ∧ G ys ∧ zs = xs ++ ys) :=
  ev_op ha hb fun v w H1 e hv hw _ j Q f => by
    obtain ⟨l, xs, rfl, h1, g1⟩ := hv
    obtain ⟨l2, ys, rfl, h2, g2⟩ := hw
    exact .inr (.inr (.inl ⟨l, l2, xs, ys, rfl, rfl, h1.1, h2.1, Evl.sz_of (hz xs ys g1 g2), fun p hp => f _ _ (R.new j hp) ⟨p, _, rfl, ⟨upd_same, R.fresh j hp⟩, xs, ys, g1, g2, rfl⟩⟩))
theorem ev_catV {xs ys : List V} (ha : EvP R n m ta σ H (lstG (· = xs))) (hb : EvP R m k tb σ H (lstG (· = ys))) (hz : xs.length + ys.length ≤ 100000) : EvP R n k (tOp (rAddU K) ta tb) σ H (lstG (· = xs ++ ys)) :=
  (ev_cat ha hb fun a b ea eb => by subst ea; subst eb; exact hz).imp fun v H1 _ ⟨l, zs, e, h, a, b, ea, eb, ez⟩ => ⟨l, zs, e, h, by subst ea; subst eb; exact ez⟩
theorem atI_mem {α : Type} {xs : List α} {i : Int} (h0 : 0 ≤ i) (h1 : i < xs.length) : ∃ x, atI xs i = some x ∧ xs[i.toNat]? = some x := by
  have hj : i.toNat < xs.length := by omega
  refine ⟨xs[i.toNat], ?_, List.getElem?_eq_getElem hj⟩
  unfold atI ixN
  rw [if_pos h0, if_pos h1]
  exact List.getElem?_eq_getElem hj
/-- an item of a list at some place in it -/
theorem ev_ixG {F : List V → Prop} {Gi : V → Prop} (ha : EvP R n m ta σ H (lstG F)) (hb : EvP R m k tb σ H (sat Gi)) (h : ∀ xs v, F xs → Gi v → ∃ i, v = .int i ∧ 0 ≤ i ∧ i < xs.length) : EvP R n k (tOp (rIx K) ta tb) σ H (sat fun v => ∃ xs, F xs ∧ v ∈ xs) :=
  ev_op ha hb fun v w H1 e hv hw _ j Q f => by
    obtain ⟨l, xs, rfl, h1, g1⟩ := hv
    obtain ⟨i, rfl, h0, h2⟩ := h xs w g1 hw
    obtain ⟨y, hy, hy2⟩ := atI_mem h0 h2
    exact .inl ⟨l, xs, i, y, rfl, rfl, h1.sq, hy, f y H1 (R.self j) ⟨xs, g1, List.mem_of_getElem? hy2⟩⟩
/-- a sign of a text at some place in it -/
theorem ev_ixSG {Gi : V → Prop} (ha : EvP R n m ta σ H (is (sv a))) (hb : EvP R m k tb σ H (sat Gi)) (hl : a.length ≤ 100000) (h : ∀ v, Gi v → ∃ i, v = .int i ∧ 0 ≤ i ∧ i < a.length) : EvP R n k (tOp (rIx K) ta tb) σ H (sat fun v => ∃ c, v = sv [c] ∧ c ∈ a) :=
  ev_op ha hb fun v w H1 e hv hw _ j Q f => by
    have hv : v = sv a := hv
    subst hv
    obtain ⟨i, rfl, h0, h2⟩ := h w hw
    obtain ⟨y, hy, hy2⟩ := atI_mem h0 h2
    exact .inr (.inr ⟨_, i, y, rfl, rfl, slen hl, hy, f _ H1 (R.self j) ⟨y, rfl, List.mem_of_getElem? hy2⟩⟩)
theorem EvP.asG {G : V → Prop} (h : EvP R n m te σ H (is v)) (g : G v) : EvP R n m te σ H (sat G) := h.imp fun w H1 _ e => by
  have e : w = v := e
  subst e
  exact g
theorem ev_is2 {xs ys : List V} (h : EvP R n m te σ H (lstG (· = xs))) (e : xs = ys) : EvP R n m te σ H (lstG (· = ys)) := by
  subst e
  exact h
/-! ### texts and numbers by their properties -/
abbrev tx (F : Codes → Prop) : SP := sat fun v => ∃ s, v = sv s ∧ F s
abbrev nt (F : Int → Prop) : SP := sat fun v => ∃ i, v = .int i ∧ F i
theorem EvP.tx {F : Codes → Prop} (h : EvP R n m te σ H (is (sv a))) (g : F a) : EvP R n m te σ H (tx F) := h.asG ⟨a, rfl, g⟩
theorem EvP.nt {F : Int → Prop} {i : Int} (h : EvP R n m te σ H (is (.int i))) (g : F i) : EvP R n m te σ H (nt F) := h.asG ⟨i, rfl, g⟩
theorem EvP.txImp {F G : Codes → Prop} (h : EvP R n m te σ H (My.tx F)) (g : ∀ s, F s → G s) : EvP R n m te σ H (My.tx G) := h.imp fun v H1 _ ⟨s, e, f⟩ => ⟨s, e, g s f⟩
theorem EvP.ntImp {F G : Int → Prop} (h : EvP R n m te σ H (My.nt F)) (g : ∀ s, F s → G s) : EvP R n m te σ H (My.nt G) := h.imp fun v H1 _ ⟨s, e, f⟩ => ⟨s, e, g s f⟩
theorem ev_addT {F G : Codes → Prop} (ha : EvP R n m ta σ H (tx F)) (hb : EvP R m k tb σ H (tx G)) (hz : ∀ x y, F x → G y → x.length + y.length ≤ 100000) : EvP R n k (tOp (rAddU K) ta tb) σ H (tx fun u => ∃ x y, F x ∧ G y ∧ u = x ++ y) :=
  ev_op ha hb fun v w H1 e hv hw nn j Q f => by
    obtain ⟨x, rfl, fx⟩ := hv
    obtain ⟨y, rfl, gy⟩ := hw
    exact rv_addS (K := K) (R := R) (H := H1) (a := x) (b := y) (hz x y fx gy) nn j Q fun z H2 e2 hz => f z H2 e2 ⟨_, hz, x, y, fx, gy, rfl⟩
theorem ev_addN {F G : Int → Prop} (ha : EvP R n m ta σ H (nt F)) (hb : EvP R m k tb σ H (nt G)) : EvP R n k (tOp (rAddU K) ta tb) σ H (nt fun u => ∃ x y, F x ∧ G y ∧ u = x + y) :=
  ev_op ha hb fun v w H1 e hv hw nn j Q f => by
    obtain ⟨x, rfl, fx⟩ := hv
    obtain ⟨y, rfl, gy⟩ := hw
    exact rv_addI (K := K) (R := R) (H := H1) (i := x) (j := y) nn j Q fun z H2 e2 hz => f z H2 e2 ⟨_, hz, x, y, fx, gy, rfl⟩
/-- a test of a drawn number -/
theorem et_eqN {F : Int → Prop} {j : Int} (ha : EvP R n m ta σ H (nt F)) (hb : EvP R m k tb σ H (is (.int j))) : EvT R n k (tTest (tOp (rEqU K) ta tb)) σ H (fun _ => True) := et_testG (ev_op ha hb fun v w H1 e hv hw nn jj Q f => by
    obtain ⟨x, rfl, fx⟩ := hv
    have hw : w = .int j := hw
    subst hw
    exact rv_eqI (K := K) (R := R) (H := H1) (i := x) (j := j) nn jj Q fun z H2 e2 hz => f z H2 e2 ⟨_, hz, trivial⟩)
theorem et_gtN {F : Int → Prop} {j : Int} (ha : EvP R n m ta σ H (nt F)) (hb : EvP R m k tb σ H (is (.int j))) : EvT R n k (tTest (tOp rGtU ta tb)) σ H (fun _ => True) := et_testG (ev_op ha hb fun v w H1 e hv hw nn jj Q f => by
    obtain ⟨x, rfl, fx⟩ := hv
    have hw : w = .int j := hw
    subst hw
    exact rv_gtI (R := R) (H := H1) (i := x) (j := j) nn jj Q fun z H2 e2 hz => f z H2 e2 ⟨_, hz, trivial⟩)
/-! ### what is walked comes of an expression -/
theorem for_bindR (h : EvP R n m te σ H p) (f : ∀ v H1, R.ok m H H1 → p.P R.M v H1 → StF R m (tFor (iRng1 (tCons (tC v) tNil)) g tu) D σ H1) : StF R n (tFor (iRng1 (tCons te tNil)) g tu) D σ H := fun H1 e =>
  h H1 e _ fun v H2 e2 hv => (f v H2 (R.trans e e2) hv).run e2.1
theorem forq_bindR (h : EvP R n m te σ H p) (f : ∀ v H1, R.ok m H H1 → p.P R.M v H1 → StF R m (tSeq (tFor (iRng1 (tCons (tC v) tNil)) g tu) tz) D σ H1) : StF R n (tSeq (tFor (iRng1 (tCons te tNil)) g tu) tz) D σ H := fun H1 e =>
  h H1 e _ fun v H2 e2 hv => (f v H2 (R.trans e e2) hv).run e2.1
theorem lc_bindR {vs : List Nat} (h : EvP R n m te σ H p) (f : ∀ v H1, R.ok m H H1 → p.P R.M v H1 → EvP R m k (tLc (iRng1 (tCons (tC v) tNil)) g t tb vs) σ H1 s) : EvP R n k (tLc (iRng1 (tCons te tNil)) g t tb vs) σ H s := fun H1 e Q q =>
  h H1 e _ fun v H2 e2 hv => f v H2 (R.trans e e2) hv H2 (R.refl e2) Q fun w H3 e3 hw => q w H3 (R.trans e2 e3) hw
theorem it_any {ys : List SP} (h : ItP R n m (iList K te) σ H ys) : ItP R n m (iAny K te) σ H ys := fun H1 e Rk k => .inl (h H1 e Rk k)
theorem it_list0 {l : Addr} {xs : List V} (ha : EvP R n m te σ H (is (.ref l))) (hx : SqM K R.M H l xs) : ItP R n m (iList K te) σ H (xs.map is) := fun H1 e Rk k => ha H1 e _ fun v H2 e2 hv => by
  have hv : v = .ref l := hv
  subst hv
  have h2 := hx.st (R.trans e e2).2
  refine ⟨l, rfl, ⟨xs, h2.sq⟩, k _ H2 e2 ⟨fun M' i H' e' hi => ?_, fun M' i H' x H'' e' _ hi hy => ?_, fun M' H' e' => ?_⟩⟩
  · rw [List.length_map] at hi
    exact ⟨xs, _, ((h2.lift e'.w).st e'.pr).sq, List.getElem?_eq_getElem hi⟩
  · obtain ⟨rfl, f⟩ := hy
    refine ⟨Evl.Ex.refl _, fun y hy => ?_⟩
    have q := f _ ((h2.lift e'.w).st e'.pr).sq
    rw [List.getElem?_map, q] at hy
    cases hy
    rfl
  · exact ⟨xs, ((h2.lift e'.w).st e'.pr).sq, by rw [List.length_map]; exact Nat.le_refl _⟩
/-- for over a list that an expression makes; the relation may be chosen then -/
theorem for_bindL {n2 : Nat} (h : EvP R n m te σ H p) (f : ∀ v H1, R.ok m H H1 → p.P R.M v H1 → ∃ R2 n2, R2.J n2 H1 ∧ StF R2 n2 (tFor (iList K (tC v)) g tu) D σ H1) : StF R n (tFor (iAny K te) g tu) D σ H := fun H1 e => by
  have h2 : tFor (iList K te) g tu D σ H1 := h H1 e _ fun v H2 e2 hv => by
    obtain ⟨R2, n2, j, s⟩ := f v H2 (R.trans e e2) hv
    exact s.run j
  exact .inl h2
theorem ev_strip0 {f : Codes} (ha : EvP R n m te σ H (is (sv a))) (hb : EvP R m k tb σ H (is (sv b))) (hf : f = cs (Txt.stripChars (SX.S a) (SX.S b))) (hl : a.length ≤ 100000) : EvP R n k (tBM K "str" rStripU te (tCons tb tNil)) σ H (is (sv f)) :=
  ev_bmS1 ha hb fun v H1 e hv => by
    have hv : v = sv b := hv
    subst hv
    refine rm_now fun Q q => ⟨_, _, rfl, rfl, slen hl, ?_⟩
    have e : V.str (Txt.stripChars (SX.S a) (SX.S b)) = sv f := (sv_of _).trans (by rw [hf])
    rw [e]
    exact q
theorem ev_find (ha : EvP R n m te σ H (is (sv a))) (hb : EvP R m k tb σ H (is (sv b))) : EvP R n k (tBM K "str" rFindU te (tCons tb tNil)) σ H (is (.int (Txt.find (SX.S a) (SX.S b)))) :=
  ev_bmS1 ha hb fun v H1 e hv => by
    have hv : v = sv b := hv
    subst hv
    exact rm_now fun Q q => .inl ⟨_, _, rfl, rfl, q⟩
/-! ### xs.append(e), the list at l holds xs -/
theorem s_appA {l : Addr} {xs : List V} {i : Nat} (hi : σ[i]? = some (some (.ref l))) (he : EvP (R.at l xs) n m te σ H q) (hz : xs.length < 100000) (f : ∀ v H1, (R.at l xs).ok m H H1 → q.P (R.at l xs).M v H1 → D.nx σ (upd H1 l (.lst (xs ++ [v])))) : StF (R.at l xs) n (tDrop (tBM K "list" rAppend (tVar i) (tCons te tNil))) D σ H := fun H1 e =>
  ⟨.ref l, hi, .inl ⟨rfl, xs, .inl (.inl e.1.2)⟩, he H1 e _ fun v H2 e2 hv => ⟨l, xs, v, rfl, rfl, e2.1.2, Evl.sz_lt hz, f v H2 ((R.at l xs).trans e e2) hv⟩⟩
/-- .. the relation behind it, by which the list may change -/
theorem app_off {l : Addr} {xs ys : List V} {B : Hp} {c : Nat} (hB : (R.off l).ok c B H) (e : (R.at l xs).ok m H H') (hm : ¬ R.M l) : (R.off l).ok m B (upd H' l (.lst ys)) :=
  ⟨⟨R.put e.1.1 hm, ys, upd_same⟩, hB.2.trans (e.2.trans (pres.upd (.inr rfl)))⟩
theorem off_at {l : Addr} {xs : List V} {c : Nat} (j : (R.off l).J c H) (h : H l = some (.lst xs)) : (R.at l xs).J c H := ⟨j.1, h⟩
/-! ### displays of texts by a property -/
theorem paired_all {M : Addr → Prop} {F : V → Prop} : ∀ {vs : List V} {k : Nat}, Paired (fun v (p : SP) => p.P M v H) vs (List.replicate k (sat F)) → vs.length = k ∧ ∀ v ∈ vs, F v
  | _, 0, .nil => ⟨rfl, fun v h => by cases h⟩
  | _, k + 1, .cons a b => by
    obtain ⟨h1, h2⟩ := paired_all b
    refine ⟨by rw [List.length_cons, h1], fun v hv => ?_⟩
    rcases List.mem_cons.mp hv with rfl | hv
    · exact a
    · exact h2 v hv
theorem ev_lstR {tar : TA} {F : V → Prop} {c : Nat} (h : EvA R n m tar σ H (List.replicate c (sat F))) (hc : c ≤ 100000) : EvP R n m (tLst tar) σ H (lstG fun xs => xs.length = c ∧ ∀ v ∈ xs, F v) :=
  (ev_lst h (by rw [List.length_replicate]; exact hc)).imp fun v H1 _ ⟨l, xs, e, h, g⟩ => ⟨l, xs, e, h, paired_all g⟩
theorem ev_max2 {i j : Int} (ha : EvP R n m ta σ H (is (.int i))) (hb : EvP R m k tb σ H (is (.int j))) : EvP R n k (tCB (fun xs H Q => ∃ i j, xs = [V.int i, .int j] ∧ Q (.int (if j > i then j else i)) H) (tCons ta (tCons tb tNil))) σ H (is (.int (if j > i then j else i))) :=
  ev_cb (ea_cons ha (ea_cons hb ea_nil)) fun vs H1 e hv => by
    obtain ⟨v, w, rfl, h1, h2⟩ := two hv
    have h1 : v = .int i := h1
    have h2 : w = .int j := h2
    subst h1; subst h2
    exact rc_now fun _ q => ⟨i, j, rfl, q⟩
theorem ev_sliceT {F : Codes → Prop} {lo hi : Option Int} {tl th : TO} {j : Nat} (ha : EvP R n m te σ H (tx F)) (hl : EvO R m k tl σ H (fun o => o = lo)) (hh : EvO R k j th σ H (fun o => o = hi)) (hz : ∀ x, F x → x.length ≤ 100000) : EvP R n j (tSl (rSlU K) te tl th) σ H (tx fun u => ∃ x, F x ∧ u = sl x lo hi) :=
  ev_sl ha hl hh fun v H1 _ hv nn jj Q f => by
    obtain ⟨x, rfl, hx⟩ := hv
    exact rs_S (K := K) (R := R) (hz x hx) nn jj Q fun z H2 e2 hz => f z H2 e2 ⟨_, hz, x, hx, rfl⟩
theorem StF.seq {ts : TS} (h : StF R n ts { D with nx := tz D } σ H) : StF R n (tSeq ts tz) D σ H := h
/-! ### new lists, known to be new -/
def EvN (R : Rel) (n m : Nat) (te : TE) (σ : L2.St) (H : Hp) (G : List V → Prop) : Prop := ∀ H1, R.ok n H H1 → ∀ Q : VK, (∀ l H2 xs, R.ok m H1 H2 → H1 l = none → LtM R.M H2 l xs → G xs → Q (.ref l) H2) → te σ H1 Q
theorem old_none {l : Addr} (e : R.ok n H H') (h : H' l = none) : H l = none := by
  cases h0 : H l with
  | none => rfl
  | some o =>
    by_cases hm : R.M l
    · exact absurd h (R.alive e.1 hm)
    · rw [e.2 l o hm h0] at h
      cases h
theorem ev_lstN {tar : TA} {ps : List SP} {G : List V → Prop} (h : EvA R n m tar σ H ps) (hl : ps.length ≤ 100000) (hG : ∀ vs H1, Paired (fun v (p : SP) => p.P R.M v H1) vs ps → G vs) : EvN R n m (tLst tar) σ H G := fun H1 e Q f =>
  h H1 e _ fun vs H2 e2 hv => ⟨by rw [hv.length]; exact Evl.sz_of hl, fun l hl => f l _ vs (R.trans e2 (R.new e2.1 hl)) (old_none e2 hl) ⟨upd_same, R.fresh e2.1 hl⟩ (hG vs H2 hv)⟩
theorem ev_lstNV {tar : TA} {vs : List V} (h : EvA R n m tar σ H (vs.map is)) (hl : vs.length ≤ 100000) : EvN R n m (tLst tar) σ H (· = vs) := ev_lstN h (by rw [List.length_map]; exact hl) fun _ _ hv => paired_is hv
theorem q_asgN {i : Nat} {G : List V → Prop} (h : EvN R n m te σ H G) (f : ∀ l H1 xs, R.ok m H H1 → H l = none → LtM R.M H1 l xs → G xs → StF R m tz D (σ.set i (some (.ref l))) H1) : StF R n (tSeq (tAsg te (gName i)) tz) D σ H := fun H1 e =>
  h H1 e _ fun l H2 xs e2 hn hl g => (f l H2 xs (R.trans e e2) (old_none e hn) hl g).run e2.1
theorem q_parN {i j : Nat} {G : List V → Prop} (ha : EvP R n m ta σ H p) (hb : EvN R m k tb σ H G) (f : ∀ v l H1 xs, R.ok k H H1 → H l = none → p.P R.M v H1 → LtM R.M H1 l xs → G xs → StF R k tz D ((σ.set i (some v)).set j (some (.ref l))) H1) : StF R n (tSeq (tPar i j (tCons ta (tCons tb tNil))) tz) D σ H := fun H1 e =>
  ha H1 e _ fun v H2 e2 hv => hb H2 (R.trans e e2) _ fun l H3 xs e3 hn hl g => ⟨_, _, rfl, (f v l H3 xs (R.trans (R.trans e e2) e3) (old_none (R.trans e e2) hn) (p.st e3.2 hv) hl g).run e3.1⟩
/-- behind a loop in which a new list grew -/
theorem off_back {l : Addr} {c d : Nat} {B : Hp} (e1 : R.ok n H B) (hn : H l = none) (e : (R.off l).ok c B H') (hd : d ≤ c) : R.ok d H H' := ⟨R.dec e.1.1 hd, fun a o ma ha => by
  have ne : a ≠ l := fun z => by rw [z, hn] at ha; cases ha
  exact e.2 a o (fun z => z.elim ma ne) (e1.2 a o ma ha)⟩
end
end My
namespace My
open PySem PySem.Spec PyProof.Rows L2
/-! ### for i, c in enumerate(a text) -/
def Ies (x : Str) : It := ⟨fun i _ => i < x.cps.size, fun i H v H' => ∃ T c, v = .ref T ∧ H T = none ∧ H' = upd H T (.tup [.int (i : Nat), .str ⟨#[c]⟩]) ∧ x.cps[i]? = some c, fun i _ => x.cps.size ≤ i⟩
theorem turn_enumS {P : Program} {w : World} {K : PySem.W.Frag} {elts : List Expr} {kk : Nat} {tpos : Pos} (x : Str) (t : Tok) (e it : Addr) :
    Turn P w K (.Tuple elts kk tpos) (Ies x) [e, it] e (fun i h => (∃ old, IsEnum h e it ((i : Nat) : Int) old) ∧ h.IsStrIter it (strIterType x) x t i ∧ e ≠ it ∧ i ≤ x.cps.size) where
  mem := by simp
  obj := fun i h st b hb => by
    obtain ⟨⟨old, he⟩, ⟨o, ho, hc, hd⟩, _⟩ := st
    have e' : b = e ∨ b = it := by simpa using hb
    rcases e' with z | z
    · rw [z]; exact ⟨_, he, fun v q => nomatch q⟩
    · rw [z]; exact ⟨o, ho, fun v q => by rw [hd] at q; cases q⟩
  keep := fun i h h' st k => by
    obtain ⟨⟨old, he⟩, ⟨o, ho, r⟩, hne, hl⟩ := st
    exact ⟨⟨old, k e (by simp) _ he⟩, ⟨o, k it (by simp) o ho, r⟩, hne, hl⟩
  item := by
    intro X hP hw hK hc i pins s σ H E I hf st hg
    subst hP hw hK
    obtain ⟨⟨old, he⟩, hit, hne, hl⟩ := st
    have hel : e < s.heap.objs.size := Heap.lt_size he
    have hil : it < s.heap.objs.size := by obtain ⟨_, q, _⟩ := hit; exact Heap.lt_size q
    have hh : X.A.in1.handled = none := I.ok.hd hc
    refine wpAny_pyNext_enum_itemD (Draws.text hh it x t) he hit hg hne (by simpa using hne) fun u h' tk hPx ho hit' hT hsz hk => ?_
    obtain ⟨c, tc, hcx, rfl⟩ := hPx
    refine ⟨_, rfl, wpAny_letOwnedTupleGo_enum (s := { s with heap := h', toks := tk + 1 }) ho fun h'' he' sb => ?_⟩
    have hT2 : h''.get? s.heap.objs.size = some { cls := .type "tuple", data := .seq #[.int i tk, .str ⟨#[c]⟩ tc] } := (sb.2 _ (Nat.ne_of_gt hel)).trans hT
    have new : ObjOk X.prog X.w (upd H s.heap.objs.size (.tup [.int (i : Nat), .str ⟨#[c]⟩])) h'' s.heap.objs.size (.tup [.int (i : Nat), .str ⟨#[c]⟩]) :=
      ⟨by show 2 ≤ sizeLine; decide, [.int i tk, .str ⟨#[c]⟩ tc], .cons ⟨_, rfl⟩ (.cons ⟨_, rfl⟩ .nil), ⟨_, hT2, rfl, _, rfl⟩⟩
    have I1 : Inv X pins σ (upd H s.heap.objs.size (.tup [.int (i : Nat), .str ⟨#[c]⟩])) { s with heap := h'', toks := tk + 1 } :=
      I.turnedNew (ch := [e, it]) (fun b ob hb q => (sb.2 b (fun z => hb (by simp [z]))).trans (hk b ob (fun z => hb (by simp [z])) (fun z => hb (by simp [z])) q)) hf (Nat.le_refl _) new
    refine ⟨.ref s.heap.objs.size, _, I1, rfl, ⟨_, c, rfl, I.hok.fresh (Nat.le_refl _), rfl, hcx⟩, ⟨⟨.str ⟨#[c]⟩ tc, ?_⟩, ?_, hne, hg⟩, fun b hb => ?_⟩
    · have e1 : ((i + 1 : Nat) : Int) = (i : Int) + 1 := by omega
      rw [e1]; exact he'
    · obtain ⟨o, ho2, r⟩ := hit'
      exact ⟨o, (sb.2 it (Ne.symm hne)).trans ho2, r⟩
    · have hb' : b < s.heap.objs.size := by
        have e' : b = e ∨ b = it := by simpa using hb
        rcases e' with z | z
        · rw [z]; exact hel
        · rw [z]; exact hil
      rw [upd_ne (Nat.ne_of_lt hb')]
      exact (hf b hb).1
  done := by
    intro X hP hw hK hc i pins s σ H E I hf st hg
    subst hP hw hK
    obtain ⟨⟨old, he⟩, hit, hne, hl⟩ := st
    obtain ⟨f0, f1, f2, f3, f4, f5⟩ := hf it (by simp)
    have hi : i = x.cps.size := Nat.le_antisymm hl hg
    subst hi
    have hh : X.A.in1.handled = none := I.ok.hd hc
    exact wpAny_pyNext_enum_endD (Draws.text hh it x t) he hit fun h' eb => ⟨rfl, I.turned (t' := s.toks) (fun b o hb q => eb b o hb q) f0 f1 f3 f4 f5⟩
  self := fun A i s Q E st h => let ⟨⟨_, he⟩, _⟩ := st; wpAny_pyIter_enum he h
def iEnumS (ta : TA) : TI := fun σ H R => ta σ H fun vs H1 => ∃ x, vs = [.str x] ∧ R (Ies x) H1
theorem pi_enumS {X : Cx} {e : Expr} {ta : TA} {p pos tpos : Pos} {elts : List Expr} {kk : Nat} (hg : Gl X "enumerate") (hm : X.mg "enumerate" = none) (ha : PA X [e] ta) (hs : starEach [e] X.env = [(false, eval e X.env)] := by rfl) :
    PI X (.Tuple elts kk tpos) (.Call (.Name "enumerate" p) [e] [] pos) (iEnumS ta) := by
  refine ⟨fun pins s σ H R I h => ?_⟩
  refine Call_ (ld_blt I hg hm boot_enumerate (PyProof.Rows.callWith_type1 (thn (ha.run pos pins s σ H _ I h) fun us s1 ⟨vs, H1, I1, r1, q1⟩ => ?_) hs rfl))
  obtain ⟨x, ex, q⟩ := q1
  subst ex
  cases r1 with
  | cons r rr =>
    cases rr
    obtain ⟨t, rfl⟩ := r
    refine call_enumerate_str fun h' he hit hsz hk => wpAny_pyIter_enum he ?_
    have I2 : Inv X pins σ H1 { s1 with heap := h' } := I1.kept (t' := s1.toks) hk
    refine ⟨s1.heap.objs.size + 1, [s1.heap.objs.size + 1, s1.heap.objs.size], _, _, H1, rfl, I2, turn_enumS x t (s1.heap.objs.size + 1) s1.heap.objs.size, ⟨⟨.none, he⟩, hit, Nat.succ_ne_self _, Nat.zero_le _⟩, fun b hb => ?_, q⟩
    have e' : b = s1.heap.objs.size + 1 ∨ b = s1.heap.objs.size := by simpa using hb
    have hle : s1.heap.objs.size ≤ b := by
      rcases e' with z | z
      · rw [z]; exact Nat.le_add_right _ _
      · rw [z]; exact Nat.le_refl _
    exact I1.fpOk hle (I1.hok.fresh hle)
def iEnumU (K : PySem.W.Frag) (ta : TA) : TI := fun σ H R => iEnumS ta σ H R ∨ iEnum K ta σ H R
theorem pi_enumA {X : Cx} {K : PySem.W.Frag} {e : Expr} {ta : TA} {p pos tpos : Pos} {elts : List Expr} {kk : Nat} (hg : Gl X "enumerate") (hm : X.mg "enumerate" = none) (ha : PA X [e] ta) (hs : starEach [e] X.env = [(false, eval e X.env)] := by rfl) (hK : X.K = K := by rfl) :
    PI X (.Tuple elts kk tpos) (.Call (.Name "enumerate" p) [e] [] pos) (iEnumU K ta) := hK ▸ PI_or (pi_enumS hg hm ha hs) (pi_enum hg hm ha hs)
end My
namespace My
open PySem PySem.Spec PyProof.Rows L2
section
variable {R : Rel} {n m k : Nat} {K : PySem.W.Frag} {σ : L2.St} {H H' : Hp} {ta tb tc te : TE} {t u : TT} {x y z v : V} {p q s : SP} {D : Ends} {tu tw tz : TS} {g : TG} {a b : Codes}
/-! ### enumerate(text) -/
theorem it_enum (ha : EvP R n m te σ H (is (sv a))) : ItP R n m (iEnumU K (tCons te tNil)) σ H ((List.range a.length).map fun i => tupG K (· = [.int (i : Nat), sv [a.getD i 0]])) := fun H1 e Rk k => .inl (ha H1 e _ fun v H2 e2 hv => by
  have hv : v = sv a := hv
  subst hv
  have sz : (SX.S a).cps.size = a.length := by simp [SX.S]
  refine ⟨SX.S a, rfl, k _ H2 e2 ⟨fun M' i H' e' hi => ?_, fun M' i H' x H'' e' hM hi hy => ?_, fun M' H' e' => ?_⟩⟩
  · rw [List.length_map, List.length_range] at hi
    show i < (SX.S a).cps.size
    rw [sz]
    exact hi
  · obtain ⟨T, c, rfl, hT, rfl, hc⟩ := hy
    refine ⟨Evl.Ex.new hT, fun y hy => ?_⟩
    have hc2 : a[i]? = some c := by
      rw [← hc]
      simp [SX.S]
    rw [List.length_map, List.length_range] at hi
    rw [List.getElem?_map, List.getElem?_range hi] at hy
    cases hy
    exact ⟨T, _, rfl, .of upd_same (fun z => hM T z hT), by rw [getD_of hc2]⟩
  · show (SX.S a).cps.size ≤ _
    rw [sz, List.length_map, List.length_range]
    exact Nat.le_refl _)
/-- for i, c in enumerate(text): the slots alone -/
theorem s_forE {i j : Nat} (ha : EvP R n n te σ H (is (sv a))) (Iv : Nat → L2.St → Prop) (h0 : Iv 0 σ)
    (hs : ∀ B r c σ', R.ok n H B → a[r]? = some c → Iv r σ' → StF R n tu (LE R n B D (Iv (r + 1))) ((σ'.set i (some (.int (r : Nat)))).set j (some (sv [c]))) B) (hd : ∀ σ' H', R.ok n H H' → Iv a.length σ' → D.nx σ' H') : StF R n (tFor (iEnumU K (tCons te tNil)) (gTup K 2 (gCons (gName i) (gCons (gName j) gNil))) tu) D σ H :=
  s_for (c := fun _ => n) (it_enum (K := K) ha) (fun B r σ' H' => R.ok n B H' ∧ Iv r σ') (fun _ _ _ _ h => h.1) (fun B e => ⟨R.refl e, h0⟩) (fun B r y σ' H' x H'' eb hy hp er hx => by
    rw [List.getElem?_map] at hy
    obtain ⟨w, hw, rfl⟩ := Option.map_eq_some_iff.mp hy
    have hlt : r < a.length := by
      have := (List.getElem?_eq_some_iff.mp hw).1
      rw [List.length_range] at this
      exact this
    rw [List.getElem?_range hlt] at hw
    cases hw
    obtain ⟨T, xs, rfl, hT, rfl⟩ := hx
    have hc : a[r]? = some a[r] := List.getElem?_eq_getElem hlt
    refine ⟨T, _, rfl, hT.sq, rfl, _, _, rfl, _, _, rfl, rfl, ?_⟩
    rw [getD_of hc]
    exact hs B r _ σ' eb hc hp.2 H'' (R.trans hp.1 (R.ex hp.1.1 er))) (fun B σ' H' eb hp => by
      rw [List.length_map, List.length_range] at hp
      exact hd σ' H' (R.trans eb hp.1) hp.2)
theorem q_forE {i j : Nat} (ha : EvP R n n te σ H (is (sv a))) (Iv : Nat → L2.St → Prop) (h0 : Iv 0 σ)
    (hs : ∀ B r c σ', R.ok n H B → a[r]? = some c → Iv r σ' → StF R n tu (LE R n B { D with nx := tz D } (Iv (r + 1))) ((σ'.set i (some (.int (r : Nat)))).set j (some (sv [c]))) B) (hd : ∀ σ', Iv a.length σ' → StF R n tz D σ' H) : StF R n (tSeq (tFor (iEnumU K (tCons te tNil)) (gTup K 2 (gCons (gName i) (gCons (gName j) gNil))) tu) tz) D σ H :=
  s_forE (D := { D with nx := tz D }) ha Iv h0 hs fun σ' H' e hv => hd σ' hv H' e
/-! ### all, isinstance, text times number -/
theorem ev_all {bs : List Bool} (ha : EvP R n m te σ H (lstG (· = bs.map V.bl))) : EvP R n m (tCB (rAll K) (tCons te tNil)) σ H (is (.bl (bs.all id))) := ev_cb (ea_cons ha ea_nil) fun vs H1 e hv => by
  obtain ⟨v, rfl, l, xs, rfl, h, rfl⟩ := one hv
  exact rc_now fun _ q => ⟨l, bs, rfl, h.sq, q⟩
theorem ev_isStr (ha : EvP R n m ta σ H (is (sv a))) : EvP R n m (tCB (rIsi K) (tCons ta (tCons (tC (.ty "str")) tNil))) σ H (is (.bl true)) :=
  ev_isi (uv := .type "str") (tv := .type "str") ha ev_c (.ty _) (fun v H1 _ hv => by
    have hv : v = sv a := hv
    subst hv
    exact .base (.str _)) rfl
/-- the values that are no texts -/
def NoStr (K : PySem.W.Frag) (M : Addr → Prop) (v : V) (H : Hp) : Prop := v = .non ∨ (∃ i, v = .int i) ∨ (∃ c, v = .bl c) ∨ (∃ l xs, v = .ref l ∧ H l = some (.lst xs) ∧ ¬ M l) ∨ (∃ l xs, v = .ref l ∧ H l = some (.tup xs) ∧ ¬ M l) ∨ ∃ l, v = .ref l ∧ H l = some (.dK []) ∧ ¬ M l
theorem lv_lift {M M' : Addr → Prop} {l : Addr} {o : HO} (w : ∀ a, M' a → M a ∨ H a = none) (h : H l = some o) (m : ¬ M l) : ¬ M' l := fun z => (w l z).elim m fun e => by rw [e] at h; cases h
def noStr (K : PySem.W.Frag) : SP := ⟨fun M v H => NoStr K M v H, fun e h => by
    rcases h with h | h | h | ⟨l, xs, rfl, h, m⟩ | ⟨l, xs, rfl, h, m⟩ | ⟨l, rfl, h, m⟩
    · exact .inl h
    · exact .inr (.inl h)
    · exact .inr (.inr (.inl h))
    · exact .inr (.inr (.inr (.inl ⟨l, xs, rfl, e l _ m h, m⟩)))
    · exact .inr (.inr (.inr (.inr (.inl ⟨l, xs, rfl, e l _ m h, m⟩))))
    · exact .inr (.inr (.inr (.inr (.inr ⟨l, rfl, e l _ m h, m⟩)))), fun w h => by
    rcases h with h | h | h | ⟨l, xs, rfl, h, m⟩ | ⟨l, xs, rfl, h, m⟩ | ⟨l, rfl, h, m⟩
    · exact .inl h
    · exact .inr (.inl h)
    · exact .inr (.inr (.inl h))
    · exact .inr (.inr (.inr (.inl ⟨l, xs, rfl, h, lv_lift w h m⟩)))
    · exact .inr (.inr (.inr (.inr (.inl ⟨l, xs, rfl, h, lv_lift w h m⟩))))
    · exact .inr (.inr (.inr (.inr (.inr ⟨l, rfl, h, lv_lift w h m⟩))))⟩
theorem NoStr.ty {M : Addr → Prop} (h : NoStr K M v H) : ∃ tv, TyX K H v tv ∧ PySem.W.kitOne K tv (.type "str") = some false := by
  rcases h with rfl | ⟨i, rfl⟩ | ⟨c, rfl⟩ | ⟨l, xs, rfl, h, _⟩ | ⟨l, xs, rfl, h, _⟩ | ⟨l, rfl, h, _⟩
  · exact ⟨_, .base .non, by rfl⟩
  · exact ⟨_, .base (.int i), by rfl⟩
  · exact ⟨_, .base (.bl c), by rfl⟩
  · exact ⟨_, .base (.lst h), by rfl⟩
  · exact ⟨_, .base (.tup h), by rfl⟩
  · exact ⟨_, .base (.dK h), by rfl⟩
theorem ev_isNoStr (ha : EvP R n m ta σ H (noStr K)) : EvP R n m (tCB (rIsi K) (tCons ta (tCons (tC (.ty "str")) tNil))) σ H (is (.bl false)) :=
  ev_cb (ea_cons ha (ea_cons (ev_c (v := .ty "str")) ea_nil)) fun vs H1 e hv => by
    obtain ⟨v, w, rfl, h1, h2⟩ := two hv
    have h2 : w = .ty "str" := h2
    subst h2
    obtain ⟨tv, h3, h4⟩ := NoStr.ty h1
    exact rc_now fun _ q => ⟨v, _, tv, .type "str", false, rfl, .ty _, h3, h4, q⟩
theorem rv_mulS {c : Nat} {i : Int} (h0 : -100000 ≤ i) (h1 : i ≤ 100000) : RV R rMulU (sv [c]) (.int i) H (is (sv (List.replicate i.toNat c))) := rv_now fun _ q => .inr (.inr ⟨c, i, rfl, rfl, h0, h1, by
  have e : V.str (Txt.mul ⟨#[c]⟩ i) = sv (List.replicate i.toNat c) := (sv_of _).trans (by unfold cs; rw [PyProof.Rows.mul_one_list])
  rw [e]
  exact q⟩)
/-! ### find from a place on -/
def fnd3 (l b : Codes) (i : Int) : Int := Txt.find3 (SX.S l) (SX.S b) i
theorem ev_find3 {i : Int} (ho : EvP R n n te σ H (is (sv a))) (hb : EvP R n n ta σ H (is (sv b))) (hc : EvP R n n tb σ H (is (.int i))) : EvP R n n (tBM K "str" rFindU te (tCons ta (tCons tb tNil))) σ H (is (.int (fnd3 a b i))) :=
  ev_bm ho (fun x H1 _ hx => by
    have hx : x = sv a := hx
    subst hx
    rfl) (ea_cons hb (ea_cons hc ea_nil)) fun x vs H1 e hx hv => by
      have hx : x = sv a := hx
      subst hx
      obtain ⟨v, w, rfl, h1, h2⟩ := two hv
      have h1 : v = sv b := h1
      have h2 : w = .int i := h2
      subst h1; subst h2
      exact rm_now fun Q q => .inr ⟨_, _, i, rfl, rfl, q⟩
end
end My
namespace My
open PySem PySem.Spec PyProof.Rows L2
section
variable {R : Rel} {n m k : Nat} {K : PySem.W.Frag} {σ : L2.St} {H H' : Hp} {ta tb tc te : TE} {t u : TT} {x y z v : V} {p q s : SP} {D : Ends} {tu tw tz : TS} {g : TG} {a b : Codes}
/-! ### while with a heap that changes at addresses of the run's own -/
theorem s_whileH (W : Nat → L2.St → Hp → Prop) (m0 : Nat) (h0 : ∀ H1, R.ok n H H1 → W m0 σ H1)
    (hs : ∀ m σ' H', W m σ' H' → R.J n H' ∧ ∃ b, EvT R n n t σ' H' (· = b) ∧ (b = true → StF R n tu { D with nx := fun σ2 H2 => ∃ m', m' < m ∧ W m' σ2 H2, ct := fun σ2 H2 => ∃ m', m' < m ∧ W m' σ2 H2, bk := D.nx } σ' H') ∧ (b = false → ∀ H1, R.ok n H' H1 → D.nx σ' H1)) : StF R n (tWhile t tu) D σ H := fun H1 e =>
  ⟨W, ⟨m0, h0 H1 e⟩, fun m σ' H' hw => by
    obtain ⟨j, b, hb, h1, h2⟩ := hs m σ' H' hw
    refine hb H' (R.self j) _ fun c H2 e2 hc => ?_
    subst hc
    cases c with
    | true => exact ⟨fun σ2 H3 => ∃ m', m' < m ∧ W m' σ2 H3, fun σ2 H3 hn => hn, h1 rfl H2 e2⟩
    | false => exact h2 rfl H2 e2⟩
theorem q_whileH (W : Nat → L2.St → Hp → Prop) (m0 : Nat) (h0 : ∀ H1, R.ok n H H1 → W m0 σ H1)
    (hs : ∀ m σ' H', W m σ' H' → R.J n H' ∧ ∃ b, EvT R n n t σ' H' (· = b) ∧ (b = true → StF R n tu { D with nx := fun σ2 H2 => ∃ m', m' < m ∧ W m' σ2 H2, ct := fun σ2 H2 => ∃ m', m' < m ∧ W m' σ2 H2, bk := tz D } σ' H') ∧ (b = false → StF R n tz D σ' H')) : StF R n (tSeq (tWhile t tu) tz) D σ H :=
  s_whileH (D := { D with nx := tz D }) W m0 h0 fun m σ' H' hw => by
    obtain ⟨j, b, a, c, d⟩ := hs m σ' H' hw
    exact ⟨j, b, a, c, fun hb H1 e1 => d hb H1 e1⟩
/-- l.append((..)): a new tuple at T -/
theorem s_appT {l : Addr} {xs vs : List V} {i : Nat} {tar : TA} (hl : H l = some (.lst xs)) (hm : ¬ R.M l) (hi : σ[i]? = some (some (.ref l))) (he : EvA R n n tar σ H (vs.map is)) (hz : xs.length < 100000) (hz2 : vs.length ≤ 100000)
    (f : ∀ T H1, R.ok n H H1 → H1 T = none → D.nx σ (upd (upd H1 T (.tup vs)) l (.lst (xs ++ [.ref T])))) : StF R n (tDrop (tBM K "list" rAppend (tVar i) (tCons (tTup tar) tNil))) D σ H := fun H1 e =>
  ⟨.ref l, hi, .inl ⟨rfl, xs, .inl (.inl (e.2 l _ hm hl))⟩, he H1 e _ fun ws H2 e2 hv => by
    have hv := paired_is hv
    subst hv
    refine ⟨Evl.sz_of hz2, fun T hT => ?_⟩
    have h2 := (R.trans e e2).2 l _ hm hl
    have ne : l ≠ T := fun z => by rw [z, hT] at h2; cases h2
    exact ⟨l, xs, .ref T, rfl, rfl, by rw [upd_ne ne]; exact h2, Evl.sz_lt hz, f T H2 (R.trans e e2) hT⟩⟩
/-- l.append(tuple(list)) -/
theorem s_appTup {l l2 : Addr} {xs ys : List V} {i j : Nat} (hl : H l = some (.lst xs)) (hm : ¬ R.M l) (hl2 : H l2 = some (.lst ys)) (hm2 : ¬ R.M l2) (hi : σ[i]? = some (some (.ref l))) (hj : σ[j]? = some (some (.ref l2))) (hz : xs.length < 100000)
    (f : ∀ T H1, R.ok n H H1 → H1 T = none → D.nx σ (upd (upd H1 T (.tup ys)) l (.lst (xs ++ [.ref T])))) : StF R n (tDrop (tBM K "list" rAppend (tVar i) (tCons (tCB (rTupU K) (tCons (tVar j) tNil)) tNil))) D σ H := fun H1 e => by
  have h1 := e.2 l _ hm hl
  have h2 := e.2 l2 _ hm2 hl2
  refine ⟨.ref l, hi, .inl ⟨rfl, xs, .inl (.inl h1)⟩, ?_⟩
  refine ⟨.ref l2, hj, l2, ys, rfl, .inl ⟨.inl (.inl h2), fun T hT => ?_⟩⟩
  have ne : l ≠ T := fun z => by rw [z, hT] at h1; cases h1
  exact ⟨l, xs, .ref T, rfl, rfl, by rw [upd_ne ne]; exact h1, Evl.sz_lt hz, f T H1 e hT⟩
/-- x = [] -/
theorem s_asgE {i : Nat} (f : ∀ T H1, R.ok n H H1 → H1 T = none → D.nx (σ.set i (some (.ref T))) (upd H1 T (.lst []))) : StF R n (tAsg (tLst tNil) (gName i)) D σ H := fun H1 e => ⟨Evl.sz_of (Nat.zero_le _), fun T hT => f T H1 e hT⟩
/-- x, y = a pair that is known -/
theorem q_asgP {i j : Nat} {u w : V} (h : EvP R n m te σ H (tupG K (· = [u, w]))) (f : StF R m tz D ((σ.set i (some u)).set j (some w)) H) : StF R n (tSeq (tAsg te (gTup K 2 (gCons (gName i) (gCons (gName j) gNil)))) tz) D σ H := fun H1 e =>
  h H1 e _ fun v H2 e2 hv => by
    obtain ⟨T, xs, rfl, hT, rfl⟩ := hv
    exact ⟨T, _, rfl, hT.sq, rfl, _, _, rfl, _, _, rfl, rfl, f H2 (R.trans e e2)⟩
/-! ### tuples of tuples of the run's own -/
abbrev Pr := Codes × Codes
def pairF (H0 : Hp) (v : V) (q : Pr) (H : Hp) : Prop := ∃ T, v = .ref T ∧ H0 T = none ∧ H T = some (.tup [sv q.1, sv q.2])
def leafF (H0 : Hp) (v : V) (ps : List Pr) (H : Hp) : Prop := ∃ T vs, v = .ref T ∧ H0 T = none ∧ H T = some (.tup vs) ∧ Paired (fun v q => pairF H0 v q H) vs ps
def pairSP (K : PySem.W.Frag) (q : Pr) : SP := tupG K (· = [sv q.1, sv q.2])
def leafSP (K : PySem.W.Frag) (ps : List Pr) : SP := tupP K (pairSP K) ps
def nameSP (K : PySem.W.Frag) (ls : List (List Pr)) : SP := tupP K (leafSP K) ls
def keepT (H0 H H' : Hp) : Prop := ∀ a vs, H0 a = none → H a = some (.tup vs) → H' a = some (.tup vs)
theorem keepT.pr1 {H0 : Hp} (k : keepT H0 H H') {v : V} {q : Pr} (h : pairF H0 v q H) : pairF H0 v q H' := by
  obtain ⟨T, rfl, h0, h⟩ := h
  exact ⟨T, rfl, h0, k T _ h0 h⟩
theorem keepT.lf {H0 : Hp} (k : keepT H0 H H') {v : V} {q : List Pr} (h : leafF H0 v q H) : leafF H0 v q H' := by
  obtain ⟨T, vs, rfl, h0, h, g⟩ := h
  exact ⟨T, vs, rfl, h0, k T _ h0 h, Paired_imp (fun _ _ z => k.pr1 z) g⟩
theorem pairF.sp {H0 : Hp} {q : Pr} (j : R.J n H0) (h : pairF H0 v q H) : (pairSP K q).P R.M v H := by
  obtain ⟨T, rfl, h0, h⟩ := h
  exact ⟨T, _, rfl, .of h (R.fresh j h0), rfl⟩
theorem leafF.sp {H0 : Hp} {q : List Pr} (j : R.J n H0) (h : leafF H0 v q H) : (leafSP K q).P R.M v H := by
  obtain ⟨T, vs, rfl, h0, h, g⟩ := h
  exact ⟨T, vs, rfl, .of h (R.fresh j h0), Paired_imp (fun _ _ z => z.sp j) g⟩
/-- two lists of the run's own: leaves, and the pairs of the next one -/
structure RdSt (R : Rel) (n : Nat) (H0 : Hp) (L P : Addr) (xs ys : List V) (ls : List (List Pr)) (ps : List Pr) (H : Hp) : Prop where
  j0 : R.J n H0
  J : R.J n H
  pr : pres R.M H0 H
  ne : L ≠ P
  l0 : H0 L = none
  p0 : H0 P = none
  hL : H L = some (.lst xs)
  hP : H P = some (.lst ys)
  fl : Paired (fun v q => leafF H0 v q H) xs ls
  fp : Paired (fun v q => pairF H0 v q H) ys ps
variable {H0 : Hp} {L P T : Addr} {xs ys : List V} {ls : List (List Pr)} {ps : List Pr}
theorem RdSt.mL (h : RdSt R n H0 L P xs ys ls ps H) : ¬ R.M L := R.fresh h.j0 h.l0
theorem RdSt.mP (h : RdSt R n H0 L P xs ys ls ps H) : ¬ R.M P := R.fresh h.j0 h.p0
theorem old0 (h : pres R.M H0 H) (j0 : R.J n H0) (j : R.J n H) (e : H T = none) : H0 T = none := old_none (R := R) (n := n) ⟨j, h⟩ e
theorem RdSt.step (h : RdSt R n H0 L P xs ys ls ps H) (e : R.ok n H H') : RdSt R n H0 L P xs ys ls ps H' := by
  have k : keepT H0 H H' := fun a vs h0 ha => e.2 a _ (R.fresh h.j0 h0) ha
  exact ⟨h.j0, e.1, h.pr.trans e.2, h.ne, h.l0, h.p0, e.2 _ _ h.mL h.hL, e.2 _ _ h.mP h.hP, Paired_imp (fun _ _ z => k.lf z) h.fl, Paired_imp (fun _ _ z => k.pr1 z) h.fp⟩
theorem pres_upd0 {l : Addr} {o : HO} (h : pres R.M H0 H) (hl : H0 l = none) : pres R.M H0 (upd H l o) := fun a ob ma ha => by
  have ne : a ≠ l := fun z => by rw [z, hl] at ha; cases ha
  rw [upd_ne ne]
  exact h a ob ma ha
theorem RdSt.pair (h : RdSt R n H0 L P xs ys ls ps H) (hT : H T = none) (q : Pr) : RdSt R n H0 L P xs (ys ++ [.ref T]) ls (ps ++ [q]) (upd (upd H T (.tup [sv q.1, sv q.2])) P (.lst (ys ++ [.ref T]))) := by
  have t0 := old0 h.pr h.j0 h.J hT
  have neT : T ≠ P := fun z => by rw [z, h.hP] at hT; cases hT
  have neL : L ≠ T := fun z => by rw [← z, h.hL] at hT; cases hT
  have k : keepT H0 H (upd (upd H T (.tup [sv q.1, sv q.2])) P (.lst (ys ++ [.ref T]))) := fun a vs h0 ha => by
    have n1 : a ≠ P := fun z => by rw [z, h.hP] at ha; cases ha
    have n2 : a ≠ T := fun z => by rw [z, hT] at ha; cases ha
    rw [upd_ne n1, upd_ne n2]
    exact ha
  refine ⟨h.j0, R.put (R.put h.J (R.fresh h.j0 t0)) h.mP, pres_upd0 (pres_upd0 h.pr t0) h.p0, h.ne, h.l0, h.p0, ?_, upd_same, Paired_imp (fun _ _ z => k.lf z) h.fl, Paired.snoc (Paired_imp (fun _ _ z => k.pr1 z) h.fp) ⟨T, rfl, t0, ?_⟩⟩
  · rw [upd_ne h.ne, upd_ne neL]
    exact h.hL
  · rw [upd_ne neT]
    exact upd_same
theorem RdSt.leaf (h : RdSt R n H0 L P xs ys ls ps H) (hT : H T = none) : RdSt R n H0 L P (xs ++ [.ref T]) ys (ls ++ [ps]) ps (upd (upd H T (.tup ys)) L (.lst (xs ++ [.ref T]))) := by
  have t0 := old0 h.pr h.j0 h.J hT
  have neT : T ≠ L := fun z => by rw [z, h.hL] at hT; cases hT
  have neP : P ≠ T := fun z => by rw [← z, h.hP] at hT; cases hT
  have k : keepT H0 H (upd (upd H T (.tup ys)) L (.lst (xs ++ [.ref T]))) := fun a vs h0 ha => by
    have n1 : a ≠ L := fun z => by rw [z, h.hL] at ha; cases ha
    have n2 : a ≠ T := fun z => by rw [z, hT] at ha; cases ha
    rw [upd_ne n1, upd_ne n2]
    exact ha
  refine ⟨h.j0, R.put (R.put h.J (R.fresh h.j0 t0)) h.mL, pres_upd0 (pres_upd0 h.pr t0) h.l0, h.ne, h.l0, h.p0, upd_same, ?_, Paired.snoc (Paired_imp (fun _ _ z => k.lf z) h.fl) ⟨T, ys, rfl, t0, ?_, Paired_imp (fun _ _ z => k.pr1 z) h.fp⟩, Paired_imp (fun _ _ z => k.pr1 z) h.fp⟩
  · rw [upd_ne (Ne.symm h.ne), upd_ne neP]
    exact h.hP
  · rw [upd_ne neT]
    exact upd_same
theorem RdSt.fresh (h : RdSt R n H0 L P xs ys ls ps H) (hT : H T = none) : RdSt R n H0 L T xs [] ls [] (upd H T (.lst [])) := by
  have t0 := old0 h.pr h.j0 h.J hT
  have neT : L ≠ T := fun z => by rw [← z, h.hL] at hT; cases hT
  have k : keepT H0 H (upd H T (.lst [])) := fun a vs h0 ha => by
    have n2 : a ≠ T := fun z => by rw [z, hT] at ha; cases ha
    rw [upd_ne n2]
    exact ha
  refine ⟨h.j0, R.put h.J (R.fresh h.j0 t0), pres_upd0 h.pr t0, neT, h.l0, t0, ?_, upd_same, Paired_imp (fun _ _ z => k.lf z) h.fl, .nil⟩
  rw [upd_ne neT]
  exact h.hL
/-! ### comprehensions over items by their properties -/
theorem ev_lcQ {α : Type} {wi : TI} {vs : List Nat} {as : List α} {pi : α → SP} {j : Nat} (gv : α → V) (d : α) (hi : ItP R n n wi σ H (as.map pi)) (hz : as.length ≤ 50000) (hw : ∀ x, wipe ((wipe σ vs).set j (some x)) vs = wipe σ vs)
    (hs : ∀ R' H' a x, Ext R H R' H' → a ∈ as → (pi a).P R'.M x H' → EvP R' n n te ((wipe σ vs).set j (some x)) H' (is (gv a))) : EvP R n n (tLc wi (gName j) tYes te vs) σ H (lstG (· = as.map gv)) := by
  refine (ev_lc (t := tYes) (te := te) (g := gName j) (vs := vs) (f := fun _ => true) (pe := fun i => is (gv (as.getD i d))) (c := fun _ => n) hi (by rw [List.length_map]; exact hz) fun R' H' i y x ex hy hx => ?_).imp fun v H1 _ hv => ?_
  · rw [List.getElem?_map] at hy
    obtain ⟨w, hw1, rfl⟩ := Option.map_eq_some_iff.mp hy
    have eg : as.getD i d = w := getD_of hw1
    refine ⟨_, fun Q q => q, hw x, n, fun H1 e Q k => k true H1 (R'.refl e) rfl, fun _ => ?_, fun z => nomatch z⟩
    show EvP R' n n te _ H' (is (gv (as.getD i d)))
    rw [eg]
    exact hs R' H' w x ex (List.mem_of_getElem? hw1) hx
  · obtain ⟨l, xs, rfl, h, g⟩ := hv
    refine ⟨l, xs, rfl, h, ?_⟩
    have e := paired_map (gv := fun i => gv (as.getD i d)) g
    rw [List.length_map, List.filter_eq_self.mpr (fun _ _ => rfl)] at e
    rw [e]
    have e2 := congrArg (List.map gv) (range_getD d as)
    rw [List.map_map] at e2
    exact e2
theorem inV_sv (w : Codes) : ∀ (ws : List Codes), inV (sv w) (ws.map sv) = decide (w ∈ ws)
  | [] => by rw [decide_eq_false (by simp)]; rfl
  | x :: ws => by
    have ih := inV_sv w ws
    unfold inV at ih ⊢
    rw [List.map_cons, List.any_cons, ih]
    have e : eqV (sv x) (sv w) = decide (x = w) := by
      show (SX.S x == SX.S w) = _
      by_cases h : x = w
      · rw [h, decide_eq_true rfl]
        exact beq_self_eq_true _
      · rw [decide_eq_false h]
        exact beq_eq_false_iff_ne.mpr fun z => h (SX.S_inj z)
    rw [e]
    by_cases h : x = w
    · rw [decide_eq_true h, decide_eq_true (show w ∈ x :: ws by rw [h]; exact List.mem_cons_self ..)]
      rfl
    · rw [decide_eq_false h, Bool.false_or]
      exact decide_eq_decide.mpr ⟨fun z => List.mem_cons_of_mem _ z, fun z => (List.mem_cons.mp z).resolve_left fun e => h e.symm⟩
theorem ev_inT {ws : List Codes} {w : Codes} (ha : EvP R n m ta σ H (is (sv w))) (hb : EvP R m k tb σ H (lstG (· = ws.map sv))) : EvP R n k (tOp (rInU K) ta tb) σ H (is (.bl (decide (w ∈ ws)))) :=
  ev_op ha hb fun v y H1 e hv hy _ j Q f => by
    have hv : v = sv w := hv
    subst hv
    obtain ⟨l, xs, rfl, h, rfl⟩ := hy
    refine .inr (.inl ⟨l, _, rfl, .inl h.sq, rfl, ?_, ?_⟩)
    · rw [List.all_map, List.all_eq_true]
      intro x _
      rfl
    · show Q (.bl (inV (sv w) (ws.map sv))) H1
      rw [inV_sv]
      exact f _ H1 (R.self j) rfl
/-- a list that is empty == [] -/
theorem ev_eqE {l : Addr} (ha : EvP R n m ta σ H (is (.ref l))) (hl : H l = some (.lst [])) (hm : ¬ R.M l) (hb : EvP R m k tb σ H (lstG (· = []))) : EvP R n k (tOp (rEqU K) ta tb) σ H (is (.bl true)) :=
  ev_op ha hb fun v y H1 e hv hy _ j Q f => by
    have hv : v = .ref l := hv
    subst hv
    obtain ⟨l2, xs, rfl, h, rfl⟩ := hy
    have h1 := e.2 l _ hm hl
    exact .inr ⟨_, _, .lst (.inl (.inl h1)) .nil, .lst h.sq .nil, by rfl, by rfl, f _ H1 (R.self j) (by show V.bl _ = V.bl true; rfl)⟩
theorem ev_lenP {α : Type} {pe : α → SP} {qs : List α} (ha : EvP R n m te σ H (tupP K pe qs)) : EvP R n m (tCB (rLenU K) (tCons te tNil)) σ H (is (.int qs.length)) := ev_len1 ha fun v H1 e hv => by
  obtain ⟨l, xs, rfl, h, g⟩ := hv
  exact .inr ⟨xs, h.sq, g.length.symm⟩
theorem ev_tupOf {α : Type} {pe : α → SP} {qs : List α} (ha : EvP R n m te σ H (lstP pe qs)) : EvP R n m (tCB (rTupU K) (tCons te tNil)) σ H (tupP K pe qs) := ev_cb (ea_cons ha ea_nil) fun vs H1 e hv => by
  obtain ⟨v, rfl, l, xs, rfl, h, g⟩ := one hv
  exact fun _ j Q f => ⟨l, xs, rfl, .inl ⟨h.sq, fun T hT => f _ _ (R.new j hT) ⟨T, xs, rfl, .of upd_same (R.fresh j hT), Paired_imp (fun _ _ z => (pe _).st (R.new j hT).2 z) g⟩⟩⟩
end
end My
namespace My
open PySem PySem.Spec PyProof.Rows L2
/-! ### calls by keywords alone -/
def perm {α : Type} (js : List Nat) (l : List α) : List α := js.filterMap fun j => l[j]?
theorem paired_get {α β : Type} {F : α → β → Prop} : ∀ {xs : List α} {ys : List β} (_ : Paired F xs ys) (i : Nat), (∃ x y, xs[i]? = some x ∧ ys[i]? = some y ∧ F x y) ∨ (xs[i]? = none ∧ ys[i]? = none)
  | _, _, .nil, _ => .inr ⟨rfl, rfl⟩
  | _, _, .cons a _, 0 => .inl ⟨_, _, rfl, rfl, a⟩
  | _, _, .cons _ b, i + 1 => paired_get b i
theorem perm_rel {α β : Type} {F : α → β → Prop} {vs : List α} {us : List β} (r : Paired F vs us) : ∀ js : List Nat, Paired F (perm js vs) (perm js us)
  | [] => .nil
  | j :: js => by
    have ih := perm_rel r js
    unfold perm at ih ⊢
    rcases paired_get r j with ⟨x, y, h1, h2, h3⟩ | ⟨h1, h2⟩
    · rw [List.filterMap_cons_some h1, List.filterMap_cons_some h2]
      exact .cons h3 ih
    · rw [List.filterMap_cons_none h1, List.filterMap_cons_none h2]
      exact ih
def tCallK0 (m : Nat) (sp : Sp) (js : List Nat) (tk : TA) : TE := fun σ H Q => tk σ H fun zs H2 => zs.length = m ∧ sp (perm js zs) H2 Q E0
theorem pe_callKw0 {X : Cx} {k : Nat} {x : Str} {ps ks : List Str} {sp : Sp} {st : Stmt} {kws : List Keyword} {tk : TA} {p pos : Pos} (js : List Nat) (C : Cal X.prog X.w X.K X.mg X.base k x ps sp) (D : Df X.K X.mg x st) (hr : Room k X.A) (hg : Gl X x)
    (hb : ∀ (kV doc pm : Value) (an : Option Addr) (cdv ct : Value) (ws : List Value), ws.length = ks.length → bindArgs (PySem.W.fnOf x x (defArgs st) (defBody st) (defScope st) .none kV doc pm an cdv ct) ⟨[], ks.zip ws⟩ = pure (ps.zip (perm js ws)))
    (hkw : PK X kws tk) (hall : (backToKw pos (keywordEach kws X.env)).all (·.1.isSome) = true := by rfl) (hks : (backToKw pos (keywordEach kws X.env)).filterMap (·.1) = ks := by rfl)
    (hdb : (x == ("__debug__" : Str)) = false := by decide) (hpl : ((backTo pos (starEach [] X.env)).any (·.1) || (backToKw pos (keywordEach kws X.env)).any (·.1.isNone)) = false := by rfl) :
    PE X (.Call (.Name x p) [] kws pos) (tCallK0 ks.length sp js tk) := by
  obtain ⟨f, fd, F, hm, hk, _, oc, od, osl, lk⟩ := C.ex
  obtain ⟨f', fd', FD, hm'⟩ := D.ex
  rw [hm] at hm'
  cases hm'
  obtain ⟨oc', od', dV, kV, doc, pm, an, cdv, ct, osl', e, lk', hcd, hD, hK⟩ := FD.ex
  rw [lk] at lk'
  cases lk'
  have hb2 : KBn X.K fd ps 0 ks (fun us ws => perm js (us ++ ws)) (fun vs zs => perm js (vs ++ zs)) := by
    rcases hD with ⟨_, rfl⟩ | ⟨e, _⟩
    · refine ⟨fun s us ws _ h1 h2 => ?_, fun r1 r2 => perm_rel (r1.append r2) js⟩
      cases us with
      | nil =>
        subst e
        exact .of_eq (hb kV doc pm an cdv ct ws h2)
      | cons a b => cases h1
    · exact absurd rfl e
  refine ⟨fun pins s σ H Q I h => ?_⟩
  refine wpAny_Call_Name_kw (ld_glob I hg hm ?_ hdb)
  refine PySem.W.callWith_KW0 (h₀ := X.base) I.ok.mod.kin hk hall (thn (hkw.run pos pins s σ H _ I h) fun ws s2 ⟨zs, H2, I2, rz, l2, q2⟩ => ⟨I2.kIn, ?_⟩) hpl
  rw [hks]
  exact run_fnN (us := []) (vs := []) F hr hb2 pass0 I2 .nil rz rfl l2 q2
section
variable {R : Rel} {n m k : Nat} {K : PySem.W.Frag} {σ : L2.St} {H H' : Hp} {ta tb tc te : TE} {x y z v : V} {p q s : SP} {D : Ends} {tz : TS}
theorem ev_callKw {sp : Sp} {mk : Nat} {js : List Nat} {tk : TA} {ps : List SP} (h : EvA R n m tk σ H ps) (hl : ps.length = mk) (hs : ∀ vs H1, R.ok m H H1 → Paired (fun v (p : SP) => p.P R.M v H1) vs ps → ∀ Q : VK, (∀ v H2, R.ok k H1 H2 → s.P R.M v H2 → Q v H2) → sp (perm js vs) H1 Q E0) : EvP R n k (tCallK0 mk sp js tk) σ H s := fun H1 e Q f =>
  h H1 e _ fun vs H2 e2 hv => ⟨hv.length.trans hl, hs vs H2 (R.trans e e2) hv Q fun v H3 e3 h3 => f v H3 (R.trans e2 e3) h3⟩
/-- a new list by + -/
theorem ev_catN {F G : List V → Prop} (ha : EvP R n m ta σ H (lstG F)) (hb : EvP R m k tb σ H (lstG G)) (hz : ∀ xs ys, F xs → G ys → xs.length + ys.length ≤ 100000) : EvN R n k (tOp (rAddU K) ta tb) σ H (fun zs => ∃ xs ys, F xs ∧ G ys ∧ zs = xs ++ ys) := fun H1 e Q f => ha H1 e _ fun v H2 e2 hv => hb H2 (R.trans e e2) _ fun w H3 e3 hw => by
  obtain ⟨l, xs, rfl, h1, g1⟩ := (lstG F).st e3.2 hv
  obtain ⟨l2, ys, rfl, h2, g2⟩ := hw
  exact .inr (.inr (.inl ⟨l, l2, xs, ys, rfl, rfl, h1.1, h2.1, Evl.sz_of (hz xs ys g1 g2), fun p hp => f p _ _ (R.trans e2 (R.trans e3 (R.new e3.1 hp))) (old_none (R.trans e2 e3) hp) ⟨upd_same, R.fresh e3.1 hp⟩ ⟨xs, ys, g1, g2, rfl⟩⟩))
end
end My
namespace My
open PySem PySem.Spec PyProof.Rows L2
def topS (i : Nat) : Stmt := PySem.Challenge.pw_dirservice_k02_values_judged.main.body.getD i (.Pass ⟨0, 0, 0, 0⟩)
abbrev s_is_word : Stmt := topS 8
abbrev s_is_value : Stmt := topS 9
abbrev s_plain_text : Stmt := topS 10
abbrev s_is_plain : Stmt := topS 11
abbrev s_escaped : Stmt := topS 12
abbrev s_value_at : Stmt := topS 13
abbrev s_read_name : Stmt := topS 14
abbrev s_is_integer_text : Stmt := topS 21
abbrev s_is_valid : Stmt := topS 22
abbrev s_has_order : Stmt := topS 23
abbrev s_l_source : Stmt := topS 25
abbrev s_l_next : Stmt := topS 26
abbrev s_l_pick : Stmt := topS 27
abbrev s_l_rounds : Stmt := topS 28
abbrev s_l_is_word : Stmt := topS 29
abbrev s_l_is_text : Stmt := topS 30
abbrev s_l_split : Stmt := topS 31
abbrev s_l_bare : Stmt := topS 32
abbrev s_l_leaf : Stmt := topS 33
abbrev s_l_name : Stmt := topS 34
abbrev s_l_escaped : Stmt := topS 35
abbrev s_l_leaf_line : Stmt := topS 36
abbrev s_l_line : Stmt := topS 37
abbrev s_l_string : Stmt := topS 38
abbrev s_l_pairs : Stmt := topS 39
abbrev s_l_menu : Stmt := topS 40
abbrev s_l_digits : Stmt := topS 41
abbrev s_l_long : Stmt := topS 42
abbrev s_l_name_line : Stmt := topS 43
abbrev s_l_is_integer : Stmt := topS 44
abbrev s_l_is_valid : Stmt := topS 45
abbrev s_law : Stmt := topS 46
structure Tx (K : PySem.W.Frag) (mg : Str → Option Value) : Prop where
  d_is_word : Df K mg "is_word" s_is_word
  d_is_value : Df K mg "is_value" s_is_value
  d_plain_text : Df K mg "plain_text" s_plain_text
  d_is_plain : Df K mg "is_plain" s_is_plain
  d_escaped : Df K mg "escaped" s_escaped
  d_value_at : Df K mg "value_at" s_value_at
  d_read_name : Df K mg "read_name" s_read_name
  d_is_integer_text : Df K mg "is_integer_text" s_is_integer_text
  d_is_valid : Df K mg "is_valid" s_is_valid
  d_has_order : Df K mg "has_order" s_has_order
  d_l_source : Df K mg "_law_source" s_l_source
  d_l_next : Df K mg "_law_next" s_l_next
  d_l_pick : Df K mg "_law_pick" s_l_pick
  d_l_rounds : Df K mg "_law_rounds" s_l_rounds
  d_l_is_word : Df K mg "_law_is_word" s_l_is_word
  d_l_is_text : Df K mg "_law_is_text" s_l_is_text
  d_l_split : Df K mg "_law_split" s_l_split
  d_l_bare : Df K mg "_law_bare" s_l_bare
  d_l_leaf : Df K mg "_law_leaf" s_l_leaf
  d_l_name : Df K mg "_law_name" s_l_name
  d_l_escaped : Df K mg "_law_escaped" s_l_escaped
  d_l_leaf_line : Df K mg "_law_leaf_line" s_l_leaf_line
  d_l_line : Df K mg "_law_line" s_l_line
  d_l_string : Df K mg "_law_string" s_l_string
  d_l_pairs : Df K mg "_law_pairs" s_l_pairs
  d_l_menu : Df K mg "_law_menu" s_l_menu
  d_l_digits : Df K mg "_law_digits" s_l_digits
  d_l_long : Df K mg "_law_long" s_l_long
  d_l_name_line : Df K mg "_law_name_line" s_l_name_line
  d_l_is_integer : Df K mg "_law_is_integer" s_l_is_integer
  d_l_is_valid : Df K mg "_law_is_valid" s_l_is_valid
  d_law : Df K mg "law" s_law
  b_len : mg "len" = none
  b_isinstance : mg "isinstance" = none
  b_str : mg "str" = none
  b_all : mg "all" = none
  b_enumerate : mg "enumerate" = none
  b_tuple : mg "tuple" = none
  b_int : mg "int" = none
  b_sum : mg "sum" = none
  b_list : mg "list" = none
  b_range : mg "range" = none
  b_max : mg "max" = none
  b_min : mg "min" = none
  b_bool : mg "bool" = none
  g_MAX_WORD : ∃ t, mg "MAX_WORD" = some (.int 12 t)
  g_LETTERS : ∃ t, mg "LETTERS" = some (.str "abcdefghijklmnopqrstuvwxyz" t)
  g_MAX_TEXT : ∃ t, mg "MAX_TEXT" = some (.int 60 t)
  g_ESCAPED : ∃ t, mg "ESCAPED" = some (.str ",+=\\" t)
  g_BACKSLASH : ∃ t, mg "BACKSLASH" = some (.str "\\" t)
  g_MAX_PAIRS : ∃ t, mg "MAX_PAIRS" = some (.int 4 t)
  g_MAX_LEAVES : ∃ t, mg "MAX_LEAVES" = some (.int 12 t)
  g_DIGITS : ∃ t, mg "DIGITS" = some (.str "0123456789" t)
  g_MAX_DIGITS : ∃ t, mg "MAX_DIGITS" = some (.int 30 t)
  g_TRUTHS : mg "TRUTHS" = some (.ref (He.ga K "TRUTHS"))
  t_TRUTHS : ∀ H, SqT K H (He.ga K "TRUTHS") [V.str "TRUE", V.str "FALSE"]
  g_MAX_VALUE : ∃ t, mg "MAX_VALUE" = some (.int 60 t)
  g_ORDERED : mg "ORDERED" = some (.ref (He.ga K "ORDERED"))
  t_ORDERED : ∀ H, SqT K H (He.ga K "ORDERED") [V.str "text", V.str "exact", V.str "integer"]
end My
namespace My
open PySem PySem.Spec PyProof.Rows L2
-- plain
/-! plain texts: small letters, words with one space between -/
def asc (l : Codes) : Prop := l.all (· < 128) = true
def lowL (l : Codes) : Codes := l.map PyProof.Rows.lo1
def wds (l : Codes) : List Codes := (TL.spl [32] 0 [] l).filter fun x => !decide (x = [])
def plainL (l : Codes) : Codes := TL.joinL [32] (wds (lowL l))
/-- the words, the rest acc ahead -/
def wdA (acc l : Codes) : List Codes := (TL.spl [32] 0 acc l).filter fun x => !decide (x = [])
def ne1 (acc : Codes) : List Codes := if acc = [] then [] else [acc]
theorem wdA_nil (acc : Codes) : wdA acc [] = ne1 acc := by
  unfold wdA ne1
  rw [TL.spl_nil]
  by_cases h : acc = []
  · rw [if_pos h, h]; rfl
  · rw [if_neg h, List.filter_cons, if_pos (by rw [decide_eq_false h]; rfl)]; rfl
theorem wdA_sp (acc r : Codes) : wdA acc (32 :: r) = ne1 acc ++ wdA [] r := by
  unfold wdA ne1
  rw [TL.spl_hit (by rfl)]
  show (acc :: TL.spl [32] 0 [] r).filter _ = _
  by_cases h : acc = []
  · rw [if_pos h, h]; rfl
  · rw [if_neg h, List.filter_cons, if_pos (by rw [decide_eq_false h]; rfl)]; rfl
theorem wdA_ch {c : Nat} (acc r : Codes) (h : c ≠ 32) : wdA acc (c :: r) = wdA (acc ++ [c]) r := by
  unfold wdA
  rw [TL.spl_miss (TL.pre_of_head _ _ h)]
theorem joinL_cons2 (s x y : Codes) (r : List Codes) : TL.joinL s (x :: y :: r) = x ++ s ++ TL.joinL s (y :: r) := by
  first
    | rfl
    | simp [TL.joinL]
theorem joinL_one (s x : Codes) : TL.joinL s [x] = x := by
  first
    | rfl
    | simp [TL.joinL]
theorem joinL_nil (s : Codes) : TL.joinL s [] = [] := by
  first
    | rfl
    | simp [TL.joinL]
theorem joinL_snoc (s y : Codes) : ∀ (ws : List Codes), ws ≠ [] → TL.joinL s (ws ++ [y]) = TL.joinL s ws ++ s ++ y
  | [], h => absurd rfl h
  | [x], _ => by
    show TL.joinL s (x :: y :: []) = _
    rw [joinL_cons2, joinL_one, joinL_one]
  | x :: z :: r, _ => by
    show TL.joinL s (x :: z :: (r ++ [y])) = _
    have ih := joinL_snoc s y (z :: r) (List.cons_ne_nil _ _)
    rw [joinL_cons2, joinL_cons2]
    rw [show z :: (r ++ [y]) = (z :: r) ++ [y] from rfl, ih]
    simp only [List.append_assoc]
/-- the law's own way: sign by sign -/
def lowStep (f : Codes) (d : Nat) : Codes := if d ≠ 32 ∨ (f ≠ [] ∧ f.getLast? ≠ some 32) then f ++ [d] else f
def lowEnd (f : Codes) : Codes := if f.getLast? = some 32 then f.dropLast else f
/-- the text so far, by its words -/
def rep (ws : List Codes) (acc : Codes) : Codes := if acc = [] then (if ws = [] then [] else TL.joinL [32] ws ++ [32]) else TL.joinL [32] (ws ++ [acc])
theorem rep_last {ws : List Codes} {acc : Codes} (h : acc ≠ []) : ∃ p, rep ws acc = p ++ acc := by
  unfold rep
  rw [if_neg h]
  by_cases hw : ws = []
  · rw [hw]
    exact ⟨[], by rw [List.nil_append, joinL_one]; rfl⟩
  · rw [joinL_snoc _ _ _ hw]
    exact ⟨_, rfl⟩
theorem getLast_app {p a : Codes} (h : a ≠ []) : (p ++ a).getLast? = a.getLast? := by
  rw [List.getLast?_append]
  cases e : a.getLast? with
  | none => exact absurd (List.getLast?_eq_none_iff.mp e) h
  | some x => rfl
theorem low_fold : ∀ (l : Codes) (ws : List Codes) (acc : Codes), (∀ c ∈ acc, c ≠ 32) → lowEnd (l.foldl lowStep (rep ws acc)) = TL.joinL [32] (ws ++ wdA acc l)
  | [], ws, acc, ha => by
    rw [List.foldl_nil, wdA_nil]
    unfold lowEnd ne1
    by_cases h : acc = []
    · rw [if_pos h, h]
      unfold rep
      rw [if_pos rfl, List.append_nil]
      by_cases hw : ws = []
      · rw [if_pos hw, hw]; rfl
      · rw [if_neg hw, if_pos (by simp), List.dropLast_concat]
    · rw [if_neg h]
      obtain ⟨p, e⟩ := rep_last (ws := ws) h
      have : (rep ws acc).getLast? ≠ some 32 := by
        rw [e, getLast_app h]
        intro z
        exact ha 32 (List.mem_of_getLast? z) rfl
      rw [if_neg this]
      unfold rep
      rw [if_neg h]
  | c :: r, ws, acc, ha => by
    rw [List.foldl_cons]
    by_cases hc : c = 32
    · subst hc
      rw [wdA_sp]
      by_cases h : acc = []
      · subst h
        have : lowStep (rep ws []) 32 = rep ws [] := by
          unfold lowStep
          rw [if_neg]
          intro z
          rcases z with z | ⟨z1, z2⟩
          · exact z rfl
          · unfold rep at z1 z2
            rw [if_pos rfl] at z1 z2
            by_cases hw : ws = []
            · rw [if_pos hw] at z1; exact z1 rfl
            · rw [if_neg hw] at z2; exact z2 (by simp)
        rw [this, low_fold r ws [] (by simp)]
        rfl
      · have : lowStep (rep ws acc) 32 = rep (ws ++ [acc]) [] := by
          obtain ⟨p, e⟩ := rep_last (ws := ws) h
          have h2 : (rep ws acc).getLast? ≠ some 32 := by
            rw [e, getLast_app h]
            intro z
            exact ha 32 (List.mem_of_getLast? z) rfl
          have h3 : rep ws acc ≠ [] := by
            rw [e]
            intro z
            exact h (List.append_eq_nil_iff.mp z).2
          unfold lowStep
          rw [if_pos (.inr ⟨h3, h2⟩)]
          unfold rep
          rw [if_neg h, if_pos rfl, if_neg (by simp)]
        rw [this, low_fold r (ws ++ [acc]) [] (by simp)]
        unfold ne1
        rw [if_neg h, List.append_assoc]
    · rw [wdA_ch acc r hc]
      have : lowStep (rep ws acc) c = rep ws (acc ++ [c]) := by
        unfold lowStep
        rw [if_pos (.inl hc)]
        unfold rep
        rw [if_neg (by simp : acc ++ [c] ≠ [])]
        by_cases h : acc = []
        · subst h
          rw [if_pos rfl]
          by_cases hw : ws = []
          · rw [if_pos hw, hw]; rfl
          · rw [if_neg hw, List.nil_append, joinL_snoc _ _ _ hw]
        · rw [if_neg h]
          by_cases hw : ws = []
          · rw [hw, List.nil_append, List.nil_append, joinL_one, joinL_one]
          · rw [joinL_snoc _ _ _ hw, joinL_snoc _ _ _ hw, List.append_assoc]
      rw [this]
      exact low_fold r ws (acc ++ [c]) (fun x hx => by
        rcases List.mem_append.mp hx with hx | hx
        · exact ha x hx
        · rw [List.mem_singleton.mp hx]; exact hc)
theorem low_plain (l : Codes) : lowEnd ((lowL l).foldl lowStep []) = plainL l := low_fold (lowL l) [] [] (by simp)
theorem lo1_asc : ∀ c, c < 128 → PyProof.Rows.lo1 c < 128 := by decide
theorem lowL_len (l : Codes) : (lowL l).length = l.length := List.length_map ..
theorem lowStep_len (f : Codes) (d : Nat) : (lowStep f d).length ≤ f.length + 1 := by
  unfold lowStep
  split
  · simp
  · omega
theorem lowFold_len : ∀ (l f : Codes), (l.foldl lowStep f).length ≤ f.length + l.length
  | [], f => Nat.le_refl _
  | c :: r, f => by
    rw [List.foldl_cons, List.length_cons]
    have := lowFold_len r (lowStep f c)
    have := lowStep_len f c
    omega
theorem plainL_len (l : Codes) : (plainL l).length ≤ l.length := by
  rw [← low_plain]
  have h := lowFold_len (lowL l) []
  rw [lowL_len] at h
  unfold lowEnd
  have e : ([] : Codes).length = 0 := rfl
  split
  · rw [List.length_dropLast]
    omega
  · omega
theorem wds_mem {x : Codes} {l : Codes} (h : x ∈ wds l) : x ≠ [] := by
  have := (List.mem_filter.mp h).2
  intro e
  rw [e] at this
  cases this

end My
namespace My
open PySem PySem.Spec PyProof.Rows L2
section
variable {P : Program} {w : World} {K : PySem.W.Frag} {mg : Str → Option Value} {base : Heap}
abbrev N_plain_text : List Str := ["value", "part"]
theorem sc_plain_text : FnScope N_plain_text ["value"] (defScope s_plain_text) := ⟨rfl, rfl, rfl, by decide +kernel, rfl, by decide +kernel, by decide +kernel⟩
-- slots: 0 value, 1 part
def sp_plain_text : Sp := pureSp (fun (l : Codes) _ vs _ => vs = [sv l] ∧ asc l ∧ l.length ≤ 1000) (fun l => is (sv (plainL l)))
theorem wds_sum (l : Codes) : ((wds l).map (·.length)).sum + (wds l).length ≤ l.length + l.length + 2 := by
  unfold wds
  have h : ∀ (r acc : Codes), ((wdA acc r).map (·.length)).sum + (wdA acc r).length ≤ (acc.length + r.length) + (1 + r.length) := by
    intro r
    induction r with
    | nil =>
      intro acc
      rw [wdA_nil]
      unfold ne1
      split
      · simp
      · simp
    | cons c r ih =>
      intro acc
      by_cases hc : c = 32
      · subst hc
        rw [wdA_sp]
        have h1 := ih []
        have h2 : ((ne1 acc).map (·.length)).sum + (ne1 acc).length ≤ acc.length + 1 := by
          unfold ne1
          split
          · simp
          · simp
        rw [List.map_append, List.sum_append, List.length_append]
        simp only [List.length_nil, List.length_cons] at h1 ⊢
        omega
      · rw [wdA_ch _ _ hc]
        have h1 := ih (acc ++ [c])
        simp only [List.length_append, List.length_singleton, List.length_cons, List.length_nil] at h1 ⊢
        omega
  have := h l []
  unfold wdA at this
  simp only [List.length_nil] at this
  omega
theorem filter_sv (ls : List Codes) : ((ls.map sv).filter fun v => !decide (v = sv [])) = (ls.filter fun x => !decide (x = [])).map sv := by
  rw [List.filter_map]
  congr 1
  refine List.filter_congr fun x _ => ?_
  show (!decide (sv x = sv [])) = _
  rw [dec_sv]
theorem c_plain_text (T : Tx K mg) : Cal P w K mg base 1 "plain_text" ["value"] (sp_plain_text) := by
  refine T.d_plain_text.cal sc_plain_text (fun vs H Q E h => ?_) (fun _ _ _ _ _ _ us hl => match us, hl with | [_], _ => rfl) (fun f cdv A outer s H vs Q E hr h => ?_)
  · obtain ⟨R, n, l, _, ⟨rfl, _⟩, _⟩ := h
    rfl
  · obtain ⟨R, n, l, hj, ⟨rfl, ha, hl⟩, q⟩ := h
    refine ⟨_, (pss_one (ps_ret (pe_bmK (K := K) PySem.F.plainAttrs_str PySem.F.slot_str_join PySem.F.type_str_join (mt_joinA (K := K)) pe_str (pa_cons (pe_lc (own := [("part", 1)]) (by rfl) sc_plain_text.nd (pi_any (K := K) (pe_bmK (K := K) PySem.F.plainAttrs_str PySem.F.slot_str_split PySem.F.type_str_split mt_splitA (pe_bm0K (K := K) PySem.F.plainAttrs_str PySem.F.slot_str_lower PySem.F.type_str_lower mt_lowerA (pv 0)) (pa_cons pe_str pa_nil))) (blkOk_by (own := [("part", 1)]) (N := N_plain_text) (sc := defScope s_plain_text) (by decide +kernel)) (fun _ _ _ _ _ => (pg_name (i := 1) sc_plain_text.nd rfl (by first | exact Or.inl rfl | exact Or.inr rfl))) (fun _ _ _ _ _ => (pts_one (pt_cmpR (cm_NotEq (K := K) hr.units) (pv 1) pe_str (nomark _)))) (fun _ _ _ _ _ => (pv 1))) pa_nil)))), ?_⟩
    refine StF.run (R := R) (n := n) ?_ hj
    refine s_ret (m := n) (p := is (sv (plainL l))) ?_ q
    have hsp := ev_split (K := K) (R := R) (n := n) (σ := start N_plain_text [sv l]) (H := H) (ev_lower (K := K) (ev_var (i := 0) rfl) ha (by omega)) (ev_str (l := [32]) (c := " ") (by decide +kernel)) (by simp) (by decide) (by rw [List.length_map]; omega)
    refine ev_joinV (ls := wds (lowL l)) (ev_str (by decide +kernel)) ?_ ?_
    · have h2 := ev_lcV (t := tTest (tOp (rNeU K) (tVar 1) (tC (.str "")))) (te := tVar 1) (vs := [1]) (j := 1) (fun v => !decide (v = sv [])) id (it_lstV (K := K) hsp) (by
        rw [List.length_map]
        have : ∀ (r acc : Codes), (TL.spl [32] 0 acc r).length ≤ r.length + 1 := by
          intro r
          induction r with
          | nil => intro acc; rw [TL.spl_nil]; simp
          | cons c r ih =>
            intro acc
            by_cases hc : TL.pre [32] (c :: r) = true
            · rw [TL.spl_hit hc]
              have := ih []
              simp only [List.length_cons] at this ⊢
              show (TL.spl [32] 0 [] r).length + 1 ≤ _
              omega
            · rw [TL.spl_miss (Bool.eq_false_iff.mpr hc)]
              have := ih (acc ++ [c])
              simp only [List.length_cons] at this ⊢
              omega
        have h3 := this (l.map PyProof.Rows.lo1) []
        rw [List.length_map] at h3
        omega) (fun x => rfl) (fun R' H' w ex hw => by
          obtain ⟨c, hc, rfl⟩ := List.mem_map.mp hw
          exact ⟨et_is (et_test (ev_op2 (ev_var (v := sv c) rfl) (ev_str (l := []) (by decide +kernel)) (fun H1 _ => rv_neS))) (by rw [← dec_sv]), fun _ => ev_var rfl⟩)
      rw [List.map_id, filter_sv] at h2
      exact h2
    · have h3 := wds_sum (lowL l)
      rw [lowL_len] at h3
      show _ + _ * 1 ≤ _
      omega

end
end My
namespace My
open PySem PySem.Spec PyProof.Rows L2
section
variable {P : Program} {w : World} {K : PySem.W.Frag} {mg : Str → Option Value} {base : Heap}
/-! ### sources of numbers -/
/-- at a stands a source, n draws may still come -/
def srcJ (a : Addr) (n : Nat) (H : Hp) : Prop := ∃ c k d : Int, H a = some (.lst [.int c, .int k, .int d]) ∧ 0 ≤ k ∧ k + (n : Int) ≤ 1099511627776
structure HasSrc (R : Rel) (a : Addr) : Prop where
  m : R.M a
  get : ∀ n H, R.J n H → srcJ a n H
  put : ∀ n m H o, R.J n H → m ≤ n → srcJ a m (upd H a o) → R.J m (upd H a o)
theorem HasSrc.ext {R R' : Rel} {H H' : Hp} {a : Addr} (s : HasSrc R a) (e : Ext R H R' H') : HasSrc R' a :=
  ⟨e.up a s.m, fun n H1 j => s.get n H1 (e.jr n H1 j), fun n m H1 o j hm h => e.put n m H1 a o s.m j (s.put n m H1 o (e.jr n H1 j) hm h)⟩
def srcR (a : Addr) : Rel where
  M := (· = a)
  J := srcJ a
  alive := by
    intro n H b j m
    obtain ⟨c, k, d, h, _⟩ := j
    rw [show b = a from m, h]
    exact fun z => nomatch z
  loc := by
    intro n H H' j e
    obtain ⟨c, k, d, h, r⟩ := j
    exact ⟨c, k, d, (e a rfl).trans h, r⟩
  dec := by
    intro n m H j h
    obtain ⟨c, k, d, e, r1, r2⟩ := j
    exact ⟨c, k, d, e, r1, by omega⟩
theorem hasSrc (a : Addr) : HasSrc (srcR a) a := ⟨rfl, fun _ _ j => j, fun _ _ _ _ _ _ h => h⟩
/-- a def that draws: at most cost x draws -/
def drawSp {α : Type} (cost : α → Nat) (args : α → Addr → (Addr → Prop) → List V → Hp → Prop) (post : α → SP) : Sp := fun vs H Q _ =>
  ∃ (R : Rel) (a : Addr) (n : Nat) (x : α), HasSrc R a ∧ R.J (n + cost x) H ∧ args x a R.M vs H ∧ ∀ v H', R.ok n H H' → (post x).P R.M v H' → Q v H'
theorem ev_draw {α : Type} {cost : α → Nat} {args : α → Addr → (Addr → Prop) → List V → Hp → Prop} {post : α → SP} {R : Rel} {n m : Nat} {a : Addr} {tar : TA} {ps : List SP} {σ : L2.St} {H : Hp} (x : α) (hs : HasSrc R a) (h : EvA R n (m + cost x) tar σ H ps)
    (ha : ∀ vs H1, R.ok (m + cost x) H H1 → Paired (fun v (p : SP) => p.P R.M v H1) vs ps → args x a R.M vs H1) : EvP R n m (tCall (drawSp cost args post) [] E0 tar) σ H (post x) :=
  ev_call h fun vs H1 e hv Q f => ⟨R, a, m, x, hs, e.1, ha vs H1 e hv, f⟩
theorem ixN_nat {n j : Nat} (hj : j < n) : ixN n (j : Int) = some j := Evl.ixN_nat hj
theorem atI_ge {α : Type} {xs : List α} {j : Nat} {x : α} (h : xs[j]? = some x) : atI xs (j : Int) = some x := by
  have hj := (List.getElem?_eq_some_iff.mp h).1
  unfold atI
  rw [ixN_nat hj]
  exact h
/-- xs[j] = e, where nothing else changes -/
theorem q_setX {σ : L2.St} {H : Hp} {ta tb te : TE} {D : Ends} {tz : TS} {v : V} {l : Addr} {xs : List V} {j : Nat} (hl : H l = some (.lst xs)) (h : EvP exR 0 0 te σ H (is v)) (ho : EvP exR 0 0 ta σ H (is (.ref l))) (hi : EvP exR 0 0 tb σ H (is (.int (j : Int)))) (hj : j < xs.length)
    (k : ∀ H1, Evl.Ex H H1 → tz D σ (upd H1 l (.lst (xs.set j v)))) : StF exR 0 (tSeq (tAsg te (gSub ta tb rSetL)) tz) D σ H := fun H1 e1 => h H1 e1 _ fun w H2 e2 hw => ho H2 (exR.trans e1 e2) _ fun o H3 e3 ho' => hi H3 (exR.trans (exR.trans e1 e2) e3) _ fun i H4 e4 hi' => by
  have hw : w = v := hw
  have ho' : o = .ref l := ho'
  have hi' : i = .int (j : Int) := hi'
  subst hw; subst ho'; subst hi'
  have e := exR_ex (exR.trans (exR.trans (exR.trans e1 e2) e3) e4)
  exact ⟨l, xs, (j : Int), j, rfl, rfl, e _ _ hl, ixN_nat hj, k H4 e⟩
/-! ### _law_next -/
abbrev N_l_next : List Str := ["_law_source_here", "_law_many", "_law_found", "_law_primes", "_law_prime", "_law_mixed"]
theorem sc_l_next : FnScope N_l_next ["_law_source_here", "_law_many"] (defScope s_l_next) := ⟨rfl, rfl, rfl, by decide +kernel, rfl, by decide +kernel, by decide +kernel⟩
-- slots: 0 _law_source_here, 1 _law_many, 2 _law_found, 3 _law_primes, 4 _law_prime, 5 _law_mixed
def sp_l_next : Sp := drawSp (fun _ => 1) (fun (many : Int) a _ vs _ => vs = [.ref a, .int many] ∧ 0 < many ∧ many < 1073741824) (fun many => sat fun v => ∃ r, v = .int r ∧ 0 ≤ r ∧ r < many)
def primes8 : List V := [.int 2147483647, .int 2147483629, .int 2147483587, .int 2147483579, .int 2147483563, .int 2147483549, .int 2147483543, .int 2147483497]
def primes3 : List V := [.int 2147483489, .int 2147483477, .int 2147483423]
theorem primes_in : ∀ v ∈ primes8 ++ primes3, ∃ p : Int, v = .int p ∧ 2147483423 ≤ p ∧ p ≤ 2147483647 := by
  intro v hv
  simp only [primes8, primes3, List.cons_append, List.nil_append, List.mem_cons, List.not_mem_nil, or_false] at hv
  rcases hv with rfl | rfl | rfl | rfl | rfl | rfl | rfl | rfl | rfl | rfl | rfl <;> exact ⟨_, rfl, by decide, by decide⟩
theorem src_ok {R : Rel} {H : Hp} {a : Addr} {n m : Nat} {H0 : Hp} {c k d : Int} (s : HasSrc R a) (j : R.J n H0) (hm : m ≤ n) (e : Evl.Ex H0 H) (h0 : 0 ≤ k) (h1 : k + (m : Int) ≤ 1099511627776) : R.ok m H0 (upd H a (.lst [.int c, .int k, .int d])) :=
  ⟨s.put n m H _ (R.mono j e) hm ⟨c, k, d, upd_same, h0, h1⟩, (pres.ex e).trans (pres.upd s.m)⟩
theorem c_l_next (T : Tx K mg) : Cal P w K mg base 1 "_law_next" ["_law_source_here", "_law_many"] (sp_l_next) := by
  refine T.d_l_next.cal sc_l_next (fun vs H Q E h => ?_) (fun _ _ _ _ _ _ us hl => match us, hl with | [_, _], _ => rfl) (fun f cdv A outer s H vs Q E hr h => ?_)
  · obtain ⟨R, a, n, many, _, _, ⟨rfl, _⟩, _⟩ := h
    rfl
  · obtain ⟨R, a, n, many, hs, hj, ⟨rfl, hm0, hm1⟩, q⟩ := h
    refine ⟨_, (pss_cons (ps_if (pt_cmpR cm_Gt (pe_ix (ix_any (K := K)) (pv 0) pe_int (fun _ _ => rfl)) pe_int (nomark _)) (pss_cons (ps_set (i := 2) sc_l_next.nd rfl (by first | exact Or.inl rfl | exact Or.inr rfl) (pe_op op_mod (pe_callTy call_intA (by rfl) T.b_int (by decide +kernel) (pa_cons (pe_ix (ix_any (K := K)) (pv 0) pe_int (fun _ _ => rfl)) pa_nil)) (pv 1)))
      (pss_cons (ps_asg (pe_op op_FloorDiv (pe_callTy call_intA (by rfl) T.b_int (by decide +kernel) (pa_cons (pe_ix (ix_any (K := K)) (pv 0) pe_int (fun _ _ => rfl)) pa_nil)) (pv 1)) (pg_sub (pv 0) pe_int set_list))
      (pss_one (ps_ret (pv 2))))) pss_nil)
      (pss_cons (ps_asg (pe_op (op_Add (K := K)) (pe_ix (ix_any (K := K)) (pv 0) pe_int (fun _ _ => rfl)) pe_int) (pg_sub (pv 0) pe_int set_list))
      (pss_cons (ps_set (i := 3) sc_l_next.nd rfl (by first | exact Or.inl rfl | exact Or.inr rfl) (pe_lst (pa_cons pe_int (pa_cons pe_int (pa_cons pe_int (pa_cons pe_int (pa_cons pe_int (pa_cons pe_int (pa_cons pe_int (pa_cons pe_int pa_nil))))))))))
      (pss_cons (ps_set (i := 4) sc_l_next.nd rfl (by first | exact Or.inl rfl | exact Or.inr rfl) (pe_ix (ix_any (K := K)) (pe_op (op_Add (K := K)) (pv 3) (pe_lst (pa_cons pe_int (pa_cons pe_int (pa_cons pe_int pa_nil))))) (pe_op op_mod (pe_callTy call_intA (by rfl) T.b_int (by decide +kernel) (pa_cons (pe_ix (ix_any (K := K)) (pv 0) pe_int (fun _ _ => rfl)) pa_nil)) pe_int) (fun _ _ => rfl)))
      (pss_cons (ps_set (i := 5) sc_l_next.nd rfl (by first | exact Or.inl rfl | exact Or.inr rfl) (pe_op (op_Add (K := K)) (pe_op (op_Add (K := K)) (pe_op op_mod (pe_callTy call_intA (by rfl) T.b_int (by decide +kernel) (pa_cons (pe_ix (ix_any (K := K)) (pv 0) pe_int (fun _ _ => rfl)) pa_nil)) (pv 4)) (pe_op op_Mult pe_int (pe_ix (ix_any (K := K)) (pv 0) pe_int (fun _ _ => rfl)))) pe_int))
      (pss_one (ps_ret (pe_op op_mod (pe_callTy call_intA (by rfl) T.b_int (by decide +kernel) (pa_cons (pe_op op_FloorDiv (pe_op op_mod (pe_callTy call_intA (by rfl) T.b_int (by decide +kernel) (pa_cons (pe_op op_pow (pv 5) pe_int) pa_nil)) (pv 4)) pe_int) pa_nil)) (pv 1))))))))), ?_⟩
    obtain ⟨c, k, d, ha, hk0, hk1⟩ := hs.get (n + 1) _ hj
    have sq : ∀ {H1 : Hp} {c k d : Int}, H1 a = some (.lst [.int c, .int k, .int d]) → SqM K exR.M H1 a [.int c, .int k, .int d] := fun h => .of h (fun z => z)
    refine StF.run (R := exR) (n := 0) ?_ trivial
    refine q_whenB (m := 0) (b := decide (0 < d)) ?_ (fun hb => ?_) (fun hb => ?_)
    · exact et_test (ev_op2 (ev_op2 (ev_var (v := .ref a) rfl) ev_c fun H1 e => rv_ixL ((sq ha).st e.2).sq (atI_ge (j := 2) rfl)) ev_c fun H1 _ => rv_gtI)
    · -- the digits
      refine q_asgV (m := 0) (v := .int (d % many)) (ev_op2 (m := 0) (x := .int d) (y := .int many) (ev_intI (ev_op2 (m := 0) (x := .ref a) (y := .int 2) (ev_var rfl) ev_c fun H1 e => rv_ixL ((sq ha).st e.2).sq (atI_ge (j := 2) rfl))) (ev_var rfl) fun H1 _ => rv_modI hm0) ?_
      refine q_setX (v := .int (d / many)) (j := 2) ha (ev_op2 (m := 0) (x := .int d) (y := .int many) (ev_intI (ev_op2 (m := 0) (x := .ref a) (y := .int 2) (ev_var rfl) ev_c fun H1 e => rv_ixL ((sq ha).st e.2).sq (atI_ge (j := 2) rfl))) (ev_var rfl) fun H1 _ => rv_divI ⟨hm0, hm1⟩) (ev_var rfl) ev_c (by simp) fun H1 e1 => ?_
      refine StF.run (R := exR) (n := 0) ?_ trivial
      refine s_ret (m := 0) (p := is (.int (d % many))) (ev_var rfl) fun v H2 e2 hv => ?_
      have hv : v = .int (d % many) := hv
      subst hv
      refine q _ H2 (R.trans (src_ok hs hj (Nat.le_succ n) e1 hk0 (by omega)) ⟨?_, pres.ex (exR_ex e2)⟩) ⟨_, rfl, Int.emod_nonneg _ (by omega), Int.emod_lt_of_pos _ hm0⟩
      exact R.mono (src_ok (m := n) hs hj (Nat.le_succ n) e1 hk0 (by omega)).1 (exR_ex e2)
    · refine q_setX (v := .int (k + 1)) (j := 1) ha (ev_op2 (m := 0) (x := .int k) (y := .int 1) (ev_op2 (m := 0) (x := .ref a) (y := .int 1) (ev_var rfl) ev_c fun H1 e => rv_ixL ((sq ha).st e.2).sq (atI_ge (j := 1) rfl)) ev_c fun H1 _ => rv_addI) (ev_var rfl) ev_c (by simp) fun H1 e1 => ?_
      have okS : R.ok n H (upd H1 a (.lst [.int c, .int (k + 1), .int d])) := src_ok hs hj (Nat.le_succ n) e1 (by omega) (by omega)
      have hb1 : (upd H1 a (.lst [.int c, .int (k + 1), .int d])) a = some (.lst [.int c, .int (k + 1), .int d]) := upd_same
      show tSeq _ _ _ _ (upd H1 a (.lst [.int c, .int (k + 1), .int d]))
      generalize upd H1 a (.lst [.int c, .int (k + 1), .int d]) = B at okS hb1
      refine StF.run (R := exR) (n := 0) ?_ trivial
      -- the primes
      refine q_asg (m := 0) (p := lstG (· = primes8)) (ev_lstV (vs := primes8) (ea_cons ev_c (ea_cons ev_c (ea_cons ev_c (ea_cons ev_c (ea_cons ev_c (ea_cons ev_c (ea_cons ev_c (ea_cons ev_c ea_nil)))))))) (by decide)) fun pv H2 e2 hp => ?_
      have h2 : H2 a = some (.lst [.int c, .int (k + 1), .int d]) := exR_ex e2 _ _ hb1
      refine q_asgG (m := 0) (G := fun v => ∃ p : Int, v = .int p ∧ 2147483423 ≤ p ∧ p ≤ 2147483647) ?_ fun v hv => ?_
      · refine (ev_ixG (m := 0) (F := (· = primes8 ++ primes3)) (Gi := (· = .int ((k + 1) % 11))) (ev_catV (m := 0) (ev_varP rfl hp) (ev_lstV (vs := primes3) (ea_cons ev_c (ea_cons ev_c (ea_cons ev_c ea_nil))) (by decide)) (by decide)) ?_ ?_).imp fun w H3 _ hw => ?_
        · exact EvP.asG (ev_op2 (m := 0) (x := .int (k + 1)) (y := .int 11) (ev_intI (ev_op2 (m := 0) (x := .ref a) (y := .int 1) (ev_var rfl) ev_c fun H3 e => rv_ixL ((sq h2).st e.2).sq (atI_ge (j := 1) rfl))) ev_c fun H3 _ => rv_modI (by decide)) rfl
        · rintro xs v rfl rfl
          exact ⟨_, rfl, Int.emod_nonneg _ (by decide), Int.emod_lt_of_pos _ (by decide)⟩
        · obtain ⟨xs, rfl, hm⟩ := hw
          exact primes_in w hm
      · obtain ⟨p, rfl, hp0, hp1⟩ := hv
        have hc0 : 0 ≤ c % p := Int.emod_nonneg _ (by omega)
        have hc1 : c % p < p := Int.emod_lt_of_pos _ (by omega)
        refine q_asgV (m := 0) (v := .int (c % p + 7919 * (k + 1) + 1)) ?_ ?_
        · refine ev_op2 (m := 0) (x := .int (c % p + 7919 * (k + 1))) (y := .int 1) (ev_op2 (m := 0) (x := .int (c % p)) (y := .int (7919 * (k + 1))) (ev_op2 (m := 0) (x := .int c) (y := .int p) (ev_intI (ev_op2 (m := 0) (x := .ref a) (y := .int 0) (ev_var rfl) ev_c fun H3 e => rv_ixL ((sq h2).st e.2).sq (atI_ge (j := 0) rfl))) (ev_var rfl) fun H3 _ => rv_modI (by omega)) ?_ fun H3 _ => rv_addI) ev_c fun H3 _ => rv_addI
          exact ev_op2 (m := 0) (x := .int 7919) (y := .int (k + 1)) ev_c (ev_op2 (m := 0) (x := .ref a) (y := .int 1) (ev_var rfl) ev_c fun H3 e => rv_ixL ((sq h2).st e.2).sq (atI_ge (j := 1) rfl)) fun H3 _ => rv_mulI (.inl ⟨by decide, by decide⟩)
        · generalize hM : c % p + 7919 * (k + 1) + 1 = M
          have hM1 : M.natAbs < 2 ^ 64 := by
            have : (2 : Nat) ^ 64 = 18446744073709551616 := by decide
            rw [this]
            omega
          refine s_ret (m := 0) (p := is (.int (M ^ (5 : Int).toNat % p / 13 % many))) ?_ fun v H3 e3 hv => ?_
          · exact ev_op2 (m := 0) (x := .int (M ^ (5 : Int).toNat % p / 13)) (y := .int many) (ev_intI (ev_op2 (m := 0) (x := .int (M ^ (5 : Int).toNat % p)) (y := .int 13) (ev_op2 (m := 0) (x := .int (M ^ (5 : Int).toNat)) (y := .int p) (ev_intI (ev_op2 (m := 0) (x := .int M) (y := .int 5) (ev_var rfl) ev_c fun H3 _ => rv_powI ⟨by decide, by decide, hM1⟩)) (ev_var rfl) fun H3 _ => rv_modI (by omega)) ev_c fun H3 _ => rv_divI ⟨by decide, by decide⟩)) (ev_var rfl) fun H3 _ => rv_modI hm0
          · have hv : v = .int (M ^ (5 : Int).toNat % p / 13 % many) := hv
            subst hv
            have e := Evl.Ex.trans (exR_ex e2) (exR_ex e3)
            exact q _ H3 ⟨R.mono okS.1 e, okS.2.trans (pres.ex e)⟩ ⟨_, rfl, Int.emod_nonneg _ (by omega), Int.emod_lt_of_pos _ hm0⟩
/-! ### _law_pick -/
abbrev N_l_pick : List Str := ["_law_source_here", "_law_items"]
theorem sc_l_pick : FnScope N_l_pick ["_law_source_here", "_law_items"] (defScope s_l_pick) := ⟨rfl, rfl, rfl, by decide +kernel, rfl, by decide +kernel, by decide +kernel⟩
-- slots: 0 _law_source_here, 1 _law_items
def sp_l_pick : Sp := drawSp (fun _ => 1) (fun (x : Codes ⊕ List V) a M vs H => match x with
  | .inl l => vs = [.ref a, sv l] ∧ 0 < l.length ∧ l.length ≤ 100000
  | .inr xs => ∃ p, vs = [.ref a, .ref p] ∧ LtM M H p xs ∧ 0 < xs.length ∧ xs.length ≤ 100000) (fun x => match x with
  | .inl l => sat fun v => ∃ c, v = sv [c] ∧ c ∈ l
  | .inr xs => sat fun v => v ∈ xs)
theorem ev_next {R : Rel} {n m : Nat} {a : Addr} {σ : L2.St} {H : Hp} {ta tb : TE} {many : Int} (hs : HasSrc R a) (ha : EvP R n n ta σ H (is (.ref a))) (hb : EvP R n (m + 1) tb σ H (is (.int many))) (h0 : 0 < many) (h1 : many < 1073741824) : EvP R n m (tCall sp_l_next [] E0 (tCons ta (tCons tb tNil))) σ H (sat fun v => ∃ r, v = .int r ∧ 0 ≤ r ∧ r < many) :=
  ev_draw (cost := fun _ => 1) many hs (ea_cons ha (ea_cons hb ea_nil)) fun vs H1 e hv => by
    obtain ⟨v, w, rfl, hv, hw⟩ := two hv
    exact ⟨by rw [show v = _ from hv, show w = _ from hw], h0, h1⟩
theorem c_l_pick (T : Tx K mg) : Cal P w K mg base 2 "_law_pick" ["_law_source_here", "_law_items"] (sp_l_pick) := by
  have C_l_next := c_l_next (P := P) (w := w) (base := base) T
  refine T.d_l_pick.cal sc_l_pick (fun vs H Q E h => ?_) (fun _ _ _ _ _ _ us hl => match us, hl with | [_, _], _ => rfl) (fun f cdv A outer s H vs Q E hr h => ?_)
  · obtain ⟨R, a, n, x, _, _, h, _⟩ := h
    cases x with
    | inl l => rw [h.1]; rfl
    | inr xs => obtain ⟨p, e, _⟩ := h; rw [e]; rfl
  · obtain ⟨R, a, n, x, hs, hj, h, q⟩ := h
    refine ⟨_, (pss_one (ps_ret (pe_ix (ix_any (K := K)) (pv 1) (pe_callC C_l_next (hr.mono (by decide)) (by rfl) (pa_cons (pv 0) (pa_cons (pe_callB (call_lenA (K := K)) (by rfl) T.b_len (by decide +kernel) (pa_cons (pv 1) pa_nil)) pa_nil))) (fun _ _ => rfl)))), ?_⟩
    refine StF.run (R := R) (n := n + 1) ?_ hj
    cases x with
    | inl l =>
      obtain ⟨rfl, h0, h1⟩ := h
      exact s_ret (ev_ixSG (ev_var rfl) (ev_next hs (ev_var rfl) (ev_lenS (ev_var rfl) h1) (by omega) (by omega)) h1 fun v hv => hv) q
    | inr xs =>
      obtain ⟨p, rfl, hp, h0, h1⟩ := h
      refine s_ret ((ev_ixG (F := (· = xs)) (ev_varP (v := .ref p) rfl ⟨p, xs, rfl, hp, rfl⟩) (ev_next (many := (xs.length : Int)) hs (ev_var rfl) (ev_lenL (ev_var rfl) hp.sqm) (by omega) (by omega)) fun ys v e hv => by subst e; exact hv).imp fun v H1 _ hv => ?_) q
      obtain ⟨ys, rfl, hm⟩ := hv
      exact hm
theorem ev_pickS {R : Rel} {n m : Nat} {a : Addr} {σ : L2.St} {H : Hp} {ta tb : TE} {l : Codes} (hs : HasSrc R a) (ha : EvP R n n ta σ H (is (.ref a))) (hb : EvP R n (m + 1) tb σ H (is (sv l))) (h0 : 0 < l.length) (h1 : l.length ≤ 100000) : EvP R n m (tCall sp_l_pick [] E0 (tCons ta (tCons tb tNil))) σ H (sat fun v => ∃ c, v = sv [c] ∧ c ∈ l) :=
  ev_call (ea_cons ha (ea_cons hb ea_nil)) fun vs H1 e hv Q f => by
    obtain ⟨v, w, rfl, hv, hw⟩ := two hv
    exact ⟨R, a, m, .inl l, hs, e.1, ⟨by rw [show v = _ from hv, show w = _ from hw], h0, h1⟩, f⟩
theorem ev_pickL {R : Rel} {n m : Nat} {a : Addr} {σ : L2.St} {H : Hp} {ta tb : TE} {F : List V → Prop} (hs : HasSrc R a) (ha : EvP R n n ta σ H (is (.ref a))) (hb : EvP R n (m + 1) tb σ H (lstG F)) (h0 : ∀ xs, F xs → 0 < xs.length ∧ xs.length ≤ 100000) : EvP R n m (tCall sp_l_pick [] E0 (tCons ta (tCons tb tNil))) σ H (sat fun v => ∃ xs, F xs ∧ v ∈ xs) :=
  ev_call (ea_cons ha (ea_cons hb ea_nil)) fun vs H1 e hv Q f => by
    obtain ⟨v, w, rfl, hv1, p, xs, rfl, hp, g⟩ := two hv
    exact ⟨R, a, m, .inr xs, hs, e.1, ⟨p, by rw [show v = _ from hv1], hp, h0 xs g⟩, fun v H' e' h' => f v H' e' ⟨xs, g, h'⟩⟩
/-! ### _law_source -/
/-- the sources: a list of lists of three -/
def isSrc3 (xs : List V) : Prop := ∃ c k d : Int, xs = [.int c, .int k, .int d] ∧ 0 ≤ k ∧ k ≤ 300
abbrev N_l_source : List Str := ["_law_script", "_law_k", "_law_cell"]
theorem sc_l_source : FnScope N_l_source ["_law_script", "_law_k"] (defScope s_l_source) := ⟨rfl, rfl, rfl, by decide +kernel, rfl, by decide +kernel, by decide +kernel⟩
-- slots: 0 _law_script, 1 _law_k, 2 _law_cell
def sp_l_source : Sp := pureSp (fun (x : List Int × Nat) M vs H => ∃ l, vs = [.ref l, .int (x.2 : Int)] ∧ LtM M H l (x.1.map V.int) ∧ x.2 < x.1.length ∧ x.1.length ≤ 100) (fun x => lstG isSrc3)
theorem dpAll_ints {H : Hp} : ∀ ns : List Int, DpAll K H (ns.map V.int) (ns.map PyData.int)
  | [] => .nil
  | n :: ns => .cons (.int n) (dpAll_ints ns)
theorem shaped_ints (ns : List Int) : SeqAt.shaped (.list (ns.map PyData.int)) = true := by
  have h1 : ∀ ns : List Int, PyData.canLayAll0 (ns.map PyData.int) = true := by
    intro ns
    induction ns with
    | nil => rfl
    | cons n ns ih => exact ih
  have h2 : ∀ ns : List Int, PyData.depthAll (ns.map PyData.int) ≤ 1 := by
    intro ns
    induction ns with
    | nil => simp [PyData.depthAll]
    | cons n ns ih =>
      simp only [List.map_cons, PyData.depthAll, PyData.depth]
      omega
  unfold SeqAt.shaped
  rw [Bool.and_eq_true]
  refine ⟨h1 ns, decide_eq_true ?_⟩
  have := h2 ns
  simp only [PyData.depth]
  omega
theorem c_l_source (T : Tx K mg) : Cal P w K mg base 1 "_law_source" ["_law_script", "_law_k"] (sp_l_source) := by
  refine T.d_l_source.cal sc_l_source (fun vs H Q E h => ?_) (fun _ _ _ _ _ _ us hl => match us, hl with | [_, _], _ => rfl) (fun f cdv A outer s H vs Q E hr h => ?_)
  · obtain ⟨R, n, x, _, ⟨l, rfl, _⟩, _⟩ := h
    rfl
  · obtain ⟨R, n, ⟨ns, j⟩, hJ, ⟨l, rfl, hl, hj, hn⟩, q⟩ := h
    refine ⟨_, (pss_cons (ps_set (i := 2) sc_l_source.nd rfl (by first | exact Or.inl rfl | exact Or.inr rfl) (pe_ifExp (pt_cmpR (cm_NotEq (K := K) hr.units) (pv 0) (pe_lst pa_nil) (nomark _)) (pe_ix (ix_any (K := K)) (pv 0) (pe_op op_mod (pe_callTy call_intA (by rfl) T.b_int (by decide +kernel) (pa_cons (pv 1) pa_nil)) (pe_callB (call_lenA (K := K)) (by rfl) T.b_len (by decide +kernel) (pa_cons (pv 0) pa_nil))) (fun _ _ => rfl)) pe_int))
      (pss_one (ps_ret (pe_lst (pa_cons (pe_callTy call_intA (by rfl) T.b_int (by decide +kernel) (pa_cons (pv 2) pa_nil)) (pa_cons (pe_op op_Mult pe_int (pv 1)) (pa_cons (pe_ifExp (pt_cmpR cm_GtE (pv 2) (pe_op op_pow pe_int pe_int) (nomark _)) (pe_op op_FloorDiv (pe_callTy call_intA (by rfl) T.b_int (by decide +kernel) (pa_cons (pv 2) pa_nil)) (pe_op op_pow pe_int pe_int)) pe_int) pa_nil))))))), ?_⟩
    have hj : j < ns.length := hj
    have sq : SqM K R.M H l (ns.map V.int) := hl.sqm
    refine StF.run (R := R) (n := n) ?_ hJ
    obtain ⟨c, hc⟩ : ∃ c, ns[j]? = some c := ⟨_, List.getElem?_eq_getElem hj⟩
    have hjm : (j : Int) % (ns.length : Int) = (j : Int) := Int.emod_eq_of_lt (by omega) (by omega)
    refine q_asgV (m := n) (v := .int c) ?_ ?_
    · refine ev_ifB (m := n) (b := true) ?_ (fun _ => ?_) (fun z => nomatch z)
      · refine et_test (ev_op (m := n) (p := is (.ref l)) (q := lstG (· = [])) (ev_var rfl) (ev_lstV (vs := []) ea_nil (by decide)) fun x y H1 e hx hy => ?_)
        have hx : x = .ref l := hx
        subst hx
        obtain ⟨p, xs, rfl, hp, rfl⟩ := hy
        refine rv_now fun Q k => .inr ⟨.list (ns.map PyData.int), .list [], .lst (sq.st e.2).sq (dpAll_ints ns), .lst hp.sq .nil, shaped_ints ns, rfl, ?_⟩
        cases ns with
        | nil => exact absurd hj (Nat.not_lt_zero _)
        | cons => exact k
      · refine ev_op2 (m := n) (x := .ref l) (y := .int (j : Int)) (ev_var rfl) (ev_is (ev_op2 (m := n) (x := .int (j : Int)) (y := .int (ns.length : Int)) (ev_intI (ev_var rfl)) (ev_is (ev_lenL (ev_var rfl) sq) (by rw [List.length_map])) fun H1 _ => rv_modI (by omega)) (by rw [hjm])) fun H1 e => rv_ixL (sq.st e.2).sq (atI_ge (j := j) (by rw [List.getElem?_map, hc]; rfl))
    · have e18 : (10 : Int) ^ (18 : Int).toNat = 1000000000000000000 := by decide
      have p18 : ∀ {σ : L2.St} {H1 : Hp}, EvP R n n (tOp (rI CPow fun i j => V.int (i ^ j.toNat)) (tC (.int 10)) (tC (.int 18))) σ H1 (is (.int 1000000000000000000)) := ev_is (ev_op2 (m := n) (x := .int 10) (y := .int 18) ev_c ev_c fun H1 _ => rv_powI ⟨by decide, by decide, by decide⟩) (by rw [e18])
      refine s_ret (m := n) ((ev_lst (ps := [is (.int c), is (.int (3 * (j : Int))), sat fun v => ∃ d, v = .int d]) (ea_cons (ev_intI (ev_var rfl)) (ea_cons (ev_op2 (m := n) (x := .int 3) (y := .int (j : Int)) ev_c (ev_var rfl) fun H1 _ => rv_mulI (.inl ⟨by decide, by decide⟩)) (ea_cons ?_ ea_nil))) (by simp)).imp fun v H1 _ hv => ?_) q
      · refine ev_ifB (m := n) (b := decide ((1000000000000000000 : Int) ≤ c)) (et_test (ev_op2 (m := n) (ev_var rfl) p18 fun H1 _ => rv_geI)) (fun _ => ?_) (fun _ => EvP.asG ev_c ⟨_, rfl⟩)
        exact EvP.asG (v := .int (c / 1000000000000000000)) (ev_op2 (m := n) (x := .int c) (y := .int 1000000000000000000) (ev_intI (ev_var rfl)) p18 fun H1 _ => rv_divW ⟨by decide, by decide⟩) ⟨_, rfl⟩
      · obtain ⟨p, xs, rfl, hp, h⟩ := hv
        obtain ⟨v1, v2, v3, rfl, h1, h2, d, h3⟩ := three h
        exact ⟨p, _, rfl, hp, c, 3 * (j : Int), d, by rw [show v1 = _ from h1, show v2 = _ from h2, h3], by omega, by omega⟩
/-! ### _law_rounds -/
abbrev N_l_rounds : List Str := ["_law_script", "_law_most", "_law_blend", "_law_cells", "_law_k"]
theorem sc_l_rounds : FnScope N_l_rounds ["_law_script", "_law_most"] (defScope s_l_rounds) := ⟨rfl, rfl, rfl, by decide +kernel, rfl, by decide +kernel, by decide +kernel⟩
-- slots: 0 _law_script, 1 _law_most, 2 _law_blend, 3 _law_cells, 4 _law_k
def sp_l_rounds (K : PySem.W.Frag) : Sp := pureSp (fun (x : List Int × Nat) M vs H => ∃ l, vs = [.ref l, .int (x.2 : Int)] ∧ SqM K M H l (x.1.map V.int) ∧ x.1.length ≤ 63 ∧ x.2 ≤ 30) (fun x => SP.ex fun m : { m : Nat // m ≤ 64 } => lstP (fun _ : Nat => lstG isSrc3) (List.range m.1))
theorem cut_ints (ns : List Int) (j : Nat) : cutV (ns.map V.int) none (some (j : Int)) = (ns.take j).map V.int := by
  unfold cutV
  rw [HT.sIx_none, show HT.sIx (ns.map V.int).length (ns.map V.int).length (some (j : Int)) = min j (ns.map V.int).length from HT.sIx_nat _ _ j, List.drop_zero, Nat.sub_zero, List.length_map, List.map_take]
  by_cases h : j ≤ ns.length
  · rw [Nat.min_eq_left h]
  · rw [Nat.min_eq_right (by omega), List.take_of_length_le (by rw [List.length_map]; exact Nat.le_refl _), List.take_of_length_le (by rw [List.length_map]; omega)]
theorem c_l_rounds (T : Tx K mg) : Cal P w K mg base 2 "_law_rounds" ["_law_script", "_law_most"] (sp_l_rounds K) := by
  have C_l_source := c_l_source (P := P) (w := w) (base := base) T
  refine T.d_l_rounds.cal sc_l_rounds (fun vs H Q E h => ?_) (fun _ _ _ _ _ _ us hl => match us, hl with | [_, _], _ => rfl) (fun f cdv A outer s H vs Q E hr h => ?_)
  · obtain ⟨R, n, x, _, ⟨l, rfl, _⟩, _⟩ := h
    rfl
  · obtain ⟨R, n, ⟨ns, j⟩, hJ, ⟨l, rfl, sq, hn, hj⟩, q⟩ := h
    refine ⟨_, (pss_cons (ps_set (i := 2) sc_l_rounds.nd rfl (by first | exact Or.inl rfl | exact Or.inr rfl) (pe_op op_mod (pe_callTy call_intA (by rfl) T.b_int (by decide +kernel) (pa_cons (pe_op (op_Add (K := K)) (pe_op (op_Add (K := K)) (pe_op op_Mult (pe_callB (call_sumA (K := K)) (by rfl) T.b_sum (by decide +kernel) (pa_cons (pv 0) pa_nil)) pe_int) (pe_op op_Mult pe_int (pe_callB (call_lenA (K := K)) (by rfl) T.b_len (by decide +kernel) (pa_cons (pv 0) pa_nil)))) pe_int) pa_nil)) (pe_op op_pow pe_int pe_int)))
      (pss_cons (ps_set (i := 3) sc_l_rounds.nd rfl (by first | exact Or.inl rfl | exact Or.inr rfl) (pe_op (op_Add (K := K)) (pe_callTy (call_listA (K := K)) (by rfl) T.b_list (by decide +kernel) (pa_cons (pe_slice (sl_any (K := K)) (pv 0) po_none (po_some (pv 1))) pa_nil)) (pe_lst (pa_cons (pv 2) pa_nil))))
      (pss_one (ps_ret (pe_lc (own := [("_law_k", 4)]) (by rfl) sc_l_rounds.nd (pi_range1 (by rfl) T.b_range (pa_cons (pe_callB (call_lenA (K := K)) (by rfl) T.b_len (by decide +kernel) (pa_cons (pv 3) pa_nil)) pa_nil)) (blkOk_by (own := [("_law_k", 4)]) (N := N_l_rounds) (sc := defScope s_l_rounds) (by decide +kernel)) (fun _ _ _ _ _ => (pg_name (i := 4) sc_l_rounds.nd rfl (by first | exact Or.inl rfl | exact Or.inr rfl))) (fun _ _ _ _ _ => pts_nil) (fun _ _ _ _ _ => (pe_callC C_l_source (hr.mono (by decide)) (by rfl) (pa_cons (pv 3) (pa_cons (pv 4) pa_nil))))))))), ?_⟩
    refine StF.run (R := R) (n := n) ?_ hJ
    have e17 : (10 : Int) ^ (17 : Int).toNat = 100000000000000000 := by decide
    refine q_asgV (m := n) (v := .int ((ns.sum * 48271 + 104729 * (ns.length : Int) + 17) % 100000000000000000)) ?_ ?_
    · refine ev_op2 (m := n) (x := .int (ns.sum * 48271 + 104729 * (ns.length : Int) + 17)) (y := .int 100000000000000000) (ev_intI (ev_op2 (m := n) (x := .int (ns.sum * 48271 + 104729 * (ns.length : Int))) (y := .int 17) (ev_op2 (m := n) (x := .int (ns.sum * 48271)) (y := .int (104729 * (ns.length : Int))) ?_ ?_ fun H1 _ => rv_addI) ev_c fun H1 _ => rv_addI)) (ev_is (ev_op2 (m := n) (x := .int 10) (y := .int 17) ev_c ev_c fun H1 _ => rv_powI ⟨by decide, by decide, by decide⟩) (by rw [e17])) fun H1 _ => rv_modI (by decide)
      · refine ev_op2 (m := n) (x := .int ns.sum) (y := .int 48271) ?_ ev_c fun H1 _ => rv_mulI (.inr ⟨by decide, by decide⟩)
        refine ev_cb (ea_cons (p := is (.ref l)) (ev_var rfl) ea_nil) fun vs H1 e hv => ?_
        obtain ⟨v, rfl, h⟩ := one hv
        have h : v = .ref l := h
        subst h
        exact rc_now fun _ k => ⟨l, ns, rfl, (sq.st e.2).sq, k⟩
      · exact ev_op2 (m := n) (x := .int 104729) (y := .int (ns.length : Int)) ev_c (ev_is (ev_lenL (ev_var rfl) sq) (by rw [List.length_map])) fun H1 _ => rv_mulI (.inl ⟨by decide, by decide⟩)
    · generalize (ns.sum * 48271 + 104729 * (ns.length : Int) + 17) % 100000000000000000 = bl
      refine q_asg (m := n) (p := lstG (· = (ns.take j ++ [bl]).map V.int)) ?_ fun cv H1 e1 hc => ?_
      · refine ev_is2 (ev_catV (m := n) (xs := (ns.take j).map V.int) (ys := [.int bl]) ?_ (ev_lstV (vs := [.int bl]) (ea_cons (ev_var rfl) ea_nil) (by simp)) (by simp; omega)) (by rw [List.map_append]; rfl)
        refine ev_cb (ea_cons (p := lstG (· = (ns.take j).map V.int)) ?_ ea_nil) fun vs H1 e hv => ?_
        · refine ev_sl (m := n) (k := n) (lo := none) (hi := some (j : Int)) (p := is (.ref l)) (ev_var rfl) eo_none (eo_some (ev_var rfl)) fun x H1 e hx => ?_
          have hx : x = .ref l := hx
          subst hx
          exact fun _ jj Q k => .inr ⟨l, _, rfl, (sq.st e.2).sq, fun p hp => k _ _ (R.new jj hp) ⟨p, _, rfl, ⟨upd_same, R.fresh jj hp⟩, cut_ints ns j⟩⟩
        · obtain ⟨v, rfl, p, xs, rfl, hp, rfl⟩ := one hv
          exact fun _ jj Q k => ⟨p, _, rfl, .inl hp.sq, fun p2 hp2 => k _ _ (R.new jj hp2) ⟨p2, _, rfl, ⟨upd_same, R.fresh jj hp2⟩, rfl⟩⟩
      · obtain ⟨cl, xs, rfl, hcl, rfl⟩ := hc
        have hlen : (ns.take j ++ [bl]).length ≤ 64 := by simp; omega
        refine s_ret (m := n) (p := SP.ex fun m : { m : Nat // m ≤ 64 } => lstP (fun _ : Nat => lstG isSrc3) (List.range m.1)) ((ev_lcP (m := n) (as := List.range (ns.take j ++ [bl]).length) (mv := fun (i : Nat) => .int (i : Int)) 0 (fun _ : Nat => lstG isSrc3) ?_ (by rw [List.length_range]; omega) (fun x => rfl) fun R' H' i k ex hi => ?_).imp fun v H2 _ hv => ⟨⟨_, hlen⟩, hv⟩) ?_
        · have h := it_range1 (R := R) (n := n) (m := n) (σ := [some (.ref l), some (.int (j : Int)), some (.int bl), some (.ref cl), none]) (H := H1) (ta := tCB (rLenU K) (tCons (tVar 3) tNil)) (iv := ((ns.take j ++ [bl]).length : Int)) (ev_is (ev_lenL (ev_var rfl) hcl.sqm) (by rw [List.length_map])) (by omega)
          rw [Int.toNat_natCast] at h
          exact h
        · refine ev_call (m := k) (ea_cons (m := k) (p := lstG (· = (ns.take j ++ [bl]).map V.int)) (ev_varP (v := .ref cl) rfl ?_) (ea_cons (p := is (.int (i : Int))) (ev_var rfl) ea_nil)) fun vs H2 e hv Q f => ?_
          · exact ex.get (p := lstG (· = (ns.take j ++ [bl]).map V.int)) ⟨cl, _, rfl, hcl, rfl⟩
          · obtain ⟨v1, v2, rfl, ⟨p, xs, rfl, hp, rfl⟩, h2⟩ := two hv
            have h2 : v2 = .int (i : Int) := h2
            subst h2
            exact ⟨R', k, (ns.take j ++ [bl], i), e.1, ⟨p, rfl, hp, List.mem_range.mp hi, by show (ns.take j ++ [bl]).length ≤ 100; omega⟩, f⟩
        · exact fun v H2 e2 hv => q v H2 (R.trans e1 e2) hv

end
end My
namespace My
open PySem PySem.Spec PyProof.Rows L2
-- plain
/-! texts: strip, find of one sign -/
def stripL (a b : Codes) : Codes := cs (Txt.stripChars (SX.S a) (SX.S b))
theorem tw_all {p : Nat → Bool} : ∀ {l : Codes}, (∀ c ∈ l, p c = true) → l.takeWhile p = l
  | [], _ => rfl
  | c :: r, h => by rw [List.takeWhile_cons, if_pos (h c (List.mem_cons_self ..)), tw_all fun x hx => h x (List.mem_cons_of_mem _ hx)]
theorem tw_lt {p : Nat → Bool} : ∀ {l : Codes}, (∃ c ∈ l, p c = false) → (l.takeWhile p).length < l.length
  | [], h => by obtain ⟨c, hc, _⟩ := h; cases hc
  | c :: r, h => by
    rw [List.takeWhile_cons]
    by_cases hp : p c = true
    · rw [if_pos hp]
      obtain ⟨d, hd, hd2⟩ := h
      rcases List.mem_cons.mp hd with e | e
      · rw [e, hp] at hd2; cases hd2
      · have := tw_lt ⟨d, e, hd2⟩
        simp only [List.length_cons]
        omega
    · rw [if_neg hp]
      simp
theorem tw_next {p : Nat → Bool} : ∀ {l : Codes}, (∃ c ∈ l, p c = false) → ∃ d r, l.drop (l.takeWhile p).length = d :: r ∧ p d = false
  | [], h => by obtain ⟨c, hc, _⟩ := h; cases hc
  | c :: r, h => by
    rw [List.takeWhile_cons]
    by_cases hp : p c = true
    · rw [if_pos hp]
      obtain ⟨d, hd, hd2⟩ := h
      rcases List.mem_cons.mp hd with e | e
      · rw [e, hp] at hd2; cases hd2
      · exact tw_next ⟨d, e, hd2⟩
    · rw [if_neg hp]
      exact ⟨c, r, rfl, Bool.eq_false_iff.mpr hp⟩
theorem stripL_eq (a b : Codes) : stripL a b = (a.drop (a.takeWhile fun c => b.contains c).length).take ((a.length - ((a.drop (a.takeWhile fun c => b.contains c).length).reverse.takeWhile fun c => b.contains c).length) - (a.takeWhile fun c => b.contains c).length) := by
  unfold stripL Txt.stripChars
  rw [PyProof.Rows.stripBy_eq]
  have hc : (SX.S b).cps.contains = fun c => b.contains c := by
    funext c
    show (b.toArray).contains c = _
    rw [List.contains_toArray]
  rw [hc]
  refine (TL.tl_strSub _ _ _).trans ?_
  have hl : (SX.S a).length = a.length := SX.S_len a
  simp only [stripLo, stripHi, hl, if_true]
theorem strip_nil {a b : Codes} : stripL a b = [] ↔ ∀ c ∈ a, c ∈ b := by
  rw [stripL_eq]
  constructor
  · intro h c hc
    refine Classical.byContradiction fun hn => ?_
    have hx : ∃ c ∈ a, (b.contains c) = false := ⟨c, hc, by
      cases e : b.contains c with
      | false => rfl
      | true => exact absurd (List.contains_iff_mem.mp e) hn⟩
    obtain ⟨d, r, hd, hd2⟩ := tw_next (p := fun c => b.contains c) hx
    have hlt := tw_lt (p := fun c => b.contains c) hx
    have h3 : ((a.drop (a.takeWhile fun c => b.contains c).length).reverse.takeWhile fun c => b.contains c).length < (a.drop (a.takeWhile fun c => b.contains c).length).reverse.length := tw_lt ⟨d, by rw [hd]; simp, hd2⟩
    rw [List.length_reverse, List.length_drop] at h3
    have := congrArg List.length h
    rw [List.length_take, List.length_drop, List.length_nil] at this
    omega
  · intro h
    have e : a.takeWhile (fun c => b.contains c) = a := tw_all fun c hc => List.contains_iff_mem.mpr (h c hc)
    rw [e, List.drop_length, List.take_nil]
/-- the place of one sign in a text of the row's own: by looking -/
def findL (a b : Codes) : Int := Txt.find (SX.S a) (SX.S b)

end My
namespace My
open PySem PySem.Spec PyProof.Rows L2
section
variable {P : Program} {w : World} {K : PySem.W.Frag} {mg : Str → Option Value} {base : Heap}
/-! ### _law_string -/
/-- printable signs without the percent sign; a text of such signs -/
def prn (l : Codes) : Prop := ∀ c ∈ l, 32 ≤ c ∧ c < 127
/-- not only spaces -/
def inky (l : Codes) : Prop := ∃ c ∈ l, c ≠ 32
theorem prn_asc {l : Codes} (h : prn l) : asc l := by
  unfold asc
  rw [List.all_eq_true]
  intro c hc
  have := (h c hc).2
  exact decide_eq_true (by omega)
theorem prn_app {a b : Codes} (ha : prn a) (hb : prn b) : prn (a ++ b) := fun c hc => (List.mem_append.mp hc).elim (ha c) (hb c)
theorem prn_sub {a b : Codes} (h : ∀ c ∈ a, c ∈ b) (hb : prn b) : prn a := fun c hc => hb c (h c hc)
theorem prn_take {a : Codes} {i : Nat} (h : prn a) : prn (a.take i) := prn_sub (fun _ hc => List.mem_of_mem_take hc) h
theorem prn_drop {a : Codes} {i : Nat} (h : prn a) : prn (a.drop i) := prn_sub (fun _ hc => List.mem_of_mem_drop hc) h
abbrev N_l_string : List Str := ["_law_source_here", "_law_most", "_law_signs", "_law_more", "_law_way", "_law_found", "_law_turn", "_law_at"]
theorem sc_l_string : FnScope N_l_string ["_law_source_here", "_law_most"] (defScope s_l_string) := ⟨rfl, rfl, rfl, by decide +kernel, rfl, by decide +kernel, by decide +kernel⟩
-- slots: 0 _law_source_here, 1 _law_most, 2 _law_signs, 3 _law_more, 4 _law_way, 5 _law_found, 6 _law_turn, 7 _law_at
def sp_l_string : Sp := drawSp (fun (most : Nat) => most + 3) (fun most a _ vs _ => vs = [.ref a, .int (most : Int)] ∧ 0 < most ∧ most ≤ 10000) (fun most => tx fun s => prn s ∧ inky s ∧ 0 < s.length ∧ s.length ≤ most)
def signsL : Codes := [97, 97, 98, 32, 32, 65, 66, 44, 43, 61, 92]
def moreL : Codes := cs " !\"#$&'()*+,-./0123456789:;<=>?@ABCDEFGHIJKLMNOPQRSTUVWXYZ[\\]^_`abcdefghijklmnopqrstuvwxyz{|}~"
theorem signs_prn : ∀ c ∈ signsL, 32 ≤ c ∧ c < 127 := by decide
theorem more_prn : ∀ c ∈ moreL, 32 ≤ c ∧ c < 127 := by decide +kernel
theorem more_len : 0 < moreL.length ∧ moreL.length ≤ 100000 := by decide +kernel
theorem c_l_string (T : Tx K mg) : Cal P w K mg base 3 "_law_string" ["_law_source_here", "_law_most"] (sp_l_string) := by
  have C_l_next := c_l_next (P := P) (w := w) (base := base) T
  have C_l_pick := c_l_pick (P := P) (w := w) (base := base) T
  refine T.d_l_string.cal sc_l_string (fun vs H Q E h => ?_) (fun _ _ _ _ _ _ us hl => match us, hl with | [_, _], _ => rfl) (fun f cdv A outer s H vs Q E hr h => ?_)
  · obtain ⟨R, a, n, x, _, _, ⟨rfl, _⟩, _⟩ := h
    rfl
  · obtain ⟨R, a, n, most, hs, hj, ⟨rfl, h0, h1⟩, q⟩ := h
    refine ⟨_, (pss_cons (ps_set (i := 2) sc_l_string.nd rfl (by first | exact Or.inl rfl | exact Or.inr rfl) (pe_op (op_Add (K := K)) pe_str pe_str))
      (pss_cons (ps_set (i := 3) sc_l_string.nd rfl (by first | exact Or.inl rfl | exact Or.inr rfl) pe_str)
      (pss_cons (ps_par (i := 4) (j := 5) (by rfl) sc_l_string.nd rfl rfl (by decide) rfl rfl (pa_cons (pe_callC C_l_next (hr.mono (by decide)) (by rfl) (pa_cons (pv 0) (pa_cons pe_int pa_nil))) (pa_cons pe_str pa_nil)) (by rfl))
      (pss_cons (ps_for PassesOwn.never rfl (pi_range1 (by rfl) T.b_range (pa_cons (pe_op (op_Add (K := K)) pe_int (pe_callC C_l_next (hr.mono (by decide)) (by rfl) (pa_cons (pv 0) (pa_cons (pv 1) pa_nil)))) pa_nil)) (pg_name (i := 6) sc_l_string.nd rfl (by first | exact Or.inl rfl | exact Or.inr rfl))
      (pss_one (ps_set (i := 5) sc_l_string.nd rfl (by first | exact Or.inl rfl | exact Or.inr rfl) (pe_op (op_Add (K := K)) (pv 5) (pe_callC C_l_pick (hr.mono (by decide)) (by rfl) (pa_cons (pv 0) (pa_cons (pe_ifExp (pt_cmpR cm_Gt (pv 4) pe_int (nomark _)) (pv 2) (pv 3)) pa_nil)))))))
      (pss_cons (ps_set (i := 7) sc_l_string.nd rfl (by first | exact Or.inl rfl | exact Or.inr rfl) (pe_callC C_l_next (hr.mono (by decide)) (by rfl) (pa_cons (pv 0) (pa_cons (pe_callB (call_lenA (K := K)) (by rfl) T.b_len (by decide +kernel) (pa_cons (pv 5) pa_nil)) pa_nil))))
      (pss_one (ps_ret (pe_ifExp (pt_cmpR (cm_NotEq (K := K) hr.units) (pe_bmK (K := K) PySem.F.plainAttrs_str PySem.F.slot_str_strip PySem.F.type_str_strip mt_stripA (pv 5) (pa_cons pe_str pa_nil)) pe_str (nomark _)) (pv 5) (pe_op (op_Add (K := K)) (pe_op (op_Add (K := K)) (pe_slice (sl_any (K := K)) (pv 5) po_none (po_some (pv 7))) pe_str) (pe_slice (sl_any (K := K)) (pv 5) (po_some (pe_op (op_Add (K := K)) (pv 7) pe_int)) po_none)))))))))), ?_⟩
    have hj : R.J (n + 3 + most) H := by
      have e : n + 3 + most = n + (most + 3) := by omega
      rw [e]
      exact hj
    refine StF.run (R := R) (n := n + 3 + most) ?_ hj
    -- the two menus
    refine q_asgV (m := n + 3 + most) (v := sv signsL) (ev_is (ev_op2 (m := n + 3 + most) (x := sv [97, 97, 98, 32, 32, 65, 66, 44, 43, 61]) (y := sv [92]) (ev_str (by decide +kernel)) (ev_str (by decide +kernel)) fun H1 _ => rv_addS (by decide)) rfl) ?_
    refine q_asgV (m := n + 3 + most) (v := sv moreL) (ev_str (SX.S_tl _).symm) ?_
    -- the way
    refine q_parG (m := n + 2 + most) (F := fun v => ∃ i, v = .int i ∧ True) (G := fun v => ∃ s, v = sv s ∧ s = []) (ea_cons (m := n + 2 + most) ((ev_next (m := n + 2 + most) hs (ev_var rfl) (by rw [show n + 3 + most = n + 2 + most + 1 by omega]; exact ev_c) (by decide) (by decide)).ntImp fun _ _ => trivial) (ea_cons (EvP.tx (ev_str (l := []) (by decide +kernel)) rfl) ea_nil)) fun wv fv hw hf => ?_
    obtain ⟨way, rfl, _⟩ := hw
    obtain ⟨f0, rfl, rfl⟩ := hf
    -- the loop
    refine forq_bindR (m := n + 1 + most) (p := nt fun i => 1 ≤ i ∧ i ≤ (most : Int)) ?_ fun v H1 e1 hv => ?_
    · refine (ev_addN (m := n + 2 + most) (EvP.nt (F := (· = 1)) ev_c rfl) ((ev_next (m := n + 1 + most) (many := (most : Int)) hs (ev_var rfl) (by rw [show n + 2 + most = n + 1 + most + 1 by omega]; exact ev_var rfl) (by omega) (by omega)))).ntImp fun i hi => ?_
      obtain ⟨x, y, rfl, ⟨hy0, hy1⟩, rfl⟩ := hi
      omega
    · obtain ⟨cnt, rfl, hc0, hc1⟩ := hv
      have hR := it_range1 (R := R) (n := n + 1 + most) (m := n + 1 + most) (σ := [some (.ref a), some (.int (most : Int)), some (sv signsL), some (sv moreL), some (.int way), some (sv []), none, none]) (H := H1) (ta := tC (.int cnt)) (iv := cnt) ev_c (by omega)
      have hR2 : ItP R (n + 1 + most) (n + 1 + (most - 0)) (iRng1 (tCons (tC (.int cnt)) tNil)) [some (.ref a), some (.int (most : Int)), some (sv signsL), some (sv moreL), some (.int way), some (sv []), none, none] H1 (((List.range cnt.toNat).map fun (i : Nat) => V.int (i : Int)).map is) := by
        rw [List.map_map, Nat.sub_zero]
        exact hR
      refine q_forC (fun i => n + 1 + (most - i)) hR2 (fun i σ' => ∃ s y, σ' = [some (.ref a), some (.int (most : Int)), some (sv signsL), some (sv moreL), some (.int way), some (sv s), y, none] ∧ prn s ∧ s.length = i) ⟨[], none, rfl, (by intro c hc; cases hc), rfl⟩ (fun B i w σ' eb hw hI => ?_) fun σ' hI => ?_
      · -- a turn
        obtain ⟨s, y, rfl, hp, hl⟩ := hI
        have hi : i < cnt.toNat := by
          have := (List.getElem?_eq_some_iff.mp hw).1
          rw [List.length_map, List.length_range] at this
          exact this
        have hcr : n + 1 + (most - i) = n + 1 + (most - (i + 1)) + 1 := by omega
        refine s_asgG (m := n + 1 + (most - (i + 1))) (G := fun v => ∃ u, v = sv u ∧ prn u ∧ u.length = i + 1) ?_ fun v hv H2 e2 => ⟨e2, ?_⟩
        · refine (ev_addT (m := n + 1 + (most - i)) (F := (· = s)) (G := fun u => prn u ∧ u.length = 1) (EvP.tx (ev_var rfl) rfl) ?_ (fun x y hx hy => by subst hx; omega)).txImp fun u hu => ?_
          · have hout : ∀ (l : Codes), prn l → ∀ v : V, (∃ c, v = sv [c] ∧ c ∈ l) → ∃ u, v = sv u ∧ prn u ∧ u.length = 1 := fun l hl v hv => by
              obtain ⟨c, rfl, hc⟩ := hv
              exact ⟨[c], rfl, fun d hd => by rw [List.mem_singleton.mp hd]; exact hl c hc, rfl⟩
            by_cases hway : 0 < way
            · refine (ev_pickS (m := n + 1 + (most - (i + 1))) (l := signsL) hs (ev_var (v := .ref a) rfl) ?_ (by decide) (by decide)).imp fun v H3 _ hv => hout signsL signs_prn v hv
              rw [← hcr]
              exact ev_ifB (m := n + 1 + (most - i)) (b := true) (et_is (et_test (ev_op2 (ev_var rfl) ev_c fun H3 _ => rv_gtI)) (decide_eq_true hway)) (fun _ => ev_var rfl) (fun z => nomatch z)
            · refine (ev_pickS (m := n + 1 + (most - (i + 1))) (l := moreL) hs (ev_var (v := .ref a) rfl) ?_ more_len.1 more_len.2).imp fun v H3 _ hv => hout moreL more_prn v hv
              rw [← hcr]
              exact ev_ifB (m := n + 1 + (most - i)) (b := false) (et_is (et_test (ev_op2 (ev_var rfl) ev_c fun H3 _ => rv_gtI)) (decide_eq_false hway)) (fun z => nomatch z) (fun _ => ev_var rfl)
          · obtain ⟨x, z, rfl, ⟨hz1, hz2⟩, rfl⟩ := hu
            exact ⟨prn_app hp hz1, by rw [List.length_append]; omega⟩
        · obtain ⟨u, rfl, hu1, hu2⟩ := hv
          exact ⟨u, some w, rfl, hu1, hu2⟩
      · -- behind the loop
        obtain ⟨s, y, rfl, hp, hl⟩ := hI
        rw [List.length_map, List.length_range] at hl
        have hl1 : 0 < s.length := by omega
        have hl2 : s.length ≤ most := by omega
        refine StF.more (n := n + 1) ?_ (by omega)
        refine q_asgG (m := n) (G := fun v => ∃ i, v = .int i ∧ 0 ≤ i ∧ i < (s.length : Int)) (ev_next hs (ev_var rfl) (ev_lenS (ev_var rfl) (by omega)) (by omega) (by omega)) fun v hv => ?_
        obtain ⟨at_, rfl, ha0, ha1⟩ := hv
        refine s_ret (m := n) (p := tx fun s => prn s ∧ inky s ∧ 0 < s.length ∧ s.length ≤ most) ?_ fun v H2 e2 hv => q v H2 (R.trans e1 e2) hv
        refine ev_ifB (m := n) (b := !decide (stripL s [32] = [])) (et_test (ev_op2 (m := n) (x := sv (stripL s [32])) (y := sv []) (ev_strip0 (ev_var rfl) (ev_str (l := [32]) (by decide +kernel)) rfl (by omega)) (ev_str (by decide +kernel)) fun H3 _ => rv_neS)) (fun hb => ?_) (fun hb => ?_)
        · refine EvP.tx (ev_var rfl) ⟨hp, ?_, hl1, hl2⟩
          have hn : ¬ stripL s [32] = [] := by
            intro z
            rw [decide_eq_true z] at hb
            cases hb
          refine Classical.byContradiction fun hz => hn (strip_nil.mpr fun c hc => ?_)
          refine List.mem_singleton.mpr (Classical.byContradiction fun h3 => hz ⟨c, hc, h3⟩)
        · have e1 : sl s none (some at_) = s.take at_.toNat := sl_to ha0
          have e2 : sl s (some (at_ + 1)) none = s.drop (at_ + 1).toNat := sl_from (by omega)
          refine EvP.tx (a := s.take at_.toNat ++ [120] ++ s.drop (at_ + 1).toNat) ?_ ⟨prn_app (prn_app (prn_take hp) (by intro c hc; rw [List.mem_singleton.mp hc]; decide)) (prn_drop hp), ⟨120, by simp, by decide⟩, by simp only [List.length_append, List.length_singleton]; omega, by simp only [List.length_append, List.length_take, List.length_drop, List.length_singleton]; omega⟩
          refine ev_op2 (m := n) (x := sv (s.take at_.toNat ++ [120])) (y := sv (s.drop (at_ + 1).toNat)) (ev_op2 (m := n) (x := sv (s.take at_.toNat)) (y := sv [120]) (ev_is (ev_sl (m := n) (k := n) (p := is (sv s)) (ev_var rfl) eo_none (eo_some (ev_var rfl)) fun x H3 _ hx => by rw [show x = sv s from hx]; exact rs_S (by omega)) (by rw [e1])) (ev_str (by decide +kernel)) fun H3 _ => rv_addS (by simp; omega)) ?_ fun H3 _ => rv_addS (by simp; omega)
          exact ev_is (ev_sl (m := n) (k := n) (p := is (sv s)) (ev_var rfl) (eo_some (ev_op2 (m := n) (ev_var rfl) ev_c fun H3 _ => rv_addI)) eo_none fun x H3 _ hx => by rw [show x = sv s from hx]; exact rs_S (by omega)) (by rw [e2])

end
end My
namespace My
open PySem PySem.Spec PyProof.Rows L2
-- plain
/-! names by their codes: what the program reads is what the law reads -/
def isWordL (l : Codes) : Bool := decide (1 ≤ l.length ∧ l.length ≤ 12) && (!decide (l = [115, 101, 108, 102]) && l.all fun c => decide (97 ≤ c ∧ c ≤ 122))
/-- a text between marks that no backslash stands before -/
def sp (m : Nat) : Codes → Codes → List Codes
  | acc, [] => [acc]
  | acc, [c] => if c = m then [acc, []] else [acc ++ [c]]
  | acc, c :: d :: r => if c = m then acc :: sp m [] (d :: r) else if c = 92 then sp m (acc ++ [92, d]) r else sp m (acc ++ [c]) (d :: r)
def isSep (c : Nat) : Bool := decide (c = 44) || decide (c = 43)
/-- up to the next comma or plus sign, and the rest from there on -/
def cut2 : Codes → Codes × Codes
  | [] => ([], [])
  | [c] => if isSep c then ([], [c]) else ([c], [])
  | c :: d :: r => if isSep c then ([], c :: d :: r) else if c = 92 then (92 :: d :: (cut2 r).1, (cut2 r).2) else (c :: (cut2 (d :: r)).1, (cut2 (d :: r)).2)
/-- without backslashes -/
def fnd : Codes → Codes
  | [] => []
  | [c] => [c]
  | c :: d :: r => if c = 92 then d :: fnd r else c :: fnd (d :: r)
def must (n i c : Nat) : Bool := decide (c = 44 ∨ c = 43 ∨ c = 61 ∨ c = 92) || (decide (c = 32) && decide (i = 0 ∨ i + 1 = n))
def escF (n : Nat) : Nat → Codes → Codes
  | _, [] => []
  | i, c :: r => (if must n i c then [92] else []) ++ (c :: escF n (i + 1) r)
def escL (l : Codes) : Codes := escF l.length 0 l
def mustF (n : Nat) : Nat → Codes → List Bool
  | _, [] => []
  | i, c :: r => must n i c :: mustF n (i + 1) r
/-- signs and whether a backslash stood before each; none: a backslash at the end -/
def bare1 : Codes → Option (Codes × List Bool)
  | [] => some ([], [])
  | [c] => if c = 92 then none else some ([c], [false])
  | c :: d :: r => if c = 92 then (bare1 r).map fun q => (d :: q.1, true :: q.2) else (bare1 (d :: r)).map fun q => (c :: q.1, false :: q.2)
def bareL (raw : Codes) : Option Codes := match bare1 raw with
  | none => none
  | some (f, fl) => if fl = mustF f.length 0 f then some f else none
def valP (raw : Codes) : Option Codes := if escL (fnd raw) = raw then some (fnd raw) else none
def enc : Codes → List Bool → Codes
  | c :: r, true :: bs => 92 :: c :: enc r bs
  | c :: r, false :: bs => c :: enc r bs
  | _, _ => []
theorem escF_enc (n : Nat) : ∀ (i : Nat) (l : Codes), escF n i l = enc l (mustF n i l)
  | _, [] => rfl
  | i, c :: r => by
    unfold escF mustF
    cases h : must n i c with
    | true => simp only [if_true, List.cons_append, List.nil_append, enc, escF_enc n (i + 1) r]
    | false => simp only [Bool.false_eq_true, if_false, List.nil_append, enc, escF_enc n (i + 1) r]
theorem bare1_enc : ∀ {raw f : Codes} {fl : List Bool}, bare1 raw = some (f, fl) → raw = enc f fl ∧ fnd raw = f
  | [], _, _, h => by cases h; exact ⟨rfl, rfl⟩
  | [c], _, _, h => by
    unfold bare1 at h
    split at h
    · cases h
    · cases h; exact ⟨rfl, rfl⟩
  | c :: d :: r, _, _, h => by
    unfold bare1 at h
    split at h
    · next hc =>
      obtain ⟨q, hq, e⟩ := Option.map_eq_some_iff.mp h
      cases e
      obtain ⟨h1, h2⟩ := bare1_enc (raw := r) (f := q.1) (fl := q.2) hq
      refine ⟨?_, ?_⟩
      · rw [hc]; show 92 :: d :: r = 92 :: d :: enc q.1 q.2; rw [← h1]
      · unfold fnd; rw [if_pos hc, h2]
    · next hc =>
      obtain ⟨q, hq, e⟩ := Option.map_eq_some_iff.mp h
      cases e
      obtain ⟨h1, h2⟩ := bare1_enc (raw := d :: r) (f := q.1) (fl := q.2) hq
      refine ⟨?_, ?_⟩
      · show c :: d :: r = c :: enc q.1 q.2; rw [← h1]
      · unfold fnd; rw [if_neg hc, h2]
theorem enc_bare (n : Nat) : ∀ (i : Nat) (f : Codes), bare1 (enc f (mustF n i f)) = some (f, mustF n i f)
  | _, [] => rfl
  | i, c :: r => by
    have ih := enc_bare n (i + 1) r
    unfold mustF
    cases h : must n i c with
    | true =>
      show bare1 (92 :: c :: enc r (mustF n (i + 1) r)) = _
      unfold bare1
      rw [if_pos rfl, ih]
      rfl
    | false =>
      have hc : c ≠ 92 := fun e => by
        rw [e] at h
        unfold must at h
        simp at h
      show bare1 (c :: enc r (mustF n (i + 1) r)) = _
      cases he : enc r (mustF n (i + 1) r) with
      | nil =>
        rw [he] at ih
        have e0 : bare1 [] = some ([], []) := rfl
        rw [e0] at ih
        have ih := Option.some.inj ih
        have h1 : ([] : Codes) = r := congrArg Prod.fst ih
        have h2 : ([] : List Bool) = mustF n (i + 1) r := congrArg Prod.snd ih
        rw [← h2, ← h1]
        unfold bare1
        rw [if_neg hc]
      | cons d t =>
        rw [he] at ih
        unfold bare1
        rw [if_neg hc, ih]
        rfl
theorem valP_bare (raw : Codes) : valP raw = bareL raw := by
  unfold valP bareL
  have key : ∀ f, escL f = raw → bare1 raw = some (f, mustF f.length 0 f) := fun f e => by
    rw [← e]
    unfold escL
    rw [escF_enc]
    exact enc_bare f.length 0 f
  cases h : bare1 raw with
  | none =>
    rw [if_neg]
    intro e
    rw [key _ e] at h
    cases h
  | some q =>
    obtain ⟨f, fl⟩ := q
    obtain ⟨h1, h2⟩ := bare1_enc h
    rw [h2]
    show (if escL f = raw then some f else none) = if fl = mustF f.length 0 f then some f else none
    by_cases e : fl = mustF f.length 0 f
    · rw [if_pos e, if_pos]
      unfold escL
      rw [escF_enc, ← e, ← h1]
    · rw [if_neg e, if_neg]
      intro z
      have := key f z
      rw [h] at this
      exact e (congrArg Prod.snd (Option.some.inj this))
/-! ### a value that can stand in a relative name -/
def isPlainL (l : Codes) : Bool := !decide (l = []) && (!decide (10 ∈ l) && (decide (l.length ≤ 60) && !decide (plainL l = [])))
def isTextL (l : Codes) : Bool := decide (1 ≤ l.length ∧ l.length ≤ 60) && (!decide (10 ∈ l) && !decide (stripL l [32] = []))
theorem lo1_32 {c : Nat} : PyProof.Rows.lo1 c = 32 ↔ c = 32 := by
  unfold PyProof.Rows.lo1
  split <;> omega
theorem wdA_none : ∀ (l acc : Codes), wdA acc l = [] ↔ acc = [] ∧ ∀ c ∈ l, c = 32
  | [], acc => by
    rw [wdA_nil]
    unfold ne1
    split
    · next h => exact ⟨fun _ => ⟨h, fun c hc => by cases hc⟩, fun _ => rfl⟩
    · next h => exact ⟨fun z => (by cases z), fun z => absurd z.1 h⟩
  | c :: r, acc => by
    by_cases hc : c = 32
    · subst hc
      rw [wdA_sp]
      have ih := wdA_none r []
      constructor
      · intro h
        obtain ⟨h1, h2⟩ := List.append_eq_nil_iff.mp h
        refine ⟨?_, fun d hd => ?_⟩
        · unfold ne1 at h1
          split at h1
          · next h => exact h
          · cases h1
        · rcases List.mem_cons.mp hd with rfl | hd
          · rfl
          · exact (ih.mp h2).2 d hd
      · rintro ⟨rfl, h⟩
        rw [ih.mpr ⟨rfl, fun d hd => h d (List.mem_cons_of_mem _ hd)⟩]
        rfl
    · rw [wdA_ch _ _ hc, wdA_none r (acc ++ [c])]
      constructor
      · rintro ⟨h, _⟩
        simp at h
      · rintro ⟨_, h⟩
        exact absurd (h c (List.mem_cons_self ..)) hc
theorem joinL_ne : ∀ {ws : List Codes}, ws ≠ [] → (∀ x ∈ ws, x ≠ []) → TL.joinL [32] ws ≠ []
  | [], h, _ => absurd rfl h
  | [x], _, h => by rw [joinL_one]; exact h x (List.mem_cons_self ..)
  | x :: y :: r, _, h => by
    rw [joinL_cons2]
    intro e
    simp at e
theorem plainL_nil (l : Codes) : plainL l = [] ↔ ∀ c ∈ l, c = 32 := by
  unfold plainL
  have h := wdA_none (lowL l) []
  constructor
  · intro e c hc
    have : wds (lowL l) = [] := Classical.byContradiction fun z => joinL_ne z (fun x hx => wds_mem hx) e
    exact lo1_32.mp ((h.mp this).2 _ (List.mem_map_of_mem hc))
  · intro e
    have : wds (lowL l) = [] := h.mpr ⟨rfl, fun c hc => by
      obtain ⟨d, hd, rfl⟩ := List.mem_map.mp hc
      exact lo1_32.mpr (e d hd)⟩
    rw [this]
    rfl
theorem plain_strip (l : Codes) : decide (plainL l = []) = decide (stripL l [32] = []) := by
  have h1 := plainL_nil l
  have h2 := strip_nil (a := l) (b := [32])
  have h3 : plainL l = [] ↔ stripL l [32] = [] := by
    rw [h1, h2]
    constructor
    · intro h c hc; rw [h c hc]; exact List.mem_singleton.mpr rfl
    · intro h c hc; exact List.mem_singleton.mp (h c hc)
  by_cases h : plainL l = []
  · rw [decide_eq_true h, decide_eq_true (h3.mp h)]
  · rw [decide_eq_false h, decide_eq_false fun z => h (h3.mpr z)]
theorem plain_text_same (l : Codes) : isPlainL l = isTextL l := by
  unfold isPlainL isTextL
  rw [plain_strip]
  cases l with
  | nil => rfl
  | cons c r =>
    have e1 : decide (c :: r = []) = false := rfl
    rw [e1]
    by_cases h : (c :: r).length ≤ 60
    · rw [decide_eq_true h, decide_eq_true (show 1 ≤ (c :: r).length ∧ (c :: r).length ≤ 60 from ⟨by simp, h⟩)]
      cases decide (10 ∈ c :: r) <;> rfl
    · rw [decide_eq_false h, decide_eq_false (show ¬ (1 ≤ (c :: r).length ∧ (c :: r).length ≤ 60) from fun z => h z.2)]
      cases decide (10 ∈ c :: r) <;> rfl
/-! ### one pair -/
abbrev Pair := Codes × Codes
def pairLaw (q : Codes) : Option Pair := match sp 61 [] q with
  | [w, raw] => (match bareL raw with
    | some v => if isWordL w && isTextL v then some (w, v) else none
    | none => none)
  | _ => none
def letters (w : Codes) : Prop := ∀ c ∈ w, 97 ≤ c ∧ c ≤ 122
theorem isWordL_letters {w : Codes} (h : isWordL w = true) : letters w := by
  unfold isWordL at h
  rw [Bool.and_eq_true, Bool.and_eq_true] at h
  intro c hc
  exact of_decide_eq_true (List.all_eq_true.mp h.2.2 c hc)
theorem sp_plain {m c : Nat} (acc r : Codes) (hm : c ≠ m) (h92 : c ≠ 92) : sp m acc (c :: r) = sp m (acc ++ [c]) r := by
  cases r with
  | nil => unfold sp; rw [if_neg hm]
  | cons d t => conv => lhs; unfold sp
                rw [if_neg hm, if_neg h92]
theorem sp_plain' {m c : Nat} {acc : Codes} (hm : c ≠ m) : sp m acc [c] = [acc ++ [c]] := by
  unfold sp; rw [if_neg hm]
theorem sp_mark (m : Nat) (acc r : Codes) : sp m acc (m :: r) = acc :: sp m [] r := by
  cases r with
  | nil => simp [sp]
  | cons d t => conv => lhs; unfold sp
                rw [if_pos rfl]
theorem sp_word {w : Codes} (hw : letters w) : ∀ (acc raw : Codes), sp 61 acc (w ++ 61 :: raw) = (acc ++ w) :: sp 61 [] raw := by
  induction w with
  | nil => intro acc raw; rw [List.nil_append, sp_mark, List.append_nil]
  | cons c r ih =>
    intro acc raw
    have hc := hw c (List.mem_cons_self ..)
    rw [List.cons_append, sp_plain _ _ (by omega) (by omega), ih fun x hx => hw x (List.mem_cons_of_mem _ hx)]
    rw [List.append_assoc]
    rfl
theorem sp_cons2 (m : Nat) (acc : Codes) (c d : Nat) (r : Codes) : sp m acc (c :: d :: r) = if c = m then acc :: sp m [] (d :: r) else if c = 92 then sp m (acc ++ [92, d]) r else sp m (acc ++ [c]) (d :: r) := by
  conv => lhs; unfold sp
/-- every piece's beginning -/
theorem sp_head : ∀ (m : Nat) (l acc : Codes), ∃ p ps, sp m acc l = p :: ps ∧ ∃ t, p = acc ++ t ∧ (ps = [] → t = l) ∧ (ps ≠ [] → ∃ l2, l = t ++ m :: l2 ∧ ps = sp m [] l2)
  | m, [], acc => ⟨acc, [], rfl, [], by simp, fun _ => rfl, fun z => absurd rfl z⟩
  | m, [c], acc => by
    have e0 : sp m acc [c] = if c = m then [acc, []] else [acc ++ [c]] := rfl
    rw [e0]
    by_cases h : c = m
    · rw [if_pos h, h]
      exact ⟨acc, [[]], rfl, [], by simp, fun z => (by cases z), fun _ => ⟨[], rfl, rfl⟩⟩
    · rw [if_neg h]
      exact ⟨_, [], rfl, [c], rfl, fun _ => rfl, fun z => absurd rfl z⟩
  | m, c :: d :: r, acc => by
    rw [sp_cons2]
    by_cases h : c = m
    · rw [if_pos h, h]
      refine ⟨acc, _, rfl, [], by simp, fun z => ?_, fun _ => ⟨d :: r, rfl, rfl⟩⟩
      obtain ⟨p, ps, e, _⟩ := sp_head m (d :: r) []
      rw [e] at z
      cases z
    · rw [if_neg h]
      by_cases h2 : c = 92
      · rw [if_pos h2, h2]
        obtain ⟨p, ps, e, t, e2, e3, e4⟩ := sp_head m r (acc ++ [92, d])
        refine ⟨p, ps, e, 92 :: d :: t, by rw [e2, List.append_assoc]; rfl, fun z => by rw [e3 z], fun z => ?_⟩
        obtain ⟨l2, e5, e6⟩ := e4 z
        exact ⟨l2, by rw [e5]; rfl, e6⟩
      · rw [if_neg h2]
        obtain ⟨p, ps, e, t, e2, e3, e4⟩ := sp_head m (d :: r) (acc ++ [c])
        refine ⟨p, ps, e, c :: t, by rw [e2, List.append_assoc]; rfl, fun z => by rw [e3 z], fun z => ?_⟩
        obtain ⟨l2, e5, e6⟩ := e4 z
        exact ⟨l2, by rw [e5]; rfl, e6⟩
theorem pairLaw_form {q : Codes} {w v : Codes} (h : pairLaw q = some (w, v)) : ∃ raw, q = w ++ 61 :: raw ∧ isWordL w = true ∧ isTextL v = true ∧ bareL raw = some v := by
  unfold pairLaw at h
  obtain ⟨p, ps, e, t, e2, e3, e4⟩ := sp_head 61 q []
  rw [e] at h
  cases ps with
  | nil => cases h
  | cons p2 ps =>
    cases ps with
    | cons => cases h
    | nil =>
      obtain ⟨l2, e5, e6⟩ := e4 (by simp)
      obtain ⟨p3, ps3, e7, t3, e8, e9, _⟩ := sp_head 61 l2 []
      rw [e7] at e6
      cases e6
      have e9 := e9 rfl
      rw [List.nil_append] at e2 e8
      rw [← e2] at e5
      have e10 : p2 = l2 := e8.trans e9
      rw [← e10] at e5
      dsimp only at h
      cases hb : bareL p2 with
      | none => rw [hb] at h; cases h
      | some v2 =>
        rw [hb] at h
        dsimp only at h
        by_cases hc : (isWordL p && isTextL v2) = true
        · rw [if_pos hc] at h
          cases h
          rw [Bool.and_eq_true] at hc
          exact ⟨p2, e5, hc.1, hc.2, hb⟩
        · rw [if_neg hc] at h
          cases h
/-- raw has an unescaped equals sign: then it tells nothing -/
theorem bare_eq {raw : Codes} : ∀ {f : Codes} {fl : List Bool} {n i : Nat}, bare1 raw = some (f, fl) → fl = mustF n i f → ∀ acc, sp 61 acc raw = [acc ++ raw] := by
  have main : ∀ (k : Nat) (raw f : Codes) (fl : List Bool) (n i : Nat), raw.length ≤ k → bare1 raw = some (f, fl) → fl = mustF n i f → ∀ acc, sp 61 acc raw = [acc ++ raw] := by
    intro k
    induction k with
    | zero =>
      intro raw f fl n i hk h _ acc
      have : raw = [] := List.length_eq_zero_iff.mp (Nat.le_zero.mp hk)
      subst this
      simp [sp]
    | succ k ih =>
      intro raw f fl n i hk h hm acc
      match raw, hk, h with
      | [], _, _ => simp [sp]
      | [c], _, h =>
        unfold bare1 at h
        split at h
        · cases h
        · cases h
          have h0 : must n i c = false := (List.cons.inj hm).1.symm
          have hc : c ≠ 61 := fun e => by rw [e] at h0; unfold must at h0; simp at h0
          unfold sp
          rw [if_neg hc]
      | c :: d :: r, hk, h =>
        unfold bare1 at h
        split at h
        · next hc =>
          obtain ⟨q, hq, e⟩ := Option.map_eq_some_iff.mp h
          cases e
          have h1 := ih r q.1 q.2 n (i + 1) (by simp only [List.length_cons] at hk; omega) hq (List.cons.inj hm).2 (acc ++ [92, d])
          unfold sp
          rw [if_neg (by rw [hc]; decide), if_pos hc, h1, hc, List.append_assoc]
          rfl
        · next hc =>
          obtain ⟨q, hq, e⟩ := Option.map_eq_some_iff.mp h
          cases e
          have h0 : must n i c = false := (List.cons.inj hm).1.symm
          have hc2 : c ≠ 61 := fun e => by rw [e] at h0; unfold must at h0; simp at h0
          have h1 := ih (d :: r) q.1 q.2 n (i + 1) (by simp only [List.length_cons] at hk ⊢; omega) hq (List.cons.inj hm).2 (acc ++ [c])
          unfold sp
          rw [if_neg hc2, if_neg hc, h1, List.append_assoc]
          rfl
  exact fun {f fl n i} h hm acc => main raw.length raw f fl n i (Nat.le_refl _) h hm acc
theorem pairLaw_word {w raw : Codes} (hw : isWordL w = true) : pairLaw (w ++ 61 :: raw) = match valP raw with
    | some v => if isPlainL v then some (w, v) else none
    | none => none := by
  unfold pairLaw
  rw [sp_word (isWordL_letters hw), List.nil_append, valP_bare]
  cases hb : bareL raw with
  | none =>
    obtain ⟨p, ps, e, t, e2, e3, e4⟩ := sp_head 61 raw []
    rw [e]
    cases ps with
    | cons => rfl
    | nil =>
      have e3 := e3 rfl
      rw [List.nil_append] at e2
      subst e2 e3
      dsimp only
      rw [hb]
  | some v =>
    have hb2 := hb
    unfold bareL at hb2
    cases h1 : bare1 raw with
    | none => rw [h1] at hb2; cases hb2
    | some q =>
      obtain ⟨f, fl⟩ := q
      rw [h1] at hb2
      dsimp only at hb2
      by_cases hm : fl = mustF f.length 0 f
      · rw [if_pos hm] at hb2
        cases hb2
        rw [bare_eq h1 hm [], List.nil_append]
        dsimp only
        rw [hb]
        dsimp only
        rw [hw, Bool.true_and, plain_text_same]
      · rw [if_neg hm] at hb2
        cases hb2

end My
namespace My
open PySem PySem.Spec PyProof.Rows L2
-- plain
/-! what the program's loop reads is what the law's pieces tell -/
theorem cut2_cons2 (c d : Nat) (r : Codes) : cut2 (c :: d :: r) = if isSep c then ([], c :: d :: r) else if c = 92 then (92 :: d :: (cut2 r).1, (cut2 r).2) else (c :: (cut2 (d :: r)).1, (cut2 (d :: r)).2) := by
  conv => lhs; unfold cut2
theorem cut2_one (c : Nat) : cut2 [c] = if isSep c then ([], [c]) else ([c], []) := rfl
theorem cut2_app : ∀ (l : Codes), (cut2 l).1 ++ (cut2 l).2 = l
  | [] => rfl
  | [c] => by rw [cut2_one]; split <;> rfl
  | c :: d :: r => by
    rw [cut2_cons2]
    split
    · rfl
    · split
      · next h => show 92 :: d :: ((cut2 r).1 ++ (cut2 r).2) = _; rw [cut2_app r, h]
      · show c :: ((cut2 (d :: r)).1 ++ (cut2 (d :: r)).2) = _; rw [cut2_app (d :: r)]
theorem cut2_sep : ∀ (l : Codes) {c : Nat} {r : Codes}, (cut2 l).2 = c :: r → c = 44 ∨ c = 43
  | [], _, _, h => by cases h
  | [a], c, r, h => by
    rw [cut2_one] at h
    split at h
    · next hs => cases h; unfold isSep at hs; simpa using hs
    · cases h
  | a :: d :: t, c, r, h => by
    rw [cut2_cons2] at h
    split at h
    · next hs => cases h; unfold isSep at hs; simpa using hs
    · split at h
      · exact cut2_sep t h
      · exact cut2_sep (d :: t) h
theorem sep_no {c m : Nat} (hm : m = 44 ∨ m = 43) (h : ¬ isSep c = true) : c ≠ m := by
  unfold isSep at h
  intro e
  apply h
  rcases hm with z | z <;> simp [e, z]
theorem cut2_end {m : Nat} (hm : m = 44 ∨ m = 43) : ∀ (l a : Codes), sp m a (cut2 l).1 = [a ++ (cut2 l).1]
  | [], a => by show sp m a [] = _; unfold sp; rw [show a ++ (cut2 []).1 = a from List.append_nil a]
  | [c], a => by
    rw [cut2_one]
    split
    · show sp m a [] = [a ++ []]; rw [List.append_nil]; rfl
    · next h => show sp m a [c] = [a ++ [c]]; rw [sp_plain' (sep_no hm h)]
  | c :: d :: r, a => by
    rw [cut2_cons2]
    split
    · show sp m a [] = [a ++ []]; rw [List.append_nil]; rfl
    · next h =>
      split
      · next h2 =>
        show sp m a (92 :: d :: (cut2 r).1) = [a ++ 92 :: d :: (cut2 r).1]
        rw [sp_cons2, if_neg (by rcases hm with z | z <;> rw [z] <;> decide), if_pos rfl, cut2_end hm r]
        simp
      · next h2 =>
        show sp m a (c :: (cut2 (d :: r)).1) = [a ++ c :: (cut2 (d :: r)).1]
        rw [sp_plain _ _ (sep_no hm h) h2, cut2_end hm (d :: r)]
        simp
theorem cut2_mark {m : Nat} (hm : m = 44 ∨ m = 43) : ∀ (l a : Codes) {x : Nat} {y : Codes}, (cut2 l).2 = x :: y → ∀ (z : Codes), sp m a ((cut2 l).1 ++ z) = sp m (a ++ (cut2 l).1) z
  | [], a, _, _, h, _ => by cases h
  | [c], a, x, y, h, z => by
    rw [cut2_one] at h ⊢
    split
    · show sp m a z = sp m (a ++ []) z; rw [List.append_nil]
    · next hs => rw [if_neg hs] at h; cases h
  | c :: d :: r, a, x, y, h, z => by
    rw [cut2_cons2] at h ⊢
    split
    · show sp m a z = sp m (a ++ []) z; rw [List.append_nil]
    · next hs =>
      rw [if_neg hs] at h
      split
      · next h2 =>
        rw [if_pos h2] at h
        show sp m a (92 :: d :: ((cut2 r).1 ++ z)) = sp m (a ++ 92 :: d :: (cut2 r).1) z
        rw [sp_cons2, if_neg (by rcases hm with z | z <;> rw [z] <;> decide), if_pos rfl, cut2_mark hm r _ h]
        simp
      · next h2 =>
        rw [if_neg h2] at h
        show sp m a (c :: ((cut2 (d :: r)).1 ++ z)) = sp m (a ++ c :: (cut2 (d :: r)).1) z
        rw [sp_plain _ _ (sep_no hm hs) h2, cut2_mark hm (d :: r) _ h]
        simp
theorem sp_acc (m : Nat) : ∀ (l acc : Codes), ∃ p ps, sp m [] l = p :: ps ∧ sp m acc l = (acc ++ p) :: ps := by
  have main : ∀ (k : Nat) (l a b : Codes), l.length ≤ k → ∃ p ps, sp m a l = (a ++ p) :: ps ∧ sp m b l = (b ++ p) :: ps := by
    intro k
    induction k with
    | zero =>
      intro l a b h
      have : l = [] := List.length_eq_zero_iff.mp (Nat.le_zero.mp h)
      subst this
      exact ⟨[], [], by simp [sp], by simp [sp]⟩
    | succ k ih =>
      intro l a b h
      match l, h with
      | [], _ => exact ⟨[], [], by simp [sp], by simp [sp]⟩
      | [c], _ =>
        by_cases hc : c = m
        · exact ⟨[], [[]], by rw [hc, sp_mark]; simp [sp], by rw [hc, sp_mark]; simp [sp]⟩
        · exact ⟨[c], [], sp_plain' hc, sp_plain' hc⟩
      | c :: d :: r, h =>
        simp only [List.length_cons] at h
        rw [sp_cons2, sp_cons2]
        by_cases hc : c = m
        · rw [if_pos hc, if_pos hc]
          exact ⟨[], _, by rw [List.append_nil], by rw [List.append_nil]⟩
        · rw [if_neg hc, if_neg hc]
          by_cases h2 : c = 92
          · rw [if_pos h2, if_pos h2]
            obtain ⟨p, ps, e1, e2⟩ := ih r (a ++ [92, d]) (b ++ [92, d]) (by omega)
            exact ⟨92 :: d :: p, ps, by rw [e1]; simp, by rw [e2]; simp⟩
          · rw [if_neg h2, if_neg h2]
            obtain ⟨p, ps, e1, e2⟩ := ih (d :: r) (a ++ [c]) (b ++ [c]) (by simp only [List.length_cons]; omega)
            exact ⟨c :: p, ps, by rw [e1]; simp, by rw [e2]; simp⟩
  intro l acc
  obtain ⟨p, ps, e1, e2⟩ := main l.length l [] acc (Nat.le_refl _)
  exact ⟨p, ps, e1, e2⟩
theorem cut2_len {l : Codes} {c : Nat} {r : Codes} (h : (cut2 l).2 = c :: r) : r.length < l.length := by
  have := congrArg List.length (cut2_app l)
  rw [h, List.length_append, List.length_cons] at this
  omega
/-- the pieces of a name, leaf by leaf -/
def groups (l : Codes) : List (List Codes) :=
  match h : (cut2 l).2 with
  | [] => [[(cut2 l).1]]
  | c :: r => if c = 44 then [(cut2 l).1] :: groups r else match groups r with
    | g :: gs => ((cut2 l).1 :: g) :: gs
    | [] => [[(cut2 l).1]]
termination_by l.length
decreasing_by all_goals exact cut2_len h
theorem groups_nil {l : Codes} (h : (cut2 l).2 = []) : groups l = [[(cut2 l).1]] := by
  rw [groups]; split
  · rfl
  · next h2 => rw [h] at h2; cases h2
theorem groups_comma {l r : Codes} (h : (cut2 l).2 = 44 :: r) : groups l = [(cut2 l).1] :: groups r := by
  rw [groups]; split
  · next h2 => rw [h] at h2; cases h2
  · next h2 => rw [h] at h2; cases h2; rw [if_pos rfl]
theorem groups_plus {l r : Codes} (h : (cut2 l).2 = 43 :: r) : groups l = match groups r with
    | g :: gs => ((cut2 l).1 :: g) :: gs
    | [] => [[(cut2 l).1]] := by
  rw [groups]; split
  · next h2 => rw [h] at h2; cases h2
  · next h2 => rw [h] at h2; cases h2; rw [if_neg (by decide)]
theorem groups_sp : ∀ (k : Nat) (l : Codes), l.length ≤ k → groups l = (sp 44 [] l).map (sp 43 []) := by
  intro k
  induction k with
  | zero =>
    intro l h
    have : l = [] := List.length_eq_zero_iff.mp (Nat.le_zero.mp h)
    subst this
    rw [groups_nil rfl]
    rfl
  | succ k ih =>
    intro l hk
    have ha := cut2_app l
    cases h : (cut2 l).2 with
    | nil =>
      rw [h, List.append_nil] at ha
      rw [groups_nil h]
      have e := cut2_end (m := 44) (Or.inl rfl) l []
      rw [ha] at e ⊢
      have e2 := cut2_end (m := 43) (Or.inr rfl) l []
      rw [ha] at e2
      rw [e, List.map_cons, List.map_nil, List.nil_append, e2, List.nil_append]
    | cons c r =>
      have hl := cut2_len h
      have ihr := ih r (by omega)
      rw [h] at ha
      have e2 := cut2_end (m := 43) (Or.inr rfl) l []
      rcases cut2_sep l h with z | z
      · subst z
        rw [groups_comma h, ihr]
        have e := cut2_mark (m := 44) (Or.inl rfl) l [] h (44 :: r)
        rw [ha, sp_mark] at e
        rw [e, List.map_cons, List.nil_append, e2, List.nil_append]
      · subst z
        have e := cut2_mark (m := 44) (Or.inl rfl) l [] h (43 :: r)
        rw [ha, sp_plain _ _ (by decide) (by decide), List.nil_append] at e
        obtain ⟨p, ps, e3, e4⟩ := sp_acc 44 r ((cut2 l).1 ++ [43])
        rw [groups_plus h, ihr, e, e3, e4, List.map_cons, List.map_cons]
        dsimp only
        have e5 := cut2_mark (m := 43) (Or.inr rfl) l [] h (43 :: p)
        rw [sp_mark, List.nil_append] at e5
        rw [List.append_assoc]
        show _ = sp 43 [] ((cut2 l).1 ++ 43 :: p) :: _
        rw [e5]
/-! ### the law's reading -/
def leafL (acc : List Pair) : List Codes → Option (List Pair)
  | [] => some acc
  | p :: ps => match pairLaw p with
    | none => none
    | some q => if q.1 ∈ acc.map Prod.fst then none else leafL (acc ++ [q]) ps
def lawLeaf (l : Codes) : Option (List Pair) := match leafL [] (sp 43 [] l) with
  | none => none
  | some ps => if ps.length ≤ 4 then some ps else none
def lawName (l : Codes) : Option (List (List Pair)) :=
  let ls := if l = [] then [] else (sp 44 [] l).map lawLeaf
  if none ∈ ls ∨ 12 < ls.length then none else some (ls.filterMap id)
/-! ### the program's reading -/
def pairP (rest : Codes) : Option (Pair × Codes) :=
  if 61 ∈ rest then
    let w := rest.takeWhile (fun c => !decide (c = 61))
    let a := (rest.dropWhile (fun c => !decide (c = 61))).tail
    if isWordL w then match valP (cut2 a).1 with
      | some v => if isPlainL v then some ((w, v), (cut2 a).2) else none
      | none => none
    else none
  else none
theorem cut2_plain {c : Nat} (r : Codes) (h : ¬ isSep c = true) (h2 : c ≠ 92) : cut2 (c :: r) = (c :: (cut2 r).1, (cut2 r).2) := by
  cases r with
  | nil => rw [cut2_one, if_neg h]; rfl
  | cons d t => rw [cut2_cons2, if_neg h, if_neg h2]
theorem cut2_word {w : Codes} (hw : letters w) (a : Codes) : cut2 (w ++ 61 :: a) = (w ++ 61 :: (cut2 a).1, (cut2 a).2) := by
  induction w with
  | nil => exact cut2_plain a (by decide) (by decide)
  | cons c r ih =>
    have hc := hw c (List.mem_cons_self ..)
    have hs : ¬ isSep c = true := by unfold isSep; simp; omega
    rw [List.cons_append, cut2_plain _ hs (by omega), ih fun x hx => hw x (List.mem_cons_of_mem _ hx)]
    rfl
theorem take_word : ∀ {w : Codes} (_ : letters w) (a : Codes), (w ++ 61 :: a).takeWhile (fun c => !decide (c = 61)) = w ∧ (w ++ 61 :: a).dropWhile (fun c => !decide (c = 61)) = 61 :: a
  | [], _, a => ⟨rfl, rfl⟩
  | c :: r, hw, a => by
    have hc := hw c (List.mem_cons_self ..)
    have h1 : (!decide (c = 61)) = true := by rw [decide_eq_false (by omega)]; rfl
    obtain ⟨e1, e2⟩ := take_word (w := r) (fun x hx => hw x (List.mem_cons_of_mem _ hx)) a
    refine ⟨?_, ?_⟩
    · show ((c :: (r ++ 61 :: a)).takeWhile _) = _
      rw [List.takeWhile_cons_of_pos (p := fun c => !decide (c = 61)) h1, e1]
    · show ((c :: (r ++ 61 :: a)).dropWhile _) = _
      rw [List.dropWhile_cons_of_pos (p := fun c => !decide (c = 61)) h1, e2]
theorem split61 : ∀ {l : Codes}, 61 ∈ l → l = l.takeWhile (fun c => !decide (c = 61)) ++ 61 :: (l.dropWhile (fun c => !decide (c = 61))).tail
  | [], h => by cases h
  | c :: r, h => by
    by_cases hc : c = 61
    · subst hc; rfl
    · have h1 : (!decide (c = 61)) = true := by rw [decide_eq_false hc]; rfl
      rw [List.takeWhile_cons_of_pos (p := fun c => !decide (c = 61)) h1, List.dropWhile_cons_of_pos (p := fun c => !decide (c = 61)) h1, List.cons_append, ← split61 ((List.mem_cons.mp h).resolve_left fun z => hc z.symm)]
theorem pairP_law (rest : Codes) : pairP rest = (pairLaw (cut2 rest).1).map fun q => (q, (cut2 rest).2) := by
  cases hq : pairLaw (cut2 rest).1 with
  | some q =>
    obtain ⟨w, v⟩ := q
    obtain ⟨raw, e1, e2, e3, e4⟩ := pairLaw_form hq
    have hw := isWordL_letters e2
    have ha := cut2_app rest
    rw [e1, List.append_assoc] at ha
    have hr : rest = w ++ 61 :: (raw ++ (cut2 rest).2) := ha.symm
    obtain ⟨t1, t2⟩ := take_word hw (raw ++ (cut2 rest).2)
    rw [← hr] at t1 t2
    have hc := cut2_word hw (raw ++ (cut2 rest).2)
    rw [← hr] at hc
    have c1 : (cut2 (raw ++ (cut2 rest).2)).1 = raw := by
      have := e1.symm.trans (congrArg Prod.fst hc)
      exact ((List.cons.inj (List.append_cancel_left this)).2).symm
    have c2 : (cut2 (raw ++ (cut2 rest).2)).2 = (cut2 rest).2 := (congrArg Prod.snd hc).symm
    unfold pairP
    rw [if_pos (by rw [hr]; simp), t1, t2]
    dsimp only [List.tail_cons]
    rw [if_pos e2, c1, c2, valP_bare, e4]
    dsimp only
    rw [if_pos (by rw [plain_text_same]; exact e3)]
    rfl
  | none =>
    unfold pairP
    split
    · next h61 =>
      dsimp only
      split
      · next hw =>
        have hr := split61 h61
        generalize rest.takeWhile (fun c => !decide (c = 61)) = w at hr hw ⊢
        generalize (rest.dropWhile (fun c => !decide (c = 61))).tail = a at hr ⊢
        rw [hr, cut2_word (isWordL_letters hw)] at hq
        dsimp only at hq
        rw [pairLaw_word hw] at hq
        cases hv : valP (cut2 a).1 with
        | none => rfl
        | some v =>
          rw [hv] at hq
          dsimp only at hq ⊢
          split
          · next hp => rw [if_pos hp] at hq; cases hq
          · rfl
      · rfl
    · rfl
theorem pairP_len {rest r : Codes} {q : Pair} {c : Nat} (h : pairP rest = some (q, c :: r)) : r.length < rest.length := by
  rw [pairP_law] at h
  obtain ⟨q2, _, e⟩ := Option.map_eq_some_iff.mp h
  exact cut2_len (congrArg Prod.snd e)
def shortL (ls : List (List Pair)) : Bool := decide (ls.length ≤ 12) && ls.all fun l => decide (l.length ≤ 4)
/-- the loop of read_name from a place on -/
def readP (leaves : List (List Pair)) (pairs : List Pair) (rest : Codes) : Option (List (List Pair)) :=
  match h : pairP rest with
  | none => none
  | some (q, []) => if q.1 ∈ pairs.map Prod.fst then none else if shortL (leaves ++ [pairs ++ [q]]) then some (leaves ++ [pairs ++ [q]]) else none
  | some (q, c :: r) => if q.1 ∈ pairs.map Prod.fst then none else if c = 44 then readP (leaves ++ [pairs ++ [q]]) [] r else readP leaves (pairs ++ [q]) r
termination_by rest.length
decreasing_by all_goals exact pairP_len h
theorem readP_none {leaves : List (List Pair)} {pairs : List Pair} {rest : Codes} (h : pairP rest = none) : readP leaves pairs rest = none := by
  rw [readP]; split <;> simp_all
theorem readP_end {leaves : List (List Pair)} {pairs : List Pair} {rest : Codes} {q : Pair} (h : pairP rest = some (q, [])) : readP leaves pairs rest = if q.1 ∈ pairs.map Prod.fst then none else if shortL (leaves ++ [pairs ++ [q]]) then some (leaves ++ [pairs ++ [q]]) else none := by
  rw [readP]; split
  · next h2 => rw [h] at h2; cases h2
  · next h2 => rw [h] at h2; cases h2; rfl
  · next h2 => rw [h] at h2; cases h2
theorem readP_more {leaves : List (List Pair)} {pairs : List Pair} {rest r : Codes} {q : Pair} {c : Nat} (h : pairP rest = some (q, c :: r)) : readP leaves pairs rest = if q.1 ∈ pairs.map Prod.fst then none else if c = 44 then readP (leaves ++ [pairs ++ [q]]) [] r else readP leaves (pairs ++ [q]) r := by
  rw [readP]; split
  · next h2 => rw [h] at h2; cases h2
  · next h2 => rw [h] at h2; cases h2
  · next h2 => rw [h] at h2; cases h2; rfl
def goG (pairs : List Pair) : List (List Codes) → Option (List (List Pair))
  | [] => some []
  | g :: gs => match leafL pairs g with
    | none => none
    | some ps => (goG [] gs).map (ps :: ·)
def finL (leaves : List (List Pair)) : Option (List (List Pair)) → Option (List (List Pair))
  | none => none
  | some ls => if shortL (leaves ++ ls) then some (leaves ++ ls) else none
theorem groups_ne (l : Codes) : ∃ g gs, groups l = g :: gs := by
  cases h : (cut2 l).2 with
  | nil => exact ⟨_, _, groups_nil h⟩
  | cons c r =>
    rcases cut2_sep l h with z | z
    · subst z; exact ⟨_, _, groups_comma h⟩
    · subst z
      rw [groups_plus h]
      cases groups r with
      | nil => exact ⟨_, _, rfl⟩
      | cons g gs => exact ⟨_, _, rfl⟩
theorem goG_cons (pairs : List Pair) (g : List Codes) (gs : List (List Codes)) : goG pairs (g :: gs) = match leafL pairs g with
    | none => none
    | some ps => (goG [] gs).map (ps :: ·) := rfl
theorem leafL_cons (acc : List Pair) (p : Codes) (ps : List Codes) : leafL acc (p :: ps) = match pairLaw p with
    | none => none
    | some q => if q.1 ∈ acc.map Prod.fst then none else leafL (acc ++ [q]) ps := rfl
theorem leafL_nil (acc : List Pair) : leafL acc [] = some acc := rfl
theorem readP_go : ∀ (k : Nat) (rest : Codes), rest.length ≤ k → ∀ leaves pairs, readP leaves pairs rest = finL leaves (goG pairs (groups rest)) := by
  intro k
  induction k with
  | zero =>
    intro rest h leaves pairs
    have : rest = [] := List.length_eq_zero_iff.mp (Nat.le_zero.mp h)
    subst this
    rw [readP_none rfl, groups_nil rfl]
    rfl
  | succ k ih =>
    intro rest hk leaves pairs
    have hp := pairP_law rest
    cases hq : pairLaw (cut2 rest).1 with
    | none =>
      rw [hq] at hp
      rw [readP_none hp]
      cases h : (cut2 rest).2 with
      | nil => rw [groups_nil h]; rw [goG_cons, leafL_cons, hq]; rfl
      | cons c r =>
        rcases cut2_sep rest h with z | z
        · subst z; rw [groups_comma h]; rw [goG_cons, leafL_cons, hq]; rfl
        · subst z
          rw [groups_plus h]
          obtain ⟨g, gs, e⟩ := groups_ne r
          rw [e]
          dsimp only
          rw [goG_cons, leafL_cons, hq]; rfl
    | some q =>
      rw [hq] at hp
      have hp : pairP rest = some (q, (cut2 rest).2) := hp
      cases h : (cut2 rest).2 with
      | nil =>
        rw [h] at hp
        rw [readP_end hp, groups_nil h]
        rw [goG_cons, leafL_cons, hq]
        dsimp only
        split
        · rfl
        · rfl
      | cons c r =>
        have hl := cut2_len h
        rw [h] at hp
        rw [readP_more hp]
        rcases cut2_sep rest h with z | z
        · subst z
          rw [groups_comma h, if_pos rfl, ih r (by omega)]
          rw [goG_cons, leafL_cons, hq]
          dsimp only
          split
          · rfl
          · rw [leafL_nil]
            dsimp only
            cases goG [] (groups r) with
            | none => rfl
            | some ls =>
              show finL _ _ = finL _ (some _)
              unfold finL
              dsimp only
              rw [List.append_assoc]
              rfl
        · subst z
          rw [groups_plus h, if_neg (show ¬ (43 : Nat) = 44 by decide), ih r (by omega)]
          obtain ⟨g, gs, e⟩ := groups_ne r
          rw [e]
          dsimp only
          rw [goG_cons, goG_cons, leafL_cons, hq]
          dsimp only
          split
          · rfl
          · rfl
theorem go_law : ∀ (xs : List Codes), goG [] (xs.map (sp 43 [])) = none ∧ none ∈ xs.map lawLeaf ∨ ∃ ls, goG [] (xs.map (sp 43 [])) = some ls ∧ ls.length = xs.length ∧ ((none ∈ xs.map lawLeaf ↔ ¬ (ls.all fun l => decide (l.length ≤ 4)) = true)) ∧ ((ls.all fun l => decide (l.length ≤ 4)) = true → (xs.map lawLeaf).filterMap id = ls)
  | [] => Or.inr ⟨[], rfl, rfl, by simp, fun _ => rfl⟩
  | x :: xs => by
    rw [List.map_cons, List.map_cons]
    rw [goG_cons]
    cases hx : leafL [] (sp 43 [] x) with
    | none =>
      refine Or.inl ⟨rfl, ?_⟩
      have : lawLeaf x = none := by unfold lawLeaf; rw [hx]
      rw [this]
      exact List.mem_cons_self ..
    | some ps =>
      dsimp only
      have hl : lawLeaf x = if ps.length ≤ 4 then some ps else none := by unfold lawLeaf; rw [hx]
      rcases go_law xs with ⟨h1, h2⟩ | ⟨ls, h1, h2, h3, h4⟩
      · rw [h1]
        exact Or.inl ⟨rfl, List.mem_cons_of_mem _ h2⟩
      · rw [h1]
        refine Or.inr ⟨ps :: ls, rfl, by simp [h2], ?_, ?_⟩
        · rw [hl, List.all_cons]
          by_cases h : ps.length ≤ 4
          · rw [if_pos h, decide_eq_true h, Bool.true_and, ← h3]
            simp
          · rw [if_neg h, decide_eq_false h]
            simp
        · intro ha
          rw [List.all_cons, Bool.and_eq_true] at ha
          rw [hl, if_pos (of_decide_eq_true ha.1)]
          show ps :: _ = _
          rw [h4 ha.2]
theorem sp_ne {m : Nat} {a l : Codes} : 1 ≤ (sp m a l).length := by
  obtain ⟨p, ps, _, e⟩ := sp_acc m l a
  rw [e]
  simp
/-- the whole: the program reads a text as the law does -/
theorem read_law {l : Codes} (h : l ≠ []) : readP [] [] l = lawName l := by
  rw [readP_go l.length l (Nat.le_refl _), groups_sp l.length l (Nat.le_refl _)]
  unfold lawName
  rw [if_neg h]
  dsimp only
  rcases go_law (sp 44 [] l) with ⟨h1, h2⟩ | ⟨ls, h1, h2, h3, h4⟩
  · rw [h1, if_pos (Or.inl h2)]
    rfl
  · rw [h1]
    unfold finL shortL
    dsimp only
    rw [List.nil_append]
    by_cases h12 : ls.length ≤ 12
    · rw [decide_eq_true h12, Bool.true_and]
      by_cases ha : (ls.all fun l => decide (l.length ≤ 4)) = true
      · rw [if_pos ha, if_neg, h4 ha]
        rintro (z | z)
        · exact h3.mp z ha
        · rw [List.length_map] at z; omega
      · rw [if_neg ha, if_pos (Or.inl (h3.mpr ha))]
    · rw [decide_eq_false h12, Bool.false_and, if_pos (Or.inr (by rw [List.length_map]; omega))]
      rfl

end My
namespace My
open PySem PySem.Spec PyProof.Rows L2
section
variable {P : Program} {w : World} {K : PySem.W.Frag} {mg : Str → Option Value} {base : Heap}
/-! ### is_word, is_value, is_plain -/
abbrev N_is_word : List Str := ["value", "sign"]
theorem sc_is_word : FnScope N_is_word ["value"] (defScope s_is_word) := ⟨rfl, rfl, rfl, by decide +kernel, rfl, by decide +kernel, by decide +kernel⟩
-- slots: 0 value, 1 sign
def sp_is_word : Sp := pureSp (fun (l : Codes) _ vs _ => vs = [sv l] ∧ l.length ≤ 1000) (fun l => is (.bl (isWordL l)))
def letL : Codes := cs "abcdefghijklmnopqrstuvwxyz"
theorem letL_mem (c : Nat) : decide (c ∈ letL) = decide (97 ≤ c ∧ c ≤ 122) := by
  have h : letL = (List.range 26).map (· + 97) := by decide +kernel
  rw [h]
  by_cases hc : 97 ≤ c ∧ c ≤ 122
  · rw [decide_eq_true hc, decide_eq_true]
    exact List.mem_map.mpr ⟨c - 97, List.mem_range.mpr (by omega), by omega⟩
  · rw [decide_eq_false hc, decide_eq_false]
    intro z
    obtain ⟨i, hi, e⟩ := List.mem_map.mp z
    have := List.mem_range.mp hi
    omega
theorem all_map {α : Type} (f : α → Bool) (l : List α) : (l.map f).all id = l.all f := by
  rw [List.all_map]; rfl
theorem c_is_word (T : Tx K mg) : Cal P w K mg base 1 "is_word" ["value"] (sp_is_word) := by
  refine T.d_is_word.cal sc_is_word (fun vs H Q E h => ?_) (fun _ _ _ _ _ _ us hl => match us, hl with | [_], _ => rfl) (fun f cdv A outer s H vs Q E hr h => ?_)
  · obtain ⟨R, n, l, _, ⟨rfl, _⟩, _⟩ := h
    rfl
  · obtain ⟨R, n, l, hj, ⟨rfl, hl⟩, q⟩ := h
    refine ⟨_, (pss_cons (ps_if (PW.pt (pw_or (pt_not (pt_val (pe_callB (call_isiA (K := K)) (by rfl) T.b_isinstance (by decide +kernel) (pa_cons (pv 0) (pa_cons (pe_bty (T := "str") (by rfl) T.b_str (by decide +kernel)) pa_nil))))) (pw_or (pt_not (pt_chain cm_LtE cm_LtE pe_int (pe_callB (call_lenA (K := K)) (by rfl) T.b_len (by decide +kernel) (pa_cons (pv 0) pa_nil)) (pe_globI (by rfl) T.g_MAX_WORD))) (pw_or1 (pt_cmpR (cm_Eq (K := K) hr.units) (pv 0) pe_str (nomark _)))))) (pss_one (ps_ret pe_bl)) pss_nil)
      (pss_one (ps_ret (pe_callB (call_allA (K := K)) (by rfl) T.b_all (by decide +kernel) (pa_cons (pe_lc (own := [("sign", 1)]) (by rfl) sc_is_word.nd (pi_any (K := K) (pv 0)) (blkOk_by (own := [("sign", 1)]) (N := N_is_word) (sc := defScope s_is_word) (by decide +kernel)) (fun _ _ _ _ _ => (pg_name (i := 1) sc_is_word.nd rfl (by first | exact Or.inl rfl | exact Or.inr rfl))) (fun _ _ _ _ _ => pts_nil) (fun _ _ _ _ _ => (pe_cmpR (cm_In (K := K) (hu65 hr)) (pv 1) (pe_globS (by rfl) T.g_LETTERS) (by rfl)))) pa_nil))))), ?_⟩
    refine StF.run (R := R) (n := n) ?_ hj
    refine q_whenB (m := n) (b := !true || (!(decide ((1 : Int) ≤ (l.length : Int)) && decide ((l.length : Int) ≤ 12)) || decide (l = [115, 101, 108, 102]))) (et_or (et_not (et_B (ev_isStr (ev_var rfl)))) fun _ => et_or (et_not (et_test (ev_chain ev_c (ev_lenS (ev_var rfl) (by omega)) ev_c (fun H3 _ => rv_leI) (fun H3 _ => rv_leI)))) fun _ => et_test (ev_op2 (ev_var rfl) (ev_str (l := [115, 101, 108, 102]) (by decide +kernel)) fun H3 _ => rv_eqS)) (fun hb => ?_) (fun hb => ?_)
    · refine s_ret (m := n) (p := is (.bl (isWordL l))) (ev_is ev_c ?_) q
      congr 1
      unfold isWordL
      by_cases h1 : 1 ≤ l.length ∧ l.length ≤ 12
      · rw [decide_eq_true (show (1 : Int) ≤ (l.length : Int) by omega), decide_eq_true (show (l.length : Int) ≤ 12 by omega)] at hb
        have hb : decide (l = [115, 101, 108, 102]) = true := hb
        rw [hb, decide_eq_true h1]
        rfl
      · rw [decide_eq_false h1]
        rfl
    · have h1 : 1 ≤ l.length ∧ l.length ≤ 12 := by
        refine Classical.byContradiction fun z => ?_
        have : (decide ((1 : Int) ≤ (l.length : Int)) && decide ((l.length : Int) ≤ 12)) = false := by
          rw [Bool.and_eq_false_iff, decide_eq_false_iff_not, decide_eq_false_iff_not]
          omega
        rw [this] at hb
        cases hb
      rw [decide_eq_true (show (1 : Int) ≤ (l.length : Int) by omega), decide_eq_true (show (l.length : Int) ≤ 12 by omega)] at hb
      have hb : decide (l = [115, 101, 108, 102]) = false := hb
      refine s_ret (m := n) (p := is (.bl (isWordL l))) (ev_is (ev_all (bs := l.map fun c => decide (97 ≤ c ∧ c ≤ 122)) ?_) ?_) q
      · have hit : ItP R n n (iAny K (tVar 0)) (start N_is_word [sv l]) H ((l.map fun c => sv [c]).map is) := by
          rw [List.map_map]
          exact it_text (K := K) (ev_var rfl)
        have h2 := ev_lcV (t := tYes) (te := tOp (rInU K) (tVar 1) (tC (.str "abcdefghijklmnopqrstuvwxyz"))) (vs := [1]) (j := 1) (fun _ => true) (fun v => .bl (match v with | .str s => (match cs s with | [c] => decide (97 ≤ c ∧ c ≤ 122) | _ => false) | _ => false)) hit (by rw [List.length_map]; omega) (fun x => rfl) (fun R' H' w ex hw => by
          obtain ⟨c, hc, rfl⟩ := List.mem_map.mp hw
          refine ⟨fun H1 e Q k => k true H1 (R'.refl e) rfl, fun _ => ?_⟩
          exact ev_is (ev_op2 (ev_var (v := sv [c]) rfl) (ev_str (l := letL) (SX.S_tl _).symm) (fun H1 _ => rv_inS)) (by rw [letL_mem]))
        refine ev_is2 h2 ?_
        rw [List.filter_eq_self.mpr (fun _ _ => rfl), List.map_map, List.map_map]
        rfl
      · rw [all_map]
        unfold isWordL
        rw [decide_eq_true h1, hb]
        rfl

end
end My
namespace My
open PySem PySem.Spec PyProof.Rows L2
section
variable {P : Program} {w : World} {K : PySem.W.Frag} {mg : Str → Option Value} {base : Heap}
theorem sl_mid {l : Codes} {i j : Int} (h0 : 0 ≤ i) (h1 : i ≤ j) (h2 : j ≤ l.length) : sl l (some i) (some j) = (l.drop i.toNat).take (j - i).toNat := by
  unfold sl
  rw [C8.cutS_slice, beq_iff_eq.mp (PyProof.Rows.slice_closesL (x := SX.S l) h0 h1 (by rw [SX.S_len]; exact h2))]
theorem at_nat {α : Type} {l : List α} {i : Nat} {c : α} (h : l[i]? = some c) : atI l ((i : Nat) : Int) = some c := by
  have hl := (List.getElem?_eq_some_iff.mp h).1
  obtain ⟨x, h1, h2⟩ := atI_mem (xs := l) (i := (i : Int)) (by omega) (by omega)
  rw [Int.toNat_natCast, h] at h2
  cases h2
  exact h1
/-! ### is_value, is_plain -/
abbrev N_is_value : List Str := ["value"]
theorem sc_is_value : FnScope N_is_value ["value"] (defScope s_is_value) := ⟨rfl, rfl, rfl, by decide +kernel, rfl, by decide +kernel, by decide +kernel⟩
-- slots: 0 value
/-- a text, or no text -/
def tOrN (K : PySem.W.Frag) (x : Option Codes) (M : Addr → Prop) (v : V) (H : Hp) : Prop := match x with
  | some l => v = sv l ∧ asc l ∧ l.length ≤ 1000
  | none => NoStr K M v H
def isValL : Option Codes → Bool
  | some l => !decide (l = []) && !decide (10 ∈ l)
  | none => false
def sp_is_value (K : PySem.W.Frag) : Sp := pureSp (fun (x : Option Codes) M vs H => ∃ v, vs = [v] ∧ tOrN K x M v H) (fun x => is (.bl (isValL x)))
theorem c_is_value (T : Tx K mg) : Cal P w K mg base 1 "is_value" ["value"] (sp_is_value K) := by
  refine T.d_is_value.cal sc_is_value (fun vs H Q E h => ?_) (fun _ _ _ _ _ _ us hl => match us, hl with | [_], _ => rfl) (fun f cdv A outer s H vs Q E hr h => ?_)
  · obtain ⟨R, n, x, _, ⟨v, rfl, _⟩, _⟩ := h
    rfl
  · obtain ⟨R, n, x, hj, ⟨v, rfl, hv⟩, q⟩ := h
    refine ⟨_, (pss_one (ps_ret (pe_and (pe_callB (call_isiA (K := K)) (by rfl) T.b_isinstance (by decide +kernel) (pa_cons (pv 0) (pa_cons (pe_bty (T := "str") (by rfl) T.b_str (by decide +kernel)) pa_nil))) (pe_and (pe_cmpR (cm_NotEq (K := K) hr.units) (pv 0) pe_str (nomark _)) (pe_one (pe_cmpR (cm_NotIn (K := K) (hu65 hr)) pe_str (pv 0) (by rfl))))))), ?_⟩
    refine StF.run (R := R) (n := n) ?_ hj
    refine s_ret (m := n) (p := is (.bl (isValL x))) ?_ q
    cases x with
    | none =>
      have hv : NoStr K R.M v H := hv
      exact ev_is (ev_andV (a := false) (b := false) (ev_isNoStr (ev_varP (p := noStr K) rfl hv)) (fun z => nomatch z)) rfl
    | some l =>
      obtain ⟨rfl, ha, hl⟩ := hv
      exact ev_is (ev_andV (a := true) (ev_isStr (ev_var rfl)) fun _ => ev_andV (ev_op2 (ev_var rfl) (ev_str (l := []) (by decide +kernel)) fun H3 _ => rv_neS) fun _ => ev_op2 (ev_str (l := [10]) (by decide +kernel)) (ev_var rfl) fun H3 _ => rv_niS) rfl
abbrev N_is_plain : List Str := ["value"]
theorem sc_is_plain : FnScope N_is_plain ["value"] (defScope s_is_plain) := ⟨rfl, rfl, rfl, by decide +kernel, rfl, by decide +kernel, by decide +kernel⟩
-- slots: 0 value
def isPlainO : Option Codes → Bool
  | some l => isPlainL l
  | none => false
def sp_is_plain (K : PySem.W.Frag) : Sp := pureSp (fun (x : Option Codes) M vs H => ∃ v, vs = [v] ∧ tOrN K x M v H) (fun x => is (.bl (isPlainO x)))
theorem c_is_plain (T : Tx K mg) : Cal P w K mg base 2 "is_plain" ["value"] (sp_is_plain K) := by
  have C_plain_text := c_plain_text (P := P) (w := w) (base := base) T
  have C_is_value := c_is_value (P := P) (w := w) (base := base) T
  refine T.d_is_plain.cal sc_is_plain (fun vs H Q E h => ?_) (fun _ _ _ _ _ _ us hl => match us, hl with | [_], _ => rfl) (fun f cdv A outer s H vs Q E hr h => ?_)
  · obtain ⟨R, n, x, _, ⟨v, rfl, _⟩, _⟩ := h
    rfl
  · obtain ⟨R, n, x, hj, ⟨v, rfl, hv⟩, q⟩ := h
    refine ⟨_, (pss_one (ps_ret (pe_and (pe_callC C_is_value (hr.mono (by decide)) (by rfl) (pa_cons (pv 0) pa_nil)) (pe_and (pe_cmpR cm_LtE (pe_callB (call_lenA (K := K)) (by rfl) T.b_len (by decide +kernel) (pa_cons (pv 0) pa_nil)) (pe_globI (by rfl) T.g_MAX_TEXT) (nomark _)) (pe_one (pe_cmpR (cm_NotEq (K := K) hr.units) (pe_callC C_plain_text (hr.mono (by decide)) (by rfl) (pa_cons (pv 0) pa_nil)) pe_str (nomark _))))))), ?_⟩
    refine StF.run (R := R) (n := n) ?_ hj
    refine s_ret (m := n) (p := is (.bl (isPlainO x))) ?_ q
    cases x with
    | none =>
      have hv : NoStr K R.M v H := hv
      have hcal : EvP R n n (tCall (sp_is_value K) [] E0 (tCons (tVar 0) tNil)) (start N_is_plain [v]) H (is (.bl false)) := ev_pure (post := fun x => is (.bl (isValL x))) none (ea_cons (ev_varP (p := noStr K) rfl hv) ea_nil) fun vs H1 _ hv => by
        obtain ⟨v, rfl, hv1⟩ := one hv
        exact ⟨v, rfl, hv1⟩
      exact ev_is (ev_andV (a := false) (b := false) hcal (fun z => nomatch z)) rfl
    | some l =>
      obtain ⟨rfl, ha, hl⟩ := hv
      have hcal : EvP R n n (tCall (sp_is_value K) [] E0 (tCons (tVar 0) tNil)) (start N_is_plain [sv l]) H (is (.bl (isValL (some l)))) := ev_pure (post := fun x => is (.bl (isValL x))) (some l) (ea_cons (ev_var (v := sv l) rfl) ea_nil) fun vs H1 _ hv => by
        obtain ⟨v, rfl, hv1⟩ := one hv
        exact ⟨v, rfl, hv1, ha, hl⟩
      have hpl : EvP R n n (tCall sp_plain_text [] E0 (tCons (tVar 0) tNil)) (start N_is_plain [sv l]) H (is (sv (plainL l))) := ev_pure (post := fun l => is (sv (plainL l))) l (ea_cons (ev_var (v := sv l) rfl) ea_nil) fun vs H1 _ hv => by
        obtain ⟨v, rfl, hv1⟩ := one hv
        exact ⟨by rw [show v = _ from hv1], ha, hl⟩
      refine ev_is (ev_andV hcal fun _ => ev_andV (ev_op2 (ev_lenS (ev_var rfl) (by omega)) ev_c fun H3 _ => rv_leI) fun _ => ev_op2 hpl (ev_str (l := []) (by decide +kernel)) fun H3 _ => rv_neS) ?_
      congr 1
      unfold isValL isPlainO isPlainL
      rw [show decide ((l.length : Int) ≤ 60) = decide (l.length ≤ 60) from decide_eq_decide.mpr (by omega)]
      dsimp only
      rw [Bool.and_assoc]
/-! ### escaped -/
abbrev N_escaped : List Str := ["value", "found", "at", "sign", "is_end"]
theorem sc_escaped : FnScope N_escaped ["value"] (defScope s_escaped) := ⟨rfl, rfl, rfl, by decide +kernel, rfl, by decide +kernel, by decide +kernel⟩
-- slots: 0 value, 1 found, 2 at, 3 sign, 4 is_end
def sp_escaped : Sp := pureSp (fun (l : Codes) _ vs _ => vs = [sv l] ∧ l.length ≤ 1000) (fun l => is (sv (escL l)))
theorem escF_cons (n i c : Nat) (r : Codes) : escF n i (c :: r) = (if must n i c then [92] else []) ++ (c :: escF n (i + 1) r) := rfl
theorem escF_app (n : Nat) : ∀ (a b : Codes) (i : Nat), escF n i (a ++ b) = escF n i a ++ escF n (i + a.length) b
  | [], b, i => by simp [escF]
  | c :: r, b, i => by
    rw [List.cons_append, escF_cons, escF_cons, escF_app n r b (i + 1), List.length_cons, List.append_assoc, show i + 1 + r.length = i + (r.length + 1) by omega]
    rfl
theorem escF_len (n : Nat) : ∀ (a : Codes) (i : Nat), (escF n i a).length ≤ 2 * a.length
  | [], _ => Nat.zero_le _
  | c :: r, i => by
    unfold escF
    have := escF_len n r (i + 1)
    split <;> simp only [List.length_append, List.length_cons, List.length_nil] <;> omega
theorem escF_step {l : Codes} {r c : Nat} (h : l[r]? = some c) : escF l.length 0 (l.take (r + 1)) = (escF l.length 0 (l.take r) ++ (if must l.length r c then [92] else [])) ++ [c] := by
  have hl := (List.getElem?_eq_some_iff.mp h).1
  have e : l.take (r + 1) = l.take r ++ [c] := by
    rw [List.take_add_one, h]
    rfl
  rw [e, escF_app, List.length_take, Nat.min_eq_left (by omega), Nat.zero_add]
  rw [escF_cons, List.append_assoc]
  rfl
theorem c_escaped (T : Tx K mg) : Cal P w K mg base 1 "escaped" ["value"] (sp_escaped) := by
  refine T.d_escaped.cal sc_escaped (fun vs H Q E h => ?_) (fun _ _ _ _ _ _ us hl => match us, hl with | [_], _ => rfl) (fun f cdv A outer s H vs Q E hr h => ?_)
  · obtain ⟨R, n, l, _, ⟨rfl, _⟩, _⟩ := h
    rfl
  · obtain ⟨R, n, l, hj, ⟨rfl, hl⟩, q⟩ := h
    refine ⟨_, (pss_cons (ps_set (i := 1) sc_escaped.nd rfl (by first | exact Or.inl rfl | exact Or.inr rfl) pe_str)
      (pss_cons (ps_for PassesOwn.never rfl (pi_enumA (K := K) (by rfl) T.b_enumerate (pa_cons (pv 0) pa_nil)) (pg_tupK (K := K) (n := 2) rfl (pgs_cons (pg_name (i := 2) sc_escaped.nd rfl (by first | exact Or.inl rfl | exact Or.inr rfl)) (pgs_cons (pg_name (i := 3) sc_escaped.nd rfl (by first | exact Or.inl rfl | exact Or.inr rfl)) pgs_nil)))
      (pss_cons (ps_set (i := 4) sc_escaped.nd rfl (by first | exact Or.inl rfl | exact Or.inr rfl) (pe_or (pe_cmpR (cm_Eq (K := K) hr.units) (pv 2) pe_int (nomark _)) (pe_one (pe_cmpR (cm_Eq (K := K) hr.units) (pv 2) (pe_op op_sub (pe_callB (call_lenA (K := K)) (by rfl) T.b_len (by decide +kernel) (pa_cons (pv 0) pa_nil)) pe_int) (nomark _)))))
      (pss_one (ps_set (i := 1) sc_escaped.nd rfl (by first | exact Or.inl rfl | exact Or.inr rfl) (pe_op (op_Add (K := K)) (pe_op (op_Add (K := K)) (pv 1) (pe_ifExp (PW.pt (pw_or (pt_cmpR (cm_In (K := K) (hu65 hr)) (pv 3) (pe_globS (by rfl) T.g_ESCAPED) (by rfl)) (pw_or1 (PW.pt (pw_and (pt_cmpR (cm_Eq (K := K) hr.units) (pv 3) pe_str (nomark _)) (pw_and1 (pt_val (pv 4)))))))) (pe_globS (by rfl) T.g_BACKSLASH) pe_str)) (pv 3))))))
      (pss_one (ps_ret (pv 1))))), ?_⟩
    refine StF.run (R := R) (n := n) ?_ hj
    refine q_asgV (m := n) (v := sv []) (ev_str (by decide +kernel)) ?_
    refine q_forE (a := l) (ev_var rfl) (fun r σ' => ∃ x y z, σ' = [some (sv l), some (sv (escF l.length 0 (l.take r))), x, y, z]) ⟨none, none, none, rfl⟩ (fun B r c σ' eb hc hI => ?_) (fun σ' hI => ?_)
    · obtain ⟨x, y, z, rfl⟩ := hI
      have hr := (List.getElem?_eq_some_iff.mp hc).1
      have hf := escF_len l.length (l.take r) 0
      rw [List.length_take, Nat.min_eq_left (by omega)] at hf
      refine q_asgV (m := n) (v := .bl (decide (r = 0 ∨ r + 1 = l.length))) (ev_is (ev_orV (ev_op2 (ev_var rfl) ev_c fun H3 _ => rv_eqI) fun _ => ev_op2 (ev_var rfl) (ev_op2 (ev_lenS (ev_var rfl) (by omega)) ev_c fun H3 _ => rv_subI) fun H3 _ => rv_eqI) ?_) ?_
      · congr 1
        by_cases h1 : r = 0
        · rw [decide_eq_true (show ((r : Nat) : Int) = 0 by omega), decide_eq_true (Or.inl h1)]
          rfl
        · rw [decide_eq_false (show ¬ ((r : Nat) : Int) = 0 by omega), Bool.false_or]
          exact decide_eq_decide.mpr (by omega)
      · refine s_asgV (m := n) (v := sv (escF l.length 0 (l.take (r + 1)))) ?_ fun H2 e2 => ⟨e2, _, _, _, rfl⟩
        rw [escF_step hc]
        refine ev_op2 (m := n) (x := sv (escF l.length 0 (l.take r) ++ (if must l.length r c then [92] else []))) (y := sv [c]) (ev_op2 (m := n) (x := sv (escF l.length 0 (l.take r))) (y := sv (if must l.length r c then [92] else [])) (ev_var rfl) ?_ fun H3 _ => rv_addS (by split <;> simp <;> omega)) (ev_var rfl) fun H3 _ => rv_addS (by split <;> simp <;> omega)
        refine ev_is (ev_ifV (b := must l.length r c) (v := sv [92]) (w := sv []) (et_is (et_or (et_test (ev_op2 (m := n) (x := sv [c]) (y := sv [44, 43, 61, 92]) (ev_var rfl) (ev_str (by decide +kernel)) fun H3 _ => rv_inS)) fun _ => et_and (et_test (ev_op2 (ev_var (v := sv [c]) rfl) (ev_str (l := [32]) (by decide +kernel)) fun H3 _ => rv_eqS)) fun _ => et_B (ev_var rfl)) ?_) (fun _ => ev_str (by decide +kernel)) (fun _ => ev_str (by decide +kernel))) ?_
        · unfold must
          congr 1
          · exact decide_eq_decide.mpr (by simp)
          · congr 1
            exact decide_eq_decide.mpr (by simp)
        · split <;> rfl
    · obtain ⟨x, y, z, rfl⟩ := hI
      refine s_ret (m := n) (p := is (sv (escL l))) (ev_is (ev_var rfl) ?_) q
      rw [List.take_of_length_le (Nat.le_refl _)]
      rfl
/-! ### value_at -/
abbrev N_value_at : List Str := ["text", "begin", "found", "at"]
theorem sc_value_at : FnScope N_value_at ["text", "begin"] (defScope s_value_at) := ⟨rfl, rfl, rfl, by decide +kernel, rfl, by decide +kernel, by decide +kernel⟩
-- slots: 0 text, 1 begin, 2 found, 3 at
def valV (p : Codes) : V := match valP p with
  | some v => sv v
  | none => .non
def sp_value_at (K : PySem.W.Frag) : Sp := pureSp (fun (x : Codes × Nat) _ vs _ => vs = [sv x.1, .int (x.2 : Nat)] ∧ x.1.length ≤ 1000 ∧ x.2 ≤ x.1.length) (fun x => tupG K (· = [valV (cut2 (x.1.drop x.2)).1, .int ((x.2 + (cut2 (x.1.drop x.2)).1.length : Nat) : Int)]))
theorem fnd_len : ∀ (l : Codes), (fnd l).length ≤ l.length
  | [] => Nat.le_refl _
  | [c] => Nat.le_refl _
  | c :: d :: r => by
    unfold fnd
    have h1 := fnd_len r
    have h2 := fnd_len (d :: r)
    split <;> simp only [List.length_cons] at * <;> omega
theorem fnd_plain {c : Nat} (r : Codes) (h : c ≠ 92) : fnd (c :: r) = c :: fnd r := by
  cases r with
  | nil => rfl
  | cons d t => conv => lhs; unfold fnd
                rw [if_neg h]
theorem drop_at {l : Codes} {i c : Nat} (h : l[i]? = some c) : l.drop i = c :: l.drop (i + 1) := by
  obtain ⟨hl, e⟩ := List.getElem?_eq_some_iff.mp h
  rw [List.drop_eq_getElem_cons hl, e]
theorem c_value_at (T : Tx K mg) : Cal P w K mg base 2 "value_at" ["text", "begin"] (sp_value_at K) := by
  have C_escaped := c_escaped (P := P) (w := w) (base := base) T
  refine T.d_value_at.cal sc_value_at (fun vs H Q E h => ?_) (fun _ _ _ _ _ _ us hl => match us, hl with | [_, _], _ => rfl) (fun f cdv A outer s H vs Q E hr h => ?_)
  · obtain ⟨R, n, x, _, ⟨rfl, _⟩, _⟩ := h
    rfl
  · obtain ⟨R, n, ⟨l, b⟩, hj, ⟨rfl, hl, hb⟩, q⟩ := h
    refine ⟨_, (pss_cons (ps_par (i := 2) (j := 3) (by rfl) sc_value_at.nd rfl rfl (by decide) rfl rfl (pa_cons pe_str (pa_cons (pv 1) pa_nil)) (by rfl))
      (pss_cons (ps_while PassesOwn.never (PW.pt (pw_and (pt_cmpR cm_Lt (pv 3) (pe_callB (call_lenA (K := K)) (by rfl) T.b_len (by decide +kernel) (pa_cons (pv 0) pa_nil)) (nomark _)) (pw_and1 (pt_cmpR (cm_NotIn (K := K) (hu65 hr)) (pe_ix (ix_any (K := K)) (pv 0) (pv 3) (fun _ _ => rfl)) pe_str (by rfl)))))
      (pss_cons (ps_if (PW.pt (pw_and (pt_cmpR (cm_Eq (K := K) hr.units) (pe_ix (ix_any (K := K)) (pv 0) (pv 3) (fun _ _ => rfl)) (pe_globS (by rfl) T.g_BACKSLASH) (nomark _)) (pw_and1 (pt_cmpR cm_Lt (pe_op (op_Add (K := K)) (pv 3) pe_int) (pe_callB (call_lenA (K := K)) (by rfl) T.b_len (by decide +kernel) (pa_cons (pv 0) pa_nil)) (nomark _))))) (pss_one (ps_set (i := 3) sc_value_at.nd rfl (by first | exact Or.inl rfl | exact Or.inr rfl) (pe_op (op_Add (K := K)) (pv 3) pe_int))) pss_nil)
      (pss_cons (ps_set (i := 2) sc_value_at.nd rfl (by first | exact Or.inl rfl | exact Or.inr rfl) (pe_op (op_Add (K := K)) (pv 2) (pe_ix (ix_any (K := K)) (pv 0) (pv 3) (fun _ _ => rfl))))
      (pss_one (ps_set (i := 3) sc_value_at.nd rfl (by first | exact Or.inl rfl | exact Or.inr rfl) (pe_op (op_Add (K := K)) (pv 3) pe_int))))))
      (pss_one (ps_ret (pe_tup (pa_cons (pe_ifExp (pt_cmpR (cm_Eq (K := K) hr.units) (pe_callC C_escaped (hr.mono (by decide)) (by rfl) (pa_cons (pv 2) pa_nil)) (pe_slice (sl_any (K := K)) (pv 0) (po_some (pv 1)) (po_some (pv 3))) (nomark _)) (pv 2) pe_non) (pa_cons (pv 3) pa_nil))))))), ?_⟩
    have hl : l.length ≤ 1000 := hl
    have hb : b ≤ l.length := hb
    refine StF.run (R := R) (n := n) ?_ hj
    have hpl : (cut2 (l.drop b)).1.length ≤ l.length - b := by
      have := congrArg List.length (cut2_app (l.drop b))
      rw [List.length_append, List.length_drop] at this
      omega
    have hfl := fnd_len (cut2 (l.drop b)).1
    refine q_parG (m := n) (F := fun v => v = sv []) (G := fun v => v = .int (b : Nat)) (ea_cons (EvP.asG (ev_str (l := []) (by decide +kernel)) rfl) (ea_cons (EvP.asG (ev_var rfl) rfl) ea_nil)) fun v w hv hw => ?_
    subst hv
    subst hw
    refine q_whileV (fun m σ' => ∃ (i : Nat) (f : Codes), σ' = [some (sv l), some (.int (b : Nat)), some (sv f), some (.int (i : Nat))] ∧ i ≤ l.length ∧ m = l.length - i ∧ b ≤ i ∧ f ++ fnd (cut2 (l.drop i)).1 = fnd (cut2 (l.drop b)).1 ∧ i + (cut2 (l.drop i)).1.length = b + (cut2 (l.drop b)).1.length) (l.length - b) ⟨b, [], rfl, hb, rfl, Nat.le_refl _, rfl, rfl⟩ fun B m σ' eb hW => ?_
    obtain ⟨i, f, rfl, hi, rfl, hbi, hf, hn⟩ := hW
    have hfL : f.length ≤ l.length := by
      have := congrArg List.length hf
      rw [List.length_append] at this
      omega
    -- behind the loop
    have fin : (cut2 (l.drop i)).1 = [] → StF R n (tRet (tTup (tCons (tIf (tTest (tOp (rEqU K) (tCall sp_escaped [] E0 (tCons (tVar 2) tNil)) (tSl (rSlU K) (tVar 0) (tPart (tVar 1)) (tPart (tVar 3))))) (tVar 2) (tC .non)) (tCons (tVar 3) tNil)))) { nx := fun _ H' => Q .non H', rt := Q } [some (sv l), some (.int (b : Nat)), some (sv f), some (.int (i : Nat))] B := fun h0 => by
      rw [h0] at hf hn
      have hf : f = fnd (cut2 (l.drop b)).1 := by rw [← hf]; exact (List.append_nil f).symm
      have hn : i = b + (cut2 (l.drop b)).1.length := hn
      have hs : sl l (some ((b : Nat) : Int)) (some ((i : Nat) : Int)) = (cut2 (l.drop b)).1 := by
        rw [sl_mid (by omega) (by omega) (by omega), Int.toNat_natCast, show (((i : Nat) : Int) - ((b : Nat) : Int)).toNat = (cut2 (l.drop b)).1.length by omega]
        have e : ((cut2 (l.drop b)).1 ++ (cut2 (l.drop b)).2).take (cut2 (l.drop b)).1.length = (cut2 (l.drop b)).1 := List.take_left' rfl
        rw [cut2_app] at e
        exact e
      refine s_ret (m := n) (p := tupG K (· = [valV (cut2 (l.drop b)).1, .int ((b + (cut2 (l.drop b)).1.length : Nat) : Int)])) (ev_tupV (vs := [valV (cut2 (l.drop b)).1, .int ((b + (cut2 (l.drop b)).1.length : Nat) : Int)]) (ea_cons (m := n) ?_ (ea_cons (ev_is (ev_var rfl) (by rw [← hn])) ea_nil)) (by show 2 ≤ 100000; decide)) fun v H2 e2 hv => q v H2 (R.trans eb e2) hv
      have hesc : EvP R n n (tCall sp_escaped [] E0 (tCons (tVar 2) tNil)) [some (sv l), some (.int (b : Nat)), some (sv f), some (.int (i : Nat))] B (is (sv (escL f))) := ev_pure (post := fun l => is (sv (escL l))) f (ea_cons (ev_var (v := sv f) rfl) ea_nil) fun vs H1 _ hv => by
        obtain ⟨v, rfl, hv1⟩ := one hv
        exact ⟨by rw [show v = _ from hv1], by omega⟩
      refine ev_is (ev_ifV (b := decide (escL f = (cut2 (l.drop b)).1)) (v := sv f) (w := .non) (et_test (ev_op2 (m := n) hesc (ev_is (ev_sl (m := n) (k := n) (p := is (sv l)) (ev_var rfl) (eo_some (ev_var rfl)) (eo_some (ev_var rfl)) fun x H3 _ hx => by rw [show x = sv l from hx]; exact rs_S (by omega)) (by rw [hs])) fun H3 _ => rv_eqS)) (fun _ => ev_var rfl) (fun _ => ev_c)) ?_
      unfold valV valP
      rw [← hf]
      by_cases z : escL f = (cut2 (l.drop b)).1
      · rw [decide_eq_true z, if_pos z]
        rfl
      · rw [decide_eq_false z, if_neg z]
        rfl
    by_cases hlt : i < l.length
    · have hc : l[i]? = some l[i] := List.getElem?_eq_getElem hlt
      generalize l[i] = c at hc
      have hd := drop_at hc
      have hix : ∀ (j : Nat) (d : Nat) (B' : Hp) (f' : Codes), l[j]? = some d → EvP R n n (tOp (rIx K) (tVar 0) (tVar 3)) [some (sv l), some (.int (b : Nat)), some (sv f'), some (.int (j : Nat))] B' (is (sv [d])) := fun j d B' f' hj => ev_op2 (m := n) (ev_var rfl) (ev_var rfl) fun H3 _ => rv_ixS (by omega) (at_nat hj)
      have htest : EvT R n n (tAnd (tTest (tOp rLtU (tVar 3) (tCB (rLenU K) (tCons (tVar 0) tNil)))) (tTest (tOp (rNotInU K) (tOp (rIx K) (tVar 0) (tVar 3)) (tC (.str ",+"))))) [some (sv l), some (.int (b : Nat)), some (sv f), some (.int (i : Nat))] B (· = !isSep c) := et_is (et_and (a := true) (et_is (et_test (ev_op2 (m := n) (ev_var rfl) (ev_lenS (ev_var rfl) (by omega)) fun H3 _ => rv_ltI)) (decide_eq_true (by omega))) fun _ => et_test (ev_op2 (m := n) (hix i c B f hc) (ev_str (l := [44, 43]) (by decide +kernel)) fun H3 _ => rv_niS)) (by
        rw [Bool.true_and]
        unfold isSep
        rw [← Bool.decide_or]
        congr 1
        exact decide_eq_decide.mpr (by simp))
      refine ⟨!isSep c, htest, fun hs => ?_, fun hs => fin ?_⟩
      · -- one turn
        have hs : ¬ isSep c = true := by
          intro z
          rw [z] at hs
          cases hs
        have tail : ∀ (j d : Nat), i ≤ j → l[j]? = some d → f ++ [d] ++ fnd (cut2 (l.drop (j + 1))).1 = fnd (cut2 (l.drop b)).1 → (j + 1) + (cut2 (l.drop (j + 1))).1.length = b + (cut2 (l.drop b)).1.length → StF R n (tSeq (tAsg (tOp (rAddU K) (tVar 2) (tOp (rIx K) (tVar 0) (tVar 3))) (gName 2)) (tAsg (tOp (rAddU K) (tVar 3) (tC (.int 1))) (gName 3))) (LE R n B { nx := tRet (tTup (tCons (tIf (tTest (tOp (rEqU K) (tCall sp_escaped [] E0 (tCons (tVar 2) tNil)) (tSl (rSlU K) (tVar 0) (tPart (tVar 1)) (tPart (tVar 3))))) (tVar 2) (tC .non)) (tCons (tVar 3) tNil))) { nx := fun _ H' => Q .non H', rt := Q }, rt := Q } fun σ2 => ∃ m', m' < l.length - i ∧ ∃ (i : Nat) (f : Codes), σ2 = [some (sv l), some (.int (b : Nat)), some (sv f), some (.int (i : Nat))] ∧ i ≤ l.length ∧ m' = l.length - i ∧ b ≤ i ∧ f ++ fnd (cut2 (l.drop i)).1 = fnd (cut2 (l.drop b)).1 ∧ i + (cut2 (l.drop i)).1.length = b + (cut2 (l.drop b)).1.length) [some (sv l), some (.int (b : Nat)), some (sv f), some (.int (j : Nat))] B := fun j d hij hj h1 h2 => by
          have hjl := (List.getElem?_eq_some_iff.mp hj).1
          refine q_asgV (m := n) (v := sv (f ++ [d])) (ev_op2 (m := n) (ev_var rfl) (hix j d B f hj) fun H3 _ => rv_addS (by simp; omega)) ?_
          refine s_asgV (m := n) (v := .int ((j + 1 : Nat) : Int)) (ev_is (ev_op2 (m := n) (ev_var rfl) ev_c fun H3 _ => rv_addI) (by congr 1)) fun H2 e2 => ⟨e2, l.length - (j + 1), by omega, j + 1, f ++ [d], rfl, by omega, rfl, by omega, h1, h2⟩
        have hlen1 : ∀ (H3 : Hp), EvT R n n (tTest (tOp rLtU (tOp (rAddU K) (tVar 3) (tC (.int 1))) (tCB (rLenU K) (tCons (tVar 0) tNil)))) [some (sv l), some (.int (b : Nat)), some (sv f), some (.int (i : Nat))] H3 (· = decide (i + 1 < l.length)) := fun H3 => et_is (et_test (ev_op2 (m := n) (ev_op2 (m := n) (ev_var rfl) ev_c fun H3 _ => rv_addI) (ev_lenS (ev_var rfl) (by omega)) fun H3 _ => rv_ltI)) (decide_eq_decide.mpr (by omega))
        refine q_whenB (m := n) (b := decide (c = 92) && decide (i + 1 < l.length)) (et_and (et_is (et_test (ev_op2 (m := n) (hix i c B f hc) (ev_str (l := [92]) (by decide +kernel)) fun H3 _ => rv_eqS)) (decide_eq_decide.mpr (by simp))) fun _ => hlen1 B) (fun hb2 => ?_) (fun hb2 => ?_)
        · rw [Bool.and_eq_true, decide_eq_true_eq, decide_eq_true_eq] at hb2
          obtain ⟨rfl, h2⟩ := hb2
          have hj : l[i + 1]? = some l[i + 1] := List.getElem?_eq_getElem h2
          generalize l[i + 1] = d at hj
          have hd2 := drop_at hj
          rw [hd, hd2, cut2_cons2, if_neg hs, if_pos rfl] at hf hn
          refine s_asgV (m := n) (v := .int ((i + 1 : Nat) : Int)) (ev_is (ev_op2 (m := n) (ev_var rfl) ev_c fun H3 _ => rv_addI) (by congr 1)) fun H2 e2 => tail (i + 1) d (by omega) hj ?_ ?_ H2 e2
          · rw [← hf, List.append_assoc]
            show _ = f ++ fnd (92 :: d :: _)
            conv => rhs; unfold fnd
            rw [if_pos rfl]
            rfl
          · simp only [List.length_cons] at hn
            omega
        · have h3 : (cut2 (l.drop i)).1 = c :: (cut2 (l.drop (i + 1))).1 ∧ fnd (c :: (cut2 (l.drop (i + 1))).1) = c :: fnd (cut2 (l.drop (i + 1))).1 := by
            by_cases h92 : c = 92
            · have hl2 : ¬ i + 1 < l.length := fun z => by
                rw [decide_eq_true h92, decide_eq_true z] at hb2
                cases hb2
              have hnil : l.drop (i + 1) = [] := List.drop_eq_nil_of_le (by omega)
              rw [hd, hnil, cut2_one, if_neg hs]
              exact ⟨rfl, rfl⟩
            · rw [hd, cut2_plain _ hs h92]
              exact ⟨rfl, fnd_plain _ h92⟩
          rw [h3.1] at hf hn
          refine tail i c (Nat.le_refl _) hc ?_ ?_
          · rw [← hf, h3.2, List.append_assoc]
            rfl
          · simp only [List.length_cons] at hn
            omega
      · have hs : isSep c = true := by
          cases z : isSep c with
          | true => rfl
          | false => rw [z] at hs; cases hs
        rw [hd]
        cases hr : l.drop (i + 1) with
        | nil => rw [cut2_one, if_pos hs]
        | cons d t => rw [cut2_cons2, if_pos hs]
    · refine ⟨false, et_is (et_and (a := false) (b := false) (et_is (et_test (ev_op2 (m := n) (ev_var rfl) (ev_lenS (ev_var rfl) (by omega)) fun H3 _ => rv_ltI)) (decide_eq_false (by omega))) (fun z => nomatch z)) rfl, (fun z => nomatch z), fun _ => fin ?_⟩
      have hnil : l.drop i = [] := List.drop_eq_nil_of_le (by omega)
      rw [hnil]
      rfl

end
end My
namespace My
open PySem PySem.Spec PyProof.Rows L2
section
variable {P : Program} {w : World} {K : PySem.W.Frag} {mg : Str → Option Value} {base : Heap}
/-! ### read_name -/
theorem fnd3_spec {l : Codes} {i : Nat} (hi : i ≤ l.length) : (61 ∉ l.drop i ∧ fnd3 l [61] (i : Nat) = -1) ∨ ∃ w a, l.drop i = w ++ 61 :: a ∧ 61 ∉ w ∧ fnd3 l [61] (i : Nat) = ((i + w.length : Nat) : Int) ∧ l.drop (i + w.length + 1) = a ∧ i + w.length + 1 ≤ l.length := by
  have hfi : PySem.fromIndex (SX.S l).length ((i : Nat) : Int) = i := by
    unfold PySem.fromIndex
    rw [if_neg (by omega)]
    omega
  have hget : ∀ v, v < l.length → (SX.S l).cps.getD v 0 = l.getD v 0 := fun v hv => by simp [SX.S]
  have hsl := SX.S_len l
  rcases StrLaws.find3_spec (SX.S l) 61 ((i : Nat) : Int) with ⟨h, hn⟩ | ⟨k, h, h1, h2, h3, h4⟩
  · refine .inl ⟨fun z => ?_, h⟩
    obtain ⟨j, hj, e⟩ := List.mem_iff_getElem.mp z
    rw [List.length_drop] at hj
    rw [List.getElem_drop] at e
    refine hn (i + j) (by rw [hfi]; omega) (by omega) ?_
    rw [hget _ (by omega), List.getD_eq_getElem?_getD, List.getElem?_eq_getElem (by omega), e]
    rfl
  · rw [hfi] at h1 h4
    rw [hsl] at h2
    refine .inr ⟨(l.drop i).take (k - i), l.drop (k + 1), ?_, ?_, ?_, ?_, ?_⟩
    · have e : l.drop k = 61 :: l.drop (k + 1) := by
        rw [List.drop_eq_getElem_cons h2]
        congr 1
        rw [hget k h2, List.getD_eq_getElem?_getD, List.getElem?_eq_getElem h2] at h3
        exact h3
      rw [← e]
      have e2 : l.drop k = (l.drop i).drop (k - i) := by rw [List.drop_drop]; congr 1; omega
      rw [e2, List.take_append_drop]
    · intro z
      obtain ⟨j, hj, e⟩ := List.mem_iff_getElem.mp z
      rw [List.length_take, List.length_drop] at hj
      rw [List.getElem_take, List.getElem_drop] at e
      refine h4 (i + j) (by omega) (by omega) ?_
      rw [hget _ (by omega), List.getD_eq_getElem?_getD, List.getElem?_eq_getElem (by omega), e]
      rfl
    · rw [List.length_take, List.length_drop, Nat.min_eq_left (by omega), show i + (k - i) = k by omega]
      exact h
    · rw [List.length_take, List.length_drop, Nat.min_eq_left (by omega), show i + (k - i) = k by omega]
    · rw [List.length_take, List.length_drop, Nat.min_eq_left (by omega)]
      omega
theorem take_no61 : ∀ {w : Codes} (_ : 61 ∉ w) (a : Codes), (w ++ 61 :: a).takeWhile (fun c => !decide (c = 61)) = w ∧ (w ++ 61 :: a).dropWhile (fun c => !decide (c = 61)) = 61 :: a
  | [], _, a => ⟨rfl, rfl⟩
  | c :: r, hw, a => by
    have h1 : (!decide (c = 61)) = true := by rw [decide_eq_false fun e => hw (by rw [e]; exact List.mem_cons_self ..)]; rfl
    obtain ⟨e1, e2⟩ := take_no61 (w := r) (fun x => hw (List.mem_cons_of_mem _ x)) a
    refine ⟨?_, ?_⟩
    · show ((c :: (r ++ 61 :: a)).takeWhile _) = _
      rw [List.takeWhile_cons_of_pos (p := fun c => !decide (c = 61)) h1, e1]
    · show ((c :: (r ++ 61 :: a)).dropWhile _) = _
      rw [List.dropWhile_cons_of_pos (p := fun c => !decide (c = 61)) h1, e2]
theorem pairP_at {w : Codes} (h : 61 ∉ w) (a : Codes) : pairP (w ++ 61 :: a) = if isWordL w then (match valP (cut2 a).1 with
      | some v => if isPlainL v then some ((w, v), (cut2 a).2) else none
      | none => none) else none := by
  unfold pairP
  obtain ⟨e1, e2⟩ := take_no61 h a
  rw [if_pos (by simp), e1, e2]
  rfl
theorem pairP_no {r : Codes} (h : 61 ∉ r) : pairP r = none := by
  unfold pairP
  rw [if_neg h]
theorem readP_dup {ls : List (List Pair)} {ps : List Pair} {w a : Codes} (h : 61 ∉ w) (hd : w ∈ ps.map Prod.fst) : readP ls ps (w ++ 61 :: a) = none := by
  have hp := pairP_at h a
  cases hq : pairP (w ++ 61 :: a) with
  | none => exact readP_none hq
  | some q =>
    obtain ⟨q, r⟩ := q
    have e : q.1 = w := by
      rw [hq] at hp
      split at hp
      · split at hp
        · split at hp
          · cases hp; rfl
          · cases hp
        · cases hp
      · cases hp
    cases r with
    | nil => rw [readP_end hq, if_pos (by rw [e]; exact hd)]
    | cons c r => rw [readP_more hq, if_pos (by rw [e]; exact hd)]
theorem fnd_mem : ∀ (l : Codes), ∀ c ∈ fnd l, c ∈ l
  | [], c, h => h
  | [d], c, h => h
  | d :: e :: r, c, h => by
    unfold fnd at h
    split at h
    · rcases List.mem_cons.mp h with rfl | h
      · simp
      · have := fnd_mem r c h
        simp [this]
    · rcases List.mem_cons.mp h with rfl | h
      · simp
      · exact List.mem_cons_of_mem _ (fnd_mem (e :: r) c h)
theorem asc_sub {a b : Codes} (h : ∀ c ∈ a, c ∈ b) (hb : asc b) : asc a := by
  unfold asc at *
  rw [List.all_eq_true] at *
  exact fun c hc => hb c (h c hc)
abbrev N_read_name : List Str := ["text", "leaves", "pairs", "at", "equals", "word", "pair", "value", "is_short", "leaf"]
theorem sc_read_name : FnScope N_read_name ["text"] (defScope s_read_name) := ⟨rfl, rfl, rfl, by decide +kernel, rfl, by decide +kernel, by decide +kernel⟩
-- slots: 0 text, 1 leaves, 2 pairs, 3 at, 4 equals, 5 word, 6 pair, 7 value, 8 is_short, 9 leaf
def nameO (K : PySem.W.Frag) : Option (List (List Pair)) → SP
  | none => is .non
  | some ls => nameSP K ls
def readO : Option Codes → Option (List (List Pair))
  | none => none
  | some l => lawName l
def sp_read_name (K : PySem.W.Frag) : Sp := pureSp (fun (x : Option Codes) M vs H => ∃ v, vs = [v] ∧ tOrN K x M v H) (fun x => nameO K (readO x))
theorem c_read_name (T : Tx K mg) : Cal P w K mg base 3 "read_name" ["text"] (sp_read_name K) := by
  have C_is_word := c_is_word (P := P) (w := w) (base := base) T
  have C_value_at := c_value_at (P := P) (w := w) (base := base) T
  have C_is_plain := c_is_plain (P := P) (w := w) (base := base) T
  refine T.d_read_name.cal sc_read_name (fun vs H Q E h => ?_) (fun _ _ _ _ _ _ us hl => match us, hl with | [_], _ => rfl) (fun f cdv A outer s H vs Q E hr h => ?_)
  · obtain ⟨R, n, x, _, ⟨v, rfl, _⟩, _⟩ := h
    rfl
  · obtain ⟨R, n, x, hj, ⟨v, rfl, hv⟩, q⟩ := h
    refine ⟨_, (pss_cons (ps_if (pt_not (pt_val (pe_callB (call_isiA (K := K)) (by rfl) T.b_isinstance (by decide +kernel) (pa_cons (pv 0) (pa_cons (pe_bty (T := "str") (by rfl) T.b_str (by decide +kernel)) pa_nil))))) (pss_one (ps_ret pe_non)) pss_nil)
      (pss_cons (ps_set (i := 1) sc_read_name.nd rfl (by first | exact Or.inl rfl | exact Or.inr rfl) (pe_lst pa_nil))
      (pss_cons (ps_set (i := 2) sc_read_name.nd rfl (by first | exact Or.inl rfl | exact Or.inr rfl) (pe_lst pa_nil))
      (pss_cons (ps_set (i := 3) sc_read_name.nd rfl (by first | exact Or.inl rfl | exact Or.inr rfl) pe_int)
      (pss_cons (ps_while PassesOwn.never (PW.pt (pw_and (pt_cmpR (cm_NotEq (K := K) hr.units) (pv 0) pe_str (nomark _)) (pw_and1 (pt_cmpR cm_LtE (pv 3) (pe_callB (call_lenA (K := K)) (by rfl) T.b_len (by decide +kernel) (pa_cons (pv 0) pa_nil)) (nomark _)))))
      (pss_cons (ps_set (i := 4) sc_read_name.nd rfl (by first | exact Or.inl rfl | exact Or.inr rfl) (pe_bmK (K := K) PySem.F.plainAttrs_str PySem.F.slot_str_find PySem.F.type_str_find mt_findA (pv 0) (pa_cons pe_str (pa_cons (pv 3) pa_nil))))
      (pss_cons (ps_set (i := 5) sc_read_name.nd rfl (by first | exact Or.inl rfl | exact Or.inr rfl) (pe_ifExp (pt_cmpR cm_GtE (pv 4) pe_int (nomark _)) (pe_slice (sl_any (K := K)) (pv 0) (po_some (pv 3)) (po_some (pv 4))) pe_str))
      (pss_cons (ps_if (PW.pt (pw_or (pt_not (pt_val (pe_callC C_is_word (hr.mono (by decide)) (by rfl) (pa_cons (pv 5) pa_nil)))) (pw_or1 (pt_cmpR (cm_In (K := K) (hu65 hr)) (pv 5) (pe_lc (own := [("pair", 6)]) (by rfl) sc_read_name.nd (pi_any (K := K) (pv 2)) (blkOk_by (own := [("pair", 6)]) (N := N_read_name) (sc := defScope s_read_name) (by decide +kernel)) (fun _ _ _ _ _ => (pg_name (i := 6) sc_read_name.nd rfl (by first | exact Or.inl rfl | exact Or.inr rfl))) (fun _ _ _ _ _ => pts_nil) (fun _ _ _ _ _ => (pe_ix (ix_any (K := K)) (pv 6) pe_int (fun _ _ => rfl)))) (by rfl))))) (pss_one (ps_ret pe_non)) pss_nil)
      (pss_cons (ps_asg (pe_callC C_value_at (hr.mono (by decide)) (by rfl) (pa_cons (pv 0) (pa_cons (pe_op (op_Add (K := K)) (pv 4) pe_int) pa_nil))) (pg_tupK (K := K) (n := 2) rfl (pgs_cons (pg_name (i := 7) sc_read_name.nd rfl (by first | exact Or.inl rfl | exact Or.inr rfl)) (pgs_cons (pg_name (i := 3) sc_read_name.nd rfl (by first | exact Or.inl rfl | exact Or.inr rfl)) pgs_nil))))
      (pss_cons (ps_if (pt_not (pt_val (pe_callC C_is_plain (hr.mono (by decide)) (by rfl) (pa_cons (pv 7) pa_nil)))) (pss_one (ps_ret pe_non)) pss_nil)
      (pss_cons (ps_expr (pe_bmK (K := K) PySem.F.plainAttrs_list PySem.F.slot_list_append PySem.F.type_list_append mt_append (pv 2) (pa_cons (pe_tup (pa_cons (pv 5) (pa_cons (pv 7) pa_nil))) pa_nil)))
      (pss_cons (ps_if (PW.pt (pw_or (pt_cmpR (cm_Eq (K := K) hr.units) (pv 3) (pe_callB (call_lenA (K := K)) (by rfl) T.b_len (by decide +kernel) (pa_cons (pv 0) pa_nil)) (nomark _)) (pw_or1 (pt_cmpR (cm_Eq (K := K) hr.units) (pe_ix (ix_any (K := K)) (pv 0) (pv 3) (fun _ _ => rfl)) pe_str (nomark _))))) (pss_cons (ps_expr (pe_bmK (K := K) PySem.F.plainAttrs_list PySem.F.slot_list_append PySem.F.type_list_append mt_append (pv 1) (pa_cons (pe_callTy (call_tupleA (K := K)) (by rfl) T.b_tuple (by decide +kernel) (pa_cons (pv 2) pa_nil)) pa_nil)))
      (pss_one (ps_set (i := 2) sc_read_name.nd rfl (by first | exact Or.inl rfl | exact Or.inr rfl) (pe_lst pa_nil)))) pss_nil)
      (pss_one (ps_set (i := 3) sc_read_name.nd rfl (by first | exact Or.inl rfl | exact Or.inr rfl) (pe_op (op_Add (K := K)) (pv 3) pe_int)))))))))))
      (pss_cons (ps_set (i := 8) sc_read_name.nd rfl (by first | exact Or.inl rfl | exact Or.inr rfl) (pe_and (pe_cmpR cm_LtE (pe_callB (call_lenA (K := K)) (by rfl) T.b_len (by decide +kernel) (pa_cons (pv 1) pa_nil)) (pe_globI (by rfl) T.g_MAX_LEAVES) (nomark _)) (pe_one (pe_callB (call_allA (K := K)) (by rfl) T.b_all (by decide +kernel) (pa_cons (pe_lc (own := [("leaf", 9)]) (by rfl) sc_read_name.nd (pi_any (K := K) (pv 1)) (blkOk_by (own := [("leaf", 9)]) (N := N_read_name) (sc := defScope s_read_name) (by decide +kernel)) (fun _ _ _ _ _ => (pg_name (i := 9) sc_read_name.nd rfl (by first | exact Or.inl rfl | exact Or.inr rfl))) (fun _ _ _ _ _ => pts_nil) (fun _ _ _ _ _ => (pe_cmpR cm_LtE (pe_callB (call_lenA (K := K)) (by rfl) T.b_len (by decide +kernel) (pa_cons (pv 9) pa_nil)) (pe_globI (by rfl) T.g_MAX_PAIRS) (nomark _)))) pa_nil)))))
      (pss_one (ps_ret (pe_ifExp (PW.pt (pw_and (pt_val (pv 8)) (pw_and1 (pt_cmpR (cm_Eq (K := K) hr.units) (pv 2) (pe_lst pa_nil) (nomark _))))) (pe_callTy (call_tupleA (K := K)) (by rfl) T.b_tuple (by decide +kernel) (pa_cons (pv 1) pa_nil)) pe_non))))))))), ?_⟩
    refine StF.run (R := R) (n := n) ?_ hj
    cases x with
    | none =>
      have hv : NoStr K R.M v H := hv
      refine q_whenB (m := n) (b := true) (et_not (et_B (ev_isNoStr (ev_varP (p := noStr K) rfl hv)))) (fun _ => ?_) (fun z => nomatch z)
      exact s_ret (m := n) (p := is .non) ev_c q
    | some l =>
      obtain ⟨rfl, ha, hl⟩ := hv
      refine q_whenB (m := n) (b := false) (et_not (et_B (ev_isStr (ev_var rfl)))) (fun z => nomatch z) (fun _ => ?_)
      have qn : lawName l = none → ∀ H2, R.ok n H H2 → Q .non H2 := fun hz H2 e2 => q .non H2 e2 (by
        show (nameO K (lawName l)).P R.M V.non H2
        rw [hz]
        rfl)
      -- the two lists
      refine StF.seq (s_asgE fun L H1 e1 hL => ?_)
      have j1 : R.J n (upd H1 L (.lst [])) := R.put e1.1 (R.fresh e1.1 hL)
      have l0 : H L = none := old_none e1 hL
      refine StF.run (R := R) (n := n) (H := upd H1 L (.lst [])) ?_ j1
      refine StF.seq (s_asgE fun P0 H2 e2 hP => ?_)
      have hLx : H2 L = some (.lst []) := e2.2 L _ (R.fresh e1.1 hL) upd_same
      have pr2 : pres R.M H H2 := (pres_upd0 e1.2 l0).trans e2.2
      have p0 : H P0 = none := old_none (R := R) (n := n) ⟨e2.1, pr2⟩ hP
      have neLP : L ≠ P0 := fun z => by rw [← z, hLx] at hP; cases hP
      have st0 : RdSt R n H L P0 [] [] [] [] (upd H2 P0 (.lst [])) := ⟨hj, R.put e2.1 (R.fresh e2.1 hP), pres_upd0 pr2 p0, neLP, l0, p0, by rw [upd_ne neLP]; exact hLx, upd_same, .nil, .nil⟩
      refine StF.run (R := R) (n := n) (H := upd H2 P0 (.lst [])) ?_ st0.J
      refine q_asgV (m := n) (v := .int ((0 : Nat) : Int)) ev_c ?_
      refine q_whileH (fun m σ' H' => ∃ (i : Nat) (P1 : Addr) (xs ys : List V) (ls : List (List Pair)) (ps : List Pair) (e4 e5 e7 : Option V), σ' = [some (sv l), some (.ref L), some (.ref P1), some (.int (i : Nat)), e4, e5, none, e7, none, none] ∧ RdSt R n H L P1 xs ys ls ps H' ∧ m = l.length + 1 - i ∧ ls.length ≤ i ∧ ps.length ≤ i ∧ i ≤ l.length + 1 ∧ ((l = [] ∧ ls = [] ∧ ps = []) ∨ (l ≠ [] ∧ i ≤ l.length ∧ readP ls ps (l.drop i) = lawName l) ∨ (l ≠ [] ∧ i = l.length + 1 ∧ ps = [] ∧ (if shortL ls then some ls else none) = lawName l))) (l.length + 1) (fun H3 e3 => ⟨0, P0, [], [], [], [], none, none, none, rfl, st0.step e3, rfl, Nat.le_refl _, Nat.le_refl _, Nat.zero_le _, ?_⟩) fun m σ' B hW => ?_
      · by_cases z : l = []
        · exact .inl ⟨z, rfl, rfl⟩
        · exact .inr (.inl ⟨z, Nat.zero_le _, read_law z⟩)
      obtain ⟨i, P1, xs, ys, ls, ps, e4, e5, e7, rfl, st, rfl, hls, hps, hi, hc⟩ := hW
      have hxs : xs.length = ls.length := st.fl.length
      have hys : ys.length = ps.length := st.fp.length
      refine ⟨st.J, !decide (l = []) && decide (i ≤ l.length), et_and (et_test (ev_op2 (ev_var rfl) (ev_str (l := []) (by decide +kernel)) fun H3 _ => rv_neS)) (fun _ => et_is (et_test (ev_op2 (m := n) (ev_var rfl) (ev_lenS (ev_var rfl) (by omega)) fun H3 _ => rv_leI)) (decide_eq_decide.mpr (by omega))), fun hb => ?_, fun hb => ?_⟩
      · -- a turn
        rw [Bool.and_eq_true, decide_eq_true_eq] at hb
        have hi2 : i ≤ l.length := hb.2
        have hne : l ≠ [] := fun z => by rw [decide_eq_true z] at hb; exact absurd hb.1 (by decide)
        have hrd : readP ls ps (l.drop i) = lawName l := by
          rcases hc with ⟨z, _⟩ | ⟨_, _, z⟩ | ⟨_, z, _⟩
          · exact absurd z hne
          · exact z
          · omega
        have bad : readP ls ps (l.drop i) = none → ∀ (ex : L2.St) (D' : Ends), D'.rt = Q → StF R n (tRet (tC .non)) D' ex B := fun hz ex D' hD => s_ret (m := n) (p := is .non) ev_c fun v H3 e3 hv => by
          rw [hD, show v = .non from hv]
          exact qn (hrd.symm.trans hz) H3 ⟨e3.1, st.pr.trans e3.2⟩
        have hword : ∀ (wd : Codes) (x4 x7 : Option V), wd.length ≤ 1000 → EvT R n n (tOr (tNot (tB (tCall sp_is_word [] E0 (tCons (tVar 5) tNil)))) (tTest (tOp (rInU K) (tVar 5) (tLc (iAny K (tVar 2)) (gName 6) tYes (tOp (rIx K) (tVar 6) (tC (.int 0))) [6])))) [some (sv l), some (.ref L), some (.ref P1), some (.int (i : Nat)), x4, some (sv wd), none, x7, none, none] B (· = (!isWordL wd || decide (wd ∈ ps.map Prod.fst))) := fun wd x4 x7 hwl => by
          refine et_or (et_not (et_B ?_)) fun _ => et_test (ev_inT (m := n) (ev_var rfl) ?_)
          · exact ev_pure (post := fun l => is (.bl (isWordL l))) wd (ea_cons (ev_var (v := sv wd) rfl) ea_nil) fun vs H1 _ hv => by
              obtain ⟨v, rfl, hv1⟩ := one hv
              exact ⟨by rw [show v = _ from hv1], hwl⟩
          · have hlst : EvP R n n (tVar 2) [some (sv l), some (.ref L), some (.ref P1), some (.int (i : Nat)), x4, some (sv wd), none, x7, none, none] B (lstP (pairSP K) ps) := ev_varP rfl ⟨P1, ys, rfl, ⟨st.hP, st.mP⟩, Paired_imp (fun _ _ z => z.sp st.j0) st.fp⟩
            have h2 := ev_lcQ (te := tOp (rIx K) (tVar 6) (tC (.int 0))) (vs := [6]) (j := 6) (fun q : Pair => sv q.1) ([], []) (it_lstP (K := K) hlst) (by omega) (fun x => rfl) (fun R' H' a x ex _ hx => by
              obtain ⟨T, ws, rfl, hT, rfl⟩ := hx
              exact ev_op2 (m := n) (ev_var (v := .ref T) rfl) ev_c fun H3 e3 => rv_ixT (hT.st e3.2).sq rfl)
            refine ev_is2 h2 ?_
            rw [List.map_map]
            rfl
        refine q_asgV (m := n) (v := .int (fnd3 l [61] (i : Nat))) (ev_find3 (ev_var rfl) (ev_str (l := [61]) (by decide +kernel)) (ev_var rfl)) ?_
        rcases fnd3_spec hi2 with ⟨hno, hf⟩ | ⟨w, a, hw, hw61, hf, hda, hka⟩
        · -- no equals sign
          rw [hf]
          refine q_asgV (m := n) (v := sv []) (ev_ifB (m := n) (b := false) (et_is (et_test (ev_op2 (m := n) (ev_var rfl) ev_c fun H3 _ => rv_geI)) (by decide)) (fun z => nomatch z) (fun _ => ev_str (by decide +kernel))) ?_
          exact q_whenB (m := n) (et_is (hword [] _ _ (by decide)) (show (!isWordL [] || _) = true from rfl)) (fun _ => bad (readP_none (pairP_no hno)) _ _ rfl) (fun z => nomatch z)
        · rw [hf]
          have hsl : sl l (some ((i : Nat) : Int)) (some ((i + w.length : Nat) : Int)) = w := by
            rw [sl_mid (by omega) (by omega) (by omega), Int.toNat_natCast, show (((i + w.length : Nat) : Int) - ((i : Nat) : Int)).toNat = w.length by omega, hw]
            exact List.take_left' rfl
          have hwl : w.length ≤ l.length := by omega
          refine q_asgV (m := n) (v := sv w) (ev_ifB (m := n) (b := true) (et_is (et_test (ev_op2 (m := n) (ev_var rfl) ev_c fun H3 _ => rv_geI)) (decide_eq_true (by omega))) (fun _ => ev_is (ev_sl (m := n) (k := n) (p := is (sv l)) (ev_var rfl) (eo_some (ev_var rfl)) (eo_some (ev_var rfl)) fun x H3 _ hx => by rw [show x = sv l from hx]; exact rs_S (by omega)) (by rw [hsl])) (fun z => nomatch z)) ?_
          refine q_whenB (m := n) (hword w _ _ (by omega)) (fun hb2 => bad ?_ _ _ rfl) (fun hb2 => ?_)
          · rw [hw]
            rw [Bool.or_eq_true] at hb2
            rcases hb2 with z | z
            · refine readP_none ?_
              rw [pairP_at hw61, if_neg]
              intro z2
              rw [z2] at z
              cases z
            · exact readP_dup hw61 (of_decide_eq_true z)
          · rw [Bool.or_eq_false_iff] at hb2
            have hwd : isWordL w = true := by
              cases z : isWordL w with
              | true => rfl
              | false => rw [z] at hb2; cases hb2.1
            have hdup : w ∉ ps.map Prod.fst := of_decide_eq_false hb2.2
            have hpp := pairP_at hw61 a
            rw [if_pos hwd] at hpp
            -- the value
            have happ := cut2_app a
            have halen : a.length = l.length - (i + w.length + 1) := by rw [← hda, List.length_drop]
            have hplen : (cut2 a).1.length + (cut2 a).2.length = a.length := by rw [← List.length_append, happ]
            have hdrop : l.drop (i + w.length + 1 + (cut2 a).1.length) = (cut2 a).2 := by
              have e : ((cut2 a).1 ++ (cut2 a).2).drop (cut2 a).1.length = (cut2 a).2 := List.drop_left' rfl
              rw [cut2_app] at e
              rw [← List.drop_drop, hda]
              exact e
            generalize hp : (cut2 a).1 = p at *
            generalize hr : (cut2 a).2 = r at *
            have hval : EvP R n n (tCall (sp_value_at K) [] E0 (tCons (tVar 0) (tCons (tOp (rAddU K) (tVar 4) (tC (.int 1))) tNil))) [some (sv l), some (.ref L), some (.ref P1), some (.int (i : Nat)), some (.int ((i + w.length : Nat) : Int)), some (sv w), none, e7, none, none] B (tupG K (· = [valV p, .int ((i + w.length + 1 + p.length : Nat) : Int)])) := by
              have hadd : EvP R n n (tOp (rAddU K) (tVar 4) (tC (.int 1))) [some (sv l), some (.ref L), some (.ref P1), some (.int (i : Nat)), some (.int ((i + w.length : Nat) : Int)), some (sv w), none, e7, none, none] B (is (.int ((i + w.length + 1 : Nat) : Int))) := ev_is (ev_op2 (m := n) (ev_var rfl) ev_c fun H3 _ => rv_addI) (by congr 1)
              have h3 : EvP R n n (tCall (sp_value_at K) [] E0 (tCons (tVar 0) (tCons (tOp (rAddU K) (tVar 4) (tC (.int 1))) tNil))) [some (sv l), some (.ref L), some (.ref P1), some (.int (i : Nat)), some (.int ((i + w.length : Nat) : Int)), some (sv w), none, e7, none, none] B (tupG K (· = [valV (cut2 (l.drop (i + w.length + 1))).1, .int ((i + w.length + 1 + (cut2 (l.drop (i + w.length + 1))).1.length : Nat) : Int)])) := ev_pure (post := fun x : Codes × Nat => tupG K (· = [valV (cut2 (x.1.drop x.2)).1, .int ((x.2 + (cut2 (x.1.drop x.2)).1.length : Nat) : Int)])) (l, i + w.length + 1) (ea_cons (ev_var (v := sv l) rfl) (ea_cons hadd ea_nil)) fun vs H1 _ hv => by
                obtain ⟨v, u, rfl, hv1, hv2⟩ := two hv
                exact ⟨by rw [show v = _ from hv1, show u = _ from hv2], hl, hka⟩
              rw [hda, hp] at h3
              exact h3
            refine q_asgP (m := n) (u := valV p) (w := .int ((i + w.length + 1 + p.length : Nat) : Int)) hval ?_
            have hplain : EvP R n n (tCall (sp_is_plain K) [] E0 (tCons (tVar 7) tNil)) [some (sv l), some (.ref L), some (.ref P1), some (.int ((i + w.length + 1 + p.length : Nat) : Int)), some (.int ((i + w.length : Nat) : Int)), some (sv w), none, some (valV p), none, none] B (is (.bl (isPlainO (valP p)))) := ev_pure (post := fun x => is (.bl (isPlainO x))) (valP p) (ea_cons (ev_var (v := valV p) rfl) ea_nil) fun vs H1 _ hv => by
              obtain ⟨v, rfl, hv1⟩ := one hv
              refine ⟨v, rfl, ?_⟩
              rw [show v = _ from hv1]
              unfold valV
              cases hz : valP p with
              | none => exact .inl rfl
              | some u =>
                have hu : u = fnd p := by
                  unfold valP at hz
                  split at hz
                  · cases hz; rfl
                  · cases hz
                have hpl : ∀ c ∈ p, c ∈ l := fun c hc => by
                  have h1 : c ∈ a := by rw [← happ]; exact List.mem_append_left _ hc
                  rw [← hda] at h1
                  exact List.mem_of_mem_drop h1
                refine ⟨rfl, asc_sub (fun c hc => hpl c (fnd_mem p c (by rw [← hu]; exact hc))) ha, ?_⟩
                have := fnd_len p
                rw [hu]
                omega
            refine q_whenB (m := n) (et_not (et_B hplain)) (fun hb3 => bad ?_ _ _ rfl) (fun hb3 => ?_)
            · rw [hw]
              refine readP_none ?_
              rw [hpp]
              cases hz : valP p with
              | none => rfl
              | some u =>
                dsimp only
                rw [if_neg]
                intro z
                rw [hz] at hb3
                have hb3 : (!isPlainL u) = true := hb3
                rw [z] at hb3
                cases hb3
            · have hpo : isPlainO (valP p) = true := by
                cases z : isPlainO (valP p) with
                | true => rfl
                | false => rw [z] at hb3; cases hb3
              cases hz : valP p with
              | none => rw [hz] at hpo; cases hpo
              | some u =>
                rw [hz] at hpo hpp
                have hpo : isPlainL u = true := hpo
                dsimp only at hpp
                rw [if_pos hpo, ← hw] at hpp
                have hvv : valV p = sv u := by unfold valV; rw [hz]
                rw [hvv]
                refine StF.seq (s_appT (vs := [sv w, sv u]) st.hP st.mP rfl (ea_cons (m := n) (ev_var rfl) (ea_cons (ev_var rfl) ea_nil)) (by omega) (by show 2 ≤ 100000; decide) fun T H3 e3 hT => ?_)
                have st2 : RdSt R n H L P1 xs (ys ++ [.ref T]) ls (ps ++ [(w, u)]) (upd (upd H3 T (.tup [sv w, sv u])) P1 (.lst (ys ++ [.ref T]))) := (st.step e3).pair hT (w, u)
                refine StF.run (R := R) (n := n) (H := upd (upd H3 T (.tup [sv w, sv u])) P1 (.lst (ys ++ [.ref T]))) ?_ st2.J
                generalize upd (upd H3 T (.tup [sv w, sv u])) P1 (.lst (ys ++ [.ref T])) = B2 at st2 ⊢
                have hat : i + w.length + 1 + p.length ≤ l.length := by omega
                generalize hat2 : i + w.length + 1 + p.length = at2 at *
                have hlenE : EvP R n n (tCB (rLenU K) (tCons (tVar 0) tNil)) [some (sv l), some (.ref L), some (.ref P1), some (.int ((at2 : Nat) : Int)), some (.int ((i + w.length : Nat) : Int)), some (sv w), none, some (sv u), none, none] B2 (is (.int l.length)) := ev_lenS (ev_var rfl) (by omega)
                have hinc : ∀ (P2 : Addr) (B3 : Hp), EvP R n n (tOp (rAddU K) (tVar 3) (tC (.int 1))) [some (sv l), some (.ref L), some (.ref P2), some (.int ((at2 : Nat) : Int)), some (.int ((i + w.length : Nat) : Int)), some (sv w), none, some (sv u), none, none] B3 (is (.int ((at2 + 1 : Nat) : Int))) := fun P2 B3 => ev_is (ev_op2 (m := n) (ev_var rfl) ev_c fun H3 _ => rv_addI) (by congr 1)
                have htest : ∃ b : Bool, EvT R n n (tOr (tTest (tOp (rEqU K) (tVar 3) (tCB (rLenU K) (tCons (tVar 0) tNil)))) (tTest (tOp (rEqU K) (tOp (rIx K) (tVar 0) (tVar 3)) (tC (.str ","))))) [some (sv l), some (.ref L), some (.ref P1), some (.int ((at2 : Nat) : Int)), some (.int ((i + w.length : Nat) : Int)), some (sv w), none, some (sv u), none, none] B2 (· = b) ∧ (b = true → ((l ≠ [] ∧ at2 + 1 ≤ l.length ∧ readP (ls ++ [ps ++ [(w, u)]]) [] (l.drop (at2 + 1)) = lawName l) ∨ (l ≠ [] ∧ at2 + 1 = l.length + 1 ∧ ([] : List Pair) = [] ∧ (if shortL (ls ++ [ps ++ [(w, u)]]) then some (ls ++ [ps ++ [(w, u)]]) else none) = lawName l))) ∧ (b = false → l ≠ [] ∧ at2 + 1 ≤ l.length ∧ readP ls (ps ++ [(w, u)]) (l.drop (at2 + 1)) = lawName l) := by
                  cases hrr : r with
                  | nil =>
                    rw [hrr] at hpp hplen
                    have hend : at2 = l.length := by simp only [List.length_nil] at hplen; omega
                    refine ⟨true, et_is (et_or (a := true) (b := true) (et_is (et_test (ev_op2 (m := n) (ev_var rfl) hlenE fun H3 _ => rv_eqI)) (decide_eq_true (by omega))) (fun z => nomatch z)) rfl, fun _ => .inr ⟨hne, by omega, rfl, ?_⟩, fun z => nomatch z⟩
                    rw [← hrd, readP_end hpp, if_neg hdup]
                  | cons c r2 =>
                    rw [hrr] at hpp hplen hdrop
                    have hat3 : at2 < l.length := by simp only [List.length_cons] at hplen; omega
                    have hcx : l[at2]? = some c := by
                      have := congrArg (fun z => z[0]?) hdrop
                      simpa using this
                    have hdr2 : l.drop (at2 + 1) = r2 := by
                      have := drop_at hcx
                      rw [hdrop] at this
                      exact (List.cons.inj this).2.symm
                    have hsep := cut2_sep a (hr.trans hrr)
                    have hmore := readP_more (leaves := ls) (pairs := ps) hpp
                    rw [if_neg hdup, hrd] at hmore
                    refine ⟨decide (c = 44), et_is (et_or (a := false) (et_is (et_test (ev_op2 (m := n) (ev_var rfl) hlenE fun H3 _ => rv_eqI)) (decide_eq_false (by omega))) (fun _ => et_test (ev_op2 (m := n) (ev_op2 (m := n) (ev_var rfl) (ev_var rfl) fun H3 _ => rv_ixS (by omega) (at_nat hcx)) (ev_str (l := [44]) (by decide +kernel)) fun H3 _ => rv_eqS))) (by rw [Bool.false_or]; exact decide_eq_decide.mpr (by simp)), fun hb4 => .inl ⟨hne, by omega, ?_⟩, fun hb4 => ⟨hne, by omega, ?_⟩⟩
                    · rw [if_pos (of_decide_eq_true hb4)] at hmore
                      rw [hdr2, hmore]
                    · rw [if_neg (of_decide_eq_false hb4)] at hmore
                      rw [hdr2, hmore]
                obtain ⟨b4, ht4, hT4, hF4⟩ := htest
                refine q_whenB (m := n) ht4 (fun hb4 => ?_) (fun hb4 => ?_)
                · refine StF.seq (s_appTup st2.hL st2.mL st2.hP st2.mP rfl rfl (by omega) fun T2 H4 e4' hT2 => ?_)
                  have st3 := (st2.step e4').leaf hT2
                  refine StF.run (R := R) (n := n) (H := upd (upd H4 T2 (.tup (ys ++ [.ref T]))) L (.lst (xs ++ [.ref T2]))) ?_ st3.J
                  refine s_asgE fun P2 H5 e5' hP2 => ?_
                  have st4 := (st3.step e5').fresh hP2
                  refine StF.run (R := R) (n := n) (H := upd H5 P2 (.lst [])) ?_ st4.J
                  refine s_asgV (m := n) (hinc P2 _) fun H6 e6 => ⟨l.length + 1 - (at2 + 1), by omega, at2 + 1, P2, _, _, _, _, _, _, _, rfl, st4.step e6, rfl, by simp; omega, Nat.zero_le _, by omega, .inr (hT4 hb4)⟩
                · refine s_asgV (m := n) (hinc P1 _) fun H6 e6 => ⟨l.length + 1 - (at2 + 1), by omega, at2 + 1, P1, _, _, _, _, _, _, _, rfl, st2.step e6, rfl, by omega, by simp; omega, by omega, .inr (.inl (hF4 hb4))⟩
      · -- behind the loop
        have hfin : ps = [] ∧ (if shortL ls then some ls else none) = lawName l := by
          rcases hc with ⟨z, rfl, rfl⟩ | ⟨z, z2, _⟩ | ⟨_, _, z, z2⟩
          · rw [z]
            exact ⟨rfl, rfl⟩
          · rw [decide_eq_false z, decide_eq_true z2] at hb
            cases hb
          · exact ⟨z, z2⟩
        obtain ⟨rfl, hZ⟩ := hfin
        have hy0 : ys = [] := List.length_eq_zero_iff.mp hys
        subst hy0
        have hlst : ∀ (x8 : Option V), EvP R n n (tVar 1) [some (sv l), some (.ref L), some (.ref P1), some (.int (i : Nat)), e4, e5, none, e7, x8, none] B (lstP (leafSP K) ls) := fun x8 => ev_varP rfl ⟨L, xs, rfl, ⟨st.hL, st.mL⟩, Paired_imp (fun _ _ z => z.sp st.j0) st.fl⟩
        refine q_asgV (m := n) (v := .bl (shortL ls)) (ev_is (ev_andV (a := decide ((ls.length : Int) ≤ 12)) (b := (ls.map fun x => decide (x.length ≤ 4)).all id) (ev_op2 (m := n) (x := .int ls.length) (ev_is (ev_lenL (ev_var rfl) (SqM.of st.hL st.mL)) (by rw [hxs])) ev_c fun H3 _ => rv_leI) fun _ => ev_all ?_) ?_) ?_
        · have h2 := ev_lcQ (te := tOp rLeU (tCB (rLenU K) (tCons (tVar 9) tNil)) (tC (.int 4))) (vs := [9]) (j := 9) (fun x : List Pair => .bl (decide (x.length ≤ 4))) [] (it_lstP (K := K) (hlst none)) (by omega) (fun x => rfl) (fun R' H' a x ex _ hx => ev_is (ev_op2 (m := n) (x := .int a.length) (ev_lenP (K := K) (pe := pairSP K) (qs := a) (ev_varP (p := leafSP K a) rfl hx)) ev_c fun H3 _ => rv_leI) (by congr 1; exact decide_eq_decide.mpr (by omega)))
          refine ev_is2 h2 ?_
          rw [List.map_map]
          rfl
        · congr 1
          unfold shortL
          rw [all_map]
          congr 1
          exact decide_eq_decide.mpr (by omega)
        · refine s_ret (m := n) (p := nameO K (readO (some l))) ?_ fun v H2 e2 hv => q v H2 ⟨e2.1, st.pr.trans e2.2⟩ hv
          show EvP R n n _ _ B (nameO K (lawName l))
          rw [← hZ]
          refine ev_ifB (m := n) (b := shortL ls) (et_is (et_and (et_B (ev_var rfl)) fun _ => et_test (ev_eqE (ev_var rfl) st.hP st.mP (ev_lstV (vs := []) ea_nil (Nat.zero_le _)))) (Bool.and_true _)) (fun hb5 => ?_) (fun hb5 => ?_)
          · rw [if_pos hb5]
            exact ev_tupOf (hlst _)
          · rw [if_neg (by rw [hb5]; decide)]
            exact ev_c

end
end My
namespace My
open PySem PySem.Spec PyProof.Rows L2
section
variable {P : Program} {w : World} {K : PySem.W.Frag} {mg : Str → Option Value} {base : Heap}
/-! ### is_integer_text, is_valid, has_order -/
def dgL (l : Codes) : Codes := if l.head? = some 45 then l.tail else l
def digL : Codes := cs "0123456789"
def isIntL (l : Codes) : Bool := decide (1 ≤ (dgL l).length ∧ (dgL l).length ≤ 30) && ((dgL l).all (fun c => decide (c ∈ digL)) && (decide (l = [48]) || !decide ((dgL l).head? = some 48)))
theorem remp (l : Codes) : Txt.removeprefix (SX.S l) (SX.S [45]) = SX.S (dgL l) := by
  have h := StrLaws.subAt_one (SX.S l) 45 0
  have e0 : (SX.S l).cps.toList = l := by simp [SX.S]
  rw [e0] at h
  rw [StrLaws.removeprefix_eq]
  by_cases z : l.head? = some 45
  · have z0 : l[0]? = some 45 := by rw [← List.head?_eq_getElem?]; exact z
    have h1 := h.mpr z0
    rw [if_pos (by rw [Bool.and_eq_true, decide_eq_true_eq]; exact h1), e0]
    unfold dgL
    rw [if_pos z]
    refine TL.ext_tl ?_
    show (l.drop 1).take ((SX.S l).length - 1) = l.tail
    rw [SX.S_len, List.drop_one]
    exact List.take_of_length_le (by rw [List.length_tail]; exact Nat.le_refl _)
  · rw [if_neg, dgL, if_neg z]
    intro h1
    rw [Bool.and_eq_true, decide_eq_true_eq] at h1
    have := h.mp h1
    rw [← List.head?_eq_getElem?] at this
    exact z this
theorem ev_remp {R : Rel} {n m k : Nat} {σ : L2.St} {H : Hp} {te tb : TE} {l : Codes} (ha : EvP R n m te σ H (is (sv l))) (hb : EvP R m k tb σ H (is (sv [45]))) (hl : l.length ≤ 100000) : EvP R n k (tBM K "str" rRemPreU te (tCons tb tNil)) σ H (is (sv (dgL l))) :=
  ev_bmS1 ha hb fun v H1 e hv => by
    have hv : v = sv [45] := hv
    subst hv
    refine rm_now fun Q q => ⟨_, _, rfl, rfl, slen hl, ?_⟩
    rw [remp]
    exact q
theorem dgL_len (l : Codes) : (dgL l).length ≤ l.length := by
  unfold dgL
  split
  · rw [List.length_tail]; omega
  · exact Nat.le_refl _
abbrev N_is_integer_text : List Str := ["value", "digits", "digit"]
theorem sc_is_integer_text : FnScope N_is_integer_text ["value"] (defScope s_is_integer_text) := ⟨rfl, rfl, rfl, by decide +kernel, rfl, by decide +kernel, by decide +kernel⟩
-- slots: 0 value, 1 digits, 2 digit
def sp_is_integer_text : Sp := pureSp (fun (l : Codes) _ vs _ => vs = [sv l] ∧ l.length ≤ 1000) (fun l => is (.bl (isIntL l)))
theorem bnd {a : Nat} {lo hi : Int} {lo' hi' : Nat} (h1 : lo = (lo' : Int)) (h2 : hi = (hi' : Int)) : (decide (lo ≤ (a : Int)) && decide ((a : Int) ≤ hi)) = decide (lo' ≤ a ∧ a ≤ hi') := by
  rw [Bool.decide_and]
  congr 1 <;> exact decide_eq_decide.mpr (by omega)
theorem c_is_integer_text (T : Tx K mg) : Cal P w K mg base 1 "is_integer_text" ["value"] (sp_is_integer_text) := by
  refine T.d_is_integer_text.cal sc_is_integer_text (fun vs H Q E h => ?_) (fun _ _ _ _ _ _ us hl => match us, hl with | [_], _ => rfl) (fun f cdv A outer s H vs Q E hr h => ?_)
  · obtain ⟨R, n, l, _, ⟨rfl, _⟩, _⟩ := h
    rfl
  · obtain ⟨R, n, l, hj, ⟨rfl, hl⟩, q⟩ := h
    refine ⟨_, (pss_cons (ps_set (i := 1) sc_is_integer_text.nd rfl (by first | exact Or.inl rfl | exact Or.inr rfl) (pe_bmK (K := K) PySem.F.plainAttrs_str PySem.F.slot_str_removeprefix PySem.F.type_str_removeprefix mt_removeprefixA (pv 0) (pa_cons pe_str pa_nil)))
      (pss_cons (ps_if (PW.pt (pw_or (pt_not (pt_chain cm_LtE cm_LtE pe_int (pe_callB (call_lenA (K := K)) (by rfl) T.b_len (by decide +kernel) (pa_cons (pv 1) pa_nil)) (pe_globI (by rfl) T.g_MAX_DIGITS))) (pw_or1 (pt_not (pt_val (pe_callB (call_allA (K := K)) (by rfl) T.b_all (by decide +kernel) (pa_cons (pe_lc (own := [("digit", 2)]) (by rfl) sc_is_integer_text.nd (pi_any (K := K) (pv 1)) (blkOk_by (own := [("digit", 2)]) (N := N_is_integer_text) (sc := defScope s_is_integer_text) (by decide +kernel)) (fun _ _ _ _ _ => (pg_name (i := 2) sc_is_integer_text.nd rfl (by first | exact Or.inl rfl | exact Or.inr rfl))) (fun _ _ _ _ _ => pts_nil) (fun _ _ _ _ _ => (pe_cmpR (cm_In (K := K) (hu65 hr)) (pv 2) (pe_globS (by rfl) T.g_DIGITS) (by rfl)))) pa_nil))))))) (pss_one (ps_ret pe_bl)) pss_nil)
      (pss_one (ps_ret (pe_or (pe_cmpR (cm_Eq (K := K) hr.units) (pv 0) pe_str (nomark _)) (pe_one (pe_cmpR (cm_NotEq (K := K) hr.units) (pe_ix (ix_any (K := K)) (pv 1) pe_int (fun _ _ => rfl)) pe_str (nomark _)))))))), ?_⟩
    refine StF.run (R := R) (n := n) ?_ hj
    have hd := dgL_len l
    refine q_asgV (m := n) (v := sv (dgL l)) (ev_remp (ev_var rfl) (ev_str (l := [45]) (by decide +kernel)) (by omega)) ?_
    generalize hdd : dgL l = d at *
    have hall : EvP R n n (tCB (rAll K) (tCons (tLc (iAny K (tVar 1)) (gName 2) tYes (tOp (rInU K) (tVar 2) (tC (.str "0123456789"))) [2]) tNil)) [some (sv l), some (sv d), none] H (is (.bl (d.all fun c => decide (c ∈ digL)))) := by
      refine ev_is (ev_all (bs := d.map fun c => decide (c ∈ digL)) ?_) (by rw [all_map])
      have h2 := ev_lcQ (R := R) (n := n) (H := H) (σ := [some (sv l), some (sv d), none]) (te := tOp (rInU K) (tVar 2) (tC (.str "0123456789"))) (vs := [2]) (j := 2) (fun c : Nat => .bl (decide (c ∈ digL))) 0 (it_text (K := K) (ev_var (i := 1) (v := sv d) rfl)) (by omega) (fun x => rfl) (fun R' H' a x ex _ hx => by
        have hx : x = sv [a] := hx
        subst hx
        exact ev_op2 (m := n) (ev_var (v := sv [a]) rfl) (ev_str (l := digL) (SX.S_tl _).symm) fun H3 _ => rv_inS)
      refine ev_is2 h2 ?_
      rw [List.map_map]
      rfl
    refine q_whenB (m := n) (b := !decide (1 ≤ d.length ∧ d.length ≤ 30) || !(d.all fun c => decide (c ∈ digL))) (et_or (et_not (et_is (et_test (ev_chain ev_c (ev_lenS (ev_var rfl) (by omega)) ev_c (fun H3 _ => rv_leI) (fun H3 _ => rv_leI))) (bnd rfl rfl))) fun _ => et_not (et_B hall)) (fun hb => ?_) (fun hb => ?_)
    · refine s_ret (m := n) (p := is (.bl (isIntL l))) (ev_is ev_c ?_) q
      congr 1
      unfold isIntL
      rw [hdd]
      rw [Bool.or_eq_true] at hb
      rcases hb with z | z
      · cases h : decide (1 ≤ d.length ∧ d.length ≤ 30) with
        | true => rw [h] at z; cases z
        | false => rfl
      · cases h : d.all fun c => decide (c ∈ digL) with
        | true => rw [h] at z; cases z
        | false => rw [Bool.false_and, Bool.and_false]
    · rw [Bool.or_eq_false_iff] at hb
      have h1 : decide (1 ≤ d.length ∧ d.length ≤ 30) = true := by
        cases h : decide (1 ≤ d.length ∧ d.length ≤ 30) with
        | true => rfl
        | false => rw [h] at hb; cases hb.1
      have h2 : (d.all fun c => decide (c ∈ digL)) = true := by
        cases h : d.all fun c => decide (c ∈ digL) with
        | true => rfl
        | false => rw [h] at hb; cases hb.2
      refine s_ret (m := n) (p := is (.bl (isIntL l))) ?_ q
      unfold isIntL
      rw [hdd, h1, h2, Bool.true_and, Bool.true_and]
      cases d with
      | nil => cases h1
      | cons c r => exact ev_is (ev_orV (ev_op2 (m := n) (ev_var rfl) (ev_str (l := [48]) (by decide +kernel)) fun H3 _ => rv_eqS) fun _ => ev_op2 (m := n) (ev_op2 (m := n) (ev_var rfl) ev_c fun H3 _ => rv_ixS (c := c) (by omega) (at_nat (i := 0) (l := c :: r) rfl)) (ev_str (l := [48]) (by decide +kernel)) fun H3 _ => rv_neS) (by
          congr 2
          show (!decide ([c] = [48])) = !decide (some c = some 48)
          congr 1
          exact decide_eq_decide.mpr (by simp))
abbrev N_is_valid : List Str := ["syntax", "value"]
theorem sc_is_valid : FnScope N_is_valid ["syntax", "value"] (defScope s_is_valid) := ⟨rfl, rfl, rfl, by decide +kernel, rfl, by decide +kernel, by decide +kernel⟩
-- slots: 0 syntax, 1 value
/-- the syntaxes -/
def synN : Nat → Codes
  | 0 => cs "text"
  | 1 => cs "exact"
  | 2 => cs "integer"
  | 3 => cs "truth"
  | _ => cs "name"
def isValidL (k : Nat) : Option Codes → Bool
  | none => false
  | some l => isValL (some l) && (if k = 4 then (lawName l).isSome else if k = 2 then isIntL l else if k = 3 then decide (l = cs "TRUE" ∨ l = cs "FALSE") else decide (l.length ≤ 60) && (decide (k = 1) || !decide (plainL l = [])))
theorem isValidL_some (k : Nat) (l : Codes) : isValidL k (some l) = (isValL (some l) && (if k = 4 then (lawName l).isSome else if k = 2 then isIntL l else if k = 3 then decide (l = cs "TRUE" ∨ l = cs "FALSE") else decide (l.length ≤ 60) && (decide (k = 1) || !decide (plainL l = [])))) := rfl
theorem ev_inTup {R : Rel} {n m k : Nat} {σ : L2.St} {H : Hp} {ta tb : TE} {w : Codes} {ws : List Codes} {p : Addr} (ha : EvP R n m ta σ H (is (sv w))) (hb : EvP R m k tb σ H (is (.ref p))) (hT : ∀ H, SqT K H p (ws.map sv)) : EvP R n k (tOp (rInU K) ta tb) σ H (is (.bl (decide (w ∈ ws)))) :=
  ev_op2 ha hb fun H1 _ _ j Q f => by
    refine .inr (.inl ⟨p, _, rfl, .inr (hT H1), rfl, ?_, ?_⟩)
    · rw [List.all_map, List.all_eq_true]
      intro x _
      rfl
    · show Q (.bl (inV (sv w) (ws.map sv))) H1
      rw [inV_sv]
      exact f _ H1 (R.self j) rfl
def sp_is_valid (K : PySem.W.Frag) : Sp := pureSp (fun (x : Nat × Option Codes) M vs H => ∃ v, vs = [sv (synN x.1), v] ∧ x.1 ≤ 4 ∧ tOrN K x.2 M v H) (fun x => is (.bl (isValidL x.1 x.2)))
theorem syn_eq {k j : Nat} (hk : k ≤ 4) (hj : j ≤ 4) : decide (synN k = synN j) = decide (k = j) := by
  have hk : k = 0 ∨ k = 1 ∨ k = 2 ∨ k = 3 ∨ k = 4 := by omega
  have hj : j = 0 ∨ j = 1 ∨ j = 2 ∨ j = 3 ∨ j = 4 := by omega
  rcases hk with rfl | rfl | rfl | rfl | rfl <;> rcases hj with rfl | rfl | rfl | rfl | rfl <;> decide +kernel
theorem nameO_some {M : Addr → Prop} {o : Option (List (List Pair))} {v : V} {H : Hp} (h : (nameO K o).P M v H) : decide (v = .non) = !o.isSome := by
  cases o with
  | none =>
    have h : v = .non := h
    rw [h]
    rfl
  | some ls =>
    obtain ⟨p, xs, rfl, _⟩ := h
    rfl
theorem c_is_valid (T : Tx K mg) : Cal P w K mg base 4 "is_valid" ["syntax", "value"] (sp_is_valid K) := by
  have C_is_value := c_is_value (P := P) (w := w) (base := base) T
  have C_read_name := c_read_name (P := P) (w := w) (base := base) T
  have C_is_integer_text := c_is_integer_text (P := P) (w := w) (base := base) T
  have C_plain_text := c_plain_text (P := P) (w := w) (base := base) T
  refine T.d_is_valid.cal sc_is_valid (fun vs H Q E h => ?_) (fun _ _ _ _ _ _ us hl => match us, hl with | [_, _], _ => rfl) (fun f cdv A outer s H vs Q E hr h => ?_)
  · obtain ⟨R, n, x, _, ⟨v, rfl, _⟩, _⟩ := h
    rfl
  · obtain ⟨R, n, ⟨k, x⟩, hj, ⟨v, rfl, hk, hv⟩, q⟩ := h
    refine ⟨_, (pss_cons (ps_if (pt_not (pt_val (pe_callC C_is_value (hr.mono (by decide)) (by rfl) (pa_cons (pv 1) pa_nil)))) (pss_one (ps_ret pe_bl)) pss_nil)
      (pss_cons (ps_if (pt_cmpR (cm_Eq (K := K) hr.units) (pv 0) pe_str (nomark _)) (pss_one (ps_ret (pe_cmpR cm_IsNot (pe_callC C_read_name (hr.mono (by decide)) (by rfl) (pa_cons (pv 1) pa_nil)) pe_non (nomark _)))) pss_nil)
      (pss_cons (ps_if (pt_cmpR (cm_Eq (K := K) hr.units) (pv 0) pe_str (nomark _)) (pss_one (ps_ret (pe_callC C_is_integer_text (hr.mono (by decide)) (by rfl) (pa_cons (pv 1) pa_nil)))) pss_nil)
      (pss_cons (ps_if (pt_cmpR (cm_Eq (K := K) hr.units) (pv 0) pe_str (nomark _)) (pss_one (ps_ret (pe_cmpR (cm_In (K := K) (hu65 hr)) (pv 1) (pe_globR (by rfl) T.g_TRUTHS) (by rfl)))) pss_nil)
      (pss_one (ps_ret (pe_and (pe_cmpR cm_LtE (pe_callB (call_lenA (K := K)) (by rfl) T.b_len (by decide +kernel) (pa_cons (pv 1) pa_nil)) (pe_globI (by rfl) T.g_MAX_VALUE) (nomark _)) (pe_one (pe_or (pe_cmpR (cm_Eq (K := K) hr.units) (pv 0) pe_str (nomark _)) (pe_one (pe_cmpR (cm_NotEq (K := K) hr.units) (pe_callC C_plain_text (hr.mono (by decide)) (by rfl) (pa_cons (pv 1) pa_nil)) pe_str (nomark _)))))))))))), ?_⟩
    have hk : k ≤ 4 := hk
    have hv : tOrN K x R.M v H := hv
    refine StF.run (R := R) (n := n) ?_ hj
    have hval : EvP R n n (tCall (sp_is_value K) [] E0 (tCons (tVar 1) tNil)) [some (sv (synN k)), some v] H (is (.bl (isValL x))) := by
      cases x with
      | none =>
        exact ev_pure (post := fun x => is (.bl (isValL x))) none (ea_cons (ev_varP (p := noStr K) rfl hv) ea_nil) fun vs H1 _ hv => by
          obtain ⟨v, rfl, hv1⟩ := one hv
          exact ⟨v, rfl, hv1⟩
      | some l =>
        obtain ⟨rfl, ha, hl⟩ := hv
        exact ev_pure (post := fun x => is (.bl (isValL x))) (some l) (ea_cons (ev_var (v := sv l) rfl) ea_nil) fun vs H1 _ hv => by
          obtain ⟨v, rfl, hv1⟩ := one hv
          exact ⟨v, rfl, hv1, ha, hl⟩
    refine q_whenB (m := n) (et_not (et_B hval)) (fun hb => ?_) (fun hb => ?_)
    · refine s_ret (m := n) (p := is (.bl (isValidL k x))) (ev_is ev_c ?_) q
      congr 1
      cases x with
      | none => rfl
      | some l =>
        rw [isValidL_some]
        cases h : isValL (some l) with
        | true => rw [h] at hb; cases hb
        | false => rfl
    · cases x with
      | none => cases hb
      | some l =>
        obtain ⟨rfl, ha, hl⟩ := hv
        have hvl : isValL (some l) = true := by
          cases h : isValL (some l) with
          | true => rfl
          | false => rw [h] at hb; cases hb
        have hsyn : ∀ (j : Nat) (c : Str), j ≤ 4 → c = SX.S (synN j) → EvT R n n (tTest (tOp (rEqU K) (tVar 0) (tC (.str c)))) [some (sv (synN k)), some (sv l)] H (· = decide (k = j)) := fun j c hj hc => et_is (et_test (ev_op2 (m := n) (ev_var rfl) (ev_str hc) fun H3 _ => rv_eqS)) (syn_eq hk hj)
        have qq : ∀ (b : Bool), b = isValidL k (some l) → ∀ v H1, R.ok n H H1 → (is (.bl b)).P R.M v H1 → Q v H1 := fun b hb v H1 e hv => q v H1 e (by subst hb; exact hv)
        refine q_whenB (m := n) (hsyn 4 _ (by decide) (SX.S_tl _).symm) (fun hb4 => ?_) (fun hb4 => ?_)
        · have hb4 := of_decide_eq_true hb4
          refine s_ret (m := n) (p := is (.bl (lawName l).isSome)) ?_ (qq _ (by rw [isValidL_some, hvl, if_pos hb4, Bool.true_and]))
          have hread : EvP R n n (tCall (sp_read_name K) [] E0 (tCons (tVar 1) tNil)) [some (sv (synN k)), some (sv l)] H (nameO K (lawName l)) := ev_pure (post := fun x => nameO K (readO x)) (some l) (ea_cons (ev_var (v := sv l) rfl) ea_nil) fun vs H1 _ hv => by
            obtain ⟨v, rfl, hv1⟩ := one hv
            exact ⟨v, rfl, hv1, ha, hl⟩
          exact ev_op (m := n) hread ev_c fun x y H3 e3 hx hy => by
            have hy : y = .non := hy
            subst hy
            have := rv_isNotN (R := R) (H := H3) (x := x)
            rw [nameO_some hx, Bool.not_not] at this
            exact this
        · have hb4 := of_decide_eq_false hb4
          refine q_whenB (m := n) (hsyn 2 _ (by decide) (SX.S_tl _).symm) (fun hb2 => ?_) (fun hb2 => ?_)
          · have hb2 := of_decide_eq_true hb2
            refine s_ret (m := n) (p := is (.bl (isIntL l))) ?_ (qq _ (by rw [isValidL_some, hvl, if_neg hb4, if_pos hb2, Bool.true_and]))
            exact ev_pure (post := fun l => is (.bl (isIntL l))) l (ea_cons (ev_var (v := sv l) rfl) ea_nil) fun vs H1 _ hv => by
              obtain ⟨v, rfl, hv1⟩ := one hv
              exact ⟨by rw [show v = _ from hv1], hl⟩
          · have hb2 := of_decide_eq_false hb2
            refine q_whenB (m := n) (hsyn 3 _ (by decide) (SX.S_tl _).symm) (fun hb3 => ?_) (fun hb3 => ?_)
            · have hb3 := of_decide_eq_true hb3
              refine s_ret (m := n) (p := is (.bl (decide (l = cs "TRUE" ∨ l = cs "FALSE")))) ?_ (qq _ (by rw [isValidL_some, hvl, if_neg hb4, if_neg hb2, if_pos hb3, Bool.true_and]))
              refine ev_is (ev_inTup (ws := [cs "TRUE", cs "FALSE"]) (ev_var rfl) ev_c (fun H => ?_)) ?_
              · have e : [cs "TRUE", cs "FALSE"].map sv = [V.str "TRUE", V.str "FALSE"] := by
                  show [sv (cs "TRUE"), sv (cs "FALSE")] = _
                  rw [← sv_of, ← sv_of]
                rw [e]
                exact T.t_TRUTHS H
              · congr 1
                exact decide_eq_decide.mpr (by simp)
            · have hb3 := of_decide_eq_false hb3
              refine s_ret (m := n) (p := is (.bl (decide (l.length ≤ 60) && (decide (k = 1) || !decide (plainL l = []))))) ?_ (qq _ (by rw [isValidL_some, hvl, if_neg hb4, if_neg hb2, if_neg hb3, Bool.true_and]))
              refine ev_is (ev_andV (ev_op2 (m := n) (ev_lenS (ev_var rfl) (by omega)) ev_c fun H3 _ => rv_leI) fun _ => ev_orV (ev_is (ev_op2 (m := n) (x := sv (synN k)) (ev_var rfl) (ev_str (l := synN 1) (SX.S_tl _).symm) fun H3 _ => rv_eqS) (by rw [syn_eq hk (by decide)])) fun _ => ev_op2 (m := n) (ev_pure (post := fun l => is (sv (plainL l))) l (ea_cons (ev_var (v := sv l) rfl) ea_nil) fun vs H1 _ hv => by
                obtain ⟨v, rfl, hv1⟩ := one hv
                exact ⟨by rw [show v = _ from hv1], ha, hl⟩) (ev_str (l := []) (by decide +kernel)) fun H3 _ => rv_neS) ?_
              congr 2
              exact decide_eq_decide.mpr (by omega)
abbrev N_has_order : List Str := ["syntax"]
theorem sc_has_order : FnScope N_has_order ["syntax"] (defScope s_has_order) := ⟨rfl, rfl, rfl, by decide +kernel, rfl, by decide +kernel, by decide +kernel⟩
-- slots: 0 syntax
def sp_has_order : Sp := pureSp (fun (k : Nat) _ vs _ => vs = [sv (synN k)] ∧ k ≤ 4) (fun k => is (.bl (decide (k ≤ 2))))
theorem c_has_order (T : Tx K mg) : Cal P w K mg base 1 "has_order" ["syntax"] (sp_has_order) := by
  refine T.d_has_order.cal sc_has_order (fun vs H Q E h => ?_) (fun _ _ _ _ _ _ us hl => match us, hl with | [_], _ => rfl) (fun f cdv A outer s H vs Q E hr h => ?_)
  · obtain ⟨R, n, l, _, ⟨rfl, _⟩, _⟩ := h
    rfl
  · obtain ⟨R, n, k, hj, ⟨rfl, hk⟩, q⟩ := h
    refine ⟨_, (pss_one (ps_ret (pe_cmpR (cm_In (K := K) (hu65 hr)) (pv 0) (pe_globR (by rfl) T.g_ORDERED) (by rfl)))), ?_⟩
    refine StF.run (R := R) (n := n) ?_ hj
    refine s_ret (m := n) (p := is (.bl (decide (k ≤ 2)))) ?_ q
    refine ev_is (ev_inTup (ws := [synN 0, synN 1, synN 2]) (ev_var rfl) ev_c (fun H => ?_)) ?_
    · have e : [synN 0, synN 1, synN 2].map sv = [V.str "text", V.str "exact", V.str "integer"] := by
        show [sv (cs "text"), sv (cs "exact"), sv (cs "integer")] = _
        rw [← sv_of, ← sv_of, ← sv_of]
      rw [e]
      exact T.t_ORDERED H
    · congr 1
      have hk : k = 0 ∨ k = 1 ∨ k = 2 ∨ k = 3 ∨ k = 4 := by omega
      rcases hk with rfl | rfl | rfl | rfl | rfl <;> decide +kernel

end
end My
namespace My
open PySem PySem.Spec PyProof.Rows L2
section
variable {P : Program} {w : World} {K : PySem.W.Frag} {mg : Str → Option Value} {base : Heap}
/-! ### the law's own look: _law_is_word, _law_is_text -/
abbrev N_l_is_word : List Str := ["_law_thing"]
theorem sc_l_is_word : FnScope N_l_is_word ["_law_thing"] (defScope s_l_is_word) := ⟨rfl, rfl, rfl, by decide +kernel, rfl, by decide +kernel, by decide +kernel⟩
-- slots: 0 _law_thing
def sp_l_is_word : Sp := pureSp (fun (l : Codes) _ vs _ => vs = [sv l] ∧ l.length ≤ 1000) (fun l => is (.bl (isWordL l)))
theorem strip_all {l b : Codes} {f : Nat → Bool} (h : ∀ c, decide (c ∈ b) = f c) : decide (stripL l b = []) = l.all f := by
  by_cases z : stripL l b = []
  · rw [decide_eq_true z]
    refine (List.all_eq_true.mpr fun c hc => ?_).symm
    rw [← h]
    exact decide_eq_true (strip_nil.mp z c hc)
  · rw [decide_eq_false z]
    refine (Bool.eq_false_iff.mpr fun z2 => z (strip_nil.mpr fun c hc => ?_)).symm
    have := List.all_eq_true.mp z2 c hc
    rw [← h] at this
    exact of_decide_eq_true this
theorem c_l_is_word (T : Tx K mg) : Cal P w K mg base 1 "_law_is_word" ["_law_thing"] (sp_l_is_word) := by
  refine T.d_l_is_word.cal sc_l_is_word (fun vs H Q E h => ?_) (fun _ _ _ _ _ _ us hl => match us, hl with | [_], _ => rfl) (fun f cdv A outer s H vs Q E hr h => ?_)
  · obtain ⟨R, n, l, _, ⟨rfl, _⟩, _⟩ := h
    rfl
  · obtain ⟨R, n, l, hj, ⟨rfl, hl⟩, q⟩ := h
    refine ⟨_, (pss_one (ps_ret (pe_and (pe_chain cm_LtE cm_LtE pe_int (pe_callB (call_lenA (K := K)) (by rfl) T.b_len (by decide +kernel) (pa_cons (pv 0) pa_nil)) pe_int) (pe_and (pe_cmpR (cm_NotEq (K := K) hr.units) (pv 0) pe_str (nomark _)) (pe_one (pe_cmpR (cm_Eq (K := K) hr.units) (pe_bmK (K := K) PySem.F.plainAttrs_str PySem.F.slot_str_strip PySem.F.type_str_strip mt_stripA (pv 0) (pa_cons pe_str pa_nil)) pe_str (nomark _))))))), ?_⟩
    refine StF.run (R := R) (n := n) ?_ hj
    refine s_ret (m := n) (p := is (.bl (isWordL l))) (ev_is (ev_andV (ev_chain ev_c (ev_lenS (ev_var rfl) (by omega)) ev_c (fun H3 _ => rv_leI) (fun H3 _ => rv_leI)) fun _ => ev_andV (ev_op2 (m := n) (ev_var rfl) (ev_str (l := [115, 101, 108, 102]) (by decide +kernel)) fun H3 _ => rv_neS) fun _ => ev_op2 (m := n) (ev_strip0 (f := stripL l letL) (ev_var rfl) (ev_str (l := letL) (SX.S_tl _).symm) rfl (by omega)) (ev_str (l := []) (by decide +kernel)) fun H3 _ => rv_eqS) ?_) q
    rw [bnd (lo := 1) (hi := 12) (lo' := 1) (hi' := 12) rfl rfl, strip_all letL_mem]
    rfl
abbrev N_l_is_text : List Str := ["_law_thing"]
theorem sc_l_is_text : FnScope N_l_is_text ["_law_thing"] (defScope s_l_is_text) := ⟨rfl, rfl, rfl, by decide +kernel, rfl, by decide +kernel, by decide +kernel⟩
-- slots: 0 _law_thing
def sp_l_is_text : Sp := pureSp (fun (l : Codes) _ vs _ => vs = [sv l] ∧ l.length ≤ 1000) (fun l => is (.bl (isTextL l)))
theorem c_l_is_text (T : Tx K mg) : Cal P w K mg base 1 "_law_is_text" ["_law_thing"] (sp_l_is_text) := by
  refine T.d_l_is_text.cal sc_l_is_text (fun vs H Q E h => ?_) (fun _ _ _ _ _ _ us hl => match us, hl with | [_], _ => rfl) (fun f cdv A outer s H vs Q E hr h => ?_)
  · obtain ⟨R, n, l, _, ⟨rfl, _⟩, _⟩ := h
    rfl
  · obtain ⟨R, n, l, hj, ⟨rfl, hl⟩, q⟩ := h
    refine ⟨_, (pss_one (ps_ret (pe_and (pe_chain cm_LtE cm_LtE pe_int (pe_callB (call_lenA (K := K)) (by rfl) T.b_len (by decide +kernel) (pa_cons (pv 0) pa_nil)) pe_int) (pe_and (pe_cmpR (cm_NotIn (K := K) (hu65 hr)) pe_str (pv 0) (by rfl)) (pe_one (pe_cmpR (cm_NotEq (K := K) hr.units) (pe_bmK (K := K) PySem.F.plainAttrs_str PySem.F.slot_str_strip PySem.F.type_str_strip mt_stripA (pv 0) (pa_cons pe_str pa_nil)) pe_str (nomark _))))))), ?_⟩
    refine StF.run (R := R) (n := n) ?_ hj
    refine s_ret (m := n) (p := is (.bl (isTextL l))) (ev_is (ev_andV (ev_chain ev_c (ev_lenS (ev_var rfl) (by omega)) ev_c (fun H3 _ => rv_leI) (fun H3 _ => rv_leI)) fun _ => ev_andV (ev_op2 (m := n) (ev_str (l := [10]) (by decide +kernel)) (ev_var rfl) fun H3 _ => rv_niS) fun _ => ev_op2 (m := n) (ev_strip0 (f := stripL l [32]) (ev_var rfl) (ev_str (l := [32]) (by decide +kernel)) rfl (by omega)) (ev_str (l := []) (by decide +kernel)) fun H3 _ => rv_neS) ?_) q
    rw [bnd (lo := 1) (hi := 60) (lo' := 1) (hi' := 60) rfl rfl]
    rfl
/-! ### _law_split -/
abbrev N_l_split : List Str := ["_law_line_here", "_law_mark", "_law_found", "_law_piece", "_law_k", "_law_size"]
theorem sc_l_split : FnScope N_l_split ["_law_line_here", "_law_mark"] (defScope s_l_split) := ⟨rfl, rfl, rfl, by decide +kernel, rfl, by decide +kernel, by decide +kernel⟩
-- slots: 0 _law_line_here, 1 _law_mark, 2 _law_found, 3 _law_piece, 4 _law_k, 5 _law_size
def sp_l_split (K : PySem.W.Frag) : Sp := pureSp (fun (x : Nat × Codes) _ vs _ => vs = [sv x.2, sv [x.1]] ∧ x.1 ≠ 92 ∧ x.2.length ≤ 1000) (fun x => lstG (· = (sp x.1 [] x.2).map sv))
/-- one list of the run's own that grows -/
structure OwnL (R : Rel) (n : Nat) (H0 : Hp) (F : Addr) (xs : List V) (H : Hp) : Prop where
  j0 : R.J n H0
  J : R.J n H
  pr : pres R.M H0 H
  f0 : H0 F = none
  hF : H F = some (.lst xs)
theorem OwnL.m {R : Rel} {n : Nat} {H0 H : Hp} {F : Addr} {xs : List V} (h : OwnL R n H0 F xs H) : ¬ R.M F := R.fresh h.j0 h.f0
theorem OwnL.step {R : Rel} {n : Nat} {H0 H H' : Hp} {F : Addr} {xs : List V} (h : OwnL R n H0 F xs H) (e : R.ok n H H') : OwnL R n H0 F xs H' := ⟨h.j0, e.1, h.pr.trans e.2, h.f0, e.2 _ _ h.m h.hF⟩
theorem OwnL.put {R : Rel} {n : Nat} {H0 H : Hp} {F : Addr} {xs ys : List V} (h : OwnL R n H0 F xs H) : OwnL R n H0 F ys (upd H F (.lst ys)) := ⟨h.j0, R.put h.J h.m, pres_upd0 h.pr h.f0, h.f0, upd_same⟩
theorem OwnL.new {R : Rel} {n : Nat} {H0 H : Hp} {F : Addr} {xs : List V} (j0 : R.J n H0) (e : R.ok n H0 H) (hF : H F = none) : OwnL R n H0 F xs (upd H F (.lst xs)) := ⟨j0, R.put e.1 (R.fresh e.1 hF), pres_upd0 e.2 (old_none e hF), old_none e hF, upd_same⟩
theorem OwnL.tup {R : Rel} {n : Nat} {H0 H : Hp} {F T : Addr} {xs ys : List V} (h : OwnL R n H0 F xs H) (hT : H T = none) : OwnL R n H0 F xs (upd H T (.tup ys)) := h.step (R.new h.J hT)
/-- l.append(x) -/
theorem s_appV {R : Rel} {n : Nat} {H : Hp} {σ : L2.St} {te : TE} {D : Ends} {l : Addr} {xs : List V} {v : V} {i : Nat} (hl : H l = some (.lst xs)) (hm : ¬ R.M l) (hi : σ[i]? = some (some (.ref l))) (he : EvP R n n te σ H (is v)) (hz : xs.length < 100000)
    (f : ∀ H1, R.ok n H H1 → D.nx σ (upd H1 l (.lst (xs ++ [v])))) : StF R n (tDrop (tBM K "list" rAppend (tVar i) (tCons te tNil))) D σ H := fun H1 e =>
  ⟨.ref l, hi, .inl ⟨rfl, xs, .inl (.inl (e.2 l _ hm hl))⟩, he H1 e _ fun w H2 e2 hw => by
    have hw : w = v := hw
    subst hw
    exact ⟨l, xs, w, rfl, rfl, (R.trans e e2).2 l _ hm hl, Evl.sz_lt hz, f H2 (R.trans e e2)⟩⟩
/-- a, b, c = [], x, y -/
theorem q_asg3 {R : Rel} {n : Nat} {H : Hp} {σ : L2.St} {tb tc : TE} {D : Ends} {tz : TS} {i j k : Nat} {u w : V} (hj0 : R.J n H) (hb : ∀ B, R.ok n H B → EvP R n n tb σ B (is u)) (hc : ∀ B, R.ok n H B → EvP R n n tc σ B (is w)) (f : ∀ F B, OwnL R n H F [] B → StF R n tz D (((σ.set i (some (.ref F))).set j (some u)).set k (some w)) B) :
    StF R n (tSeq (tPar3 i j k (tCons (tLst tNil) (tCons tb (tCons tc tNil)))) tz) D σ H := fun H1 e =>
  ⟨Evl.sz_of (Nat.zero_le _), fun F hF => by
    have o1 : OwnL R n H F [] (upd H1 F (.lst [])) := OwnL.new hj0 e hF
    have e1 : R.ok n H (upd H1 F (.lst [])) := ⟨o1.J, o1.pr⟩
    refine hb _ e1 _ (R.refl e1) _ fun x H2 e2 hx => hc H2 (R.trans e1 e2) _ (R.refl e2) _ fun y H3 e3 hy => ?_
    have hx : x = u := hx
    have hy : y = w := hy
    subst hx; subst hy
    have o3 := (o1.step e2).step e3
    exact ⟨_, _, _, rfl, (f F _ o3).run o3.J⟩⟩
/-- a, b, c = x, [], y -/
theorem q_asg3b {R : Rel} {n : Nat} {H : Hp} {σ : L2.St} {tb tc : TE} {D : Ends} {tz : TS} {i j k : Nat} {u w : V} (hj0 : R.J n H) (hb : EvP R n n tb σ H (is u)) (hc : ∀ B, R.ok n H B → EvP R n n tc σ B (is w)) (f : ∀ F B, OwnL R n H F [] B → StF R n tz D (((σ.set i (some u)).set j (some (.ref F))).set k (some w)) B) :
    StF R n (tSeq (tPar3 i j k (tCons tb (tCons (tLst tNil) (tCons tc tNil)))) tz) D σ H := fun H1 e =>
  hb H1 e _ fun x H2 e2 hx => ⟨Evl.sz_of (Nat.zero_le _), fun F hF => by
    have hx : x = u := hx
    subst hx
    have o1 : OwnL R n H F [] (upd H2 F (.lst [])) := OwnL.new hj0 (R.trans e e2) hF
    have e1 : R.ok n H (upd H2 F (.lst [])) := ⟨o1.J, o1.pr⟩
    refine hc _ e1 _ (R.refl e1) _ fun y H3 e3 hy => ?_
    have hy : y = w := hy
    subst hy
    have o3 := o1.step e3
    exact ⟨_, _, _, rfl, (f F _ o3).run o3.J⟩⟩
theorem c_l_split (T : Tx K mg) : Cal P w K mg base 1 "_law_split" ["_law_line_here", "_law_mark"] (sp_l_split K) := by
  refine T.d_l_split.cal sc_l_split (fun vs H Q E h => ?_) (fun _ _ _ _ _ _ us hl => match us, hl with | [_, _], _ => rfl) (fun f cdv A outer s H vs Q E hr h => ?_)
  · obtain ⟨R, n, x, _, ⟨rfl, _⟩, _⟩ := h
    rfl
  · obtain ⟨R, n, ⟨mk, l⟩, hj, ⟨rfl, hm, hl⟩, q⟩ := h
    refine ⟨_, (pss_cons (ps_par3 (i := 2) (j := 3) (l := 4) (by rfl) sc_l_split.nd rfl rfl rfl (by decide) (by decide) (by decide) rfl rfl rfl (pa_cons (pe_lst pa_nil) (pa_cons pe_str (pa_cons pe_int pa_nil))) (by rfl))
      (pss_cons (ps_while PassesOwn.never (pt_cmpR cm_Lt (pv 4) (pe_callB (call_lenA (K := K)) (by rfl) T.b_len (by decide +kernel) (pa_cons (pv 0) pa_nil)) (nomark _))
      (pss_cons (ps_if (pt_cmpR (cm_Eq (K := K) hr.units) (pe_ix (ix_any (K := K)) (pv 0) (pv 4) (fun _ _ => rfl)) (pv 1) (nomark _)) (pss_cons (ps_expr (pe_bmK (K := K) PySem.F.plainAttrs_list PySem.F.slot_list_append PySem.F.type_list_append mt_append (pv 2) (pa_cons (pv 3) pa_nil)))
      (pss_one (ps_set (i := 3) sc_l_split.nd rfl (by first | exact Or.inl rfl | exact Or.inr rfl) pe_str))) (pss_cons (ps_set (i := 5) sc_l_split.nd rfl (by first | exact Or.inl rfl | exact Or.inr rfl) (pe_ifExp (pt_cmpR (cm_Eq (K := K) hr.units) (pe_ix (ix_any (K := K)) (pv 0) (pv 4) (fun _ _ => rfl)) pe_str (nomark _)) pe_int pe_int))
      (pss_cons (ps_set (i := 3) sc_l_split.nd rfl (by first | exact Or.inl rfl | exact Or.inr rfl) (pe_op (op_Add (K := K)) (pv 3) (pe_slice (sl_any (K := K)) (pv 0) (po_some (pv 4)) (po_some (pe_op (op_Add (K := K)) (pv 4) (pv 5))))))
      (pss_one (ps_set (i := 4) sc_l_split.nd rfl (by first | exact Or.inl rfl | exact Or.inr rfl) (pe_op op_sub (pe_op (op_Add (K := K)) (pv 4) (pv 5)) pe_int))))))
      (pss_one (ps_set (i := 4) sc_l_split.nd rfl (by first | exact Or.inl rfl | exact Or.inr rfl) (pe_op (op_Add (K := K)) (pv 4) pe_int)))))
      (pss_one (ps_ret (pe_op (op_Add (K := K)) (pv 2) (pe_lst (pa_cons (pv 3) pa_nil))))))), ?_⟩
    have hl : l.length ≤ 1000 := hl
    have hm : mk ≠ 92 := hm
    refine StF.run (R := R) (n := n) ?_ hj
    refine q_asg3 (u := sv []) (w := .int ((0 : Nat) : Int)) hj (fun B _ => ev_str (c := "") (l := []) (by decide +kernel)) (fun B _ => ev_c) fun F B0 o0 => ?_
    refine q_whileH (fun m σ' H' => ∃ (k : Nat) (done : List Codes) (pc : Codes) (x : Option V), σ' = [some (sv l), some (sv [mk]), some (.ref F), some (sv pc), some (.int (k : Nat)), x] ∧ OwnL R n H F (done.map sv) H' ∧ m = l.length + 1 - k ∧ k ≤ l.length + 1 ∧ done.length ≤ k ∧ pc.length ≤ k ∧ done ++ sp mk pc (l.drop k) = sp mk [] l) (l.length + 1) (fun H3 e3 => ⟨0, [], [], none, rfl, o0.step e3, rfl, Nat.zero_le _, Nat.le_refl _, Nat.le_refl _, rfl⟩) fun m σ' B hW => ?_
    obtain ⟨k, done, pc, x, rfl, own, rfl, hk, hdn, hpc, hsp⟩ := hW
    refine ⟨own.J, decide (k < l.length), et_is (et_test (ev_op2 (m := n) (ev_var rfl) (ev_lenS (ev_var rfl) (by omega)) fun H3 _ => rv_ltI)) (decide_eq_decide.mpr (by omega)), fun hb => ?_, fun hb => ?_⟩
    · have hlt : k < l.length := of_decide_eq_true hb
      have hc : l[k]? = some l[k] := List.getElem?_eq_getElem hlt
      generalize l[k] = c at hc
      have hd := drop_at hc
      have hix : ∀ (B : Hp) (pc : Codes) (x : Option V), EvP R n n (tOp (rIx K) (tVar 0) (tVar 4)) [some (sv l), some (sv [mk]), some (.ref F), some (sv pc), some (.int (k : Nat)), x] B (is (sv [c])) := fun B pc x => ev_op2 (m := n) (ev_var rfl) (ev_var rfl) fun H3 _ => rv_ixS (by omega) (at_nat hc)
      have hinc : ∀ (B : Hp) (pc : Codes) (x : Option V) (k2 : Nat), EvP R n n (tOp (rAddU K) (tVar 4) (tC (.int 1))) [some (sv l), some (sv [mk]), some (.ref F), some (sv pc), some (.int (k2 : Nat)), x] B (is (.int ((k2 + 1 : Nat) : Int))) := fun B pc x k2 => ev_is (ev_op2 (m := n) (ev_var rfl) ev_c fun H3 _ => rv_addI) (by congr 1)
      refine StF.seq (s_ifB (m := n) (b := decide (c = mk)) (et_is (et_test (ev_op2 (m := n) (hix B pc x) (ev_var rfl) fun H3 _ => rv_eqS)) (decide_eq_decide.mpr (by simp))) (fun hb2 => ?_) (fun hb2 => ?_))
      · have hb2 := of_decide_eq_true hb2
        subst hb2
        refine StF.seq (s_appV own.hF own.m rfl (v := sv pc) (ev_var rfl) (by rw [List.length_map]; omega) fun H3 e3 => ?_)
        have o3 : OwnL R n H F ((done ++ [pc]).map sv) (upd H3 F (.lst (done.map sv ++ [sv pc]))) := by
          rw [List.map_append]
          exact (own.step e3).put
        dsimp only
        refine StF.run (R := R) (n := n) (H := upd H3 F (.lst (done.map sv ++ [sv pc]))) ?_ o3.J
        refine s_asgV (m := n) (v := sv []) (ev_str (c := "") (l := []) (by decide +kernel)) fun H4 e4 => ?_
        dsimp only
        refine StF.run (R := R) (n := n) (H := H4) ?_ e4.1
        refine s_asgV (m := n) (hinc _ _ _ _) fun H5 e5 => ⟨l.length + 1 - (k + 1), by omega, k + 1, done ++ [pc], [], _, rfl, (o3.step e4).step e5, rfl, by omega, by simp; omega, Nat.zero_le _, ?_⟩
        rw [← hsp, hd, sp_mark]
        simp
      · have hb2 := of_decide_eq_false hb2
        have hstep : ∃ (sz : Nat), (sz = if c = 92 then 2 else 1) ∧ sl l (some ((k : Nat) : Int)) (some (((k : Nat) : Int) + ((sz : Nat) : Int))) = (l.drop k).take sz ∧ k + sz ≤ l.length + 1 ∧ sp mk (pc ++ (l.drop k).take sz) (l.drop (k + sz)) = sp mk pc (l.drop k) := by
          by_cases h92 : c = 92
          · refine ⟨2, by rw [if_pos h92], ?_, by omega, ?_⟩
            · by_cases h2 : k + 2 ≤ l.length
              · rw [sl_mid (by omega) (by omega) (by omega), Int.toNat_natCast, show (((k : Nat) : Int) + ((2 : Nat) : Int) - ((k : Nat) : Int)).toNat = 2 by omega]
              · have hk1 : k + 1 = l.length := by omega
                unfold sl
                rw [C8.cutS_slice]
                unfold Txt.slice
                rw [SX.S_len, SX.idx_hi (by omega)]
                have e := beq_iff_eq.mp (PyProof.Rows.slice_closesL (x := SX.S l) (i := (k : Nat)) (j := (l.length : Nat)) (by omega) (by omega) (by rw [SX.S_len]; omega))
                unfold Txt.slice at e
                rw [SX.S_len] at e
                rw [e]
                show (l.drop k).take _ = _
                rw [List.take_of_length_le (by rw [List.length_drop]; omega), List.take_of_length_le (by rw [List.length_drop]; omega)]
            · rw [hd]
              cases hr : l.drop (k + 1) with
              | nil =>
                have : l.drop (k + 2) = [] := by
                  have := congrArg List.length hr
                  rw [List.length_drop] at this
                  exact List.drop_eq_nil_of_le (by simp at this; omega)
                rw [this]
                show sp mk (pc ++ [c]) [] = _
                rw [sp_plain' (fun z => hb2 z)]
                simp [sp]
              | cons d t =>
                have : l.drop (k + 2) = t := by
                  have h3 : l.drop (k + 2) = (l.drop (k + 1)).drop 1 := by rw [List.drop_drop]
                  rw [h3, hr]
                  rfl
                rw [this, sp_cons2, if_neg hb2, if_pos h92, h92]
                rfl
          · refine ⟨1, by rw [if_neg h92], ?_, by omega, ?_⟩
            · rw [sl_mid (by omega) (by omega) (by omega), Int.toNat_natCast, show (((k : Nat) : Int) + ((1 : Nat) : Int) - ((k : Nat) : Int)).toNat = 1 by omega]
            · rw [hd, sp_plain _ _ hb2 h92]
              rfl
        obtain ⟨sz, hsz, hsl, hk2, hsp2⟩ := hstep
        have hsz1 : 1 ≤ sz ∧ sz ≤ 2 := by split at hsz <;> omega
        have htl : ((l.drop k).take sz).length ≤ sz := by rw [List.length_take]; omega
        refine q_asgV (m := n) (v := .int ((sz : Nat) : Int)) (ev_is (ev_ifV (b := decide (c = 92)) (v := .int 2) (w := .int 1) (et_is (et_test (ev_op2 (m := n) (hix B pc x) (ev_str (l := [92]) (by decide +kernel)) fun H3 _ => rv_eqS)) (decide_eq_decide.mpr (by simp))) (fun _ => ev_c) (fun _ => ev_c)) ?_) ?_
        · rw [hsz]
          by_cases h92 : c = 92
          · rw [decide_eq_true h92, if_pos rfl, if_pos h92]; rfl
          · rw [decide_eq_false h92, if_neg (by decide), if_neg h92]; rfl
        refine q_asgV (m := n) (v := sv (pc ++ (l.drop k).take sz)) (ev_op2 (m := n) (ev_var rfl) (ev_is (ev_sl (m := n) (k := n) (p := is (sv l)) (ev_var rfl) (eo_some (ev_var rfl)) (eo_some (ev_op2 (m := n) (ev_var rfl) (ev_var rfl) fun H3 _ => rv_addI)) fun x H3 _ hx => by rw [show x = sv l from hx]; exact rs_S (by omega)) (by rw [hsl])) fun H3 _ => rv_addS (by omega)) ?_
        refine s_asgV (m := n) (v := .int ((k + sz - 1 : Nat) : Int)) (ev_is (ev_op2 (m := n) (ev_op2 (m := n) (ev_var rfl) (ev_var rfl) fun H3 _ => rv_addI) ev_c fun H3 _ => rv_subI) (by congr 1; omega)) fun H4 e4 => ?_
        dsimp only
        refine StF.run (R := R) (n := n) (H := H4) ?_ e4.1
        refine s_asgV (m := n) (hinc _ _ _ _) fun H5 e5 => ⟨l.length + 1 - (k + sz), by omega, k + sz, done, pc ++ (l.drop k).take sz, some (.int ((sz : Nat) : Int)), ?_, (own.step e4).step e5, rfl, hk2, by omega, by rw [List.length_append]; omega, by rw [hsp2, hsp]⟩
        rw [show k + sz - 1 + 1 = k + sz by omega]
        rfl
    · have hge : ¬ k < l.length := of_decide_eq_false hb
      have hnil : l.drop k = [] := List.drop_eq_nil_of_le (by omega)
      rw [hnil] at hsp
      refine s_ret (m := n) (p := lstG (· = (sp mk [] l).map sv)) ?_ fun v H2 e2 hv => q v H2 ⟨e2.1, own.pr.trans e2.2⟩ hv
      rw [← hsp, List.map_append]
      exact ev_catV (ev_varP rfl ⟨F, _, rfl, ⟨own.hF, own.m⟩, rfl⟩) (ev_lstV (vs := [sv pc]) (ea_cons (ev_var rfl) ea_nil) (by show 1 ≤ 100000; decide)) (by rw [List.length_map]; show _ + 1 ≤ _; omega)

end
end My
namespace My
open PySem PySem.Spec PyProof.Rows L2
section
variable {P : Program} {w : World} {K : PySem.W.Frag} {mg : Str → Option Value} {base : Heap}
/-! ### _law_bare -/
abbrev N_l_bare : List Str := ["_law_raw", "_law_found", "_law_bare_here", "_law_k", "_law_at", "_law_sign", "_law_must"]
theorem sc_l_bare : FnScope N_l_bare ["_law_raw"] (defScope s_l_bare) := ⟨rfl, rfl, rfl, by decide +kernel, rfl, by decide +kernel, by decide +kernel⟩
-- slots: 0 _law_raw, 1 _law_found, 2 _law_bare_here, 3 _law_k, 4 _law_at, 5 _law_sign, 6 _law_must
def bareV (l : Codes) : V := match bareL l with
  | some f => sv f
  | none => .non
def sp_l_bare : Sp := pureSp (fun (l : Codes) _ vs _ => vs = [sv l] ∧ l.length ≤ 1000) (fun l => is (bareV l))
theorem mustF_len (n : Nat) : ∀ (i : Nat) (l : Codes), (mustF n i l).length = l.length
  | _, [] => rfl
  | i, c :: r => by unfold mustF; rw [List.length_cons, mustF_len n (i + 1) r, List.length_cons]
theorem mustF_at (n : Nat) : ∀ (i r : Nat) (l : Codes) {c : Nat}, l[r]? = some c → (mustF n i l)[r]? = some (must n (i + r) c)
  | _, _, [], _, h => by cases h
  | i, 0, c :: t, d, h => by
    cases h
    rfl
  | i, r + 1, c :: t, d, h => by
    have := mustF_at n (i + 1) r t (c := d) h
    unfold mustF
    rw [List.getElem?_cons_succ, this, show i + 1 + r = i + (r + 1) by omega]
theorem take_eq {α : Type} {a b : List α} {r : Nat} {x : α} (h : a.take r = b.take r) (ha : a[r]? = some x) (hb : b[r]? = some x) : a.take (r + 1) = b.take (r + 1) := by
  rw [List.take_add_one, List.take_add_one, h, ha, hb]
theorem bare1_lens : ∀ {raw f : Codes} {fl : List Bool}, bare1 raw = some (f, fl) → f.length = fl.length ∧ f.length ≤ raw.length
  | [], _, _, h => by cases h; exact ⟨rfl, Nat.le_refl _⟩
  | [c], _, _, h => by
    unfold bare1 at h
    split at h
    · cases h
    · cases h; exact ⟨rfl, Nat.le_refl _⟩
  | c :: d :: r, _, _, h => by
    unfold bare1 at h
    split at h
    · obtain ⟨q, hq, e⟩ := Option.map_eq_some_iff.mp h
      cases e
      obtain ⟨h1, h2⟩ := bare1_lens (raw := r) (f := q.1) (fl := q.2) hq
      simp only [List.length_cons]
      omega
    · obtain ⟨q, hq, e⟩ := Option.map_eq_some_iff.mp h
      cases e
      obtain ⟨h1, h2⟩ := bare1_lens (raw := d :: r) (f := q.1) (fl := q.2) hq
      simp only [List.length_cons] at h2 ⊢
      omega
theorem bare1_plain {c : Nat} (r : Codes) (h : c ≠ 92) : bare1 (c :: r) = (bare1 r).map fun q => (c :: q.1, false :: q.2) := by
  cases r with
  | nil => conv => lhs; unfold bare1
           rw [if_neg h]; rfl
  | cons d t => conv => lhs; unfold bare1
                rw [if_neg h]
theorem atI_last {α : Type} {xs : List α} {x : α} : atI (xs ++ [x]) (-1) = some x := by
  unfold atI ixN
  rw [if_neg (by decide)]
  simp only [List.length_append, List.length_singleton]
  rw [if_pos (by omega), show (((-1 : Int) + ((xs.length + 1 : Nat) : Int))).toNat = xs.length by omega]
  simp
theorem c_l_bare (T : Tx K mg) : Cal P w K mg base 1 "_law_bare" ["_law_raw"] (sp_l_bare) := by
  refine T.d_l_bare.cal sc_l_bare (fun vs H Q E h => ?_) (fun _ _ _ _ _ _ us hl => match us, hl with | [_], _ => rfl) (fun f cdv A outer s H vs Q E hr h => ?_)
  · obtain ⟨R, n, x, _, ⟨rfl, _⟩, _⟩ := h
    rfl
  · obtain ⟨R, n, l, hj, ⟨rfl, hl⟩, q⟩ := h
    refine ⟨_, (pss_cons (ps_par3 (i := 1) (j := 2) (l := 3) (by rfl) sc_l_bare.nd rfl rfl rfl (by decide) (by decide) (by decide) rfl rfl rfl (pa_cons pe_str (pa_cons (pe_lst pa_nil) (pa_cons pe_int pa_nil))) (by rfl))
      (pss_cons (ps_while PassesOwn.never (pt_cmpR cm_Lt (pv 3) (pe_callB (call_lenA (K := K)) (by rfl) T.b_len (by decide +kernel) (pa_cons (pv 0) pa_nil)) (nomark _))
      (pss_cons (ps_expr (pe_bmK (K := K) PySem.F.plainAttrs_list PySem.F.slot_list_append PySem.F.type_list_append mt_append (pv 2) (pa_cons (pe_cmpR (cm_NotEq (K := K) hr.units) (pe_ix (ix_any (K := K)) (pv 0) (pv 3) (fun _ _ => rfl)) pe_str (nomark _)) pa_nil)))
      (pss_cons (ps_set (i := 3) sc_l_bare.nd rfl (by first | exact Or.inl rfl | exact Or.inr rfl) (pe_op (op_Add (K := K)) (pv 3) (pe_callTy call_intA (by rfl) T.b_int (by decide +kernel) (pa_cons (pe_not (pe_ix (ix_any (K := K)) (pv 2) (pe_un un_neg pe_int) (fun _ _ => rfl))) pa_nil))))
      (pss_cons (ps_if (pt_cmpR (cm_Eq (K := K) hr.units) (pv 3) (pe_callB (call_lenA (K := K)) (by rfl) T.b_len (by decide +kernel) (pa_cons (pv 0) pa_nil)) (nomark _)) (pss_one (ps_ret pe_non)) pss_nil)
      (pss_cons (ps_set (i := 1) sc_l_bare.nd rfl (by first | exact Or.inl rfl | exact Or.inr rfl) (pe_op (op_Add (K := K)) (pv 1) (pe_ix (ix_any (K := K)) (pv 0) (pv 3) (fun _ _ => rfl))))
      (pss_one (ps_set (i := 3) sc_l_bare.nd rfl (by first | exact Or.inl rfl | exact Or.inr rfl) (pe_op (op_Add (K := K)) (pv 3) pe_int))))))))
      (pss_cons (ps_for PassesOwn.never rfl (pi_enumA (K := K) (by rfl) T.b_enumerate (pa_cons (pv 1) pa_nil)) (pg_tupK (K := K) (n := 2) rfl (pgs_cons (pg_name (i := 4) sc_l_bare.nd rfl (by first | exact Or.inl rfl | exact Or.inr rfl)) (pgs_cons (pg_name (i := 5) sc_l_bare.nd rfl (by first | exact Or.inl rfl | exact Or.inr rfl)) pgs_nil)))
      (pss_cons (ps_set (i := 6) sc_l_bare.nd rfl (by first | exact Or.inl rfl | exact Or.inr rfl) (pe_or (pe_cmpR (cm_In (K := K) (hu65 hr)) (pv 5) (pe_lst (pa_cons pe_str (pa_cons pe_str (pa_cons pe_str (pa_cons pe_str pa_nil))))) (by rfl)) (pe_one (pe_and (pe_cmpR (cm_Eq (K := K) hr.units) (pv 5) pe_str (nomark _)) (pe_one (pe_cmpR (cm_In (K := K) (hu65 hr)) (pv 4) (pe_lst (pa_cons pe_int (pa_cons (pe_op op_sub (pe_callB (call_lenA (K := K)) (by rfl) T.b_len (by decide +kernel) (pa_cons (pv 1) pa_nil)) pe_int) pa_nil))) (by rfl)))))))
      (pss_one (ps_if (pt_cmpR (cm_Eq (K := K) hr.units) (pe_ix (ix_any (K := K)) (pv 2) (pv 4) (fun _ _ => rfl)) (pv 6) (nomark _)) (pss_one (ps_ret pe_non)) pss_nil))))
      (pss_one (ps_ret (pv 1)))))), ?_⟩
    refine StF.run (R := R) (n := n) ?_ hj
    refine q_asg3b (u := sv []) (w := .int ((0 : Nat) : Int)) hj (ev_str (c := "") (l := []) (by decide +kernel)) (fun B _ => ev_c) fun F B0 o0 => ?_
    refine q_whileH (fun m σ' H' => ∃ (k : Nat) (f : Codes) (fl : List Bool), σ' = [some (sv l), some (sv f), some (.ref F), some (.int (k : Nat)), none, none, none] ∧ OwnL R n H F (fl.map fun b => .bl (!b)) H' ∧ m = l.length - k ∧ k ≤ l.length ∧ fl.length ≤ k ∧ f.length ≤ k ∧ (bare1 (l.drop k)).map (fun q => (f ++ q.1, fl ++ q.2)) = bare1 l) l.length (fun H3 e3 => ⟨0, [], [], rfl, o0.step e3, rfl, Nat.zero_le _, Nat.le_refl _, Nat.le_refl _, by simp⟩) fun m σ' B hW => ?_
    obtain ⟨k, f, fl, rfl, own, rfl, hk, hfl, hfk, hbr⟩ := hW
    refine ⟨own.J, decide (k < l.length), et_is (et_test (ev_op2 (m := n) (ev_var rfl) (ev_lenS (ev_var rfl) (by omega)) fun H3 _ => rv_ltI)) (decide_eq_decide.mpr (by omega)), fun hb => ?_, fun hb => ?_⟩
    · have hlt : k < l.length := of_decide_eq_true hb
      have hc : l[k]? = some l[k] := List.getElem?_eq_getElem hlt
      generalize l[k] = c at hc
      have hd := drop_at hc
      refine StF.seq (s_appV own.hF own.m rfl (v := .bl (!decide (c = 92))) (ev_is (ev_op2 (m := n) (ev_op2 (m := n) (ev_var rfl) (ev_var rfl) fun H3 _ => rv_ixS (by omega) (at_nat hc)) (ev_str (l := [92]) (by decide +kernel)) fun H3 _ => rv_neS) (by congr 2; exact decide_eq_decide.mpr (by simp))) (by rw [List.length_map]; omega) fun H3 e3 => ?_)
      have o3 : OwnL R n H F ((fl ++ [decide (c = 92)]).map fun b => .bl (!b)) (upd H3 F (.lst ((fl.map fun b => V.bl (!b)) ++ [.bl (!decide (c = 92))]))) := by
        rw [List.map_append]
        exact (own.step e3).put
      dsimp only
      refine StF.run (R := R) (n := n) (H := upd H3 F (.lst ((fl.map fun b => V.bl (!b)) ++ [.bl (!decide (c = 92))]))) ?_ o3.J
      generalize upd H3 F (.lst ((fl.map fun b => V.bl (!b)) ++ [.bl (!decide (c = 92))])) = B2 at o3 ⊢
      have hlast : EvP R n n (tOp (rIx K) (tVar 2) (tUn (rU fun i => .int (-i)) (tC (.int 1)))) [some (sv l), some (sv f), some (.ref F), some (.int (k : Nat)), none, none, none] B2 (is (.bl (!decide (c = 92)))) := ev_op2 (m := n) (ev_var rfl) (ev_neg ev_c) fun H4 e4 => rv_ixL (xs := ((fl ++ [decide (c = 92)]).map fun b => V.bl (!b))) (.inl (.inl (e4.2 _ _ o3.m o3.hF))) (by rw [List.map_append]; exact atI_last)
      have hk2 : ∃ k2 : Nat, k2 = k + (if c = 92 then 1 else 0) := ⟨_, rfl⟩
      obtain ⟨k2, hk2⟩ := hk2
      refine q_asgV (m := n) (v := .int ((k2 : Nat) : Int)) (ev_is (ev_op2 (m := n) (ev_var rfl) (ev_intB (ev_notV hlast)) fun H4 _ => rv_addI) ?_) ?_
      · congr 1
        rw [hk2, Bool.not_not]
        by_cases h92 : c = 92
        · rw [if_pos h92, decide_eq_true h92]; simp
        · rw [if_neg h92, decide_eq_false h92]; simp
      have hk3 : k2 ≤ k + 1 ∧ k ≤ k2 := by split at hk2 <;> omega
      refine q_whenB (m := n) (b := decide (k2 = l.length)) (et_is (et_test (ev_op2 (m := n) (ev_var rfl) (ev_lenS (ev_var rfl) (by omega)) fun H4 _ => rv_eqI)) (decide_eq_decide.mpr (by omega))) (fun hb2 => ?_) (fun hb2 => ?_)
      · have hb2 := of_decide_eq_true hb2
        refine s_ret (m := n) (p := is (bareV l)) (ev_is ev_c ?_) fun v H4 e4 hv => q v H4 ⟨e4.1, o3.pr.trans e4.2⟩ hv
        have h92 : c = 92 := by
          refine Classical.byContradiction fun z => ?_
          rw [if_neg z] at hk2
          omega
        have hnil : l.drop (k + 1) = [] := List.drop_eq_nil_of_le (by rw [if_pos h92] at hk2; omega)
        have hb0 : bare1 (l.drop k) = none := by
          rw [hd, hnil, h92]
          rfl
        rw [hb0] at hbr
        unfold bareV bareL
        rw [← hbr]
        rfl
      · have hb2 := of_decide_eq_false hb2
        have hk4 : k2 < l.length := by omega
        have hc2 : l[k2]? = some l[k2] := List.getElem?_eq_getElem hk4
        generalize l[k2] = d at hc2
        refine q_asgV (m := n) (v := sv (f ++ [d])) (ev_op2 (m := n) (ev_var rfl) (ev_op2 (m := n) (ev_var rfl) (ev_var rfl) fun H3 _ => rv_ixS (by omega) (at_nat hc2)) fun H3 _ => rv_addS (by simp; omega)) ?_
        refine s_asgV (m := n) (v := .int ((k2 + 1 : Nat) : Int)) (ev_is (ev_op2 (m := n) (ev_var rfl) ev_c fun H3 _ => rv_addI) (by congr 1)) fun H5 e5 => ⟨l.length - (k2 + 1), by omega, k2 + 1, f ++ [d], fl ++ [decide (c = 92)], rfl, o3.step e5, rfl, by omega, by simp; omega, by simp; omega, ?_⟩
        rw [← hbr, hd]
        by_cases h92 : c = 92
        · rw [if_pos h92] at hk2
          subst hk2
          have hd2 := drop_at hc2
          rw [hd2, h92]
          conv => rhs; unfold bare1
          rw [if_pos rfl, Option.map_map]
          congr 1
          funext q
          simp
        · rw [if_neg h92] at hk2
          have hk2 : k2 = k := hk2
          subst hk2
          rw [hc] at hc2
          cases hc2
          rw [bare1_plain _ h92, Option.map_map, decide_eq_false h92]
          congr 1
          funext q
          simp
    · have hge : ¬ k < l.length := of_decide_eq_false hb
      have hnil : l.drop k = [] := List.drop_eq_nil_of_le (by omega)
      rw [hnil] at hbr
      have hbr : some (f, fl) = bare1 l := by rw [← hbr]; simp [bare1]
      obtain ⟨hlen, hlen2⟩ := bare1_lens hbr.symm
      refine q_forE (a := f) (ev_var rfl) (fun r σ' => (∃ x y z, σ' = [some (sv l), some (sv f), some (.ref F), some (.int (k : Nat)), x, y, z]) ∧ fl.take r = (mustF f.length 0 f).take r) ⟨⟨none, none, none, rfl⟩, rfl⟩ (fun B2 r c σ' eb hc hI => ?_) (fun σ' hI => ?_)
      · obtain ⟨⟨x, y, z, rfl⟩, hpre⟩ := hI
        have o2 := own.step eb
        have hr := (List.getElem?_eq_some_iff.mp hc).1
        have hfr : fl[r]? = some fl[r] := List.getElem?_eq_getElem (by omega)
        generalize fl[r] = b at hfr
        refine q_asgV (m := n) (v := .bl (must f.length r c)) (ev_is (ev_orV (ev_inT (m := n) (ws := [[44], [43], [61], [92]]) (w := [c]) (ev_var rfl) (ev_lstV (vs := [sv [44], sv [43], sv [61], sv [92]]) (ea_cons (m := n) (ev_str (by decide +kernel)) (ea_cons (m := n) (ev_str (by decide +kernel)) (ea_cons (m := n) (ev_str (by decide +kernel)) (ea_cons (m := n) (ev_str (by decide +kernel)) ea_nil)))) (by show 4 ≤ 100000; decide))) fun _ => ev_andV (ev_op2 (m := n) (ev_var rfl) (ev_str (l := [32]) (by decide +kernel)) fun H3 _ => rv_eqS) fun _ => ev_op (m := n) (s := is (.bl (decide (r = 0 ∨ r + 1 = f.length)))) (ev_var rfl) (ev_lstV (vs := [.int 0, .int ((f.length : Nat) - 1 : Int)]) (ea_cons (m := n) ev_c (ea_cons (m := n) (ev_op2 (m := n) (ev_lenS (ev_var rfl) (by omega)) ev_c fun H3 _ => rv_subI) ea_nil)) (by show 2 ≤ 100000; decide)) fun u v H3 e3 hu hv => ?_) ?_) ?_
        · have hu : u = .int (r : Nat) := hu
          subst hu
          obtain ⟨p, xs, rfl, hp, rfl⟩ := hv
          refine fun _ jj Q f2 => .inr (.inl ⟨p, _, rfl, .inl hp.sq, rfl, rfl, f2 _ H3 (R.self jj) ?_⟩)
          show V.bl (inV (.int (r : Nat)) [.int 0, .int ((f.length : Nat) - 1 : Int)]) = V.bl _
          congr 1
          unfold inV
          rw [List.any_cons, List.any_cons, List.any_nil, Bool.or_false]
          show (((0 : Int) == (r : Int)) || (((f.length : Int) - 1) == (r : Int))) = _
          rw [Bool.decide_or]
          congr 1
          · by_cases h : r = 0
            · rw [h, decide_eq_true rfl]; rfl
            · rw [decide_eq_false h, beq_eq_false_iff_ne]; omega
          · by_cases h : r + 1 = f.length
            · rw [decide_eq_true h, beq_iff_eq]; omega
            · rw [decide_eq_false h, beq_eq_false_iff_ne]; omega
        · congr 1
          unfold must
          congr 1
          · exact decide_eq_decide.mpr (by simp)
          · congr 1
            exact decide_eq_decide.mpr (by simp)
        · refine s_when (m := n) (G := fun z => z = ((!b) == must f.length r c)) (et_test (ev_op2 (m := n) (ev_op2 (m := n) (x := .ref F) (y := .int (r : Nat)) (ev_var rfl) (ev_var rfl) fun H3 e3 => rv_ixL (v := .bl (!b)) (.inl (.inl (e3.2 _ _ o2.m o2.hF))) (at_nat (by rw [List.getElem?_map, hfr]; rfl))) (ev_var rfl) fun H3 _ => rv_eqB)) (fun hz => ?_) (fun hz H4 e4 => ?_)
          · refine s_ret (m := n) (p := is (bareV l)) (ev_is ev_c ?_) fun v H4 e4 hv => q v H4 ⟨e4.1, o2.pr.trans e4.2⟩ hv
            unfold bareV bareL
            rw [← hbr]
            dsimp only
            rw [if_neg]
            intro e
            have h1 := mustF_at f.length 0 r f hc
            rw [← e, hfr, Nat.zero_add] at h1
            rw [← Option.some.inj h1] at hz
            cases b <;> cases hz
          · refine ⟨e4, ⟨_, _, _, rfl⟩, ?_⟩
            refine take_eq hpre hfr ?_
            rw [mustF_at f.length 0 r f hc, Nat.zero_add]
            have : must f.length r c = b := by
              cases b <;> cases hm : must f.length r c <;> rw [hm] at hz <;> first | rfl | cases hz
            rw [this]
      · obtain ⟨⟨x, y, z, rfl⟩, hpre⟩ := hI
        refine s_ret (m := n) (p := is (bareV l)) (ev_is (ev_var rfl) ?_) fun v H4 e4 hv => q v H4 ⟨e4.1, own.pr.trans e4.2⟩ hv
        unfold bareV bareL
        rw [← hbr]
        dsimp only
        rw [List.take_of_length_le (by omega), List.take_of_length_le (by rw [mustF_len]; exact Nat.le_refl _)] at hpre
        rw [if_pos hpre]

end
end My
namespace My
open PySem PySem.Spec PyProof.Rows L2
section
variable {P : Program} {w : World} {K : PySem.W.Frag} {mg : Str → Option Value} {base : Heap}
/-! ### _law_leaf -/
theorem sp_lens (m : Nat) : ∀ (n : Nat) (l acc : Codes), l.length ≤ n → (∀ p ∈ sp m acc l, p.length ≤ acc.length + l.length) ∧ (sp m acc l).length ≤ l.length + 1 := by
  intro n
  induction n with
  | zero =>
    intro l acc h
    have : l = [] := List.length_eq_zero_iff.mp (Nat.le_zero.mp h)
    subst this
    simp [sp]
  | succ n ih =>
    intro l acc h
    match l, h with
    | [], _ => simp [sp]
    | [c], _ =>
      by_cases hc : c = m
      · rw [hc, sp_mark]; simp [sp]
      · rw [sp_plain' hc]; simp
    | c :: d :: r, h =>
      simp only [List.length_cons] at h
      rw [sp_cons2]
      split
      · obtain ⟨h1, h2⟩ := ih (d :: r) [] (by simp only [List.length_cons]; omega)
        refine ⟨fun p hp => ?_, by simp only [List.length_cons] at h2 ⊢; omega⟩
        rcases List.mem_cons.mp hp with rfl | hp
        · omega
        · have := h1 p hp
          simp only [List.length_cons, List.length_nil] at this ⊢
          omega
      · split
        · obtain ⟨h1, h2⟩ := ih r (acc ++ [92, d]) (by omega)
          refine ⟨fun p hp => ?_, by simp only [List.length_cons] at h2 ⊢; omega⟩
          have := h1 p hp
          simp only [List.length_append, List.length_cons, List.length_nil] at this ⊢
          omega
        · obtain ⟨h1, h2⟩ := ih (d :: r) (acc ++ [c]) (by simp only [List.length_cons]; omega)
          refine ⟨fun p hp => ?_, by simp only [List.length_cons] at h2 ⊢; omega⟩
          have := h1 p hp
          simp only [List.length_append, List.length_cons, List.length_nil] at this ⊢
          omega
theorem sp_len {m : Nat} {l p : Codes} (h : p ∈ sp m [] l) : p.length ≤ l.length := by
  have := (sp_lens m l.length l [] (Nat.le_refl _)).1 p h
  simp only [List.length_nil] at this
  omega
theorem sp_many (m : Nat) (l : Codes) : (sp m [] l).length ≤ l.length + 1 := (sp_lens m l.length l [] (Nat.le_refl _)).2
theorem bareL_len {raw v : Codes} (h : bareL raw = some v) : v.length ≤ raw.length := by
  unfold bareL at h
  cases hb : bare1 raw with
  | none => rw [hb] at h; cases h
  | some q =>
    obtain ⟨f, fl⟩ := q
    rw [hb] at h
    dsimp only at h
    split at h
    · cases h; exact (bare1_lens hb).2
    · cases h
abbrev N_l_leaf : List Str := ["_law_line_here", "_law_pairs_here", "_law_piece", "_law_two", "_law_told", "_law_pair"]
theorem sc_l_leaf : FnScope N_l_leaf ["_law_line_here"] (defScope s_l_leaf) := ⟨rfl, rfl, rfl, by decide +kernel, rfl, by decide +kernel, by decide +kernel⟩
-- slots: 0 _law_line_here, 1 _law_pairs_here, 2 _law_piece, 3 _law_two, 4 _law_told, 5 _law_pair
def leafO (K : PySem.W.Frag) : Option (List Pair) → SP
  | none => is .non
  | some ps => lstP (pairSP K) ps
def sp_l_leaf (K : PySem.W.Frag) : Sp := pureSp (fun (l : Codes) _ vs _ => vs = [sv l] ∧ l.length ≤ 1000) (fun l => leafO K (lawLeaf l))
theorem leafL_drop {ps : List Pair} {PS : List Codes} {i : Nat} {p : Codes} (h : PS[i]? = some p) : leafL ps (PS.drop i) = match pairLaw p with
    | none => none
    | some q => if q.1 ∈ ps.map Prod.fst then none else leafL (ps ++ [q]) (PS.drop (i + 1)) := by
  obtain ⟨hl, e⟩ := List.getElem?_eq_some_iff.mp h
  rw [List.drop_eq_getElem_cons hl, e, leafL_cons]
  all_goals (cases pairLaw p <;> rfl)
/-- what the pieces of a pair tell -/
def toldV (tw : List Codes) : V := match tw with
  | [_, raw] => bareV raw
  | _ => .non
theorem pairLaw_told {p : Codes} : pairLaw p = match sp 61 [] p with
    | [w, raw] => (match bareL raw with
      | some v => if isWordL w && isTextL v then some (w, v) else none
      | none => none)
    | _ => none := rfl
theorem ev_isiL {α : Type} {R : Rel} {n m k : Nat} {σ : L2.St} {H : Hp} {ta tb : TE} {xs : List V} {i : Int} {v : V} (ha : EvP R n m ta σ H (lstG (· = xs))) (hb : EvP R m k tb σ H (is (.int i))) (h : atI xs i = some v) : EvP R n k (tOp (rIx K) ta tb) σ H (is v) :=
  ev_op ha hb fun x y H1 e hx hy _ j Q f => by
    obtain ⟨l, ws, rfl, hl, rfl⟩ := hx
    have hy : y = .int i := hy
    subst hy
    exact .inl ⟨l, ws, i, v, rfl, rfl, hl.sq, h, f v H1 (R.self j) rfl⟩
theorem ev_lenG {R : Rel} {n m : Nat} {σ : L2.St} {H : Hp} {te : TE} {xs : List V} (ha : EvP R n m te σ H (lstG (· = xs))) : EvP R n m (tCB (rLenU K) (tCons te tNil)) σ H (is (.int xs.length)) := ev_len1 ha fun v H1 e hv => by
  obtain ⟨l, ws, rfl, h, rfl⟩ := hv
  exact .inl ⟨ws, h.sq, rfl⟩
theorem c_l_leaf (T : Tx K mg) : Cal P w K mg base 2 "_law_leaf" ["_law_line_here"] (sp_l_leaf K) := by
  have C_l_split := c_l_split (P := P) (w := w) (base := base) T
  have C_l_bare := c_l_bare (P := P) (w := w) (base := base) T
  have C_l_is_text := c_l_is_text (P := P) (w := w) (base := base) T
  have C_l_is_word := c_l_is_word (P := P) (w := w) (base := base) T
  refine T.d_l_leaf.cal sc_l_leaf (fun vs H Q E h => ?_) (fun _ _ _ _ _ _ us hl => match us, hl with | [_], _ => rfl) (fun f cdv A outer s H vs Q E hr h => ?_)
  · obtain ⟨R, n, x, _, ⟨rfl, _⟩, _⟩ := h
    rfl
  · obtain ⟨R, n, l, hj, ⟨rfl, hl⟩, q⟩ := h
    refine ⟨_, (pss_cons (ps_set (i := 1) sc_l_leaf.nd rfl (by first | exact Or.inl rfl | exact Or.inr rfl) (pe_lst pa_nil))
      (pss_cons (ps_for PassesOwn.never rfl (pi_any (K := K) (pe_callC C_l_split (hr.mono (by decide)) (by rfl) (pa_cons (pv 0) (pa_cons pe_str pa_nil)))) (pg_name (i := 2) sc_l_leaf.nd rfl (by first | exact Or.inl rfl | exact Or.inr rfl))
      (pss_cons (ps_set (i := 3) sc_l_leaf.nd rfl (by first | exact Or.inl rfl | exact Or.inr rfl) (pe_callC C_l_split (hr.mono (by decide)) (by rfl) (pa_cons (pv 2) (pa_cons pe_str pa_nil))))
      (pss_cons (ps_set (i := 4) sc_l_leaf.nd rfl (by first | exact Or.inl rfl | exact Or.inr rfl) (pe_ifExp (pt_cmpR (cm_Eq (K := K) hr.units) (pe_callB (call_lenA (K := K)) (by rfl) T.b_len (by decide +kernel) (pa_cons (pv 3) pa_nil)) pe_int (nomark _)) (pe_callC C_l_bare (hr.mono (by decide)) (by rfl) (pa_cons (pe_ix (ix_any (K := K)) (pv 3) pe_int (fun _ _ => rfl)) pa_nil)) pe_non))
      (pss_cons (ps_if (PW.pt (pw_or (pt_cmpR cm_Is (pv 4) pe_non (nomark _)) (pw_or (pt_not (pt_val (pe_callC C_l_is_word (hr.mono (by decide)) (by rfl) (pa_cons (pe_ix (ix_any (K := K)) (pv 3) pe_int (fun _ _ => rfl)) pa_nil)))) (pw_or1 (pt_not (pt_val (pe_callC C_l_is_text (hr.mono (by decide)) (by rfl) (pa_cons (pv 4) pa_nil)))))))) (pss_one (ps_ret pe_non)) pss_nil)
      (pss_cons (ps_if (pt_cmpR (cm_In (K := K) (hu65 hr)) (pe_ix (ix_any (K := K)) (pv 3) pe_int (fun _ _ => rfl)) (pe_lc (own := [("_law_pair", 5)]) (by rfl) sc_l_leaf.nd (pi_any (K := K) (pv 1)) (blkOk_by (own := [("_law_pair", 5)]) (N := N_l_leaf) (sc := defScope s_l_leaf) (by decide +kernel)) (fun _ _ _ _ _ => (pg_name (i := 5) sc_l_leaf.nd rfl (by first | exact Or.inl rfl | exact Or.inr rfl))) (fun _ _ _ _ _ => pts_nil) (fun _ _ _ _ _ => (pe_ix (ix_any (K := K)) (pv 5) pe_int (fun _ _ => rfl)))) (by rfl)) (pss_one (ps_ret pe_non)) pss_nil)
      (pss_one (ps_expr (pe_bmK (K := K) PySem.F.plainAttrs_list PySem.F.slot_list_append PySem.F.type_list_append mt_append (pv 1) (pa_cons (pe_tup (pa_cons (pe_ix (ix_any (K := K)) (pv 3) pe_int (fun _ _ => rfl)) (pa_cons (pv 4) pa_nil))) pa_nil)))))))))
      (pss_one (ps_ret (pe_ifExp (pt_cmpR cm_LtE (pe_callB (call_lenA (K := K)) (by rfl) T.b_len (by decide +kernel) (pa_cons (pv 1) pa_nil)) pe_int (nomark _)) (pv 1) pe_non))))), ?_⟩
    refine StF.run (R := R) (n := n) ?_ hj
    refine StF.seq (s_asgE fun F H1 e1 hF => ?_)
    have o1 : OwnL R n H F [] (upd H1 F (.lst [])) := OwnL.new hj e1 hF
    generalize upd H1 F (.lst []) = B1 at o1 ⊢
    dsimp only
    have jF : (R.at F []).J n B1 := ⟨o1.J, o1.hF⟩
    refine StF.run (R := R.at F []) (n := n) (H := B1) ?_ jF
    have hsplit : ∀ (R' : Rel) (B : Hp) (σ : L2.St) (i : Nat) (c : Str) (mk : Nat) (p : Codes), σ[i]? = some (some (sv p)) → c = SX.S [mk] → mk ≠ 92 → p.length ≤ 1000 → EvP R' n n (tCall (sp_l_split K) [] E0 (tCons (tVar i) (tCons (tC (.str c)) tNil))) σ B (lstG (· = (sp mk [] p).map sv)) := fun R' B σ i c mk p hi hc hm hp => ev_pure (post := fun x : Nat × Codes => lstG (· = (sp x.1 [] x.2).map sv)) (mk, p) (ea_cons (ev_var hi) (ea_cons (ev_str hc) ea_nil)) fun vs H1 _ hv => by
      obtain ⟨v, u, rfl, hv1, hv2⟩ := two hv
      exact ⟨by rw [show v = _ from hv1, show u = _ from hv2], hm, hp⟩
    generalize hPS : sp 43 [] l = PS
    have hmany : PS.length ≤ l.length + 1 := by rw [← hPS]; exact sp_many 43 l
    have hPl : ∀ p ∈ PS, p.length ≤ l.length := fun p hp => sp_len (m := 43) (by rw [hPS]; exact hp)
    have hit : ItP (R.at F []) n n (iAny K (tCall (sp_l_split K) [] E0 (tCons (tVar 0) (tCons (tC (.str "+")) tNil)))) [some (sv l), some (.ref F), none, none, none, none] B1 ((PS.map sv).map is) := by
      rw [← hPS]
      exact it_lstV (K := K) (hsplit _ _ _ 0 _ 43 l rfl (by decide +kernel) (by decide) hl)
    have qn : leafL [] PS = none → ∀ v H2, R.ok n H H2 → (is .non).P R.M v H2 → Q v H2 := fun hz v H2 e2 hv => q v H2 e2 (by
      show (leafO K (lawLeaf l)).P R.M v H2
      unfold lawLeaf
      rw [hPS, hz]
      exact hv)
    refine StF.seq (s_for2 (R := R.off F) (c := fun _ => n) (c1 := n) (fun _ m => m) hit (fun B i σ' H' => (R.off F).ok n B H' ∧ ∃ (xs : List V) (ps : List Pair) (x2 x3 x4 : Option V), σ' = [some (sv l), some (.ref F), x2, x3, x4, none] ∧ OwnL R n H F xs H' ∧ Paired (fun v q => pairF H v q H') xs ps ∧ ps.length = i ∧ leafL ps (PS.drop i) = leafL [] PS) (fun B i σ' H' h => h.1) (fun B eB => ⟨⟨⟨eB.1.1, _, eB.1.2⟩, pres.refl B⟩, [], [], none, none, none, rfl, ⟨hj, eB.1.1, fun a o ma ha => ?_, o1.f0, eB.1.2⟩, .nil, rfl, rfl⟩) (fun B i y σ' H' x H'' eB hy hPv er hx => ?_) (fun B σ' H' eB hPv => ?_))
    · have ne : a ≠ F := fun z => by rw [z, o1.f0] at ha; cases ha
      exact eB.2 a o (fun z => z.elim ma ne) (o1.pr a o ma ha)
    · -- a turn
      obtain ⟨eBH, xs, ps, x2, x3, x4, rfl, own, hps, hi, hlf⟩ := hPv
      rw [List.getElem?_map, List.getElem?_map] at hy
      obtain ⟨u, hu, rfl⟩ := Option.map_eq_some_iff.mp hy
      obtain ⟨p, hp, rfl⟩ := Option.map_eq_some_iff.mp hu
      have hx : x = sv p := hx
      subst hx
      have own2 := own.step (R.ex own.J er)
      have kT : ∀ {Ha Hb : Hp}, R.ok n Ha Hb → keepT H Ha Hb := fun e a vs h0 ha => e.2 a _ (R.fresh hj h0) ha
      have hps2 : Paired (fun v q => pairF H v q H'') xs ps := Paired_imp (fun _ _ z => (kT (R.ex own.J er)).pr1 z) hps
      have hlen : xs.length = ps.length := hps.length
      have hpl := hPl p (List.mem_of_getElem? hp)
      have hi2 := (List.getElem?_eq_some_iff.mp hp).1
      rw [leafL_drop hp] at hlf
      have eB2 : (R.off F).ok n B H'' := (R.off F).trans eBH ((R.off F).ex eBH.1 er)
      dsimp only [gName]
      refine StF.run (R := R) (n := n) (H := H'') ?_ own2.J
      refine q_asg (m := n) (p := lstG (· = (sp 61 [] p).map sv)) (hsplit _ _ _ 2 _ 61 p rfl (by decide +kernel) (by decide) (by omega)) fun t H2 e2 ht => ?_
      have own3 := own2.step e2
      have hps3 : Paired (fun v q => pairF H v q H2) xs ps := Paired_imp (fun _ _ z => (kT e2).pr1 z) hps2
      have eB3 : (R.off F).ok n B H2 := ⟨⟨own3.J, _, own3.hF⟩, eB2.2.trans (e2.2.wider fun a m => .inl m)⟩
      have hpT := pairLaw_told (p := p)
      have htwl : ∀ w ∈ sp 61 [] p, w.length ≤ l.length := fun w hw => Nat.le_trans (sp_len hw) hpl
      generalize hTW : sp 61 [] p = tw at *
      have htwo : ∀ (x4 : Option V), EvP R n n (tVar 3) [some (sv l), some (.ref F), some (sv p), some t, x4, none] H2 (lstG (· = tw.map sv)) := fun x4 => ev_varP rfl ht
      have htold : EvP R n n (tIf (tTest (tOp (rEqU K) (tCB (rLenU K) (tCons (tVar 3) tNil)) (tC (.int 2)))) (tCall sp_l_bare [] E0 (tCons (tOp (rIx K) (tVar 3) (tC (.int 1))) tNil)) (tC .non)) [some (sv l), some (.ref F), some (sv p), some t, x4, none] H2 (is (toldV tw)) := by
        refine ev_ifB (m := n) (b := decide (tw.length = 2)) (et_is (et_test (ev_op2 (m := n) (ev_lenG (htwo x4)) ev_c fun H3 _ => rv_eqI)) (decide_eq_decide.mpr (by rw [List.length_map]; omega))) (fun hb => ?_) (fun hb => ?_)
        · have hb := of_decide_eq_true hb
          match tw, hb with
          | [w, raw], _ =>
            exact ev_pure (post := fun l => is (bareV l)) raw (ea_cons (ev_isiL (α := Nat) (v := sv raw) (htwo x4) ev_c (at_nat (i := 1) rfl)) ea_nil) fun vs H1 _ hv => by
              obtain ⟨v, rfl, hv1⟩ := one hv
              exact ⟨by rw [show v = _ from hv1], by have := htwl raw (by simp); omega⟩
        · have hb := of_decide_eq_false hb
          match tw, hb with
          | [], _ => exact ev_c
          | [_], _ => exact ev_c
          | [_, _], hb => exact absurd rfl hb
          | _ :: _ :: _ :: _, _ => exact ev_c
      refine q_asgV (m := n) htold ?_
      have bad : pairLaw p = none → ∀ (ex : L2.St) (D' : Ends), D'.rt = Q → StF R n (tRet (tC .non)) D' ex H2 := fun hz ex D' hD => s_ret (m := n) (p := is .non) ev_c fun v H3 e3 hv => by
        rw [hD]
        rw [hz] at hlf
        exact qn hlf.symm v H3 ⟨e3.1, own3.pr.trans e3.2⟩ hv
      by_cases htv : toldV tw = .non
      · -- it tells nothing
        have hpn : pairLaw p = none := by
          rw [hpT]
          unfold toldV at htv
          split
          · next w raw =>
            dsimp only at htv
            unfold bareV at htv
            cases hb : bareL raw with
            | none => rfl
            | some v => rw [hb] at htv; cases htv
          · rfl
        rw [htv]
        exact q_whenB (m := n) (b := true) (et_is (et_or (a := true) (b := true) (et_is (et_test (ev_op2 (m := n) (ev_var rfl) ev_c fun H3 _ => rv_isN)) rfl) (fun z => nomatch z)) rfl) (fun _ => bad hpn _ _ rfl) (fun z => nomatch z)
      · have hform : ∃ w raw v, tw = [w, raw] ∧ bareL raw = some v := by
          unfold toldV at htv
          split at htv
          · next w raw =>
            unfold bareV at htv
            cases hb : bareL raw with
            | none => rw [hb] at htv; exact absurd rfl htv
            | some v => exact ⟨w, raw, v, rfl, hb⟩
          · exact absurd rfl htv
        obtain ⟨w, raw, v, rfl, hbv⟩ := hform
        have hwl := htwl w (by simp)
        have hvl : v.length ≤ l.length := Nat.le_trans (bareL_len hbv) (htwl raw (by simp))
        have htoldv : toldV [w, raw] = sv v := by
          unfold toldV bareV
          dsimp only
          rw [hbv]
        rw [htoldv]
        dsimp only at hpT
        rw [hbv] at hpT
        dsimp only at hpT
        have hfst : ∀ (B : Hp), B = H2 → EvP R n n (tOp (rIx K) (tVar 3) (tC (.int 0))) [some (sv l), some (.ref F), some (sv p), some t, some (sv v), none] H2 (is (sv w)) := fun B _ => ev_isiL (α := Nat) (htwo _) ev_c (at_nat (i := 0) rfl)
        refine q_whenB (m := n) (b := false || (!isWordL w || !isTextL v)) (et_or (et_is (et_test (ev_op2 (m := n) (ev_var rfl) ev_c fun H3 _ => rv_isN)) rfl) fun _ => et_or (et_not (et_B ?_)) fun _ => et_not (et_B ?_)) (fun hb => bad ?_ _ _ rfl) (fun hb => ?_)
        · exact ev_pure (post := fun l => is (.bl (isWordL l))) w (ea_cons (hfst _ rfl) ea_nil) fun vs H1 _ hv => by
            obtain ⟨v, rfl, hv1⟩ := one hv
            exact ⟨by rw [show v = _ from hv1], by omega⟩
        · exact ev_pure (post := fun l => is (.bl (isTextL l))) v (ea_cons (ev_var (v := sv v) rfl) ea_nil) fun vs H1 _ hv => by
            obtain ⟨v, rfl, hv1⟩ := one hv
            exact ⟨by rw [show v = _ from hv1], by omega⟩
        · rw [hpT, if_neg]
          intro z
          rw [Bool.and_eq_true] at z
          rw [z.1, z.2] at hb
          cases hb
        · have hwt : (isWordL w && isTextL v) = true := by
            cases h1 : isWordL w <;> cases h2 : isTextL v <;> rw [h1, h2] at hb <;> first | rfl | cases hb
          rw [if_pos hwt] at hpT
          rw [hpT] at hlf
          dsimp only at hlf
          refine q_whenB (m := n) (b := decide (w ∈ ps.map Prod.fst)) (et_test (ev_inT (m := n) (hfst _ rfl) ?_)) (fun hb2 => ?_) (fun hb2 => ?_)
          · have hlst : EvP R n n (tVar 1) [some (sv l), some (.ref F), some (sv p), some t, some (sv v), none] H2 (lstP (pairSP K) ps) := ev_varP rfl ⟨F, xs, rfl, ⟨own3.hF, own3.m⟩, Paired_imp (fun _ _ z => z.sp hj) hps3⟩
            have h2 := ev_lcQ (te := tOp (rIx K) (tVar 5) (tC (.int 0))) (vs := [5]) (j := 5) (fun q : Pair => sv q.1) ([], []) (it_lstP (K := K) hlst) (by omega) (fun x => rfl) (fun R' H' a x ex _ hx => by
              obtain ⟨T, ws, rfl, hT, rfl⟩ := hx
              exact ev_op2 (m := n) (ev_var (v := .ref T) rfl) ev_c fun H3 e3 => rv_ixT (hT.st e3.2).sq rfl)
            refine ev_is2 h2 ?_
            rw [List.map_map]
            rfl
          · rw [if_pos (of_decide_eq_true hb2)] at hlf
            exact s_ret (m := n) (p := is .non) ev_c fun v H3 e3 hv => qn hlf.symm v H3 ⟨e3.1, own3.pr.trans e3.2⟩ hv
          · rw [if_neg (of_decide_eq_false hb2)] at hlf
            refine s_appT (vs := [sv w, sv v]) own3.hF own3.m rfl (ea_cons (m := n) (hfst _ rfl) (ea_cons (ev_var rfl) ea_nil)) (by omega) (by show 2 ≤ 100000; decide) fun T H3 e3 hT => ?_
            have own4 := own3.step e3
            have t0 : H T = none := old0 own4.pr hj own4.J hT
            have neT : T ≠ F := fun z => by rw [z, own4.hF] at hT; cases hT
            have own5 : OwnL R n H F (xs ++ [.ref T]) (upd (upd H3 T (.tup [sv w, sv v])) F (.lst (xs ++ [.ref T]))) := (own4.tup hT).put
            have k5 : keepT H H3 (upd (upd H3 T (.tup [sv w, sv v])) F (.lst (xs ++ [.ref T]))) := fun a vs h0 ha => by
              have n1 : a ≠ F := fun z => by rw [z, own4.hF] at ha; cases ha
              have n2 : a ≠ T := fun z => by rw [z, hT] at ha; cases ha
              rw [upd_ne n1, upd_ne n2]
              exact ha
            refine ⟨⟨⟨own5.J, _, own5.hF⟩, eB3.2.trans ((e3.2.wider fun a m => .inl m).trans ((pres.ex (Evl.Ex.new hT)).trans (pres.upd (.inr rfl))))⟩, xs ++ [.ref T], ps ++ [(w, v)], _, _, _, rfl, own5, Paired.snoc (Paired_imp (fun _ _ z => k5.pr1 ((kT e3).pr1 z)) hps3) ⟨T, rfl, t0, by rw [upd_ne neT]; exact upd_same⟩, by simp [hi], hlf⟩
    · -- behind the loop
      obtain ⟨eBH, xs, ps, x2, x3, x4, rfl, own, hps, hi, hlf⟩ := hPv
      rw [List.length_map, List.length_map] at hlf hi
      rw [List.drop_length, leafL_nil] at hlf
      have hlen : xs.length = ps.length := hps.length
      dsimp only
      refine StF.run (R := R) (n := n) (H := H') ?_ own.J
      refine s_ret (m := n) (p := leafO K (lawLeaf l)) ?_ fun v H2 e2 hv => q v H2 ⟨e2.1, own.pr.trans e2.2⟩ hv
      unfold lawLeaf
      rw [hPS, ← hlf]
      dsimp only
      have hlst : EvP R n n (tVar 1) [some (sv l), some (.ref F), x2, x3, x4, none] H' (lstP (pairSP K) ps) := ev_varP rfl ⟨F, xs, rfl, ⟨own.hF, own.m⟩, Paired_imp (fun _ _ z => z.sp hj) hps⟩
      refine ev_ifB (m := n) (b := decide (ps.length ≤ 4)) (et_is (et_test (ev_op2 (m := n) (ev_lenL (ev_var rfl) (SqM.of own.hF own.m)) ev_c fun H3 _ => rv_leI)) (decide_eq_decide.mpr (by omega))) (fun hb => ?_) (fun hb => ?_)
      · rw [if_pos (of_decide_eq_true hb)]
        exact hlst
      · rw [if_neg (of_decide_eq_false hb)]
        exact ev_c

end
end My
namespace My
open PySem PySem.Spec PyProof.Rows L2
section
variable {P : Program} {w : World} {K : PySem.W.Frag} {mg : Str → Option Value} {base : Heap}
/-! ### _law_name -/
theorem sp_mem (m : Nat) : ∀ (n : Nat) (l acc : Codes), l.length ≤ n → ∀ p ∈ sp m acc l, ∀ c ∈ p, c ∈ acc ∨ c ∈ l := by
  intro n
  induction n with
  | zero =>
    intro l acc h p hp c hc
    have : l = [] := List.length_eq_zero_iff.mp (Nat.le_zero.mp h)
    subst this
    simp [sp] at hp
    subst hp
    exact .inl hc
  | succ n ih =>
    intro l acc h p hp c hc
    match l, h, hp with
    | [], _, hp =>
      simp [sp] at hp
      subst hp
      exact .inl hc
    | [x], _, hp =>
      by_cases hx : x = m
      · rw [hx, sp_mark] at hp
        simp [sp] at hp
        rcases hp with rfl | rfl
        · exact .inl hc
        · cases hc
      · rw [sp_plain' hx] at hp
        rw [List.mem_singleton.mp hp] at hc
        rcases List.mem_append.mp hc with z | z
        · exact .inl z
        · exact .inr z
    | x :: d :: r, h, hp =>
      simp only [List.length_cons] at h
      rw [sp_cons2] at hp
      split at hp
      · rcases List.mem_cons.mp hp with rfl | hp
        · exact .inl hc
        · rcases ih (d :: r) [] (by simp only [List.length_cons]; omega) p hp c hc with z | z
          · cases z
          · exact .inr (List.mem_cons_of_mem _ z)
      · next hx =>
        split at hp
        · next h92 =>
          rcases ih r (acc ++ [92, d]) (by omega) p hp c hc with z | z
          · rcases List.mem_append.mp z with z | z
            · exact .inl z
            · refine .inr ?_
              rw [h92]
              rcases List.mem_cons.mp z with z | z
              · rw [z]; exact List.mem_cons_self ..
              · rw [List.mem_singleton.mp z]; exact List.mem_cons_of_mem _ (List.mem_cons_self ..)
          · exact .inr (List.mem_cons_of_mem _ (List.mem_cons_of_mem _ z))
        · rcases ih (d :: r) (acc ++ [x]) (by simp only [List.length_cons]; omega) p hp c hc with z | z
          · rcases List.mem_append.mp z with z | z
            · exact .inl z
            · rw [List.mem_singleton.mp z]; exact .inr (List.mem_cons_self ..)
          · exact .inr (List.mem_cons_of_mem _ z)
theorem sp_asc {m : Nat} {l p : Codes} (ha : asc l) (h : p ∈ sp m [] l) : asc p := asc_sub (fun c hc => (sp_mem m l.length l [] (Nat.le_refl _) p h c hc).resolve_left (fun z => nomatch z)) ha
theorem pair_asc {p : Codes} {q : Pair} (ha : asc p) (h : pairLaw p = some q) : asc q.1 ∧ asc q.2 := by
  obtain ⟨w, v⟩ := q
  obtain ⟨raw, e, _, _, hb⟩ := pairLaw_form h
  refine ⟨asc_sub (fun c hc => by rw [e]; exact List.mem_append_left _ hc) ha, asc_sub (fun c hc => ?_) ha⟩
  rw [e]
  refine List.mem_append_right _ (List.mem_cons_of_mem _ ?_)
  unfold bareL at hb
  cases h1 : bare1 raw with
  | none => rw [h1] at hb; cases hb
  | some q =>
    obtain ⟨f, fl⟩ := q
    rw [h1] at hb
    dsimp only at hb
    split at hb
    · cases hb
      rw [← (bare1_enc h1).2] at hc
      exact fnd_mem raw c hc
    · cases hb
theorem leafL_asc : ∀ (ps : List Codes) (acc r : List Pair), (∀ p ∈ ps, asc p) → (∀ q ∈ acc, asc q.1 ∧ asc q.2) → leafL acc ps = some r → ∀ q ∈ r, asc q.1 ∧ asc q.2
  | [], acc, r, _, h2, h => by
    cases h
    exact h2
  | p :: ps, acc, r, h1, h2, h => by
    rw [leafL_cons] at h
    cases hp : pairLaw p with
    | none => rw [hp] at h; cases h
    | some q =>
      rw [hp] at h
      dsimp only at h
      split at h
      · cases h
      · refine leafL_asc ps _ r (fun x hx => h1 x (List.mem_cons_of_mem _ hx)) (fun x hx => ?_) h
        rcases List.mem_append.mp hx with z | z
        · exact h2 x z
        · rw [List.mem_singleton.mp z]
          exact pair_asc (h1 p (List.mem_cons_self ..)) hp
theorem lawLeaf_asc {l : Codes} {ps : List Pair} (ha : asc l) (h : lawLeaf l = some ps) : ∀ q ∈ ps, asc q.1 ∧ asc q.2 := by
  unfold lawLeaf at h
  cases hl : leafL [] (sp 43 [] l) with
  | none => rw [hl] at h; cases h
  | some r =>
    rw [hl] at h
    dsimp only at h
    split at h
    · cases h
      exact leafL_asc _ [] _ (fun p hp => sp_asc ha hp) (fun q hq => nomatch hq) hl
    · cases h
/-! as data -/
def dP (q : Pair) : PyData := .tuple [.str (SX.S q.1), .str (SX.S q.2)]
def dL : Option (List Pair) → PyData
  | none => .none
  | some ps => .list (ps.map dP)
def ascO : Option (List Pair) → Prop
  | none => True
  | some ps => ∀ q ∈ ps, asc q.1 ∧ asc q.2
theorem dpP {M : Addr → Prop} {H : Hp} {v : V} {q : Pair} (h : (pairSP K q).P M v H) : Dp K H v (dP q) := by
  obtain ⟨p, xs, rfl, h, rfl⟩ := h
  exact .tup h.sq (.cons (.str _) (.cons (.str _) .nil))
theorem dpL {M : Addr → Prop} {H : Hp} {v : V} {o : Option (List Pair)} (h : (leafO K o).P M v H) : Dp K H v (dL o) := by
  cases o with
  | none =>
    have h : v = .non := h
    subst h
    exact .non
  | some ps =>
    obtain ⟨p, xs, rfl, h, g⟩ := h
    have all : ∀ {xs : List V} {ps : List Pair}, Paired (fun v y => (pairSP K y).P M v H) xs ps → DpAll K H xs (ps.map dP) := by
      intro xs ps g
      induction g with
      | nil => exact .nil
      | cons a _ ih => exact .cons (dpP a) ih
    exact .lst h.sq (all g)
theorem strOk_asc {l : Codes} (h : asc l) : PyData.strOk (SX.S l) = true := by
  unfold asc at h
  rw [List.all_eq_true] at h
  unfold PyData.strOk
  have : ∀ c ∈ l, decide (c < 0x110000) = true := fun c hc => by
    have := of_decide_eq_true (h c hc)
    exact decide_eq_true (by omega)
  simpa [SX.S] using this
theorem shP {q : Pair} (h : asc q.1 ∧ asc q.2) : PyData.canLay0 (dP q) = true ∧ PyData.depth (dP q) = 1 := by
  refine ⟨?_, rfl⟩
  show (PyData.strOk _ && (PyData.strOk _ && true)) = true
  rw [strOk_asc h.1, strOk_asc h.2]
  rfl
theorem shL : ∀ {ps : List Pair}, (∀ q ∈ ps, asc q.1 ∧ asc q.2) → PyData.canLayAll0 (ps.map dP) = true ∧ PyData.depthAll (ps.map dP) ≤ 1
  | [], _ => ⟨rfl, Nat.zero_le _⟩
  | q :: ps, h => by
    obtain ⟨h1, h2⟩ := shP (h q (List.mem_cons_self ..))
    obtain ⟨h3, h4⟩ := shL (ps := ps) fun x hx => h x (List.mem_cons_of_mem _ hx)
    refine ⟨?_, ?_⟩
    · show (PyData.canLay0 (dP q) && PyData.canLayAll0 (ps.map dP)) = true
      rw [h1, h3]
      rfl
    · show max (PyData.depth (dP q)) (PyData.depthAll (ps.map dP)) ≤ 1
      rw [h2]
      omega
theorem shO {o : Option (List Pair)} (h : ascO o) : PyData.canLay0 (dL o) = true ∧ PyData.depth (dL o) ≤ 2 := by
  cases o with
  | none => exact ⟨rfl, Nat.zero_le _⟩
  | some ps =>
    obtain ⟨h1, h2⟩ := shL h
    exact ⟨h1, by show PyData.depthAll (ps.map dP) + 1 ≤ 2; omega⟩
theorem shA : ∀ {os : List (Option (List Pair))}, (∀ o ∈ os, ascO o) → PyData.canLayAll0 (os.map dL) = true ∧ PyData.depthAll (os.map dL) ≤ 2
  | [], _ => ⟨rfl, Nat.zero_le _⟩
  | q :: os, h => by
    obtain ⟨h1, h2⟩ := shO (h q (List.mem_cons_self ..))
    obtain ⟨h3, h4⟩ := shA (os := os) fun x hx => h x (List.mem_cons_of_mem _ hx)
    refine ⟨?_, ?_⟩
    · show (PyData.canLay0 (dL q) && PyData.canLayAll0 (os.map dL)) = true
      rw [h1, h3]
      rfl
    · show max (PyData.depth (dL q)) (PyData.depthAll (os.map dL)) ≤ 2
      omega
theorem shapedA {os : List (Option (List Pair))} (h : ∀ o ∈ os, ascO o) : SeqAt.shaped (.list (os.map dL)) = true := by
  obtain ⟨h1, h2⟩ := shA h
  show (PyData.canLayAll0 (os.map dL) && decide (PyData.depthAll (os.map dL) + 1 ≤ 64)) = true
  rw [h1, decide_eq_true (by omega)]
  rfl
theorem anyNone : ∀ (os : List (Option (List Pair))), ((os.map dL).any fun z => PyData.eqv z .none) = decide (none ∈ os)
  | [] => rfl
  | o :: os => by
    rw [List.map_cons, List.any_cons, anyNone os]
    cases o with
    | none =>
      rw [decide_eq_true (show none ∈ none :: os from List.mem_cons_self ..)]
      rfl
    | some ps =>
      show (false || _) = _
      rw [Bool.false_or]
      exact decide_eq_decide.mpr ⟨fun z => List.mem_cons_of_mem _ z, fun z => (List.mem_cons.mp z).resolve_left (fun e => nomatch e)⟩
abbrev N_l_name : List Str := ["_law_line_here", "_law_leaves", "_law_piece"]
theorem sc_l_name : FnScope N_l_name ["_law_line_here"] (defScope s_l_name) := ⟨rfl, rfl, rfl, by decide +kernel, rfl, by decide +kernel, by decide +kernel⟩
-- slots: 0 _law_line_here, 1 _law_leaves, 2 _law_piece
def nameLO (K : PySem.W.Frag) : Option (List (List Pair)) → SP
  | none => is .non
  | some ls => lstP (lstP (pairSP K)) ls
def sp_l_name (K : PySem.W.Frag) : Sp := pureSp (fun (l : Codes) _ vs _ => vs = [sv l] ∧ asc l ∧ l.length ≤ 1000) (fun l => nameLO K (lawName l))
theorem paired_somes {M : Addr → Prop} {H : Hp} : ∀ {xs : List V} {os : List (Option (List Pair))}, none ∉ os → Paired (fun v o => (leafO K o).P M v H) xs os → Paired (fun v ps => (lstP (pairSP K) ps).P M v H) xs (os.filterMap id)
  | _, _, _, .nil => .nil
  | _, some ps :: os, h, .cons a b => .cons a (paired_somes (fun z => h (List.mem_cons_of_mem _ z)) b)
  | _, none :: os, h, .cons a b => absurd (List.mem_cons_self ..) h
theorem c_l_name (T : Tx K mg) : Cal P w K mg base 3 "_law_name" ["_law_line_here"] (sp_l_name K) := by
  have C_l_split := c_l_split (P := P) (w := w) (base := base) T
  have C_l_leaf := c_l_leaf (P := P) (w := w) (base := base) T
  refine T.d_l_name.cal sc_l_name (fun vs H Q E h => ?_) (fun _ _ _ _ _ _ us hl => match us, hl with | [_], _ => rfl) (fun f cdv A outer s H vs Q E hr h => ?_)
  · obtain ⟨R, n, x, _, ⟨rfl, _⟩, _⟩ := h
    rfl
  · obtain ⟨R, n, l, hj, ⟨rfl, ha, hl⟩, q⟩ := h
    refine ⟨_, (pss_cons (ps_set (i := 1) sc_l_name.nd rfl (by first | exact Or.inl rfl | exact Or.inr rfl) (pe_ifExp (pt_cmpR (cm_NotEq (K := K) hr.units) (pv 0) pe_str (nomark _)) (pe_lc (own := [("_law_piece", 2)]) (by rfl) sc_l_name.nd (pi_any (K := K) (pe_callC C_l_split (hr.mono (by decide)) (by rfl) (pa_cons (pv 0) (pa_cons pe_str pa_nil)))) (blkOk_by (own := [("_law_piece", 2)]) (N := N_l_name) (sc := defScope s_l_name) (by decide +kernel)) (fun _ _ _ _ _ => (pg_name (i := 2) sc_l_name.nd rfl (by first | exact Or.inl rfl | exact Or.inr rfl))) (fun _ _ _ _ _ => pts_nil) (fun _ _ _ _ _ => (pe_callC C_l_leaf (hr.mono (by decide)) (by rfl) (pa_cons (pv 2) pa_nil)))) (pe_lst pa_nil)))
      (pss_one (ps_ret (pe_ifExp (PW.pt (pw_or (pt_cmpR (cm_In (K := K) (hu65 hr)) pe_non (pv 1) (by rfl)) (pw_or1 (pt_cmpR cm_Gt (pe_callB (call_lenA (K := K)) (by rfl) T.b_len (by decide +kernel) (pa_cons (pv 1) pa_nil)) pe_int (nomark _))))) pe_non (pv 1))))), ?_⟩
    refine StF.run (R := R) (n := n) ?_ hj
    have hos : ∃ os : List (Option (List Pair)), os = (if l = [] then [] else (sp 44 [] l).map lawLeaf) := ⟨_, rfl⟩
    obtain ⟨os, hos⟩ := hos
    have hN : lawName l = if none ∈ os ∨ 12 < os.length then none else some (os.filterMap id) := by
      rw [hos]
      rfl
    have hosA : ∀ o ∈ os, ascO o := fun o ho => by
      rw [hos] at ho
      split at ho
      · cases ho
      · obtain ⟨p, hp, rfl⟩ := List.mem_map.mp ho
        cases hz : lawLeaf p with
        | none => trivial
        | some ps => exact lawLeaf_asc (sp_asc ha hp) hz
    have hol : os.length ≤ l.length + 1 := by
      rw [hos]
      split
      · exact Nat.zero_le _
      · rw [List.length_map]; exact sp_many 44 l
    refine q_asg (m := n) (p := lstP (leafO K) os) ?_ fun v H1 e1 hv => ?_
    · refine ev_ifB (m := n) (b := !decide (l = [])) (et_test (ev_op2 (m := n) (ev_var rfl) (ev_str (l := []) (by decide +kernel)) fun H3 _ => rv_neS)) (fun hb => ?_) (fun hb => ?_)
      · have hne : ¬ l = [] := fun z => by rw [decide_eq_true z] at hb; cases hb
        rw [if_neg hne] at hos
        have hit : ItP R n (n + (sp 44 [] l).length * 0) (iAny K (tCall (sp_l_split K) [] E0 (tCons (tVar 0) (tCons (tC (.str ",")) tNil)))) (start N_l_name [sv l]) H ((sp 44 [] l).map fun p => is (sv p)) := by
          rw [Nat.mul_zero]
          have h2 : EvP R n n (tCall (sp_l_split K) [] E0 (tCons (tVar 0) (tCons (tC (.str ",")) tNil))) (start N_l_name [sv l]) H (lstG (· = (sp 44 [] l).map sv)) := ev_pure (post := fun x : Nat × Codes => lstG (· = (sp x.1 [] x.2).map sv)) (44, l) (ea_cons (ev_var (v := sv l) rfl) (ea_cons (ev_str (l := [44]) (by decide +kernel)) ea_nil)) fun vs H1 _ hv => by
            obtain ⟨v, u, rfl, hv1, hv2⟩ := two hv
            exact ⟨by rw [show v = _ from hv1, show u = _ from hv2], (show (44 : Nat) ≠ 92 by decide), hl⟩
          have h3 := it_lstV (K := K) h2
          rw [List.map_map] at h3
          exact h3
        have h4 := ev_lcP (te := tCall (sp_l_leaf K) [] E0 (tCons (tVar 2) tNil)) (vs := [2]) (j := 2) 0 (fun p => leafO K (lawLeaf p)) hit (by have := sp_many 44 l; omega) (fun x => rfl) (fun R' H' a k ex ham => ev_pure (post := fun l => leafO K (lawLeaf l)) a (ea_cons (ev_var (v := sv a) rfl) ea_nil) fun vs H1 _ hv => by
          obtain ⟨v, rfl, hv1⟩ := one hv
          exact ⟨by rw [show v = _ from hv1], by have := sp_len ham; omega⟩)
        refine h4.imp fun v H1 _ hv => ?_
        obtain ⟨p, xs, rfl, h, g⟩ := hv
        rw [hos]
        exact ⟨p, xs, rfl, h, paired_sub (F := fun v o => (leafO K o).P R.M v H1) (m := lawLeaf) g⟩
      · have hne : l = [] := by
          cases h : decide (l = []) with
          | true => exact of_decide_eq_true h
          | false => rw [h] at hb; cases hb
        rw [if_pos hne] at hos
        rw [hos]
        exact (ev_lstV (vs := []) ea_nil (Nat.zero_le _)).imp fun v H1 _ ⟨p, xs, e, h, g⟩ => ⟨p, xs, e, h, by subst g; exact .nil⟩
    · refine s_ret (m := n) (p := nameLO K (lawName l)) ?_ fun v H2 e2 hv => q v H2 (R.trans e1 e2) hv
      have hvar : EvP R n n (tVar 1) [some (sv l), some v, none] H1 (lstP (leafO K) os) := ev_varP rfl hv
      rw [hN]
      refine ev_ifB (m := n) (b := decide (none ∈ os) || decide (12 < os.length)) (et_or (et_test (ev_op (m := n) (p := is .non) (q := lstP (leafO K) os) ev_c hvar fun x y H3 e3 hx hy _ jj Q f => ?_)) fun _ => et_is (et_test (ev_op2 (m := n) (ev_len1 (len := os.length) hvar fun v H3 _ hv => ?_) ev_c fun H3 _ => rv_gtI)) (decide_eq_decide.mpr (by omega))) (fun hb => ?_) (fun hb => ?_)
      · have hx : x = .non := hx
        subst hx
        obtain ⟨p, xs, rfl, h, g⟩ := hy
        have all : ∀ {xs : List V} {os : List (Option (List Pair))}, Paired (fun v y => (leafO K y).P R.M v H3) xs os → DpAll K H3 xs (os.map dL) := by
          intro xs os g
          induction g with
          | nil => exact .nil
          | cons a _ ih => exact .cons (dpL a) ih
        refine .inr (.inr ⟨.none, os.map dL, .non, .lst h.sq (all g), rfl, shapedA hosA, f _ H3 (R.self jj) ?_⟩)
        rw [anyNone]
        rfl
      · obtain ⟨p, xs, rfl, h, g⟩ := hv
        exact .inl ⟨xs, h.sq, g.length.symm⟩
      · rw [if_pos (by rw [Bool.or_eq_true, decide_eq_true_eq, decide_eq_true_eq] at hb; exact hb)]
        exact ev_c
      · rw [Bool.or_eq_false_iff, decide_eq_false_iff_not, decide_eq_false_iff_not] at hb
        rw [if_neg (fun z => z.elim hb.1 hb.2)]
        exact hvar.imp fun v H3 _ ⟨p, xs, e, h, g⟩ => ⟨p, xs, e, h, paired_somes hb.1 g⟩

end
end My
namespace My
open PySem PySem.Spec PyProof.Rows L2
section
variable {P : Program} {w : World} {K : PySem.W.Frag} {mg : Str → Option Value} {base : Heap}
/-! ### _law_is_integer, _law_is_valid -/
abbrev N_l_is_integer : List Str := ["_law_thing", "_law_digits_here"]
theorem sc_l_is_integer : FnScope N_l_is_integer ["_law_thing"] (defScope s_l_is_integer) := ⟨rfl, rfl, rfl, by decide +kernel, rfl, by decide +kernel, by decide +kernel⟩
-- slots: 0 _law_thing, 1 _law_digits_here
def sp_l_is_integer : Sp := pureSp (fun (l : Codes) _ vs _ => vs = [sv l] ∧ l.length ≤ 1000) (fun l => is (.bl (isIntL l)))
theorem c_l_is_integer (T : Tx K mg) : Cal P w K mg base 1 "_law_is_integer" ["_law_thing"] (sp_l_is_integer) := by
  refine T.d_l_is_integer.cal sc_l_is_integer (fun vs H Q E h => ?_) (fun _ _ _ _ _ _ us hl => match us, hl with | [_], _ => rfl) (fun f cdv A outer s H vs Q E hr h => ?_)
  · obtain ⟨R, n, l, _, ⟨rfl, _⟩, _⟩ := h
    rfl
  · obtain ⟨R, n, l, hj, ⟨rfl, hl⟩, q⟩ := h
    refine ⟨_, (pss_cons (ps_set (i := 1) sc_l_is_integer.nd rfl (by first | exact Or.inl rfl | exact Or.inr rfl) (pe_ifExp (pt_cmpR (cm_Eq (K := K) hr.units) (pe_slice (sl_any (K := K)) (pv 0) po_none (po_some pe_int)) pe_str (nomark _)) (pe_slice (sl_any (K := K)) (pv 0) (po_some pe_int) po_none) (pv 0)))
      (pss_cons (ps_if (PW.pt (pw_or (pt_cmpR (cm_Eq (K := K) hr.units) (pv 1) pe_str (nomark _)) (pw_or (pt_cmpR cm_Gt (pe_callB (call_lenA (K := K)) (by rfl) T.b_len (by decide +kernel) (pa_cons (pv 1) pa_nil)) pe_int (nomark _)) (pw_or1 (pt_cmpR (cm_NotEq (K := K) hr.units) (pe_bmK (K := K) PySem.F.plainAttrs_str PySem.F.slot_str_strip PySem.F.type_str_strip mt_stripA (pv 1) (pa_cons pe_str pa_nil)) pe_str (nomark _)))))) (pss_one (ps_ret pe_bl)) pss_nil)
      (pss_one (ps_ret (pe_or (pe_cmpR (cm_Eq (K := K) hr.units) (pv 0) pe_str (nomark _)) (pe_one (pe_cmpR (cm_NotEq (K := K) hr.units) (pe_ix (ix_any (K := K)) (pv 1) pe_int (fun _ _ => rfl)) pe_str (nomark _)))))))), ?_⟩
    refine StF.run (R := R) (n := n) ?_ hj
    have hd := dgL_len l
    refine q_asgV (m := n) (v := sv (dgL l)) ?_ ?_
    · refine ev_ifB (m := n) (b := decide (l.head? = some 45)) (et_is (et_test (ev_op2 (m := n) (x := sv (l.take 1)) (y := sv [45]) (ev_is (ev_sl (m := n) (k := n) (p := is (sv l)) (ev_var rfl) eo_none (eo_some ev_c) fun x H3 _ hx => by rw [show x = sv l from hx]; exact rs_S (by omega)) (by rw [sl_to (by decide)]; rfl)) (ev_str (by decide +kernel)) fun H3 _ => rv_eqS)) ?_) (fun hb => ?_) (fun hb => ?_)
      · cases l with
        | nil => rfl
        | cons c r => exact decide_eq_decide.mpr (by simp)
      · unfold dgL
        rw [if_pos (of_decide_eq_true hb)]
        exact ev_is (ev_sl (m := n) (k := n) (p := is (sv l)) (ev_var rfl) (eo_some ev_c) eo_none fun x H3 _ hx => by rw [show x = sv l from hx]; exact rs_S (by omega)) (by rw [sl_from (by decide)]; show sv (l.drop 1) = _; rw [List.drop_one])
      · unfold dgL
        rw [if_neg (of_decide_eq_false hb)]
        exact ev_var rfl
    generalize hdd : dgL l = d at *
    have hst : decide (stripL d digL = []) = d.all fun c => decide (c ∈ digL) := strip_all fun c => rfl
    refine q_whenB (m := n) (b := decide (d = []) || (decide (30 < d.length) || !(d.all fun c => decide (c ∈ digL)))) (et_or (et_test (ev_op2 (m := n) (ev_var rfl) (ev_str (l := []) (by decide +kernel)) fun H3 _ => rv_eqS)) fun _ => et_or (et_is (et_test (ev_op2 (m := n) (ev_lenS (ev_var rfl) (by omega)) ev_c fun H3 _ => rv_gtI)) (decide_eq_decide.mpr (by omega))) fun _ => et_is (et_test (ev_op2 (m := n) (ev_strip0 (f := stripL d digL) (ev_var rfl) (ev_str (l := digL) (SX.S_tl _).symm) rfl (by omega)) (ev_str (l := []) (by decide +kernel)) fun H3 _ => rv_neS)) (by rw [hst])) (fun hb => ?_) (fun hb => ?_)
    · refine s_ret (m := n) (p := is (.bl (isIntL l))) (ev_is ev_c ?_) q
      congr 1
      unfold isIntL
      rw [hdd]
      rw [Bool.or_eq_true, Bool.or_eq_true] at hb
      rcases hb with z | z | z
      · rw [of_decide_eq_true z]; rfl
      · have := of_decide_eq_true z
        rw [decide_eq_false (show ¬ (1 ≤ d.length ∧ d.length ≤ 30) by omega)]
        rfl
      · cases h : d.all fun c => decide (c ∈ digL) with
        | true => rw [h] at z; cases z
        | false => rw [Bool.false_and, Bool.and_false]
    · rw [Bool.or_eq_false_iff, Bool.or_eq_false_iff] at hb
      have hne := of_decide_eq_false hb.1
      have h1 : d.length ≤ 30 := by have := of_decide_eq_false hb.2.1; omega
      have h2 : (d.all fun c => decide (c ∈ digL)) = true := by
        cases h : d.all fun c => decide (c ∈ digL) with
        | true => rfl
        | false => rw [h] at hb; cases hb.2.2
      refine s_ret (m := n) (p := is (.bl (isIntL l))) ?_ q
      unfold isIntL
      cases d with
      | nil => exact absurd rfl hne
      | cons c r =>
        rw [hdd, h2, decide_eq_true (show 1 ≤ (c :: r).length ∧ (c :: r).length ≤ 30 from ⟨by simp, h1⟩), Bool.true_and, Bool.true_and]
        exact ev_is (ev_orV (ev_op2 (m := n) (ev_var rfl) (ev_str (l := [48]) (by decide +kernel)) fun H3 _ => rv_eqS) fun _ => ev_op2 (m := n) (ev_op2 (m := n) (ev_var rfl) ev_c fun H3 _ => rv_ixS (c := c) (by omega) (at_nat (i := 0) (l := c :: r) rfl)) (ev_str (l := [48]) (by decide +kernel)) fun H3 _ => rv_neS) (by
          congr 2
          show (!decide ([c] = [48])) = !decide (some c = some 48)
          congr 1
          exact decide_eq_decide.mpr (by simp))
abbrev N_l_is_valid : List Str := ["_law_form", "_law_thing"]
theorem sc_l_is_valid : FnScope N_l_is_valid ["_law_form", "_law_thing"] (defScope s_l_is_valid) := ⟨rfl, rfl, rfl, by decide +kernel, rfl, by decide +kernel, by decide +kernel⟩
-- slots: 0 _law_form, 1 _law_thing
def sp_l_is_valid (K : PySem.W.Frag) : Sp := pureSp (fun (x : Nat × Option Codes) M vs H => ∃ v, vs = [sv (synN x.1), v] ∧ x.1 ≤ 4 ∧ tOrN K x.2 M v H) (fun x => is (.bl (isValidL x.1 x.2)))
theorem nameLO_some {M : Addr → Prop} {o : Option (List (List Pair))} {v : V} {H : Hp} (h : (nameLO K o).P M v H) : decide (v = .non) = !o.isSome := by
  cases o with
  | none =>
    have h : v = .non := h
    rw [h]
    rfl
  | some ls =>
    obtain ⟨p, xs, rfl, _⟩ := h
    rfl
theorem c_l_is_valid (T : Tx K mg) : Cal P w K mg base 4 "_law_is_valid" ["_law_form", "_law_thing"] (sp_l_is_valid K) := by
  have C_l_name := c_l_name (P := P) (w := w) (base := base) T
  have C_l_is_integer := c_l_is_integer (P := P) (w := w) (base := base) T
  refine T.d_l_is_valid.cal sc_l_is_valid (fun vs H Q E h => ?_) (fun _ _ _ _ _ _ us hl => match us, hl with | [_, _], _ => rfl) (fun f cdv A outer s H vs Q E hr h => ?_)
  · obtain ⟨R, n, x, _, ⟨v, rfl, _⟩, _⟩ := h
    rfl
  · obtain ⟨R, n, ⟨k, x⟩, hj, ⟨v, rfl, hk, hv⟩, q⟩ := h
    refine ⟨_, (pss_cons (ps_if (PW.pt (pw_or (pt_not (pt_val (pe_callB (call_isiA (K := K)) (by rfl) T.b_isinstance (by decide +kernel) (pa_cons (pv 1) (pa_cons (pe_bty (T := "str") (by rfl) T.b_str (by decide +kernel)) pa_nil))))) (pw_or (pt_cmpR (cm_Eq (K := K) hr.units) (pv 1) pe_str (nomark _)) (pw_or1 (pt_cmpR (cm_In (K := K) (hu65 hr)) pe_str (pv 1) (by rfl)))))) (pss_one (ps_ret pe_bl)) pss_nil)
      (pss_cons (ps_if (pt_cmpR (cm_Eq (K := K) hr.units) (pv 0) pe_str (nomark _)) (pss_one (ps_ret (pe_cmpR cm_IsNot (pe_callC C_l_name (hr.mono (by decide)) (by rfl) (pa_cons (pv 1) pa_nil)) pe_non (nomark _)))) pss_nil)
      (pss_cons (ps_if (pt_cmpR (cm_Eq (K := K) hr.units) (pv 0) pe_str (nomark _)) (pss_one (ps_ret (pe_callC C_l_is_integer (hr.mono (by decide)) (by rfl) (pa_cons (pv 1) pa_nil)))) pss_nil)
      (pss_cons (ps_if (pt_cmpR (cm_Eq (K := K) hr.units) (pv 0) pe_str (nomark _)) (pss_one (ps_ret (pe_or (pe_cmpR (cm_Eq (K := K) hr.units) (pv 1) pe_str (nomark _)) (pe_one (pe_cmpR (cm_Eq (K := K) hr.units) (pv 1) pe_str (nomark _)))))) pss_nil)
      (pss_one (ps_ret (pe_and (pe_cmpR cm_LtE (pe_callB (call_lenA (K := K)) (by rfl) T.b_len (by decide +kernel) (pa_cons (pv 1) pa_nil)) pe_int (nomark _)) (pe_one (pe_or (pe_cmpR (cm_Eq (K := K) hr.units) (pv 0) pe_str (nomark _)) (pe_one (pe_cmpR (cm_NotEq (K := K) hr.units) (pe_bmK (K := K) PySem.F.plainAttrs_str PySem.F.slot_str_strip PySem.F.type_str_strip mt_stripA (pv 1) (pa_cons pe_str pa_nil)) pe_str (nomark _)))))))))))), ?_⟩
    have hk : k ≤ 4 := hk
    have hv : tOrN K x R.M v H := hv
    refine StF.run (R := R) (n := n) ?_ hj
    cases x with
    | none =>
      have hv : NoStr K R.M v H := hv
      refine q_whenB (m := n) (b := true) (et_is (et_or (a := true) (b := true) (et_not (et_B (ev_isNoStr (ev_varP (p := noStr K) rfl hv)))) (fun z => nomatch z)) rfl) (fun _ => ?_) (fun z => nomatch z)
      exact s_ret (m := n) (p := is (.bl false)) ev_c q
    | some l =>
      obtain ⟨rfl, ha, hl⟩ := hv
      refine q_whenB (m := n) (b := !true || (decide (l = []) || decide (10 ∈ l))) (et_or (et_not (et_B (ev_isStr (ev_var rfl)))) fun _ => et_or (et_test (ev_op2 (m := n) (ev_var rfl) (ev_str (l := []) (by decide +kernel)) fun H3 _ => rv_eqS)) fun _ => et_test (ev_op2 (m := n) (ev_str (l := [10]) (by decide +kernel)) (ev_var rfl) fun H3 _ => rv_inS)) (fun hb => ?_) (fun hb => ?_)
      · refine s_ret (m := n) (p := is (.bl (isValidL k (some l)))) (ev_is ev_c ?_) q
        congr 1
        rw [isValidL_some]
        have : isValL (some l) = false := by
          show (!decide (l = []) && !decide (10 ∈ l)) = false
          cases h1 : decide (l = []) <;> cases h2 : decide (10 ∈ l) <;> rw [h1, h2] at hb <;> first | rfl | cases hb
        rw [this]
        rfl
      · have hvl : isValL (some l) = true := by
          show (!decide (l = []) && !decide (10 ∈ l)) = true
          cases h1 : decide (l = []) <;> cases h2 : decide (10 ∈ l) <;> rw [h1, h2] at hb <;> first | rfl | cases hb
        have hsyn : ∀ (j : Nat) (c : Str), j ≤ 4 → c = SX.S (synN j) → EvT R n n (tTest (tOp (rEqU K) (tVar 0) (tC (.str c)))) [some (sv (synN k)), some (sv l)] H (· = decide (k = j)) := fun j c hj hc => et_is (et_test (ev_op2 (m := n) (ev_var rfl) (ev_str hc) fun H3 _ => rv_eqS)) (syn_eq hk hj)
        have qq : ∀ (b : Bool), b = isValidL k (some l) → ∀ v H1, R.ok n H H1 → (is (.bl b)).P R.M v H1 → Q v H1 := fun b hb v H1 e hv => q v H1 e (by subst hb; exact hv)
        refine q_whenB (m := n) (hsyn 4 _ (by decide) (SX.S_tl _).symm) (fun hb4 => ?_) (fun hb4 => ?_)
        · have hb4 := of_decide_eq_true hb4
          refine s_ret (m := n) (p := is (.bl (lawName l).isSome)) ?_ (qq _ (by rw [isValidL_some, hvl, if_pos hb4, Bool.true_and]))
          have hread : EvP R n n (tCall (sp_l_name K) [] E0 (tCons (tVar 1) tNil)) [some (sv (synN k)), some (sv l)] H (nameLO K (lawName l)) := ev_pure (post := fun x => nameLO K (lawName x)) l (ea_cons (ev_var (v := sv l) rfl) ea_nil) fun vs H1 _ hv => by
            obtain ⟨v, rfl, hv1⟩ := one hv
            exact ⟨by rw [show v = _ from hv1], ha, hl⟩
          exact ev_op (m := n) hread ev_c fun x y H3 e3 hx hy => by
            have hy : y = .non := hy
            subst hy
            have := rv_isNotN (R := R) (H := H3) (x := x)
            rw [nameLO_some hx, Bool.not_not] at this
            exact this
        · have hb4 := of_decide_eq_false hb4
          refine q_whenB (m := n) (hsyn 2 _ (by decide) (SX.S_tl _).symm) (fun hb2 => ?_) (fun hb2 => ?_)
          · have hb2 := of_decide_eq_true hb2
            refine s_ret (m := n) (p := is (.bl (isIntL l))) ?_ (qq _ (by rw [isValidL_some, hvl, if_neg hb4, if_pos hb2, Bool.true_and]))
            exact ev_pure (post := fun l => is (.bl (isIntL l))) l (ea_cons (ev_var (v := sv l) rfl) ea_nil) fun vs H1 _ hv => by
              obtain ⟨v, rfl, hv1⟩ := one hv
              exact ⟨by rw [show v = _ from hv1], hl⟩
          · have hb2 := of_decide_eq_false hb2
            refine q_whenB (m := n) (hsyn 3 _ (by decide) (SX.S_tl _).symm) (fun hb3 => ?_) (fun hb3 => ?_)
            · have hb3 := of_decide_eq_true hb3
              refine s_ret (m := n) (p := is (.bl (decide (l = cs "TRUE" ∨ l = cs "FALSE")))) ?_ (qq _ (by rw [isValidL_some, hvl, if_neg hb4, if_neg hb2, if_pos hb3, Bool.true_and]))
              exact ev_is (ev_orV (ev_op2 (m := n) (ev_var rfl) (ev_str (l := cs "TRUE") (SX.S_tl _).symm) fun H3 _ => rv_eqS) fun _ => ev_op2 (m := n) (ev_var rfl) (ev_str (l := cs "FALSE") (SX.S_tl _).symm) fun H3 _ => rv_eqS) (by rw [Bool.decide_or])
            · have hb3 := of_decide_eq_false hb3
              refine s_ret (m := n) (p := is (.bl (decide (l.length ≤ 60) && (decide (k = 1) || !decide (plainL l = []))))) ?_ (qq _ (by rw [isValidL_some, hvl, if_neg hb4, if_neg hb2, if_neg hb3, Bool.true_and]))
              refine ev_is (ev_andV (ev_op2 (m := n) (ev_lenS (ev_var rfl) (by omega)) ev_c fun H3 _ => rv_leI) fun _ => ev_orV (ev_is (ev_op2 (m := n) (x := sv (synN k)) (ev_var rfl) (ev_str (l := synN 1) (SX.S_tl _).symm) fun H3 _ => rv_eqS) (by rw [syn_eq hk (by decide)])) fun _ => ev_op2 (m := n) (ev_strip0 (f := stripL l [32]) (ev_var rfl) (ev_str (l := [32]) (by decide +kernel)) rfl (by omega)) (ev_str (l := []) (by decide +kernel)) fun H3 _ => rv_neS) ?_
              rw [plain_strip]
              congr 2
              exact decide_eq_decide.mpr (by omega)

end
end My
namespace My
open PySem PySem.Spec PyProof.Rows L2
section
variable {P : Program} {w : World} {K : PySem.W.Frag} {mg : Str → Option Value} {base : Heap}
/-! ### _law_escaped, _law_leaf_line, _law_line -/
abbrev N_l_escaped : List Str := ["_law_thing", "_law_found", "_law_at", "_law_sign", "_law_must"]
theorem sc_l_escaped : FnScope N_l_escaped ["_law_thing"] (defScope s_l_escaped) := ⟨rfl, rfl, rfl, by decide +kernel, rfl, by decide +kernel, by decide +kernel⟩
-- slots: 0 _law_thing, 1 _law_found, 2 _law_at, 3 _law_sign, 4 _law_must
def sp_l_escaped : Sp := pureSp (fun (l : Codes) _ vs _ => vs = [sv l] ∧ l.length ≤ 1000) (fun l => is (sv (escL l)))
/-- what stands in _law_must -/
theorem ev_must {R : Rel} {n : Nat} {σ : L2.St} {H : Hp} {f : Codes} {r c i j z : Nat} (hf : f.length ≤ 1000) (hc : σ[i]? = some (some (sv [c]))) (hr : σ[j]? = some (some (.int (r : Nat)))) (hz : σ[z]? = some (some (sv f))) :
    EvP R n n (tOrV (tOp (rInU K) (tVar i) (tLst (tCons (tC (.str ",")) (tCons (tC (.str "+")) (tCons (tC (.str "=")) (tCons (tC (.str "\\")) tNil)))))) (tAndV (tOp (rEqU K) (tVar i) (tC (.str " "))) (tOp (rInU K) (tVar j) (tLst (tCons (tC (.int 0)) (tCons (tOp (rI0 fun i j => V.int (i - j)) (tCB (rLenU K) (tCons (tVar z) tNil)) (tC (.int 1))) tNil)))))) σ H (is (.bl (must f.length r c))) := by
  refine ev_is (ev_orV (ev_inT (m := n) (ws := [[44], [43], [61], [92]]) (w := [c]) (ev_var hc) (ev_lstV (vs := [sv [44], sv [43], sv [61], sv [92]]) (ea_cons (m := n) (ev_str (by decide +kernel)) (ea_cons (m := n) (ev_str (by decide +kernel)) (ea_cons (m := n) (ev_str (by decide +kernel)) (ea_cons (m := n) (ev_str (by decide +kernel)) ea_nil)))) (by show 4 ≤ 100000; decide))) fun _ => ev_andV (ev_op2 (m := n) (ev_var hc) (ev_str (l := [32]) (by decide +kernel)) fun H3 _ => rv_eqS) fun _ => ev_op (m := n) (s := is (.bl (decide (r = 0 ∨ r + 1 = f.length)))) (ev_var hr) (ev_lstV (vs := [.int 0, .int ((f.length : Nat) - 1 : Int)]) (ea_cons (m := n) ev_c (ea_cons (m := n) (ev_op2 (m := n) (ev_lenS (ev_var hz) (by omega)) ev_c fun H3 _ => rv_subI) ea_nil)) (by show 2 ≤ 100000; decide)) fun u v H3 e3 hu hv => ?_) ?_
  · have hu : u = .int (r : Nat) := hu
    subst hu
    obtain ⟨p, xs, rfl, hp, rfl⟩ := hv
    refine fun _ jj Q f2 => .inr (.inl ⟨p, _, rfl, .inl hp.sq, rfl, rfl, f2 _ H3 (R.self jj) ?_⟩)
    show V.bl (inV (.int (r : Nat)) [.int 0, .int ((f.length : Nat) - 1 : Int)]) = V.bl _
    congr 1
    unfold inV
    rw [List.any_cons, List.any_cons, List.any_nil, Bool.or_false]
    show (((0 : Int) == (r : Int)) || (((f.length : Int) - 1) == (r : Int))) = _
    rw [Bool.decide_or]
    congr 1
    · by_cases h : r = 0
      · rw [h, decide_eq_true rfl]; rfl
      · rw [decide_eq_false h, beq_eq_false_iff_ne]; omega
    · by_cases h : r + 1 = f.length
      · rw [decide_eq_true h, beq_iff_eq]; omega
      · rw [decide_eq_false h, beq_eq_false_iff_ne]; omega
  · congr 1
    unfold must
    congr 1
    · exact decide_eq_decide.mpr (by simp)
    · congr 1
      exact decide_eq_decide.mpr (by simp)
theorem c_l_escaped (T : Tx K mg) : Cal P w K mg base 1 "_law_escaped" ["_law_thing"] (sp_l_escaped) := by
  refine T.d_l_escaped.cal sc_l_escaped (fun vs H Q E h => ?_) (fun _ _ _ _ _ _ us hl => match us, hl with | [_], _ => rfl) (fun f cdv A outer s H vs Q E hr h => ?_)
  · obtain ⟨R, n, l, _, ⟨rfl, _⟩, _⟩ := h
    rfl
  · obtain ⟨R, n, l, hj, ⟨rfl, hl⟩, q⟩ := h
    refine ⟨_, (pss_cons (ps_set (i := 1) sc_l_escaped.nd rfl (by first | exact Or.inl rfl | exact Or.inr rfl) pe_str)
      (pss_cons (ps_for PassesOwn.never rfl (pi_enumA (K := K) (by rfl) T.b_enumerate (pa_cons (pv 0) pa_nil)) (pg_tupK (K := K) (n := 2) rfl (pgs_cons (pg_name (i := 2) sc_l_escaped.nd rfl (by first | exact Or.inl rfl | exact Or.inr rfl)) (pgs_cons (pg_name (i := 3) sc_l_escaped.nd rfl (by first | exact Or.inl rfl | exact Or.inr rfl)) pgs_nil)))
      (pss_cons (ps_set (i := 4) sc_l_escaped.nd rfl (by first | exact Or.inl rfl | exact Or.inr rfl) (pe_or (pe_cmpR (cm_In (K := K) (hu65 hr)) (pv 3) (pe_lst (pa_cons pe_str (pa_cons pe_str (pa_cons pe_str (pa_cons pe_str pa_nil))))) (by rfl)) (pe_one (pe_and (pe_cmpR (cm_Eq (K := K) hr.units) (pv 3) pe_str (nomark _)) (pe_one (pe_cmpR (cm_In (K := K) (hu65 hr)) (pv 2) (pe_lst (pa_cons pe_int (pa_cons (pe_op op_sub (pe_callB (call_lenA (K := K)) (by rfl) T.b_len (by decide +kernel) (pa_cons (pv 0) pa_nil)) pe_int) pa_nil))) (by rfl)))))))
      (pss_one (ps_set (i := 1) sc_l_escaped.nd rfl (by first | exact Or.inl rfl | exact Or.inr rfl) (pe_op (op_Add (K := K)) (pe_op (op_Add (K := K)) (pv 1) (pe_op op_Mult pe_str (pe_callTy call_intA (by rfl) T.b_int (by decide +kernel) (pa_cons (pv 4) pa_nil)))) (pv 3))))))
      (pss_one (ps_ret (pv 1))))), ?_⟩
    refine StF.run (R := R) (n := n) ?_ hj
    refine q_asgV (m := n) (v := sv []) (ev_str (by decide +kernel)) ?_
    refine q_forE (a := l) (ev_var rfl) (fun r σ' => ∃ x y z, σ' = [some (sv l), some (sv (escF l.length 0 (l.take r))), x, y, z]) ⟨none, none, none, rfl⟩ (fun B r c σ' eb hc hI => ?_) (fun σ' hI => ?_)
    · obtain ⟨x, y, z, rfl⟩ := hI
      have hr := (List.getElem?_eq_some_iff.mp hc).1
      have hf := escF_len l.length (l.take r) 0
      rw [List.length_take, Nat.min_eq_left (by omega)] at hf
      refine q_asgV (m := n) (v := .bl (must l.length r c)) (ev_must hl rfl rfl rfl) ?_
      refine s_asgV (m := n) (v := sv (escF l.length 0 (l.take (r + 1)))) ?_ fun H2 e2 => ⟨e2, _, _, _, rfl⟩
      rw [escF_step hc]
      refine ev_op2 (m := n) (x := sv (escF l.length 0 (l.take r) ++ (if must l.length r c then [92] else []))) (y := sv [c]) (ev_op2 (m := n) (x := sv (escF l.length 0 (l.take r))) (y := sv (if must l.length r c then [92] else [])) (ev_var rfl) ?_ fun H3 _ => rv_addS (by split <;> simp <;> omega)) (ev_var rfl) fun H3 _ => rv_addS (by split <;> simp <;> omega)
      refine ev_is (ev_op2 (m := n) (x := sv [92]) (ev_str (by decide +kernel)) (ev_intB (c := must l.length r c) (ev_var rfl)) fun H3 _ => rv_mulS (by split <;> omega) (by split <;> omega)) ?_
      cases must l.length r c <;> rfl
    · obtain ⟨x, y, z, rfl⟩ := hI
      refine s_ret (m := n) (p := is (sv (escL l))) (ev_is (ev_var rfl) ?_) q
      rw [List.take_of_length_le (Nat.le_refl _)]
      rfl
/-! ### texts of relative names -/
def pairL (q : Pair) : Codes := q.1 ++ [61] ++ escL q.2
def leafLine (ps : List Pair) : Codes := TL.joinL [43] (ps.map pairL)
def lineL (ls : List (List Pair)) : Codes := TL.joinL [44] (ls.map leafLine)
/-- a comprehension over pairs -/
theorem ev_lcT {R : Rel} {n : Nat} {σ : L2.St} {H : Hp} {te : TE} {vs : List Nat} {as : List Pair} {i j : Nat} {wi : TI} (gv : Pair → V) (hi : ItP R n n wi σ H (as.map (pairSP K))) (hz : as.length ≤ 50000) (hw : ∀ x y, wipe (((wipe σ vs).set i (some x)).set j (some y)) vs = wipe σ vs)
    (hs : ∀ R' H' a, Ext R H R' H' → a ∈ as → EvP R' n n te (((wipe σ vs).set i (some (sv a.1))).set j (some (sv a.2))) H' (is (gv a))) : EvP R n n (tLc wi (gTup K 2 (gCons (gName i) (gCons (gName j) gNil))) tYes te vs) σ H (lstG (· = as.map gv)) := by
  refine (ev_lc (t := tYes) (te := te) (g := gTup K 2 (gCons (gName i) (gCons (gName j) gNil))) (vs := vs) (f := fun _ => true) (pe := fun i => is (gv (as.getD i ([], [])))) (c := fun _ => n) hi (by rw [List.length_map]; exact hz) fun R' H' r y x ex hy hx => ?_).imp fun v H1 _ hv => ?_
  · rw [List.getElem?_map] at hy
    obtain ⟨w, hw1, rfl⟩ := Option.map_eq_some_iff.mp hy
    have eg : as.getD r ([], []) = w := getD_of hw1
    obtain ⟨T, xs, rfl, hT, rfl⟩ := hx
    refine ⟨_, fun Q q => ⟨T, _, rfl, hT.sq, rfl, _, _, rfl, _, _, rfl, rfl, q⟩, hw _ _, n, fun H1 e Q k => k true H1 (R'.refl e) rfl, fun _ => ?_, fun z => nomatch z⟩
    show EvP R' n n te _ H' (is (gv (as.getD r ([], []))))
    rw [eg]
    exact hs R' H' w ex (List.mem_of_getElem? hw1)
  · obtain ⟨l, xs, rfl, h, g⟩ := hv
    refine ⟨l, xs, rfl, h, ?_⟩
    have e := paired_map (gv := fun i => gv (as.getD i ([], []))) g
    rw [List.length_map, List.filter_eq_self.mpr (fun _ _ => rfl)] at e
    rw [e]
    have e2 := congrArg (List.map gv) (range_getD ([], []) as)
    rw [List.map_map] at e2
    exact e2
abbrev N_l_leaf_line : List Str := ["_law_pairs_here", "_law_word", "_law_told"]
theorem sc_l_leaf_line : FnScope N_l_leaf_line ["_law_pairs_here"] (defScope s_l_leaf_line) := ⟨rfl, rfl, rfl, by decide +kernel, rfl, by decide +kernel, by decide +kernel⟩
-- slots: 0 _law_pairs_here, 1 _law_word, 2 _law_told
/-- pairs that are short -/
def shortP (b : Nat) (ps : List Pair) : Prop := ps.length ≤ 10 ∧ ∀ q ∈ ps, q.1.length ≤ 20 ∧ q.2.length ≤ b
def sp_l_leaf_line (K : PySem.W.Frag) : Sp := pureSp (fun (ps : List Pair) M vs H => ∃ v, vs = [v] ∧ shortP 100 ps ∧ (lstP (pairSP K) ps).P M v H) (fun ps => is (sv (leafLine ps)))
theorem sum_le {α : Type} (f : α → Nat) (b : Nat) : ∀ (l : List α), (∀ x ∈ l, f x ≤ b) → (l.map f).sum ≤ l.length * b
  | [], _ => Nat.zero_le _
  | x :: l, h => by
    have h1 := sum_le f b l fun y hy => h y (List.mem_cons_of_mem _ hy)
    have h2 := h x (List.mem_cons_self ..)
    rw [List.map_cons, List.sum_cons, List.length_cons, Nat.add_mul]
    omega
theorem escL_len (l : Codes) : (escL l).length ≤ 2 * l.length := escF_len _ l 0
theorem c_l_leaf_line (T : Tx K mg) : Cal P w K mg base 2 "_law_leaf_line" ["_law_pairs_here"] (sp_l_leaf_line K) := by
  have C_l_escaped := c_l_escaped (P := P) (w := w) (base := base) T
  refine T.d_l_leaf_line.cal sc_l_leaf_line (fun vs H Q E h => ?_) (fun _ _ _ _ _ _ us hl => match us, hl with | [_], _ => rfl) (fun f cdv A outer s H vs Q E hr h => ?_)
  · obtain ⟨R, n, ps, _, ⟨v, rfl, _⟩, _⟩ := h
    rfl
  · obtain ⟨R, n, ps, hj, ⟨v, rfl, hs, hv⟩, q⟩ := h
    refine ⟨_, (pss_one (ps_ret (pe_bmK (K := K) PySem.F.plainAttrs_str PySem.F.slot_str_join PySem.F.type_str_join (mt_joinA (K := K)) pe_str (pa_cons (pe_lc (own := [("_law_word", 1), ("_law_told", 2)]) (by rfl) sc_l_leaf_line.nd (pi_any (K := K) (pv 0)) (blkOk_by (own := [("_law_word", 1), ("_law_told", 2)]) (N := N_l_leaf_line) (sc := defScope s_l_leaf_line) (by decide +kernel)) (fun _ _ _ _ _ => (pg_tupK (K := K) (n := 2) rfl (pgs_cons (pg_name (i := 1) sc_l_leaf_line.nd rfl (by first | exact Or.inl rfl | exact Or.inr rfl)) (pgs_cons (pg_name (i := 2) sc_l_leaf_line.nd rfl (by first | exact Or.inl rfl | exact Or.inr rfl)) pgs_nil)))) (fun _ _ _ _ _ => pts_nil) (fun _ _ _ _ _ => (pe_op (op_Add (K := K)) (pe_op (op_Add (K := K)) (pv 1) pe_str) (pe_callC C_l_escaped (hr.mono (by decide)) (by rfl) (pa_cons (pv 2) pa_nil))))) pa_nil)))), ?_⟩
    refine StF.run (R := R) (n := n) ?_ hj
    refine s_ret (m := n) (p := is (sv (leafLine ps))) ?_ q
    have hit := it_lstP (K := K) (R := R) (n := n) (H := H) (σ := start N_l_leaf_line [v]) (te := tVar 0) (ev_varP (p := lstP (pairSP K) ps) rfl hv)
    have hlc := ev_lcT (te := tOp (rAddU K) (tOp (rAddU K) (tVar 1) (tC (.str "="))) (tCall sp_l_escaped [] E0 (tCons (tVar 2) tNil))) (vs := [1, 2]) (i := 1) (j := 2) (fun a => sv (pairL a)) hit (by have := hs.1; omega) (fun x y => rfl) (fun R' H' a ex ham => by
      have hl1 := hs.2 a ham
      have hl2 := escL_len a.2
      refine ev_op2 (m := n) (x := sv (a.1 ++ [61])) (y := sv (escL a.2)) (ev_op2 (m := n) (ev_var (v := sv a.1) rfl) (ev_str (l := [61]) (by decide +kernel)) fun H3 _ => rv_addS (by simp; omega)) ?_ fun H3 _ => rv_addS (by simp; omega)
      exact ev_pure (post := fun l => is (sv (escL l))) a.2 (ea_cons (ev_var (v := sv a.2) rfl) ea_nil) fun vs H1 _ hv => by
        obtain ⟨v, rfl, hv1⟩ := one hv
        exact ⟨by rw [show v = _ from hv1], by omega⟩)
    refine ev_joinV (ls := ps.map pairL) (ev_str (by decide +kernel)) (ev_is2 hlc (by rw [List.map_map]; rfl)) ?_
    have h1 := sum_le (fun x : Codes => x.length) 300 (ps.map pairL) (fun x hx => by
      obtain ⟨a, ham, rfl⟩ := List.mem_map.mp hx
      have hl1 := hs.2 a ham
      have hl2 := escL_len a.2
      unfold pairL
      simp only [List.length_append, List.length_singleton]
      omega)
    rw [List.length_map] at h1 ⊢
    have := hs.1
    show _ + ps.length * 1 ≤ _
    omega
abbrev N_l_line : List Str := ["_law_leaves", "_law_pairs_here"]
theorem sc_l_line : FnScope N_l_line ["_law_leaves"] (defScope s_l_line) := ⟨rfl, rfl, rfl, by decide +kernel, rfl, by decide +kernel, by decide +kernel⟩
-- slots: 0 _law_leaves, 1 _law_pairs_here
def sp_l_line (K : PySem.W.Frag) : Sp := pureSp (fun (ls : List (List Pair)) M vs H => ∃ v, vs = [v] ∧ ls.length ≤ 50 ∧ (∀ ps ∈ ls, shortP 100 ps) ∧ (lstP (lstP (pairSP K)) ls).P M v H) (fun ls => is (sv (lineL ls)))
theorem joinL_len (sep : Codes) : ∀ (ls : List Codes), (TL.joinL sep ls).length ≤ (ls.map (·.length)).sum + ls.length * sep.length
  | [] => by simp [TL.joinL]
  | [x] => by rw [joinL_one]; simp
  | x :: y :: r => by
    have := joinL_len sep (y :: r)
    rw [joinL_cons2]
    simp only [List.length_append, List.map_cons, List.sum_cons, List.length_cons, Nat.add_mul, Nat.one_mul] at this ⊢
    omega
theorem leafLine_len {ps : List Pair} {b : Nat} (hs : shortP b ps) : (leafLine ps).length ≤ ps.length * (22 + 2 * b) := by
  have h0 := joinL_len [43] (ps.map pairL)
  have h1 := sum_le (fun x : Codes => x.length) (21 + 2 * b) (ps.map pairL) (fun x hx => by
    obtain ⟨a, ham, rfl⟩ := List.mem_map.mp hx
    have hl1 := hs.2 a ham
    have hl2 := escL_len a.2
    unfold pairL
    simp only [List.length_append, List.length_singleton]
    omega)
  rw [List.length_map] at h0 h1
  have e : ps.length * (22 + 2 * b) = ps.length * (21 + 2 * b) + ps.length := by rw [show 22 + 2 * b = (21 + 2 * b) + 1 by omega, Nat.mul_add, Nat.mul_one]
  unfold leafLine
  rw [e]
  simp only [List.length_singleton, Nat.mul_one] at h0
  omega
theorem c_l_line (T : Tx K mg) : Cal P w K mg base 3 "_law_line" ["_law_leaves"] (sp_l_line K) := by
  have C_l_leaf_line := c_l_leaf_line (P := P) (w := w) (base := base) T
  refine T.d_l_line.cal sc_l_line (fun vs H Q E h => ?_) (fun _ _ _ _ _ _ us hl => match us, hl with | [_], _ => rfl) (fun f cdv A outer s H vs Q E hr h => ?_)
  · obtain ⟨R, n, ps, _, ⟨v, rfl, _⟩, _⟩ := h
    rfl
  · obtain ⟨R, n, ls, hj, ⟨v, rfl, hn, hs, hv⟩, q⟩ := h
    refine ⟨_, (pss_one (ps_ret (pe_bmK (K := K) PySem.F.plainAttrs_str PySem.F.slot_str_join PySem.F.type_str_join (mt_joinA (K := K)) pe_str (pa_cons (pe_lc (own := [("_law_pairs_here", 1)]) (by rfl) sc_l_line.nd (pi_any (K := K) (pv 0)) (blkOk_by (own := [("_law_pairs_here", 1)]) (N := N_l_line) (sc := defScope s_l_line) (by decide +kernel)) (fun _ _ _ _ _ => (pg_name (i := 1) sc_l_line.nd rfl (by first | exact Or.inl rfl | exact Or.inr rfl))) (fun _ _ _ _ _ => pts_nil) (fun _ _ _ _ _ => (pe_callC C_l_leaf_line (hr.mono (by decide)) (by rfl) (pa_cons (pv 1) pa_nil)))) pa_nil)))), ?_⟩
    refine StF.run (R := R) (n := n) ?_ hj
    refine s_ret (m := n) (p := is (sv (lineL ls))) ?_ q
    have hit := it_lstP (K := K) (R := R) (n := n) (H := H) (σ := start N_l_line [v]) (te := tVar 0) (ev_varP (p := lstP (lstP (pairSP K)) ls) rfl hv)
    have hlc := ev_lcQ (te := tCall (sp_l_leaf_line K) [] E0 (tCons (tVar 1) tNil)) (vs := [1]) (j := 1) (fun ps => sv (leafLine ps)) [] hit (by omega) (fun x => rfl) (fun R' H' a x ex ham hx => ev_pure (post := fun ps => is (sv (leafLine ps))) a (ea_cons (ev_varP (p := lstP (pairSP K) a) rfl hx) ea_nil) fun vs H1 _ hv => by
      obtain ⟨v, rfl, hv1⟩ := one hv
      exact ⟨v, rfl, hs a ham, hv1⟩)
    refine ev_joinV (ls := ls.map leafLine) (ev_str (by decide +kernel)) (ev_is2 hlc (by rw [List.map_map]; rfl)) ?_
    have h1 := sum_le (fun x : Codes => x.length) 2220 (ls.map leafLine) (fun x hx => by
      obtain ⟨a, ham, rfl⟩ := List.mem_map.mp hx
      have h2 := leafLine_len (hs a ham)
      have h3 := (hs a ham).1
      omega)
    rw [List.length_map] at h1 ⊢
    show _ + ls.length * 1 ≤ _
    omega

end
end My
namespace My
open PySem PySem.Spec PyProof.Rows L2
section
variable {P : Program} {w : World} {K : PySem.W.Frag} {mg : Str → Option Value} {base : Heap}
/-! ### tools of laws -/
theorem HasSrc.at {R : Rel} {a l : Addr} {xs : List V} (s : HasSrc R a) (hm : ¬ R.M l) : HasSrc (R.at l xs) a := by
  refine ⟨.inl s.m, fun n H j => s.get n H j.1, fun n m H o j hm' h => ⟨s.put n m H o j.1 hm' h, ?_⟩⟩
  have ne : l ≠ a := fun e => hm (by rw [e]; exact s.m)
  rw [upd_ne ne]
  exact j.2
theorem HasSrc.off {R : Rel} {a l : Addr} (s : HasSrc R a) (hm : ¬ R.M l) : HasSrc (R.off l) a := by
  refine ⟨.inl s.m, fun n H j => s.get n H j.1, fun n m H o j hm' h => ⟨s.put n m H o j.1 hm' h, ?_⟩⟩
  have ne : l ≠ a := fun e => hm (by rw [e]; exact s.m)
  obtain ⟨xs, hx⟩ := j.2
  exact ⟨xs, by rw [upd_ne ne]; exact hx⟩
/-- a def that draws, its argument known only when it has come -/
theorem ev_drawX {α : Type} {cost : α → Nat} {args : α → Addr → (Addr → Prop) → List V → Hp → Prop} {post : α → SP} {R : Rel} {n m k : Nat} {a : Addr} {tar : TA} {ps : List SP} {σ : L2.St} {H : Hp} {s : SP} (hs : HasSrc R a) (h : EvA R n m tar σ H ps)
    (ha : ∀ vs H1, R.ok m H H1 → Paired (fun v (p : SP) => p.P R.M v H1) vs ps → ∃ x, k + cost x ≤ m ∧ args x a R.M vs H1 ∧ ∀ v H', (post x).P R.M v H' → s.P R.M v H') : EvP R n k (tCall (drawSp cost args post) [] E0 tar) σ H s :=
  ev_call h fun vs H1 e hv Q f => by
    obtain ⟨x, h1, h2, h3⟩ := ha vs H1 e hv
    exact ⟨R, a, k, x, hs, R.dec e.1 h1, h2, fun v H' e' h' => f v H' e' (h3 v H' h')⟩
/-- texts by a property, one behind another -/
theorem paired_tx {M : Addr → Prop} {H : Hp} {α : Type} {F : Codes → Prop} : ∀ {xs : List V} {ys : List α}, Paired (fun v _ => (tx F).P M v H) xs ys → ∃ ls : List Codes, xs = ls.map sv ∧ ls.length = ys.length ∧ ∀ s ∈ ls, F s
  | _, _, .nil => ⟨[], rfl, rfl, fun s h => by cases h⟩
  | _, _, .cons a b => by
    obtain ⟨ls, rfl, hl, hF⟩ := paired_tx b
    obtain ⟨s, rfl, hs⟩ := a
    refine ⟨s :: ls, rfl, by rw [List.length_cons, List.length_cons, hl], fun t ht => ?_⟩
    rcases List.mem_cons.mp ht with rfl | ht
    · exact hs
    · exact hF t ht
theorem joinL_flat : ∀ ls : List Codes, TL.joinL [] ls = ls.flatten
  | [] => rfl
  | [x] => by rw [joinL_one]; simp
  | x :: y :: r => by rw [joinL_cons2, List.append_nil, joinL_flat (y :: r)]; rfl
/-- all these sources -/
def allR (ps : List Addr) : Rel where
  M := (· ∈ ps)
  J := fun n H => ∀ p ∈ ps, srcJ p n H
  alive := by
    intro n H b j m
    obtain ⟨c, k, d, h, _⟩ := j b m
    rw [h]
    exact fun z => nomatch z
  loc := by
    intro n H H' j e p hp
    obtain ⟨c, k, d, h, r⟩ := j p hp
    exact ⟨c, k, d, (e p hp).trans h, r⟩
  dec := by
    intro n m H j h p hp
    obtain ⟨c, k, d, e, r1, r2⟩ := j p hp
    exact ⟨c, k, d, e, r1, by omega⟩
theorem allSrc {ps : List Addr} {a : Addr} (h : a ∈ ps) : HasSrc (allR ps) a := by
  refine ⟨h, fun n H j => j a h, fun n m H o j hm hs p hp => ?_⟩
  by_cases e : p = a
  · rw [e]
    exact hs
  · obtain ⟨c, k, d, h1, r1, r2⟩ := j p hp
    exact ⟨c, k, d, by rw [upd_ne e]; exact h1, r1, by omega⟩
/-- what _law_rounds leaves -/
theorem srcs_of {H : Hp} {α : Type} : ∀ {xs : List V} {ys : List α}, Paired (fun v _ => (lstG isSrc3).P exR.M v H) xs ys → ∃ ps : List Addr, xs = ps.map V.ref ∧ ps.length = ys.length ∧ ∀ p ∈ ps, ∃ c k d : Int, H p = some (.lst [.int c, .int k, .int d]) ∧ 0 ≤ k ∧ k ≤ 300
  | _, _, .nil => ⟨[], rfl, rfl, fun s h => by cases h⟩
  | _, _, .cons a b => by
    obtain ⟨ps, rfl, hl, hF⟩ := srcs_of b
    obtain ⟨p, ys, rfl, hp, c, k, d, rfl, h0, h1⟩ := a
    refine ⟨p :: ps, rfl, by rw [List.length_cons, List.length_cons, hl], fun t ht => ?_⟩
    rcases List.mem_cons.mp ht with rfl | ht
    · exact ⟨c, k, d, hp.1, h0, h1⟩
    · exact hF t ht
theorem allR_start {H : Hp} {ps : List Addr} {n : Nat} (h : ∀ p ∈ ps, ∃ c k d : Int, H p = some (.lst [.int c, .int k, .int d]) ∧ 0 ≤ k ∧ k ≤ 300) (hn : n ≤ 1000000000) : (allR ps).J n H := fun p hp => by
  obtain ⟨c, k, d, e, r1, r2⟩ := h p hp
  exact ⟨c, k, d, e, r1, by omega⟩
/-- the list of the sources is none of them -/
theorem src_not {H : Hp} {ps : List Addr} {L : Addr} (hL : H L = some (.lst (ps.map V.ref))) (h : ∀ p ∈ ps, ∃ c k d : Int, H p = some (.lst [.int c, .int k, .int d]) ∧ 0 ≤ k ∧ k ≤ 300) : ¬ (allR ps).M L := fun hm => by
  obtain ⟨c, k, d, e, _⟩ := h L hm
  rw [hL] at e
  cases ps with
  | nil => cases hm
  | cons p ps => cases e
/-- over a tuple that is told by its properties -/
theorem it_tupP {R : Rel} {n m : Nat} {te : TE} {σ : L2.St} {H : Hp} {α : Type} {pe : α → SP} {ys : List α} (ha : EvP R n m te σ H (tupP K pe ys)) : ItP R n m (iAny K te) σ H (ys.map pe) := fun H1 e Rk k => .inr (.inl (ha H1 e _ fun v H2 e2 hv => by
  obtain ⟨l, xs, rfl, h2, hp⟩ := hv
  have hlen : xs.length = ys.length := hp.length
  refine ⟨l, rfl, ⟨xs, h2.sq⟩, k _ H2 e2 ⟨fun M' i H' e' hi => ?_, fun M' i H' x H'' e' _ hi hy => ?_, fun M' H' e' => ?_⟩⟩
  · rw [List.length_map, ← hlen] at hi
    exact ⟨xs, _, ((h2.lift e'.w).st e'.pr).sq, List.getElem?_eq_getElem hi⟩
  · obtain ⟨rfl, f⟩ := hy
    refine ⟨Evl.Ex.refl _, fun y hy => ?_⟩
    have q := f _ ((h2.lift e'.w).st e'.pr).sq
    rw [List.getElem?_map] at hy
    obtain ⟨w, hw, rfl⟩ := Option.map_eq_some_iff.mp hy
    exact e'.get (paired_at (F := fun v y => (pe y).P R.M v H2) hp q hw)
  · exact ⟨xs, ((h2.lift e'.w).st e'.pr).sq, by rw [List.length_map, ← hlen]; exact Nat.le_refl _⟩))
/-- the law's promise -/
def sp_law (K : PySem.W.Frag) : Sp := fun vs H Q _ => ∃ (a : Addr) (ns : List Int), vs = [.ref a] ∧ SqL K H a (ns.map V.int) ∧ ns.length ≤ 63 ∧ ∀ H', Q (.bl true) H'
/-- isinstance(x, bool) of a bool -/
theorem ev_isBool {R : Rel} {n m k : Nat} {ta tb : TE} {σ : L2.St} {H : Hp} {b : Bool} (ha : EvP R n m ta σ H (is (.bl b))) (hb : EvP R m k tb σ H (is (.ty "bool"))) : EvP R n k (tCB (rIsi K) (tCons ta (tCons tb tNil))) σ H (is (.bl true)) :=
  ev_isi ha hb (.ty "bool") (fun v H1 _ hv => by
    have hv : v = .bl b := hv
    subst hv
    exact .base (.bl b)) (kit_ty (by decide +kernel))
/-! ### a list of texts that grows by one a turn -/
def GrowP (R : Rel) (l : Addr) (c d N len0 : Nat) (Pt : Codes → Prop) (Iv : Nat → L2.St → Prop) (B : Hp) (i : Nat) (σ' : L2.St) (H' : Hp) : Prop :=
  (R.off l).ok (c + (N - i) * d) B H' ∧ ∃ ls : List Codes, H' l = some (.lst (ls.map sv)) ∧ ls.length = len0 + i ∧ (∀ s ∈ ls, Pt s) ∧ Iv i σ'
theorem s_grow {R : Rel} {n : Nat} {wi : TI} {vs : List V} {j l : Addr} {σ : L2.St} {H : Hp} {D : Ends} {tu : TS} {ls0 : List Codes} {Pt : Codes → Prop} (c d : Nat) (hP : ∀ s ∈ ls0, Pt s) (hi : ItP (R.at l (ls0.map sv)) n (c + vs.length * d) wi σ H (vs.map is)) (Iv : Nat → L2.St → Prop) (h0 : Iv 0 σ)
    (hs : ∀ B i w σ' H' (ls : List Codes), (R.off l).ok (c + (vs.length - i) * d) B H' → vs[i]? = some w → Iv i σ' → H' l = some (.lst (ls.map sv)) → ls.length = ls0.length + i → (∀ s ∈ ls, Pt s) → StF (R.at l (ls.map sv)) (c + (vs.length - i) * d) tu { D with nx := GrowP R l c d vs.length ls0.length Pt Iv B (i + 1), ct := GrowP R l c d vs.length ls0.length Pt Iv B (i + 1), bk := D.nx } (σ'.set j (some w)) H')
    (hd : ∀ σ' H' (ls : List Codes), (R.off l).ok c H H' → Iv vs.length σ' → H' l = some (.lst (ls.map sv)) → ls.length = ls0.length + vs.length → (∀ s ∈ ls, Pt s) → D.nx σ' H') : StF (R.at l (ls0.map sv)) n (tFor wi (gName j) tu) D σ H := by
  refine s_for2 (R := R.off l) (R1 := R.at l (ls0.map sv)) (c := fun i => c + (vs.length - i) * d) (fun _ m => m) hi (GrowP R l c d vs.length ls0.length Pt Iv) (fun B i σ' H' h => h.1) (fun B e => ⟨⟨⟨e.1.1, _, e.1.2⟩, pres.refl B⟩, ls0, e.1.2, rfl, hP, h0⟩) (fun B i y σ' H' x H'' eb hy hG hx hyx => ?_) (fun B σ' H' eb hG => ?_)
  · obtain ⟨er, ls, h1, h2, h3, h4⟩ := hG
    rw [List.getElem?_map] at hy
    obtain ⟨w, hw, rfl⟩ := Option.map_eq_some_iff.mp hy
    have hyx : x = w := hyx
    subst hyx
    have er2 := (R.off l).trans er ((R.off l).ex er.1 hx)
    have h1' := hx l _ h1
    exact (hs B i x σ' H'' ls er2 hw h4 h1' h2 h3).run ⟨er2.1.1, h1'⟩
  · obtain ⟨er, ls, h1, h2, h3, h4⟩ := hG
    rw [List.length_map] at er h2 h4
    rw [Nat.sub_self, Nat.zero_mul, Nat.add_zero] at er
    exact hd σ' H' ls ⟨er.1, eb.2.trans er.2⟩ h4 h1 h2 h3
theorem grow_end {R : Rel} {l : Addr} {c d N len0 i k : Nat} {Pt : Codes → Prop} {Iv : Nat → L2.St → Prop} {B H' H3 : Hp} {σ2 : L2.St} {ls : List Codes} {s : Codes} (er : (R.off l).ok k B H') (e3 : (R.at l (ls.map sv)).ok (c + (N - (i + 1)) * d) H' H3) (hm : ¬ R.M l) (hlen : ls.length = len0 + i) (hP : ∀ s ∈ ls, Pt s) (hs : Pt s) (hI : Iv (i + 1) σ2) :
    GrowP R l c d N len0 Pt Iv B (i + 1) σ2 (upd H3 l (.lst (ls.map sv ++ [sv s]))) := by
  refine ⟨app_off er e3 hm, ls ++ [s], by rw [upd_same, List.map_append]; rfl, by rw [List.length_append, hlen]; rfl, fun t ht => ?_, hI⟩
  rcases List.mem_append.mp ht with ht | ht
  · exact hP t ht
  · rw [List.mem_singleton.mp ht]
    exact hs

end
end My
namespace My
open PySem PySem.Spec PyProof.Rows L2
section
variable {P : Program} {w : World} {K : PySem.W.Frag} {mg : Str → Option Value} {base : Heap}
/-! ### _law_long -/
theorem asc_app {a b : Codes} (ha : asc a) (hb : asc b) : asc (a ++ b) := by
  unfold asc at *
  rw [List.all_append, ha, hb]
  rfl
theorem asc_rep {c : Nat} (k : Nat) (h : asc [c]) : asc (List.replicate k c) := asc_sub (fun x hx => by rw [List.eq_of_mem_replicate hx]; exact List.mem_singleton.mpr rfl) h
abbrev N_l_long : List Str := ["_law_source_here", "_law_many", "_law_sign"]
theorem sc_l_long : FnScope N_l_long ["_law_source_here"] (defScope s_l_long) := ⟨rfl, rfl, rfl, by decide +kernel, rfl, by decide +kernel, by decide +kernel⟩
-- slots: 0 _law_source_here, 1 _law_many, 2 _law_sign
def sp_l_long : Sp := drawSp (fun (_ : Unit) => 3) (fun _ a _ vs _ => vs = [.ref a]) (fun _ => tx fun s => asc s ∧ s.length ≤ 70)
theorem ev_min2 {R : Rel} {n m k : Nat} {σ : L2.St} {H : Hp} {ta tb : TE} {i j : Int} (ha : EvP R n m ta σ H (is (.int i))) (hb : EvP R m k tb σ H (is (.int j))) : EvP R n k (tCB (fun xs H Q => ∃ i j, xs = [V.int i, .int j] ∧ Q (.int (if j < i then j else i)) H) (tCons ta (tCons tb tNil))) σ H (is (.int (if j < i then j else i))) :=
  ev_cb (ea_cons ha (ea_cons hb ea_nil)) fun vs H1 e hv => by
    obtain ⟨v, w, rfl, h1, h2⟩ := two hv
    have h1 : v = .int i := h1
    have h2 : w = .int j := h2
    subst h1; subst h2
    exact rc_now fun _ q => ⟨i, j, rfl, q⟩
theorem c_l_long (T : Tx K mg) : Cal P w K mg base 3 "_law_long" ["_law_source_here"] (sp_l_long) := by
  have C_l_pick := c_l_pick (P := P) (w := w) (base := base) T
  refine T.d_l_long.cal sc_l_long (fun vs H Q E h => ?_) (fun _ _ _ _ _ _ us hl => match us, hl with | [_], _ => rfl) (fun f cdv A outer s H vs Q E hr h => ?_)
  · obtain ⟨R, a, n, x, _, _, rfl, _⟩ := h
    rfl
  · obtain ⟨R, a, n, _, hs, hj, rfl, q⟩ := h
    refine ⟨_, (pss_cons (ps_set (i := 1) sc_l_long.nd rfl (by first | exact Or.inl rfl | exact Or.inr rfl) (pe_callC C_l_pick (hr.mono (by decide)) (by rfl) (pa_cons (pv 0) (pa_cons (pe_lst (pa_cons pe_int (pa_cons pe_int (pa_cons pe_int (pa_cons pe_int (pa_cons pe_int (pa_cons pe_int (pa_cons pe_int (pa_cons pe_int pa_nil))))))))) pa_nil))))
      (pss_cons (ps_set (i := 2) sc_l_long.nd rfl (by first | exact Or.inl rfl | exact Or.inr rfl) (pe_callC C_l_pick (hr.mono (by decide)) (by rfl) (pa_cons (pv 0) (pa_cons (pe_lst (pa_cons pe_str (pa_cons pe_str (pa_cons pe_str (pa_cons pe_str pa_nil))))) pa_nil))))
      (pss_one (ps_ret (pe_op (op_Add (K := K)) (pe_op op_Mult (pv 2) (pe_callB (call_max2 (by rfl)) (by rfl) T.b_max (by decide +kernel) (pa_cons pe_int (pa_cons (pe_op op_sub (pv 1) pe_int) pa_nil)))) (pe_op op_Mult (pe_callC C_l_pick (hr.mono (by decide)) (by rfl) (pa_cons (pv 0) (pa_cons (pe_lst (pa_cons (pv 2) (pa_cons pe_str (pa_cons pe_str (pa_cons pe_str pa_nil))))) pa_nil))) (pe_callB (call_min2 (by rfl)) (by rfl) T.b_min (by decide +kernel) (pa_cons pe_int (pa_cons (pv 1) pa_nil))))))))), ?_⟩
    refine StF.run (R := R) (n := n + 3) ?_ hj
    refine q_asgG (m := n + 2) (G := fun v => ∃ i, v = .int i ∧ 0 ≤ i ∧ i ≤ 63) ((ev_pickL (m := n + 2) (F := (· = [V.int 59, .int 60, .int 61, .int 62, .int 63, .int 60, .int 0, .int 1])) hs (ev_var rfl) (ev_lstV (vs := [V.int 59, .int 60, .int 61, .int 62, .int 63, .int 60, .int 0, .int 1]) (ea_cons ev_c (ea_cons ev_c (ea_cons ev_c (ea_cons ev_c (ea_cons ev_c (ea_cons ev_c (ea_cons ev_c (ea_cons ev_c ea_nil)))))))) (by decide)) (fun xs hx => by subst hx; decide)).imp fun v H1 _ hv => ?_) fun v hv => ?_
    · obtain ⟨xs, rfl, hm⟩ := hv
      simp only [List.mem_cons, List.not_mem_nil, or_false] at hm
      rcases hm with rfl | rfl | rfl | rfl | rfl | rfl | rfl | rfl <;> exact ⟨_, rfl, by decide, by decide⟩
    obtain ⟨many, rfl, hm0, hm1⟩ := hv
    refine q_asgG (m := n + 1) (G := fun v => ∃ c, v = sv [c] ∧ asc [c]) ((ev_pickL (m := n + 1) (F := (· = [sv [97], sv [32], sv [126], sv [66]])) hs (ev_var rfl) (ev_lstV (vs := [sv [97], sv [32], sv [126], sv [66]]) (ea_cons (ev_str (by decide +kernel)) (ea_cons (ev_str (by decide +kernel)) (ea_cons (ev_str (by decide +kernel)) (ea_cons (ev_str (by decide +kernel)) ea_nil)))) (by show 4 ≤ 100000; decide)) (fun xs hx => by subst hx; exact ⟨by simp, by simp⟩)).imp fun v H1 _ hv => ?_) fun v hv => ?_
    · obtain ⟨xs, rfl, hm⟩ := hv
      simp only [List.mem_cons, List.not_mem_nil, or_false] at hm
      rcases hm with rfl | rfl | rfl | rfl <;> exact ⟨_, rfl, by rfl⟩
    obtain ⟨c, rfl, hc⟩ := hv
    refine s_ret (m := n) (p := tx fun s => asc s ∧ s.length ≤ 70) ?_ q
    refine (ev_addT (m := n + 1) (F := fun s => asc s ∧ s.length ≤ 63) (G := fun s => asc s ∧ s.length ≤ 1) (EvP.tx (ev_op2 (m := n + 1) (ev_var rfl) (ev_max2 (m := n + 1) ev_c (ev_op2 (m := n + 1) (ev_var rfl) ev_c fun H3 _ => rv_subI)) fun H3 _ => rv_mulS (by split <;> omega) (by split <;> omega)) ⟨asc_rep _ hc, by rw [List.length_replicate]; split <;> omega⟩) ?_ (fun x y hx hy => by omega)).txImp fun u hu => ?_
    · refine ev_op (m := n) (p := sat fun v => ∃ d, v = sv [d] ∧ asc [d]) (q := is (.int (if many < 1 then many else 1))) ?_ (ev_min2 (m := n) ev_c (ev_var rfl)) fun x y H3 e3 hx hy nn jj Q f2 => ?_
      · refine (ev_pickL (m := n) (F := (· = [sv [c], sv [120], sv [10], sv [32]])) hs (ev_var rfl) (ev_lstV (vs := [sv [c], sv [120], sv [10], sv [32]]) (ea_cons (ev_var rfl) (ea_cons (ev_str (by decide +kernel)) (ea_cons (ev_str (by decide +kernel)) (ea_cons (ev_str (by decide +kernel)) ea_nil)))) (by show 4 ≤ 100000; decide)) (fun xs hx => by subst hx; exact ⟨by simp, by simp⟩)).imp fun v H1 _ hv => ?_
        obtain ⟨xs, rfl, hm⟩ := hv
        simp only [List.mem_cons, List.not_mem_nil, or_false] at hm
        rcases hm with rfl | rfl | rfl | rfl
        · exact ⟨_, rfl, hc⟩
        all_goals exact ⟨_, rfl, by rfl⟩
      · obtain ⟨d, rfl, hd⟩ := hx
        have hy : y = .int (if many < 1 then many else 1) := hy
        subst hy
        exact rv_mulS (R := R) (H := H3) (c := d) (by split <;> omega) (by split <;> omega) nn jj Q fun z H4 e4 hz => f2 z H4 e4 ⟨_, hz, asc_rep _ hd, by rw [List.length_replicate]; split <;> omega⟩
    · obtain ⟨x, y, ⟨h1, h2⟩, ⟨h3, h4⟩, rfl⟩ := hu
      exact ⟨asc_app h1 h3, by rw [List.length_append]; omega⟩
/-! ### _law_digits -/
abbrev N_l_digits : List Str := ["_law_source_here", "_law_many", "_law_found", "_law_turn", "_law_at"]
theorem sc_l_digits : FnScope N_l_digits ["_law_source_here"] (defScope s_l_digits) := ⟨rfl, rfl, rfl, by decide +kernel, rfl, by decide +kernel, by decide +kernel⟩
-- slots: 0 _law_source_here, 1 _law_many, 2 _law_found, 3 _law_turn, 4 _law_at
def sp_l_digits : Sp := drawSp (fun (_ : Unit) => 36) (fun _ a _ vs _ => vs = [.ref a]) (fun _ => tx fun s => asc s ∧ s.length ≤ 70)
def digs6 : Codes := cs " -a_.0"
theorem digs6_ok : 0 < digs6.length ∧ digs6.length ≤ 100000 ∧ ∀ c ∈ digs6, c < 128 := by decide +kernel
theorem digL_ok : 0 < digL.length ∧ digL.length ≤ 100000 ∧ ∀ c ∈ digL, c < 128 := by decide +kernel
theorem asc_one {c : Nat} (h : c < 128) : asc [c] := by
  unfold asc
  rw [List.all_cons, List.all_nil, decide_eq_true h]
  rfl
theorem asc_take {l : Codes} {i : Nat} (h : asc l) : asc (l.take i) := asc_sub (fun _ hc => List.mem_of_mem_take hc) h
theorem asc_drop {l : Codes} {i : Nat} (h : asc l) : asc (l.drop i) := asc_sub (fun _ hc => List.mem_of_mem_drop hc) h
theorem ones_flat : ∀ ls : List Codes, (∀ s ∈ ls, ∃ c, s = [c] ∧ c < 128) → asc ls.flatten ∧ ls.flatten.length = ls.length ∧ (ls.map (·.length)).sum = ls.length := by
  intro ls
  induction ls with
  | nil => exact fun _ => ⟨rfl, rfl, rfl⟩
  | cons x r ih =>
    intro h
    obtain ⟨c, rfl, hc⟩ := h x (List.mem_cons_self ..)
    obtain ⟨i1, i2, i3⟩ := ih fun s hs => h s (List.mem_cons_of_mem _ hs)
    refine ⟨?_, ?_, ?_⟩
    · rw [List.flatten_cons]
      exact asc_app (asc_one hc) i1
    · rw [List.flatten_cons, List.length_append, i2]
      simp only [List.length_cons, List.length_nil]
      omega
    · rw [List.map_cons, List.sum_cons, i3]
      simp only [List.length_cons, List.length_nil]
      omega
theorem c_l_digits (T : Tx K mg) : Cal P w K mg base 3 "_law_digits" ["_law_source_here"] (sp_l_digits) := by
  have C_l_pick := c_l_pick (P := P) (w := w) (base := base) T
  have C_l_next := c_l_next (P := P) (w := w) (base := base) T
  refine T.d_l_digits.cal sc_l_digits (fun vs H Q E h => ?_) (fun _ _ _ _ _ _ us hl => match us, hl with | [_], _ => rfl) (fun f cdv A outer s H vs Q E hr h => ?_)
  · obtain ⟨R, a, n, x, _, _, rfl, _⟩ := h
    rfl
  · obtain ⟨R, a, n, _, hs, hj, rfl, q⟩ := h
    refine ⟨_, (pss_cons (ps_set (i := 1) sc_l_digits.nd rfl (by first | exact Or.inl rfl | exact Or.inr rfl) (pe_callC C_l_pick (hr.mono (by decide)) (by rfl) (pa_cons (pv 0) (pa_cons (pe_lst (pa_cons pe_int (pa_cons pe_int (pa_cons pe_int (pa_cons pe_int (pa_cons pe_int (pa_cons pe_int (pa_cons pe_int pa_nil)))))))) pa_nil))))
      (pss_cons (ps_set (i := 2) sc_l_digits.nd rfl (by first | exact Or.inl rfl | exact Or.inr rfl) (pe_bmK (K := K) PySem.F.plainAttrs_str PySem.F.slot_str_join PySem.F.type_str_join (mt_joinA (K := K)) pe_str (pa_cons (pe_lc (own := [("_law_turn", 3)]) (by rfl) sc_l_digits.nd (pi_range1 (by rfl) T.b_range (pa_cons (pv 1) pa_nil)) (blkOk_by (own := [("_law_turn", 3)]) (N := N_l_digits) (sc := defScope s_l_digits) (by decide +kernel)) (fun _ _ _ _ _ => (pg_name (i := 3) sc_l_digits.nd rfl (by first | exact Or.inl rfl | exact Or.inr rfl))) (fun _ _ _ _ _ => pts_nil) (fun _ _ _ _ _ => (pe_callC C_l_pick (hr.mono (by decide)) (by rfl) (pa_cons (pv 0) (pa_cons pe_str pa_nil))))) pa_nil)))
      (pss_cons (ps_set (i := 2) sc_l_digits.nd rfl (by first | exact Or.inl rfl | exact Or.inr rfl) (pe_op (op_Add (K := K)) (pe_callC C_l_pick (hr.mono (by decide)) (by rfl) (pa_cons (pv 0) (pa_cons (pe_lst (pa_cons pe_str (pa_cons pe_str (pa_cons pe_str (pa_cons pe_str (pa_cons pe_str (pa_cons pe_str (pa_cons pe_str pa_nil)))))))) pa_nil))) (pv 2)))
      (pss_cons (ps_set (i := 4) sc_l_digits.nd rfl (by first | exact Or.inl rfl | exact Or.inr rfl) (pe_callC C_l_next (hr.mono (by decide)) (by rfl) (pa_cons (pv 0) (pa_cons (pe_op (op_Add (K := K)) (pe_callB (call_lenA (K := K)) (by rfl) T.b_len (by decide +kernel) (pa_cons (pv 2) pa_nil)) pe_int) pa_nil))))
      (pss_cons (ps_if (pt_cmpR cm_Gt (pe_callC C_l_next (hr.mono (by decide)) (by rfl) (pa_cons (pv 0) (pa_cons pe_int pa_nil))) pe_int (nomark _)) (pss_one (ps_ret (pv 2))) pss_nil)
      (pss_one (ps_ret (pe_op (op_Add (K := K)) (pe_op (op_Add (K := K)) (pe_slice (sl_any (K := K)) (pv 2) po_none (po_some (pv 4))) (pe_callC C_l_pick (hr.mono (by decide)) (by rfl) (pa_cons (pv 0) (pa_cons pe_str pa_nil)))) (pe_slice (sl_any (K := K)) (pv 2) (po_some (pv 4)) po_none))))))))), ?_⟩
    refine StF.run (R := R) (n := n + 36) ?_ hj
    refine q_asgG (m := n + 35) (G := fun v => ∃ i, v = .int i ∧ 0 ≤ i ∧ i ≤ 31) ((ev_pickL (m := n + 35) (F := (· = [V.int 1, .int 2, .int 3, .int 29, .int 30, .int 31, .int 0])) hs (ev_var rfl) (ev_lstV (vs := [V.int 1, .int 2, .int 3, .int 29, .int 30, .int 31, .int 0]) (ea_cons ev_c (ea_cons ev_c (ea_cons ev_c (ea_cons ev_c (ea_cons ev_c (ea_cons ev_c (ea_cons ev_c ea_nil))))))) (by decide)) (fun xs hx => by subst hx; decide)).imp fun v H1 _ hv => ?_) fun v hv => ?_
    · obtain ⟨xs, rfl, hm⟩ := hv
      simp only [List.mem_cons, List.not_mem_nil, or_false] at hm
      rcases hm with rfl | rfl | rfl | rfl | rfl | rfl | rfl <;> exact ⟨_, rfl, by decide, by decide⟩
    obtain ⟨many, rfl, hm0, hm1⟩ := hv
    refine q_asgG (m := n + 4) (G := fun v => ∃ s, v = sv s ∧ asc s ∧ s.length ≤ 31) ?_ fun v hv => ?_
    · refine (ev_join (a := []) (m := n + 35) (G := fun ls : List Codes => ls.length ≤ 31 ∧ ∀ s ∈ ls, ∃ c, s = [c] ∧ c < 128) (ev_str (by decide +kernel)) ?_ (fun ls hls => ?_)).imp fun v H2 _ hv => ?_
      · have hlen : many.toNat ≤ 31 := by omega
        have hcred : n + 35 = n + 4 + (31 - many.toNat) + many.toNat * 1 := by omega
        have hR := it_range1 (R := R) (n := n + 35) (m := n + 35) (σ := [some (.ref a), some (.int many), none, none, none]) (H := H) (ta := tVar 1) (iv := many) (ev_var rfl) (by omega)
        have hlc := ev_lcP (R := R) (H := H) (te := tCall sp_l_pick [] E0 (tCons (tVar 0) (tCons (tC (.str "0123456789")) tNil))) (vs := [3]) (j := 3) (as := List.range many.toNat) (mv := fun (i : Nat) => .int (i : Int)) (m := n + 4 + (31 - many.toNat)) (n := n + 35) (σ := [some (.ref a), some (.int many), none, none, none]) 1 (fun _ : Nat => tx fun s => ∃ c, s = [c] ∧ c < 128) (by rw [List.length_range, ← hcred]; exact hR) (by rw [List.length_range]; omega) (fun x => rfl) fun R' H' i k ex hi => ?_
        · refine (hlc.fewer (by omega)).imp fun v H2 _ hv => ?_
          obtain ⟨p, xs, rfl, hp, g⟩ := hv
          obtain ⟨ls, rfl, h1, h2⟩ := paired_tx g
          rw [List.length_range] at h1
          exact ⟨p, _, rfl, hp, ls, rfl, by omega, h2⟩
        · exact (ev_pickS (l := digL) (hs.ext ex) (ev_var (v := .ref a) rfl) (ev_str (SX.S_tl _).symm) digL_ok.1 digL_ok.2.1).imp fun v H2 _ hv => by
            obtain ⟨c, rfl, hc⟩ := hv
            exact ⟨[c], rfl, c, rfl, digL_ok.2.2 c hc⟩
      · obtain ⟨_, _, h3⟩ := ones_flat ls hls.2
        rw [h3]
        have := hls.1
        simp only [List.length_nil, Nat.mul_zero]
        omega
      · obtain ⟨ls, ⟨h1, h2⟩, rfl⟩ := hv
        obtain ⟨h3, h4, _⟩ := ones_flat ls h2
        exact ⟨_, rfl, by rw [joinL_flat]; exact h3, by rw [joinL_flat, h4]; exact h1⟩
    obtain ⟨s0, rfl, hs0, hl0⟩ := hv
    refine q_asgG (m := n + 3) (G := fun v => ∃ s, v = sv s ∧ asc s ∧ s.length ≤ 33) ?_ fun v hv => ?_
    · refine (ev_addT (m := n + 3) (F := fun s => asc s ∧ s.length ≤ 2) (G := (· = s0)) ((ev_pickL (m := n + 3) (F := (· = [sv [], sv [], sv [45], sv [48], sv [45, 48], sv [43], sv [45, 45]])) hs (ev_var rfl) (ev_lstV (vs := [sv [], sv [], sv [45], sv [48], sv [45, 48], sv [43], sv [45, 45]]) (ea_cons (ev_str (by decide +kernel)) (ea_cons (ev_str (by decide +kernel)) (ea_cons (ev_str (by decide +kernel)) (ea_cons (ev_str (by decide +kernel)) (ea_cons (ev_str (by decide +kernel)) (ea_cons (ev_str (by decide +kernel)) (ea_cons (ev_str (by decide +kernel)) ea_nil))))))) (by show 7 ≤ 100000; decide)) (fun xs hx => by subst hx; exact ⟨by simp, by simp⟩)).imp fun v H1 _ hv => ?_) (EvP.tx (ev_var rfl) rfl) (fun x y hx hy => by subst hy; omega)).txImp fun u hu => ?_
      · obtain ⟨xs, rfl, hm⟩ := hv
        simp only [List.mem_cons, List.not_mem_nil, or_false] at hm
        rcases hm with rfl | rfl | rfl | rfl | rfl | rfl | rfl <;> exact ⟨_, rfl, by rfl, by decide⟩
      · obtain ⟨x, y, ⟨h1, h2⟩, rfl, rfl⟩ := hu
        exact ⟨asc_app h1 hs0, by rw [List.length_append]; omega⟩
    obtain ⟨s1, rfl, hs1, hl1⟩ := hv
    refine q_asgG (m := n + 2) (G := fun v => ∃ i, v = .int i ∧ 0 ≤ i ∧ i < ((s1.length : Int) + 1)) (ev_next hs (ev_var rfl) (ev_op2 (m := n + 3) (ev_lenS (ev_var rfl) (by omega)) ev_c fun H3 _ => rv_addI) (by omega) (by omega)) fun v hv => ?_
    obtain ⟨at_, rfl, ha0, ha1⟩ := hv
    refine q_when (m := n + 1) (G := fun _ => True) (et_gtN (F := fun r => 0 ≤ r ∧ r < 5) (ev_next (m := n + 1) hs (ev_var rfl) ev_c (by decide) (by decide)) ev_c) (fun _ => ?_) (fun _ => ?_)
    · exact s_ret (m := n + 1) (p := tx fun s => asc s ∧ s.length ≤ 70) (EvP.tx (ev_var rfl) ⟨hs1, by omega⟩) fun v H2 e2 hv => q v H2 ⟨R.dec e2.1 (by omega), e2.2⟩ hv
    · refine s_ret (m := n) (p := tx fun s => asc s ∧ s.length ≤ 70) ?_ q
      have e1 : sl s1 none (some at_) = s1.take at_.toNat := sl_to ha0
      have e2 : sl s1 (some at_) none = s1.drop at_.toNat := sl_from ha0
      refine (ev_addT (m := n) (F := fun s => asc s ∧ s.length ≤ 34) (G := fun s => asc s ∧ s.length ≤ 33) ((ev_addT (m := n + 1) (F := (· = s1.take at_.toNat)) (G := fun s => ∃ c, s = [c] ∧ c < 128) (EvP.tx (ev_is (ev_sl (m := n + 1) (k := n + 1) (p := is (sv s1)) (ev_var rfl) eo_none (eo_some (ev_var rfl)) fun x H3 _ hx => by rw [show x = sv s1 from hx]; exact rs_S (by omega)) (by rw [e1])) rfl) ((ev_pickS (l := digs6) hs (ev_var (v := .ref a) rfl) (ev_str (SX.S_tl _).symm) digs6_ok.1 digs6_ok.2.1).imp fun v H2 _ hv => by
          obtain ⟨c, rfl, hc⟩ := hv
          exact ⟨[c], rfl, c, rfl, digs6_ok.2.2 c hc⟩) (fun x y hx hy => by
            obtain ⟨c, rfl, _⟩ := hy
            subst hx
            rw [List.length_take]
            simp only [List.length_singleton]
            omega)).txImp fun u hu => ?_) (EvP.tx (ev_is (ev_sl (m := n) (k := n) (p := is (sv s1)) (ev_var rfl) (eo_some (ev_var rfl)) eo_none fun x H3 _ hx => by rw [show x = sv s1 from hx]; exact rs_S (by omega)) (by rw [e2])) ⟨asc_drop hs1, by rw [List.length_drop]; omega⟩) (fun x y hx hy => by omega)).txImp fun u hu => ?_
      · obtain ⟨x, y, rfl, ⟨c, rfl, hc⟩, rfl⟩ := hu
        exact ⟨asc_app (asc_take hs1) (asc_one hc), by rw [List.length_append, List.length_take]; simp only [List.length_singleton]; omega⟩
      · obtain ⟨x, y, ⟨h1, h2⟩, ⟨h3, h4⟩, rfl⟩ := hu
        exact ⟨asc_app h1 h3, by rw [List.length_append]; omega⟩

end
end My
namespace My
open PySem PySem.Spec PyProof.Rows L2
section
variable {P : Program} {w : World} {K : PySem.W.Frag} {mg : Str → Option Value} {base : Heap}
/-! ### _law_menu -/
theorem ev_pickP {R : Rel} {n m : Nat} {a : Addr} {σ : L2.St} {H : Hp} {ta tb : TE} {α : Type} {pe : α → SP} {ys : List α} (hs : HasSrc R a) (ha : EvP R n n ta σ H (is (.ref a))) (hb : EvP R n (m + 1) tb σ H (lstP pe ys)) (h0 : 0 < ys.length ∧ ys.length ≤ 100000) : EvP R n m (tCall sp_l_pick [] E0 (tCons ta (tCons tb tNil))) σ H (SP.ex fun y : { y // y ∈ ys } => pe y.1) :=
  ev_call (ea_cons ha (ea_cons hb ea_nil)) fun vs H1 e hv Q f => by
    obtain ⟨v, w, rfl, hv1, p, xs, rfl, hp, g⟩ := two hv
    have hl := g.length
    refine ⟨R, a, m, .inr xs, hs, e.1, ⟨p, by rw [show v = _ from hv1], hp, by omega, by omega⟩, fun v H' e' h' => f v H' e' ?_⟩
    have h' : v ∈ xs := h'
    obtain ⟨i, hi⟩ := List.getElem?_of_mem h'
    have hlt := (List.getElem?_eq_some_iff.mp hi).1
    have hy : ys[i]? = some ys[i] := List.getElem?_eq_getElem (by omega)
    exact ⟨⟨_, List.mem_of_getElem? hy⟩, (pe _).st e'.2 (paired_at (F := fun v y => (pe y).P R.M v H1) g hi hy)⟩
theorem paired_app {α β : Type} {F : α → β → Prop} : ∀ {xs xs2 : List α} {ys ys2 : List β}, Paired F xs ys → Paired F xs2 ys2 → Paired F (xs ++ xs2) (ys ++ ys2)
  | _, _, _, _, .nil, h => h
  | _, _, _, _, .cons a b, h => .cons a (paired_app b h)
theorem ev_catP {R : Rel} {n m k : Nat} {σ : L2.St} {H : Hp} {ta tb : TE} {α : Type} {pe : α → SP} {ys zs : List α} (ha : EvP R n m ta σ H (lstP pe ys)) (hb : EvP R m k tb σ H (lstP pe zs)) (hz : ys.length + zs.length ≤ 100000) : EvP R n k (tOp (rAddU K) ta tb) σ H (lstP pe (ys ++ zs)) :=
  ev_op ha hb fun v w H1 e hv hw _ j Q f => by
    obtain ⟨l, xs, rfl, h1, g1⟩ := hv
    obtain ⟨l2, xs2, rfl, h2, g2⟩ := hw
    have e1 := g1.length
    have e2 := g2.length
    exact .inr (.inr (.inl ⟨l, l2, xs, xs2, rfl, rfl, h1.1, h2.1, Evl.sz_of (by omega), fun p hp => f _ _ (R.new j hp) ⟨p, _, rfl, ⟨upd_same, R.fresh j hp⟩, Paired_imp (fun _ _ z => (pe _).st (R.new j hp).2 z) (paired_app g1 g2)⟩⟩))
def wordsP (ws : List Codes) : SP := lstG (· = ws.map sv)
theorem paired_id {M : Addr → Prop} {H : Hp} {α : Type} {pe : α → SP} : ∀ {xs : List V} {ys : List α}, Paired (fun v (p : SP) => (id p).P M v H) xs (ys.map pe) → Paired (fun v y => (pe y).P M v H) xs ys
  | _, [], .nil => .nil
  | _, _ :: _, .cons a b => .cons a (paired_id b)
theorem ev_lstMap {R : Rel} {n m : Nat} {σ : L2.St} {H : Hp} {tar : TA} {α : Type} {pe : α → SP} {ys : List α} (h : EvA R n m tar σ H (ys.map pe)) (hl : ys.length ≤ 100000) : EvP R n m (tLst tar) σ H (lstP pe ys) :=
  (ev_lst h (by rw [List.length_map]; exact hl)).imp fun v H1 _ ⟨l, xs, e, h, g⟩ => ⟨l, xs, e, h, paired_id g⟩
abbrev N_l_menu : List Str := ["_law_source_here", "_law_some"]
theorem sc_l_menu : FnScope N_l_menu ["_law_source_here"] (defScope s_l_menu) := ⟨rfl, rfl, rfl, by decide +kernel, rfl, by decide +kernel, by decide +kernel⟩
-- slots: 0 _law_source_here, 1 _law_some
def menu1 : List Codes := [cs "cn", cs "ou", cs "o", cs "uid"]
def menu2 : List Codes := [cs "a", cs "b", cs "ab", cs "ba"]
def menu3 : List Codes := [cs "selfa", cs "abcdefghijkl", cs "name", cs "c", cs "dup"]
def menu4 : List Codes := [cs "kind", cs "ref", cs "z", cs "cn", cs "zz"]
def menus : List (List Codes) := [menu1, menu2, menu3] ++ [menu4]
theorem menus_ok : ∀ ws ∈ menus, 4 ≤ ws.length ∧ ws.length ≤ 5 ∧ ∀ w ∈ ws, w.length ≤ 12 ∧ w.all (· < 128) = true := by decide +kernel
def sp_l_menu : Sp := drawSp (fun (_ : Unit) => 1) (fun _ a _ vs _ => vs = [.ref a]) (fun _ => SP.ex fun ws : { ws // ws ∈ menus } => wordsP ws.1)
theorem c_l_menu (T : Tx K mg) : Cal P w K mg base 3 "_law_menu" ["_law_source_here"] (sp_l_menu) := by
  have C_l_pick := c_l_pick (P := P) (w := w) (base := base) T
  refine T.d_l_menu.cal sc_l_menu (fun vs H Q E h => ?_) (fun _ _ _ _ _ _ us hl => match us, hl with | [_], _ => rfl) (fun f cdv A outer s H vs Q E hr h => ?_)
  · obtain ⟨R, a, n, x, _, _, rfl, _⟩ := h
    rfl
  · obtain ⟨R, a, n, _, hs, hj, rfl, q⟩ := h
    refine ⟨_, (pss_cons (ps_set (i := 1) sc_l_menu.nd rfl (by first | exact Or.inl rfl | exact Or.inr rfl) (pe_lst (pa_cons (pe_lst (pa_cons pe_str (pa_cons pe_str (pa_cons pe_str (pa_cons pe_str pa_nil))))) (pa_cons (pe_lst (pa_cons pe_str (pa_cons pe_str (pa_cons pe_str (pa_cons pe_str pa_nil))))) (pa_cons (pe_lst (pa_cons pe_str (pa_cons pe_str (pa_cons pe_str (pa_cons pe_str (pa_cons pe_str pa_nil)))))) pa_nil)))))
      (pss_one (ps_ret (pe_callC C_l_pick (hr.mono (by decide)) (by rfl) (pa_cons (pv 0) (pa_cons (pe_op (op_Add (K := K)) (pv 1) (pe_lst (pa_cons (pe_lst (pa_cons pe_str (pa_cons pe_str (pa_cons pe_str (pa_cons pe_str (pa_cons pe_str pa_nil)))))) pa_nil))) pa_nil)))))), ?_⟩
    refine StF.run (R := R) (n := n + 1) ?_ hj
    have w4 : ∀ (σ : L2.St) (B : Hp) (a b c d : Str), EvP R (n + 1) (n + 1) (tLst (tCons (tC (.str a)) (tCons (tC (.str b)) (tCons (tC (.str c)) (tCons (tC (.str d)) tNil))))) σ B (wordsP [cs a, cs b, cs c, cs d]) := fun σ B a b c d => ev_lstV (vs := [sv (cs a), sv (cs b), sv (cs c), sv (cs d)]) (ea_cons (ev_str (SX.S_tl _).symm) (ea_cons (ev_str (SX.S_tl _).symm) (ea_cons (ev_str (SX.S_tl _).symm) (ea_cons (ev_str (SX.S_tl _).symm) ea_nil)))) (by show 4 ≤ 100000; decide)
    have w5 : ∀ (σ : L2.St) (B : Hp) (a b c d e : Str), EvP R (n + 1) (n + 1) (tLst (tCons (tC (.str a)) (tCons (tC (.str b)) (tCons (tC (.str c)) (tCons (tC (.str d)) (tCons (tC (.str e)) tNil)))))) σ B (wordsP [cs a, cs b, cs c, cs d, cs e]) := fun σ B a b c d e => ev_lstV (vs := [sv (cs a), sv (cs b), sv (cs c), sv (cs d), sv (cs e)]) (ea_cons (ev_str (SX.S_tl _).symm) (ea_cons (ev_str (SX.S_tl _).symm) (ea_cons (ev_str (SX.S_tl _).symm) (ea_cons (ev_str (SX.S_tl _).symm) (ea_cons (ev_str (SX.S_tl _).symm) ea_nil))))) (by show 5 ≤ 100000; decide)
    refine q_asg (m := n + 1) (p := lstP wordsP [menu1, menu2, menu3]) (ev_lstMap (ea_cons (w4 _ _ _ _ _ _) (ea_cons (w4 _ _ _ _ _ _) (ea_cons (w5 _ _ _ _ _ _ _) ea_nil))) (by decide)) fun v H1 e1 hv => ?_
    exact s_ret (m := n) (p := SP.ex fun ws : { ws // ws ∈ menus } => wordsP ws.1) (ev_pickP (ys := menus) hs (ev_var rfl) (ev_catP (ys := [menu1, menu2, menu3]) (zs := [menu4]) (ev_varP rfl hv) (ev_lstMap (ea_cons (w5 _ _ _ _ _ _ _) ea_nil) (by decide)) (by decide)) (by decide)) fun v H2 e2 hv => q v H2 (R.trans e1 e2) hv

end
end My
namespace My
open PySem PySem.Spec PyProof.Rows L2
section
variable {P : Program} {w : World} {K : PySem.W.Frag} {mg : Str → Option Value} {base : Heap}
/-! ### _law_pairs -/
abbrev N_l_pairs : List Str := ["_law_source_here", "_law_words", "_law_many", "_law_most", "_law_rest", "_law_found", "_law_turn", "_law_word"]
theorem sc_l_pairs : FnScope N_l_pairs ["_law_source_here", "_law_words", "_law_many", "_law_most"] (defScope s_l_pairs) := ⟨rfl, rfl, rfl, by decide +kernel, rfl, by decide +kernel, by decide +kernel⟩
-- slots: 0 _law_source_here, 1 _law_words, 2 _law_many, 3 _law_most, 4 _law_rest, 5 _law_found, 6 _law_turn, 7 _law_word
def pairsOk (ws : List Codes) (k b : Nat) (ps : List Pair) : Prop := ps.length ≤ k ∧ ∀ q ∈ ps, q.1 ∈ ws ∧ prn q.2 ∧ inky q.2 ∧ 0 < q.2.length ∧ q.2.length ≤ b
structure PArg where
  ws : List Codes
  ms : List Int
  zs : List Int
  b : Nat
  k : Nat
def sp_l_pairs (K : PySem.W.Frag) : Sp := drawSp (fun (x : PArg) => 1 + 4 * (x.b + 5)) (fun x a M vs H => ∃ w y z, vs = [.ref a, .ref w, .ref y, .ref z] ∧ LtM M H w (x.ws.map sv) ∧ LtM M H y (x.ms.map V.int) ∧ LtM M H z (x.zs.map V.int) ∧ (4 ≤ x.ws.length ∧ x.ws.length ≤ 100) ∧ (0 < x.ms.length ∧ x.ms.length ≤ 100 ∧ ∀ i ∈ x.ms, 0 ≤ i ∧ i ≤ (x.k : Int)) ∧ (0 < x.zs.length ∧ x.zs.length ≤ 100 ∧ ∀ i ∈ x.zs, 1 ≤ i ∧ i ≤ (x.b : Int)) ∧ x.b ≤ 100 ∧ x.k ≤ 4) (fun x => SP.ex fun ps : { ps // pairsOk x.ws x.k x.b ps } => lstP (pairSP K) ps.1)
/-- two lists of the run's own -/
structure Own2 (R : Rel) (n : Nat) (H0 : Hp) (L P : Addr) (xs ys : List V) (ps : List Pair) (H : Hp) : Prop where
  fr : ∀ T, H0 T = none → ¬ R.M T
  J : R.J n H
  pr : pres R.M H0 H
  ne : L ≠ P
  l0 : H0 L = none
  p0 : H0 P = none
  hL : H L = some (.lst xs)
  hP : H P = some (.lst ys)
  fp : Paired (fun v q => pairF H0 v q H) ys ps
section
variable {R : Rel} {n m : Nat} {H0 H H' : Hp} {L P T : Addr} {xs ys : List V} {ps : List Pair}
theorem Own2.step (h : Own2 R n H0 L P xs ys ps H) (e : R.ok m H H') : Own2 R m H0 L P xs ys ps H' :=
  ⟨h.fr, e.1, h.pr.trans e.2, h.ne, h.l0, h.p0, e.2 _ _ (h.fr _ h.l0) h.hL, e.2 _ _ (h.fr _ h.p0) h.hP, Paired_imp (fun _ _ z => keepT.pr1 (fun a vs h0 ha => e.2 a _ (h.fr _ h0) ha) z) h.fp⟩
theorem Own2.pop (h : Own2 R n H0 L P xs ys ps H) (xs2 : List V) : Own2 R n H0 L P xs2 ys ps (upd H L (.lst xs2)) :=
  ⟨h.fr, R.put h.J (h.fr _ h.l0), pres_upd0 h.pr h.l0, h.ne, h.l0, h.p0, upd_same, by rw [upd_ne (Ne.symm h.ne)]; exact h.hP, Paired_imp (fun _ _ z => keepT.pr1 (fun a vs h0 ha => by
    have n1 : a ≠ L := fun z => by rw [z, h.hL] at ha; cases ha
    rw [upd_ne n1]
    exact ha) z) h.fp⟩
theorem Own2.pair (h : Own2 R n H0 L P xs ys ps H) (hT : H T = none) (q : Pair) : Own2 R n H0 L P xs (ys ++ [.ref T]) (ps ++ [q]) (upd (upd H T (.tup [sv q.1, sv q.2])) P (.lst (ys ++ [.ref T]))) := by
  have t0 : H0 T = none := old_none (R := R) (n := n) ⟨h.J, h.pr⟩ hT
  have neT : T ≠ P := fun z => by rw [z, h.hP] at hT; cases hT
  have neL : L ≠ T := fun z => by rw [← z, h.hL] at hT; cases hT
  have k : keepT H0 H (upd (upd H T (.tup [sv q.1, sv q.2])) P (.lst (ys ++ [.ref T]))) := fun a vs h0 ha => by
    have n1 : a ≠ P := fun z => by rw [z, h.hP] at ha; cases ha
    have n2 : a ≠ T := fun z => by rw [z, hT] at ha; cases ha
    rw [upd_ne n1, upd_ne n2]
    exact ha
  refine ⟨h.fr, R.put (R.put h.J (h.fr _ t0)) (h.fr _ h.p0), pres_upd0 (pres_upd0 h.pr t0) h.p0, h.ne, h.l0, h.p0, ?_, upd_same, Paired.snoc (Paired_imp (fun _ _ z => k.pr1 z) h.fp) ⟨T, rfl, t0, ?_⟩⟩
  · rw [upd_ne h.ne, upd_ne neL]
    exact h.hL
  · rw [upd_ne neT]
    exact upd_same
end
theorem erase_map : ∀ (l : List Codes) (k : Nat), (l.map sv).eraseIdx k = (l.eraseIdx k).map sv
  | [], _ => rfl
  | x :: l, 0 => rfl
  | x :: l, k + 1 => by
    show sv x :: (l.map sv).eraseIdx k = sv x :: (l.eraseIdx k).map sv
    rw [erase_map l k]
theorem ev_strX {R : Rel} {n m b : Nat} {a : Addr} {σ : L2.St} {H : Hp} {ta tb : TE} (hs : HasSrc R a) (hb1 : b ≤ 10000) (ha : EvP R n n ta σ H (is (.ref a))) (hb : EvP R n (m + (b + 3)) tb σ H (nt fun i => 1 ≤ i ∧ i ≤ (b : Int))) : EvP R n m (tCall sp_l_string [] E0 (tCons ta (tCons tb tNil))) σ H (tx fun s => prn s ∧ inky s ∧ 0 < s.length ∧ s.length ≤ b) :=
  ev_call (ea_cons ha (ea_cons hb ea_nil)) fun vs H1 e hv Q f => by
    obtain ⟨v, u, rfl, hv1, i, rfl, h0, h1⟩ := two hv
    refine ⟨R, a, m + (b - i.toNat), i.toNat, hs, ?_, ⟨?_, by omega, by omega⟩, fun v H' e' h' => f v H' ⟨R.dec e'.1 (by omega), e'.2⟩ ?_⟩
    · have e2 : m + (b - i.toNat) + (i.toNat + 3) = m + (b + 3) := by omega
      show R.J (m + (b - i.toNat) + (i.toNat + 3)) H1
      rw [e2]
      exact e.1
    · rw [show v = _ from hv1, Int.toNat_of_nonneg (by omega)]
    · obtain ⟨s, rfl, h1, h2, h3, h4⟩ := h'
      exact ⟨s, rfl, h1, h2, h3, by omega⟩
theorem c_l_pairs (T : Tx K mg) : Cal P w K mg base 4 "_law_pairs" ["_law_source_here", "_law_words", "_law_many", "_law_most"] (sp_l_pairs K) := by
  have C_l_pick := c_l_pick (P := P) (w := w) (base := base) T
  have C_l_next := c_l_next (P := P) (w := w) (base := base) T
  have C_l_string := c_l_string (P := P) (w := w) (base := base) T
  refine T.d_l_pairs.cal sc_l_pairs (fun vs H Q E h => ?_) (fun _ _ _ _ _ _ us hl => match us, hl with | [_, _, _, _], _ => rfl) (fun f cdv A outer s H vs Q E hr h => ?_)
  · obtain ⟨R, a, n, x, _, _, ⟨w, y, z, rfl, _⟩, _⟩ := h
    rfl
  · obtain ⟨R, a, n, ⟨ws, ms, zs, b, k⟩, hs, hj, ⟨w, y, z, rfl, hw, hy, hz, hws, hms, hzs, hb, hk4⟩, q⟩ := h
    refine ⟨_, (pss_cons (ps_par (i := 4) (j := 5) (by rfl) sc_l_pairs.nd rfl rfl (by decide) rfl rfl (pa_cons (pe_callTy (call_listA (K := K)) (by rfl) T.b_list (by decide +kernel) (pa_cons (pv 1) pa_nil)) (pa_cons (pe_lst pa_nil) pa_nil)) (by rfl))
      (pss_cons (ps_for PassesOwn.never rfl (pi_range1 (by rfl) T.b_range (pa_cons (pe_callC C_l_pick (hr.mono (by decide)) (by rfl) (pa_cons (pv 0) (pa_cons (pv 2) pa_nil))) pa_nil)) (pg_name (i := 6) sc_l_pairs.nd rfl (by first | exact Or.inl rfl | exact Or.inr rfl))
      (pss_cons (ps_set (i := 7) sc_l_pairs.nd rfl (by first | exact Or.inl rfl | exact Or.inr rfl) (pe_bmK (K := K) PySem.F.plainAttrs_list PySem.F.slot_list_pop PySem.F.type_list_pop mt_popAt (pv 4) (pa_cons (pe_callC C_l_next (hr.mono (by decide)) (by rfl) (pa_cons (pv 0) (pa_cons (pe_callB (call_lenA (K := K)) (by rfl) T.b_len (by decide +kernel) (pa_cons (pv 4) pa_nil)) pa_nil))) pa_nil)))
      (pss_one (ps_expr (pe_bmK (K := K) PySem.F.plainAttrs_list PySem.F.slot_list_append PySem.F.type_list_append mt_append (pv 5) (pa_cons (pe_tup (pa_cons (pv 7) (pa_cons (pe_callC C_l_string (hr.mono (by decide)) (by rfl) (pa_cons (pv 0) (pa_cons (pe_callC C_l_pick (hr.mono (by decide)) (by rfl) (pa_cons (pv 0) (pa_cons (pv 3) pa_nil))) pa_nil))) pa_nil))) pa_nil))))))
      (pss_one (ps_ret (pv 5))))), ?_⟩
    have hj : R.J (n + 4 * (b + 5) + 1) H := by
      have e : n + 4 * (b + 5) + 1 = n + (1 + 4 * (b + 5)) := by omega
      rw [e]
      exact hj
    have hws : 4 ≤ ws.length ∧ ws.length ≤ 100 := hws
    have hb : b ≤ 100 := hb
    have hk4 : k ≤ 4 := hk4
    have hms : 0 < ms.length ∧ ms.length ≤ 100 ∧ ∀ i ∈ ms, 0 ≤ i ∧ i ≤ (k : Int) := hms
    -- behind the two lists
    have main : ∀ (L P : Addr) (B : Hp), Own2 R (n + 4 * (b + 5) + 1) H L P (ws.map sv) [] [] B → StF R (n + 4 * (b + 5) + 1) (tSeq
      (tFor (iRng1 (tCons (tCall sp_l_pick [] E0 (tCons (tVar 0) (tCons (tVar 2) tNil))) tNil)) (gName 6)
        (tSeq (tAsg (tBM K "list" rPopAt (tVar 4) (tCons (tCall sp_l_next [] E0 (tCons (tVar 0) (tCons (tCB (rLenU K) (tCons (tVar 4) tNil)) tNil))) tNil)) (gName 7))
          (tDrop (tBM K "list" rAppend (tVar 5) (tCons (tTup (tCons (tVar 7) (tCons (tCall sp_l_string [] E0 (tCons (tVar 0) (tCons (tCall sp_l_pick [] E0 (tCons (tVar 0) (tCons (tVar 3) tNil))) tNil))) tNil))) tNil)))))
      (tRet (tVar 5))) { nx := fun x H' => Q V.non H', rt := Q } [some (.ref a), some (.ref w), some (.ref y), some (.ref z), some (.ref L), some (.ref P), none, none] B := fun L P B own => by
      refine forq_bindR (m := n + 4 * (b + 5)) (p := nt fun i => 0 ≤ i ∧ i ≤ (k : Int)) ((ev_pickL (m := n + 4 * (b + 5)) (F := (· = ms.map V.int)) hs (ev_var rfl) (ev_varP rfl ⟨y, _, rfl, hy.st own.pr, rfl⟩) (fun xs hx => by subst hx; rw [List.length_map]; exact ⟨hms.1, Nat.le_trans hms.2.1 (by decide)⟩)).imp fun v H1 _ hv => ?_) fun v H1 e1 hv => ?_
      · obtain ⟨xs, rfl, hm⟩ := hv
        obtain ⟨i, hi, rfl⟩ := List.mem_map.mp hm
        exact ⟨i, rfl, hms.2.2 i hi⟩
      obtain ⟨cnt, rfl, hc0, hc1⟩ := hv
      intro H2 e2
      have own2 := (own.step e1).step e2
      refine StF.run (R := (R.at L (ws.map sv)).at P []) (n := n + 4 * (b + 5)) (H := H2) ?_ ⟨⟨own2.J, own2.hL⟩, own2.hP⟩
      have hit := it_range1 (R := (R.at L (ws.map sv)).at P []) (n := n + 4 * (b + 5)) (m := n + 4 * (b + 5)) (σ := [some (.ref a), some (.ref w), some (.ref y), some (.ref z), some (.ref L), some (.ref P), none, none]) (H := H2) (ta := tC (.int cnt)) (iv := cnt) ev_c (by omega)
      refine StF.seq (s_for2 (R := (R.off L).off P) (c := fun i => n + (4 - i) * (b + 5)) (c1 := n + 4 * (b + 5)) (fun _ m => m) hit (fun B i σ' H' => ((R.off L).off P).ok (n + (4 - i) * (b + 5)) B H' ∧ ∃ (rs : List Codes) (ys : List V) (ps : List Pair) (x6 x7 : Option V), σ' = [some (.ref a), some (.ref w), some (.ref y), some (.ref z), some (.ref L), some (.ref P), x6, x7] ∧ Own2 R (n + (4 - i) * (b + 5)) H L P (rs.map sv) ys ps H' ∧ rs.length = ws.length - i ∧ (∀ r ∈ rs, r ∈ ws) ∧ ps.length = i ∧ ∀ q ∈ ps, q.1 ∈ ws ∧ prn q.2 ∧ inky q.2 ∧ 0 < q.2.length ∧ q.2.length ≤ b) (fun B i σ' H' h => h.1) (fun B eB => ?_) (fun B i yy σ' H' x H'' eB hyy hPv er hx => ?_) (fun B σ' H' eB hPv => ?_))
      · refine ⟨⟨⟨⟨eB.1.1.1, _, eB.1.1.2⟩, _, eB.1.2⟩, pres.refl B⟩, ws, [], [], none, none, rfl, ⟨own2.fr, eB.1.1.1, fun aa o ma ha => ?_, own2.ne, own2.l0, own2.p0, eB.1.1.2, eB.1.2, .nil⟩, by omega, fun r hr => hr, rfl, fun q hq => nomatch hq⟩
        have n1 : aa ≠ L := fun zz => by rw [zz, own2.l0] at ha; cases ha
        have n2 : aa ≠ P := fun zz => by rw [zz, own2.p0] at ha; cases ha
        exact eB.2 aa o (fun zz => zz.elim (fun zz => zz.elim ma n1) n2) (own2.pr aa o ma ha)
      · -- a turn
        obtain ⟨eBH, rs, ys, ps, x6, x7, rfl, own3, hrs, hrw, hps, hpq⟩ := hPv
        rw [List.getElem?_map] at hyy
        obtain ⟨ii, hii, rfl⟩ := Option.map_eq_some_iff.mp hyy
        have hilt : i < cnt.toNat := by
          have := (List.getElem?_eq_some_iff.mp hii).1
          rw [List.length_range] at this
          exact this
        have own4 := own3.step (R.ex own3.J er)
        have hcr : n + (4 - i) * (b + 5) = n + (4 - (i + 1)) * (b + 5) + (b + 5) := by
          have e3 : 4 - i = (4 - (i + 1)) + 1 := by omega
          rw [e3, Nat.add_mul, Nat.one_mul]
          omega
        dsimp only [gName]
        rw [hcr] at own4 eBH
        generalize hN : n + (4 - (i + 1)) * (b + 5) = N at *
        have wid : ∀ {Ha Hb : Hp}, pres R.M Ha Hb → pres ((R.off L).off P).M Ha Hb := fun h => h.wider fun a m => .inl (.inl m)
        refine StF.run (R := R) (n := N + (b + 5)) (H := H'') ?_ own4.J
        refine StF.seq (fun Ha ea => ?_)
        have own5 := own4.step ea
        refine ⟨.ref L, rfl, .inl ⟨rfl, _, .inl (.inl own5.hL)⟩, ?_⟩
        refine ev_next (R := R) (n := N + (b + 5)) (m := N + (b + 4)) (H := Ha) (many := ((rs.map sv).length : Int)) hs (ev_var rfl) (ev_lenL (ev_var rfl) (SqM.of own5.hL (own5.fr _ own5.l0))) (by rw [List.length_map]; omega) (by rw [List.length_map]; omega) Ha (R.self own5.J) _ fun v Hb eb hv => ?_
        obtain ⟨r, rfl, hr0, hr1⟩ := hv
        rw [List.length_map] at hr1
        have own6 := own5.step eb
        have hk : r.toNat < rs.length := by omega
        have hget : rs[r.toNat]? = some rs[r.toNat] := List.getElem?_eq_getElem hk
        generalize rs[r.toNat] = w0 at hget
        have hw0 : w0 ∈ ws := hrw _ (List.mem_of_getElem? hget)
        refine ⟨L, rs.map sv, r, r.toNat, sv w0, rfl, rfl, own6.hL, by omega, by omega, ?_, by rw [List.getElem?_map, hget]; rfl, ?_⟩
        · unfold seqIndex?
          have hr2 : ¬ r < 0 := by omega
          simp only [List.length_map, hr2, if_false]
          rw [if_pos (by rw [Bool.and_eq_true, decide_eq_true_eq, decide_eq_true_eq]; exact ⟨hr0, hr1⟩)]
        rw [erase_map]
        have own7 := own6.pop ((rs.eraseIdx r.toNat).map sv)
        have p7 : pres ((R.off L).off P).M Hb (upd Hb L (.lst ((rs.eraseIdx r.toNat).map sv))) := pres.upd (.inl (.inr rfl))
        generalize upd Hb L (.lst ((rs.eraseIdx r.toNat).map sv)) = Hc at own7 p7 ⊢
        dsimp only [gName]
        refine StF.run (R := R) (n := N + (b + 4)) (H := Hc) ?_ own7.J
        intro Hd ed
        have own8 := own7.step ed
        refine ⟨.ref P, rfl, .inl ⟨rfl, _, .inl (.inl own8.hP)⟩, sv w0, rfl, ?_⟩
        refine ev_strX (R := R) (n := N + (b + 4)) (m := N) (b := b) (H := Hd) hs (by omega) (ev_var rfl) ((ev_pickL (m := N + (b + 3)) (F := (· = zs.map V.int)) hs (ev_var rfl) (ev_varP rfl ⟨z, _, rfl, hz.st own8.pr, rfl⟩) (fun xs hx => by subst hx; rw [List.length_map]; exact ⟨hzs.1, Nat.le_trans hzs.2.1 (by decide)⟩)).imp fun v H1 _ hv => ?_) Hd (R.self own8.J) _ fun v He ee hv => ?_
        · obtain ⟨xs, rfl, hm⟩ := hv
          obtain ⟨i, hi, rfl⟩ := List.mem_map.mp hm
          exact ⟨i, rfl, hzs.2.2 i hi⟩
        obtain ⟨u, rfl, hu⟩ := hv
        have own9 := own8.step ee
        refine ⟨Evl.sz_of (show 2 ≤ 100000 by decide), fun T hT => ?_⟩
        have neT : P ≠ T := fun zz => by rw [← zz, own9.hP] at hT; cases hT
        have hyl : ys.length = ps.length := own3.fp.length
        have own10 := own9.pair hT (w0, u)
        refine ⟨P, ys, .ref T, rfl, rfl, by rw [upd_ne neT]; exact own9.hP, Evl.sz_lt (by omega), ⟨⟨⟨own10.J, _, own10.hL⟩, _, own10.hP⟩, ?_⟩, rs.eraseIdx r.toNat, ys ++ [.ref T], ps ++ [(w0, u)], _, _, rfl, own10, ?_, fun x hx => hrw x (List.mem_of_mem_eraseIdx hx), by simp [hps], fun x hx => ?_⟩
        · exact eBH.2.trans ((pres.ex er).trans ((wid ea.2).trans ((wid eb.2).trans (p7.trans ((wid ed.2).trans ((wid ee.2).trans ((pres.ex (Evl.Ex.new hT)).trans (pres.upd (.inr rfl)))))))))
        · rw [List.length_eraseIdx_of_lt hk]
          omega
        · rcases List.mem_append.mp hx with zz | zz
          · exact hpq x zz
          · rw [List.mem_singleton.mp zz]
            exact ⟨hw0, hu⟩
      · obtain ⟨eBH, rs, ys, ps, x6, x7, rfl, own3, hrs, hrw, hps, hpq⟩ := hPv
        rw [List.length_map, List.length_range] at own3 hps
        dsimp only
        refine StF.run (R := R) (n := n + (4 - cnt.toNat) * (b + 5)) (H := H') ?_ own3.J
        refine s_ret (m := n + (4 - cnt.toNat) * (b + 5)) (p := lstP (pairSP K) ps) (ev_varP rfl ⟨P, ys, rfl, ⟨own3.hP, own3.fr _ own3.p0⟩, Paired_imp (fun _ _ zz => zz.sp hj) own3.fp⟩) fun v H5 e5 hv => q v H5 ⟨R.dec e5.1 (by omega), own3.pr.trans e5.2⟩ ⟨⟨ps, (show ps.length ≤ k by omega), hpq⟩, hv⟩
    refine ⟨.ref w, rfl, w, ws.map sv, rfl, .inl hw.sq, fun L hL => ⟨Evl.sz_of (Nat.zero_le _), fun P hP => ?_⟩⟩
    have ne : L ≠ P := fun zz => by rw [← zz, upd_same] at hP; cases hP
    have hP0 : H P = none := by rw [upd_ne (Ne.symm ne)] at hP; exact hP
    have own : Own2 R (n + 4 * (b + 5) + 1) H L P (ws.map sv) [] [] (upd (upd H L (.lst (ws.map sv))) P (.lst [])) := ⟨fun T hT => R.fresh hj hT, R.put (R.put hj (R.fresh hj hL)) (R.fresh hj hP0), pres_upd0 (pres_upd0 (pres.refl H) hL) hP0, ne, hL, hP0, by rw [upd_ne ne]; exact upd_same, upd_same, .nil⟩
    exact ⟨_, _, rfl, (main L P _ own).run own.J⟩

end
end My
namespace My
open PySem PySem.Spec PyProof.Rows L2
section
variable {P : Program} {w : World} {K : PySem.W.Frag} {mg : Str → Option Value} {base : Heap}
/-! ### _law_name_line -/
/-- x, y = a pair whose items are known by properties -/
theorem q_asgP2 {R : Rel} {n m : Nat} {σ : L2.St} {H : Hp} {te : TE} {D : Ends} {tz : TS} {i j : Nat} {p q : SP} (h : EvP R n m te σ H (tupP K id [p, q])) (f : ∀ u w H1, R.ok m H H1 → p.P R.M u H1 → q.P R.M w H1 → StF R m tz D ((σ.set i (some u)).set j (some w)) H1) : StF R n (tSeq (tAsg te (gTup K 2 (gCons (gName i) (gCons (gName j) gNil)))) tz) D σ H := fun H1 e =>
  h H1 e _ fun v H2 e2 hv => by
    obtain ⟨T, xs, rfl, hT, g⟩ := hv
    cases g with
    | cons a b => cases b with
      | cons a2 b2 =>
        cases b2
        exact ⟨T, _, rfl, hT.sq, rfl, _, _, rfl, _, _, rfl, rfl, (f _ _ H2 (R.trans e e2) a a2).run e2.1⟩
abbrev N_l_name_line : List Str := ["_law_source_here", "_law_menu_here", "_law_many", "_law_pairs_here", "_law_sizes", "_law_found", "_law_turn", "_law_at", "_law_way", "_law_more"]
theorem sc_l_name_line : FnScope N_l_name_line ["_law_source_here"] (defScope s_l_name_line) := ⟨rfl, rfl, rfl, by decide +kernel, rfl, by decide +kernel, by decide +kernel⟩
-- slots: 0 _law_source_here, 1 _law_menu_here, 2 _law_many, 3 _law_pairs_here, 4 _law_sizes, 5 _law_found, 6 _law_turn, 7 _law_at, 8 _law_way, 9 _law_more
def sp_l_name_line (K : PySem.W.Frag) : Sp := drawSp (fun (_ : Unit) => 382) (fun _ a _ vs _ => vs = [.ref a]) (fun _ => tx fun s => asc s ∧ s.length ≤ 1000)
theorem escF_asc {n : Nat} : ∀ {l : Codes} {i : Nat}, asc l → asc (escF n i l)
  | [], _, _ => rfl
  | c :: r, i, h => by
    have h1 : c < 128 := of_decide_eq_true (List.all_eq_true.mp h c (List.mem_cons_self ..))
    have h2 : asc r := asc_sub (fun x hx => List.mem_cons_of_mem _ hx) h
    rw [escF_cons]
    refine asc_app (by split <;> rfl) (asc_app (a := [c]) (asc_one h1) (escF_asc h2))
theorem joinL_asc {sep : Codes} (hs : asc sep) : ∀ {ls : List Codes}, (∀ x ∈ ls, asc x) → asc (TL.joinL sep ls)
  | [], _ => rfl
  | [x], h => by rw [joinL_one]; exact h x (List.mem_cons_self ..)
  | x :: y :: r, h => by
    rw [joinL_cons2]
    have h1 := joinL_asc hs (ls := y :: r) fun z hz => h z (List.mem_cons_of_mem _ hz)
    have h2 := h x (List.mem_cons_self ..)
    first
      | exact asc_app (asc_app h2 hs) h1
      | exact asc_app h2 (asc_app hs h1)
theorem leafLine_asc {ps : List Pair} (h : ∀ q ∈ ps, asc q.1 ∧ asc q.2) : asc (leafLine ps) := joinL_asc (by rfl) fun x hx => by
  obtain ⟨q, hq, rfl⟩ := List.mem_map.mp hx
  exact asc_app (asc_app (h q hq).1 (by rfl)) (escF_asc (h q hq).2)
theorem lineL_asc {ls : List (List Pair)} (h : ∀ ps ∈ ls, ∀ q ∈ ps, asc q.1 ∧ asc q.2) : asc (lineL ls) := joinL_asc (by rfl) fun x hx => by
  obtain ⟨ps, hp, rfl⟩ := List.mem_map.mp hx
  exact leafLine_asc (h ps hp)
theorem lineL_len {ls : List (List Pair)} {k b : Nat} (h : ∀ ps ∈ ls, ps.length ≤ k ∧ shortP b ps) : (lineL ls).length ≤ ls.length * (k * (22 + 2 * b) + 1) := by
  have h0 := joinL_len [44] (ls.map leafLine)
  have h1 := sum_le (fun x : Codes => x.length) (k * (22 + 2 * b)) (ls.map leafLine) (fun x hx => by
    obtain ⟨a, ham, rfl⟩ := List.mem_map.mp hx
    exact Nat.le_trans (leafLine_len (h a ham).2) (Nat.mul_le_mul_right _ (h a ham).1))
  rw [List.length_map] at h0 h1
  unfold lineL
  rw [Nat.mul_add, Nat.mul_one]
  simp only [List.length_singleton, Nat.mul_one] at h0
  omega
theorem paired_ex {α β : Type} {A : β → Prop} {F : V → β → Prop} : ∀ {xs : List V} {ks : List α}, Paired (fun v _ => ∃ b : { b // A b }, F v b.1) xs ks → ∃ bs : List β, Paired F xs bs ∧ bs.length = ks.length ∧ ∀ b ∈ bs, A b
  | _, _, .nil => ⟨[], .nil, rfl, fun b h => by cases h⟩
  | _, _, .cons a b => by
    obtain ⟨bs, h1, h2, h3⟩ := paired_ex b
    obtain ⟨⟨x, hx⟩, hF⟩ := a
    refine ⟨x :: bs, .cons hF h1, by rw [List.length_cons, List.length_cons, h2], fun y hy => ?_⟩
    rcases List.mem_cons.mp hy with rfl | hy
    · exact hx
    · exact h3 y hy
theorem c_l_name_line (T : Tx K mg) : Cal P w K mg base 5 "_law_name_line" ["_law_source_here"] (sp_l_name_line K) := by
  have C_l_menu := c_l_menu (P := P) (w := w) (base := base) T
  have C_l_pick := c_l_pick (P := P) (w := w) (base := base) T
  have C_l_line := c_l_line (P := P) (w := w) (base := base) T
  have C_l_pairs := c_l_pairs (P := P) (w := w) (base := base) T
  have C_l_next := c_l_next (P := P) (w := w) (base := base) T
  refine T.d_l_name_line.cal sc_l_name_line (fun vs H Q E h => ?_) (fun _ _ _ _ _ _ us hl => match us, hl with | [_], _ => rfl) (fun f cdv A outer s H vs Q E hr h => ?_)
  · obtain ⟨R, a, n, x, _, _, rfl, _⟩ := h
    rfl
  · obtain ⟨R, a, n, _, hs, hj, rfl, q⟩ := h
    refine ⟨_, (pss_cons (ps_set (i := 1) sc_l_name_line.nd rfl (by first | exact Or.inl rfl | exact Or.inr rfl) (pe_callC C_l_menu (hr.mono (by decide)) (by rfl) (pa_cons (pv 0) pa_nil)))
      (pss_cons (ps_set (i := 2) sc_l_name_line.nd rfl (by first | exact Or.inl rfl | exact Or.inr rfl) (pe_callC C_l_pick (hr.mono (by decide)) (by rfl) (pa_cons (pv 0) (pa_cons (pe_lst (pa_cons pe_int (pa_cons pe_int (pa_cons pe_int (pa_cons pe_int (pa_cons pe_int (pa_cons pe_int (pa_cons pe_int (pa_cons pe_int pa_nil))))))))) pa_nil))))
      (pss_cons (ps_asg (pe_ifExp (pt_cmpR cm_Gt (pv 2) pe_int (nomark _)) (pe_tup (pa_cons (pe_lst (pa_cons pe_int pa_nil)) (pa_cons (pe_lst (pa_cons pe_int pa_nil)) pa_nil))) (pe_tup (pa_cons (pe_lst (pa_cons pe_int (pa_cons pe_int (pa_cons pe_int pa_nil)))) (pa_cons (pe_lst (pa_cons pe_int (pa_cons pe_int pa_nil))) pa_nil)))) (pg_tupK (K := K) (n := 2) rfl (pgs_cons (pg_name (i := 3) sc_l_name_line.nd rfl (by first | exact Or.inl rfl | exact Or.inr rfl)) (pgs_cons (pg_name (i := 4) sc_l_name_line.nd rfl (by first | exact Or.inl rfl | exact Or.inr rfl)) pgs_nil))))
      (pss_cons (ps_set (i := 5) sc_l_name_line.nd rfl (by first | exact Or.inl rfl | exact Or.inr rfl) (pe_callC C_l_line (hr.mono (by decide)) (by rfl) (pa_cons (pe_lc (own := [("_law_turn", 6)]) (by rfl) sc_l_name_line.nd (pi_range1 (by rfl) T.b_range (pa_cons (pv 2) pa_nil)) (blkOk_by (own := [("_law_turn", 6)]) (N := N_l_name_line) (sc := defScope s_l_name_line) (by decide +kernel)) (fun _ _ _ _ _ => (pg_name (i := 6) sc_l_name_line.nd rfl (by first | exact Or.inl rfl | exact Or.inr rfl))) (fun _ _ _ _ _ => pts_nil) (fun _ _ _ _ _ => (pe_callC C_l_pairs (hr.mono (by decide)) (by rfl) (pa_cons (pv 0) (pa_cons (pv 1) (pa_cons (pv 3) (pa_cons (pv 4) pa_nil))))))) pa_nil)))
      (pss_cons (ps_par (i := 7) (j := 8) (by rfl) sc_l_name_line.nd rfl rfl (by decide) rfl rfl (pa_cons (pe_callC C_l_next (hr.mono (by decide)) (by rfl) (pa_cons (pv 0) (pa_cons (pe_op (op_Add (K := K)) (pe_callB (call_lenA (K := K)) (by rfl) T.b_len (by decide +kernel) (pa_cons (pv 5) pa_nil)) pe_int) pa_nil))) (pa_cons (pe_callC C_l_next (hr.mono (by decide)) (by rfl) (pa_cons (pv 0) (pa_cons pe_int pa_nil))) pa_nil)) (by rfl))
      (pss_cons (ps_if (pt_cmpR cm_Gt (pv 8) pe_int (nomark _)) (pss_one (ps_ret (pv 5))) pss_nil)
      (pss_cons (ps_set (i := 9) sc_l_name_line.nd rfl (by first | exact Or.inl rfl | exact Or.inr rfl) (pe_callC C_l_pick (hr.mono (by decide)) (by rfl) (pa_cons (pv 0) (pa_cons (pe_lst (pa_cons pe_str (pa_cons pe_str (pa_cons pe_str (pa_cons pe_str (pa_cons pe_str (pa_cons pe_str (pa_cons pe_str (pa_cons pe_str (pa_cons pe_str pa_nil)))))))))) pa_nil))))
      (pss_one (ps_ret (pe_op (op_Add (K := K)) (pe_op (op_Add (K := K)) (pe_slice (sl_any (K := K)) (pv 5) po_none (po_some (pv 7))) (pe_ix (ix_any (K := K)) (pe_lst (pa_cons (pv 9) (pa_cons pe_str (pa_cons (pv 9) pa_nil)))) (pv 8) (fun _ _ => rfl))) (pe_slice (sl_any (K := K)) (pv 5) (po_some (pe_op (op_Add (K := K)) (pv 7) (pe_callTy call_intA (by rfl) T.b_int (by decide +kernel) (pa_cons (pe_cmpR cm_Gt (pv 8) pe_int (nomark _)) pa_nil)))) po_none))))))))))), ?_⟩
    refine StF.run (R := R) (n := n + 382) ?_ hj
    refine q_asg (m := n + 381) (p := SP.ex fun ws : { ws // ws ∈ menus } => wordsP ws.1) (ev_draw (m := n + 381) (post := fun _ : Unit => SP.ex fun ws : { ws // ws ∈ menus } => wordsP ws.1) () hs (ea_cons (ev_var rfl) ea_nil) fun vs H1 _ hv => by
      obtain ⟨v, rfl, hv1⟩ := one hv
      rw [show v = _ from hv1]) fun mv H1 e1 hmv => ?_
    obtain ⟨⟨ws, hwsm⟩, mw, mxs, rfl, hmw, rfl⟩ := hmv
    have hwk := menus_ok ws hwsm
    refine q_asgG (m := n + 380) (G := fun v => ∃ i, v = .int i ∧ 0 ≤ i ∧ i ≤ 13) ((ev_pickL (m := n + 380) (F := (· = [V.int 1, .int 2, .int 3, .int 1, .int 2, .int 12, .int 13, .int 0])) hs (ev_var rfl) (ev_lstV (vs := [V.int 1, .int 2, .int 3, .int 1, .int 2, .int 12, .int 13, .int 0]) (ea_cons ev_c (ea_cons ev_c (ea_cons ev_c (ea_cons ev_c (ea_cons ev_c (ea_cons ev_c (ea_cons ev_c (ea_cons ev_c ea_nil)))))))) (by decide)) (fun xs hx => by subst hx; decide)).imp fun v H2 _ hv => ?_) fun v hv => ?_
    · obtain ⟨xs, rfl, hm⟩ := hv
      simp only [List.mem_cons, List.not_mem_nil, or_false] at hm
      rcases hm with rfl | rfl | rfl | rfl | rfl | rfl | rfl | rfl <;> exact ⟨_, rfl, by decide, by decide⟩
    obtain ⟨many, rfl, hm0, hm1⟩ := hv
    have hmenu : ∃ (ms zs : List Int) (k b : Nat), ((0 < ms.length ∧ ms.length ≤ 100 ∧ ∀ i ∈ ms, 0 ≤ i ∧ i ≤ (k : Int)) ∧ (0 < zs.length ∧ zs.length ≤ 100 ∧ ∀ i ∈ zs, 1 ≤ i ∧ i ≤ (b : Int)) ∧ b ≤ 9 ∧ k ≤ 4 ∧ many.toNat * (1 + 4 * (b + 5)) ≤ 377 ∧ many.toNat * (k * (22 + 2 * b) + 1) ≤ 400) ∧ EvP R (n + 380) (n + 380) (tIf (tTest (tOp rGtU (tVar 2) (tC (V.int 3))))
          (tTup (tCons (tLst (tCons (tC (V.int 1)) tNil)) (tCons (tLst (tCons (tC (V.int 2)) tNil)) tNil)))
          (tTup (tCons (tLst (tCons (tC (V.int 1)) (tCons (tC (V.int 1)) (tCons (tC (V.int 2)) tNil)))) (tCons (tLst (tCons (tC (V.int 3)) (tCons (tC (V.int 9)) tNil))) tNil)))) [some (.ref a), some (.ref mw), some (.int many), none, none, none, none, none, none, none] H1 (tupP K id [lstG (· = ms.map V.int), lstG (· = zs.map V.int)]) := by
      by_cases h3 : 3 < many
      · refine ⟨[1], [2], 1, 2, ⟨⟨by decide, by decide, by decide⟩, ⟨by decide, by decide, by decide⟩, by decide, by decide, by omega, by omega⟩, ?_⟩
        exact ev_ifB (m := n + 380) (b := true) (et_is (et_test (ev_op2 (m := n + 380) (ev_var rfl) ev_c fun H3 _ => rv_gtI)) (decide_eq_true h3)) (fun _ => ev_tup (ea_cons (m := n + 380) (ev_lstV (vs := [.int 1]) (ea_cons ev_c ea_nil) (by decide)) (ea_cons (ev_lstV (vs := [.int 2]) (ea_cons ev_c ea_nil) (by decide)) ea_nil)) (by show 2 ≤ 100000; decide)) (fun z => nomatch z)
      · refine ⟨[1, 1, 2], [3, 9], 2, 9, ⟨⟨by decide, by decide, by decide⟩, ⟨by decide, by decide, by decide⟩, by decide, by decide, by omega, by omega⟩, ?_⟩
        exact ev_ifB (m := n + 380) (b := false) (et_is (et_test (ev_op2 (m := n + 380) (ev_var rfl) ev_c fun H3 _ => rv_gtI)) (decide_eq_false h3)) (fun z => nomatch z) (fun _ => ev_tup (ea_cons (m := n + 380) (ev_lstV (vs := [.int 1, .int 1, .int 2]) (ea_cons ev_c (ea_cons ev_c (ea_cons ev_c ea_nil))) (by decide)) (ea_cons (ev_lstV (vs := [.int 3, .int 9]) (ea_cons ev_c (ea_cons ev_c ea_nil)) (by decide)) ea_nil)) (by show 2 ≤ 100000; decide))
    obtain ⟨ms, zs, k, b, ⟨hms, hzs, hb9, hk4, hcost, hlen⟩, hpe⟩ := hmenu
    refine q_asgP2 (m := n + 380) hpe fun u w H2 e2 hu hw => ?_
    obtain ⟨la, xa, rfl, hla, rfl⟩ := hu
    obtain ⟨lb, xb, rfl, hlb, rfl⟩ := hw
    -- the text
    refine q_asgG (m := n + 3) (G := fun v => ∃ s, v = sv s ∧ asc s ∧ s.length ≤ 400) ?_ fun v hv => ?_
    · have hcred : n + 380 = n + 3 + (377 - many.toNat * (1 + 4 * (b + 5))) + many.toNat * (1 + 4 * (b + 5)) := by omega
      have hR := it_range1 (R := R) (n := n + 380) (m := n + 380) (σ := [some (.ref a), some (.ref mw), some (.int many), some (.ref la), some (.ref lb), none, none, none, none, none]) (H := H2) (ta := tVar 2) (iv := many) (ev_var rfl) (by omega)
      have hlc := ev_lcP (R := R) (H := H2) (te := tCall (sp_l_pairs K) [] E0 (tCons (tVar 0) (tCons (tVar 1) (tCons (tVar 3) (tCons (tVar 4) tNil))))) (vs := [6]) (j := 6) (as := List.range many.toNat) (mv := fun (i : Nat) => .int (i : Int)) (m := n + 3 + (377 - many.toNat * (1 + 4 * (b + 5)))) (n := n + 380) (σ := [some (.ref a), some (.ref mw), some (.int many), some (.ref la), some (.ref lb), none, none, none, none, none]) (1 + 4 * (b + 5)) (fun _ : Nat => SP.ex fun ps : { ps // pairsOk ws k b ps } => lstP (pairSP K) ps.1) (by rw [List.length_range, ← hcred]; exact hR) (by rw [List.length_range]; omega) (fun x => rfl) fun R' H' i kk ex hi => ?_
      · refine (ev_pureX (args := fun (ls : List (List Pair)) M vs H => ∃ v, vs = [v] ∧ ls.length ≤ 50 ∧ (∀ ps ∈ ls, shortP 100 ps) ∧ (lstP (lstP (pairSP K)) ls).P M v H) (post := fun ls => is (sv (lineL ls))) (ea_cons hlc ea_nil) fun vs H3 e3 hv => ?_).fewer (by omega)
        obtain ⟨v, rfl, l, xs, rfl, hl, hp⟩ := one hv
        obtain ⟨ls, h1, h2, h3⟩ := paired_ex (A := pairsOk ws k b) (F := fun v ps => (lstP (pairSP K) ps).P R.M v H3) hp
        rw [List.length_range] at h2
        have hsh : ∀ c, b ≤ c → ∀ ps ∈ ls, shortP c ps := fun c hc ps hps => ⟨by have := (h3 ps hps).1; omega, fun q hq => ⟨by have := (hwk.2.2 q.1 ((h3 ps hps).2 q hq).1).1; omega, by have := ((h3 ps hps).2 q hq).2.2.2.2; omega⟩⟩
        refine ⟨ls, ⟨_, rfl, by omega, hsh 100 (by omega), l, xs, rfl, hl, h1⟩, fun v H4 hv => ⟨_, hv, ?_, ?_⟩⟩
        · exact lineL_asc fun ps hps q hq => ⟨(hwk.2.2 q.1 ((h3 ps hps).2 q hq).1).2, prn_asc ((h3 ps hps).2 q hq).2.1⟩
        · have hll := lineL_len (ls := ls) (k := k) (b := b) fun ps hps => ⟨(h3 ps hps).1, hsh b (Nat.le_refl _) ps hps⟩
          rw [h2] at hll
          omega
      · refine ev_draw (post := fun x : PArg => SP.ex fun ps : { ps // pairsOk x.ws x.k x.b ps } => lstP (pairSP K) ps.1) ⟨ws, ms, zs, b, k⟩ (hs.ext ex) (ea_cons (ev_var (v := .ref a) rfl) (ea_cons (ev_varP (p := lstG (· = ws.map sv)) (v := .ref mw) rfl (ex.get ⟨mw, _, rfl, hmw.st e2.2, rfl⟩)) (ea_cons (ev_varP (p := lstG (· = ms.map V.int)) (v := .ref la) rfl (ex.get ⟨la, _, rfl, hla, rfl⟩)) (ea_cons (ev_varP (p := lstG (· = zs.map V.int)) (v := .ref lb) rfl (ex.get ⟨lb, _, rfl, hlb, rfl⟩)) ea_nil)))) fun vs H3 _ hv => ?_
        cases hv with
        | cons h1 t1 => cases t1 with
          | cons h2 t2 => cases t2 with
            | cons h3 t3 => cases t3 with
              | cons h4 t4 =>
                cases t4
                obtain ⟨p2, x2, rfl, l2, rfl⟩ := h2
                obtain ⟨p3, x3, rfl, l3, rfl⟩ := h3
                obtain ⟨p4, x4, rfl, l4, rfl⟩ := h4
                exact ⟨p2, p3, p4, by rw [show _ = V.ref a from h1], l2, l3, l4, ⟨hwk.1, Nat.le_trans hwk.2.1 (by decide)⟩, hms, hzs, Nat.le_trans hb9 (by decide), hk4⟩
    obtain ⟨f0, rfl, hf0, hfl⟩ := hv
    refine q_parG (m := n + 1) (F := fun v => ∃ i, v = .int i ∧ 0 ≤ i ∧ i < ((f0.length : Int) + 1)) (G := fun v => ∃ i, v = .int i ∧ 0 ≤ i ∧ i < 6) (ea_cons (m := n + 2) (ev_next hs (ev_var rfl) (ev_op2 (m := n + 3) (ev_lenS (ev_var rfl) (by omega)) ev_c fun H3 _ => rv_addI) (by omega) (by omega)) (ea_cons (m := n + 1) (ev_next hs (ev_var rfl) ev_c (by decide) (by decide)) ea_nil)) fun v w hv hw => ?_
    obtain ⟨at_, rfl, ha0, ha1⟩ := hv
    obtain ⟨way, rfl, hw0, hw1⟩ := hw
    refine q_whenB (m := n + 1) (b := decide (2 < way)) (et_test (ev_op2 (m := n + 1) (ev_var rfl) ev_c fun H3 _ => rv_gtI)) (fun _ => ?_) (fun hb => ?_)
    · exact s_ret (m := n + 1) (p := tx fun s => asc s ∧ s.length ≤ 1000) (EvP.tx (ev_var rfl) ⟨hf0, by omega⟩) fun v H3 e3 hv => q v H3 ⟨R.dec e3.1 (by omega), (e1.2.trans e2.2).trans e3.2⟩ hv
    have hb := of_decide_eq_false hb
    refine q_asgG (m := n) (G := fun v => ∃ s, v = sv s ∧ asc s ∧ s.length ≤ 4) ((ev_pickL (m := n) (F := (· = [sv [92], sv [44], sv [61], sv [43], sv [32], sv [65], sv [97], sv [10], sv [98, 61, 120, 44]])) hs (ev_var rfl) (ev_lstV (vs := [sv [92], sv [44], sv [61], sv [43], sv [32], sv [65], sv [97], sv [10], sv [98, 61, 120, 44]]) (ea_cons (ev_str (by decide +kernel)) (ea_cons (ev_str (by decide +kernel)) (ea_cons (ev_str (by decide +kernel)) (ea_cons (ev_str (by decide +kernel)) (ea_cons (ev_str (by decide +kernel)) (ea_cons (ev_str (by decide +kernel)) (ea_cons (ev_str (by decide +kernel)) (ea_cons (ev_str (by decide +kernel)) (ea_cons (ev_str (by decide +kernel)) ea_nil))))))))) (by show 9 ≤ 100000; decide)) (fun xs hx => by subst hx; exact ⟨by simp, by simp⟩)).imp fun v H3 _ hv => ?_) fun v hv => ?_
    · obtain ⟨xs, rfl, hm⟩ := hv
      simp only [List.mem_cons, List.not_mem_nil, or_false] at hm
      rcases hm with rfl | rfl | rfl | rfl | rfl | rfl | rfl | rfl | rfl <;> exact ⟨_, rfl, by rfl, by decide⟩
    obtain ⟨more, rfl, hmo, hml⟩ := hv
    refine s_ret (m := n) (p := tx fun s => asc s ∧ s.length ≤ 1000) ?_ fun v H3 e3 hv => q v H3 ⟨e3.1, (e1.2.trans e2.2).trans e3.2⟩ hv
    have hz : (0 : Int) ≤ at_ + (if decide (0 < way) = true then 1 else 0) := by split <;> omega
    refine (ev_addT (m := n) (F := fun s => asc s ∧ s.length ≤ 404) (G := fun s => asc s ∧ s.length ≤ 400) ((ev_addT (m := n) (F := (· = f0.take at_.toNat)) (G := fun s => asc s ∧ s.length ≤ 4) (EvP.tx (ev_is (ev_sl (m := n) (k := n) (p := is (sv f0)) (ev_var rfl) eo_none (eo_some (ev_var rfl)) fun x H3 _ hx => by rw [show x = sv f0 from hx]; exact rs_S (by omega)) (by rw [sl_to ha0])) rfl) ?_ (fun x y hx hy => by subst hx; rw [List.length_take]; omega)).txImp fun u hu => ?_) (EvP.tx (ev_is (ev_sl (m := n) (k := n) (lo := some (at_ + (if decide (0 < way) = true then 1 else 0))) (p := is (sv f0)) (ev_var rfl) (eo_some (ev_op2 (m := n) (ev_var rfl) (ev_intB (ev_op2 (m := n) (ev_var rfl) ev_c fun H3 _ => rv_gtI)) fun H3 _ => rv_addI)) eo_none fun x H3 _ hx => by rw [show x = sv f0 from hx]; exact rs_S (by omega)) (by rw [sl_from hz])) ⟨asc_drop hf0, by rw [List.length_drop]; omega⟩) (fun x y hx hy => by omega)).txImp fun u hu => ?_
    · refine (ev_ixG (m := n) (F := (· = [sv more, sv [], sv more])) (Gi := (· = .int way)) (ev_lstV (vs := [sv more, sv [], sv more]) (ea_cons (ev_var rfl) (ea_cons (ev_str (by decide +kernel)) (ea_cons (ev_var rfl) ea_nil))) (by show 3 ≤ 100000; decide)) ((ev_var rfl).asG rfl) (fun xs v hx hv => ⟨way, hv, hw0, by subst hx; show way < 3; omega⟩)).imp fun v H3 _ hv => ?_
      obtain ⟨xs, rfl, hm⟩ := hv
      simp only [List.mem_cons, List.not_mem_nil, or_false] at hm
      rcases hm with rfl | rfl | rfl
      · exact ⟨_, rfl, hmo, hml⟩
      · exact ⟨_, rfl, by rfl, by decide⟩
      · exact ⟨_, rfl, hmo, hml⟩
    · obtain ⟨x, y, rfl, ⟨h1, h2⟩, rfl⟩ := hu
      exact ⟨asc_app (asc_take hf0) h1, by rw [List.length_append, List.length_take]; omega⟩
    · obtain ⟨x, y, ⟨h1, h2⟩, ⟨h3, h4⟩, rfl⟩ := hu
      exact ⟨asc_app h1 h3, by rw [List.length_append]; omega⟩

end
end My
namespace My
open PySem PySem.Spec PyProof.Rows L2
section
variable {P : Program} {w : World} {K : PySem.W.Frag} {mg : Str → Option Value} {base : Heap}
/-! ### the law -/
abbrev N_law : List Str := ["_law_script", "_law_forms", "_law_source_here", "_law_near", "_law_things", "_law_thing", "_law_form", "_law_found"]
theorem sc_law : FnScope N_law ["_law_script"] (defScope s_law) := ⟨rfl, rfl, rfl, by decide +kernel, rfl, by decide +kernel, by decide +kernel⟩
-- slots: 0 _law_script, 1 _law_forms, 2 _law_source_here, 3 _law_near, 4 _law_things, 5 _law_thing, 6 _law_form, 7 _law_found
/-- what is judged: a text, or none -/
def thing (K : PySem.W.Frag) : SP := ⟨fun M v H => ∃ x, tOrN K x M v H, fun e ⟨x, h⟩ => by
    cases x with
    | some l => exact ⟨some l, h⟩
    | none => exact ⟨none, (noStr K).st e h⟩, fun w ⟨x, h⟩ => by
    cases x with
    | some l => exact ⟨some l, h⟩
    | none => exact ⟨none, (noStr K).lift w h⟩⟩
def Ft (v : V) : Prop := ∃ s, v = sv s ∧ asc s ∧ s.length ≤ 1000
def nears : List Codes := [cs "TRUE", cs "FALSE", cs "true", cs "True", cs "TRUE ", cs "FALS", cs " TRUE", cs "TRUEFALSE", cs "0", cs "", cs " "]
theorem nears_ok : nears.all (fun s => s.all (· < 128) && decide (s.length ≤ 1000)) = true := by decide +kernel
theorem nears_ft {v : V} (h : v ∈ nears.map sv) : Ft v := by
  obtain ⟨s, hs, rfl⟩ := List.mem_map.mp h
  have h := List.all_eq_true.mp nears_ok s hs
  rw [Bool.and_eq_true] at h
  exact ⟨s, rfl, h.1, of_decide_eq_true h.2⟩
def formVs : List V := [sv (synN 0), sv (synN 1), sv (synN 2), sv (synN 3), sv (synN 4)]
theorem formVs_at {i : Nat} {w : V} (h : formVs[i]? = some w) : ∃ k, k ≤ 4 ∧ w = sv (synN k) := by
  have := List.mem_of_getElem? h
  simp only [formVs, List.mem_cons, List.not_mem_nil, or_false] at this
  rcases this with rfl | rfl | rfl | rfl | rfl
  · exact ⟨0, by decide, rfl⟩
  · exact ⟨1, by decide, rfl⟩
  · exact ⟨2, by decide, rfl⟩
  · exact ⟨3, by decide, rfl⟩
  · exact ⟨4, by decide, rfl⟩
theorem ev_tupNo {R : Rel} {n m : Nat} {σ : L2.St} {H : Hp} {tar : TA} {ps : List SP} (h : EvA R n m tar σ H ps) (hl : ps.length ≤ 100000) : EvP R n m (tTup tar) σ H (noStr K) := fun H1 e Q f =>
  h H1 e _ fun vs H2 e2 hv => ⟨by rw [hv.length]; exact Evl.sz_of hl, fun l hl => f _ _ (R.trans e2 (R.new e2.1 hl)) (.inr (.inr (.inr (.inr (.inl ⟨l, vs, rfl, upd_same, R.fresh e2.1 hl⟩)))))⟩
theorem ev_lstNo {R : Rel} {n m : Nat} {σ : L2.St} {H : Hp} {tar : TA} {ps : List SP} (h : EvA R n m tar σ H ps) (hl : ps.length ≤ 100000) : EvP R n m (tLst tar) σ H (noStr K) := fun H1 e Q f =>
  h H1 e _ fun vs H2 e2 hv => ⟨by rw [hv.length]; exact Evl.sz_of hl, fun l hl => f _ _ (R.trans e2 (R.new e2.1 hl)) (.inr (.inr (.inr (.inl ⟨l, vs, rfl, upd_same, R.fresh e2.1 hl⟩))))⟩
theorem ev_dicNo {R : Rel} {n : Nat} {σ : L2.St} {H : Hp} : EvP R n n tDNewK σ H (noStr K) := fun H1 e Q f p hp => f _ _ (R.new e.1 hp) (.inr (.inr (.inr (.inr (.inr ⟨p, rfl, upd_same, R.fresh e.1 hp⟩)))))
theorem c_law (T : Tx K mg) {f : Addr} {fd : FuncData} (F : FunD K "law" "law" (defArgs s_law) (defBody s_law) (defScope s_law) [] [] f fd) : FnOk P w K mg base CX0 6 f fd ["_law_script"] (sp_law K) := by
  have C_l_rounds := c_l_rounds (P := P) (w := w) (base := base) T
  have C_l_name_line := c_l_name_line (P := P) (w := w) (base := base) T
  have C_l_long := c_l_long (P := P) (w := w) (base := base) T
  have C_l_digits := c_l_digits (P := P) (w := w) (base := base) T
  have C_l_pick := c_l_pick (P := P) (w := w) (base := base) T
  have C_l_string := c_l_string (P := P) (w := w) (base := base) T
  have C_is_valid := c_is_valid (P := P) (w := w) (base := base) T
  have C_l_is_valid := c_l_is_valid (P := P) (w := w) (base := base) T
  have C_has_order := c_has_order (P := P) (w := w) (base := base) T
  refine FunD_fn F sc_law (fun vs H Q E h => ?_) (fun cdv A outer s H vs Q E hr h => ?_)
  · obtain ⟨a, ns, rfl, _⟩ := h
    rfl
  · obtain ⟨a, ns, rfl, hS, hlen, q⟩ := h
    refine ⟨_, (pss_cons (ps_set (i := 1) sc_law.nd rfl (by first | exact Or.inl rfl | exact Or.inr rfl) (pe_lst (pa_cons pe_str (pa_cons pe_str (pa_cons pe_str (pa_cons pe_str (pa_cons pe_str pa_nil)))))))
      (pss_cons (ps_for PassesOwn.never rfl (pi_any (K := K) (pe_callC C_l_rounds (hr.mono (by decide)) (by rfl) (pa_cons (pv 0) (pa_cons pe_int pa_nil)))) (pg_name (i := 2) sc_law.nd rfl (by first | exact Or.inl rfl | exact Or.inr rfl))
      (pss_cons (ps_set (i := 3) sc_law.nd rfl (by first | exact Or.inl rfl | exact Or.inr rfl) (pe_lst (pa_cons pe_str (pa_cons pe_str (pa_cons pe_str (pa_cons pe_str (pa_cons pe_str (pa_cons pe_str (pa_cons pe_str (pa_cons pe_str (pa_cons pe_str (pa_cons pe_str (pa_cons pe_str pa_nil)))))))))))))
      (pss_cons (ps_set (i := 4) sc_law.nd rfl (by first | exact Or.inl rfl | exact Or.inr rfl) (pe_lst (pa_cons (pe_callC C_l_digits (hr.mono (by decide)) (by rfl) (pa_cons (pv 2) pa_nil)) (pa_cons (pe_callC C_l_digits (hr.mono (by decide)) (by rfl) (pa_cons (pv 2) pa_nil)) (pa_cons (pe_callC C_l_long (hr.mono (by decide)) (by rfl) (pa_cons (pv 2) pa_nil)) (pa_cons (pe_callC C_l_name_line (hr.mono (by decide)) (by rfl) (pa_cons (pv 2) pa_nil)) pa_nil))))))
      (pss_cons (ps_set (i := 4) sc_law.nd rfl (by first | exact Or.inl rfl | exact Or.inr rfl) (pe_op (op_Add (K := K)) (pv 4) (pe_lst (pa_cons (pe_callC C_l_string (hr.mono (by decide)) (by rfl) (pa_cons (pv 2) (pa_cons pe_int pa_nil))) (pa_cons (pe_callC C_l_pick (hr.mono (by decide)) (by rfl) (pa_cons (pv 2) (pa_cons (pv 3) pa_nil))) (pa_cons (pe_callC C_l_pick (hr.mono (by decide)) (by rfl) (pa_cons (pv 2) (pa_cons (pv 3) pa_nil))) pa_nil))))))
      (pss_cons (ps_expr (pe_bmK (K := K) PySem.F.plainAttrs_list PySem.F.slot_list_append PySem.F.type_list_append mt_append (pv 4) (pa_cons (pe_callC C_l_pick (hr.mono (by decide)) (by rfl) (pa_cons (pv 2) (pa_cons (pe_lst (pa_cons pe_non (pa_cons pe_int (pa_cons pe_bl (pa_cons (pe_lst (pa_cons pe_str pa_nil)) (pa_cons (pe_tup (pa_cons pe_str pa_nil)) (pa_cons pe_dnewK (pa_cons pe_int (pa_cons (pe_lst pa_nil) pa_nil))))))))) pa_nil))) pa_nil)))
      (pss_one (ps_for PassesOwn.never rfl (pi_any (K := K) (pv 4)) (pg_name (i := 5) sc_law.nd rfl (by first | exact Or.inl rfl | exact Or.inr rfl))
      (pss_one (ps_for PassesOwn.never rfl (pi_any (K := K) (pv 1)) (pg_name (i := 6) sc_law.nd rfl (by first | exact Or.inl rfl | exact Or.inr rfl))
      (pss_cons (ps_set (i := 7) sc_law.nd rfl (by first | exact Or.inl rfl | exact Or.inr rfl) (pe_callC C_is_valid (hr.mono (by decide)) (by rfl) (pa_cons (pv 6) (pa_cons (pv 5) pa_nil))))
      (pss_one (ps_if (PW.pt (pw_or (pt_not (pt_val (pe_callB (call_isiA (K := K)) (by rfl) T.b_isinstance (by decide +kernel) (pa_cons (pv 7) (pa_cons (pe_bty (T := "bool") (by rfl) T.b_bool (by decide +kernel)) pa_nil))))) (pw_or1 (pt_cmpR (cm_NotEq (K := K) hr.units) (pv 7) (pe_callC C_l_is_valid (hr.mono (by decide)) (by rfl) (pa_cons (pv 6) (pa_cons (pv 5) pa_nil))) (nomark _))))) (pss_one (ps_ret pe_bl)) pss_nil))))))))))))
      (pss_cons (ps_if (pt_cmpR (cm_NotEq (K := K) hr.units) (pe_lc (own := [("_law_form", 6)]) (by rfl) sc_law.nd (pi_any (K := K) (pv 1)) (blkOk_by (own := [("_law_form", 6)]) (N := N_law) (sc := defScope s_law) (by decide +kernel)) (fun _ _ _ _ _ => (pg_name (i := 6) sc_law.nd rfl (by first | exact Or.inl rfl | exact Or.inr rfl))) (fun _ _ _ _ _ => pts_nil) (fun _ _ _ _ _ => (pe_callC C_has_order (hr.mono (by decide)) (by rfl) (pa_cons (pv 6) pa_nil)))) (pe_lst (pa_cons pe_bl (pa_cons pe_bl (pa_cons pe_bl (pa_cons pe_bl (pa_cons pe_bl pa_nil)))))) (nomark _)) (pss_one (ps_ret pe_bl)) pss_nil)
      (pss_one (ps_ret (pe_and (pe_cmpR cm_Is (pe_callKw0 (ks := ["value", "syntax"]) [1, 0] C_is_valid T.d_is_valid (hr.mono (by decide)) (by rfl) (fun _ _ _ _ _ _ ws h => match ws, h with | [_, _], _ => rfl) (pk_cons pe_str (pk_cons pe_str pk_nil))) pe_bl (nomark _)) (pe_one (pe_cmpR cm_Is (pe_callKw0 (ks := ["syntax", "value"]) [0, 1] C_is_valid T.d_is_valid (hr.mono (by decide)) (by rfl) (fun _ _ _ _ _ _ ws h => match ws, h with | [_, _], _ => rfl) (pk_cons pe_str (pk_cons pe_str pk_nil))) pe_bl (nomark _))))))))), ?_⟩
    refine StF.run (R := exR) (n := 0) ?_ trivial
    have hval : ∀ {R : Rel} {n : Nat} {σ : L2.St} {H : Hp} {ta tb : TE} {k : Nat} {x : Option Codes} {v : V}, EvP R n n ta σ H (is (sv (synN k))) → EvP R n n tb σ H (is v) → tOrN K x R.M v H → k ≤ 4 → EvP R n n (tCall (sp_is_valid K) [] E0 (tCons ta (tCons tb tNil))) σ H (is (.bl (isValidL k x))) := fun {R n σ H ta tb k x v} ha hb hx hk =>
      ev_pure (post := fun x : Nat × Option Codes => is (.bl (isValidL x.1 x.2))) (k, x) (ea_cons ha (ea_cons hb ea_nil)) fun vs H1 e hv => by
        obtain ⟨v1, v2, rfl, h1, h2⟩ := two hv
        have h2 : v2 = v := h2
        subst h2
        refine ⟨v2, by rw [show v1 = _ from h1], hk, ?_⟩
        cases x with
        | some l => exact hx
        | none => exact (noStr K).st e.2 hx
    have hlval : ∀ {R : Rel} {n : Nat} {σ : L2.St} {H : Hp} {ta tb : TE} {k : Nat} {x : Option Codes} {v : V}, EvP R n n ta σ H (is (sv (synN k))) → EvP R n n tb σ H (is v) → tOrN K x R.M v H → k ≤ 4 → EvP R n n (tCall (sp_l_is_valid K) [] E0 (tCons ta (tCons tb tNil))) σ H (is (.bl (isValidL k x))) := fun {R n σ H ta tb k x v} ha hb hx hk =>
      ev_pure (post := fun x : Nat × Option Codes => is (.bl (isValidL x.1 x.2))) (k, x) (ea_cons ha (ea_cons hb ea_nil)) fun vs H1 e hv => by
        obtain ⟨v1, v2, rfl, h1, h2⟩ := two hv
        have h2 : v2 = v := h2
        subst h2
        refine ⟨v2, by rw [show v1 = _ from h1], hk, ?_⟩
        cases x with
        | some l => exact hx
        | none => exact (noStr K).st e.2 hx
    -- the forms
    refine q_asg (m := 0) (p := lstG (· = formVs)) (ev_lstV (vs := formVs) (ea_cons (ev_str (SX.S_tl _).symm) (ea_cons (ev_str (SX.S_tl _).symm) (ea_cons (ev_str (SX.S_tl _).symm) (ea_cons (ev_str (SX.S_tl _).symm) (ea_cons (ev_str (SX.S_tl _).symm) ea_nil))))) (by show 5 ≤ 100000; decide)) fun fv H0 e0 hf => ?_
    obtain ⟨FL, fxs, rfl, hFL, rfl⟩ := hf
    refine StF.seq ?_
    refine for_bindL (m := 0) (n2 := 0) (p := SP.ex fun m : { m : Nat // m ≤ 64 } => lstP (fun _ : Nat => lstG isSrc3) (List.range m.1)) ?_ fun v H1 e1 hv => ?_
    · refine ev_pure (post := fun _ : List Int × Nat => SP.ex fun m : { m : Nat // m ≤ 64 } => lstP (fun _ : Nat => lstG isSrc3) (List.range m.1)) (ns, 4) (ea_cons (ev_var (v := .ref a) rfl) (ea_cons (ev_c (v := .int 4)) ea_nil)) fun vs H1 e hv => ?_
      obtain ⟨v1, v2, rfl, h1, h2⟩ := two hv
      refine ⟨a, by rw [show v1 = _ from h1, show v2 = _ from h2]; rfl, ?_, hlen, by show 4 ≤ 30; decide⟩
      exact (SqM.ofL hS fun z => z).st (e0.2.trans e.2)
    · obtain ⟨⟨m, hm⟩, L, xs, rfl, hL, hpr⟩ := hv
      obtain ⟨ps, rfl, hpl, hsrc⟩ := srcs_of hpr
      rw [List.length_range] at hpl
      have hpl : ps.length = m := hpl
      refine ⟨allR ps, 0 + (ps.map V.ref).length * 500, allR_start hsrc (by rw [List.length_map, hpl]; have : m ≤ 64 := hm; omega), ?_⟩
      have hLn := src_not hL.1 hsrc
      have hF1 : H1 FL = some (.lst formVs) := e1.2 _ _ (fun z => z) hFL.1
      have hFn : ¬ (allR ps).M FL := fun hm => by
        obtain ⟨c, k, d, e, _⟩ := hsrc FL hm
        rw [hF1] at e
        cases e
      refine s_forC (fun i => 0 + ((ps.map V.ref).length - i) * 500) (vs := ps.map V.ref) (it_list0 ev_c (.of hL.1 hLn)) (fun i σ' => ∃ y2 y3 y4 y5 y6 y7, σ' = [some (.ref a), some (.ref FL), y2, y3, y4, y5, y6, y7]) ⟨none, none, none, none, none, none, rfl⟩ (fun B i w σ' eb hw hI => ?_) fun σ' H' e' hI => ?_
      · obtain ⟨y2, y3, y4, y5, y6, y7, rfl⟩ := hI
        rw [List.getElem?_map] at hw
        obtain ⟨p, hp, rfl⟩ := Option.map_eq_some_iff.mp hw
        have hlt := (List.getElem?_eq_some_iff.mp hp).1
        have hpm := List.mem_of_getElem? hp
        have hs : HasSrc (allR ps) p := allSrc hpm
        have hcr : 0 + ((ps.map V.ref).length - i) * 500 = 0 + ((ps.map V.ref).length - (i + 1)) * 500 + 500 := by
          rw [List.length_map]
          omega
        rw [hcr]
        generalize hN : 0 + ((ps.map V.ref).length - (i + 1)) * 500 = N
        have hFB : B FL = some (.lst formVs) := eb.2 _ _ hFn hF1
        -- near
        refine q_asg (m := N + 500) (p := lstG (· = nears.map sv)) (ev_lstV (vs := nears.map sv) (ea_cons (ev_str (SX.S_tl _).symm) (ea_cons (ev_str (SX.S_tl _).symm) (ea_cons (ev_str (SX.S_tl _).symm) (ea_cons (ev_str (SX.S_tl _).symm) (ea_cons (ev_str (SX.S_tl _).symm) (ea_cons (ev_str (SX.S_tl _).symm) (ea_cons (ev_str (SX.S_tl _).symm) (ea_cons (ev_str (SX.S_tl _).symm) (ea_cons (ev_str (SX.S_tl _).symm) (ea_cons (ev_str (SX.S_tl _).symm) (ea_cons (ev_str (SX.S_tl _).symm) ea_nil))))))))))) (by show 11 ≤ 100000; decide)) fun nv H2 e2 hnv => ?_
        -- things
        have hdig : ∀ {m : Nat} {σ : L2.St} {H : Hp}, σ[2]? = some (some (.ref p)) → EvP (allR ps) (m + 36) m (tCall sp_l_digits [] E0 (tCons (tVar 2) tNil)) σ H (sat Ft) := fun {m σ H} h2 =>
          (ev_draw (cost := fun _ : Unit => 36) (post := fun _ : Unit => tx fun s => asc s ∧ s.length ≤ 70) () hs (ea_cons (p := is (.ref p)) (ev_var h2) ea_nil) fun vs H3 _ hv => by
            obtain ⟨v, rfl, hv1⟩ := one hv
            rw [show v = _ from hv1]).imp fun v H3 _ ⟨s, e, h1, h2⟩ => ⟨s, e, h1, by omega⟩
        have hlon : ∀ {m : Nat} {σ : L2.St} {H : Hp}, σ[2]? = some (some (.ref p)) → EvP (allR ps) (m + 3) m (tCall sp_l_long [] E0 (tCons (tVar 2) tNil)) σ H (sat Ft) := fun {m σ H} h2 =>
          (ev_draw (cost := fun _ : Unit => 3) (post := fun _ : Unit => tx fun s => asc s ∧ s.length ≤ 70) () hs (ea_cons (p := is (.ref p)) (ev_var h2) ea_nil) fun vs H3 _ hv => by
            obtain ⟨v, rfl, hv1⟩ := one hv
            rw [show v = _ from hv1]).imp fun v H3 _ ⟨s, e, h1, h2⟩ => ⟨s, e, h1, by omega⟩
        have hnam : ∀ {m : Nat} {σ : L2.St} {H : Hp}, σ[2]? = some (some (.ref p)) → EvP (allR ps) (m + 382) m (tCall (sp_l_name_line K) [] E0 (tCons (tVar 2) tNil)) σ H (sat Ft) := fun {m σ H} h2 =>
          (ev_draw (cost := fun _ : Unit => 382) (post := fun _ : Unit => tx fun s => asc s ∧ s.length ≤ 1000) () hs (ea_cons (p := is (.ref p)) (ev_var h2) ea_nil) fun vs H3 _ hv => by
            obtain ⟨v, rfl, hv1⟩ := one hv
            rw [show v = _ from hv1]).imp fun v H3 _ ⟨s, e, h1, h2⟩ => ⟨s, e, h1, h2⟩
        refine q_asg (m := N + 43) (p := lstG fun xs => xs.length = 4 ∧ ∀ v ∈ xs, Ft v) (ev_lstR (c := 4) (ea_cons (m := N + 464) (hdig (m := N + 464) rfl) (ea_cons (m := N + 428) (hdig (m := N + 428) rfl) (ea_cons (m := N + 425) (hlon (m := N + 425) rfl) (ea_cons (m := N + 43) (hnam (m := N + 43) rfl) ea_nil)))) (by decide)) fun tv H3 e3 htv => ?_
        have hnv3 := (lstG (· = nears.map sv)).st e3.2 hnv
        have hnear : ∀ {m : Nat} {σ : L2.St}, σ[2]? = some (some (.ref p)) → σ[3]? = some (some nv) → EvP (allR ps) (m + 1) m (tCall sp_l_pick [] E0 (tCons (tVar 2) (tCons (tVar 3) tNil))) σ H3 (sat Ft) := fun {m σ} h2 h3 =>
          (ev_pickL (F := (· = nears.map sv)) hs (ev_var h2) (ev_varP h3 hnv3) (fun xs hx => by subst hx; rw [List.length_map]; decide)).imp fun v H4 _ ⟨xs, e, h⟩ => by
            subst e
            exact nears_ft h
        have hstr : ∀ {m : Nat} {σ : L2.St} {H : Hp}, σ[2]? = some (some (.ref p)) → EvP (allR ps) (m + 12) m (tCall sp_l_string [] E0 (tCons (tVar 2) (tCons (tC (.int 9)) tNil))) σ H (sat Ft) := fun {m σ H} h2 =>
          (ev_draw (cost := fun most : Nat => most + 3) (post := fun most => tx fun s => prn s ∧ inky s ∧ 0 < s.length ∧ s.length ≤ most) 9 hs (ea_cons (p := is (.ref p)) (ev_var h2) (ea_cons (ev_c (v := .int 9)) ea_nil)) fun vs H3 _ hv => by
            obtain ⟨v, w, rfl, hv1, hw1⟩ := two hv
            exact ⟨by rw [show v = _ from hv1, show w = _ from hw1]; rfl, by decide, by decide⟩).imp fun v H3 _ ⟨s, e, h1, h2, h3, h4⟩ => ⟨s, e, prn_asc h1, by omega⟩
        refine q_asgN (m := N + 29) (G := fun zs => ∃ xs ys : List V, (xs.length = 4 ∧ ∀ v ∈ xs, Ft v) ∧ (ys.length = 3 ∧ ∀ v ∈ ys, Ft v) ∧ zs = xs ++ ys) (ev_catN (m := N + 43) (ev_varP rfl htv) (ev_lstR (c := 3) (ea_cons (m := N + 31) (hstr (m := N + 31) rfl) (ea_cons (m := N + 30) (hnear (m := N + 30) rfl rfl) (ea_cons (m := N + 29) (hnear (m := N + 29) rfl rfl) ea_nil))) (by decide)) fun xs ys hx hy => by omega) fun LT H4 zs e4 hLT0 hLT hz => ?_
        have hz : zs.length = 7 ∧ ∀ v ∈ zs, Ft v := by
          obtain ⟨xs, ys, ⟨h1, h2⟩, ⟨h3, h4⟩, rfl⟩ := hz
          refine ⟨by rw [List.length_append, h1, h3], fun v hv => ?_⟩
          exact (List.mem_append.mp hv).elim (h2 v) (h4 v)
        have eB3 := (allR ps).trans e2 e3
        have eB4 := (allR ps).trans eB3 e4
        have hLTB : B LT = none := old_none eB3 hLT0
        have hF4 : H4 FL = some (.lst formVs) := eB4.2 _ _ hFn hFB
        have neF : FL ≠ LT := fun z => by rw [z, hLTB] at hFB; cases hFB
        -- things.append(..)
        refine StF.seq (fun H5 e5 => ?_)
        have hL5 := e5.2 _ _ hLT.2 hLT.1
        refine StF.run (R := (allR ps).at LT zs) (n := N + 29) (H := H5) ?_ ⟨e5.1, hL5⟩
        have hs2 : HasSrc ((allR ps).at LT zs) p := hs.at hLT.2
        refine s_appA (m := N + 28) (q := thing K) rfl ((ev_pickP (pe := fun _ : Unit => noStr K) (ys := List.replicate 8 ()) hs2 (ev_var rfl) (ev_lstMap (ys := List.replicate 8 ()) (ea_cons (m := N + 29) (ev_cP (p := noStr K) (.inl rfl)) (ea_cons (m := N + 29) (ev_cP (p := noStr K) (.inr (.inl ⟨_, rfl⟩))) (ea_cons (m := N + 29) (ev_cP (p := noStr K) (.inr (.inr (.inl ⟨_, rfl⟩)))) (ea_cons (m := N + 29) (ev_lstNo (ea_cons (ev_c (v := .str "a")) ea_nil) (by show 1 ≤ 100000; decide)) (ea_cons (m := N + 29) (ev_tupNo (ea_cons (ev_c (v := .str "a")) ea_nil) (by show 1 ≤ 100000; decide)) (ea_cons (m := N + 29) ev_dicNo (ea_cons (m := N + 29) (ev_cP (p := noStr K) (.inr (.inl ⟨_, rfl⟩))) (ea_cons (m := N + 29) (ev_lstNo ea_nil (by show 0 ≤ 100000; decide)) ea_nil)))))))) (by decide)) (by decide)).imp fun v H6 _ ⟨_, h⟩ => ⟨none, h⟩) (by omega) fun lv H6 e6 hlv => ?_
        have hLv : (thing K).P (allR ps).M lv (upd H6 LT (.lst (zs ++ [lv]))) := (thing K).lift (M := ((allR ps).at LT zs).M) (fun a m => .inl (.inl m)) ((thing K).st (pres.upd (.inr rfl)) hlv)
        have hall : ∀ w ∈ zs ++ [lv], (thing K).P (allR ps).M w (upd H6 LT (.lst (zs ++ [lv]))) := fun w hw => by
          rcases List.mem_append.mp hw with hw | hw
          · obtain ⟨s, e, h1, h2⟩ := hz.2 w hw
            exact ⟨some s, e, h1, h2⟩
          · rw [List.mem_singleton.mp hw]
            exact hLv
        have p6 : pres (allR ps).M B H6 := fun b o mb hb => by
          have ne : b ≠ LT := fun z => by rw [z, hLTB] at hb; cases hb
          exact e6.2 b o (fun z => z.elim mb ne) (e5.2 b o mb (eB4.2 b o mb hb))
        have e7 : (allR ps).ok N B (upd H6 LT (.lst (zs ++ [lv]))) := ⟨(allR ps).put ((allR ps).dec e6.1.1 (by omega)) hLT.2, pres_upd0 p6 hLTB⟩
        have hF7 : (upd H6 LT (.lst (zs ++ [lv]))) FL = some (.lst formVs) := e7.2 _ _ hFn hFB
        have hL7 : (upd H6 LT (.lst (zs ++ [lv]))) LT = some (.lst (zs ++ [lv])) := upd_same
        generalize upd H6 LT (.lst (zs ++ [lv])) = H7 at hLv hall e7 hF7 hL7 ⊢
        dsimp only
        refine StF.run (R := allR ps) (n := N) (H := H7) ?_ e7.1
        refine s_forV (vs := zs ++ [lv]) (it_list (ev_var rfl) (.of hL7 hLT.2)) (fun _ σ3 => ∃ y5 y6 y7, σ3 = [some (.ref a), some (.ref FL), some (.ref p), some nv, some (.ref LT), y5, y6, y7]) ⟨_, _, _, rfl⟩ (fun B5 i5 w5 σ5 eb5 hw5 hI5 => ?_) fun σ5 H9 e9 hI5 => ?_
        · obtain ⟨u5, u6, u7, rfl⟩ := hI5
          obtain ⟨x5, hx5⟩ := (thing K).st eb5.2 (hall w5 (List.mem_of_getElem? hw5))
          have hF5 := eb5.2 _ _ hFn hF7
          refine s_forV (vs := formVs) (it_list (ev_var rfl) (.of hF5 hFn)) (fun _ σ3 => ∃ y6 y7, σ3 = [some (.ref a), some (.ref FL), some (.ref p), some nv, some (.ref LT), some w5, y6, y7]) ⟨_, _, rfl⟩ (fun B6 i6 w6 σ6 eb6 hw6 hI6 => ?_) fun σ6 H8 e8 hI6 => ?_
          · obtain ⟨v6, v7, rfl⟩ := hI6
            obtain ⟨k, hk, rfl⟩ := formVs_at hw6
            have hx6 : tOrN K x5 (allR ps).M w5 B6 := by
              cases x5 with
              | some l => exact hx5
              | none => exact (noStr K).st eb6.2 hx5
            refine q_asgV (m := N) (v := .bl (isValidL k x5)) (hval (ev_var rfl) (ev_var rfl) hx6 hk) ?_
            refine s_when (m := N) (G := (· = false)) ?_ (fun z => nomatch z) (fun _ H8 e8 => ⟨e8, _, _, rfl⟩)
            refine et_is (et_or (a := false) (b := false) (et_is (et_not (et_B (ev_isBool (ev_var (v := .bl (isValidL k x5)) rfl) ev_c))) rfl) fun _ => ?_) rfl
            refine et_is (et_test (ev_op2 (m := N) (x := .bl (isValidL k x5)) (y := .bl (isValidL k x5)) (ev_var rfl) (hlval (ev_var rfl) (ev_var rfl) hx6 hk) fun H8 _ => rv_neB)) (by simp)
          · obtain ⟨v6, v7, rfl⟩ := hI6
            exact ⟨e8, _, _, _, rfl⟩
        · obtain ⟨u5, u6, u7, rfl⟩ := hI5
          exact ⟨(allR ps).trans e7 e9, _, _, _, _, _, _, rfl⟩
      · obtain ⟨y2, y3, y4, y5, y6, y7, rfl⟩ := hI
        dsimp only
        have hF9 : H' FL = some (.lst formVs) := e'.2 _ _ hFn hF1
        refine StF.run (R := exR) (n := 0) ?_ trivial
        refine q_whenB (m := 0) (b := false) ?_ (fun z => nomatch z) (fun _ => ?_)
        · have hlc := ev_lcV (R := exR) (n := 0) (m := 0) (σ := [some (.ref a), some (.ref FL), y2, y3, y4, y5, y6, y7]) (H := H') (t := tYes) (te := tCall sp_has_order [] E0 (tCons (tVar 6) tNil)) (vs := [6]) (j := 6) (ws := formVs) (fun _ => true) (fun v => .bl (decide (v = sv (synN 0) ∨ v = sv (synN 1) ∨ v = sv (synN 2)))) (it_list (K := K) (te := tVar 1) (ev_var rfl) (.of hF9 fun z => z)) (by decide) (fun x => rfl) (fun R' H2 w ex hw => ⟨fun H3 e Q k => k true H3 (R'.refl e) rfl, fun _ => by
            obtain ⟨i, hi⟩ := List.getElem?_of_mem hw
            obtain ⟨k, hk, rfl⟩ := formVs_at hi
            refine ev_is (ev_pure (post := fun k : Nat => is (.bl (decide (k ≤ 2)))) k (ea_cons (ev_var (v := sv (synN k)) rfl) ea_nil) fun vs H3 _ hv => ?_) ?_
            · obtain ⟨v, rfl, hv1⟩ := one hv
              exact ⟨by rw [show v = _ from hv1], hk⟩
            · have hk : k = 0 ∨ k = 1 ∨ k = 2 ∨ k = 3 ∨ k = 4 := by omega
              rcases hk with rfl | rfl | rfl | rfl | rfl <;> decide +kernel⟩)
          refine et_test (ev_op (m := 0) (q := lstG (· = [.bl true, .bl true, .bl true, .bl false, .bl false])) (ev_is2 (ys := [.bl true, .bl true, .bl true, .bl false, .bl false]) hlc (by decide +kernel)) (ev_lstV (vs := [.bl true, .bl true, .bl true, .bl false, .bl false]) (ea_cons ev_c (ea_cons ev_c (ea_cons ev_c (ea_cons ev_c (ea_cons ev_c ea_nil))))) (by show 5 ≤ 100000; decide)) fun u v H2 e2 hu hv nn jj Q f2 => ?_)
          obtain ⟨l1, x1, rfl, h1, rfl⟩ := hu
          obtain ⟨l2, x2, rfl, h2, rfl⟩ := hv
          exact .inr ⟨_, _, .lst h1.sq (.cons (.bl _) (.cons (.bl _) (.cons (.bl _) (.cons (.bl _) (.cons (.bl _) .nil))))), .lst h2.sq (.cons (.bl _) (.cons (.bl _) (.cons (.bl _) (.cons (.bl _) (.cons (.bl _) .nil))))), by rfl, by rfl, f2 _ H2 (exR.self jj) (by show V.bl _ = V.bl false; rfl)⟩
        · refine s_ret (m := 0) (p := is (.bl true)) ?_ fun v H2 _ hv => by
            rw [show v = .bl true from hv]
            exact q H2
          have hkw : ∀ {σ : L2.St} {H : Hp} (k : Nat) (a b : Str), k ≤ 4 → a = SX.S (synN k) → b = SX.S [49, 48] → EvP exR 0 0 (tCallK0 2 (sp_is_valid K) [1, 0] (tCons (tC (.str b)) (tCons (tC (.str a)) tNil))) σ H (is (.bl (isValidL k (some [49, 48])))) := fun {σ H} k a b hk ha hb => by
            refine ev_callKw (m := 0) (ps := [is (sv [49, 48]), is (sv (synN k))]) (ea_cons (ev_str hb) (ea_cons (ev_str ha) ea_nil)) rfl fun vs H1 e hv Q f2 => ?_
            obtain ⟨v1, v2, rfl, h1, h2⟩ := two hv
            exact ⟨exR, 0, (k, some [49, 48]), e.1, ⟨sv [49, 48], by rw [show v1 = _ from h1, show v2 = _ from h2]; rfl, hk, rfl, by rfl, by decide⟩, f2⟩
          have hkw2 : ∀ {σ : L2.St} {H : Hp} (k : Nat) (a b : Str), k ≤ 4 → a = SX.S (synN k) → b = SX.S [49, 48] → EvP exR 0 0 (tCallK0 2 (sp_is_valid K) [0, 1] (tCons (tC (.str a)) (tCons (tC (.str b)) tNil))) σ H (is (.bl (isValidL k (some [49, 48])))) := fun {σ H} k a b hk ha hb => by
            refine ev_callKw (m := 0) (ps := [is (sv (synN k)), is (sv [49, 48])]) (ea_cons (ev_str ha) (ea_cons (ev_str hb) ea_nil)) rfl fun vs H1 e hv Q f2 => ?_
            obtain ⟨v1, v2, rfl, h1, h2⟩ := two hv
            exact ⟨exR, 0, (k, some [49, 48]), e.1, ⟨sv [49, 48], by rw [show v1 = _ from h1, show v2 = _ from h2]; rfl, hk, rfl, by rfl, by decide⟩, f2⟩
          have e1 : isValidL 2 (some [49, 48]) = true := by decide +kernel
          have e2 : isValidL 3 (some [49, 48]) = false := by decide +kernel
          refine ev_is (ev_andV (a := true) (b := true) (ev_is (ev_op2 (m := 0) (x := .bl (isValidL 2 (some [49, 48]))) (y := .bl true) (hkw 2 _ _ (by decide) (by decide +kernel) (by decide +kernel)) ev_c fun H7 _ => rv_isB) (by rw [e1]; rfl)) fun _ => ev_is (ev_op2 (m := 0) (x := .bl (isValidL 3 (some [49, 48]))) (y := .bl false) (hkw2 3 _ _ (by decide) (by decide +kernel) (by decide +kernel)) ev_c fun H7 _ => rv_isB) (by rw [e2]; rfl)) rfl

end
end My
namespace My
open PySem PySem.Spec PyProof.Rows L2
-- plain
theorem law_end {P : Program} {w : World} {K : PySem.W.Frag} {h : Heap} {mg : Str → Option Value} {fa : Addr} (T : Tx K mg) (KX : K.In h) (hmg : mg ("law" : Str) = some (.ref fa)) :
    ∃ (K : PySem.W.Frag) (fd : FuncData) (sp : Sp), K.In h ∧ (∀ (s : Shared) (u : Value), BindsTo s fd ⟨[u], []⟩ [("_law_script", u)]) ∧
      (∀ (H : Hp) (a : Addr) (ns : List Int), ns.length ≤ 63 → Only H → SqL K H a (ns.map V.int) → sp [.ref a] H (fun v _ => v = .bl true) fun _ _ _ => False) ∧
      ∀ base : Heap, K.In base → base.Ns mainGlobals mg → FnOk P w K mg base CX0 6 fa fd ["_law_script"] sp := by
  obtain ⟨f, fd, F, hm⟩ := T.d_law.ex
  rw [hmg] at hm
  cases hm
  have b := FunD.bindsA (ps := ["_law_script"]) F fun _ _ _ _ _ _ us hl => match us, hl with | [_], _ => rfl
  refine ⟨K, fd, sp_law K, KX, fun s v => b s [v] rfl, fun H a ns hl _ hS => ⟨a, ns, rfl, hS, hl, fun _ => rfl⟩, fun base _ _ => c_law (P := P) (w := w) (base := base) T F⟩

end My
namespace My
open PySem PySem.Spec PyProof.Rows L2
def mkD (x : Str) (i : Nat) : He.DefD := ⟨(x, none), x, x, defArgs (topS i), defBody (topS i), defScope (topS i), [], []⟩
def hfn0 : List He.DefD := [mkD "is_word" 8, mkD "is_value" 9, mkD "plain_text" 10, mkD "is_plain" 11, mkD "escaped" 12, mkD "value_at" 13, mkD "read_name" 14, mkD "is_integer_text" 21, mkD "is_valid" 22, mkD "has_order" 23, mkD "_law_source" 25, mkD "_law_next" 26, mkD "_law_pick" 27, mkD "_law_rounds" 28, mkD "_law_is_word" 29, mkD "_law_is_text" 30, mkD "_law_split" 31, mkD "_law_bare" 32, mkD "_law_leaf" 33, mkD "_law_name" 34, mkD "_law_escaped" 35, mkD "_law_leaf_line" 36, mkD "_law_line" 37, mkD "_law_string" 38, mkD "_law_pairs" 39, mkD "_law_menu" 40, mkD "_law_digits" 41, mkD "_law_long" 42, mkD "_law_name_line" 43, mkD "_law_is_integer" 44]
def hfn1 : List He.DefD := [mkD "_law_is_valid" 45, mkD "law" 46]
def hfn : List He.DefD := hfn0 ++ hfn1
def hfa0 : List He.Fa := [(.glo "is_word"), (.glo "is_value"), (.glo "plain_text"), (.glo "is_plain"), (.glo "escaped"), (.glo "value_at"), (.glo "read_name"), (.glo "is_integer_text"), (.glo "is_valid"), (.glo "has_order"), (.glo "_law_source"), (.glo "_law_next"), (.glo "_law_pick"), (.glo "_law_rounds"), (.glo "_law_is_word"), (.glo "_law_is_text"), (.glo "_law_split"), (.glo "_law_bare"), (.glo "_law_leaf"), (.glo "_law_name"), (.glo "_law_escaped"), (.glo "_law_leaf_line"), (.glo "_law_line"), (.glo "_law_string"), (.glo "_law_pairs"), (.glo "_law_menu"), (.glo "_law_digits"), (.glo "_law_long"), (.glo "_law_name_line"), (.glo "_law_is_integer")]
def hfa1 : List He.Fa := [(.glo "_law_is_valid"), (.glo "law"), (.free "len"), (.free "isinstance"), (.free "str"), (.free "all"), (.free "enumerate"), (.free "tuple"), (.free "int"), (.free "sum"), (.free "list"), (.free "range"), (.free "max"), (.free "min"), (.free "bool"), (.int "MAX_WORD" 12), (.str "LETTERS" "abcdefghijklmnopqrstuvwxyz"), (.int "MAX_TEXT" 60), (.str "ESCAPED" ",+=\\"), (.str "BACKSLASH" "\\"), (.int "MAX_PAIRS" 4), (.int "MAX_LEAVES" 12), (.str "DIGITS" "0123456789"), (.int "MAX_DIGITS" 30), (.glo "TRUTHS"), (.int "MAX_VALUE" 60), (.glo "ORDERED")]
def hfa : List He.Fa := hfa0 ++ hfa1
def hloose0 : List Str := ["LETTERS", "MAX_WORD", "MAX_TEXT", "MAX_PAIRS", "MAX_LEAVES", "BACKSLASH", "ESCAPED", "is_word", "is_value", "plain_text", "is_plain", "escaped", "value_at", "read_name", "ORDERED", "TRUTHS", "MAX_VALUE", "MAX_DIGITS", "DIGITS", "is_integer_text", "is_valid", "has_order", "_law_source", "_law_next", "_law_pick", "_law_rounds", "_law_is_word", "_law_is_text", "_law_split", "_law_bare"]
def hloose1 : List Str := ["_law_leaf", "_law_name", "_law_escaped", "_law_leaf_line", "_law_line", "_law_string", "_law_pairs", "_law_menu", "_law_digits", "_law_long", "_law_name_line", "_law_is_integer", "_law_is_valid"]
def hloose : List Str := hloose0 ++ hloose1
def htup (K : PySem.W.Frag) : Bool := He.tupB K "TRUTHS" [He.Dv.str "TRUE", He.Dv.str "FALSE"] && He.tupB K "ORDERED" [He.Dv.str "text", He.Dv.str "exact", He.Dv.str "integer"]
abbrev hR : PySem.W.OpenRow := PySem.W.OpenLaw.row PySem.Challenge.rw_dirservice_k02_values_judged
abbrev hhk : PySem.W.Hook := He.hookX 4 hfa hfn [] [] htup
def hob (s : PySem.W.SharedT) : He.AlX := He.obsX 4 hfa hfn [] [] htup (HandSHeadRun.getT s)
theorem hob_eq (s : PySem.W.SharedT) : hob s = hhk.obs s.abs := He.obsX_eq (HandSHeadRun.getT_eq s)
theorem hrun (w : World) : HandSHeadRun.RunEq hR (PySem.W.view hR.prog [46]) hhk hob 3420 hloose w := by
  intro os
  kernel_rfl
theorem tx_of {w : World} {K : PySem.W.Frag} {h : Heap} {mg : Str → Option Value} (X : K.In h) (G : h.Ns mainGlobals mg) (c : He.SaysX hfa hfn [] [] htup w h K) : Tx K mg where
  d_is_word := by
    obtain ⟨fd, F⟩ := c.t.d.def_ 0 (d := mkD "is_word" 8) rfl
    exact ⟨_, fd, F, He.glo_ok X G (c.t.d.fact 0 (f := .glo "is_word") rfl)⟩
  d_is_value := by
    obtain ⟨fd, F⟩ := c.t.d.def_ 1 (d := mkD "is_value" 9) rfl
    exact ⟨_, fd, F, He.glo_ok X G (c.t.d.fact 1 (f := .glo "is_value") rfl)⟩
  d_plain_text := by
    obtain ⟨fd, F⟩ := c.t.d.def_ 2 (d := mkD "plain_text" 10) rfl
    exact ⟨_, fd, F, He.glo_ok X G (c.t.d.fact 2 (f := .glo "plain_text") rfl)⟩
  d_is_plain := by
    obtain ⟨fd, F⟩ := c.t.d.def_ 3 (d := mkD "is_plain" 11) rfl
    exact ⟨_, fd, F, He.glo_ok X G (c.t.d.fact 3 (f := .glo "is_plain") rfl)⟩
  d_escaped := by
    obtain ⟨fd, F⟩ := c.t.d.def_ 4 (d := mkD "escaped" 12) rfl
    exact ⟨_, fd, F, He.glo_ok X G (c.t.d.fact 4 (f := .glo "escaped") rfl)⟩
  d_value_at := by
    obtain ⟨fd, F⟩ := c.t.d.def_ 5 (d := mkD "value_at" 13) rfl
    exact ⟨_, fd, F, He.glo_ok X G (c.t.d.fact 5 (f := .glo "value_at") rfl)⟩
  d_read_name := by
    obtain ⟨fd, F⟩ := c.t.d.def_ 6 (d := mkD "read_name" 14) rfl
    exact ⟨_, fd, F, He.glo_ok X G (c.t.d.fact 6 (f := .glo "read_name") rfl)⟩
  d_is_integer_text := by
    obtain ⟨fd, F⟩ := c.t.d.def_ 7 (d := mkD "is_integer_text" 21) rfl
    exact ⟨_, fd, F, He.glo_ok X G (c.t.d.fact 7 (f := .glo "is_integer_text") rfl)⟩
  d_is_valid := by
    obtain ⟨fd, F⟩ := c.t.d.def_ 8 (d := mkD "is_valid" 22) rfl
    exact ⟨_, fd, F, He.glo_ok X G (c.t.d.fact 8 (f := .glo "is_valid") rfl)⟩
  d_has_order := by
    obtain ⟨fd, F⟩ := c.t.d.def_ 9 (d := mkD "has_order" 23) rfl
    exact ⟨_, fd, F, He.glo_ok X G (c.t.d.fact 9 (f := .glo "has_order") rfl)⟩
  d_l_source := by
    obtain ⟨fd, F⟩ := c.t.d.def_ 10 (d := mkD "_law_source" 25) rfl
    exact ⟨_, fd, F, He.glo_ok X G (c.t.d.fact 10 (f := .glo "_law_source") rfl)⟩
  d_l_next := by
    obtain ⟨fd, F⟩ := c.t.d.def_ 11 (d := mkD "_law_next" 26) rfl
    exact ⟨_, fd, F, He.glo_ok X G (c.t.d.fact 11 (f := .glo "_law_next") rfl)⟩
  d_l_pick := by
    obtain ⟨fd, F⟩ := c.t.d.def_ 12 (d := mkD "_law_pick" 27) rfl
    exact ⟨_, fd, F, He.glo_ok X G (c.t.d.fact 12 (f := .glo "_law_pick") rfl)⟩
  d_l_rounds := by
    obtain ⟨fd, F⟩ := c.t.d.def_ 13 (d := mkD "_law_rounds" 28) rfl
    exact ⟨_, fd, F, He.glo_ok X G (c.t.d.fact 13 (f := .glo "_law_rounds") rfl)⟩
  d_l_is_word := by
    obtain ⟨fd, F⟩ := c.t.d.def_ 14 (d := mkD "_law_is_word" 29) rfl
    exact ⟨_, fd, F, He.glo_ok X G (c.t.d.fact 14 (f := .glo "_law_is_word") rfl)⟩
  d_l_is_text := by
    obtain ⟨fd, F⟩ := c.t.d.def_ 15 (d := mkD "_law_is_text" 30) rfl
    exact ⟨_, fd, F, He.glo_ok X G (c.t.d.fact 15 (f := .glo "_law_is_text") rfl)⟩
  d_l_split := by
    obtain ⟨fd, F⟩ := c.t.d.def_ 16 (d := mkD "_law_split" 31) rfl
    exact ⟨_, fd, F, He.glo_ok X G (c.t.d.fact 16 (f := .glo "_law_split") rfl)⟩
  d_l_bare := by
    obtain ⟨fd, F⟩ := c.t.d.def_ 17 (d := mkD "_law_bare" 32) rfl
    exact ⟨_, fd, F, He.glo_ok X G (c.t.d.fact 17 (f := .glo "_law_bare") rfl)⟩
  d_l_leaf := by
    obtain ⟨fd, F⟩ := c.t.d.def_ 18 (d := mkD "_law_leaf" 33) rfl
    exact ⟨_, fd, F, He.glo_ok X G (c.t.d.fact 18 (f := .glo "_law_leaf") rfl)⟩
  d_l_name := by
    obtain ⟨fd, F⟩ := c.t.d.def_ 19 (d := mkD "_law_name" 34) rfl
    exact ⟨_, fd, F, He.glo_ok X G (c.t.d.fact 19 (f := .glo "_law_name") rfl)⟩
  d_l_escaped := by
    obtain ⟨fd, F⟩ := c.t.d.def_ 20 (d := mkD "_law_escaped" 35) rfl
    exact ⟨_, fd, F, He.glo_ok X G (c.t.d.fact 20 (f := .glo "_law_escaped") rfl)⟩
  d_l_leaf_line := by
    obtain ⟨fd, F⟩ := c.t.d.def_ 21 (d := mkD "_law_leaf_line" 36) rfl
    exact ⟨_, fd, F, He.glo_ok X G (c.t.d.fact 21 (f := .glo "_law_leaf_line") rfl)⟩
  d_l_line := by
    obtain ⟨fd, F⟩ := c.t.d.def_ 22 (d := mkD "_law_line" 37) rfl
    exact ⟨_, fd, F, He.glo_ok X G (c.t.d.fact 22 (f := .glo "_law_line") rfl)⟩
  d_l_string := by
    obtain ⟨fd, F⟩ := c.t.d.def_ 23 (d := mkD "_law_string" 38) rfl
    exact ⟨_, fd, F, He.glo_ok X G (c.t.d.fact 23 (f := .glo "_law_string") rfl)⟩
  d_l_pairs := by
    obtain ⟨fd, F⟩ := c.t.d.def_ 24 (d := mkD "_law_pairs" 39) rfl
    exact ⟨_, fd, F, He.glo_ok X G (c.t.d.fact 24 (f := .glo "_law_pairs") rfl)⟩
  d_l_menu := by
    obtain ⟨fd, F⟩ := c.t.d.def_ 25 (d := mkD "_law_menu" 40) rfl
    exact ⟨_, fd, F, He.glo_ok X G (c.t.d.fact 25 (f := .glo "_law_menu") rfl)⟩
  d_l_digits := by
    obtain ⟨fd, F⟩ := c.t.d.def_ 26 (d := mkD "_law_digits" 41) rfl
    exact ⟨_, fd, F, He.glo_ok X G (c.t.d.fact 26 (f := .glo "_law_digits") rfl)⟩
  d_l_long := by
    obtain ⟨fd, F⟩ := c.t.d.def_ 27 (d := mkD "_law_long" 42) rfl
    exact ⟨_, fd, F, He.glo_ok X G (c.t.d.fact 27 (f := .glo "_law_long") rfl)⟩
  d_l_name_line := by
    obtain ⟨fd, F⟩ := c.t.d.def_ 28 (d := mkD "_law_name_line" 43) rfl
    exact ⟨_, fd, F, He.glo_ok X G (c.t.d.fact 28 (f := .glo "_law_name_line") rfl)⟩
  d_l_is_integer := by
    obtain ⟨fd, F⟩ := c.t.d.def_ 29 (d := mkD "_law_is_integer" 44) rfl
    exact ⟨_, fd, F, He.glo_ok X G (c.t.d.fact 29 (f := .glo "_law_is_integer") rfl)⟩
  d_l_is_valid := by
    obtain ⟨fd, F⟩ := c.t.d.def_ 30 (d := mkD "_law_is_valid" 45) rfl
    exact ⟨_, fd, F, He.glo_ok X G (c.t.d.fact 30 (f := .glo "_law_is_valid") rfl)⟩
  d_law := by
    obtain ⟨fd, F⟩ := c.t.d.def_ 31 (d := mkD "law" 46) rfl
    exact ⟨_, fd, F, He.glo_ok X G (c.t.d.fact 31 (f := .glo "law") rfl)⟩
  b_len := He.free_ok X G (c.t.d.fact 32 (f := .free "len") rfl)
  b_isinstance := He.free_ok X G (c.t.d.fact 33 (f := .free "isinstance") rfl)
  b_str := He.free_ok X G (c.t.d.fact 34 (f := .free "str") rfl)
  b_all := He.free_ok X G (c.t.d.fact 35 (f := .free "all") rfl)
  b_enumerate := He.free_ok X G (c.t.d.fact 36 (f := .free "enumerate") rfl)
  b_tuple := He.free_ok X G (c.t.d.fact 37 (f := .free "tuple") rfl)
  b_int := He.free_ok X G (c.t.d.fact 38 (f := .free "int") rfl)
  b_sum := He.free_ok X G (c.t.d.fact 39 (f := .free "sum") rfl)
  b_list := He.free_ok X G (c.t.d.fact 40 (f := .free "list") rfl)
  b_range := He.free_ok X G (c.t.d.fact 41 (f := .free "range") rfl)
  b_max := He.free_ok X G (c.t.d.fact 42 (f := .free "max") rfl)
  b_min := He.free_ok X G (c.t.d.fact 43 (f := .free "min") rfl)
  b_bool := He.free_ok X G (c.t.d.fact 44 (f := .free "bool") rfl)
  g_MAX_WORD := He.int_ok X G (c.t.d.fact 45 (f := .int "MAX_WORD" 12) rfl)
  g_LETTERS := He.str_ok X G (c.t.d.fact 46 (f := .str "LETTERS" "abcdefghijklmnopqrstuvwxyz") rfl)
  g_MAX_TEXT := He.int_ok X G (c.t.d.fact 47 (f := .int "MAX_TEXT" 60) rfl)
  g_ESCAPED := He.str_ok X G (c.t.d.fact 48 (f := .str "ESCAPED" ",+=\\") rfl)
  g_BACKSLASH := He.str_ok X G (c.t.d.fact 49 (f := .str "BACKSLASH" "\\") rfl)
  g_MAX_PAIRS := He.int_ok X G (c.t.d.fact 50 (f := .int "MAX_PAIRS" 4) rfl)
  g_MAX_LEAVES := He.int_ok X G (c.t.d.fact 51 (f := .int "MAX_LEAVES" 12) rfl)
  g_DIGITS := He.str_ok X G (c.t.d.fact 52 (f := .str "DIGITS" "0123456789") rfl)
  g_MAX_DIGITS := He.int_ok X G (c.t.d.fact 53 (f := .int "MAX_DIGITS" 30) rfl)
  g_TRUTHS := He.glo_ok X G (c.t.d.fact 54 (f := .glo "TRUTHS") rfl)
  t_TRUTHS := fun H => He.tupB_ok ((He.ba c.more).1) H
  g_MAX_VALUE := He.int_ok X G (c.t.d.fact 55 (f := .int "MAX_VALUE" 60) rfl)
  g_ORDERED := He.glo_ok X G (c.t.d.fact 56 (f := .glo "ORDERED") rfl)
  t_ORDERED := fun H => He.tupB_ok ((He.ba c.more).2) H
end My
open PySem PySem.W PySem.Calls PyProof.Rows
set_option maxHeartbeats 0 in
theorem PySem.Challenge.cw_dirservice_k02_values_judged_holds : PySem.Challenge.rw_dirservice_k02_values_judged.Holds := by
  w_on; o_law
  refine HandSHeadRun.head_any (r := OpenLaw.row PySem.Challenge.rw_dirservice_k02_values_judged) (q := view (OpenLaw.row PySem.Challenge.rw_dirservice_k02_values_judged).prog [46]) (H := My.hhk) (ob := My.hob) (M := 3420) (loose := My.hloose) (d := HandSHeadRun.topDef (OpenLaw.row PySem.Challenge.rw_dirservice_k02_values_judged).prog 46) (kwd := []) My.hob_eq
    (by kernel_rfl) (fun s => by kernel_rfl) My.hrun (by kernel_rfl) (by kernel_rfl) (by kernel_rfl) (by rfl) (by first | assumption | decide +kernel) (by decide +kernel) ⟨rfl, rfl, rfl, rfl, rfl, by decide +kernel⟩ ?hw ?hc
  case hw => w_witness2
  case hc =>
    refine L2.walk_ofE (l := PySem.Challenge.rw_dirservice_k02_values_judged) (n := 63) (k := 6) (x := "_law_script") (CX := L2.CX0) rfl (by decide) (by kernel_rfl) ⟨rfl, by decide, by decide⟩ ?F (fun _ _ _ _ z => z)
    intro w mg fa h Y G hmg0
    obtain ⟨K, KX, c⟩ := Y
    have hmg : mg ("law" : PySem.Str) = some (.ref fa) := by
      have e : (HandSHeadRun.topDef (OpenLaw.row PySem.Challenge.rw_dirservice_k02_values_judged).prog 46).name = ("law" : PySem.Str) := by kernel_rfl
      rw [← e]
      exact hmg0
    have T := My.tx_of KX G c
    exact My.law_end (P := (PySem.Challenge.rw_dirservice_k02_values_judged).prog) (w := w) T KX hmg
