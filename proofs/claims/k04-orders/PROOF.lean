import PyProof.Rows.All
import Wide.All
import OpenK.AllK
import Wide.FinOn
import KE.KStateDown
import Lean
import HandS.ForMost
import HandS.Evl
import HandS.Defaults
import HandS.Codes
import HandS.More
import HandS.Deep
import HandS.IsInst
import HandS.Wide
import HandS.Style
import HandS.StrMore
import HandS.TupAny
import HandS.Head0
import HandS.Head1
import HandS.Head2
import HandS.HeadEnd
import HandS.HeadHook1
import HandS.HeadHook2
import HandS.HeadHook3
import HandS.HeadHook4
import PySem.Challenge.RW_dirservice_k04_orders
set_option Elab.async false
set_option linter.all false
set_option maxRecDepth 100000
set_option maxHeartbeats 4000000
namespace My
open PySem PySem.Spec PyProof.Rows L2

/-! ### unions of judgements -/
section
variable {X : Cx}
theorem PE_or {e : Expr} {t u : TE} (h : PE X e t) (k : PE X e u) : PE X e (fun σ H Q => t σ H Q ∨ u σ H Q) :=
  ⟨fun pins s σ H Q I hw => hw.elim (h.run pins s σ H Q I) (k.run pins s σ H Q I)⟩
theorem PS_or {st : Stmt} {t u : TS} (h : PS X st t) (k : PS X st u) : PS X st (fun D σ H => t D σ H ∨ u D σ H) :=
  ⟨fun pins s σ H D I hw => hw.elim (h.run pins s σ H D I) (k.run pins s σ H D I)⟩
theorem PI_or {tg it : Expr} {t u : TI} (h : PI X tg it t) (k : PI X tg it u) : PI X tg it (fun σ H R => t σ H R ∨ u σ H R) :=
  ⟨fun pins s σ H R I hw => hw.elim (h.run pins s σ H R I) (k.run pins s σ H R I)⟩
end

/-! ### the operators, whatever the values are -/
def rAddU (K : PySem.W.Frag) : R2 := fun x y H Q => (rI0 fun i j => V.int (i + j)) x y H Q ∨ (∃ i j, x = V.str i ∧ y = .str j ∧ i.length + j.length ≤ sizeLine ∧ Q (.str (i ++ j)) H) ∨ rCat x y H Q ∨ rCatA K x y H Q
theorem op_Add {X : Cx} {K : PySem.W.Frag} (hK : X.K = K := by rfl) : OpR X (binaryOp .Add) (rAddU K) := hK ▸ op_add.or (op_add_str.or (op_cat.or op_catA))
def rMulU : R2 := fun x y H Q => (rI CMul fun i j => V.int (i * j)) x y H Q ∨ rRep x y H Q
theorem op_Mult {X : Cx} : OpR X (binaryOp .Mult) rMulU := op_mul.or op_rep
def rDivU : R2 := fun x y H Q => (rI CDiv fun i j => V.int (i / j)) x y H Q ∨ (rI CDivW fun i j => V.int (i / j)) x y H Q
theorem op_FloorDiv {X : Cx} : OpR X (binaryOp .FloorDiv) rDivU := op_fdiv.or op_fdivW
def rLtU : R2 := fun x y H Q => (rI0 fun i j => V.bl (decide (i < j))) x y H Q ∨ (∃ i j, x = V.str i ∧ y = .str j ∧ Q (.bl (decide (i.cps.toList < j.cps.toList))) H)
theorem cm_Lt {X : Cx} : OpR X (compareOp .Lt) rLtU := op_lt.or op_lt_str
def rLeU : R2 := rI0 fun i j => V.bl (decide (i ≤ j))
theorem cm_LtE {X : Cx} : OpR X (compareOp .LtE) rLeU := op_le
def rGtU : R2 := rI0 fun i j => V.bl (decide (j < i))
theorem cm_Gt {X : Cx} : OpR X (compareOp .Gt) rGtU := op_gt
def rGeU : R2 := rI0 fun i j => V.bl (decide (j ≤ i))
theorem cm_GtE {X : Cx} : OpR X (compareOp .GtE) rGeU := op_ge
def rEqU (K : PySem.W.Frag) : R2 := fun x y H Q => rEq x y H Q ∨ rEqD K x y H Q
theorem cm_Eq {X : Cx} {K : PySem.W.Frag} (hu : X.A.units + 64 < cLine) (hK : X.K = K := by rfl) : OpR X (compareOp .Eq) (rEqU K) := hK ▸ op_eq.or (op_eqD hu)
def rNeU (K : PySem.W.Frag) : R2 := fun x y H Q => rNe x y H Q ∨ rNeD K x y H Q
theorem cm_NotEq {X : Cx} {K : PySem.W.Frag} (hu : X.A.units + 64 < cLine) (hK : X.K = K := by rfl) : OpR X (compareOp .NotEq) (rNeU K) := hK ▸ op_ne.or (op_neD hu)
def rInU (K : PySem.W.Frag) : R2 := fun x y H Q => (∃ (c : Nat) (z : Str), x = V.str ⟨#[c]⟩ ∧ y = .str z ∧ Q (.bl (decide (c ∈ z.cps.toList))) H) ∨ rIn K false x y H Q ∨ rInD K x y H Q
theorem cm_In {X : Cx} {K : PySem.W.Frag} (hu : X.A.units + 65 < cLine) (hK : X.K = K := by rfl) : OpR X (compareOp .In) (rInU K) := hK ▸ op_in_sign.or (op_in_seq.or (op_inD hu))
def rNotInU (K : PySem.W.Frag) : R2 := fun x y H Q => (∃ (c : Nat) (z : Str), x = V.str ⟨#[c]⟩ ∧ y = .str z ∧ Q (.bl (!decide (c ∈ z.cps.toList))) H) ∨ rIn K true x y H Q ∨ rNotInD K x y H Q
theorem cm_NotIn {X : Cx} {K : PySem.W.Frag} (hu : X.A.units + 65 < cLine) (hK : X.K = K := by rfl) : OpR X (compareOp .NotIn) (rNotInU K) := hK ▸ op_notIn_sign.or (op_notIn_seq.or (op_notInD hu))
def rIsU : R2 := fun x y H Q => (y = V.non ∧ Q (.bl (decide (x = .non))) H) ∨ (∃ a b : Bool, x = V.bl a ∧ y = .bl b ∧ Q (.bl (decide (a = b))) H)
theorem cm_Is {X : Cx} : OpR X (compareOp .Is) rIsU := op_isN.or op_isBl
def rIsNotU : R2 := fun x y H Q => (y = V.non ∧ Q (.bl (!decide (x = .non))) H) ∨ (∃ a b : Bool, x = V.bl a ∧ y = .bl b ∧ Q (.bl (!decide (a = b))) H)
theorem cm_IsNot {X : Cx} : OpR X (compareOp .IsNot) rIsNotU := op_notN.or op_notBl
def rSlU (K : PySem.W.Frag) : V → Option Int → Option Int → Hp → VK → Prop := fun x lo hi H Q => rSlS x lo hi H Q ∨ rSlL K x lo hi H Q
theorem sl_any {X : Cx} {K : PySem.W.Frag} (hK : X.K = K := by rfl) : SlR X (rSlU K) := hK ▸ sl_str.or sl_list
theorem ix_any {X : Cx} {K : PySem.W.Frag} (hK : X.K = K := by rfl) : IxR X (rIx K) := hK ▸ ix_seq
def rLenU (K : PySem.W.Frag) : List V → Hp → VK → Prop := fun xs H Q => ∃ x n, xs = [x] ∧ LenV K x H n ∧ Q (.int n) H
theorem call_lenA {X : Cx} {K : PySem.W.Frag} (hK : X.K = K := by rfl) : CallR X (.builtin "len") (rLenU K) := hK ▸ call_len
theorem call_isiA {X : Cx} {K : PySem.W.Frag} (hK : X.K = K := by rfl) : CallR X (.builtin "isinstance") (rIsi K) := hK ▸ call_isi
theorem call_allA {X : Cx} {K : PySem.W.Frag} (hc : X.calm = true := by rfl) (hK : X.K = K := by rfl) : CallR X (.builtin "all") (rAll K) := hK ▸ cr_all hc
theorem call_anyA {X : Cx} {K : PySem.W.Frag} (hc : X.calm = true := by rfl) (hK : X.K = K := by rfl) : CallR X (.builtin "any") (rAny K) := hK ▸ cr_any hc
theorem call_sumA {X : Cx} {K : PySem.W.Frag} (hc : X.calm = true := by rfl) (hK : X.K = K := by rfl) : CallR X (.builtin "sum") (rSum K) := hK ▸ cr_sum hc
def rListU (K : PySem.W.Frag) : List V → Hp → VK → Prop := fun xs H Q => ∃ p ys, xs = [.ref p] ∧ (SqL K H p ys ∨ SqT K H p ys) ∧ ∀ l, H l = none → Q (.ref l) (upd H l (.lst ys))
theorem call_listA {X : Cx} {K : PySem.W.Frag} (hK : X.K = K := by rfl) : CallR X (.type "list") (rListU K) := hK ▸ call_list_of
def rTupU (K : PySem.W.Frag) : List V → Hp → VK → Prop := fun xs H Q => ∃ p ys, xs = [.ref p] ∧ ((SqL K H p ys ∧ ∀ l, H l = none → Q (.ref l) (upd H l (.tup ys))) ∨ (SqT K H p ys ∧ Q (.ref p) H))
theorem call_tupleA {X : Cx} {K : PySem.W.Frag} (hK : X.K = K := by rfl) : CallR X (.type "tuple") (rTupU K) := hK ▸ call_tuple_of
def rJoinU (K : PySem.W.Frag) : V → List V → Hp → VK → Prop := fun x xs H Q => ∃ a p, ∃ ys : List Str, x = .str a ∧ xs = [.ref p] ∧ (SqL K H p (ys.map V.str) ∨ SqT K H p (ys.map V.str)) ∧ (ys.map (·.length)).sum + ys.length * a.length ≤ 16777216 ∧ Q (.str (Txt.join a ys)) H
theorem mt_joinA {X : Cx} {K : PySem.W.Frag} (hK : X.K = K := by rfl) : MtR X "str.join" (rJoinU K) := hK ▸ mt_join
def rSplitU : V → List V → Hp → VK → Prop := fun x xs H Q => ∃ a b, x = .str a ∧ xs = [.str b] ∧ (b.length == 0) = false ∧ a.length + 2 ≤ sizeLine ∧ rNewStrs (Txt.split a b) H Q
theorem mt_splitA {X : Cx} : MtR X "str.split" rSplitU := mt_split
def rLowerU : V → List V → Hp → VK → Prop := fun x xs H Q => ∃ a, x = .str a ∧ xs = [] ∧ a.length ≤ 5592405 ∧ Q (.str (Txt.lower a)) H
theorem mt_lowerA {X : Cx} : MtR X "str.lower" rLowerU := mt_lower
def rUpperU : V → List V → Hp → VK → Prop := fun x xs H Q => ∃ a, x = .str a ∧ xs = [] ∧ a.length ≤ 5592405 ∧ Q (.str (Txt.upper a)) H
theorem mt_upperA {X : Cx} : MtR X "str.upper" rUpperU := mt_upper
def rRemPreU : V → List V → Hp → VK → Prop := fun x xs H Q => ∃ a b, x = .str a ∧ xs = [.str b] ∧ a.length ≤ sizeLine ∧ Q (.str (Txt.removeprefix a b)) H
theorem mt_removeprefixA {X : Cx} : MtR X "str.removeprefix" rRemPreU := mt_removeprefix
def rIntU : List V → Hp → VK → Prop := fun xs H Q => ((∃ i, xs = [V.int i] ∧ Q (.int i) H) ∨ ∃ k, xs = [V.bl k] ∧ Q (.int (if k then 1 else 0)) H) ∨ (∃ a n, xs = [V.str a] ∧ PySem.intText? a = some n ∧ a.length ≤ 640 ∧ Q (.int n) H)
theorem call_intA {X : Cx} : CallR X (.type "int") rIntU := call_int1.or call_int_str
def rStripU : V → List V → Hp → VK → Prop := fun x xs H Q => ∃ a b, x = .str a ∧ xs = [.str b] ∧ a.length ≤ sizeLine ∧ Q (.str (Txt.stripChars a b)) H
theorem mt_stripA {X : Cx} : MtR X "str.strip" rStripU := mt_stripChars
def rFindU : V → List V → Hp → VK → Prop := fun x xs H Q => (∃ a b, x = .str a ∧ xs = [.str b] ∧ Q (.int (Txt.find a b)) H) ∨ (∃ (a b : Str) (i : Int), x = .str a ∧ xs = [.str b, .int i] ∧ Q (.int (Txt.find3 a b i)) H)
theorem mt_findA {X : Cx} : MtR X "str.find" rFindU := mt_find.or mt_find3
def iAny (K : PySem.W.Frag) (te : TE) : TI := fun σ H R => iList K te σ H R ∨ iTup K te σ H R ∨ iStr te σ H R
theorem pi_any {X : Cx} {K : PySem.W.Frag} {tg e : Expr} {te : TE} (h : PE X e te) (hK : X.K = K := by rfl) : PI X tg e (iAny K te) := hK ▸ PI_or (pi_list h) (PI_or (pi_tup h) (pi_str h))
theorem hu65 {k : Nat} {A : Around} (r : Room k A) : A.units + 65 < cLine := by have := r.un; omega
section
variable {X : Cx}
theorem pe_globI {x : Str} {i : Int} {pos : Pos} (hg : Gl X x) (hm : ∃ t, X.mg x = some (.int i t)) (hd : (x == ("__debug__" : Str)) = false := by decide) : PE X (.Name x pos) (tC (.int i)) := hm.elim fun t h => pe_glob hg h ⟨t, rfl⟩ hd
theorem pe_globS {x z : Str} {pos : Pos} (hg : Gl X x) (hm : ∃ t, X.mg x = some (.str z t)) (hd : (x == ("__debug__" : Str)) = false := by decide) : PE X (.Name x pos) (tC (.str z)) := hm.elim fun t h => pe_glob hg h ⟨t, rfl⟩ hd
theorem pe_globR {x : Str} {a : Addr} {pos : Pos} (hg : Gl X x) (hm : X.mg x = some (.ref a)) (hd : (x == ("__debug__" : Str)) = false := by decide) : PE X (.Name x pos) (tC (.ref a)) := pe_glob hg hm rfl hd
theorem pe_bty {x : Str} {T : String} {pos : Pos} (hg : Gl X x) (hm : X.mg x = none) (hv : bootBuiltins x = some (.type T)) (hn : x ≠ "__name__" := by decide) (hd : (x == ("__debug__" : Str)) = false := by decide) : PE X (.Name x pos) (tC (.ty T)) := pe_bltn hg hm hv rfl hn hd
end
section
variable {X : Cx} {K : PySem.W.Frag} {o e : Expr} {es : List Expr} {to : TE} {t : TA} {name : Str} {apos cpos : Pos} {T id : String} {r : V → List V → Hp → VK → Prop}
theorem pe_bm0K (pa : PlainAttrs T) (slot : Slot T name id) (hty : typeOf (.builtin id) = pure (.type "method_descriptor")) (hm : MtR X id r) (ho : PE X o to)
    (hK : X.K = K := by rfl) (hbase : attributeBase o name X.env (eval o X.env) = eval o X.env := by rfl) (hline : (apos.endLine == cpos.line) = true := by rfl) : PE X (.Call (.Attribute o name apos) [] [] cpos) (tBM0 K T r to) := hK ▸ pe_bm0 pa slot hty hm ho hbase hline
theorem pe_bmK (pa : PlainAttrs T) (slot : Slot T name id) (hty : typeOf (.builtin id) = pure (.type "method_descriptor")) (hm : MtR X id r) (ho : PE X o to) (ha : PA X (e :: es) t)
    (hK : X.K = K := by rfl) (hbase : attributeBase o name X.env (eval o X.env) = eval o X.env := by rfl)
    (hfew : ((backTo cpos (starEach (e :: es) X.env)).all (fun x => !x.1) && (backToKw cpos (keywordEach [] X.env)).all (fun x => x.1.isSome)
      && decide ((e :: es).length + ([] : List Keyword).length + (if ([] : List Keyword).isEmpty then 0 else 1) < 30)) = true := by rfl)
    (hline : (apos.endLine == cpos.line) = true := by rfl) (hs : starEach (e :: es) X.env = (false, eval e X.env) :: starEach es X.env := by rfl) (hplain : (backTo cpos (starEach es X.env)).any (·.1) = false := by rfl) :
    PE X (.Call (.Attribute o name apos) (e :: es) [] cpos) (tBM K T r to t) := hK ▸ pe_bm pa slot hty hm ho ha hbase hfew hline hs hplain
theorem pg_tupK {ts : List Expr} {k : Nat} {tg : TGs} {n : Nat} {pos : Pos} (hc : X.calm = true) (h : PGs X ts tg)
    (hK : X.K = K := by rfl) (hn : (assignEach ts X.env).length = n := by rfl) (hst : (assignEach ts X.env).findIdx? (·.1) = none := by rfl) : PG X (.Tuple ts k pos) (gTup K n tg) := hK ▸ pg_tup hc h hn hst
end
/-! ### a def that is called by its name -/
structure Cal (P : Program) (w : World) (K : PySem.W.Frag) (mg : Str → Option Value) (base : Heap) (k : Nat) (x : Str) (ps : List Str) (sp : Sp) : Prop where
  ex : ∃ f fd, FnOk P w K mg base CX0 k f fd ps sp ∧ mg x = some (.ref f) ∧ PySem.W.keepIn K (.ref f) = true ∧ Binds K fd ps []
theorem pe_callC {X : Cx} {k : Nat} {x : Str} {ps : List Str} {sp : Sp} {e : Expr} {es : List Expr} {t : TA} {p pos : Pos} (C : Cal X.prog X.w X.K X.mg X.base k x ps sp) (hr : Room k X.A) (hg : Gl X x) (ha : PA X (e :: es) t)
    (hdb : (x == ("__debug__" : Str)) = false := by decide) (he : starEach (e :: es) X.env = (false, eval e X.env) :: starEach es X.env := by rfl) (hpl : (backTo pos (starEach es X.env)).any (·.1) = false := by rfl) : PE X (.Call (.Name x p) (e :: es) [] pos) (tCall sp [] E0 t) := by
  obtain ⟨f, fd, F, hm, hk, hb⟩ := C.ex
  exact pe_call F hr hg hm hk hb .nil pass0 ha hdb he hpl
theorem Cal.mono {P : Program} {w : World} {K : PySem.W.Frag} {mg : Str → Option Value} {base : Heap} {k j : Nat} {x : Str} {ps : List Str} {sp : Sp} (C : Cal P w K mg base k x ps sp) (h : k ≤ j) : Cal P w K mg base j x ps sp := by
  obtain ⟨f, fd, F, r⟩ := C.ex
  exact ⟨f, fd, F.mono h, r⟩

theorem Paired_imp {α β : Type} {F G : α → β → Prop} (h : ∀ a b, F a b → G a b) : ∀ {xs : List α} {ys : List β}, Paired F xs ys → Paired G xs ys
  | _, _, .nil => .nil
  | _, _, .cons a b => .cons (h _ _ a) (Paired_imp h b)
/-! ### heaps to come: what may change (M), what holds of it (J) -/
def pres (M : Addr → Prop) (H H' : Hp) : Prop := ∀ a o, ¬ M a → H a = some o → H' a = some o
theorem pres.refl {M : Addr → Prop} (H : Hp) : pres M H H := fun _ _ _ h => h
theorem pres.trans {M : Addr → Prop} {H H1 H2 : Hp} (a : pres M H H1) (b : pres M H1 H2) : pres M H H2 := fun x o m h => b x o m (a x o m h)
theorem pres.ex {M : Addr → Prop} {H H1 : Hp} (a : Evl.Ex H H1) : pres M H H1 := fun x o _ h => a x o h
theorem pres.upd {M : Addr → Prop} {H : Hp} {l : Addr} {o : HO} (m : M l) : pres M H (upd H l o) := fun x o' mx h => by
  have ne : x ≠ l := fun e => mx (by rw [e]; exact m)
  rw [upd_ne ne]
  exact h
theorem pres.wider {M M' : Addr → Prop} (w : ∀ a, M a → M' a) {H H1 : Hp} (a : pres M H H1) : pres M' H H1 := fun x o m h => a x o (fun z => m (w x z)) h
/-- M: the addresses that may change; J n: what holds of them while n draws may still come -/
structure Rel where
  M : Addr → Prop
  J : Nat → Hp → Prop
  alive : ∀ {n H a}, J n H → M a → H a ≠ none
  loc : ∀ {n H H'}, J n H → (∀ a, M a → H' a = H a) → J n H'
  dec : ∀ {n m H}, J n H → m ≤ n → J m H
theorem Rel.mono (R : Rel) {n : Nat} {H H' : Hp} (j : R.J n H) (e : Evl.Ex H H') : R.J n H' := R.loc j fun a m => by
  cases h : H a with
  | none => exact absurd h (R.alive j m)
  | some o => exact e a o h
theorem Rel.put (R : Rel) {n : Nat} {H : Hp} {p : Addr} {o : HO} (j : R.J n H) (m : ¬ R.M p) : R.J n (upd H p o) := R.loc j fun a ma => upd_ne fun e => m (by rw [← e]; exact ma)
/-- H1 is to come behind H, n draws may come from there on -/
def Rel.ok (R : Rel) (n : Nat) (H H1 : Hp) : Prop := R.J n H1 ∧ pres R.M H H1
theorem Rel.refl (R : Rel) {n : Nat} {H H1 : Hp} (e : R.ok n H H1) : R.ok n H1 H1 := ⟨e.1, pres.refl H1⟩
theorem Rel.self (R : Rel) {n : Nat} {H : Hp} (e : R.J n H) : R.ok n H H := ⟨e, pres.refl H⟩
theorem Rel.trans (R : Rel) {n m : Nat} {H H1 H2 : Hp} (a : R.ok n H H1) (b : R.ok m H1 H2) : R.ok m H H2 := ⟨b.1, a.2.trans b.2⟩
theorem Rel.ex (R : Rel) {n : Nat} {H H1 : Hp} (j : R.J n H) (e : Evl.Ex H H1) : R.ok n H H1 := ⟨R.mono j e, pres.ex e⟩
theorem Rel.new (R : Rel) {n : Nat} {H : Hp} {p : Addr} {o : HO} (j : R.J n H) (h : H p = none) : R.ok n H (upd H p o) := R.ex j (Evl.Ex.new h)
theorem Rel.fresh (R : Rel) {n : Nat} {H : Hp} {p : Addr} (j : R.J n H) (h : H p = none) : ¬ R.M p := fun m => R.alive j m h
/-- nothing changes -/
def exR : Rel := ⟨fun _ => False, fun _ _ => True, fun _ m => m.elim, fun _ _ => trivial, fun _ _ => trivial⟩
theorem exR_of {n : Nat} {H H' : Hp} (e : Evl.Ex H H') : exR.ok n H H' := ⟨trivial, pres.ex e⟩
theorem exR_ex {n : Nat} {H H' : Hp} (e : exR.ok n H H') : Evl.Ex H H' := fun a o h => e.2 a o (fun z => z) h
theorem exR_to (R : Rel) {n m : Nat} {H H' : Hp} (j : R.J n H) (e : exR.ok m H H') : R.ok n H H' := R.ex j (exR_ex e)
/-- the list at D changes, too: it holds xs, it holds some list -/
def Rel.at (R : Rel) (D : Addr) (xs : List V) : Rel := ⟨fun a => R.M a ∨ a = D, fun n H => R.J n H ∧ H D = some (.lst xs), fun j m => m.elim (fun m => R.alive j.1 m) (fun e => by rw [e, j.2]; exact fun z => nomatch z), fun j e => ⟨R.loc j.1 fun a m => e a (.inl m), (e D (.inr rfl)).trans j.2⟩, fun j h => ⟨R.dec j.1 h, j.2⟩⟩
def Rel.off (R : Rel) (D : Addr) : Rel := ⟨fun a => R.M a ∨ a = D, fun n H => R.J n H ∧ ∃ xs, H D = some (.lst xs), fun j m => m.elim (fun m => R.alive j.1 m) (fun e => by obtain ⟨xs, h⟩ := j.2; rw [e, h]; exact fun z => nomatch z), fun j e => ⟨R.loc j.1 fun a m => e a (.inl m), j.2.elim fun xs h => ⟨xs, (e D (.inr rfl)).trans h⟩⟩, fun j h => ⟨R.dec j.1 h, j.2⟩⟩
/-- a property of a value that stays true while all but M stays, whatever M is -/
structure SP where
  P : (Addr → Prop) → V → Hp → Prop
  st : ∀ {M v H H'}, pres M H H' → P M v H → P M v H'
  lift : ∀ {M M' v H}, (∀ a, M' a → M a ∨ H a = none) → P M v H → P M' v H
/-- the value is v -/
def is (v : V) : SP := ⟨fun _ x _ => x = v, fun _ h => h, fun _ h => h⟩
/-- a property of the value alone -/
def sat (G : V → Prop) : SP := ⟨fun _ x _ => G x, fun _ h => h, fun _ h => h⟩
section
variable {M M' : Addr → Prop} {K : PySem.W.Frag} {H H' : Hp}
/-- a list, a tuple that stays: tracked outside M, or written -/
def SqM (K : PySem.W.Frag) (M : Addr → Prop) (H : Hp) (p : Addr) (xs : List V) : Prop := (Rd H p (.lst xs) ∧ ¬ M p) ∨ ∀ H', SqL K H' p xs
def StM (K : PySem.W.Frag) (M : Addr → Prop) (H : Hp) (p : Addr) (xs : List V) : Prop := (Rd H p (.tup xs) ∧ ¬ M p) ∨ ∀ H', SqT K H' p xs
theorem rd_st {p : Addr} {o : HO} (e : pres M H H') (m : ¬ M p) (h : Rd H p o) : Rd H' p o := by
  rcases h with h | ⟨w, h⟩
  · exact .inl (e p _ m h)
  · exact .inr ⟨w, e p _ m h⟩
theorem rd_lift {p : Addr} {o : HO} (w : ∀ a, M' a → M a ∨ H a = none) (h : Rd H p o) (m : ¬ M p) : ¬ M' p := fun z => (w p z).elim m fun n => by
  rcases h with h | ⟨_, h⟩ <;> rw [n] at h <;> cases h
theorem SqM.sq {p : Addr} {xs : List V} (h : SqM K M H p xs) : SqL K H p xs := h.elim (fun a => .inl a.1) fun a => a H
theorem StM.sq {p : Addr} {xs : List V} (h : StM K M H p xs) : SqT K H p xs := h.elim (fun a => .inl a.1) fun a => a H
theorem SqM.st {p : Addr} {xs : List V} (e : pres M H H') (h : SqM K M H p xs) : SqM K M H' p xs := h.imp (fun a => ⟨rd_st e a.2 a.1, a.2⟩) id
theorem StM.st {p : Addr} {xs : List V} (e : pres M H H') (h : StM K M H p xs) : StM K M H' p xs := h.imp (fun a => ⟨rd_st e a.2 a.1, a.2⟩) id
theorem SqM.lift {p : Addr} {xs : List V} (w : ∀ a, M' a → M a ∨ H a = none) (h : SqM K M H p xs) : SqM K M' H p xs := h.imp (fun a => ⟨a.1, rd_lift w a.1 a.2⟩) id
theorem StM.lift {p : Addr} {xs : List V} (w : ∀ a, M' a → M a ∨ H a = none) (h : StM K M H p xs) : StM K M' H p xs := h.imp (fun a => ⟨a.1, rd_lift w a.1 a.2⟩) id
theorem SqM.of {p : Addr} {xs : List V} (h : H p = some (.lst xs)) (m : ¬ M p) : SqM K M H p xs := .inl ⟨.inl h, m⟩
theorem StM.of {p : Addr} {xs : List V} (h : H p = some (.tup xs)) (m : ¬ M p) : StM K M H p xs := .inl ⟨.inl h, m⟩
/-- a list of the run's own that stays -/
def LtM (M : Addr → Prop) (H : Hp) (p : Addr) (xs : List V) : Prop := H p = some (.lst xs) ∧ ¬ M p
theorem LtM.sqm {p : Addr} {xs : List V} (h : LtM M H p xs) : SqM K M H p xs := .of h.1 h.2
theorem LtM.sq {p : Addr} {xs : List V} (h : LtM M H p xs) : SqL K H p xs := .inl (.inl h.1)
theorem LtM.st {p : Addr} {xs : List V} (e : pres M H H') (h : LtM M H p xs) : LtM M H' p xs := ⟨e p _ h.2 h.1, h.2⟩
theorem LtM.lift {p : Addr} {xs : List V} (w : ∀ a, M' a → M a ∨ H a = none) (h : LtM M H p xs) : LtM M' H p xs := ⟨h.1, rd_lift w (.inl h.1) h.2⟩
end
/-- a list, a tuple whose items have G -/
def lstG (G : List V → Prop) : SP := ⟨fun M x H => ∃ p xs, x = .ref p ∧ LtM M H p xs ∧ G xs, fun e ⟨p, xs, a, h, g⟩ => ⟨p, xs, a, h.st e, g⟩, fun w ⟨p, xs, a, h, g⟩ => ⟨p, xs, a, h.lift w, g⟩⟩
def tupG (K : PySem.W.Frag) (G : List V → Prop) : SP := ⟨fun M x H => ∃ p xs, x = .ref p ∧ StM K M H p xs ∧ G xs, fun e ⟨p, xs, a, h, g⟩ => ⟨p, xs, a, h.st e, g⟩, fun w ⟨p, xs, a, h, g⟩ => ⟨p, xs, a, h.lift w, g⟩⟩
/-- .. whose items each have the property told by ys -/
def lstP {α : Type} (pe : α → SP) (ys : List α) : SP := ⟨fun M x H => ∃ p xs, x = .ref p ∧ LtM M H p xs ∧ Paired (fun v y => (pe y).P M v H) xs ys, fun e ⟨p, xs, a, h, g⟩ => ⟨p, xs, a, h.st e, Paired_imp (fun _ _ z => (pe _).st e z) g⟩, fun w ⟨p, xs, a, h, g⟩ => ⟨p, xs, a, h.lift w, Paired_imp (fun _ _ z => (pe _).lift w z) g⟩⟩
def tupP (K : PySem.W.Frag) {α : Type} (pe : α → SP) (ys : List α) : SP := ⟨fun M x H => ∃ p xs, x = .ref p ∧ StM K M H p xs ∧ Paired (fun v y => (pe y).P M v H) xs ys, fun e ⟨p, xs, a, h, g⟩ => ⟨p, xs, a, h.st e, Paired_imp (fun _ _ z => (pe _).st e z) g⟩, fun w ⟨p, xs, a, h, g⟩ => ⟨p, xs, a, h.lift w, Paired_imp (fun _ _ z => (pe _).lift w z) g⟩⟩
/-- both, either, some -/
def SP.and (p q : SP) : SP := ⟨fun M v H => p.P M v H ∧ q.P M v H, fun e h => ⟨p.st e h.1, q.st e h.2⟩, fun w h => ⟨p.lift w h.1, q.lift w h.2⟩⟩
def SP.or (p q : SP) : SP := ⟨fun M v H => p.P M v H ∨ q.P M v H, fun e h => h.imp (p.st e) (q.st e), fun w h => h.imp (p.lift w) (q.lift w)⟩
def SP.ex {α : Type} (p : α → SP) : SP := ⟨fun M v H => ∃ a, (p a).P M v H, fun e ⟨a, h⟩ => ⟨a, (p a).st e h⟩, fun w ⟨a, h⟩ => ⟨a, (p a).lift w h⟩⟩
/-- facts by M at H are carried over to M' at H' -/
structure Ext0 (M : Addr → Prop) (H : Hp) (M' : Addr → Prop) (H' : Hp) : Prop where
  w : ∀ a, M' a → M a ∨ H a = none
  pr : pres M' H H'
theorem Ext0.get {M M' : Addr → Prop} {H H' : Hp} (s : Ext0 M H M' H') {p : SP} {v : V} (h : p.P M v H) : p.P M' v H' := p.st s.pr (p.lift s.w h)
theorem Ext0.of {R : Rel} {n : Nat} {H H' : Hp} (e : R.ok n H H') : Ext0 R.M H R.M H' := ⟨fun _ m => .inl m, e.2⟩
/-- a relation R' and a heap H' to which what is known by R at H is carried over -/
structure Ext (R : Rel) (H : Hp) (R' : Rel) (H' : Hp) : Prop where
  w : ∀ a, R'.M a → R.M a ∨ H a = none
  up : ∀ a, R.M a → R'.M a
  jr : ∀ n H1, R'.J n H1 → R.J n H1
  put : ∀ n m H1 a o, R.M a → R'.J n H1 → R.J m (upd H1 a o) → R'.J m (upd H1 a o)
  pr : pres R'.M H H'
theorem Ext.get {R R' : Rel} {H H' : Hp} (s : Ext R H R' H') {p : SP} {v : V} (h : p.P R.M v H) : p.P R'.M v H' := p.st s.pr (p.lift s.w h)
theorem Ext.to0 {R R' : Rel} {H H' : Hp} (s : Ext R H R' H') : Ext0 R.M H R'.M H' := ⟨s.w, s.pr⟩
theorem Ext.refl {R : Rel} {n : Nat} {H H' : Hp} (e : R.ok n H H') : Ext R H R H' := ⟨fun _ m => .inl m, fun _ m => m, fun _ _ h => h, fun _ _ _ _ _ _ _ h => h, e.2⟩
theorem Ext.step {R R' : Rel} {n : Nat} {H H' H2 : Hp} (s : Ext R H R' H') (e : R'.ok n H' H2) : Ext R H R' H2 := ⟨s.w, s.up, s.jr, s.put, s.pr.trans e.2⟩
theorem Ext.pre {R R' : Rel} {n : Nat} {H0 H H' : Hp} (e : R.ok n H0 H) (s : Ext R H R' H') : Ext R H0 R' H' := ⟨fun a m => (s.w a m).imp id fun n => by
  cases h : H0 a with
  | none => rfl
  | some o => exact absurd n (by
      by_cases m0 : R.M a
      · exact R.alive e.1 m0
      · rw [e.2 a o m0 h]
        exact fun z => nomatch z), s.up, s.jr, s.put, (e.2.wider s.up).trans s.pr⟩
theorem Ext.at {R : Rel} {n m : Nat} {H H' : Hp} {D : Addr} {acc : List V} (j : R.J n H) (e : R.ok m H H') (hD : H D = none) (h : H' D = some (.lst acc)) : Ext R H (R.at D acc) H' := by
  refine ⟨fun a m => m.imp id fun z => by rw [z]; exact hD, fun a m => .inl m, fun _ _ j => j.1, fun _ _ H1 a o m j1 j' => ⟨j', ?_⟩, e.2.wider fun a m => .inl m⟩
  have ne : D ≠ a := fun z => R.alive j m (by rw [← z]; exact hD)
  rw [upd_ne ne]
  exact j1.2
section
variable {R : Rel} {n m k : Nat}
/-! ### what evaluates to what: from n draws that may come to m -/
def EvP (R : Rel) (n m : Nat) (te : TE) (σ : L2.St) (H : Hp) (p : SP) : Prop := ∀ H1, R.ok n H H1 → ∀ Q : VK, (∀ v H2, R.ok m H1 H2 → p.P R.M v H2 → Q v H2) → te σ H1 Q
def EvT (R : Rel) (n m : Nat) (tt : TT) (σ : L2.St) (H : Hp) (G : Bool → Prop) : Prop := ∀ H1, R.ok n H H1 → ∀ Q : Bool → Hp → Prop, (∀ b H2, R.ok m H1 H2 → G b → Q b H2) → tt σ H1 Q
def EvA (R : Rel) (n m : Nat) (ta : TA) (σ : L2.St) (H : Hp) (ps : List SP) : Prop := ∀ H1, R.ok n H H1 → ∀ Q : List V → Hp → Prop, (∀ vs H2, R.ok m H1 H2 → Paired (fun v (p : SP) => p.P R.M v H2) vs ps → Q vs H2) → ta σ H1 Q
def EvO (R : Rel) (n m : Nat) (to : TO) (σ : L2.St) (H : Hp) (G : Option Int → Prop) : Prop := ∀ H1, R.ok n H H1 → ∀ Q : Option Int → Hp → Prop, (∀ o H2, R.ok m H1 H2 → G o → Q o H2) → to σ H1 Q
/-- operations on values (no draw) -/
def RV (R : Rel) (r : R2) (x y : V) (H : Hp) (p : SP) : Prop := ∀ n, R.J n H → ∀ Q : VK, (∀ z H2, R.ok n H H2 → p.P R.M z H2 → Q z H2) → r x y H Q
def RU (R : Rel) (r : V → Hp → VK → Prop) (x : V) (H : Hp) (p : SP) : Prop := ∀ n, R.J n H → ∀ Q : VK, (∀ z H2, R.ok n H H2 → p.P R.M z H2 → Q z H2) → r x H Q
def RC (R : Rel) (r : List V → Hp → VK → Prop) (vs : List V) (H : Hp) (p : SP) : Prop := ∀ n, R.J n H → ∀ Q : VK, (∀ z H2, R.ok n H H2 → p.P R.M z H2 → Q z H2) → r vs H Q
def RM (R : Rel) (r : V → List V → Hp → VK → Prop) (x : V) (vs : List V) (H : Hp) (p : SP) : Prop := ∀ n, R.J n H → ∀ Q : VK, (∀ z H2, R.ok n H H2 → p.P R.M z H2 → Q z H2) → r x vs H Q
def RS (R : Rel) (r : V → Option Int → Option Int → Hp → VK → Prop) (x : V) (lo hi : Option Int) (H : Hp) (p : SP) : Prop := ∀ n, R.J n H → ∀ Q : VK, (∀ z H2, R.ok n H H2 → p.P R.M z H2 → Q z H2) → r x lo hi H Q

variable {K : PySem.W.Frag} {σ : L2.St} {H H' : Hp} {ta tb tc te : TE} {t u : TT} {x y z v : V} {r : R2} {p q s : SP}
theorem EvP.mono {j : Nat} (e : R.ok j H H') (h : EvP R n m te σ H p) : EvP R n m te σ H' p := fun H1 a Q k => h H1 (R.trans e a) Q k
theorem EvT.mono {j : Nat} {G : Bool → Prop} (e : R.ok j H H') (h : EvT R n m t σ H G) : EvT R n m t σ H' G := fun H1 a Q k => h H1 (R.trans e a) Q k
theorem EvP.imp (h : EvP R n m te σ H p) (k : ∀ v H1, R.ok m H H1 → p.P R.M v H1 → q.P R.M v H1) : EvP R n m te σ H q := fun H1 a Q f => h H1 a Q fun v H2 r2 hv => f v H2 r2 (k v H2 (R.trans a r2) hv)
theorem EvT.imp {G G' : Bool → Prop} (h : EvT R n m t σ H G) (k : ∀ b, G b → G' b) : EvT R n m t σ H G' := fun H1 a Q f => h H1 a Q fun v H2 r2 hv => f v H2 r2 (k v hv)
/-- fewer draws may come -/
theorem EvP.fewer {m' : Nat} (h : EvP R n m te σ H p) (hm : m' ≤ m) : EvP R n m' te σ H p := fun H1 a Q f => h H1 a Q fun v H2 r2 hv => f v H2 ⟨R.dec r2.1 hm, r2.2⟩ hv
theorem EvP.more {n' : Nat} (h : EvP R n m te σ H p) (hn : n ≤ n') : EvP R n' m te σ H p := fun H1 a Q f => h H1 ⟨R.dec a.1 hn, a.2⟩ Q f
theorem ev_is (h : EvP R n m te σ H (is v)) (e : v = z) : EvP R n m te σ H (is z) := by
  subst e
  exact h
theorem ev_var {i : Nat} (h : σ[i]? = some (some v)) : EvP R n n (tVar i) σ H (is v) := fun H1 e _ k => ⟨v, h, k v H1 (R.refl e) rfl⟩
theorem ev_varP {i : Nat} (h : σ[i]? = some (some v)) (hp : p.P R.M v H) : EvP R n n (tVar i) σ H p := fun H1 e _ k => ⟨v, h, k v H1 (R.refl e) (p.st e.2 hp)⟩
theorem ev_c : EvP R n n (tC v) σ H (is v) := fun H1 e _ k => k v H1 (R.refl e) rfl
theorem ev_cP (hp : p.P R.M v H) : EvP R n n (tC v) σ H p := fun H1 e _ k => k v H1 (R.refl e) (p.st e.2 hp)
theorem ev_op (ha : EvP R n m ta σ H p) (hb : EvP R m k tb σ H q) (hr : ∀ x y H1, R.ok k H H1 → p.P R.M x H1 → q.P R.M y H1 → RV R r x y H1 s) : EvP R n k (tOp r ta tb) σ H s := fun H1 e Q f =>
  ha H1 e _ fun x H2 e2 hx => hb H2 (R.trans e e2) _ fun y H3 e3 hy => hr x y H3 (R.trans (R.trans e e2) e3) (p.st e3.2 hx) hy _ e3.1 Q fun z H4 e4 hz => f z H4 (R.trans (R.trans e2 e3) e4) hz
/-- both operands known -/
theorem ev_op2 (ha : EvP R n m ta σ H (is x)) (hb : EvP R m k tb σ H (is y)) (hr : ∀ H1, R.ok k H H1 → RV R r x y H1 s) : EvP R n k (tOp r ta tb) σ H s := ev_op ha hb fun a b H1 e ea eb => by
  have ea : a = x := ea
  have eb : b = y := eb
  subst ea; subst eb
  exact hr H1 e
theorem ev_un {ru : V → Hp → VK → Prop} (ha : EvP R n m ta σ H p) (hr : ∀ x H1, R.ok m H H1 → p.P R.M x H1 → RU R ru x H1 s) : EvP R n m (tUn ru ta) σ H s := fun H1 e Q f =>
  ha H1 e _ fun x H2 e2 hx => hr x H2 (R.trans e e2) hx _ e2.1 Q fun z H3 e3 hz => f z H3 (R.trans e2 e3) hz
theorem ev_neg {i : Int} (ha : EvP R n m ta σ H (is (.int i))) : EvP R n m (tUn (rU fun i => .int (-i)) ta) σ H (is (.int (-i))) := ev_un ha fun x H1 e hx _ j Q k => ⟨i, hx, k _ H1 (R.self j) rfl⟩
theorem ea_nil : EvA R n n tNil σ H [] := fun H1 e _ k => k [] H1 (R.refl e) .nil
theorem ea_cons {tr : TA} {ps : List SP} (h : EvP R n m ta σ H p) (hr : EvA R m k tr σ H ps) : EvA R n k (tCons ta tr) σ H (p :: ps) := fun H1 e _ f =>
  h H1 e _ fun v H2 e2 hv => hr H2 (R.trans e e2) _ fun vs H3 e3 hvs => f (v :: vs) H3 (R.trans e2 e3) (.cons (p.st e3.2 hv) hvs)
theorem ev_cb {rc : List V → Hp → VK → Prop} {tar : TA} {ps : List SP} (h : EvA R n m tar σ H ps) (hr : ∀ vs H1, R.ok m H H1 → Paired (fun v (p : SP) => p.P R.M v H1) vs ps → RC R rc vs H1 s) : EvP R n m (tCB rc tar) σ H s := fun H1 e Q f =>
  h H1 e _ fun vs H2 e2 hv => hr vs H2 (R.trans e e2) hv _ e2.1 Q fun z H3 e3 hz => f z H3 (R.trans e2 e3) hz
theorem ev_bm {T : String} {rm : V → List V → Hp → VK → Prop} {tar : TA} {ps : List SP} (ho : EvP R n m te σ H p) (hT : ∀ x H1, R.ok m H H1 → p.P R.M x H1 → tyV K T x H1) (h : EvA R m k tar σ H ps)
    (hr : ∀ x vs H1, R.ok k H H1 → p.P R.M x H1 → Paired (fun v (p : SP) => p.P R.M v H1) vs ps → RM R rm x vs H1 s) : EvP R n k (tBM K T rm te tar) σ H s := fun H1 e Q f =>
  ho H1 e _ fun x H2 e2 hx => ⟨hT x H2 (R.trans e e2) hx, h H2 (R.trans e e2) _ fun vs H3 e3 hv => hr x vs H3 (R.trans (R.trans e e2) e3) (p.st e3.2 hx) hv _ e3.1 Q fun z H4 e4 hz => f z H4 (R.trans (R.trans e2 e3) e4) hz⟩
theorem eo_none : EvO R n n tNoPart σ H (fun o => o = none) := fun H1 e _ k => k none H1 (R.refl e) rfl
theorem eo_some {i : Int} (h : EvP R n m te σ H (is (.int i))) : EvO R n m (tPart te) σ H (fun o => o = some i) := fun H1 e _ k => h H1 e _ fun v H2 e2 hv => ⟨i, hv, k _ H2 e2 rfl⟩
theorem ev_sl {j : Nat} {rs : V → Option Int → Option Int → Hp → VK → Prop} {tl th : TO} {lo hi : Option Int} (ha : EvP R n m te σ H p) (hl : EvO R m k tl σ H (fun o => o = lo)) (hh : EvO R k j th σ H (fun o => o = hi)) (hr : ∀ x H1, R.ok j H H1 → p.P R.M x H1 → RS R rs x lo hi H1 s) : EvP R n j (tSl rs te tl th) σ H s := fun H1 e Q f =>
  ha H1 e _ fun x H2 e2 hx => hl H2 (R.trans e e2) _ fun o H3 e3 ho => hh H3 (R.trans (R.trans e e2) e3) _ fun o' H4 e4 ho' => by
    subst ho; subst ho'
    exact hr x H4 (R.trans (R.trans (R.trans e e2) e3) e4) (p.st (R.trans e3 e4).2 hx) _ e4.1 Q fun z H5 e5 hz => f z H5 (R.trans (R.trans (R.trans e2 e3) e4) e5) hz
/-! ### tests -/
theorem et_test {b : Bool} (h : EvP R n m te σ H (is (.bl b))) : EvT R n m (tTest te) σ H (· = b) := fun H1 e _ k => h H1 e _ fun v H2 e2 hv => ⟨b, hv, k b H2 e2 rfl⟩
theorem et_B {b : Bool} (h : EvP R n m te σ H (is (.bl b))) : EvT R n m (tB te) σ H (· = b) := fun H1 e _ k => h H1 e _ fun v H2 e2 hv => ⟨b, hv, k b H2 e2 rfl⟩
/-- a test whose outcome is open -/
theorem et_testG {G : Bool → Prop} (h : EvP R n m te σ H (sat fun v => ∃ b, v = .bl b ∧ G b)) : EvT R n m (tTest te) σ H G := fun H1 e _ k => h H1 e _ fun v H2 e2 ⟨b, hv, g⟩ => ⟨b, hv, k b H2 e2 g⟩
theorem et_BG {G : Bool → Prop} (h : EvP R n m te σ H (sat fun v => ∃ b, v = .bl b ∧ G b)) : EvT R n m (tB te) σ H G := fun H1 e _ k => h H1 e _ fun v H2 e2 ⟨b, hv, g⟩ => ⟨b, hv, k b H2 e2 g⟩
/-- open outcomes -/
theorem et_andG {G G' : Bool → Prop} (h1 : EvT R n m t σ H G) (h2 : G true → EvT R m k u σ H G') (h3 : G false → G' false) (hk : k ≤ m) : EvT R n k (tAnd t u) σ H G' := fun H1 e Q f => h1 H1 e _ fun c H2 e2 hc => by
  cases c with
  | true =>
    show u σ H2 Q
    exact h2 hc H2 (R.trans e e2) Q fun d H3 e3 hd => f d H3 (R.trans e2 e3) hd
  | false =>
    show Q false H2
    exact f false H2 ⟨R.dec e2.1 hk, e2.2⟩ (h3 hc)
theorem et_orG {G G' : Bool → Prop} (h1 : EvT R n m t σ H G) (h2 : G false → EvT R m k u σ H G') (h3 : G true → G' true) (hk : k ≤ m) : EvT R n k (tOr t u) σ H G' := fun H1 e Q f => h1 H1 e _ fun c H2 e2 hc => by
  cases c with
  | true =>
    show Q true H2
    exact f true H2 ⟨R.dec e2.1 hk, e2.2⟩ (h3 hc)
  | false =>
    show u σ H2 Q
    exact h2 hc H2 (R.trans e e2) Q fun d H3 e3 hd => f d H3 (R.trans e2 e3) hd
theorem et_and {a b : Bool} (h1 : EvT R n n t σ H (· = a)) (h2 : a = true → EvT R n n u σ H (· = b)) : EvT R n n (tAnd t u) σ H (· = (a && b)) := et_andG h1 (fun e => by subst e; exact h2 rfl) (fun e => by subst e; rfl) (Nat.le_refl _)
theorem et_or {a b : Bool} (h1 : EvT R n n t σ H (· = a)) (h2 : a = false → EvT R n n u σ H (· = b)) : EvT R n n (tOr t u) σ H (· = (a || b)) := et_orG h1 (fun e => by subst e; exact h2 rfl) (fun e => by subst e; rfl) (Nat.le_refl _)
theorem et_not {a : Bool} (h1 : EvT R n m t σ H (· = a)) : EvT R n m (tNot t) σ H (· = !a) := fun H1 e _ k => h1 H1 e _ fun c H2 e2 hc => k (!c) H2 e2 (congrArg not hc)
theorem et_is {a b : Bool} (h : EvT R n m t σ H (· = a)) (e : a = b) : EvT R n m t σ H (· = b) := by
  subst e
  exact h
theorem ev_andV {a b : Bool} (h1 : EvP R n n ta σ H (is (.bl a))) (h2 : a = true → EvP R n n tb σ H (is (.bl b))) : EvP R n n (tAndV ta tb) σ H (is (.bl (a && b))) := fun H1 e Q k => h1 H1 e _ fun v H2 e2 hv => ⟨a, hv, by
  cases a with
  | true =>
    show tb σ H2 Q
    exact h2 rfl H2 (R.trans e e2) Q fun d H3 e3 hd => k d H3 (R.trans e2 e3) hd
  | false =>
    show Q (.bl false) H2
    exact k _ H2 e2 rfl⟩
theorem ev_orV {a b : Bool} (h1 : EvP R n n ta σ H (is (.bl a))) (h2 : a = false → EvP R n n tb σ H (is (.bl b))) : EvP R n n (tOrV ta tb) σ H (is (.bl (a || b))) := fun H1 e Q k => h1 H1 e _ fun v H2 e2 hv => ⟨a, hv, by
  cases a with
  | true =>
    show Q (.bl true) H2
    exact k _ H2 e2 rfl
  | false =>
    show tb σ H2 Q
    exact h2 rfl H2 (R.trans e e2) Q fun d H3 e3 hd => k d H3 (R.trans e2 e3) hd⟩
theorem ev_notV {a : Bool} (h1 : EvP R n m ta σ H (is (.bl a))) : EvP R n m (tNotV ta) σ H (is (.bl (!a))) := fun H1 e _ k => h1 H1 e _ fun v H2 e2 hv => ⟨a, hv, k _ H2 e2 rfl⟩
theorem ev_if {G : Bool → Prop} (h : EvT R n m t σ H G) (h1 : G true → EvP R m k ta σ H s) (h2 : G false → EvP R m k tb σ H s) : EvP R n k (tIf t ta tb) σ H s := fun H1 e Q f => h H1 e _ fun b H2 e2 hb => by
  cases b with
  | true =>
    show ta σ H2 Q
    exact h1 hb H2 (R.trans e e2) Q fun d H3 e3 hd => f d H3 (R.trans e2 e3) hd
  | false =>
    show tb σ H2 Q
    exact h2 hb H2 (R.trans e e2) Q fun d H3 e3 hd => f d H3 (R.trans e2 e3) hd
/-- a known test -/
theorem ev_ifB {b : Bool} (h : EvT R n m t σ H (· = b)) (h1 : b = true → EvP R m k ta σ H s) (h2 : b = false → EvP R m k tb σ H s) : EvP R n k (tIf t ta tb) σ H s := ev_if h (fun e => h1 e.symm) (fun e => h2 e.symm)
theorem ev_ifV {b : Bool} {v w : V} (h : EvT R n m t σ H (· = b)) (h1 : b = true → EvP R m k ta σ H (is v)) (h2 : b = false → EvP R m k tb σ H (is w)) : EvP R n k (tIf t ta tb) σ H (is (if b = true then v else w)) := ev_ifB h (fun e => by
  rw [if_pos e]
  exact h1 e) (fun e => by
  rw [if_neg (by rw [e]; decide)]
  exact h2 e)
theorem ev_chain {r' : R2} {a b : Bool} (ha : EvP R n n ta σ H (is x)) (hb : EvP R n n tb σ H (is y)) (hc : EvP R n n tc σ H (is z)) (h1 : ∀ H1, R.ok n H H1 → RV R r x y H1 (is (.bl a))) (h2 : ∀ H1, R.ok n H H1 → RV R r' y z H1 (is (.bl b))) : EvP R n n (tChain r r' ta tb tc) σ H (is (.bl (a && b))) := fun H1 e Q f =>
  ha H1 e _ fun v1 H2 e2 q1 => hb H2 (R.trans e e2) _ fun v2 H3 e3 q2 => by
    have q1 : v1 = x := q1
    have q2 : v2 = y := q2
    subst q1; subst q2
    have e13 := R.trans (R.trans e e2) e3
    refine h1 H3 e13 n e3.1 _ fun w H4 e4 hw => ⟨a, hw, ?_⟩
    cases a with
    | true =>
      show tc σ H4 _
      refine hc H4 (R.trans e13 e4) _ fun v3 H5 e5 q3 => ?_
      have q3 : v3 = z := q3
      subst q3
      exact h2 H5 (R.trans (R.trans e13 e4) e5) n e5.1 Q fun w2 H6 e6 hw2 => f w2 H6 (R.trans (R.trans (R.trans (R.trans e2 e3) e4) e5) e6) hw2
    | false =>
      show Q (.bl false) H4
      exact f _ H4 (R.trans (R.trans e2 e3) e4) rfl
/-- a def is called -/
theorem ev_call {sp : Sp} {tar : TA} {ps : List SP} (h : EvA R n m tar σ H ps) (hs : ∀ vs H1, R.ok m H H1 → Paired (fun v (p : SP) => p.P R.M v H1) vs ps → ∀ Q : VK, (∀ v H2, R.ok k H1 H2 → s.P R.M v H2 → Q v H2) → sp vs H1 Q E0) : EvP R n k (tCall sp [] E0 tar) σ H s := fun H1 e Q f =>
  h H1 e _ fun vs H2 e2 hv => by
    show sp (vs ++ []) H2 Q E0
    rw [List.append_nil]
    exact hs vs H2 (R.trans e e2) hv Q fun v H3 e3 h3 => f v H3 (R.trans e2 e3) h3
/-! ### statements -/
def StF (R : Rel) (n : Nat) (ts : TS) (D : Ends) (σ : L2.St) (H : Hp) : Prop := ∀ H1, R.ok n H H1 → ts D σ H1
variable {D : Ends} {tu tw tz : TS} {g : TG}
theorem StF.run {ts : TS} (h : StF R n ts D σ H) (j : R.J n H) : ts D σ H := h H (R.self j)
theorem StF.mono {ts : TS} {j : Nat} (e : R.ok j H H') (h : StF R n ts D σ H) : StF R n ts D σ H' := fun H1 a => h H1 (R.trans e a)
theorem StF.more {ts : TS} {n' : Nat} (h : StF R n ts D σ H) (hn : n ≤ n') : StF R n' ts D σ H := fun H1 a => h H1 ⟨R.dec a.1 hn, a.2⟩
theorem s_ret (h : EvP R n m te σ H p) (k : ∀ v H1, R.ok m H H1 → p.P R.M v H1 → D.rt v H1) : StF R n (tRet te) D σ H := fun H1 e => h H1 e _ fun v H2 e2 hv => k v H2 (R.trans e e2) hv
theorem s_if {G : Bool → Prop} (h : EvT R n m t σ H G) (h1 : G true → StF R m tu D σ H) (h2 : G false → StF R m tw D σ H) : StF R n (tIfS t tu tw) D σ H := fun H1 e => h H1 e _ fun b H2 e2 hb => by
  cases b with
  | true =>
    show tu D σ H2
    exact h1 hb H2 (R.trans e e2)
  | false =>
    show tw D σ H2
    exact h2 hb H2 (R.trans e e2)
theorem s_ifB {b : Bool} (h : EvT R n m t σ H (· = b)) (h1 : b = true → StF R m tu D σ H) (h2 : b = false → StF R m tw D σ H) : StF R n (tIfS t tu tw) D σ H := s_if h (fun e => h1 e.symm) (fun e => h2 e.symm)
/-- what comes behind a statement -/
theorem s_nx (k : ∀ H1, R.ok n H H1 → D.nx σ H1) : StF R n tNext D σ H := k
/-- x = e, the value known by its property alone: the heap stays -/
theorem s_asgG {i : Nat} {G : V → Prop} (h : EvP R n m te σ H (sat G)) (k : ∀ v, G v → ∀ H1, R.ok m H H1 → D.nx (σ.set i (some v)) H1) : StF R n (tAsg te (gName i)) D σ H := fun H1 e => h H1 e _ fun v H2 e2 hv => k v hv H2 (R.trans e e2)
theorem s_asgV {i : Nat} (h : EvP R n m te σ H (is v)) (k : ∀ H1, R.ok m H H1 → D.nx (σ.set i (some v)) H1) : StF R n (tAsg te (gName i)) D σ H := fun H1 e => h H1 e _ fun w H2 e2 hw => by
  have hw : w = v := hw
  subst hw
  exact k H2 (R.trans e e2)
theorem s_asg {i : Nat} (h : EvP R n m te σ H p) (k : ∀ v H1, R.ok m H H1 → p.P R.M v H1 → D.nx (σ.set i (some v)) H1) : StF R n (tAsg te (gName i)) D σ H := fun H1 e => h H1 e _ fun v H2 e2 hv => k v H2 (R.trans e e2) hv
theorem q_asgG {i : Nat} {G : V → Prop} (h : EvP R n m te σ H (sat G)) (k : ∀ v, G v → StF R m tz D (σ.set i (some v)) H) : StF R n (tSeq (tAsg te (gName i)) tz) D σ H := s_asgG (D := { D with nx := tz D }) h fun v hv H1 e => k v hv H1 e
theorem q_asgV {i : Nat} (h : EvP R n m te σ H (is v)) (k : StF R m tz D (σ.set i (some v)) H) : StF R n (tSeq (tAsg te (gName i)) tz) D σ H := s_asgV (D := { D with nx := tz D }) h fun H1 e => k H1 e
theorem q_asg {i : Nat} (h : EvP R n m te σ H p) (k : ∀ v H1, R.ok m H H1 → p.P R.M v H1 → StF R m tz D (σ.set i (some v)) H1) : StF R n (tSeq (tAsg te (gName i)) tz) D σ H := s_asg (D := { D with nx := tz D }) h fun v H1 e hv => (k v H1 e hv).run e.1
theorem q_if {G : Bool → Prop} (h : EvT R n m t σ H G) (h1 : G true → StF R m tu { D with nx := tz D } σ H) (h2 : G false → StF R m tw { D with nx := tz D } σ H) : StF R n (tSeq (tIfS t tu tw) tz) D σ H := s_if (D := { D with nx := tz D }) h h1 h2
/-- an if without else -/
theorem q_when {G : Bool → Prop} (h : EvT R n m t σ H G) (h1 : G true → StF R m tu { D with nx := tz D } σ H) (h2 : G false → StF R m tz D σ H) : StF R n (tSeq (tIfS t tu tNext) tz) D σ H := s_if (D := { D with nx := tz D }) h h1 fun hb H1 e => h2 hb H1 e
theorem q_whenB {b : Bool} (h : EvT R n m t σ H (· = b)) (h1 : b = true → StF R m tu { D with nx := tz D } σ H) (h2 : b = false → StF R m tz D σ H) : StF R n (tSeq (tIfS t tu tNext) tz) D σ H := q_when h (fun e => h1 e.symm) (fun e => h2 e.symm)
theorem s_when {G : Bool → Prop} (h : EvT R n m t σ H G) (h1 : G true → StF R m tu D σ H) (h2 : G false → ∀ H1, R.ok m H H1 → D.nx σ H1) : StF R n (tIfS t tu tNext) D σ H := s_if h h1 h2
theorem q_par {i j : Nat} {tar : TA} {p q : SP} (h : EvA R n m tar σ H [p, q]) (k : ∀ v w H1, R.ok m H H1 → p.P R.M v H1 → q.P R.M w H1 → StF R m tz D ((σ.set i (some v)).set j (some w)) H1) : StF R n (tSeq (tPar i j tar) tz) D σ H := fun H1 e => h H1 e _ fun vs H2 e2 hv => by
  cases hv with
  | cons a b => cases b with
    | cons a2 b2 => cases b2; exact ⟨_, _, rfl, (k _ _ H2 (R.trans e e2) a a2).run e2.1⟩
/-- .. both known by their properties alone -/
theorem s_parG {i j : Nat} {tar : TA} {F G : V → Prop} (h : EvA R n m tar σ H [sat F, sat G]) (k : ∀ v w, F v → G w → ∀ H1, R.ok m H H1 → D.nx ((σ.set i (some v)).set j (some w)) H1) : StF R n (tPar i j tar) D σ H := fun H1 e => h H1 e _ fun vs H2 e2 hv => by
  cases hv with
  | cons a b => cases b with
    | cons a2 b2 => cases b2; exact ⟨_, _, rfl, k _ _ a a2 H2 (R.trans e e2)⟩
theorem q_parG {i j : Nat} {tar : TA} {F G : V → Prop} (h : EvA R n m tar σ H [sat F, sat G]) (k : ∀ v w, F v → G w → StF R m tz D ((σ.set i (some v)).set j (some w)) H) : StF R n (tSeq (tPar i j tar) tz) D σ H := s_parG (D := { D with nx := tz D }) h fun v w hv hw H1 e => k v w hv hw H1 e
end
end My
namespace My
open PySem PySem.Spec PyProof.Rows L2
abbrev Codes := List Nat
/-- a text by its codes -/
abbrev sv (l : Codes) : V := .str (SX.S l)
abbrev cs (x : Str) : Codes := x.cps.toList
theorem sv_inj {a b : Codes} (h : sv a = sv b) : a = b := SX.S_inj (V.str.inj h)
theorem sv_of (x : Str) : V.str x = sv (cs x) := congrArg V.str (SX.S_tl x).symm
theorem dec_sv (a b : Codes) : decide (sv a = sv b) = decide (a = b) := by
  by_cases h : a = b
  · rw [decide_eq_true h, decide_eq_true (by rw [h])]
  · rw [decide_eq_false h, decide_eq_false fun e => h (sv_inj e)]
theorem dec_int (a b : Int) : decide (V.int a = V.int b) = decide (a = b) := by
  by_cases h : a = b
  · rw [decide_eq_true h, decide_eq_true (by rw [h])]
  · rw [decide_eq_false h, decide_eq_false fun e => h (V.int.inj e)]
theorem dec_bl (a b : Bool) : decide (V.bl a = V.bl b) = (a == b) := by
  cases a <;> cases b <;> rfl
theorem slen {l : Codes} (h : l.length ≤ 100000) : (SX.S l).length ≤ sizeLine := by
  rw [SX.S_len]
  exact Evl.sz_of h
section
variable {R : Rel} {n m k : Nat} {K : PySem.W.Frag} {σ : L2.St} {H H' : Hp} {ta tb tc te : TE} {t u : TT} {x y z v : V} {p q s : SP}
theorem ev_str {l : Codes} {c : Str} (h : c = SX.S l) : EvP R n n (tC (.str c)) σ H (is (sv l)) := by
  subst h
  exact ev_c
theorem rv_now {r : R2} (h : ∀ Q : VK, Q z H → r x y H Q) : RV R r x y H (is z) := fun _ j Q k => h Q (k z H (R.self j) rfl)
theorem rc_now {r : List V → Hp → VK → Prop} {vs : List V} (h : ∀ Q : VK, Q z H → r vs H Q) : RC R r vs H (is z) := fun _ j Q k => h Q (k z H (R.self j) rfl)
theorem rm_now {r : V → List V → Hp → VK → Prop} {vs : List V} (h : ∀ Q : VK, Q z H → r x vs H Q) : RM R r x vs H (is z) := fun _ j Q k => h Q (k z H (R.self j) rfl)
theorem rs_now {r : V → Option Int → Option Int → Hp → VK → Prop} {lo hi : Option Int} (h : ∀ Q : VK, Q z H → r x lo hi H Q) : RS R r x lo hi H (is z) := fun _ j Q k => h Q (k z H (R.self j) rfl)
/-! ### ints -/
variable {i j : Int} {a b : Codes}
theorem rv_addI : RV R (rAddU K) (.int i) (.int j) H (is (.int (i + j))) := rv_now fun _ q => .inl ⟨i, j, rfl, rfl, q⟩
theorem rv_subI : RV R (rI0 fun i j => V.int (i - j)) (.int i) (.int j) H (is (.int (i - j))) := rv_now fun _ q => ⟨i, j, rfl, rfl, q⟩
theorem rv_mulI (h : CMul i j) : RV R rMulU (.int i) (.int j) H (is (.int (i * j))) := rv_now fun _ q => .inl ⟨i, j, rfl, rfl, h, q⟩
theorem rv_modI (h : 0 < j) : RV R (rI (fun _ j => 0 < j) fun i j => V.int (i % j)) (.int i) (.int j) H (is (.int (i % j))) := rv_now fun _ q => ⟨i, j, rfl, rfl, h, q⟩
theorem rv_divI (h : CDiv i j) : RV R rDivU (.int i) (.int j) H (is (.int (i / j))) := rv_now fun _ q => .inl ⟨i, j, rfl, rfl, h, q⟩
theorem rv_divW (h : CDivW i j) : RV R rDivU (.int i) (.int j) H (is (.int (i / j))) := rv_now fun _ q => .inr ⟨i, j, rfl, rfl, h, q⟩
theorem rv_powI (h : CPow i j) : RV R (rI CPow fun i j => V.int (i ^ j.toNat)) (.int i) (.int j) H (is (.int (i ^ j.toNat))) := rv_now fun _ q => ⟨i, j, rfl, rfl, h, q⟩
theorem rv_ltI : RV R rLtU (.int i) (.int j) H (is (.bl (decide (i < j)))) := rv_now fun _ q => .inl ⟨i, j, rfl, rfl, q⟩
theorem rv_leI : RV R rLeU (.int i) (.int j) H (is (.bl (decide (i ≤ j)))) := rv_now fun _ q => ⟨i, j, rfl, rfl, q⟩
theorem rv_gtI : RV R rGtU (.int i) (.int j) H (is (.bl (decide (j < i)))) := rv_now fun _ q => ⟨i, j, rfl, rfl, q⟩
theorem rv_geI : RV R rGeU (.int i) (.int j) H (is (.bl (decide (j ≤ i)))) := rv_now fun _ q => ⟨i, j, rfl, rfl, q⟩
theorem rv_eqI : RV R (rEqU K) (.int i) (.int j) H (is (.bl (decide (i = j)))) := rv_now fun _ q => .inl ⟨rfl, by rw [dec_int]; exact q⟩
theorem rv_neI : RV R (rNeU K) (.int i) (.int j) H (is (.bl (!decide (i = j)))) := rv_now fun _ q => .inl ⟨rfl, by rw [dec_int]; exact q⟩
/-! ### bools, None -/
theorem rv_eqB {c d : Bool} : RV R (rEqU K) (.bl c) (.bl d) H (is (.bl (c == d))) := rv_now fun _ q => .inl ⟨rfl, by rw [dec_bl]; exact q⟩
theorem rv_neB {c d : Bool} : RV R (rNeU K) (.bl c) (.bl d) H (is (.bl (!(c == d)))) := rv_now fun _ q => .inl ⟨rfl, by rw [dec_bl]; exact q⟩
theorem rv_isN : RV R rIsU x .non H (is (.bl (decide (x = .non)))) := rv_now fun _ q => .inl ⟨rfl, q⟩
theorem rv_isNotN : RV R rIsNotU x .non H (is (.bl (!decide (x = .non)))) := rv_now fun _ q => .inl ⟨rfl, q⟩
theorem rv_isB {c d : Bool} : RV R rIsU (.bl c) (.bl d) H (is (.bl (decide (c = d)))) := rv_now fun _ q => .inr ⟨c, d, rfl, rfl, q⟩
/-! ### texts -/
theorem rv_addS (h : a.length + b.length ≤ 100000) : RV R (rAddU K) (sv a) (sv b) H (is (sv (a ++ b))) := rv_now fun _ q => .inr (.inl ⟨_, _, rfl, rfl, by rw [SX.S_len, SX.S_len]; exact Evl.sz_of h, by rw [SX.S_cat]; exact q⟩)
theorem rv_eqS : RV R (rEqU K) (sv a) (sv b) H (is (.bl (decide (a = b)))) := rv_now fun _ q => .inl ⟨rfl, by rw [dec_sv]; exact q⟩
theorem rv_neS : RV R (rNeU K) (sv a) (sv b) H (is (.bl (!decide (a = b)))) := rv_now fun _ q => .inl ⟨rfl, by rw [dec_sv]; exact q⟩
theorem rv_ltS : RV R rLtU (sv a) (sv b) H (is (.bl (decide (a < b)))) := rv_now fun _ q => .inr ⟨_, _, rfl, rfl, q⟩
theorem rv_inS {c : Nat} : RV R (rInU K) (sv [c]) (sv b) H (is (.bl (decide (c ∈ b)))) := rv_now fun _ q => .inl ⟨c, _, rfl, rfl, q⟩
theorem rv_niS {c : Nat} : RV R (rNotInU K) (sv [c]) (sv b) H (is (.bl (!decide (c ∈ b)))) := rv_now fun _ q => .inl ⟨c, _, rfl, rfl, q⟩
theorem rv_ixS {c : Nat} (hl : a.length ≤ 100000) (h : atI a i = some c) : RV R (rIx K) (sv a) (.int i) H (is (sv [c])) := rv_now fun _ q => .inr (.inr ⟨_, i, c, rfl, rfl, slen hl, h, q⟩)
theorem rv_ixL {l : Addr} {xs : List V} (hl : SqL K H l xs) (h : atI xs i = some v) : RV R (rIx K) (.ref l) (.int i) H (is v) := rv_now fun _ q => .inl ⟨l, xs, i, v, rfl, rfl, hl, h, q⟩
theorem rv_ixT {l : Addr} {xs : List V} (hl : SqT K H l xs) (h : atI xs i = some v) : RV R (rIx K) (.ref l) (.int i) H (is v) := rv_now fun _ q => .inr (.inl ⟨l, xs, i, v, rfl, rfl, hl, h, q⟩)
/-- slices by codes -/
def sl (l : Codes) (lo hi : Option Int) : Codes := cs (cutS (SX.S l) lo hi)
theorem rs_S {lo hi : Option Int} (hl : a.length ≤ 100000) : RS R (rSlU K) (sv a) lo hi H (is (sv (sl a lo hi))) := rs_now fun _ q => .inl ⟨_, rfl, slen hl, by
  have e : V.str (cutS (SX.S a) lo hi) = sv (sl a lo hi) := sv_of _
  rw [e]
  exact q⟩
theorem sl_to {i : Int} (h : 0 ≤ i) : sl a none (some i) = a.take i.toNat := by
  unfold sl
  rw [C8.cutS_slice, SX.slice_to h]
theorem sl_from {i : Int} (h : 0 ≤ i) : sl a (some i) none = a.drop i.toNat := by
  unfold sl
  rw [C8.cutS_slice, SX.slice_from h]
theorem sl_len (l : Codes) (lo hi : Option Int) : (sl l lo hi).length ≤ l.length := by
  have h := cutS_length (SX.S l) lo hi
  have e0 := SX.S_len l
  have e : (cutS (SX.S l) lo hi).length = (sl l lo hi).length := TL.len_tl _
  omega
/-! ### calls -/
theorem one {vs : List V} (h : Paired (fun v (p : SP) => p.P R.M v H) vs [p]) : ∃ v, vs = [v] ∧ p.P R.M v H := by
  cases h with
  | cons a b => cases b; exact ⟨_, rfl, a⟩
theorem two {vs : List V} (h : Paired (fun v (p : SP) => p.P R.M v H) vs [p, q]) : ∃ v w, vs = [v, w] ∧ p.P R.M v H ∧ q.P R.M w H := by
  cases h with
  | cons a b => cases b with
    | cons c d => cases d; exact ⟨_, _, rfl, a, c⟩
theorem three {vs : List V} (h : Paired (fun v (p : SP) => p.P R.M v H) vs [p, q, s]) : ∃ v w z, vs = [v, w, z] ∧ p.P R.M v H ∧ q.P R.M w H ∧ s.P R.M z H := by
  cases h with
  | cons a b => cases b with
    | cons c d => cases d with
      | cons e f => cases f; exact ⟨_, _, _, rfl, a, c, e⟩
theorem ev_len1 {len : Nat} (ha : EvP R n m te σ H p) (hn : ∀ v H1, R.ok m H H1 → p.P R.M v H1 → LenV K v H1 len) : EvP R n m (tCB (rLenU K) (tCons te tNil)) σ H (is (.int len)) := ev_cb (ea_cons ha ea_nil) fun vs H1 e hv => by
  obtain ⟨v, rfl, h⟩ := one hv
  exact rc_now fun _ q => ⟨v, len, rfl, hn v H1 e h, q⟩
theorem ev_lenS (ha : EvP R n m te σ H (is (sv a))) (hl : a.length ≤ 100000) : EvP R n m (tCB (rLenU K) (tCons te tNil)) σ H (is (.int a.length)) := ev_len1 ha fun v H1 _ hv => by
  have hv : v = sv a := hv
  subst hv
  exact ⟨slen hl, (SX.S_len a).symm⟩
theorem ev_lenL {xs : List V} {l : Addr} (ha : EvP R n m te σ H (is (.ref l))) (hl : SqM K R.M H l xs) : EvP R n m (tCB (rLenU K) (tCons te tNil)) σ H (is (.int xs.length)) := ev_len1 ha fun v H1 e hv => by
  have hv : v = .ref l := hv
  subst hv
  exact .inl ⟨xs, (hl.st e.2).sq, rfl⟩
theorem ev_intI (ha : EvP R n m te σ H (is (.int i))) : EvP R n m (tCB rIntU (tCons te tNil)) σ H (is (.int i)) := ev_cb (ea_cons ha ea_nil) fun vs H1 e hv => by
  obtain ⟨v, rfl, h⟩ := one hv
  have h : v = .int i := h
  subst h
  exact rc_now fun _ q => .inl (.inl ⟨i, rfl, q⟩)
theorem ev_intB {c : Bool} (ha : EvP R n m te σ H (is (.bl c))) : EvP R n m (tCB rIntU (tCons te tNil)) σ H (is (.int (if c then 1 else 0))) := ev_cb (ea_cons ha ea_nil) fun vs H1 e hv => by
  obtain ⟨v, rfl, h⟩ := one hv
  have h : v = .bl c := h
  subst h
  exact rc_now fun _ q => .inl (.inr ⟨c, rfl, q⟩)
theorem ev_intS {iv : Int} (ha : EvP R n m te σ H (is (sv a))) (hn : PySem.intText? (SX.S a) = some iv) (hl : a.length ≤ 640) : EvP R n m (tCB rIntU (tCons te tNil)) σ H (is (.int iv)) := ev_cb (ea_cons ha ea_nil) fun vs H1 e hv => by
  obtain ⟨v, rfl, h⟩ := one hv
  have h : v = sv a := h
  subst h
  exact rc_now fun _ q => .inr ⟨_, iv, rfl, hn, by rw [SX.S_len]; exact hl, q⟩
/-- isinstance -/
theorem ev_isi {c : V} {tv uv : Value} {d : Bool} (ha : EvP R n m ta σ H p) (hb : EvP R m k tb σ H (is c)) (hc : ClsV c uv) (ht : ∀ v H1, R.ok k H H1 → p.P R.M v H1 → TyX K H1 v tv) (hk : PySem.W.kitOne K tv uv = some d) : EvP R n k (tCB (rIsi K) (tCons ta (tCons tb tNil))) σ H (is (.bl d)) :=
  ev_cb (ea_cons ha (ea_cons hb ea_nil)) fun vs H1 e hv => by
    obtain ⟨v, w, rfl, h1, h2⟩ := two hv
    have h2 : w = c := h2
    subst h2
    exact rc_now fun _ q => ⟨v, w, tv, uv, d, rfl, hc, ht v H1 e h1, hk, q⟩
/-- methods of a text without arguments, with one -/
theorem ev_bmS0 {l : Codes} {f : Str → Str} {rm : V → List V → Hp → VK → Prop} (ha : EvP R n m te σ H (is (sv a))) (hf : f (SX.S a) = SX.S l) (hr : ∀ H1 Q, Q (.str (f (SX.S a))) H1 → rm (sv a) [] H1 Q) : EvP R n m (tBM0 K "str" rm te) σ H (is (sv l)) := fun H1 e Q k =>
  ha H1 e _ fun x H2 e2 hx => by
    have hx : x = sv a := hx
    subst hx
    exact ⟨rfl, hr H2 Q (by rw [hf]; exact k _ H2 e2 rfl)⟩
theorem ev_bmS1 {rm : V → List V → Hp → VK → Prop} (ha : EvP R n m te σ H (is (sv a))) (hb : EvP R m k tb σ H p) (hr : ∀ v H1, R.ok k H H1 → p.P R.M v H1 → RM R rm (sv a) [v] H1 s) : EvP R n k (tBM K "str" rm te (tCons tb tNil)) σ H s :=
  ev_bm ha (fun x H1 _ hx => by
    have hx : x = sv a := hx
    subst hx
    rfl) (ea_cons hb ea_nil) fun x vs H1 e hx hv => by
      have hx : x = sv a := hx
      subst hx
      obtain ⟨v, rfl, h⟩ := one hv
      exact hr v H1 e h
end
end My
namespace My
open PySem PySem.Spec PyProof.Rows L2
theorem SqM.ofL {K : PySem.W.Frag} {M : Addr → Prop} {H : Hp} {p : Addr} {xs : List V} (h : SqL K H p xs) (m : ¬ M p) : SqM K M H p xs := h.imp (fun a => ⟨a, m⟩) fun a _ => .inr a
theorem StM.ofT {K : PySem.W.Frag} {M : Addr → Prop} {H : Hp} {p : Addr} {xs : List V} (h : SqT K H p xs) (m : ¬ M p) : StM K M H p xs := h.imp (fun a => ⟨a, m⟩) fun a _ => .inr a
theorem paired_at {α β : Type} {F : α → β → Prop} : ∀ {xs : List α} {ys : List β} {i : Nat} {x : α} {y : β}, Paired F xs ys → xs[i]? = some x → ys[i]? = some y → F x y
  | _, _, 0, _, _, .cons a _, h1, h2 => by cases h1; cases h2; exact a
  | _, _, i + 1, _, _, .cons _ b, h1, h2 => paired_at b h1 h2
section
variable {R : Rel} {n m k : Nat} {K : PySem.W.Frag} {σ : L2.St} {H H' : Hp} {ta tb tc te : TE} {t u : TT} {x y z v : V} {p q s : SP} {D : Ends} {tu tw tz : TS} {g : TG}
/-! ### displays -/
theorem ev_lst {tar : TA} {ps : List SP} (h : EvA R n m tar σ H ps) (hl : ps.length ≤ 100000) : EvP R n m (tLst tar) σ H (lstP id ps) := fun H1 e Q f =>
  h H1 e _ fun vs H2 e2 hv => ⟨by rw [hv.length]; exact Evl.sz_of hl, fun l hl => f _ _ (R.trans e2 (R.new e2.1 hl)) ⟨l, vs, rfl, ⟨upd_same, R.fresh e2.1 hl⟩, Paired_imp (fun _ q z => q.st (R.new e2.1 hl).2 z) hv⟩⟩
theorem ev_tup {tar : TA} {ps : List SP} (h : EvA R n m tar σ H ps) (hl : ps.length ≤ 100000) : EvP R n m (tTup tar) σ H (tupP K id ps) := fun H1 e Q f =>
  h H1 e _ fun vs H2 e2 hv => ⟨by rw [hv.length]; exact Evl.sz_of hl, fun l hl => f _ _ (R.trans e2 (R.new e2.1 hl)) ⟨l, vs, rfl, .of upd_same (R.fresh e2.1 hl), Paired_imp (fun _ q z => q.st (R.new e2.1 hl).2 z) hv⟩⟩
/-- known items -/
theorem paired_is {M : Addr → Prop} {H : Hp} : ∀ {vs xs : List V}, Paired (fun v (p : SP) => p.P M v H) vs (xs.map is) → vs = xs
  | _, [], .nil => rfl
  | _, x :: xs, .cons a b => by rw [paired_is b, show _ = x from a]
theorem ev_lstV {tar : TA} {vs : List V} (h : EvA R n m tar σ H (vs.map is)) (hl : vs.length ≤ 100000) : EvP R n m (tLst tar) σ H (lstG (· = vs)) := (ev_lst h (by rw [List.length_map]; exact hl)).imp fun v H1 _ ⟨l, xs, e, h, g⟩ => ⟨l, xs, e, h, paired_is g⟩
theorem ev_tupV {tar : TA} {vs : List V} (h : EvA R n m tar σ H (vs.map is)) (hl : vs.length ≤ 100000) : EvP R n m (tTup tar) σ H (tupG K (· = vs)) := (ev_tup (K := K) h (by rw [List.length_map]; exact hl)).imp fun v H1 _ ⟨l, xs, e, h, g⟩ => ⟨l, xs, e, h, paired_is g⟩
/-! ### iterators -/
structure ItOk (M : Addr → Prop) (J : It) (ys : List SP) (H : Hp) : Prop where
  go : ∀ M' i H', Ext0 M H M' H' → i < ys.length → J.go i H'
  yld : ∀ M' i H' x H'', Ext0 M H M' H' → i < ys.length → J.yld i H' x H'' → Evl.Ex H' H'' ∧ ∀ y, ys[i]? = some y → y.P M' x H''
  stop : ∀ M' H', Ext0 M H M' H' → J.stop ys.length H'
def ItP (R : Rel) (n m : Nat) (wi : TI) (σ : L2.St) (H : Hp) (ys : List SP) : Prop := ∀ H1, R.ok n H H1 → ∀ Rk : It → Hp → Prop, (∀ J H2, R.ok m H1 H2 → ItOk R.M J ys H2 → Rk J H2) → wi σ H1 Rk
theorem it_list {l : Addr} {xs : List V} (ha : EvP R n m te σ H (is (.ref l))) (hx : SqM K R.M H l xs) : ItP R n m (iAny K te) σ H (xs.map is) := fun H1 e Rk k => .inl (ha H1 e _ fun v H2 e2 hv => by
  have hv : v = .ref l := hv
  subst hv
  have h2 := hx.st (R.trans e e2).2
  refine ⟨l, rfl, ⟨xs, h2.sq⟩, k _ H2 e2 ⟨fun M' i H' e' hi => ?_, fun M' i H' x H'' e' hi hy => ?_, fun M' H' e' => ?_⟩⟩
  · rw [List.length_map] at hi
    exact ⟨xs, _, ((h2.lift e'.w).st e'.pr).sq, List.getElem?_eq_getElem hi⟩
  · obtain ⟨rfl, f⟩ := hy
    refine ⟨Evl.Ex.refl _, fun y hy => ?_⟩
    have q := f _ ((h2.lift e'.w).st e'.pr).sq
    rw [List.getElem?_map, q] at hy
    cases hy
    rfl
  · exact ⟨xs, ((h2.lift e'.w).st e'.pr).sq, by rw [List.length_map]; exact Nat.le_refl _⟩)
theorem it_tuple {l : Addr} {xs : List V} (ha : EvP R n m te σ H (is (.ref l))) (hx : StM K R.M H l xs) : ItP R n m (iAny K te) σ H (xs.map is) := fun H1 e Rk k => .inr (.inl (ha H1 e _ fun v H2 e2 hv => by
  have hv : v = .ref l := hv
  subst hv
  have h2 := hx.st (R.trans e e2).2
  refine ⟨l, rfl, ⟨xs, h2.sq⟩, k _ H2 e2 ⟨fun M' i H' e' hi => ?_, fun M' i H' x H'' e' hi hy => ?_, fun M' H' e' => ?_⟩⟩
  · rw [List.length_map] at hi
    exact ⟨xs, _, ((h2.lift e'.w).st e'.pr).sq, List.getElem?_eq_getElem hi⟩
  · obtain ⟨rfl, f⟩ := hy
    refine ⟨Evl.Ex.refl _, fun y hy => ?_⟩
    have q := f _ ((h2.lift e'.w).st e'.pr).sq
    rw [List.getElem?_map, q] at hy
    cases hy
    rfl
  · exact ⟨xs, ((h2.lift e'.w).st e'.pr).sq, by rw [List.length_map]; exact Nat.le_refl _⟩))
/-- over a list that is told by its properties -/
theorem it_lstP {α : Type} {pe : α → SP} {ys : List α} (ha : EvP R n m te σ H (lstP pe ys)) : ItP R n m (iAny K te) σ H (ys.map pe) := fun H1 e Rk k => .inl (ha H1 e _ fun v H2 e2 hv => by
  obtain ⟨l, xs, rfl, h2, hp⟩ := hv
  have hlen : xs.length = ys.length := hp.length
  refine ⟨l, rfl, ⟨xs, h2.sq⟩, k _ H2 e2 ⟨fun M' i H' e' hi => ?_, fun M' i H' x H'' e' hi hy => ?_, fun M' H' e' => ?_⟩⟩
  · rw [List.length_map, ← hlen] at hi
    exact ⟨xs, _, ((h2.lift e'.w).st e'.pr).sq, List.getElem?_eq_getElem hi⟩
  · obtain ⟨rfl, f⟩ := hy
    refine ⟨Evl.Ex.refl _, fun y hy => ?_⟩
    have q := f _ ((h2.lift e'.w).st e'.pr).sq
    rw [List.getElem?_map] at hy
    obtain ⟨w, hw, rfl⟩ := Option.map_eq_some_iff.mp hy
    exact e'.get (paired_at (F := fun v y => (pe y).P R.M v H2) hp q hw)
  · exact ⟨xs, ((h2.lift e'.w).st e'.pr).sq, by rw [List.length_map, ← hlen]; exact Nat.le_refl _⟩)
theorem it_text {a : Codes} (ha : EvP R n m te σ H (is (sv a))) : ItP R n m (iAny K te) σ H (a.map fun c => is (sv [c])) := fun H1 e Rk k => .inr (.inr (ha H1 e _ fun v H2 e2 hv => by
  have hv : v = sv a := hv
  subst hv
  have sz : (SX.S a).cps.size = a.length := by simp [SX.S]
  refine ⟨SX.S a, rfl, k _ H2 e2 ⟨fun M' i H' e' hi => ?_, fun M' i H' x H'' e' hi hy => ?_, fun M' H' e' => ?_⟩⟩
  · rw [List.length_map] at hi
    show i < (SX.S a).cps.size
    rw [sz]
    exact hi
  · obtain ⟨rfl, c, hc, rfl⟩ := hy
    refine ⟨Evl.Ex.refl _, fun y hy => ?_⟩
    have hc2 : a[i]? = some c := by
      rw [← hc]
      simp [SX.S]
    rw [List.getElem?_map, hc2] at hy
    cases hy
    rfl
  · show (SX.S a).cps.size ≤ _
    rw [sz, List.length_map]
    exact Nat.le_refl _))
theorem it_range1 {iv : Int} (ha : EvP R n m ta σ H (is (.int iv))) (hn : -1000000 ≤ iv ∧ iv ≤ 1000000) : ItP R n m (iRng1 (tCons ta tNil)) σ H ((List.range iv.toNat).map fun (i : Nat) => is (.int (i : Int))) := fun H1 e Rk k => ha H1 e _ fun v H2 e2 hv => by
  have hv : v = .int iv := hv
  subst hv
  refine ⟨iv, rfl, by omega, by omega, k _ H2 e2 ⟨fun M' i H' e' hi => ?_, fun M' i H' x H'' e' hi hy => ?_, fun M' H' e' => ?_⟩⟩
  · rw [List.length_map, List.length_range] at hi
    exact hi
  · obtain ⟨rfl, rfl⟩ := hy
    refine ⟨Evl.Ex.refl _, fun y hy => ?_⟩
    rw [List.length_map, List.length_range] at hi
    rw [List.getElem?_map, List.getElem?_range hi] at hy
    cases hy
    show V.int (0 + (i : Int)) = V.int (i : Int)
    rw [Int.zero_add]
  · show iv.toNat ≤ _
    rw [List.length_map, List.length_range]
    exact Nat.le_refl _
/-! ### for -/
/-- the invariant Pv B i σ H: behind i turns; B: the heap ahead of the first turn; c i: the draws that may come then; what is walked is found by R1 -/
theorem s_for2 {R1 : Rel} {wi : TI} {ys : List SP} {c : Nat → Nat} {c1 : Nat} (hM : ∀ a, R.M a → R1.M a) (hi : ItP R1 n c1 wi σ H ys) (Pv : Hp → Nat → L2.St → Hp → Prop) (hP : ∀ B i σ' H', Pv B i σ' H' → R.ok (c i) B H') (h0 : ∀ B, R1.ok c1 H B → Pv B 0 σ B)
    (hs : ∀ B i y σ' H' x H'', R1.ok c1 H B → ys[i]? = some y → Pv B i σ' H' → Evl.Ex H' H'' → y.P R.M x H'' → g x σ' H'' fun σ2 H2 => tu { D with nx := Pv B (i + 1), ct := Pv B (i + 1), bk := D.nx } σ2 H2) (hd : ∀ B σ' H', R1.ok c1 H B → Pv B ys.length σ' H' → D.nx σ' H') : StF R1 n (tFor wi g tu) D σ H := fun H1 e =>
  hi H1 e _ fun J H2 e2 ok => ⟨fun i m σ' H' => m = ys.length - i ∧ i ≤ ys.length ∧ Pv H2 i σ' H', ⟨ys.length, by simp, Nat.zero_le _, h0 H2 (R1.trans e e2)⟩, fun i m σ' H' hw => by
    obtain ⟨rfl, hle, hp⟩ := hw
    have er := hP H2 i σ' H' hp
    have ex : Ext0 R1.M H2 R.M H' := ⟨fun a m => .inl (hM a m), er.2⟩
    by_cases hlt : i < ys.length
    · refine .inr ⟨ok.go R.M i H' ex hlt, Pv H2 (i + 1), fun σ2 H2' hn => ⟨ys.length - (i + 1), by omega, rfl, by omega, hn⟩, fun x H'' hy => ?_⟩
      obtain ⟨er2, hyp⟩ := ok.yld R.M i H' x H'' ex hlt hy
      exact hs H2 i ys[i] σ' H' x H'' (R1.trans e e2) (List.getElem?_eq_getElem hlt) hp er2 (hyp _ (List.getElem?_eq_getElem hlt))
    · have : i = ys.length := by omega
      subst this
      exact .inl ⟨ok.stop R.M H' ex, hd H2 σ' H' (R1.trans e e2) hp⟩⟩
theorem s_for {wi : TI} {ys : List SP} {c : Nat → Nat} (hi : ItP R n (c 0) wi σ H ys) (Pv : Hp → Nat → L2.St → Hp → Prop) (hP : ∀ B i σ' H', Pv B i σ' H' → R.ok (c i) B H') (h0 : ∀ B, R.ok (c 0) H B → Pv B 0 σ B)
    (hs : ∀ B i y σ' H' x H'', R.ok (c 0) H B → ys[i]? = some y → Pv B i σ' H' → Evl.Ex H' H'' → y.P R.M x H'' → g x σ' H'' fun σ2 H2 => tu { D with nx := Pv B (i + 1), ct := Pv B (i + 1), bk := D.nx } σ2 H2) (hd : ∀ B σ' H', R.ok (c 0) H B → Pv B ys.length σ' H' → D.nx σ' H') : StF R n (tFor wi g tu) D σ H := s_for2 (fun _ m => m) hi Pv hP h0 hs hd
/-- the ends of a turn whose invariant speaks of the slots alone -/
def LE (R : Rel) (n : Nat) (B : Hp) (D : Ends) (I : L2.St → Prop) : Ends := { D with nx := fun σ2 H2 => R.ok n B H2 ∧ I σ2, ct := fun σ2 H2 => R.ok n B H2 ∧ I σ2, bk := D.nx }
/-- known items, a name as target, the slots alone -/
theorem s_forC {wi : TI} {vs : List V} {j : Nat} (c : Nat → Nat) (hi : ItP R n (c 0) wi σ H (vs.map is)) (Iv : Nat → L2.St → Prop) (h0 : Iv 0 σ)
    (hs : ∀ B i w σ', R.ok (c 0) H B → vs[i]? = some w → Iv i σ' → StF R (c i) tu (LE R (c (i + 1)) B D (Iv (i + 1))) (σ'.set j (some w)) B) (hd : ∀ σ' H', R.ok (c vs.length) H H' → Iv vs.length σ' → D.nx σ' H') : StF R n (tFor wi (gName j) tu) D σ H :=
  s_for (c := c) hi (fun B i σ' H' => R.ok (c i) B H' ∧ Iv i σ') (fun _ _ _ _ h => h.1) (fun B e => ⟨R.refl e, h0⟩) (fun B i y σ' H' x H'' eb hy hp er hx => by
    rw [List.getElem?_map] at hy
    obtain ⟨w, hw, rfl⟩ := Option.map_eq_some_iff.mp hy
    have hx : x = w := hx
    subst hx
    exact hs B i x σ' eb hw hp.2 H'' (R.trans hp.1 (R.ex hp.1.1 er))) (fun B σ' H' eb hp => by
      rw [List.length_map] at hp
      exact hd σ' H' (R.trans eb hp.1) hp.2)
theorem q_forC {wi : TI} {vs : List V} {j : Nat} (c : Nat → Nat) (hi : ItP R n (c 0) wi σ H (vs.map is)) (Iv : Nat → L2.St → Prop) (h0 : Iv 0 σ)
    (hs : ∀ B i w σ', R.ok (c 0) H B → vs[i]? = some w → Iv i σ' → StF R (c i) tu (LE R (c (i + 1)) B { D with nx := tz D } (Iv (i + 1))) (σ'.set j (some w)) B) (hd : ∀ σ', Iv vs.length σ' → StF R (c vs.length) tz D σ' H) : StF R n (tSeq (tFor wi (gName j) tu) tz) D σ H :=
  s_forC (D := { D with nx := tz D }) c hi Iv h0 hs fun σ' H' e hv => hd σ' hv H' e
/-- .. without draws -/
theorem s_forV {wi : TI} {vs : List V} {j : Nat} (hi : ItP R n n wi σ H (vs.map is)) (Iv : Nat → L2.St → Prop) (h0 : Iv 0 σ)
    (hs : ∀ B i w σ', R.ok n H B → vs[i]? = some w → Iv i σ' → StF R n tu (LE R n B D (Iv (i + 1))) (σ'.set j (some w)) B) (hd : ∀ σ' H', R.ok n H H' → Iv vs.length σ' → D.nx σ' H') : StF R n (tFor wi (gName j) tu) D σ H := s_forC (fun _ => n) hi Iv h0 hs hd
theorem q_forV {wi : TI} {vs : List V} {j : Nat} (hi : ItP R n n wi σ H (vs.map is)) (Iv : Nat → L2.St → Prop) (h0 : Iv 0 σ)
    (hs : ∀ B i w σ', R.ok n H B → vs[i]? = some w → Iv i σ' → StF R n tu (LE R n B { D with nx := tz D } (Iv (i + 1))) (σ'.set j (some w)) B) (hd : ∀ σ', Iv vs.length σ' → StF R n tz D σ' H) : StF R n (tSeq (tFor wi (gName j) tu) tz) D σ H := q_forC (fun _ => n) hi Iv h0 hs hd
/-! ### while, the slots alone, no draws -/
theorem s_whileV (W : Nat → L2.St → Prop) (m0 : Nat) (h0 : W m0 σ)
    (hs : ∀ B m σ', R.ok n H B → W m σ' → ∃ b, EvT R n n t σ' B (· = b) ∧ (b = true → StF R n tu (LE R n B D fun σ2 => ∃ m', m' < m ∧ W m' σ2) σ' B) ∧ (b = false → ∀ H1, R.ok n B H1 → D.nx σ' H1)) : StF R n (tWhile t tu) D σ H := fun H1 e =>
  ⟨fun m σ' H' => R.ok n H H' ∧ W m σ', ⟨m0, e, h0⟩, fun m σ' H' hw => by
    obtain ⟨er, hw⟩ := hw
    obtain ⟨b, hb, h1, h2⟩ := hs H' m σ' er hw
    refine hb H' (R.refl er) _ fun c H2 e2 hc => ?_
    subst hc
    cases c with
    | true => exact ⟨fun σ2 H3 => R.ok n H' H3 ∧ ∃ m', m' < m ∧ W m' σ2, fun σ2 H3 hn => by
        obtain ⟨a, m', hm, hw'⟩ := hn
        exact ⟨m', hm, R.trans er a, hw'⟩, h1 rfl H2 e2⟩
    | false => exact h2 rfl H2 e2⟩
theorem q_whileV (W : Nat → L2.St → Prop) (m0 : Nat) (h0 : W m0 σ)
    (hs : ∀ B m σ', R.ok n H B → W m σ' → ∃ b, EvT R n n t σ' B (· = b) ∧ (b = true → StF R n tu (LE R n B { D with nx := tz D } fun σ2 => ∃ m', m' < m ∧ W m' σ2) σ' B) ∧ (b = false → StF R n tz D σ' B)) : StF R n (tSeq (tWhile t tu) tz) D σ H :=
  s_whileV (D := { D with nx := tz D }) W m0 h0 fun B m σ' e hw => by
    obtain ⟨b, a, c, d⟩ := hs B m σ' e hw
    exact ⟨b, a, c, fun hb H1 e1 => d hb H1 e1⟩
/-! ### list comprehensions -/
theorem filter_yes {n : Nat} {f : Nat → Bool} (h : f n = true) : (List.range (n + 1)).filter f = (List.range n).filter f ++ [n] := by
  rw [List.range_succ, List.filter_append, List.filter_cons, if_pos h] <;> rfl
theorem filter_no {n : Nat} {f : Nat → Bool} (h : f n = false) : (List.range (n + 1)).filter f = (List.range n).filter f := by
  rw [List.range_succ, List.filter_append, List.filter_cons, if_neg (by rw [h]; decide)]
  show _ ++ [] = _
  rw [List.append_nil]
theorem filter_len (n : Nat) (f : Nat → Bool) : ((List.range n).filter f).length ≤ n := by
  have h := List.length_filter_le f (List.range n)
  rw [List.length_range] at h
  exact h
theorem ev_lc {wi : TI} {vs : List Nat} {ys : List SP} {f : Nat → Bool} {pe : Nat → SP} {c : Nat → Nat} (hi : ItP R n (c 0) wi σ H ys) (hz : ys.length ≤ 50000)
    (hs : ∀ R' H' i y x, Ext R H R' H' → ys[i]? = some y → y.P R'.M x H' → ∃ σ2, (∀ Q : L2.St → Hp → Prop, Q σ2 H' → g x (wipe σ vs) H' Q) ∧ wipe σ2 vs = wipe σ vs ∧ ∃ d, EvT R' (c i) d t σ2 H' (· = f i) ∧ (f i = true → EvP R' d (c (i + 1)) te σ2 H' (pe i)) ∧ (f i = false → c (i + 1) ≤ d)) :
    EvP R n (c ys.length) (tLc wi g t te vs) σ H (lstP pe ((List.range ys.length).filter f)) := fun H0 e Q k => hi H0 e _ fun J H1 e1 ok Dl hD => by
  have j1 : R.J (c 0) H1 := e1.1
  refine ⟨fun i m H' => m = ys.length - i ∧ i ≤ ys.length ∧ R.ok (c i) H1 H' ∧ ∃ acc, H' Dl = some (.lst acc) ∧ Paired (fun v k => (pe k).P (R.off Dl).M v H') acc ((List.range i).filter f), ⟨ys.length, by simp, Nat.zero_le _, R.new j1 hD, [], upd_same, .nil⟩, ?_⟩
  rintro i m H' ⟨rfl, hle, er, acc, hacc, hpr⟩
  have ex := Ext.at j1 er hD hacc
  by_cases hlt : i < ys.length
  · refine .inr ⟨ok.go _ i H' ex.to0 hlt, fun H2 => R.ok (c (i + 1)) H1 H2 ∧ ∃ acc, H2 Dl = some (.lst acc) ∧ Paired (fun v k => (pe k).P (R.off Dl).M v H2) acc ((List.range (i + 1)).filter f), fun H2 hn => ⟨ys.length - (i + 1), by omega, rfl, by omega, hn⟩, fun x H'' hy => ?_⟩
    obtain ⟨er2x, hyp⟩ := ok.yld _ i H' x H'' ex.to0 hlt hy
    have er2 : (R.at Dl acc).ok (c i) H' H'' := (R.at Dl acc).ex ⟨er.1, hacc⟩ er2x
    have ex2 := (ex.step er2)
    obtain ⟨σ2, hg, hw, d, ht, he, hf0⟩ := hs (R.at Dl acc) H'' i ys[i] x (ex2.pre (R.trans e e1)) (List.getElem?_eq_getElem hlt) (hyp _ (List.getElem?_eq_getElem hlt))
    have back : ∀ d H3, (R.at Dl acc).ok d H'' H3 → R.ok d H1 H3 := fun d H3 e3 => ⟨e3.1.1, fun a o ma ha => by
      have ne : a ≠ Dl := fun z => by rw [z, hD] at ha; cases ha
      exact e3.2 a o (fun z => z.elim ma ne) (er2.2 a o (fun z => z.elim ma ne) (er.2 a o ma ha))⟩
    refine hg _ ⟨hw, ht H'' ⟨er2.1, pres.refl _⟩ _ fun b H3 e3 hb => ?_⟩
    subst hb
    have hp3 : Paired (fun v k => (pe k).P (R.off Dl).M v H3) acc ((List.range i).filter f) := Paired_imp (fun _ _ z => (pe _).st (er2.2.trans e3.2) z) hpr
    cases hf : f i with
    | true =>
      show te σ2 H3 _
      refine he hf H3 e3 _ fun y H4 e4 hy4 => ⟨acc, e4.1.2, ?_, ?_⟩
      · have h1 := hpr.length
        have h2 := filter_len i f
        exact Evl.sz_lt (by omega)
      · have r4 := back _ H4 ((R.at Dl acc).trans e3 e4)
        have mD : (R.off Dl).M Dl := .inr rfl
        refine ⟨⟨?_, fun a o ma ha => ?_⟩, acc ++ [y], upd_same, ?_⟩
        · exact R.put r4.1 (fun z => R.alive j1 z hD)
        · have ne : a ≠ Dl := fun z => by rw [z, hD] at ha; cases ha
          rw [upd_ne ne]
          exact r4.2 a o ma ha
        · rw [filter_yes hf]
          refine Paired.snoc (Paired_imp (fun _ _ z => (pe _).st (e4.2.trans (pres.upd mD)) z) hp3) ?_
          exact (pe i).st (pres.upd mD) hy4
    | false =>
      show R.ok (c (i + 1)) H1 H3 ∧ _
      have b3 := back _ H3 e3
      refine ⟨⟨R.dec b3.1 (hf0 hf), b3.2⟩, acc, e3.1.2, ?_⟩
      rw [filter_no hf]
      exact hp3
  · have : i = ys.length := by omega
    subst this
    refine .inl ⟨ok.stop _ H' ex.to0, ?_⟩
    refine k _ H' (R.trans e1 er) ⟨Dl, acc, rfl, ⟨hacc, fun z => R.alive j1 z hD⟩, Paired_imp (fun _ _ z => (pe _).lift (fun a m => .inl (.inl m)) z) hpr⟩
end
end My
namespace My
open PySem PySem.Spec PyProof.Rows L2
section
variable {R : Rel} {n m k : Nat} {K : PySem.W.Frag} {σ : L2.St} {H H' : Hp} {ta tb tc te : TE} {t u : TT} {x y z v : V} {p q s : SP} {D : Ends} {tu tw tz : TS} {g : TG}
theorem range_getD {α : Type} (d : α) : ∀ ws : List α, (List.range ws.length).map (fun i => ws.getD i d) = ws
  | [] => rfl
  | w :: ws => by
    rw [List.length_cons, List.range_succ_eq_map, List.map_cons, List.map_map]
    show w :: (List.range ws.length).map (fun i => ws.getD i d) = w :: ws
    rw [range_getD d ws]
theorem getD_of {α : Type} {ws : List α} {i : Nat} {w d : α} (h : ws[i]? = some w) : ws.getD i d = w := by
  rw [List.getD_eq_getElem?_getD, h]
  rfl
theorem sel {α β : Type} (d : α) (F : α → Bool) (gv : α → β) (ws : List α) : ((List.range ws.length).filter fun i => F (ws.getD i d)).map (fun i => gv (ws.getD i d)) = (ws.filter F).map gv := by
  have e := congrArg (fun l => (l.filter F).map gv) (range_getD d ws)
  rw [← e]
  show _ = (((List.range ws.length).map fun i => ws.getD i d).filter F).map gv
  rw [List.filter_map, List.map_map]
  rfl
theorem paired_map {M : Addr → Prop} {α : Type} {gv : α → V} : ∀ {xs : List V} {ks : List α}, Paired (fun v k => (is (gv k)).P M v H) xs ks → xs = ks.map gv
  | _, _, .nil => rfl
  | _, _, .cons a b => by rw [List.map_cons, paired_map b, show _ = gv _ from a]
theorem paired_sub {α β : Type} {F : V → β → Prop} {m : α → β} : ∀ {xs : List V} {ks : List α}, Paired (fun v k => F v (m k)) xs ks → Paired F xs (ks.map m)
  | _, _, .nil => .nil
  | _, _, .cons a b => .cons a (paired_sub b)
/-- over known values, a filter, known elements -/
theorem ev_lcV {wi : TI} {vs : List Nat} {ws : List V} {j : Nat} (F : V → Bool) (gv : V → V) (hi : ItP R n m wi σ H (ws.map is)) (hz : ws.length ≤ 50000) (hw : ∀ x, wipe ((wipe σ vs).set j (some x)) vs = wipe σ vs)
    (hs : ∀ R' H' w, Ext R H R' H' → w ∈ ws → EvT R' m m t ((wipe σ vs).set j (some w)) H' (· = F w) ∧ (F w = true → EvP R' m m te ((wipe σ vs).set j (some w)) H' (is (gv w)))) :
    EvP R n m (tLc wi (gName j) t te vs) σ H (lstG (· = (ws.filter F).map gv)) := by
  refine (ev_lc (f := fun i => F (ws.getD i .non)) (pe := fun i => is (gv (ws.getD i .non))) (c := fun _ => m) hi (by rw [List.length_map]; exact hz) fun R' H' i y x ex hy hx => ?_).imp fun v H1 _ hv => ?_
  · rw [List.getElem?_map] at hy
    obtain ⟨w, hw1, rfl⟩ := Option.map_eq_some_iff.mp hy
    have hx : x = w := hx
    subst hx
    obtain ⟨h1, h2⟩ := hs R' H' x ex (List.mem_of_getElem? hw1)
    have eg : ws.getD i .non = x := getD_of hw1
    refine ⟨_, fun Q q => q, hw x, m, ?_, fun hf => ?_, fun _ => Nat.le_refl _⟩
    · show EvT R' m m t _ H' (· = F (ws.getD i .non))
      rw [eg]
      exact h1
    · have hf : F (ws.getD i .non) = true := hf
      show EvP R' m m te _ H' (is (gv (ws.getD i .non)))
      rw [eg] at hf ⊢
      exact h2 hf
  · obtain ⟨l, xs, rfl, h, g⟩ := hv
    refine ⟨l, xs, rfl, h, ?_⟩
    have e := paired_map (gv := fun i => gv (ws.getD i .non)) g
    rw [List.length_map] at e
    exact e.trans (sel V.non F gv ws)
/-- no filter, elements by their properties; each turn may take d draws -/
theorem ev_lcP {α : Type} {wi : TI} {vs : List Nat} {as : List α} {mv : α → V} {j : Nat} (d : Nat) (pe : α → SP) (hi : ItP R n (m + as.length * d) wi σ H (as.map fun a => is (mv a))) (hz : as.length ≤ 50000) (hw : ∀ x, wipe ((wipe σ vs).set j (some x)) vs = wipe σ vs)
    (hs : ∀ R' H' a k, Ext R H R' H' → a ∈ as → EvP R' (k + d) k te ((wipe σ vs).set j (some (mv a))) H' (pe a)) :
    EvP R n m (tLc wi (gName j) tYes te vs) σ H (lstP pe as) := by
  cases as with
  | nil =>
    rw [List.length_nil, Nat.zero_mul, Nat.add_zero] at hi
    refine (ev_lc (t := tYes) (te := te) (g := gName j) (vs := vs) (f := fun _ => true) (pe := fun i => is .non) (c := fun _ => m) hi (Nat.zero_le _) fun R' H' i y x ex hy hx => ?_).imp fun v H1 _ hv => ?_
    · cases hy
    · obtain ⟨l, xs, rfl, h, g⟩ := hv
      cases g
      exact ⟨l, [], rfl, h, .nil⟩
  | cons a0 as0 =>
    generalize hAS : a0 :: as0 = as at *
    have h := (ev_lc (R := R) (H := H) (σ := σ) (te := te) (g := gName j) (vs := vs) (t := tYes) (f := fun _ => true) (pe := fun i => pe (as.getD i a0)) (c := fun i => m + (as.length - i) * d) (n := n) hi (by rw [List.length_map]; exact hz) fun R' H' i y x ex hy hx => ?_)
    rw [List.length_map, Nat.sub_self, Nat.zero_mul, Nat.add_zero] at h
    refine h.imp fun v H1 _ hv => ?_
    · obtain ⟨l, xs, rfl, h, g⟩ := hv
      refine ⟨l, xs, rfl, h, ?_⟩
      have e := paired_sub (F := fun v a => (pe a).P R.M v H1) (m := fun i => as.getD i a0) g
      rw [List.filter_eq_self.mpr (fun _ _ => rfl), range_getD] at e
      exact e
    · rw [List.getElem?_map] at hy
      obtain ⟨a, ha, rfl⟩ := Option.map_eq_some_iff.mp hy
      have hx : x = mv a := hx
      subst hx
      have eg : as.getD i a0 = a := getD_of ha
      have hlt := (List.getElem?_eq_some_iff.mp ha).1
      refine ⟨_, fun Q q => q, hw _, _, fun H1 e Q k => k true H1 (R'.refl e) rfl, fun _ => ?_, fun z => nomatch z⟩
      show EvP R' _ _ te _ H' (pe (as.getD i a0))
      rw [eg]
      have e2 : m + (as.length - i) * d = (m + (as.length - (i + 1)) * d) + d := by
        have e3 : as.length - i = (as.length - (i + 1)) + 1 := by omega
        rw [e3, Nat.add_mul, Nat.one_mul, Nat.add_assoc]
      rw [e2]
      exact hs R' H' a _ ex (List.mem_of_getElem? ha)
/-- list(xs) -/
theorem ev_listOf {l : Addr} {xs : List V} (ha : EvP R n m te σ H (is (.ref l))) (hx : SqM K R.M H l xs) : EvP R n m (tCB (rListU K) (tCons te tNil)) σ H (lstG (· = xs)) :=
  ev_cb (ea_cons ha ea_nil) fun vs H1 e hv => by
    obtain ⟨v, rfl, h⟩ := one hv
    have h : v = .ref l := h
    subst h
    exact fun _ j Q k => ⟨l, xs, rfl, .inl (hx.st e.2).sq, fun n hn => k _ _ (R.new j hn) ⟨n, xs, rfl, ⟨upd_same, R.fresh j hn⟩, rfl⟩⟩
end
/-! ### defs of the text -/
section
variable {P : Program} {w : World} {K : PySem.W.Frag} {mg : Str → Option Value} {base : Heap}
/-- a def as the head tells it: it stands at its global name -/
structure Df (K : PySem.W.Frag) (mg : Str → Option Value) (x : Str) (st : Stmt) : Prop where
  ex : ∃ f fd, FunD K x x (defArgs st) (defBody st) (defScope st) [] [] f fd ∧ mg x = some (.ref f)
theorem Df.cal {x : Str} {st : Stmt} {N ps : List Str} {k : Nat} {sp : Sp} (F : Df K mg x st) (S : FnScope N ps (defScope st)) (len : ∀ vs H Q E, sp vs H Q E → vs.length = ps.length)
    (hbd : ∀ (kV doc pm : Value) (an : Option Addr) (cdv ct : Value) (us : List Value), us.length = ps.length → bindArgs (PySem.W.fnOf x x (defArgs st) (defBody st) (defScope st) .none kV doc pm an cdv ct) ⟨us, []⟩ = pure (ps.zip us))
    (hbody : ∀ (f : Addr) (cdv : Value) (A : Around) (outer : List Env) (s : Shared) (H : Hp) (vs : List V) (Q : VK) (E : XK), Room k (A.deeper (envOfC x (defScope st) s.heap.objs.size f cdv)) → sp vs H Q E →
      ∃ t, PSs (cxOf CX0 P w K mg base N x (defScope st) f cdv A outer s H E).nox (defBody st) t ∧ t { nx := fun _ H' => Q .non H', rt := Q } (start N vs) H) : Cal P w K mg base (k + 1) x ps sp := by
  obtain ⟨f, fd, F, hm⟩ := F.ex
  refine ⟨f, fd, F.ok S len fun cdv A outer s H vs Q E hr h => ?_, hm, F.kp, F.bindsN hbd⟩
  obtain ⟨t, h1, h2⟩ := hbody f cdv A outer s H vs Q E hr h
  exact ⟨t, PSs.nox h1, h2⟩
end
/-- the law's own def -/
theorem FunD_fn {P : Program} {w : World} {K : PySem.W.Frag} {mg : Str → Option Value} {base : Heap} {x : Str} {st : Stmt} {N ps : List Str} {k : Nat} {sp : Sp} {f : Addr} {fd : FuncData} (F : FunD K x x (defArgs st) (defBody st) (defScope st) [] [] f fd) (S : FnScope N ps (defScope st)) (len : ∀ vs H Q E, sp vs H Q E → vs.length = ps.length)
    (hbody : ∀ (cdv : Value) (A : Around) (outer : List Env) (s : Shared) (H : Hp) (vs : List V) (Q : VK) (E : XK), Room k (A.deeper (envOfC x (defScope st) s.heap.objs.size f cdv)) → sp vs H Q E →
      ∃ t, PSs (cxOf CX0 P w K mg base N x (defScope st) f cdv A outer s H E).nox (defBody st) t ∧ t { nx := fun _ H' => Q .non H', rt := Q } (start N vs) H) : FnOk P w K mg base CX0 (k + 1) f fd ps sp :=
  F.ok S len fun cdv A outer s H vs Q E hr h => by
    obtain ⟨t, h1, h2⟩ := hbody cdv A outer s H vs Q E hr h
    exact ⟨t, PSs.nox h1, h2⟩
/-! ### promises: arguments, a relation, what is returned -/
/-- a def that changes nothing, by whatever relation the caller goes on: from arguments a: they stand as args tells, what comes has post -/
def pureSp {α : Type} (args : α → (Addr → Prop) → List V → Hp → Prop) (post : α → SP) : Sp := fun vs H Q _ => ∃ (R : Rel) (n : Nat) (a : α), R.J n H ∧ args a R.M vs H ∧ ∀ v H', R.ok n H H' → (post a).P R.M v H' → Q v H'
theorem ev_pure {α : Type} {args : α → (Addr → Prop) → List V → Hp → Prop} {post : α → SP} {R : Rel} {n m : Nat} {tar : TA} {ps : List SP} {σ : L2.St} {H : Hp} (x : α) (h : EvA R n m tar σ H ps)
    (ha : ∀ vs H1, R.ok m H H1 → Paired (fun v (p : SP) => p.P R.M v H1) vs ps → args x R.M vs H1) : EvP R n m (tCall (pureSp args post) [] E0 tar) σ H (post x) :=
  ev_call h fun vs H1 e hv Q f => ⟨R, m, x, e.1, ha vs H1 e hv, f⟩
/-- .. the arguments are known only when they have come -/
theorem ev_pureX {α : Type} {args : α → (Addr → Prop) → List V → Hp → Prop} {post : α → SP} {R : Rel} {n m : Nat} {tar : TA} {ps : List SP} {σ : L2.St} {H : Hp} {s : SP} (h : EvA R n m tar σ H ps)
    (ha : ∀ vs H1, R.ok m H H1 → Paired (fun v (p : SP) => p.P R.M v H1) vs ps → ∃ x, args x R.M vs H1 ∧ ∀ v H', (post x).P R.M v H' → s.P R.M v H') : EvP R n m (tCall (pureSp args post) [] E0 tar) σ H s :=
  ev_call h fun vs H1 e hv Q f => by
    obtain ⟨x, h1, h2⟩ := ha vs H1 e hv
    exact ⟨R, m, x, e.1, h1, fun v H' e' h' => f v H' e' (h2 v H' h')⟩
end My
namespace My
open PySem PySem.Spec PyProof.Rows L2
section
variable {R : Rel} {n m k : Nat} {K : PySem.W.Frag} {σ : L2.St} {H H' : Hp} {ta tb tc te : TE} {t u : TT} {x y z v : V} {p q s : SP} {D : Ends} {tu tw tz : TS} {g : TG} {a b : Codes}
theorem it_lstV {xs : List V} (ha : EvP R n m te σ H (lstG (· = xs))) : ItP R n m (iAny K te) σ H (xs.map is) := by
  refine it_lstP (K := K) (pe := is) (ys := xs) (ha.imp fun v H1 _ hv => ?_)
  obtain ⟨l, ws, e, h, rfl⟩ := hv
  exact ⟨l, ws, e, h, paired_self ws⟩
where
  paired_self {M : Addr → Prop} {H1 : Hp} : ∀ ws : List V, Paired (fun v y => (is y).P M v H1) ws ws
    | [] => .nil
    | w :: ws => .cons rfl (paired_self ws)
/-! ### methods of texts -/
theorem ev_lower (ha : EvP R n m te σ H (is (sv a))) (h : a.all (· < 128) = true) (hl : a.length ≤ 100000) : EvP R n m (tBM0 K "str" rLowerU te) σ H (is (sv (a.map PyProof.Rows.lo1))) :=
  ev_bmS0 (f := Txt.lower) ha (SX.lower_S h) fun H1 Q q => ⟨_, rfl, rfl, by rw [SX.S_len]; omega, q⟩
theorem ev_upper (ha : EvP R n m te σ H (is (sv a))) (h : a.all (· < 128) = true) (hl : a.length ≤ 100000) : EvP R n m (tBM0 K "str" rUpperU te) σ H (is (sv (a.map PyProof.Rows.up1))) :=
  ev_bmS0 (f := Txt.upper) ha (SX.upper_S h) fun H1 Q q => ⟨_, rfl, rfl, by rw [SX.S_len]; omega, q⟩
theorem map_sv (ls : List Codes) : (ls.map SX.S).map V.str = ls.map sv := List.map_map ..
theorem ev_split (ha : EvP R n m te σ H (is (sv a))) (hb : EvP R m k tb σ H (is (sv b))) (h : b ≠ []) (hk : b.all (· < 256) = true) (hl : a.length ≤ 100000) : EvP R n k (tBM K "str" rSplitU te (tCons tb tNil)) σ H (lstG (· = (TL.spl b 0 [] a).map sv)) :=
  ev_bmS1 ha hb fun v H1 e hv => by
    have hv : v = sv b := hv
    subst hv
    refine fun _ j Q k => ⟨_, _, rfl, rfl, ?_, ?_, fun l hl => ?_⟩
    · rw [SX.S_len]
      cases b with
      | nil => exact absurd rfl h
      | cons => rfl
    · rw [SX.S_len]
      exact Nat.le_trans (Nat.add_le_add_right hl 2) (by decide)
    · rw [SX.split_S h hk, map_sv]
      exact k _ _ (R.new j hl) ⟨l, _, rfl, ⟨upd_same, R.fresh j hl⟩, rfl⟩
theorem ev_join {G : List Codes → Prop} (ha : EvP R n m te σ H (is (sv a))) (hb : EvP R m k tb σ H (lstG fun xs => ∃ ls, xs = ls.map sv ∧ G ls)) (hz : ∀ ls, G ls → (ls.map (·.length)).sum + ls.length * a.length ≤ 1000000) : EvP R n k (tBM K "str" (rJoinU K) te (tCons tb tNil)) σ H (sat fun v => ∃ ls, G ls ∧ v = sv (TL.joinL a ls)) :=
  ev_bmS1 ha hb fun v H1 e hv => by
    obtain ⟨l, xs, rfl, h, ls, rfl, g⟩ := hv
    refine fun _ j Q k => ⟨_, l, ls.map SX.S, rfl, rfl, .inl ?_, ?_, ?_⟩
    · rw [map_sv]
      exact h.sq
    · rw [SX.lens, List.length_map, SX.S_len]
      exact Nat.le_trans (hz ls g) (by decide)
    · rw [SX.join_S]
      exact k _ H1 (R.self j) ⟨ls, g, rfl⟩
theorem ev_joinV {ls : List Codes} (ha : EvP R n m te σ H (is (sv a))) (hb : EvP R m k tb σ H (lstG (· = ls.map sv))) (hz : (ls.map (·.length)).sum + ls.length * a.length ≤ 1000000) : EvP R n k (tBM K "str" (rJoinU K) te (tCons tb tNil)) σ H (is (sv (TL.joinL a ls))) :=
  (ev_join (G := (· = ls)) ha (hb.imp fun v H1 _ ⟨l, xs, e, h, g⟩ => ⟨l, xs, e, h, ls, g, rfl⟩) (fun ls' e => by subst e; exact hz)).imp fun v H1 _ ⟨ls', e, h⟩ => by subst e; exact h
/-! ### lists -/
theorem ev_cat {F G : List V → Prop} (ha : EvP R n m ta σ H (lstG F)) (hb : EvP R m k tb σ H (lstG G)) (hz : ∀ xs ys, F xs → G ys → xs.length + ys.length ≤ 100000) : EvP R n k (tOp (rAddU K) ta tb) σ H (lstG fun zs => ∃ xs ys, F xs ∧ G ys ∧ zs = xs ++ ys) :=
  ev_op ha hb fun v w H1 e hv hw _ j Q f => by
    obtain ⟨l, xs, rfl, h1, g1⟩ := hv
    obtain ⟨l2, ys, rfl, h2, g2⟩ := hw
    exact .inr (.inr (.inl ⟨l, l2, xs, ys, rfl, rfl, h1.1, h2.1, Evl.sz_of (hz xs ys g1 g2), fun p hp => f _ _ (R.new j hp) ⟨p, _, rfl, ⟨upd_same, R.fresh j hp⟩, xs, ys, g1, g2, rfl⟩⟩))
theorem ev_catV {xs ys : List V} (ha : EvP R n m ta σ H (lstG (· = xs))) (hb : EvP R m k tb σ H (lstG (· = ys))) (hz : xs.length + ys.length ≤ 100000) : EvP R n k (tOp (rAddU K) ta tb) σ H (lstG (· = xs ++ ys)) :=
  (ev_cat ha hb fun a b ea eb => by subst ea; subst eb; exact hz).imp fun v H1 _ ⟨l, zs, e, h, a, b, ea, eb, ez⟩ => ⟨l, zs, e, h, by subst ea; subst eb; exact ez⟩
theorem atI_mem {α : Type} {xs : List α} {i : Int} (h0 : 0 ≤ i) (h1 : i < xs.length) : ∃ x, atI xs i = some x ∧ xs[i.toNat]? = some x := by
  have hj : i.toNat < xs.length := by omega
  refine ⟨xs[i.toNat], ?_, List.getElem?_eq_getElem hj⟩
  unfold atI ixN
  rw [if_pos h0, if_pos h1]
  exact List.getElem?_eq_getElem hj
/-- an item of a list at some place in it -/
theorem ev_ixG {F : List V → Prop} {Gi : V → Prop} (ha : EvP R n m ta σ H (lstG F)) (hb : EvP R m k tb σ H (sat Gi)) (h : ∀ xs v, F xs → Gi v → ∃ i, v = .int i ∧ 0 ≤ i ∧ i < xs.length) : EvP R n k (tOp (rIx K) ta tb) σ H (sat fun v => ∃ xs, F xs ∧ v ∈ xs) :=
  ev_op ha hb fun v w H1 e hv hw _ j Q f => by
    obtain ⟨l, xs, rfl, h1, g1⟩ := hv
    obtain ⟨i, rfl, h0, h2⟩ := h xs w g1 hw
    obtain ⟨y, hy, hy2⟩ := atI_mem h0 h2
    exact .inl ⟨l, xs, i, y, rfl, rfl, h1.sq, hy, f y H1 (R.self j) ⟨xs, g1, List.mem_of_getElem? hy2⟩⟩
/-- a sign of a text at some place in it -/
theorem ev_ixSG {Gi : V → Prop} (ha : EvP R n m ta σ H (is (sv a))) (hb : EvP R m k tb σ H (sat Gi)) (hl : a.length ≤ 100000) (h : ∀ v, Gi v → ∃ i, v = .int i ∧ 0 ≤ i ∧ i < a.length) : EvP R n k (tOp (rIx K) ta tb) σ H (sat fun v => ∃ c, v = sv [c] ∧ c ∈ a) :=
  ev_op ha hb fun v w H1 e hv hw _ j Q f => by
    have hv : v = sv a := hv
    subst hv
    obtain ⟨i, rfl, h0, h2⟩ := h w hw
    obtain ⟨y, hy, hy2⟩ := atI_mem h0 h2
    exact .inr (.inr ⟨_, i, y, rfl, rfl, slen hl, hy, f _ H1 (R.self j) ⟨y, rfl, List.mem_of_getElem? hy2⟩⟩)
theorem EvP.asG {G : V → Prop} (h : EvP R n m te σ H (is v)) (g : G v) : EvP R n m te σ H (sat G) := h.imp fun w H1 _ e => by
  have e : w = v := e
  subst e
  exact g
theorem ev_is2 {xs ys : List V} (h : EvP R n m te σ H (lstG (· = xs))) (e : xs = ys) : EvP R n m te σ H (lstG (· = ys)) := by
  subst e
  exact h
/-! ### texts and numbers by their properties -/
abbrev tx (F : Codes → Prop) : SP := sat fun v => ∃ s, v = sv s ∧ F s
abbrev nt (F : Int → Prop) : SP := sat fun v => ∃ i, v = .int i ∧ F i
theorem EvP.tx {F : Codes → Prop} (h : EvP R n m te σ H (is (sv a))) (g : F a) : EvP R n m te σ H (tx F) := h.asG ⟨a, rfl, g⟩
theorem EvP.nt {F : Int → Prop} {i : Int} (h : EvP R n m te σ H (is (.int i))) (g : F i) : EvP R n m te σ H (nt F) := h.asG ⟨i, rfl, g⟩
theorem EvP.txImp {F G : Codes → Prop} (h : EvP R n m te σ H (My.tx F)) (g : ∀ s, F s → G s) : EvP R n m te σ H (My.tx G) := h.imp fun v H1 _ ⟨s, e, f⟩ => ⟨s, e, g s f⟩
theorem EvP.ntImp {F G : Int → Prop} (h : EvP R n m te σ H (My.nt F)) (g : ∀ s, F s → G s) : EvP R n m te σ H (My.nt G) := h.imp fun v H1 _ ⟨s, e, f⟩ => ⟨s, e, g s f⟩
theorem ev_addT {F G : Codes → Prop} (ha : EvP R n m ta σ H (tx F)) (hb : EvP R m k tb σ H (tx G)) (hz : ∀ x y, F x → G y → x.length + y.length ≤ 100000) : EvP R n k (tOp (rAddU K) ta tb) σ H (tx fun u => ∃ x y, F x ∧ G y ∧ u = x ++ y) :=
  ev_op ha hb fun v w H1 e hv hw nn j Q f => by
    obtain ⟨x, rfl, fx⟩ := hv
    obtain ⟨y, rfl, gy⟩ := hw
    exact rv_addS (K := K) (R := R) (H := H1) (a := x) (b := y) (hz x y fx gy) nn j Q fun z H2 e2 hz => f z H2 e2 ⟨_, hz, x, y, fx, gy, rfl⟩
theorem ev_addN {F G : Int → Prop} (ha : EvP R n m ta σ H (nt F)) (hb : EvP R m k tb σ H (nt G)) : EvP R n k (tOp (rAddU K) ta tb) σ H (nt fun u => ∃ x y, F x ∧ G y ∧ u = x + y) :=
  ev_op ha hb fun v w H1 e hv hw nn j Q f => by
    obtain ⟨x, rfl, fx⟩ := hv
    obtain ⟨y, rfl, gy⟩ := hw
    exact rv_addI (K := K) (R := R) (H := H1) (i := x) (j := y) nn j Q fun z H2 e2 hz => f z H2 e2 ⟨_, hz, x, y, fx, gy, rfl⟩
/-- a test of a drawn number -/
theorem et_eqN {F : Int → Prop} {j : Int} (ha : EvP R n m ta σ H (nt F)) (hb : EvP R m k tb σ H (is (.int j))) : EvT R n k (tTest (tOp (rEqU K) ta tb)) σ H (fun _ => True) := et_testG (ev_op ha hb fun v w H1 e hv hw nn jj Q f => by
    obtain ⟨x, rfl, fx⟩ := hv
    have hw : w = .int j := hw
    subst hw
    exact rv_eqI (K := K) (R := R) (H := H1) (i := x) (j := j) nn jj Q fun z H2 e2 hz => f z H2 e2 ⟨_, hz, trivial⟩)
theorem et_gtN {F : Int → Prop} {j : Int} (ha : EvP R n m ta σ H (nt F)) (hb : EvP R m k tb σ H (is (.int j))) : EvT R n k (tTest (tOp rGtU ta tb)) σ H (fun _ => True) := et_testG (ev_op ha hb fun v w H1 e hv hw nn jj Q f => by
    obtain ⟨x, rfl, fx⟩ := hv
    have hw : w = .int j := hw
    subst hw
    exact rv_gtI (R := R) (H := H1) (i := x) (j := j) nn jj Q fun z H2 e2 hz => f z H2 e2 ⟨_, hz, trivial⟩)
/-! ### what is walked comes of an expression -/
theorem for_bindR (h : EvP R n m te σ H p) (f : ∀ v H1, R.ok m H H1 → p.P R.M v H1 → StF R m (tFor (iRng1 (tCons (tC v) tNil)) g tu) D σ H1) : StF R n (tFor (iRng1 (tCons te tNil)) g tu) D σ H := fun H1 e =>
  h H1 e _ fun v H2 e2 hv => (f v H2 (R.trans e e2) hv).run e2.1
theorem forq_bindR (h : EvP R n m te σ H p) (f : ∀ v H1, R.ok m H H1 → p.P R.M v H1 → StF R m (tSeq (tFor (iRng1 (tCons (tC v) tNil)) g tu) tz) D σ H1) : StF R n (tSeq (tFor (iRng1 (tCons te tNil)) g tu) tz) D σ H := fun H1 e =>
  h H1 e _ fun v H2 e2 hv => (f v H2 (R.trans e e2) hv).run e2.1
theorem lc_bindR {vs : List Nat} (h : EvP R n m te σ H p) (f : ∀ v H1, R.ok m H H1 → p.P R.M v H1 → EvP R m k (tLc (iRng1 (tCons (tC v) tNil)) g t tb vs) σ H1 s) : EvP R n k (tLc (iRng1 (tCons te tNil)) g t tb vs) σ H s := fun H1 e Q q =>
  h H1 e _ fun v H2 e2 hv => f v H2 (R.trans e e2) hv H2 (R.refl e2) Q fun w H3 e3 hw => q w H3 (R.trans e2 e3) hw
theorem it_any {ys : List SP} (h : ItP R n m (iList K te) σ H ys) : ItP R n m (iAny K te) σ H ys := fun H1 e Rk k => .inl (h H1 e Rk k)
theorem it_list0 {l : Addr} {xs : List V} (ha : EvP R n m te σ H (is (.ref l))) (hx : SqM K R.M H l xs) : ItP R n m (iList K te) σ H (xs.map is) := fun H1 e Rk k => ha H1 e _ fun v H2 e2 hv => by
  have hv : v = .ref l := hv
  subst hv
  have h2 := hx.st (R.trans e e2).2
  refine ⟨l, rfl, ⟨xs, h2.sq⟩, k _ H2 e2 ⟨fun M' i H' e' hi => ?_, fun M' i H' x H'' e' hi hy => ?_, fun M' H' e' => ?_⟩⟩
  · rw [List.length_map] at hi
    exact ⟨xs, _, ((h2.lift e'.w).st e'.pr).sq, List.getElem?_eq_getElem hi⟩
  · obtain ⟨rfl, f⟩ := hy
    refine ⟨Evl.Ex.refl _, fun y hy => ?_⟩
    have q := f _ ((h2.lift e'.w).st e'.pr).sq
    rw [List.getElem?_map, q] at hy
    cases hy
    rfl
  · exact ⟨xs, ((h2.lift e'.w).st e'.pr).sq, by rw [List.length_map]; exact Nat.le_refl _⟩
/-- for over a list that an expression makes; the relation may be chosen then -/
theorem for_bindL {n2 : Nat} (h : EvP R n m te σ H p) (f : ∀ v H1, R.ok m H H1 → p.P R.M v H1 → ∃ R2 n2, R2.J n2 H1 ∧ StF R2 n2 (tFor (iList K (tC v)) g tu) D σ H1) : StF R n (tFor (iAny K te) g tu) D σ H := fun H1 e => by
  have h2 : tFor (iList K te) g tu D σ H1 := h H1 e _ fun v H2 e2 hv => by
    obtain ⟨R2, n2, j, s⟩ := f v H2 (R.trans e e2) hv
    exact s.run j
  exact .inl h2
theorem ev_strip0 {f : Codes} (ha : EvP R n m te σ H (is (sv a))) (hb : EvP R m k tb σ H (is (sv b))) (hf : f = cs (Txt.stripChars (SX.S a) (SX.S b))) (hl : a.length ≤ 100000) : EvP R n k (tBM K "str" rStripU te (tCons tb tNil)) σ H (is (sv f)) :=
  ev_bmS1 ha hb fun v H1 e hv => by
    have hv : v = sv b := hv
    subst hv
    refine rm_now fun Q q => ⟨_, _, rfl, rfl, slen hl, ?_⟩
    have e : V.str (Txt.stripChars (SX.S a) (SX.S b)) = sv f := (sv_of _).trans (by rw [hf])
    rw [e]
    exact q
theorem ev_find (ha : EvP R n m te σ H (is (sv a))) (hb : EvP R m k tb σ H (is (sv b))) : EvP R n k (tBM K "str" rFindU te (tCons tb tNil)) σ H (is (.int (Txt.find (SX.S a) (SX.S b)))) :=
  ev_bmS1 ha hb fun v H1 e hv => by
    have hv : v = sv b := hv
    subst hv
    exact rm_now fun Q q => .inl ⟨_, _, rfl, rfl, q⟩
/-! ### xs.append(e), the list at l holds xs -/
theorem s_appA {l : Addr} {xs : List V} {i : Nat} (hi : σ[i]? = some (some (.ref l))) (he : EvP (R.at l xs) n m te σ H q) (hz : xs.length < 100000) (f : ∀ v H1, (R.at l xs).ok m H H1 → q.P (R.at l xs).M v H1 → D.nx σ (upd H1 l (.lst (xs ++ [v])))) : StF (R.at l xs) n (tDrop (tBM K "list" rAppend (tVar i) (tCons te tNil))) D σ H := fun H1 e =>
  ⟨.ref l, hi, .inl ⟨rfl, xs, .inl (.inl e.1.2)⟩, he H1 e _ fun v H2 e2 hv => ⟨l, xs, v, rfl, rfl, e2.1.2, Evl.sz_lt hz, f v H2 ((R.at l xs).trans e e2) hv⟩⟩
/-- .. the relation behind it, by which the list may change -/
theorem app_off {l : Addr} {xs ys : List V} {B : Hp} {c : Nat} (hB : (R.off l).ok c B H) (e : (R.at l xs).ok m H H') (hm : ¬ R.M l) : (R.off l).ok m B (upd H' l (.lst ys)) :=
  ⟨⟨R.put e.1.1 hm, ys, upd_same⟩, hB.2.trans (e.2.trans (pres.upd (.inr rfl)))⟩
theorem off_at {l : Addr} {xs : List V} {c : Nat} (j : (R.off l).J c H) (h : H l = some (.lst xs)) : (R.at l xs).J c H := ⟨j.1, h⟩
/-! ### displays of texts by a property -/
theorem paired_all {M : Addr → Prop} {F : V → Prop} : ∀ {vs : List V} {k : Nat}, Paired (fun v (p : SP) => p.P M v H) vs (List.replicate k (sat F)) → vs.length = k ∧ ∀ v ∈ vs, F v
  | _, 0, .nil => ⟨rfl, fun v h => by cases h⟩
  | _, k + 1, .cons a b => by
    obtain ⟨h1, h2⟩ := paired_all b
    refine ⟨by rw [List.length_cons, h1], fun v hv => ?_⟩
    rcases List.mem_cons.mp hv with rfl | hv
    · exact a
    · exact h2 v hv
theorem ev_lstR {tar : TA} {F : V → Prop} {c : Nat} (h : EvA R n m tar σ H (List.replicate c (sat F))) (hc : c ≤ 100000) : EvP R n m (tLst tar) σ H (lstG fun xs => xs.length = c ∧ ∀ v ∈ xs, F v) :=
  (ev_lst h (by rw [List.length_replicate]; exact hc)).imp fun v H1 _ ⟨l, xs, e, h, g⟩ => ⟨l, xs, e, h, paired_all g⟩
theorem ev_max2 {i j : Int} (ha : EvP R n m ta σ H (is (.int i))) (hb : EvP R m k tb σ H (is (.int j))) : EvP R n k (tCB (fun xs H Q => ∃ i j, xs = [V.int i, .int j] ∧ Q (.int (if j > i then j else i)) H) (tCons ta (tCons tb tNil))) σ H (is (.int (if j > i then j else i))) :=
  ev_cb (ea_cons ha (ea_cons hb ea_nil)) fun vs H1 e hv => by
    obtain ⟨v, w, rfl, h1, h2⟩ := two hv
    have h1 : v = .int i := h1
    have h2 : w = .int j := h2
    subst h1; subst h2
    exact rc_now fun _ q => ⟨i, j, rfl, q⟩
theorem ev_sliceT {F : Codes → Prop} {lo hi : Option Int} {tl th : TO} {j : Nat} (ha : EvP R n m te σ H (tx F)) (hl : EvO R m k tl σ H (fun o => o = lo)) (hh : EvO R k j th σ H (fun o => o = hi)) (hz : ∀ x, F x → x.length ≤ 100000) : EvP R n j (tSl (rSlU K) te tl th) σ H (tx fun u => ∃ x, F x ∧ u = sl x lo hi) :=
  ev_sl ha hl hh fun v H1 _ hv nn jj Q f => by
    obtain ⟨x, rfl, hx⟩ := hv
    exact rs_S (K := K) (R := R) (hz x hx) nn jj Q fun z H2 e2 hz => f z H2 e2 ⟨_, hz, x, hx, rfl⟩
theorem StF.seq {ts : TS} (h : StF R n ts { D with nx := tz D } σ H) : StF R n (tSeq ts tz) D σ H := h
/-! ### new lists, known to be new -/
def EvN (R : Rel) (n m : Nat) (te : TE) (σ : L2.St) (H : Hp) (G : List V → Prop) : Prop := ∀ H1, R.ok n H H1 → ∀ Q : VK, (∀ l H2 xs, R.ok m H1 H2 → H1 l = none → LtM R.M H2 l xs → G xs → Q (.ref l) H2) → te σ H1 Q
theorem old_none {l : Addr} (e : R.ok n H H') (h : H' l = none) : H l = none := by
  cases h0 : H l with
  | none => rfl
  | some o =>
    by_cases hm : R.M l
    · exact absurd h (R.alive e.1 hm)
    · rw [e.2 l o hm h0] at h
      cases h
theorem ev_lstN {tar : TA} {ps : List SP} {G : List V → Prop} (h : EvA R n m tar σ H ps) (hl : ps.length ≤ 100000) (hG : ∀ vs H1, Paired (fun v (p : SP) => p.P R.M v H1) vs ps → G vs) : EvN R n m (tLst tar) σ H G := fun H1 e Q f =>
  h H1 e _ fun vs H2 e2 hv => ⟨by rw [hv.length]; exact Evl.sz_of hl, fun l hl => f l _ vs (R.trans e2 (R.new e2.1 hl)) (old_none e2 hl) ⟨upd_same, R.fresh e2.1 hl⟩ (hG vs H2 hv)⟩
theorem ev_lstNV {tar : TA} {vs : List V} (h : EvA R n m tar σ H (vs.map is)) (hl : vs.length ≤ 100000) : EvN R n m (tLst tar) σ H (· = vs) := ev_lstN h (by rw [List.length_map]; exact hl) fun _ _ hv => paired_is hv
theorem q_asgN {i : Nat} {G : List V → Prop} (h : EvN R n m te σ H G) (f : ∀ l H1 xs, R.ok m H H1 → H l = none → LtM R.M H1 l xs → G xs → StF R m tz D (σ.set i (some (.ref l))) H1) : StF R n (tSeq (tAsg te (gName i)) tz) D σ H := fun H1 e =>
  h H1 e _ fun l H2 xs e2 hn hl g => (f l H2 xs (R.trans e e2) (old_none e hn) hl g).run e2.1
theorem q_parN {i j : Nat} {G : List V → Prop} (ha : EvP R n m ta σ H p) (hb : EvN R m k tb σ H G) (f : ∀ v l H1 xs, R.ok k H H1 → H l = none → p.P R.M v H1 → LtM R.M H1 l xs → G xs → StF R k tz D ((σ.set i (some v)).set j (some (.ref l))) H1) : StF R n (tSeq (tPar i j (tCons ta (tCons tb tNil))) tz) D σ H := fun H1 e =>
  ha H1 e _ fun v H2 e2 hv => hb H2 (R.trans e e2) _ fun l H3 xs e3 hn hl g => ⟨_, _, rfl, (f v l H3 xs (R.trans (R.trans e e2) e3) (old_none (R.trans e e2) hn) (p.st e3.2 hv) hl g).run e3.1⟩
/-- behind a loop in which a new list grew -/
theorem off_back {l : Addr} {c d : Nat} {B : Hp} (e1 : R.ok n H B) (hn : H l = none) (e : (R.off l).ok c B H') (hd : d ≤ c) : R.ok d H H' := ⟨R.dec e.1.1 hd, fun a o ma ha => by
  have ne : a ≠ l := fun z => by rw [z, hn] at ha; cases ha
  exact e.2 a o (fun z => z.elim ma ne) (e1.2 a o ma ha)⟩
end
end My
namespace My
open PySem PySem.Spec PyProof.Rows L2
def topS (i : Nat) : Stmt := PySem.Challenge.pw_dirservice_k04_orders.main.body.getD i (.Pass ⟨0, 0, 0, 0⟩)
abbrev s_is_word : Stmt := topS 8
abbrev s_is_value : Stmt := topS 9
abbrev s_plain_text : Stmt := topS 10
abbrev s_is_plain : Stmt := topS 11
abbrev s_escaped : Stmt := topS 12
abbrev s_value_at : Stmt := topS 13
abbrev s_read_name : Stmt := topS 14
abbrev s_leaf_text : Stmt := topS 15
abbrev s_normal_leaf : Stmt := topS 16
abbrev s_normal_name : Stmt := topS 17
abbrev s_normal : Stmt := topS 19
abbrev s_is_less : Stmt := topS 20
abbrev s_l_source : Stmt := topS 22
abbrev s_l_next : Stmt := topS 23
abbrev s_l_pick : Stmt := topS 24
abbrev s_l_rounds : Stmt := topS 25
abbrev s_l_low : Stmt := topS 26
abbrev s_l_string : Stmt := topS 27
abbrev s_l_turned : Stmt := topS 28
abbrev s_l_number_is_less : Stmt := topS 29
abbrev s_l_is_less : Stmt := topS 30
abbrev s_l_numbers : Stmt := topS 31
abbrev s_l_strings : Stmt := topS 32
abbrev s_law : Stmt := topS 33
structure Tx (K : PySem.W.Frag) (mg : Str → Option Value) : Prop where
  d_is_word : Df K mg "is_word" s_is_word
  d_is_value : Df K mg "is_value" s_is_value
  d_plain_text : Df K mg "plain_text" s_plain_text
  d_is_plain : Df K mg "is_plain" s_is_plain
  d_escaped : Df K mg "escaped" s_escaped
  d_value_at : Df K mg "value_at" s_value_at
  d_read_name : Df K mg "read_name" s_read_name
  d_leaf_text : Df K mg "leaf_text" s_leaf_text
  d_normal_leaf : Df K mg "normal_leaf" s_normal_leaf
  d_normal_name : Df K mg "normal_name" s_normal_name
  d_normal : Df K mg "normal" s_normal
  d_is_less : Df K mg "is_less" s_is_less
  d_l_source : Df K mg "_law_source" s_l_source
  d_l_next : Df K mg "_law_next" s_l_next
  d_l_pick : Df K mg "_law_pick" s_l_pick
  d_l_rounds : Df K mg "_law_rounds" s_l_rounds
  d_l_low : Df K mg "_law_low" s_l_low
  d_l_string : Df K mg "_law_string" s_l_string
  d_l_turned : Df K mg "_law_turned" s_l_turned
  d_l_number_is_less : Df K mg "_law_number_is_less" s_l_number_is_less
  d_l_is_less : Df K mg "_law_is_less" s_l_is_less
  d_l_numbers : Df K mg "_law_numbers" s_l_numbers
  d_l_strings : Df K mg "_law_strings" s_l_strings
  d_law : Df K mg "law" s_law
  b_len : mg "len" = none
  b_isinstance : mg "isinstance" = none
  b_str : mg "str" = none
  b_all : mg "all" = none
  b_enumerate : mg "enumerate" = none
  b_tuple : mg "tuple" = none
  b_sorted : mg "sorted" = none
  b_int : mg "int" = none
  b_sum : mg "sum" = none
  b_list : mg "list" = none
  b_range : mg "range" = none
  b_max : mg "max" = none
  b_bool : mg "bool" = none
  g_MAX_WORD : ∃ t, mg "MAX_WORD" = some (.int 12 t)
  g_LETTERS : ∃ t, mg "LETTERS" = some (.str "abcdefghijklmnopqrstuvwxyz" t)
  g_MAX_TEXT : ∃ t, mg "MAX_TEXT" = some (.int 60 t)
  g_ESCAPED : ∃ t, mg "ESCAPED" = some (.str ",+=\\" t)
  g_BACKSLASH : ∃ t, mg "BACKSLASH" = some (.str "\\" t)
  g_MAX_PAIRS : ∃ t, mg "MAX_PAIRS" = some (.int 4 t)
  g_MAX_LEAVES : ∃ t, mg "MAX_LEAVES" = some (.int 12 t)
end My
namespace My
open PySem PySem.Spec PyProof.Rows L2
-- plain
/-! plain texts: small letters, words with one space between -/
def asc (l : Codes) : Prop := l.all (· < 128) = true
def lowL (l : Codes) : Codes := l.map PyProof.Rows.lo1
def wds (l : Codes) : List Codes := (TL.spl [32] 0 [] l).filter fun x => !decide (x = [])
def plainL (l : Codes) : Codes := TL.joinL [32] (wds (lowL l))
/-- the words, the rest acc ahead -/
def wdA (acc l : Codes) : List Codes := (TL.spl [32] 0 acc l).filter fun x => !decide (x = [])
def ne1 (acc : Codes) : List Codes := if acc = [] then [] else [acc]
theorem wdA_nil (acc : Codes) : wdA acc [] = ne1 acc := by
  unfold wdA ne1
  rw [TL.spl_nil]
  by_cases h : acc = []
  · rw [if_pos h, h]; rfl
  · rw [if_neg h, List.filter_cons, if_pos (by rw [decide_eq_false h]; rfl)]; rfl
theorem wdA_sp (acc r : Codes) : wdA acc (32 :: r) = ne1 acc ++ wdA [] r := by
  unfold wdA ne1
  rw [TL.spl_hit (by rfl)]
  show (acc :: TL.spl [32] 0 [] r).filter _ = _
  by_cases h : acc = []
  · rw [if_pos h, h]; rfl
  · rw [if_neg h, List.filter_cons, if_pos (by rw [decide_eq_false h]; rfl)]; rfl
theorem wdA_ch {c : Nat} (acc r : Codes) (h : c ≠ 32) : wdA acc (c :: r) = wdA (acc ++ [c]) r := by
  unfold wdA
  rw [TL.spl_miss (TL.pre_of_head _ _ h)]
theorem joinL_cons2 (s x y : Codes) (r : List Codes) : TL.joinL s (x :: y :: r) = x ++ s ++ TL.joinL s (y :: r) := by
  first
    | rfl
    | simp [TL.joinL]
theorem joinL_one (s x : Codes) : TL.joinL s [x] = x := by
  first
    | rfl
    | simp [TL.joinL]
theorem joinL_nil (s : Codes) : TL.joinL s [] = [] := by
  first
    | rfl
    | simp [TL.joinL]
theorem joinL_snoc (s y : Codes) : ∀ (ws : List Codes), ws ≠ [] → TL.joinL s (ws ++ [y]) = TL.joinL s ws ++ s ++ y
  | [], h => absurd rfl h
  | [x], _ => by
    show TL.joinL s (x :: y :: []) = _
    rw [joinL_cons2, joinL_one, joinL_one]
  | x :: z :: r, _ => by
    show TL.joinL s (x :: z :: (r ++ [y])) = _
    have ih := joinL_snoc s y (z :: r) (List.cons_ne_nil _ _)
    rw [joinL_cons2, joinL_cons2]
    rw [show z :: (r ++ [y]) = (z :: r) ++ [y] from rfl, ih]
    simp only [List.append_assoc]
/-- the law's own way: sign by sign -/
def lowStep (f : Codes) (d : Nat) : Codes := if d ≠ 32 ∨ (f ≠ [] ∧ f.getLast? ≠ some 32) then f ++ [d] else f
def lowEnd (f : Codes) : Codes := if f.getLast? = some 32 then f.dropLast else f
/-- the text so far, by its words -/
def rep (ws : List Codes) (acc : Codes) : Codes := if acc = [] then (if ws = [] then [] else TL.joinL [32] ws ++ [32]) else TL.joinL [32] (ws ++ [acc])
theorem rep_last {ws : List Codes} {acc : Codes} (h : acc ≠ []) : ∃ p, rep ws acc = p ++ acc := by
  unfold rep
  rw [if_neg h]
  by_cases hw : ws = []
  · rw [hw]
    exact ⟨[], by rw [List.nil_append, joinL_one]; rfl⟩
  · rw [joinL_snoc _ _ _ hw]
    exact ⟨_, rfl⟩
theorem getLast_app {p a : Codes} (h : a ≠ []) : (p ++ a).getLast? = a.getLast? := by
  rw [List.getLast?_append]
  cases e : a.getLast? with
  | none => exact absurd (List.getLast?_eq_none_iff.mp e) h
  | some x => rfl
theorem low_fold : ∀ (l : Codes) (ws : List Codes) (acc : Codes), (∀ c ∈ acc, c ≠ 32) → lowEnd (l.foldl lowStep (rep ws acc)) = TL.joinL [32] (ws ++ wdA acc l)
  | [], ws, acc, ha => by
    rw [List.foldl_nil, wdA_nil]
    unfold lowEnd ne1
    by_cases h : acc = []
    · rw [if_pos h, h]
      unfold rep
      rw [if_pos rfl, List.append_nil]
      by_cases hw : ws = []
      · rw [if_pos hw, hw]; rfl
      · rw [if_neg hw, if_pos (by simp), List.dropLast_concat]
    · rw [if_neg h]
      obtain ⟨p, e⟩ := rep_last (ws := ws) h
      have : (rep ws acc).getLast? ≠ some 32 := by
        rw [e, getLast_app h]
        intro z
        exact ha 32 (List.mem_of_getLast? z) rfl
      rw [if_neg this]
      unfold rep
      rw [if_neg h]
  | c :: r, ws, acc, ha => by
    rw [List.foldl_cons]
    by_cases hc : c = 32
    · subst hc
      rw [wdA_sp]
      by_cases h : acc = []
      · subst h
        have : lowStep (rep ws []) 32 = rep ws [] := by
          unfold lowStep
          rw [if_neg]
          intro z
          rcases z with z | ⟨z1, z2⟩
          · exact z rfl
          · unfold rep at z1 z2
            rw [if_pos rfl] at z1 z2
            by_cases hw : ws = []
            · rw [if_pos hw] at z1; exact z1 rfl
            · rw [if_neg hw] at z2; exact z2 (by simp)
        rw [this, low_fold r ws [] (by simp)]
        rfl
      · have : lowStep (rep ws acc) 32 = rep (ws ++ [acc]) [] := by
          obtain ⟨p, e⟩ := rep_last (ws := ws) h
          have h2 : (rep ws acc).getLast? ≠ some 32 := by
            rw [e, getLast_app h]
            intro z
            exact ha 32 (List.mem_of_getLast? z) rfl
          have h3 : rep ws acc ≠ [] := by
            rw [e]
            intro z
            exact h (List.append_eq_nil_iff.mp z).2
          unfold lowStep
          rw [if_pos (.inr ⟨h3, h2⟩)]
          unfold rep
          rw [if_neg h, if_pos rfl, if_neg (by simp)]
        rw [this, low_fold r (ws ++ [acc]) [] (by simp)]
        unfold ne1
        rw [if_neg h, List.append_assoc]
    · rw [wdA_ch acc r hc]
      have : lowStep (rep ws acc) c = rep ws (acc ++ [c]) := by
        unfold lowStep
        rw [if_pos (.inl hc)]
        unfold rep
        rw [if_neg (by simp : acc ++ [c] ≠ [])]
        by_cases h : acc = []
        · subst h
          rw [if_pos rfl]
          by_cases hw : ws = []
          · rw [if_pos hw, hw]; rfl
          · rw [if_neg hw, List.nil_append, joinL_snoc _ _ _ hw]
        · rw [if_neg h]
          by_cases hw : ws = []
          · rw [hw, List.nil_append, List.nil_append, joinL_one, joinL_one]
          · rw [joinL_snoc _ _ _ hw, joinL_snoc _ _ _ hw, List.append_assoc]
      rw [this]
      exact low_fold r ws (acc ++ [c]) (fun x hx => by
        rcases List.mem_append.mp hx with hx | hx
        · exact ha x hx
        · rw [List.mem_singleton.mp hx]; exact hc)
theorem low_plain (l : Codes) : lowEnd ((lowL l).foldl lowStep []) = plainL l := low_fold (lowL l) [] [] (by simp)
theorem lo1_asc : ∀ c, c < 128 → PyProof.Rows.lo1 c < 128 := by decide
theorem lowL_len (l : Codes) : (lowL l).length = l.length := List.length_map ..
theorem lowStep_len (f : Codes) (d : Nat) : (lowStep f d).length ≤ f.length + 1 := by
  unfold lowStep
  split
  · simp
  · omega
theorem lowFold_len : ∀ (l f : Codes), (l.foldl lowStep f).length ≤ f.length + l.length
  | [], f => Nat.le_refl _
  | c :: r, f => by
    rw [List.foldl_cons, List.length_cons]
    have := lowFold_len r (lowStep f c)
    have := lowStep_len f c
    omega
theorem plainL_len (l : Codes) : (plainL l).length ≤ l.length := by
  rw [← low_plain]
  have h := lowFold_len (lowL l) []
  rw [lowL_len] at h
  unfold lowEnd
  have e : ([] : Codes).length = 0 := rfl
  split
  · rw [List.length_dropLast]
    omega
  · omega
theorem wds_mem {x : Codes} {l : Codes} (h : x ∈ wds l) : x ≠ [] := by
  have := (List.mem_filter.mp h).2
  intro e
  rw [e] at this
  cases this

end My
namespace My
open PySem PySem.Spec PyProof.Rows L2
section
variable {P : Program} {w : World} {K : PySem.W.Frag} {mg : Str → Option Value} {base : Heap}
abbrev N_plain_text : List Str := ["value", "part"]
theorem sc_plain_text : FnScope N_plain_text ["value"] (defScope s_plain_text) := ⟨rfl, rfl, rfl, by decide +kernel, rfl, by decide +kernel, by decide +kernel⟩
-- slots: 0 value, 1 part
def sp_plain_text : Sp := pureSp (fun (l : Codes) _ vs _ => vs = [sv l] ∧ asc l ∧ l.length ≤ 1000) (fun l => is (sv (plainL l)))
theorem wds_sum (l : Codes) : ((wds l).map (·.length)).sum + (wds l).length ≤ l.length + l.length + 2 := by
  unfold wds
  have h : ∀ (r acc : Codes), ((wdA acc r).map (·.length)).sum + (wdA acc r).length ≤ (acc.length + r.length) + (1 + r.length) := by
    intro r
    induction r with
    | nil =>
      intro acc
      rw [wdA_nil]
      unfold ne1
      split
      · simp
      · simp
    | cons c r ih =>
      intro acc
      by_cases hc : c = 32
      · subst hc
        rw [wdA_sp]
        have h1 := ih []
        have h2 : ((ne1 acc).map (·.length)).sum + (ne1 acc).length ≤ acc.length + 1 := by
          unfold ne1
          split
          · simp
          · simp
        rw [List.map_append, List.sum_append, List.length_append]
        simp only [List.length_nil, List.length_cons] at h1 ⊢
        omega
      · rw [wdA_ch _ _ hc]
        have h1 := ih (acc ++ [c])
        simp only [List.length_append, List.length_singleton, List.length_cons, List.length_nil] at h1 ⊢
        omega
  have := h l []
  unfold wdA at this
  simp only [List.length_nil] at this
  omega
theorem filter_sv (ls : List Codes) : ((ls.map sv).filter fun v => !decide (v = sv [])) = (ls.filter fun x => !decide (x = [])).map sv := by
  rw [List.filter_map]
  congr 1
  refine List.filter_congr fun x _ => ?_
  show (!decide (sv x = sv [])) = _
  rw [dec_sv]
theorem c_plain_text (T : Tx K mg) : Cal P w K mg base 1 "plain_text" ["value"] (sp_plain_text) := by
  refine T.d_plain_text.cal sc_plain_text (fun vs H Q E h => ?_) (fun _ _ _ _ _ _ us hl => match us, hl with | [_], _ => rfl) (fun f cdv A outer s H vs Q E hr h => ?_)
  · obtain ⟨R, n, l, _, ⟨rfl, _⟩, _⟩ := h
    rfl
  · obtain ⟨R, n, l, hj, ⟨rfl, ha, hl⟩, q⟩ := h
    refine ⟨_, (pss_one (ps_ret (pe_bmK (K := K) PySem.F.plainAttrs_str PySem.F.slot_str_join PySem.F.type_str_join (mt_joinA (K := K)) pe_str (pa_cons (pe_lc (own := [("part", 1)]) (by rfl) sc_plain_text.nd (pi_any (K := K) (pe_bmK (K := K) PySem.F.plainAttrs_str PySem.F.slot_str_split PySem.F.type_str_split mt_splitA (pe_bm0K (K := K) PySem.F.plainAttrs_str PySem.F.slot_str_lower PySem.F.type_str_lower mt_lowerA (pv 0)) (pa_cons pe_str pa_nil))) (blkOk_by (own := [("part", 1)]) (N := N_plain_text) (sc := defScope s_plain_text) (by decide +kernel)) (fun _ _ _ _ _ => (pg_name (i := 1) sc_plain_text.nd rfl (by first | exact Or.inl rfl | exact Or.inr rfl))) (fun _ _ _ _ _ => (pts_one (pt_cmpR (cm_NotEq (K := K) hr.units) (pv 1) pe_str (nomark _)))) (fun _ _ _ _ _ => (pv 1))) pa_nil)))), ?_⟩
    refine StF.run (R := R) (n := n) ?_ hj
    refine s_ret (m := n) (p := is (sv (plainL l))) ?_ q
    have hsp := ev_split (K := K) (R := R) (n := n) (σ := start N_plain_text [sv l]) (H := H) (ev_lower (K := K) (ev_var (i := 0) rfl) ha (by omega)) (ev_str (l := [32]) (c := " ") (by decide +kernel)) (by simp) (by decide) (by rw [List.length_map]; omega)
    refine ev_joinV (ls := wds (lowL l)) (ev_str (by decide +kernel)) ?_ ?_
    · have h2 := ev_lcV (t := tTest (tOp (rNeU K) (tVar 1) (tC (.str "")))) (te := tVar 1) (vs := [1]) (j := 1) (fun v => !decide (v = sv [])) id (it_lstV (K := K) hsp) (by
        rw [List.length_map]
        have : ∀ (r acc : Codes), (TL.spl [32] 0 acc r).length ≤ r.length + 1 := by
          intro r
          induction r with
          | nil => intro acc; rw [TL.spl_nil]; simp
          | cons c r ih =>
            intro acc
            by_cases hc : TL.pre [32] (c :: r) = true
            · rw [TL.spl_hit hc]
              have := ih []
              simp only [List.length_cons] at this ⊢
              show (TL.spl [32] 0 [] r).length + 1 ≤ _
              omega
            · rw [TL.spl_miss (Bool.eq_false_iff.mpr hc)]
              have := ih (acc ++ [c])
              simp only [List.length_cons] at this ⊢
              omega
        have h3 := this (l.map PyProof.Rows.lo1) []
        rw [List.length_map] at h3
        omega) (fun x => rfl) (fun R' H' w ex hw => by
          obtain ⟨c, hc, rfl⟩ := List.mem_map.mp hw
          exact ⟨et_is (et_test (ev_op2 (ev_var (v := sv c) rfl) (ev_str (l := []) (by decide +kernel)) (fun H1 _ => rv_neS))) (by rw [← dec_sv]), fun _ => ev_var rfl⟩)
      rw [List.map_id, filter_sv] at h2
      exact h2
    · have h3 := wds_sum (lowL l)
      rw [lowL_len] at h3
      show _ + _ * 1 ≤ _
      omega

end
end My
namespace My
open PySem PySem.Spec PyProof.Rows L2
section
variable {P : Program} {w : World} {K : PySem.W.Frag} {mg : Str → Option Value} {base : Heap}
/-! ### sources of numbers -/
/-- at a stands a source, n draws may still come -/
def srcJ (a : Addr) (n : Nat) (H : Hp) : Prop := ∃ c k d : Int, H a = some (.lst [.int c, .int k, .int d]) ∧ 0 ≤ k ∧ k + (n : Int) ≤ 1099511627776
structure HasSrc (R : Rel) (a : Addr) : Prop where
  m : R.M a
  get : ∀ n H, R.J n H → srcJ a n H
  put : ∀ n m H o, R.J n H → m ≤ n → srcJ a m (upd H a o) → R.J m (upd H a o)
theorem HasSrc.ext {R R' : Rel} {H H' : Hp} {a : Addr} (s : HasSrc R a) (e : Ext R H R' H') : HasSrc R' a :=
  ⟨e.up a s.m, fun n H1 j => s.get n H1 (e.jr n H1 j), fun n m H1 o j hm h => e.put n m H1 a o s.m j (s.put n m H1 o (e.jr n H1 j) hm h)⟩
def srcR (a : Addr) : Rel where
  M := (· = a)
  J := srcJ a
  alive := by
    intro n H b j m
    obtain ⟨c, k, d, h, _⟩ := j
    rw [show b = a from m, h]
    exact fun z => nomatch z
  loc := by
    intro n H H' j e
    obtain ⟨c, k, d, h, r⟩ := j
    exact ⟨c, k, d, (e a rfl).trans h, r⟩
  dec := by
    intro n m H j h
    obtain ⟨c, k, d, e, r1, r2⟩ := j
    exact ⟨c, k, d, e, r1, by omega⟩
theorem hasSrc (a : Addr) : HasSrc (srcR a) a := ⟨rfl, fun _ _ j => j, fun _ _ _ _ _ _ h => h⟩
/-- a def that draws: at most cost x draws -/
def drawSp {α : Type} (cost : α → Nat) (args : α → Addr → (Addr → Prop) → List V → Hp → Prop) (post : α → SP) : Sp := fun vs H Q _ =>
  ∃ (R : Rel) (a : Addr) (n : Nat) (x : α), HasSrc R a ∧ R.J (n + cost x) H ∧ args x a R.M vs H ∧ ∀ v H', R.ok n H H' → (post x).P R.M v H' → Q v H'
theorem ev_draw {α : Type} {cost : α → Nat} {args : α → Addr → (Addr → Prop) → List V → Hp → Prop} {post : α → SP} {R : Rel} {n m : Nat} {a : Addr} {tar : TA} {ps : List SP} {σ : L2.St} {H : Hp} (x : α) (hs : HasSrc R a) (h : EvA R n (m + cost x) tar σ H ps)
    (ha : ∀ vs H1, R.ok (m + cost x) H H1 → Paired (fun v (p : SP) => p.P R.M v H1) vs ps → args x a R.M vs H1) : EvP R n m (tCall (drawSp cost args post) [] E0 tar) σ H (post x) :=
  ev_call h fun vs H1 e hv Q f => ⟨R, a, m, x, hs, e.1, ha vs H1 e hv, f⟩
theorem ixN_nat {n j : Nat} (hj : j < n) : ixN n (j : Int) = some j := Evl.ixN_nat hj
theorem atI_ge {α : Type} {xs : List α} {j : Nat} {x : α} (h : xs[j]? = some x) : atI xs (j : Int) = some x := by
  have hj := (List.getElem?_eq_some_iff.mp h).1
  unfold atI
  rw [ixN_nat hj]
  exact h
/-- xs[j] = e, where nothing else changes -/
theorem q_setX {σ : L2.St} {H : Hp} {ta tb te : TE} {D : Ends} {tz : TS} {v : V} {l : Addr} {xs : List V} {j : Nat} (hl : H l = some (.lst xs)) (h : EvP exR 0 0 te σ H (is v)) (ho : EvP exR 0 0 ta σ H (is (.ref l))) (hi : EvP exR 0 0 tb σ H (is (.int (j : Int)))) (hj : j < xs.length)
    (k : ∀ H1, Evl.Ex H H1 → tz D σ (upd H1 l (.lst (xs.set j v)))) : StF exR 0 (tSeq (tAsg te (gSub ta tb rSetL)) tz) D σ H := fun H1 e1 => h H1 e1 _ fun w H2 e2 hw => ho H2 (exR.trans e1 e2) _ fun o H3 e3 ho' => hi H3 (exR.trans (exR.trans e1 e2) e3) _ fun i H4 e4 hi' => by
  have hw : w = v := hw
  have ho' : o = .ref l := ho'
  have hi' : i = .int (j : Int) := hi'
  subst hw; subst ho'; subst hi'
  have e := exR_ex (exR.trans (exR.trans (exR.trans e1 e2) e3) e4)
  exact ⟨l, xs, (j : Int), j, rfl, rfl, e _ _ hl, ixN_nat hj, k H4 e⟩
/-! ### _law_next -/
abbrev N_l_next : List Str := ["_law_source_here", "_law_many", "_law_found", "_law_primes", "_law_prime", "_law_mixed"]
theorem sc_l_next : FnScope N_l_next ["_law_source_here", "_law_many"] (defScope s_l_next) := ⟨rfl, rfl, rfl, by decide +kernel, rfl, by decide +kernel, by decide +kernel⟩
-- slots: 0 _law_source_here, 1 _law_many, 2 _law_found, 3 _law_primes, 4 _law_prime, 5 _law_mixed
def sp_l_next : Sp := drawSp (fun _ => 1) (fun (many : Int) a _ vs _ => vs = [.ref a, .int many] ∧ 0 < many ∧ many < 1073741824) (fun many => sat fun v => ∃ r, v = .int r ∧ 0 ≤ r ∧ r < many)
def primes8 : List V := [.int 2147483647, .int 2147483629, .int 2147483587, .int 2147483579, .int 2147483563, .int 2147483549, .int 2147483543, .int 2147483497]
def primes3 : List V := [.int 2147483489, .int 2147483477, .int 2147483423]
theorem primes_in : ∀ v ∈ primes8 ++ primes3, ∃ p : Int, v = .int p ∧ 2147483423 ≤ p ∧ p ≤ 2147483647 := by
  intro v hv
  simp only [primes8, primes3, List.cons_append, List.nil_append, List.mem_cons, List.not_mem_nil, or_false] at hv
  rcases hv with rfl | rfl | rfl | rfl | rfl | rfl | rfl | rfl | rfl | rfl | rfl <;> exact ⟨_, rfl, by decide, by decide⟩
theorem src_ok {R : Rel} {H : Hp} {a : Addr} {n m : Nat} {H0 : Hp} {c k d : Int} (s : HasSrc R a) (j : R.J n H0) (hm : m ≤ n) (e : Evl.Ex H0 H) (h0 : 0 ≤ k) (h1 : k + (m : Int) ≤ 1099511627776) : R.ok m H0 (upd H a (.lst [.int c, .int k, .int d])) :=
  ⟨s.put n m H _ (R.mono j e) hm ⟨c, k, d, upd_same, h0, h1⟩, (pres.ex e).trans (pres.upd s.m)⟩
theorem c_l_next (T : Tx K mg) : Cal P w K mg base 1 "_law_next" ["_law_source_here", "_law_many"] (sp_l_next) := by
  refine T.d_l_next.cal sc_l_next (fun vs H Q E h => ?_) (fun _ _ _ _ _ _ us hl => match us, hl with | [_, _], _ => rfl) (fun f cdv A outer s H vs Q E hr h => ?_)
  · obtain ⟨R, a, n, many, _, _, ⟨rfl, _⟩, _⟩ := h
    rfl
  · obtain ⟨R, a, n, many, hs, hj, ⟨rfl, hm0, hm1⟩, q⟩ := h
    refine ⟨_, (pss_cons (ps_if (pt_cmpR cm_Gt (pe_ix (ix_any (K := K)) (pv 0) pe_int (fun _ _ => rfl)) pe_int (nomark _)) (pss_cons (ps_set (i := 2) sc_l_next.nd rfl (by first | exact Or.inl rfl | exact Or.inr rfl) (pe_op op_mod (pe_callTy call_intA (by rfl) T.b_int (by decide +kernel) (pa_cons (pe_ix (ix_any (K := K)) (pv 0) pe_int (fun _ _ => rfl)) pa_nil)) (pv 1)))
      (pss_cons (ps_asg (pe_op op_FloorDiv (pe_callTy call_intA (by rfl) T.b_int (by decide +kernel) (pa_cons (pe_ix (ix_any (K := K)) (pv 0) pe_int (fun _ _ => rfl)) pa_nil)) (pv 1)) (pg_sub (pv 0) pe_int set_list))
      (pss_one (ps_ret (pv 2))))) pss_nil)
      (pss_cons (ps_asg (pe_op (op_Add (K := K)) (pe_ix (ix_any (K := K)) (pv 0) pe_int (fun _ _ => rfl)) pe_int) (pg_sub (pv 0) pe_int set_list))
      (pss_cons (ps_set (i := 3) sc_l_next.nd rfl (by first | exact Or.inl rfl | exact Or.inr rfl) (pe_lst (pa_cons pe_int (pa_cons pe_int (pa_cons pe_int (pa_cons pe_int (pa_cons pe_int (pa_cons pe_int (pa_cons pe_int (pa_cons pe_int pa_nil))))))))))
      (pss_cons (ps_set (i := 4) sc_l_next.nd rfl (by first | exact Or.inl rfl | exact Or.inr rfl) (pe_ix (ix_any (K := K)) (pe_op (op_Add (K := K)) (pv 3) (pe_lst (pa_cons pe_int (pa_cons pe_int (pa_cons pe_int pa_nil))))) (pe_op op_mod (pe_callTy call_intA (by rfl) T.b_int (by decide +kernel) (pa_cons (pe_ix (ix_any (K := K)) (pv 0) pe_int (fun _ _ => rfl)) pa_nil)) pe_int) (fun _ _ => rfl)))
      (pss_cons (ps_set (i := 5) sc_l_next.nd rfl (by first | exact Or.inl rfl | exact Or.inr rfl) (pe_op (op_Add (K := K)) (pe_op (op_Add (K := K)) (pe_op op_mod (pe_callTy call_intA (by rfl) T.b_int (by decide +kernel) (pa_cons (pe_ix (ix_any (K := K)) (pv 0) pe_int (fun _ _ => rfl)) pa_nil)) (pv 4)) (pe_op op_Mult pe_int (pe_ix (ix_any (K := K)) (pv 0) pe_int (fun _ _ => rfl)))) pe_int))
      (pss_one (ps_ret (pe_op op_mod (pe_callTy call_intA (by rfl) T.b_int (by decide +kernel) (pa_cons (pe_op op_FloorDiv (pe_op op_mod (pe_callTy call_intA (by rfl) T.b_int (by decide +kernel) (pa_cons (pe_op op_pow (pv 5) pe_int) pa_nil)) (pv 4)) pe_int) pa_nil)) (pv 1))))))))), ?_⟩
    obtain ⟨c, k, d, ha, hk0, hk1⟩ := hs.get (n + 1) _ hj
    have sq : ∀ {H1 : Hp} {c k d : Int}, H1 a = some (.lst [.int c, .int k, .int d]) → SqM K exR.M H1 a [.int c, .int k, .int d] := fun h => .of h (fun z => z)
    refine StF.run (R := exR) (n := 0) ?_ trivial
    refine q_whenB (m := 0) (b := decide (0 < d)) ?_ (fun hb => ?_) (fun hb => ?_)
    · exact et_test (ev_op2 (ev_op2 (ev_var (v := .ref a) rfl) ev_c fun H1 e => rv_ixL ((sq ha).st e.2).sq (atI_ge (j := 2) rfl)) ev_c fun H1 _ => rv_gtI)
    · -- the digits
      refine q_asgV (m := 0) (v := .int (d % many)) (ev_op2 (m := 0) (x := .int d) (y := .int many) (ev_intI (ev_op2 (m := 0) (x := .ref a) (y := .int 2) (ev_var rfl) ev_c fun H1 e => rv_ixL ((sq ha).st e.2).sq (atI_ge (j := 2) rfl))) (ev_var rfl) fun H1 _ => rv_modI hm0) ?_
      refine q_setX (v := .int (d / many)) (j := 2) ha (ev_op2 (m := 0) (x := .int d) (y := .int many) (ev_intI (ev_op2 (m := 0) (x := .ref a) (y := .int 2) (ev_var rfl) ev_c fun H1 e => rv_ixL ((sq ha).st e.2).sq (atI_ge (j := 2) rfl))) (ev_var rfl) fun H1 _ => rv_divI ⟨hm0, hm1⟩) (ev_var rfl) ev_c (by simp) fun H1 e1 => ?_
      refine StF.run (R := exR) (n := 0) ?_ trivial
      refine s_ret (m := 0) (p := is (.int (d % many))) (ev_var rfl) fun v H2 e2 hv => ?_
      have hv : v = .int (d % many) := hv
      subst hv
      refine q _ H2 (R.trans (src_ok hs hj (Nat.le_succ n) e1 hk0 (by omega)) ⟨?_, pres.ex (exR_ex e2)⟩) ⟨_, rfl, Int.emod_nonneg _ (by omega), Int.emod_lt_of_pos _ hm0⟩
      exact R.mono (src_ok (m := n) hs hj (Nat.le_succ n) e1 hk0 (by omega)).1 (exR_ex e2)
    · refine q_setX (v := .int (k + 1)) (j := 1) ha (ev_op2 (m := 0) (x := .int k) (y := .int 1) (ev_op2 (m := 0) (x := .ref a) (y := .int 1) (ev_var rfl) ev_c fun H1 e => rv_ixL ((sq ha).st e.2).sq (atI_ge (j := 1) rfl)) ev_c fun H1 _ => rv_addI) (ev_var rfl) ev_c (by simp) fun H1 e1 => ?_
      have okS : R.ok n H (upd H1 a (.lst [.int c, .int (k + 1), .int d])) := src_ok hs hj (Nat.le_succ n) e1 (by omega) (by omega)
      have hb1 : (upd H1 a (.lst [.int c, .int (k + 1), .int d])) a = some (.lst [.int c, .int (k + 1), .int d]) := upd_same
      show tSeq _ _ _ _ (upd H1 a (.lst [.int c, .int (k + 1), .int d]))
      generalize upd H1 a (.lst [.int c, .int (k + 1), .int d]) = B at okS hb1
      refine StF.run (R := exR) (n := 0) ?_ trivial
      -- the primes
      refine q_asg (m := 0) (p := lstG (· = primes8)) (ev_lstV (vs := primes8) (ea_cons ev_c (ea_cons ev_c (ea_cons ev_c (ea_cons ev_c (ea_cons ev_c (ea_cons ev_c (ea_cons ev_c (ea_cons ev_c ea_nil)))))))) (by decide)) fun pv H2 e2 hp => ?_
      have h2 : H2 a = some (.lst [.int c, .int (k + 1), .int d]) := exR_ex e2 _ _ hb1
      refine q_asgG (m := 0) (G := fun v => ∃ p : Int, v = .int p ∧ 2147483423 ≤ p ∧ p ≤ 2147483647) ?_ fun v hv => ?_
      · refine (ev_ixG (m := 0) (F := (· = primes8 ++ primes3)) (Gi := (· = .int ((k + 1) % 11))) (ev_catV (m := 0) (ev_varP rfl hp) (ev_lstV (vs := primes3) (ea_cons ev_c (ea_cons ev_c (ea_cons ev_c ea_nil))) (by decide)) (by decide)) ?_ ?_).imp fun w H3 _ hw => ?_
        · exact EvP.asG (ev_op2 (m := 0) (x := .int (k + 1)) (y := .int 11) (ev_intI (ev_op2 (m := 0) (x := .ref a) (y := .int 1) (ev_var rfl) ev_c fun H3 e => rv_ixL ((sq h2).st e.2).sq (atI_ge (j := 1) rfl))) ev_c fun H3 _ => rv_modI (by decide)) rfl
        · rintro xs v rfl rfl
          exact ⟨_, rfl, Int.emod_nonneg _ (by decide), Int.emod_lt_of_pos _ (by decide)⟩
        · obtain ⟨xs, rfl, hm⟩ := hw
          exact primes_in w hm
      · obtain ⟨p, rfl, hp0, hp1⟩ := hv
        have hc0 : 0 ≤ c % p := Int.emod_nonneg _ (by omega)
        have hc1 : c % p < p := Int.emod_lt_of_pos _ (by omega)
        refine q_asgV (m := 0) (v := .int (c % p + 7919 * (k + 1) + 1)) ?_ ?_
        · refine ev_op2 (m := 0) (x := .int (c % p + 7919 * (k + 1))) (y := .int 1) (ev_op2 (m := 0) (x := .int (c % p)) (y := .int (7919 * (k + 1))) (ev_op2 (m := 0) (x := .int c) (y := .int p) (ev_intI (ev_op2 (m := 0) (x := .ref a) (y := .int 0) (ev_var rfl) ev_c fun H3 e => rv_ixL ((sq h2).st e.2).sq (atI_ge (j := 0) rfl))) (ev_var rfl) fun H3 _ => rv_modI (by omega)) ?_ fun H3 _ => rv_addI) ev_c fun H3 _ => rv_addI
          exact ev_op2 (m := 0) (x := .int 7919) (y := .int (k + 1)) ev_c (ev_op2 (m := 0) (x := .ref a) (y := .int 1) (ev_var rfl) ev_c fun H3 e => rv_ixL ((sq h2).st e.2).sq (atI_ge (j := 1) rfl)) fun H3 _ => rv_mulI (.inl ⟨by decide, by decide⟩)
        · generalize hM : c % p + 7919 * (k + 1) + 1 = M
          have hM1 : M.natAbs < 2 ^ 64 := by
            have : (2 : Nat) ^ 64 = 18446744073709551616 := by decide
            rw [this]
            omega
          refine s_ret (m := 0) (p := is (.int (M ^ (5 : Int).toNat % p / 13 % many))) ?_ fun v H3 e3 hv => ?_
          · exact ev_op2 (m := 0) (x := .int (M ^ (5 : Int).toNat % p / 13)) (y := .int many) (ev_intI (ev_op2 (m := 0) (x := .int (M ^ (5 : Int).toNat % p)) (y := .int 13) (ev_op2 (m := 0) (x := .int (M ^ (5 : Int).toNat)) (y := .int p) (ev_intI (ev_op2 (m := 0) (x := .int M) (y := .int 5) (ev_var rfl) ev_c fun H3 _ => rv_powI ⟨by decide, by decide, hM1⟩)) (ev_var rfl) fun H3 _ => rv_modI (by omega)) ev_c fun H3 _ => rv_divI ⟨by decide, by decide⟩)) (ev_var rfl) fun H3 _ => rv_modI hm0
          · have hv : v = .int (M ^ (5 : Int).toNat % p / 13 % many) := hv
            subst hv
            have e := Evl.Ex.trans (exR_ex e2) (exR_ex e3)
            exact q _ H3 ⟨R.mono okS.1 e, okS.2.trans (pres.ex e)⟩ ⟨_, rfl, Int.emod_nonneg _ (by omega), Int.emod_lt_of_pos _ hm0⟩
/-! ### _law_pick -/
abbrev N_l_pick : List Str := ["_law_source_here", "_law_items"]
theorem sc_l_pick : FnScope N_l_pick ["_law_source_here", "_law_items"] (defScope s_l_pick) := ⟨rfl, rfl, rfl, by decide +kernel, rfl, by decide +kernel, by decide +kernel⟩
-- slots: 0 _law_source_here, 1 _law_items
def sp_l_pick : Sp := drawSp (fun _ => 1) (fun (x : Codes ⊕ List V) a M vs H => match x with
  | .inl l => vs = [.ref a, sv l] ∧ 0 < l.length ∧ l.length ≤ 100000
  | .inr xs => ∃ p, vs = [.ref a, .ref p] ∧ LtM M H p xs ∧ 0 < xs.length ∧ xs.length ≤ 100000) (fun x => match x with
  | .inl l => sat fun v => ∃ c, v = sv [c] ∧ c ∈ l
  | .inr xs => sat fun v => v ∈ xs)
theorem ev_next {R : Rel} {n m : Nat} {a : Addr} {σ : L2.St} {H : Hp} {ta tb : TE} {many : Int} (hs : HasSrc R a) (ha : EvP R n n ta σ H (is (.ref a))) (hb : EvP R n (m + 1) tb σ H (is (.int many))) (h0 : 0 < many) (h1 : many < 1073741824) : EvP R n m (tCall sp_l_next [] E0 (tCons ta (tCons tb tNil))) σ H (sat fun v => ∃ r, v = .int r ∧ 0 ≤ r ∧ r < many) :=
  ev_draw (cost := fun _ => 1) many hs (ea_cons ha (ea_cons hb ea_nil)) fun vs H1 e hv => by
    obtain ⟨v, w, rfl, hv, hw⟩ := two hv
    exact ⟨by rw [show v = _ from hv, show w = _ from hw], h0, h1⟩
theorem c_l_pick (T : Tx K mg) : Cal P w K mg base 2 "_law_pick" ["_law_source_here", "_law_items"] (sp_l_pick) := by
  have C_l_next := c_l_next (P := P) (w := w) (base := base) T
  refine T.d_l_pick.cal sc_l_pick (fun vs H Q E h => ?_) (fun _ _ _ _ _ _ us hl => match us, hl with | [_, _], _ => rfl) (fun f cdv A outer s H vs Q E hr h => ?_)
  · obtain ⟨R, a, n, x, _, _, h, _⟩ := h
    cases x with
    | inl l => rw [h.1]; rfl
    | inr xs => obtain ⟨p, e, _⟩ := h; rw [e]; rfl
  · obtain ⟨R, a, n, x, hs, hj, h, q⟩ := h
    refine ⟨_, (pss_one (ps_ret (pe_ix (ix_any (K := K)) (pv 1) (pe_callC C_l_next (hr.mono (by decide)) (by rfl) (pa_cons (pv 0) (pa_cons (pe_callB (call_lenA (K := K)) (by rfl) T.b_len (by decide +kernel) (pa_cons (pv 1) pa_nil)) pa_nil))) (fun _ _ => rfl)))), ?_⟩
    refine StF.run (R := R) (n := n + 1) ?_ hj
    cases x with
    | inl l =>
      obtain ⟨rfl, h0, h1⟩ := h
      exact s_ret (ev_ixSG (ev_var rfl) (ev_next hs (ev_var rfl) (ev_lenS (ev_var rfl) h1) (by omega) (by omega)) h1 fun v hv => hv) q
    | inr xs =>
      obtain ⟨p, rfl, hp, h0, h1⟩ := h
      refine s_ret ((ev_ixG (F := (· = xs)) (ev_varP (v := .ref p) rfl ⟨p, xs, rfl, hp, rfl⟩) (ev_next (many := (xs.length : Int)) hs (ev_var rfl) (ev_lenL (ev_var rfl) hp.sqm) (by omega) (by omega)) fun ys v e hv => by subst e; exact hv).imp fun v H1 _ hv => ?_) q
      obtain ⟨ys, rfl, hm⟩ := hv
      exact hm
theorem ev_pickS {R : Rel} {n m : Nat} {a : Addr} {σ : L2.St} {H : Hp} {ta tb : TE} {l : Codes} (hs : HasSrc R a) (ha : EvP R n n ta σ H (is (.ref a))) (hb : EvP R n (m + 1) tb σ H (is (sv l))) (h0 : 0 < l.length) (h1 : l.length ≤ 100000) : EvP R n m (tCall sp_l_pick [] E0 (tCons ta (tCons tb tNil))) σ H (sat fun v => ∃ c, v = sv [c] ∧ c ∈ l) :=
  ev_call (ea_cons ha (ea_cons hb ea_nil)) fun vs H1 e hv Q f => by
    obtain ⟨v, w, rfl, hv, hw⟩ := two hv
    exact ⟨R, a, m, .inl l, hs, e.1, ⟨by rw [show v = _ from hv, show w = _ from hw], h0, h1⟩, f⟩
theorem ev_pickL {R : Rel} {n m : Nat} {a : Addr} {σ : L2.St} {H : Hp} {ta tb : TE} {F : List V → Prop} (hs : HasSrc R a) (ha : EvP R n n ta σ H (is (.ref a))) (hb : EvP R n (m + 1) tb σ H (lstG F)) (h0 : ∀ xs, F xs → 0 < xs.length ∧ xs.length ≤ 100000) : EvP R n m (tCall sp_l_pick [] E0 (tCons ta (tCons tb tNil))) σ H (sat fun v => ∃ xs, F xs ∧ v ∈ xs) :=
  ev_call (ea_cons ha (ea_cons hb ea_nil)) fun vs H1 e hv Q f => by
    obtain ⟨v, w, rfl, hv1, p, xs, rfl, hp, g⟩ := two hv
    exact ⟨R, a, m, .inr xs, hs, e.1, ⟨p, by rw [show v = _ from hv1], hp, h0 xs g⟩, fun v H' e' h' => f v H' e' ⟨xs, g, h'⟩⟩
/-! ### _law_source -/
/-- the sources: a list of lists of three -/
def isSrc3 (xs : List V) : Prop := ∃ c k d : Int, xs = [.int c, .int k, .int d] ∧ 0 ≤ k ∧ k ≤ 300
abbrev N_l_source : List Str := ["_law_script", "_law_k", "_law_cell"]
theorem sc_l_source : FnScope N_l_source ["_law_script", "_law_k"] (defScope s_l_source) := ⟨rfl, rfl, rfl, by decide +kernel, rfl, by decide +kernel, by decide +kernel⟩
-- slots: 0 _law_script, 1 _law_k, 2 _law_cell
def sp_l_source : Sp := pureSp (fun (x : List Int × Nat) M vs H => ∃ l, vs = [.ref l, .int (x.2 : Int)] ∧ LtM M H l (x.1.map V.int) ∧ x.2 < x.1.length ∧ x.1.length ≤ 100) (fun x => lstG isSrc3)
theorem dpAll_ints {H : Hp} : ∀ ns : List Int, DpAll K H (ns.map V.int) (ns.map PyData.int)
  | [] => .nil
  | n :: ns => .cons (.int n) (dpAll_ints ns)
theorem shaped_ints (ns : List Int) : SeqAt.shaped (.list (ns.map PyData.int)) = true := by
  have h1 : ∀ ns : List Int, PyData.canLayAll0 (ns.map PyData.int) = true := by
    intro ns
    induction ns with
    | nil => rfl
    | cons n ns ih => exact ih
  have h2 : ∀ ns : List Int, PyData.depthAll (ns.map PyData.int) ≤ 1 := by
    intro ns
    induction ns with
    | nil => simp [PyData.depthAll]
    | cons n ns ih =>
      simp only [List.map_cons, PyData.depthAll, PyData.depth]
      omega
  unfold SeqAt.shaped
  rw [Bool.and_eq_true]
  refine ⟨h1 ns, decide_eq_true ?_⟩
  have := h2 ns
  simp only [PyData.depth]
  omega
theorem c_l_source (T : Tx K mg) : Cal P w K mg base 1 "_law_source" ["_law_script", "_law_k"] (sp_l_source) := by
  refine T.d_l_source.cal sc_l_source (fun vs H Q E h => ?_) (fun _ _ _ _ _ _ us hl => match us, hl with | [_, _], _ => rfl) (fun f cdv A outer s H vs Q E hr h => ?_)
  · obtain ⟨R, n, x, _, ⟨l, rfl, _⟩, _⟩ := h
    rfl
  · obtain ⟨R, n, ⟨ns, j⟩, hJ, ⟨l, rfl, hl, hj, hn⟩, q⟩ := h
    refine ⟨_, (pss_cons (ps_set (i := 2) sc_l_source.nd rfl (by first | exact Or.inl rfl | exact Or.inr rfl) (pe_ifExp (pt_cmpR (cm_NotEq (K := K) hr.units) (pv 0) (pe_lst pa_nil) (nomark _)) (pe_ix (ix_any (K := K)) (pv 0) (pe_op op_mod (pe_callTy call_intA (by rfl) T.b_int (by decide +kernel) (pa_cons (pv 1) pa_nil)) (pe_callB (call_lenA (K := K)) (by rfl) T.b_len (by decide +kernel) (pa_cons (pv 0) pa_nil))) (fun _ _ => rfl)) pe_int))
      (pss_one (ps_ret (pe_lst (pa_cons (pe_callTy call_intA (by rfl) T.b_int (by decide +kernel) (pa_cons (pv 2) pa_nil)) (pa_cons (pe_op op_Mult pe_int (pv 1)) (pa_cons (pe_ifExp (pt_cmpR cm_GtE (pv 2) (pe_op op_pow pe_int pe_int) (nomark _)) (pe_op op_FloorDiv (pe_callTy call_intA (by rfl) T.b_int (by decide +kernel) (pa_cons (pv 2) pa_nil)) (pe_op op_pow pe_int pe_int)) pe_int) pa_nil))))))), ?_⟩
    have hj : j < ns.length := hj
    have sq : SqM K R.M H l (ns.map V.int) := hl.sqm
    refine StF.run (R := R) (n := n) ?_ hJ
    obtain ⟨c, hc⟩ : ∃ c, ns[j]? = some c := ⟨_, List.getElem?_eq_getElem hj⟩
    have hjm : (j : Int) % (ns.length : Int) = (j : Int) := Int.emod_eq_of_lt (by omega) (by omega)
    refine q_asgV (m := n) (v := .int c) ?_ ?_
    · refine ev_ifB (m := n) (b := true) ?_ (fun _ => ?_) (fun z => nomatch z)
      · refine et_test (ev_op (m := n) (p := is (.ref l)) (q := lstG (· = [])) (ev_var rfl) (ev_lstV (vs := []) ea_nil (by decide)) fun x y H1 e hx hy => ?_)
        have hx : x = .ref l := hx
        subst hx
        obtain ⟨p, xs, rfl, hp, rfl⟩ := hy
        refine rv_now fun Q k => .inr ⟨.list (ns.map PyData.int), .list [], .lst (sq.st e.2).sq (dpAll_ints ns), .lst hp.sq .nil, shaped_ints ns, rfl, ?_⟩
        cases ns with
        | nil => exact absurd hj (Nat.not_lt_zero _)
        | cons => exact k
      · refine ev_op2 (m := n) (x := .ref l) (y := .int (j : Int)) (ev_var rfl) (ev_is (ev_op2 (m := n) (x := .int (j : Int)) (y := .int (ns.length : Int)) (ev_intI (ev_var rfl)) (ev_is (ev_lenL (ev_var rfl) sq) (by rw [List.length_map])) fun H1 _ => rv_modI (by omega)) (by rw [hjm])) fun H1 e => rv_ixL (sq.st e.2).sq (atI_ge (j := j) (by rw [List.getElem?_map, hc]; rfl))
    · have e18 : (10 : Int) ^ (18 : Int).toNat = 1000000000000000000 := by decide
      have p18 : ∀ {σ : L2.St} {H1 : Hp}, EvP R n n (tOp (rI CPow fun i j => V.int (i ^ j.toNat)) (tC (.int 10)) (tC (.int 18))) σ H1 (is (.int 1000000000000000000)) := ev_is (ev_op2 (m := n) (x := .int 10) (y := .int 18) ev_c ev_c fun H1 _ => rv_powI ⟨by decide, by decide, by decide⟩) (by rw [e18])
      refine s_ret (m := n) ((ev_lst (ps := [is (.int c), is (.int (3 * (j : Int))), sat fun v => ∃ d, v = .int d]) (ea_cons (ev_intI (ev_var rfl)) (ea_cons (ev_op2 (m := n) (x := .int 3) (y := .int (j : Int)) ev_c (ev_var rfl) fun H1 _ => rv_mulI (.inl ⟨by decide, by decide⟩)) (ea_cons ?_ ea_nil))) (by simp)).imp fun v H1 _ hv => ?_) q
      · refine ev_ifB (m := n) (b := decide ((1000000000000000000 : Int) ≤ c)) (et_test (ev_op2 (m := n) (ev_var rfl) p18 fun H1 _ => rv_geI)) (fun _ => ?_) (fun _ => EvP.asG ev_c ⟨_, rfl⟩)
        exact EvP.asG (v := .int (c / 1000000000000000000)) (ev_op2 (m := n) (x := .int c) (y := .int 1000000000000000000) (ev_intI (ev_var rfl)) p18 fun H1 _ => rv_divW ⟨by decide, by decide⟩) ⟨_, rfl⟩
      · obtain ⟨p, xs, rfl, hp, h⟩ := hv
        obtain ⟨v1, v2, v3, rfl, h1, h2, d, h3⟩ := three h
        exact ⟨p, _, rfl, hp, c, 3 * (j : Int), d, by rw [show v1 = _ from h1, show v2 = _ from h2, h3], by omega, by omega⟩
/-! ### _law_rounds -/
abbrev N_l_rounds : List Str := ["_law_script", "_law_most", "_law_blend", "_law_cells", "_law_k"]
theorem sc_l_rounds : FnScope N_l_rounds ["_law_script", "_law_most"] (defScope s_l_rounds) := ⟨rfl, rfl, rfl, by decide +kernel, rfl, by decide +kernel, by decide +kernel⟩
-- slots: 0 _law_script, 1 _law_most, 2 _law_blend, 3 _law_cells, 4 _law_k
def sp_l_rounds (K : PySem.W.Frag) : Sp := pureSp (fun (x : List Int × Nat) M vs H => ∃ l, vs = [.ref l, .int (x.2 : Int)] ∧ SqM K M H l (x.1.map V.int) ∧ x.1.length ≤ 63 ∧ x.2 ≤ 30) (fun x => SP.ex fun m : { m : Nat // m ≤ 64 } => lstP (fun _ : Nat => lstG isSrc3) (List.range m.1))
theorem cut_ints (ns : List Int) (j : Nat) : cutV (ns.map V.int) none (some (j : Int)) = (ns.take j).map V.int := by
  unfold cutV
  rw [HT.sIx_none, show HT.sIx (ns.map V.int).length (ns.map V.int).length (some (j : Int)) = min j (ns.map V.int).length from HT.sIx_nat _ _ j, List.drop_zero, Nat.sub_zero, List.length_map, List.map_take]
  by_cases h : j ≤ ns.length
  · rw [Nat.min_eq_left h]
  · rw [Nat.min_eq_right (by omega), List.take_of_length_le (by rw [List.length_map]; exact Nat.le_refl _), List.take_of_length_le (by rw [List.length_map]; omega)]
theorem c_l_rounds (T : Tx K mg) : Cal P w K mg base 2 "_law_rounds" ["_law_script", "_law_most"] (sp_l_rounds K) := by
  have C_l_source := c_l_source (P := P) (w := w) (base := base) T
  refine T.d_l_rounds.cal sc_l_rounds (fun vs H Q E h => ?_) (fun _ _ _ _ _ _ us hl => match us, hl with | [_, _], _ => rfl) (fun f cdv A outer s H vs Q E hr h => ?_)
  · obtain ⟨R, n, x, _, ⟨l, rfl, _⟩, _⟩ := h
    rfl
  · obtain ⟨R, n, ⟨ns, j⟩, hJ, ⟨l, rfl, sq, hn, hj⟩, q⟩ := h
    refine ⟨_, (pss_cons (ps_set (i := 2) sc_l_rounds.nd rfl (by first | exact Or.inl rfl | exact Or.inr rfl) (pe_op op_mod (pe_callTy call_intA (by rfl) T.b_int (by decide +kernel) (pa_cons (pe_op (op_Add (K := K)) (pe_op (op_Add (K := K)) (pe_op op_Mult (pe_callB (call_sumA (K := K)) (by rfl) T.b_sum (by decide +kernel) (pa_cons (pv 0) pa_nil)) pe_int) (pe_op op_Mult pe_int (pe_callB (call_lenA (K := K)) (by rfl) T.b_len (by decide +kernel) (pa_cons (pv 0) pa_nil)))) pe_int) pa_nil)) (pe_op op_pow pe_int pe_int)))
      (pss_cons (ps_set (i := 3) sc_l_rounds.nd rfl (by first | exact Or.inl rfl | exact Or.inr rfl) (pe_op (op_Add (K := K)) (pe_callTy (call_listA (K := K)) (by rfl) T.b_list (by decide +kernel) (pa_cons (pe_slice (sl_any (K := K)) (pv 0) po_none (po_some (pv 1))) pa_nil)) (pe_lst (pa_cons (pv 2) pa_nil))))
      (pss_one (ps_ret (pe_lc (own := [("_law_k", 4)]) (by rfl) sc_l_rounds.nd (pi_range1 (by rfl) T.b_range (pa_cons (pe_callB (call_lenA (K := K)) (by rfl) T.b_len (by decide +kernel) (pa_cons (pv 3) pa_nil)) pa_nil)) (blkOk_by (own := [("_law_k", 4)]) (N := N_l_rounds) (sc := defScope s_l_rounds) (by decide +kernel)) (fun _ _ _ _ _ => (pg_name (i := 4) sc_l_rounds.nd rfl (by first | exact Or.inl rfl | exact Or.inr rfl))) (fun _ _ _ _ _ => pts_nil) (fun _ _ _ _ _ => (pe_callC C_l_source (hr.mono (by decide)) (by rfl) (pa_cons (pv 3) (pa_cons (pv 4) pa_nil))))))))), ?_⟩
    refine StF.run (R := R) (n := n) ?_ hJ
    have e17 : (10 : Int) ^ (17 : Int).toNat = 100000000000000000 := by decide
    refine q_asgV (m := n) (v := .int ((ns.sum * 48271 + 104729 * (ns.length : Int) + 17) % 100000000000000000)) ?_ ?_
    · refine ev_op2 (m := n) (x := .int (ns.sum * 48271 + 104729 * (ns.length : Int) + 17)) (y := .int 100000000000000000) (ev_intI (ev_op2 (m := n) (x := .int (ns.sum * 48271 + 104729 * (ns.length : Int))) (y := .int 17) (ev_op2 (m := n) (x := .int (ns.sum * 48271)) (y := .int (104729 * (ns.length : Int))) ?_ ?_ fun H1 _ => rv_addI) ev_c fun H1 _ => rv_addI)) (ev_is (ev_op2 (m := n) (x := .int 10) (y := .int 17) ev_c ev_c fun H1 _ => rv_powI ⟨by decide, by decide, by decide⟩) (by rw [e17])) fun H1 _ => rv_modI (by decide)
      · refine ev_op2 (m := n) (x := .int ns.sum) (y := .int 48271) ?_ ev_c fun H1 _ => rv_mulI (.inr ⟨by decide, by decide⟩)
        refine ev_cb (ea_cons (p := is (.ref l)) (ev_var rfl) ea_nil) fun vs H1 e hv => ?_
        obtain ⟨v, rfl, h⟩ := one hv
        have h : v = .ref l := h
        subst h
        exact rc_now fun _ k => ⟨l, ns, rfl, (sq.st e.2).sq, k⟩
      · exact ev_op2 (m := n) (x := .int 104729) (y := .int (ns.length : Int)) ev_c (ev_is (ev_lenL (ev_var rfl) sq) (by rw [List.length_map])) fun H1 _ => rv_mulI (.inl ⟨by decide, by decide⟩)
    · generalize (ns.sum * 48271 + 104729 * (ns.length : Int) + 17) % 100000000000000000 = bl
      refine q_asg (m := n) (p := lstG (· = (ns.take j ++ [bl]).map V.int)) ?_ fun cv H1 e1 hc => ?_
      · refine ev_is2 (ev_catV (m := n) (xs := (ns.take j).map V.int) (ys := [.int bl]) ?_ (ev_lstV (vs := [.int bl]) (ea_cons (ev_var rfl) ea_nil) (by simp)) (by simp; omega)) (by rw [List.map_append]; rfl)
        refine ev_cb (ea_cons (p := lstG (· = (ns.take j).map V.int)) ?_ ea_nil) fun vs H1 e hv => ?_
        · refine ev_sl (m := n) (k := n) (lo := none) (hi := some (j : Int)) (p := is (.ref l)) (ev_var rfl) eo_none (eo_some (ev_var rfl)) fun x H1 e hx => ?_
          have hx : x = .ref l := hx
          subst hx
          exact fun _ jj Q k => .inr ⟨l, _, rfl, (sq.st e.2).sq, fun p hp => k _ _ (R.new jj hp) ⟨p, _, rfl, ⟨upd_same, R.fresh jj hp⟩, cut_ints ns j⟩⟩
        · obtain ⟨v, rfl, p, xs, rfl, hp, rfl⟩ := one hv
          exact fun _ jj Q k => ⟨p, _, rfl, .inl hp.sq, fun p2 hp2 => k _ _ (R.new jj hp2) ⟨p2, _, rfl, ⟨upd_same, R.fresh jj hp2⟩, rfl⟩⟩
      · obtain ⟨cl, xs, rfl, hcl, rfl⟩ := hc
        have hlen : (ns.take j ++ [bl]).length ≤ 64 := by simp; omega
        refine s_ret (m := n) (p := SP.ex fun m : { m : Nat // m ≤ 64 } => lstP (fun _ : Nat => lstG isSrc3) (List.range m.1)) ((ev_lcP (m := n) (as := List.range (ns.take j ++ [bl]).length) (mv := fun (i : Nat) => .int (i : Int)) 0 (fun _ : Nat => lstG isSrc3) ?_ (by rw [List.length_range]; omega) (fun x => rfl) fun R' H' i k ex hi => ?_).imp fun v H2 _ hv => ⟨⟨_, hlen⟩, hv⟩) ?_
        · have h := it_range1 (R := R) (n := n) (m := n) (σ := [some (.ref l), some (.int (j : Int)), some (.int bl), some (.ref cl), none]) (H := H1) (ta := tCB (rLenU K) (tCons (tVar 3) tNil)) (iv := ((ns.take j ++ [bl]).length : Int)) (ev_is (ev_lenL (ev_var rfl) hcl.sqm) (by rw [List.length_map])) (by omega)
          rw [Int.toNat_natCast] at h
          exact h
        · refine ev_call (m := k) (ea_cons (m := k) (p := lstG (· = (ns.take j ++ [bl]).map V.int)) (ev_varP (v := .ref cl) rfl ?_) (ea_cons (p := is (.int (i : Int))) (ev_var rfl) ea_nil)) fun vs H2 e hv Q f => ?_
          · exact ex.get (p := lstG (· = (ns.take j ++ [bl]).map V.int)) ⟨cl, _, rfl, hcl, rfl⟩
          · obtain ⟨v1, v2, rfl, ⟨p, xs, rfl, hp, rfl⟩, h2⟩ := two hv
            have h2 : v2 = .int (i : Int) := h2
            subst h2
            exact ⟨R', k, (ns.take j ++ [bl], i), e.1, ⟨p, rfl, hp, List.mem_range.mp hi, by show (ns.take j ++ [bl]).length ≤ 100; omega⟩, f⟩
        · exact fun v H2 e2 hv => q v H2 (R.trans e1 e2) hv

end
end My
namespace My
open PySem PySem.Spec PyProof.Rows L2
-- plain
/-! texts: strip, find of one sign -/
def stripL (a b : Codes) : Codes := cs (Txt.stripChars (SX.S a) (SX.S b))
theorem tw_all {p : Nat → Bool} : ∀ {l : Codes}, (∀ c ∈ l, p c = true) → l.takeWhile p = l
  | [], _ => rfl
  | c :: r, h => by rw [List.takeWhile_cons, if_pos (h c (List.mem_cons_self ..)), tw_all fun x hx => h x (List.mem_cons_of_mem _ hx)]
theorem tw_lt {p : Nat → Bool} : ∀ {l : Codes}, (∃ c ∈ l, p c = false) → (l.takeWhile p).length < l.length
  | [], h => by obtain ⟨c, hc, _⟩ := h; cases hc
  | c :: r, h => by
    rw [List.takeWhile_cons]
    by_cases hp : p c = true
    · rw [if_pos hp]
      obtain ⟨d, hd, hd2⟩ := h
      rcases List.mem_cons.mp hd with e | e
      · rw [e, hp] at hd2; cases hd2
      · have := tw_lt ⟨d, e, hd2⟩
        simp only [List.length_cons]
        omega
    · rw [if_neg hp]
      simp
theorem tw_next {p : Nat → Bool} : ∀ {l : Codes}, (∃ c ∈ l, p c = false) → ∃ d r, l.drop (l.takeWhile p).length = d :: r ∧ p d = false
  | [], h => by obtain ⟨c, hc, _⟩ := h; cases hc
  | c :: r, h => by
    rw [List.takeWhile_cons]
    by_cases hp : p c = true
    · rw [if_pos hp]
      obtain ⟨d, hd, hd2⟩ := h
      rcases List.mem_cons.mp hd with e | e
      · rw [e, hp] at hd2; cases hd2
      · exact tw_next ⟨d, e, hd2⟩
    · rw [if_neg hp]
      exact ⟨c, r, rfl, Bool.eq_false_iff.mpr hp⟩
theorem stripL_eq (a b : Codes) : stripL a b = (a.drop (a.takeWhile fun c => b.contains c).length).take ((a.length - ((a.drop (a.takeWhile fun c => b.contains c).length).reverse.takeWhile fun c => b.contains c).length) - (a.takeWhile fun c => b.contains c).length) := by
  unfold stripL Txt.stripChars
  rw [PyProof.Rows.stripBy_eq]
  have hc : (SX.S b).cps.contains = fun c => b.contains c := by
    funext c
    show (b.toArray).contains c = _
    rw [List.contains_toArray]
  rw [hc]
  refine (TL.tl_strSub _ _ _).trans ?_
  have hl : (SX.S a).length = a.length := SX.S_len a
  simp only [stripLo, stripHi, hl, if_true]
theorem strip_nil {a b : Codes} : stripL a b = [] ↔ ∀ c ∈ a, c ∈ b := by
  rw [stripL_eq]
  constructor
  · intro h c hc
    refine Classical.byContradiction fun hn => ?_
    have hx : ∃ c ∈ a, (b.contains c) = false := ⟨c, hc, by
      cases e : b.contains c with
      | false => rfl
      | true => exact absurd (List.contains_iff_mem.mp e) hn⟩
    obtain ⟨d, r, hd, hd2⟩ := tw_next (p := fun c => b.contains c) hx
    have hlt := tw_lt (p := fun c => b.contains c) hx
    have h3 : ((a.drop (a.takeWhile fun c => b.contains c).length).reverse.takeWhile fun c => b.contains c).length < (a.drop (a.takeWhile fun c => b.contains c).length).reverse.length := tw_lt ⟨d, by rw [hd]; simp, hd2⟩
    rw [List.length_reverse, List.length_drop] at h3
    have := congrArg List.length h
    rw [List.length_take, List.length_drop, List.length_nil] at this
    omega
  · intro h
    have e : a.takeWhile (fun c => b.contains c) = a := tw_all fun c hc => List.contains_iff_mem.mpr (h c hc)
    rw [e, List.drop_length, List.take_nil]
/-- the place of one sign in a text of the row's own: by looking -/
def findL (a b : Codes) : Int := Txt.find (SX.S a) (SX.S b)

end My
namespace My
open PySem PySem.Spec PyProof.Rows L2
section
variable {P : Program} {w : World} {K : PySem.W.Frag} {mg : Str → Option Value} {base : Heap}
/-! ### _law_string -/
/-- printable signs without the percent sign; a text of such signs -/
def prn (l : Codes) : Prop := ∀ c ∈ l, 32 ≤ c ∧ c < 127
/-- not only spaces -/
def inky (l : Codes) : Prop := ∃ c ∈ l, c ≠ 32
theorem prn_asc {l : Codes} (h : prn l) : asc l := by
  unfold asc
  rw [List.all_eq_true]
  intro c hc
  have := (h c hc).2
  exact decide_eq_true (by omega)
theorem prn_app {a b : Codes} (ha : prn a) (hb : prn b) : prn (a ++ b) := fun c hc => (List.mem_append.mp hc).elim (ha c) (hb c)
theorem prn_sub {a b : Codes} (h : ∀ c ∈ a, c ∈ b) (hb : prn b) : prn a := fun c hc => hb c (h c hc)
theorem prn_take {a : Codes} {i : Nat} (h : prn a) : prn (a.take i) := prn_sub (fun _ hc => List.mem_of_mem_take hc) h
theorem prn_drop {a : Codes} {i : Nat} (h : prn a) : prn (a.drop i) := prn_sub (fun _ hc => List.mem_of_mem_drop hc) h
abbrev N_l_string : List Str := ["_law_source_here", "_law_most", "_law_signs", "_law_more", "_law_way", "_law_found", "_law_turn", "_law_at"]
theorem sc_l_string : FnScope N_l_string ["_law_source_here", "_law_most"] (defScope s_l_string) := ⟨rfl, rfl, rfl, by decide +kernel, rfl, by decide +kernel, by decide +kernel⟩
-- slots: 0 _law_source_here, 1 _law_most, 2 _law_signs, 3 _law_more, 4 _law_way, 5 _law_found, 6 _law_turn, 7 _law_at
def sp_l_string : Sp := drawSp (fun (most : Nat) => most + 3) (fun most a _ vs _ => vs = [.ref a, .int (most : Int)] ∧ 0 < most ∧ most ≤ 10000) (fun most => tx fun s => prn s ∧ inky s ∧ 0 < s.length ∧ s.length ≤ most)
def signsL : Codes := [97, 97, 98, 32, 32, 65, 66, 44, 43, 61, 92]
def moreL : Codes := cs " !\"#$&'()*+,-./0123456789:;<=>?@ABCDEFGHIJKLMNOPQRSTUVWXYZ[\\]^_`abcdefghijklmnopqrstuvwxyz{|}~"
theorem signs_prn : ∀ c ∈ signsL, 32 ≤ c ∧ c < 127 := by decide
theorem more_prn : ∀ c ∈ moreL, 32 ≤ c ∧ c < 127 := by decide +kernel
theorem more_len : 0 < moreL.length ∧ moreL.length ≤ 100000 := by decide +kernel
theorem c_l_string (T : Tx K mg) : Cal P w K mg base 3 "_law_string" ["_law_source_here", "_law_most"] (sp_l_string) := by
  have C_l_next := c_l_next (P := P) (w := w) (base := base) T
  have C_l_pick := c_l_pick (P := P) (w := w) (base := base) T
  refine T.d_l_string.cal sc_l_string (fun vs H Q E h => ?_) (fun _ _ _ _ _ _ us hl => match us, hl with | [_, _], _ => rfl) (fun f cdv A outer s H vs Q E hr h => ?_)
  · obtain ⟨R, a, n, x, _, _, ⟨rfl, _⟩, _⟩ := h
    rfl
  · obtain ⟨R, a, n, most, hs, hj, ⟨rfl, h0, h1⟩, q⟩ := h
    refine ⟨_, (pss_cons (ps_set (i := 2) sc_l_string.nd rfl (by first | exact Or.inl rfl | exact Or.inr rfl) (pe_op (op_Add (K := K)) pe_str pe_str))
      (pss_cons (ps_set (i := 3) sc_l_string.nd rfl (by first | exact Or.inl rfl | exact Or.inr rfl) pe_str)
      (pss_cons (ps_par (i := 4) (j := 5) (by rfl) sc_l_string.nd rfl rfl (by decide) rfl rfl (pa_cons (pe_callC C_l_next (hr.mono (by decide)) (by rfl) (pa_cons (pv 0) (pa_cons pe_int pa_nil))) (pa_cons pe_str pa_nil)) (by rfl))
      (pss_cons (ps_for PassesOwn.never rfl (pi_range1 (by rfl) T.b_range (pa_cons (pe_op (op_Add (K := K)) pe_int (pe_callC C_l_next (hr.mono (by decide)) (by rfl) (pa_cons (pv 0) (pa_cons (pv 1) pa_nil)))) pa_nil)) (pg_name (i := 6) sc_l_string.nd rfl (by first | exact Or.inl rfl | exact Or.inr rfl))
      (pss_one (ps_set (i := 5) sc_l_string.nd rfl (by first | exact Or.inl rfl | exact Or.inr rfl) (pe_op (op_Add (K := K)) (pv 5) (pe_callC C_l_pick (hr.mono (by decide)) (by rfl) (pa_cons (pv 0) (pa_cons (pe_ifExp (pt_cmpR cm_Gt (pv 4) pe_int (nomark _)) (pv 2) (pv 3)) pa_nil)))))))
      (pss_cons (ps_set (i := 7) sc_l_string.nd rfl (by first | exact Or.inl rfl | exact Or.inr rfl) (pe_callC C_l_next (hr.mono (by decide)) (by rfl) (pa_cons (pv 0) (pa_cons (pe_callB (call_lenA (K := K)) (by rfl) T.b_len (by decide +kernel) (pa_cons (pv 5) pa_nil)) pa_nil))))
      (pss_one (ps_ret (pe_ifExp (pt_cmpR (cm_NotEq (K := K) hr.units) (pe_bmK (K := K) PySem.F.plainAttrs_str PySem.F.slot_str_strip PySem.F.type_str_strip mt_stripA (pv 5) (pa_cons pe_str pa_nil)) pe_str (nomark _)) (pv 5) (pe_op (op_Add (K := K)) (pe_op (op_Add (K := K)) (pe_slice (sl_any (K := K)) (pv 5) po_none (po_some (pv 7))) pe_str) (pe_slice (sl_any (K := K)) (pv 5) (po_some (pe_op (op_Add (K := K)) (pv 7) pe_int)) po_none)))))))))), ?_⟩
    have hj : R.J (n + 3 + most) H := by
      have e : n + 3 + most = n + (most + 3) := by omega
      rw [e]
      exact hj
    refine StF.run (R := R) (n := n + 3 + most) ?_ hj
    -- the two menus
    refine q_asgV (m := n + 3 + most) (v := sv signsL) (ev_is (ev_op2 (m := n + 3 + most) (x := sv [97, 97, 98, 32, 32, 65, 66, 44, 43, 61]) (y := sv [92]) (ev_str (by decide +kernel)) (ev_str (by decide +kernel)) fun H1 _ => rv_addS (by decide)) rfl) ?_
    refine q_asgV (m := n + 3 + most) (v := sv moreL) (ev_str (SX.S_tl _).symm) ?_
    -- the way
    refine q_parG (m := n + 2 + most) (F := fun v => ∃ i, v = .int i ∧ True) (G := fun v => ∃ s, v = sv s ∧ s = []) (ea_cons (m := n + 2 + most) ((ev_next (m := n + 2 + most) hs (ev_var rfl) (by rw [show n + 3 + most = n + 2 + most + 1 by omega]; exact ev_c) (by decide) (by decide)).ntImp fun _ _ => trivial) (ea_cons (EvP.tx (ev_str (l := []) (by decide +kernel)) rfl) ea_nil)) fun wv fv hw hf => ?_
    obtain ⟨way, rfl, _⟩ := hw
    obtain ⟨f0, rfl, rfl⟩ := hf
    -- the loop
    refine forq_bindR (m := n + 1 + most) (p := nt fun i => 1 ≤ i ∧ i ≤ (most : Int)) ?_ fun v H1 e1 hv => ?_
    · refine (ev_addN (m := n + 2 + most) (EvP.nt (F := (· = 1)) ev_c rfl) ((ev_next (m := n + 1 + most) (many := (most : Int)) hs (ev_var rfl) (by rw [show n + 2 + most = n + 1 + most + 1 by omega]; exact ev_var rfl) (by omega) (by omega)))).ntImp fun i hi => ?_
      obtain ⟨x, y, rfl, ⟨hy0, hy1⟩, rfl⟩ := hi
      omega
    · obtain ⟨cnt, rfl, hc0, hc1⟩ := hv
      have hR := it_range1 (R := R) (n := n + 1 + most) (m := n + 1 + most) (σ := [some (.ref a), some (.int (most : Int)), some (sv signsL), some (sv moreL), some (.int way), some (sv []), none, none]) (H := H1) (ta := tC (.int cnt)) (iv := cnt) ev_c (by omega)
      have hR2 : ItP R (n + 1 + most) (n + 1 + (most - 0)) (iRng1 (tCons (tC (.int cnt)) tNil)) [some (.ref a), some (.int (most : Int)), some (sv signsL), some (sv moreL), some (.int way), some (sv []), none, none] H1 (((List.range cnt.toNat).map fun (i : Nat) => V.int (i : Int)).map is) := by
        rw [List.map_map, Nat.sub_zero]
        exact hR
      refine q_forC (fun i => n + 1 + (most - i)) hR2 (fun i σ' => ∃ s y, σ' = [some (.ref a), some (.int (most : Int)), some (sv signsL), some (sv moreL), some (.int way), some (sv s), y, none] ∧ prn s ∧ s.length = i) ⟨[], none, rfl, (by intro c hc; cases hc), rfl⟩ (fun B i w σ' eb hw hI => ?_) fun σ' hI => ?_
      · -- a turn
        obtain ⟨s, y, rfl, hp, hl⟩ := hI
        have hi : i < cnt.toNat := by
          have := (List.getElem?_eq_some_iff.mp hw).1
          rw [List.length_map, List.length_range] at this
          exact this
        have hcr : n + 1 + (most - i) = n + 1 + (most - (i + 1)) + 1 := by omega
        refine s_asgG (m := n + 1 + (most - (i + 1))) (G := fun v => ∃ u, v = sv u ∧ prn u ∧ u.length = i + 1) ?_ fun v hv H2 e2 => ⟨e2, ?_⟩
        · refine (ev_addT (m := n + 1 + (most - i)) (F := (· = s)) (G := fun u => prn u ∧ u.length = 1) (EvP.tx (ev_var rfl) rfl) ?_ (fun x y hx hy => by subst hx; omega)).txImp fun u hu => ?_
          · have hout : ∀ (l : Codes), prn l → ∀ v : V, (∃ c, v = sv [c] ∧ c ∈ l) → ∃ u, v = sv u ∧ prn u ∧ u.length = 1 := fun l hl v hv => by
              obtain ⟨c, rfl, hc⟩ := hv
              exact ⟨[c], rfl, fun d hd => by rw [List.mem_singleton.mp hd]; exact hl c hc, rfl⟩
            by_cases hway : 0 < way
            · refine (ev_pickS (m := n + 1 + (most - (i + 1))) (l := signsL) hs (ev_var (v := .ref a) rfl) ?_ (by decide) (by decide)).imp fun v H3 _ hv => hout signsL signs_prn v hv
              rw [← hcr]
              exact ev_ifB (m := n + 1 + (most - i)) (b := true) (et_is (et_test (ev_op2 (ev_var rfl) ev_c fun H3 _ => rv_gtI)) (decide_eq_true hway)) (fun _ => ev_var rfl) (fun z => nomatch z)
            · refine (ev_pickS (m := n + 1 + (most - (i + 1))) (l := moreL) hs (ev_var (v := .ref a) rfl) ?_ more_len.1 more_len.2).imp fun v H3 _ hv => hout moreL more_prn v hv
              rw [← hcr]
              exact ev_ifB (m := n + 1 + (most - i)) (b := false) (et_is (et_test (ev_op2 (ev_var rfl) ev_c fun H3 _ => rv_gtI)) (decide_eq_false hway)) (fun z => nomatch z) (fun _ => ev_var rfl)
          · obtain ⟨x, z, rfl, ⟨hz1, hz2⟩, rfl⟩ := hu
            exact ⟨prn_app hp hz1, by rw [List.length_append]; omega⟩
        · obtain ⟨u, rfl, hu1, hu2⟩ := hv
          exact ⟨u, some w, rfl, hu1, hu2⟩
      · -- behind the loop
        obtain ⟨s, y, rfl, hp, hl⟩ := hI
        rw [List.length_map, List.length_range] at hl
        have hl1 : 0 < s.length := by omega
        have hl2 : s.length ≤ most := by omega
        refine StF.more (n := n + 1) ?_ (by omega)
        refine q_asgG (m := n) (G := fun v => ∃ i, v = .int i ∧ 0 ≤ i ∧ i < (s.length : Int)) (ev_next hs (ev_var rfl) (ev_lenS (ev_var rfl) (by omega)) (by omega) (by omega)) fun v hv => ?_
        obtain ⟨at_, rfl, ha0, ha1⟩ := hv
        refine s_ret (m := n) (p := tx fun s => prn s ∧ inky s ∧ 0 < s.length ∧ s.length ≤ most) ?_ fun v H2 e2 hv => q v H2 (R.trans e1 e2) hv
        refine ev_ifB (m := n) (b := !decide (stripL s [32] = [])) (et_test (ev_op2 (m := n) (x := sv (stripL s [32])) (y := sv []) (ev_strip0 (ev_var rfl) (ev_str (l := [32]) (by decide +kernel)) rfl (by omega)) (ev_str (by decide +kernel)) fun H3 _ => rv_neS)) (fun hb => ?_) (fun hb => ?_)
        · refine EvP.tx (ev_var rfl) ⟨hp, ?_, hl1, hl2⟩
          have hn : ¬ stripL s [32] = [] := by
            intro z
            rw [decide_eq_true z] at hb
            cases hb
          refine Classical.byContradiction fun hz => hn (strip_nil.mpr fun c hc => ?_)
          refine List.mem_singleton.mpr (Classical.byContradiction fun h3 => hz ⟨c, hc, h3⟩)
        · have e1 : sl s none (some at_) = s.take at_.toNat := sl_to ha0
          have e2 : sl s (some (at_ + 1)) none = s.drop (at_ + 1).toNat := sl_from (by omega)
          refine EvP.tx (a := s.take at_.toNat ++ [120] ++ s.drop (at_ + 1).toNat) ?_ ⟨prn_app (prn_app (prn_take hp) (by intro c hc; rw [List.mem_singleton.mp hc]; decide)) (prn_drop hp), ⟨120, by simp, by decide⟩, by simp only [List.length_append, List.length_singleton]; omega, by simp only [List.length_append, List.length_take, List.length_drop, List.length_singleton]; omega⟩
          refine ev_op2 (m := n) (x := sv (s.take at_.toNat ++ [120])) (y := sv (s.drop (at_ + 1).toNat)) (ev_op2 (m := n) (x := sv (s.take at_.toNat)) (y := sv [120]) (ev_is (ev_sl (m := n) (k := n) (p := is (sv s)) (ev_var rfl) eo_none (eo_some (ev_var rfl)) fun x H3 _ hx => by rw [show x = sv s from hx]; exact rs_S (by omega)) (by rw [e1])) (ev_str (by decide +kernel)) fun H3 _ => rv_addS (by simp; omega)) ?_ fun H3 _ => rv_addS (by simp; omega)
          exact ev_is (ev_sl (m := n) (k := n) (p := is (sv s)) (ev_var rfl) (eo_some (ev_op2 (m := n) (ev_var rfl) ev_c fun H3 _ => rv_addI)) eo_none fun x H3 _ hx => by rw [show x = sv s from hx]; exact rs_S (by omega)) (by rw [e2])

end
end My
namespace My
open PySem PySem.Spec PyProof.Rows L2
-- plain
/-! numbers by their digits -/
def dig (l : Codes) : Prop := ∀ c ∈ l, 48 ≤ c ∧ c ≤ 57
def dval (l : Codes) : Nat := NumText.digitsVal l
/-- digits without a needless nought ahead -/
def num0 (l : Codes) : Prop := dig l ∧ l ≠ [] ∧ (l = [48] ∨ l.head? ≠ some 48)
/-- a whole number's text: nought, or digits perhaps behind a minus -/
def isNum (s : Codes) : Prop := (num0 s ∨ ∃ d, s = 45 :: d ∧ num0 d ∧ d ≠ [48]) ∧ s.length ≤ 600
def nval (s : Codes) : Int := match s with
  | 45 :: d => -((dval d : Nat) : Int)
  | _ => ((dval s : Nat) : Int)
theorem dval_foldl (l : Codes) (a : Nat) : l.foldl (fun acc c => acc * 10 + (c - 48)) a = a * 10 ^ l.length + l.foldl (fun acc c => acc * 10 + (c - 48)) 0 := by
  induction l generalizing a with
  | nil => simp
  | cons c r ih =>
    rw [List.foldl_cons, List.foldl_cons, ih, ih (0 * 10 + (c - 48)), List.length_cons, Nat.pow_succ]
    have : (a * 10 + (c - 48)) * 10 ^ r.length = a * (10 ^ r.length * 10) + (0 * 10 + (c - 48)) * 10 ^ r.length := by
      rw [Nat.add_mul, Nat.zero_mul, Nat.zero_add, Nat.mul_assoc, Nat.mul_comm 10]
    omega
theorem dval_nil : dval [] = 0 := rfl
theorem dval_cons (c : Nat) (r : Codes) : dval (c :: r) = (c - 48) * 10 ^ r.length + dval r := by
  have h := dval_foldl r (0 * 10 + (c - 48))
  have e : dval (c :: r) = r.foldl (fun acc c => acc * 10 + (c - 48)) (0 * 10 + (c - 48)) := rfl
  rw [e, h]
  show (0 * 10 + (c - 48)) * 10 ^ r.length + dval r = _
  rw [Nat.zero_mul, Nat.zero_add]
theorem dval_lt : ∀ {l : Codes}, dig l → dval l < 10 ^ l.length
  | [], _ => by simp [dval_nil]
  | c :: r, h => by
    have h1 := dval_lt (l := r) fun x hx => h x (List.mem_cons_of_mem _ hx)
    have h2 := h c (List.mem_cons_self ..)
    rw [dval_cons, List.length_cons, Nat.pow_succ]
    have h3 : (c - 48) * 10 ^ r.length ≤ 9 * 10 ^ r.length := Nat.mul_le_mul_right _ (by omega)
    omega
theorem dval_ge {c : Nat} {r : Codes} (h : 49 ≤ c) : 10 ^ r.length ≤ dval (c :: r) := by
  rw [dval_cons]
  have h3 : 1 * 10 ^ r.length ≤ (c - 48) * 10 ^ r.length := Nat.mul_le_mul_right _ (by omega)
  omega
/-- of one length: as Python orders strings -/
theorem lex_val : ∀ {a b : Codes}, dig a → dig b → a.length = b.length → (a < b ↔ dval a < dval b)
  | [], [], _, _, _ => by
    constructor
    · intro h; exact absurd h (List.lt_irrefl _)
    · intro h; exact absurd h (Nat.lt_irrefl _)
  | c :: r, d :: t, ha, hb, hl => by
    have hl2 : r.length = t.length := by simpa using hl
    have har : dig r := fun x hx => ha x (List.mem_cons_of_mem _ hx)
    have hbt : dig t := fun x hx => hb x (List.mem_cons_of_mem _ hx)
    have hc := ha c (List.mem_cons_self ..)
    have hd := hb d (List.mem_cons_self ..)
    have ih := lex_val har hbt hl2
    have h1 := dval_lt har
    have h2 := dval_lt hbt
    rw [dval_cons, dval_cons, List.cons_lt_cons_iff, ← hl2]
    rw [← hl2] at h2
    constructor
    · rintro (h | ⟨rfl, h⟩)
      · have h3 : (c - 48 + 1) * 10 ^ r.length ≤ (d - 48) * 10 ^ r.length := Nat.mul_le_mul_right _ (by omega)
        rw [Nat.add_mul, Nat.one_mul] at h3
        omega
      · have := ih.mp h
        omega
    · intro h
      rcases Nat.lt_trichotomy c d with h3 | h3 | h3
      · exact .inl h3
      · subst h3
        exact .inr ⟨rfl, ih.mpr (by omega)⟩
      · have h4 : (d - 48 + 1) * 10 ^ r.length ≤ (c - 48) * 10 ^ r.length := Nat.mul_le_mul_right _ (by omega)
        rw [Nat.add_mul, Nat.one_mul] at h4
        omega
  | [], _ :: _, _, _, h => by cases h
  | _ :: _, [], _, _, h => by cases h
theorem num0_pos {a : Codes} (h : num0 a) (hn : a ≠ [48]) : ∃ c r, a = c :: r ∧ 49 ≤ c := by
  obtain ⟨hd, hne, h3⟩ := h
  cases a with
  | nil => exact absurd rfl hne
  | cons c r =>
    refine ⟨c, r, rfl, ?_⟩
    have hc := hd c (List.mem_cons_self ..)
    rcases h3 with h3 | h3
    · exact absurd h3 hn
    · have : c ≠ 48 := fun e => h3 (by rw [e]; rfl)
      omega
/-- sign by sign: shorter is less -/
theorem num0_less {a b : Codes} (ha : num0 a) (hb : num0 b) : (a.length < b.length ∨ (a.length = b.length ∧ a < b)) ↔ dval a < dval b := by
  rcases Nat.lt_trichotomy a.length b.length with h | h | h
  · refine ⟨fun _ => ?_, fun _ => .inl h⟩
    have hb1 : b ≠ [48] := fun e => by
      have h1 : b.length = 1 := by rw [e]; rfl
      have : a.length ≠ 0 := fun z => ha.2.1 (List.length_eq_zero_iff.mp z)
      omega
    obtain ⟨c, r, rfl, hc⟩ := num0_pos hb hb1
    have h1 := dval_lt ha.1
    have h2 := dval_ge (r := r) hc
    have h3 : 10 ^ a.length ≤ 10 ^ r.length := Nat.pow_le_pow_right (by decide) (by rw [List.length_cons] at h; omega)
    omega
  · rw [← lex_val ha.1 hb.1 h]
    exact ⟨fun z => z.elim (fun y => absurd y (by omega)) (·.2), fun z => .inr ⟨h, z⟩⟩
  · have ha1 : a ≠ [48] := fun e => by
      have h1 : a.length = 1 := by rw [e]; rfl
      have : b.length ≠ 0 := fun z => hb.2.1 (List.length_eq_zero_iff.mp z)
      omega
    obtain ⟨c, r, rfl, hc⟩ := num0_pos ha ha1
    have h1 := dval_lt hb.1
    have h2 := dval_ge (r := r) hc
    have h3 : 10 ^ b.length ≤ 10 ^ r.length := Nat.pow_le_pow_right (by decide) (by rw [List.length_cons] at h; omega)
    refine ⟨fun z => z.elim (fun y => absurd y (by omega)) (fun y => absurd y.1 (by omega)), fun z => absurd z (by omega)⟩
theorem num0_no45 {a : Codes} (h : num0 a) : ∀ d, a ≠ 45 :: d := fun d e => by
  have := h.1 45 (by rw [e]; exact List.mem_cons_self ..)
  omega
theorem nval_pos {a : Codes} (h : num0 a) : nval a = ((dval a : Nat) : Int) := by
  unfold nval
  split
  · exact absurd rfl (num0_no45 h _)
  · rfl
theorem dval_pos {a : Codes} (h : num0 a) (hn : a ≠ [48]) : 0 < dval a := by
  obtain ⟨c, r, rfl, hc⟩ := num0_pos h hn
  have := dval_ge (r := r) hc
  have : 0 < 10 ^ r.length := Nat.pow_pos (by decide)
  omega
theorem int_of_num {s : Codes} (h : isNum s) : PySem.intText? (SX.S s) = some (nval s) := by
  obtain ⟨h, hl⟩ := h
  rcases h with h | ⟨d, rfl, h, _⟩
  · rw [nval_pos h]
    exact intText_digits (x := SX.S s) h.1 h.2.1 (by rw [SX.S_len]; omega)
  · exact intText_neg (x := SX.S (45 :: d)) (cs := d) rfl h.1 h.2.1 (by rw [SX.S_len]; omega)
/-- the law's comparison -/
def numLess0 (a b : Codes) : Bool := decide (a.length < b.length) || (decide (a.length = b.length) && decide (a < b))
def numLess (a b : Codes) : Bool := if a.head? = some 45 ∧ b.head? = some 45 then numLess0 (b.drop 1) (a.drop 1) else if a.head? = some 45 ∨ b.head? = some 45 then decide (a.head? = some 45) else numLess0 a b
theorem numLess0_val {a b : Codes} (ha : num0 a) (hb : num0 b) : numLess0 a b = decide (dval a < dval b) := by
  unfold numLess0
  have h := num0_less ha hb
  by_cases h1 : dval a < dval b
  · rw [decide_eq_true h1]
    rcases h.mpr h1 with h2 | ⟨h2, h3⟩
    · rw [decide_eq_true h2]; rfl
    · rw [decide_eq_true h2, decide_eq_true h3, Bool.and_self, Bool.or_true]
  · rw [decide_eq_false h1]
    have h2 := fun z => h1 (h.mp z)
    rw [decide_eq_false fun z => h2 (.inl z)]
    by_cases h3 : a.length = b.length
    · rw [decide_eq_true h3, decide_eq_false fun z => h2 (.inr ⟨h3, z⟩)]; rfl
    · rw [decide_eq_false h3]; rfl
theorem head45 {a : Codes} (h : num0 a) : a.head? ≠ some 45 := by
  cases a with
  | nil => simp
  | cons c r =>
    intro e
    have : c = 45 := Option.some.inj e
    exact num0_no45 h r (by rw [this])
theorem numLess_val {a b : Codes} (ha : isNum a) (hb : isNum b) : numLess a b = decide (nval a < nval b) := by
  unfold numLess
  rcases ha.1 with ha | ⟨d, rfl, ha, han⟩ <;> rcases hb.1 with hb | ⟨e, rfl, hb, hbn⟩
  · rw [if_neg fun z => head45 ha z.1, if_neg fun z => z.elim (head45 ha) (head45 hb), numLess0_val ha hb, nval_pos ha, nval_pos hb]
    by_cases h : dval a < dval b
    · rw [decide_eq_true h, decide_eq_true (by omega)]
    · rw [decide_eq_false h, decide_eq_false (by omega)]
  · rw [if_neg fun z => head45 ha z.1, if_pos (.inr rfl), decide_eq_false (head45 ha), nval_pos ha]
    show false = decide (_ < -((dval e : Nat) : Int))
    rw [decide_eq_false (by omega)]
  · rw [if_neg fun z => head45 hb z.2, if_pos (.inl rfl), decide_eq_true (show (45 :: d).head? = some 45 from rfl), nval_pos hb]
    show true = decide (-((dval d : Nat) : Int) < _)
    have := dval_pos ha han
    rw [decide_eq_true (by omega)]
  · rw [if_pos ⟨rfl, rfl⟩]
    show numLess0 e d = decide (-((dval d : Nat) : Int) < -((dval e : Nat) : Int))
    rw [numLess0_val hb ha]
    by_cases h : dval e < dval d
    · rw [decide_eq_true h, decide_eq_true (by omega)]
    · rw [decide_eq_false h, decide_eq_false (by omega)]

end My
namespace My
open PySem PySem.Spec PyProof.Rows L2
section
variable {P : Program} {w : World} {K : PySem.W.Frag} {mg : Str → Option Value} {base : Heap}
/-! ### _law_low: the law's own plain text -/
abbrev N_l_low : List Str := ["_law_thing", "_law_found", "_law_sign", "_law_at", "_law_low_here"]
theorem sc_l_low : FnScope N_l_low ["_law_thing"] (defScope s_l_low) := ⟨rfl, rfl, rfl, by decide +kernel, rfl, by decide +kernel, by decide +kernel⟩
-- slots: 0 _law_thing, 1 _law_found, 2 _law_sign, 3 _law_at, 4 _law_low_here
def up26 : Codes := cs "ABCDEFGHIJKLMNOPQRSTUVWXYZ"
def lo26 : Codes := cs "abcdefghijklmnopqrstuvwxyz"
theorem find_up : ∀ c, c < 128 → Txt.find (SX.S up26) (SX.S [c]) = if 65 ≤ c ∧ c ≤ 90 then (c : Int) - 65 else -1 := by decide +kernel
theorem lo_at : ∀ c, c < 128 → 65 ≤ c ∧ c ≤ 90 → lo26[c - 65]? = some (PyProof.Rows.lo1 c) := by decide +kernel
theorem atI_last? {f : Codes} {c : Nat} (h : f.getLast? = some c) : atI f (-1) = some c := by
  have hne : f ≠ [] := fun e => by rw [e] at h; cases h
  have hl : 0 < f.length := List.length_pos_iff.mpr hne
  unfold atI ixN
  rw [if_neg (by decide), if_pos (by omega)]
  show f[(-1 + (f.length : Int)).toNat]? = some c
  rw [show (-1 + (f.length : Int)).toNat = f.length - 1 by omega, ← List.getLast?_eq_getElem?]
  exact h
theorem sl_last1 (f : Codes) : decide (sl f (some (-1)) none = [32]) = decide (f.getLast? = some 32) := by
  by_cases hf : f = []
  · subst hf
    have : sl [] (some (-1)) none = [] := List.eq_nil_of_length_eq_zero (Nat.le_zero.mp (sl_len [] _ _))
    rw [this]
    rfl
  · unfold sl
    rw [C8.cutS_slice, SX.slice_last hf]
    have e : f = f.dropLast ++ [f.getLast hf] := (List.dropLast_concat_getLast hf).symm
    have e2 : f.drop (f.length - 1) = [f.getLast hf] := by
      have hl : f.length - 1 = f.dropLast.length := by rw [List.length_dropLast]
      conv => lhs; rw [hl]; arg 2; rw [e]
      exact List.drop_left
    have e3 : f.getLast? = some (f.getLast hf) := List.getLast?_eq_getLast hf
    show decide (f.drop (f.length - 1) = [32]) = _
    rw [e2, e3]
    by_cases h : f.getLast hf = 32
    · rw [h]; rfl
    · rw [decide_eq_false fun z => h (List.cons.inj z).1, decide_eq_false fun z => h (Option.some.inj z)]
theorem sl_butlast (f : Codes) (hf : f ≠ []) : sl f none (some (-1)) = f.dropLast := by
  unfold sl
  rw [C8.cutS_slice, SX.slice_butlast hf, List.dropLast_eq_take]
def sp_l_low : Sp := pureSp (fun (l : Codes) _ vs _ => vs = [sv l] ∧ asc l ∧ l.length ≤ 1000) (fun l => is (sv (plainL l)))
theorem asc_at {l : Codes} {i c : Nat} (h : asc l) (hc : l[i]? = some c) : c < 128 := of_decide_eq_true (List.all_eq_true.mp h c (List.mem_of_getElem? hc))
def lowT (l : Codes) : Codes := (lowL l).foldl lowStep []
theorem lowT_snoc (l : Codes) (c : Nat) : lowT (l ++ [c]) = lowStep (lowT l) (PyProof.Rows.lo1 c) := by
  unfold lowT lowL
  rw [List.map_append, List.foldl_append]
  rfl
theorem lowT_len (l : Codes) : (lowT l).length ≤ l.length := by
  have h := lowFold_len (lowL l) []
  rw [lowL_len] at h
  have e : ([] : Codes).length = 0 := rfl
  unfold lowT
  omega
theorem take_snoc {l : Codes} {i c : Nat} (h : l[i]? = some c) : l.take (i + 1) = l.take i ++ [c] := by
  rw [List.take_add_one, h]
  rfl
theorem c_l_low (T : Tx K mg) : Cal P w K mg base 1 "_law_low" ["_law_thing"] (sp_l_low) := by
  refine T.d_l_low.cal sc_l_low (fun vs H Q E h => ?_) (fun _ _ _ _ _ _ us hl => match us, hl with | [_], _ => rfl) (fun f cdv A outer s H vs Q E hr h => ?_)
  · obtain ⟨R, n, l, _, ⟨rfl, _⟩, _⟩ := h
    rfl
  · obtain ⟨R, n, l, hj, ⟨rfl, ha, hl⟩, q⟩ := h
    refine ⟨_, (pss_cons (ps_set (i := 1) sc_l_low.nd rfl (by first | exact Or.inl rfl | exact Or.inr rfl) pe_str)
      (pss_cons (ps_for PassesOwn.never rfl (pi_any (K := K) (pv 0)) (pg_name (i := 2) sc_l_low.nd rfl (by first | exact Or.inl rfl | exact Or.inr rfl))
      (pss_cons (ps_set (i := 3) sc_l_low.nd rfl (by first | exact Or.inl rfl | exact Or.inr rfl) (pe_bmK (K := K) PySem.F.plainAttrs_str PySem.F.slot_str_find PySem.F.type_str_find mt_findA pe_str (pa_cons (pv 2) pa_nil)))
      (pss_cons (ps_set (i := 4) sc_l_low.nd rfl (by first | exact Or.inl rfl | exact Or.inr rfl) (pe_ifExp (pt_cmpR cm_GtE (pv 3) pe_int (nomark _)) (pe_ix (ix_any (K := K)) pe_str (pv 3) (fun _ _ => rfl)) (pv 2)))
      (pss_one (ps_if (PW.pt (pw_or (pt_cmpR (cm_NotEq (K := K) hr.units) (pv 4) pe_str (nomark _)) (pw_or1 (PW.pt (pw_and (pt_cmpR (cm_NotEq (K := K) hr.units) (pv 1) pe_str (nomark _)) (pw_and1 (pt_cmpR (cm_NotEq (K := K) hr.units) (pe_ix (ix_any (K := K)) (pv 1) (pe_un un_neg pe_int) (fun _ _ => rfl)) pe_str (nomark _)))))))) (pss_one (ps_set (i := 1) sc_l_low.nd rfl (by first | exact Or.inl rfl | exact Or.inr rfl) (pe_op (op_Add (K := K)) (pv 1) (pv 4)))) pss_nil)))))
      (pss_one (ps_ret (pe_ifExp (pt_cmpR (cm_Eq (K := K) hr.units) (pe_slice (sl_any (K := K)) (pv 1) (po_some (pe_un un_neg pe_int)) po_none) pe_str (nomark _)) (pe_slice (sl_any (K := K)) (pv 1) po_none (po_some (pe_un un_neg pe_int))) (pv 1)))))), ?_⟩
    refine StF.run (R := R) (n := n) ?_ hj
    refine q_asgV (m := n) (v := sv []) (ev_str (by decide +kernel)) ?_
    have hI : ItP R n n (iAny K (tVar 0)) [some (sv l), some (sv []), none, none, none] H ((l.map fun c => sv [c]).map is) := by
      rw [List.map_map]
      exact it_text (ev_var rfl)
    refine q_forV hI (fun i σ' => ∃ y2 y3 y4, σ' = [some (sv l), some (sv (lowT (l.take i))), y2, y3, y4]) ⟨none, none, none, rfl⟩ (fun B i w σ' eb hw hI => ?_) fun σ' hI => ?_
    · obtain ⟨y2, y3, y4, rfl⟩ := hI
      rw [List.getElem?_map] at hw
      obtain ⟨c, hc, rfl⟩ := Option.map_eq_some_iff.mp hw
      have hc1 := asc_at ha hc
      have hlt := (List.getElem?_eq_some_iff.mp hc).1
      have hfl : (lowT (l.take i)).length ≤ 1000 := by
        have h1 := lowT_len (l.take i)
        rw [List.length_take] at h1
        omega
      generalize hf : lowT (l.take i) = f at hfl
      -- the place among the capitals
      refine q_asgV (m := n) (v := .int (if 65 ≤ c ∧ c ≤ 90 then (c : Int) - 65 else -1)) (ev_is (ev_find (ev_str (l := up26) (SX.S_tl _).symm) (ev_var (v := sv [c]) rfl)) (by rw [find_up c hc1])) ?_
      refine q_asgV (m := n) (v := sv [PyProof.Rows.lo1 c]) ?_ ?_
      · by_cases h : 65 ≤ c ∧ c ≤ 90
        · rw [if_pos h]
          refine ev_ifB (m := n) (b := true) (et_is (et_test (ev_op2 (ev_var rfl) ev_c fun H3 _ => rv_geI)) (decide_eq_true (by omega))) (fun _ => ?_) (fun z => nomatch z)
          refine ev_op2 (m := n) (x := sv lo26) (y := .int ((c : Int) - 65)) (ev_str (SX.S_tl _).symm) (ev_var rfl) fun H3 _ => rv_ixS (by decide +kernel) ?_
          rw [show (c : Int) - 65 = ((c - 65 : Nat) : Int) by omega]
          exact atI_ge (lo_at c hc1 h)
        · rw [if_neg h]
          have e : PyProof.Rows.lo1 c = c := if_neg h
          rw [e]
          exact ev_ifB (m := n) (b := false) (et_is (et_test (ev_op2 (ev_var rfl) ev_c fun H3 _ => rv_geI)) (decide_eq_false (by omega))) (fun z => nomatch z) (fun _ => ev_var rfl)
      · generalize hd : PyProof.Rows.lo1 c = d
        have hnext : lowT (l.take (i + 1)) = lowStep f d := by rw [take_snoc hc, lowT_snoc, hf, hd]
        refine s_when (m := n) (G := (· = (!decide (d = 32) || (!decide (f = []) && !decide (f.getLast? = some 32))))) ?_ (fun hb => ?_) (fun hb H1 e1 => ?_)
        · refine et_or (et_is (et_test (ev_op2 (m := n) (x := sv [d]) (y := sv [32]) (ev_var rfl) (ev_str (by decide +kernel)) fun H3 _ => rv_neS)) (by simp)) fun _ => ?_
          refine et_and (et_test (ev_op2 (m := n) (x := sv f) (y := sv []) (ev_var rfl) (ev_str (by decide +kernel)) fun H3 _ => rv_neS)) fun hfe => ?_
          have hne : f ≠ [] := fun e => by rw [decide_eq_true e] at hfe; cases hfe
          obtain ⟨x, hx⟩ : ∃ x, f.getLast? = some x := ⟨_, List.getLast?_eq_getLast hne⟩
          refine et_is (et_test (ev_op2 (m := n) (x := sv [x]) (y := sv [32]) (ev_op2 (m := n) (x := sv f) (y := .int (-1)) (ev_var rfl) (ev_neg ev_c) fun H3 _ => rv_ixS (by omega) (atI_last? hx)) (ev_str (by decide +kernel)) fun H3 _ => rv_neS)) ?_
          rw [hx]
          simp
        · refine s_asgV (m := n) (v := sv (f ++ [d])) (ev_op2 (m := n) (x := sv f) (y := sv [d]) (ev_var rfl) (ev_var rfl) fun H3 _ => rv_addS (by rw [List.length_singleton]; omega)) fun H3 e3 => ⟨e3, ?_⟩
          refine ⟨some (sv [c]), some (.int (if 65 ≤ c ∧ c ≤ 90 then (c : Int) - 65 else -1)), some (sv [d]), ?_⟩
          rw [hnext]
          have : lowStep f d = f ++ [d] := by
            unfold lowStep
            refine if_pos ?_
            by_cases h1 : d = 32
            · right
              rw [decide_eq_true h1] at hb
              constructor
              · intro e; rw [decide_eq_true e] at hb; cases hb
              · intro e; rw [decide_eq_true e] at hb; simp at hb
            · exact .inl h1
          rw [this]
          rfl
        · refine ⟨e1, some (sv [c]), some (.int (if 65 ≤ c ∧ c ≤ 90 then (c : Int) - 65 else -1)), some (sv [d]), ?_⟩
          rw [hnext]
          have : lowStep f d = f := by
            unfold lowStep
            refine if_neg fun z => ?_
            have hb : false = _ := hb
            rcases z with z | ⟨z1, z2⟩
            · rw [decide_eq_false z] at hb; cases hb
            · rw [decide_eq_false z1, decide_eq_false z2] at hb; simp at hb
          rw [this]
          rfl
    · obtain ⟨y2, y3, y4, rfl⟩ := hI
      rw [List.length_map, List.take_length]
      have hfl : (lowT l).length ≤ 1000 := by
        have h1 := lowT_len l
        omega
      refine s_ret (m := n) (p := is (sv (plainL l))) ?_ q
      rw [← low_plain]
      show EvP R n n _ _ H (is (sv (lowEnd (lowT l))))
      generalize lowT l = f at hfl
      refine ev_ifB (m := n) (b := decide (f.getLast? = some 32)) (et_is (et_test (ev_op2 (m := n) (x := sv (sl f (some (-1)) none)) (y := sv [32]) (ev_sl (m := n) (k := n) (p := is (sv f)) (ev_var rfl) (eo_some (ev_neg ev_c)) eo_none fun x H3 _ hx => by rw [show x = sv f from hx]; exact rs_S (by omega)) (ev_str (by decide +kernel)) fun H3 _ => rv_eqS)) (sl_last1 f)) (fun hb => ?_) (fun hb => ?_)
      · have hb := of_decide_eq_true hb
        have hne : f ≠ [] := fun e => by rw [e] at hb; cases hb
        unfold lowEnd
        rw [if_pos hb]
        exact ev_is (ev_sl (m := n) (k := n) (p := is (sv f)) (ev_var rfl) eo_none (eo_some (ev_neg ev_c)) fun x H3 _ hx => by rw [show x = sv f from hx]; exact rs_S (by omega)) (by rw [sl_butlast f hne])
      · unfold lowEnd
        rw [if_neg (of_decide_eq_false hb)]
        exact ev_var rfl

end
end My
namespace My
open PySem PySem.Spec PyProof.Rows L2
section
variable {P : Program} {w : World} {K : PySem.W.Frag} {mg : Str → Option Value} {base : Heap}
/-! ### _law_turned: a text otherwise written -/
abbrev N_l_turned : List Str := ["_law_source_here", "_law_thing", "_law_found", "_law_room", "_law_sign"]
theorem sc_l_turned : FnScope N_l_turned ["_law_source_here", "_law_thing"] (defScope s_l_turned) := ⟨rfl, rfl, rfl, by decide +kernel, rfl, by decide +kernel, by decide +kernel⟩
-- slots: 0 _law_source_here, 1 _law_thing, 2 _law_found, 3 _law_room, 4 _law_sign
theorem lowStep_yes {X : Codes} (h : X ≠ [] ∧ X.getLast? ≠ some 32) : lowStep X 32 = X ++ [32] := if_pos (.inr h)
theorem lowStep_no {X : Codes} (h : ¬ (X ≠ [] ∧ X.getLast? ≠ some 32)) : lowStep X 32 = X := if_neg fun z => z.elim (fun y => y rfl) h
theorem lowStep_sp2 (X : Codes) : lowStep (lowStep X 32) 32 = lowStep X 32 := by
  by_cases h : X ≠ [] ∧ X.getLast? ≠ some 32
  · rw [lowStep_yes h, lowStep_no fun z => z.2 (by simp)]
  · rw [lowStep_no h, lowStep_no h]
theorem lowEnd_sp (X : Codes) : lowEnd (lowStep X 32) = lowEnd X := by
  unfold lowStep
  by_cases h : X ≠ [] ∧ X.getLast? ≠ some 32
  · rw [if_pos (.inr h)]
    unfold lowEnd
    rw [if_pos (by simp), if_neg h.2, List.dropLast_concat]
  · rw [if_neg fun z => z.elim (fun y => y rfl) h]
theorem plain_end (f : Codes) : plainL (f ++ [32]) = plainL f := by
  rw [← low_plain, ← low_plain]
  show lowEnd (lowT (f ++ [32])) = lowEnd (lowT f)
  rw [lowT_snoc]
  exact lowEnd_sp _
theorem plain_begin (f : Codes) : plainL (32 :: f) = plainL f := by
  rw [← low_plain, ← low_plain]
  show lowEnd ((lowL f).foldl lowStep (lowStep [] 32)) = _
  have : lowStep [] 32 = [] := by decide
  rw [this]
theorem lo_up : ∀ c, c < 128 → PyProof.Rows.lo1 (PyProof.Rows.up1 c) = PyProof.Rows.lo1 c := by decide
theorem lo_lo : ∀ c, c < 128 → PyProof.Rows.lo1 (PyProof.Rows.lo1 c) = PyProof.Rows.lo1 c := by decide
theorem up_prn : ∀ c, c < 127 → 32 ≤ c → 32 ≤ PyProof.Rows.up1 c ∧ PyProof.Rows.up1 c < 127 := by decide
theorem lo_prn : ∀ c, c < 127 → 32 ≤ c → 32 ≤ PyProof.Rows.lo1 c ∧ PyProof.Rows.lo1 c < 127 := by decide
def sp_l_turned : Sp := drawSp (fun (s : Codes) => 2 * s.length + 2) (fun s a _ vs _ => vs = [.ref a, sv s] ∧ prn s ∧ s.length ≤ 60) (fun s => tx fun u => prn u ∧ plainL u = plainL s ∧ s.length ≤ u.length ∧ u.length ≤ 60)
theorem c_l_turned (T : Tx K mg) : Cal P w K mg base 3 "_law_turned" ["_law_source_here", "_law_thing"] (sp_l_turned) := by
  have C_l_next := c_l_next (P := P) (w := w) (base := base) T
  have C_l_pick := c_l_pick (P := P) (w := w) (base := base) T
  refine T.d_l_turned.cal sc_l_turned (fun vs H Q E h => ?_) (fun _ _ _ _ _ _ us hl => match us, hl with | [_, _], _ => rfl) (fun f cdv A outer s H vs Q E hr h => ?_)
  · obtain ⟨R, a, n, x, _, _, ⟨rfl, _⟩, _⟩ := h
    rfl
  · obtain ⟨R, a, n, l, hs, hj, ⟨rfl, hp, hl⟩, q⟩ := h
    refine ⟨_, (pss_cons (ps_par (i := 2) (j := 3) (by rfl) sc_l_turned.nd rfl rfl (by decide) rfl rfl (pa_cons pe_str (pa_cons (pe_op op_sub pe_int (pe_callB (call_lenA (K := K)) (by rfl) T.b_len (by decide +kernel) (pa_cons (pv 1) pa_nil))) pa_nil)) (by rfl))
      (pss_cons (ps_for PassesOwn.never rfl (pi_any (K := K) (pv 1)) (pg_name (i := 4) sc_l_turned.nd rfl (by first | exact Or.inl rfl | exact Or.inr rfl))
      (pss_cons (ps_set (i := 2) sc_l_turned.nd rfl (by first | exact Or.inl rfl | exact Or.inr rfl) (pe_op (op_Add (K := K)) (pv 2) (pe_ifExp (pt_cmpR (cm_Eq (K := K) hr.units) (pe_callC C_l_next (hr.mono (by decide)) (by rfl) (pa_cons (pv 0) (pa_cons pe_int pa_nil))) pe_int (nomark _)) (pe_bm0K (K := K) PySem.F.plainAttrs_str PySem.F.slot_str_upper PySem.F.type_str_upper mt_upperA (pv 4)) (pe_bm0K (K := K) PySem.F.plainAttrs_str PySem.F.slot_str_lower PySem.F.type_str_lower mt_lowerA (pv 4)))))
      (pss_one (ps_if (PW.pt (pw_and (pt_cmpR (cm_Eq (K := K) hr.units) (pv 4) pe_str (nomark _)) (pw_and (pt_cmpR cm_Gt (pv 3) pe_int (nomark _)) (pw_and1 (pt_cmpR (cm_Eq (K := K) hr.units) (pe_callC C_l_next (hr.mono (by decide)) (by rfl) (pa_cons (pv 0) (pa_cons pe_int pa_nil))) pe_int (nomark _)))))) (pss_one (ps_par (i := 2) (j := 3) (by rfl) sc_l_turned.nd rfl rfl (by decide) rfl rfl (pa_cons (pe_op (op_Add (K := K)) (pv 2) pe_str) (pa_cons (pe_op op_sub (pv 3) pe_int) pa_nil)) (by rfl))) pss_nil))))
      (pss_cons (ps_if (PW.pt (pw_and (pt_cmpR cm_Gt (pv 3) pe_int (nomark _)) (pw_and1 (pt_cmpR (cm_Eq (K := K) hr.units) (pe_callC C_l_next (hr.mono (by decide)) (by rfl) (pa_cons (pv 0) (pa_cons pe_int pa_nil))) pe_int (nomark _))))) (pss_one (ps_set (i := 2) sc_l_turned.nd rfl (by first | exact Or.inl rfl | exact Or.inr rfl) (pe_callC C_l_pick (hr.mono (by decide)) (by rfl) (pa_cons (pv 0) (pa_cons (pe_lst (pa_cons (pe_op (op_Add (K := K)) pe_str (pv 2)) (pa_cons (pe_op (op_Add (K := K)) (pv 2) pe_str) pa_nil))) pa_nil))))) pss_nil)
      (pss_one (ps_ret (pv 2)))))), ?_⟩
    have hj : R.J (n + 2 + 2 * l.length) H := by
      have e : n + 2 + 2 * l.length = n + (2 * l.length + 2) := by omega
      rw [e]
      exact hj
    refine StF.run (R := R) (n := n + 2 + 2 * l.length) ?_ hj
    refine q_parG (m := n + 2 + 2 * l.length) (F := (· = sv [])) (G := (· = .int (60 - (l.length : Int)))) (ea_cons (EvP.asG (ev_str (l := []) (by decide +kernel)) rfl) (ea_cons (EvP.asG (ev_op2 (m := n + 2 + 2 * l.length) (x := .int 60) (y := .int (l.length : Int)) ev_c (ev_lenS (ev_var rfl) (by omega)) fun H1 _ => rv_subI) rfl) ea_nil)) fun v1 v2 hv1 hv2 => ?_
    subst hv1; subst hv2
    have hI : ItP R (n + 2 + 2 * l.length) (n + 2 + 2 * (l.length - 0)) (iAny K (tVar 1)) [some (.ref a), some (sv l), some (sv []), some (.int (60 - (l.length : Int))), none] H ((l.map fun c => sv [c]).map is) := by
      rw [List.map_map, Nat.sub_zero]
      exact it_text (ev_var rfl)
    refine q_forC (fun i => n + 2 + 2 * (l.length - i)) hI (fun i σ' => ∃ f room y4, σ' = [some (.ref a), some (sv l), some (sv f), some (.int room), y4] ∧ prn f ∧ lowT f = lowT (l.take i) ∧ (f.length : Int) + room = 60 - (l.length : Int) + i ∧ 0 ≤ room ∧ room ≤ 60 - (l.length : Int)) ⟨[], _, none, rfl, (by intro c hc; cases hc), rfl, by simp, by omega, by omega⟩ (fun B i w σ' eb hw hI => ?_) fun σ' hI => ?_
    · obtain ⟨f, room, y4, rfl, hpf, hlow, hsum, hr0, hr1⟩ := hI
      rw [List.getElem?_map] at hw
      obtain ⟨c, hc, rfl⟩ := Option.map_eq_some_iff.mp hw
      have hcp := hp c (List.mem_of_getElem? hc)
      have hlt := (List.getElem?_eq_some_iff.mp hc).1
      have hall : [c].all (· < 128) = true := by
        simp only [List.all_cons, List.all_nil, Bool.and_true]
        exact decide_eq_true (by omega)
      have hcr : n + 2 + 2 * (l.length - i) = n + 2 + 2 * (l.length - (i + 1)) + 1 + 1 := by omega
      rw [hcr]
      generalize hN : n + 2 + 2 * (l.length - (i + 1)) = N
      refine q_asgG (m := N + 1) (G := fun v => ∃ u, v = sv u ∧ ∃ d, u = f ++ [d] ∧ PyProof.Rows.lo1 d = PyProof.Rows.lo1 c ∧ 32 ≤ d ∧ d < 127) ?_ fun v hv => ?_
      · refine (ev_addT (m := N + 1 + 1) (F := (· = f)) (G := fun u => ∃ d, u = [d] ∧ PyProof.Rows.lo1 d = PyProof.Rows.lo1 c ∧ 32 ≤ d ∧ d < 127) (EvP.tx (ev_var rfl) rfl) ?_ (fun x y hx hy => by
          obtain ⟨d, rfl, _⟩ := hy
          subst hx
          rw [List.length_singleton]
          omega)).txImp fun u hu => ?_
        · refine ev_if (m := N + 1) (et_eqN (m := N + 1) (ev_next (m := N + 1) hs (ev_var rfl) ev_c (by decide) (by decide)) ev_c) (fun _ => ?_) (fun _ => ?_)
          · exact EvP.tx (ev_upper (ev_var rfl) hall (by simp)) ⟨_, rfl, lo_up c (by omega), up_prn c (by omega) (by omega)⟩
          · exact EvP.tx (ev_lower (ev_var rfl) hall (by simp)) ⟨_, rfl, lo_lo c (by omega), lo_prn c (by omega) (by omega)⟩
        · obtain ⟨x, y, rfl, ⟨d, rfl, h⟩, rfl⟩ := hu
          exact ⟨d, rfl, h⟩
      · obtain ⟨u, rfl, d, rfl, hd, hd0, hd1⟩ := hv
        have hpd : prn (f ++ [d]) := prn_app hpf (by intro x hx; rw [List.mem_singleton.mp hx]; exact ⟨hd0, hd1⟩)
        have hlow1 : lowT (f ++ [d]) = lowT (l.take (i + 1)) := by rw [lowT_snoc, hlow, hd, take_snoc hc, lowT_snoc]
        refine s_when (m := N) (G := fun b => b = true → c = 32 ∧ 0 < room) ?_ (fun hb => ?_) (fun hb H1 e1 => ?_)
        · refine et_andG (G := (· = decide (c = 32))) (m := N + 1) (k := N) (et_is (et_test (ev_op2 (m := N + 1) (x := sv [c]) (y := sv [32]) (ev_var rfl) (ev_str (by decide +kernel)) fun H3 _ => rv_eqS)) (by simp)) (fun h1 => ?_) (fun _ z => nomatch z) (by omega)
          have h1 : c = 32 := of_decide_eq_true h1.symm
          refine et_andG (G := (· = decide (0 < room))) (m := N + 1) (k := N) (et_test (ev_op2 (m := N + 1) (x := .int room) (y := .int 0) (ev_var rfl) ev_c fun H3 _ => rv_gtI)) (fun h2 => ?_) (fun _ z => nomatch z) (by omega)
          have h2 : 0 < room := of_decide_eq_true h2.symm
          exact (et_eqN (m := N) (ev_next (m := N) hs (ev_var rfl) ev_c (by decide) (by decide)) ev_c).imp fun b _ _ => ⟨h1, h2⟩
        · obtain ⟨rfl, hroom⟩ := hb rfl
          refine s_parG (m := N) (F := (· = sv (f ++ [d] ++ [32]))) (G := (· = .int (room - 1))) (ea_cons (EvP.asG (ev_op2 (m := N) (x := sv (f ++ [d])) (y := sv [32]) (ev_var rfl) (ev_str (by decide +kernel)) fun H3 _ => rv_addS (by simp only [List.length_append, List.length_singleton]; omega)) rfl) (ea_cons (EvP.asG (ev_op2 (m := N) (x := .int room) (y := .int 1) (ev_var rfl) ev_c fun H3 _ => rv_subI) rfl) ea_nil)) fun v1 v2 hv1 hv2 H3 e3 => ⟨e3, ?_⟩
          subst hv1; subst hv2
          refine ⟨f ++ [d] ++ [32], room - 1, some (sv [32]), rfl, prn_app hpd (by intro x hx; rw [List.mem_singleton.mp hx]; decide), ?_, ?_, by omega, by omega⟩
          · rw [lowT_snoc, lowT_snoc, hd, take_snoc hc, lowT_snoc, hlow]
            exact lowStep_sp2 _
          · simp only [List.length_append, List.length_singleton]
            omega
        · refine ⟨e1, f ++ [d], room, some (sv [c]), rfl, hpd, hlow1, ?_, by omega, by omega⟩
          rw [List.length_append, List.length_singleton]
          omega
    · obtain ⟨f, room, y4, rfl, hpf, hlow, hsum, hr0, hr1⟩ := hI
      rw [List.length_map, List.take_length] at hlow
      rw [List.length_map] at hsum
      have hplain : plainL f = plainL l := by
        rw [← low_plain, ← low_plain]
        exact congrArg lowEnd hlow
      refine StF.more (n := n + 2) ?_ (by omega)
      refine q_when (m := n + 1) (G := fun b => b = true → 0 < room) ?_ (fun hb => ?_) (fun hb => ?_)
      · refine et_andG (G := (· = decide (0 < room))) (m := n + 2) (k := n + 1) (et_test (ev_op2 (m := n + 2) (x := .int room) (y := .int 0) (ev_var rfl) ev_c fun H3 _ => rv_gtI)) (fun h2 => ?_) (fun _ z => nomatch z) (by omega)
        have h2 : 0 < room := of_decide_eq_true h2.symm
        exact (et_eqN (m := n + 1) (ev_next (m := n + 1) hs (ev_var rfl) ev_c (by decide) (by decide)) ev_c).imp fun b _ _ => h2
      · have hroom := hb rfl
        refine s_asgG (m := n) (G := fun v => ∃ u, v = sv u ∧ prn u ∧ plainL u = plainL l ∧ l.length ≤ u.length ∧ u.length ≤ 60) ?_ fun v hv H1 e1 => ?_
        · refine (ev_pickL (m := n) (F := (· = [sv ([32] ++ f), sv (f ++ [32])])) hs (ev_var rfl) (ev_lstV (vs := [sv ([32] ++ f), sv (f ++ [32])]) (ea_cons (ev_op2 (m := n + 1) (x := sv [32]) (y := sv f) (ev_str (by decide +kernel)) (ev_var rfl) fun H3 _ => rv_addS (by simp only [List.length_singleton]; omega)) (ea_cons (ev_op2 (m := n + 1) (x := sv f) (y := sv [32]) (ev_var rfl) (ev_str (by decide +kernel)) fun H3 _ => rv_addS (by simp only [List.length_singleton]; omega)) ea_nil)) (by simp)) (fun xs hx => by subst hx; simp)).imp fun v H1 _ hv => ?_
          obtain ⟨xs, rfl, hm⟩ := hv
          rcases List.mem_cons.mp hm with rfl | hm
          · exact ⟨32 :: f, rfl, prn_app (a := [32]) (by intro x hx; rw [List.mem_singleton.mp hx]; decide) hpf, by rw [plain_begin, hplain], by simp only [List.length_cons]; omega, by simp only [List.length_cons]; omega⟩
          · rw [List.mem_singleton.mp hm]
            exact ⟨f ++ [32], rfl, prn_app hpf (by intro x hx; rw [List.mem_singleton.mp hx]; decide), by rw [plain_end, hplain], by rw [List.length_append, List.length_singleton]; omega, by rw [List.length_append, List.length_singleton]; omega⟩
        · obtain ⟨u, rfl, hu⟩ := hv
          refine StF.run (R := R) (n := n) ?_ e1.1
          exact s_ret (m := n) (p := tx fun u => prn u ∧ plainL u = plainL l ∧ l.length ≤ u.length ∧ u.length ≤ 60) (EvP.tx (ev_var rfl) hu) fun v H2 e2 hv => q v H2 (R.trans e1 e2) hv
      · refine StF.more (n := n) ?_ (by omega)
        exact s_ret (m := n) (p := tx fun u => prn u ∧ plainL u = plainL l ∧ l.length ≤ u.length ∧ u.length ≤ 60) (EvP.tx (ev_var rfl) ⟨hpf, hplain, by omega, by omega⟩) q

end
end My
namespace My
open PySem PySem.Spec PyProof.Rows L2
section
variable {P : Program} {w : World} {K : PySem.W.Frag} {mg : Str → Option Value} {base : Heap}
/-! ### normal (of texts and exact values), is_less, the law's own comparison -/
abbrev N_normal : List Str := ["syntax", "value"]
theorem sc_normal : FnScope N_normal ["syntax", "value"] (defScope s_normal) := ⟨rfl, rfl, rfl, by decide +kernel, rfl, by decide +kernel, by decide +kernel⟩
-- slots: 0 syntax, 1 value
def synC : Nat → Codes
  | 0 => [105, 110, 116, 101, 103, 101, 114]
  | 1 => [116, 101, 120, 116]
  | _ => [101, 120, 97, 99, 116]
def normV (k : Nat) (l : Codes) : Codes := if k = 1 then plainL l else l
def sp_normal : Sp := pureSp (fun (x : Nat × Codes) _ vs _ => vs = [sv (synC x.1), sv x.2] ∧ (x.1 = 1 ∨ x.1 = 2) ∧ asc x.2 ∧ x.2.length ≤ 1000) (fun x => is (sv (normV x.1 x.2)))
theorem c_normal (T : Tx K mg) : Cal P w K mg base 5 "normal" ["syntax", "value"] sp_normal := by
  have C_plain_text := c_plain_text (P := P) (w := w) (base := base) T
  refine T.d_normal.cal sc_normal (fun vs H Q E h => ?_) (fun _ _ _ _ _ _ us hl => match us, hl with | [_, _], _ => rfl) (fun f cdv A outer s H vs Q E hr h => ?_)
  · obtain ⟨R, n, x, _, ⟨rfl, _⟩, _⟩ := h
    rfl
  · obtain ⟨R, n, ⟨k, l⟩, hj, ⟨rfl, hk, ha, hl⟩, q⟩ := h
    refine ⟨_, (pss_cons (ps_if (pt_cmpR (cm_Eq (K := K) hr.units) (pv 0) pe_str (nomark _)) (pss_one ps_never) pss_nil)
      (pss_one (ps_ret (pe_ifExp (pt_cmpR (cm_Eq (K := K) hr.units) (pv 0) pe_str (nomark _)) (pe_callC C_plain_text (hr.mono (by decide)) (by rfl) (pa_cons (pv 1) pa_nil)) (pv 1))))), ?_⟩
    refine StF.run (R := R) (n := n) ?_ hj
    have hk : k = 1 ∨ k = 2 := hk
    have hsyn : decide (synC k = [110, 97, 109, 101]) = false := by rcases hk with rfl | rfl <;> decide
    refine q_whenB (m := n) (b := false) (et_is (et_test (ev_op2 (m := n) (x := sv (synC k)) (y := sv [110, 97, 109, 101]) (ev_var rfl) (ev_str (by decide +kernel)) fun H3 _ => rv_eqS)) hsyn) (fun z => nomatch z) (fun _ => ?_)
    refine s_ret (m := n) (p := is (sv (normV k l))) ?_ q
    refine ev_ifB (m := n) (b := decide (k = 1)) (et_is (et_test (ev_op2 (m := n) (x := sv (synC k)) (y := sv [116, 101, 120, 116]) (ev_var rfl) (ev_str (by decide +kernel)) fun H3 _ => rv_eqS)) (by rcases hk with rfl | rfl <;> decide)) (fun hb => ?_) (fun hb => ?_)
    · have hb := of_decide_eq_true hb
      unfold normV
      rw [if_pos hb]
      exact ev_pure (post := fun l => is (sv (plainL l))) l (ea_cons (ev_var (v := sv l) rfl) ea_nil) fun vs H1 _ hv => by
        obtain ⟨v, rfl, hv1⟩ := one hv
        exact ⟨by rw [show v = _ from hv1], ha, hl⟩
    · unfold normV
      rw [if_neg (of_decide_eq_false hb)]
      exact ev_var rfl
abbrev N_is_less : List Str := ["syntax", "one", "other"]
theorem sc_is_less : FnScope N_is_less ["syntax", "one", "other"] (defScope s_is_less) := ⟨rfl, rfl, rfl, by decide +kernel, rfl, by decide +kernel, by decide +kernel⟩
-- slots: 0 syntax, 1 one, 2 other
def okV (k : Nat) (a : Codes) : Prop := if k = 0 then isNum a else prn a ∧ a.length ≤ 1000
def lessV (k : Nat) (a b : Codes) : Bool := if k = 0 then decide (nval a < nval b) else decide (normV k a < normV k b)
def sp_is_less : Sp := pureSp (fun (x : Nat × Codes × Codes) _ vs _ => vs = [sv (synC x.1), sv x.2.1, sv x.2.2] ∧ x.1 ≤ 2 ∧ okV x.1 x.2.1 ∧ okV x.1 x.2.2) (fun x => is (.bl (lessV x.1 x.2.1 x.2.2)))
theorem ok_num {k : Nat} {a : Codes} (h : okV k a) (hk : k = 0) : isNum a := by
  unfold okV at h
  rw [if_pos hk] at h
  exact h
theorem ok_txt {k : Nat} {a : Codes} (h : okV k a) (hk : k ≠ 0) : prn a ∧ a.length ≤ 1000 := by
  unfold okV at h
  rw [if_neg hk] at h
  exact h
theorem c_is_less (T : Tx K mg) : Cal P w K mg base 6 "is_less" ["syntax", "one", "other"] (sp_is_less) := by
  have C_normal := c_normal (P := P) (w := w) (base := base) T
  refine T.d_is_less.cal sc_is_less (fun vs H Q E h => ?_) (fun _ _ _ _ _ _ us hl => match us, hl with | [_, _, _], _ => rfl) (fun f cdv A outer s H vs Q E hr h => ?_)
  · obtain ⟨R, n, x, _, ⟨rfl, _⟩, _⟩ := h
    rfl
  · obtain ⟨R, n, ⟨k, a, b⟩, hj, ⟨rfl, hk, ha, hb⟩, q⟩ := h
    refine ⟨_, (pss_cons (ps_if (pt_cmpR (cm_Eq (K := K) hr.units) (pv 0) pe_str (nomark _)) (pss_one (ps_ret (pe_cmpR cm_Lt (pe_callTy call_intA (by rfl) T.b_int (by decide +kernel) (pa_cons (pv 1) pa_nil)) (pe_callTy call_intA (by rfl) T.b_int (by decide +kernel) (pa_cons (pv 2) pa_nil)) (nomark _)))) pss_nil)
      (pss_one (ps_ret (pe_cmpR cm_Lt (pe_callC C_normal (hr.mono (by decide)) (by rfl) (pa_cons (pv 0) (pa_cons (pv 1) pa_nil))) (pe_callC C_normal (hr.mono (by decide)) (by rfl) (pa_cons (pv 0) (pa_cons (pv 2) pa_nil))) (nomark _))))), ?_⟩
    refine StF.run (R := R) (n := n) ?_ hj
    have hk : k ≤ 2 := hk
    have ha : okV k a := ha
    have hb : okV k b := hb
    refine q_whenB (m := n) (b := decide (k = 0)) (et_is (et_test (ev_op2 (m := n) (x := sv (synC k)) (y := sv (synC 0)) (ev_var rfl) (ev_str (by decide +kernel)) fun H3 _ => rv_eqS)) (by
      have : k = 0 ∨ k = 1 ∨ k = 2 := by omega
      rcases this with rfl | rfl | rfl <;> decide)) (fun hz => ?_) (fun hz => ?_)
    · have hz := of_decide_eq_true hz
      have na := ok_num ha hz
      have nb := ok_num hb hz
      refine s_ret (m := n) (p := is (.bl (lessV k a b))) ?_ q
      refine ev_is (ev_op2 (m := n) (x := .int (nval a)) (y := .int (nval b)) (ev_intS (ev_var rfl) (int_of_num na) (Nat.le_trans na.2 (by decide))) (ev_intS (ev_var rfl) (int_of_num nb) (Nat.le_trans nb.2 (by decide))) fun H3 _ => rv_ltI) ?_
      unfold lessV
      rw [if_pos hz]
    · have hz := of_decide_eq_false hz
      obtain ⟨pa, la⟩ := ok_txt ha hz
      obtain ⟨pb, lb⟩ := ok_txt hb hz
      have hk2 : k = 1 ∨ k = 2 := by omega
      refine s_ret (m := n) (p := is (.bl (lessV k a b))) ?_ q
      have hn : ∀ (c : Codes) (i : Nat), prn c → c.length ≤ 1000 → ([some (sv (synC k)), some (sv a), some (sv b)] : L2.St)[i]? = some (some (sv c)) → EvP R n n (tCall sp_normal [] E0 (tCons (tVar 0) (tCons (tVar i) tNil))) [some (sv (synC k)), some (sv a), some (sv b)] H (is (sv (normV k c))) := fun c i pc lc hi =>
        ev_pure (post := fun x : Nat × Codes => is (sv (normV x.1 x.2))) (k, c) (ea_cons (ev_var (v := sv (synC k)) rfl) (ea_cons (ev_var hi) ea_nil)) fun vs H1 _ hv => by
          obtain ⟨v, w, rfl, hv, hw⟩ := two hv
          exact ⟨by rw [show v = _ from hv, show w = _ from hw], hk2, prn_asc pc, lc⟩
      refine ev_is (ev_op2 (m := n) (x := sv (normV k a)) (y := sv (normV k b)) (hn a 1 pa la rfl) (hn b 2 pb lb rfl) fun H3 _ => rv_ltS) ?_
      unfold lessV
      rw [if_neg hz]
/-! ### the law's numbers -/
abbrev N_l_number_is_less : List Str := ["_law_one", "_law_two"]
theorem sc_l_number_is_less : FnScope N_l_number_is_less ["_law_one", "_law_two"] (defScope s_l_number_is_less) := ⟨rfl, rfl, rfl, by decide +kernel, rfl, by decide +kernel, by decide +kernel⟩
-- slots: 0 _law_one, 1 _law_two
def sp_l_number0 : Sp := pureSp (fun (x : Codes × Codes) _ vs _ => vs = [sv x.1, sv x.2] ∧ (num0 x.1 ∧ x.1.length ≤ 600) ∧ num0 x.2 ∧ x.2.length ≤ 600) (fun x => is (.bl (numLess0 x.1 x.2)))
def sp_l_number_is_less : Sp := pureSp (fun (x : Codes × Codes) _ vs _ => vs = [sv x.1, sv x.2] ∧ isNum x.1 ∧ isNum x.2) (fun x => is (.bl (numLess x.1 x.2)))
theorem head_at {a : Codes} (h : a ≠ []) : ∃ c, a.head? = some c ∧ atI a 0 = some c := by
  cases a with
  | nil => exact absurd rfl h
  | cons c r => exact ⟨c, rfl, atI_ge (j := 0) rfl⟩
theorem ev_head {R : Rel} {n : Nat} {σ : L2.St} {H : Hp} {i : Nat} {a : Codes} (hi : σ[i]? = some (some (sv a))) (hne : a ≠ []) (hl : a.length ≤ 600) : EvT R n n (tTest (tOp (rEqU K) (tOp (rIx K) (tVar i) (tC (.int 0))) (tC (.str "-")))) σ H (· = decide (a.head? = some 45)) := by
  obtain ⟨c, h1, h2⟩ := head_at hne
  refine et_is (et_test (ev_op2 (m := n) (x := sv [c]) (y := sv [45]) (ev_op2 (m := n) (x := sv a) (y := .int 0) (ev_var hi) ev_c fun H3 _ => rv_ixS (by omega) h2) (ev_str (by decide +kernel)) fun H3 _ => rv_eqS)) ?_
  rw [h1]
  by_cases h : c = 45
  · rw [h]; rfl
  · rw [decide_eq_false fun z => h (List.cons.inj z).1, decide_eq_false fun z => h (Option.some.inj z)]
theorem ev_headV {R : Rel} {n : Nat} {σ : L2.St} {H : Hp} {i : Nat} {a : Codes} (hi : σ[i]? = some (some (sv a))) (hne : a ≠ []) (hl : a.length ≤ 600) : EvP R n n (tOp (rEqU K) (tOp (rIx K) (tVar i) (tC (.int 0))) (tC (.str "-"))) σ H (is (.bl (decide (a.head? = some 45)))) := by
  obtain ⟨c, h1, h2⟩ := head_at hne
  refine ev_is (ev_op2 (m := n) (x := sv [c]) (y := sv [45]) (ev_op2 (m := n) (x := sv a) (y := .int 0) (ev_var hi) ev_c fun H3 _ => rv_ixS (by omega) h2) (ev_str (by decide +kernel)) fun H3 _ => rv_eqS) ?_
  rw [h1]
  by_cases h : c = 45
  · rw [h]; rfl
  · rw [decide_eq_false fun z => h (List.cons.inj z).1, decide_eq_false fun z => h (Option.some.inj z)]
theorem ev_lens {R : Rel} {n : Nat} {H : Hp} {a b : Codes} (ha : a.length ≤ 600) (hb : b.length ≤ 600) : EvP R n n (tOrV (tOp rLtU (tCB (rLenU K) (tCons (tVar 0) tNil)) (tCB (rLenU K) (tCons (tVar 1) tNil))) (tAndV (tOp (rEqU K) (tCB (rLenU K) (tCons (tVar 0) tNil)) (tCB (rLenU K) (tCons (tVar 1) tNil))) (tOp rLtU (tVar 0) (tVar 1)))) [some (sv a), some (sv b)] H (is (.bl (numLess0 a b))) := by
  have l0 : EvP R n n (tCB (rLenU K) (tCons (tVar 0) tNil)) [some (sv a), some (sv b)] H (is (.int (a.length : Int))) := ev_lenS (ev_var rfl) (by omega)
  have l1 : EvP R n n (tCB (rLenU K) (tCons (tVar 1) tNil)) [some (sv a), some (sv b)] H (is (.int (b.length : Int))) := ev_lenS (ev_var rfl) (by omega)
  unfold numLess0
  refine ev_orV (ev_is (ev_op2 (m := n) l0 l1 fun H3 _ => rv_ltI) ?_) fun _ => ev_andV (ev_is (ev_op2 (m := n) l0 l1 fun H3 _ => rv_eqI) ?_) fun _ => ev_op2 (m := n) (x := sv a) (y := sv b) (ev_var rfl) (ev_var rfl) fun H3 _ => rv_ltS
  · by_cases h : a.length < b.length
    · rw [decide_eq_true h, decide_eq_true (by omega)]
    · rw [decide_eq_false h, decide_eq_false (by omega)]
  · by_cases h : a.length = b.length
    · rw [decide_eq_true h, decide_eq_true (by omega)]
    · rw [decide_eq_false h, decide_eq_false (by omega)]
theorem c_l_number0 (T : Tx K mg) : Cal P w K mg base 1 "_law_number_is_less" ["_law_one", "_law_two"] sp_l_number0 := by
  refine T.d_l_number_is_less.cal sc_l_number_is_less (fun vs H Q E h => ?_) (fun _ _ _ _ _ _ us hl => match us, hl with | [_, _], _ => rfl) (fun f cdv A outer s H vs Q E hr h => ?_)
  · obtain ⟨R, n, x, _, ⟨rfl, _⟩, _⟩ := h
    rfl
  · obtain ⟨R, n, ⟨a, b⟩, hj, ⟨rfl, ⟨ha, la⟩, hb, lb⟩, q⟩ := h
    refine ⟨_, (pss_cons (ps_if (PW.pt (pw_and (pt_cmpR (cm_Eq (K := K) hr.units) (pe_ix (ix_any (K := K)) (pv 0) pe_int (fun _ _ => rfl)) pe_str (nomark _)) (pw_and1 (pt_cmpR (cm_Eq (K := K) hr.units) (pe_ix (ix_any (K := K)) (pv 1) pe_int (fun _ _ => rfl)) pe_str (nomark _))))) (pss_one ps_never) pss_nil)
      (pss_cons (ps_if (PW.pt (pw_or (pt_cmpR (cm_Eq (K := K) hr.units) (pe_ix (ix_any (K := K)) (pv 0) pe_int (fun _ _ => rfl)) pe_str (nomark _)) (pw_or1 (pt_cmpR (cm_Eq (K := K) hr.units) (pe_ix (ix_any (K := K)) (pv 1) pe_int (fun _ _ => rfl)) pe_str (nomark _))))) (pss_one (ps_ret (pe_cmpR (cm_Eq (K := K) hr.units) (pe_ix (ix_any (K := K)) (pv 0) pe_int (fun _ _ => rfl)) pe_str (nomark _)))) pss_nil)
      (pss_one (ps_ret (pe_or (pe_cmpR cm_Lt (pe_callB (call_lenA (K := K)) (by rfl) T.b_len (by decide +kernel) (pa_cons (pv 0) pa_nil)) (pe_callB (call_lenA (K := K)) (by rfl) T.b_len (by decide +kernel) (pa_cons (pv 1) pa_nil)) (nomark _)) (pe_one (pe_and (pe_cmpR (cm_Eq (K := K) hr.units) (pe_callB (call_lenA (K := K)) (by rfl) T.b_len (by decide +kernel) (pa_cons (pv 0) pa_nil)) (pe_callB (call_lenA (K := K)) (by rfl) T.b_len (by decide +kernel) (pa_cons (pv 1) pa_nil)) (nomark _)) (pe_one (pe_cmpR cm_Lt (pv 0) (pv 1) (nomark _)))))))))), ?_⟩
    have ha : num0 a := ha
    have hb : num0 b := hb
    refine StF.run (R := R) (n := n) ?_ hj
    refine q_whenB (m := n) (b := decide (a.head? = some 45) && decide (b.head? = some 45)) (et_and (ev_head rfl ha.2.1 la) fun _ => ev_head rfl hb.2.1 lb) (fun hz => ?_) (fun _ => ?_)
    · rw [decide_eq_false (head45 ha)] at hz
      cases hz
    · refine q_whenB (m := n) (b := decide (a.head? = some 45) || decide (b.head? = some 45)) (et_or (ev_head rfl ha.2.1 la) fun _ => ev_head rfl hb.2.1 lb) (fun hz => ?_) (fun _ => ?_)
      · rw [decide_eq_false (head45 ha), decide_eq_false (head45 hb)] at hz
        cases hz
      · exact s_ret (m := n) (ev_lens la lb) q
theorem isNum_ne {a : Codes} (h : isNum a) : a ≠ [] := by
  rcases h.1 with h | ⟨d, rfl, _⟩
  · exact h.2.1
  · simp
theorem c_l_number_is_less (T : Tx K mg) : Cal P w K mg base 3 "_law_number_is_less" ["_law_one", "_law_two"] sp_l_number_is_less := by
  have C_l_number_is_less := c_l_number0 (P := P) (w := w) (base := base) T
  refine T.d_l_number_is_less.cal sc_l_number_is_less (fun vs H Q E h => ?_) (fun _ _ _ _ _ _ us hl => match us, hl with | [_, _], _ => rfl) (fun f cdv A outer s H vs Q E hr h => ?_)
  · obtain ⟨R, n, x, _, ⟨rfl, _⟩, _⟩ := h
    rfl
  · obtain ⟨R, n, ⟨a, b⟩, hj, ⟨rfl, ha, hb⟩, q⟩ := h
    refine ⟨_, (pss_cons (ps_if (PW.pt (pw_and (pt_cmpR (cm_Eq (K := K) hr.units) (pe_ix (ix_any (K := K)) (pv 0) pe_int (fun _ _ => rfl)) pe_str (nomark _)) (pw_and1 (pt_cmpR (cm_Eq (K := K) hr.units) (pe_ix (ix_any (K := K)) (pv 1) pe_int (fun _ _ => rfl)) pe_str (nomark _))))) (pss_one (ps_ret (pe_callC C_l_number_is_less (hr.mono (by decide)) (by rfl) (pa_cons (pe_slice (sl_any (K := K)) (pv 1) (po_some pe_int) po_none) (pa_cons (pe_slice (sl_any (K := K)) (pv 0) (po_some pe_int) po_none) pa_nil))))) pss_nil)
      (pss_cons (ps_if (PW.pt (pw_or (pt_cmpR (cm_Eq (K := K) hr.units) (pe_ix (ix_any (K := K)) (pv 0) pe_int (fun _ _ => rfl)) pe_str (nomark _)) (pw_or1 (pt_cmpR (cm_Eq (K := K) hr.units) (pe_ix (ix_any (K := K)) (pv 1) pe_int (fun _ _ => rfl)) pe_str (nomark _))))) (pss_one (ps_ret (pe_cmpR (cm_Eq (K := K) hr.units) (pe_ix (ix_any (K := K)) (pv 0) pe_int (fun _ _ => rfl)) pe_str (nomark _)))) pss_nil)
      (pss_one (ps_ret (pe_or (pe_cmpR cm_Lt (pe_callB (call_lenA (K := K)) (by rfl) T.b_len (by decide +kernel) (pa_cons (pv 0) pa_nil)) (pe_callB (call_lenA (K := K)) (by rfl) T.b_len (by decide +kernel) (pa_cons (pv 1) pa_nil)) (nomark _)) (pe_one (pe_and (pe_cmpR (cm_Eq (K := K) hr.units) (pe_callB (call_lenA (K := K)) (by rfl) T.b_len (by decide +kernel) (pa_cons (pv 0) pa_nil)) (pe_callB (call_lenA (K := K)) (by rfl) T.b_len (by decide +kernel) (pa_cons (pv 1) pa_nil)) (nomark _)) (pe_one (pe_cmpR cm_Lt (pv 0) (pv 1) (nomark _)))))))))), ?_⟩
    have ha : isNum a := ha
    have hb : isNum b := hb
    have la := ha.2
    have lb := hb.2
    refine StF.run (R := R) (n := n) ?_ hj
    have q : ∀ v H', R.ok n H H' → (is (.bl (numLess a b))).P R.M v H' → Q v H' := q
    refine q_whenB (m := n) (b := decide (a.head? = some 45) && decide (b.head? = some 45)) (et_and (ev_head rfl (isNum_ne ha) la) fun _ => ev_head rfl (isNum_ne hb) lb) (fun hz => ?_) (fun hz => ?_)
    · rw [Bool.and_eq_true, decide_eq_true_eq, decide_eq_true_eq] at hz
      unfold numLess at q
      rw [if_pos hz] at q
      obtain ⟨z1, z2⟩ := hz
      rcases ha.1 with h | ⟨d, rfl, hd, _⟩
      · exact absurd z1 (head45 h)
      rcases hb.1 with h | ⟨e, rfl, he, _⟩
      · exact absurd z2 (head45 h)
      refine s_ret (m := n) (p := is (.bl (numLess0 e d))) ?_ q
      have hsl : ∀ (c : Codes) (i : Nat), (45 :: c).length ≤ 600 → ([some (sv (45 :: d)), some (sv (45 :: e))] : L2.St)[i]? = some (some (sv (45 :: c))) → EvP R n n (tSl (rSlU K) (tVar i) (tPart (tC (.int 1))) tNoPart) [some (sv (45 :: d)), some (sv (45 :: e))] H (is (sv c)) := fun c i lc hi =>
        ev_is (ev_sl (m := n) (k := n) (p := is (sv (45 :: c))) (ev_var hi) (eo_some ev_c) eo_none fun x H3 _ hx => by rw [show x = sv (45 :: c) from hx]; exact rs_S (by omega)) (by rw [sl_from (by decide)]; rfl)
      exact ev_pure (post := fun x : Codes × Codes => is (.bl (numLess0 x.1 x.2))) (e, d) (ea_cons (hsl e 1 lb rfl) (ea_cons (hsl d 0 la rfl) ea_nil)) fun vs H1 _ hv => by
        obtain ⟨v, w, rfl, hv, hw⟩ := two hv
        simp only [List.length_cons] at la lb
        exact ⟨by rw [show v = _ from hv, show w = _ from hw], ⟨he, by show e.length ≤ 600; omega⟩, hd, by show d.length ≤ 600; omega⟩
    · have hz2 : ¬ (a.head? = some 45 ∧ b.head? = some 45) := fun z => by rw [decide_eq_true z.1, decide_eq_true z.2] at hz; cases hz
      unfold numLess at q
      rw [if_neg hz2] at q
      refine q_whenB (m := n) (b := decide (a.head? = some 45) || decide (b.head? = some 45)) (et_or (ev_head rfl (isNum_ne ha) la) fun _ => ev_head rfl (isNum_ne hb) lb) (fun hz => ?_) (fun hz => ?_)
      · rw [Bool.or_eq_true, decide_eq_true_eq, decide_eq_true_eq] at hz
        rw [if_pos hz] at q
        exact s_ret (m := n) (ev_headV rfl (isNum_ne ha) la) q
      · have hz3 : ¬ (a.head? = some 45 ∨ b.head? = some 45) := fun z => by
          rcases z with z | z <;> rw [decide_eq_true z] at hz <;> simp at hz
        rw [if_neg hz3] at q
        exact s_ret (m := n) (ev_lens la lb) q
abbrev N_l_is_less : List Str := ["_law_form", "_law_one", "_law_two"]
theorem sc_l_is_less : FnScope N_l_is_less ["_law_form", "_law_one", "_law_two"] (defScope s_l_is_less) := ⟨rfl, rfl, rfl, by decide +kernel, rfl, by decide +kernel, by decide +kernel⟩
-- slots: 0 _law_form, 1 _law_one, 2 _law_two
def sp_l_is_less : Sp := pureSp (fun (x : Nat × Codes × Codes) _ vs _ => vs = [sv (synC x.1), sv x.2.1, sv x.2.2] ∧ x.1 ≤ 2 ∧ okV x.1 x.2.1 ∧ okV x.1 x.2.2) (fun x => is (.bl (lessV x.1 x.2.1 x.2.2)))
theorem c_l_is_less (T : Tx K mg) : Cal P w K mg base 4 "_law_is_less" ["_law_form", "_law_one", "_law_two"] (sp_l_is_less) := by
  have C_l_number_is_less := c_l_number_is_less (P := P) (w := w) (base := base) T
  have C_l_low := c_l_low (P := P) (w := w) (base := base) T
  refine T.d_l_is_less.cal sc_l_is_less (fun vs H Q E h => ?_) (fun _ _ _ _ _ _ us hl => match us, hl with | [_, _, _], _ => rfl) (fun f cdv A outer s H vs Q E hr h => ?_)
  · obtain ⟨R, n, x, _, ⟨rfl, _⟩, _⟩ := h
    rfl
  · obtain ⟨R, n, ⟨k, a, b⟩, hj, ⟨rfl, hk, ha, hb⟩, q⟩ := h
    refine ⟨_, (pss_cons (ps_if (pt_cmpR (cm_Eq (K := K) hr.units) (pv 0) pe_str (nomark _)) (pss_one (ps_ret (pe_callC C_l_number_is_less (hr.mono (by decide)) (by rfl) (pa_cons (pv 1) (pa_cons (pv 2) pa_nil))))) pss_nil)
      (pss_one (ps_ret (pe_ifExp (pt_cmpR (cm_Eq (K := K) hr.units) (pv 0) pe_str (nomark _)) (pe_cmpR cm_Lt (pe_callC C_l_low (hr.mono (by decide)) (by rfl) (pa_cons (pv 1) pa_nil)) (pe_callC C_l_low (hr.mono (by decide)) (by rfl) (pa_cons (pv 2) pa_nil)) (nomark _)) (pe_cmpR cm_Lt (pv 1) (pv 2) (nomark _)))))), ?_⟩
    refine StF.run (R := R) (n := n) ?_ hj
    have hk : k ≤ 2 := hk
    have ha : okV k a := ha
    have hb : okV k b := hb
    have q : ∀ v H', R.ok n H H' → (is (.bl (lessV k a b))).P R.M v H' → Q v H' := q
    have h3 : k = 0 ∨ k = 1 ∨ k = 2 := by omega
    refine q_whenB (m := n) (b := decide (k = 0)) (et_is (et_test (ev_op2 (m := n) (x := sv (synC k)) (y := sv (synC 0)) (ev_var rfl) (ev_str (by decide +kernel)) fun H3 _ => rv_eqS)) (by
      rcases h3 with rfl | rfl | rfl <;> decide)) (fun hz => ?_) (fun hz => ?_)
    · have hz := of_decide_eq_true hz
      have na := ok_num ha hz
      have nb := ok_num hb hz
      unfold lessV at q
      rw [if_pos hz, ← numLess_val na nb] at q
      refine s_ret (m := n) (p := is (.bl (numLess a b))) ?_ q
      exact ev_pure (post := fun x : Codes × Codes => is (.bl (numLess x.1 x.2))) (a, b) (ea_cons (ev_var (v := sv a) rfl) (ea_cons (ev_var (v := sv b) rfl) ea_nil)) fun vs H1 _ hv => by
        obtain ⟨v, w, rfl, hv, hw⟩ := two hv
        exact ⟨by rw [show v = _ from hv, show w = _ from hw], na, nb⟩
    · have hz := of_decide_eq_false hz
      obtain ⟨pa, la⟩ := ok_txt ha hz
      obtain ⟨pb, lb⟩ := ok_txt hb hz
      unfold lessV at q
      rw [if_neg hz] at q
      refine s_ret (m := n) (p := is (.bl (decide (normV k a < normV k b)))) ?_ q
      refine ev_ifB (m := n) (b := decide (k = 1)) (et_is (et_test (ev_op2 (m := n) (x := sv (synC k)) (y := sv (synC 1)) (ev_var rfl) (ev_str (by decide +kernel)) fun H3 _ => rv_eqS)) (by
        rcases h3 with rfl | rfl | rfl <;> decide)) (fun h1 => ?_) (fun h1 => ?_)
      · have h1 := of_decide_eq_true h1
        unfold normV
        rw [if_pos h1, if_pos h1]
        have hn : ∀ (c : Codes) (i : Nat), prn c → c.length ≤ 1000 → ([some (sv (synC k)), some (sv a), some (sv b)] : L2.St)[i]? = some (some (sv c)) → EvP R n n (tCall sp_l_low [] E0 (tCons (tVar i) tNil)) [some (sv (synC k)), some (sv a), some (sv b)] H (is (sv (plainL c))) := fun c i pc lc hi =>
          ev_pure (post := fun x : Codes => is (sv (plainL x))) c (ea_cons (ev_var hi) ea_nil) fun vs H1 _ hv => by
            obtain ⟨v, rfl, hv1⟩ := one hv
            exact ⟨by rw [show v = _ from hv1], prn_asc pc, lc⟩
        exact ev_op2 (m := n) (x := sv (plainL a)) (y := sv (plainL b)) (hn a 1 pa la rfl) (hn b 2 pb lb rfl) fun H3 _ => rv_ltS
      · have h1 := of_decide_eq_false h1
        unfold normV
        rw [if_neg h1, if_neg h1]
        exact ev_op2 (m := n) (x := sv a) (y := sv b) (ev_var rfl) (ev_var rfl) fun H3 _ => rv_ltS

end
end My
namespace My
open PySem PySem.Spec PyProof.Rows L2
section
variable {P : Program} {w : World} {K : PySem.W.Frag} {mg : Str → Option Value} {base : Heap}
/-! ### tools of laws -/
theorem HasSrc.at {R : Rel} {a l : Addr} {xs : List V} (s : HasSrc R a) (hm : ¬ R.M l) : HasSrc (R.at l xs) a := by
  refine ⟨.inl s.m, fun n H j => s.get n H j.1, fun n m H o j hm' h => ⟨s.put n m H o j.1 hm' h, ?_⟩⟩
  have ne : l ≠ a := fun e => hm (by rw [e]; exact s.m)
  rw [upd_ne ne]
  exact j.2
theorem HasSrc.off {R : Rel} {a l : Addr} (s : HasSrc R a) (hm : ¬ R.M l) : HasSrc (R.off l) a := by
  refine ⟨.inl s.m, fun n H j => s.get n H j.1, fun n m H o j hm' h => ⟨s.put n m H o j.1 hm' h, ?_⟩⟩
  have ne : l ≠ a := fun e => hm (by rw [e]; exact s.m)
  obtain ⟨xs, hx⟩ := j.2
  exact ⟨xs, by rw [upd_ne ne]; exact hx⟩
/-- a def that draws, its argument known only when it has come -/
theorem ev_drawX {α : Type} {cost : α → Nat} {args : α → Addr → (Addr → Prop) → List V → Hp → Prop} {post : α → SP} {R : Rel} {n m k : Nat} {a : Addr} {tar : TA} {ps : List SP} {σ : L2.St} {H : Hp} {s : SP} (hs : HasSrc R a) (h : EvA R n m tar σ H ps)
    (ha : ∀ vs H1, R.ok m H H1 → Paired (fun v (p : SP) => p.P R.M v H1) vs ps → ∃ x, k + cost x ≤ m ∧ args x a R.M vs H1 ∧ ∀ v H', (post x).P R.M v H' → s.P R.M v H') : EvP R n k (tCall (drawSp cost args post) [] E0 tar) σ H s :=
  ev_call h fun vs H1 e hv Q f => by
    obtain ⟨x, h1, h2, h3⟩ := ha vs H1 e hv
    exact ⟨R, a, k, x, hs, R.dec e.1 h1, h2, fun v H' e' h' => f v H' e' (h3 v H' h')⟩
/-- texts by a property, one behind another -/
theorem paired_tx {M : Addr → Prop} {H : Hp} {α : Type} {F : Codes → Prop} : ∀ {xs : List V} {ys : List α}, Paired (fun v _ => (tx F).P M v H) xs ys → ∃ ls : List Codes, xs = ls.map sv ∧ ls.length = ys.length ∧ ∀ s ∈ ls, F s
  | _, _, .nil => ⟨[], rfl, rfl, fun s h => by cases h⟩
  | _, _, .cons a b => by
    obtain ⟨ls, rfl, hl, hF⟩ := paired_tx b
    obtain ⟨s, rfl, hs⟩ := a
    refine ⟨s :: ls, rfl, by rw [List.length_cons, List.length_cons, hl], fun t ht => ?_⟩
    rcases List.mem_cons.mp ht with rfl | ht
    · exact hs
    · exact hF t ht
theorem joinL_flat : ∀ ls : List Codes, TL.joinL [] ls = ls.flatten
  | [] => rfl
  | [x] => by rw [joinL_one]; simp
  | x :: y :: r => by rw [joinL_cons2, List.append_nil, joinL_flat (y :: r)]; rfl
/-- all these sources -/
def allR (ps : List Addr) : Rel where
  M := (· ∈ ps)
  J := fun n H => ∀ p ∈ ps, srcJ p n H
  alive := by
    intro n H b j m
    obtain ⟨c, k, d, h, _⟩ := j b m
    rw [h]
    exact fun z => nomatch z
  loc := by
    intro n H H' j e p hp
    obtain ⟨c, k, d, h, r⟩ := j p hp
    exact ⟨c, k, d, (e p hp).trans h, r⟩
  dec := by
    intro n m H j h p hp
    obtain ⟨c, k, d, e, r1, r2⟩ := j p hp
    exact ⟨c, k, d, e, r1, by omega⟩
theorem allSrc {ps : List Addr} {a : Addr} (h : a ∈ ps) : HasSrc (allR ps) a := by
  refine ⟨h, fun n H j => j a h, fun n m H o j hm hs p hp => ?_⟩
  by_cases e : p = a
  · rw [e]
    exact hs
  · obtain ⟨c, k, d, h1, r1, r2⟩ := j p hp
    exact ⟨c, k, d, by rw [upd_ne e]; exact h1, r1, by omega⟩
/-- what _law_rounds leaves -/
theorem srcs_of {H : Hp} {α : Type} : ∀ {xs : List V} {ys : List α}, Paired (fun v _ => (lstG isSrc3).P exR.M v H) xs ys → ∃ ps : List Addr, xs = ps.map V.ref ∧ ps.length = ys.length ∧ ∀ p ∈ ps, ∃ c k d : Int, H p = some (.lst [.int c, .int k, .int d]) ∧ 0 ≤ k ∧ k ≤ 300
  | _, _, .nil => ⟨[], rfl, rfl, fun s h => by cases h⟩
  | _, _, .cons a b => by
    obtain ⟨ps, rfl, hl, hF⟩ := srcs_of b
    obtain ⟨p, ys, rfl, hp, c, k, d, rfl, h0, h1⟩ := a
    refine ⟨p :: ps, rfl, by rw [List.length_cons, List.length_cons, hl], fun t ht => ?_⟩
    rcases List.mem_cons.mp ht with rfl | ht
    · exact ⟨c, k, d, hp.1, h0, h1⟩
    · exact hF t ht
theorem allR_start {H : Hp} {ps : List Addr} {n : Nat} (h : ∀ p ∈ ps, ∃ c k d : Int, H p = some (.lst [.int c, .int k, .int d]) ∧ 0 ≤ k ∧ k ≤ 300) (hn : n ≤ 1000000000) : (allR ps).J n H := fun p hp => by
  obtain ⟨c, k, d, e, r1, r2⟩ := h p hp
  exact ⟨c, k, d, e, r1, by omega⟩
/-- the list of the sources is none of them -/
theorem src_not {H : Hp} {ps : List Addr} {L : Addr} (hL : H L = some (.lst (ps.map V.ref))) (h : ∀ p ∈ ps, ∃ c k d : Int, H p = some (.lst [.int c, .int k, .int d]) ∧ 0 ≤ k ∧ k ≤ 300) : ¬ (allR ps).M L := fun hm => by
  obtain ⟨c, k, d, e, _⟩ := h L hm
  rw [hL] at e
  cases ps with
  | nil => cases hm
  | cons p ps => cases e
/-- over a tuple that is told by its properties -/
theorem it_tupP {R : Rel} {n m : Nat} {te : TE} {σ : L2.St} {H : Hp} {α : Type} {pe : α → SP} {ys : List α} (ha : EvP R n m te σ H (tupP K pe ys)) : ItP R n m (iAny K te) σ H (ys.map pe) := fun H1 e Rk k => .inr (.inl (ha H1 e _ fun v H2 e2 hv => by
  obtain ⟨l, xs, rfl, h2, hp⟩ := hv
  have hlen : xs.length = ys.length := hp.length
  refine ⟨l, rfl, ⟨xs, h2.sq⟩, k _ H2 e2 ⟨fun M' i H' e' hi => ?_, fun M' i H' x H'' e' hi hy => ?_, fun M' H' e' => ?_⟩⟩
  · rw [List.length_map, ← hlen] at hi
    exact ⟨xs, _, ((h2.lift e'.w).st e'.pr).sq, List.getElem?_eq_getElem hi⟩
  · obtain ⟨rfl, f⟩ := hy
    refine ⟨Evl.Ex.refl _, fun y hy => ?_⟩
    have q := f _ ((h2.lift e'.w).st e'.pr).sq
    rw [List.getElem?_map] at hy
    obtain ⟨w, hw, rfl⟩ := Option.map_eq_some_iff.mp hy
    exact e'.get (paired_at (F := fun v y => (pe y).P R.M v H2) hp q hw)
  · exact ⟨xs, ((h2.lift e'.w).st e'.pr).sq, by rw [List.length_map, ← hlen]; exact Nat.le_refl _⟩))
/-- the law's promise -/
def sp_law (K : PySem.W.Frag) : Sp := fun vs H Q _ => ∃ (a : Addr) (ns : List Int), vs = [.ref a] ∧ SqL K H a (ns.map V.int) ∧ ns.length ≤ 63 ∧ ∀ H', Q (.bl true) H'
/-- isinstance(x, bool) of a bool -/
theorem ev_isBool {R : Rel} {n m k : Nat} {ta tb : TE} {σ : L2.St} {H : Hp} {b : Bool} (ha : EvP R n m ta σ H (is (.bl b))) (hb : EvP R m k tb σ H (is (.ty "bool"))) : EvP R n k (tCB (rIsi K) (tCons ta (tCons tb tNil))) σ H (is (.bl true)) :=
  ev_isi ha hb (.ty "bool") (fun v H1 _ hv => by
    have hv : v = .bl b := hv
    subst hv
    exact .base (.bl b)) (kit_ty (by decide +kernel))
/-! ### a list of texts that grows by one a turn -/
def GrowP (R : Rel) (l : Addr) (c d N len0 : Nat) (Pt : Codes → Prop) (Iv : Nat → L2.St → Prop) (B : Hp) (i : Nat) (σ' : L2.St) (H' : Hp) : Prop :=
  (R.off l).ok (c + (N - i) * d) B H' ∧ ∃ ls : List Codes, H' l = some (.lst (ls.map sv)) ∧ ls.length = len0 + i ∧ (∀ s ∈ ls, Pt s) ∧ Iv i σ'
theorem s_grow {R : Rel} {n : Nat} {wi : TI} {vs : List V} {j l : Addr} {σ : L2.St} {H : Hp} {D : Ends} {tu : TS} {ls0 : List Codes} {Pt : Codes → Prop} (c d : Nat) (hP : ∀ s ∈ ls0, Pt s) (hi : ItP (R.at l (ls0.map sv)) n (c + vs.length * d) wi σ H (vs.map is)) (Iv : Nat → L2.St → Prop) (h0 : Iv 0 σ)
    (hs : ∀ B i w σ' H' (ls : List Codes), (R.off l).ok (c + (vs.length - i) * d) B H' → vs[i]? = some w → Iv i σ' → H' l = some (.lst (ls.map sv)) → ls.length = ls0.length + i → (∀ s ∈ ls, Pt s) → StF (R.at l (ls.map sv)) (c + (vs.length - i) * d) tu { D with nx := GrowP R l c d vs.length ls0.length Pt Iv B (i + 1), ct := GrowP R l c d vs.length ls0.length Pt Iv B (i + 1), bk := D.nx } (σ'.set j (some w)) H')
    (hd : ∀ σ' H' (ls : List Codes), (R.off l).ok c H H' → Iv vs.length σ' → H' l = some (.lst (ls.map sv)) → ls.length = ls0.length + vs.length → (∀ s ∈ ls, Pt s) → D.nx σ' H') : StF (R.at l (ls0.map sv)) n (tFor wi (gName j) tu) D σ H := by
  refine s_for2 (R := R.off l) (R1 := R.at l (ls0.map sv)) (c := fun i => c + (vs.length - i) * d) (fun _ m => m) hi (GrowP R l c d vs.length ls0.length Pt Iv) (fun B i σ' H' h => h.1) (fun B e => ⟨⟨⟨e.1.1, _, e.1.2⟩, pres.refl B⟩, ls0, e.1.2, rfl, hP, h0⟩) (fun B i y σ' H' x H'' eb hy hG hx hyx => ?_) (fun B σ' H' eb hG => ?_)
  · obtain ⟨er, ls, h1, h2, h3, h4⟩ := hG
    rw [List.getElem?_map] at hy
    obtain ⟨w, hw, rfl⟩ := Option.map_eq_some_iff.mp hy
    have hyx : x = w := hyx
    subst hyx
    have er2 := (R.off l).trans er ((R.off l).ex er.1 hx)
    have h1' := hx l _ h1
    exact (hs B i x σ' H'' ls er2 hw h4 h1' h2 h3).run ⟨er2.1.1, h1'⟩
  · obtain ⟨er, ls, h1, h2, h3, h4⟩ := hG
    rw [List.length_map] at er h2 h4
    rw [Nat.sub_self, Nat.zero_mul, Nat.add_zero] at er
    exact hd σ' H' ls ⟨er.1, eb.2.trans er.2⟩ h4 h1 h2 h3
theorem grow_end {R : Rel} {l : Addr} {c d N len0 i k : Nat} {Pt : Codes → Prop} {Iv : Nat → L2.St → Prop} {B H' H3 : Hp} {σ2 : L2.St} {ls : List Codes} {s : Codes} (er : (R.off l).ok k B H') (e3 : (R.at l (ls.map sv)).ok (c + (N - (i + 1)) * d) H' H3) (hm : ¬ R.M l) (hlen : ls.length = len0 + i) (hP : ∀ s ∈ ls, Pt s) (hs : Pt s) (hI : Iv (i + 1) σ2) :
    GrowP R l c d N len0 Pt Iv B (i + 1) σ2 (upd H3 l (.lst (ls.map sv ++ [sv s]))) := by
  refine ⟨app_off er e3 hm, ls ++ [s], by rw [upd_same, List.map_append]; rfl, by rw [List.length_append, hlen]; rfl, fun t ht => ?_, hI⟩
  rcases List.mem_append.mp ht with ht | ht
  · exact hP t ht
  · rw [List.mem_singleton.mp ht]
    exact hs

end
end My
namespace My
open PySem PySem.Spec PyProof.Rows L2
section
variable {P : Program} {w : World} {K : PySem.W.Frag} {mg : Str → Option Value} {base : Heap}
/-! ### _law_numbers -/
abbrev N_l_numbers : List Str := ["_law_source_here", "_law_many", "_law_found", "_law_first", "_law_turn", "_law_at", "_law_near"]
theorem sc_l_numbers : FnScope N_l_numbers ["_law_source_here"] (defScope s_l_numbers) := ⟨rfl, rfl, rfl, by decide +kernel, rfl, by decide +kernel, by decide +kernel⟩
-- slots: 0 _law_source_here, 1 _law_many, 2 _law_found, 3 _law_first, 4 _law_turn, 5 _law_at, 6 _law_near
/-- digits, the first one not nought -/
def num1 (u : Codes) : Prop := dig u ∧ (∃ c r, u = c :: r ∧ 49 ≤ c) ∧ u.length ≤ 30
theorem num1_num0 {u : Codes} (h : num1 u) : num0 u ∧ u ≠ [48] := by
  obtain ⟨hd, ⟨c, r, rfl, hc⟩, _⟩ := h
  refine ⟨⟨hd, by simp, .inr fun e => ?_⟩, fun e => ?_⟩
  · have : c = 48 := Option.some.inj e
    omega
  · have : c = 48 := (List.cons.inj e).1
    omega
theorem num1_is {u : Codes} (h : num1 u) : isNum u ∧ isNum (45 :: u) := by
  obtain ⟨h1, h2⟩ := num1_num0 h
  have := h.2.2
  exact ⟨⟨.inl h1, by omega⟩, ⟨.inr ⟨u, rfl, h1, h2⟩, by rw [List.length_cons]; omega⟩⟩
theorem dig_app {a b : Codes} (ha : dig a) (hb : dig b) : dig (a ++ b) := fun c hc => (List.mem_append.mp hc).elim (ha c) (hb c)
theorem dig_sub {a b : Codes} (h : ∀ c ∈ a, c ∈ b) (hb : dig b) : dig a := fun c hc => hb c (h c hc)
theorem dig_one {c : Nat} (h : 48 ≤ c ∧ c ≤ 57) : dig [c] := fun d hd => by rw [List.mem_singleton.mp hd]; exact h
theorem num1_near {u : Codes} {i d : Nat} (h : num1 u) (hi : i < u.length) (hd : 49 ≤ d ∧ d ≤ 57) : num1 (u.take i ++ [d] ++ u.drop (i + 1)) := by
  obtain ⟨hdg, ⟨c, r, rfl, hc⟩, hl⟩ := h
  refine ⟨dig_app (dig_app (dig_sub (fun _ hx => List.mem_of_mem_take hx) hdg) (dig_one (by omega))) (dig_sub (fun _ hx => List.mem_of_mem_drop hx) hdg), ?_, ?_⟩
  · cases i with
    | zero => exact ⟨d, r, rfl, by omega⟩
    | succ i => exact ⟨c, _, rfl, hc⟩
  · simp only [List.length_append, List.length_take, List.length_drop, List.length_singleton]
    omega
theorem num1_pre {u : Codes} {i : Nat} (h : num1 u) (hi : 0 < i) : num1 (u.take i) := by
  obtain ⟨hdg, ⟨c, r, rfl, hc⟩, hl⟩ := h
  refine ⟨dig_sub (fun _ hx => List.mem_of_mem_take hx) hdg, ?_, by rw [List.length_take]; omega⟩
  cases i with
  | zero => exact absurd hi (Nat.lt_irrefl _)
  | succ i => exact ⟨c, _, rfl, hc⟩
def numRow (xs : List V) : Prop := ∃ ls : List Codes, xs = ls.map sv ∧ ls.length ≤ 6 ∧ ∀ s ∈ ls, isNum s
def sp_l_numbers : Sp := drawSp (fun (_ : Unit) => 60) (fun _ a _ vs _ => vs = [.ref a]) (fun _ => lstG numRow)
def d19 : Codes := cs "123456789"
def d0129 : Codes := cs "0129"
theorem d19_ok : 0 < d19.length ∧ d19.length ≤ 100000 ∧ ∀ c ∈ d19, 49 ≤ c ∧ c ≤ 57 := by decide +kernel
theorem d0129_ok : 0 < d0129.length ∧ d0129.length ≤ 100000 ∧ ∀ c ∈ d0129, 48 ≤ c ∧ c ≤ 57 := by decide +kernel
theorem ev_d19 {R : Rel} {n m : Nat} {a : Addr} {σ : L2.St} {H : Hp} {ta : TE} (hs : HasSrc R a) (ha : EvP R n n ta σ H (is (.ref a))) (hn : n = m + 1) : EvP R n m (tCall sp_l_pick [] E0 (tCons ta (tCons (tC (.str "123456789")) tNil))) σ H (tx fun u => ∃ d, u = [d] ∧ 49 ≤ d ∧ d ≤ 57) := by
  subst hn
  exact (ev_pickS (l := d19) hs ha (ev_str (SX.S_tl _).symm) d19_ok.1 d19_ok.2.1).imp fun v H1 _ hv => by
    obtain ⟨c, rfl, hc⟩ := hv
    exact ⟨[c], rfl, c, rfl, d19_ok.2.2 c hc⟩
theorem c_l_numbers (T : Tx K mg) : Cal P w K mg base 3 "_law_numbers" ["_law_source_here"] (sp_l_numbers) := by
  have C_l_pick := c_l_pick (P := P) (w := w) (base := base) T
  have C_l_next := c_l_next (P := P) (w := w) (base := base) T
  refine T.d_l_numbers.cal sc_l_numbers (fun vs H Q E h => ?_) (fun _ _ _ _ _ _ us hl => match us, hl with | [_], _ => rfl) (fun f cdv A outer s H vs Q E hr h => ?_)
  · obtain ⟨R, a, n, x, _, _, rfl, _⟩ := h
    rfl
  · obtain ⟨R, a, n, _, hs, hj, rfl, q⟩ := h
    refine ⟨_, (pss_cons (ps_par (i := 1) (j := 2) (by rfl) sc_l_numbers.nd rfl rfl (by decide) rfl rfl (pa_cons (pe_callC C_l_pick (hr.mono (by decide)) (by rfl) (pa_cons (pv 0) (pa_cons (pe_lst (pa_cons pe_int (pa_cons pe_int (pa_cons pe_int (pa_cons pe_int (pa_cons pe_int pa_nil)))))) pa_nil))) (pa_cons (pe_lst (pa_cons pe_str pa_nil)) pa_nil)) (by rfl))
      (pss_cons (ps_set (i := 3) sc_l_numbers.nd rfl (by first | exact Or.inl rfl | exact Or.inr rfl) (pe_op (op_Add (K := K)) (pe_callC C_l_pick (hr.mono (by decide)) (by rfl) (pa_cons (pv 0) (pa_cons pe_str pa_nil))) (pe_bmK (K := K) PySem.F.plainAttrs_str PySem.F.slot_str_join PySem.F.type_str_join (mt_joinA (K := K)) pe_str (pa_cons (pe_lc (own := [("_law_turn", 4)]) (by rfl) sc_l_numbers.nd (pi_range1 (by rfl) T.b_range (pa_cons (pe_op op_sub (pv 1) pe_int) pa_nil)) (blkOk_by (own := [("_law_turn", 4)]) (N := N_l_numbers) (sc := defScope s_l_numbers) (by decide +kernel)) (fun _ _ _ _ _ => (pg_name (i := 4) sc_l_numbers.nd rfl (by first | exact Or.inl rfl | exact Or.inr rfl))) (fun _ _ _ _ _ => pts_nil) (fun _ _ _ _ _ => (pe_callC C_l_pick (hr.mono (by decide)) (by rfl) (pa_cons (pv 0) (pa_cons pe_str pa_nil))))) pa_nil))))
      (pss_cons (ps_for PassesOwn.never rfl (pi_range1 (by rfl) T.b_range (pa_cons pe_int pa_nil)) (pg_name (i := 4) sc_l_numbers.nd rfl (by first | exact Or.inl rfl | exact Or.inr rfl))
      (pss_cons (ps_set (i := 5) sc_l_numbers.nd rfl (by first | exact Or.inl rfl | exact Or.inr rfl) (pe_callC C_l_next (hr.mono (by decide)) (by rfl) (pa_cons (pv 0) (pa_cons (pe_callB (call_lenA (K := K)) (by rfl) T.b_len (by decide +kernel) (pa_cons (pv 3) pa_nil)) pa_nil))))
      (pss_cons (ps_set (i := 6) sc_l_numbers.nd rfl (by first | exact Or.inl rfl | exact Or.inr rfl) (pe_op (op_Add (K := K)) (pe_op (op_Add (K := K)) (pe_slice (sl_any (K := K)) (pv 3) po_none (po_some (pv 5))) (pe_callC C_l_pick (hr.mono (by decide)) (by rfl) (pa_cons (pv 0) (pa_cons pe_str pa_nil)))) (pe_slice (sl_any (K := K)) (pv 3) (po_some (pe_op (op_Add (K := K)) (pv 5) pe_int)) po_none)))
      (pss_cons (ps_set (i := 6) sc_l_numbers.nd rfl (by first | exact Or.inl rfl | exact Or.inr rfl) (pe_callC C_l_pick (hr.mono (by decide)) (by rfl) (pa_cons (pv 0) (pa_cons (pe_lst (pa_cons (pv 6) (pa_cons (pe_slice (sl_any (K := K)) (pv 6) po_none (po_some (pe_callB (call_max2 (by rfl)) (by rfl) T.b_max (by decide +kernel) (pa_cons pe_int (pa_cons (pv 5) pa_nil))))) (pa_cons (pe_callC C_l_pick (hr.mono (by decide)) (by rfl) (pa_cons (pv 0) (pa_cons pe_str pa_nil))) (pa_cons (pv 3) pa_nil))))) pa_nil))))
      (pss_one (ps_expr (pe_bmK (K := K) PySem.F.plainAttrs_list PySem.F.slot_list_append PySem.F.type_list_append mt_append (pv 2) (pa_cons (pe_op (op_Add (K := K)) (pe_callC C_l_pick (hr.mono (by decide)) (by rfl) (pa_cons (pv 0) (pa_cons (pe_lst (pa_cons pe_str (pa_cons pe_str (pa_cons pe_str pa_nil)))) pa_nil))) (pv 6)) pa_nil))))))))
      (pss_one (ps_ret (pv 2)))))), ?_⟩
    refine StF.run (R := R) (n := n + 60) ?_ hj
    -- how many, the list
    refine q_parN (m := n + 59) (k := n + 59) (p := nt fun i => 1 ≤ i ∧ i ≤ 30) (G := (· = [sv [48]])) ?_ (ev_lstNV (vs := [sv [48]]) (ea_cons (ev_str (by decide +kernel)) ea_nil) (by simp)) fun mv l H1 xs e1 hnew hm hl hxs => ?_
    · refine (ev_pickL (m := n + 59) (F := (· = [V.int 1, .int 2, .int 9, .int 29, .int 30])) hs (ev_var rfl) (ev_lstV (vs := [V.int 1, .int 2, .int 9, .int 29, .int 30]) (ea_cons ev_c (ea_cons ev_c (ea_cons ev_c (ea_cons ev_c (ea_cons ev_c ea_nil))))) (by decide)) (fun xs hx => by subst hx; decide)).imp fun v H1 _ hv => ?_
      obtain ⟨xs, rfl, hm⟩ := hv
      simp only [List.mem_cons, List.not_mem_nil, or_false] at hm
      rcases hm with rfl | rfl | rfl | rfl | rfl <;> exact ⟨_, rfl, by decide, by decide⟩
    · obtain ⟨many, rfl, hm0, hm1⟩ := hm
      subst hxs
      -- the first number
      refine q_asgG (m := n + 29) (G := fun v => ∃ u, v = sv u ∧ num1 u) ?_ fun v hv => ?_
      · refine (ev_addT (m := n + 58) (F := fun u => ∃ d, u = [d] ∧ 49 ≤ d ∧ d ≤ 57) (G := fun u => dig u ∧ u.length ≤ 29) (ev_d19 hs (ev_var rfl) rfl) ?_ (fun x y hx hy => by
          obtain ⟨d, rfl, _⟩ := hx
          rw [List.length_singleton]
          omega)).txImp fun u hu => ?_
        · refine (ev_join (a := []) (m := n + 58) (G := fun ls : List Codes => ls.length ≤ 29 ∧ ∀ s ∈ ls, ∃ c, s = [c] ∧ 48 ≤ c ∧ c ≤ 57) (ev_str (by decide +kernel)) ?_ ?_).imp fun v H2 _ hv => ?_
          · have hlen : (many - 1).toNat ≤ 29 := by omega
            have hcred : n + 58 = n + 29 + (29 - (many - 1).toNat) + (many - 1).toNat * 1 := by omega
            have hR := it_range1 (R := R) (n := n + 58) (m := n + 58) (σ := [some (.ref a), some (.int many), some (.ref l), none, none, none, none]) (H := H1) (ta := tOp (rI0 fun i j => V.int (i - j)) (tVar 1) (tC (.int 1))) (iv := many - 1) (ev_op2 (m := n + 58) (x := .int many) (y := .int 1) (ev_var rfl) ev_c fun H3 _ => rv_subI) (by omega)
            have hlc := ev_lcP (R := R) (H := H1) (te := tCall sp_l_pick [] E0 (tCons (tVar 0) (tCons (tC (.str "0129")) tNil))) (vs := [4]) (j := 4) (as := List.range (many - 1).toNat) (mv := fun (i : Nat) => .int (i : Int)) (m := n + 29 + (29 - (many - 1).toNat)) (n := n + 58) (σ := [some (.ref a), some (.int many), some (.ref l), none, none, none, none]) 1 (fun _ : Nat => tx fun s => ∃ c, s = [c] ∧ 48 ≤ c ∧ c ≤ 57) (by rw [List.length_range, ← hcred]; exact hR) (by rw [List.length_range]; omega) (fun x => rfl) fun R' H' i k ex hi => ?_
            · refine (hlc.fewer (by omega)).imp fun v H2 _ hv => ?_
              obtain ⟨p, xs, rfl, hp, g⟩ := hv
              obtain ⟨ls, rfl, h1, h2⟩ := paired_tx g
              rw [List.length_range] at h1
              exact ⟨p, _, rfl, hp, ls, rfl, by omega, h2⟩
            · exact (ev_pickS (l := d0129) (hs.ext (ex.pre e1)) (ev_var (v := .ref a) rfl) (ev_str (SX.S_tl _).symm) d0129_ok.1 d0129_ok.2.1).imp fun v H2 _ hv => by
                obtain ⟨c, rfl, hc⟩ := hv
                exact ⟨[c], rfl, c, rfl, d0129_ok.2.2 c hc⟩
          · intro ls hls
            have : ∀ ls : List Codes, (∀ s ∈ ls, ∃ c, s = [c] ∧ 48 ≤ c ∧ c ≤ 57) → (ls.map (·.length)).sum = ls.length := by
              intro ls
              induction ls with
              | nil => intro _; rfl
              | cons x r ih =>
                intro h
                obtain ⟨c, rfl, _⟩ := h x (List.mem_cons_self ..)
                rw [List.map_cons, List.sum_cons, ih fun s hs => h s (List.mem_cons_of_mem _ hs)]
                simp only [List.length_cons, List.length_nil]
                omega
            rw [this ls hls.2]
            have := hls.1
            simp only [List.length_nil, Nat.mul_zero]
            omega
          · obtain ⟨ls, ⟨h1, h2⟩, rfl⟩ := hv
            refine ⟨_, rfl, ?_⟩
            rw [joinL_flat]
            have : ∀ ls : List Codes, (∀ s ∈ ls, ∃ c, s = [c] ∧ 48 ≤ c ∧ c ≤ 57) → dig ls.flatten ∧ ls.flatten.length = ls.length := by
              intro ls
              induction ls with
              | nil => exact fun _ => ⟨fun c hc => by simp at hc, rfl⟩
              | cons x r ih =>
                intro h
                obtain ⟨c, rfl, hc⟩ := h x (List.mem_cons_self ..)
                obtain ⟨i1, i2⟩ := ih fun s hs => h s (List.mem_cons_of_mem _ hs)
                rw [List.flatten_cons]
                exact ⟨dig_app (dig_one hc) i1, by rw [List.length_append, i2]; simp only [List.length_cons, List.length_nil]; omega⟩
            obtain ⟨h3, h4⟩ := this ls h2
            exact ⟨h3, by omega⟩
        · obtain ⟨x, y, ⟨d, rfl, hd⟩, ⟨hy, hyl⟩, rfl⟩ := hu
          exact ⟨dig_app (dig_one (by omega)) hy, ⟨d, y, rfl, hd.1⟩, by rw [List.length_append, List.length_singleton]; omega⟩
      · obtain ⟨u, rfl, hu⟩ := hv
        have hul : 0 < u.length := by
          obtain ⟨_, ⟨c, r, rfl, _⟩, _⟩ := hu
          simp
        have hul2 := hu.2.2
        -- the loop: the list at l grows
        refine fun H2 e2 => ?_
        have hl2 : H2 l = some (.lst [sv [48]]) := (hl.st e2.2).1
        have hml : ¬ R.M l := hl.2
        refine StF.run (R := R.at l ([[48]].map sv)) (n := n + 29) ?_ ⟨e2.1, hl2⟩
        have hR2 : ItP (R.at l ([[48]].map sv)) (n + 29) (n + 4 + (((List.range 5).map fun (i : Nat) => V.int (i : Int)).length * 5)) (iRng1 (tCons (tC (.int 5)) tNil)) [some (.ref a), some (.int many), some (.ref l), some (sv u), none, none, none] H2 (((List.range 5).map fun (i : Nat) => V.int (i : Int)).map is) := by
          rw [List.map_map]
          exact it_range1 (iv := 5) ev_c (by decide)
        refine StF.seq ?_
        refine s_grow (n + 4) 5 (Pt := isNum) (fun s hs => by rw [List.mem_singleton.mp hs]; exact ⟨.inl ⟨dig_one (by decide), by simp, .inl rfl⟩, by decide⟩) hR2 (fun i σ' => ∃ y4 y5 y6, σ' = [some (.ref a), some (.int many), some (.ref l), some (sv u), y4, y5, y6]) ⟨none, none, none, rfl⟩ (fun B i w σ' H' ls er hw hI hH hlen hP => ?_) (fun σ' H' ls er hI hH hlen hP => ?_)
        · obtain ⟨y4, y5, y6, rfl⟩ := hI
          have hi : i < 5 := by
            have := (List.getElem?_eq_some_iff.mp hw).1
            simpa using this
          have hS : HasSrc (R.at l (ls.map sv)) a := hs.at hml
          have hcr : n + 4 + (((List.range 5).map fun (i : Nat) => V.int (i : Int)).length - i) * 5 = (n + 4 + (((List.range 5).map fun (i : Nat) => V.int (i : Int)).length - (i + 1)) * 5) + 5 := by
            simp only [List.length_map, List.length_range]
            omega
          rw [hcr]
          generalize hN : n + 4 + (((List.range 5).map fun (i : Nat) => V.int (i : Int)).length - (i + 1)) * 5 = N
          -- the place
          refine q_asgG (m := N + 4) (G := fun v => ∃ i, v = .int i ∧ 0 ≤ i ∧ i < (u.length : Int)) (ev_next hS (ev_var rfl) (ev_lenS (ev_var rfl) (by omega)) (by omega) (by omega)) fun v hv => ?_
          obtain ⟨at_, rfl, ha0, ha1⟩ := hv
          -- a digit exchanged
          refine q_asgG (m := N + 3) (G := fun v => ∃ u, v = sv u ∧ num1 u) ?_ fun v hv => ?_
          · refine (ev_addT (m := N + 3) (F := fun x => ∃ d, 49 ≤ d ∧ d ≤ 57 ∧ x = u.take at_.toNat ++ [d]) (G := (· = u.drop (at_.toNat + 1))) ?_ (EvP.tx (a := u.drop (at_.toNat + 1)) ?_ rfl) (fun x y hx hy => by
              obtain ⟨d, _, _, rfl⟩ := hx
              subst hy
              simp only [List.length_append, List.length_take, List.length_drop, List.length_singleton]
              omega)).txImp fun x hx => ?_
            · refine (ev_addT (m := N + 4) (F := (· = u.take at_.toNat)) (G := fun y => ∃ d, y = [d] ∧ 49 ≤ d ∧ d ≤ 57) (EvP.tx (a := u.take at_.toNat) (ev_is (ev_sl (m := N + 4) (k := N + 4) (p := is (sv u)) (ev_var rfl) eo_none (eo_some (ev_var rfl)) fun x H3 _ hx => by rw [show x = sv u from hx]; exact rs_S (by omega)) (by rw [sl_to ha0])) rfl) (ev_d19 hS (ev_var rfl) rfl) (fun x y hx hy => by
                obtain ⟨d, rfl, _⟩ := hy
                subst hx
                simp only [List.length_take, List.length_singleton]
                omega)).txImp fun x hx => ?_
              obtain ⟨x1, x2, rfl, ⟨d, rfl, hd⟩, rfl⟩ := hx
              exact ⟨d, hd.1, hd.2, rfl⟩
            · exact ev_is (ev_sl (m := N + 3) (k := N + 3) (p := is (sv u)) (ev_var rfl) (eo_some (ev_op2 (m := N + 3) (ev_var rfl) ev_c fun H3 _ => rv_addI)) eo_none fun x H3 _ hx => by rw [show x = sv u from hx]; exact rs_S (by omega)) (by rw [sl_from (by omega), show (at_ + 1).toNat = at_.toNat + 1 by omega])
            · obtain ⟨x1, x2, ⟨d, h1, h2, rfl⟩, rfl, rfl⟩ := hx
              exact num1_near hu (by omega) ⟨h1, h2⟩
          · obtain ⟨e, rfl, he⟩ := hv
            have hel := he.2.2
            refine q_asgG (m := N + 1) (G := fun v => ∃ u, v = sv u ∧ num1 u) ?_ fun v hv => ?_
            · refine (ev_pickL (m := N + 1) (F := fun xs => xs.length = 4 ∧ ∀ v ∈ xs, ∃ u, v = sv u ∧ num1 u) hS (ev_var rfl) (ev_lstR (c := 4) (ea_cons (p := tx num1) (EvP.tx (ev_var rfl) he) (ea_cons (m := N + 3) (p := tx num1) (EvP.tx (a := e.take (if at_ > 1 then at_ else 1).toNat) ?_ (num1_pre he ?_)) (ea_cons (m := N + 2) (p := tx num1) ?_ (ea_cons (p := tx num1) (EvP.tx (ev_var rfl) hu) ea_nil)))) (by decide)) (fun xs hx => by omega)).imp fun v H3 _ hv => ?_
              · exact ev_is (ev_sl (m := N + 3) (k := N + 3) (p := is (sv e)) (ev_var rfl) eo_none (eo_some (ev_max2 (m := N + 3) ev_c (ev_var rfl))) fun x H3 _ hx => by rw [show x = sv e from hx]; exact rs_S (by omega)) (by rw [sl_to (by split <;> omega)])
              · split <;> omega
              · exact (ev_d19 hS (ev_var rfl) rfl).txImp fun x hx => by
                  obtain ⟨d, rfl, h1, h2⟩ := hx
                  exact ⟨dig_one (by omega), ⟨d, [], rfl, h1⟩, by simp⟩
              · obtain ⟨xs, hx, hm⟩ := hv
                exact hx.2 v hm
            · obtain ⟨e2, rfl, he2⟩ := hv
              refine s_appA (m := N) (q := tx isNum) rfl ?_ (by rw [List.length_map, hlen]; simp only [List.length_singleton]; omega) fun v H3 e3 hv => ?_
              · refine (ev_addT (m := N) (F := fun x => x = [] ∨ x = [45]) (G := (· = e2)) ?_ (EvP.tx (ev_var rfl) rfl) (fun x y hx hy => by
                  have := he2.2.2
                  subst hy
                  rcases hx with rfl | rfl <;> simp <;> omega)).txImp fun x hx => ?_
                · refine (ev_pickL (m := N) (F := (· = [sv [], sv [], sv [45]])) hS (ev_var rfl) (ev_lstV (vs := [sv [], sv [], sv [45]]) (ea_cons (ev_str (by decide +kernel)) (ea_cons (ev_str (by decide +kernel)) (ea_cons (ev_str (by decide +kernel)) ea_nil))) (by simp)) (fun xs hx => by subst hx; simp)).imp fun v H3 _ hv => ?_
                  obtain ⟨xs, rfl, hm⟩ := hv
                  simp only [List.mem_cons, List.not_mem_nil, or_false] at hm
                  rcases hm with rfl | rfl | rfl
                  · exact ⟨[], rfl, .inl rfl⟩
                  · exact ⟨[], rfl, .inl rfl⟩
                  · exact ⟨[45], rfl, .inr rfl⟩
                · obtain ⟨x1, x2, h1, rfl, rfl⟩ := hx
                  rcases h1 with rfl | rfl
                  · exact (num1_is he2).1
                  · exact (num1_is he2).2
              · obtain ⟨s, rfl, hs2⟩ := hv
                exact grow_end (Iv := fun (_ : Nat) σ' => ∃ y4 y5 y6, σ' = [some (.ref a), some (.int many), some (.ref l), some (sv u), y4, y5, y6]) er (by rw [hN]; exact e3) hml hlen hP hs2 ⟨some w, _, _, rfl⟩
        · obtain ⟨y4, y5, y6, rfl⟩ := hI
          refine StF.run (R := R.at l (ls.map sv)) (n := n + 4) ?_ ⟨er.1.1, hH⟩
          refine s_ret (m := n + 4) (p := is (.ref l)) (ev_var rfl) fun v H3 e3 hv => ?_
          have hv : v = .ref l := hv
          subst hv
          have e5 : (R.off l).ok (n + 4) H2 H3 := ⟨⟨e3.1.1, _, e3.1.2⟩, er.2.trans e3.2⟩
          refine q _ H3 (off_back (R.trans e1 e2) hnew e5 (by omega)) ⟨l, _, rfl, ⟨e3.1.2, hml⟩, ls, rfl, ?_, hP⟩
          rw [hlen]
          decide
/-! ### _law_strings -/
abbrev N_l_strings : List Str := ["_law_source_here", "_law_first", "_law_found", "_law_turn", "_law_at", "_law_near"]
theorem sc_l_strings : FnScope N_l_strings ["_law_source_here"] (defScope s_l_strings) := ⟨rfl, rfl, rfl, by decide +kernel, rfl, by decide +kernel, by decide +kernel⟩
-- slots: 0 _law_source_here, 1 _law_first, 2 _law_found, 3 _law_turn, 4 _law_at, 5 _law_near
def txtRow (xs : List V) : Prop := ∃ ls : List Codes, xs = ls.map sv ∧ ls.length ≤ 6 ∧ ∀ s ∈ ls, prn s ∧ s.length ≤ 1000
def sp_l_strings : Sp := drawSp (fun (_ : Unit) => 180) (fun _ a _ vs _ => vs = [.ref a]) (fun _ => lstG txtRow)
theorem c_l_strings (T : Tx K mg) : Cal P w K mg base 4 "_law_strings" ["_law_source_here"] (sp_l_strings) := by
  have C_l_string := c_l_string (P := P) (w := w) (base := base) T
  have C_l_pick := c_l_pick (P := P) (w := w) (base := base) T
  have C_l_turned := c_l_turned (P := P) (w := w) (base := base) T
  have C_l_next := c_l_next (P := P) (w := w) (base := base) T
  refine T.d_l_strings.cal sc_l_strings (fun vs H Q E h => ?_) (fun _ _ _ _ _ _ us hl => match us, hl with | [_], _ => rfl) (fun f cdv A outer s H vs Q E hr h => ?_)
  · obtain ⟨R, a, n, x, _, _, rfl, _⟩ := h
    rfl
  · obtain ⟨R, a, n, _, hs, hj, rfl, q⟩ := h
    refine ⟨_, (pss_cons (ps_set (i := 1) sc_l_strings.nd rfl (by first | exact Or.inl rfl | exact Or.inr rfl) (pe_callC C_l_string (hr.mono (by decide)) (by rfl) (pa_cons (pv 0) (pa_cons (pe_callC C_l_pick (hr.mono (by decide)) (by rfl) (pa_cons (pv 0) (pa_cons (pe_lst (pa_cons pe_int (pa_cons pe_int pa_nil))) pa_nil))) pa_nil))))
      (pss_cons (ps_set (i := 2) sc_l_strings.nd rfl (by first | exact Or.inl rfl | exact Or.inr rfl) (pe_lst (pa_cons (pv 1) (pa_cons (pe_callC C_l_turned (hr.mono (by decide)) (by rfl) (pa_cons (pv 0) (pa_cons (pv 1) pa_nil))) pa_nil))))
      (pss_cons (ps_for PassesOwn.never rfl (pi_range1 (by rfl) T.b_range (pa_cons pe_int pa_nil)) (pg_name (i := 3) sc_l_strings.nd rfl (by first | exact Or.inl rfl | exact Or.inr rfl))
      (pss_cons (ps_set (i := 4) sc_l_strings.nd rfl (by first | exact Or.inl rfl | exact Or.inr rfl) (pe_callC C_l_next (hr.mono (by decide)) (by rfl) (pa_cons (pv 0) (pa_cons (pe_callB (call_lenA (K := K)) (by rfl) T.b_len (by decide +kernel) (pa_cons (pv 1) pa_nil)) pa_nil))))
      (pss_cons (ps_set (i := 5) sc_l_strings.nd rfl (by first | exact Or.inl rfl | exact Or.inr rfl) (pe_op (op_Add (K := K)) (pe_op (op_Add (K := K)) (pe_slice (sl_any (K := K)) (pv 1) po_none (po_some (pv 4))) (pe_callC C_l_pick (hr.mono (by decide)) (by rfl) (pa_cons (pv 0) (pa_cons (pe_lst (pa_cons pe_str (pa_cons pe_str (pa_cons pe_str (pa_cons pe_str (pa_cons pe_str (pa_cons pe_str pa_nil))))))) pa_nil)))) (pe_slice (sl_any (K := K)) (pv 1) (po_some (pe_op (op_Add (K := K)) (pv 4) pe_int)) po_none)))
      (pss_one (ps_expr (pe_bmK (K := K) PySem.F.plainAttrs_list PySem.F.slot_list_append PySem.F.type_list_append mt_append (pv 2) (pa_cons (pe_callC C_l_pick (hr.mono (by decide)) (by rfl) (pa_cons (pv 0) (pa_cons (pe_lst (pa_cons (pv 5) (pa_cons (pe_op (op_Add (K := K)) (pe_slice (sl_any (K := K)) (pv 1) po_none (po_some (pv 4))) pe_str) (pa_cons (pe_op (op_Add (K := K)) (pv 5) pe_str) pa_nil)))) pa_nil))) pa_nil)))))))
      (pss_one (ps_ret (pv 2)))))), ?_⟩
    refine StF.run (R := R) (n := n + 180) ?_ hj
    -- the first text
    refine q_asgG (m := n + 120) (G := fun v => ∃ s, v = sv s ∧ prn s ∧ 0 < s.length ∧ s.length ≤ 50) ?_ fun v hv => ?_
    · refine ev_drawX (cost := fun (most : Nat) => most + 3) (post := fun most => tx fun s => prn s ∧ inky s ∧ 0 < s.length ∧ s.length ≤ most) (m := n + 179) hs (ea_cons (p := is (.ref a)) (ev_var rfl) (ea_cons (p := sat fun v => ∃ xs, xs = [V.int 5, .int 50] ∧ v ∈ xs) (ev_pickL (F := (· = [V.int 5, .int 50])) hs (ev_var rfl) (ev_lstV (vs := [V.int 5, .int 50]) (ea_cons ev_c (ea_cons ev_c ea_nil)) (by decide)) (fun xs hx => by subst hx; decide)) ea_nil)) fun vs H1 e hv => ?_
      obtain ⟨v, w, rfl, hv1, xs, rfl, hm⟩ := two hv
      have hv1 : v = .ref a := hv1
      subst hv1
      simp only [List.mem_cons, List.not_mem_nil, or_false] at hm
      rcases hm with rfl | rfl
      · exact ⟨5, by omega, ⟨rfl, by decide, by decide⟩, fun v H' ⟨s, e, h1, _, h3, h4⟩ => ⟨s, e, h1, h3, by omega⟩⟩
      · exact ⟨50, by omega, ⟨rfl, by decide, by decide⟩, fun v H' ⟨s, e, h1, _, h3, h4⟩ => ⟨s, e, h1, h3, by omega⟩⟩
    · obtain ⟨u, rfl, hp, hu0, hu1⟩ := hv
      -- it and it otherwise written
      refine q_asgN (m := n + 16) (G := fun xs => ∃ ls : List Codes, xs = ls.map sv ∧ ls.length = 2 ∧ ∀ s ∈ ls, prn s ∧ s.length ≤ 1000) (ev_lstN (ps := [is (sv u), tx fun s => prn s ∧ s.length ≤ 60]) (ea_cons (ev_var rfl) (ea_cons (ev_drawX (cost := fun (s : Codes) => 2 * s.length + 2) (post := fun s => tx fun u => prn u ∧ plainL u = plainL s ∧ s.length ≤ u.length ∧ u.length ≤ 60) (m := n + 120) hs (ea_cons (p := is (.ref a)) (ev_var rfl) (ea_cons (p := is (sv u)) (ev_var rfl) ea_nil)) fun vs H1 e hv => ?_) ea_nil)) (by simp) fun vs H1 hv => ?_) fun l H1 xs e1 hnew hl hxs => ?_
      · obtain ⟨v, w, rfl, hv1, hw1⟩ := two hv
        exact ⟨u, by omega, ⟨by rw [show v = _ from hv1, show w = _ from hw1], hp, by omega⟩, fun v H' ⟨s, e, h1, _, _, h4⟩ => ⟨s, e, h1, h4⟩⟩
      · obtain ⟨v, w, rfl, hv1, s, rfl, h1, h2⟩ := two hv
        refine ⟨[u, s], by rw [show v = _ from hv1]; rfl, rfl, fun t ht => ?_⟩
        rcases List.mem_cons.mp ht with rfl | ht
        · exact ⟨hp, by omega⟩
        · rw [List.mem_singleton.mp ht]
          exact ⟨h1, by omega⟩
      · obtain ⟨ls0, rfl, hlen0, hP0⟩ := hxs
        have hml : ¬ R.M l := hl.2
        refine fun H2 e2 => ?_
        have hl2 : H2 l = some (.lst (ls0.map sv)) := (hl.st e2.2).1
        refine StF.run (R := R.at l (ls0.map sv)) (n := n + 16) ?_ ⟨e2.1, hl2⟩
        have hR2 : ItP (R.at l (ls0.map sv)) (n + 16) (n + 4 + (((List.range 4).map fun (i : Nat) => V.int (i : Int)).length * 3)) (iRng1 (tCons (tC (.int 4)) tNil)) [some (.ref a), some (sv u), some (.ref l), none, none, none] H2 (((List.range 4).map fun (i : Nat) => V.int (i : Int)).map is) := by
          rw [List.map_map]
          exact it_range1 (iv := 4) ev_c (by decide)
        refine StF.seq ?_
        refine s_grow (n + 4) 3 (Pt := fun s => prn s ∧ s.length ≤ 1000) hP0 hR2 (fun i σ' => ∃ y3 y4 y5, σ' = [some (.ref a), some (sv u), some (.ref l), y3, y4, y5]) ⟨none, none, none, rfl⟩ (fun B i w σ' H' ls er hw hI hH hlen hP => ?_) (fun σ' H' ls er hI hH hlen hP => ?_)
        · obtain ⟨y3, y4, y5, rfl⟩ := hI
          have hi : i < 4 := by
            have := (List.getElem?_eq_some_iff.mp hw).1
            simpa using this
          have hS : HasSrc (R.at l (ls.map sv)) a := hs.at hml
          have hcr : n + 4 + (((List.range 4).map fun (i : Nat) => V.int (i : Int)).length - i) * 3 = (n + 4 + (((List.range 4).map fun (i : Nat) => V.int (i : Int)).length - (i + 1)) * 3) + 3 := by
            simp only [List.length_map, List.length_range]
            omega
          rw [hcr]
          generalize hN : n + 4 + (((List.range 4).map fun (i : Nat) => V.int (i : Int)).length - (i + 1)) * 3 = N
          refine q_asgG (m := N + 2) (G := fun v => ∃ i, v = .int i ∧ 0 ≤ i ∧ i < (u.length : Int)) (ev_next hS (ev_var rfl) (ev_lenS (ev_var rfl) (by omega)) (by omega) (by omega)) fun v hv => ?_
          obtain ⟨at_, rfl, ha0, ha1⟩ := hv
          have hpre : ∀ {m : Nat} {σ2 : L2.St} {H3 : Hp}, σ2[1]? = some (some (sv u)) → σ2[4]? = some (some (.int at_)) → EvP (R.at l (ls.map sv)) m m (tSl (rSlU K) (tVar 1) tNoPart (tPart (tVar 4))) σ2 H3 (is (sv (u.take at_.toNat))) := fun {m} {σ2} {H3} h1 h4 => ev_is (ev_sl (m := m) (k := m) (p := is (sv u)) (ev_var h1) eo_none (eo_some (ev_var h4)) fun x H3 _ hx => by rw [show x = sv u from hx]; exact rs_S (by omega)) (by rw [sl_to ha0])
          have ht : (u.take at_.toNat).length ≤ 50 := by rw [List.length_take]; omega
          refine q_asgG (m := N + 1) (G := fun v => ∃ s, v = sv s ∧ prn s ∧ s.length ≤ 60) ?_ fun v hv => ?_
          · refine (ev_addT (m := N + 1) (F := fun x => prn x ∧ x.length ≤ at_.toNat + 3) (G := (· = u.drop (at_.toNat + 1))) ?_ (EvP.tx (a := u.drop (at_.toNat + 1)) ?_ rfl) (fun x y hx hy => by
              subst hy
              rw [List.length_drop]
              omega)).txImp fun x hx => ?_
            · refine (ev_addT (m := N + 2) (F := (· = u.take at_.toNat)) (G := fun y => prn y ∧ y.length ≤ 3) (EvP.tx (hpre rfl rfl) rfl) ?_ (fun x y hx hy => by subst hx; omega)).txImp fun x hx => ?_
              · refine (ev_pickL (m := N + 1) (F := (· = [sv [97], sv [66], sv [120], sv [126], sv [33], sv [32, 32, 97]])) hS (ev_var rfl) (ev_lstV (vs := [sv [97], sv [66], sv [120], sv [126], sv [33], sv [32, 32, 97]]) (ea_cons (ev_str (by decide +kernel)) (ea_cons (ev_str (by decide +kernel)) (ea_cons (ev_str (by decide +kernel)) (ea_cons (ev_str (by decide +kernel)) (ea_cons (ev_str (by decide +kernel)) (ea_cons (ev_str (by decide +kernel)) ea_nil)))))) (by simp)) (fun xs hx => by subst hx; simp)).imp fun v H3 _ hv => ?_
                obtain ⟨xs, rfl, hm⟩ := hv
                simp only [List.mem_cons, List.not_mem_nil, or_false] at hm
                have hone : ∀ c : Nat, 32 ≤ c ∧ c < 127 → prn [c] := fun c hc d hd => by rw [List.mem_singleton.mp hd]; exact hc
                rcases hm with rfl | rfl | rfl | rfl | rfl | rfl
                · exact ⟨_, rfl, hone 97 (by decide), by decide⟩
                · exact ⟨_, rfl, hone 66 (by decide), by decide⟩
                · exact ⟨_, rfl, hone 120 (by decide), by decide⟩
                · exact ⟨_, rfl, hone 126 (by decide), by decide⟩
                · exact ⟨_, rfl, hone 33 (by decide), by decide⟩
                · exact ⟨_, rfl, prn_app (a := [32]) (hone 32 (by decide)) (prn_app (a := [32]) (hone 32 (by decide)) (hone 97 (by decide))), by decide⟩
              · obtain ⟨x1, x2, rfl, ⟨h1, h2⟩, rfl⟩ := hx
                exact ⟨prn_app (prn_take hp) h1, by rw [List.length_append, List.length_take]; omega⟩
            · exact ev_is (ev_sl (m := N + 1) (k := N + 1) (p := is (sv u)) (ev_var rfl) (eo_some (ev_op2 (m := N + 1) (ev_var rfl) ev_c fun H3 _ => rv_addI)) eo_none fun x H3 _ hx => by rw [show x = sv u from hx]; exact rs_S (by omega)) (by rw [sl_from (by omega), show (at_ + 1).toNat = at_.toNat + 1 by omega])
            · obtain ⟨x1, x2, ⟨h1, h2⟩, rfl, rfl⟩ := hx
              exact ⟨prn_app h1 (prn_drop hp), by rw [List.length_append, List.length_drop]; omega⟩
          · obtain ⟨e, rfl, he, hel⟩ := hv
            refine s_appA (m := N) (q := tx fun s => prn s ∧ s.length ≤ 1000) rfl ?_ (by rw [List.length_map, hlen]; omega) fun v H3 e3 hv => ?_
            · have hb1 : prn [98] := fun d hd => by rw [List.mem_singleton.mp hd]; decide
              have hz1 : prn [122] := fun d hd => by rw [List.mem_singleton.mp hd]; decide
              refine (ev_pickL (m := N) (F := (· = [sv e, sv (u.take at_.toNat ++ [98]), sv (e ++ [122])])) hS (ev_var rfl) (ev_lstV (vs := [sv e, sv (u.take at_.toNat ++ [98]), sv (e ++ [122])]) (ea_cons (ev_var rfl) (ea_cons (ev_op2 (m := N + 1) (hpre rfl rfl) (ev_str (l := [98]) (by decide +kernel)) fun H3 _ => rv_addS (by rw [List.length_singleton]; omega)) (ea_cons (ev_op2 (m := N + 1) (ev_var rfl) (ev_str (l := [122]) (by decide +kernel)) fun H3 _ => rv_addS (by rw [List.length_singleton]; omega)) ea_nil))) (by simp)) (fun xs hx => by subst hx; simp)).imp fun v H3 _ hv => ?_
              obtain ⟨xs, rfl, hm⟩ := hv
              simp only [List.mem_cons, List.not_mem_nil, or_false] at hm
              rcases hm with rfl | rfl | rfl
              · exact ⟨_, rfl, he, by omega⟩
              · exact ⟨_, rfl, prn_app (prn_take hp) hb1, by rw [List.length_append, List.length_singleton]; omega⟩
              · exact ⟨_, rfl, prn_app he hz1, by rw [List.length_append, List.length_singleton]; omega⟩
            · obtain ⟨s, rfl, hs2⟩ := hv
              exact grow_end (Iv := fun (_ : Nat) σ' => ∃ y3 y4 y5, σ' = [some (.ref a), some (sv u), some (.ref l), y3, y4, y5]) er (by rw [hN]; exact e3) hml hlen hP hs2 ⟨some w, _, _, rfl⟩
        · obtain ⟨y3, y4, y5, rfl⟩ := hI
          refine StF.run (R := R.at l (ls.map sv)) (n := n + 4) ?_ ⟨er.1.1, hH⟩
          refine s_ret (m := n + 4) (p := is (.ref l)) (ev_var rfl) fun v H3 e3 hv => ?_
          have hv : v = .ref l := hv
          subst hv
          have e5 : (R.off l).ok (n + 4) H2 H3 := ⟨⟨e3.1.1, _, e3.1.2⟩, er.2.trans e3.2⟩
          refine q _ H3 (off_back (R.trans e1 e2) hnew e5 (by omega)) ⟨l, _, rfl, ⟨e3.1.2, hml⟩, ls, rfl, ?_, hP⟩
          rw [hlen, hlen0]
          decide

end
end My
namespace My
open PySem PySem.Spec PyProof.Rows L2
section
variable {P : Program} {w : World} {K : PySem.W.Frag} {mg : Str → Option Value} {base : Heap}
/-! ### the law -/
abbrev N_law : List Str := ["_law_script", "_law_source_here", "_law_some", "_law_form", "_law_row", "_law_one", "_law_two", "_law_found"]
theorem sc_law : FnScope N_law ["_law_script"] (defScope s_law) := ⟨rfl, rfl, rfl, by decide +kernel, rfl, by decide +kernel, by decide +kernel⟩
-- slots: 0 _law_script, 1 _law_source_here, 2 _law_some, 3 _law_form, 4 _law_row, 5 _law_one, 6 _law_two, 7 _law_found
theorem okRow0 {xs : List V} (h : numRow xs) : ∃ ls : List Codes, xs = ls.map sv ∧ ∀ s ∈ ls, okV 0 s := by
  obtain ⟨ls, e, _, h⟩ := h
  exact ⟨ls, e, fun s hs => by unfold okV; rw [if_pos rfl]; exact h s hs⟩
theorem okRow1 {xs : List V} {k : Nat} (hk : k ≠ 0) (h : txtRow xs) : ∃ ls : List Codes, xs = ls.map sv ∧ ∀ s ∈ ls, okV k s := by
  obtain ⟨ls, e, _, h⟩ := h
  exact ⟨ls, e, fun s hs => by unfold okV; rw [if_neg hk]; exact h s hs⟩
/-- a row of values, each good for the syntax -/
def rowP (k : Nat) : SP := lstG fun xs => ∃ ls : List Codes, xs = ls.map sv ∧ ∀ s ∈ ls, okV k s
def pairP (K : PySem.W.Frag) (k : Nat) : SP := tupP K id [is (sv (synC k)), rowP k]
theorem c_law (T : Tx K mg) {f : Addr} {fd : FuncData} (F : FunD K "law" "law" (defArgs s_law) (defBody s_law) (defScope s_law) [] [] f fd) : FnOk P w K mg base CX0 7 f fd ["_law_script"] (sp_law K) := by
  have C_l_rounds := c_l_rounds (P := P) (w := w) (base := base) T
  have C_l_strings := c_l_strings (P := P) (w := w) (base := base) T
  have C_l_numbers := c_l_numbers (P := P) (w := w) (base := base) T
  have C_is_less := c_is_less (P := P) (w := w) (base := base) T
  have C_l_is_less := c_l_is_less (P := P) (w := w) (base := base) T
  refine FunD_fn F sc_law (fun vs H Q E h => ?_) (fun cdv A outer s H vs Q E hr h => ?_)
  · obtain ⟨a, ns, rfl, _⟩ := h
    rfl
  · obtain ⟨a, ns, rfl, hS, hlen, q⟩ := h
    refine ⟨_, (pss_cons (ps_for PassesOwn.never rfl (pi_any (K := K) (pe_callC C_l_rounds (hr.mono (by decide)) (by rfl) (pa_cons (pv 0) (pa_cons pe_int pa_nil)))) (pg_name (i := 1) sc_law.nd rfl (by first | exact Or.inl rfl | exact Or.inr rfl))
      (pss_cons (ps_set (i := 2) sc_law.nd rfl (by first | exact Or.inl rfl | exact Or.inr rfl) (pe_callC C_l_strings (hr.mono (by decide)) (by rfl) (pa_cons (pv 1) pa_nil)))
      (pss_one (ps_for PassesOwn.never rfl (pi_any (K := K) (pe_tup (pa_cons (pe_tup (pa_cons pe_str (pa_cons (pe_callC C_l_numbers (hr.mono (by decide)) (by rfl) (pa_cons (pv 1) pa_nil)) pa_nil))) (pa_cons (pe_tup (pa_cons pe_str (pa_cons (pv 2) pa_nil))) (pa_cons (pe_tup (pa_cons pe_str (pa_cons (pv 2) pa_nil))) pa_nil))))) (pg_tupK (K := K) rfl (pgs_cons (pg_name (i := 3) sc_law.nd rfl (by first | exact Or.inl rfl | exact Or.inr rfl)) (pgs_cons (pg_name (i := 4) sc_law.nd rfl (by first | exact Or.inl rfl | exact Or.inr rfl)) pgs_nil)))
      (pss_one (ps_for PassesOwn.never rfl (pi_any (K := K) (pv 4)) (pg_name (i := 5) sc_law.nd rfl (by first | exact Or.inl rfl | exact Or.inr rfl))
      (pss_one (ps_for PassesOwn.never rfl (pi_any (K := K) (pv 4)) (pg_name (i := 6) sc_law.nd rfl (by first | exact Or.inl rfl | exact Or.inr rfl))
      (pss_cons (ps_set (i := 7) sc_law.nd rfl (by first | exact Or.inl rfl | exact Or.inr rfl) (pe_callC C_is_less (hr.mono (by decide)) (by rfl) (pa_cons (pv 3) (pa_cons (pv 5) (pa_cons (pv 6) pa_nil)))))
      (pss_one (ps_if (PW.pt (pw_or (pt_not (pt_val (pe_callB (call_isiA (K := K)) (by rfl) T.b_isinstance (by decide +kernel) (pa_cons (pv 7) (pa_cons (pe_bty (T := "bool") (by rfl) T.b_bool (by decide +kernel)) pa_nil))))) (pw_or1 (pt_cmpR (cm_NotEq (K := K) hr.units) (pv 7) (pe_callC C_l_is_less (hr.mono (by decide)) (by rfl) (pa_cons (pv 3) (pa_cons (pv 5) (pa_cons (pv 6) pa_nil)))) (nomark _))))) (pss_one (ps_ret pe_bl)) pss_nil)))))))))))
      (pss_one (ps_ret (pe_and (pe_cmpR cm_Is (pe_callC C_is_less (hr.mono (by decide)) (by rfl) (pa_cons pe_str (pa_cons pe_str (pa_cons pe_str pa_nil)))) pe_bl (nomark _)) (pe_one (pe_cmpR cm_Is (pe_callC C_is_less (hr.mono (by decide)) (by rfl) (pa_cons pe_str (pa_cons pe_str (pa_cons pe_str pa_nil)))) pe_bl (nomark _))))))), ?_⟩
    refine StF.run (R := exR) (n := 0) ?_ trivial
    have hless : ∀ {R : Rel} {n m : Nat} {σ : L2.St} {H : Hp} {ta tb tc : TE} {k : Nat} {x y : Codes}, EvP R n n ta σ H (is (sv (synC k))) → EvP R n n tb σ H (is (sv x)) → EvP R n n tc σ H (is (sv y)) → k ≤ 2 → okV k x → okV k y → EvP R n n (tCall sp_is_less [] E0 (tCons ta (tCons tb (tCons tc tNil)))) σ H (is (.bl (lessV k x y))) := fun {R n m σ H ta tb tc k x y} ha hb hc hk hx hy =>
      ev_pure (post := fun x : Nat × Codes × Codes => is (.bl (lessV x.1 x.2.1 x.2.2))) (k, x, y) (ea_cons ha (ea_cons hb (ea_cons hc ea_nil))) fun vs H1 _ hv => by
        obtain ⟨v1, v2, v3, rfl, h1, h2, h3⟩ := three hv
        exact ⟨by rw [show v1 = _ from h1, show v2 = _ from h2, show v3 = _ from h3], hk, hx, hy⟩
    have hlless : ∀ {R : Rel} {n m : Nat} {σ : L2.St} {H : Hp} {ta tb tc : TE} {k : Nat} {x y : Codes}, EvP R n n ta σ H (is (sv (synC k))) → EvP R n n tb σ H (is (sv x)) → EvP R n n tc σ H (is (sv y)) → k ≤ 2 → okV k x → okV k y → EvP R n n (tCall sp_l_is_less [] E0 (tCons ta (tCons tb (tCons tc tNil)))) σ H (is (.bl (lessV k x y))) := fun {R n m σ H ta tb tc k x y} ha hb hc hk hx hy =>
      ev_pure (post := fun x : Nat × Codes × Codes => is (.bl (lessV x.1 x.2.1 x.2.2))) (k, x, y) (ea_cons ha (ea_cons hb (ea_cons hc ea_nil))) fun vs H1 _ hv => by
        obtain ⟨v1, v2, v3, rfl, h1, h2, h3⟩ := three hv
        exact ⟨by rw [show v1 = _ from h1, show v2 = _ from h2, show v3 = _ from h3], hk, hx, hy⟩
    refine StF.seq ?_
    refine for_bindL (m := 0) (n2 := 0) (p := SP.ex fun m : { m : Nat // m ≤ 64 } => lstP (fun _ : Nat => lstG isSrc3) (List.range m.1)) ?_ fun v H1 e1 hv => ?_
    · refine ev_pure (post := fun _ : List Int × Nat => SP.ex fun m : { m : Nat // m ≤ 64 } => lstP (fun _ : Nat => lstG isSrc3) (List.range m.1)) (ns, 5) (ea_cons (ev_var (v := .ref a) rfl) (ea_cons (ev_c (v := .int 5)) ea_nil)) fun vs H1 e hv => ?_
      obtain ⟨v1, v2, rfl, h1, h2⟩ := two hv
      refine ⟨a, by rw [show v1 = _ from h1, show v2 = _ from h2]; rfl, ?_, hlen, by show 5 ≤ 30; decide⟩
      exact (SqM.ofL hS fun z => z).st e.2
    · obtain ⟨⟨m, hm⟩, L, xs, rfl, hL, hpr⟩ := hv
      obtain ⟨ps, rfl, hpl, hsrc⟩ := srcs_of hpr
      rw [List.length_range] at hpl
      have hpl : ps.length = m := hpl
      refine ⟨allR ps, 0 + (ps.map V.ref).length * 1000, allR_start hsrc (by rw [List.length_map, hpl]; have : m ≤ 64 := hm; omega), ?_⟩
      have hLn := src_not hL.1 hsrc
      refine s_forC (fun i => 0 + ((ps.map V.ref).length - i) * 1000) (vs := ps.map V.ref) (it_list0 ev_c (.of hL.1 hLn)) (fun i σ' => ∃ y1 y2 y3 y4 y5 y6 y7, σ' = [some (.ref a), y1, y2, y3, y4, y5, y6, y7]) ⟨none, none, none, none, none, none, none, rfl⟩ (fun B i w σ' eb hw hI => ?_) fun σ' H' e' hI => ?_
      · obtain ⟨y1, y2, y3, y4, y5, y6, y7, rfl⟩ := hI
        rw [List.getElem?_map] at hw
        obtain ⟨p, hp, rfl⟩ := Option.map_eq_some_iff.mp hw
        have hlt := (List.getElem?_eq_some_iff.mp hp).1
        have hpm := List.mem_of_getElem? hp
        have hs : HasSrc (allR ps) p := allSrc hpm
        have hcr : 0 + ((ps.map V.ref).length - i) * 1000 = (0 + ((ps.map V.ref).length - (i + 1)) * 1000 + 760) + 60 + 180 := by
          rw [List.length_map]
          omega
        rw [hcr]
        generalize hN : 0 + ((ps.map V.ref).length - (i + 1)) * 1000 = N
        -- some = _law_strings(source)
        refine q_asg (m := N + 760 + 60) (p := lstG txtRow) (ev_draw (cost := fun _ : Unit => 180) (post := fun _ => lstG txtRow) () hs (ea_cons (p := is (.ref p)) (ev_var rfl) ea_nil) fun vs H2 _ hv => ?_) fun tv H2 e2 htx => ?_
        · obtain ⟨v, rfl, hv1⟩ := one hv
          rw [show v = _ from hv1]
        -- the three rows
        have hsyn0 : (Str.ofString "integer") = SX.S (synC 0) := by decide +kernel
        have hsyn1 : (Str.ofString "text") = SX.S (synC 1) := by decide +kernel
        have hsyn2 : (Str.ofString "exact") = SX.S (synC 2) := by decide +kernel
        have hrow : ∀ {k : Nat} {σ2 : L2.St} {n : Nat}, k ≠ 0 → σ2[2]? = some (some tv) → EvP (allR ps) n n (tVar 2) σ2 H2 (rowP k) := fun {k σ2 n} hk h2 => (ev_varP h2 htx).imp fun v H3 _ ⟨l, xs, e, h, g⟩ => ⟨l, xs, e, h, okRow1 hk g⟩
        refine (s_for (R := allR ps) (n := N + 760 + 60) (c := fun _ => N) (it_tupP (K := K) (pe := id) (ys := [pairP K 0, pairP K 1, pairP K 2]) (ev_tup (ps := [pairP K 0, pairP K 1, pairP K 2]) (ea_cons (m := N) (ev_tup (ps := [is (sv (synC 0)), rowP 0]) (ea_cons (ev_str hsyn0) (ea_cons (m := N) ?_ ea_nil)) (by simp)) (ea_cons (ev_tup (ps := [is (sv (synC 1)), rowP 1]) (ea_cons (ev_str hsyn1) (ea_cons (hrow (by decide) rfl) ea_nil)) (by simp)) (ea_cons (ev_tup (ps := [is (sv (synC 2)), rowP 2]) (ea_cons (ev_str hsyn2) (ea_cons (hrow (by decide) rfl) ea_nil)) (by simp)) ea_nil))) (by simp))) (fun B2 i2 σ2 H3 => (allR ps).ok N B2 H3 ∧ ∃ y3 y4 y5 y6 y7, σ2 = [some (.ref a), some (.ref p), some tv, y3, y4, y5, y6, y7]) (fun _ _ _ _ h => h.1) (fun B2 eb2 => ⟨(allR ps).refl eb2, y3, y4, y5, y6, y7, rfl⟩) (fun B2 i2 yy σ2 H3 x H4 eb2 hyy hP2 hx4 hyx => ?_) fun B2 σ2 H3 eb2 hP2 => ?_)
        · -- the numbers' row
          refine ((ev_draw (cost := fun _ : Unit => 60) (post := fun _ => lstG numRow) (m := N + 760) () hs (ea_cons (p := is (.ref p)) (ev_var rfl) ea_nil) fun vs H3 _ hv => ?_).imp (q := rowP 0) fun v H3 _ ⟨l, xs, e, h, g⟩ => ⟨l, xs, e, h, okRow0 g⟩).fewer (by omega)
          obtain ⟨v, rfl, hv1⟩ := one hv
          rw [show v = _ from hv1]
        · -- one pair: form, row
          obtain ⟨er2, z3, z4, z5, z6, z7, rfl⟩ := hP2
          obtain ⟨k, hk, rfl⟩ : ∃ k, k ≤ 2 ∧ yy = pairP K k := by
            rw [List.map_id] at hyy
            have := List.mem_of_getElem? hyy
            simp only [List.mem_cons, List.not_mem_nil, or_false] at this
            rcases this with rfl | rfl | rfl
            · exact ⟨0, by decide, rfl⟩
            · exact ⟨1, by decide, rfl⟩
            · exact ⟨2, by decide, rfl⟩
          obtain ⟨tp, ws, rfl, htp, hws⟩ := hyx
          obtain ⟨fv, rv, rfl, hfv, lr, xr, rfl, hlr, lsr, rfl, hok⟩ := two hws
          have hfv : fv = sv (synC k) := hfv
          subst hfv
          have e4 : (allR ps).ok N B2 H4 := (allR ps).trans er2 ((allR ps).ex er2.1 hx4)
          refine ⟨tp, _, rfl, htp.sq, rfl, _, _, rfl, _, _, rfl, rfl, ?_⟩
          -- the two loops
          refine StF.run (R := allR ps) (n := N) ?_ e4.1
          refine s_forV (vs := lsr.map sv) (it_list (ev_var rfl) hlr.sqm) (fun _ σ3 => ∃ y5 y6 y7, σ3 = [some (.ref a), some (.ref p), some tv, some (sv (synC k)), some (.ref lr), y5, y6, y7]) ⟨_, _, _, rfl⟩ (fun B5 i5 w5 σ5 eb5 hw5 hI5 => ?_) fun σ5 H5 e5 hI5 => ?_
          · obtain ⟨u5, u6, u7, rfl⟩ := hI5
            rw [List.getElem?_map] at hw5
            obtain ⟨x5, hx5, rfl⟩ := Option.map_eq_some_iff.mp hw5
            have ok5 := hok x5 (List.mem_of_getElem? hx5)
            refine s_forV (vs := lsr.map sv) (it_list (ev_var rfl) (hlr.st eb5.2).sqm) (fun _ σ3 => ∃ y6 y7, σ3 = [some (.ref a), some (.ref p), some tv, some (sv (synC k)), some (.ref lr), some (sv x5), y6, y7]) ⟨_, _, rfl⟩ (fun B6 i6 w6 σ6 eb6 hw6 hI6 => ?_) fun σ6 H6 e6 hI6 => ?_
            · obtain ⟨v6, v7, rfl⟩ := hI6
              rw [List.getElem?_map] at hw6
              obtain ⟨x6, hx6, rfl⟩ := Option.map_eq_some_iff.mp hw6
              have ok6 := hok x6 (List.mem_of_getElem? hx6)
              refine q_asgV (m := N) (v := .bl (lessV k x5 x6)) (hless (m := 0) (ev_var rfl) (ev_var rfl) (ev_var rfl) hk ok5 ok6) ?_
              refine s_when (m := N) (G := (· = false)) ?_ (fun z => nomatch z) (fun _ H7 e7 => ⟨e7, _, _, rfl⟩)
              refine et_is (et_or (a := false) (b := false) (et_is (et_not (et_B (ev_isBool (ev_var (v := .bl (lessV k x5 x6)) rfl) ev_c))) rfl) fun _ => ?_) rfl
              refine et_is (et_test (ev_op2 (m := N) (x := .bl (lessV k x5 x6)) (y := .bl (lessV k x5 x6)) (ev_var rfl) (hlless (m := 0) (ev_var rfl) (ev_var rfl) (ev_var rfl) hk ok5 ok6) fun H7 _ => rv_neB)) (by simp)
            · obtain ⟨v6, v7, rfl⟩ := hI6
              exact ⟨e6, _, _, _, rfl⟩
          · obtain ⟨u5, u6, u7, rfl⟩ := hI5
            exact ⟨(allR ps).trans e4 e5, _, _, _, _, _, rfl⟩
        · obtain ⟨er2, z3, z4, z5, z6, z7, rfl⟩ := hP2
          refine ⟨?_, _, _, _, _, _, _, _, rfl⟩
          exact (allR ps).trans e2 ((allR ps).trans eb2 er2)
      · obtain ⟨y1, y2, y3, y4, y5, y6, y7, rfl⟩ := hI
        dsimp only
        refine StF.run (R := exR) (n := 0) ?_ trivial
        refine s_ret (m := 0) (p := is (.bl true)) ?_ fun v H2 _ hv => by
          rw [show v = .bl true from hv]
          exact q H2
        have hA : prn [65] ∧ ([65] : Codes).length ≤ 1000 := ⟨fun d hd => by rw [List.mem_singleton.mp hd]; decide, by decide⟩
        have hb : prn [98] ∧ ([98] : Codes).length ≤ 1000 := ⟨fun d hd => by rw [List.mem_singleton.mp hd]; decide, by decide⟩
        have ha : prn [97] ∧ ([97] : Codes).length ≤ 1000 := ⟨fun d hd => by rw [List.mem_singleton.mp hd]; decide, by decide⟩
        have hB : prn [66] ∧ ([66] : Codes).length ≤ 1000 := ⟨fun d hd => by rw [List.mem_singleton.mp hd]; decide, by decide⟩
        have e1 : lessV 1 [65] [98] = true := by decide +kernel
        have e2 : lessV 2 [97] [66] = false := by decide +kernel
        refine ev_is (ev_andV (a := true) (b := true) (ev_is (ev_op2 (m := 0) (x := .bl (lessV 1 [65] [98])) (y := .bl true) (hless (m := 0) (ev_str (by decide +kernel)) (ev_str (by decide +kernel)) (ev_str (by decide +kernel)) (by decide) hA hb) ev_c fun H7 _ => rv_isB) (by rw [e1]; rfl)) fun _ => ev_is (ev_op2 (m := 0) (x := .bl (lessV 2 [97] [66])) (y := .bl false) (hless (m := 0) (ev_str (by decide +kernel)) (ev_str (by decide +kernel)) (ev_str (by decide +kernel)) (by decide) ha hB) ev_c fun H7 _ => rv_isB) (by rw [e2]; rfl)) rfl

end
end My
namespace My
open PySem PySem.Spec PyProof.Rows L2
-- plain
theorem law_end {P : Program} {w : World} {K : PySem.W.Frag} {h : Heap} {mg : Str → Option Value} {fa : Addr} (T : Tx K mg) (KX : K.In h) (hmg : mg ("law" : Str) = some (.ref fa)) :
    ∃ (K : PySem.W.Frag) (fd : FuncData) (sp : Sp), K.In h ∧ (∀ (s : Shared) (u : Value), BindsTo s fd ⟨[u], []⟩ [("_law_script", u)]) ∧
      (∀ (H : Hp) (a : Addr) (ns : List Int), ns.length ≤ 63 → Only H → SqL K H a (ns.map V.int) → sp [.ref a] H (fun v _ => v = .bl true) fun _ _ _ => False) ∧
      ∀ base : Heap, K.In base → base.Ns mainGlobals mg → FnOk P w K mg base CX0 7 fa fd ["_law_script"] sp := by
  obtain ⟨f, fd, F, hm⟩ := T.d_law.ex
  rw [hmg] at hm
  cases hm
  have b := FunD.bindsA (ps := ["_law_script"]) F fun _ _ _ _ _ _ us hl => match us, hl with | [_], _ => rfl
  refine ⟨K, fd, sp_law K, KX, fun s v => b s [v] rfl, fun H a ns hl _ hS => ⟨a, ns, rfl, hS, hl, fun _ => rfl⟩, fun base _ _ => c_law (P := P) (w := w) (base := base) T F⟩

end My
namespace My
open PySem PySem.Spec PyProof.Rows L2
def mkD (x : Str) (i : Nat) : He.DefD := ⟨(x, none), x, x, defArgs (topS i), defBody (topS i), defScope (topS i), [], []⟩
def hfn0 : List He.DefD := [mkD "is_word" 8, mkD "is_value" 9, mkD "plain_text" 10, mkD "is_plain" 11, mkD "escaped" 12, mkD "value_at" 13, mkD "read_name" 14, mkD "leaf_text" 15, mkD "normal_leaf" 16, mkD "normal_name" 17, mkD "normal" 19, mkD "is_less" 20, mkD "_law_source" 22, mkD "_law_next" 23, mkD "_law_pick" 24, mkD "_law_rounds" 25, mkD "_law_low" 26, mkD "_law_string" 27, mkD "_law_turned" 28, mkD "_law_number_is_less" 29, mkD "_law_is_less" 30, mkD "_law_numbers" 31, mkD "_law_strings" 32, mkD "law" 33]
def hfn : List He.DefD := hfn0
def hfa0 : List He.Fa := [(.glo "is_word"), (.glo "is_value"), (.glo "plain_text"), (.glo "is_plain"), (.glo "escaped"), (.glo "value_at"), (.glo "read_name"), (.glo "leaf_text"), (.glo "normal_leaf"), (.glo "normal_name"), (.glo "normal"), (.glo "is_less"), (.glo "_law_source"), (.glo "_law_next"), (.glo "_law_pick"), (.glo "_law_rounds"), (.glo "_law_low"), (.glo "_law_string"), (.glo "_law_turned"), (.glo "_law_number_is_less"), (.glo "_law_is_less"), (.glo "_law_numbers"), (.glo "_law_strings"), (.glo "law"), (.free "len"), (.free "isinstance"), (.free "str"), (.free "all"), (.free "enumerate"), (.free "tuple")]
def hfa1 : List He.Fa := [(.free "sorted"), (.free "int"), (.free "sum"), (.free "list"), (.free "range"), (.free "max"), (.free "bool"), (.int "MAX_WORD" 12), (.str "LETTERS" "abcdefghijklmnopqrstuvwxyz"), (.int "MAX_TEXT" 60), (.str "ESCAPED" ",+=\\"), (.str "BACKSLASH" "\\"), (.int "MAX_PAIRS" 4), (.int "MAX_LEAVES" 12)]
def hfa : List He.Fa := hfa0 ++ hfa1
def hloose0 : List Str := ["LETTERS", "MAX_WORD", "MAX_TEXT", "MAX_PAIRS", "MAX_LEAVES", "BACKSLASH", "ESCAPED", "is_word", "is_value", "plain_text", "is_plain", "escaped", "value_at", "read_name", "leaf_text", "normal_leaf", "normal_name", "normal", "is_less", "_law_source", "_law_next", "_law_pick", "_law_rounds", "_law_low", "_law_string", "_law_turned", "_law_number_is_less", "_law_is_less", "_law_numbers", "_law_strings"]
def hloose : List Str := hloose0
def htup (K : PySem.W.Frag) : Bool := true
abbrev hR : PySem.W.OpenRow := PySem.W.OpenLaw.row PySem.Challenge.rw_dirservice_k04_orders
abbrev hhk : PySem.W.Hook := He.hookX 4 hfa hfn [] [] htup
def hob (s : PySem.W.SharedT) : He.AlX := He.obsX 4 hfa hfn [] [] htup (HandSHeadRun.getT s)
theorem hob_eq (s : PySem.W.SharedT) : hob s = hhk.obs s.abs := He.obsX_eq (HandSHeadRun.getT_eq s)
theorem hrun (w : World) : HandSHeadRun.RunEq hR (PySem.W.view hR.prog [33]) hhk hob 2640 hloose w := by
  intro os
  kernel_rfl
theorem tx_of {w : World} {K : PySem.W.Frag} {h : Heap} {mg : Str → Option Value} (X : K.In h) (G : h.Ns mainGlobals mg) (c : He.SaysX hfa hfn [] [] htup w h K) : Tx K mg where
  d_is_word := by
    obtain ⟨fd, F⟩ := c.t.d.def_ 0 (d := mkD "is_word" 8) rfl
    exact ⟨_, fd, F, He.glo_ok X G (c.t.d.fact 0 (f := .glo "is_word") rfl)⟩
  d_is_value := by
    obtain ⟨fd, F⟩ := c.t.d.def_ 1 (d := mkD "is_value" 9) rfl
    exact ⟨_, fd, F, He.glo_ok X G (c.t.d.fact 1 (f := .glo "is_value") rfl)⟩
  d_plain_text := by
    obtain ⟨fd, F⟩ := c.t.d.def_ 2 (d := mkD "plain_text" 10) rfl
    exact ⟨_, fd, F, He.glo_ok X G (c.t.d.fact 2 (f := .glo "plain_text") rfl)⟩
  d_is_plain := by
    obtain ⟨fd, F⟩ := c.t.d.def_ 3 (d := mkD "is_plain" 11) rfl
    exact ⟨_, fd, F, He.glo_ok X G (c.t.d.fact 3 (f := .glo "is_plain") rfl)⟩
  d_escaped := by
    obtain ⟨fd, F⟩ := c.t.d.def_ 4 (d := mkD "escaped" 12) rfl
    exact ⟨_, fd, F, He.glo_ok X G (c.t.d.fact 4 (f := .glo "escaped") rfl)⟩
  d_value_at := by
    obtain ⟨fd, F⟩ := c.t.d.def_ 5 (d := mkD "value_at" 13) rfl
    exact ⟨_, fd, F, He.glo_ok X G (c.t.d.fact 5 (f := .glo "value_at") rfl)⟩
  d_read_name := by
    obtain ⟨fd, F⟩ := c.t.d.def_ 6 (d := mkD "read_name" 14) rfl
    exact ⟨_, fd, F, He.glo_ok X G (c.t.d.fact 6 (f := .glo "read_name") rfl)⟩
  d_leaf_text := by
    obtain ⟨fd, F⟩ := c.t.d.def_ 7 (d := mkD "leaf_text" 15) rfl
    exact ⟨_, fd, F, He.glo_ok X G (c.t.d.fact 7 (f := .glo "leaf_text") rfl)⟩
  d_normal_leaf := by
    obtain ⟨fd, F⟩ := c.t.d.def_ 8 (d := mkD "normal_leaf" 16) rfl
    exact ⟨_, fd, F, He.glo_ok X G (c.t.d.fact 8 (f := .glo "normal_leaf") rfl)⟩
  d_normal_name := by
    obtain ⟨fd, F⟩ := c.t.d.def_ 9 (d := mkD "normal_name" 17) rfl
    exact ⟨_, fd, F, He.glo_ok X G (c.t.d.fact 9 (f := .glo "normal_name") rfl)⟩
  d_normal := by
    obtain ⟨fd, F⟩ := c.t.d.def_ 10 (d := mkD "normal" 19) rfl
    exact ⟨_, fd, F, He.glo_ok X G (c.t.d.fact 10 (f := .glo "normal") rfl)⟩
  d_is_less := by
    obtain ⟨fd, F⟩ := c.t.d.def_ 11 (d := mkD "is_less" 20) rfl
    exact ⟨_, fd, F, He.glo_ok X G (c.t.d.fact 11 (f := .glo "is_less") rfl)⟩
  d_l_source := by
    obtain ⟨fd, F⟩ := c.t.d.def_ 12 (d := mkD "_law_source" 22) rfl
    exact ⟨_, fd, F, He.glo_ok X G (c.t.d.fact 12 (f := .glo "_law_source") rfl)⟩
  d_l_next := by
    obtain ⟨fd, F⟩ := c.t.d.def_ 13 (d := mkD "_law_next" 23) rfl
    exact ⟨_, fd, F, He.glo_ok X G (c.t.d.fact 13 (f := .glo "_law_next") rfl)⟩
  d_l_pick := by
    obtain ⟨fd, F⟩ := c.t.d.def_ 14 (d := mkD "_law_pick" 24) rfl
    exact ⟨_, fd, F, He.glo_ok X G (c.t.d.fact 14 (f := .glo "_law_pick") rfl)⟩
  d_l_rounds := by
    obtain ⟨fd, F⟩ := c.t.d.def_ 15 (d := mkD "_law_rounds" 25) rfl
    exact ⟨_, fd, F, He.glo_ok X G (c.t.d.fact 15 (f := .glo "_law_rounds") rfl)⟩
  d_l_low := by
    obtain ⟨fd, F⟩ := c.t.d.def_ 16 (d := mkD "_law_low" 26) rfl
    exact ⟨_, fd, F, He.glo_ok X G (c.t.d.fact 16 (f := .glo "_law_low") rfl)⟩
  d_l_string := by
    obtain ⟨fd, F⟩ := c.t.d.def_ 17 (d := mkD "_law_string" 27) rfl
    exact ⟨_, fd, F, He.glo_ok X G (c.t.d.fact 17 (f := .glo "_law_string") rfl)⟩
  d_l_turned := by
    obtain ⟨fd, F⟩ := c.t.d.def_ 18 (d := mkD "_law_turned" 28) rfl
    exact ⟨_, fd, F, He.glo_ok X G (c.t.d.fact 18 (f := .glo "_law_turned") rfl)⟩
  d_l_number_is_less := by
    obtain ⟨fd, F⟩ := c.t.d.def_ 19 (d := mkD "_law_number_is_less" 29) rfl
    exact ⟨_, fd, F, He.glo_ok X G (c.t.d.fact 19 (f := .glo "_law_number_is_less") rfl)⟩
  d_l_is_less := by
    obtain ⟨fd, F⟩ := c.t.d.def_ 20 (d := mkD "_law_is_less" 30) rfl
    exact ⟨_, fd, F, He.glo_ok X G (c.t.d.fact 20 (f := .glo "_law_is_less") rfl)⟩
  d_l_numbers := by
    obtain ⟨fd, F⟩ := c.t.d.def_ 21 (d := mkD "_law_numbers" 31) rfl
    exact ⟨_, fd, F, He.glo_ok X G (c.t.d.fact 21 (f := .glo "_law_numbers") rfl)⟩
  d_l_strings := by
    obtain ⟨fd, F⟩ := c.t.d.def_ 22 (d := mkD "_law_strings" 32) rfl
    exact ⟨_, fd, F, He.glo_ok X G (c.t.d.fact 22 (f := .glo "_law_strings") rfl)⟩
  d_law := by
    obtain ⟨fd, F⟩ := c.t.d.def_ 23 (d := mkD "law" 33) rfl
    exact ⟨_, fd, F, He.glo_ok X G (c.t.d.fact 23 (f := .glo "law") rfl)⟩
  b_len := He.free_ok X G (c.t.d.fact 24 (f := .free "len") rfl)
  b_isinstance := He.free_ok X G (c.t.d.fact 25 (f := .free "isinstance") rfl)
  b_str := He.free_ok X G (c.t.d.fact 26 (f := .free "str") rfl)
  b_all := He.free_ok X G (c.t.d.fact 27 (f := .free "all") rfl)
  b_enumerate := He.free_ok X G (c.t.d.fact 28 (f := .free "enumerate") rfl)
  b_tuple := He.free_ok X G (c.t.d.fact 29 (f := .free "tuple") rfl)
  b_sorted := He.free_ok X G (c.t.d.fact 30 (f := .free "sorted") rfl)
  b_int := He.free_ok X G (c.t.d.fact 31 (f := .free "int") rfl)
  b_sum := He.free_ok X G (c.t.d.fact 32 (f := .free "sum") rfl)
  b_list := He.free_ok X G (c.t.d.fact 33 (f := .free "list") rfl)
  b_range := He.free_ok X G (c.t.d.fact 34 (f := .free "range") rfl)
  b_max := He.free_ok X G (c.t.d.fact 35 (f := .free "max") rfl)
  b_bool := He.free_ok X G (c.t.d.fact 36 (f := .free "bool") rfl)
  g_MAX_WORD := He.int_ok X G (c.t.d.fact 37 (f := .int "MAX_WORD" 12) rfl)
  g_LETTERS := He.str_ok X G (c.t.d.fact 38 (f := .str "LETTERS" "abcdefghijklmnopqrstuvwxyz") rfl)
  g_MAX_TEXT := He.int_ok X G (c.t.d.fact 39 (f := .int "MAX_TEXT" 60) rfl)
  g_ESCAPED := He.str_ok X G (c.t.d.fact 40 (f := .str "ESCAPED" ",+=\\") rfl)
  g_BACKSLASH := He.str_ok X G (c.t.d.fact 41 (f := .str "BACKSLASH" "\\") rfl)
  g_MAX_PAIRS := He.int_ok X G (c.t.d.fact 42 (f := .int "MAX_PAIRS" 4) rfl)
  g_MAX_LEAVES := He.int_ok X G (c.t.d.fact 43 (f := .int "MAX_LEAVES" 12) rfl)
end My
open PySem PySem.W PySem.Calls PyProof.Rows
set_option maxHeartbeats 0 in
theorem PySem.Challenge.cw_dirservice_k04_orders_holds : PySem.Challenge.rw_dirservice_k04_orders.Holds := by
  w_on; o_law
  refine HandSHeadRun.head_any (r := OpenLaw.row PySem.Challenge.rw_dirservice_k04_orders) (q := view (OpenLaw.row PySem.Challenge.rw_dirservice_k04_orders).prog [33]) (H := My.hhk) (ob := My.hob) (M := 2640) (loose := My.hloose) (d := HandSHeadRun.topDef (OpenLaw.row PySem.Challenge.rw_dirservice_k04_orders).prog 33) (kwd := []) My.hob_eq
    (by kernel_rfl) (fun s => by kernel_rfl) My.hrun (by kernel_rfl) (by kernel_rfl) (by kernel_rfl) (by rfl) (by first | assumption | decide +kernel) (by decide +kernel) ⟨rfl, rfl, rfl, rfl, rfl, by decide +kernel⟩ ?hw ?hc
  case hw => w_witness2
  case hc =>
    refine L2.walk_ofE (l := PySem.Challenge.rw_dirservice_k04_orders) (n := 63) (k := 7) (x := "_law_script") (CX := L2.CX0) rfl (by decide) (by kernel_rfl) ⟨rfl, by decide, by decide⟩ ?F (fun _ _ _ _ z => z)
    intro w mg fa h Y G hmg0
    obtain ⟨K, KX, c⟩ := Y
    have hmg : mg ("law" : PySem.Str) = some (.ref fa) := by
      have e : (HandSHeadRun.topDef (OpenLaw.row PySem.Challenge.rw_dirservice_k04_orders).prog 33).name = ("law" : PySem.Str) := by kernel_rfl
      rw [← e]
      exact hmg0
    have T := My.tx_of KX G c
    exact My.law_end (P := (PySem.Challenge.rw_dirservice_k04_orders).prog) (w := w) T KX hmg
